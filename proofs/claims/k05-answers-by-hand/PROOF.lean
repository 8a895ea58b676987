import PyProof.Rows.All
import HandS.ForMost
import HandS.ForExc
import HandS.Deep
import HandS.IsInst
import HandS.Walk
import HandS.Zip
import HandS.Wide
import HandS.TupAny
import HandS.Style
import HandS.EndBits
import HandS.TupSets
import HandS.SortInts
import HandS.Defaults
import HandS.Head0
import HandS.Head1
import HandS.Head2
import HandS.HeadEnd
import HandS.HeadHook1
import HandS.HeadHook2
import KE.KStateDown
import HandS.TryOnly
import HandS.ExcIs
import HandS.ExcCtx
import HandS.Hot
import HandS.HotCalls
import HandS.HeadHook4
import HandS.CallLocal
import HandS.Dict
import HandS.ExcBuiltin
import HandS.Conv
import HandS.SetFor
import HandS.Strs
import KE.GoesEnum
import KE.DataAny
import PySem.Challenge.RW_onemeet_k05_answers_by_hand
set_option Elab.async false
set_option linter.all false
set_option maxRecDepth 100000
/-! DI1: deep values, what represents them in the heap, the states of a def's body, the lifted judgements. -/
namespace DI
open PySem PySem.Spec PyProof.Rows L2
inductive D where
  | non | bl (b : Bool) | int (i : Int) | str (s : Str) | tup (xs : List D) | lst (xs : List D)
  | fn (a : Addr) | ty (n : String) | dic | scr (K : PySem.W.Frag) (xs : List D) | ins (C : Addr) (ns : List Str) (xs : List D)
inductive M (α : Type) where
  | und | ex (c : Addr) | ok (a : α)
def M.bind {α β : Type} (m : M α) (f : α → M β) : M β := match m with
  | .und => .und
  | .ex c => .ex c
  | .ok a => f a
def M.map {α β : Type} (f : α → β) (m : M α) : M β := m.bind fun a => .ok (f a)
inductive Sl where
  | v (d : D) | o (ds : List D) | oi (C : Addr) (n : Str) (ds : List D)
def Sl.isO : Sl → Prop
  | .v _ => False | .o _ => True | .oi _ _ _ => True
def Sl.items : Sl → List D
  | .v _ => [] | .o ds => ds | .oi _ _ ds => ds
def Sl.put : Sl → List D → Sl
  | .v d, _ => .v d | .o _, es => .o es | .oi C n _, es => .oi C n es
def Sl.toD : Sl → D
  | .v d => d | .o ds => .lst ds | .oi C n ds => .ins C [n] [.lst ds]
abbrev Ev := List (Option Sl)
abbrev Fn := List D → M D
/-- the script: frozen, or a list of the module's own -/
def ScrL (K : PySem.W.Frag) (H : Hp) (a : Addr) (xs : List V) : Prop :=
  (∃ o, H a = some (.frz o (.lst xs))) ∨ ∃ (o : Obj) (its : Array Value) (n : Nat), K.lookup a = some o ∧ o.cls = .type "list" ∧ o.dict = none ∧ o.data = .seq its n ∧ its.size ≤ sizeLine ∧ Vals xs its.toList
mutual
def Rep (Ω : Addr → Prop) (H : Hp) : D → V → Prop
  | .non, v => v = .non
  | .bl b, v => v = .bl b
  | .int i, v => v = .int i
  | .str s, v => v = .str s
  | .tup ds, v => ∃ a vs, v = .ref a ∧ H a = some (.tup vs) ∧ Reps Ω H ds vs
  | .lst ds, v => ∃ a vs, v = .ref a ∧ ¬ Ω a ∧ H a = some (.lst vs) ∧ Reps Ω H ds vs
  | .fn f, v => v = .ref f
  | .ty n, v => v = .ty n
  | .dic, v => ∃ a, v = .ref a ∧ H a = some (.dK [])
  | .scr K ds, v => ∃ a vs, v = .ref a ∧ ScrL K H a vs ∧ Reps Ω H ds vs
  | .ins C ns ds, v => ∃ a dx vs, v = .ref a ∧ H a = some (.ins C dx (ns.zip vs)) ∧ ns.length = ds.length ∧ Reps Ω H ds vs
def Reps (Ω : Addr → Prop) (H : Hp) : List D → List V → Prop
  | [], vs => vs = []
  | d :: ds, vs => ∃ v r, vs = v :: r ∧ Rep Ω H d v ∧ Reps Ω H ds r
end
structure HLe (Ω : Addr → Prop) (H : Hp) (Ω' : Addr → Prop) (H' : Hp) : Prop where
  tup : ∀ a xs, H a = some (.tup xs) → H' a = some (.tup xs)
  lst : ∀ a xs, ¬ Ω a → H a = some (.lst xs) → ¬ Ω' a ∧ H' a = some (.lst xs)
  dic : ∀ a, H a = some (.dK []) → H' a = some (.dK [])
  scr : ∀ a o xs, H a = some (.frz o (.lst xs)) → H' a = some (.frz o (.lst xs))
  ins : ∀ a C dx fs, H a = some (.ins C dx fs) → H' a = some (.ins C dx fs)
section
variable {Ω Ω' : Addr → Prop} {H H' : Hp}
mutual
theorem Rep.le (h : HLe Ω H Ω' H') : ∀ (d : D) (v : V), Rep Ω H d v → Rep Ω' H' d v
  | .non, v, r => by simpa only [Rep] using r
  | .bl b, v, r => by simpa only [Rep] using r
  | .int i, v, r => by simpa only [Rep] using r
  | .str s, v, r => by simpa only [Rep] using r
  | .tup ds, v, r => by
    simp only [Rep] at r ⊢
    obtain ⟨a, vs, e, q, rs⟩ := r
    exact ⟨a, vs, e, h.tup _ _ q, Reps.le h ds vs rs⟩
  | .lst ds, v, r => by
    simp only [Rep] at r ⊢
    obtain ⟨a, vs, e, n, q, rs⟩ := r
    exact ⟨a, vs, e, (h.lst _ _ n q).1, (h.lst _ _ n q).2, Reps.le h ds vs rs⟩
  | .fn f, v, r => by simpa only [Rep] using r
  | .ty n, v, r => by simpa only [Rep] using r
  | .dic, v, r => by
    simp only [Rep] at r ⊢
    obtain ⟨a, e, q⟩ := r
    exact ⟨a, e, h.dic _ q⟩
  | .scr K ds, v, r => by
    simp only [Rep] at r ⊢
    obtain ⟨a, vs, e, q, rs⟩ := r
    refine ⟨a, vs, e, ?_, Reps.le h ds vs rs⟩
    rcases q with ⟨o, q⟩ | q
    · exact .inl ⟨o, h.scr _ _ _ q⟩
    · exact .inr q
  | .ins C ns ds, v, r => by
    simp only [Rep] at r ⊢
    obtain ⟨a, dx, vs, e, q, l, rs⟩ := r
    exact ⟨a, dx, vs, e, h.ins _ _ _ _ q, l, Reps.le h ds vs rs⟩
theorem Reps.le (h : HLe Ω H Ω' H') : ∀ (ds : List D) (vs : List V), Reps Ω H ds vs → Reps Ω' H' ds vs
  | [], vs, r => by simpa only [Reps] using r
  | d :: ds, vs, r => by
    simp only [Reps] at r ⊢
    obtain ⟨v, t, e, r1, r2⟩ := r
    exact ⟨v, t, e, Rep.le h d v r1, Reps.le h ds t r2⟩
end
theorem HLe.same (s : Same H H') (h : ∀ a, Ω' a → Ω a) : HLe Ω H Ω' H' :=
  ⟨fun _ _ r => s _ _ r, fun _ _ n r => ⟨fun z => n (h _ z), s _ _ r⟩, fun _ e => s _ _ e, fun _ _ _ e => s _ _ e, fun _ _ _ _ e => s _ _ e⟩
def ad (p : Addr) (Ω : Addr → Prop) : Addr → Prop := fun a => a = p ∨ Ω a
theorem HLe.fresh (s : Same H H') {p : Addr} (hp : H p = none) : HLe Ω H (ad p Ω) H' :=
  ⟨fun _ _ r => s _ _ r, fun a _ n r => ⟨fun z => by
    rcases z with z | z
    · subst z; rw [hp] at r; cases r
    · exact n z, s _ _ r⟩, fun _ e => s _ _ e, fun _ _ _ e => s _ _ e, fun _ _ _ _ e => s _ _ e⟩
theorem HLe.write {p : Addr} {xs ys : List V} (hΩ : Ω p) (hp : H p = some (.lst xs)) : HLe Ω H Ω (upd H p (.lst ys)) :=
  ⟨fun a us r => by rw [upd_ne (ne_of r hp (by intro z; cases z))]; exact r,
   fun a zs n r => ⟨n, by rw [upd_ne (show a ≠ p from fun z => by subst z; exact n hΩ)]; exact r⟩,
   fun a e => by rw [upd_ne (ne_of e hp (by intro z; cases z))]; exact e,
   fun a o us e => by rw [upd_ne (ne_of e hp (by intro z; cases z))]; exact e,
   fun a C dx fs e => by rw [upd_ne (ne_of e hp (by intro z; cases z))]; exact e⟩
theorem HLe.sub (h : ∀ a, Ω' a → Ω a) : HLe Ω H Ω' H := .same (Same.refl H) h
theorem HLe.trans {Ω2 : Addr → Prop} {H2 : Hp} (x : HLe Ω H Ω' H') (y : HLe Ω' H' Ω2 H2) : HLe Ω H Ω2 H2 :=
  ⟨fun _ _ r => y.tup _ _ (x.tup _ _ r), fun a xs n r => y.lst a xs (x.lst a xs n r).1 (x.lst a xs n r).2, fun _ e => y.dic _ (x.dic _ e), fun _ _ _ e => y.scr _ _ _ (x.scr _ _ _ e), fun _ _ _ _ e => y.ins _ _ _ _ (x.ins _ _ _ _ e)⟩
/-! data without a list within -/
mutual
def D.flat : D → Bool
  | .non => true | .bl _ => true | .int _ => true | .str _ => true
  | .tup ds => flats ds
  | .lst _ => false | .fn _ => true | .ty _ => true | .dic => true | .scr _ _ => false
  | .ins _ _ ds => flats ds
def flats : List D → Bool
  | [] => true
  | d :: ds => d.flat && flats ds
end
mutual
theorem Rep.flat : ∀ (d : D) (v : V), d.flat = true → Rep Ω H d v → Rep Ω' H d v
  | .non, v, f, r => by simpa only [Rep] using r
  | .bl b, v, f, r => by simpa only [Rep] using r
  | .int i, v, f, r => by simpa only [Rep] using r
  | .str s, v, f, r => by simpa only [Rep] using r
  | .tup ds, v, f, r => by
    simp only [Rep] at r ⊢
    simp only [D.flat] at f
    obtain ⟨a, vs, e, q, rs⟩ := r
    exact ⟨a, vs, e, q, Reps.flat ds vs f rs⟩
  | .lst ds, v, f, r => by simp only [D.flat] at f; cases f
  | .fn g, v, f, r => by simpa only [Rep] using r
  | .ty n, v, f, r => by simpa only [Rep] using r
  | .dic, v, f, r => by simpa only [Rep] using r
  | .scr _ ds, v, f, r => by simp only [D.flat] at f; cases f
  | .ins C ns ds, v, f, r => by
    simp only [Rep] at r ⊢
    simp only [D.flat] at f
    obtain ⟨a, dx, vs, e, q, l, rs⟩ := r
    exact ⟨a, dx, vs, e, q, l, Reps.flat ds vs f rs⟩
theorem Reps.flat : ∀ (ds : List D) (vs : List V), flats ds = true → Reps Ω H ds vs → Reps Ω' H ds vs
  | [], vs, f, r => by simpa only [Reps] using r
  | d :: ds, vs, f, r => by
    simp only [Reps] at r ⊢
    simp only [flats, Bool.and_eq_true] at f
    obtain ⟨v, t, e, r1, r2⟩ := r
    exact ⟨v, t, e, Rep.flat d v f.1 r1, Reps.flat ds t f.2 r2⟩
end
theorem Reps.length : ∀ {ds : List D} {vs : List V}, Reps Ω H ds vs → ds.length = vs.length
  | [], vs, r => by simp only [Reps] at r; subst r; rfl
  | d :: ds, vs, r => by
    simp only [Reps] at r
    obtain ⟨v, t, e, _, r2⟩ := r
    subst e
    rw [List.length_cons, List.length_cons, Reps.length r2]
theorem Reps.get : ∀ {ds : List D} {vs : List V} {i : Nat} {d : D}, Reps Ω H ds vs → ds[i]? = some d → ∃ v, vs[i]? = some v ∧ Rep Ω H d v
  | [], vs, i, d, r, e => by simp at e
  | d :: ds, vs, 0, x, r, e => by
    simp only [Reps] at r
    obtain ⟨v, t, e', r1, _⟩ := r
    subst e'
    have q : d = x := Option.some.inj e
    subst q
    exact ⟨v, rfl, r1⟩
  | d :: ds, vs, i + 1, x, r, e => by
    simp only [Reps] at r
    obtain ⟨v, t, e', _, r2⟩ := r
    subst e'
    obtain ⟨u, h1, h2⟩ := Reps.get (i := i) (d := x) r2 e
    exact ⟨u, h1, h2⟩
theorem Reps.getV {ds : List D} {vs : List V} {i : Nat} {v : V} (r : Reps Ω H ds vs) (e : vs[i]? = some v) : ∃ d, ds[i]? = some d ∧ Rep Ω H d v := by
  have hi : i < ds.length := by
    rw [r.length]
    exact (List.getElem?_eq_some_iff.mp e).1
  obtain ⟨u, h1, h2⟩ := r.get (List.getElem?_eq_getElem hi)
  rw [h1] at e
  cases e
  exact ⟨_, List.getElem?_eq_getElem hi, h2⟩
theorem Reps.cons {d : D} {v : V} {ds : List D} {vs : List V} (a : Rep Ω H d v) (b : Reps Ω H ds vs) : Reps Ω H (d :: ds) (v :: vs) := by
  simp only [Reps]
  exact ⟨v, vs, rfl, a, b⟩
theorem Reps.nil : Reps Ω H [] [] := by simp only [Reps]
theorem Reps.append : ∀ {ds es : List D} {vs us : List V}, Reps Ω H ds vs → Reps Ω H es us → Reps Ω H (ds ++ es) (vs ++ us)
  | [], es, vs, us, r, s => by
    simp only [Reps] at r
    subst r
    exact s
  | d :: ds, es, vs, us, r, s => by
    simp only [Reps] at r
    obtain ⟨v, t, e, r1, r2⟩ := r
    subst e
    exact Reps.cons r1 (Reps.append r2 s)
theorem Reps.of_get : ∀ {ds : List D} {vs : List V}, ds.length = vs.length → (∀ (i : Nat) (d : D) (v : V), ds[i]? = some d → vs[i]? = some v → Rep Ω H d v) → Reps Ω H ds vs
  | [], [], _, _ => Reps.nil
  | [], _ :: _, h, _ => by simp at h
  | _ :: _, [], h, _ => by simp at h
  | d :: ds, v :: vs, h, k => Reps.cons (k 0 d v rfl rfl) (Reps.of_get (by simpa using h) fun i a b e1 e2 => k (i + 1) a b e1 e2)
theorem Reps.take : ∀ {ds : List D} {vs : List V} (n : Nat), Reps Ω H ds vs → Reps Ω H (ds.take n) (vs.take n)
  | ds, vs, 0, r => by rw [List.take_zero, List.take_zero]; exact Reps.nil
  | [], vs, n + 1, r => by
    simp only [Reps] at r
    subst r
    rw [List.take_nil, List.take_nil]
    exact Reps.nil
  | d :: ds, vs, n + 1, r => by
    simp only [Reps] at r
    obtain ⟨v, t, e, r1, r2⟩ := r
    subst e
    rw [List.take_succ_cons, List.take_succ_cons]
    exact Reps.cons r1 (Reps.take n r2)
theorem Reps.drop : ∀ {ds : List D} {vs : List V} (n : Nat), Reps Ω H ds vs → Reps Ω H (ds.drop n) (vs.drop n)
  | ds, vs, 0, r => r
  | [], vs, n + 1, r => by
    simp only [Reps] at r
    subst r
    rw [List.drop_nil, List.drop_nil]
    exact Reps.nil
  | d :: ds, vs, n + 1, r => by
    simp only [Reps] at r
    obtain ⟨v, t, e, r1, r2⟩ := r
    subst e
    exact Reps.drop n r2
theorem Reps.set {d : D} {v : V} (a : Rep Ω H d v) : ∀ {ds : List D} {vs : List V} (i : Nat), Reps Ω H ds vs → Reps Ω H (ds.set i d) (vs.set i v)
  | [], vs, i, r => by
    simp only [Reps] at r
    subst r
    exact Reps.nil
  | e :: ds, vs, 0, r => by
    simp only [Reps] at r
    obtain ⟨w, t, e', _, r2⟩ := r
    subst e'
    exact Reps.cons a r2
  | e :: ds, vs, i + 1, r => by
    simp only [Reps] at r
    obtain ⟨w, t, e', r1, r2⟩ := r
    subst e'
    exact Reps.cons r1 (Reps.set a i r2)
theorem Reps.reverse : ∀ {ds : List D} {vs : List V}, Reps Ω H ds vs → Reps Ω H ds.reverse vs.reverse
  | [], vs, r => by
    simp only [Reps] at r
    subst r
    exact Reps.nil
  | d :: ds, vs, r => by
    simp only [Reps] at r
    obtain ⟨v, t, e, r1, r2⟩ := r
    subst e
    rw [List.reverse_cons, List.reverse_cons]
    exact Reps.append (Reps.reverse r2) (Reps.cons r1 Reps.nil)
theorem Rep.int_inv {i : Int} {v : V} (r : Rep Ω H (.int i) v) : v = .int i := by simpa only [Rep] using r
theorem Rep.bl_inv {i : Bool} {v : V} (r : Rep Ω H (.bl i) v) : v = .bl i := by simpa only [Rep] using r
theorem Rep.lst_inv {ds : List D} {v : V} (r : Rep Ω H (.lst ds) v) : ∃ a vs, v = .ref a ∧ ¬ Ω a ∧ H a = some (.lst vs) ∧ Reps Ω H ds vs := by simpa only [Rep] using r
theorem Rep.tup_inv {ds : List D} {v : V} (r : Rep Ω H (.tup ds) v) : ∃ a vs, v = .ref a ∧ H a = some (.tup vs) ∧ Reps Ω H ds vs := by simpa only [Rep] using r
theorem Rep.tup_mk {ds : List D} {a : Addr} {vs : List V} (q : H a = some (.tup vs)) (r : Reps Ω H ds vs) : Rep Ω H (.tup ds) (.ref a) := by
  simp only [Rep]
  exact ⟨a, vs, rfl, q, r⟩
theorem Rep.lst_mk {ds : List D} {a : Addr} {vs : List V} (n : ¬ Ω a) (q : H a = some (.lst vs)) (r : Reps Ω H ds vs) : Rep Ω H (.lst ds) (.ref a) := by
  simp only [Rep]
  exact ⟨a, vs, rfl, n, q, r⟩
theorem Rep.int_mk {i : Int} : Rep Ω H (.int i) (.int i) := by simp only [Rep]
theorem Rep.bl_mk {i : Bool} : Rep Ω H (.bl i) (.bl i) := by simp only [Rep]
end
theorem same_upd {H : Hp} {p : Addr} {o : HO} (h : H p = none) : Same H (upd H p o) := fun b x e => by
  rw [upd_ne (ne_of_none e h)]
  exact e
/-! ### the states -/
def SlOk (Ω : Addr → Prop) (H : Hp) : Sl → V → Prop
  | .v d, v => Rep Ω H d v
  | .o ds, v => ∃ p vs, v = .ref p ∧ Ω p ∧ H p = some (.lst vs) ∧ Reps Ω H ds vs
  | .oi C n ds, v => ∃ p vs a dx, v = .ref a ∧ H a = some (.ins C dx [(n, .ref p)]) ∧ Ω p ∧ H p = some (.lst vs) ∧ Reps Ω H ds vs
/-- the list at p is the slot's own -/
def OwnA (H : Hp) : Sl → V → Addr → Prop
  | .v _, _, _ => False
  | .o _, v, p => v = .ref p
  | .oi C n _, v, p => ∃ a dx, v = .ref a ∧ H a = some (.ins C dx [(n, .ref p)])
theorem OwnA.isO {H : Hp} : ∀ {s : Sl} {v : V} {p : Addr}, OwnA H s v p → s.isO
  | .v _, _, _, h => h.elim
  | .o _, _, _, _ => trivial
  | .oi _ _ _, _, _, _ => trivial
theorem OwnA.put {H : Hp} {s : Sl} {v : V} {p : Addr} {es : List D} (h : OwnA H (s.put es) v p) : OwnA H s v p := by
  cases s with
  | v d => exact h
  | o ds => exact h
  | oi C n ds => exact h
theorem OwnA.put' {H : Hp} {s : Sl} {v : V} {p : Addr} {es : List D} (h : OwnA H s v p) : OwnA H (s.put es) v p := by
  cases s with
  | v d => exact h
  | o ds => exact h
  | oi C n ds => exact h
theorem OwnA.uniq {H : Hp} {s : Sl} {v : V} {p q : Addr} (h : OwnA H s v p) (k : OwnA H s v q) : p = q := by
  cases s with
  | v d => exact h.elim
  | o ds =>
    have h : v = .ref p := h
    have k : v = .ref q := k
    rw [h] at k
    cases k
    rfl
  | oi C n ds =>
    obtain ⟨a, dx, e1, q1⟩ := h
    obtain ⟨b, dy, e2, q2⟩ := k
    rw [e1] at e2
    cases e2
    rw [q1] at q2
    cases q2
    rfl
/-- what a slot owns, told in full -/
theorem SlOk.own {Ω : Addr → Prop} {H : Hp} : ∀ {s : Sl} {v : V}, SlOk Ω H s v → s.isO → ∃ p vs, OwnA H s v p ∧ Ω p ∧ H p = some (.lst vs) ∧ Reps Ω H s.items vs
  | .v _, _, _, h => h.elim
  | .o _, _, ⟨p, vs, e, o, q, r⟩, _ => ⟨p, vs, e, o, q, r⟩
  | .oi _ _ _, _, ⟨p, vs, a, dx, e, qa, o, q, r⟩, _ => ⟨p, vs, ⟨a, dx, e, qa⟩, o, q, r⟩
theorem SlOk.ofOwn {Ω : Addr → Prop} {H : Hp} : ∀ {s : Sl} {v : V} {p : Addr} {vs : List V}, OwnA H s v p → Ω p → H p = some (.lst vs) → Reps Ω H s.items vs → SlOk Ω H s v
  | .v _, _, _, _, h, _, _, _ => h.elim
  | .o _, _, p, vs, e, o, q, r => ⟨p, vs, e, o, q, r⟩
  | .oi _ _ _, _, p, vs, ⟨a, dx, e, qa⟩, o, q, r => ⟨p, vs, a, dx, e, qa, o, q, r⟩
/-- instances stay -/
def InsS (H H' : Hp) : Prop := ∀ a C dx fs, H a = some (.ins C dx fs) → H' a = some (.ins C dx fs)
theorem OwnA.fwd {H H' : Hp} (hi : InsS H H') : ∀ {s : Sl} {v : V} {p : Addr}, OwnA H s v p → OwnA H' s v p
  | .v _, _, _, h => h
  | .o _, _, _, h => h
  | .oi _ _ _, _, _, ⟨a, dx, e, q⟩ => ⟨a, dx, e, hi _ _ _ _ q⟩
theorem SlOk.back {Ω : Addr → Prop} {H H' : Hp} {s : Sl} {v : V} {p : Addr} (k : SlOk Ω H s v) (hi : InsS H H') (h : OwnA H' s v p) : OwnA H s v p := by
  obtain ⟨q, vs, o, _⟩ := k.own h.isO
  rw [h.uniq (o.fwd hi)]
  exact o
structure EI (Ω : Addr → Prop) (ρ : Ev) (σ : L2.St) (H : Hp) : Prop where
  len : ρ.length = σ.length
  hl : ∀ a, Ω a → ∃ vs, H a = some (.lst vs)
  sl : ∀ (i : Nat) (s : Sl), ρ[i]? = some (some s) → ∃ v, σ[i]? = some (some v) ∧ SlOk Ω H s v
  inj : ∀ (i j : Nat) (s t : Sl) (u v : V) (p : Addr), ρ[i]? = some (some s) → ρ[j]? = some (some t) → σ[i]? = some (some u) → σ[j]? = some (some v) → OwnA H s u p → OwnA H t v p → i = j
def mo (m : Bool) (Ω : Addr → Prop) : Addr → Prop := fun a => m = false ∧ Ω a
section
variable {Ω Ω' : Addr → Prop} {H H' : Hp} {ρ : Ev} {σ : L2.St}
theorem Same.insS (s : Same H H') : InsS H H' := fun _ _ _ _ q => s _ _ q
theorem EI.back (e : EI Ω ρ σ H) (hi : InsS H H') {i : Nat} {s : Sl} {u : V} {p : Addr} (h1 : ρ[i]? = some (some s)) (h2 : σ[i]? = some (some u)) (h : OwnA H' s u p) : OwnA H s u p := by
  obtain ⟨v, g1, g2⟩ := e.sl i s h1
  rw [h2] at g1
  cases g1
  exact g2.back hi h
theorem EI.inj' (e : EI Ω ρ σ H) (hi : InsS H H') (i j : Nat) (s t : Sl) (u v : V) (p : Addr) (h1 : ρ[i]? = some (some s)) (h2 : ρ[j]? = some (some t)) (h3 : σ[i]? = some (some u)) (h4 : σ[j]? = some (some v)) (h5 : OwnA H' s u p) (h6 : OwnA H' t v p) : i = j :=
  e.inj i j s t u v p h1 h2 h3 h4 (e.back hi h1 h3 h5) (e.back hi h2 h4 h6)
theorem mo_sub {m : Bool} : ∀ a, mo m Ω a → Ω a := fun _ h => h.2
theorem SlOk.le (h : HLe Ω H Ω' H') (ho : ∀ a xs, Ω a → H a = some (.lst xs) → Ω' a ∧ H' a = some (.lst xs)) : ∀ (s : Sl) (v : V), SlOk Ω H s v → SlOk Ω' H' s v
  | .v d, v, r => Rep.le h d v r
  | .o ds, v, ⟨p, vs, e, o, q, r⟩ => ⟨p, vs, e, (ho p vs o q).1, (ho p vs o q).2, Reps.le h ds vs r⟩
  | .oi C n ds, v, ⟨p, vs, a, dx, e, qa, o, q, r⟩ => ⟨p, vs, a, dx, e, h.ins _ _ _ _ qa, (ho p vs o q).1, (ho p vs o q).2, Reps.le h ds vs r⟩
theorem EI.same (e : EI Ω ρ σ H) (s : Same H H') : EI Ω ρ σ H' :=
  ⟨e.len, fun a h => let ⟨vs, q⟩ := e.hl a h; ⟨vs, s _ _ q⟩, fun i x h => let ⟨v, h1, h2⟩ := e.sl i x h; ⟨v, h1, h2.le (.same s fun _ z => z) (fun a xs o q => ⟨o, s _ _ q⟩)⟩, e.inj' (Same.insS s)⟩
theorem EI.hlm (e : EI Ω ρ σ H) (m : Bool) : ∀ a, mo m Ω a → ∃ vs, H a = some (.lst vs) := fun a h => e.hl a h.2
/-- a fresh owned address more -/
theorem EI.more (e : EI Ω ρ σ H) (s : Same H H') {p : Addr} {vs : List V} (hp : H p = none) (hp' : H' p = some (.lst vs)) : EI (ad p Ω) ρ σ H' :=
  ⟨e.len, fun a h => by
    rcases h with h | h
    · subst h; exact ⟨vs, hp'⟩
    · obtain ⟨us, q⟩ := e.hl a h
      exact ⟨us, s _ _ q⟩, fun i x h => let ⟨v, h1, h2⟩ := e.sl i x h; ⟨v, h1, h2.le (.fresh s hp) (fun a xs o q => ⟨.inr o, s _ _ q⟩)⟩, e.inj' (Same.insS s)⟩
end
/-! ### what follows -/
def KM {α : Type} (W : Addr → Hp → Prop) (r : M α) (H : Hp) (k : α → Hp → Prop) : Prop := match r with
  | .und => False
  | .ex c => ∀ H', Same H H' → W c H'
  | .ok a => ∀ H', Same H H' → k a H'
section
variable {α β : Type} {W : Addr → Hp → Prop} {H H' : Hp}
theorem KM.imp {r : M α} {k k' : α → Hp → Prop} (h : KM W r H k) (f : ∀ a H', r = .ok a → Same H H' → k a H' → k' a H') : KM W r H k' := by
  cases r with
  | und => exact h
  | ex c => exact h
  | ok a => exact fun H' s => f a H' rfl s (h H' s)
theorem KM.mono {r : M α} {k : α → Hp → Prop} (h : KM W r H k) (s : Same H H') : KM W r H' k := by
  cases r with
  | und => exact h
  | ex c => exact fun H2 s2 => h H2 (s.trans s2)
  | ok a => exact fun H2 s2 => h H2 (s.trans s2)
theorem KM.bind {r : M α} {f : α → M β} {k : β → Hp → Prop} (h : KM W (r.bind f) H k) : KM W r H (fun a H1 => KM W (f a) H1 k) := by
  cases r with
  | und => exact h
  | ex c => exact h
  | ok a => exact fun H2 s2 => KM.mono (show KM W (f a) H k from h) s2
theorem KM.ok {a : α} {k : α → Hp → Prop} (h : KM W (.ok a) H k) : k a H := h H (Same.refl H)
theorem KM.mk {a : α} {k : α → Hp → Prop} (h : ∀ H', Same H H' → k a H') : KM W (.ok a) H k := h
end
abbrev VKm (m : Bool) (Ω : Addr → Prop) (Q : VK) : D → Hp → Prop := fun d H' => ∀ v, Rep (mo m Ω) H' d v → Q v H'
/-- an expression's reading: its pure function f; m: whether the owned lists may be within what is given -/
def tD (W : Addr → Hp → Prop) (m : Bool) (f : Ev → M D) : TE := fun σ H Q => ∃ Ω ρ, EI Ω ρ σ H ∧ KM W (f ρ) H (VKm m Ω Q)
/-- .. of one that gives a list of its own, new -/
def tDF (W : Addr → Hp → Prop) (m : Bool) (f : Ev → M (List D)) : TE := fun σ H Q => ∃ Ω ρ, EI Ω ρ σ H ∧ KM W (f ρ) H (fun ds H' => ∀ p vs, H p = none → H' p = some (.lst vs) → Reps (ad p (mo m Ω)) H' ds vs → Q (.ref p) H')
def tDT (W : Addr → Hp → Prop) (f : Ev → M Bool) : TT := fun σ H Q => ∃ Ω ρ, EI Ω ρ σ H ∧ KM W (f ρ) H Q
def tDA (W : Addr → Hp → Prop) (m : Bool) (f : Ev → M (List D)) : TA := fun σ H Q => ∃ Ω ρ, EI Ω ρ σ H ∧ KM W (f ρ) H (fun ds H' => ∀ vs, Reps (mo m Ω) H' ds vs → Q vs H')
abbrev DE (X : Cx) (W : Addr → Hp → Prop) (m : Bool) (e : Expr) (f : Ev → M D) : Prop := PE X e (tD W m f)
abbrev DF (X : Cx) (W : Addr → Hp → Prop) (m : Bool) (e : Expr) (f : Ev → M (List D)) : Prop := PE X e (tDF W m f)
abbrev DT (X : Cx) (W : Addr → Hp → Prop) (e : Expr) (f : Ev → M Bool) : Prop := PT X e (tDT W f)
abbrev DA (X : Cx) (W : Addr → Hp → Prop) (m : Bool) (es : List Expr) (f : Ev → M (List D)) : Prop := PA X es (tDA W m f)
/-! ### weaker readings -/
section
variable {X : Cx}
theorem pe_weak {e : Expr} {t t' : TE} (h : PE X e t) (w : ∀ σ H Q, t' σ H Q → t σ H Q) : PE X e t' := ⟨fun pins s σ H Q I q => h.run pins s σ H Q I (w σ H Q q)⟩
theorem pt_weak {e : Expr} {t t' : TT} (h : PT X e t) (w : ∀ σ H Q, t' σ H Q → t σ H Q) : PT X e t' := ⟨fun pins s σ H Q I q => h.run pins s σ H Q I (w σ H Q q)⟩
theorem pw_weak {e : Expr} {t t' : TT} (h : PW X e t) (w : ∀ σ H Q, t' σ H Q → t σ H Q) : PW X e t' := ⟨fun whole pins s σ H Q I q => h.run whole pins s σ H Q I (w σ H Q q)⟩
theorem pa_weak {e : List Expr} {t t' : TA} (h : PA X e t) (w : ∀ σ H Q, t' σ H Q → t σ H Q) : PA X e t' := ⟨fun pos pins s σ H Q I q => h.run pos pins s σ H Q I (w σ H Q q)⟩
theorem ps_weak {e : Stmt} {t t' : TS} (h : PS X e t) (w : ∀ D σ H, t' D σ H → t D σ H) : PS X e t' := ⟨fun pins s σ H D I q => h.run pins s σ H D I (w D σ H q)⟩
theorem pss_weak {e : List Stmt} {t t' : TS} (h : PSs X e t) (w : ∀ D σ H, t' D σ H → t D σ H) : PSs X e t' := ⟨fun pins s σ H D I q => h.run pins s σ H D I (w D σ H q)⟩
theorem pi_weak {tg e : Expr} {t t' : TI} (h : PI X tg e t) (w : ∀ σ H Q, t' σ H Q → t σ H Q) : PI X tg e t' := ⟨fun pins s σ H Q I q => h.run pins s σ H Q I (w σ H Q q)⟩
theorem pg_weak {e : Expr} {t t' : TG} (h : PG X e t) (w : ∀ v σ H Q, t' v σ H Q → t v σ H Q) : PG X e t' := ⟨fun pins s σ H v u Q I r q => h.run pins s σ H v u Q I r (w v σ H Q q)⟩
theorem pi_or {tg e : Expr} {t t' : TI} (h : PI X tg e t) (h' : PI X tg e t') : PI X tg e (fun σ H R => t σ H R ∨ t' σ H R) := ⟨fun pins s σ H Q I q => by
  rcases q with q | q
  · exact h.run pins s σ H Q I q
  · exact h'.run pins s σ H Q I q⟩
theorem pe_or2 {e : Expr} {t t' : TE} (h : PE X e t) (h' : PE X e t') : PE X e (fun σ H R => t σ H R ∨ t' σ H R) := ⟨fun pins s σ H Q I q => by
  rcases q with q | q
  · exact h.run pins s σ H Q I q
  · exact h'.run pins s σ H Q I q⟩
theorem ps_or2 {e : Stmt} {t t' : TS} (h : PS X e t) (h' : PS X e t') : PS X e (fun D σ H => t D σ H ∨ t' D σ H) := ⟨fun pins s σ H Q I q => by
  rcases q with q | q
  · exact h.run pins s σ H Q I q
  · exact h'.run pins s σ H Q I q⟩
end
end DI
set_option maxRecDepth 100000
/-! DI2: expressions. -/
namespace DI
open PySem PySem.Spec PyProof.Rows L2
/-! ### operations on deep values -/
def x1 (op : D → M D) (f : Ev → M D) : Ev → M D := fun ρ => (f ρ).bind op
def x2 (op : D → D → M D) (f g : Ev → M D) : Ev → M D := fun ρ => (f ρ).bind fun x => (g ρ).bind fun y => op x y
def xC (d : D) : Ev → M D := fun _ => .ok d
def xVar (i : Nat) : Ev → M D := fun ρ => match ρ[i]? with
  | some (some (.v d)) => .ok d
  | _ => .und
def xOwn (i : Nat) : Ev → M D := fun ρ => match ρ[i]? with
  | some (some (.v d)) => .ok d
  | some (some (.o ds)) => .ok (.lst ds)
  | some (some (.oi C n ds)) => .ok (.ins C [n] [.lst ds])
  | _ => .und
def xFlat (f : Ev → M D) : Ev → M D := fun ρ => (f ρ).bind fun d => if d.flat then .ok d else .und
def mulOk (i j : Int) : Bool := decide (Builtin.Int.intBits i + Builtin.Int.intBits j ≤ 134217728)
theorem mulOk_ok {i j : Int} (h : mulOk i j = true) : IntMulOk i j := by
  have h := of_decide_eq_true h
  have e : bitsLine = 134217728 := by decide
  unfold IntMulOk
  intro z
  rw [Bool.and_eq_true] at z
  have z2 := z.2
  unfold Builtin.Int.intTooBig at z2
  have z3 := of_decide_eq_true z2
  rw [e] at z3
  omega
def dAdd : D → D → M D
  | .int i, .int j => .ok (.int (i + j))
  | .lst xs, .lst ys => if xs.length + ys.length ≤ sizeLine then .ok (.lst (xs ++ ys)) else .und
  | _, _ => .und
def dSub : D → D → M D
  | .int i, .int j => .ok (.int (i - j))
  | _, _ => .und
def dMul : D → D → M D
  | .int i, .int j => if mulOk i j then .ok (.int (i * j)) else .und
  | _, _ => .und
def dMod : D → D → M D
  | .int i, .int j => if 0 < j then .ok (.int (i % j)) else .und
  | _, _ => .und
def dFdiv : D → D → M D
  | .int i, .int j => if 0 < j ∧ j < 1073741824 then .ok (.int (i / j)) else .und
  | _, _ => .und
def dPow : D → D → M D
  | .int i, .int j => if 0 ≤ j ∧ j ≤ 1000000 ∧ i.natAbs < 2 ^ 64 then .ok (.int (i ^ j.toNat)) else .und
  | _, _ => .und
def dNeg : D → M D
  | .int i => .ok (.int (-i))
  | _ => .und
def dCmp (p : Int → Int → Bool) : D → D → M D
  | .int i, .int j => .ok (.bl (p i j))
  | _, _ => .und
abbrev dLt := dCmp fun i j => decide (i < j)
abbrev dLe := dCmp fun i j => decide (i ≤ j)
abbrev dGt := dCmp fun i j => decide (j < i)
abbrev dGe := dCmp fun i j => decide (j ≤ i)
mutual
def D.isD : D → Bool
  | .non => true | .bl _ => true | .int _ => true | .str _ => true
  | .tup ds => isDs ds
  | .lst ds => isDs ds
  | _ => false
def isDs : List D → Bool
  | [] => true
  | d :: ds => d.isD && isDs ds
end
mutual
def D.toP : D → PyData
  | .non => .none | .bl b => .bool b | .int i => .int i | .str s => .str s
  | .tup ds => .tuple (toPs ds)
  | .lst ds => .list (toPs ds)
  | _ => .none
def toPs : List D → List PyData
  | [] => []
  | d :: ds => d.toP :: toPs ds
end
def D.ok (d : D) : Bool := d.isD && SeqAt.shaped d.toP
def dEq (x y : D) : M D := if x.ok && y.ok then .ok (.bl (PyData.eqv x.toP y.toP)) else .und
def dNe (x y : D) : M D := if x.ok && y.ok then .ok (.bl (!PyData.eqv x.toP y.toP)) else .und
def dIn (x y : D) : M D := if x.ok && y.ok then (match y with
  | .lst ds => .ok (.bl ((toPs ds).any fun z => PyData.eqv z x.toP))
  | .tup ds => .ok (.bl ((toPs ds).any fun z => PyData.eqv z x.toP))
  | _ => .und) else .und
def dNotIn (x y : D) : M D := if x.ok && y.ok then (match y with
  | .lst ds => .ok (.bl (!(toPs ds).any fun z => PyData.eqv z x.toP))
  | .tup ds => .ok (.bl (!(toPs ds).any fun z => PyData.eqv z x.toP))
  | _ => .und) else .und
def dIs : D → D → M D
  | .bl a, .bl b => .ok (.bl (decide (a = b)))
  | _, _ => .und
def dIsNot : D → D → M D
  | .bl a, .bl b => .ok (.bl (!decide (a = b)))
  | _, _ => .und
def ofO {α : Type} : Option α → M α
  | some a => .ok a
  | none => .und
def dIx : D → D → M D
  | .lst ds, .int i => ofO (atI ds i)
  | .tup ds, .int i => ofO (atI ds i)
  | _, _ => .und
def cutD (xs : List D) (lo hi : Option Int) : List D := (xs.drop (HT.sIx xs.length 0 lo)).take (HT.sIx xs.length xs.length hi - HT.sIx xs.length 0 lo)
/-- a value's truth -/
def D.tru : D → M Bool
  | .non => .ok false
  | .bl b => .ok b
  | .int i => .ok (i != 0)
  | .lst ds => .ok (!ds.isEmpty)
  | .tup ds => .ok (!ds.isEmpty)
  | _ => .und
/-! ### lifting -/
section
variable {X : Cx} {W : Addr → Hp → Prop} {m : Bool} {f g : Ev → M D} {σ : L2.St} {H : Hp} {Q : VK}
abbrev R1 := V → Hp → VK → Prop
/-- the value rule r serves the operation op -/
def Sv1 (r : R1) (op : D → M D) : Prop := ∀ (W : Addr → Hp → Prop) (Ω : Addr → Prop) (H : Hp) (x : D) (v : V) (Q : VK), (∀ a, Ω a → ∃ vs, H a = some (.lst vs)) → Rep Ω H x v → KM W (op x) H (fun d H' => ∀ z, Rep Ω H' d z → Q z H') → r v H Q
def Sv2 (r : R2) (op : D → D → M D) : Prop := ∀ (W : Addr → Hp → Prop) (Ω : Addr → Prop) (H : Hp) (x y : D) (v u : V) (Q : VK), (∀ a, Ω a → ∃ vs, H a = some (.lst vs)) → Rep Ω H x v → Rep Ω H y u → KM W (op x y) H (fun d H' => ∀ z, Rep Ω H' d z → Q z H') → r v u H Q
theorem lift1 {r : R1} {op : D → M D} (s : Sv1 r op) (h : tD W m (x1 op f) σ H Q) : tD W m f σ H (fun v H1 => r v H1 Q) := by
  obtain ⟨Ω, ρ, e, k⟩ := h
  exact ⟨Ω, ρ, e, (KM.bind k).imp fun x H1 _ s1 k1 v rv => s W (mo m Ω) H1 x v Q ((e.same s1).hlm m) rv k1⟩
theorem lift2 {r : R2} {op : D → D → M D} (s : Sv2 r op) (h : tD W m (x2 op f g) σ H Q) : tOp r (tD W m f) (tD W m g) σ H Q := by
  obtain ⟨Ω, ρ, e, k⟩ := h
  refine ⟨Ω, ρ, e, (KM.bind k).imp fun x H1 _ s1 k1 v rv => ⟨Ω, ρ, e.same s1, (KM.bind k1).imp fun y H2 _ s2 k2 u ru => ?_⟩⟩
  exact s W (mo m Ω) H2 x y v u Q ((e.same (s1.trans s2)).hlm m) (Rep.le (.same s2 fun _ z => z) x v rv) ru k2
variable {a b c : Expr} {pos : Pos}
theorem de_op {op : Operator} {r : R2} {o : D → D → M D} (ho : OpR X (binaryOp op) r) (s : Sv2 r o) (ha : DE X W m a f) (hb : DE X W m b g) : DE X W m (.BinOp a op b pos) (x2 o f g) := pe_weak (pe_op ho ha hb) fun _ _ _ h => lift2 s h
theorem de_cmp {op : CmpOp} {r : R2} {o : D → D → M D} (ho : OpR X (compareOp op) r) (s : Sv2 r o) (ha : DE X W m a f) (hb : DE X W m b g) (hm : behindInMarks op b = false) : DE X W m (.Compare a [op] [b] pos) (x2 o f g) := pe_weak (pe_cmpR ho ha hb hm) fun _ _ _ h => lift2 s h
theorem de_ix (ha : DE X W m a f) (hb : DE X W m b g) (hs : PlainIx b := by exact fun _ _ => rfl) : DE X W m (.Subscript a b pos) (x2 dIx f g) := by
  refine pe_weak (pe_ix (.or ix_list ix_tup) ha hb hs) fun _ _ _ h => lift2 (fun W Ω H x y v u Q hl rx ry k => ?_) h
  have fin : ∀ {ds : List D} {vs : List V} {i : Int}, Reps Ω H ds vs → KM W (ofO (atI ds i)) H (fun d H' => ∀ z, Rep Ω H' d z → Q z H') → ∃ z, atI vs i = some z ∧ Q z H := fun {ds vs i} rs k => by
    cases e : atI ds i with
    | none => rw [e] at k; exact k.elim
    | some d =>
      rw [e] at k
      unfold atI at e ⊢
      rw [← rs.length]
      cases q : ixN ds.length i with
      | none => rw [q] at e; cases e
      | some j =>
        rw [q] at e
        obtain ⟨z, h1, h2⟩ := rs.get (i := j) (d := d) e
        exact ⟨z, h1, KM.ok k z h2⟩
  unfold dIx at k
  split at k
  · obtain ⟨p, vs, e1, _, q1, rs⟩ := rx.lst_inv
    obtain ⟨z, h1, h2⟩ := fin rs k
    exact .inl ⟨p, vs, _, z, e1, ry.int_inv, .inl (.inl q1), h1, h2⟩
  · obtain ⟨p, vs, e1, q1, rs⟩ := rx.tup_inv
    obtain ⟨z, h1, h2⟩ := fin rs k
    exact .inr ⟨p, vs, _, z, e1, ry.int_inv, .inl (.inl q1), h1, h2⟩
  · exact k.elim
/-! ### names, constants -/
theorem de_var {i : Nat} {x : Str} (h : PE X (.Name x pos) (tVar i)) : DE X W m (.Name x pos) (xVar i) := by
  refine pe_weak h fun σ H Q ⟨Ω, ρ, e, k⟩ => ?_
  unfold xVar at k
  split at k
  · rename_i d hd
    obtain ⟨v, h1, h2⟩ := e.sl i _ hd
    exact ⟨v, h1, KM.ok k v (Rep.le (.sub mo_sub) d v h2)⟩
  · exact k.elim
theorem de_own {i : Nat} {x : Str} (h : PE X (.Name x pos) (tVar i)) : DE X W true (.Name x pos) (xOwn i) := by
  refine pe_weak h fun σ H Q ⟨Ω, ρ, e, k⟩ => ?_
  unfold xOwn at k
  split at k
  · rename_i d hd
    obtain ⟨v, h1, h2⟩ := e.sl i _ hd
    exact ⟨v, h1, KM.ok k v (Rep.le (.sub mo_sub) d v h2)⟩
  · rename_i ds hd
    obtain ⟨v, h1, p, vs, e1, h2, h3, h4⟩ := e.sl i _ hd
    subst e1
    exact ⟨_, h1, KM.ok k _ (Rep.lst_mk (fun z => Bool.noConfusion z.1) h3 (Reps.le (.sub mo_sub) _ _ h4))⟩
  · rename_i C n ds hd
    obtain ⟨v, h1, p, vs, a, dx, e1, qa, h2, h3, h4⟩ := e.sl i _ hd
    subst e1
    refine ⟨_, h1, KM.ok k _ ?_⟩
    simp only [Rep]
    exact ⟨a, dx, [.ref p], rfl, qa, rfl, Reps.cons (Rep.lst_mk (fun z => Bool.noConfusion z.1) h3 (Reps.le (.sub mo_sub) _ _ h4)) Reps.nil⟩
  · exact k.elim
theorem de_c {d : D} {v : V} (h : PE X a (tC v)) (r : ∀ Ω H, Rep Ω H d v) : DE X W m a (xC d) :=
  pe_weak h fun σ H Q ⟨Ω, ρ, e, k⟩ => KM.ok k v (r _ _)
theorem de_int {i : Int} {j : Nat} : DE X W m (.Constant (.int i) j pos) (xC (.int i)) := de_c pe_int fun _ _ => by simp only [Rep]
theorem de_bl {i : Bool} {j : Nat} : DE X W m (.Constant (.bool i) j pos) (xC (.bl i)) := de_c pe_bl fun _ _ => by simp only [Rep]
theorem de_non {j : Nat} : DE X W m (.Constant .none j pos) (xC .non) := de_c pe_non fun _ _ => by simp only [Rep]
theorem de_str {i : Str} {j : Nat} : DE X W m (.Constant (.str i) j pos) (xC (.str i)) := de_c pe_str fun _ _ => by simp only [Rep]
theorem de_gInt {x : Str} {i : Int} {t : Tok} (hg : Gl X x) (hm : X.mg x = some (.int i t)) (hd : (x == ("__debug__" : Str)) = false := by decide) : DE X W m (.Name x pos) (xC (.int i)) := de_c (pe_glob hg hm (v := .int i) ⟨t, rfl⟩ hd) fun _ _ => by simp only [Rep]
theorem de_gRef {x : Str} {c : Addr} (hg : Gl X x) (hm : X.mg x = some (.ref c)) (hd : (x == ("__debug__" : Str)) = false := by decide) : DE X W m (.Name x pos) (xC (.fn c)) := de_c (pe_glob hg hm (v := .ref c) rfl hd) fun _ _ => by simp only [Rep]
theorem de_gTy {x : Str} {n : String} (hg : Gl X x) (hm : X.mg x = none) (hv : bootBuiltins x = some (.type n)) (hn : x ≠ "__name__" := by decide) (hd : (x == ("__debug__" : Str)) = false := by decide) : DE X W m (.Name x pos) (xC (.ty n)) := de_c (pe_bltn hg hm hv (v := .ty n) rfl hn hd) fun _ _ => by simp only [Rep]
/-- the owned lists aren't within: any view will do -/
theorem de_up {f : Ev → M D} (h : DE X W false a f) : DE X W m a f := pe_weak h fun σ H Q ⟨Ω, ρ, e, k⟩ => ⟨Ω, ρ, e, k.imp fun d H' _ _ k v r => k v (Rep.le (.sub fun _ z => ⟨rfl, z.2⟩) d v r)⟩
theorem de_flat {f : Ev → M D} (h : DE X W true a f) : DE X W m a (xFlat f) := by
  refine pe_weak h fun σ H Q ⟨Ω, ρ, e, k⟩ => ⟨Ω, ρ, e, (KM.bind k).imp fun d H' _ _ k v r => ?_⟩
  by_cases hf : d.flat = true
  · rw [if_pos hf] at k
    exact KM.ok k v (Rep.flat d v hf r)
  · rw [if_neg hf] at k
    exact k.elim
/-! ### ints -/
theorem sv_i {C : Int → Int → Prop} {g : Int → Int → Int} {op : D → D → M D} (h : ∀ x y, (∃ i j, x = .int i ∧ y = .int j ∧ ((C i j ∧ op x y = .ok (.int (g i j))) ∨ op x y = .und)) ∨ op x y = .und) : Sv2 (rI C fun i j => .int (g i j)) op := by
  intro W Ω H x y v u Q _ rx ry k
  rcases h x y with ⟨i, j, rfl, rfl, ⟨hc, e⟩ | e⟩ | e
  · rw [e] at k
    exact ⟨i, j, rx.int_inv, ry.int_inv, hc, KM.ok k _ Rep.int_mk⟩
  · rw [e] at k; exact k.elim
  · rw [e] at k; exact k.elim
theorem op_mulB : OpR X (binaryOp .Mult) (rI (fun i j => mulOk i j = true) fun i j => .int (i * j)) := opI fun _ _ _ _ _ _ _ hc q => mul_int q (mulOk_ok hc)
theorem de_sub (ha : DE X W m a f) (hb : DE X W m b g) : DE X W m (.BinOp a .Sub b pos) (x2 dSub f g) := by
  refine de_op op_sub (fun W Ω H x y v u Q _ rx ry k => ?_) ha hb
  unfold dSub at k
  split at k
  · exact ⟨_, _, rx.int_inv, ry.int_inv, KM.ok k _ Rep.int_mk⟩
  · exact k.elim
theorem de_add (ha : DE X W m a f) (hb : DE X W m b g) : DE X W m (.BinOp a .Add b pos) (x2 dAdd f g) := by
  refine de_op (.or op_add op_cat) (fun W Ω H x y v u Q hl rx ry k => ?_) ha hb
  unfold dAdd at k
  split at k
  · exact .inl ⟨_, _, rx.int_inv, ry.int_inv, KM.ok k _ Rep.int_mk⟩
  · split at k
    · rename_i hz
      obtain ⟨p, vs, e1, n1, q1, r1⟩ := rx.lst_inv
      obtain ⟨p2, us, e2, n2, q2, r2⟩ := ry.lst_inv
      refine .inr ⟨p, p2, vs, us, e1, e2, q1, q2, by rw [← r1.length, ← r2.length]; exact hz, fun l hp => ?_⟩
      refine k _ (same_upd hp) _ (Rep.lst_mk (fun z => ?_) upd_same (Reps.le (.same (same_upd hp) fun _ z => z) _ _ (r1.append r2)))
      obtain ⟨ws, q⟩ := hl l z
      rw [hp] at q; cases q
    · exact k.elim
  · exact k.elim
theorem de_mul (ha : DE X W m a f) (hb : DE X W m b g) : DE X W m (.BinOp a .Mult b pos) (x2 dMul f g) := by
  refine de_op op_mulB (fun W Ω H x y v u Q _ rx ry k => ?_) ha hb
  unfold dMul at k
  split at k
  · split at k
    · rename_i hz
      exact ⟨_, _, rx.int_inv, ry.int_inv, hz, KM.ok k _ Rep.int_mk⟩
    · exact k.elim
  · exact k.elim
theorem de_mod (ha : DE X W m a f) (hb : DE X W m b g) : DE X W m (.BinOp a .Mod b pos) (x2 dMod f g) := by
  refine de_op op_mod (fun W Ω H x y v u Q _ rx ry k => ?_) ha hb
  unfold dMod at k
  split at k
  · split at k
    · rename_i hz
      exact ⟨_, _, rx.int_inv, ry.int_inv, hz, KM.ok k _ Rep.int_mk⟩
    · exact k.elim
  · exact k.elim
theorem de_fdiv (ha : DE X W m a f) (hb : DE X W m b g) : DE X W m (.BinOp a .FloorDiv b pos) (x2 dFdiv f g) := by
  refine de_op op_fdiv (fun W Ω H x y v u Q _ rx ry k => ?_) ha hb
  unfold dFdiv at k
  split at k
  · split at k
    · rename_i hz
      exact ⟨_, _, rx.int_inv, ry.int_inv, hz, KM.ok k _ Rep.int_mk⟩
    · exact k.elim
  · exact k.elim
theorem de_pow (ha : DE X W m a f) (hb : DE X W m b g) : DE X W m (.BinOp a .Pow b pos) (x2 dPow f g) := by
  refine de_op op_pow (fun W Ω H x y v u Q _ rx ry k => ?_) ha hb
  unfold dPow at k
  split at k
  · split at k
    · rename_i hz
      exact ⟨_, _, rx.int_inv, ry.int_inv, hz, KM.ok k _ Rep.int_mk⟩
    · exact k.elim
  · exact k.elim
theorem de_neg (ha : DE X W m a f) : DE X W m (.UnaryOp .USub a pos) (x1 dNeg f) := by
  refine pe_weak (pe_un un_neg ha) fun _ _ _ h => lift1 (r := fun v H Q => rU (fun i => .int (-i)) v H Q) (fun W Ω H x v Q _ rx k => ?_) h
  unfold dNeg at k
  split at k
  · exact ⟨_, rx.int_inv, KM.ok k _ Rep.int_mk⟩
  · exact k.elim
theorem sv_cmp {p : Int → Int → Bool} : Sv2 (rI0 fun i j => .bl (p i j)) (dCmp p) := by
  intro W Ω H x y v u Q _ rx ry k
  unfold dCmp at k
  split at k
  · exact ⟨_, _, rx.int_inv, ry.int_inv, KM.ok k _ Rep.bl_mk⟩
  · exact k.elim
theorem de_lt (ha : DE X W m a f) (hb : DE X W m b g) : DE X W m (.Compare a [.Lt] [b] pos) (x2 dLt f g) := de_cmp op_lt sv_cmp ha hb (nomark _)
theorem de_le (ha : DE X W m a f) (hb : DE X W m b g) : DE X W m (.Compare a [.LtE] [b] pos) (x2 dLe f g) := de_cmp op_le sv_cmp ha hb (nomark _)
theorem de_gt (ha : DE X W m a f) (hb : DE X W m b g) : DE X W m (.Compare a [.Gt] [b] pos) (x2 dGt f g) := de_cmp op_gt sv_cmp ha hb (nomark _)
theorem de_ge (ha : DE X W m a f) (hb : DE X W m b g) : DE X W m (.Compare a [.GtE] [b] pos) (x2 dGe f g) := de_cmp op_ge sv_cmp ha hb (nomark _)
/-! ### ==, in -/
mutual
theorem Rep.dp {K : PySem.W.Frag} {Ω : Addr → Prop} {H : Hp} : ∀ (d : D) (v : V), d.isD = true → Rep Ω H d v → Dp K H v d.toP
  | .non, v, _, r => by simp only [Rep] at r; subst r; simp only [D.toP]; exact .non
  | .bl b, v, _, r => by simp only [Rep] at r; subst r; simp only [D.toP]; exact .bl b
  | .int i, v, _, r => by simp only [Rep] at r; subst r; simp only [D.toP]; exact .int i
  | .str s, v, _, r => by simp only [Rep] at r; subst r; simp only [D.toP]; exact .str s
  | .tup ds, v, h, r => by
    simp only [D.isD] at h
    obtain ⟨a, vs, e, q, rs⟩ := r.tup_inv
    subst e
    simp only [D.toP]
    exact .tup (.inl (.inl q)) (Reps.dp ds vs h rs)
  | .lst ds, v, h, r => by
    simp only [D.isD] at h
    obtain ⟨a, vs, e, _, q, rs⟩ := r.lst_inv
    subst e
    simp only [D.toP]
    exact .lst (.inl (.inl q)) (Reps.dp ds vs h rs)
  | .fn _, v, h, r => by simp only [D.isD] at h; cases h
  | .ty _, v, h, r => by simp only [D.isD] at h; cases h
  | .dic, v, h, r => by simp only [D.isD] at h; cases h
  | .scr _ _, v, h, r => by simp only [D.isD] at h; cases h
  | .ins _ _ _, v, h, r => by simp only [D.isD] at h; cases h
theorem Reps.dp {K : PySem.W.Frag} {Ω : Addr → Prop} {H : Hp} : ∀ (ds : List D) (vs : List V), isDs ds = true → Reps Ω H ds vs → DpAll K H vs (toPs ds)
  | [], vs, _, r => by simp only [Reps] at r; subst r; simp only [toPs]; exact .nil
  | d :: ds, vs, h, r => by
    simp only [isDs, Bool.and_eq_true] at h
    simp only [Reps] at r
    obtain ⟨v, t, e, r1, r2⟩ := r
    subst e
    simp only [toPs]
    exact .cons (Rep.dp d v h.1 r1) (Reps.dp ds t h.2 r2)
end
theorem D.ok_of {d : D} (h : d.ok = true) : d.isD = true ∧ SeqAt.shaped d.toP = true := by
  unfold D.ok at h
  exact Bool.and_eq_true_iff.mp h
theorem de_eq (hu : X.A.units + 64 < cLine) (ha : DE X W m a f) (hb : DE X W m b g) : DE X W m (.Compare a [.Eq] [b] pos) (x2 dEq f g) := by
  refine de_cmp (op_eqD hu) (fun W Ω H x y v u Q _ rx ry k => ?_) ha hb (nomark _)
  unfold dEq at k
  split at k
  · rename_i h
    have h := Bool.and_eq_true_iff.mp h
    exact ⟨_, _, Rep.dp x v (D.ok_of h.1).1 rx, Rep.dp y u (D.ok_of h.2).1 ry, (D.ok_of h.1).2, (D.ok_of h.2).2, KM.ok k _ Rep.bl_mk⟩
  · exact k.elim
theorem de_ne (hu : X.A.units + 64 < cLine) (ha : DE X W m a f) (hb : DE X W m b g) : DE X W m (.Compare a [.NotEq] [b] pos) (x2 dNe f g) := by
  refine de_cmp (op_neD hu) (fun W Ω H x y v u Q _ rx ry k => ?_) ha hb (nomark _)
  unfold dNe at k
  split at k
  · rename_i h
    have h := Bool.and_eq_true_iff.mp h
    exact ⟨_, _, Rep.dp x v (D.ok_of h.1).1 rx, Rep.dp y u (D.ok_of h.2).1 ry, (D.ok_of h.1).2, (D.ok_of h.2).2, KM.ok k _ Rep.bl_mk⟩
  · exact k.elim
/-- x in a tuple of data -/
def rInDT (neg : Bool) (K : PySem.W.Frag) : R2 := fun x y H Q => ∃ d ds, Dp K H x d ∧ Dp K H y (.tuple ds) ∧ SeqAt.shaped d = true ∧ SeqAt.shaped (.tuple ds) = true ∧ Q (.bl (neg != ds.any fun z => PyData.eqv z d)) H
theorem room_in_tup {A : Around} {xs : List PyData} {d : PyData} (h : SeqAt.shaped d = true) (hu : A.units + 65 < cLine) : A.units + 1 + min (PyData.depthAll xs) d.depth < cLine := room_in_shaped h hu
theorem op_inDT (hu : X.A.units + 65 < cLine) : OpR X (compareOp .In) (rInDT false X.K) := by
  intro pins s σ H x y v u Q I rx ry h
  obtain ⟨d, ds, hd, he, sd, se, q⟩ := h
  obtain ⟨as, r1⟩ := Dp.reads I d x v hd rx
  obtain ⟨bs, r2⟩ := Dp.reads I (.tuple ds) y u he ry
  refine SeqAt.in_tuple_reads r2 r1 (SeqAt.canLay_of_shaped se) (SeqAt.canLay_of_shaped sd) (room_in_tup sd hu) ⟨.bl _, H, I, rfl, ?_⟩
  simpa using q
theorem op_notInDT (hu : X.A.units + 65 < cLine) : OpR X (compareOp .NotIn) (rInDT true X.K) := by
  intro pins s σ H x y v u Q I rx ry h
  obtain ⟨d, ds, hd, he, sd, se, q⟩ := h
  obtain ⟨as, r1⟩ := Dp.reads I d x v hd rx
  obtain ⟨bs, r2⟩ := Dp.reads I (.tuple ds) y u he ry
  refine SeqAt.notIn_tuple_reads r2 r1 (SeqAt.canLay_of_shaped se) (SeqAt.canLay_of_shaped sd) (room_in_tup sd hu) ⟨.bl _, H, I, rfl, ?_⟩
  simpa using q
theorem de_in (hu : X.A.units + 65 < cLine) (ha : DE X W m a f) (hb : DE X W m b g) (hm : behindInMarks .In b = false) : DE X W m (.Compare a [.In] [b] pos) (x2 dIn f g) := by
  refine de_cmp (.or (op_inD hu) (op_inDT hu)) (fun W Ω H x y v u Q _ rx ry k => ?_) ha hb hm
  unfold dIn at k
  split at k
  · rename_i h
    have h := Bool.and_eq_true_iff.mp h
    have hd := Rep.dp (K := X.K) y u (D.ok_of h.2).1 ry
    have hs := (D.ok_of h.2).2
    split at k
    · simp only [D.toP] at hd hs
      exact .inl ⟨_, _, Rep.dp x v (D.ok_of h.1).1 rx, hd, (D.ok_of h.1).2, hs, KM.ok k _ Rep.bl_mk⟩
    · simp only [D.toP] at hd hs
      exact .inr ⟨_, _, Rep.dp x v (D.ok_of h.1).1 rx, hd, (D.ok_of h.1).2, hs, by rw [Bool.false_bne]; exact KM.ok k _ Rep.bl_mk⟩
    · exact k.elim
  · exact k.elim
theorem de_notIn (hu : X.A.units + 65 < cLine) (ha : DE X W m a f) (hb : DE X W m b g) (hm : behindInMarks .NotIn b = false) : DE X W m (.Compare a [.NotIn] [b] pos) (x2 dNotIn f g) := by
  refine de_cmp (.or (op_notInD hu) (op_notInDT hu)) (fun W Ω H x y v u Q _ rx ry k => ?_) ha hb hm
  unfold dNotIn at k
  split at k
  · rename_i h
    have h := Bool.and_eq_true_iff.mp h
    have hd := Rep.dp (K := X.K) y u (D.ok_of h.2).1 ry
    have hs := (D.ok_of h.2).2
    split at k
    · simp only [D.toP] at hd hs
      exact .inl ⟨_, _, Rep.dp x v (D.ok_of h.1).1 rx, hd, (D.ok_of h.1).2, hs, KM.ok k _ Rep.bl_mk⟩
    · simp only [D.toP] at hd hs
      exact .inr ⟨_, _, Rep.dp x v (D.ok_of h.1).1 rx, hd, (D.ok_of h.1).2, hs, by rw [Bool.true_bne]; exact KM.ok k _ Rep.bl_mk⟩
    · exact k.elim
  · exact k.elim
theorem de_is (ha : DE X W m a f) (hb : DE X W m b g) : DE X W m (.Compare a [.Is] [b] pos) (x2 dIs f g) := by
  refine de_cmp op_isBl (fun W Ω H x y v u Q _ rx ry k => ?_) ha hb (nomark _)
  unfold dIs at k
  split at k
  · exact ⟨_, _, rx.bl_inv, ry.bl_inv, KM.ok k _ Rep.bl_mk⟩
  · exact k.elim
theorem de_isNot (ha : DE X W m a f) (hb : DE X W m b g) : DE X W m (.Compare a [.IsNot] [b] pos) (x2 dIsNot f g) := by
  refine de_cmp op_notBl (fun W Ω H x y v u Q _ rx ry k => ?_) ha hb (nomark _)
  unfold dIsNot at k
  split at k
  · exact ⟨_, _, rx.bl_inv, ry.bl_inv, KM.ok k _ Rep.bl_mk⟩
  · exact k.elim
end
end DI
set_option maxRecDepth 100000
/-! DI3: tests, arguments, displays, calls of built-ins and of defs, slices. -/
namespace DI
open PySem PySem.Spec PyProof.Rows L2
def xNil : Ev → M (List D) := fun _ => .ok []
def xCons (f : Ev → M D) (g : Ev → M (List D)) : Ev → M (List D) := fun ρ => (f ρ).bind fun x => (g ρ).bind fun xs => .ok (x :: xs)
def xAll {α : Type} (op : List D → M α) (f : Ev → M (List D)) : Ev → M α := fun ρ => (f ρ).bind op
def xTru (f : Ev → M D) : Ev → M Bool := fun ρ => (f ρ).bind D.tru
def bBl (f : Ev → M D) : Ev → M Bool := fun ρ => (f ρ).bind fun d => match d with
  | .bl b => .ok b
  | _ => .und
def bAnd (f g : Ev → M Bool) : Ev → M Bool := fun ρ => (f ρ).bind fun b => if b = true then g ρ else .ok false
def bOr (f g : Ev → M Bool) : Ev → M Bool := fun ρ => (f ρ).bind fun b => if b = true then .ok true else g ρ
def bNot (f : Ev → M Bool) : Ev → M Bool := fun ρ => (f ρ).bind fun b => .ok (!b)
def xIf (c : Ev → M Bool) (f g : Ev → M D) : Ev → M D := fun ρ => (c ρ).bind fun b => if b = true then f ρ else g ρ
/-- and, or of bools as values -/
def xAnd (f g : Ev → M D) : Ev → M D := fun ρ => (f ρ).bind fun d => match d with
  | .bl b => if b = true then g ρ else .ok (.bl false)
  | _ => .und
def xOr (f g : Ev → M D) : Ev → M D := fun ρ => (f ρ).bind fun d => match d with
  | .bl b => if b = true then .ok (.bl true) else g ρ
  | _ => .und
def xNot (f : Ev → M D) : Ev → M D := fun ρ => (f ρ).bind fun d => match d with
  | .bl b => .ok (.bl (!b))
  | _ => .und
def xChain (o o' : D → D → M D) (f g h : Ev → M D) : Ev → M D := fun ρ => (f ρ).bind fun x => (g ρ).bind fun y => (o x y).bind fun z => match z with
  | .bl k => if k = true then (h ρ).bind fun u => o' y u else .ok (.bl false)
  | _ => .und
section
variable {X : Cx} {W : Addr → Hp → Prop} {m : Bool} {f g h : Ev → M D} {fs : Ev → M (List D)} {a b c : Expr} {es : List Expr} {pos : Pos}
/-! ### tests -/
theorem dt_val (ha : DE X W true a f) (he : ∀ whole, isTrue a X.env whole = (do let v ← whole; standAt a.pos; holding [v] (truthy v)) := by exact fun _ => rfl) : DT X W a (xTru f) := by
  refine pt_weak (pt_truth ha he) fun σ H Q ⟨Ω, ρ, e, k⟩ => ⟨Ω, ρ, e, (KM.bind k).imp fun d H' _ _ k v r => ?_⟩
  unfold D.tru at k
  split at k
  · simp only [Rep] at r; subst r; exact ⟨_, rfl, KM.ok k⟩
  · simp only [Rep] at r; subst r; exact ⟨_, rfl, KM.ok k⟩
  · simp only [Rep] at r; subst r; exact ⟨_, rfl, KM.ok k⟩
  · rename_i ds _
    obtain ⟨p, vs, e, _, q, rs⟩ := r.lst_inv
    subst e
    refine ⟨_, .inl ⟨vs, .inl (.inl q), rfl⟩, ?_⟩
    have e2 : vs.isEmpty = ds.isEmpty := by
      have := rs.length
      cases ds <;> cases vs <;> first | rfl | (simp at this)
    rw [e2]; exact KM.ok k
  · rename_i ds _
    obtain ⟨p, vs, e, q, rs⟩ := r.tup_inv
    subst e
    refine ⟨_, .inr (.inl ⟨vs, .inl (.inl q), rfl⟩), ?_⟩
    have e2 : vs.isEmpty = ds.isEmpty := by
      have := rs.length
      cases ds <;> cases vs <;> first | rfl | (simp at this)
    rw [e2]; exact KM.ok k
  · exact k.elim
theorem dt_cmp {op : CmpOp} {r : R2} {o : D → D → M D} (ho : OpR X (compareOp op) r) (s : Sv2 r o) (ha : DE X W m a f) (hb : DE X W m b g) (hm : behindInMarks op b = false) : DT X W (.Compare a [op] [b] pos) (bBl (x2 o f g)) := by
  refine pt_weak (pt_cmpR ho ha hb hm) fun σ H Q ⟨Ω, ρ, e, k⟩ => lift2 (m := m) s ⟨Ω, ρ, e, (KM.bind k).imp fun d H' _ _ k v r => ?_⟩
  split at k
  · exact ⟨_, r.bl_inv, KM.ok k⟩
  · exact k.elim
theorem dt_lt (ha : DE X W m a f) (hb : DE X W m b g) : DT X W (.Compare a [.Lt] [b] pos) (bBl (x2 dLt f g)) := dt_cmp op_lt sv_cmp ha hb (nomark _)
theorem dt_le (ha : DE X W m a f) (hb : DE X W m b g) : DT X W (.Compare a [.LtE] [b] pos) (bBl (x2 dLe f g)) := dt_cmp op_le sv_cmp ha hb (nomark _)
theorem dt_gt (ha : DE X W m a f) (hb : DE X W m b g) : DT X W (.Compare a [.Gt] [b] pos) (bBl (x2 dGt f g)) := dt_cmp op_gt sv_cmp ha hb (nomark _)
theorem dt_ge (ha : DE X W m a f) (hb : DE X W m b g) : DT X W (.Compare a [.GtE] [b] pos) (bBl (x2 dGe f g)) := dt_cmp op_ge sv_cmp ha hb (nomark _)
theorem sv_eq {K : PySem.W.Frag} : Sv2 (rEqD K) dEq := fun W Ω H x y v u Q _ rx ry k => by
  unfold dEq at k
  split at k
  · rename_i h
    have h := Bool.and_eq_true_iff.mp h
    exact ⟨_, _, Rep.dp x v (D.ok_of h.1).1 rx, Rep.dp y u (D.ok_of h.2).1 ry, (D.ok_of h.1).2, (D.ok_of h.2).2, KM.ok k _ Rep.bl_mk⟩
  · exact k.elim
theorem sv_ne {K : PySem.W.Frag} : Sv2 (rNeD K) dNe := fun W Ω H x y v u Q _ rx ry k => by
  unfold dNe at k
  split at k
  · rename_i h
    have h := Bool.and_eq_true_iff.mp h
    exact ⟨_, _, Rep.dp x v (D.ok_of h.1).1 rx, Rep.dp y u (D.ok_of h.2).1 ry, (D.ok_of h.1).2, (D.ok_of h.2).2, KM.ok k _ Rep.bl_mk⟩
  · exact k.elim
theorem dt_eq (hu : X.A.units + 64 < cLine) (ha : DE X W m a f) (hb : DE X W m b g) : DT X W (.Compare a [.Eq] [b] pos) (bBl (x2 dEq f g)) := dt_cmp (op_eqD hu) sv_eq ha hb (nomark _)
theorem dt_ne (hu : X.A.units + 64 < cLine) (ha : DE X W m a f) (hb : DE X W m b g) : DT X W (.Compare a [.NotEq] [b] pos) (bBl (x2 dNe f g)) := dt_cmp (op_neD hu) sv_ne ha hb (nomark _)
theorem sv_in {K : PySem.W.Frag} : Sv2 (fun x y H Q => rInD K x y H Q ∨ rInDT false K x y H Q) dIn := fun W Ω H x y v u Q _ rx ry k => by
  unfold dIn at k
  split at k
  · rename_i h
    have h := Bool.and_eq_true_iff.mp h
    have hd := Rep.dp (K := K) y u (D.ok_of h.2).1 ry
    have hs := (D.ok_of h.2).2
    split at k
    · simp only [D.toP] at hd hs
      exact .inl ⟨_, _, Rep.dp x v (D.ok_of h.1).1 rx, hd, (D.ok_of h.1).2, hs, KM.ok k _ Rep.bl_mk⟩
    · simp only [D.toP] at hd hs
      exact .inr ⟨_, _, Rep.dp x v (D.ok_of h.1).1 rx, hd, (D.ok_of h.1).2, hs, by rw [Bool.false_bne]; exact KM.ok k _ Rep.bl_mk⟩
    · exact k.elim
  · exact k.elim
theorem sv_notIn {K : PySem.W.Frag} : Sv2 (fun x y H Q => rNotInD K x y H Q ∨ rInDT true K x y H Q) dNotIn := fun W Ω H x y v u Q _ rx ry k => by
  unfold dNotIn at k
  split at k
  · rename_i h
    have h := Bool.and_eq_true_iff.mp h
    have hd := Rep.dp (K := K) y u (D.ok_of h.2).1 ry
    have hs := (D.ok_of h.2).2
    split at k
    · simp only [D.toP] at hd hs
      exact .inl ⟨_, _, Rep.dp x v (D.ok_of h.1).1 rx, hd, (D.ok_of h.1).2, hs, KM.ok k _ Rep.bl_mk⟩
    · simp only [D.toP] at hd hs
      exact .inr ⟨_, _, Rep.dp x v (D.ok_of h.1).1 rx, hd, (D.ok_of h.1).2, hs, by rw [Bool.true_bne]; exact KM.ok k _ Rep.bl_mk⟩
    · exact k.elim
  · exact k.elim
theorem dt_in (hu : X.A.units + 65 < cLine) (ha : DE X W m a f) (hb : DE X W m b g) (hm : behindInMarks .In b = false) : DT X W (.Compare a [.In] [b] pos) (bBl (x2 dIn f g)) := dt_cmp (.or (op_inD hu) (op_inDT hu)) sv_in ha hb hm
theorem dt_notIn (hu : X.A.units + 65 < cLine) (ha : DE X W m a f) (hb : DE X W m b g) (hm : behindInMarks .NotIn b = false) : DT X W (.Compare a [.NotIn] [b] pos) (bBl (x2 dNotIn f g)) := dt_cmp (.or (op_notInD hu) (op_notInDT hu)) sv_notIn ha hb hm
theorem dt_is (ha : DE X W m a f) (hb : DE X W m b g) : DT X W (.Compare a [.Is] [b] pos) (bBl (x2 dIs f g)) := dt_cmp op_isBl (fun W Ω H x y v u Q _ rx ry k => by
  unfold dIs at k
  split at k
  · exact ⟨_, _, rx.bl_inv, ry.bl_inv, KM.ok k _ Rep.bl_mk⟩
  · exact k.elim) ha hb (nomark _)
theorem dt_isNot (ha : DE X W m a f) (hb : DE X W m b g) : DT X W (.Compare a [.IsNot] [b] pos) (bBl (x2 dIsNot f g)) := dt_cmp op_notBl (fun W Ω H x y v u Q _ rx ry k => by
  unfold dIsNot at k
  split at k
  · exact ⟨_, _, rx.bl_inv, ry.bl_inv, KM.ok k _ Rep.bl_mk⟩
  · exact k.elim) ha hb (nomark _)
/-- a op1 b op2 c -/
theorem lift_chain {r r' : R2} {o o' : D → D → M D} (s : Sv2 r o) (s' : Sv2 r' o') {σ : L2.St} {H : Hp} {Q : VK} (hh : tD W m (xChain o o' f g h) σ H Q) : tChain r r' (tD W m f) (tD W m g) (tD W m h) σ H Q := by
  obtain ⟨Ω, ρ, e, k⟩ := hh
  refine ⟨Ω, ρ, e, (KM.bind k).imp fun x H1 _ s1 k1 v rv => ⟨Ω, ρ, e.same s1, (KM.bind k1).imp fun y H2 _ s2 k2 u ru => ?_⟩⟩
  have e2 := e.same (s1.trans s2)
  refine s W (mo m Ω) H2 x y v u _ (e2.hlm m) (Rep.le (.same s2 fun _ z => z) x v rv) ru ((KM.bind k2).imp fun z H3 _ s3 k3 zv rz => ?_)
  split at k3
  · rename_i kk _
    refine ⟨kk, rz.bl_inv, ?_⟩
    cases kk with
    | false =>
      rw [if_neg Bool.false_ne_true] at k3 ⊢
      exact KM.ok k3 _ Rep.bl_mk
    | true =>
      rw [if_pos rfl] at k3 ⊢
      refine ⟨Ω, ρ, e2.same s3, (KM.bind k3).imp fun t H4 _ s4 k4 tv rt => ?_⟩
      exact s' W (mo m Ω) H4 y t u tv _ (((e2.same s3).same s4).hlm m) (Rep.le (.same (s3.trans s4) fun _ z => z) y u ru) rt k4
  · exact k3.elim
theorem de_chain {op op' : CmpOp} {r r' : R2} {o o' : D → D → M D} (ho : OpR X (compareOp op) r) (ho' : OpR X (compareOp op') r') (s : Sv2 r o) (s' : Sv2 r' o') (ha : DE X W m a f) (hb : DE X W m b g) (hc : DE X W m c h)
    (hm : lastMarks [op, op'] [b, c] = false := by with_unfolding_all rfl) : DE X W m (.Compare a [op, op'] [b, c] pos) (xChain o o' f g h) :=
  pe_weak (pe_chain ho ho' ha hb hc hm) fun _ _ _ hh => lift_chain s s' hh
theorem dt_chain {op op' : CmpOp} {r r' : R2} {o o' : D → D → M D} (ho : OpR X (compareOp op) r) (ho' : OpR X (compareOp op') r') (s : Sv2 r o) (s' : Sv2 r' o') (ha : DE X W m a f) (hb : DE X W m b g) (hc : DE X W m c h)
    (hm : lastMarks [op, op'] [b, c] = false := by with_unfolding_all rfl) : DT X W (.Compare a [op, op'] [b, c] pos) (bBl (xChain o o' f g h)) := by
  refine pt_weak (pt_chain ho ho' ha hb hc hm) fun σ H Q ⟨Ω, ρ, e, k⟩ => lift_chain (m := m) s s' ⟨Ω, ρ, e, (KM.bind k).imp fun d H' _ _ k v r => ?_⟩
  split at k
  · exact ⟨_, r.bl_inv, KM.ok k⟩
  · exact k.elim
/-! ### and, or, not, if -/
variable {p q : Ev → M Bool} {rest : List Expr}
abbrev DW (X : Cx) (W : Addr → Hp → Prop) (e : Expr) (f : Ev → M Bool) : Prop := PW X e (tDT W f)
theorem dw_and1 (ha : DT X W a p) : DW X W (.BoolOp .And [a] pos) p := pw_and1 ha
theorem dw_or1 (ha : DT X W a p) : DW X W (.BoolOp .Or [a] pos) p := pw_or1 ha
theorem dw_and (ha : DT X W a p) (hb : DW X W (.BoolOp .And (b :: rest) pos) q) : DW X W (.BoolOp .And (a :: b :: rest) pos) (bAnd p q) := by
  refine pw_weak (pw_and ha hb) fun σ H Q ⟨Ω, ρ, e, k⟩ => ⟨Ω, ρ, e, (KM.bind k).imp fun x H1 _ s1 k1 => ?_⟩
  cases x with
  | true => rw [if_pos rfl] at k1 ⊢; exact ⟨Ω, ρ, e.same s1, k1⟩
  | false => rw [if_neg Bool.false_ne_true] at k1 ⊢; exact KM.ok k1
theorem dw_or (ha : DT X W a p) (hb : DW X W (.BoolOp .Or (b :: rest) pos) q) : DW X W (.BoolOp .Or (a :: b :: rest) pos) (bOr p q) := by
  refine pw_weak (pw_or ha hb) fun σ H Q ⟨Ω, ρ, e, k⟩ => ⟨Ω, ρ, e, (KM.bind k).imp fun x H1 _ s1 k1 => ?_⟩
  cases x with
  | true => rw [if_pos rfl] at k1 ⊢; exact KM.ok k1
  | false => rw [if_neg Bool.false_ne_true] at k1 ⊢; exact ⟨Ω, ρ, e.same s1, k1⟩
theorem dt_not (ha : DT X W a p) : DT X W (.UnaryOp .Not a pos) (bNot p) := by
  refine pt_weak (pt_not ha) fun σ H Q ⟨Ω, ρ, e, k⟩ => ⟨Ω, ρ, e, (KM.bind k).imp fun x H1 _ s1 k1 => KM.ok k1⟩
theorem de_one {op : BoolOp} (ha : DE X W m a f) : DE X W m (.BoolOp op [a] pos) f := pe_one ha
theorem de_and (ha : DE X W m a f) (hb : DE X W m (.BoolOp .And (b :: rest) pos) g) : DE X W m (.BoolOp .And (a :: b :: rest) pos) (xAnd f g) := by
  refine pe_weak (pe_and ha hb) fun σ H Q ⟨Ω, ρ, e, k⟩ => ⟨Ω, ρ, e, (KM.bind k).imp fun x H1 _ s1 k1 v r => ?_⟩
  split at k1
  · rename_i kk _
    refine ⟨kk, r.bl_inv, ?_⟩
    cases kk with
    | true => rw [if_pos rfl] at k1 ⊢; exact ⟨Ω, ρ, e.same s1, k1⟩
    | false => rw [if_neg Bool.false_ne_true] at k1 ⊢; exact KM.ok k1 _ Rep.bl_mk
  · exact k1.elim
theorem de_or (ha : DE X W m a f) (hb : DE X W m (.BoolOp .Or (b :: rest) pos) g) : DE X W m (.BoolOp .Or (a :: b :: rest) pos) (xOr f g) := by
  refine pe_weak (pe_or ha hb) fun σ H Q ⟨Ω, ρ, e, k⟩ => ⟨Ω, ρ, e, (KM.bind k).imp fun x H1 _ s1 k1 v r => ?_⟩
  split at k1
  · rename_i kk _
    refine ⟨kk, r.bl_inv, ?_⟩
    cases kk with
    | true => rw [if_pos rfl] at k1 ⊢; exact KM.ok k1 _ Rep.bl_mk
    | false => rw [if_neg Bool.false_ne_true] at k1 ⊢; exact ⟨Ω, ρ, e.same s1, k1⟩
  · exact k1.elim
theorem de_not (ha : DE X W m a f) : DE X W m (.UnaryOp .Not a pos) (xNot f) := by
  refine pe_weak (pe_not ha) fun σ H Q ⟨Ω, ρ, e, k⟩ => ⟨Ω, ρ, e, (KM.bind k).imp fun x H1 _ s1 k1 v r => ?_⟩
  split at k1
  · exact ⟨_, r.bl_inv, KM.ok k1 _ Rep.bl_mk⟩
  · exact k1.elim
theorem de_if (hc : DT X W c p) (ha : DE X W m a f) (hb : DE X W m b g) : DE X W m (.IfExp c a b pos) (xIf p f g) := by
  refine pe_weak (pe_ifExp hc ha hb) fun σ H Q ⟨Ω, ρ, e, k⟩ => ⟨Ω, ρ, e, (KM.bind k).imp fun x H1 _ s1 k1 => ?_⟩
  cases x with
  | true => rw [if_pos rfl] at k1 ⊢; exact ⟨Ω, ρ, e.same s1, k1⟩
  | false => rw [if_neg Bool.false_ne_true] at k1 ⊢; exact ⟨Ω, ρ, e.same s1, k1⟩
/-! ### arguments, displays -/
theorem da_nil : DA X W m [] xNil := pa_weak pa_nil fun σ H Q ⟨Ω, ρ, e, k⟩ => KM.ok k [] Reps.nil
theorem da_cons (ha : DE X W m a f) (hr : DA X W m es fs) (hs : starEach (a :: es) X.env = (false, eval a X.env) :: starEach es X.env := by rfl) : DA X W m (a :: es) (xCons f fs) := by
  refine pa_weak (pa_cons ha hr hs) fun σ H Q ⟨Ω, ρ, e, k⟩ => ⟨Ω, ρ, e, (KM.bind k).imp fun x H1 _ s1 k1 v r => ⟨Ω, ρ, e.same s1, (KM.bind k1).imp fun xs H2 _ s2 k2 vs rs => ?_⟩⟩
  exact KM.ok k2 (v :: vs) (Reps.cons (Rep.le (.same s2 fun _ z => z) _ _ r) rs)
def lTup (xs : List D) : M D := if xs.length ≤ sizeLine then .ok (.tup xs) else .und
def lLst (xs : List D) : M (List D) := if xs.length ≤ sizeLine then .ok xs else .und
theorem no_fresh {Ω : Addr → Prop} {H : Hp} (hl : ∀ a, Ω a → ∃ vs, H a = some (.lst vs)) {p : Addr} (hp : H p = none) : ¬ Ω p := fun z => by
  obtain ⟨ws, q⟩ := hl p z
  rw [hp] at q; cases q
theorem de_tup {x1} (ha : DA X W m es fs) : DE X W m (.Tuple es x1 pos) (xAll lTup fs) := by
  refine pe_weak (pe_tup ha) fun σ H Q ⟨Ω, ρ, e, k⟩ => ⟨Ω, ρ, e, (KM.bind k).imp fun xs H1 _ s1 k1 vs rs => ?_⟩
  unfold lTup at k1
  split at k1
  · rename_i hz
    refine ⟨by rw [← rs.length]; exact hz, fun l hl => ?_⟩
    exact k1 _ (same_upd hl) _ (Rep.tup_mk upd_same (Reps.le (.same (same_upd hl) fun _ z => z) _ _ rs))
  · exact k1.elim
theorem df_lst (ha : DA X W m es fs) : DF X W m (.List es pos) (xAll lLst fs) := by
  refine pe_weak (pe_lst ha) fun σ H Q ⟨Ω, ρ, e, k⟩ => ⟨Ω, ρ, e, (KM.bind k).imp fun xs H1 _ s1 k1 vs rs => ?_⟩
  unfold lLst at k1
  split at k1
  · rename_i hz
    refine ⟨by rw [← rs.length]; exact hz, fun l hl => ?_⟩
    exact k1 _ (same_upd hl) l vs (s1.free hl) upd_same (Reps.le (.fresh (same_upd hl) hl) _ _ rs)
  · exact k1.elim
def xLst (f : Ev → M (List D)) : Ev → M D := fun ρ => (f ρ).bind fun ds => .ok (.lst ds)
theorem tDF_tD {f : Ev → M (List D)} {σ : L2.St} {H : Hp} {Q : VK} (hh : tD W m (xLst f) σ H Q) : tDF W m f σ H Q := by
  obtain ⟨Ω, ρ, e, k⟩ := hh
  refine ⟨Ω, ρ, e, (KM.bind k).imp fun ds H' _ s k p vs hp hp' rs => ?_⟩
  exact KM.ok k _ (Rep.lst_mk (no_fresh (e.hlm m) hp) hp' (Reps.le (.sub fun _ z => .inr z) _ _ rs))
theorem de_df {f : Ev → M (List D)} (ha : DF X W m a f) : DE X W m a (xLst f) := pe_weak ha fun _ _ _ hh => tDF_tD hh
/-! ### built-in functions -/
def SvL (r : List V → Hp → VK → Prop) (op : List D → M D) : Prop := ∀ (W : Addr → Hp → Prop) (Ω : Addr → Prop) (H : Hp) (xs : List D) (vs : List V) (Q : VK), (∀ a, Ω a → ∃ vs, H a = some (.lst vs)) → Reps Ω H xs vs → KM W (op xs) H (fun d H' => ∀ z, Rep Ω H' d z → Q z H') → r vs H Q
theorem liftL {r : List V → Hp → VK → Prop} {op : List D → M D} (s : SvL r op) {σ : L2.St} {H : Hp} {Q : VK} (hh : tD W m (xAll op fs) σ H Q) : tCB r (tDA W m fs) σ H Q := by
  obtain ⟨Ω, ρ, e, k⟩ := hh
  exact ⟨Ω, ρ, e, (KM.bind k).imp fun xs H1 _ s1 k1 vs rs => s W (mo m Ω) H1 xs vs Q ((e.same s1).hlm m) rs k1⟩
variable {x : Str} {pf : Pos} {id : String}
theorem de_callB {r : List V → Hp → VK → Prop} {op : List D → M D} (hc : CallR X (.builtin id) r) (s : SvL r op) (hg : Gl X x) (hm : X.mg x = none) (hv : bootBuiltins x = some (.builtin id)) (ha : DA X W m (a :: es) fs) (hn : x ≠ "__name__" := by decide) (hdb : (x == ("__debug__" : Str)) = false := by decide)
    (he : starEach (a :: es) X.env = (false, eval a X.env) :: starEach es X.env := by rfl) (hpl : (backTo pos (starEach es X.env)).any (·.1) = false := by rfl) : DE X W m (.Call (.Name x pf) (a :: es) [] pos) (xAll op fs) :=
  pe_weak (pe_callB hc hg hm hv ha hn hdb he hpl) fun _ _ _ hh => liftL s hh
theorem de_callTy {r : List V → Hp → VK → Prop} {op : List D → M D} (hc : CallR X (.type id) r) (s : SvL r op) (hg : Gl X x) (hm : X.mg x = none) (hv : bootBuiltins x = some (.type id)) (ha : DA X W m (a :: es) fs) (hn : x ≠ "__name__" := by decide) (hdb : (x == ("__debug__" : Str)) = false := by decide)
    (he : starEach (a :: es) X.env = (false, eval a X.env) :: starEach es X.env := by rfl) (hpl : (backTo pos (starEach es X.env)).any (·.1) = false := by rfl) : DE X W m (.Call (.Name x pf) (a :: es) [] pos) (xAll op fs) :=
  pe_weak (pe_callTy hc hg hm hv ha hn hdb he hpl) fun _ _ _ hh => liftL s hh
theorem Reps.one {Ω : Addr → Prop} {H : Hp} {d : D} {vs : List V} (r : Reps Ω H [d] vs) : ∃ v, vs = [v] ∧ Rep Ω H d v := by
  simp only [Reps] at r
  obtain ⟨v, t, e, r1, r2⟩ := r
  subst r2
  exact ⟨v, e, r1⟩
theorem Reps.two {Ω : Addr → Prop} {H : Hp} {d e : D} {vs : List V} (r : Reps Ω H [d, e] vs) : ∃ v u, vs = [v, u] ∧ Rep Ω H d v ∧ Rep Ω H e u := by
  simp only [Reps] at r
  obtain ⟨v, t, e, r1, u, t2, e2, r2, r3⟩ := r
  subst r3 e2
  exact ⟨v, u, e, r1, r2⟩
def dLen : List D → M D
  | [.lst ds] => .ok (.int ds.length)
  | [.tup ds] => .ok (.int ds.length)
  | _ => .und
theorem sv_len {K : PySem.W.Frag} : SvL (fun xs H Q => ∃ p ys, xs = [.ref p] ∧ (SqL K H p ys ∨ SqT K H p ys) ∧ Q (.int ys.length) H) dLen := by
  intro W Ω H xs vs Q hl rs k
  unfold dLen at k
  split at k
  · obtain ⟨v, e, r⟩ := rs.one
    obtain ⟨p, us, e2, _, q, rr⟩ := r.lst_inv
    subst e e2
    exact ⟨p, us, rfl, .inl (.inl (.inl q)), by rw [← rr.length]; exact KM.ok k _ Rep.int_mk⟩
  · obtain ⟨v, e, r⟩ := rs.one
    obtain ⟨p, us, e2, q, rr⟩ := r.tup_inv
    subst e e2
    exact ⟨p, us, rfl, .inr (.inl (.inl q)), by rw [← rr.length]; exact KM.ok k _ Rep.int_mk⟩
  · exact k.elim
theorem de_len (hg : Gl X "len") (hm : X.mg "len" = none) (ha : DA X W m [a] fs)
    (he : starEach [a] X.env = (false, eval a X.env) :: starEach [] X.env := by rfl) (hpl : (backTo pos (starEach [] X.env)).any (·.1) = false := by rfl) : DE X W m (.Call (.Name "len" pf) [a] [] pos) (xAll dLen fs) :=
  de_callB call_len_seq sv_len hg hm PySem.boot_len ha (by decide) (by decide) he hpl
def intsOf : List D → Option (List Int)
  | [] => some []
  | .int i :: r => (intsOf r).map (i :: ·)
  | _ => none
def blsOf : List D → Option (List Bool)
  | [] => some []
  | .bl i :: r => (blsOf r).map (i :: ·)
  | _ => none
theorem intsOf_rep {Ω : Addr → Prop} {H : Hp} : ∀ {ds : List D} {vs : List V} {is : List Int}, intsOf ds = some is → Reps Ω H ds vs → vs = is.map V.int
  | [], vs, is, e, r => by
    simp only [Reps] at r
    cases e
    exact r
  | .int i :: ds, vs, is, e, r => by
    unfold intsOf at e
    simp only [Reps] at r
    obtain ⟨v, t, e1, r1, r2⟩ := r
    cases q : intsOf ds with
    | none => rw [q] at e; cases e
    | some js =>
      rw [q] at e
      cases e
      rw [e1, r1.int_inv, intsOf_rep q r2]
      rfl
  | .non :: _, _, _, e, _ => by cases e
  | .bl _ :: _, _, _, e, _ => by cases e
  | .str _ :: _, _, _, e, _ => by cases e
  | .tup _ :: _, _, _, e, _ => by cases e
  | .lst _ :: _, _, _, e, _ => by cases e
  | .fn _ :: _, _, _, e, _ => by cases e
  | .ty _ :: _, _, _, e, _ => by cases e
  | .dic :: _, _, _, e, _ => by cases e
  | .scr _ _ :: _, _, _, e, _ => by cases e
  | .ins _ _ _ :: _, _, _, e, _ => by cases e
theorem blsOf_rep {Ω : Addr → Prop} {H : Hp} : ∀ {ds : List D} {vs : List V} {is : List Bool}, blsOf ds = some is → Reps Ω H ds vs → vs = is.map V.bl
  | [], vs, is, e, r => by
    simp only [Reps] at r
    cases e
    exact r
  | .bl i :: ds, vs, is, e, r => by
    unfold blsOf at e
    simp only [Reps] at r
    obtain ⟨v, t, e1, r1, r2⟩ := r
    cases q : blsOf ds with
    | none => rw [q] at e; cases e
    | some js =>
      rw [q] at e
      cases e
      rw [e1, r1.bl_inv, blsOf_rep q r2]
      rfl
  | .non :: _, _, _, e, _ => by cases e
  | .int _ :: _, _, _, e, _ => by cases e
  | .str _ :: _, _, _, e, _ => by cases e
  | .tup _ :: _, _, _, e, _ => by cases e
  | .lst _ :: _, _, _, e, _ => by cases e
  | .fn _ :: _, _, _, e, _ => by cases e
  | .ty _ :: _, _, _, e, _ => by cases e
  | .dic :: _, _, _, e, _ => by cases e
  | .scr _ _ :: _, _, _, e, _ => by cases e
  | .ins _ _ _ :: _, _, _, e, _ => by cases e
def dSum : List D → M D
  | [.lst ds] => (ofO (intsOf ds)).bind fun is => .ok (.int is.sum)
  | _ => .und
def dAny : List D → M D
  | [.lst ds] => (ofO (blsOf ds)).bind fun is => .ok (.bl (is.any _root_.id))
  | _ => .und
def dAll : List D → M D
  | [.lst ds] => (ofO (blsOf ds)).bind fun is => .ok (.bl (is.all _root_.id))
  | _ => .und
theorem sv_sum {K : PySem.W.Frag} : SvL (rSum K) dSum := by
  intro W Ω H xs vs Q hl rs k
  unfold dSum at k
  split at k
  · rename_i ds
    obtain ⟨v, e, r⟩ := rs.one
    obtain ⟨p, us, e2, _, q, rr⟩ := r.lst_inv
    subst e e2
    cases hi : intsOf ds with
    | none => rw [hi] at k; exact k.elim
    | some is =>
      rw [hi] at k
      rw [intsOf_rep hi rr] at q
      exact ⟨p, is, rfl, .inl (.inl q), KM.ok (KM.bind k).ok _ Rep.int_mk⟩
  · exact k.elim
theorem sv_any {K : PySem.W.Frag} : SvL (rAny K) dAny := by
  intro W Ω H xs vs Q hl rs k
  unfold dAny at k
  split at k
  · rename_i ds
    obtain ⟨v, e, r⟩ := rs.one
    obtain ⟨p, us, e2, _, q, rr⟩ := r.lst_inv
    subst e e2
    cases hi : blsOf ds with
    | none => rw [hi] at k; exact k.elim
    | some is =>
      rw [hi] at k
      rw [blsOf_rep hi rr] at q
      exact ⟨p, is, rfl, .inl (.inl q), KM.ok (KM.bind k).ok _ Rep.bl_mk⟩
  · exact k.elim
theorem sv_all {K : PySem.W.Frag} : SvL (rAll K) dAll := by
  intro W Ω H xs vs Q hl rs k
  unfold dAll at k
  split at k
  · rename_i ds
    obtain ⟨v, e, r⟩ := rs.one
    obtain ⟨p, us, e2, _, q, rr⟩ := r.lst_inv
    subst e e2
    cases hi : blsOf ds with
    | none => rw [hi] at k; exact k.elim
    | some is =>
      rw [hi] at k
      rw [blsOf_rep hi rr] at q
      exact ⟨p, is, rfl, .inl (.inl q), KM.ok (KM.bind k).ok _ Rep.bl_mk⟩
  · exact k.elim
theorem de_sum (hc : X.calm = true) (hg : Gl X "sum") (hm : X.mg "sum" = none) (ha : DA X W m [a] fs)
    (he : starEach [a] X.env = (false, eval a X.env) :: starEach [] X.env := by rfl) (hpl : (backTo pos (starEach [] X.env)).any (·.1) = false := by rfl) : DE X W m (.Call (.Name "sum" pf) [a] [] pos) (xAll dSum fs) :=
  de_callB (cr_sum hc) sv_sum hg hm PyProof.Rows.boot_sum ha (by decide) (by decide) he hpl
theorem de_any (hc : X.calm = true) (hg : Gl X "any") (hm : X.mg "any" = none) (ha : DA X W m [a] fs)
    (he : starEach [a] X.env = (false, eval a X.env) :: starEach [] X.env := by rfl) (hpl : (backTo pos (starEach [] X.env)).any (·.1) = false := by rfl) : DE X W m (.Call (.Name "any" pf) [a] [] pos) (xAll dAny fs) :=
  de_callB (cr_any hc) sv_any hg hm PyProof.Rows.boot_any ha (by decide) (by decide) he hpl
theorem de_all (hc : X.calm = true) (hg : Gl X "all") (hm : X.mg "all" = none) (ha : DA X W m [a] fs)
    (he : starEach [a] X.env = (false, eval a X.env) :: starEach [] X.env := by rfl) (hpl : (backTo pos (starEach [] X.env)).any (·.1) = false := by rfl) : DE X W m (.Call (.Name "all" pf) [a] [] pos) (xAll dAll fs) :=
  de_callB (cr_all hc) sv_all hg hm PyProof.Rows.boot_all ha (by decide) (by decide) he hpl
/-- tuple(list or tuple) -/
def dTuple : List D → M D
  | [.lst ds] => .ok (.tup ds)
  | [.tup ds] => .ok (.tup ds)
  | _ => .und
theorem sv_tuple {K : PySem.W.Frag} : SvL (fun xs H Q => ∃ p ys, xs = [.ref p] ∧ ((SqL K H p ys ∧ ∀ l, H l = none → Q (.ref l) (upd H l (.tup ys))) ∨ (SqT K H p ys ∧ Q (.ref p) H))) dTuple := by
  intro W Ω H xs vs Q hl rs k
  unfold dTuple at k
  split at k
  · obtain ⟨v, e, r⟩ := rs.one
    obtain ⟨p, us, e2, _, q, rr⟩ := r.lst_inv
    subst e e2
    exact ⟨p, us, rfl, .inl ⟨.inl (.inl q), fun l hl => k _ (same_upd hl) _ (Rep.tup_mk upd_same (Reps.le (.same (same_upd hl) fun _ z => z) _ _ rr))⟩⟩
  · obtain ⟨v, e, r⟩ := rs.one
    obtain ⟨p, us, e2, q, rr⟩ := r.tup_inv
    subst e e2
    exact ⟨p, us, rfl, .inr ⟨.inl (.inl q), KM.ok k _ (Rep.tup_mk q rr)⟩⟩
  · exact k.elim
theorem de_tuple (hg : Gl X "tuple") (hm : X.mg "tuple" = none) (ha : DA X W m [a] fs)
    (he : starEach [a] X.env = (false, eval a X.env) :: starEach [] X.env := by rfl) (hpl : (backTo pos (starEach [] X.env)).any (·.1) = false := by rfl) : DE X W m (.Call (.Name "tuple" pf) [a] [] pos) (xAll dTuple fs) :=
  de_callTy call_tuple_of sv_tuple hg hm PyProof.Rows.boot_tuple ha (by decide) (by decide) he hpl
/-- list(list or tuple): a new list -/
def dListF : List D → M (List D)
  | [.lst ds] => .ok ds
  | [.tup ds] => .ok ds
  | _ => .und
theorem df_list (hg : Gl X "list") (hm : X.mg "list" = none) (ha : DA X W m [a] fs)
    (he : starEach [a] X.env = (false, eval a X.env) :: starEach [] X.env := by rfl) (hpl : (backTo pos (starEach [] X.env)).any (·.1) = false := by rfl) : DF X W m (.Call (.Name "list" pf) [a] [] pos) (xAll dListF fs) := by
  refine pe_weak (pe_callTy call_list_of hg hm PyProof.Rows.boot_list ha (by decide) (by decide) he hpl) fun σ H Q ⟨Ω, ρ, e, k⟩ => ⟨Ω, ρ, e, (KM.bind k).imp fun xs H1 _ s1 k1 vs rs => ?_⟩
  unfold dListF at k1
  split at k1
  · obtain ⟨v, e, r⟩ := rs.one
    obtain ⟨p, us, e2, _, q, rr⟩ := r.lst_inv
    subst e e2
    exact ⟨p, us, rfl, .inl (.inl (.inl q)), fun l hl => k1 _ (same_upd hl) l us (s1.free hl) upd_same (Reps.le (.fresh (same_upd hl) hl) _ _ rr)⟩
  · obtain ⟨v, e, r⟩ := rs.one
    obtain ⟨p, us, e2, q, rr⟩ := r.tup_inv
    subst e e2
    exact ⟨p, us, rfl, .inr (.inl (.inl q)), fun l hl => k1 _ (same_upd hl) l us (s1.free hl) upd_same (Reps.le (.fresh (same_upd hl) hl) _ _ rr)⟩
  · exact k1.elim
/-- isinstance with a built-in class -/
inductive T4 where | int | bool | tup | lst
def T4.name : T4 → String
  | .int => "int" | .bool => "bool" | .tup => "tuple" | .lst => "list"
def isT : D → T4 → M D
  | .non, _ => .ok (.bl false)
  | .bl _, .int => .ok (.bl true)
  | .bl _, .bool => .ok (.bl true)
  | .bl _, _ => .ok (.bl false)
  | .int _, .int => .ok (.bl true)
  | .int _, _ => .ok (.bl false)
  | .str _, _ => .ok (.bl false)
  | .tup _, .tup => .ok (.bl true)
  | .tup _, _ => .ok (.bl false)
  | .lst _, .lst => .ok (.bl true)
  | .lst _, _ => .ok (.bl false)
  | .dic, _ => .ok (.bl false)
  | _, _ => .und
def tyOf : D → String
  | .non => "NoneType" | .bl _ => "bool" | .int _ => "int" | .str _ => "str" | .tup _ => "tuple" | .lst _ => "list" | _ => "dict"
theorem kit4 : (["NoneType", "bool", "int", "str", "tuple", "list", "dict"].all fun a => [T4.int, .bool, .tup, .lst].all fun T => kitB a T.name == some ((a == T.name) || (a == "bool" && T.name == "int"))) = true := by decide +kernel
theorem kit_at {a : String} (ha : a ∈ ["NoneType", "bool", "int", "str", "tuple", "list", "dict"]) (T : T4) : kitB a T.name = some ((a == T.name) || (a == "bool" && T.name == "int")) := by
  have h := List.all_eq_true.mp kit4 a ha
  have h2 := List.all_eq_true.mp h T (by cases T <;> simp)
  exact beq_iff_eq.mp h2
theorem isT_kit {d : D} {T : T4} {e : D} (h : isT d T = .ok e) : ∃ b, e = .bl b ∧ kitB (tyOf d) T.name = some b := by
  refine ⟨((tyOf d == T.name) || (tyOf d == "bool" && T.name == "int")), ?_, kit_at (by cases d <;> simp [tyOf]) T⟩
  cases d <;> cases T <;> first
    | (simp only [isT] at h; cases h; rfl)
    | (simp only [isT] at h; cases h)
theorem isT_ty {K : PySem.W.Frag} {Ω : Addr → Prop} {H : Hp} {d : D} {v : V} {T : T4} {e : D} (h : isT d T = .ok e) (r : Rep Ω H d v) : TyX K H v (.type (tyOf d)) := by
  cases d with
  | non => simp only [Rep] at r; subst r; exact .base .non
  | bl b => simp only [Rep] at r; subst r; exact .base (.bl b)
  | int b => simp only [Rep] at r; subst r; exact .base (.int b)
  | str b => simp only [Rep] at r; subst r; exact .base (.str b)
  | tup ds =>
    obtain ⟨p, us, e2, q, rr⟩ := r.tup_inv
    subst e2
    exact .base (.tup q)
  | lst ds =>
    obtain ⟨p, us, e2, _, q, rr⟩ := r.lst_inv
    subst e2
    exact .base (.lst q)
  | dic =>
    simp only [Rep] at r
    obtain ⟨a, e2, q⟩ := r
    subst e2
    exact .base (.dK q)
  | fn _ => simp only [isT] at h; cases h
  | ty _ => simp only [isT] at h; cases h
  | scr _ _ => simp only [isT] at h; cases h
  | ins _ _ _ => simp only [isT] at h; cases h
def dIsT (T : T4) : List D → M D
  | [d, .ty n] => if n = T.name then isT d T else .und
  | _ => .und
theorem sv_isT {K : PySem.W.Frag} {T : T4} : SvL (rIsi K) (dIsT T) := by
  intro W Ω H xs vs Q hl rs k
  unfold dIsT at k
  split at k
  · rename_i d n
    split at k
    · rename_i hn
      subst hn
      obtain ⟨v, u, e, r1, r2⟩ := rs.two
      simp only [Rep] at r2
      subst e r2
      cases q : isT d T with
      | und => rw [q] at k; exact k.elim
      | ex c => exfalso; cases d <;> cases T <;> (simp only [isT] at q; cases q)
      | ok e =>
        rw [q] at k
        obtain ⟨b, e1, e2⟩ := isT_kit q
        subst e1
        exact ⟨v, .ty T.name, .type (tyOf d), .type T.name, b, rfl, .ty _, isT_ty q r1, kit_ty e2, KM.ok k _ Rep.bl_mk⟩
    · exact k.elim
  · exact k.elim
theorem de_isT (T : T4) (hg : Gl X "isinstance") (hm : X.mg "isinstance" = none) (ha : DA X W m [a, b] fs)
    (he : starEach [a, b] X.env = (false, eval a X.env) :: starEach [b] X.env := by rfl) (hpl : (backTo pos (starEach [b] X.env)).any (·.1) = false := by rfl) : DE X W m (.Call (.Name "isinstance" pf) [a, b] [] pos) (xAll (dIsT T) fs) :=
  de_callB call_isi sv_isT hg hm PyProof.Rows.boot_isinstance ha (by decide) (by decide) he hpl
/-- int(bool or int) -/
def dInt1 : List D → M D
  | [.int i] => .ok (.int i)
  | [.bl k] => .ok (.int (if k then 1 else 0))
  | _ => .und
theorem de_int1 (hg : Gl X "int") (hm : X.mg "int" = none) (ha : DA X W m [a] fs)
    (he : starEach [a] X.env = (false, eval a X.env) :: starEach [] X.env := by rfl) (hpl : (backTo pos (starEach [] X.env)).any (·.1) = false := by rfl) : DE X W m (.Call (.Name "int" pf) [a] [] pos) (xAll dInt1 fs) :=
  de_callTy call_int1 (fun W Ω H xs vs Q hl rs k => by
    unfold dInt1 at k
    split at k
    · obtain ⟨v, e, r⟩ := rs.one
      subst e
      rw [r.int_inv]
      exact .inl ⟨_, rfl, KM.ok k _ Rep.int_mk⟩
    · obtain ⟨v, e, r⟩ := rs.one
      subst e
      rw [r.bl_inv]
      exact .inr ⟨_, rfl, KM.ok k _ Rep.int_mk⟩
    · exact k.elim) hg hm PyProof.Rows.boot_int ha (by decide) (by decide) he hpl
/-! ### a def called -/
def EW (W : Addr → Hp → Prop) : XK := fun cls d H => ∃ c, cls = .ref c ∧ d = none ∧ W c H
/-- the promise of a def whose pure function is f -/
def spD (n : Nat) (f : Fn) : Sp := fun vs H Q E => ∃ Ω ds, (∀ a, Ω a → ∃ ys, H a = some (.lst ys)) ∧ Reps Ω H ds vs ∧ ds.length = n ∧
  KM (fun c H' => E (.ref c) none H') (f ds) H (fun d H' => ∀ v, Rep Ω H' d v → Q v H')
theorem KM.wish {α : Type} {W W' : Addr → Hp → Prop} {r : M α} {H : Hp} {k : α → Hp → Prop} (h : KM W r H k) (w : ∀ c H', W c H' → W' c H') : KM W' r H k := by
  cases r with
  | und => exact h
  | ex c => exact fun H' s => w c H' (h H' s)
  | ok a => exact h
variable {CX : CXT} {k n : Nat} {fa : Addr} {fd : FuncData} {ps : List Str} {F : Fn}
theorem de_call (G : FnOk X.prog X.w X.K X.mg X.base CX k fa fd ps (spD n F)) (hr : Room k X.A) (hg : Gl X x) (hm : X.mg x = some (.ref fa)) (hk : PySem.W.keepIn X.K (.ref fa) = true) (hb : Binds X.K fd ps []) (hn : n = (a :: es).length) (hx : Passes CX X (EW W))
    (ha : DA X W m (a :: es) fs) (hdb : (x == ("__debug__" : Str)) = false := by decide) (he : starEach (a :: es) X.env = (false, eval a X.env) :: starEach es X.env := by rfl) (hpl : (backTo pos (starEach es X.env)).any (·.1) = false := by rfl) :
    DE X W m (.Call (.Name x pf) (a :: es) [] pos) (xAll (fun ds => if ds.length = n then F ds else .und) fs) := by
  refine pe_weak (pe_call G hr hg hm hk hb .nil hx ha hdb he hpl) fun σ H Q ⟨Ω, ρ, e, k⟩ => ⟨Ω, ρ, e, (KM.bind k).imp fun xs H1 _ s1 k1 vs rs => ?_⟩
  split at k1
  · rename_i hl
    rw [List.append_nil]
    exact ⟨mo m Ω, xs, (e.same s1).hlm m, rs, hl, k1.wish fun c H' w => ⟨c, rfl, rfl, w⟩⟩
  · exact k1.elim
end
end DI
set_option maxRecDepth 100000
/-! DI4: what is walked, targets, comprehensions. -/
namespace DI
open PySem PySem.Spec PyProof.Rows L2
structure WalkD (J : It) (items : List D) (Γ : List (D × V)) : Prop where
  go : ∀ (Ω : Addr → Prop) (H : Hp) (i : Nat), i < items.length → (∀ g ∈ Γ, Rep Ω H g.1 g.2) → J.go i H
  stop : ∀ (Ω : Addr → Prop) (H : Hp), (∀ g ∈ Γ, Rep Ω H g.1 g.2) → J.stop items.length H
  yld : ∀ (Ω : Addr → Prop) (H : Hp) (i : Nat) (x : V) (H' : Hp), i < items.length → (∀ g ∈ Γ, Rep Ω H g.1 g.2) → J.yld i H x H' → Same H H' ∧ ∀ d, items[i]? = some d → Rep Ω H' d x
def tDI (W : Addr → Hp → Prop) (m : Bool) (f : Ev → M (List D)) : TI := fun σ H R => ∃ Ω ρ, EI Ω ρ σ H ∧ KM W (f ρ) H (fun items H' => ∀ J Γ, WalkD J items Γ → (∀ g ∈ Γ, Rep (mo m Ω) H' g.1 g.2) → R J H')
abbrev DIt (X : Cx) (W : Addr → Hp → Prop) (m : Bool) (tg e : Expr) (f : Ev → M (List D)) : Prop := PI X tg e (tDI W m f)
section
variable {K : PySem.W.Frag} {a b : Addr}
theorem walkD_list {ds : List D} : WalkD (Itl K a) ds [(.lst ds, .ref a)] := by
  have get : ∀ {Ω : Addr → Prop} {H : Hp}, (∀ g ∈ [((D.lst ds), V.ref a)], Rep Ω H g.1 g.2) → ∃ vs, H a = some (.lst vs) ∧ Reps Ω H ds vs := fun {Ω H} h => by
    obtain ⟨p, vs, e, _, q, r⟩ := (h _ List.mem_cons_self).lst_inv
    cases e
    exact ⟨vs, q, r⟩
  refine ⟨fun Ω H i hi h => ?_, fun Ω H h => ?_, fun Ω H i x H' hi h y => ?_⟩
  · obtain ⟨vs, q, r⟩ := get h
    have hl : i < vs.length := by rw [← r.length]; exact hi
    exact ⟨vs, vs[i], .inl (.inl q), List.getElem?_eq_getElem hl⟩
  · obtain ⟨vs, q, r⟩ := get h
    exact ⟨vs, .inl (.inl q), by rw [r.length]; exact Nat.le_refl _⟩
  · obtain ⟨vs, q, r⟩ := get h
    obtain ⟨e, y⟩ := y
    subst e
    refine ⟨Same.refl _, fun d hd => ?_⟩
    obtain ⟨v, h1, h2⟩ := r.get hd
    rw [y vs (.inl (.inl q))] at h1
    cases h1
    exact h2
theorem walkD_tup {ds : List D} : WalkD (Itt K a) ds [(.tup ds, .ref a)] := by
  have get : ∀ {Ω : Addr → Prop} {H : Hp}, (∀ g ∈ [((D.tup ds), V.ref a)], Rep Ω H g.1 g.2) → ∃ vs, H a = some (.tup vs) ∧ Reps Ω H ds vs := fun {Ω H} h => by
    obtain ⟨p, vs, e, q, r⟩ := (h _ List.mem_cons_self).tup_inv
    cases e
    exact ⟨vs, q, r⟩
  refine ⟨fun Ω H i hi h => ?_, fun Ω H h => ?_, fun Ω H i x H' hi h y => ?_⟩
  · obtain ⟨vs, q, r⟩ := get h
    have hl : i < vs.length := by rw [← r.length]; exact hi
    exact ⟨vs, vs[i], .inl (.inl q), List.getElem?_eq_getElem hl⟩
  · obtain ⟨vs, q, r⟩ := get h
    exact ⟨vs, .inl (.inl q), by rw [r.length]; exact Nat.le_refl _⟩
  · obtain ⟨vs, q, r⟩ := get h
    obtain ⟨e, y⟩ := y
    subst e
    refine ⟨Same.refl _, fun d hd => ?_⟩
    obtain ⟨v, h1, h2⟩ := r.get hd
    rw [y vs (.inl (.inl q))] at h1
    cases h1
    exact h2
def rgD (lo c : Int) (n : Nat) : List D := (List.range n).map fun (i : Nat) => D.int (lo + (i : Int) * c)
theorem rgD_len {lo c : Int} {n : Nat} : (rgD lo c n).length = n := by unfold rgD; rw [List.length_map, List.length_range]
theorem rgD_get {lo c : Int} {n i : Nat} {d : D} (h : (rgD lo c n)[i]? = some d) : d = .int (lo + (i : Int) * c) := by
  unfold rgD at h
  rw [List.getElem?_map] at h
  cases e : (List.range n)[i]? with
  | none => rw [e] at h; cases h
  | some j =>
    rw [e] at h
    cases h
    obtain ⟨_, e2⟩ := List.getElem?_eq_some_iff.mp e
    rw [List.getElem_range] at e2
    rw [e2]
theorem walkD_range {lo : Int} {n : Nat} : WalkD (Itr lo n) (rgD lo 1 n) [] := by
  refine ⟨fun Ω H i hi h => by rw [rgD_len] at hi; exact hi, fun Ω H h => by rw [rgD_len]; exact Nat.le_refl _, fun Ω H i x H' hi h y => ?_⟩
  obtain ⟨e, y⟩ := y
  subst e y
  refine ⟨Same.refl _, fun d hd => ?_⟩
  rw [rgD_get hd, Int.mul_one]
  exact Rep.int_mk
theorem walkD_rangeC {lo c : Int} {n : Nat} : WalkD (Itc lo c n) (rgD lo c n) [] := by
  refine ⟨fun Ω H i hi h => by rw [rgD_len] at hi; exact hi, fun Ω H h => by rw [rgD_len]; exact Nat.le_refl _, fun Ω H i x H' hi h y => ?_⟩
  obtain ⟨e, y⟩ := y
  subst e y
  refine ⟨Same.refl _, fun d hd => ?_⟩
  rw [rgD_get hd]
  exact Rep.int_mk
def zipD (xs ys : List D) : List D := List.zipWith (fun x y => D.tup [x, y]) xs ys
theorem zipD_get {xs ys : List D} {i : Nat} {d : D} (h : (zipD xs ys)[i]? = some d) : ∃ x y, xs[i]? = some x ∧ ys[i]? = some y ∧ d = .tup [x, y] := by
  unfold zipD at h
  rw [List.getElem?_zipWith] at h
  cases e1 : xs[i]? with
  | none => rw [e1] at h; cases h
  | some x =>
    cases e2 : ys[i]? with
    | none => rw [e1, e2] at h; cases h
    | some y =>
      rw [e1, e2] at h
      cases h
      exact ⟨x, y, rfl, rfl, rfl⟩
theorem zipD_len {xs ys : List D} : (zipD xs ys).length = min xs.length ys.length := by unfold zipD; rw [List.length_zipWith]
theorem walkD_zip {ds es : List D} : WalkD (Itz K a b) (zipD ds es) [(.lst ds, .ref a), (.lst es, .ref b)] := by
  have get : ∀ {Ω : Addr → Prop} {H : Hp}, (∀ g ∈ [((D.lst ds), V.ref a), (D.lst es, V.ref b)], Rep Ω H g.1 g.2) → ∃ vs us, H a = some (.lst vs) ∧ Reps Ω H ds vs ∧ H b = some (.lst us) ∧ Reps Ω H es us := fun {Ω H} h => by
    obtain ⟨p, vs, e, _, q, r⟩ := (h _ List.mem_cons_self).lst_inv
    cases e
    obtain ⟨p, us, e, _, q2, r2⟩ := (h _ (List.mem_cons_of_mem _ List.mem_cons_self)).lst_inv
    cases e
    exact ⟨vs, us, q, r, q2, r2⟩
  refine ⟨fun Ω H i hi h => ?_, fun Ω H h => ?_, fun Ω H i x H' hi h y => ?_⟩
  · obtain ⟨vs, us, q, r, q2, r2⟩ := get h
    rw [zipD_len, r.length, r2.length] at hi
    have h1 : i < vs.length := by omega
    have h2 : i < us.length := by omega
    exact ⟨vs, us, vs[i], us[i], .inl (.inl q), .inl (.inl q2), List.getElem?_eq_getElem h1, List.getElem?_eq_getElem h2⟩
  · obtain ⟨vs, us, q, r, q2, r2⟩ := get h
    refine ⟨vs, us, .inl (.inl q), .inl (.inl q2), ?_⟩
    rw [zipD_len, r.length, r2.length]
    omega
  · obtain ⟨vs, us, q, r, q2, r2⟩ := get h
    obtain ⟨T, x1, y1, e, hT, e2, h1, h2⟩ := y
    subst e e2
    have sm : Same H (upd H T (.tup [x1, y1])) := same_upd hT
    refine ⟨sm, fun d hd => ?_⟩
    obtain ⟨dx, dy, k1, k2, e⟩ := zipD_get hd
    subst e
    obtain ⟨v1, g1, g2⟩ := r.get k1
    obtain ⟨v2, g3, g4⟩ := r2.get k2
    rw [h1 vs (.inl (.inl q))] at g1
    rw [h2 us (.inl (.inl q2))] at g3
    cases g1
    cases g3
    exact Rep.tup_mk upd_same (Reps.le (.same sm fun _ z => z) _ _ (Reps.cons g2 (Reps.cons g4 Reps.nil)))
theorem walkD_zipT {ds es : List D} : WalkD (RZ.ItzT K a b) (zipD ds es) [(.tup ds, .ref a), (.tup es, .ref b)] := by
  have get : ∀ {Ω : Addr → Prop} {H : Hp}, (∀ g ∈ [((D.tup ds), V.ref a), (D.tup es, V.ref b)], Rep Ω H g.1 g.2) → ∃ vs us, H a = some (.tup vs) ∧ Reps Ω H ds vs ∧ H b = some (.tup us) ∧ Reps Ω H es us := fun {Ω H} h => by
    obtain ⟨p, vs, e, q, r⟩ := (h _ List.mem_cons_self).tup_inv
    cases e
    obtain ⟨p, us, e, q2, r2⟩ := (h _ (List.mem_cons_of_mem _ List.mem_cons_self)).tup_inv
    cases e
    exact ⟨vs, us, q, r, q2, r2⟩
  refine ⟨fun Ω H i hi h => ?_, fun Ω H h => ?_, fun Ω H i x H' hi h y => ?_⟩
  · obtain ⟨vs, us, q, r, q2, r2⟩ := get h
    rw [zipD_len, r.length, r2.length] at hi
    have h1 : i < vs.length := by omega
    have h2 : i < us.length := by omega
    exact ⟨vs, us, vs[i], us[i], .inl (.inl q), .inl (.inl q2), List.getElem?_eq_getElem h1, List.getElem?_eq_getElem h2⟩
  · obtain ⟨vs, us, q, r, q2, r2⟩ := get h
    refine ⟨vs, us, .inl (.inl q), .inl (.inl q2), ?_⟩
    rw [zipD_len, r.length, r2.length]
    omega
  · obtain ⟨vs, us, q, r, q2, r2⟩ := get h
    obtain ⟨T, x1, y1, e, hT, e2, h1, h2⟩ := y
    subst e e2
    have sm : Same H (upd H T (.tup [x1, y1])) := same_upd hT
    refine ⟨sm, fun d hd => ?_⟩
    obtain ⟨dx, dy, k1, k2, e⟩ := zipD_get hd
    subst e
    obtain ⟨v1, g1, g2⟩ := r.get k1
    obtain ⟨v2, g3, g4⟩ := r2.get k2
    rw [h1 vs (.inl (.inl q))] at g1
    rw [h2 us (.inl (.inl q2))] at g3
    cases g1
    cases g3
    exact Rep.tup_mk upd_same (Reps.le (.same sm fun _ z => z) _ _ (Reps.cons g2 (Reps.cons g4 Reps.nil)))
def enumD (ds : List D) : List D := zipD (rgD 0 1 ds.length) ds
theorem walkD_enum {ds : List D} : WalkD (Ite K a) (enumD ds) [(.lst ds, .ref a)] := by
  have get : ∀ {Ω : Addr → Prop} {H : Hp}, (∀ g ∈ [((D.lst ds), V.ref a)], Rep Ω H g.1 g.2) → ∃ vs, H a = some (.lst vs) ∧ Reps Ω H ds vs := fun {Ω H} h => by
    obtain ⟨p, vs, e, _, q, r⟩ := (h _ List.mem_cons_self).lst_inv
    cases e
    exact ⟨vs, q, r⟩
  have hlen : (enumD ds).length = ds.length := by unfold enumD; rw [zipD_len, rgD_len]; omega
  refine ⟨fun Ω H i hi h => ?_, fun Ω H h => ?_, fun Ω H i x H' hi h y => ?_⟩
  · obtain ⟨vs, q, r⟩ := get h
    rw [hlen, r.length] at hi
    exact ⟨vs, vs[i], .inl (.inl q), List.getElem?_eq_getElem hi⟩
  · obtain ⟨vs, q, r⟩ := get h
    exact ⟨vs, .inl (.inl q), by rw [hlen, r.length]; exact Nat.le_refl _⟩
  · obtain ⟨vs, q, r⟩ := get h
    obtain ⟨T, x1, e, hT, e2, h1⟩ := y
    subst e e2
    have sm : Same H (upd H T (.tup [.int (i : Nat), x1])) := same_upd hT
    refine ⟨sm, fun d hd => ?_⟩
    obtain ⟨dx, dy, k1, k2, e⟩ := zipD_get hd
    subst e
    rw [rgD_get k1]
    obtain ⟨v1, g1, g2⟩ := r.get k2
    rw [h1 vs (.inl (.inl q))] at g1
    cases g1
    refine Rep.tup_mk upd_same (Reps.le (.same sm fun _ z => z) _ _ (Reps.cons ?_ (Reps.cons g2 Reps.nil)))
    rw [Int.mul_one, Int.zero_add]
    exact Rep.int_mk
end
def dItems : D → M (List D)
  | .lst ds => .ok ds
  | .tup ds => .ok ds
  | _ => .und
def xItems (f : Ev → M D) : Ev → M (List D) := fun ρ => (f ρ).bind dItems
def iFlat (f : Ev → M (List D)) : Ev → M (List D) := fun ρ => (f ρ).bind fun ds => if flats ds then .ok ds else .und
def rgOk (i : Int) : Bool := decide (-(2 ^ 62) ≤ i ∧ i < 2 ^ 62)
def dRg1 : List D → M (List D)
  | [.int j] => if rgOk j then .ok (rgD 0 1 j.toNat) else .und
  | _ => .und
def dRg2 : List D → M (List D)
  | [.int i, .int j] => if rgOk i && rgOk j then .ok (rgD i 1 (j - i).toNat) else .und
  | _ => .und
def dRg3 : List D → M (List D)
  | [.int i, .int j, .int c] => if c ≠ 0 ∧ c.natAbs < 1073741824 ∧ Builtin.Range.small i j c = true ∧ 0 ≤ Builtin.Range.rangeSize i j c then .ok (rgD i c (Builtin.Range.rangeSize i j c).toNat) else .und
  | _ => .und
def dZip : List D → M (List D)
  | [.lst xs, .lst ys] => .ok (zipD xs ys)
  | [.tup xs, .tup ys] => .ok (zipD xs ys)
  | _ => .und
def dEnum : List D → M (List D)
  | [.lst xs] => .ok (enumD xs)
  | _ => .und
section
variable {X : Cx} {W : Addr → Hp → Prop} {m : Bool} {f : Ev → M D} {fs : Ev → M (List D)} {e e2 e3 tg : Expr} {pf pos tpos : Pos} {elts : List Expr} {kk : Nat}
theorem di_seq (h : DE X W m e f) : DIt X W m tg e (xItems f) := by
  refine pi_weak (pi_or (pi_list h) (pi_tup h)) fun σ H R ⟨Ω, ρ, ei, k⟩ => ?_
  have k := KM.bind k
  cases q : f ρ with
  | und => rw [q] at k; exact k.elim
  | ex c => exact .inl ⟨Ω, ρ, ei, by rw [q] at k ⊢; exact k⟩
  | ok d =>
    rw [q] at k
    have fin : KM W (f ρ) H (fun a H1 => KM W (dItems a) H1 fun items H' => ∀ J Γ, WalkD J items Γ → (∀ g ∈ Γ, Rep (mo m Ω) H' g.1 g.2) → R J H') := by rw [q]; exact k
    cases d with
    | lst ds =>
      refine .inl ⟨Ω, ρ, ei, fin.imp fun d H1 e1 _ k1 v r => ?_⟩
      rw [q] at e1
      cases e1
      obtain ⟨p, vs, e, n, q1, r1⟩ := r.lst_inv
      subst e
      exact ⟨p, rfl, ⟨vs, .inl (.inl q1)⟩, KM.ok k1 _ _ walkD_list fun g hg => by rw [List.mem_singleton.mp hg]; exact r⟩
    | tup ds =>
      refine .inr ⟨Ω, ρ, ei, fin.imp fun d H1 e1 _ k1 v r => ?_⟩
      rw [q] at e1
      cases e1
      obtain ⟨p, vs, e, q1, r1⟩ := r.tup_inv
      subst e
      exact ⟨p, rfl, ⟨vs, .inl (.inl q1)⟩, KM.ok k1 _ _ walkD_tup fun g hg => by rw [List.mem_singleton.mp hg]; exact r⟩
    | _ => exact (show False from KM.ok k).elim
theorem di_rg1 (hg : Gl X "range") (hm : X.mg "range" = none) (ha : DA X W m [e] fs) (hs : starEach [e] X.env = [(false, eval e X.env)] := by rfl) : DIt X W m tg (.Call (.Name "range" pf) [e] [] pos) (xAll dRg1 fs) := by
  refine pi_weak (pi_range1 hg hm ha hs) fun σ H R ⟨Ω, ρ, ei, k⟩ => ⟨Ω, ρ, ei, (KM.bind k).imp fun ds H1 _ s1 k1 vs rs => ?_⟩
  unfold dRg1 at k1
  split at k1
  · split at k1
    · rename_i hr
      obtain ⟨v, e1, r⟩ := rs.one
      subst e1
      rw [r.int_inv]
      have hr := of_decide_eq_true hr
      exact ⟨_, rfl, hr.1, hr.2, KM.ok k1 _ _ walkD_range fun _ z => absurd z (by simp)⟩
    · exact k1.elim
  · exact k1.elim
theorem di_rg2 (hg : Gl X "range") (hm : X.mg "range" = none) (ha : DA X W m [e, e2] fs) (hs : starEach [e, e2] X.env = [(false, eval e X.env), (false, eval e2 X.env)] := by rfl) (hs2 : starEach [e2] X.env = [(false, eval e2 X.env)] := by rfl) : DIt X W m tg (.Call (.Name "range" pf) [e, e2] [] pos) (xAll dRg2 fs) := by
  refine pi_weak (pi_range2 hg hm ha hs hs2) fun σ H R ⟨Ω, ρ, ei, k⟩ => ⟨Ω, ρ, ei, (KM.bind k).imp fun ds H1 _ s1 k1 vs rs => ?_⟩
  unfold dRg2 at k1
  split at k1
  · split at k1
    · rename_i hr
      obtain ⟨v, u, e1, r, r2⟩ := rs.two
      subst e1
      rw [r.int_inv, r2.int_inv]
      have hr := Bool.and_eq_true_iff.mp hr
      have h1 := of_decide_eq_true hr.1
      have h2 := of_decide_eq_true hr.2
      exact ⟨_, _, rfl, ⟨h1.1, h1.2, h2.1, h2.2⟩, KM.ok k1 _ _ walkD_range fun _ z => absurd z (by simp)⟩
    · exact k1.elim
  · exact k1.elim
theorem Reps.three {Ω : Addr → Prop} {H : Hp} {d e f : D} {vs : List V} (r : Reps Ω H [d, e, f] vs) : ∃ v u w, vs = [v, u, w] ∧ Rep Ω H d v ∧ Rep Ω H e u ∧ Rep Ω H f w := by
  simp only [Reps] at r
  obtain ⟨v, t, e, r1, u, t2, e2, r2, w, t3, e3, r3, r4⟩ := r
  subst r4 e3 e2
  exact ⟨v, u, w, e, r1, r2, r3⟩
theorem di_rg3 (hg : Gl X "range") (hm : X.mg "range" = none) (ha : DA X W m [e, e2, e3] fs) (hs : starEach [e, e2, e3] X.env = (false, eval e X.env) :: starEach [e2, e3] X.env := by rfl) (hpl : (backTo pos (starEach [e2, e3] X.env)).any (·.1) = false := by rfl) : DIt X W m tg (.Call (.Name "range" pf) [e, e2, e3] [] pos) (xAll dRg3 fs) := by
  refine pi_weak (pi_range3 hg hm ha hs hpl) fun σ H R ⟨Ω, ρ, ei, k⟩ => ⟨Ω, ρ, ei, (KM.bind k).imp fun ds H1 _ s1 k1 vs rs => ?_⟩
  unfold dRg3 at k1
  split at k1
  · split at k1
    · rename_i hr
      obtain ⟨v, u, w, e1, r, r2, r3⟩ := rs.three
      subst e1
      rw [r.int_inv, r2.int_inv, r3.int_inv]
      exact ⟨_, _, _, _, rfl, ⟨hr.1, hr.2.1, hr.2.2.1, (Int.toNat_of_nonneg hr.2.2.2).symm⟩, KM.ok k1 _ _ walkD_rangeC fun _ z => absurd z (by simp)⟩
    · exact k1.elim
  · exact k1.elim
theorem di_zip (hg : Gl X "zip") (hm : X.mg "zip" = none) (ha : DA X W m [e, e2] fs) (hs : starEach [e, e2] X.env = (false, eval e X.env) :: starEach [e2] X.env := by rfl) (hpl : (backTo pos (starEach [e2] X.env)).any (·.1) = false := by rfl) : DIt X W m (.Tuple elts kk tpos) (.Call (.Name "zip" pf) [e, e2] [] pos) (xAll dZip fs) := by
  refine pi_weak (RZ.pi_zipA hg hm ha hs hpl) fun σ H R ⟨Ω, ρ, ei, k⟩ => ⟨Ω, ρ, ei, (KM.bind k).imp fun ds H1 _ s1 k1 vs rs => ?_⟩
  unfold dZip at k1
  split at k1
  · obtain ⟨v, u, e1, r, r2⟩ := rs.two
    obtain ⟨p, ws, e, _, q1, r1⟩ := r.lst_inv
    obtain ⟨p2, ws2, e', _, q2, r3⟩ := r2.lst_inv
    subst e1 e e'
    refine ⟨p, p2, ws, ws2, rfl, .inl ⟨.inl (.inl q1), .inl (.inl q2), KM.ok k1 _ _ walkD_zip fun g hg => ?_⟩⟩
    rcases List.mem_cons.mp hg with z | z
    · rw [z]; exact r
    · rw [List.mem_singleton.mp z]; exact r2
  · obtain ⟨v, u, e1, r, r2⟩ := rs.two
    obtain ⟨p, ws, e, q1, r1⟩ := r.tup_inv
    obtain ⟨p2, ws2, e', q2, r3⟩ := r2.tup_inv
    subst e1 e e'
    refine ⟨p, p2, ws, ws2, rfl, .inr ⟨.inl (.inl q1), .inl (.inl q2), KM.ok k1 _ _ walkD_zipT fun g hg => ?_⟩⟩
    rcases List.mem_cons.mp hg with z | z
    · rw [z]; exact r
    · rw [List.mem_singleton.mp z]; exact r2
  · exact k1.elim
theorem di_enum (hg : Gl X "enumerate") (hm : X.mg "enumerate" = none) (ha : DA X W m [e] fs) (hs : starEach [e] X.env = [(false, eval e X.env)] := by rfl) : DIt X W m (.Tuple elts kk tpos) (.Call (.Name "enumerate" pf) [e] [] pos) (xAll dEnum fs) := by
  refine pi_weak (pi_enum hg hm ha hs) fun σ H R ⟨Ω, ρ, ei, k⟩ => ⟨Ω, ρ, ei, (KM.bind k).imp fun ds H1 _ s1 k1 vs rs => ?_⟩
  unfold dEnum at k1
  split at k1
  · obtain ⟨v, e1, r⟩ := rs.one
    obtain ⟨p, ws, e, _, q1, r1⟩ := r.lst_inv
    subst e1 e
    exact ⟨p, ws, rfl, .inl (.inl q1), KM.ok k1 _ _ walkD_enum fun g hg => by rw [List.mem_singleton.mp hg]; exact r⟩
  · exact k1.elim
end
/-! ### targets -/
def tDG (vs : List Nat) (tf : D → Ev → M Ev) : TG := fun v σ H Q => ∃ Ω ρ d, EI Ω ρ σ H ∧ Rep Ω H d v ∧ (match tf d ρ with
  | .ok ρ' => ∀ σ', EI Ω ρ' σ' H → σ'.length = σ.length → (∀ j, j ∉ vs → σ'[j]? = σ[j]?) → (∀ (i : Nat) (x : Sl), x.isO → ρ'[i]? = some (some x) → ρ[i]? = some (some x) ∧ σ'[i]? = σ[i]?) → Q σ' H
  | _ => False)
def tDGs (vs : List Nat) (tf : List D → Ev → M Ev) : TGs := fun us σ H Q => ∃ Ω ρ ds, EI Ω ρ σ H ∧ Reps Ω H ds us ∧ (match tf ds ρ with
  | .ok ρ' => ∀ σ', EI Ω ρ' σ' H → σ'.length = σ.length → (∀ j, j ∉ vs → σ'[j]? = σ[j]?) → (∀ (i : Nat) (x : Sl), x.isO → ρ'[i]? = some (some x) → ρ[i]? = some (some x) ∧ σ'[i]? = σ[i]?) → Q σ' H
  | _ => False)
abbrev DG (X : Cx) (vs : List Nat) (tg : Expr) (tf : D → Ev → M Ev) : Prop := PG X tg (tDG vs tf)
abbrev DGs (X : Cx) (vs : List Nat) (tg : List Expr) (tf : List D → Ev → M Ev) : Prop := PGs X tg (tDGs vs tf)
def tgN (i : Nat) : D → Ev → M Ev := fun d ρ => .ok (ρ.set i (some (.v d)))
def tgNil : List D → Ev → M Ev := fun ds ρ => match ds with
  | [] => .ok ρ
  | _ => .und
def tgCons (t : D → Ev → M Ev) (u : List D → Ev → M Ev) : List D → Ev → M Ev := fun ds ρ => match ds with
  | d :: r => (t d ρ).bind fun ρ' => u r ρ'
  | [] => .und
def tgT (n : Nat) (t : List D → Ev → M Ev) : D → Ev → M Ev := fun d ρ => match d with
  | .tup ds => if ds.length = n then t ds ρ else .und
  | .lst ds => if ds.length = n then t ds ρ else .und
  | _ => .und
theorem EI.set {Ω : Addr → Prop} {ρ : Ev} {σ : L2.St} {H : Hp} (e : EI Ω ρ σ H) {d : D} {v : V} (r : Rep Ω H d v) (i : Nat) : EI Ω (ρ.set i (some (.v d))) (σ.set i (some v)) H := by
  have ho : ∀ (j : Nat) (x : Sl), x.isO → (ρ.set i (some (.v d)))[j]? = some (some x) → i ≠ j ∧ ρ[j]? = some (some x) := fun j x hx h => by
    by_cases hj : i = j
    · subst hj
      by_cases hl : i < ρ.length
      · rw [List.getElem?_set_self hl] at h; cases h; exact hx.elim
      · rw [List.getElem?_eq_none (by rw [List.length_set]; omega)] at h; cases h
    · rw [List.getElem?_set_ne hj] at h
      exact ⟨hj, h⟩
  refine ⟨by rw [List.length_set, List.length_set, e.len], e.hl, fun j s h => ?_, fun j k s t u w p h1 h2 h3 h4 h5 h6 => ?_⟩
  · by_cases hj : i = j
    · subst hj
      by_cases hl : i < ρ.length
      · rw [List.getElem?_set_self hl] at h
        cases h
        exact ⟨v, by rw [List.getElem?_set_self (by rw [← e.len]; exact hl)], r⟩
      · rw [List.getElem?_eq_none (by rw [List.length_set]; omega)] at h; cases h
    · rw [List.getElem?_set_ne hj] at h ⊢
      exact e.sl j s h
  · obtain ⟨n1, g1⟩ := ho j s h5.isO h1
    obtain ⟨n2, g2⟩ := ho k t h6.isO h2
    rw [List.getElem?_set_ne n1] at h3
    rw [List.getElem?_set_ne n2] at h4
    exact e.inj j k s t u w p g1 g2 h3 h4 h5 h6
section
variable {X : Cx} {vs : List Nat} {pos : Pos} {tg : Expr} {tgs : List Expr} {t : D → Ev → M Ev} {u : List D → Ev → M Ev} {kk : Nat}
theorem dg_name {i : Nat} {x : Str} (h : PG X (.Name x pos) (gName i)) (hi : i ∈ vs := by decide) : DG X vs (.Name x pos) (tgN i) := by
  refine pg_weak h fun v σ H Q ⟨Ω, ρ, d, e, r, k⟩ => ?_
  refine k _ (e.set r i) (by rw [List.length_set]) (fun j hj => ?_) (fun j x hx h => ?_)
  · rw [List.getElem?_set_ne (fun z => hj (by subst z; exact hi))]
  · by_cases hj : i = j
    · subst hj
      by_cases hl : i < ρ.length
      · rw [List.getElem?_set_self hl] at h; cases h; exact hx.elim
      · rw [List.getElem?_eq_none (by rw [List.length_set]; omega)] at h; cases h
    · rw [List.getElem?_set_ne hj] at h ⊢
      exact ⟨h, rfl⟩
theorem dgs_nil : DGs X vs [] tgNil := ⟨fun pins s σ H us ws Q I r ⟨Ω, ρ, ds, e, rs, k⟩ => pgs_nil.run pins s σ H us ws Q I r (by
  unfold tgNil at k
  split at k
  · rename_i h
    split at h
    · cases h
      simp only [Reps] at rs
      exact ⟨rs, k σ e rfl (fun _ _ => rfl) fun i x hx h => ⟨h, rfl⟩⟩
    · cases h
  · exact k.elim)⟩
theorem dgs_cons (h1 : DG X vs tg t) (h2 : DGs X vs tgs u) (hs : (assignEach (tg :: tgs) X.env).map (·.2) = assign tg X.env :: (assignEach tgs X.env).map (·.2) := by rfl) : DGs X vs (tg :: tgs) (tgCons t u) := ⟨fun pins s σ H us ws Q I r ⟨Ω, ρ, ds, e, rs, k⟩ => (pgs_cons h1 h2 hs).run pins s σ H us ws Q I r (by
  unfold tgCons at k
  split at k
  · rename_i ρ2 hk
    cases ds with
    | nil => cases hk
    | cons d ds =>
      simp only [Reps] at rs
      obtain ⟨v, r', e1, r1, r2⟩ := rs
      refine ⟨v, r', e1, Ω, ρ, d, e, r1, ?_⟩
      cases q : t d ρ with
      | und => simp only [q, M.bind] at hk; cases hk
      | ex c => simp only [q, M.bind] at hk; cases hk
      | ok ρ1 =>
        simp only [q, M.bind] at hk
        intro σ1 e2 l1 f1 o1
        refine ⟨Ω, ρ1, ds, e2, r2, ?_⟩
        rw [hk]
        intro σ2 e3 l2 f2 o2
        refine k σ2 e3 (l2.trans l1) (fun j hj => (f2 j hj).trans (f1 j hj)) fun i x hx h => ?_
        obtain ⟨g1, g2⟩ := o2 i x hx h
        obtain ⟨g3, g4⟩ := o1 i x hx g1
        exact ⟨g3, g2.trans g4⟩
  · exact k.elim)⟩
theorem pg_or {t t' : TG} (h : PG X tg t) (h' : PG X tg t') : PG X tg (fun v σ H Q => t v σ H Q ∨ t' v σ H Q) := ⟨fun pins s σ H v u Q I r q => by
  rcases q with q | q
  · exact h.run pins s σ H v u Q I r q
  · exact h'.run pins s σ H v u Q I r q⟩
theorem dg_tup {n : Nat} (hc : X.calm = true) (h : DGs X vs tgs u) (hn : (assignEach tgs X.env).length = n := by rfl) (hst : (assignEach tgs X.env).findIdx? (·.1) = none := by rfl) : DG X vs (.Tuple tgs kk pos) (tgT n u) := by
  refine pg_weak (pg_or (pg_tup hc h hn hst) (pg_lst hc h hn hst)) fun v σ H Q ⟨Ω, ρ, d, e, r, k⟩ => ?_
  cases d with
  | tup ds =>
    obtain ⟨p, ws, e1, q1, r1⟩ := r.tup_inv
    dsimp only [tgT] at k
    by_cases hl : ds.length = n
    · rw [if_pos hl] at k
      exact .inl ⟨p, ws, e1, .inl (.inl q1), by rw [← r1.length]; exact hl, Ω, ρ, ds, e, r1, k⟩
    · rw [if_neg hl] at k
      exact k.elim
  | lst ds =>
    obtain ⟨p, ws, e1, _, q1, r1⟩ := r.lst_inv
    dsimp only [tgT] at k
    by_cases hl : ds.length = n
    · rw [if_pos hl] at k
      exact .inr ⟨p, ws, e1, .inl (.inl q1), by rw [← r1.length]; exact hl, Ω, ρ, ds, e, r1, k⟩
    · rw [if_neg hl] at k
      exact k.elim
  | _ => exact k.elim
end
/-! ### comprehensions -/
def wipeE (ρ : Ev) : List Nat → Ev
  | [] => ρ
  | v :: vs => (wipeE ρ vs).set v none
theorem wipeE_len (ρ : Ev) : ∀ vs : List Nat, (wipeE ρ vs).length = ρ.length
  | [] => rfl
  | v :: vs => by unfold wipeE; rw [List.length_set, wipeE_len ρ vs]
theorem wipeE_some {ρ : Ev} {i : Nat} {x : Sl} : ∀ {vs : List Nat}, (wipeE ρ vs)[i]? = some (some x) → ρ[i]? = some (some x) ∧ i ∉ vs
  | [], h => ⟨h, by simp⟩
  | v :: vs, h => by
    unfold wipeE at h
    by_cases hv : v = i
    · subst hv
      by_cases hl : v < (wipeE ρ vs).length
      · rw [List.getElem?_set_self hl] at h; cases h
      · rw [List.getElem?_eq_none (by rw [List.length_set]; omega)] at h; cases h
    · rw [List.getElem?_set_ne hv] at h
      obtain ⟨h1, h2⟩ := wipeE_some h
      exact ⟨h1, by
        intro z
        rcases List.mem_cons.mp z with z | z
        · exact hv z.symm
        · exact h2 z⟩
theorem wipe_at {σ : L2.St} {i : Nat} : ∀ {vs : List Nat}, i ∉ vs → (wipe σ vs)[i]? = σ[i]?
  | [], _ => rfl
  | v :: vs, h => by
    unfold wipe
    rw [List.getElem?_set_ne (fun z => h (by rw [z]; exact List.mem_cons_self)), wipe_at fun z => h (List.mem_cons_of_mem _ z)]
theorem wipe_in {σ : L2.St} {i : Nat} : ∀ {vs : List Nat}, i ∈ vs → i < σ.length → (wipe σ vs)[i]? = some none
  | [], h, _ => by simp at h
  | v :: vs, h, hl => by
    unfold wipe
    by_cases hv : v = i
    · subst hv
      rw [List.getElem?_set_self (by rw [wipe_length]; exact hl)]
    · rw [List.getElem?_set_ne hv]
      rcases List.mem_cons.mp h with z | z
      · exact absurd z.symm hv
      · exact wipe_in z hl
theorem wipe_eq {σ σ' : L2.St} {vs : List Nat} (hl : σ'.length = σ.length) (h : ∀ j, j ∉ vs → σ'[j]? = σ[j]?) : wipe σ' vs = wipe σ vs := by
  apply List.ext_getElem?
  intro i
  by_cases hi : i ∈ vs
  · by_cases hz : i < σ.length
    · rw [wipe_in hi hz, wipe_in hi (by rw [hl]; exact hz)]
    · rw [List.getElem?_eq_none (by rw [wipe_length]; omega), List.getElem?_eq_none (by rw [wipe_length]; omega)]
  · rw [wipe_at hi, wipe_at hi, h i hi]
theorem EI.wipe {Ω : Addr → Prop} {ρ : Ev} {σ : L2.St} {H : Hp} (e : EI Ω ρ σ H) (vs : List Nat) : EI Ω (wipeE ρ vs) (L2.wipe σ vs) H := by
  refine ⟨by rw [wipeE_len, wipe_length, e.len], e.hl, fun i s h => ?_, fun i j s t u v p h1 h2 h3 h4 h5 h6 => ?_⟩
  · obtain ⟨h1, h2⟩ := wipeE_some h
    obtain ⟨v, g1, g2⟩ := e.sl i s h1
    exact ⟨v, by rw [wipe_at h2]; exact g1, g2⟩
  · obtain ⟨g1, n1⟩ := wipeE_some h1
    obtain ⟨g2, n2⟩ := wipeE_some h2
    rw [wipe_at n1] at h3
    rw [wipe_at n2] at h4
    exact e.inj i j s t u v p g1 g2 h3 h4 h5 h6
def compR (own : List Nat) (tf : D → Ev → M Ev) (ft : Ev → M Bool) (fe : Ev → M D) (ρ : Ev) : List D → M (List D)
  | [] => .ok []
  | d :: r => match tf d (wipeE ρ own) with
    | .ok ρ1 => match ft ρ1 with
      | .ok true => match fe ρ1 with
        | .ok y => (compR own tf ft fe ρ r).bind fun ys => .ok (y :: ys)
        | _ => .und
      | .ok false => compR own tf ft fe ρ r
      | _ => .und
    | _ => .und
def iMode (mi : Bool) (items : List D) : M (List D) := if mi = true then (if flats items then .ok items else .und) else .ok items
/-- [elt for target in iter if test] -/
def xComp (mi : Bool) (own : List Nat) (fi : Ev → M (List D)) (tf : D → Ev → M Ev) (ft : Ev → M Bool) (fe : Ev → M D) : Ev → M (List D) := fun ρ => (fi ρ).bind fun items => (iMode mi items).bind fun items => if items.length ≤ sizeLine then compR own tf ft fe ρ items else .und
abbrev W0 : Addr → Hp → Prop := fun _ _ => False
def bYes : Ev → M Bool := fun _ => .ok true
theorem compR_noex {own : List Nat} {tf : D → Ev → M Ev} {ft : Ev → M Bool} {fe : Ev → M D} {ρ : Ev} {c : Addr} : ∀ {items : List D}, compR own tf ft fe ρ items ≠ .ex c
  | [], h => by cases h
  | d :: r, h => by
    have ih : ∀ {c}, compR own tf ft fe ρ r ≠ .ex c := fun {c} => compR_noex
    unfold compR at h
    split at h
    · split at h
      · split at h
        · cases q : compR own tf ft fe ρ r with
          | und => rw [q] at h; cases h
          | ex c' => exact ih q
          | ok ys => rw [q] at h; cases h
        · cases h
      · exact ih h
      · cases h
    · cases h
theorem tt_yes {σ : L2.St} {H : Hp} {Q : Bool → Hp → Prop} {W : Addr → Hp → Prop} (h : tDT W bYes σ H Q) : tYes σ H Q := by
  obtain ⟨Ω, ρ, e, k⟩ := h
  exact KM.ok k
theorem lc_read {K : PySem.W.Frag} {W : Addr → Hp → Prop} {m mi : Bool} {own : List Nat} {fi : Ev → M (List D)} {tf : D → Ev → M Ev} {ft : Ev → M Bool} {fe : Ev → M D} {tt : TT} (htt : ∀ σ H Q, tDT W0 ft σ H Q → tt σ H Q) {σ : L2.St} {H : Hp} {Q : VK}
    (h : tDF W m (xComp mi own fi tf ft fe) σ H Q) : tLc (tDI W mi fi) (tDG own tf) tt (tD W0 false fe) own σ H Q := by
  obtain ⟨Ω, ρ, ei, k⟩ := h
  refine ⟨Ω, ρ, ei, (KM.bind k).imp fun items H1 _ s1 k1 J Γ w live => fun L hL => ?_⟩
  have hi : iMode mi items = .ok items ∧ (mi = true → flats items = true) := by
    unfold iMode
    cases mi with
    | false => exact ⟨rfl, fun z => Bool.noConfusion z⟩
    | true =>
      by_cases hf : flats items = true
      · exact ⟨by rw [if_pos rfl, if_pos hf], fun _ => hf⟩
      · exfalso
        have k1 := KM.bind k1
        unfold iMode at k1
        rw [if_pos rfl, if_neg hf] at k1
        exact k1
  rw [hi.1] at k1
  have k1 := KM.ok (KM.bind k1)
  by_cases hz : items.length ≤ sizeLine
  case neg => rw [if_neg hz] at k1; exact k1.elim
  rw [if_pos hz] at k1
  cases q : compR own tf ft fe ρ items with
  | und => rw [q] at k1; exact k1.elim
  | ex c => exact absurd q compR_noex
  | ok ds =>
    rw [q] at k1
    have hHL : H L = none := s1.free hL
    -- where the items are told: by nothing hidden (flat), or by the hidden and the new list
    have liveAt : ∀ Hc, Same H1 Hc → ∀ g ∈ Γ, Rep (if mi = true then (fun _ => False) else ad L Ω) Hc g.1 g.2 := fun Hc sm g hg => by
      cases mi with
      | true => rw [if_pos rfl]; exact Rep.le (.same sm fun _ z => z.elim) _ _ (live g hg)
      | false =>
        rw [if_neg Bool.false_ne_true]
        exact Rep.le ((HLe.sub fun a z => ⟨rfl, z⟩).trans (.fresh sm hL)) _ _ (live g hg)
    refine ⟨fun i n Hc => n = items.length - i ∧ i ≤ items.length ∧ ∃ acc dacc rest, Hc L = some (.lst acc) ∧ Same H1 Hc ∧ Reps (ad L Ω) Hc dacc acc ∧ acc.length ≤ i ∧ compR own tf ft fe ρ (items.drop i) = .ok rest ∧ ds = dacc ++ rest,
      ⟨items.length, rfl, Nat.zero_le _, [], [], ds, upd_same, same_upd hL, Reps.nil, Nat.zero_le _, q, rfl⟩, fun i n Hc hW => ?_⟩
    obtain ⟨rfl, hin, acc, dacc, rest, hacc, sm, rs, hle, hrest, hds⟩ := hW
    have hlv := liveAt Hc sm
    by_cases hi' : i < items.length
    · refine .inr ⟨w.go _ Hc i hi' hlv, fun H' => ∃ m', m' < items.length - i ∧ (m' = items.length - (i + 1) ∧ i + 1 ≤ items.length ∧ ∃ acc dacc rest, H' L = some (.lst acc) ∧ Same H1 H' ∧ Reps (ad L Ω) H' dacc acc ∧ acc.length ≤ i + 1 ∧ compR own tf ft fe ρ (items.drop (i + 1)) = .ok rest ∧ ds = dacc ++ rest), fun H' hN => hN, fun x H' hy => ?_⟩
      obtain ⟨sm2, hx⟩ := w.yld _ Hc i x H' hi' hlv hy
      have hd := List.getElem?_eq_getElem hi'
      have rx0 := hx _ hd
      have rx : Rep (ad L Ω) H' items[i] x := by
        cases mi with
        | false => rw [if_neg Bool.false_ne_true] at rx0; exact rx0
        | true =>
          have hf := hi.2 rfl
          have : items[i].flat = true := by
            have hmem : items[i] ∈ items := List.getElem_mem hi'
            have all : ∀ {l : List D}, flats l = true → ∀ d ∈ l, d.flat = true := by
              intro l
              induction l with
              | nil => intro _ d hd; simp at hd
              | cons a r ih =>
                intro h d hd
                simp only [flats, Bool.and_eq_true] at h
                rcases List.mem_cons.mp hd with z | z
                · rw [z]; exact h.1
                · exact ih h.2 d z
            exact all hf _ hmem
          exact Rep.flat _ _ this rx0
      have hdrop : items.drop i = items[i] :: items.drop (i + 1) := List.drop_eq_getElem_cons hi'
      rw [hdrop] at hrest
      unfold compR at hrest
      have e1 : EI (ad L Ω) (wipeE ρ own) (wipe σ own) H' := (((ei.same s1).more sm hL hacc).same sm2).wipe own
      refine ⟨ad L Ω, wipeE ρ own, items[i], e1, rx, ?_⟩
      cases qt : tf items[i] (wipeE ρ own) with
      | und => rw [qt] at hrest; cases hrest
      | ex c => rw [qt] at hrest; cases hrest
      | ok ρ1 =>
        rw [qt] at hrest
        dsimp only at hrest ⊢
        intro σ' e2 hl2 hfr hown
        refine ⟨by
          have := wipe_eq (vs := own) (σ := wipe σ own) (σ' := σ') hl2 hfr
          rw [this]
          exact wipe_eq (wipe_length _ _) fun j hj => wipe_at hj, htt _ _ _ ⟨ad L Ω, ρ1, e2, ?_⟩⟩
        cases qb : ft ρ1 with
        | und => rw [qb] at hrest; cases hrest
        | ex c => rw [qb] at hrest; cases hrest
        | ok b =>
          rw [qb] at hrest
          intro H3 s3
          have sm13 := (sm.trans sm2).trans s3
          cases b with
          | false =>
            dsimp only at hrest
            rw [if_neg Bool.false_ne_true]
            exact ⟨_, by omega, rfl, hi', acc, dacc, rest, s3 _ _ (sm2 _ _ hacc), sm13, Reps.le (.same (sm2.trans s3) fun _ z => z) _ _ rs, by omega, hrest, hds⟩
          | true =>
            dsimp only at hrest
            rw [if_pos rfl]
            refine ⟨ad L Ω, ρ1, e2.same s3, ?_⟩
            cases qe : fe ρ1 with
            | und => rw [qe] at hrest; cases hrest
            | ex c => rw [qe] at hrest; cases hrest
            | ok y =>
              rw [qe] at hrest
              dsimp only at hrest
              intro H4 s4 v rv
              have sm4 := sm13.trans s4
              have hacc4 : H4 L = some (.lst acc) := s4 _ _ (s3 _ _ (sm2 _ _ hacc))
              refine ⟨acc, hacc4, by omega, _, by omega, rfl, hi', acc ++ [v], dacc ++ [y], ?_⟩
              have wr : HLe (ad L Ω) H4 (ad L Ω) (upd H4 L (.lst (acc ++ [v]))) := .write (.inl rfl) hacc4
              have rs4 : Reps (ad L Ω) H4 dacc acc := Reps.le (.same ((sm2.trans s3).trans s4) fun _ z => z) _ _ rs
              have rv' : Rep (ad L Ω) H4 y v := Rep.le (.sub fun _ z => ⟨rfl, z⟩) _ _ rv
              cases qr : compR own tf ft fe ρ (items.drop (i + 1)) with
              | und => rw [qr] at hrest; cases hrest
              | ex c => rw [qr] at hrest; cases hrest
              | ok ys =>
                rw [qr] at hrest
                cases hrest
                refine ⟨ys, upd_same, fun b o hb => ?_, Reps.le wr _ _ (rs4.append (Reps.cons rv' Reps.nil)), by rw [List.length_append]; simp; omega, rfl, by rw [hds]; simp⟩
                rw [upd_ne (ne_of_none hb hL)]
                exact sm4 _ _ hb
    · have he : i = items.length := by omega
      subst he
      refine .inl ⟨w.stop _ Hc hlv, ?_⟩
      rw [List.drop_length] at hrest
      cases hrest
      rw [List.append_nil] at hds
      subst hds
      exact k1 Hc sm L acc hHL hacc (Reps.le (.sub fun a z => by
        rcases z with z | z
        · exact .inl z
        · exact .inr z.2) _ _ rs)
section
variable {X : Cx} {W : Addr → Hp → Prop} {m mi : Bool} {elt tg iter : Expr} {scope : Scope} {own : List (Str × Nat)} {pos spos py : Pos} {fi : Ev → M (List D)} {tf : D → Ev → M Ev} {ft : Ev → M Bool} {fe : Ev → M D} {c : Expr}
theorem df_comp (hc : X.calm = true) (hN : X.N.Nodup) (hi : DIt X W mi tg iter fi) (ok : BlkOk X.N X.env.scope scope own)
    (hg : ∀ (s : Shared) (H : Hp) (C : Addr) (cl : List (Str × Addr)) (fp : List Addr), DG (X.blk s H scope (compEnvC scope cl C X.env) fp) (own.map (·.2)) tg tf)
    (he : ∀ (s : Shared) (H : Hp) (C : Addr) (cl : List (Str × Addr)) (fp : List Addr), DE (X.blk s H scope (compEnvC scope cl C X.env) fp) W0 false elt fe) (hs : ∀ x, foldedSetIterable iter X.env x = pure x := by intro _; rfl) :
    DF X W m (.ListComp elt [⟨tg, iter, [], 0⟩] scope pos) (xComp mi (own.map (·.2)) fi tf bYes fe) :=
  pe_weak (pe_lc hc hN hi ok hg (fun _ _ _ _ _ => pts_nil) he hs) fun _ _ _ h => lc_read (K := X.K) (fun _ _ _ => tt_yes) h
theorem df_compIf (hc : X.calm = true) (hN : X.N.Nodup) (hi : DIt X W mi tg iter fi) (ok : BlkOk X.N X.env.scope scope own)
    (hg : ∀ (s : Shared) (H : Hp) (C : Addr) (cl : List (Str × Addr)) (fp : List Addr), DG (X.blk s H scope (compEnvC scope cl C X.env) fp) (own.map (·.2)) tg tf)
    (ht : ∀ (s : Shared) (H : Hp) (C : Addr) (cl : List (Str × Addr)) (fp : List Addr), DT (X.blk s H scope (compEnvC scope cl C X.env) fp) W0 c ft)
    (he : ∀ (s : Shared) (H : Hp) (C : Addr) (cl : List (Str × Addr)) (fp : List Addr), DE (X.blk s H scope (compEnvC scope cl C X.env) fp) W0 false elt fe) (hs : ∀ x, foldedSetIterable iter X.env x = pure x := by intro _; rfl) :
    DF X W m (.ListComp elt [⟨tg, iter, [c], 0⟩] scope pos) (xComp mi (own.map (·.2)) fi tf ft fe) :=
  pe_weak (pe_lc hc hN hi ok hg (fun s H C cl fp => pts_one (ht s H C cl fp)) he hs) fun _ _ _ h => lc_read (K := X.K) (fun _ _ _ h => h) h
/-- y = [..], y a fast local: as a statement -/
theorem da_comp {i : Nat} {y : Str} (hc : X.calm = true) (hN : X.N.Nodup) (hy : X.N[i]? = some y) (hyl : X.env.scope.names.lookup y = some .local)
    (hsw : swapsWith (.ListComp elt [⟨tg, iter, [], 0⟩] scope pos) (some (.Name y py)) spos.line X.env = pure true) (hi : DIt X W mi tg iter fi) (ok : BlkOk X.N X.env.scope scope own)
    (hg : ∀ (s : Shared) (H : Hp) (C : Addr) (cl : List (Str × Addr)) (fp : List Addr), DG (X.blk s H scope (compEnvC scope cl C X.env) fp) (own.map (·.2)) tg tf)
    (he : ∀ (s : Shared) (H : Hp) (C : Addr) (cl : List (Str × Addr)) (fp : List Addr), DE (X.blk s H scope (compEnvC scope cl C X.env) fp) W0 false elt fe) (hs : ∀ x, foldedSetIterable iter X.env x = pure x := by intro _; rfl) :
    PS X (.Assign [.Name y py] (.ListComp elt [⟨tg, iter, [], 0⟩] scope pos) spos) (tAsg (tDF W m (xComp mi (own.map (·.2)) fi tf bYes fe)) (gName i)) :=
  ps_weak (ps_setLc hc hN hy hyl hsw hi ok hg (fun _ _ _ _ _ => pts_nil) he hs) fun _ _ _ h => lc_read (K := X.K) (fun _ _ _ => tt_yes) h
theorem da_compIf {i : Nat} {y : Str} (hc : X.calm = true) (hN : X.N.Nodup) (hy : X.N[i]? = some y) (hyl : X.env.scope.names.lookup y = some .local)
    (hsw : swapsWith (.ListComp elt [⟨tg, iter, [c], 0⟩] scope pos) (some (.Name y py)) spos.line X.env = pure true) (hi : DIt X W mi tg iter fi) (ok : BlkOk X.N X.env.scope scope own)
    (hg : ∀ (s : Shared) (H : Hp) (C : Addr) (cl : List (Str × Addr)) (fp : List Addr), DG (X.blk s H scope (compEnvC scope cl C X.env) fp) (own.map (·.2)) tg tf)
    (ht : ∀ (s : Shared) (H : Hp) (C : Addr) (cl : List (Str × Addr)) (fp : List Addr), DT (X.blk s H scope (compEnvC scope cl C X.env) fp) W0 c ft)
    (he : ∀ (s : Shared) (H : Hp) (C : Addr) (cl : List (Str × Addr)) (fp : List Addr), DE (X.blk s H scope (compEnvC scope cl C X.env) fp) W0 false elt fe) (hs : ∀ x, foldedSetIterable iter X.env x = pure x := by intro _; rfl) :
    PS X (.Assign [.Name y py] (.ListComp elt [⟨tg, iter, [c], 0⟩] scope pos) spos) (tAsg (tDF W m (xComp mi (own.map (·.2)) fi tf ft fe)) (gName i)) :=
  ps_weak (ps_setLc hc hN hy hyl hsw hi ok hg (fun s H C cl fp => pts_one (ht s H C cl fp)) he hs) fun _ _ _ h => lc_read (K := X.K) (fun _ _ _ h => h) h
end
end DI
set_option maxRecDepth 100000
/-! DI5: statements, defs. -/
namespace DI
open PySem PySem.Spec PyProof.Rows L2
inductive S where
  | und | nx (ρ : Ev) | rt (d : D) | ri (C : Addr) (n : Str) (ds : List D) | bk (ρ : Ev) | ct (ρ : Ev) | ex (c : Addr)
def S.ofM {α : Type} (m : M α) (k : α → S) : S := match m with
  | .und => .und
  | .ex c => .ex c
  | .ok a => k a
def S.then (s : S) (k : Ev → S) : S := match s with
  | .nx ρ => k ρ
  | s => s
def SIO (Ω : Addr → Prop) (H0 : Hp) (Ω0 : Addr → Prop) (Γ : List (D × V)) (ρ : Ev) (σ : L2.St) (H : Hp) : Prop :=
  EI Ω ρ σ H ∧ Same H0 H ∧ (∀ a, Ω0 a → Ω a ∧ H0 a ≠ none) ∧ (∀ a, Ω a → Ω0 a ∨ H0 a = none) ∧
    (∀ (i : Nat) (x : Sl) (v : V) (p : Addr), ρ[i]? = some (some x) → σ[i]? = some (some v) → OwnA H x v p → H0 p = none) ∧ ∀ g ∈ Γ, Rep Ω H g.1 g.2
def SI (H0 : Hp) (Ω0 : Addr → Prop) (Γ : List (D × V)) (ρ : Ev) (σ : L2.St) (H : Hp) : Prop := ∃ Ω, SIO Ω H0 Ω0 Γ ρ σ H
/-- an instance, new, with a new list -/
def NewI (Ω0 : Addr → Prop) (H0 H' : Hp) (C : Addr) (n : Str) (ds : List D) (a : Addr) : Prop := ∃ dx p vs, H0 p = none ∧ H' a = some (.ins C dx [(n, .ref p)]) ∧ H' p = some (.lst vs) ∧ Reps (ad p Ω0) H' ds vs
def KS (W : Addr → Hp → Prop) (H0 : Hp) (Ω0 : Addr → Prop) (Γ : List (D × V)) (r : S) (N : Ends) : Prop := match r with
  | .und => False
  | .ex c => ∀ H', Same H0 H' → W c H'
  | .nx ρ => ∀ σ' H', SI H0 Ω0 Γ ρ σ' H' → N.nx σ' H'
  | .bk ρ => ∀ σ' H', SI H0 Ω0 Γ ρ σ' H' → N.bk σ' H'
  | .ct ρ => ∀ σ' H', SI H0 Ω0 Γ ρ σ' H' → N.ct σ' H'
  | .rt d => ∀ v H', Same H0 H' → Rep Ω0 H' d v → N.rt v H'
  | .ri C n ds => ∀ a H', Same H0 H' → NewI Ω0 H0 H' C n ds a → N.rt (.ref a) H'
def tS (W : Addr → Hp → Prop) (fs : Ev → S) : TS := fun N σ H => ∃ H0 Ω0 Γ ρ, SI H0 Ω0 Γ ρ σ H ∧ KS W H0 Ω0 Γ (fs ρ) N
abbrev DS (X : Cx) (W : Addr → Hp → Prop) (st : Stmt) (fs : Ev → S) : Prop := PS X st (tS W fs)
abbrev DSs (X : Cx) (W : Addr → Hp → Prop) (st : List Stmt) (fs : Ev → S) : Prop := PSs X st (tS W fs)
section
variable {W : Addr → Hp → Prop} {H0 H H' : Hp} {Ω0 Ω : Addr → Prop} {Γ : List (D × V)} {ρ : Ev} {σ : L2.St} {N : Ends}
theorem SIO.same (s : SIO Ω H0 Ω0 Γ ρ σ H) (h : Same H H') : SIO Ω H0 Ω0 Γ ρ σ H' :=
  ⟨s.1.same h, s.2.1.trans h, s.2.2.1, s.2.2.2.1, fun i x v p h1 h2 h3 => s.2.2.2.2.1 i x v p h1 h2 (s.1.back (Same.insS h) h1 h2 h3), fun g hg => Rep.le (.same h fun _ z => z) _ _ (s.2.2.2.2.2 g hg)⟩
theorem KS.bind {α : Type} {r : M α} {k : α → S} (hs : Same H0 H) (h : KS W H0 Ω0 Γ (S.ofM r k) N) : KM W r H (fun a _ => KS W H0 Ω0 Γ (k a) N) := by
  cases r with
  | und => exact h
  | ex c => exact fun H' s => h H' (hs.trans s)
  | ok a => exact fun H' _ => h
theorem set_at {α : Type} {l : List (Option α)} {i j : Nat} {x y : α} (h : (l.set i (some x))[j]? = some (some y)) : (i = j ∧ x = y ∧ i < l.length) ∨ (i ≠ j ∧ l[j]? = some (some y)) := by
  by_cases hj : i = j
  · subst hj
    by_cases hl : i < l.length
    · rw [List.getElem?_set_self hl] at h
      cases h
      exact .inl ⟨rfl, rfl, hl⟩
    · rw [List.getElem?_eq_none (by rw [List.length_set]; omega)] at h; cases h
  · rw [List.getElem?_set_ne hj] at h
    exact .inr ⟨hj, h⟩
theorem SIO.set (s : SIO Ω H0 Ω0 Γ ρ σ H) {d : D} {v : V} (r : Rep Ω H d v) (i : Nat) : SIO Ω H0 Ω0 Γ (ρ.set i (some (.v d))) (σ.set i (some v)) H := by
  refine ⟨s.1.set r i, s.2.1, s.2.2.1, s.2.2.2.1, fun j x u p h1 h2 h3 => ?_, s.2.2.2.2.2⟩
  rcases set_at h1 with ⟨e, e2, _⟩ | ⟨ne, g⟩
  · subst e2
    exact h3.elim
  · rw [List.getElem?_set_ne ne] at h2
    exact s.2.2.2.2.1 j x u p g h2 h3
/-- a new list, owned by slot i: as it is, or in a new instance -/
theorem SIO.ownG (s : SIO Ω H0 Ω0 Γ ρ σ H) (h : Same H H') {p : Addr} {vs : List V} {x : Sl} {v : V} (hp : H p = none) (hp' : H' p = some (.lst vs)) (hx : SlOk (ad p Ω) H' x v) (ho : OwnA H' x v p) (i : Nat) :
    SIO (ad p Ω) H0 Ω0 Γ (ρ.set i (some x)) (σ.set i (some v)) H' := by
  have e := s.1.more h hp hp'
  have old : ∀ (j : Nat) (y : Sl) (u : V) (q : Addr), ρ[j]? = some (some y) → σ[j]? = some (some u) → OwnA H' y u q → q ≠ p := fun j y u q h1 h2 h3 z => by
    have h3 := s.1.back (Same.insS h) h1 h2 h3
    obtain ⟨w, g1, g2⟩ := s.1.sl j _ h1
    rw [h2] at g1
    cases g1
    obtain ⟨q', us, o, _, e3, _⟩ := g2.own h3.isO
    rw [o.uniq h3, z, hp] at e3
    cases e3
  refine ⟨⟨by rw [List.length_set, List.length_set, e.len], e.hl, fun j y h1 => ?_, fun j k y z u w q h1 h2 h3 h4 h5 h6 => ?_⟩, s.2.1.trans h, fun a z => ⟨.inr (s.2.2.1 a z).1, (s.2.2.1 a z).2⟩, fun a z => ?_, fun j y u q h1 h2 h3 => ?_, fun g hg => Rep.le (.fresh h hp) _ _ (s.2.2.2.2.2 g hg)⟩
  · rcases set_at h1 with ⟨e1, e2, hl⟩ | ⟨ne, g⟩
    · subst e1 e2
      exact ⟨v, by rw [List.getElem?_set_self (by rw [← e.len]; exact hl)], hx⟩
    · rw [List.getElem?_set_ne ne]
      exact e.sl j y g
  · rcases set_at h1 with ⟨e1, e2, _⟩ | ⟨n1, g1⟩
    · rcases set_at h2 with ⟨e3, e4, _⟩ | ⟨n2, g2⟩
      · exact e1.symm.trans e3
      · exfalso
        subst e1 e2
        rw [List.getElem?_set_ne n2] at h4
        rcases set_at h3 with ⟨_, e5, _⟩ | ⟨n3, _⟩
        · subst e5
          exact old k z w q g2 h4 h6 (h5.uniq ho)
        · exact n3 rfl
    · rcases set_at h2 with ⟨e3, e4, _⟩ | ⟨n2, g2⟩
      · exfalso
        subst e3 e4
        rw [List.getElem?_set_ne n1] at h3
        rcases set_at h4 with ⟨_, e5, _⟩ | ⟨n3, _⟩
        · subst e5
          exact old j y u q g1 h3 h5 (h6.uniq ho)
        · exact n3 rfl
      · rw [List.getElem?_set_ne n1] at h3
        rw [List.getElem?_set_ne n2] at h4
        exact e.inj j k y z u w q g1 g2 h3 h4 h5 h6
  · rcases z with z | z
    · subst z; exact .inr (s.2.1.free hp)
    · exact s.2.2.2.1 a z
  · rcases set_at h1 with ⟨e1, e2, _⟩ | ⟨n1, g1⟩
    · subst e1 e2
      rcases set_at h2 with ⟨_, e5, _⟩ | ⟨n3, _⟩
      · subst e5
        rw [h3.uniq ho]
        exact s.2.1.free hp
      · exact absurd rfl n3
    · rw [List.getElem?_set_ne n1] at h2
      exact s.2.2.2.2.1 j y u q g1 h2 (s.1.back (Same.insS h) g1 h2 h3)
theorem SIO.own (s : SIO Ω H0 Ω0 Γ ρ σ H) (h : Same H H') {p : Addr} {vs : List V} {ds : List D} (hp : H p = none) (hp' : H' p = some (.lst vs)) (r : Reps (ad p Ω) H' ds vs) (i : Nat) :
    SIO (ad p Ω) H0 Ω0 Γ (ρ.set i (some (.o ds))) (σ.set i (some (.ref p))) H' := s.ownG (x := .o ds) (v := .ref p) h hp hp' ⟨p, vs, rfl, .inl rfl, hp', r⟩ rfl i
/-- the owned list of slot i changed -/
theorem SIO.writeG (s : SIO Ω H0 Ω0 Γ ρ σ H) {i : Nat} {p : Addr} {vs us : List V} {x : Sl} {v : V} {es : List D} (hi : ρ[i]? = some (some x)) (hp : σ[i]? = some (some v)) (ho : OwnA H x v p) (hΩ : Ω p) (hv : H p = some (.lst vs)) (r : Reps Ω H es us) :
    SIO Ω H0 Ω0 Γ (ρ.set i (some (x.put es))) σ (upd H p (.lst us)) := by
  have hl : i < ρ.length := (List.getElem?_eq_some_iff.mp hi).1
  have wr : HLe Ω H Ω (upd H p (.lst us)) := .write hΩ hv
  have ins : InsS H (upd H p (.lst us)) := wr.ins
  have hn := s.2.2.2.2.1 i x v p hi hp ho
  -- the slots before
  have bk : ∀ (j : Nat) (y : Sl) (u : V) (q : Addr), (ρ.set i (some (x.put es)))[j]? = some (some y) → σ[j]? = some (some u) → OwnA (upd H p (.lst us)) y u q → ∃ y', ρ[j]? = some (some y') ∧ OwnA H y' u q := fun j y u q h1 h2 h3 => by
    rcases set_at h1 with ⟨e1, e2, _⟩ | ⟨n1, g1⟩
    · subst e1 e2
      rw [hp] at h2
      cases h2
      exact ⟨x, hi, s.1.back ins hi hp h3.put⟩
    · exact ⟨y, g1, s.1.back ins g1 h2 h3⟩
  refine ⟨⟨by rw [List.length_set, s.1.len], fun a z => ?_, fun j y h1 => ?_, fun j k y z u w q h1 h2 h3 h4 h5 h6 => ?_⟩, fun b o hb => ?_, s.2.2.1, s.2.2.2.1, fun j y u q h1 h2 h3 => ?_, fun g hg => Rep.le wr _ _ (s.2.2.2.2.2 g hg)⟩
  · by_cases ha : a = p
    · subst ha; exact ⟨us, upd_same⟩
    · obtain ⟨ws, q⟩ := s.1.hl a z
      exact ⟨ws, by rw [upd_ne ha]; exact q⟩
  · rcases set_at h1 with ⟨e1, e2, _⟩ | ⟨n1, g1⟩
    · subst e1 e2
      refine ⟨v, hp, SlOk.ofOwn (ho.put'.fwd ins) hΩ upd_same ?_⟩
      have e : (x.put es).items = es := by
        cases x with
        | v d => exact ho.elim
        | o ds => rfl
        | oi C n ds => rfl
      rw [e]
      exact Reps.le wr _ _ r
    · obtain ⟨w, g2, g3⟩ := s.1.sl j y g1
      refine ⟨w, g2, ?_⟩
      cases y with
      | v d => exact Rep.le wr _ _ g3
      | o fs =>
        obtain ⟨q, ws, o, e2, e3, e4⟩ := g3.own trivial
        have ne : q ≠ p := fun z => by
          subst z
          exact n1 (s.1.inj i j x _ v w q hi g1 hp g2 ho o)
        exact SlOk.ofOwn (o.fwd ins) e2 (by rw [upd_ne ne]; exact e3) (Reps.le wr _ _ e4)
      | oi C n fs =>
        obtain ⟨q, ws, o, e2, e3, e4⟩ := g3.own trivial
        have ne : q ≠ p := fun z => by
          subst z
          exact n1 (s.1.inj i j x _ v w q hi g1 hp g2 ho o)
        exact SlOk.ofOwn (o.fwd ins) e2 (by rw [upd_ne ne]; exact e3) (Reps.le wr _ _ e4)
  · obtain ⟨y', k1, k2⟩ := bk j y u q h1 h3 h5
    obtain ⟨z', k3, k4⟩ := bk k z w q h2 h4 h6
    exact s.1.inj j k y' z' u w q k1 k3 h3 h4 k2 k4
  · rw [upd_ne (ne_of_none hb hn)]
    exact s.2.1 _ _ hb
  · obtain ⟨y', k1, k2⟩ := bk j y u q h1 h2 h3
    exact s.2.2.2.2.1 j y' u q k1 h2 k2
theorem SIO.write (s : SIO Ω H0 Ω0 Γ ρ σ H) {i : Nat} {p : Addr} {vs us : List V} {ds es : List D} (hi : ρ[i]? = some (some (Sl.o ds))) (hp : σ[i]? = some (some (V.ref p))) (hΩ : Ω p) (hv : H p = some (.lst vs)) (r : Reps Ω H es us) :
    SIO Ω H0 Ω0 Γ (ρ.set i (some (.o es))) σ (upd H p (.lst us)) := s.writeG hi hp (show OwnA H (.o ds) (.ref p) p from rfl) hΩ hv r
/-- the owned list of slot i is owned no more -/
theorem SIO.freezeG (s : SIO Ω H0 Ω0 Γ ρ σ H) {i : Nat} {x : Sl} (hi : ρ[i]? = some (some x)) : ∃ Ω', SIO Ω' H0 Ω0 Γ (ρ.set i (some (.v x.toD))) σ H := by
  cases ex : x with
  | v d =>
    subst ex
    refine ⟨Ω, ?_⟩
    have e : ρ.set i (some (.v (Sl.v d).toD)) = ρ := by
      apply List.ext_getElem?
      intro j
      by_cases hj : i = j
      · subst hj
        rw [List.getElem?_set_self (List.getElem?_eq_some_iff.mp hi).1, hi]
        rfl
      · rw [List.getElem?_set_ne hj]
    rw [e]
    exact s
  | _ =>
    obtain ⟨v, g1, g2⟩ := s.1.sl i _ hi
    have hO : x.isO := by rw [ex]; trivial
    obtain ⟨p, vs, o, hΩ, hv, rs⟩ := g2.own hO
    have hl : i < ρ.length := (List.getElem?_eq_some_iff.mp hi).1
    have hn := s.2.2.2.2.1 i x v p hi g1 o
    have sub : HLe Ω H (fun a => a ≠ p ∧ Ω a) H := .sub fun a z => z.2
    rw [← ex]
    have rx : Rep (fun a => a ≠ p ∧ Ω a) H x.toD v := by
      cases x with
      | v d => exact hO.elim
      | o ds =>
        have o : v = .ref p := o
        subst o
        exact Rep.lst_mk (fun z => z.1 rfl) hv (Reps.le sub _ _ rs)
      | oi C n ds =>
        obtain ⟨a, dx, e1, qa⟩ := o
        subst e1
        simp only [Sl.toD, Rep]
        exact ⟨a, dx, [.ref p], rfl, qa, rfl, Reps.cons (Rep.lst_mk (fun z => z.1 rfl) hv (Reps.le sub _ _ rs)) Reps.nil⟩
    refine ⟨fun a => a ≠ p ∧ Ω a, ⟨by rw [List.length_set, s.1.len], fun a z => s.1.hl a z.2, fun j y h1 => ?_, fun j k y z u w q h1 h2 h3 h4 h5 h6 => ?_⟩, s.2.1, fun a z => ⟨⟨fun e => ?_, (s.2.2.1 a z).1⟩, (s.2.2.1 a z).2⟩, fun a z => s.2.2.2.1 a z.2, fun j y u q h1 h2 h3 => ?_, fun g hg => Rep.le sub _ _ (s.2.2.2.2.2 g hg)⟩
    · rcases set_at h1 with ⟨e1, e2, _⟩ | ⟨n1, k1⟩
      · subst e1 e2
        exact ⟨v, g1, rx⟩
      · obtain ⟨u, k2, k3⟩ := s.1.sl j y k1
        refine ⟨u, k2, ?_⟩
        cases y with
        | v d => exact Rep.le sub _ _ k3
        | o fs =>
          obtain ⟨q, ws, o2, e2, e3, e4⟩ := k3.own trivial
          exact SlOk.ofOwn o2 ⟨fun z => by
            subst z
            exact n1 (s.1.inj i j x _ v u q hi k1 g1 k2 o o2), e2⟩ e3 (Reps.le sub _ _ e4)
        | oi C n fs =>
          obtain ⟨q, ws, o2, e2, e3, e4⟩ := k3.own trivial
          exact SlOk.ofOwn o2 ⟨fun z => by
            subst z
            exact n1 (s.1.inj i j x _ v u q hi k1 g1 k2 o o2), e2⟩ e3 (Reps.le sub _ _ e4)
    · rcases set_at h1 with ⟨e1, e2, _⟩ | ⟨n1, k1⟩
      · subst e2; exact h5.elim
      · rcases set_at h2 with ⟨e1, e2, _⟩ | ⟨n2, k2⟩
        · subst e2; exact h6.elim
        · exact s.1.inj j k y z u w q k1 k2 h3 h4 h5 h6
    · subst e
      exact (s.2.2.1 a z).2 hn
    · rcases set_at h1 with ⟨e1, e2, _⟩ | ⟨n1, k1⟩
      · subst e2; exact h3.elim
      · exact s.2.2.2.2.1 j y u q k1 h2 h3
theorem SIO.freeze (s : SIO Ω H0 Ω0 Γ ρ σ H) {i : Nat} {ds : List D} (hi : ρ[i]? = some (some (Sl.o ds))) : ∃ Ω', SIO Ω' H0 Ω0 Γ (ρ.set i (some (.v (.lst ds)))) σ H := s.freezeG hi
end
/-! ### small statements -/
section
variable {X : Cx} {W : Addr → Hp → Prop} {st : Stmt} {sts : List Stmt} {a b : Ev → S} {e : Expr} {f : Ev → M D} {fl : Ev → M (List D)} {c : Ev → M Bool} {pos : Pos}
def sNil : Ev → S := S.nx
def sSeq (a b : Ev → S) : Ev → S := fun ρ => (a ρ).then b
def sSet (i : Nat) (f : Ev → M D) : Ev → S := fun ρ => S.ofM (f ρ) fun d => .nx (ρ.set i (some (.v d)))
def sOwn (i : Nat) (f : Ev → M (List D)) : Ev → S := fun ρ => S.ofM (f ρ) fun ds => .nx (ρ.set i (some (.o ds)))
def sAsg (f : Ev → M D) (tf : D → Ev → M Ev) : Ev → S := fun ρ => S.ofM (f ρ) fun d => match tf d ρ with
  | .ok ρ' => .nx ρ'
  | _ => .und
def sPar (i j : Nat) (f : Ev → M (List D)) : Ev → S := fun ρ => S.ofM (f ρ) fun ds => match ds with
  | [d, e] => .nx ((ρ.set i (some (.v d))).set j (some (.v e)))
  | _ => .und
def sDrop (f : Ev → M D) : Ev → S := fun ρ => S.ofM (f ρ) fun _ => .nx ρ
def sRet (f : Ev → M D) : Ev → S := fun ρ => S.ofM (f ρ) fun d => .rt d
def sRetN : Ev → S := fun _ => .rt .non
def sIf (c : Ev → M Bool) (a b : Ev → S) : Ev → S := fun ρ => S.ofM (c ρ) fun k => if k = true then a ρ else b ρ
def frz (i : Nat) (ρ : Ev) : Ev := match ρ[i]? with
  | some (some (.o ds)) => ρ.set i (some (.v (.lst ds)))
  | some (some (.oi C n ds)) => ρ.set i (some (.v (.ins C [n] [.lst ds])))
  | _ => ρ
def sFrz (i : Nat) (a : Ev → S) : Ev → S := fun ρ => a (frz i ρ)
theorem dss_nil : DSs X W [] sNil := pss_weak pss_nil fun N σ H ⟨H0, Ω0, Γ, ρ, s, k⟩ => k σ H s
theorem ks_then {H0 : Hp} {Ω0 : Addr → Prop} {Γ : List (D × V)} {N : Ends} {r : S} (k : KS W H0 Ω0 Γ (r.then b) N) : KS W H0 Ω0 Γ r { N with nx := fun σ H => tS W b N σ H } := by
  cases r with
  | und => exact k
  | nx ρ => exact fun σ' H' s => ⟨H0, Ω0, Γ, ρ, s, k⟩
  | rt d => exact k
  | ri C n ds => exact k
  | bk ρ => exact k
  | ct ρ => exact k
  | ex c => exact k
theorem dss_cons (h1 : DS X W st a) (h2 : DSs X W sts b) : DSs X W (st :: sts) (sSeq a b) :=
  pss_weak (pss_cons h1 h2) fun N σ H ⟨H0, Ω0, Γ, ρ, s, k⟩ => ⟨H0, Ω0, Γ, ρ, s, ks_then k⟩
theorem dss_one (h1 : DS X W st a) : DSs X W [st] a := pss_one h1
theorem ds_asgN {i : Nat} (h : PS X st (tAsg (tD W false f) (gName i))) : DS X W st (sSet i f) := by
  refine ps_weak h fun N σ H ⟨H0, Ω0, Γ, ρ, ⟨Ω, s⟩, k⟩ => ⟨Ω, ρ, s.1, (KS.bind s.2.1 k).imp fun d H1 _ s1 k1 v r => ?_⟩
  exact k1 _ _ ⟨Ω, (s.same s1).set (Rep.le (.sub fun _ z => ⟨rfl, z⟩) _ _ r) i⟩
theorem ds_ownN {i : Nat} (h : PS X st (tAsg (tDF W false fl) (gName i))) : DS X W st (sOwn i fl) := by
  refine ps_weak h fun N σ H ⟨H0, Ω0, Γ, ρ, ⟨Ω, s⟩, k⟩ => ⟨Ω, ρ, s.1, (KS.bind s.2.1 k).imp fun ds H1 _ s1 k1 p vs hp hp' r => ?_⟩
  exact k1 _ _ ⟨ad p Ω, s.own s1 hp hp' (Reps.le (.sub fun a z => by
    rcases z with z | z
    · exact .inl z
    · exact .inr ⟨rfl, z⟩) _ _ r) i⟩
/-- a new list that is owned by none -/
theorem ps_df {i : Nat} {m : Bool} (h : PS X st (tAsg (tDF W m fl) (gName i))) : PS X st (tAsg (tD W m (xLst fl)) (gName i)) := ps_weak h fun N σ H q => tDF_tD q
theorem ds_asg {vs : List Nat} {tg : Expr} {tf : D → Ev → M Ev} (he : DE X W false e f) (hg : DG X vs tg tf) (hs : swapsWithSole [tg] e pos.line X.env = pure false := by rfl) (hw : swappedStores [tg] e X.env = pure none := by rfl) (h1 : (assignEach [tg] X.env).map (·.2) = [assign tg X.env] := by rfl) : DS X W (.Assign [tg] e pos) (sAsg f tf) := by
  refine ps_weak (ps_asg he hg hs hw h1) fun N σ H ⟨H0, Ω0, Γ, ρ, ⟨Ω, s⟩, k⟩ => ⟨Ω, ρ, s.1, (KS.bind s.2.1 k).imp fun d H1 _ s1 k1 v r => ?_⟩
  refine ⟨Ω, ρ, d, s.1.same s1, Rep.le (.sub fun _ z => ⟨rfl, z⟩) _ _ r, ?_⟩
  split at k1
  · rename_i ρ' hρ
    try rw [hρ]
    intro σ' e' _ _ ho
    have s2 := s.same s1
    refine k1 σ' H1 ⟨Ω, e', s2.2.1, s2.2.2.1, s2.2.2.2.1, fun i x v p h1 h2 h3 => ?_, s2.2.2.2.2.2⟩
    obtain ⟨g1, g2⟩ := ho i x h3.isO h1
    rw [g2] at h2
    exact s2.2.2.2.2.1 i x v p g1 h2 h3
  · exact k1.elim
theorem ds_par {i j : Nat} (h : PS X st (tPar i j (tDA W false fl))) : DS X W st (sPar i j fl) := by
  refine ps_weak h fun N σ H ⟨H0, Ω0, Γ, ρ, ⟨Ω, s⟩, k⟩ => ⟨Ω, ρ, s.1, (KS.bind s.2.1 k).imp fun ds H1 _ s1 k1 vs rs => ?_⟩
  split at k1
  · obtain ⟨v, u, e, r1, r2⟩ := rs.two
    have up : HLe (mo false Ω) H1 Ω H1 := .sub fun _ z => ⟨rfl, z⟩
    exact ⟨v, u, e, k1 _ _ ⟨Ω, ((s.same s1).set (Rep.le up _ _ r1) i).set (Rep.le up _ _ r2) j⟩⟩
  · exact k1.elim
theorem ds_expr (he : DE X W true e f) (hs : swapsWith e none pos.line X.env = pure false := by rfl) : DS X W (.Expr e pos) (sDrop f) :=
  ps_weak (ps_expr he hs) fun N σ H ⟨H0, Ω0, Γ, ρ, ⟨Ω, s⟩, k⟩ => ⟨Ω, ρ, s.1, (KS.bind s.2.1 k).imp fun d H1 _ s1 k1 v r => k1 _ _ ⟨Ω, s.same s1⟩⟩
theorem ds_ret (he : DE X W false e f) : DS X W (.Return (some e) pos) (sRet f) :=
  ps_weak (ps_ret he) fun N σ H ⟨H0, Ω0, Γ, ρ, ⟨Ω, s⟩, k⟩ => ⟨Ω, ρ, s.1, (KS.bind s.2.1 k).imp fun d H1 _ s1 k1 v r => k1 v _ (s.2.1.trans s1) (Rep.le (.sub fun a z => ⟨rfl, (s.2.2.1 a z).1⟩) _ _ r)⟩
theorem ds_retN : DS X W (.Return none pos) sRetN :=
  ps_weak ps_retN fun N σ H ⟨H0, Ω0, Γ, ρ, ⟨Ω, s⟩, k⟩ => k _ _ s.2.1 (by simp only [Rep])
theorem ds_if {ec : Expr} {as bs : List Stmt} (hc : DT X W ec c) (ha : DSs X W as a) (hb : DSs X W bs b) : DS X W (.If ec as bs pos) (sIf c a b) :=
  ps_weak (ps_if hc ha hb) fun N σ H ⟨H0, Ω0, Γ, ρ, ⟨Ω, s⟩, k⟩ => ⟨Ω, ρ, s.1, (KS.bind s.2.1 k).imp fun d H1 _ s1 k1 => by
    cases d with
    | true => rw [if_pos rfl] at k1 ⊢; exact ⟨H0, Ω0, Γ, ρ, ⟨Ω, s.same s1⟩, k1⟩
    | false => rw [if_neg Bool.false_ne_true] at k1 ⊢; exact ⟨H0, Ω0, Γ, ρ, ⟨Ω, s.same s1⟩, k1⟩⟩
theorem ds_pass : DS X W (.Pass pos) sNil := ps_weak ps_pass fun N σ H ⟨H0, Ω0, Γ, ρ, s, k⟩ => k σ H s
theorem ds_break : DS X W (.Break pos) S.bk := ps_weak ps_break fun N σ H ⟨H0, Ω0, Γ, ρ, s, k⟩ => k σ H s
theorem ds_continue : DS X W (.Continue pos) S.ct := ps_weak ps_continue fun N σ H ⟨H0, Ω0, Γ, ρ, s, k⟩ => k σ H s
theorem ds_und : DS X W st (fun _ => .und) := ps_weak ps_never fun N σ H ⟨H0, Ω0, Γ, ρ, s, k⟩ => k
theorem tS_frz {i : Nat} {N : Ends} {σ : L2.St} {H : Hp} (h : tS W (sFrz i a) N σ H) : tS W a N σ H := by
  obtain ⟨H0, Ω0, Γ, ρ, ⟨Ω, s⟩, k⟩ := h
  unfold sFrz frz at k
  split at k
  · rename_i ds hi
    exact ⟨H0, Ω0, Γ, _, s.freeze hi, k⟩
  · rename_i C n ds hi
    exact ⟨H0, Ω0, Γ, _, s.freezeG hi, k⟩
  · exact ⟨H0, Ω0, Γ, ρ, ⟨Ω, s⟩, k⟩
theorem ds_frz (i : Nat) (h : DS X W st a) : DS X W st (sFrz i a) := ps_weak h fun N σ H q => tS_frz q
theorem dss_frz (i : Nat) (h : DSs X W sts a) : DSs X W sts (sFrz i a) := pss_weak h fun N σ H q => tS_frz q
theorem ds_raise {cls : Addr} {WX' : WX} (hc : X.calm = true) (tk : Takes X WX') (hw : ∀ σ H, W cls H → WX' (.ref cls) none σ H) (he : PMk X e (fun _ H Q => Q (.ref cls) none H)) : DS X W (.Raise (some e) none pos) (fun _ => .ex cls) :=
  ps_weak (ps_raise hc tk he) fun N σ H ⟨H0, Ω0, Γ, ρ, ⟨Ω, s⟩, k⟩ => hw _ _ (k H s.2.1)
/-! ### owned lists changed -/
def oAt (i : Nat) (ρ : Ev) (k : List D → S) : S := match ρ[i]? with
  | some (some (.o ds)) => k ds
  | _ => .und
def oPut (i : Nat) (ρ : Ev) (m : M (List D)) : S := S.ofM m fun es => .nx (ρ.set i (some (.o es)))
def gApp (d : D) (ds : List D) : M (List D) := if ds.length < sizeLine then .ok (ds ++ [d]) else .und
def gExt (d : D) (ds : List D) : M (List D) := match d with
  | .lst es => if ds.length + es.length ≤ sizeLine then .ok (ds ++ es) else .und
  | _ => .und
def gSet (k d : D) (ds : List D) : M (List D) := match k with
  | .int z => (ofO (ixN ds.length z)).bind fun j => .ok (ds.set j d)
  | _ => .und
def sApp (i : Nat) (f : Ev → M D) : Ev → S := fun ρ => oAt i ρ fun ds => S.ofM (f ρ) fun d => oPut i ρ (gApp d ds)
def sExt (i : Nat) (f : Ev → M D) : Ev → S := fun ρ => oAt i ρ fun ds => S.ofM (f ρ) fun d => oPut i ρ (gExt d ds)
def sRev (i : Nat) : Ev → S := fun ρ => oAt i ρ fun ds => oPut i ρ (.ok ds.reverse)
def sSetIx (i : Nat) (fk fv : Ev → M D) : Ev → S := fun ρ => S.ofM (fv ρ) fun d => oAt i ρ fun ds => S.ofM (fk ρ) fun k => oPut i ρ (gSet k d ds)
theorem oAt_of {H0 : Hp} {Ω0 Ω : Addr → Prop} {Γ : List (D × V)} {ρ : Ev} {σ : L2.St} {H : Hp} {N : Ends} {i : Nat} {kk : List D → S} (s : SIO Ω H0 Ω0 Γ ρ σ H) (k : KS W H0 Ω0 Γ (oAt i ρ kk) N) :
    ∃ ds p vs, ρ[i]? = some (some (Sl.o ds)) ∧ σ[i]? = some (some (V.ref p)) ∧ Ω p ∧ H p = some (.lst vs) ∧ Reps Ω H ds vs ∧ KS W H0 Ω0 Γ (kk ds) N := by
  unfold oAt at k
  split at k
  · rename_i ds hi
    obtain ⟨v, g1, p, vs, e1, hΩ, hv, rs⟩ := s.1.sl i _ hi
    subst e1
    exact ⟨ds, p, vs, hi, g1, hΩ, hv, rs, k⟩
  · exact k.elim
theorem tyV_lst {K : PySem.W.Frag} {p : Addr} {vs : List V} {H : Hp} (h : H p = some (.lst vs)) : tyV K "list" (.ref p) H := .inl ⟨rfl, vs, .inl (.inl h)⟩
variable {x : Str} {px apos cpos : Pos}
theorem ds_append {i : Nat} (hx : PE X (.Name x px) (tVar i)) (he : DE X W false e f)
    (hbase : attributeBase (.Name x px) "append" X.env (eval (.Name x px) X.env) = eval (.Name x px) X.env := by rfl)
    (hfew : ((backTo cpos (starEach [e] X.env)).all (fun x => !x.1) && (backToKw cpos (keywordEach [] X.env)).all (fun x => x.1.isSome) && decide ([e].length + ([] : List Keyword).length + (if ([] : List Keyword).isEmpty then 0 else 1) < 30)) = true := by rfl)
    (hline : (apos.endLine == cpos.line) = true := by rfl) (hs : starEach [e] X.env = (false, eval e X.env) :: starEach [] X.env := by rfl) (hplain : (backTo cpos (starEach [] X.env)).any (·.1) = false := by rfl)
    (hsw : swapsWith (.Call (.Attribute (.Name x px) "append" apos) [e] [] cpos) none pos.line X.env = pure false := by rfl) : DS X W (.Expr (.Call (.Attribute (.Name x px) "append" apos) [e] [] cpos) pos) (sApp i f) := by
  refine ps_weak (ps_expr (pe_bm PySem.F.plainAttrs_list PySem.F.slot_list_append PySem.F.type_list_append mt_append hx (pa_cons he pa_nil hs) hbase hfew hline hs hplain) hsw) fun N σ H ⟨H0, Ω0, Γ, ρ, ⟨Ω, s⟩, k⟩ => ?_
  obtain ⟨ds, p, vs, hi, g1, hΩ, hv, rs, k⟩ := oAt_of s k
  refine ⟨_, g1, tyV_lst hv, Ω, ρ, s.1, (KS.bind s.2.1 k).imp fun d H1 _ s1 k1 v r => ?_⟩
  unfold gApp at k1
  split at k1
  · rename_i hz
    refine ⟨p, vs, v, rfl, rfl, s1 _ _ hv, by rw [← rs.length]; exact hz, k1 _ _ ⟨Ω, (s.same s1).write hi g1 hΩ (s1 _ _ hv) ?_⟩⟩
    exact (Reps.le (.same s1 fun _ z => z) _ _ rs).append (Reps.cons (Rep.le (.sub fun _ z => ⟨rfl, z⟩) _ _ r) Reps.nil)
  · exact k1.elim
theorem ds_extend {i : Nat} (hx : PE X (.Name x px) (tVar i)) (he : DE X W false e f)
    (hbase : attributeBase (.Name x px) "extend" X.env (eval (.Name x px) X.env) = eval (.Name x px) X.env := by rfl)
    (hfew : ((backTo cpos (starEach [e] X.env)).all (fun x => !x.1) && (backToKw cpos (keywordEach [] X.env)).all (fun x => x.1.isSome) && decide ([e].length + ([] : List Keyword).length + (if ([] : List Keyword).isEmpty then 0 else 1) < 30)) = true := by rfl)
    (hline : (apos.endLine == cpos.line) = true := by rfl) (hs : starEach [e] X.env = (false, eval e X.env) :: starEach [] X.env := by rfl) (hplain : (backTo cpos (starEach [] X.env)).any (·.1) = false := by rfl)
    (hsw : swapsWith (.Call (.Attribute (.Name x px) "extend" apos) [e] [] cpos) none pos.line X.env = pure false := by rfl) : DS X W (.Expr (.Call (.Attribute (.Name x px) "extend" apos) [e] [] cpos) pos) (sExt i f) := by
  refine ps_weak (ps_expr (pe_bm PySem.F.plainAttrs_list PySem.F.slot_list_extend PySem.F.type_list_extend mt_extend hx (pa_cons he pa_nil hs) hbase hfew hline hs hplain) hsw) fun N σ H ⟨H0, Ω0, Γ, ρ, ⟨Ω, s⟩, k⟩ => ?_
  obtain ⟨ds, p, vs, hi, g1, hΩ, hv, rs, k⟩ := oAt_of s k
  refine ⟨_, g1, tyV_lst hv, Ω, ρ, s.1, (KS.bind s.2.1 k).imp fun d H1 _ s1 k1 v r => ?_⟩
  unfold gExt at k1
  split at k1
  · split at k1
    · rename_i hz
      obtain ⟨q, us, e1, _, hq, r1⟩ := r.lst_inv
      subst e1
      refine ⟨p, q, vs, us, rfl, rfl, s1 _ _ hv, hq, by rw [← rs.length, ← r1.length]; exact hz, k1 _ _ ⟨Ω, (s.same s1).write hi g1 hΩ (s1 _ _ hv) ?_⟩⟩
      exact (Reps.le (.same s1 fun _ z => z) _ _ rs).append (Reps.le (.sub fun _ z => ⟨rfl, z⟩) _ _ r1)
    · exact k1.elim
  · exact k1.elim
theorem ds_reverse {i : Nat} (hx : PE X (.Name x px) (tVar i)) (hbase : attributeBase (.Name x px) "reverse" X.env (eval (.Name x px) X.env) = eval (.Name x px) X.env := by rfl) (hline : (apos.endLine == cpos.line) = true := by rfl)
    (hsw : swapsWith (.Call (.Attribute (.Name x px) "reverse" apos) [] [] cpos) none pos.line X.env = pure false := by rfl) : DS X W (.Expr (.Call (.Attribute (.Name x px) "reverse" apos) [] [] cpos) pos) (sRev i) := by
  refine ps_weak (ps_expr (pe_bm0 PySem.F.plainAttrs_list PySem.F.slot_list_reverse PySem.F.type_list_reverse mt_reverse hx hbase hline) hsw) fun N σ H ⟨H0, Ω0, Γ, ρ, ⟨Ω, s⟩, k⟩ => ?_
  obtain ⟨ds, p, vs, hi, g1, hΩ, hv, rs, k⟩ := oAt_of s k
  exact ⟨_, g1, tyV_lst hv, p, vs, rfl, rfl, hv, k _ _ ⟨Ω, s.write hi g1 hΩ hv rs.reverse⟩⟩
theorem ds_setIx {i : Nat} {ek ev : Expr} {fk fv : Ev → M D} {tpos : Pos} (hx : PE X (.Name x px) (tVar i)) (hk : DE X W false ek fk) (hv : DE X W false ev fv)
    (hg : ∀ {t : TSet}, PSet X t → PG X (.Subscript (.Name x px) ek tpos) (gSub (tVar i) (tD W false fk) t))
    (hs : swapsWithSole [.Subscript (.Name x px) ek tpos] ev pos.line X.env = pure false := by rfl) (hw : swappedStores [.Subscript (.Name x px) ek tpos] ev X.env = pure none := by rfl) (h1 : (assignEach [.Subscript (.Name x px) ek tpos] X.env).map (·.2) = [assign (.Subscript (.Name x px) ek tpos) X.env] := by rfl) :
    DS X W (.Assign [.Subscript (.Name x px) ek tpos] ev pos) (sSetIx i fk fv) := by
  refine ps_weak (ps_asg hv (hg set_list) hs hw h1) fun N σ H ⟨H0, Ω0, Γ, ρ, ⟨Ω, s⟩, k⟩ => ⟨Ω, ρ, s.1, (KS.bind s.2.1 k).imp fun d H1 _ s1 k1 v r => ?_⟩
  obtain ⟨ds, p, vs, hi, g1, hΩ, hv, rs, k2⟩ := oAt_of (s.same s1) k1
  refine ⟨_, g1, Ω, ρ, s.1.same s1, (KS.bind (s.2.1.trans s1) k2).imp fun kd H2 _ s2 k3 kv rk => ?_⟩
  unfold gSet at k3
  split at k3
  · rename_i z _
    cases q : ixN ds.length z with
    | none => rw [q] at k3; exact k3.elim
    | some j =>
      rw [q] at k3
      refine ⟨p, vs, z, j, rfl, rk.int_inv, s2 _ _ hv, by rw [← rs.length]; exact q, k3 _ _ ⟨Ω, ((s.same s1).same s2).write hi g1 hΩ (s2 _ _ hv) ?_⟩⟩
      exact Reps.set (Rep.le (.same s2 fun a z => ⟨rfl, z⟩) _ _ r) j (Reps.le (.same s2 fun _ z => z) _ _ rs)
  · exact k3.elim
/-! ### loops -/
def forS (tf : D → Ev → M Ev) (fb : Ev → S) : List D → Ev → S
  | [], ρ => .nx ρ
  | d :: r, ρ => match tf d ρ with
    | .ok ρ1 => match fb ρ1 with
      | .nx ρ2 => forS tf fb r ρ2
      | .ct ρ2 => forS tf fb r ρ2
      | .bk ρ2 => .nx ρ2
      | s => s
    | _ => .und
def sFor (fi : Ev → M (List D)) (tf : D → Ev → M Ev) (fb : Ev → S) : Ev → S := fun ρ => S.ofM (fi ρ) fun items => forS tf fb items ρ
def whileS (c : Ev → M Bool) (fb : Ev → S) : Nat → Ev → S
  | 0, _ => .und
  | n + 1, ρ => S.ofM (c ρ) fun b => if b = true then (match fb ρ with
      | .nx ρ2 => whileS c fb n ρ2
      | .ct ρ2 => whileS c fb n ρ2
      | .bk ρ2 => .nx ρ2
      | s => s) else .nx ρ
def sWhile (μ : Ev → Nat) (c : Ev → M Bool) (fb : Ev → S) : Ev → S := fun ρ => whileS c fb (μ ρ) ρ
theorem SI.weak {H0 : Hp} {Ω0 : Addr → Prop} {Γ Γ' : List (D × V)} {ρ : Ev} {σ : L2.St} {H : Hp} (s : SI H0 Ω0 (Γ' ++ Γ) ρ σ H) : SI H0 Ω0 Γ ρ σ H := by
  obtain ⟨Ω, s⟩ := s
  exact ⟨Ω, s.1, s.2.1, s.2.2.1, s.2.2.2.1, s.2.2.2.2.1, fun g hg => s.2.2.2.2.2 g (List.mem_append_right _ hg)⟩
theorem ds_for {vs : List Nat} {tg iter : Expr} {body : List Stmt} {tf : D → Ev → M Ev} {fb : Ev → S} (hp : PassesOwn (model X.prog X.w) X.A X.env X.xe) (hc : X.calm = true) (hi : DIt X W false tg iter fl) (hg : DG X vs tg tf) (hb : DSs X W body fb)
    (hs : ∀ x, foldedSetIterable iter X.env x = pure x := by intro _; rfl) : DS X W (.For tg iter body [] pos) (sFor fl tf fb) := by
  refine ps_weak (ps_for hp hc hi hg hb hs) fun N σ H ⟨H0, Ω0, Γ, ρ, ⟨Ω, s⟩, k⟩ => ⟨Ω, ρ, s.1, (KS.bind s.2.1 k).imp fun items H1 _ s1 k1 J Γ' w live => ?_⟩
  refine ⟨fun i n σ H => n = items.length - i ∧ i ≤ items.length ∧ ∃ ρ, SI H0 Ω0 (Γ' ++ Γ) ρ σ H ∧ KS W H0 Ω0 Γ (forS tf fb (items.drop i) ρ) N, ⟨_, rfl, Nat.zero_le _, ρ, ⟨Ω, ?_⟩, k1⟩, fun i n σ2 H2 hW => ?_⟩
  · have s2 := s.same s1
    refine ⟨s2.1, s2.2.1, s2.2.2.1, s2.2.2.2.1, s2.2.2.2.2.1, fun g hg => ?_⟩
    rcases List.mem_append.mp hg with z | z
    · exact Rep.le (.sub fun _ z => ⟨rfl, z⟩) _ _ (live g z)
    · exact s2.2.2.2.2.2 g z
  · obtain ⟨rfl, hin, ρ2, ⟨Ω2, s2⟩, k2⟩ := hW
    have lv : ∀ g ∈ Γ', Rep Ω2 H2 g.1 g.2 := fun g hg => s2.2.2.2.2.2 g (List.mem_append_left _ hg)
    by_cases hi' : i < items.length
    · refine .inr ⟨w.go _ H2 i hi' lv, fun σ' H' => ∃ m', m' < items.length - i ∧ (m' = items.length - (i + 1) ∧ i + 1 ≤ items.length ∧ ∃ ρ, SI H0 Ω0 (Γ' ++ Γ) ρ σ' H' ∧ KS W H0 Ω0 Γ (forS tf fb (items.drop (i + 1)) ρ) N), fun σ' H' h => h, fun x H' hy => ?_⟩
      obtain ⟨sm, hx⟩ := w.yld _ H2 i x H' hi' lv hy
      have rx := hx _ (List.getElem?_eq_getElem hi')
      rw [List.drop_eq_getElem_cons hi'] at k2
      unfold forS at k2
      have s3 := s2.same sm
      refine ⟨Ω2, ρ2, items[i], s3.1, rx, ?_⟩
      cases qt : tf items[i] ρ2 with
      | und => rw [qt] at k2; exact k2
      | ex c => rw [qt] at k2; exact k2
      | ok ρ3 =>
        rw [qt] at k2
        dsimp only at k2 ⊢
        intro σ3 e3 _ _ ho
        refine ⟨H0, Ω0, Γ' ++ Γ, ρ3, ⟨Ω2, e3, s3.2.1, s3.2.2.1, s3.2.2.2.1, fun j x v p h1 h2 h4 => ?_, s3.2.2.2.2.2⟩, ?_⟩
        · obtain ⟨g1, g2⟩ := ho j x h4.isO h1
          rw [g2] at h2
          exact s3.2.2.2.2.1 j x v p g1 h2 h4
        · cases qb : fb ρ3 with
          | und => rw [qb] at k2; exact k2
          | ex c => rw [qb] at k2; exact k2
          | rt d => rw [qb] at k2; exact k2
          | ri C n ds => rw [qb] at k2; exact k2
          | bk ρ4 => rw [qb] at k2; exact fun σ' H' s' => k2 σ' H' s'.weak
          | nx ρ4 => rw [qb] at k2; exact fun σ' H' s' => ⟨_, by omega, rfl, hi', ρ4, s', k2⟩
          | ct ρ4 => rw [qb] at k2; exact fun σ' H' s' => ⟨_, by omega, rfl, hi', ρ4, s', k2⟩
    · have he : i = items.length := by omega
      subst he
      rw [List.drop_length] at k2
      exact .inl ⟨w.stop _ H2 lv, k2 σ2 H2 (SI.weak ⟨Ω2, s2⟩)⟩
theorem ds_while (μ : Ev → Nat) {ec : Expr} {body : List Stmt} {fb : Ev → S} (hp : PassesOwn (model X.prog X.w) X.A X.env X.xe) (hc : DT X W ec c) (hb : DSs X W body fb) : DS X W (.While ec body [] pos) (sWhile μ c fb) := by
  refine ps_weak (ps_while hp hc hb) fun N σ H ⟨H0, Ω0, Γ, ρ, s, k⟩ => ⟨fun n σ H => ∃ ρ, SI H0 Ω0 Γ ρ σ H ∧ KS W H0 Ω0 Γ (whileS c fb n ρ) N, ⟨μ ρ, ρ, s, k⟩, fun n σ2 H2 hW => ?_⟩
  obtain ⟨ρ2, ⟨Ω2, s2⟩, k2⟩ := hW
  cases n with
  | zero => exact k2.elim
  | succ n =>
    unfold whileS at k2
    refine ⟨Ω2, ρ2, s2.1, (KS.bind s2.2.1 k2).imp fun b H3 _ s3 k3 => ?_⟩
    cases b with
    | false =>
      rw [if_neg Bool.false_ne_true] at k3 ⊢
      exact k3 _ _ ⟨Ω2, s2.same s3⟩
    | true =>
      rw [if_pos rfl] at k3 ⊢
      refine ⟨fun σ' H' => ∃ m', m' < n + 1 ∧ ∃ ρ, SI H0 Ω0 Γ ρ σ' H' ∧ KS W H0 Ω0 Γ (whileS c fb m' ρ) N, fun σ' H' h => h, H0, Ω0, Γ, ρ2, ⟨Ω2, s2.same s3⟩, ?_⟩
      cases qb : fb ρ2 with
      | und => rw [qb] at k3; exact k3
      | ex c => rw [qb] at k3; exact k3
      | rt d => rw [qb] at k3; exact k3
      | ri C n ds => rw [qb] at k3; exact k3
      | bk ρ4 => rw [qb] at k3; exact k3
      | nx ρ4 => rw [qb] at k3; exact fun σ' H' s' => ⟨n, Nat.lt_succ_self n, ρ4, s', k3⟩
      | ct ρ4 => rw [qb] at k3; exact fun σ' H' s' => ⟨n, Nat.lt_succ_self n, ρ4, s', k3⟩
end
/-! ### defs -/
/-- a def as a pure function: N slots, the parameters first -/
def defF (rx : Bool) (n N : Nat) (fs : Ev → S) : Fn := fun ds => if ds.length = n then (match fs (ds.map (fun d => some (Sl.v d)) ++ List.replicate (N - n) none) with
  | .nx _ => .ok .non
  | .rt d => .ok d
  | .ex c => if rx = true then .ex c else .und
  | _ => .und) else .und
theorem ei_start {Ω : Addr → Prop} {H : Hp} {ds : List D} {vs : List V} {N : List Str} (hl : ∀ a, Ω a → ∃ vs, H a = some (.lst vs)) (r : Reps Ω H ds vs) : EI Ω (ds.map (fun d => some (Sl.v d)) ++ List.replicate (N.length - ds.length) none) (L2.start N vs) H := by
  have at_ : ∀ (i : Nat) (s : Sl), (ds.map (fun d => some (Sl.v d)) ++ List.replicate (N.length - ds.length) none)[i]? = some (some s) → ∃ d, ds[i]? = some d ∧ s = .v d := fun i s h => by
    by_cases hi : i < ds.length
    · rw [List.getElem?_append_left (by rw [List.length_map]; exact hi), List.getElem?_map] at h
      cases e : ds[i]? with
      | none => rw [e] at h; cases h
      | some d => rw [e] at h; cases h; exact ⟨d, rfl, rfl⟩
    · rw [List.getElem?_append_right (by rw [List.length_map]; omega), List.getElem?_replicate] at h
      split at h <;> cases h
  refine ⟨?_, hl, fun i s h => ?_, fun i j s t u v p h _ _ _ h5 _ => ?_⟩
  · unfold L2.start
    rw [List.length_append, List.length_append, List.length_map, List.length_map, List.length_replicate, List.length_replicate, r.length]
  · obtain ⟨d, h1, e⟩ := at_ i s h
    subst e
    obtain ⟨v, h2, h3⟩ := r.get h1
    refine ⟨v, ?_, h3⟩
    have hi : i < vs.length := (List.getElem?_eq_some_iff.mp h2).1
    unfold L2.start
    rw [List.getElem?_append_left (by rw [List.length_map]; exact hi), List.getElem?_map, h2]
    rfl
  · obtain ⟨d, _, e⟩ := at_ i _ h
    subst e
    exact h5.elim
theorem def_read {Ω : Addr → Prop} {H : Hp} {ds : List D} {vs : List V} {N : List Str} {n : Nat} {W : Addr → Hp → Prop} {fs : Ev → S} {Q : VK} (hl : ∀ a, Ω a → ∃ vs, H a = some (.lst vs)) (r : Reps Ω H ds vs) (hn : ds.length = n)
    (k : KM W (defF true n N.length fs ds) H (fun d H' => ∀ v, Rep Ω H' d v → Q v H')) : tS W fs { nx := fun _ H' => Q .non H', rt := Q } (L2.start N vs) H := by
  unfold defF at k
  rw [if_pos hn, ← hn] at k
  refine ⟨H, Ω, [], _, ⟨Ω, ei_start (N := N) hl r, Same.refl _, fun a z => ⟨z, fun e => ?_⟩, fun a z => .inl z, fun i x v p h1 h2 h3 => ?_, fun g hg => absurd hg (by simp)⟩, ?_⟩
  · obtain ⟨ws, q⟩ := hl a z
    rw [e] at q; cases q
  · exfalso
    by_cases hi : i < ds.length
    · rw [List.getElem?_append_left (by rw [List.length_map]; exact hi), List.getElem?_map] at h1
      cases e : ds[i]? with
      | none => rw [e] at h1; cases h1
      | some d => rw [e] at h1; cases h1; exact h3
    · rw [List.getElem?_append_right (by rw [List.length_map]; omega), List.getElem?_replicate] at h1
      split at h1 <;> cases h1
  · cases q : fs (ds.map (fun d => some (Sl.v d)) ++ List.replicate (N.length - ds.length) none) with
    | und => rw [q] at k; exact k
    | ex c => rw [q] at k; exact k
    | nx ρ =>
      rw [q] at k
      intro σ' H' s
      obtain ⟨_, s⟩ := s
      exact k H' s.2.1 .non (by simp only [Rep])
    | rt d => rw [q] at k; exact fun v H' sm r => k H' sm v r
    | ri C n ds => rw [q] at k; exact k.elim
    | bk ρ => rw [q] at k; exact k.elim
    | ct ρ => rw [q] at k; exact k.elim
section
variable {P : Program} {w : World} {K : PySem.W.Frag} {mg : Str → Option Value} {base : Heap} {x qual : Str} {st : Stmt} {f : Addr} {fd : FuncData} {N ps : List Str} {k : Nat}
/-- a def from which no exception leaves -/
theorem fnD0 (fs : Ev → S) (F : Fun K x qual st f fd) (S : FnScope N ps (defScope st))
    (h : ∀ (cdv : Value) (A : Around) (outer : List PySem.Env) (s : Shared) (H : Hp) (E : XK), Room k (A.deeper (envOfC qual (defScope st) s.heap.objs.size f cdv)) → DSs (cxOf CX0 P w K mg base N qual (defScope st) f cdv A outer s H E).nox W0 (defBody st) fs) :
    FnOk P w K mg base CX0 (k + 1) f fd ps (spD ps.length (defF false ps.length N.length fs)) := by
  refine F.ok S (fun vs H Q E q => ?_) (fun cdv A outer s H vs Q E hr q => ?_)
  · obtain ⟨Ω, ds, _, r, e, _⟩ := q
    rw [← r.length, e]
  · obtain ⟨Ω, ds, hl, r, e, q⟩ := q
    refine ⟨_, h cdv A outer s H E hr, def_read hl r e ?_⟩
    unfold defF at q ⊢
    rw [if_pos e] at q ⊢
    split at q
    · exact q
    · exact q
    · rw [if_neg Bool.false_ne_true] at q; exact q.elim
    · exact q.elim
/-- a def that may raise -/
theorem fnDX (fs : Ev → S) (F : Fun K x qual st f fd) (S : FnScope N ps (defScope st))
    (h : ∀ (cdv : Value) (A : Around) (outer : List PySem.Env) (s : Shared) (H : Hp) (E : XK), Room k (A.deeper (envOfC qual (defScope st) s.heap.objs.size f cdv)) → DSs (cxOf (L2.CX P w) P w K mg base N qual (defScope st) f cdv A outer s H E) (fun c H' => E (.ref c) none H') (defBody st) fs) :
    FnOk P w K mg base (L2.CX P w) (k + 1) f fd ps (spD ps.length (defF true ps.length N.length fs)) := by
  refine F.okX S (fun vs H Q E q => ?_) (fun cdv A outer s H vs Q E hr q => ?_)
  · obtain ⟨Ω, ds, _, r, e, _⟩ := q
    rw [← r.length, e]
  · obtain ⟨Ω, ds, hl, r, e, q⟩ := q
    exact ⟨_, h cdv A outer s H E hr, def_read hl r e q⟩
end
/-- what the calls of a def may let out -/
theorem pass_0 {X : Cx} {W : Addr → Hp → Prop} : Passes CX0 X (EW W) := fun _ _ _ _ _ _ _ h => h.elim
theorem pass_N {X : Cx} : Passes (L2.CX X.prog X.w) X (EW W0) := fun p σ H s e s' I c => passL (X := X) p σ H s e s' I (by
  obtain ⟨a, B, H', cls, d, e1, e2, e3, e4, e5, e6, e7, c', e8, e9, z⟩ := c
  exact z.elim)
end DI
namespace DI
open PySem PySem.Spec PyProof.Rows L2
/-- a def of the module, ready to be called: its pure function is F -/
structure Cal (P : Program) (w : World) (K : PySem.W.Frag) (mg : Str → Option Value) (base : Heap) (CX : CXT) (k : Nat) (x : Str) (n : Nat) (F : Fn) : Prop where
  ex : ∃ fa fd ps, FnOk P w K mg base CX k fa fd ps (spD n F) ∧ mg x = some (.ref fa) ∧ PySem.W.keepIn K (.ref fa) = true ∧ Binds K fd ps []
theorem cal_mk {P : Program} {w : World} {K : PySem.W.Frag} {mg : Str → Option Value} {base : Heap} {CX : CXT} {k n : Nat} {x qual : Str} {st : Stmt} {f : Addr} {fd : FuncData} {ps : List Str} {F : Fn} (T : Fun K x qual st f fd) (g : mg x = some (.ref f)) (b : Binds K fd ps [])
    (G : FnOk P w K mg base CX k f fd ps (spD n F)) : Cal P w K mg base CX k x n F := ⟨f, fd, ps, G, g, T.kp, b⟩
def callF (n : Nat) (F : Fn) : List D → M D := fun ds => if ds.length = n then F ds else .und
theorem de_cal {X : Cx} {W : Addr → Hp → Prop} {m : Bool} {a : Expr} {es : List Expr} {fs : Ev → M (List D)} {pf pos : Pos} {CX : CXT} {k n : Nat} {x : Str} {F : Fn} (G : Cal X.prog X.w X.K X.mg X.base CX k x n F) (hr : Room k X.A) (hg : Gl X x) (hn : n = (a :: es).length) (hx : Passes CX X (EW W))
    (ha : DA X W m (a :: es) fs) (hdb : (x == ("__debug__" : Str)) = false := by decide) (he : starEach (a :: es) X.env = (false, eval a X.env) :: starEach es X.env := by rfl) (hpl : (backTo pos (starEach es X.env)).any (·.1) = false := by rfl) :
    DE X W m (.Call (.Name x pf) (a :: es) [] pos) (xAll (callF n F) fs) := by
  obtain ⟨fa, fd, ps, h1, h2, h3, h4⟩ := G.ex
  exact de_call h1 hr hg h2 h3 h4 hn hx ha hdb he hpl
theorem pass_X {P : Program} {w : World} {K : PySem.W.Frag} {mg : Str → Option Value} {base : Heap} {N : List Str} {qual : Str} {sc : Scope} {f : Addr} {cd : Value} {A : Around} {outer : List PySem.Env} {s : Shared} {H : Hp} {E : XK} :
    Passes (L2.CX P w) (cxOf (L2.CX P w) P w K mg base N qual sc f cd A outer s H E) (EW fun c H' => E (.ref c) none H') :=
  passes_call (takes_of rfl rfl rfl rfl) fun _ _ _ _ ⟨_, e1, e2, h⟩ => by subst e1 e2; exact h
theorem hu64 {k : Nat} {A : Around} (hr : Room k A) : A.units + 64 < cLine := hr.units
theorem hu65 {k : Nat} {A : Around} (hr : Room k A) : A.units + 65 < cLine := by have := hr.un; omega
theorem de_gI {X : Cx} {W : Addr → Hp → Prop} {m : Bool} {pos : Pos} {x : Str} {i : Int} (hg : Gl X x) (h : ∃ t, X.mg x = some (.int i t)) (hd : (x == ("__debug__" : Str)) = false := by decide) : DE X W m (.Name x pos) (xC (.int i)) := by
  obtain ⟨t, hm⟩ := h
  exact de_gInt hg hm hd
/-- an own exception class without __init__, over ValueError at last -/
structure ExcC (K : PySem.W.Frag) (mg : Str → Option Value) (x : Str) (C : Addr) : Prop where
  g : mg x = some (.ref C)
  q : ∃ bmB newId initId B, ExcBaseFacts B newId initId bmB ∧ PySem.W.excIn K C bmB newId = true
  kp : PySem.W.keepIn K (.ref C) = true
  sub : PySem.W.subIn K (.ref C) (.type "BaseException") = some true
  ty : PySem.W.typeIn K (.ref C) = some (.type "type")
theorem ExcC.mk' {X : Cx} {x m : Str} {C : Addr} {j : Nat} {p p2 pos : Pos} (h : ExcC X.K X.mg x C) (hg : Gl X x) (hdb : (x == ("__debug__" : Str)) = false := by decide) : PMk X (.Call (.Name x p) [.Constant (.str m) j p2] [] pos) (fun _ H Q => Q (.ref C) none H) := by
  obtain ⟨bmB, newId, initId, B, h1, h2⟩ := h.q
  exact pmk_own h1 h2 h.g h.kp (raises_own h.sub h.ty) hg hdb
end DI
set_option maxRecDepth 100000
set_option maxHeartbeats 1000000
/-! DI6: slices, sorted, len(set(..)), pairs with an own list. -/
namespace DI
open PySem PySem.Spec PyProof.Rows L2
/-! ### slices -/
def tDP (W : Addr → Hp → Prop) (f : Ev → M (Option Int)) : TO := fun σ H Q => ∃ Ω ρ, EI Ω ρ σ H ∧ KM W (f ρ) H Q
abbrev DP (X : Cx) (W : Addr → Hp → Prop) (e : Option Expr) (f : Ev → M (Option Int)) : Prop := PO X e (tDP W f)
def pNone : Ev → M (Option Int) := fun _ => .ok none
def pSome (f : Ev → M D) : Ev → M (Option Int) := fun ρ => (f ρ).bind fun d => match d with
  | .int i => .ok (some i)
  | _ => .und
def dSlice (d : D) (lo hi : Option Int) : M D := match d with
  | .lst ds => .ok (.lst (cutD ds lo hi))
  | .tup ds => .ok (.tup (cutD ds lo hi))
  | _ => .und
def xSlice (f : Ev → M D) (g h : Ev → M (Option Int)) : Ev → M D := fun ρ => (f ρ).bind fun d => (g ρ).bind fun lo => (h ρ).bind fun hi => dSlice d lo hi
theorem Reps.cut {Ω : Addr → Prop} {H : Hp} {ds : List D} {vs : List V} (r : Reps Ω H ds vs) (lo hi : Option Int) : Reps Ω H (cutD ds lo hi) (cutV vs lo hi) := by
  unfold cutD cutV
  rw [r.length]
  exact (r.drop _).take _
section
variable {X : Cx} {W : Addr → Hp → Prop} {m : Bool} {f : Ev → M D} {g h : Ev → M (Option Int)} {e : Expr} {lo hi : Option Expr} {pos p2 : Pos}
theorem dp_none : DP X W none pNone := ⟨fun pins s σ H Q I ⟨Ω, ρ, ei, k⟩ => po_none.run pins s σ H Q I (KM.ok k)⟩
theorem dp_some (he : DE X W true e f) : DP X W (some e) (pSome f) := ⟨fun pins s σ H Q I ⟨Ω, ρ, ei, k⟩ => (po_some he).run pins s σ H Q I ⟨Ω, ρ, ei, (KM.bind k).imp fun d H1 _ s1 k1 v r => by
  cases d with
  | int i => exact ⟨i, r.int_inv, KM.ok k1⟩
  | _ => exact k1.elim⟩⟩
theorem de_slice (he : DE X W m e f) (hl : DP X W lo g) (hh : DP X W hi h) : DE X W m (.Subscript e (.Slice lo hi none p2) pos) (xSlice f g h) := by
  refine pe_weak (pe_slice (.or sl_list sl_tupA) he hl hh) fun σ H Q ⟨Ω, ρ, ei, k⟩ => ⟨Ω, ρ, ei, (KM.bind k).imp fun d H1 _ s1 k1 v r => ⟨Ω, ρ, ei.same s1, (KM.bind k1).imp fun l H2 _ s2 k2 => ⟨Ω, ρ, ei.same (s1.trans s2), (KM.bind k2).imp fun u H3 _ s3 k3 => ?_⟩⟩⟩
  have s23 := s2.trans s3
  have r := Rep.le (.same s23 fun _ z => z) _ _ r
  have hlm := (ei.same (s1.trans s23)).hlm m
  cases d with
  | lst ds =>
    obtain ⟨p, vs, e1, _, q, rs⟩ := r.lst_inv
    refine .inl ⟨p, vs, e1, .inl (.inl q), fun q hq => ?_⟩
    exact k3 _ (same_upd hq) _ (Rep.lst_mk (no_fresh hlm hq) upd_same (Reps.le (.same (same_upd hq) fun _ z => z) _ _ (rs.cut l u)))
  | tup ds =>
    obtain ⟨p, vs, e1, q, rs⟩ := r.tup_inv
    refine .inr ⟨p, vs, e1, .inl (.inl q), fun hw => ?_, fun hw q hq => ?_⟩
    · refine KM.ok k3 _ ?_
      have ec : cutD ds l u = ds := by
        unfold cutD
        rw [rs.length, hw.1, hw.2, List.drop_zero, Nat.sub_zero, ← rs.length, List.take_length]
      rw [ec]
      exact Rep.tup_mk ‹_› rs
    · exact k3 _ (same_upd hq) _ (Rep.tup_mk upd_same (Reps.le (.same (same_upd hq) fun _ z => z) _ _ (rs.cut l u)))
  | _ => exact k3.elim
/-- a slice of the script -/
noncomputable def dSliceS (K : PySem.W.Frag) (d : D) (lo hi : Option Int) : M D := match d with
  | .scr K' ds => open Classical in if K' = K then .ok (.lst (cutD ds lo hi)) else .und
  | _ => .und
noncomputable def xSliceS (K : PySem.W.Frag) (f : Ev → M D) (g h : Ev → M (Option Int)) : Ev → M D := fun ρ => (f ρ).bind fun d => (g ρ).bind fun lo => (h ρ).bind fun hi => dSliceS K d lo hi
theorem ScrL.seq {K : PySem.W.Frag} {H : Hp} {a : Addr} {xs : List V} (h : ScrL K H a xs) : SqL K H a xs := by
  rcases h with ⟨o, h⟩ | h
  · exact .inl (.inr ⟨o, h⟩)
  · exact .inr h
theorem de_sliceS {K : PySem.W.Frag} (hK : K = X.K) (he : DE X W m e f) (hl : DP X W lo g) (hh : DP X W hi h) : DE X W m (.Subscript e (.Slice lo hi none p2) pos) (xSliceS K f g h) := by
  refine pe_weak (pe_slice sl_list he hl hh) fun σ H Q ⟨Ω, ρ, ei, k⟩ => ⟨Ω, ρ, ei, (KM.bind k).imp fun d H1 _ s1 k1 v r => ⟨Ω, ρ, ei.same s1, (KM.bind k1).imp fun l H2 _ s2 k2 => ⟨Ω, ρ, ei.same (s1.trans s2), (KM.bind k2).imp fun u H3 _ s3 k3 => ?_⟩⟩⟩
  have s23 := s2.trans s3
  have r := Rep.le (.same s23 fun _ z => z) _ _ r
  have hlm := (ei.same (s1.trans s23)).hlm m
  cases d with
  | scr K' ds =>
    simp only [Rep] at r
    obtain ⟨p, vs, e1, q, rs⟩ := r
    unfold dSliceS at k3
    dsimp only at k3
    split at k3
    · rename_i hk
      refine ⟨p, vs, e1, by rw [← hK, ← hk]; exact q.seq, fun q hq => ?_⟩
      exact k3 _ (same_upd hq) _ (Rep.lst_mk (no_fresh hlm hq) upd_same (Reps.le (.same (same_upd hq) fun _ z => z) _ _ (rs.cut l u)))
    · exact k3.elim
  | _ => exact k3.elim
/-! ### slices with a step, of lists -/
def pickL {α : Type} (xs : List α) (lo st : Option Int) : List α := (sliceRange (sliceBounds lo none st xs.length).1 (sliceBounds lo none st xs.length).2.1 (sliceBounds lo none st xs.length).2.2).filterMap (xs[·]?)
def dPick (lo st : Option Int) : D → M D
  | .lst ds => .ok (.lst (pickL ds lo st))
  | _ => .und
theorem pick_reps {Ω : Addr → Prop} {H : Hp} {ds : List D} {vs : List V} (r : Reps Ω H ds vs) : ∀ ix : List Nat, Reps Ω H (ix.filterMap (ds[·]?)) (ix.filterMap (vs[·]?))
  | [] => Reps.nil
  | i :: ix => by
    have ih := pick_reps r ix
    cases q : ds[i]? with
    | none =>
      have q2 : vs[i]? = none := by
        rw [List.getElem?_eq_none_iff] at q ⊢
        rw [← r.length]; exact q
      rw [List.filterMap_cons_none q, List.filterMap_cons_none q2]
      exact ih
    | some d =>
      obtain ⟨v, q2, rv⟩ := r.get q
      rw [List.filterMap_cons_some q, List.filterMap_cons_some q2]
      exact Reps.cons rv ih
theorem pick_vals {xs : List V} {us : List Value} (r : Vals xs us) : ∀ ix : List Nat, Vals (ix.filterMap (xs[·]?)) (ix.filterMap (us[·]?))
  | [] => .nil
  | i :: ix => by
    have ih := pick_vals r ix
    cases q : xs[i]? with
    | none =>
      rw [List.filterMap_cons_none q, List.filterMap_cons_none (r.none_of q)]
      exact ih
    | some d =>
      obtain ⟨v, q2, rv⟩ := r.get q
      rw [List.filterMap_cons_some q, List.filterMap_cons_some q2]
      exact .cons rv ih
theorem pick_len {α : Type} (xs : List α) (lo st : Option Int) (h : (pickL xs lo st).length ≤ xs.length) (hz : xs.length ≤ sizeLine) : (pickL xs lo st).length ≤ sizeLine := Nat.le_trans h hz
def tPick (K : PySem.W.Frag) (te : TE) (lo st : Option Int) : TE := fun σ H Q => te σ H fun x H1 => ∃ a xs, x = .ref a ∧ SqL K H1 a xs ∧ (pickL xs lo st).length ≤ sizeLine ∧ ∀ p, H1 p = none → Q (.ref p) (upd H1 p (.lst (pickL xs lo st)))
theorem pe_pick {te : TE} {tl ts : TO} {est : Expr} {zl : Option Int} {zs : Int} {p3 : Pos} (he : PE X e te) (hl : PO X lo tl) (hwl : ∀ σ H Q, Q zl H → tl σ H Q) (hst : PO X (some est) ts) (hws : ∀ σ H Q, Q (some zs) H → ts σ H Q) (h0 : zs ≠ 0)
    (hsub : ∀ o i, subscripted (.Slice lo none (some est) p3) false o i = operate [o, i] (getItem o i) := by intro _ _; with_unfolding_all rfl) : PE X (.Subscript e (.Slice lo none (some est) p3) pos) (tPick X.K te zl (some zs)) := by
  refine ⟨fun pins s σ H Q I hh => ?_⟩
  refine Subscript_ (thn (he.run pins s σ H _ I hh) fun v s1 ⟨x, H1, I1, r1, q1⟩ => ?_)
  obtain ⟨a, xs, ex, hx, hpl, q⟩ := q1
  subst ex
  cases r1
  refine wpAny_Slice (thn (hl.run pins s1 σ H1 (fun o H2 => o = zl ∧ H2 = H1) I1 (hwl _ _ _ ⟨rfl, rfl⟩)) fun vl s2 ⟨l, H2, I2, pl, el, e2⟩ => ?_)
  subst el e2
  refine thn (po_none.run pins s2 σ H2 (fun o H3 => o = none ∧ H3 = H2) I2 ⟨rfl, rfl⟩) fun vu s3 ⟨u, H3, I3, pu, eu, e3⟩ => ?_
  subst eu e3
  refine thn (hst.run pins s3 σ H3 (fun o H4 => o = some zs ∧ H4 = H3) I3 (hws _ _ _ ⟨rfl, rfl⟩)) fun vs s4 ⟨o, H4, I4, ps, eo, e4⟩ => ?_
  subst eo e4
  have I5 : Inv X pins σ H4 { s4 with heap := s4.heap.push { cls := .type "slice", data := .fields #[vl, vu, vs] } } := I4.kept (t' := s4.toks) fun b ob q => Heap.get?_push_of_some _ q
  obtain ⟨its, r, ht, hz⟩ := I5.list hx
  have hlen := r.length
  refine tail_any (ops := [.ref a, .ref s4.heap.objs.size]) ht.isList.typeIs (PySem.slot_list_getitem.lookup) ?_ (hsub _ _)
  refine wpAny_getItem_list_slice ht.isList (Heap.IsSliceOf.new _ vl vu vs) pl pu ps (by intro z; exact h0 (Option.some.inj z)) ?_ (by rw [List.size_toArray]; omega)
  have ep : slicePick its.toArray l none (some zs) = (pickL its l (some zs)).toArray := by
    unfold slicePick pickL
    simp
  rw [ep]
  have rp : Vals (pickL xs l (some zs)) (pickL its l (some zs)) := by
    unfold pickL
    rw [hlen]
    exact pick_vals r _
  refine ⟨.ref _, _, I5.laid (t' := s4.toks) (o := .lst (pickL xs l (some zs))) (fun b ob q => Heap.get?_push_of_some _ q) (Nat.le_refl _) ?_, rfl, q _ (I5.hok.fresh (Nat.le_refl _))⟩
  exact ⟨hpl, _, 0, rp, Heap.get?_push_size _ rfl⟩
theorem pick_le {α : Type} {xs : List α} {lo st : Option Int} (h : (pickL (List.replicate xs.length ()) lo st).length ≤ sizeLine) : (pickL xs lo st).length ≤ sizeLine := by
  have e : ∀ ix : List Nat, (ix.filterMap (xs[·]?)).length = (ix.filterMap ((List.replicate xs.length ())[·]?)).length := by
    intro ix
    induction ix with
    | nil => rfl
    | cons i ix ih =>
      by_cases hi : i < xs.length
      · rw [List.filterMap_cons_some (List.getElem?_eq_getElem hi), List.filterMap_cons_some (b := ()) (by rw [List.getElem?_replicate, if_pos hi]), List.length_cons, List.length_cons, ih]
      · rw [List.filterMap_cons_none (List.getElem?_eq_none (by omega)), List.filterMap_cons_none (by rw [List.getElem?_replicate, if_neg hi]), ih]
  unfold pickL at h ⊢
  rw [List.length_replicate] at h
  rw [e]
  exact h
def dPickG (lo st : Option Int) (d : D) : M D := match d with
  | .lst ds => if (pickL (List.replicate ds.length ()) lo st).length ≤ sizeLine then .ok (.lst (pickL ds lo st)) else .und
  | _ => .und
theorem de_pick {est : Expr} {zl : Option Int} {zs : Int} {tl ts : TO} {p3 : Pos} (he : DE X W m e f) (hl : PO X lo tl) (hwl : ∀ σ H Q, Q zl H → tl σ H Q) (hst : PO X (some est) ts) (hws : ∀ σ H Q, Q (some zs) H → ts σ H Q) (h0 : zs ≠ 0)
    (hsub : ∀ o i, subscripted (.Slice lo none (some est) p3) false o i = operate [o, i] (getItem o i) := by intro _ _; with_unfolding_all rfl) : DE X W m (.Subscript e (.Slice lo none (some est) p3) pos) (x1 (dPickG zl (some zs)) f) := by
  refine pe_weak (pe_pick he hl hwl hst hws h0 hsub) fun σ H Q ⟨Ω, ρ, ei, k⟩ => ⟨Ω, ρ, ei, (KM.bind k).imp fun d H1 _ s1 k1 v r => ?_⟩
  cases d with
  | lst ds =>
    obtain ⟨p, vs, e1, _, q, rs⟩ := r.lst_inv
    unfold dPickG at k1
    dsimp only at k1
    split at k1
    · rename_i hz
      refine ⟨p, vs, e1, .inl (.inl q), pick_le (by rw [← rs.length]; exact hz), fun q hq => ?_⟩
      refine k1 _ (same_upd hq) _ (Rep.lst_mk (no_fresh ((ei.same s1).hlm m) hq) upd_same (Reps.le (.same (same_upd hq) fun _ z => z) _ _ ?_))
      unfold pickL
      rw [rs.length]
      exact pick_reps rs _
    · exact k1.elim
  | _ => exact k1.elim
end
/-! ### a pair of names, the first a new list of its own -/
def sParO (i j : Nat) (fl : Ev → M (List D)) (g : Ev → M D) : Ev → S := fun ρ => S.ofM (fl ρ) fun ds => S.ofM (g ρ) fun d => .nx ((ρ.set i (some (.o ds))).set j (some (.v d)))
theorem ds_parO {X : Cx} {W : Addr → Hp → Prop} {i j : Nat} {st : Stmt} {fl : Ev → M (List D)} {g : Ev → M D} (h : PS X st (tPar i j (tCons (tDF W false fl) (tCons (tD W false g) tNil)))) : DS X W st (sParO i j fl g) := by
  refine ps_weak h fun N σ H ⟨H0, Ω0, Γ, ρ, ⟨Ω, s⟩, k⟩ => ⟨Ω, ρ, s.1, (KS.bind s.2.1 k).imp fun ds H1 _ s1 k1 p vs hp hp' rs => ⟨ad p Ω, ρ, s.1.more s1 hp hp', (KS.bind (s.2.1.trans s1) k1).imp fun d H2 _ s2 k2 v rv => ?_⟩⟩
  have s12 := s1.trans s2
  have up : HLe (ad p (mo false Ω)) H1 (ad p Ω) H2 := .same s2 fun a z => by
    rcases z with z | z
    · exact .inl z
    · exact .inr ⟨rfl, z⟩
  have so := s.own s12 hp (s2 _ _ hp') (Reps.le up _ _ rs) i
  exact ⟨.ref p, v, rfl, k2 _ _ ⟨_, so.set (Rep.le (.sub fun a z => ⟨rfl, z⟩) _ _ rv) j⟩⟩
/-! ### len(set(list of tuples of ints)) -/
def tupI : D → Option (List Int)
  | .tup ds => intsOf ds
  | _ => none
def tupsOf : List D → Option (List (List Int))
  | [] => some []
  | d :: r => (tupI d).bind fun k => (tupsOf r).map (k :: ·)
def dd : List (List Int) → List (List Int)
  | [] => []
  | x :: r => if x ∈ r then dd r else x :: dd r
theorem dd_mem : ∀ {l : List (List Int)} {x : List Int}, x ∈ dd l ↔ x ∈ l
  | [], x => Iff.rfl
  | y :: r, x => by
    unfold dd
    by_cases h : y ∈ r
    · rw [if_pos h, dd_mem, List.mem_cons]
      exact ⟨.inr, fun z => z.elim (fun e => e ▸ h) _root_.id⟩
    · rw [if_neg h, List.mem_cons, List.mem_cons, dd_mem]
theorem dd_nodup : ∀ l : List (List Int), (dd l).Nodup
  | [] => List.nodup_nil
  | y :: r => by
    unfold dd
    by_cases h : y ∈ r
    · rw [if_pos h]; exact dd_nodup r
    · rw [if_neg h]
      exact List.nodup_cons.mpr ⟨fun z => h (dd_mem.mp z), dd_nodup r⟩
def dLenSet : D → M D
  | .lst ds => match tupsOf ds with
    | some ks => if ks.length < 64 then .ok (.int (dd ks).length) else .und
    | none => .und
  | _ => .und
theorem tupsOf_rep {Ω : Addr → Prop} {H : Hp} : ∀ {ds : List D} {vs : List V} {ks : List (List Int)}, tupsOf ds = some ks → Reps Ω H ds vs → ∃ ps : List (Addr × List Int), ps.map (·.2) = ks ∧ vs = ps.map (fun p => V.ref p.1) ∧ ∀ p ∈ ps, H p.1 = some (.tup (p.2.map V.int))
  | [], vs, ks, e, r => by
    simp only [Reps] at r
    cases e
    exact ⟨[], rfl, r, fun p hp => absurd hp (by simp)⟩
  | d :: ds, vs, ks, e, r => by
    simp only [Reps] at r
    obtain ⟨v, t, e1, r1, r2⟩ := r
    unfold tupsOf at e
    cases q : tupI d with
    | none => rw [q] at e; cases e
    | some k =>
      rw [q] at e
      cases q2 : tupsOf ds with
      | none => rw [q2] at e; cases e
      | some ks2 =>
        rw [q2] at e
        cases e
        obtain ⟨ps, h1, h2, h3⟩ := tupsOf_rep q2 r2
        cases d with
        | tup es =>
          obtain ⟨a, us, e2, q3, r3⟩ := r1.tup_inv
          have e4 := intsOf_rep (show intsOf es = some k from q) r3
          refine ⟨(a, k) :: ps, by rw [List.map_cons, h1], by rw [e1, e2, h2]; rfl, fun p hp => ?_⟩
          rcases List.mem_cons.mp hp with z | z
          · rw [z]; rw [e4] at q3; exact q3
          · exact h3 p z
        | _ => cases q
section
variable {X : Cx} {W : Addr → Hp → Prop} {m : Bool} {f : Ev → M D} {a : Expr} {p p2 q pos : Pos}
def rLenT (K : PySem.W.Frag) (P : Program) (w : World) : List V → Hp → VK → Prop := fun xs H Q => ∃ a L, xs = [V.ref a] ∧ H a = some (SetTO P w a L) ∧ (∀ p ∈ L, SqT K H p.1 (p.2.map V.int)) ∧ ((L.map (·.2)).Nodup → Q (.int L.length) H)
theorem call_lenT : CallR X (.builtin "len") (rLenT X.K X.prog X.w) := by
  intro pins s σ H xs us Q I r h
  obtain ⟨a, L, rfl, ha, hL, hq⟩ := h
  obtain ⟨u, rfl, ru⟩ := vals1 r
  cases ru
  have T0 : SetT0 X.prog X.w s.heap a L := (I.hok a _ ha).1
  obtain ⟨es, ep, t, R⟩ := T0.full fun p hp => I.isT (hL p hp)
  obtain ⟨o, ho, hex, hd⟩ := R.ob
  have hfew := R.few
  have hsz := R.size
  refine call_len_set ho hex hd R.fits (by omega) ⟨.int L.length, H, I.tok _, ⟨_, by rw [hsz]⟩, hq R.nd⟩
theorem dd_len {l : List (List Int)} {k : List (List Int)} (hk : k.Nodup) (h1 : ∀ x ∈ k, x ∈ l) (h2 : ∀ x ∈ l, x ∈ k) : k.length = (dd l).length := by
  have hp : k.Perm (dd l) := (List.perm_ext_iff_of_nodup hk (dd_nodup l)).mpr fun x => ⟨fun z => dd_mem.mpr (h1 x z), fun z => h2 x (dd_mem.mp z)⟩
  exact hp.length_eq
theorem de_lenSet (hc : X.calm = true) (hu : X.A.units + 64 < cLine) (hg : Gl X "len") (hm : X.mg "len" = none) (hg2 : Gl X "set") (hm2 : X.mg "set" = none) (ha : DE X W m a f)
    (na : starEach [a] X.env = (false, eval a X.env) :: starEach [] X.env := by rfl) (hpl : (backTo q (starEach [] X.env)).any (·.1) = false := by rfl)
    (na2 : starEach [Expr.Call (.Name "set" p2) [a] [] q] X.env = (false, eval (.Call (.Name "set" p2) [a] [] q) X.env) :: starEach [] X.env := by rfl) (hpl2 : (backTo pos (starEach [] X.env)).any (·.1) = false := by rfl) :
    DE X W m (.Call (.Name "len" p) [.Call (.Name "set" p2) [a] [] q] [] pos) (x1 dLenSet f) := by
  have h1 := pe_callTy (cr_setOfT hc hu) (p := p2) (pos := q) hg2 hm2 PyProof.Rows.boot_set (pa_cons ha pa_nil na) (by decide) (by decide) na hpl
  have h2 := pe_callB call_lenT (p := p) (pos := pos) hg hm PySem.boot_len (pa_cons h1 pa_nil na2) (by decide) (by decide) na2 hpl2
  refine pe_weak h2 fun σ H Q ⟨Ω, ρ, ei, k⟩ => ⟨Ω, ρ, ei, (KM.bind k).imp fun d H1 _ s1 k1 v r => ?_⟩
  cases d with
  | lst ds =>
    obtain ⟨pl, vs, e1, _, q, rs⟩ := r.lst_inv
    unfold dLenSet at k1
    dsimp only at k1
    cases qt : tupsOf ds with
    | none => rw [qt] at k1; exact k1.elim
    | some ks =>
      rw [qt] at k1
      dsimp only at k1
      split at k1
      · rename_i hlt
        obtain ⟨ps, g1, g2, g3⟩ := tupsOf_rep qt rs
        have hlen : ps.length = ks.length := by rw [← g1, List.length_map]
        refine ⟨pl, ps, by rw [e1], .inl (.inl (by rw [← g2]; exact q)), fun p hp => .inl (.inl (g3 p hp)), by omega, fun b L hb hL1 hL2 => ?_⟩
        refine ⟨b, L, rfl, upd_same, fun p hp => .inl (.inl (same_upd hb _ _ (g3 p (hL1 p hp)))), fun hnd => ?_⟩
        have e : (L.map (·.2)).length = (dd ks).length := dd_len hnd (fun x hx => by
          obtain ⟨p, hp, e⟩ := List.mem_map.mp hx
          rw [← g1]
          exact List.mem_map.mpr ⟨p, hL1 p hp, e⟩) (fun x hx => by
          rw [← g1] at hx
          obtain ⟨p, hp, e⟩ := List.mem_map.mp hx
          rw [← e]
          exact hL2 p hp)
        rw [List.length_map] at e
        rw [e]
        exact k1 _ (same_upd hb) _ Rep.int_mk
      · exact k1.elim
  | _ => exact k1.elim
end
/-! ### sorted(list of triples of ints), any number of them -/
abbrev Tri := Int × Int × Int
def ltT (p q : Tri) : Bool := decide (p.1 < q.1 ∨ (p.1 = q.1 ∧ (p.2.1 < q.2.1 ∨ (p.2.1 = q.2.1 ∧ p.2.2 < q.2.2))))
theorem ltT_iff {p q : Tri} : ltT p q = true ↔ (p.1 < q.1 ∨ (p.1 = q.1 ∧ (p.2.1 < q.2.1 ∨ (p.2.1 = q.2.1 ∧ p.2.2 < q.2.2)))) := decide_eq_true_iff
theorem ltT_no {p q : Tri} : ltT p q = false ↔ ¬ (p.1 < q.1 ∨ (p.1 = q.1 ∧ (p.2.1 < q.2.1 ∨ (p.2.1 = q.2.1 ∧ p.2.2 < q.2.2)))) := decide_eq_false_iff_not
theorem swoT {α : Type} (k : α → Tri) : SrtO.Swo fun v u => ltT (k v) (k u) := by
  refine ⟨fun x y h => ?_, fun x y z h1 h2 => ?_⟩
  · have a := ltT_iff.mp h
    exact ltT_no.mpr (by omega)
  · have a := ltT_no.mp h1
    have b := ltT_no.mp h2
    exact ltT_no.mpr (by omega)
def IsTri (h : Heap) (v : Value) (t : Tri) : Prop := ∃ a o t1 t2 t3 n, v = .ref a ∧ h.get? a = some o ∧ o.cls = .type "tuple" ∧ o.data = .seq #[.int t.1 t1, .int t.2.1 t2, .int t.2.2 t3] n
theorem IsTri.keeps {h h' : Heap} {v : Value} {t : Tri} (x : IsTri h v t) (kk : ∀ b o, h.get? b = some o → o.cls = .type "tuple" → h'.get? b = some o) : IsTri h' v t := by
  obtain ⟨a, o, t1, t2, t3, n, e, ho, hc, hd⟩ := x
  exact ⟨a, o, t1, t2, t3, n, e, kk a o ho hc, hc, hd⟩
section
variable {prog : Program} {w : World} {A : Around} {E : Value → Shared → Prop} {s : Shared}
open SrtO in
theorem tri_cmp {vs : List Value} {k : Value → Tri} (hp : ∀ v ∈ vs, IsTri s.heap v (k v)) : SrtO.Cmp prog w A s (tuples' true) (fun p => p.1 ∈ vs) (SrtO.lt2 fun v u => ltT (k v) (k u)) := by
  intro p q hm hm'
  have h1 := hp _ hm
  have h2 := hp _ hm'
  show wpAny (model prog w) A (keyLt' (tuples' true) p.1 q.1) (fun r s' => s' = s ∧ r = ltT (k p.1) (k q.1)) (fun _ _ => False) s
  generalize k p.1 = x at h1 ⊢
  generalize k q.1 = y at h2 ⊢
  obtain ⟨x1, x2, x3⟩ := x
  obtain ⟨y1, y2, y3⟩ := y
  obtain ⟨a, o, t1, t2, t3, n, e, ho, hc, hd⟩ := h1
  obtain ⟨a', o', u1, u2, u3, n', e', ho', hc', hd'⟩ := h2
  dsimp only at hd hd'
  rw [e, e']
  refine PySem.W.kat_lt ho hd ho' hd' ?_
  show PySem.W.KatLex prog w A true (decide (3 < 3)) _ [(.int x1 t1, .int y1 u1), (.int x2 t2, .int y2 u2), (.int x3 t3, .int y3 u3)] 0 s
  refine PySem.W.kat_cons (SeqAt.EqAt.int_int x1 t1 y1 u1 prog w _ _ (PySem.W.kat_go (fun e1 => ?_) (fun e1 => ?_)))
  · have g1 : x1 = y1 := by simpa using e1
    refine PySem.W.kat_yes (PySem.W.kat_cons (SeqAt.EqAt.int_int x2 t2 y2 u2 prog w _ _ (PySem.W.kat_go (fun e2 => ?_) (fun e2 => ?_))))
    · have g2 : x2 = y2 := by simpa using e2
      refine PySem.W.kat_yes (PySem.W.kat_cons (SeqAt.EqAt.int_int x3 t3 y3 u3 prog w _ _ (PySem.W.kat_go (fun e3 => ?_) (fun e3 => ?_))))
      · have g3 : x3 = y3 := by simpa using e3
        refine PySem.W.kat_yes (PySem.W.kat_nil ⟨rfl, ?_⟩)
        exact (ltT_no.mpr (by dsimp only; omega)).symm
      · have g3 : ¬ x3 = y3 := by simpa using e3
        refine PySem.W.kat_no (PySem.W.kat_one _ _ (PyProof.Rows.lt_int ?_))
        refine (show s = s ∧ decide (x3 < y3) = ltT (x1, x2, x3) (y1, y2, y3) from ⟨rfl, ?_⟩)
        unfold ltT
        exact decide_eq_decide.mpr (by dsimp only; omega)
    · have g2 : ¬ x2 = y2 := by simpa using e2
      refine PySem.W.kat_no (PySem.W.kat_one _ _ (PyProof.Rows.lt_int ?_))
      refine (show s = s ∧ decide (x2 < y2) = ltT (x1, x2, x3) (y1, y2, y3) from ⟨rfl, ?_⟩)
      unfold ltT
      exact decide_eq_decide.mpr (by dsimp only; omega)
  · have g1 : ¬ x1 = y1 := by simpa using e1
    refine PySem.W.kat_no (oneLt_int ⟨rfl, ?_⟩)
    unfold ltT
    exact decide_eq_decide.mpr (by dsimp only; omega)
theorem tri_firsts {h : Heap} {k : Value → Tri} : ∀ {vs : List Value}, (∀ v ∈ vs, IsTri h v (k v)) → ∃ fs : List Value, PySem.W.KatTups h vs fs ∧ fs.length = vs.length ∧ ∀ f ∈ fs, ∃ x t, f = Value.int x t
  | [], _ => ⟨[], .nil, rfl, fun _ z => nomatch z⟩
  | v :: vs, hp => by
    obtain ⟨fs, h1, h2, h3⟩ := tri_firsts (vs := vs) fun u hu => hp u (List.mem_cons_of_mem _ hu)
    obtain ⟨a, o, t1, t2, t3, n, e, ho, hc, hd⟩ := hp v List.mem_cons_self
    subst e
    refine ⟨.int (k (.ref a)).1 t1 :: fs, .cons ho hc hd rfl h1, by rw [List.length_cons, List.length_cons, h2], fun f hf => ?_⟩
    rcases List.mem_cons.mp hf with z | z
    · exact ⟨_, t1, z⟩
    · exact h3 f z
open SrtO in
theorem tri_sortable {a : Addr} {vs : List Value} {k : Value → Tri} (h0 : 0 < vs.length) (hp : ∀ v ∈ vs, IsTri s.heap v (k v)) (ha : ∀ o, s.heap.get? a = some o → o.cls ≠ .type "tuple") : SrtO.SortableO prog w A s a vs fun v u => ltT (k v) (k u) := by
  intro h' keep
  have hp2 : ∀ v ∈ vs, IsTri h' v (k v) := fun v hv => (hp v hv).keeps fun b o e c => keep b o (fun z => ha o (z ▸ e) c) e
  obtain ⟨fs, h1, h2, h3⟩ := tri_firsts hp2
  refine ⟨tuples' true, fun Q E hq => PySem.W.kat_kind (T := .type "int") h1 (by omega) (fun f hf => ?_) (by rfl) ?_, tri_cmp hp2⟩
  · obtain ⟨x, t, e⟩ := h3 f hf
    subst e
    exact PySem.W.Looks.now
  · rw [show (Value.type "int" != Value.type "tuple") = true by decide +kernel]
    exact hq
open SrtO in
theorem sorted_tris {l : Addr} {vs : List Value} {k : Value → Tri} {Q : Value → Shared → Prop} (hl : s.heap.IsList l vs.toArray) (hz : vs.length ≤ sizeLine) (hp : ∀ v ∈ vs, IsTri s.heap v (k v))
    (h : ∀ (h' : Heap) (d : Addr) (out : List Value), SrtO.Srtd (fun v u => ltT (k v) (k u)) out → SrtO.Stb (fun v u => ltT (k v) (k u)) out vs → (∀ b o, s.heap.get? b = some o → h'.get? b = some o) → s.heap.objs.size ≤ d → (∃ n, h'.get? d = some (seqObj "list" out.toArray n)) → Q (.ref d) { s with heap := h' }) :
    wpAny (model prog w) A (call (.builtin "sorted") [.ref l]) Q E s := by
  refine SrtO.sorted_ord (swoT k) hl hz (fun h2 h₁ a ha kk => tri_sortable (s := { s with heap := h₁ }) (by omega) (fun v hv => (hp v hv).keeps fun b o e _ => (kk b o e).2) fun o e c => ?_) fun out hs hb => h _ _ out hs hb (fun b o e => sortedAll_old e) (Nat.le_succ _) (sortedAll_at s.heap vs out.toArray)
  have e2 : some o = some (seqObj "list" vs.toArray 0) := e.symm.trans ha
  cases e2
  exact absurd (Value.type.inj c) (by decide)
end
/-! ### sorted as an operation on deep values -/
def insT (t : Tri) : List Tri → List Tri
  | [] => [t]
  | u :: r => if ltT u t = true then u :: insT t r else t :: u :: r
def sortT : List Tri → List Tri
  | [] => []
  | t :: r => insT t (sortT r)
theorem insT_perm (t : Tri) : ∀ l : List Tri, (insT t l).Perm (t :: l)
  | [] => .refl _
  | u :: r => by
    unfold insT
    split
    · exact ((insT_perm t r).cons u).trans (.swap t u r)
    · exact .refl _
theorem sortT_perm : ∀ l : List Tri, (sortT l).Perm l
  | [] => .refl _
  | t :: r => (insT_perm t (sortT r)).trans ((sortT_perm r).cons t)
abbrev SrT (l : List Tri) : Prop := l.Pairwise fun x y => ltT y x = false
theorem ltT_asym {x y : Tri} (h : ltT x y = true) : ltT y x = false := ltT_no.mpr (by have := ltT_iff.mp h; omega)
theorem ltT_tr {x y z : Tri} (h1 : ltT y x = false) (h2 : ltT z y = false) : ltT z x = false := ltT_no.mpr (by
  have a := ltT_no.mp h1
  have b := ltT_no.mp h2
  omega)
theorem ltT_eq {x y : Tri} (h1 : ltT y x = false) (h2 : ltT x y = false) : x = y := by
  have a := ltT_no.mp h1
  have b := ltT_no.mp h2
  obtain ⟨x1, x2, x3⟩ := x
  obtain ⟨y1, y2, y3⟩ := y
  dsimp only at a b
  have e1 : x1 = y1 := by omega
  have e2 : x2 = y2 := by omega
  have e3 : x3 = y3 := by omega
  rw [e1, e2, e3]
theorem insT_srt (t : Tri) : ∀ {l : List Tri}, SrT l → SrT (insT t l)
  | [], _ => List.pairwise_singleton _ _
  | u :: r, h => by
    obtain ⟨h1, h2⟩ := List.pairwise_cons.mp h
    unfold insT
    split
    · rename_i hlt
      refine List.pairwise_cons.mpr ⟨fun y hy => ?_, insT_srt t h2⟩
      rcases List.mem_cons.mp ((insT_perm t r).mem_iff.mp hy) with z | z
      · rw [z]; exact ltT_asym hlt
      · exact h1 y z
    · rename_i hlt
      have hlt : ltT u t = false := by simpa using hlt
      refine List.pairwise_cons.mpr ⟨fun y hy => ?_, h⟩
      rcases List.mem_cons.mp hy with z | z
      · rw [z]; exact hlt
      · exact ltT_tr hlt (h1 y z)
theorem sortT_srt : ∀ l : List Tri, SrT (sortT l)
  | [] => List.Pairwise.nil
  | t :: r => insT_srt t (sortT_srt r)
theorem srT_uniq : ∀ {l m : List Tri}, SrT l → SrT m → l.Perm m → l = m
  | [], m, _, _, p => (List.Perm.eq_nil p.symm).symm
  | x :: l, [], _, _, p => absurd p.length_eq (by simp)
  | x :: l, y :: m, hl, hm, p => by
    obtain ⟨l1, l2⟩ := List.pairwise_cons.mp hl
    obtain ⟨m1, m2⟩ := List.pairwise_cons.mp hm
    have rf : ∀ t : Tri, ltT t t = false := fun t => ltT_no.mpr (by omega)
    have h1 : ltT x y = false := by
      rcases List.mem_cons.mp (p.mem_iff.mp List.mem_cons_self) with e | e
      · rw [e]; exact rf y
      · exact m1 x e
    have h2 : ltT y x = false := by
      rcases List.mem_cons.mp (p.mem_iff.mpr List.mem_cons_self) with e | e
      · rw [e]; exact rf x
      · exact l1 y e
    have e := ltT_eq h2 h1
    subst e
    rw [srT_uniq l2 m2 p.cons_inv]
theorem sortT_eq {l m : List Tri} (hs : SrT l) (p : l.Perm m) : l = sortT m := srT_uniq hs (sortT_srt m) (p.trans (sortT_perm m).symm)
def triV (t : Tri) : HO := .tup [.int t.1, .int t.2.1, .int t.2.2]
def triD (t : Tri) : D := .tup [.int t.1, .int t.2.1, .int t.2.2]
def RT (H : Hp) (x : V) (t : Tri) : Prop := ∃ p, x = .ref p ∧ H p = some (triV t)
def rSortT (K : PySem.W.Frag) : List V → Hp → VK → Prop := fun vs H Q => ∃ (a : Addr) (xs : List V) (ts : List Tri), vs = [V.ref a] ∧ SqL K H a xs ∧ Paired (RT H) xs ts ∧
  ∀ ys p, Paired (RT H) ys (sortT ts) → H p = none → Q (.ref p) (upd H p (.lst ys))
def trK (H : Hp) : Value → Tri
  | .ref a => match H a with
    | some (.tup [.int x, .int y, .int z]) => (x, y, z)
    | _ => (0, 0, 0)
  | _ => (0, 0, 0)
def toV : Value → V
  | .ref a => .ref a
  | _ => .non
theorem trK_of {H : Hp} : ∀ {xs : List V} {ts : List Tri} {us : List Value}, Paired (RT H) xs ts → Vals xs us → us.map (trK H) = ts ∧ ∀ u ∈ us, RT H (toV u) (trK H u) ∧ RelV (toV u) u
  | _, _, _, .nil, .nil => ⟨rfl, fun u hu => absurd hu (by simp)⟩
  | _, _, _, .cons (a := x) (b := t) r rs, .cons v vs => by
    obtain ⟨h1, h2⟩ := trK_of rs vs
    obtain ⟨p, e, hp⟩ := r
    subst e
    cases v
    have ek : trK H (.ref p) = t := by
      unfold trK
      dsimp only
      rw [hp]
      rfl
    refine ⟨by rw [List.map_cons, h1, ek], fun u hu => ?_⟩
    rcases List.mem_cons.mp hu with z | z
    · rw [z, ek]; exact ⟨⟨p, rfl, hp⟩, rfl⟩
    · exact h2 u z
theorem paired_out {H : Hp} : ∀ {out : List Value}, (∀ u ∈ out, RT H (toV u) (trK H u) ∧ RelV (toV u) u) → Paired (RT H) (out.map toV) (out.map (trK H)) ∧ Vals (out.map toV) out
  | [], _ => ⟨.nil, .nil⟩
  | u :: r, h => by
    obtain ⟨h1, h2⟩ := paired_out (out := r) fun v hv => h v (List.mem_cons_of_mem _ hv)
    obtain ⟨h3, h4⟩ := h u List.mem_cons_self
    exact ⟨.cons h3 h1, .cons h4 h2⟩
theorem cr_sortT {X : Cx} : CallR X (.builtin "sorted") (rSortT X.K) := by
  intro pins s σ H vs us Q I r h
  obtain ⟨a, xs, ts, rfl, hs, hx, q⟩ := h
  obtain ⟨its, rv, hl, hz⟩ := I.list hs
  obtain ⟨u, rfl, ru⟩ := vals1 r
  cases ru
  obtain ⟨ek, hin⟩ := trK_of hx rv
  refine sorted_tris (k := trK H) hl.isList (by rw [← rv.length]; exact hz) (fun v hv => ?_) fun h' d out h1 h2 kp hd hn => ?_
  · obtain ⟨⟨p, e, hp⟩, rel⟩ := hin v hv
    rw [e] at rel
    cases rel
    obtain ⟨_, its2, r2, o, ho, hc, n, hd⟩ := I.hok _ _ hp
    cases r2 with
    | cons a1 b1 =>
      cases b1 with
      | cons a2 b2 =>
        cases b2 with
        | cons a3 b3 =>
          cases b3
          obtain ⟨t1, e1⟩ := a1
          obtain ⟨t2, e2⟩ := a2
          obtain ⟨t3, e3⟩ := a3
          subst e1 e2 e3
          exact ⟨p, o, t1, t2, t3, n, rfl, ho, hc, hd⟩
  · have hout := paired_out (H := H) (out := out) fun u hu => hin u (h2.perm.mem_iff.mp hu)
    obtain ⟨n, hn⟩ := hn
    have es : out.map (trK H) = sortT ts := sortT_eq (List.pairwise_map.mpr h1) (by rw [← ek]; exact h2.perm.map _)
    have hlen : out.length = its.length := h2.perm.length_eq
    refine ⟨.ref d, upd H d (.lst (out.map toV)), I.laid (t' := s.toks) kp hd ⟨?_, out, n, hout.2, hn⟩, rfl, q _ d (by rw [← es]; exact hout.1) (I.hok.fresh hd)⟩
    rw [List.length_map, hlen, ← rv.length]
    exact hz
def trisOf : List D → Option (List Tri)
  | [] => some []
  | .tup [.int x, .int y, .int z] :: r => (trisOf r).map ((x, y, z) :: ·)
  | _ => none
theorem trisOf_map : ∀ {ds : List D} {ts : List Tri}, trisOf ds = some ts → ds = ts.map triD := by
  intro ds
  induction ds with
  | nil => intro ts h; cases h; rfl
  | cons d r ih =>
    intro ts h
    unfold trisOf at h
    split at h
    · rename_i heq
      cases heq
    · rename_i x y z r' heq
      cases heq
      cases q : trisOf r with
      | none => rw [q] at h; cases h
      | some us => rw [q] at h; cases h; rw [List.map_cons, ← ih q]; rfl
    · cases h
theorem trisOf_tri : ∀ ts : List Tri, trisOf (ts.map triD) = some ts
  | [] => rfl
  | t :: r => by
    have e : trisOf ((t :: r).map triD) = (trisOf (r.map triD)).map (t :: ·) := rfl
    rw [e, trisOf_tri r]
    rfl
theorem rep_tri {Ω : Addr → Prop} {H : Hp} {t : Tri} {v : V} : Rep Ω H (triD t) v ↔ RT H v t := by
  constructor
  · intro r
    obtain ⟨a, vs, e, q, rs⟩ := Rep.tup_inv r
    refine ⟨a, e, ?_⟩
    simp only [Reps] at rs
    obtain ⟨v1, r1, e1, g1, v2, r2, e2, g2, v3, r3, e3, g3, g4⟩ := rs
    rw [q]
    subst g4 e3 e2 e1
    rw [g1.int_inv, g2.int_inv, g3.int_inv]
    rfl
  · intro ⟨p, e, hp⟩
    subst e
    exact Rep.tup_mk hp (Reps.cons Rep.int_mk (Reps.cons Rep.int_mk (Reps.cons Rep.int_mk Reps.nil)))
theorem reps_tri {Ω : Addr → Prop} {H : Hp} : ∀ {ts : List Tri} {vs : List V}, Reps Ω H (ts.map triD) vs ↔ Paired (RT H) vs ts
  | [], vs => by
    rw [List.map_nil]
    simp only [Reps]
    exact ⟨fun e => by subst e; exact .nil, fun e => by cases e; rfl⟩
  | t :: ts, vs => by
    rw [List.map_cons]
    simp only [Reps]
    constructor
    · intro ⟨v, r, e, h1, h2⟩
      subst e
      exact .cons (rep_tri.mp h1) (reps_tri.mp h2)
    · intro h
      cases h with
      | cons h1 h2 => exact ⟨_, _, rfl, rep_tri.mpr h1, reps_tri.mpr h2⟩
def dSortT : List D → M (List D)
  | [.lst ds] => (ofO (trisOf ds)).bind fun ts => .ok ((sortT ts).map triD)
  | _ => .und
section
variable {X : Cx} {W : Addr → Hp → Prop} {m : Bool} {fs : Ev → M (List D)} {a : Expr} {pf pos : Pos}
theorem df_sortT (hg : Gl X "sorted") (hm : X.mg "sorted" = none) (ha : DA X W m [a] fs)
    (he : starEach [a] X.env = (false, eval a X.env) :: starEach [] X.env := by rfl) (hpl : (backTo pos (starEach [] X.env)).any (·.1) = false := by rfl) : DF X W m (.Call (.Name "sorted" pf) [a] [] pos) (xAll dSortT fs) := by
  refine pe_weak (pe_callB cr_sortT hg hm PyProof.Rows.boot_sorted ha (by decide) (by decide) he hpl) fun σ H Q ⟨Ω, ρ, e, k⟩ => ⟨Ω, ρ, e, (KM.bind k).imp fun xs H1 _ s1 k1 vs rs => ?_⟩
  unfold dSortT at k1
  split at k1
  · rename_i ds _
    obtain ⟨v, e1, r⟩ := rs.one
    obtain ⟨p, us, e2, _, q, rr⟩ := r.lst_inv
    subst e1 e2
    cases qt : trisOf ds with
    | none => rw [qt] at k1; exact k1.elim
    | some ts =>
      rw [qt] at k1
      have k2 := KM.bind k1
      have ed := trisOf_map qt
      refine ⟨p, us, ts, rfl, .inl (.inl q), reps_tri.mp (by rw [← ed]; exact rr), fun ys l hy hl => ?_⟩
      have k3 : ∀ H', Same H1 H' → _ := KM.ok k2
      exact k3 _ (same_upd hl) l ys (s1.free hl) upd_same (Reps.le (.fresh (same_upd hl) hl) _ _ (reps_tri.mpr hy))
  · exact k1.elim
end
/-! ### three names, the last a new list of its own -/
def sAsg3O (i j l : Nat) (f g : Ev → M D) (fl : Ev → M (List D)) : Ev → S := fun ρ => S.ofM (f ρ) fun x => S.ofM (g ρ) fun y => S.ofM (fl ρ) fun ds => .nx (((ρ.set i (some (.v x))).set j (some (.v y))).set l (some (.o ds)))
theorem ds_asg3O {X : Cx} {W : Addr → Hp → Prop} {i j l : Nat} {st : Stmt} {f g : Ev → M D} {fl : Ev → M (List D)} (h : PS X st (tAsg (tTup (tCons (tD W false f) (tCons (tD W false g) (tCons (tDF W false fl) tNil)))) (gTup X.K 3 (gCons (gName i) (gCons (gName j) (gCons (gName l) gNil)))))) : DS X W st (sAsg3O i j l f g fl) := by
  refine ps_weak h fun N σ H ⟨H0, Ω0, Γ, ρ, ⟨Ω, s⟩, k⟩ => ⟨Ω, ρ, s.1, (KS.bind s.2.1 k).imp fun x H1 _ s1 k1 v rv => ⟨Ω, ρ, s.1.same s1, (KS.bind (s.2.1.trans s1) k1).imp fun y H2 _ s2 k2 u ru => ⟨Ω, ρ, s.1.same (s1.trans s2), (KS.bind (s.2.1.trans (s1.trans s2)) k2).imp fun ds H3 _ s3 k3 p vs hp hp' rs => ?_⟩⟩⟩
  refine ⟨by show 3 ≤ sizeLine; decide, fun T hT => ⟨T, _, rfl, .inl (.inl upd_same), rfl, v, _, rfl, u, _, rfl, .ref p, _, rfl, rfl, ?_⟩⟩
  have s4 := same_upd (o := .tup [v, u, .ref p]) hT
  have up : ∀ {Ha Hb : Hp}, Same Ha Hb → HLe (mo false Ω) Ha Ω Hb := fun sm => .same sm fun _ z => ⟨rfl, z⟩
  have b1 := ((s.same (s1.trans s2)).set (Rep.le (up s2) _ _ rv) i).set (Rep.le (up (Same.refl _)) _ _ ru) j
  refine k3 _ _ ⟨_, b1.own (s3.trans s4) hp (s4 _ _ hp') (Reps.le (.same s4 fun a z => ?_) _ _ rs) l⟩
  rcases z with z | z
  · exact .inl z
  · exact .inr ⟨rfl, z⟩
end DI
set_option maxRecDepth 100000
/-! DI7: the law's end. -/
namespace DI
open PySem PySem.Spec PyProof.Rows L2
theorem fun0 {K : PySem.W.Frag} {x qual : Str} {st : Stmt} {f : Addr} {fd : FuncData} (F : FunD K x qual (defArgs st) (defBody st) (defScope st) [] [] f fd) : Fun K x qual st f fd := by
  obtain ⟨oc, od, dV, kV, doc, pm, an, cdv, ct, osl, e, lk, hc, hd, _⟩ := F.ex
  have e0 : dV = .none := by
    rcases hd with ⟨_, h⟩ | ⟨h, _⟩
    · exact h
    · exact absurd rfl h
  subst e0
  exact ⟨⟨oc, od, kV, doc, pm, an, cdv, ct, osl, e, lk, hc⟩, F.kp⟩
theorem excC_of {K : PySem.W.Frag} {h : Heap} {mg : Str → Option Value} (X : K.In h) (G : h.Ns mainGlobals mg) {x : Str} (g : (He.Fa.glo x).ok K = true) (c : (He.Fa.exc x).ok K = true) : ExcC K mg x (He.ga K x) := by
  obtain ⟨h1, h2, h3, h4⟩ := He.exc_ok c
  exact ⟨He.glo_ok X G g, ⟨_, _, _, _, PySem.F.excBase_ValueError, h1⟩, h2, h3, h4⟩
/-- what a law's def says, started by the script -/
def LawD (K : PySem.W.Frag) (F : Fn) : Prop := ∀ ns : List Int, ns.length ≤ 63 → (∀ z ∈ ns, Builtin.Int.intBits z ≤ 1048576) → F [.scr K (ns.map .int)] = .ok (.bl true)
theorem ints_reps {Ω : Addr → Prop} {H : Hp} : ∀ ns : List Int, Reps Ω H (ns.map D.int) (ns.map V.int)
  | [] => Reps.nil
  | n :: r => Reps.cons Rep.int_mk (ints_reps r)
theorem law_sp {K : PySem.W.Frag} {F : Fn} {H : Hp} {a : Addr} {ns : List Int} (hF : F [.scr K (ns.map .int)] = .ok (.bl true)) (hO : Only H) (hS : SqL K H a (ns.map V.int)) :
    spD 1 F [.ref a] H (fun v _ => v = .bl true) fun _ _ _ => False := by
  refine ⟨fun _ => False, [.scr K (ns.map .int)], fun _ z => z.elim, Reps.cons ?_ Reps.nil, rfl, ?_⟩
  · simp only [Rep]
    refine ⟨a, _, rfl, ?_, ints_reps ns⟩
    rcases hS with (h | ⟨o, h⟩) | h
    · rcases hO a with z | ⟨o, xs, z⟩
      · rw [h] at z; cases z
      · rw [h] at z; cases z
    · exact .inl ⟨o, h⟩
    · exact .inr h
  · rw [hF]
    intro H' _ v r
    exact r.bl_inv
/-- the end of a law row over a head by facts, the script's bits told -/
theorem walk_end {l : PySem.W.OpenLaw} {k : Nat} {q : Program} {loose : List Str} {XP : (Str → Option Value) → Heap → Prop} {YP : World → Heap → Prop} {d : DefRec} {x : Str}
    (hn : l.most = some 63) (hdf : d.params.defaults = []) (hr : Room k callerA)
    (F : ∀ (w : World) (mg : Str → Option Value) (fa : Addr) (h : Heap), YP w h → h.Ns mainGlobals mg → mg d.name = some (.ref fa) →
      ∃ (K : PySem.W.Frag) (fd : FuncData) (f : Fn), K.In h ∧ (∀ (s : Shared) (u : Value), BindsTo s fd ⟨[u], []⟩ [(x, u)]) ∧ LawD K f ∧
        ∀ base : Heap, K.In base → base.Ns mainGlobals mg → FnOk l.prog w K mg base CX0 k fa fd [x] (spD 1 f)) :
    PySem.W.WalkO q loose XP YP l.row.toRowW d [] (fun f vs => PySem.call f vs) := by
  refine Att.attach_callB hn hdf fun w s₀ s₁ mg mb fa o pm cd doc a vs ns G Y ho hd hcd hmg hobj hints hlen hbits hg => ?_
  obtain ⟨K, fd, f, KX, hb, hL, hF⟩ := F w mg fa _ Y G.T.g hmg
  exact law_call KX G.T.g G.T.b G.T.builtins G.T.nolimit hg hobj hints (Nat.le_trans hlen (by decide)) hr hF hb (fun H hO hS => law_sp (hL ns hlen hbits) hO hS) fun H e s' z => z
end DI
set_option maxRecDepth 100000
/-! DI8: raising defs whose errors are caught; try .. except .. as ..; isinstance of the caught error; any while an error is handled. -/
namespace DI
open PySem PySem.Spec PyProof.Rows L2
/-! ### a hook with facts more -/
def obB (n : Nat) (fa : List He.Fa) (fn : List He.DefD) (ex : PySem.W.Frag → Bool) (g : Addr → Option Obj) : Bool × He.AlD := (ex (He.frG g (He.asD g n)), He.obsDG n fa fn g)
def hookB (n : Nat) (fa : List He.Fa) (fn : List He.DefD) (ex : PySem.W.Frag → Bool) : PySem.W.Hook where
  α := Bool × He.AlD
  obs s := obB n fa fn ex s.heap.get?
  val _ := (true, He.valD fn)
  says _ h := ∃ K : PySem.W.Frag, K.In h ∧ He.SaysD fa fn K ∧ ex K = true
  of _ s e := ⟨_, He.frG_in, congrArg Prod.snd e, congrArg Prod.fst e⟩
  keeps _ _ _ z k := let ⟨K, a, b⟩ := z; ⟨K, a.keeps k, b⟩
theorem obB_eq {n : Nat} {fa : List He.Fa} {fn : List He.DefD} {ex : PySem.W.Frag → Bool} {g : Addr → Option Obj} {s : Shared} (h : ∀ a, g a = s.heap.get? a) : obB n fa fn ex g = (hookB n fa fn ex).obs s := by
  obtain rfl : g = s.heap.get? := funext h
  rfl
/-! ### raising, the error's context told -/
theorem passLN {X : Cx} : Passes (L2N.CX X.prog X.w) X E0 := fun _ _ _ _ _ _ _ h => by
  obtain ⟨a, B, H', cls, d, e1, e2, e3, e4, e5, e6, e7, z⟩ := h
  exact z.elim
theorem takes0N {X : Cx} : L2N.Takes X (fun _ _ _ _ => False) := fun _ _ x => by
  obtain ⟨a, B, sI, pins, σ, H, cls, d, e1, e2, e3, e4, e5, e6, e7, e8, z⟩ := x
  exact z.elim
section
variable {P : Program} {w : World} {K : PySem.W.Frag} {mg : Str → Option Value} {base : Heap} {x qual : Str} {st : Stmt} {f : Addr} {fd : FuncData} {N ps : List Str} {k : Nat}
theorem fnDXN (fs : Ev → S) (F : Fun K x qual st f fd) (S : FnScope N ps (defScope st))
    (h : ∀ (cdv : Value) (A : Around) (outer : List PySem.Env) (s : Shared) (H : Hp) (E : XK), Room k (A.deeper (envOfC qual (defScope st) s.heap.objs.size f cdv)) → DSs (cxOf (L2N.CX P w) P w K mg base N qual (defScope st) f cdv A outer s H E) (fun c H' => E (.ref c) none H') (defBody st) fs) :
    FnOk P w K mg base (L2N.CX P w) (k + 1) f fd ps (spD ps.length (defF true ps.length N.length fs)) := by
  obtain ⟨oc, od, kV, doc, pm, an, cdv, ct, osl, rfl, lk, hcd⟩ := F.ex
  refine fn_of lk hcd S (fun vs H Q E q => ?_) (fun A outer s H vs Q E hr q => ?_)
  · obtain ⟨Ω, ds, _, r, e, _⟩ := q
    rw [← r.length, e]
  · obtain ⟨Ω, ds, hl, r, e, q⟩ := q
    exact ⟨_, h cdv A outer s H E hr, def_read hl r e q⟩
end
theorem pass_NN {X : Cx} : Passes (L2N.CX X.prog X.w) X (EW W0) := fun p σ H s e s' I c => passLN (X := X) p σ H s e s' I (by
  obtain ⟨a, B, H', cls, d, e1, e2, e3, e4, e5, e6, e7, c', e8, e9, z⟩ := c
  exact z.elim)
theorem pass_XN {P : Program} {w : World} {K : PySem.W.Frag} {mg : Str → Option Value} {base : Heap} {N : List Str} {qual : Str} {sc : Scope} {f : Addr} {cd : Value} {A : Around} {outer : List PySem.Env} {s : Shared} {H : Hp} {E : XK} :
    Passes (L2N.CX P w) (cxOf (L2N.CX P w) P w K mg base N qual sc f cd A outer s H E) (EW fun c H' => E (.ref c) none H') :=
  L2N.passes_call (L2N.takes_of rfl rfl rfl rfl) fun _ _ _ _ ⟨_, e1, e2, h⟩ => by subst e1 e2; exact h
theorem ds_raiseN {X : Cx} {W : Addr → Hp → Prop} {e : Expr} {pos : Pos} {cls : Addr} {WX' : WX} (hc : X.calm = true) (tk : L2N.Takes X WX') (hw : ∀ σ H, W cls H → WX' (.ref cls) none σ H) (he : L2N.PMk X e (fun _ H Q => Q (.ref cls) none H)) : DS X W (.Raise (some e) none pos) (fun _ => .ex cls) :=
  ps_weak (L2N.ps_raise hc tk he) fun N σ H ⟨H0, Ω0, Γ, ρ, ⟨Ω, s⟩, k⟩ => hw _ _ (k H s.2.1)
theorem ExcC.mkN {X : Cx} {x m : Str} {C : Addr} {j : Nat} {p p2 pos : Pos} (h : ExcC X.K X.mg x C) (hg : Gl X x) (hdb : (x == ("__debug__" : Str)) = false := by decide) : L2N.PMk X (.Call (.Name x p) [.Constant (.str m) j p2] [] pos) (fun _ H Q => Q (.ref C) none H) := by
  obtain ⟨bmB, newId, initId, B, h1, h2⟩ := h.q
  exact L2N.pmk_own h1 h2 h.g h.kp (raises_own h.sub h.ty) hg hdb
/-! ### the end of a list while an error is handled -/
section
variable {prog : Program} {w : World} {A : Around} {E : Value → Shared → Prop} {s : Shared}
theorem list_end_hot {it l x1 : Addr} {i : Nat} {items : Array Value} {Q : Option Value → Shared → Prop} (hot : HotX.HotAt A x1 s.heap) (nx : x1 ≠ it)
    (hit : s.heap.IsListIter it l i) (hl : s.heap.IsList l items) (hx : items[i]? = none)
    (hQ : ∀ h', Heap.ExtBut it s.heap h' → Q none { s with heap := h' }) : wpAny (model prog w) A (pyNext (.ref it)) Q E s := by
  have hit0 := hit
  obtain ⟨o, ho, hc, hd⟩ := hit
  obtain ⟨ol, hol, _, nl, hdl⟩ := hl
  obtain ⟨hh, o1, vs1, h1, d1, c1⟩ := hot
  unfold pyNext
  have e1 := slot_listiter_next
  refine wpAny_bind (wpAny_attempt (wpAny_callSpecial?_slot (name := Str.ofString "__next__") hit0.typeIs e1
    (wpAny_call_entry e1 hit0.typeIs entry_listiter_next ?_ (args_listiter_next _))))
  show wpAny _ _ (field (.ref it) 0 >>= _) _ _ s
  refine wpAny_bind (wpAny_field ho hd (x := .ref l) rfl ?_)
  show wpAny _ _ (if (Value.ref l == Value.none) = true then _ else _) _ _ s
  rw [if_neg (show (Value.ref l == Value.none) ≠ true from fun z => nomatch z)]
  show wpAny _ _ (field (.ref it) 1 >>= _) _ _ s
  refine wpAny_bind (wpAny_field ho hd (x := .int i 0) rfl ?_)
  show wpAny _ _ (seqItems? (.ref l) >>= _) _ _ s
  refine wpAny_bind (wpAny_seqItems hol hdl ?_)
  simp only [Int.toNat_natCast, hx]
  refine wpAny_bind (wpAny_rule (wpAny_bind (wpAny_setField ho hd (by simp) ?_)))
  have h1' : (s.heap.update it (Obj.mapFields (·.setIfInBounds 0 .none))).get? x1 = some o1 := by
    rw [Heap.get?_update_other _ _ (Ne.symm nx)]
    exact h1
  show wpAny _ _ (newExc (.type "StopIteration") [] >>= _) _ _ _
  refine wpAny_bind ?_
  simp only [newExc, newTuple]
  refine wpAny_bind (wpAny_newObj_type ?_ (by size_fits))
  refine wpAny_bind (m := firstArgMember _ _) (wpAny_of_eq (a := Value.none) (by first | rfl | (simp only [firstArgMember]; rfl)) ?_)
  refine wpAny_newObj_type ?_ (by size_fits)
  refine HotX.raiseNew_hot ⟨hh, o1, vs1, Heap.get?_push_of_some _ (Heap.get?_push_of_some _ h1'), d1, c1⟩ (Nat.ne_of_lt (Heap.lt_size (Heap.get?_push_of_some _ h1'))) (Heap.get?_push_size _ rfl) rfl (by first | (simp; done) | (simp; omega) | (simp only [Array.size_append]; simp; omega)) ?_
  refine wpAny_bind (wpAny_isInstance (T := "StopIteration") (b := true) ⟨_, Heap.get?_update_self _ (Heap.get?_push_size _ rfl) rfl, rfl⟩ isSubtype_stop ?_)
  refine wpAny_pure (hQ _ fun b ob nb e => ?_)
  have e' : (s.heap.update it (Obj.mapFields (·.setIfInBounds 0 .none))).get? b = some ob := by
    rw [Heap.get?_update_other _ _ (Ne.symm nb)]
    exact e
  rw [Heap.get?_update_other _ _ (Nat.ne_of_gt (Heap.lt_size (Heap.get?_push_of_some _ e')))]
  exact Heap.get?_push_of_some _ (Heap.get?_push_of_some _ e')
end
/-- any(list of bools) while an error is handled -/
theorem Walks.listHot {prog : Program} {w : World} {A : Around} (I ax x1 : Addr) (hne : ax ≠ I) (nx : x1 ≠ I) (items : Array Value) :
    Walks prog w A I [I, ax, x1] [I] items.size (fun i v => items[i]? = some v) (fun i h => h.IsListIter I ax i ∧ h.IsList ax items ∧ HotX.HotAt A x1 h) where
  sub b hb := by simp at hb; simp [hb]
  frame _ _ _ st hk := by
    obtain ⟨a, b, hh, o, vs, e1, e2⟩ := st
    exact ⟨a.at fun o e => hk I (by simp) o e, b.at fun o e => hk ax (by simp) o e, hh, o, vs, hk x1 (by simp) o e1, e2⟩
  item i s Q E hi st hQ := by
    obtain ⟨a, b, hh, o, vs, e1, e2⟩ := st
    refine wpAny_pyNext_list_item a b (x := items[i]) (by simp [hi]) fun h' hit' hs' => ?_
    exact hQ _ h' s.toks (by simp [hi]) ⟨hit', b.extBut hs'.extBut hne, hh, o, vs, hs'.extBut x1 o nx e1, e2⟩ fun b o hb e => hs'.extBut b o (fun h => hb (by simp [h])) e
  done s Q E st hQ := by
    obtain ⟨a, b, hot⟩ := st
    exact list_end_hot hot nx a b (by simp) fun h' he' => hQ h' s.toks fun b o hb e => he' b o (fun h => hb (by simp [h])) e
  self _ _ _ _ st hQ := wpAny_pyIter_listiter st.1 hQ
theorem hotC_suite {X : Cx} {a : Addr} {oe : Obj} {pn : List (Addr × Obj)} {cls : Value} {d : Option Addr} (hz : L2N.Zn cls d oe) (hf : ∃ vs, oe.data = .fields vs) : L2H.HotC (X.suite a ((a, oe) :: pn)) := by
  obtain ⟨vs, hv⟩ := hf
  exact ⟨(a, oe), ⟨rfl, vs, hv, hz.2.2 vs hv⟩, List.mem_cons_self⟩
theorem cr_anyH {X : Cx} (hc : L2H.HotC X) : CallR X (.builtin "any") (rAny X.K) := by
  intro pins s σ H vs us Q I r h
  obtain ⟨a, bs, rfl, hs, q⟩ := h
  obtain ⟨its, rv, hl, _⟩ := I.list hs
  rw [Vals.ref1 r]
  have hb := rv.bls
  obtain ⟨x1, hh, o1, vs1, g1, g2, g3⟩ := hc.at I
  refine call_any_walk (iter_any hl.isList fun s₂ e2 st hne => ?_)
  subst e2
  refine ⟨_, _, _, _, _, _, _, rfl, Walks.listHot (A := X.A.in1) _ a x1 hne (Nat.ne_of_lt (Heap.lt_size g1)) its.toArray, ⟨st.1, st.2, hh, o1, vs1, Heap.get?_push_of_some _ g1, g2, g3⟩, truth_bools hb, fun h' tk hk => ?_⟩
  refine ⟨.bl _, H, I.kept fun b o eo => hk b o (fun hmem => ?_) (Heap.get?_push_of_some _ eo), ?_, q⟩
  · rcases List.mem_cons.mp hmem with e1 | hmem
    · exact absurd (e1 ▸ Heap.lt_size eo) (Nat.lt_irrefl _)
    · cases hmem
  · show Value.bool _ = Value.bool _
    rw [← L2.any_range, hb, List.size_toArray, List.length_map]
section
variable {X : Cx} {W : Addr → Hp → Prop} {m : Bool} {a : Expr} {fs : Ev → M (List D)} {pf pos : Pos}
theorem de_anyH (hc : L2H.HotC X) (hg : Gl X "any") (hm : X.mg "any" = none) (ha : DA X W m [a] fs)
    (he : starEach [a] X.env = (false, eval a X.env) :: starEach [] X.env := by rfl) (hpl : (backTo pos (starEach [] X.env)).any (·.1) = false := by rfl) : DE X W m (.Call (.Name "any" pf) [a] [] pos) (xAll dAny fs) :=
  de_callB (cr_anyH hc) sv_any hg hm PyProof.Rows.boot_any ha (by decide) (by decide) he hpl
end
/-! ### isinstance of the caught error -/
def dIsE (K : PySem.W.Frag) (C a : Addr) : List D → M D
  | [.fn x, .fn c] => if x = a then ofO ((PySem.W.kitOne K (.ref C) (.ref c)).map D.bl) else .und
  | _ => .und
theorem de_isE {X : Cx} {W : Addr → Hp → Prop} {m : Bool} {C a : Addr} {oe : Obj} {pn : List (Addr × Obj)} {b c : Expr} {fs : Ev → M (List D)} {pf pos : Pos} (F : L2.ExcC X.K C) (hz : L2N.Zn (.ref C) none oe) (hf : ∃ vs, oe.data = .fields vs)
    (hg : Gl (X.suite a ((a, oe) :: pn)) "isinstance") (hm : X.mg "isinstance" = none) (ha : DA (X.suite a ((a, oe) :: pn)) W m [b, c] fs)
    (he : starEach [b, c] X.env = (false, eval b X.env) :: starEach [c] X.env := by rfl) (hpl : (backTo pos (starEach [c] X.env)).any (·.1) = false := by rfl) : DE (X.suite a ((a, oe) :: pn)) W m (.Call (.Name "isinstance" pf) [b, c] [] pos) (xAll (dIsE X.K C a) fs) := by
  refine pe_weak (pe_callB (call_isE F hz.zc hf) hg hm PyProof.Rows.boot_isinstance ha (by decide) (by decide) he hpl) fun σ H Q ⟨Ω, ρ, e, k⟩ => ⟨Ω, ρ, e, (KM.bind k).imp fun ds H1 _ s1 k1 vs rs => ?_⟩
  unfold dIsE at k1
  split at k1
  · rename_i x y _
    obtain ⟨v, u, e1, r1, r2⟩ := rs.two
    simp only [Rep] at r1 r2
    subst e1 r1 r2
    split at k1
    · rename_i ex
      subst ex
      cases q : PySem.W.kitOne X.K (.ref C) (.ref y) with
      | none => rw [q] at k1; exact k1.elim
      | some t =>
        rw [q] at k1
        exact ⟨_, _, t, rfl, fun u hu => hu, q, KM.ok k1 _ Rep.bl_mk⟩
    · exact k1.elim
  · exact k1.elim
/-! ### try: g(..) except M as n: suite -/
/-- the suite's wish, for an error of the class C alone -/
def tsE (C : Addr) (fsu : Addr → Ev → S) : Addr → Value → Option Addr → TS := fun a cls d N σ H => (cls = .ref C ∧ d = none) ∧ tS W0 (fsu a) N σ H
theorem pss_if {X : Cx} {b : List Stmt} {p : Prop} {t : TS} (h : p → PSs X b t) : PSs X b (fun N σ H => p ∧ t N σ H) := ⟨fun pins s σ H N I q => (h q.1).run pins s σ H N I q.2⟩
def start (n : Nat) (ds : List D) : Ev := ds.map (fun d => some (Sl.v d)) ++ List.replicate (n - ds.length) none
def tryF (n N i : Nat) (fr : Ev → M (List D)) (G : Fn) (C : Addr) (fsu : Addr → Ev → S) : Fn := fun ds => if ds.length = n then (match fr (start N ds) with
  | .ok es => (match G es with
    | .ex c => if c = C then (match fsu 0 ((start N ds).set i (some (.v (.fn 0)))) with
      | .rt d => .ok d
      | _ => .und) else .und
    | _ => .und)
  | _ => .und) else .und
abbrev tTry (K : PySem.W.Frag) (n i : Nat) (fr : Ev → M (List D)) (G : Fn) (C Mt : Addr) (fsu : Addr → Ev → S) : TS := fun N σ H => tDrop (tCallS (spD n G) (WE (wAs K (.ref Mt) i (tsE C fsu) (fun _ _ _ _ => False) N)) (tDA W0 false fr)) N σ H
theorem fnTry {P : Program} {w : World} {K : PySem.W.Frag} {mg : Str → Option Value} {base : Heap} {x qual : Str} {st : Stmt} {f : Addr} {fd : FuncData} {N ps : List Str} {k n i : Nat} {fr : Ev → M (List D)} {G : Fn} {C Mt : Addr} {fsu : Addr → Ev → S} {u : TS}
    (F : Fun K x qual st f fd) (Sc : FnScope N ps (defScope st)) (hx : PySem.W.exmOne K (.ref C) (.ref Mt) = some true) (hlen : ∀ ρ es, fr ρ = .ok es → es.length = n)
    (hun : ∀ a ds d, ds.length = ps.length → fsu 0 ((start N.length ds).set i (some (.v (.fn 0)))) = .rt d → fsu a ((start N.length ds).set i (some (.v (.fn a)))) = .rt d)
    (h : ∀ (cdv : Value) (A : Around) (outer : List PySem.Env) (s : Shared) (H : Hp) (E : XK), Room k (A.deeper (envOfC qual (defScope st) s.heap.objs.size f cdv)) → PSs (cxOf CX0 P w K mg base N qual (defScope st) f cdv A outer s H E).nox (defBody st) (tSeq (tTry K n i fr G C Mt fsu) u)) :
    FnOk P w K mg base CX0 (k + 1) f fd ps (spD ps.length (tryF ps.length N.length i fr G C fsu)) := by
  refine F.ok Sc (fun vs H Q E q => ?_) (fun cdv A outer s H vs Q E hr q => ?_)
  · obtain ⟨Ω, ds, _, r, e, _⟩ := q
    rw [← r.length, e]
  · obtain ⟨Ω, ds, hl, r, e, q⟩ := q
    refine ⟨_, h cdv A outer s H E hr, ?_⟩
    unfold tryF at q
    rw [if_pos e] at q
    have ei := ei_start (N := N) hl r
    change EI Ω (start N.length ds) _ _ at ei
    cases q1 : fr (start N.length ds) with
    | und => rw [q1] at q; exact q.elim
    | ex c => rw [q1] at q; exact q.elim
    | ok es =>
      rw [q1] at q
      dsimp only at q
      cases q2 : G es with
      | und => rw [q2] at q; exact q.elim
      | ok d => rw [q2] at q; exact q.elim
      | ex c =>
        rw [q2] at q
        dsimp only at q
        split at q
        · rename_i ec
          subst ec
          cases q3 : fsu 0 ((start N.length ds).set i (some (.v (.fn 0)))) with
          | und => rw [q3] at q; exact q.elim
          | nx ρ => rw [q3] at q; exact q.elim
          | bk ρ => rw [q3] at q; exact q.elim
          | ct ρ => rw [q3] at q; exact q.elim
          | ri C n es => rw [q3] at q; exact q.elim
          | ex c => rw [q3] at q; exact q.elim
          | rt d =>
            rw [q3] at q
            refine ⟨Ω, _, ei, ?_⟩
            rw [q1]
            refine fun H1 s1 vs1 r1 => ⟨Ω, es, fun a z => ?_, Reps.le (.sub fun a z => ⟨rfl, z⟩) _ _ r1, hlen _ _ q1, ?_⟩
            · obtain ⟨ws, g⟩ := hl a z
              exact ⟨ws, s1 _ _ g⟩
            · rw [q2]
              refine fun H2 s2 => ⟨true, hx, fun _ a na => ⟨⟨rfl, rfl⟩, ?_⟩, fun z => nomatch z⟩
              refine ⟨H, Ω, [], (start N.length ds).set i (some (.v (.fn a))), ⟨Ω, ?_⟩, ?_⟩
              · refine SIO.set ⟨ei.same (s1.trans s2), s1.trans s2, fun a z => ⟨z, fun e => ?_⟩, fun a z => .inl z, fun j x vv p h1 h2 h3 => ?_, fun g hg => absurd hg (by simp)⟩ (by simp only [Rep]) i
                · obtain ⟨ws, g⟩ := hl a z
                  rw [e] at g; cases g
                · exfalso
                  unfold start at h1
                  by_cases hi : j < ds.length
                  · rw [List.getElem?_append_left (by rw [List.length_map]; exact hi), List.getElem?_map] at h1
                    cases e : ds[j]? with
                    | none => rw [e] at h1; cases h1
                    | some d => rw [e] at h1; cases h1; exact h3
                  · rw [List.getElem?_append_right (by rw [List.length_map]; omega), List.getElem?_replicate] at h1
                    split at h1 <;> cases h1
              · rw [hun a ds d e q3]
                exact fun v H' sm r => q H' sm v r
        · exact q.elim
/-! ### sorted(set(list of triples)) -/
def dedT : List Tri → List Tri
  | [] => []
  | t :: r => if t ∈ r then dedT r else t :: dedT r
theorem dedT_mem : ∀ {l : List Tri} {x : Tri}, x ∈ dedT l ↔ x ∈ l
  | [], x => Iff.rfl
  | y :: r, x => by
    unfold dedT
    by_cases h : y ∈ r
    · rw [if_pos h, dedT_mem, List.mem_cons]
      exact ⟨.inr, fun z => z.elim (fun e => e ▸ h) _root_.id⟩
    · rw [if_neg h, List.mem_cons, List.mem_cons, dedT_mem]
theorem dedT_nodup : ∀ l : List Tri, (dedT l).Nodup
  | [] => List.nodup_nil
  | y :: r => by
    unfold dedT
    by_cases h : y ∈ r
    · rw [if_pos h]; exact dedT_nodup r
    · rw [if_neg h]
      exact List.nodup_cons.mpr ⟨fun z => h (dedT_mem.mp z), dedT_nodup r⟩
def smallT (t : Tri) : Bool := decide ((0 ≤ t.1 ∧ t.1 < 1000) ∧ (0 ≤ t.2.1 ∧ t.2.1 < 1000) ∧ (0 ≤ t.2.2 ∧ t.2.2 < 1000))
def dSortSetT : D → M (List D)
  | .lst ds => match trisOf ds with
    | some ts => if ts.length < 64 ∧ ts.all smallT = true then .ok ((sortT (dedT ts)).map triD) else .und
    | none => .und
  | _ => .und
def lsT (t : Tri) : List Int := [t.1, t.2.1, t.2.2]
theorem lsT_inj {t u : Tri} (h : lsT t = lsT u) : t = u := by
  obtain ⟨a, b, c⟩ := t
  obtain ⟨d, e, f⟩ := u
  simp [lsT] at h
  simp [h]
theorem code3 (a b c : Int) : TS.code 1000 [a, b, c] = a * 1000000 + b * 1000 + c := by
  simp [TS.code]
  omega
theorem lt_code {t u : Tri} (ht : smallT t = true) (hu : smallT u = true) (h : TS.code 1000 (lsT t) ≤ TS.code 1000 (lsT u)) : ltT u t = false := by
  have h1 := of_decide_eq_true ht
  have h2 := of_decide_eq_true hu
  unfold lsT at h
  rw [code3, code3] at h
  rw [ltT_no]
  omega
section
variable {X : Cx} {W : Addr → Hp → Prop} {m : Bool} {a : Expr} {f : Ev → M D} {p p2 q pos : Pos}
theorem df_sortSetT (hc : X.calm = true) (hu : X.A.units + 64 < cLine) (hg : Gl X "sorted") (hm : X.mg "sorted" = none) (hg2 : Gl X "set") (hm2 : X.mg "set" = none) (ha : DE X W m a f)
    (na : starEach [a] X.env = (false, eval a X.env) :: starEach [] X.env := by rfl) (hpl : (backTo q (starEach [] X.env)).any (·.1) = false := by rfl)
    (na2 : starEach [Expr.Call (.Name "set" p2) [a] [] q] X.env = (false, eval (.Call (.Name "set" p2) [a] [] q) X.env) :: starEach [] X.env := by rfl) (hpl2 : (backTo pos (starEach [] X.env)).any (·.1) = false := by rfl) :
    DF X W m (.Call (.Name "sorted" p) [.Call (.Name "set" p2) [a] [] q] [] pos) (fun ρ => (f ρ).bind dSortSetT) := by
  have h1 := pe_callTy (cr_setOfT hc hu) (p := p2) (pos := q) hg2 hm2 PyProof.Rows.boot_set (pa_cons ha pa_nil na) (by decide) (by decide) na hpl
  have h2 := pe_callB (cr_sortedT hc) (p := p) (pos := pos) hg hm PyProof.Rows.boot_sorted (pa_cons h1 pa_nil na2) (by decide) (by decide) na2 hpl2
  refine pe_weak h2 fun σ H Q ⟨Ω, ρ, ei, k⟩ => ⟨Ω, ρ, ei, (KM.bind k).imp fun d H1 _ s1 k1 v r => ?_⟩
  cases d with
  | lst ds =>
    obtain ⟨pl, vs, e1, _, q, rs⟩ := r.lst_inv
    unfold dSortSetT at k1
    dsimp only at k1
    cases qt : trisOf ds with
    | none => rw [qt] at k1; exact k1.elim
    | some ts =>
      rw [qt] at k1
      dsimp only at k1
      split at k1
      · rename_i hlt
        obtain ⟨hl, hs⟩ := hlt
        have hs := List.all_eq_true.mp hs
        have ed := trisOf_map qt
        rw [ed] at rs
        have pv := reps_tri.mp rs
        -- the addresses
        have ad : ∀ {vs : List V} {ts : List Tri}, Paired (RT H1) vs ts → ∃ ks : List (Addr × List Int), vs = ks.map (fun p => V.ref p.1) ∧ ks.map (·.2) = ts.map lsT ∧ ∀ p ∈ ks, H1 p.1 = some (.tup (p.2.map V.int)) := by
          intro vs ts pv
          induction pv with
          | nil => exact ⟨[], rfl, rfl, fun p hp => by cases hp⟩
          | cons h _ ih =>
            rename_i t _ _ _
            obtain ⟨a, ea, ha⟩ := h
            obtain ⟨ks, i1, i2, i3⟩ := ih
            refine ⟨(a, lsT t) :: ks, by rw [ea, i1]; rfl, by rw [List.map_cons, i2]; rfl, fun p hp => ?_⟩
            rcases List.mem_cons.mp hp with rfl | hp
            · exact ha
            · exact i3 p hp
        obtain ⟨ks, g1, g2, g3⟩ := ad pv
        have hlen : ks.length = ts.length := by rw [← List.length_map (f := (·.2)) (as := ks), g2, List.length_map]
        refine ⟨pl, ks, by rw [e1], .inl (.inl (by rw [← g1]; exact q)), fun p hp => .inl (.inl (g3 p hp)), by omega, fun b L hb hL1 hL2 => ?_⟩
        have inT : ∀ p ∈ L, ∃ t ∈ ts, p.2 = lsT t := fun p hp => by
          have : p.2 ∈ ks.map (·.2) := List.mem_map.mpr ⟨p, hL1 p hp, rfl⟩
          rw [g2] at this
          obtain ⟨t, ht, e⟩ := List.mem_map.mp this
          exact ⟨t, ht, e.symm⟩
        refine ⟨b, L, 3, 1000, rfl, upd_same, fun p hp => .inl (.inl (same_upd hb _ _ (g3 p (hL1 p hp)))), by decide, fun p hp => ?_, fun L' c hp' hnd hl' hso hc' => ?_⟩
        · obtain ⟨t, ht, e⟩ := inT p hp
          rw [e]
          have st := of_decide_eq_true (hs t ht)
          refine ⟨rfl, fun m hm => ?_⟩
          simp only [lsT, List.mem_cons, List.not_mem_nil, or_false] at hm
          rcases hm with rfl | rfl | rfl <;> omega
        · have inL : ∀ p ∈ L', ∃ t ∈ ts, p.2 = lsT t := fun p hp => inT p (hp'.mem_iff.mp hp)
          -- L' as triples
          have tr : ∀ M : List (Addr × List Int), (∀ p ∈ M, ∃ t ∈ ts, p.2 = lsT t) → ∃ us : List Tri, M.map (·.2) = us.map lsT ∧ ∀ u ∈ us, u ∈ ts := by
            intro M hM
            induction M with
            | nil => exact ⟨[], rfl, fun u hu => by cases hu⟩
            | cons p r ih =>
              obtain ⟨t, ht, e⟩ := hM p List.mem_cons_self
              obtain ⟨us, i1, i2⟩ := ih fun p hp => hM p (List.mem_cons_of_mem _ hp)
              refine ⟨t :: us, by rw [List.map_cons, List.map_cons, i1, e], fun u hu => ?_⟩
              rcases List.mem_cons.mp hu with rfl | hu
              · exact ht
              · exact i2 u hu
          obtain ⟨us, u1, u2⟩ := tr L' inL
          have und : us.Nodup := by
            rw [u1] at hnd
            exact (List.pairwise_map.mp hnd).imp fun h e => h (congrArg lsT e)
          have uso : SrT us := by
            have z : (L'.map (·.2)).Pairwise (fun x y => TS.code 1000 x ≤ TS.code 1000 y) := List.pairwise_map.mpr hso
            rw [u1, List.pairwise_map] at z
            exact z.imp_of_mem fun {x y} hx hy h => lt_code (hs x (u2 x hx)) (hs y (u2 y hy)) h
          have upm : us.Perm (dedT ts) := (List.perm_ext_iff_of_nodup und (dedT_nodup ts)).mpr fun x => by
            rw [dedT_mem]
            refine ⟨u2 x, fun hx => ?_⟩
            have m1 : lsT x ∈ ks.map (·.2) := by rw [g2]; exact List.mem_map.mpr ⟨x, hx, rfl⟩
            obtain ⟨p, hp, e⟩ := List.mem_map.mp m1
            have m2 := hL2 p hp
            have m3 : p.2 ∈ L'.map (·.2) := (hp'.map (·.2)).mem_iff.mpr m2
            rw [u1] at m3
            obtain ⟨y, hy, e2⟩ := List.mem_map.mp m3
            have := lsT_inj (e2.trans e)
            exact this ▸ hy
          have eus := sortT_eq uso upm
          have s3 := (same_upd (o := SetTO X.prog X.w b L) hb).trans (same_upd (o := .lst (L'.map fun q => V.ref q.1)) hc')
          refine k1 _ s3 c _ (s1.free ((same_upd hb).free hc')) upd_same ?_
          rw [← eus, reps_tri]
          have fin : ∀ {M : List (Addr × List Int)} {us : List Tri}, M.map (·.2) = us.map lsT → (∀ p ∈ M, p ∈ ks) → Paired (RT (upd (upd H1 b (SetTO X.prog X.w b L)) c (.lst (L'.map fun q => V.ref q.1)))) (M.map fun q => V.ref q.1) us := by
            intro M
            induction M with
            | nil =>
              intro us e _
              cases us with
              | nil => exact .nil
              | cons _ _ => cases e
            | cons p r ih =>
              intro us e hM
              cases us with
              | nil => cases e
              | cons u us =>
                rw [List.map_cons, List.map_cons, List.cons.injEq] at e
                refine .cons ⟨p.1, rfl, s3 _ _ ?_⟩ (ih e.2 fun p hp => hM p (List.mem_cons_of_mem _ hp))
                have := g3 p (hM p List.mem_cons_self)
                rw [e.1] at this
                exact this
          exact fin u1 fun p hp => hL1 p (hp'.mem_iff.mp hp)
      · exact k1.elim
  | _ => exact k1.elim
end
theorem args_len3 {f g h : Ev → M D} {ρ : Ev} {es : List D} (e : xCons f (xCons g (xCons h xNil)) ρ = .ok es) : es.length = 3 := by
  have k : ∀ {f : Ev → M D} {fs : Ev → M (List D)} {es : List D}, xCons f fs ρ = .ok es → ∃ d ds, fs ρ = .ok ds ∧ es = d :: ds := fun {f fs es} e => by
    unfold xCons at e
    cases q : f ρ with
    | und => rw [q] at e; cases e
    | ex c => rw [q] at e; cases e
    | ok d =>
      rw [q] at e
      cases q2 : fs ρ with
      | und => rw [show (M.ok d).bind _ = (fs ρ).bind _ from rfl, q2] at e; cases e
      | ex c => rw [show (M.ok d).bind _ = (fs ρ).bind _ from rfl, q2] at e; cases e
      | ok ds => rw [show (M.ok d).bind _ = (fs ρ).bind _ from rfl, q2] at e; cases e; exact ⟨d, ds, rfl, rfl⟩
  obtain ⟨d, ds, e1, rfl⟩ := k e
  obtain ⟨d2, ds2, e2, rfl⟩ := k e1
  obtain ⟨d3, ds3, e3, rfl⟩ := k e2
  cases e3
  rfl
@[simp] theorem e_then_und (k : Ev → S) : S.und.then k = .und := rfl
/-- what the class must say, read of the head -/
def excB (K : PySem.W.Frag) (C : Addr) : Bool := He.eqO (PySem.W.findIn K (.ref C) "__getattribute__") (some (some (.builtin "BaseException.__getattribute__"))) && (He.eqO (PySem.W.findIn K (.ref C) "__getattr__") (some none) &&
  (decide (PySem.W.subIn K (.ref C) (.type "BaseException") = some true) && (PySem.W.hasDictIn K C && (He.eqO (PySem.W.findIn K (.ref C) "__class__") (some (some (.builtin "object.__class__"))) &&
  (He.eqO (PySem.W.specialIn K (.builtin "object.__class__") "__get__") (some (some (.builtin "getset_descriptor.__get__"))) && (decide (PySem.W.takesIn K (.builtin "object.__class__") = some true) && decide (PySem.W.mroIn K C (.type "object") = some true)))))))
theorem excB_ok {K : PySem.W.Frag} {C : Addr} (h : excB K C = true) : L2.ExcC K C := by
  obtain ⟨h1, h⟩ := He.ba h
  obtain ⟨h2, h⟩ := He.ba h
  obtain ⟨h3, h⟩ := He.ba h
  obtain ⟨h4, h⟩ := He.ba h
  obtain ⟨h5, h⟩ := He.ba h
  obtain ⟨h6, h⟩ := He.ba h
  obtain ⟨h7, h8⟩ := He.ba h
  exact ⟨He.eqO_ok h1, He.eqO_ok h2, of_decide_eq_true h3, h4, He.eqO_ok h5, He.eqO_ok h6, of_decide_eq_true h7, of_decide_eq_true h8⟩
/-- isinstance of an error of the class x asked for the classes ys -/
def kitB (K : PySem.W.Frag) (x : Str) (ys : List (Str × Bool)) : Bool := ys.all fun y => decide (PySem.W.kitOne K (.ref (He.ga K x)) (.ref (He.ga K y.1)) = some y.2)
theorem kitB_ok {K : PySem.W.Frag} {x : Str} {ys : List (Str × Bool)} (h : kitB K x ys = true) (i : Nat) {y : Str × Bool} (e : ys[i]? = some y := by rfl) : PySem.W.kitOne K (.ref (He.ga K x)) (.ref (He.ga K y.1)) = some y.2 :=
  of_decide_eq_true (List.all_eq_true.mp h y (List.mem_of_getElem? e))
end DI
set_option maxRecDepth 100000
/-! DI9: a def called while an error is handled, the error's object known; a call of a def that a slot holds, within try. -/
namespace DI
open PySem PySem.Spec PyProof.Rows L2 L2H
/-! ### a def that is called in a suite, with what is known of the handled object -/
structure FnZ (Z : Addr × Obj → Prop) (P : Program) (w : World) (K : PySem.W.Frag) (mg : Str → Option Value) (base : Heap) (CX : CXT) (k : Nat) (f : Addr) (fd : FuncData) (ps : List Str) (sp : Sp) : Prop where
  many : ∀ vs H Q E, sp vs H Q E → vs.length = ps.length
  go : ∀ p : Addr × Obj, Z p → ∀ (A : Around) (outer : List PySem.Env) (s : Shared) (H : Hp) (args : Args) (us : List Value) (vs : List V) (Q : VK) (E : XK),
    RoomH k A → Hot1 A p → PinOk outer H s p → Env0 P w K mg base A outer s H → BindsTo s fd args (ps.zip us) → Vals vs us → sp vs H Q E → codeAny (model P w) A (.call (.ref f) args) (CR CX outer P w H s Q E) s
section
variable {Z : Addr × Obj → Prop} {CX : CXT} {P : Program} {w : World} {K : PySem.W.Frag} {mg : Str → Option Value} {base : Heap} {k : Nat} {f : Addr} {N ps : List Str} {sp : Sp}
theorem fnZ_of {x qual : Str} {st : Stmt} {fd : FuncData} (F : Fun K x qual st f fd) (S : FnScope N ps (defScope st)) (len : ∀ vs H Q E, sp vs H Q E → vs.length = ps.length)
    (hbody : ∀ p : Addr × Obj, Z p → ∀ (cdv : Value) (A : Around) (outer : List PySem.Env) (s : Shared) (H : Hp) (vs : List V) (Q : VK) (E : XK), Hot1 A p → sp vs H Q E →
      ∃ t, PSs (cxH CX P w K mg base N qual (defScope st) f cdv A outer s H E p) (defBody st) t ∧ t { nx := fun _ H' => Q .non H', rt := Q } (L2.start N vs) H) : FnZ Z P w K mg base CX (k + 1) f fd ps sp := by
  obtain ⟨oc, od, kV, doc, pm, an, cdv, ct, osl, rfl, lk, hcd⟩ := F.ex
  constructor
  · exact len
  intro p zp A outer s H args us vs Q E hr hot hpin e0 hb r hsp
  have hl : vs.length = ps.length := len _ _ _ _ hsp
  have bs : ∀ b o, base.get? b = some o → s.heap.get? b = some o := fun b o e => (e0.bs b o e).1
  have KX : K.In s.heap := e0.mod.kin.keeps bs
  have kinds : ∀ y ∈ ps.zip us, (defScope st).names.lookup y.1 = some .local ∨ ((defScope st).names.lookup y.1 = some .cell ∧ ((cellsFrom (s.heap.objs.size + 1) (defScope st).names []).lookup y.1).isSome = true) := by
    intro y hy
    obtain ⟨n, v⟩ := y
    rcases S.par n (List.of_mem_zip hy).1 with q | q
    · exact .inl q
    · exact .inr ⟨q, PySem.W.cellsFrom_some _ _ _ (.inl q)⟩
  apply codeAny_call_function hr.depth (KX _ _ lk) rfl S.co S.gen rfl (PySem.W.codeRec_of KX hcd) (hb _ _ _ _ ?_)
  apply wpAny_newFunctionEnv_cells S.kind kinds
  intro env he s1 x
  subst he
  refine ⟨(e0.mod.nolimit.keeps bs).keeps x.toInCall.keep, codeAny_func ?_⟩
  obtain ⟨t, ht, hq⟩ := hbody p zp cdv A outer s H vs Q E hot hsp
  have I := inv_startH (CX := CX) (E := E) S hpin e0 hl r x
  have after := ht.run [] s1 (L2.start N vs) H _ I hq
  apply wpAny_mono after
  · intro fl s' hs
    cases fl with
    | brk => obtain ⟨_, _, _, z⟩ := hs; exact z.elim
    | cont => obtain ⟨_, _, _, z⟩ := hs; exact z.elim
    | next => obtain ⟨σ', H', J, z⟩ := hs; exact ⟨V.non, H', J.os, J.bare, J.base, J.hok, rfl, z⟩
    | ret u => obtain ⟨v, σ', H', J, rv, z⟩ := hs; exact ⟨v, H', J.os, J.bare, J.base, J.hok, rv, z⟩
  · exact fun e s' hs => hs
end
section
variable {Z : Addr × Obj → Prop} {X : Cx} {CX : CXT} {k : Nat} {f : Addr} {fd : FuncData} {ps : List Str} {sp : Sp} {E : L2.St → XK} {x : Str} {q pos : Pos} {e : Expr} {es : List Expr} {t : TA} {p : Addr × Obj}
theorem pe_callZ (F : FnZ Z X.prog X.w X.K X.mg X.base CX k f fd ps sp) (hr : RoomH k X.A) (zp : Z p) (hot : Hot1 X.A p) (hp : p ∈ X.pn) (hg : Gl X x) (hm : X.mg x = some (.ref f)) (hk : PySem.W.keepIn X.K (.ref f) = true) (hb : Binds X.K fd ps []) (hx : ∀ σ, PassesAt CX X σ (E σ))
    (ha : PA X (e :: es) t) (hdb : (x == ("__debug__" : Str)) = false := by decide) (he : starEach (e :: es) X.env = (false, eval e X.env) :: starEach es X.env := by rfl) (hpl : (backTo pos (starEach es X.env)).any (·.1) = false := by rfl) : PE X (.Call (.Name x q) (e :: es) [] pos) (tCallS sp E t) := by
  constructor
  intro pins s σ H Q I h
  refine wpAny_Call_Name_kw (ld_glob I hg hm ?_ hdb)
  refine PySem.W.callWith_K (h₀ := X.base) I.ok.mod.kin hk (thn (ha.run pos pins s σ H _ I h) ?_) he hpl
  rintro us s1 ⟨vs, H1, I1, r, hsp⟩
  have P1 := I1.pin p (List.mem_append_left _ hp)
  have hpin : PinOk X.stack H1 s1 p := ⟨P1.1, P1.2.1, fun hm => by
    rcases List.mem_cons.mp (I1.stkSub p.1 hm) with z | z
    · exact P1.2.2.1 z
    · exact P1.2.2.2.1 z, P1.2.2.2.2⟩
  have b := hb s1 us I1.kIn (by rw [List.append_nil, ← r.length]; exact F.many _ _ _ _ hsp)
  rw [List.append_nil] at b
  refine ⟨I1.kIn, wpAny_call (codeAny_mono (F.go p zp X.A X.stack s1 H1 ⟨us, []⟩ us vs Q (E σ) hr hot hpin I1.env0 b r hsp) ?_)⟩
  intro r' s' hq
  cases r' with
  | error e => exact hx σ pins H1 s1 e s' I1 hq
  | ok fl => cases fl with
    | ret u => exact I1.after hq
    | next => exact hq.elim
    | brk => exact hq.elim
    | cont => exact hq.elim
/-- isinstance of the handled error, wherever its object is pinned -/
theorem call_isP {a D : Addr} {oe : Obj} (C : L2.ExcC X.K D) (hz : Zc (.ref D) none oe) (hf : ∃ vs, oe.data = .fields vs) (hp : (a, oe) ∈ X.pn) : CallR X (.builtin "isinstance") (rIsE X.K D a) := by
  intro pins s σ H xs us Q I r h
  obtain ⟨c, cv, b, e0, hcv, e, z⟩ := h
  subst e0
  obtain ⟨u1, u2, e1, r1, r2⟩ := vals2 r
  subst e1
  have r1' : u1 = Value.ref a := r1
  subst r1'
  have ec := hcv _ r2
  subst ec
  have hget := (I.pin (a, oe) (List.mem_append_left _ hp)).1
  obtain ⟨vs, hv⟩ := hf
  have J : PySem.W.InstAt s.heap a oe D none := by
    cases oe with
    | mk oc od oda osl =>
      obtain ⟨z1, z2⟩ := hz
      simp only at z1 z2 hv
      subst z1 z2 hv
      exact ⟨hget, rfl, rfl, trivial⟩
  have Zx := PySem.W.handS_kitx_exc (ox := oe) (x := a) C.hg C.hk C.hs C.hd C.ha C.hn C.ht C.hm
  exact PySem.W.kia_one Zx I.kIn J e (fun z => nomatch z) fun tk => ⟨.bl b, H, I.kept (t' := tk) fun _ _ z => z, rfl, z⟩
end
/-- .. asked for own classes and a built-in one -/
def dIsP (K : PySem.W.Frag) (C a : Addr) : List D → M D
  | [.fn x, .fn c] => if x = a then ofO ((PySem.W.kitOne K (.ref C) (.ref c)).map D.bl) else .und
  | [.fn x, .ty n] => if x = a then ofO ((PySem.W.kitOne K (.ref C) (.type n)).map D.bl) else .und
  | _ => .und
theorem de_isP {X : Cx} {W : Addr → Hp → Prop} {m : Bool} {C a : Addr} {oe : Obj} {b c : Expr} {fs : Ev → M (List D)} {pf pos : Pos} (F : L2.ExcC X.K C) (hz : L2N.Zn (.ref C) none oe) (hf : ∃ vs, oe.data = .fields vs) (hp : (a, oe) ∈ X.pn)
    (hg : Gl X "isinstance") (hm : X.mg "isinstance" = none) (ha : DA X W m [b, c] fs)
    (he : starEach [b, c] X.env = (false, eval b X.env) :: starEach [c] X.env := by rfl) (hpl : (backTo pos (starEach [c] X.env)).any (·.1) = false := by rfl) : DE X W m (.Call (.Name "isinstance" pf) [b, c] [] pos) (xAll (dIsP X.K C a) fs) := by
  refine pe_weak (pe_callB (call_isP F hz.zc hf hp) hg hm PyProof.Rows.boot_isinstance ha (by decide) (by decide) he hpl) fun σ H Q ⟨Ω, ρ, e, k⟩ => ⟨Ω, ρ, e, (KM.bind k).imp fun ds H1 _ s1 k1 vs rs => ?_⟩
  unfold dIsP at k1
  split at k1
  · rename_i x y _
    obtain ⟨v, u, e1, r1, r2⟩ := rs.two
    simp only [Rep] at r1 r2
    subst e1 r1 r2
    split at k1
    · rename_i ex
      subst ex
      cases q : PySem.W.kitOne X.K (.ref C) (.ref y) with
      | none => rw [q] at k1; exact k1.elim
      | some t =>
        rw [q] at k1
        exact ⟨_, _, t, rfl, fun u hu => hu, q, KM.ok k1 _ Rep.bl_mk⟩
    · exact k1.elim
  · rename_i x y _
    obtain ⟨v, u, e1, r1, r2⟩ := rs.two
    simp only [Rep] at r1 r2
    subst e1 r1 r2
    split at k1
    · rename_i ex
      subst ex
      cases q : PySem.W.kitOne X.K (.ref C) (.type y) with
      | none => rw [q] at k1; exact k1.elim
      | some t =>
        rw [q] at k1
        exact ⟨_, _, t, rfl, fun u hu => hu, q, KM.ok k1 _ Rep.bl_mk⟩
    · exact k1.elim
  · exact k1.elim
/-! ### the def that tells an error's kinds -/
def ZP (c a : Addr) (p : Addr × Obj) : Prop := p.1 = a ∧ L2N.Zn (.ref c) none p.2 ∧ ∃ vs, p.2.data = .fields vs
theorem fnZ0 {Z : Addr × Obj → Prop} {P : Program} {w : World} {K : PySem.W.Frag} {mg : Str → Option Value} {base : Heap} {k : Nat} {f : Addr} {N ps : List Str} {x qual : Str} {st : Stmt} {fd : FuncData} (fs : Ev → S) (F : Fun K x qual st f fd) (Sc : FnScope N ps (defScope st))
    (h : ∀ p : Addr × Obj, Z p → ∀ (cdv : Value) (A : Around) (outer : List PySem.Env) (s : Shared) (H : Hp) (E : XK), DSs (cxH CX0 P w K mg base N qual (defScope st) f cdv A outer s H E p).nox W0 (defBody st) fs) : FnZ Z P w K mg base CX0 (k + 1) f fd ps (spD ps.length (defF false ps.length N.length fs)) := by
  refine fnZ_of F Sc (fun vs H Q E q => ?_) (fun p zp cdv A outer s H vs Q E hot q => ?_)
  · obtain ⟨Ω, ds, _, r, e, _⟩ := q
    rw [← r.length, e]
  · obtain ⟨Ω, ds, hl, r, e, q⟩ := q
    refine ⟨_, PSs.nox (h p zp cdv A outer s H E), def_read hl r e ?_⟩
    unfold defF at q ⊢
    rw [if_pos e] at q ⊢
    split at q
    · exact q
    · exact q
    · rw [if_neg Bool.false_ne_true] at q; exact q.elim
    · exact q.elim
/-! ### a call of what a slot holds -/
section
variable {X : Cx} {CX : CXT} {k i : Nat} {f : Addr} {fd : FuncData} {ps : List Str} {sp : Sp} {E : L2.St → XK} {x : Str} {p pos : Pos} {e : Expr} {es : List Expr} {t : TA}
theorem pe_callLS (F : FnOk X.prog X.w X.K X.mg X.base CX k f fd ps sp) (hr : Room k X.A) (hN : X.N[i]? = some x) (hv : Vis X.env.scope x) (hk : PySem.W.keepIn X.K (.ref f) = true) (hb : Binds X.K fd ps []) (hx : ∀ σ, PassesAt CX X σ (E σ)) (ha : PA X (e :: es) t)
    (hdb : (x == ("__debug__" : Str)) = false := by decide) (hcd : (x == ("__classdict__" : Str)) = false := by decide)
    (he : starEach (e :: es) X.env = (false, eval e X.env) :: starEach es X.env := by rfl) (hpl : (backTo pos (starEach es X.env)).any (·.1) = false := by rfl) : PE X (.Call (.Name x p) (e :: es) [] pos) (fun σ H Q => σ[i]? = some (some (.ref f)) ∧ t σ H fun vs H1 => sp vs H1 Q (E σ)) := by
  constructor
  intro pins s σ H Q I h
  obtain ⟨hs, ht⟩ := h
  have rd := (pe_var (pos := p) hN hv hdb hcd).run pins s σ H (fun v H1 => v = .ref f ∧ H1 = H) I ⟨.ref f, hs, rfl, rfl⟩
  refine wpAny_Call_Name_kw (thn rd ?_)
  rintro u s1 ⟨v, H1, I1, r1, q1, q2⟩
  subst q1 q2
  have r1' : u = Value.ref f := r1
  subst r1'
  refine PySem.W.callWith_K (h₀ := X.base) I.ok.mod.kin hk (thn (ha.run pos pins s1 σ _ _ I1 ht) ?_) he hpl
  rintro us s2 ⟨vs, H2, I2, r, q⟩
  exact ⟨I2.kIn, run_fnS F hr hb (hx σ) I2 r q⟩
end
/-! ### try: ask(one, other) except M as error: return .. -/
def refF (T : Addr → Option Fn) (R : Addr → Option D) : Fn := fun ds => match ds with
  | [.fn f, x, y] => (match T f with
    | some G => (match G [x, y] with
      | .ex c => ofO (R c)
      | _ => .und)
    | none => .und)
  | _ => .und
/-- the suite's wish: the error's class in the table -/
def tsK (R : Addr → Option D) (fsu : Addr → Addr → Ev → S) : Addr → Value → Option Addr → TS := fun a cls d N σ H => ∃ (c : Addr) (r : D), (cls = .ref c ∧ d = none ∧ R c = some r) ∧ tS W0 (fsu c a) N σ H
def tAsk (T : Addr → Option Fn) (W : WX) : TE := fun σ H Q => ∃ (f : Addr) (G : Fn), T f = some G ∧ σ[0]? = some (some (.ref f)) ∧ tDA W0 false (xCons (xVar 1) (xCons (xVar 2) xNil)) σ H fun vs H1 => spD 2 G vs H1 Q (WE W σ)
theorem pe_ask {X : Cx} {W : WX} {T : Addr → Option Fn} {k : Nat} {x : Str} {p pos : Pos} {e1 e2 : Expr} (hT : ∀ f G, T f = some G → ∃ j fd ps, j ≤ k ∧ FnOk X.prog X.w X.K X.mg X.base (L2N.CX X.prog X.w) j f fd ps (spD 2 G) ∧ PySem.W.keepIn X.K (.ref f) = true ∧ Binds X.K fd ps [])
    (hr : Room k X.A) (hN : X.N[0]? = some x) (hv : Vis X.env.scope x) (tk : L2N.Takes X W) (ha : DA X W0 false [e1, e2] (xCons (xVar 1) (xCons (xVar 2) xNil)))
    (hdb : (x == ("__debug__" : Str)) = false := by decide) (hcd : (x == ("__classdict__" : Str)) = false := by decide)
    (he : starEach [e1, e2] X.env = (false, eval e1 X.env) :: starEach [e2] X.env := by rfl) (hpl : (backTo pos (starEach [e2] X.env)).any (·.1) = false := by rfl) : PE X (.Call (.Name x p) [e1, e2] [] pos) (tAsk T W) := by
  constructor
  intro pins s σ H Q I h
  obtain ⟨f, G, hG, h0, h1⟩ := h
  obtain ⟨j, fd, ps, hj, F, hk, hb⟩ := hT f G hG
  exact (pe_callLS (i := 0) (E := WE W) F (hr.mono hj) hN hv hk hb (fun σ => L2N.passAt tk σ) ha hdb hcd he hpl).run pins s σ H Q I ⟨h0, h1⟩
theorem pss_ex {X : Cx} {b : List Stmt} {R : Addr → Option D} {fsu : Addr → Addr → Ev → S} {a : Addr} {cls : Value} {d : Option Addr} (h : ∀ c r, cls = .ref c → d = none → R c = some r → DSs X W0 b (fsu c a)) : PSs X b (tsK R fsu a cls d) :=
  ⟨fun pins s σ H N I ⟨c, r, ⟨e1, e2, e3⟩, q⟩ => (h c r e1 e2 e3).run pins s σ H N I q⟩
theorem fnRef {P : Program} {w : World} {K : PySem.W.Frag} {mg : Str → Option Value} {base : Heap} {x qual : Str} {st : Stmt} {f : Addr} {fd : FuncData} {N ps : List Str} {k : Nat} {T : Addr → Option Fn} {R : Addr → Option D} {Mt : Addr} {fsu : Addr → Addr → Ev → S} {u : TS}
    (F : Fun K x qual st f fd) (Sc : FnScope N ps (defScope st)) (hps : ps.length = 3) (hNl : N.length = 4) (hx : ∀ c r, R c = some r → PySem.W.exmOne K (.ref c) (.ref Mt) = some true)
    (hval : ∀ c r a ρ, R c = some r → ρ[3]? = some (some (Sl.v (.fn a))) → fsu c a ρ = .rt r)
    (h : ∀ (cdv : Value) (A : Around) (outer : List PySem.Env) (s : Shared) (H : Hp) (E : XK), Room k (A.deeper (envOfC qual (defScope st) s.heap.objs.size f cdv)) → PSs (cxOf CX0 P w K mg base N qual (defScope st) f cdv A outer s H E).nox (defBody st)
      (tSeq (fun M σ H => tDrop (tAsk T (wAs K (.ref Mt) 3 (tsK R fsu) (fun _ _ _ _ => False) M)) M σ H) u)) :
    FnOk P w K mg base CX0 (k + 1) f fd ps (spD 3 (refF T R)) := by
  refine F.ok Sc (fun vs H Q E q => ?_) (fun cdv A outer s H vs Q E hr q => ?_)
  · obtain ⟨Ω, ds, _, r, e, _⟩ := q
    rw [← r.length, e, hps]
  · obtain ⟨Ω, ds, hl, r, e, q⟩ := q
    refine ⟨_, h cdv A outer s H E hr, ?_⟩
    have ei := ei_start (N := N) hl r
    unfold refF at q
    split at q
    · rename_i g y z
      split at q
      · rename_i G hG
        cases q2 : G [y, z] with
        | und => rw [q2] at q; exact q.elim
        | ok d => rw [q2] at q; exact q.elim
        | ex c =>
          rw [q2] at q
          dsimp only at q
          cases q3 : R c with
          | none => rw [q3] at q; exact q.elim
          | some res =>
            rw [q3] at q
            rw [hNl] at ei
            have e0 : (List.map (fun d => some (Sl.v d)) [D.fn g, y, z] ++ List.replicate (4 - [D.fn g, y, z].length) none : Ev) = [some (.v (.fn g)), some (.v y), some (.v z), none] := rfl
            rw [e0] at ei
            obtain ⟨v0, g1, g2⟩ := ei.sl 0 (.v (.fn g)) rfl
            have g2' : v0 = V.ref g := by simpa only [SlOk, Rep] using g2
            subst g2'
            refine ⟨g, G, hG, g1, Ω, _, ei, ?_⟩
            refine fun H1 s1 vs1 r1 => ⟨Ω, [y, z], fun a za => ?_, Reps.le (.sub fun a z => ⟨rfl, z⟩) _ _ r1, rfl, ?_⟩
            · obtain ⟨ws, gg⟩ := hl a za
              exact ⟨ws, s1 _ _ gg⟩
            · rw [q2]
              refine fun H2 s2 => ⟨true, hx c res q3, fun _ a na => ⟨c, res, ⟨rfl, rfl, q3⟩, ?_⟩, fun z => nomatch z⟩
              refine ⟨H, Ω, [], [some (.v (.fn g)), some (.v y), some (.v z), some (.v (.fn a))], ⟨Ω, ?_⟩, ?_⟩
              · refine SIO.set (i := 3) (ρ := [some (.v (.fn g)), some (.v y), some (.v z), none]) (d := .fn a) ⟨ei.same (s1.trans s2), s1.trans s2, fun a za => ⟨za, fun e => ?_⟩, fun a z => .inl z, fun j x vv p h1 h2 h3 => ?_, fun g hg => absurd hg (by simp)⟩ (by simp only [Rep])
                · obtain ⟨ws, gg⟩ := hl a za
                  rw [e] at gg; cases gg
                · exfalso
                  match j with
                  | 0 => cases h1; exact h3
                  | 1 => cases h1; exact h3
                  | 2 => cases h1; exact h3
                  | 3 => cases h1
                  | j + 4 => simp at h1
              · rw [hval c res a _ q3 rfl]
                exact fun v H' sm rv => q H' sm v rv
      · exact q.elim
    · exact q.elim
theorem hot1_suite {X : Cx} {a : Addr} {oe : Obj} {pn : List (Addr × Obj)} {cls : Value} {d : Option Addr} (hz : L2N.Zn cls d oe) (hf : ∃ vs, oe.data = .fields vs) : Hot1 (X.suite a ((a, oe) :: pn)).A (a, oe) := by
  obtain ⟨vs, hv⟩ := hf
  exact ⟨rfl, vs, hv, hz.2.2 vs hv⟩
theorem roomH_suite {X : Cx} {k : Nat} (h : Room k X.A) (a : Addr) (pn : List (Addr × Obj)) : RoomH k (X.suite a pn).A := ⟨h.dp, h.un⟩
/-- the kinds' def called in a suite -/
theorem de_calZ {Z : Addr × Obj → Prop} {X : Cx} {W : Addr → Hp → Prop} {m : Bool} {a : Expr} {es : List Expr} {fs : Ev → M (List D)} {pf pos : Pos} {k n : Nat} {x : Str} {f : Addr} {fd : FuncData} {ps : List Str} {G : Fn} {p : Addr × Obj}
    (F : FnZ Z X.prog X.w X.K X.mg X.base CX0 k f fd ps (spD n G)) (hr : RoomH k X.A) (zp : Z p) (hot : Hot1 X.A p) (hp : p ∈ X.pn) (hg : Gl X x) (hm : X.mg x = some (.ref f)) (hk : PySem.W.keepIn X.K (.ref f) = true) (hb : Binds X.K fd ps []) (hn : n = (a :: es).length)
    (ha : DA X W m (a :: es) fs) (hdb : (x == ("__debug__" : Str)) = false := by decide) (he : starEach (a :: es) X.env = (false, eval a X.env) :: starEach es X.env := by rfl) (hpl : (backTo pos (starEach es X.env)).any (·.1) = false := by rfl) :
    DE X W m (.Call (.Name x pf) (a :: es) [] pos) (xAll (callF n G) fs) := by
  refine pe_weak (pe_callZ (E := fun _ => EW W) F hr zp hot hp hg hm hk hb (fun σ pins H s e s' I c => c.elim) ha hdb he hpl) fun σ H Q ⟨Ω, ρ, e, k⟩ => ⟨Ω, ρ, e, (KM.bind k).imp fun xs H1 _ s1 k1 vs rs => ?_⟩
  unfold callF at k1
  split at k1
  · rename_i hl
    exact ⟨mo m Ω, xs, (e.same s1).hlm m, rs, hl, k1.wish fun c H' w => ⟨c, rfl, rfl, w⟩⟩
  · exact k1.elim
theorem cal_at {P : Program} {w : World} {K : PySem.W.Frag} {mg : Str → Option Value} {base : Heap} {CX : CXT} {k n j : Nat} {x : Str} {F : Fn} {a : Addr} (c : Cal P w K mg base CX j x n F) (h : mg x = some (.ref a)) (hj : j ≤ k) :
    ∃ j fd ps, j ≤ k ∧ FnOk P w K mg base CX j a fd ps (spD n F) ∧ PySem.W.keepIn K (.ref a) = true ∧ Binds K fd ps [] := by
  obtain ⟨fa, fd, ps, h1, h2, h3, h4⟩ := c.ex
  have e := h2.symm.trans h
  cases e
  exact ⟨j, fd, ps, hj, h1, h3, h4⟩
end DI
set_option maxRecDepth 100000
/-! DI10: a + b as a new list; {}; x, y = e, a new list. -/
theorem PySem.boot_ValueErr : PySem.bootBuiltins "ValueError" = some (.type "ValueError") := by decide +kernel
namespace DI
open PySem PySem.Spec PyProof.Rows L2
def dCat : D → D → M (List D)
  | .lst xs, .lst ys => if xs.length + ys.length ≤ sizeLine then .ok (xs ++ ys) else .und
  | _, _ => .und
section
variable {X : Cx} {W : Addr → Hp → Prop} {m : Bool} {a b : Expr} {f g : Ev → M D} {pos : Pos}
theorem df_add (ha : DE X W m a f) (hb : DE X W m b g) : DF X W m (.BinOp a .Add b pos) (fun ρ => (f ρ).bind fun x => (g ρ).bind fun y => dCat x y) := by
  refine pe_weak (pe_op op_cat ha hb) fun σ H Q ⟨Ω, ρ, e, k⟩ => ⟨Ω, ρ, e, (KM.bind k).imp fun x H1 _ s1 k1 v rv => ⟨Ω, ρ, e.same s1, (KM.bind k1).imp fun y H2 _ s2 k2 u ru => ?_⟩⟩
  have rv2 := Rep.le (.same s2 fun _ z => z) x v rv
  unfold dCat at k2
  split at k2
  · split at k2
    · rename_i hz
      obtain ⟨p, vs, e1, n1, q1, r1⟩ := rv2.lst_inv
      obtain ⟨p2, us, e2, n2, q2, r2⟩ := ru.lst_inv
      refine ⟨p, p2, vs, us, e1, e2, q1, q2, by rw [← r1.length, ← r2.length]; exact hz, fun l hp => ?_⟩
      exact k2 _ (same_upd hp) l _ ((s1.trans s2).free hp) upd_same (Reps.le (.fresh (same_upd hp) hp) _ _ (r1.append r2))
    · exact k2.elim
  · exact k2.elim
theorem de_dic : DE X W m (.Dict [] [] pos) (xC .dic) := by
  refine pe_weak pe_dnewK fun σ H Q ⟨Ω, ρ, e, k⟩ => fun d hd => ?_
  refine KM.mono k (same_upd hd) _ (Same.refl _) (.ref d) ?_
  simp only [Rep]
  exact ⟨d, rfl, upd_same⟩
end
def sAsg2O (i j : Nat) (f : Ev → M D) (fl : Ev → M (List D)) : Ev → S := fun ρ => S.ofM (f ρ) fun x => S.ofM (fl ρ) fun ds => .nx ((ρ.set i (some (.v x))).set j (some (.o ds)))
theorem ds_asg2O {X : Cx} {W : Addr → Hp → Prop} {i j : Nat} {st : Stmt} {f : Ev → M D} {fl : Ev → M (List D)} (h : PS X st (tAsg (tTup (tCons (tD W false f) (tCons (tDF W false fl) tNil))) (gTup X.K 2 (gCons (gName i) (gCons (gName j) gNil))))) : DS X W st (sAsg2O i j f fl) := by
  refine ps_weak h fun N σ H ⟨H0, Ω0, Γ, ρ, ⟨Ω, s⟩, k⟩ => ⟨Ω, ρ, s.1, (KS.bind s.2.1 k).imp fun x H1 _ s1 k1 v rv => ⟨Ω, ρ, s.1.same s1, (KS.bind (s.2.1.trans s1) k1).imp fun ds H2 _ s2 k2 p vs hp hp' rs => ?_⟩⟩
  refine ⟨by show 2 ≤ sizeLine; decide, fun T hT => ⟨T, _, rfl, .inl (.inl upd_same), rfl, v, _, rfl, .ref p, _, rfl, rfl, ?_⟩⟩
  have s3 := same_upd (o := .tup [v, .ref p]) hT
  have b1 := (s.same s1).set (Rep.le (.same (Same.refl _) fun _ z => ⟨rfl, z⟩) _ _ rv) i
  refine k2 _ _ ⟨_, b1.own (s2.trans s3) hp (s3 _ _ hp') (Reps.le (.same s3 fun a z => ?_) _ _ rs) j⟩
  rcases z with z | z
  · exact .inl z
  · exact .inr ⟨rfl, z⟩
/-! ### the script, not cut -/
open Classical in
noncomputable def dLenS (K : PySem.W.Frag) : D → M D
  | .scr K' ds => if K' = K then .ok (.int ds.length) else .und
  | _ => .und
open Classical in
noncomputable def dIxS (K : PySem.W.Frag) : D → D → M D
  | .scr K' ds, .int i => if K' = K then ofO (atI ds i) else .und
  | _, _ => .und
section
variable {X : Cx} {W : Addr → Hp → Prop} {m : Bool} {a b : Expr} {f g : Ev → M D} {K : PySem.W.Frag} {p pos : Pos}
theorem de_lenS (hK : K = X.K) (hg : Gl X "len") (hm : X.mg "len" = none) (ha : DE X W m a f)
    (na : starEach [a] X.env = (false, eval a X.env) :: starEach [] X.env := by rfl) (hpl : (backTo pos (starEach [] X.env)).any (·.1) = false := by rfl) : DE X W m (.Call (.Name "len" p) [a] [] pos) (x1 (dLenS K) f) := by
  have h2 := pe_callB call_len_seq (p := p) (pos := pos) hg hm PySem.boot_len (pa_cons ha pa_nil na) (by decide) (by decide) na hpl
  refine pe_weak h2 fun σ H Q ⟨Ω, ρ, ei, k⟩ => ⟨Ω, ρ, ei, (KM.bind k).imp fun d H1 _ s1 k1 v r => ?_⟩
  cases d with
  | scr K' ds =>
    simp only [Rep] at r
    obtain ⟨q, vs, e1, hs, rs⟩ := r
    unfold dLenS at k1
    dsimp only at k1
    split at k1
    · rename_i hk
      refine ⟨q, vs, by rw [e1], .inl (by rw [← hK, ← hk]; exact hs.seq), ?_⟩
      rw [← rs.length]
      exact KM.ok k1 _ Rep.int_mk
    · exact k1.elim
  | _ => exact k1.elim
theorem de_ixS (hK : K = X.K) (ha : DE X W m a f) (hb : DE X W m b g) (hs : PlainIx b := by exact fun _ _ => rfl) : DE X W m (.Subscript a b pos) (x2 (dIxS K) f g) := by
  refine pe_weak (pe_ix ix_list ha hb hs) fun _ _ _ h => lift2 (fun W Ω H x y v u Q hl rx ry k => ?_) h
  unfold dIxS at k
  split at k
  · rename_i K' ds i
    simp only [Rep] at rx
    obtain ⟨q, vs, e1, hq, rs⟩ := rx
    split at k
    · rename_i hk
      cases e : atI ds i with
      | none => rw [e] at k; exact k.elim
      | some d =>
        rw [e] at k
        unfold atI at e
        cases qi : ixN ds.length i with
        | none => rw [qi] at e; cases e
        | some j =>
          rw [qi] at e
          obtain ⟨z, h1, h2⟩ := rs.get (i := j) (d := d) e
          refine ⟨q, vs, _, z, e1, ry.int_inv, by rw [← hK, ← hk]; exact hq.seq, ?_, KM.ok k z h2⟩
          unfold atI
          rw [← rs.length, qi]
          exact h1
    · exact k.elim
  · exact k.elim
end
end DI
set_option maxRecDepth 100000
/-! DI11: own classes: instances made, their fields, methods, isinstance; a new instance with a list of its own. -/
namespace DI
open PySem PySem.Spec PyProof.Rows L2
theorem e_bind_ok' {α β : Type} (x : α) (k : α → M β) : (M.ok x).bind k = k x := rfl
/-! ### what a def may give: a value, or a new instance with a new list -/
inductive Fr where
  | d (x : D) | i (C : Addr) (n : Str) (ds : List D)
def Fr.toD : Fr → D
  | .d x => x
  | .i C n ds => .ins C [n] [.lst ds]
def Fr.sl : Fr → Sl
  | .d x => .v x
  | .i C n ds => .oi C n ds
def FrK (Ω : Addr → Prop) (H : Hp) (Q : VK) : Fr → Hp → Prop := fun r H' => match r with
  | .d x => ∀ v, Rep Ω H' x v → Q v H'
  | .i C n ds => ∀ a, NewI Ω H H' C n ds a → Q (.ref a) H'
def tDO (W : Addr → Hp → Prop) (f : Ev → M Fr) : TE := fun σ H Q => ∃ Ω ρ, EI Ω ρ σ H ∧ KM W (f ρ) H (FrK (mo false Ω) H Q)
abbrev DO (X : Cx) (W : Addr → Hp → Prop) (e : Expr) (f : Ev → M Fr) : Prop := PE X e (tDO W f)
def oD (f : Ev → M D) : Ev → M Fr := fun ρ => (f ρ).bind fun d => .ok (.d d)
def oToD (f : Ev → M Fr) : Ev → M D := fun ρ => (f ρ).bind fun r => .ok r.toD
theorem NewI.rep {Ω : Addr → Prop} {H H' : Hp} {C : Addr} {n : Str} {ds : List D} {a : Addr} (hl : ∀ a, Ω a → ∃ vs, H a = some (.lst vs)) (h : NewI Ω H H' C n ds a) : Rep Ω H' (.ins C [n] [.lst ds]) (.ref a) := by
  obtain ⟨dx, p, vs, hp, qa, qp, rs⟩ := h
  simp only [Rep]
  exact ⟨a, dx, [.ref p], rfl, qa, rfl, Reps.cons (Rep.lst_mk (no_fresh hl hp) qp (Reps.le (.sub fun _ z => .inr z) _ _ rs)) Reps.nil⟩
section
variable {X : Cx} {W : Addr → Hp → Prop} {m : Bool} {a b c : Expr} {f : Ev → M D} {g h : Ev → M Fr} {p : Ev → M Bool} {pos : Pos}
theorem do_de (ha : DE X W false a f) : DO X W a (oD f) := pe_weak ha fun σ H Q ⟨Ω, ρ, e, k⟩ => ⟨Ω, ρ, e, (KM.bind k).imp fun x H1 _ s1 k1 v r => KM.ok k1 v r⟩
theorem de_do (ha : DO X W a g) : DE X W m a (oToD g) := pe_weak ha fun σ H Q ⟨Ω, ρ, e, k⟩ => ⟨Ω, ρ, e, (KM.bind k).imp fun r H1 _ s1 k1 => by
  have up : HLe (mo false Ω) H1 (mo m Ω) H1 := .sub fun a z => ⟨rfl, z.2⟩
  cases r with
  | d x => exact fun v rv => KM.ok k1 v (Rep.le up _ _ rv)
  | i C n ds => exact fun a na => KM.ok k1 _ (Rep.le up _ _ (na.rep (e.hlm false)))⟩
def oIf (c : Ev → M Bool) (f g : Ev → M Fr) : Ev → M Fr := fun ρ => (c ρ).bind fun b => if b = true then f ρ else g ρ
theorem FrK.later {Ω : Addr → Prop} {H H1 : Hp} {Q : VK} (s : Same H H1) {r : Fr} {H' : Hp} (k : FrK Ω H Q r H') : FrK Ω H1 Q r H' := by
  cases r with
  | d x => exact k
  | i C n ds => exact fun a ⟨dx, p, vs, hp, z⟩ => k a ⟨dx, p, vs, s.free hp, z⟩
theorem do_if (hc : DT X W c p) (ha : DO X W a g) (hb : DO X W b h) : DO X W (.IfExp c a b pos) (oIf p g h) := by
  refine pe_weak (pe_ifExp hc ha hb) fun σ H Q ⟨Ω, ρ, e, k⟩ => ⟨Ω, ρ, e, (KM.bind k).imp fun x H1 _ s1 k1 => ?_⟩
  cases x with
  | true => rw [if_pos rfl] at k1 ⊢; exact ⟨Ω, ρ, e.same s1, k1.imp fun r H' _ _ q => q.later s1⟩
  | false => rw [if_neg Bool.false_ne_true] at k1 ⊢; exact ⟨Ω, ρ, e.same s1, k1.imp fun r H' _ _ q => q.later s1⟩
end
/-! ### statements -/
def sOwnI (i : Nat) (f : Ev → M Fr) : Ev → S := fun ρ => S.ofM (f ρ) fun r => .nx (ρ.set i (some r.sl))
def sRetO (f : Ev → M Fr) : Ev → S := fun ρ => S.ofM (f ρ) fun r => match r with
  | .d x => .rt x
  | .i C n ds => .ri C n ds
section
variable {X : Cx} {W : Addr → Hp → Prop} {st : Stmt} {e : Expr} {f : Ev → M Fr} {pos : Pos}
theorem ds_ownI {i : Nat} (h : PS X st (tAsg (tDO W f) (gName i))) : DS X W st (sOwnI i f) := by
  refine ps_weak h fun N σ H ⟨H0, Ω0, Γ, ρ, ⟨Ω, s⟩, k⟩ => ⟨Ω, ρ, s.1, (KS.bind s.2.1 k).imp fun r H1 _ s1 k1 => ?_⟩
  cases r with
  | d x => exact fun v rv => k1 _ _ ⟨Ω, (s.same s1).set (Rep.le (.sub fun _ z => ⟨rfl, z⟩) _ _ rv) i⟩
  | i C n ds =>
    intro a ⟨dx, p, vs, hp, qa, qp, rs⟩
    refine k1 _ _ ⟨ad p Ω, s.ownG (x := .oi C n ds) (v := .ref a) s1 hp qp ⟨p, vs, a, dx, rfl, qa, .inl rfl, qp, Reps.le (.sub fun a z => ?_) _ _ rs⟩ ⟨a, dx, rfl, qa⟩ i⟩
    rcases z with z | z
    · exact .inl z
    · exact .inr ⟨rfl, z⟩
theorem ds_retO (he : DO X W e f) : DS X W (.Return (some e) pos) (sRetO f) :=
  ps_weak (ps_ret he) fun N σ H ⟨H0, Ω0, Γ, ρ, ⟨Ω, s⟩, k⟩ => ⟨Ω, ρ, s.1, (KS.bind s.2.1 k).imp fun r H1 _ s1 k1 => by
    cases r with
    | d x => exact fun v rv => k1 v _ (s.2.1.trans s1) (Rep.le (.sub fun a z => ⟨rfl, (s.2.2.1 a z).1⟩) _ _ rv)
    | i C n ds =>
      intro a ⟨dx, p, vs, hp, qa, qp, rs⟩
      refine k1 a _ (s.2.1.trans s1) ⟨dx, p, vs, s.2.1.free hp, qa, qp, Reps.le (.sub fun a z => ?_) _ _ rs⟩
      rcases z with z | z
      · exact .inl z
      · exact .inr ⟨rfl, (s.2.2.1 a z).1⟩⟩
/-- o.f.append(e), o in slot i with its list -/
def oAtI (i : Nat) (nm : Str) (cs : List Addr) (ρ : Ev) (k : Addr → List D → S) : S := match ρ[i]? with
  | some (some (.oi C n ds)) => if n = nm ∧ C ∈ cs then k C ds else .und
  | _ => .und
def sAppF (i : Nat) (nm : Str) (cs : List Addr) (f : Ev → M D) : Ev → S := fun ρ => oAtI i nm cs ρ fun C ds => S.ofM (f ρ) fun d => S.ofM (gApp d ds) fun es => .nx (ρ.set i (some (.oi C nm es)))
def ClsF (K : PySem.W.Frag) (cs : List Addr) (f : Str) : Prop := ∀ C ∈ cs, Cls K C ∧ NoAttr K C f
theorem ds_appendF {i : Nat} {x nm : Str} {px fpos apos cpos : Pos} {cs : List Addr} {f : Ev → M D} (hx : PE X (.Name x px) (tVar i)) (hC : ClsF X.K cs nm) (he : DE X W false e f)
    (hb1 : attributeBase (.Name x px) nm X.env (eval (.Name x px) X.env) = eval (.Name x px) X.env := by rfl)
    (hbase : attributeBase (.Attribute (.Name x px) nm fpos) "append" X.env (eval (.Attribute (.Name x px) nm fpos) X.env) = eval (.Attribute (.Name x px) nm fpos) X.env := by rfl)
    (hfew : ((backTo cpos (starEach [e] X.env)).all (fun x => !x.1) && (backToKw cpos (keywordEach [] X.env)).all (fun x => x.1.isSome) && decide ([e].length + ([] : List Keyword).length + (if ([] : List Keyword).isEmpty then 0 else 1) < 30)) = true := by rfl)
    (hline : (apos.endLine == cpos.line) = true := by rfl) (hs : starEach [e] X.env = (false, eval e X.env) :: starEach [] X.env := by rfl) (hplain : (backTo cpos (starEach [] X.env)).any (·.1) = false := by rfl)
    (hsw : swapsWith (.Call (.Attribute (.Attribute (.Name x px) nm fpos) "append" apos) [e] [] cpos) none pos.line X.env = pure false := by rfl) : DS X W (.Expr (.Call (.Attribute (.Attribute (.Name x px) nm fpos) "append" apos) [e] [] cpos) pos) (sAppF i nm cs f) := by
  refine ps_weak (ps_expr (pe_bm PySem.F.plainAttrs_list PySem.F.slot_list_append PySem.F.type_list_append mt_append (pe_fld hx hb1) (pa_cons he pa_nil hs) hbase hfew hline hs hplain) hsw) fun N σ H ⟨H0, Ω0, Γ, ρ, ⟨Ω, s⟩, k⟩ => ?_
  unfold sAppF oAtI at k
  split at k
  · rename_i C n ds hi
    split at k
    · rename_i hn
      obtain ⟨rfl, hc⟩ := hn
      obtain ⟨v, g1, p, vs, a, dx, e1, qa, hΩ, hv, rs⟩ := s.1.sl i _ hi
      subst e1
      refine ⟨_, g1, a, C, dx, _, .ref p, rfl, qa, (hC C hc).1, (hC C hc).2, by simp [List.lookup], tyV_lst hv, Ω, ρ, s.1, (KS.bind s.2.1 k).imp fun d H1 _ s1 k1 v r => ?_⟩
      unfold gApp at k1
      split at k1
      · rename_i hz
        refine ⟨p, vs, v, rfl, rfl, s1 _ _ hv, by rw [← rs.length]; exact hz, k1 _ _ ⟨Ω, (s.same s1).writeG hi g1 (show OwnA H1 (.oi C n ds) (.ref a) p from ⟨a, dx, rfl, s1 _ _ qa⟩) hΩ (s1 _ _ hv) ?_⟩⟩
        exact (Reps.le (.same s1 fun _ z => z) _ _ rs).append (Reps.cons (Rep.le (.sub fun _ z => ⟨rfl, z⟩) _ _ r) Reps.nil)
      · exact k1.elim
    · exact k.elim
  · exact k.elim
end
/-! ### defs that give such -/
abbrev FnO := List D → M Fr
def spO (n : Nat) (f : FnO) : Sp := fun vs H Q E => ∃ Ω ds, (∀ a, Ω a → ∃ ys, H a = some (.lst ys)) ∧ Reps Ω H ds vs ∧ ds.length = n ∧
  KM (fun c H' => E (.ref c) none H') (f ds) H (FrK Ω H Q)
def defO (rx : Bool) (n N : Nat) (fs : Ev → S) : FnO := fun ds => if ds.length = n then (match fs (ds.map (fun d => some (Sl.v d)) ++ List.replicate (N - n) none) with
  | .nx _ => .ok (.d .non)
  | .rt d => .ok (.d d)
  | .ri C n es => .ok (.i C n es)
  | .ex c => if rx = true then .ex c else .und
  | _ => .und) else .und
theorem defO_read {Ω : Addr → Prop} {H : Hp} {ds : List D} {vs : List V} {N : List Str} {n : Nat} {W : Addr → Hp → Prop} {fs : Ev → S} {Q : VK} (hl : ∀ a, Ω a → ∃ vs, H a = some (.lst vs)) (r : Reps Ω H ds vs) (hn : ds.length = n)
    (k : KM W (defO true n N.length fs ds) H (FrK Ω H Q)) : tS W fs { nx := fun _ H' => Q .non H', rt := Q } (L2.start N vs) H := by
  unfold defO at k
  rw [if_pos hn, ← hn] at k
  refine ⟨H, Ω, [], _, ⟨Ω, ei_start (N := N) hl r, Same.refl _, fun a z => ⟨z, fun e => ?_⟩, fun a z => .inl z, fun i x v p h1 h2 h3 => ?_, fun g hg => absurd hg (by simp)⟩, ?_⟩
  · obtain ⟨ws, q⟩ := hl a z
    rw [e] at q; cases q
  · exfalso
    by_cases hi : i < ds.length
    · rw [List.getElem?_append_left (by rw [List.length_map]; exact hi), List.getElem?_map] at h1
      cases e : ds[i]? with
      | none => rw [e] at h1; cases h1
      | some d => rw [e] at h1; cases h1; exact h3
    · rw [List.getElem?_append_right (by rw [List.length_map]; omega), List.getElem?_replicate] at h1
      split at h1 <;> cases h1
  · cases q : fs (ds.map (fun d => some (Sl.v d)) ++ List.replicate (N.length - ds.length) none) with
    | und => rw [q] at k; exact k
    | ex c => rw [q] at k; exact k
    | nx ρ =>
      rw [q] at k
      intro σ' H' s
      obtain ⟨_, s⟩ := s
      exact k H' s.2.1 .non (by simp only [Rep])
    | rt d => rw [q] at k; exact fun v H' sm r => k H' sm v r
    | ri C n es => rw [q] at k; exact fun a H' sm r => k H' sm a r
    | bk ρ => rw [q] at k; exact k.elim
    | ct ρ => rw [q] at k; exact k.elim
section
variable {P : Program} {w : World} {K : PySem.W.Frag} {mg : Str → Option Value} {base : Heap} {x qual : Str} {st : Stmt} {f : Addr} {fd : FuncData} {N ps : List Str} {k : Nat}
theorem fnOX (fs : Ev → S) (F : Fun K x qual st f fd) (S : FnScope N ps (defScope st))
    (h : ∀ (cdv : Value) (A : Around) (outer : List PySem.Env) (s : Shared) (H : Hp) (E : XK), Room k (A.deeper (envOfC qual (defScope st) s.heap.objs.size f cdv)) → DSs (cxOf (L2.CX P w) P w K mg base N qual (defScope st) f cdv A outer s H E) (fun c H' => E (.ref c) none H') (defBody st) fs) :
    FnOk P w K mg base (L2.CX P w) (k + 1) f fd ps (spO ps.length (defO true ps.length N.length fs)) := by
  refine F.okX S (fun vs H Q E q => ?_) (fun cdv A outer s H vs Q E hr q => ?_)
  · obtain ⟨Ω, ds, _, r, e, _⟩ := q
    rw [← r.length, e]
  · obtain ⟨Ω, ds, hl, r, e, q⟩ := q
    exact ⟨_, h cdv A outer s H E hr, defO_read hl r e q⟩
end
/-- a def of the module that may give a new instance -/
structure CalO (P : Program) (w : World) (K : PySem.W.Frag) (mg : Str → Option Value) (base : Heap) (CX : CXT) (k : Nat) (x : Str) (n : Nat) (F : FnO) : Prop where
  ex : ∃ fa fd ps, FnOk P w K mg base CX k fa fd ps (spO n F) ∧ mg x = some (.ref fa) ∧ PySem.W.keepIn K (.ref fa) = true ∧ Binds K fd ps []
theorem calO_mk {P : Program} {w : World} {K : PySem.W.Frag} {mg : Str → Option Value} {base : Heap} {CX : CXT} {k n : Nat} {x qual : Str} {st : Stmt} {f : Addr} {fd : FuncData} {ps : List Str} {F : FnO} (T : Fun K x qual st f fd) (g : mg x = some (.ref f)) (b : Binds K fd ps [])
    (G : FnOk P w K mg base CX k f fd ps (spO n F)) : CalO P w K mg base CX k x n F := ⟨f, fd, ps, G, g, T.kp, b⟩
def callO (n : Nat) (F : FnO) : List D → M Fr := fun ds => if ds.length = n then F ds else .und
theorem do_cal {X : Cx} {W : Addr → Hp → Prop} {a : Expr} {es : List Expr} {fs : Ev → M (List D)} {pf pos : Pos} {CX : CXT} {k n : Nat} {x : Str} {F : FnO} (G : CalO X.prog X.w X.K X.mg X.base CX k x n F) (hr : Room k X.A) (hg : Gl X x) (hn : n = (a :: es).length) (hx : Passes CX X (EW W))
    (ha : DA X W false (a :: es) fs) (hdb : (x == ("__debug__" : Str)) = false := by decide) (he : starEach (a :: es) X.env = (false, eval a X.env) :: starEach es X.env := by rfl) (hpl : (backTo pos (starEach es X.env)).any (·.1) = false := by rfl) :
    DO X W (.Call (.Name x pf) (a :: es) [] pos) (xAll (callO n F) fs) := by
  obtain ⟨fa, fd, ps, h1, h2, h3, h4⟩ := G.ex
  refine pe_weak (pe_call h1 hr hg h2 h3 h4 .nil hx ha hdb he hpl) fun σ H Q ⟨Ω, ρ, e, k⟩ => ⟨Ω, ρ, e, (KM.bind k).imp fun xs H1 _ s1 k1 vs rs => ?_⟩
  unfold callO at k1
  split at k1
  · rename_i hl
    rw [List.append_nil]
    exact ⟨mo false Ω, xs, (e.same s1).hlm false, rs, hl, (k1.wish fun c H' w => ⟨c, rfl, rfl, w⟩).imp fun r H' _ _ q => q.later s1⟩
  · exact k1.elim
/-- .. in the other mode: owned lists within the arguments, the answer flat -/
theorem de_calO {X : Cx} {W : Addr → Hp → Prop} {m : Bool} {a : Expr} {es : List Expr} {fs : Ev → M (List D)} {pf pos : Pos} {CX : CXT} {k n : Nat} {x : Str} {F : FnO} (G : CalO X.prog X.w X.K X.mg X.base CX k x n F) (hr : Room k X.A) (hg : Gl X x) (hn : n = (a :: es).length) (hx : Passes CX X (EW W))
    (ha : DA X W m (a :: es) fs) (hdb : (x == ("__debug__" : Str)) = false := by decide) (he : starEach (a :: es) X.env = (false, eval a X.env) :: starEach es X.env := by rfl) (hpl : (backTo pos (starEach es X.env)).any (·.1) = false := by rfl) :
    DE X W m (.Call (.Name x pf) (a :: es) [] pos) (fun ρ => (fs ρ).bind fun ds => (callO n F ds).bind fun r => .ok r.toD) := by
  obtain ⟨fa, fd, ps, h1, h2, h3, h4⟩ := G.ex
  refine pe_weak (pe_call h1 hr hg h2 h3 h4 .nil hx ha hdb he hpl) fun σ H Q ⟨Ω, ρ, e, k⟩ => ⟨Ω, ρ, e, (KM.bind k).imp fun xs H1 _ s1 k1 vs rs => ?_⟩
  have k1 := KM.bind k1
  unfold callO at k1
  split at k1
  · rename_i hl
    show spO n F (vs ++ []) H1 Q (EW W)
    rw [List.append_nil]
    refine ⟨mo m Ω, xs, (e.same s1).hlm m, rs, hl, (k1.wish fun c H' w => ⟨c, rfl, rfl, w⟩).imp fun r H' _ _ q => ?_⟩
    cases r with
    | d x => exact fun v rv => KM.ok q v rv
    | i C n ds => exact fun a na => KM.ok q _ (na.rep ((e.same s1).hlm m))
  · exact k1.elim
def Fr.flat : Fr → Bool
  | .d x => x.flat
  | .i _ _ ds => flats ds
/-- .. with owned lists within the arguments, what is given being flat -/
theorem do_calF {X : Cx} {W : Addr → Hp → Prop} {a : Expr} {es : List Expr} {fs : Ev → M (List D)} {pf pos : Pos} {CX : CXT} {k n : Nat} {x : Str} {F : FnO} (G : CalO X.prog X.w X.K X.mg X.base CX k x n F) (hr : Room k X.A) (hg : Gl X x) (hn : n = (a :: es).length) (hx : Passes CX X (EW W))
    (ha : DA X W true (a :: es) fs) (hdb : (x == ("__debug__" : Str)) = false := by decide) (he : starEach (a :: es) X.env = (false, eval a X.env) :: starEach es X.env := by rfl) (hpl : (backTo pos (starEach es X.env)).any (·.1) = false := by rfl) :
    DO X W (.Call (.Name x pf) (a :: es) [] pos) (fun ρ => (fs ρ).bind fun ds => (callO n F ds).bind fun r => if r.flat then .ok r else .und) := by
  obtain ⟨fa, fd, ps, h1, h2, h3, h4⟩ := G.ex
  refine pe_weak (pe_call h1 hr hg h2 h3 h4 .nil hx ha hdb he hpl) fun σ H Q ⟨Ω, ρ, e, k⟩ => ⟨Ω, ρ, e, (KM.bind k).imp fun xs H1 _ s1 k1 vs rs => ?_⟩
  have k1 := KM.bind k1
  unfold callO at k1
  split at k1
  · rename_i hl
    show spO n F (vs ++ []) H1 Q (EW W)
    rw [List.append_nil]
    refine ⟨mo true Ω, xs, (e.same s1).hlm true, rs, hl, (k1.wish fun c H' w => ⟨c, rfl, rfl, w⟩).imp fun r H' _ _ q => ?_⟩
    by_cases hf : r.flat = true
    · rw [if_pos hf] at q
      have q := KM.ok q
      cases r with
      | d x => exact fun v rv => q v (Rep.flat x v hf rv)
      | i C n ds => exact fun a ⟨dx, p, us, hp, qa, qp, rr⟩ => q a ⟨dx, p, us, s1.free hp, qa, qp, Reps.flat ds us hf rr⟩
    · rw [if_neg hf] at q
      exact q.elim
  · exact k1.elim
/-! ### classes -/
section
variable {P : Program} {w : World} {K : PySem.W.Frag} {mg : Str → Option Value} {base : Heap} {x qual : Str} {st : Stmt} {f : Addr} {fd : FuncData} {N ps : List Str} {k : Nat}
/-- __init__ that keeps its argument as the field n -/
def spIV (C : Addr) (n : Str) : Sp := fun vs H Q _ => ∃ x dx v, vs = [.ref x, v] ∧ H x = some (.ins C dx []) ∧ Q .non (upd H x (.ins C dx [(n, v)]))
/-- .. a copy of the list -/
def spIL (C : Addr) (n : Str) : Sp := fun vs H Q _ => ∃ x dx p us, vs = [.ref x, .ref p] ∧ H x = some (.ins C dx []) ∧ H p = some (.lst us) ∧ ∀ q, H q = none → Q .non (upd (upd H q (.lst us)) x (.ins C dx [(n, .ref q)]))
theorem fnIV {C : Addr} {n a b : Str} (F : Fun K x qual st f fd) (S : FnScope N [a, b] (defScope st)) (hC : Cls K C ∧ NoAttr K C n)
    (h : ∀ (cdv : Value) (A : Around) (outer : List PySem.Env) (s : Shared) (H : Hp) (E : XK), Room k (A.deeper (envOfC qual (defScope st) s.heap.objs.size f cdv)) → PSs (cxOf CX0 P w K mg base N qual (defScope st) f cdv A outer s H E).nox (defBody st) (sFld K (tVar 0) (tVar 1) n)) :
    FnOk P w K mg base CX0 (k + 1) f fd [a, b] (spIV C n) := by
  refine F.ok S (fun vs H Q E q => ?_) (fun cdv A outer s H vs Q E hr q => ?_)
  · obtain ⟨x, dx, v, e, _⟩ := q
    rw [e]
    rfl
  · obtain ⟨x, dx, v, rfl, hx, q⟩ := q
    refine ⟨_, h cdv A outer s H E hr, v, rfl, .ref x, rfl, x, C, dx, [], rfl, hx, hC.1, hC.2, by decide, ?_⟩
    exact q
theorem fnIL {C : Addr} {n a b : Str} (F : Fun K x qual st f fd) (S : FnScope N [a, b] (defScope st)) (hC : Cls K C ∧ NoAttr K C n)
    (h : ∀ (cdv : Value) (A : Around) (outer : List PySem.Env) (s : Shared) (H : Hp) (E : XK), Room k (A.deeper (envOfC qual (defScope st) s.heap.objs.size f cdv)) → PSs (cxOf CX0 P w K mg base N qual (defScope st) f cdv A outer s H E).nox (defBody st)
      (sFld K (tVar 0) (tCB (fun xs H Q => ∃ p ys, xs = [.ref p] ∧ (SqL K H p ys ∨ SqT K H p ys) ∧ ∀ l, H l = none → Q (.ref l) (upd H l (.lst ys))) (tCons (tVar 1) tNil)) n)) :
    FnOk P w K mg base CX0 (k + 1) f fd [a, b] (spIL C n) := by
  refine F.ok S (fun vs H Q E q => ?_) (fun cdv A outer s H vs Q E hr q => ?_)
  · obtain ⟨x, dx, p, us, e, _⟩ := q
    rw [e]
    rfl
  · obtain ⟨x, dx, p, us, rfl, hx, hp, q⟩ := q
    refine ⟨_, h cdv A outer s H E hr, .ref p, rfl, p, us, rfl, .inl (.inl (.inl hp)), fun l hl => ⟨.ref x, rfl, x, C, dx, [], rfl, ?_, hC.1, hC.2, by decide, ?_⟩⟩
    · rw [upd_ne (ne_of_none hx hl)]
      exact hx
    · exact q l hl
end
structure MkV (P : Program) (w : World) (K : PySem.W.Frag) (mg : Str → Option Value) (base : Heap) (k : Nat) (x : Str) (C : Addr) (n : Str) : Prop where
  ex : ∃ f fd ps, Mk K C f ∧ FnOk P w K mg base CX0 k f fd ps (spIV C n) ∧ mg x = some (.ref C) ∧ Binds K fd ps []
structure MkL (P : Program) (w : World) (K : PySem.W.Frag) (mg : Str → Option Value) (base : Heap) (k : Nat) (x : Str) (C : Addr) (n : Str) : Prop where
  ex : ∃ f fd ps, Mk K C f ∧ FnOk P w K mg base CX0 k f fd ps (spIL C n) ∧ mg x = some (.ref C) ∧ Binds K fd ps []
def dMkV (C : Addr) (n : Str) : List D → M D
  | [d] => .ok (.ins C [n] [d])
  | _ => .und
def oMkL (C : Addr) (n : Str) : List D → M Fr
  | [.lst ds] => .ok (.i C n ds)
  | _ => .und
def dMkLF (C : Addr) (n : Str) : List D → M D
  | [.lst ds] => if flats ds then .ok (.ins C [n] [.lst ds]) else .und
  | _ => .und
theorem same_made {H : Hp} {x dx C : Addr} {fs : List (Str × V)} (hx : H x = none) (hdx : H dx = none) : Same H (upd (upd (upd H dx (.own x)) x (.ins C dx [])) x (.ins C dx fs)) := fun b o e => by
  rw [upd_ne (ne_of_none e hx), upd_ne (ne_of_none e hx), upd_ne (ne_of_none e hdx)]
  exact e
section
variable {X : Cx} {W : Addr → Hp → Prop} {m : Bool} {a o : Expr} {es : List Expr} {f : Ev → M D} {fs : Ev → M (List D)} {p pos apos : Pos} {k : Nat} {x n : Str} {C : Addr}
theorem de_mkV (G : MkV X.prog X.w X.K X.mg X.base k x C n) (hr : Room (k + 1) X.A) (hg : Gl X x) (ha : DA X W m [a] fs) (hdb : (x == ("__debug__" : Str)) = false := by decide)
    (he : starEach [a] X.env = (false, eval a X.env) :: starEach [] X.env := by rfl) (hpl : (backTo pos (starEach [] X.env)).any (·.1) = false := by rfl) : DE X W m (.Call (.Name x p) [a] [] pos) (xAll (dMkV C n) fs) := by
  obtain ⟨f, fd, ps, h1, h2, h3, h4⟩ := G.ex
  refine pe_weak (pe_make h1 h2 hr hg h3 h4 .nil (pass_0 (W := W)) ha hdb he hpl) fun σ H Q ⟨Ω, ρ, e, k⟩ => ⟨Ω, ρ, e, (KM.bind k).imp fun xs H1 _ s1 k1 vs rs => ?_⟩
  intro q dq hq hdq ne
  unfold dMkV at k1
  split at k1
  · obtain ⟨v, e1, rv⟩ := rs.one
    subst e1
    refine ⟨q, dq, v, rfl, upd_same, rfl, ?_⟩
    have s2 := same_made (C := C) (fs := [(n, v)]) hq hdq
    refine k1 _ s2 _ ?_
    simp only [Rep]
    exact ⟨q, dq, [v], rfl, upd_same, rfl, Reps.cons (Rep.le (.same s2 fun _ z => z) _ _ rv) Reps.nil⟩
  · exact k1.elim
theorem mkL_heap {H : Hp} {x dx C p q : Addr} {us : List V} {n : Str} (hx : H x = none) (hdx : H dx = none) (hp : H p = some (.lst us)) (hq : (upd (upd H dx (.own x)) x (.ins C dx [])) q = none) :
    (upd (upd H dx (.own x)) x (.ins C dx [])) p = some (.lst us) ∧ H q = none ∧ Same H (upd (upd (upd (upd H dx (.own x)) x (.ins C dx [])) q (.lst us)) x (.ins C dx [(n, .ref q)])) ∧
      upd (upd (upd (upd H dx (.own x)) x (.ins C dx [])) q (.lst us)) x (.ins C dx [(n, .ref q)]) q = some (.lst us) := by
  have nx : q ≠ x := fun z => by rw [z, upd_same] at hq; cases hq
  have nd : q ≠ dx := fun z => by
    rw [upd_ne nx, z, upd_same] at hq; cases hq
  have hq' : H q = none := by rw [upd_ne nx, upd_ne nd] at hq; exact hq
  refine ⟨by rw [upd_ne (ne_of_none hp hx), upd_ne (ne_of_none hp hdx)]; exact hp, hq', fun b o e => ?_, by rw [upd_ne nx, upd_same]⟩
  rw [upd_ne (ne_of_none e hx), upd_ne (ne_of_none e hq'), upd_ne (ne_of_none e hx), upd_ne (ne_of_none e hdx)]
  exact e
theorem do_mkL (G : MkL X.prog X.w X.K X.mg X.base k x C n) (hr : Room (k + 1) X.A) (hg : Gl X x) (ha : DA X W false [a] fs) (hdb : (x == ("__debug__" : Str)) = false := by decide)
    (he : starEach [a] X.env = (false, eval a X.env) :: starEach [] X.env := by rfl) (hpl : (backTo pos (starEach [] X.env)).any (·.1) = false := by rfl) : DO X W (.Call (.Name x p) [a] [] pos) (xAll (oMkL C n) fs) := by
  obtain ⟨f, fd, ps, h1, h2, h3, h4⟩ := G.ex
  refine pe_weak (pe_make h1 h2 hr hg h3 h4 .nil (pass_0 (W := W)) ha hdb he hpl) fun σ H Q ⟨Ω, ρ, e, k⟩ => ⟨Ω, ρ, e, (KM.bind k).imp fun xs H1 _ s1 k1 vs rs => ?_⟩
  intro q dq hq hdq ne
  unfold oMkL at k1
  split at k1
  · obtain ⟨v, e1, rv⟩ := rs.one
    obtain ⟨pl, us, e2, _, hp, rr⟩ := rv.lst_inv
    subst e1 e2
    refine ⟨q, dq, pl, us, rfl, upd_same, ?_, fun l hl => ⟨rfl, ?_⟩⟩
    · rw [upd_ne (ne_of_none hp hq), upd_ne (ne_of_none hp hdq)]
      exact hp
    · obtain ⟨_, hl', s2, hl2⟩ := mkL_heap (n := n) hq hdq hp hl
      exact k1 _ s2 q ⟨dq, l, us, s1.free hl', upd_same, hl2, Reps.le (.fresh s2 hl') _ _ rr⟩
  · exact k1.elim
theorem de_mkLF (G : MkL X.prog X.w X.K X.mg X.base k x C n) (hr : Room (k + 1) X.A) (hg : Gl X x) (ha : DA X W true [a] fs) (hdb : (x == ("__debug__" : Str)) = false := by decide)
    (he : starEach [a] X.env = (false, eval a X.env) :: starEach [] X.env := by rfl) (hpl : (backTo pos (starEach [] X.env)).any (·.1) = false := by rfl) : DE X W m (.Call (.Name x p) [a] [] pos) (xAll (dMkLF C n) fs) := by
  obtain ⟨f, fd, ps, h1, h2, h3, h4⟩ := G.ex
  refine pe_weak (pe_make h1 h2 hr hg h3 h4 .nil (pass_0 (W := W)) ha hdb he hpl) fun σ H Q ⟨Ω, ρ, e, k⟩ => ⟨Ω, ρ, e, (KM.bind k).imp fun xs H1 _ s1 k1 vs rs => ?_⟩
  intro q dq hq hdq ne
  unfold dMkLF at k1
  split at k1
  · split at k1
    · rename_i hf
      obtain ⟨v, e1, rv⟩ := rs.one
      obtain ⟨pl, us, e2, _, hp, rr⟩ := rv.lst_inv
      subst e1 e2
      refine ⟨q, dq, pl, us, rfl, upd_same, ?_, fun l hl => ⟨rfl, ?_⟩⟩
      · rw [upd_ne (ne_of_none hp hq), upd_ne (ne_of_none hp hdq)]
        exact hp
      · obtain ⟨_, hl', s2, hl2⟩ := mkL_heap (n := n) hq hdq hp hl
        refine k1 _ s2 _ ?_
        simp only [Rep]
        exact ⟨q, dq, [.ref l], rfl, upd_same, rfl, Reps.cons (Rep.lst_mk (no_fresh ((e.same s1).hlm m) hl') hl2 (Reps.le (.same s2 fun _ z => z) _ _ (Reps.flat _ _ hf rr))) Reps.nil⟩
    · exact k1.elim
  · exact k1.elim
/-! ### fields -/
def dFld (cs : List Addr) (n : Str) : D → M D
  | .ins C ns xs => if C ∈ cs then ofO ((ns.zip xs).lookup n) else .und
  | _ => .und
theorem zip_lookup {Ω : Addr → Prop} {H : Hp} {n : Str} {d : D} : ∀ {ns : List Str} {xs : List D} {vs : List V}, Reps Ω H xs vs → (ns.zip xs).lookup n = some d → ∃ v, (ns.zip vs).lookup n = some v ∧ Rep Ω H d v
  | [], _, _, _, e => by simp [List.lookup] at e
  | _ :: _, [], _, _, e => by simp [List.lookup] at e
  | k :: ns, x :: xs, vs, r, e => by
    simp only [Reps] at r
    obtain ⟨v, t, e1, r1, r2⟩ := r
    subst e1
    rw [List.zip_cons_cons] at e ⊢
    unfold List.lookup at e ⊢
    cases q : (n == k) with
    | true =>
      rw [q] at e
      cases e
      exact ⟨v, rfl, r1⟩
    | false =>
      rw [q] at e
      exact zip_lookup r2 e
theorem zip_nolook {n : Str} : ∀ {ns : List Str} {vs : List V}, n ∉ ns → (ns.zip vs).lookup n = none
  | [], _, _ => by simp [List.lookup]
  | _ :: _, [], _ => by simp [List.lookup]
  | k :: ns, v :: vs, h => by
    rw [List.zip_cons_cons]
    unfold List.lookup
    have q : (n == k) = false := beq_eq_false_iff_ne.mpr fun z => h (by rw [z]; exact List.mem_cons_self)
    rw [q]
    exact zip_nolook fun z => h (List.mem_cons_of_mem _ z)
theorem de_fld {cs : List Addr} (hC : ClsF X.K cs n) (ho : DE X W m o f) (hb : attributeBase o n X.env (eval o X.env) = eval o X.env := by rfl) : DE X W m (.Attribute o n pos) (x1 (dFld cs n) f) := by
  refine pe_weak (pe_fld ho hb) fun σ H Q ⟨Ω, ρ, e, k⟩ => ⟨Ω, ρ, e, (KM.bind k).imp fun d H1 _ s1 k1 v r => ?_⟩
  cases d with
  | ins C ns xs =>
    unfold dFld at k1
    dsimp only at k1
    split at k1
    · rename_i hc
      simp only [Rep] at r
      obtain ⟨a, dx, vs, e1, q, hl, rs⟩ := r
      cases el : (ns.zip xs).lookup n with
      | none => rw [el] at k1; exact k1.elim
      | some d =>
        rw [el] at k1
        obtain ⟨u, h1, h2⟩ := zip_lookup rs el
        exact ⟨a, C, dx, _, u, e1, q, (hC C hc).1, (hC C hc).2, h1, KM.ok k1 u h2⟩
    · exact k1.elim
  | _ => exact k1.elim
/-! ### methods -/
structure CalM (P : Program) (w : World) (K : PySem.W.Frag) (mg : Str → Option Value) (base : Heap) (CX : CXT) (k : Nat) (C : Addr) (mt : Str) (n : Nat) (F : Fn) : Prop where
  ex : ∃ f fd ps, Cls K C ∧ Meth K C mt f ∧ FnOk P w K mg base CX k f fd ps (spD n F) ∧ Binds K fd ps []
def mCall (mt : Str) (C : Addr) (n : Nat) (F : Fn) (fs : Ev → M (List D)) (ρ : Ev) (d : D) : M D := match d with
  | .ins C' ns xs => if C' = C ∧ mt ∉ ns then (fs ρ).bind fun ds => if ds.length + 1 = n then F (d :: ds) else .und else .und
  | _ => .und
def xMeth (mt : Str) (C : Addr) (n : Nat) (F : Fn) (f : Ev → M D) (fs : Ev → M (List D)) : Ev → M D := fun ρ => (f ρ).bind fun d => mCall mt C n F fs ρ d
def xMeth2 (mt : Str) (C1 C2 : Addr) (n : Nat) (F1 F2 : Fn) (f : Ev → M D) (fs : Ev → M (List D)) : Ev → M D := fun ρ => (f ρ).bind fun d => match d with
  | .ins C' _ _ => if C' = C1 then mCall mt C1 n F1 fs ρ d else mCall mt C2 n F2 fs ρ d
  | _ => .und
theorem de_meth {mt : Str} {CX : CXT} {n : Nat} {F : Fn} {pl : Sem Bool} (G : CalM X.prog X.w X.K X.mg X.base CX k C mt n F) (hr : Room k X.A) (hx : Passes CX X (EW W)) (ho : DE X W m o f) (ha : DA X W m (a :: es) fs)
    (hst : starEach (a :: es) X.env = (false, eval a X.env) :: starEach es X.env := by rfl) (hpl : (backTo pos (starEach es X.env)).any (·.1) = false := by rfl)
    (ht : eval (.Call (.Attribute o mt apos) (a :: es) [] pos) X.env = (do
      let ov ← eval o X.env
      standAt apos.atName
      let (f, first) ← holding [ov] (getMethod ov mt pl)
      callWith pos f first (backTo pos (starEach (a :: es) X.env)) (backToKw pos (keywordEach [] X.env))) := by rfl) :
    DE X W m (.Call (.Attribute o mt apos) (a :: es) [] pos) (xMeth mt C n F f fs) := by
  obtain ⟨g, fd, ps, h1, h2, h3, h4⟩ := G.ex
  refine pe_weak (pe_meth ho h1 h2 h3 hr h4 .nil hx ha hst hpl ht) fun σ H Q ⟨Ω, ρ, e, k⟩ => ⟨Ω, ρ, e, (KM.bind k).imp fun d H1 _ s1 k1 v r => ?_⟩
  unfold mCall at k1
  split at k1
  · rename_i C' ns xs
    split at k1
    · rename_i hc
      obtain ⟨rfl, hn⟩ := hc
      have r0 := r
      simp only [Rep] at r
      obtain ⟨p, dx, vs, e1, q, hl, rs⟩ := r
      refine ⟨p, dx, _, e1, q, zip_nolook hn, Ω, ρ, e.same s1, (KM.bind k1).imp fun ds H2 _ s2 k2 us ru => ?_⟩
      split at k2
      · rename_i hh
        show spD n F (v :: (us ++ [])) H2 Q (EW W)
        rw [List.append_nil]
        exact ⟨mo m Ω, _, (e.same (s1.trans s2)).hlm m, Reps.cons (Rep.le (.same s2 fun _ z => z) _ _ r0) ru, hh, k2.wish fun c H' w => ⟨c, rfl, rfl, w⟩⟩
      · exact k2.elim
    · exact k1.elim
  · exact k1.elim
theorem de_meth2 {mt : Str} {CX : CXT} {k2 : Nat} {C2 : Addr} {n : Nat} {F F2 : Fn} {pl : Sem Bool} (G : CalM X.prog X.w X.K X.mg X.base CX k C mt n F) (G2 : CalM X.prog X.w X.K X.mg X.base CX k2 C2 mt n F2) (hr : Room k X.A) (hr2 : Room k2 X.A) (hx : Passes CX X (EW W)) (ho : DE X W m o f) (ha : DA X W m (a :: es) fs)
    (hst : starEach (a :: es) X.env = (false, eval a X.env) :: starEach es X.env := by rfl) (hpl : (backTo pos (starEach es X.env)).any (·.1) = false := by rfl)
    (ht : eval (.Call (.Attribute o mt apos) (a :: es) [] pos) X.env = (do
      let ov ← eval o X.env
      standAt apos.atName
      let (f, first) ← holding [ov] (getMethod ov mt pl)
      callWith pos f first (backTo pos (starEach (a :: es) X.env)) (backToKw pos (keywordEach [] X.env))) := by rfl) :
    DE X W m (.Call (.Attribute o mt apos) (a :: es) [] pos) (xMeth2 mt C C2 n F F2 f fs) := by
  refine pe_weak (pe_or2 (de_meth G hr hx ho ha hst hpl ht) (de_meth G2 hr2 hx ho ha hst hpl ht)) fun σ H Q ⟨Ω, ρ, e, k⟩ => ?_
  unfold xMeth2 at k
  cases q : f ρ with
  | und => rw [q] at k; exact k.elim
  | ex c => exact .inl ⟨Ω, ρ, e, by unfold xMeth; rw [q] at k ⊢; exact k⟩
  | ok d =>
    rw [q] at k
    cases d with
    | ins C' ns xs =>
      by_cases hc : C' = C
      · exact .inl ⟨Ω, ρ, e, by unfold xMeth; rw [q]; rw [e_bind_ok'] at k; dsimp only at k; rw [if_pos hc] at k; exact k⟩
      · exact .inr ⟨Ω, ρ, e, by unfold xMeth; rw [q]; rw [e_bind_ok'] at k; dsimp only at k; rw [if_neg hc] at k; exact k⟩
    | _ => exact k.elim
/-! ### isinstance with an own class -/
structure ClsI (K : PySem.W.Frag) (C : Addr) : Prop where
  cl : Cls K C
  ha : PySem.W.findIn K (.ref C) "__class__" = some (some (.builtin "object.__class__"))
  hn : PySem.W.specialIn K (.builtin "object.__class__") "__get__" = some (some (.builtin "getset_descriptor.__get__"))
  htk : PySem.W.takesIn K (.builtin "object.__class__") = some true
  hm : PySem.W.mroIn K C (.type "object") = some true
def dIsI (K : PySem.W.Frag) (cs : List Addr) : List D → M D
  | [.ins C _ _, .fn T] => if C ∈ cs then (match PySem.W.kitOne K (.ref C) (.ref T) with
    | some b => .ok (.bl b)
    | none => .und) else .und
  | _ => .und
theorem de_isI {b : Expr} {K : PySem.W.Frag} {cs : List Addr} (hK : K = X.K) (hC : ∀ C ∈ cs, ClsI X.K C) (hg : Gl X "isinstance") (hm : X.mg "isinstance" = none) (ha : DA X W m [a, b] fs)
    (he : starEach [a, b] X.env = (false, eval a X.env) :: starEach [b] X.env := by rfl) (hpl : (backTo pos (starEach [b] X.env)).any (·.1) = false := by rfl) : DE X W m (.Call (.Name "isinstance" p) [a, b] [] pos) (xAll (dIsI K cs) fs) :=
  de_callB call_isi (fun W Ω H xs vs Q hl rs k => by
    unfold dIsI at k
    split at k
    · rename_i C ns ys T
      split at k
      · rename_i hc
        obtain ⟨v, u, e, r1, r2⟩ := rs.two
        have r2' : u = V.ref T := by simpa only [Rep] using r2
        simp only [Rep] at r1
        obtain ⟨a, dx, us, e1, q, _, _⟩ := r1
        subst e e1 r2'
        split at k
        · rename_i b hb
          have I := hC C hc
          exact ⟨.ref a, .ref T, .ref C, .ref T, b, rfl, .own T, .base (.ins q I.cl I.ha I.hn I.htk I.hm), by rw [← hK]; exact hb, KM.ok k _ Rep.bl_mk⟩
        · exact k.elim
      · exact k.elim
    · exact k.elim) hg hm PyProof.Rows.boot_isinstance ha (by decide) (by decide) he hpl
end
end DI
set_option maxRecDepth 100000
/-! DI12: list(range(n)), sorted(set(ints)), [x] * k, xs[i], xs[j] = a, b, an item of an own list, four comparisons in a row. -/
namespace DI
open PySem PySem.Spec PyProof.Rows L2
/-! ### list(range(n)) -/
def dListRg : D → M (List D)
  | .int n => if 0 ≤ n ∧ n ≤ 16777216 then .ok (rgD 0 1 n.toNat) else .und
  | _ => .und
theorem rgV_reps {Ω : Addr → Prop} {H : Hp} {n : Int} : Reps Ω H (rgD 0 1 n.toNat) (rgV 0 n) := by
  refine Reps.of_get (by rw [rgD_len, rgV_length, Int.sub_zero]) fun i d v h1 h2 => ?_
  rw [rgD_get h1]
  unfold rgV at h2
  rw [List.getElem?_map] at h2
  cases e : (List.range (n - 0).toNat)[i]? with
  | none => rw [e] at h2; cases h2
  | some j =>
    rw [e] at h2
    cases h2
    obtain ⟨_, e2⟩ := List.getElem?_eq_some_iff.mp e
    rw [List.getElem_range] at e2
    rw [e2, Int.mul_one]
    exact Rep.int_mk
section
variable {X : Cx} {W : Addr → Hp → Prop} {m : Bool} {a b c e : Expr} {f g h : Ev → M D} {p p2 q pos pos2 : Pos}
theorem df_listRg (hc : X.calm = true) (hg : Gl X "list") (hm : X.mg "list" = none) (hg2 : Gl X "range") (hm2 : X.mg "range" = none) (ha : DE X W m a f)
    (na : starEach [a] X.env = (false, eval a X.env) :: starEach [] X.env := by rfl) (na2 : starEach [Expr.Call (.Name "range" p2) [a] [] q] X.env = (false, eval (.Call (.Name "range" p2) [a] [] q) X.env) :: starEach [] X.env := by rfl) :
    DF X W m (.Call (.Name "list" p) [.Call (.Name "range" p2) [a] [] q] [] pos) (fun ρ => (f ρ).bind dListRg) := by
  refine pe_weak (pe_listRg hc hg hm (prg_1 hg2 hm2 ha na) na2) fun σ H Q ⟨Ω, ρ, ei, k⟩ => ⟨Ω, ρ, ei, (KM.bind k).imp fun d H1 _ s1 k1 v r => ?_⟩
  cases d with
  | int n =>
    unfold dListRg at k1
    dsimp only at k1
    split at k1
    · rename_i hn
      refine ⟨n, r.int_inv, RgOk.of_le (Int.le_refl _) hn.2 (by decide) hn.1, fun l hl => ?_⟩
      exact k1 _ (same_upd hl) l _ (s1.free hl) upd_same rgV_reps
    · exact k1.elim
  | _ => exact k1.elim
/-! ### [x] * k as a new list -/
def dRep : D → D → M (List D)
  | .lst ds, .int k => if 0 ≤ k ∧ k ≤ 1000 ∧ ds.length ≤ 1000 then .ok (List.replicate k.toNat ds).flatten else .und
  | _, _ => .und
theorem rep_reps {Ω : Addr → Prop} {H : Hp} {ds : List D} {vs : List V} (r : Reps Ω H ds vs) : ∀ n : Nat, Reps Ω H (List.replicate n ds).flatten (List.replicate n vs).flatten
  | 0 => Reps.nil
  | n + 1 => by
    rw [List.replicate_succ, List.replicate_succ, List.flatten_cons, List.flatten_cons]
    exact r.append (rep_reps r n)
theorem df_rep (ha : DE X W m a f) (hb : DE X W m b g) : DF X W m (.BinOp a .Mult b pos) (fun ρ => (f ρ).bind fun x => (g ρ).bind fun y => dRep x y) := by
  refine pe_weak (pe_op op_rep ha hb) fun σ H Q ⟨Ω, ρ, e, k⟩ => ⟨Ω, ρ, e, (KM.bind k).imp fun x H1 _ s1 k1 v rv => ⟨Ω, ρ, e.same s1, (KM.bind k1).imp fun y H2 _ s2 k2 u ru => ?_⟩⟩
  have rv2 := Rep.le (.same s2 fun _ z => z) x v rv
  unfold dRep at k2
  cases x with
  | lst ds =>
    cases y with
    | int kk =>
      dsimp only at k2
      split at k2
      · rename_i hz
        obtain ⟨l, vs, e1, n1, q1, r1⟩ := rv2.lst_inv
        have hlen := r1.length
        refine ⟨l, kk, vs, e1, ru.int_inv, q1, by omega, by omega, ?_, fun l2 hp => ?_⟩
        · rw [sizeLine_eq, ← hlen]
          have : ds.length * kk.toNat ≤ 1000 * 1000 := Nat.mul_le_mul (by omega) (by omega)
          omega
        · exact k2 _ (same_upd hp) l2 _ ((s1.trans s2).free hp) upd_same (Reps.le (.fresh (same_upd hp) hp) _ _ (rep_reps r1 _))
      · exact k2.elim
    | _ => exact k2.elim
  | _ => exact k2.elim
/-! ### an item of an own list -/
def xIxO (i : Nat) (fk : Ev → M D) : Ev → M D := fun ρ => match ρ[i]? with
  | some (some (.o ds)) => (fk ρ).bind fun k => dIx (.lst ds) k
  | _ => .und
theorem de_ixO {i : Nat} {x : Str} {px : Pos} (hx : PE X (.Name x px) (tVar i)) (hk : DE X W m b g) (hs : PlainIx b := by exact fun _ _ => rfl) : DE X W m (.Subscript (.Name x px) b pos) (xIxO i g) := by
  refine pe_weak (pe_ix ix_list hx hk hs) fun σ H Q ⟨Ω, ρ, e, k⟩ => ?_
  unfold xIxO at k
  split at k
  · rename_i ds hi
    obtain ⟨v, g1, p, vs, e1, hΩ, hv, rs⟩ := e.sl i _ hi
    subst e1
    refine ⟨_, g1, Ω, ρ, e, (KM.bind k).imp fun kd H1 _ s1 k1 u ru => ?_⟩
    unfold dIx at k1
    cases kd with
    | int z =>
      dsimp only at k1
      cases ea : atI ds z with
      | none => rw [ea] at k1; exact k1.elim
      | some d =>
        rw [ea] at k1
        unfold atI at ea
        cases qi : ixN ds.length z with
        | none => rw [qi] at ea; cases ea
        | some j =>
          rw [qi] at ea
          obtain ⟨w, h1, h2⟩ := rs.get (i := j) (d := d) ea
          refine ⟨p, vs, _, w, rfl, ru.int_inv, .inl (.inl (s1 _ _ hv)), ?_, KM.ok k1 w (Rep.le ((HLe.same s1 fun _ z => z).trans (.sub fun a z => z.2)) _ _ h2)⟩
          unfold atI
          rw [← rs.length, qi]
          exact h1
    | _ => exact k1.elim
  · exact k.elim
/-! ### xs[i], xs[j] = a, b -/
def sSwap (i : Nat) (fk fl fa fb : Ev → M D) : Ev → S := fun ρ => S.ofM (fa ρ) fun x => S.ofM (fb ρ) fun y => oAt i ρ fun ds => S.ofM (fk ρ) fun k => S.ofM (gSet k x ds) fun es =>
  S.ofM (fl (ρ.set i (some (.o es)))) fun l => S.ofM (gSet l y es) fun us => .nx ((ρ.set i (some (.o es))).set i (some (.o us)))
theorem gSet_ok {k d : D} {ds es : List D} (h : gSet k d ds = .ok es) : ∃ z j, k = .int z ∧ ixN ds.length z = some j ∧ es = ds.set j d := by
  unfold gSet at h
  split at h
  · rename_i z
    cases q : ixN ds.length z with
    | none => rw [q] at h; cases h
    | some j =>
      rw [q] at h
      cases h
      exact ⟨z, j, rfl, q, rfl⟩
  · cases h
theorem gSet_noex {k d : D} {ds : List D} {c : Addr} (h : gSet k d ds = .ex c) : False := by
  unfold gSet at h
  cases k with
  | int z =>
    dsimp only at h
    cases q : ixN ds.length z with
    | none => rw [q] at h; cases h
    | some j => rw [q] at h; cases h
  | _ => cases h
theorem ds_swap {i : Nat} {st : Stmt} {fk fl fa fb : Ev → M D} (h : PS X st (tAsg (tTup (tCons (tD W false fa) (tCons (tD W false fb) tNil))) (gTup X.K 2 (gCons (gSub (tVar i) (tD W false fk) rSetL) (gCons (gSub (tVar i) (tD W false fl) rSetL) gNil))))) :
    DS X W st (sSwap i fk fl fa fb) := by
  refine ps_weak h fun N σ H ⟨H0, Ω0, Γ, ρ, ⟨Ω, s⟩, k⟩ => ⟨Ω, ρ, s.1, (KS.bind s.2.1 k).imp fun x H1 _ s1 k1 v rv => ⟨Ω, ρ, s.1.same s1, (KS.bind (s.2.1.trans s1) k1).imp fun y H2 _ s2 k2 u ru => ?_⟩⟩
  refine ⟨by show 2 ≤ sizeLine; decide, fun T hT => ⟨T, _, rfl, .inl (.inl upd_same), rfl, v, _, rfl, ?_⟩⟩
  have s3 := same_upd (o := .tup [v, u]) hT
  have b1 := ((s.same s1).same s2).same s3
  obtain ⟨ds, p, vs, hi, g1, hΩ, hv, rs, k3⟩ := oAt_of b1 k2
  refine ⟨.ref p, g1, Ω, ρ, b1.1, (KS.bind b1.2.1 k3).imp fun kd H4 _ s4 k4 kv rk => ?_⟩
  cases e1 : gSet kd x ds with
  | und => rw [e1] at k4; exact k4.elim
  | ex c => exact (gSet_noex e1).elim
  | ok es =>
    rw [e1] at k4
    obtain ⟨z, j, ez, ej, ee⟩ := gSet_ok e1
    subst ez
    have b2 := b1.same s4
    have rs4 := Reps.le (.same s4 fun _ z => z) _ _ rs
    have rv4 : Rep Ω H4 x v := Rep.le ((HLe.same ((s2.trans s3).trans s4) fun _ z => z).trans (.sub fun a z => ⟨rfl, z⟩)) _ _ rv
    refine ⟨p, vs, z, j, rfl, rk.int_inv, s4 _ _ hv, by rw [← rs.length]; exact ej, ?_⟩
    have b3 : SIO Ω H0 Ω0 Γ (ρ.set i (some (.o es))) σ (upd H4 p (.lst (vs.set j v))) := b2.write hi g1 hΩ (s4 _ _ hv) (by rw [ee]; exact Reps.set rv4 j rs4)
    have k4 : KS W H0 Ω0 Γ (S.ofM (fl (ρ.set i (some (.o es)))) fun l => S.ofM (gSet l y es) fun us => .nx ((ρ.set i (some (.o es))).set i (some (.o us)))) N := k4
    refine ⟨u, _, rfl, .ref p, g1, Ω, _, b3.1, (KS.bind b3.2.1 k4).imp fun ld H5 _ s5 k5 lv rl => ?_⟩
    cases e2 : gSet ld y es with
    | und => rw [e2] at k5; exact k5.elim
    | ex c => exact (gSet_noex e2).elim
    | ok us =>
      rw [e2] at k5
      obtain ⟨z2, j2, ez2, ej2, ee2⟩ := gSet_ok e2
      subst ez2
      have b4 := b3.same s5
      have hv5 : H5 p = some (.lst (vs.set j v)) := s5 _ _ upd_same
      have hl : i < ρ.length := (List.getElem?_eq_some_iff.mp hi).1
      have hi2 : (ρ.set i (some (Sl.o es)))[i]? = some (some (Sl.o es)) := List.getElem?_set_self hl
      obtain ⟨w, g2, p2, vs2, e3, _, hv2, rs5⟩ := b4.1.sl i _ hi2
      rw [g1] at g2
      cases g2
      cases e3
      rw [hv5] at hv2
      cases hv2
      have ru5 : Rep Ω H5 y u := by
        have r1 : Rep Ω H4 y u := Rep.le ((HLe.same (s3.trans s4) fun _ z => z).trans (.sub fun a z => ⟨rfl, z⟩)) _ _ ru
        exact Rep.le ((HLe.write hΩ (s4 _ _ hv)).trans (.same s5 fun _ z => z)) _ _ r1
      refine ⟨p, _, z2, j2, rfl, rl.int_inv, hv5, by rw [← rs5.length]; exact ej2, rfl, ?_⟩
      exact k5 _ _ ⟨Ω, b4.write hi2 g1 hΩ hv5 (by rw [ee2]; exact Reps.set ru5 j2 rs5)⟩
end
end DI
set_option maxRecDepth 100000
set_option maxHeartbeats 4000000
/-! DI13: set(list of ints) and sorted of it; comparisons in a row. -/
namespace L2
open PySem PySem.Spec PyProof.Rows
/-- an empty set, new -/
abbrev mtS (w : World) : Obj := { cls := .type "set", dict := none, data := .set #[] 0 (.fresh 0 0 (!w.params.followText "set-order")) }
section
variable {P : Program} {w : World} {A : Around} {E : Value → Shared → Prop} {s : Shared}
/-- what set(ns) leaves, ns the ints of a list -/
def MadeS (w : World) (s : Shared) (ns : List Int) (s' : Shared) : Prop := ∃ (h' : Heap) (tk c : Nat), s' = { s with heap := h', toks := tk } ∧ SetR w h' s.heap.objs.size (fun j => decide (j ∈ ns)) c ∧ c ≤ ns.length ∧ ∀ b o, s.heap.get? b = some o → h'.get? b = some o
theorem set_fill {B : Around} {l : Addr} {its : Array Value} (ns : List Int) (hh : A.handled = none) (hl : s.heap.IsList l its) (hit : IntsAre its.toList ns) (hb : ns.length + 1 < scanBound) :
    wpAny (model P w) B (pyIter (.ref l)) (fun it s2 => codeAny (model P w) A (.builtin "set.update.loop" ⟨[.ref s.heap.objs.size, it], []⟩) (fun r s' => r = .ok (.ret .none) ∧ MadeS w s ns s') s2) E { s with heap := s.heap.push (mtS w) } := by
  have hsz : its.size = ns.length := (Array.length_toList).symm.trans (IntsAre.length hit)
  have lS : l < s.heap.objs.size := by
    obtain ⟨_, e, _⟩ := hl
    exact Heap.lt_size e
  have at0 : (s.heap.push (mtS w)).get? s.heap.objs.size = some (mtS w) := Heap.get?_push_size _ rfl
  have z1 : (s.heap.push (mtS w)).objs.size = s.heap.objs.size + 1 := Heap.size_push ..
  refine wpAny_pyIter_list (hl.push _) ?_
  have vals : ∀ (i : Nat) (v : Value), its[i]? = some v → ∃ k t, ns[i]? = some k ∧ v = .int k t := fun i v hv => by
    have hi : i < ns.length := hsz ▸ (Array.getElem?_eq_some_iff.mp hv).1
    obtain ⟨t, e⟩ := IntsAre.int_at hit i v ((Array.getElem?_toList ..).trans hv)
    exact ⟨ns[i], t, List.getElem?_eq_getElem hi, by simp [e, hi]⟩
  have nI : l ≠ (s.heap.push (mtS w)).objs.size := by rw [z1]; exact Nat.ne_of_lt (Nat.lt_succ_of_lt lS)
  refine set_update_ints ((Walks.list (A := A.in1) hh _ l nI its).toS) s.heap.objs.size (by rw [z1]; simp only [List.mem_cons, List.not_mem_nil, or_false, not_or]; exact ⟨Nat.ne_of_lt (Nat.lt_succ_self _), Nat.ne_of_gt lS⟩) ns hsz hb vals (its.size - 0) 0 _ (by omega) (Nat.zero_le _) ⟨⟨_, Heap.get?_push_size _ rfl, rfl, rfl⟩, (hl.push _).push _⟩
    ⟨0, Nat.le_refl 0, setR_new_at (Heap.get?_push_of_some _ at0)⟩ fun s' c hm hc hS => ⟨rfl, ?_⟩
  refine ⟨s'.heap, s'.toks, c, ?_, hS, by rw [← hsz]; exact hc, fun b o e => ?_⟩
  · have e1 := hm.gens
    have e2 := hm.drawn
    have e3 := hm.os
    cases s'
    simp only at e1 e2 e3
    subst e1 e2 e3
    rfl
  · have hlt : b < s.heap.objs.size := Heap.lt_size e
    exact hm.heap b o (by rw [z1]; simp only [List.mem_cons, List.not_mem_nil, or_false, not_or]; exact ⟨Nat.ne_of_lt hlt, Nat.ne_of_lt (Nat.lt_succ_of_lt hlt)⟩) (Heap.get?_push_of_some _ (Heap.get?_push_of_some _ e))
theorem set_of_list {l : Addr} {its : Array Value} (ns : List Int) {Q : Value → Shared → Prop} (hh : A.handled = none) (hl : s.heap.IsList l its) (hit : IntsAre its.toList ns) (hb : ns.length + 1 < scanBound)
    (h : ∀ s', MadeS w s ns s' → Q (.ref s.heap.objs.size) s') : wpAny (model P w) A (call (.type "set") [.ref l]) Q E s := by
  obtain ⟨_, _, hmro⟩ := F.called_set.mro
  have k1 := F.called_set.made
  have k2 := F.called_set.sub
  have k3 := F.called_set.notType
  have k4 := F.called_set.canCreate
  have k5 := F.typeCall_set_1 (.ref l)
  refine wpAny_call (codeAny_of_tree ?_)
  show wpAny _ _ (callAny (.type "set") _) _ _ _
  refine wpAny_pure ⟨Code.quiet_builtin _ (by decide +kernel), codeAny_builtin F.entry_type_call ?_⟩
  rw [Around.under_plain (weight_type_call_type "set" [.ref l] []) rfl]
  repeat (any_goals (first | assumption | wp_step))
  refine codeAny_mono (code_set_led1 (.ref l) (E := E) (Q₁ := fun obj s1 => obj = .ref s.heap.objs.size ∧ s1 = { s with heap := s.heap.push (mtS w) }) ⟨rfl, rfl⟩) fun r s1 hr => ?_
  cases r with
  | error e => exact hr
  | ok fl =>
    cases fl with
    | ret obj =>
      obtain ⟨rfl, rfl⟩ := hr
      have at0 : (s.heap.push (mtS w)).get? s.heap.objs.size = some (mtS w) := Heap.get?_push_size _ rfl
      have hT : Shared.TypeIs { s with heap := s.heap.push (mtS w) } (.ref s.heap.objs.size) "set" := ⟨_, at0, rfl⟩
      have k6 := F.called_set.init.lookup
      have k7 := F.called_set.init.bind (.ref s.heap.objs.size)
      repeat (any_goals (first | assumption | wp_step))
      refine codeAny_mono (codeAny_call_builtin (R := wants (fun r s2 => r = .none ∧ MadeS w s ns s2) E) F.called_set.init.plain F.entry_set_init (check_set_init_1 hT ?_)) fun r2 s2 hr2 => ?_
      · have hl0 := hl
        obtain ⟨⟨oc, od, dt, sl⟩, hol, hc, nl, hd⟩ := hl0
        simp only at hc hd
        subst hc hd
        have hol' : (s.heap.push (mtS w)).get? l = some { cls := .type "list", dict := od, data := .seq its nl, slots := sl } := Heap.get?_push_of_some _ hol
        have k8 := F.sub_list_set
        have k9 := F.sub_list_frozenset
        have k10 : (Value.type "list" == Value.type "dict") = false := by decide
        unfold Builtin.«set.__init__» noKeywords Builtin.Frozenset.updateFrom
        generalize hPI : pyIter = PI
        wp_walk
        subst hPI
        refine wpAny_mono (set_fill (A := A.in1.in1) (B := A.in1.in1) (E := fun e s' => wants (fun r s2 => r = Value.none ∧ MadeS w s ns s2) E (.error e) s') ns (by simp [hh]) hl hit hb) (fun it s3 h3 => ?_) fun _ _ x => x
        refine wpAny_bind (wpAny_runValue (codeAny_mono h3 fun r s4 h4 => ?_))
        obtain ⟨rfl, hm⟩ := h4
        show wpAny _ _ _ _ _ _
        refine wpAny_pure ?_
        show wpAny _ _ (ret Value.none) _ _ _
        exact wpAny_pure ⟨rfl, hm⟩
      · cases r2 with
        | error e => exact hr2
        | ok fl2 =>
          cases fl2 with
          | ret r =>
            obtain ⟨rfl, hm⟩ := hr2
            repeat (any_goals (first | assumption | wp_step))
            exact h _ hm
          | _ => exact hr2.elim
    | _ => exact hr.elim
end
end L2
set_option maxRecDepth 100000
set_option maxHeartbeats 1000000
/-! DI14: sorted(set(list of ints)); comparisons in a row. -/
namespace L2
open PySem PySem.Spec PyProof.Rows
section
variable {P : Program} {w : World} {A : Around} {E : Value → Shared → Prop} {s : Shared} {a : Addr}
/-- sorted(found), any number of members -/
theorem sorted_setB {S : Int → Bool} {n : Nat} {Q : Value → Shared → Prop} (R : SetR w s.heap a S n) (hh : A.handled = none) (hz : n ≤ sizeLine)
    (hQ : ∀ s' p (out : Array Value) (c : Nat) (ns : List Int), (∀ b o, s.heap.get? b = some o → s'.heap.get? b = some o) → s'.gens = s.gens → s'.os = s.os → s.heap.objs.size ≤ p →
      s'.heap.get? p = some (seqObj "list" out c) → IntsAre out.toList ns → ns.Pairwise (· < ·) → (∀ k, k ∈ ns ↔ S k = true) → ns.length = n → Q (.ref p) s') :
    wpAny (model P w) A (call (.builtin "sorted") [.ref a]) Q E s := by
  obtain ⟨o, es, ep, t, ho, hex, hd, g, nd, hm, hb, hf, hn, hr, hl⟩ := R
  refine Calls.call_function_entry kind_sorted plain_sorted entry_sorted (args_sorted1 _) ?_
  unfold Builtin.«sorted»
  refine wpAny_bind (m := checkCount "sorted" 1 1 _) (wpAny_pure ?_)
  refine wpAny_bind (collect_set (A := A.in1) hh ⟨o, ho, hex.1, hd⟩ hf hb hr hl fun s1 vs k1 hz1 g1 o1 pm => ?_)
  have hvl : vs.length = n := by rw [pm.length_eq, List.length_map, Array.length_toList]; exact hn
  have hI : IntsAre vs (vs.map Builtin.Re.reRawOf) := ints_of vs fun v hv => by
    obtain ⟨e, he, q⟩ := List.mem_map.mp (pm.mem_iff.mp hv)
    obtain ⟨k, tk, h1, _⟩ := g e he
    exact ⟨k, tk, by rw [← q]; exact h1⟩
  have pk : (vs.map Builtin.Re.reRawOf).Perm (es.toList.map keyOf) := by
    have q := pm.map Builtin.Re.reRawOf
    rw [List.map_map] at q
    exact q
  have hz2 : vs.length ≤ sizeLine := by rw [hvl]; exact hz
  refine wpAny_bind (wpAny_newList ?_ hz2)
  have hoL : (s1.heap.push (seqObj "list" vs.toArray 0)).get? s1.heap.objs.size = some (seqObj "list" vs.toArray 0) := Heap.get?_push_size _ rfl
  refine wpAny_bind (wpAny_holding (wpAny_call_entry slot_list_sort ⟨_, hoL, rfl⟩ entry_list_sort (SrtO.list_sort_ord (s := { s1 with heap := s1.heap.push (seqObj "list" vs.toArray 0) }) SrtO.swo_int hoL hz2 (fun h2 => SrtO.ints_sortable hI h2) fun out hs hb => ⟨_, rfl, ?_⟩) (args_list_sort _)))
  obtain ⟨a1, a2, a3⟩ := SrtO.ints_out hI hs hb
  obtain ⟨c, hc⟩ := sortedHeap_at (vs := vs) (out := out.toArray) hoL
  have pn : (out.map SrtO.iv).Perm (es.toList.map keyOf) := a2.trans pk
  refine wpAny_pure ⟨_, rfl, hQ _ s1.heap.objs.size out.toArray c (out.map SrtO.iv) (fun b u e => ?_) g1 o1 hz1 hc a1 (lt_of_le_nodup _ a3 (pn.nodup_iff.mpr nd)) (fun k => by rw [pn.mem_iff, ← hm k]) ?_⟩
  · have q := k1 b u e
    have hlt := Heap.lt_size q
    show (sortedHeap (s1.heap.push (seqObj "list" vs.toArray 0)) s1.heap.objs.size vs out.toArray).get? b = some u
    rw [sortedHeap_old (Nat.ne_of_lt hlt) (by rw [size_push']; exact Nat.lt_succ_of_lt hlt)]
    exact Heap.get?_push_of_some _ q
  · rw [pn.length_eq, List.length_map, Array.length_toList]; exact hn
end
section
variable {X : Cx}
def rSortedSetB (w : World) : List V → Hp → VK → Prop := fun vs H Q => ∃ (a : Addr) (S : Int → Bool) (n : Nat), vs = [V.ref a] ∧ H a = some (SetO w a S n) ∧ n ≤ 1000 ∧
  ∀ (ns : List Int) (p : Addr), ns.Pairwise (· < ·) → (∀ k : Int, k ∈ ns ↔ S k = true) → ns.length = n → H p = none → Q (.ref p) (upd H p (.lst (ns.map V.int)))
theorem cr_sortedSetB (hc : X.calm = true) : CallR X (.builtin "sorted") (rSortedSetB X.w) := by
  intro pins s σ H vs us Q I r h
  obtain ⟨a, S, n, rfl, ha, h64, q⟩ := h
  have R := setO_get I ha
  rw [Vals.ref1 r]
  refine sorted_setB R (I.ok.hd hc) (by rw [sizeLine_eq]; omega) fun s' p out c ns k g o hp hg hi hs hm hl => ?_
  have hlen : (ns.map V.int).length ≤ sizeLine := by rw [List.length_map, hl, sizeLine_eq]; omega
  have hn : H p = none := I.hok.fresh hp
  have J : Inv X pins σ (upd H p (.lst (ns.map V.int))) { s with heap := s'.heap, gens := s'.gens, drawn := s'.drawn, toks := s'.toks } :=
    I.call (ch := []) (Un.laid k hp hn) (I.hok.laid k hp ⟨hlen, out.toList, c, vals_of_ints hi, hg⟩) (by rw [g]; exact I.bare) (fun _ z => nomatch z)
  have e : s' = { s with heap := s'.heap, gens := s'.gens, drawn := s'.drawn, toks := s'.toks } := by
    cases s'
    cases s
    cases o
    rfl
  rw [e]
  exact ⟨.ref p, _, J, rfl, q ns p hs hm hl hn⟩
end
end L2
namespace DI
open PySem PySem.Spec PyProof.Rows L2
def insI (x : Int) : List Int → List Int
  | [] => [x]
  | y :: r => if x < y then x :: y :: r else if x = y then y :: r else y :: insI x r
def srtI : List Int → List Int
  | [] => []
  | x :: r => insI x (srtI r)
theorem insI_mem {x k : Int} : ∀ {l : List Int}, k ∈ insI x l ↔ k = x ∨ k ∈ l
  | [] => by simp [insI]
  | y :: r => by
    unfold insI
    split
    · simp
    · split
      · rename_i e
        subst e
        simp
      · simp only [List.mem_cons, insI_mem (l := r)]
        constructor
        · rintro (a | a | a)
          · exact .inr (.inl a)
          · exact .inl a
          · exact .inr (.inr a)
        · rintro (a | a | a)
          · exact .inr (.inl a)
          · exact .inl a
          · exact .inr (.inr a)
theorem srtI_mem {k : Int} : ∀ {l : List Int}, k ∈ srtI l ↔ k ∈ l
  | [] => Iff.rfl
  | x :: r => by
    unfold srtI
    rw [insI_mem, srtI_mem, List.mem_cons]
theorem insI_pw {x : Int} : ∀ {l : List Int}, l.Pairwise (· < ·) → (insI x l).Pairwise (· < ·)
  | [], _ => by simp [insI]
  | y :: r, h => by
    have h' := List.pairwise_cons.mp h
    unfold insI
    split
    · rename_i q
      refine List.pairwise_cons.mpr ⟨fun z hz => ?_, h⟩
      rcases List.mem_cons.mp hz with e | e
      · rw [e]; exact q
      · exact Int.lt_trans q (h'.1 z e)
    · split
      · exact h
      · refine List.pairwise_cons.mpr ⟨fun z hz => ?_, insI_pw h'.2⟩
        rcases insI_mem.mp hz with e | e
        · rw [e]; omega
        · exact h'.1 z e
theorem srtI_pw : ∀ l : List Int, (srtI l).Pairwise (· < ·)
  | [] => List.Pairwise.nil
  | x :: r => insI_pw (srtI_pw r)
theorem pw_uniq : ∀ {l m : List Int}, l.Pairwise (· < ·) → m.Pairwise (· < ·) → (∀ k, k ∈ l ↔ k ∈ m) → l = m
  | [], [], _, _, _ => rfl
  | [], y :: m, _, _, h => absurd ((h y).mpr List.mem_cons_self) (by simp)
  | x :: l, [], _, _, h => absurd ((h x).mp List.mem_cons_self) (by simp)
  | x :: l, y :: m, hl, hm, h => by
    have hl' := List.pairwise_cons.mp hl
    have hm' := List.pairwise_cons.mp hm
    have e : x = y := by
      rcases List.mem_cons.mp ((h x).mp List.mem_cons_self) with a | a
      · exact a
      · rcases List.mem_cons.mp ((h y).mpr List.mem_cons_self) with b | b
        · exact b.symm
        · have := hm'.1 x a
          have := hl'.1 y b
          omega
    subst e
    congr 1
    refine pw_uniq hl'.2 hm'.2 fun k => ⟨fun a => ?_, fun a => ?_⟩
    · rcases List.mem_cons.mp ((h k).mp (List.mem_cons_of_mem _ a)) with b | b
      · have := hl'.1 k a
        omega
      · exact b
    · rcases List.mem_cons.mp ((h k).mpr (List.mem_cons_of_mem _ a)) with b | b
      · have := hm'.1 k a
        omega
      · exact b
def dSortSetI : D → M (List D)
  | .lst ds => match intsOf ds with
    | some ns => if ns.length ≤ 1000 then .ok ((srtI ns).map D.int) else .und
    | none => .und
  | _ => .und
def rSetOfI (K : PySem.W.Frag) (w : World) : List V → Hp → VK → Prop := fun vs H Q => ∃ (a : Addr) (ns : List Int), vs = [V.ref a] ∧ SqL K H a (ns.map V.int) ∧ ns.length ≤ 1000 ∧
  ∀ (p : Addr) (n : Nat), H p = none → n ≤ ns.length → Q (.ref p) (upd H p (SetO w p (fun j => decide (j ∈ ns)) n))
theorem reps_ints {Ω : Addr → Prop} {H : Hp} : ∀ ns : List Int, Reps Ω H (ns.map D.int) (ns.map V.int)
  | [] => Reps.nil
  | n :: r => Reps.cons Rep.int_mk (reps_ints r)
section
variable {X : Cx} {W : Addr → Hp → Prop} {m : Bool} {a : Expr} {f : Ev → M D} {p p2 q pos : Pos}
theorem cr_setOfI (hc : X.calm = true) : CallR X (.type "set") (rSetOfI X.K X.w) := by
  intro pins s σ H vs us Q I r h
  obtain ⟨a, ns, rfl, hs, hl, q⟩ := h
  obtain ⟨its, rv, pl, _⟩ := I.list hs
  rw [Vals.ref1 r]
  have hi : IntsAre its.toArray.toList ns := by
    have := L2.ints_of_vals rv
    simpa using this
  refine set_of_list ns (I.ok.hd hc) pl.isList hi (by unfold scanBound; omega) fun s' hm => ?_
  obtain ⟨h', tk, c, rfl, R, hcl, keep⟩ := hm
  exact ⟨.ref _, upd H s.heap.objs.size (SetO X.w s.heap.objs.size (fun j => decide (j ∈ ns)) c), I.laid (t' := tk) (fun b u e => keep b u e) (Nat.le_refl _) (setO_new R), rfl, q _ c (I.hok.fresh (Nat.le_refl _)) hcl⟩
theorem df_sortSetI (hc : X.calm = true) (hg : Gl X "sorted") (hm : X.mg "sorted" = none) (hg2 : Gl X "set") (hm2 : X.mg "set" = none) (ha : DE X W m a f)
    (na : starEach [a] X.env = (false, eval a X.env) :: starEach [] X.env := by rfl) (hpl : (backTo q (starEach [] X.env)).any (·.1) = false := by rfl)
    (na2 : starEach [Expr.Call (.Name "set" p2) [a] [] q] X.env = (false, eval (.Call (.Name "set" p2) [a] [] q) X.env) :: starEach [] X.env := by rfl) (hpl2 : (backTo pos (starEach [] X.env)).any (·.1) = false := by rfl) :
    DF X W m (.Call (.Name "sorted" p) [.Call (.Name "set" p2) [a] [] q] [] pos) (fun ρ => (f ρ).bind dSortSetI) := by
  have h1 := pe_callTy (cr_setOfI hc) (p := p2) (pos := q) hg2 hm2 PyProof.Rows.boot_set (pa_cons ha pa_nil na) (by decide) (by decide) na hpl
  have h2 := pe_callB (cr_sortedSetB hc) (p := p) (pos := pos) hg hm PyProof.Rows.boot_sorted (pa_cons h1 pa_nil na2) (by decide) (by decide) na2 hpl2
  refine pe_weak h2 fun σ H Q ⟨Ω, ρ, ei, k⟩ => ⟨Ω, ρ, ei, (KM.bind k).imp fun d H1 _ s1 k1 v r => ?_⟩
  cases d with
  | lst ds =>
    obtain ⟨l, vs, e1, _, hv, rs⟩ := r.lst_inv
    subst e1
    unfold dSortSetI at k1
    dsimp only at k1
    cases hi : intsOf ds with
    | none => rw [hi] at k1; exact k1.elim
    | some ns =>
      rw [hi] at k1
      dsimp only at k1
      split at k1
      · rename_i hz
        rw [intsOf_rep hi rs] at hv
        refine ⟨l, ns, rfl, .inl (.inl hv), by omega, fun t n ht hn => ?_⟩
        refine ⟨t, _, n, rfl, upd_same, by omega, fun out u hp hmem hlen hu => ?_⟩
        have e : out = srtI ns := pw_uniq hp (srtI_pw ns) fun k => by rw [hmem, decide_eq_true_eq, srtI_mem]
        have s2 := same_upd (o := SetO X.w t (fun j => decide (j ∈ ns)) n) ht
        have s3 := same_upd (o := HO.lst (out.map V.int)) hu
        refine k1 _ (s2.trans s3) u _ ((s1.trans s2).free hu) upd_same ?_
        rw [e]
        exact reps_ints _
      · exact k1.elim
  | _ => exact k1.elim
end
/-! ### comparisons in a row -/
structure PCh (X : Cx) (pos : Pos) (ops : List CmpOp) (rs : List (Sem Value)) (t : V → L2.St → Hp → VK → Prop) : Prop where
  run : ∀ (pins : List (Addr × Obj)) (s : Shared) (σ : L2.St) (H : Hp) (x : V) (v : Value) (Q : VK), Inv X pins σ H s → RelV x v → t x σ H Q → wpAny (model X.prog X.w) X.A (compareChain pos v ops rs) (EP X pins σ Q) X.xe s
def tChL (r : R2) (tb : TE) : V → L2.St → Hp → VK → Prop := fun x σ H Q => tb σ H fun y H1 => r x y H1 Q
def tChK (r : R2) (tb : TE) (t : V → L2.St → Hp → VK → Prop) : V → L2.St → Hp → VK → Prop := fun x σ H Q => tb σ H fun y H1 => r x y H1 fun z H2 => ∃ k, z = .bl k ∧ (if k = true then t y σ H2 Q else Q (.bl false) H2)
section
variable {X : Cx} {pos : Pos} {op op' : CmpOp} {ops : List CmpOp} {r' : Sem Value} {rs : List (Sem Value)} {r : R2} {a b c : Expr} {es : List Expr} {ta tb : TE} {t : V → L2.St → Hp → VK → Prop}
theorem pch_last (ho : OpR X (compareOp op) r) (hb : PE X b tb) : PCh X pos [op] [eval b X.env] (tChL r tb) :=
  ⟨fun pins s σ H x v Q I rv h => chain_last (thn (hb.run pins s σ H _ I h) fun u s2 ⟨y, H2, I2, r2, q2⟩ => ho pins s2 σ H2 x y v u Q I2 rv r2 q2)⟩
theorem pch_link (ho : OpR X (compareOp op) r) (hb : PE X b tb) (hr : PCh X pos (op' :: ops) (r' :: rs) t) : PCh X pos (op :: op' :: ops) (eval b X.env :: r' :: rs) (tChK r tb t) := by
  refine ⟨fun pins s σ H x v Q I rv h => chain_link (thn (hb.run pins s σ H _ I h) fun u s2 ⟨y, H2, I2, r2, q2⟩ => thn (ho pins s2 σ H2 x y v u _ I2 rv r2 q2) fun d s3 ⟨z, H3, I3, r3, k, e, q3⟩ => ?_)⟩
  subst e
  cases r3
  refine wpAny_truthy_bool ?_
  cases k with
  | false => exact ite_ff ⟨.bl false, H3, I3, rfl, q3⟩
  | true => exact ite_tt (hr.run pins s3 σ H3 y u Q I3 r2 q3)
theorem pe_ch (ha : PE X a ta) (hr : PCh X pos (op :: op' :: ops) (eval b X.env :: eval c X.env :: evalEach es X.env) t) (hm : lastMarks (op :: op' :: ops) (b :: c :: es) = false := by with_unfolding_all rfl) :
    PE X (.Compare a (op :: op' :: ops) (b :: c :: es) pos) (fun σ H Q => ta σ H fun x H1 => t x σ H1 Q) :=
  ⟨fun pins s σ H Q I h => Compare_chain (thn (ha.run pins s σ H _ I h) fun v s1 ⟨x, H1, I1, r1, q1⟩ => hr.run pins s1 σ H1 x v Q I1 r1 q1) hm⟩
end
def chE (o : D → D → M D) (g : Ev → M D) : Ev → D → M D := fun ρ x => (g ρ).bind fun y => o x y
def chR (o : D → D → M D) (g : Ev → M D) (k : Ev → D → M D) : Ev → D → M D := fun ρ x => (g ρ).bind fun y => (o x y).bind fun z => match z with
  | .bl b => if b = true then k ρ y else .ok (.bl false)
  | _ => .und
def xCh (f : Ev → M D) (k : Ev → D → M D) : Ev → M D := fun ρ => (f ρ).bind fun x => k ρ x
def tCD (W : Addr → Hp → Prop) (m : Bool) (k : Ev → D → M D) : V → L2.St → Hp → VK → Prop := fun v σ H Q => ∃ Ω ρ d, EI Ω ρ σ H ∧ Rep (mo m Ω) H d v ∧ KM W (k ρ d) H (VKm m Ω Q)
abbrev DCh (X : Cx) (W : Addr → Hp → Prop) (m : Bool) (pos : Pos) (ops : List CmpOp) (rs : List (Sem Value)) (k : Ev → D → M D) : Prop := PCh X pos ops rs (tCD W m k)
section
variable {X : Cx} {W : Addr → Hp → Prop} {m : Bool} {pos : Pos} {op op' : CmpOp} {ops : List CmpOp} {r' : Sem Value} {rs : List (Sem Value)} {r : R2} {a b c : Expr} {es : List Expr} {o : D → D → M D} {f g : Ev → M D} {k : Ev → D → M D}
theorem pch_weak {t t' : V → L2.St → Hp → VK → Prop} (h : PCh X pos ops rs t) (w : ∀ x σ H Q, t' x σ H Q → t x σ H Q) : PCh X pos ops rs t' := ⟨fun pins s σ H x v Q I rv q => h.run pins s σ H x v Q I rv (w x σ H Q q)⟩
theorem dch_last (ho : OpR X (compareOp op) r) (s : Sv2 r o) (hb : DE X W m b g) : DCh X W m pos [op] [eval b X.env] (chE o g) := by
  refine pch_weak (pch_last ho hb) fun x σ H Q ⟨Ω, ρ, d, e, rd, k⟩ => ⟨Ω, ρ, e, (KM.bind k).imp fun y H1 _ s1 k1 v rv => ?_⟩
  exact s W (mo m Ω) H1 d y x v Q ((e.same s1).hlm m) (Rep.le (.same s1 fun _ z => z) d x rd) rv k1
theorem dch_link (ho : OpR X (compareOp op) r) (s : Sv2 r o) (hb : DE X W m b g) (hr : DCh X W m pos (op' :: ops) (r' :: rs) k) : DCh X W m pos (op :: op' :: ops) (eval b X.env :: r' :: rs) (chR o g k) := by
  refine pch_weak (pch_link ho hb hr) fun x σ H Q ⟨Ω, ρ, d, e, rd, k⟩ => ⟨Ω, ρ, e, (KM.bind k).imp fun y H1 _ s1 k1 v rv => ?_⟩
  refine s W (mo m Ω) H1 d y x v _ ((e.same s1).hlm m) (Rep.le (.same s1 fun _ z => z) d x rd) rv ((KM.bind k1).imp fun z H2 _ s2 k2 w rw_ => ?_)
  cases z with
  | bl kk =>
    refine ⟨kk, rw_.bl_inv, ?_⟩
    cases kk with
    | false =>
      dsimp only at k2
      rw [if_neg Bool.false_ne_true] at k2 ⊢
      exact KM.ok k2 _ Rep.bl_mk
    | true =>
      dsimp only at k2
      rw [if_pos rfl] at k2 ⊢
      exact ⟨Ω, ρ, y, e.same (s1.trans s2), Rep.le (.same s2 fun _ z => z) y v rv, k2⟩
  | _ => exact k2.elim
theorem de_ch (ha : DE X W m a f) (hr : DCh X W m pos (op :: op' :: ops) (eval b X.env :: eval c X.env :: evalEach es X.env) k) (hm : lastMarks (op :: op' :: ops) (b :: c :: es) = false := by with_unfolding_all rfl) :
    DE X W m (.Compare a (op :: op' :: ops) (b :: c :: es) pos) (xCh f k) :=
  pe_weak (pe_ch ha hr hm) fun σ H Q ⟨Ω, ρ, e, k⟩ => ⟨Ω, ρ, e, (KM.bind k).imp fun x H1 _ s1 k1 v rv => ⟨Ω, ρ, x, e.same s1, rv, k1⟩⟩
end
end DI
set_option maxRecDepth 100000
set_option maxHeartbeats 4000000
/-! DI15: any(tuple of ints), enumerate(tuple), tuple[::-1]. -/
namespace L2
open PySem PySem.Spec PyProof.Rows HT
section
variable {prog : Program} {w : World} {A : Around} {E : Value → Shared → Prop} {s : Shared}
/-! ### any(tuple of ints) -/
theorem truth_ints {ns : List Int} {its : List Value} (hit : IntsAre its ns) : TruthOf prog w A (fun i v => its.toArray[i]? = some v) (fun i => ns.getD i 0 != 0) := fun i v s Q E hv hq => by
  have hv' : its[i]? = some v := by simpa using hv
  obtain ⟨t, e⟩ := IntsAre.int_at hit i v hv'
  rw [e]
  exact P.truthy_int hq
theorem any_range0 : ∀ ns : List Int, (List.range ns.length).any (fun i => ns.getD i 0 != 0) = ns.any fun n => n != 0
  | [] => rfl
  | b :: bs => by
    rw [List.length_cons, List.range_succ_eq_map, List.any_cons, List.any_map, List.any_cons, ← any_range0 bs]
    all_goals rfl
/-! ### tuple[::-1] -/
theorem fm_map {α β : Type} {f : α → Option β} {g : α → β} : ∀ {l : List α}, (∀ k ∈ l, f k = some (g k)) → l.filterMap f = l.map g
  | [], _ => rfl
  | x :: l, h => by
    rw [List.filterMap_cons_some (h x List.mem_cons_self), List.map_cons, fm_map fun k hk => h k (List.mem_cons_of_mem _ hk)]
theorem rev_pick (xs : Array Value) : ((List.range xs.size).filterMap fun (k : Nat) => xs[((xs.size : Int) - 1 + (k : Int) * (-1)).toNat]?).toArray = xs.toList.reverse.toArray := by
  congr 1
  apply List.ext_getElem?
  intro i
  have e : ∀ k ∈ List.range xs.size, xs[((xs.size : Int) - 1 + (k : Int) * (-1)).toNat]? = some ((fun (k : Nat) => (xs.toList.reverse).getD k .none) k) := fun k hk => by
    have hk := List.mem_range.mp hk
    have e1 : ((xs.size : Int) - 1 + (k : Int) * (-1)).toNat = xs.size - 1 - k := by omega
    show xs[((xs.size : Int) - 1 + (k : Int) * (-1)).toNat]? = some ((xs.toList.reverse).getD k .none)
    rw [e1, List.getD_eq_getElem?_getD, List.getElem?_reverse (by rw [Array.length_toList]; exact hk), Array.length_toList, Array.getElem?_toList]
    rw [Array.getElem?_eq_getElem (by omega)]
    rfl
  have e2 : (List.range xs.size).filterMap (fun (k : Nat) => xs[((xs.size : Int) - 1 + (k : Int) * (-1)).toNat]?) = (List.range xs.size).map fun (k : Nat) => (xs.toList.reverse).getD k .none := by
    exact fm_map e
  rw [e2, List.getElem?_map]
  by_cases hi : i < xs.size
  · rw [List.getElem?_range hi]
    show some ((xs.toList.reverse).getD i .none) = _
    rw [List.getD_eq_getElem?_getD, List.getElem?_eq_getElem (by rw [List.length_reverse, Array.length_toList]; exact hi)]
    rfl
  · rw [List.getElem?_eq_none (by rw [List.length_range]; omega), List.getElem?_eq_none (by rw [List.length_reverse, Array.length_toList]; omega)]
    rfl
theorem adjust_rev (n : Nat) : Builtin.Slice.sliceAdjust none none (-1) (n : Int) = ((n : Int) - 1, -1) := by
  unfold Builtin.Slice.sliceAdjust
  have h1 : ((-1 : Int) < 0) := by omega
  simp only [h1, if_true]
theorem places_rev (n : Nat) : Builtin.Slice.slicePlaces ((n : Int) - 1) (-1) (-1) = n := by
  unfold Builtin.Slice.slicePlaces
  have h1 : ¬ ((-1 : Int) > 0) := by omega
  simp only [h1, if_false]
  by_cases hn : n = 0
  · subst hn
    rfl
  · rw [if_pos (by omega)]
    have : ((n : Int) - 1 - -1 - 1) / (- -1) = (n : Int) - 1 := by
      rw [Int.neg_neg, Int.ediv_one]
      omega
    rw [this]
    omega
theorem sliceApplied_rev {sl : Addr} {u : Tok} {n : Nat} {Q : Int × Int × Nat → Shared → Prop} (hs : s.heap.IsSliceOf sl .none .none (.int (-1) u))
    (h : Q ((n : Int) - 1, -1, n) s) : wpAny (model prog w) A (Builtin.Slice.sliceApplied (.ref sl) (pure (n : Int))) Q E s := by
  obtain ⟨os, hos, hcs, hds⟩ := id hs
  unfold Builtin.Slice.sliceApplied Builtin.Slice.sliceFields
  refine wpAny_bind (wpAny_bind (wpAny_field hos hds (x := .none) rfl (wpAny_bind (wpAny_field hos hds (x := .none) rfl (wpAny_bind (wpAny_field hos hds (x := .int (-1) u) rfl (wpAny_pure ?_)))))))
  refine wpAny_bind (slicePart_int ?_)
  show wpAny _ _ (if ((-1 : Int) == 0) = true then _ else _) _ _ s
  rw [if_neg (by decide)]
  refine wpAny_bind (slicePart_none (wpAny_bind (slicePart_none (wpAny_bind (wpAny_pure ?_)))))
  show wpAny _ _ (match Builtin.Slice.sliceAdjust none none (-1) (n : Int) with | (lo, hi) => pure (lo, (-1 : Int), Builtin.Slice.slicePlaces lo hi (-1))) _ _ s
  rw [adjust_rev n]
  show wpAny _ _ (pure ((n : Int) - 1, (-1 : Int), Builtin.Slice.slicePlaces ((n : Int) - 1) (-1) (-1))) _ _ s
  rw [places_rev]
  exact wpAny_pure h
theorem getItem_tuple_rev {t sl : Addr} {items : Array Value} {u : Tok} {Q : Value → Shared → Prop} (ht : IsTup s.heap t items) (hs : s.heap.IsSliceOf sl .none .none (.int (-1) u))
    (h : Q (.ref s.heap.objs.size) { s with heap := s.heap.push { cls := .type "tuple", data := .seq items.toList.reverse.toArray } })
    (hsz : items.size ≤ sizeLine) : wpAny (model prog w) A (getItem (.ref t) (.ref sl)) Q E s := by
  have htake : sizeOk (.seq items.toList.reverse.toArray) := by
    show items.toList.reverse.toArray.size ≤ sizeLine
    rw [List.size_toArray, List.length_reverse, Array.length_toList]
    exact hsz
  obtain ⟨os, hos, hcs, hds⟩ := id hs
  have hTs : s.TypeIs (.ref sl) "slice" := ⟨os, hos, hcs⟩
  unfold getItem
  try with_reducible refine wpAny_holding ?_
  first | refine wpAny_bind (wpAny_pure ?_) | skip
  refine wpAny_bind (wpAny_sequenceKey ht.typeIs (by decide) ?_)
  refine wpAny_bind (wpAny_callSpecial?_slot (name := Str.ofString "__getitem__") ht.typeIs PyProof.Rows.slot_tuple_getitem
    (wpAny_call_entry PyProof.Rows.slot_tuple_getitem ht.typeIs entry_tuple_getitem ?_ (args_tuple_getitem _ _)))
  show wpAny _ _ (Builtin.Tuple.tupleItemsOf (.ref t) >>= _) _ _ s
  refine wpAny_bind (tupleItemsOf_ ht ?_)
  refine wpAny_bind (wpAny_typeOf hTs ?_)
  rw [if_pos (by decide)]
  refine wpAny_bind (sliceApplied_rev hs ?_)
  have hno : ¬ ((((items.size : Int) - 1) == 0 && (-1 : Int) == 1 && items.size == items.size) = true) := by
    rw [show ((-1 : Int) == 1) = false by decide, Bool.and_false, Bool.false_and]
    exact Bool.false_ne_true
  show wpAny _ _ (if (((items.size : Int) - 1) == 0 && (-1 : Int) == 1 && items.size == items.size) = true then _ else _) _ _ s
  rw [if_neg hno, rev_pick]
  first
    | exact wpAny_bind (m := Builtin.Tuple.tupleExact _) (wpAny_newObj_type (wpAny_pure ⟨_, rfl, wpAny_pure h⟩) htake)
    | exact wpAny_bind (m := Builtin.Tuple.tupleExact _) (wpAny_newObj_type (wpAny_bind (wpAny_pure (wpAny_pure ⟨_, rfl, wpAny_pure h⟩))) htake)
    | exact wpAny_bind (wpAny_bind (m := Builtin.Tuple.tupleExact _) (wpAny_newObj_type (wpAny_pure (wpAny_pure ⟨_, rfl, wpAny_pure h⟩)) htake))
    | exact wpAny_bind (wpAny_bind (m := Builtin.Tuple.tupleExact _) (wpAny_newObj_type (wpAny_pure ⟨_, rfl, wpAny_pure h⟩) htake))
end
/-! ### enumerate(tuple) -/
theorem meets_enumerate_newT (l : Addr) (items : Array Value) (n : Nat) (dct : Option Addr) (sl : Array (Option Value)) :
    Meets (Builtin.«enumerate.__new__» ⟨[.type "enumerate", .ref l], []⟩) (fun _ R s => s.heap.get? l = some { cls := .type "tuple", dict := dct, data := .seq items n, slots := sl } ∧
      R (.ok (.ret (.ref (s.heap.push { cls := .type "tuple_iterator", data := .fields #[.ref l, .int 0 0] }).objs.size)))
        { s with heap := (s.heap.push { cls := .type "tuple_iterator", data := .fields #[.ref l, .int 0 0] }).push { cls := .type "enumerate", data := .fields #[.none, .bool false, .ref s.heap.objs.size, rawInt 0, .none, .none] } }) :=
  .of_wp fun prog w A R s h => by
    obtain ⟨hp, g, d, tk, os⟩ := s; obtain ⟨hl, h⟩ := h
    have hsub := sub_enumerate
    have hL : Heap.IsTuple (Shared.heap ⟨hp, g, d, tk, os⟩) l items := ⟨_, hl, rfl, n, rfl⟩
    wp_walk using AutoSeq1.wpAny_loadPart' hl
    refine wpAny_stack_any fun st => wpAny_pure ?_
    split
    · rename_i c _ _ _ _ _
      cases (c == Value.type "enumerate")
      · wp_walk using AutoSeq1.wpAny_loadPart' hl, wpAny_pyIter_tuple hL
        exact ⟨_, rfl, h⟩
      · wp_walk using AutoSeq1.wpAny_loadPart' hl, wpAny_pyIter_tuple hL
        exact ⟨_, rfl, h⟩
    · wp_walk using AutoSeq1.wpAny_loadPart' hl, wpAny_pyIter_tuple hL
      exact ⟨_, rfl, h⟩
section
variable {prog : Program} {w : World} {A : Around} {E : Value → Shared → Prop} {s : Shared}
theorem call_enumerate_tuple {l : Addr} {items : Array Value} {Q : Value → Shared → Prop} (hL : s.heap.IsTuple l items)
    (h : ∀ h', IsEnum h' (s.heap.objs.size + 1) s.heap.objs.size 0 .none → h'.IsTupleIter s.heap.objs.size l 0 → h'.objs.size = s.heap.objs.size + 2 →
      (∀ b o, s.heap.get? b = some o → h'.get? b = some o) → Q (.ref (s.heap.objs.size + 1)) { s with heap := h' }) :
    wpAny (model prog w) A (call (.type "enumerate") [.ref l]) Q E s := by
  obtain ⟨⟨c, dct, dt, sl⟩, hl, hc, n, hd⟩ := hL
  replace hc : c = .type "tuple" := hc
  replace hd : dt = .seq items n := hd
  subst hc hd
  refine callType_new F.called_enumerate (by decide) (F.typeCall_enumerate_1 _) (F.newCall_enumerate_1 _) (fun obj => F.args_object_init_2 obj _) F.entry_enumerate_new
    (meets_enumerate_newT l items n dct sl) ⟨hl, ?_⟩
  have hz : (s.heap.push { cls := .type "tuple_iterator", data := .fields #[.ref l, .int 0 0] }).objs.size = s.heap.objs.size + 1 := Heap.size_push ..
  show _ ∧ _
  rw [hz]
  have he : IsEnum ((s.heap.push { cls := .type "tuple_iterator", data := .fields #[.ref l, .int 0 0] }).push
      { cls := .type "enumerate", data := .fields #[.none, .bool false, .ref s.heap.objs.size, rawInt 0, .none, .none] }) (s.heap.objs.size + 1) s.heap.objs.size 0 .none := by
    have := Heap.get?_push_size (s.heap.push { cls := .type "tuple_iterator", data := .fields #[.ref l, .int 0 0] })
      (o := { cls := .type "enumerate", data := .fields #[.none, .bool false, .ref s.heap.objs.size, rawInt 0, .none, .none] }) rfl
    rw [hz] at this; exact this
  refine ⟨⟨_, he, rfl⟩, h _ he ⟨_, Heap.get?_push_of_some _ (Heap.get?_push_size _ rfl), rfl, rfl⟩ (by rw [Heap.size_push, hz]) fun b o x => Heap.get?_push_of_some _ (Heap.get?_push_of_some _ x)⟩
end
/-- the tuple at a as it stands, each item in a new pair -/
def IteT (K : PySem.W.Frag) (a : Addr) : It :=
  ⟨fun i H => ∃ (xs : List V) (x : V), SqT K H a xs ∧ xs[i]? = some x, fun i H v H' => ∃ T x, v = .ref T ∧ H T = none ∧ H' = upd H T (.tup [.int (i : Nat), x]) ∧ ∀ xs, SqT K H a xs → xs[i]? = some x, fun i H => ∃ xs : List V, SqT K H a xs ∧ xs.length = i⟩
theorem turn_enumT {P : Program} {w : World} {K : PySem.W.Frag} {elts : List Expr} {kk : Nat} {tpos : Pos} (a e it : Addr) (hat : a ≠ it) (hae : a ≠ e) :
    Turn P w K (.Tuple elts kk tpos) (IteT K a) [e, it] e (fun i h => (∃ old, IsEnum h e it ((i : Nat) : Int) old) ∧ h.IsTupleIter it a i ∧ e ≠ it) where
  mem := by simp
  obj := fun i h st b hb => by
    obtain ⟨⟨old, he⟩, ⟨o, ho, hc, hd⟩, _⟩ := st
    have e' : b = e ∨ b = it := by simpa using hb
    rcases e' with z | z
    · rw [z]; exact ⟨_, he, fun v q => nomatch q⟩
    · rw [z]; exact ⟨o, ho, fun v q => by rw [hd] at q; cases q⟩
  keep := fun i h h' st k => let ⟨⟨old, he⟩, hi, hne⟩ := st; ⟨⟨old, k e (by simp) _ he⟩, hi.at fun o q => k it (by simp) o q, hne⟩
  item := by
    intro X hP hw hK hc i pins s σ H E I hf st hg
    subst hP hw hK
    obtain ⟨⟨old, he⟩, hit, hne⟩ := st
    obtain ⟨xs, x, hq, hx⟩ := hg
    obtain ⟨its, rv, p, hz⟩ := I.tuple hq
    obtain ⟨u, hu, ru⟩ := rv.get hx
    have hel : e < s.heap.objs.size := Heap.lt_size he
    have hil : it < s.heap.objs.size := by obtain ⟨_, q, _⟩ := hit; exact Heap.lt_size q
    have hul : i < its.toArray.size := by
      rw [List.size_toArray]
      exact (List.getElem?_eq_some_iff.mp hu).1
    refine wpAny_pyNext_enum_itemD (Draws.tuple (A := X.A.in1) (I.ok.hd hc) it a hat its.toArray) he ⟨hit, p⟩ hul hne (by simp; exact ⟨hne, fun z => hae z.symm⟩) fun x1 h' tk hP ho hit' hT hsz hk => ?_
    have ex : x1 = u := by
      have hP : its.toArray[i]? = some x1 := hP
      have : its[i]? = some x1 := by simpa using hP
      rw [hu] at this
      exact (Option.some.inj this).symm
    subst ex
    refine ⟨_, rfl, wpAny_letOwnedTupleGo_enum (s := { s with heap := h', toks := tk + 1 }) ho fun h'' he' sb => ?_⟩
    have hT2 : h''.get? s.heap.objs.size = some { cls := .type "tuple", data := .seq #[.int i tk, x1] } := (sb.2 _ (Nat.ne_of_gt hel)).trans hT
    have new : ObjOk X.prog X.w (upd H s.heap.objs.size (.tup [.int (i : Nat), x])) h'' s.heap.objs.size (.tup [.int (i : Nat), x]) :=
      ⟨by show 2 ≤ sizeLine; decide, [.int i tk, x1], .cons ⟨_, rfl⟩ (.cons ru .nil), ⟨_, hT2, rfl, _, rfl⟩⟩
    have I1 : Inv X pins σ (upd H s.heap.objs.size (.tup [.int (i : Nat), x])) { s with heap := h'', toks := tk + 1 } :=
      I.turnedNew (ch := [e, it]) (fun b ob hb q => (sb.2 b (fun z => hb (by simp [z]))).trans (hk b ob (fun z => hb (by simp [z])) (fun z => hb (by simp [z])) q)) hf (Nat.le_refl _) new
    refine ⟨.ref s.heap.objs.size, _, I1, rfl, ⟨_, x, rfl, I.hok.fresh (Nat.le_refl _), rfl, fun ys hy => by rw [I.tuple_inj hy hq]; exact hx⟩, ⟨⟨x1, ?_⟩, hit'.1.at fun o q => (sb.2 it (Ne.symm hne)).trans q, hne⟩, fun b hb => ?_⟩
    · have e1 : ((i + 1 : Nat) : Int) = (i : Int) + 1 := by omega
      rw [e1]; exact he'
    · have hb' : b < s.heap.objs.size := by
        have e' : b = e ∨ b = it := by simpa using hb
        rcases e' with z | z
        · rw [z]; exact hel
        · rw [z]; exact hil
      rw [upd_ne (Nat.ne_of_lt hb')]
      exact (hf b hb).1
  done := by
    intro X hP hw hK hc i pins s σ H E I hf st hg
    subst hP hw hK
    obtain ⟨⟨old, he⟩, hit, hne⟩ := st
    obtain ⟨xs, hq, hx⟩ := hg
    obtain ⟨its, rv, p, hz⟩ := I.tuple hq
    obtain ⟨f0, f1, f2, f3, f4, f5⟩ := hf it (by simp)
    have hl := rv.length
    have hi : i = its.toArray.size := by rw [List.size_toArray, ← hl, hx]
    subst hi
    exact wpAny_pyNext_enum_endD (Draws.tuple (A := X.A.in1) (I.ok.hd hc) it a hat its.toArray) he ⟨hit, p⟩ fun h' eb => ⟨rfl, I.turned (t' := s.toks) (fun b o hb q => eb b o hb q) f0 f1 f3 f4 f5⟩
  self := fun A i s Q E st h => let ⟨⟨_, he⟩, _⟩ := st; wpAny_pyIter_enum he h
def iEnumT (K : PySem.W.Frag) (ta : TA) : TI := fun σ H R => ta σ H fun vs H1 => ∃ a xs, vs = [.ref a] ∧ SqT K H1 a xs ∧ R (IteT K a) H1
theorem pi_enumT {X : Cx} {e : Expr} {ta : TA} {p pos tpos : Pos} {elts : List Expr} {kk : Nat} (hg : Gl X "enumerate") (hm : X.mg "enumerate" = none) (ha : PA X [e] ta) (hs : starEach [e] X.env = [(false, eval e X.env)] := by rfl) :
    PI X (.Tuple elts kk tpos) (.Call (.Name "enumerate" p) [e] [] pos) (iEnumT X.K ta) := by
  refine ⟨fun pins s σ H R I h => ?_⟩
  refine Call_ (ld_blt I hg hm boot_enumerate (PyProof.Rows.callWith_type1 (thn (ha.run pos pins s σ H _ I h) fun us s1 ⟨vs, H1, I1, r1, q1⟩ => ?_) hs rfl))
  obtain ⟨a, xs, ex, hq, q⟩ := q1
  subst ex
  cases r1 with
  | cons r rr =>
    cases rr
    cases r
    obtain ⟨its, rv, p', hz⟩ := I1.tuple hq
    have hlt : a < s1.heap.objs.size := by obtain ⟨_, z, _⟩ := p'; exact Heap.lt_size z
    refine call_enumerate_tuple (items := its.toArray) p' fun h' he hit hsz hk => wpAny_pyIter_enum he ?_
    have I2 : Inv X pins σ H1 { s1 with heap := h' } := I1.kept (t' := s1.toks) hk
    refine ⟨s1.heap.objs.size + 1, [s1.heap.objs.size + 1, s1.heap.objs.size], _, _, H1, rfl, I2, turn_enumT a (s1.heap.objs.size + 1) s1.heap.objs.size (Nat.ne_of_lt hlt) (Nat.ne_of_lt (Nat.lt_succ_of_lt hlt)), ⟨⟨.none, he⟩, hit, Nat.succ_ne_self _⟩, fun b hb => ?_, q⟩
    have e' : b = s1.heap.objs.size + 1 ∨ b = s1.heap.objs.size := by simpa using hb
    have hle : s1.heap.objs.size ≤ b := by
      rcases e' with z | z
      · rw [z]; exact Nat.le_add_right _ _
      · rw [z]; exact Nat.le_refl _
    exact I1.fpOk hle (I1.hok.fresh hle)
section
variable {X : Cx}
def rAnyIT (K : PySem.W.Frag) : List V → Hp → VK → Prop := fun vs H Q => ∃ (a : Addr) (ns : List Int), vs = [V.ref a] ∧ SqT K H a (ns.map V.int) ∧ Q (.bl (ns.any fun n => n != 0)) H
theorem cr_anyIT (hc : X.calm = true) : CallR X (.builtin "any") (rAnyIT X.K) := by
  intro pins s σ H vs us Q I r h
  obtain ⟨a, ns, rfl, hs, q⟩ := h
  obtain ⟨its, rv, hl, _⟩ := I.tuple hs
  rw [Vals.ref1 r]
  have hi : IntsAre its ns := rv.ints
  have hlt : a < s.heap.objs.size := by obtain ⟨_, z, _⟩ := hl; exact Heap.lt_size z
  refine call_any_walk (wpAny_pyIter_tuple (items := its.toArray) hl ?_)
  refine ⟨_, _, _, _, _, _, _, rfl, Walks.tuple (A := X.A.in1) (I.ok.hd hc) s.heap.objs.size a (Nat.ne_of_lt hlt) its.toArray, ⟨⟨_, Heap.get?_push_size _ rfl, rfl, rfl⟩, hl.push _⟩, truth_ints hi, fun h' tk hk => ?_⟩
  refine ⟨.bl _, H, I.kept fun b o eo => hk b o (fun hmem => ?_) (Heap.get?_push_of_some _ eo), ?_, q⟩
  · rcases List.mem_cons.mp hmem with e1 | hmem
    · exact absurd (e1 ▸ Heap.lt_size eo) (Nat.lt_irrefl _)
    · cases hmem
  · show Value.bool _ = Value.bool _
    rw [← any_range0, List.size_toArray, IntsAre.length hi]
def tRevT (K : PySem.W.Frag) (te : TE) : TE := fun σ H Q => te σ H fun x H1 => ∃ a xs, x = .ref a ∧ SqT K H1 a xs ∧ ∀ p, H1 p = none → Q (.ref p) (upd H1 p (.tup xs.reverse))
theorem vals_rev : ∀ {xs : List V} {us : List Value}, Vals xs us → Vals xs.reverse us.reverse
  | _, _, .nil => .nil
  | _, _, .cons r rr => by
    rw [List.reverse_cons, List.reverse_cons]
    exact (vals_rev rr).append (.cons r .nil)
theorem pe_revT {e est : Expr} {te : TE} {ts : TO} {p3 pos : Pos} (he : PE X e te) (hst : PO X (some est) ts) (hws : ∀ σ H Q, Q (some (-1)) H → ts σ H Q)
    (hsub : ∀ o i, subscripted (.Slice none none (some est) p3) false o i = operate [o, i] (getItem o i) := by intro _ _; with_unfolding_all rfl) : PE X (.Subscript e (.Slice none none (some est) p3) pos) (tRevT X.K te) := by
  refine ⟨fun pins s σ H Q I hh => ?_⟩
  refine Subscript_ (thn (he.run pins s σ H _ I hh) fun v s1 ⟨x, H1, I1, r1, q1⟩ => ?_)
  obtain ⟨a, xs, ex, hx, q⟩ := q1
  subst ex
  cases r1
  refine wpAny_Slice (thn (po_none.run pins s1 σ H1 (fun o H2 => o = none ∧ H2 = H1) I1 ⟨rfl, rfl⟩) fun vl s2 ⟨l, H2, I2, pl, el, e2⟩ => ?_)
  subst el e2
  refine thn (po_none.run pins s2 σ H2 (fun o H3 => o = none ∧ H3 = H2) I2 ⟨rfl, rfl⟩) fun vu s3 ⟨u, H3, I3, pu, eu, e3⟩ => ?_
  subst eu e3
  refine thn (hst.run pins s3 σ H3 (fun o H4 => o = some (-1) ∧ H4 = H3) I3 (hws _ _ _ ⟨rfl, rfl⟩)) fun vs s4 ⟨o, H4, I4, ps, eo, e4⟩ => ?_
  subst eo e4
  cases pl
  cases pu
  cases ps with
  | int i t =>
    have I5 : Inv X pins σ H4 { s4 with heap := s4.heap.push { cls := .type "slice", data := .fields #[.none, .none, .int (-1) t] } } := I4.kept (t' := s4.toks) fun b ob q => Heap.get?_push_of_some _ q
    obtain ⟨its, r, ht, hz⟩ := I5.tuple hx
    have hlen := r.length
    refine tail_any (ops := [.ref a, .ref s4.heap.objs.size]) ht.typeIs PyProof.Rows.slot_tuple_getitem.lookup ?_ (hsub _ _)
    refine getItem_tuple_rev ht (Heap.IsSliceOf.new _ .none .none (.int (-1) t)) ?_ (by rw [List.size_toArray]; omega)
    refine ⟨.ref _, _, I5.laid (t' := s4.toks) (o := .tup xs.reverse) (fun b ob q => Heap.get?_push_of_some _ q) (Nat.le_refl _) ?_, rfl, q _ (I5.hok.fresh (Nat.le_refl _))⟩
    exact ⟨by rw [List.length_reverse]; exact hz, _, vals_rev r, IsTup.new _ _⟩
end
end L2
namespace DI
open PySem PySem.Spec PyProof.Rows L2
def dAnyIT : List D → M D
  | [.tup ds] => (ofO (intsOf ds)).bind fun is => .ok (.bl (is.any fun n => n != 0))
  | _ => .und
def dEnumT : List D → M (List D)
  | [.tup xs] => .ok (enumD xs)
  | _ => .und
def dRevT : D → M D
  | .tup ds => .ok (.tup ds.reverse)
  | _ => .und
theorem walkD_enumT {K : PySem.W.Frag} {a : Addr} {ds : List D} : WalkD (IteT K a) (enumD ds) [(.tup ds, .ref a)] := by
  have get : ∀ {Ω : Addr → Prop} {H : Hp}, (∀ g ∈ [((D.tup ds), V.ref a)], Rep Ω H g.1 g.2) → ∃ vs, H a = some (.tup vs) ∧ Reps Ω H ds vs := fun {Ω H} h => by
    obtain ⟨p, vs, e, q, r⟩ := (h _ List.mem_cons_self).tup_inv
    cases e
    exact ⟨vs, q, r⟩
  have hlen : (enumD ds).length = ds.length := by unfold enumD; rw [zipD_len, rgD_len]; omega
  refine ⟨fun Ω H i hi h => ?_, fun Ω H h => ?_, fun Ω H i x H' hi h y => ?_⟩
  · obtain ⟨vs, q, r⟩ := get h
    rw [hlen, r.length] at hi
    exact ⟨vs, vs[i], .inl (.inl q), List.getElem?_eq_getElem hi⟩
  · obtain ⟨vs, q, r⟩ := get h
    exact ⟨vs, .inl (.inl q), by rw [hlen, r.length]⟩
  · obtain ⟨vs, q, r⟩ := get h
    obtain ⟨T, x1, e, hT, e2, h1⟩ := y
    subst e e2
    have sm : Same H (upd H T (.tup [.int (i : Nat), x1])) := same_upd hT
    refine ⟨sm, fun d hd => ?_⟩
    obtain ⟨dx, dy, k1, k2, e⟩ := zipD_get hd
    subst e
    rw [rgD_get k1]
    obtain ⟨v1, g1, g2⟩ := r.get k2
    rw [h1 vs (.inl (.inl q))] at g1
    cases g1
    refine Rep.tup_mk upd_same (Reps.le (.same sm fun _ z => z) _ _ (Reps.cons ?_ (Reps.cons g2 Reps.nil)))
    rw [Int.mul_one, Int.zero_add]
    exact Rep.int_mk
section
variable {X : Cx} {W : Addr → Hp → Prop} {m : Bool} {f : Ev → M D} {fs : Ev → M (List D)} {a e e2 e3 tg : Expr} {pf pos tpos : Pos} {elts : List Expr} {kk : Nat}
theorem di_enumT (hg : Gl X "enumerate") (hm : X.mg "enumerate" = none) (ha : DA X W m [e] fs) (hs : starEach [e] X.env = [(false, eval e X.env)] := by rfl) : DIt X W m (.Tuple elts kk tpos) (.Call (.Name "enumerate" pf) [e] [] pos) (xAll dEnumT fs) := by
  refine pi_weak (pi_enumT hg hm ha hs) fun σ H R ⟨Ω, ρ, ei, k⟩ => ⟨Ω, ρ, ei, (KM.bind k).imp fun ds H1 _ s1 k1 vs rs => ?_⟩
  unfold dEnumT at k1
  split at k1
  · obtain ⟨v, e1, r⟩ := rs.one
    obtain ⟨p, ws, e, q1, r1⟩ := r.tup_inv
    subst e1 e
    exact ⟨p, ws, rfl, .inl (.inl q1), KM.ok k1 _ _ walkD_enumT fun g hg => by rw [List.mem_singleton.mp hg]; exact r⟩
  · exact k1.elim
theorem sv_anyIT {K : PySem.W.Frag} : SvL (rAnyIT K) dAnyIT := by
  intro W Ω H xs vs Q hl rs k
  unfold dAnyIT at k
  split at k
  · rename_i ds
    obtain ⟨v, e, r⟩ := rs.one
    obtain ⟨p, us, e2, q, rr⟩ := r.tup_inv
    subst e e2
    cases hi : intsOf ds with
    | none => rw [hi] at k; exact k.elim
    | some is =>
      rw [hi] at k
      rw [intsOf_rep hi rr] at q
      exact ⟨p, is, rfl, .inl (.inl q), KM.ok (KM.bind k).ok _ Rep.bl_mk⟩
  · exact k.elim
theorem de_anyIT (hc : X.calm = true) (hg : Gl X "any") (hm : X.mg "any" = none) (ha : DA X W m [a] fs)
    (he : starEach [a] X.env = (false, eval a X.env) :: starEach [] X.env := by rfl) (hpl : (backTo pos (starEach [] X.env)).any (·.1) = false := by rfl) : DE X W m (.Call (.Name "any" pf) [a] [] pos) (xAll dAnyIT fs) :=
  de_callB (cr_anyIT hc) sv_anyIT hg hm PyProof.Rows.boot_any ha (by decide) (by decide) he hpl
theorem reps_rev {Ω : Addr → Prop} {H : Hp} : ∀ {ds : List D} {vs : List V}, Reps Ω H ds vs → Reps Ω H ds.reverse vs.reverse := fun {ds vs} r => by
  refine Reps.of_get (by rw [List.length_reverse, List.length_reverse, r.length]) fun i d v h1 h2 => ?_
  have hi : i < ds.length := by
    have := (List.getElem?_eq_some_iff.mp h1).1
    rwa [List.length_reverse] at this
  rw [List.getElem?_reverse hi] at h1
  rw [List.getElem?_reverse (by rw [← r.length]; exact hi), ← r.length] at h2
  obtain ⟨v', g1, g2⟩ := r.get h1
  rw [h2] at g1
  cases g1
  exact g2
theorem de_revT {est : Expr} {ts : TO} {p3 : Pos} (he : DE X W m e f) (hst : PO X (some est) ts) (hws : ∀ σ H Q, Q (some (-1)) H → ts σ H Q)
    (hsub : ∀ o i, subscripted (.Slice none none (some est) p3) false o i = operate [o, i] (getItem o i) := by intro _ _; with_unfolding_all rfl) : DE X W m (.Subscript e (.Slice none none (some est) p3) pos) (x1 dRevT f) := by
  refine pe_weak (pe_revT he hst hws hsub) fun σ H Q ⟨Ω, ρ, ei, k⟩ => ⟨Ω, ρ, ei, (KM.bind k).imp fun d H1 _ s1 k1 v r => ?_⟩
  cases d with
  | tup ds =>
    obtain ⟨p, vs, e1, q, rs⟩ := r.tup_inv
    refine ⟨p, vs, e1, .inl (.inl q), fun q hq => ?_⟩
    exact k1 _ (same_upd hq) _ (Rep.tup_mk upd_same (Reps.le (.same (same_upd hq) fun _ z => z) _ _ (reps_rev rs)))
  | _ => exact k1.elim
end
end DI
/-! Ev: how the pure functions are reckoned. -/
namespace DI
open PySem PySem.Spec PyProof.Rows L2
section
variable {α β : Type} {ρ : Ev} {f g h : Ev → M D} {fs : Ev → M (List D)} {a b : Ev → S}
@[simp] theorem e_bind_ok (x : α) (k : α → M β) : (M.ok x).bind k = k x := rfl
@[simp] theorem e_bind_und (k : α → M β) : (M.und : M α).bind k = .und := rfl
@[simp] theorem e_bind_ex (c : Addr) (k : α → M β) : (M.ex c : M α).bind k = .ex c := rfl
@[simp] theorem e_x1 (op : D → M D) : x1 op f ρ = (f ρ).bind op := rfl
@[simp] theorem e_x2 (op : D → D → M D) : x2 op f g ρ = (f ρ).bind fun x => (g ρ).bind fun y => op x y := rfl
@[simp] theorem e_xC (d : D) : xC d ρ = .ok d := rfl
@[simp] theorem e_xVar (i : Nat) : xVar i ρ = match ρ[i]? with
  | some (some (.v d)) => .ok d
  | _ => .und := rfl
@[simp] theorem e_xOwn (i : Nat) : xOwn i ρ = match ρ[i]? with
  | some (some (.v d)) => .ok d
  | some (some (.o ds)) => .ok (.lst ds)
  | some (some (.oi C n ds)) => .ok (.ins C [n] [.lst ds])
  | _ => .und := rfl
@[simp] theorem e_xFlat : xFlat f ρ = (f ρ).bind fun d => if d.flat then .ok d else .und := rfl
@[simp] theorem e_xNil : xNil ρ = .ok [] := rfl
@[simp] theorem e_xCons : xCons f fs ρ = (f ρ).bind fun x => (fs ρ).bind fun xs => .ok (x :: xs) := rfl
@[simp] theorem e_xAll (op : List D → M α) : xAll op fs ρ = (fs ρ).bind op := rfl
@[simp] theorem e_xTru : xTru f ρ = (f ρ).bind D.tru := rfl
@[simp] theorem e_bBl : bBl f ρ = (f ρ).bind fun d => match d with
  | .bl b => .ok b
  | _ => .und := rfl
variable {p q : Ev → M Bool}
@[simp] theorem e_bAnd : bAnd p q ρ = (p ρ).bind fun b => if b = true then q ρ else .ok false := rfl
@[simp] theorem e_bOr : bOr p q ρ = (p ρ).bind fun b => if b = true then .ok true else q ρ := rfl
@[simp] theorem e_bNot : bNot p ρ = (p ρ).bind fun b => .ok (!b) := rfl
@[simp] theorem e_bYes : bYes ρ = .ok true := rfl
@[simp] theorem e_xIf : xIf p f g ρ = (p ρ).bind fun b => if b = true then f ρ else g ρ := rfl
@[simp] theorem e_xAnd : xAnd f g ρ = (f ρ).bind fun d => match d with
  | .bl b => if b = true then g ρ else .ok (.bl false)
  | _ => .und := rfl
@[simp] theorem e_xOr : xOr f g ρ = (f ρ).bind fun d => match d with
  | .bl b => if b = true then .ok (.bl true) else g ρ
  | _ => .und := rfl
@[simp] theorem e_xNot : xNot f ρ = (f ρ).bind fun d => match d with
  | .bl b => .ok (.bl (!b))
  | _ => .und := rfl
@[simp] theorem e_xChain (o o' : D → D → M D) : xChain o o' f g h ρ = (f ρ).bind fun x => (g ρ).bind fun y => (o x y).bind fun z => match z with
  | .bl k => if k = true then (h ρ).bind fun u => o' y u else .ok (.bl false)
  | _ => .und := rfl
@[simp] theorem e_xLst : xLst fs ρ = (fs ρ).bind fun ds => .ok (.lst ds) := rfl
@[simp] theorem e_xItems : xItems f ρ = (f ρ).bind dItems := rfl
@[simp] theorem e_xSlice (lo hi : Ev → M (Option Int)) : xSlice f lo hi ρ = (f ρ).bind fun d => (lo ρ).bind fun l => (hi ρ).bind fun h => dSlice d l h := rfl
@[simp] theorem e_xSliceS (K : PySem.W.Frag) (lo hi : Ev → M (Option Int)) : xSliceS K f lo hi ρ = (f ρ).bind fun d => (lo ρ).bind fun l => (hi ρ).bind fun h => dSliceS K d l h := rfl
@[simp] theorem e_pNone : pNone ρ = .ok none := rfl
@[simp] theorem e_pSome : pSome f ρ = (f ρ).bind fun d => match d with
  | .int i => .ok (some i)
  | _ => .und := rfl
@[simp] theorem e_callF (n : Nat) (F : Fn) (ds : List D) : callF n F ds = if ds.length = n then F ds else .und := rfl
-- statements
@[simp] theorem e_ofM_ok (x : α) (k : α → S) : S.ofM (.ok x) k = k x := rfl
@[simp] theorem e_ofM_ex (c : Addr) (k : α → S) : S.ofM (.ex c) k = .ex c := rfl
@[simp] theorem e_ofM_und (k : α → S) : S.ofM .und k = .und := rfl
@[simp] theorem e_then_nx (r : Ev) (k : Ev → S) : (S.nx r).then k = k r := rfl
@[simp] theorem e_then_rt (d : D) (k : Ev → S) : (S.rt d).then k = .rt d := rfl
@[simp] theorem e_then_ex (c : Addr) (k : Ev → S) : (S.ex c).then k = .ex c := rfl
@[simp] theorem e_sNil : sNil ρ = .nx ρ := rfl
@[simp] theorem e_sSeq : sSeq a b ρ = (a ρ).then b := rfl
@[simp] theorem e_sSet (i : Nat) : sSet i f ρ = S.ofM (f ρ) fun d => .nx (ρ.set i (some (.v d))) := rfl
@[simp] theorem e_sOwn (i : Nat) : sOwn i fs ρ = S.ofM (fs ρ) fun ds => .nx (ρ.set i (some (.o ds))) := rfl
@[simp] theorem e_sAsg (tf : D → Ev → M Ev) : sAsg f tf ρ = S.ofM (f ρ) fun d => match tf d ρ with
  | .ok ρ' => .nx ρ'
  | _ => .und := rfl
@[simp] theorem e_sPar (i j : Nat) : sPar i j fs ρ = S.ofM (fs ρ) fun ds => match ds with
  | [d, e] => .nx ((ρ.set i (some (.v d))).set j (some (.v e)))
  | _ => .und := rfl
@[simp] theorem e_sParO (i j : Nat) : sParO i j fs g ρ = S.ofM (fs ρ) fun ds => S.ofM (g ρ) fun d => .nx ((ρ.set i (some (.o ds))).set j (some (.v d))) := rfl
@[simp] theorem e_sAsg3O (i j l : Nat) : sAsg3O i j l f g fs ρ = S.ofM (f ρ) fun x => S.ofM (g ρ) fun y => S.ofM (fs ρ) fun ds => .nx (((ρ.set i (some (.v x))).set j (some (.v y))).set l (some (.o ds))) := rfl
@[simp] theorem e_sDrop : sDrop f ρ = S.ofM (f ρ) fun _ => .nx ρ := rfl
@[simp] theorem e_sRet : sRet f ρ = S.ofM (f ρ) fun d => .rt d := rfl
@[simp] theorem e_sRetN : sRetN ρ = .rt .non := rfl
@[simp] theorem e_sIf : sIf p a b ρ = S.ofM (p ρ) fun k => if k = true then a ρ else b ρ := rfl
@[simp] theorem e_sFrz (i : Nat) : sFrz i a ρ = a (frz i ρ) := rfl
@[simp] theorem e_sApp (i : Nat) : sApp i f ρ = oAt i ρ fun ds => S.ofM (f ρ) fun d => oPut i ρ (gApp d ds) := rfl
@[simp] theorem e_oAt (i : Nat) (k : List D → S) : oAt i ρ k = match ρ[i]? with
  | some (some (.o ds)) => k ds
  | _ => .und := rfl
@[simp] theorem e_oPut (i : Nat) (m : M (List D)) : oPut i ρ m = S.ofM m fun es => .nx (ρ.set i (some (.o es))) := rfl
@[simp] theorem e_frz (i : Nat) : frz i ρ = match ρ[i]? with
  | some (some (.o ds)) => ρ.set i (some (.v (.lst ds)))
  | some (some (.oi C n ds)) => ρ.set i (some (.v (.ins C [n] [.lst ds])))
  | _ => ρ := rfl
@[simp] theorem e_sFor (tf : D → Ev → M Ev) : sFor fs tf b ρ = S.ofM (fs ρ) fun items => forS tf b items ρ := rfl
@[simp] theorem e_sWhile (μ : Ev → Nat) : sWhile μ p b ρ = whileS p b (μ ρ) ρ := rfl
-- targets
@[simp] theorem e_tgN (i : Nat) (d : D) : tgN i d ρ = .ok (ρ.set i (some (.v d))) := rfl
@[simp] theorem e_tgNil : tgNil [] ρ = .ok ρ := rfl
@[simp] theorem e_tgCons (t : D → Ev → M Ev) (u : List D → Ev → M Ev) (d : D) (r : List D) : tgCons t u (d :: r) ρ = (t d ρ).bind fun ρ' => u r ρ' := rfl
@[simp] theorem e_tgT_t (n : Nat) (t : List D → Ev → M Ev) (ds : List D) : tgT n t (.tup ds) ρ = if ds.length = n then t ds ρ else .und := rfl
@[simp] theorem e_tgT_l (n : Nat) (t : List D → Ev → M Ev) (ds : List D) : tgT n t (.lst ds) ρ = if ds.length = n then t ds ρ else .und := rfl
-- operations
@[simp] theorem e_add (i j : Int) : dAdd (.int i) (.int j) = .ok (.int (i + j)) := rfl
@[simp] theorem e_sub (i j : Int) : dSub (.int i) (.int j) = .ok (.int (i - j)) := rfl
@[simp] theorem e_neg (i : Int) : dNeg (.int i) = .ok (.int (-i)) := rfl
@[simp] theorem e_cmp (r : Int → Int → Bool) (i j : Int) : dCmp r (.int i) (.int j) = .ok (.bl (r i j)) := rfl
@[simp] theorem e_ofO_some (x : α) : ofO (some x) = .ok x := rfl
@[simp] theorem e_ofO_none : ofO (none : Option α) = .und := rfl
@[simp] theorem e_ixL (ds : List D) (i : Int) : dIx (.lst ds) (.int i) = ofO (atI ds i) := rfl
@[simp] theorem e_ixT (ds : List D) (i : Int) : dIx (.tup ds) (.int i) = ofO (atI ds i) := rfl
@[simp] theorem e_lenL (ds : List D) : dLen [.lst ds] = .ok (.int ds.length) := rfl
@[simp] theorem e_lenT (ds : List D) : dLen [.tup ds] = .ok (.int ds.length) := rfl
@[simp] theorem e_itL (ds : List D) : dItems (.lst ds) = .ok ds := rfl
@[simp] theorem e_itT (ds : List D) : dItems (.tup ds) = .ok ds := rfl
@[simp] theorem e_tupL (ds : List D) : dTuple [.lst ds] = .ok (.tup ds) := rfl
@[simp] theorem e_tupT (ds : List D) : dTuple [.tup ds] = .ok (.tup ds) := rfl
@[simp] theorem e_listL (ds : List D) : dListF [.lst ds] = .ok ds := rfl
@[simp] theorem e_truB (b : Bool) : (D.bl b).tru = .ok b := rfl
@[simp] theorem e_truI (i : Int) : (D.int i).tru = .ok (i != 0) := rfl
@[simp] theorem e_zipT (xs ys : List D) : dZip [.tup xs, .tup ys] = .ok (zipD xs ys) := rfl
@[simp] theorem e_zipL (xs ys : List D) : dZip [.lst xs, .lst ys] = .ok (zipD xs ys) := rfl
@[simp] theorem e_enum (xs : List D) : dEnum [.lst xs] = .ok (enumD xs) := rfl
@[simp] theorem e_zipD_cons (x y : D) (xs ys : List D) : zipD (x :: xs) (y :: ys) = .tup [x, y] :: zipD xs ys := rfl
@[simp] theorem e_zipD_nil (ys : List D) : zipD [] ys = [] := rfl
@[simp] theorem e_all (ds : List D) : dAll [.lst ds] = (ofO (blsOf ds)).bind fun is => .ok (.bl (is.all id)) := rfl
@[simp] theorem e_any (ds : List D) : dAny [.lst ds] = (ofO (blsOf ds)).bind fun is => .ok (.bl (is.any id)) := rfl
@[simp] theorem e_sum (ds : List D) : dSum [.lst ds] = (ofO (intsOf ds)).bind fun is => .ok (.int is.sum) := rfl
@[simp] theorem e_slL (ds : List D) (lo hi : Option Int) : dSlice (.lst ds) lo hi = .ok (.lst (cutD ds lo hi)) := rfl
@[simp] theorem e_is (a b : Bool) : dIs (.bl a) (.bl b) = .ok (.bl (decide (a = b))) := rfl
@[simp] theorem e_isNot (a b : Bool) : dIsNot (.bl a) (.bl b) = .ok (.bl (!decide (a = b))) := rfl
theorem e_mul {i j : Int} (h : mulOk i j = true) : dMul (.int i) (.int j) = .ok (.int (i * j)) := if_pos h
theorem e_mod {i j : Int} (h : 0 < j) : dMod (.int i) (.int j) = .ok (.int (i % j)) := if_pos h
theorem e_fdiv {i j : Int} (h : 0 < j) (h2 : j < 1073741824) : dFdiv (.int i) (.int j) = .ok (.int (i / j)) := if_pos ⟨h, h2⟩
@[simp] theorem e_lTup1 (a : D) : lTup [a] = .ok (.tup [a]) := rfl
@[simp] theorem e_lTup2 (a b : D) : lTup [a, b] = .ok (.tup [a, b]) := rfl
@[simp] theorem e_lTup3 (a b c : D) : lTup [a, b, c] = .ok (.tup [a, b, c]) := rfl
@[simp] theorem e_lTup4 (a b c d : D) : lTup [a, b, c, d] = .ok (.tup [a, b, c, d]) := rfl
@[simp] theorem e_lLst0 : lLst [] = .ok [] := rfl
@[simp] theorem e_lLst1 (a : D) : lLst [a] = .ok [a] := rfl
@[simp] theorem e_lLst2 (a b : D) : lLst [a, b] = .ok [a, b] := rfl
@[simp] theorem e_lLst3 (a b c : D) : lLst [a, b, c] = .ok [a, b, c] := rfl
-- equality of ints, bools
@[simp] theorem e_eqI (i j : Int) : dEq (.int i) (.int j) = .ok (.bl (i == j)) := rfl
@[simp] theorem e_neI (i j : Int) : dNe (.int i) (.int j) = .ok (.bl (!(i == j))) := rfl
@[simp] theorem e_eqB (i j : Bool) : dEq (.bl i) (.bl j) = .ok (.bl (i == j)) := rfl
-- isinstance
@[simp] theorem e_isT_int (T : T4) (d : D) : dIsT T [d, .ty T.name] = isT d T := if_pos rfl
@[simp] theorem e_isI (d : D) : dIsT .int [d, .ty "int"] = isT d .int := e_isT_int .int d
@[simp] theorem e_isB (d : D) : dIsT .bool [d, .ty "bool"] = isT d .bool := e_isT_int .bool d
@[simp] theorem e_isTu (d : D) : dIsT .tup [d, .ty "tuple"] = isT d .tup := e_isT_int .tup d
@[simp] theorem e_isLs (d : D) : dIsT .lst [d, .ty "list"] = isT d .lst := e_isT_int .lst d
@[simp] theorem e_isT_ii (i : Int) : isT (.int i) .int = .ok (.bl true) := rfl
@[simp] theorem e_isT_ib (i : Int) : isT (.int i) .bool = .ok (.bl false) := rfl
@[simp] theorem e_isT_bb (i : Bool) : isT (.bl i) .bool = .ok (.bl true) := rfl
@[simp] theorem e_isT_tt (ds : List D) : isT (.tup ds) .tup = .ok (.bl true) := rfl
end
/-! ### comprehensions -/
theorem e_comp {mi : Bool} {own : List Nat} {fi : Ev → M (List D)} {tf : D → Ev → M Ev} {ft : Ev → M Bool} {fe : Ev → M D} {ρ : Ev} {items : List D} (h : fi ρ = .ok items) (hm : mi = true → flats items = true) (hz : items.length ≤ sizeLine) :
    xComp mi own fi tf ft fe ρ = compR own tf ft fe ρ items := by
  have e : iMode mi items = .ok items := by
    unfold iMode
    cases mi with
    | false => rfl
    | true => rw [if_pos rfl, if_pos (hm rfl)]
  unfold xComp
  rw [h, e_bind_ok, e, e_bind_ok, if_pos hz]
theorem e_compR {own : List Nat} {tf : D → Ev → M Ev} {ft : Ev → M Bool} {fe : Ev → M D} {ρ : Ev} {α : Type} (mk : α → D) (ρd : α → Ev) (t : α → Bool) (g : α → D) : ∀ (xs : List α), (∀ x ∈ xs, tf (mk x) (wipeE ρ own) = .ok (ρd x)) → (∀ x ∈ xs, ft (ρd x) = .ok (t x)) → (∀ x ∈ xs, t x = true → fe (ρd x) = .ok (g x)) →
    compR own tf ft fe ρ (xs.map mk) = .ok ((xs.filter t).map g)
  | [], _, _, _ => rfl
  | x :: xs, h1, h2, h3 => by
    have ih := e_compR mk ρd t g xs (fun y hy => h1 y (List.mem_cons_of_mem _ hy)) (fun y hy => h2 y (List.mem_cons_of_mem _ hy)) fun y hy => h3 y (List.mem_cons_of_mem _ hy)
    rw [List.map_cons]
    unfold compR
    rw [h1 x List.mem_cons_self]
    dsimp only
    rw [h2 x List.mem_cons_self]
    cases q : t x with
    | false =>
      rw [List.filter_cons_of_neg (by rw [q]; exact Bool.false_ne_true)]
      exact ih
    | true =>
      rw [List.filter_cons_of_pos q]
      dsimp only
      rw [h3 x List.mem_cons_self q, ih]
      rfl
theorem e_compY {own : List Nat} {tf : D → Ev → M Ev} {fe : Ev → M D} {ρ : Ev} {α : Type} (mk : α → D) (ρd : α → Ev) (g : α → D) (xs : List α) (h1 : ∀ x ∈ xs, tf (mk x) (wipeE ρ own) = .ok (ρd x)) (h3 : ∀ x ∈ xs, fe (ρd x) = .ok (g x)) :
    compR own tf bYes fe ρ (xs.map mk) = .ok (xs.map g) := by
  rw [e_compR mk ρd (fun _ => true) g xs h1 (fun _ _ => rfl) fun x hx _ => h3 x hx, List.filter_eq_self.mpr fun _ _ => rfl]
@[simp] theorem intsOf_map (l : List Int) : intsOf (l.map D.int) = some l := by
  induction l with
  | nil => rfl
  | cons x r ih =>
    rw [List.map_cons]
    unfold intsOf
    rw [ih]
    rfl
@[simp] theorem blsOf_map (l : List Bool) : blsOf (l.map D.bl) = some l := by
  induction l with
  | nil => rfl
  | cons x r ih =>
    rw [List.map_cons]
    unfold blsOf
    rw [ih]
    rfl
theorem rgD_map (lo c : Int) (n : Nat) : rgD lo c n = (List.range n).map fun (i : Nat) => D.int (lo + (i : Int) * c) := rfl
end DI
/-! Ev2: how the pure functions of DI11 are reckoned. -/
namespace DI
open PySem PySem.Spec PyProof.Rows L2
section
variable {ρ : Ev} {f g : Ev → M D} {fs : Ev → M (List D)} {u v : Ev → M Fr} {p : Ev → M Bool}
@[simp] theorem e_neB (i j : Bool) : dNe (.bl i) (.bl j) = .ok (.bl (!(i == j))) := rfl
@[simp] theorem e_oD : oD f ρ = (f ρ).bind fun d => .ok (.d d) := rfl
@[simp] theorem e_oToD : oToD u ρ = (u ρ).bind fun r => .ok r.toD := rfl
@[simp] theorem e_toD_d (x : D) : (Fr.d x).toD = x := rfl
@[simp] theorem e_toD_i (C : Addr) (n : Str) (ds : List D) : (Fr.i C n ds).toD = .ins C [n] [.lst ds] := rfl
@[simp] theorem e_sl_d (x : D) : (Fr.d x).sl = .v x := rfl
@[simp] theorem e_sl_i (C : Addr) (n : Str) (ds : List D) : (Fr.i C n ds).sl = .oi C n ds := rfl
@[simp] theorem e_oIf : oIf p u v ρ = (p ρ).bind fun b => if b = true then u ρ else v ρ := rfl
@[simp] theorem e_sOwnI (i : Nat) : sOwnI i u ρ = S.ofM (u ρ) fun r => .nx (ρ.set i (some r.sl)) := rfl
@[simp] theorem e_sRetO : sRetO u ρ = S.ofM (u ρ) fun r => match r with
  | .d x => .rt x
  | .i C n ds => .ri C n ds := rfl
@[simp] theorem e_sAppF (i : Nat) (nm : Str) (cs : List Addr) : sAppF i nm cs f ρ = match ρ[i]? with
  | some (some (.oi C n ds)) => if n = nm ∧ C ∈ cs then S.ofM (f ρ) fun d => S.ofM (gApp d ds) fun es => .nx (ρ.set i (some (.oi C nm es))) else .und
  | _ => .und := rfl
@[simp] theorem e_callO (n : Nat) (F : FnO) (ds : List D) : callO n F ds = if ds.length = n then F ds else .und := rfl
@[simp] theorem e_mkV (C : Addr) (n : Str) (d : D) : dMkV C n [d] = .ok (.ins C [n] [d]) := rfl
@[simp] theorem e_mkL (C : Addr) (n : Str) (ds : List D) : oMkL C n [.lst ds] = .ok (.i C n ds) := rfl
@[simp] theorem e_fld (C : Addr) (n : Str) (d : D) : dFld [C] n (.ins C [n] [d]) = .ok d := by
  unfold dFld
  dsimp only
  rw [if_pos (List.mem_singleton.mpr rfl)]
  unfold List.zip List.zipWith List.lookup
  rw [beq_self_eq_true]
  rfl
theorem e_mCall {mt : Str} {C : Addr} {n : Nat} {F : Fn} {ns : List Str} {xs : List D} (h : mt ∉ ns) : mCall mt C n F fs ρ (.ins C ns xs) = (fs ρ).bind fun ds => if ds.length + 1 = n then F (.ins C ns xs :: ds) else .und := by
  unfold mCall
  dsimp only
  rw [if_pos ⟨rfl, h⟩]
theorem e_xMeth {mt : Str} {C : Addr} {n : Nat} {F : Fn} {ns : List Str} {xs : List D} (e : f ρ = .ok (.ins C ns xs)) (h : mt ∉ ns) : xMeth mt C n F f fs ρ = (fs ρ).bind fun ds => if ds.length + 1 = n then F (.ins C ns xs :: ds) else .und := by
  unfold xMeth
  rw [e, e_bind_ok, e_mCall h]
theorem e_xMethA {mt : Str} {C C2 : Addr} {n : Nat} {F F2 : Fn} {ns : List Str} {xs : List D} (e : f ρ = .ok (.ins C ns xs)) (h : mt ∉ ns) : xMeth2 mt C C2 n F F2 f fs ρ = (fs ρ).bind fun ds => if ds.length + 1 = n then F (.ins C ns xs :: ds) else .und := by
  unfold xMeth2
  rw [e, e_bind_ok]
  dsimp only
  rw [if_pos rfl, e_mCall h]
theorem e_xMethB {mt : Str} {C C2 : Addr} {n : Nat} {F F2 : Fn} {ns : List Str} {xs : List D} (ne : C2 ≠ C) (e : f ρ = .ok (.ins C2 ns xs)) (h : mt ∉ ns) : xMeth2 mt C C2 n F F2 f fs ρ = (fs ρ).bind fun ds => if ds.length + 1 = n then F2 (.ins C2 ns xs :: ds) else .und := by
  unfold xMeth2
  rw [e, e_bind_ok]
  dsimp only
  rw [if_neg ne, e_mCall h]
theorem e_isC {K : PySem.W.Frag} {cs : List Addr} {C T : Addr} {ns : List Str} {xs : List D} {b : Bool} (hc : C ∈ cs) (hk : PySem.W.kitOne K (.ref C) (.ref T) = some b) : dIsI K cs [.ins C ns xs, .fn T] = .ok (.bl b) := by
  unfold dIsI
  dsimp only
  rw [if_pos hc, hk]
end
end DI
/-! Ev3: how the pure functions of DI12, DI14 are reckoned. -/
namespace DI
open PySem PySem.Spec PyProof.Rows L2
section
variable {ρ : Ev} {f g fk fl fa fb : Ev → M D}
@[simp] theorem e_xIxO (i : Nat) : xIxO i fk ρ = match ρ[i]? with
  | some (some (.o ds)) => (fk ρ).bind fun k => dIx (.lst ds) k
  | _ => .und := rfl
@[simp] theorem e_sSwap (i : Nat) : sSwap i fk fl fa fb ρ = S.ofM (fa ρ) fun x => S.ofM (fb ρ) fun y => oAt i ρ fun ds => S.ofM (fk ρ) fun k => S.ofM (gSet k x ds) fun es =>
  S.ofM (fl (ρ.set i (some (.o es)))) fun l => S.ofM (gSet l y es) fun us => .nx ((ρ.set i (some (.o es))).set i (some (.o us))) := rfl
@[simp] theorem e_sSetIx (i : Nat) : sSetIx i fk fa ρ = S.ofM (fa ρ) fun d => oAt i ρ fun ds => S.ofM (fk ρ) fun k => oPut i ρ (gSet k d ds) := rfl
@[simp] theorem e_sExt (i : Nat) : sExt i f ρ = oAt i ρ fun ds => S.ofM (f ρ) fun d => oPut i ρ (gExt d ds) := rfl
@[simp] theorem e_sRev (i : Nat) : sRev i ρ = oAt i ρ fun ds => oPut i ρ (.ok ds.reverse) := rfl
@[simp] theorem e_xCh (k : Ev → D → M D) : xCh f k ρ = (f ρ).bind fun x => k ρ x := rfl
@[simp] theorem e_chE (o : D → D → M D) (x : D) : chE o g ρ x = (g ρ).bind fun y => o x y := rfl
@[simp] theorem e_chR (o : D → D → M D) (k : Ev → D → M D) (x : D) : chR o g k ρ x = (g ρ).bind fun y => (o x y).bind fun z => match z with
  | .bl b => if b = true then k ρ y else .ok (.bl false)
  | _ => .und := rfl
end
theorem ixN_nat {n j : Nat} (h : j < n) : ixN n (j : Int) = some j := by
  simp [ixN, h]
theorem gSet_nat {ds : List D} {j : Nat} {d : D} (h : j < ds.length) : gSet (.int (j : Int)) d ds = .ok (ds.set j d) := by
  unfold gSet
  dsimp only
  rw [ixN_nat h]
  rfl
end DI
set_option maxRecDepth 100000
namespace OM
open PySem DI
structure Adr where
  K : PySem.W.Frag
  BadPrime : Addr := 0
  BadPoint : Addr := 0
  BadLine : Addr := 0
  BadForm : Addr := 0
  BadNumber : Addr := 0
  Alike : Addr := 0
  NotOn : Addr := 0
  MeetError : Addr := 0
  Answer : Addr := 0
  Oval : Addr := 0
  InLine : Addr := 0
  Shared : Addr := 0
  Apart : Addr := 0
  l_with_prime : Addr := 0
  l_with_point : Addr := 0
  l_with_line : Addr := 0
  l_with_form : Addr := 0
  l_with_five : Addr := 0
  l_with_number : Addr := 0
  l_alike : Addr := 0
def f_is_whole : Fn := defF false 1 1 ((sRet (xAnd (xAll (dIsT .int) (xCons (xVar 0) (xCons (xC (.ty "int")) xNil))) (xNot (xAll (dIsT .bool) (xCons (xVar 0) (xCons (xC (.ty "bool")) xNil)))))))
def f_check_prime (z : Adr) : Fn := defF true 1 2 ((sSeq (sIf (bOr (bNot (xTru (xAll (callF 1 f_is_whole) (xCons (xVar 0) xNil)))) (bNot (bBl (xChain dLe dLe (xC (.int 3)) (xVar 0) (xC (.int 997)))))) (fun _ => .ex z.BadPrime) sNil)
  (sIf (xTru (xAll dAny (xCons (xLst (xComp false [1] (xAll dRg2 (xCons (xC (.int 2)) (xCons (xC (.int 32)) xNil))) (tgN 1) (bBl (x2 dLt (xVar 1) (xVar 0))) (x2 dEq (x2 dMod (xVar 0) (xVar 1)) (xC (.int 0))))) xNil))) (fun _ => .ex z.BadPrime) sNil)))
def f_is_told : Fn := defF false 3 5 ((sSeq (sIf (bOr (bNot (xTru (xAll (dIsT .tup) (xCons (xVar 1) (xCons (xC (.ty "tuple")) xNil))))) (bOr (bBl (x2 dNe (xAll dLen (xCons (xVar 1) xNil)) (xVar 2))) (bNot (xTru (xAll dAll (xCons (xLst (xComp false [4] (xItems (xVar 1)) (tgN 4) bYes (xAll (callF 1 f_is_whole) (xCons (xVar 4) xNil)))) xNil)))))) (sRet (xC (.bl false))) sNil)
  (sSeq (sIf (bNot (xTru (xAll dAll (xCons (xLst (xComp false [4] (xItems (xVar 1)) (tgN 4) bYes (xChain dLe dLt (xC (.int 0)) (xVar 4) (xVar 0)))) xNil)))) (sRet (xC (.bl false))) sNil)
  (sSeq (sSet 3 (xLst (xComp false [4] (xItems (xVar 1)) (tgN 4) (bBl (x2 dGt (xVar 4) (xC (.int 0)))) (xVar 4))))
  (sRet (xAnd (x2 dGt (xAll dLen (xCons (xVar 3) xNil)) (xC (.int 0))) (x2 dEq (x2 dIx (xVar 3) (xC (.int 0))) (xC (.int 1)))))))))
def f_check_point (z : Adr) : Fn := defF true 2 2 ((sIf (bNot (xTru (xAll (callF 3 f_is_told) (xCons (xVar 0) (xCons (xVar 1) (xCons (xC (.int 3)) xNil)))))) (fun _ => .ex z.BadPoint) sNil))
def f_check_line (z : Adr) : Fn := defF true 2 2 ((sIf (bNot (xTru (xAll (callF 3 f_is_told) (xCons (xVar 0) (xCons (xVar 1) (xCons (xC (.int 3)) xNil)))))) (fun _ => .ex z.BadLine) sNil))
def f_turned : Fn := defF false 2 7 ((sSeq (sPar 2 3 (xCons (x2 dMod (xVar 1) (xVar 0)) (xCons (xVar 0) xNil)))
  (sSeq (sAsg (xAll lTup (xCons (xC (.int 1)) (xCons (xC (.int 0)) xNil))) (tgT 2 (tgCons (tgN 4) (tgCons (tgN 5) tgNil))))
  (sSeq (sWhile (fun _ => 1000) (bBl (x2 dGt (xVar 3) (xC (.int 0))))
  (sSeq (sSet 6 (x2 dFdiv (xVar 2) (xVar 3)))
  (sSeq (sPar 2 3 (xCons (xVar 3) (xCons (x2 dSub (xVar 2) (x2 dMul (xVar 6) (xVar 3))) xNil)))
  (sPar 4 5 (xCons (xVar 5) (xCons (x2 dSub (xVar 4) (x2 dMul (xVar 6) (xVar 5))) xNil))))))
  (sRet (x2 dMod (xVar 4) (xVar 0)))))))
def f_told_of : Fn := defF false 2 5 ((sSeq (sSet 2 (xLst (xComp false [4] (xItems (xVar 1)) (tgN 4) (bBl (x2 dGt (x2 dMod (xVar 4) (xVar 0)) (xC (.int 0)))) (x2 dMod (xVar 4) (xVar 0)))))
  (sSeq (sSet 3 (xAll (callF 2 f_turned) (xCons (xVar 0) (xCons (x2 dIx (xVar 2) (xC (.int 0))) xNil))))
  (sRet (xAll dTuple (xCons (xLst (xComp false [4] (xItems (xVar 1)) (tgN 4) bYes (x2 dMod (x2 dMul (xVar 4) (xVar 3)) (xVar 0)))) xNil))))))
def f_is_on : Fn := defF false 3 5 ((sRet (x2 dEq (x2 dMod (xAll dSum (xCons (xLst (xComp false [3, 4] (xAll dZip (xCons (xVar 1) (xCons (xVar 2) xNil))) (tgT 2 (tgCons (tgN 3) (tgCons (tgN 4) tgNil))) bYes (x2 dMul (xVar 3) (xVar 4)))) xNil)) (xVar 0)) (xC (.int 0)))))
def f_on (z : Adr) : Fn := defF true 3 3 ((sSeq (sDrop (xAll (callF 1 (f_check_prime z)) (xCons (xVar 0) xNil)))
  (sSeq (sDrop (xAll (callF 2 (f_check_point z)) (xCons (xVar 0) (xCons (xVar 1) xNil))))
  (sSeq (sDrop (xAll (callF 2 (f_check_line z)) (xCons (xVar 0) (xCons (xVar 2) xNil))))
  (sRet (xAll (callF 3 f_is_on) (xCons (xVar 0) (xCons (xVar 1) (xCons (xVar 2) xNil)))))))))
def f_crossed : Fn := defF false 3 9 ((sSeq (sAsg (xAll lTup (xCons (xVar 1) (xCons (xVar 2) xNil))) (tgT 2 (tgCons (tgT 3 (tgCons (tgN 3) (tgCons (tgN 4) (tgCons (tgN 5) tgNil)))) (tgCons (tgT 3 (tgCons (tgN 6) (tgCons (tgN 7) (tgCons (tgN 8) tgNil)))) tgNil))))
  (sRet (xAll (callF 2 f_told_of) (xCons (xVar 0) (xCons (xAll lTup (xCons (x2 dSub (x2 dMul (xVar 4) (xVar 8)) (x2 dMul (xVar 5) (xVar 7))) (xCons (x2 dSub (x2 dMul (xVar 5) (xVar 6)) (x2 dMul (xVar 3) (xVar 8))) (xCons (x2 dSub (x2 dMul (xVar 3) (xVar 7)) (x2 dMul (xVar 4) (xVar 6))) xNil)))) xNil))))))
def f_join (z : Adr) : Fn := defF true 3 3 ((sSeq (sDrop (xAll (callF 1 (f_check_prime z)) (xCons (xVar 0) xNil)))
  (sSeq (sDrop (xAll (callF 2 (f_check_point z)) (xCons (xVar 0) (xCons (xVar 1) xNil))))
  (sSeq (sDrop (xAll (callF 2 (f_check_point z)) (xCons (xVar 0) (xCons (xVar 2) xNil))))
  (sSeq (sIf (bBl (x2 dEq (xVar 1) (xVar 2))) (fun _ => .ex z.Alike) sNil)
  (sRet (xAll (callF 3 f_crossed) (xCons (xVar 0) (xCons (xVar 1) (xCons (xVar 2) xNil))))))))))
def f_meet (z : Adr) : Fn := defF true 3 3 ((sSeq (sDrop (xAll (callF 1 (f_check_prime z)) (xCons (xVar 0) xNil)))
  (sSeq (sDrop (xAll (callF 2 (f_check_line z)) (xCons (xVar 0) (xCons (xVar 1) xNil))))
  (sSeq (sDrop (xAll (callF 2 (f_check_line z)) (xCons (xVar 0) (xCons (xVar 2) xNil))))
  (sSeq (sIf (bBl (x2 dEq (xVar 1) (xVar 2))) (fun _ => .ex z.Alike) sNil)
  (sRet (xAll (callF 3 f_crossed) (xCons (xVar 0) (xCons (xVar 1) (xCons (xVar 2) xNil))))))))))
def f_l_cell_at : Fn := defF false 2 2 ((sSeq (sIf (bBl (x2 dLt (xVar 1) (xAll dLen (xCons (xVar 0) xNil)))) (sRet (x2 dIx (xVar 0) (xVar 1))) sNil)
  (sRet (xC (.int 0)))))
def f_l_draw : Fn := defF false 3 4 ((sSeq (sSet 3 (xAll lTup (xCons (xC (.int 1000003)) (xCons (xC (.int 1000033)) (xCons (xC (.int 1000037)) (xCons (xC (.int 1000039)) (xCons (xC (.int 1000081)) (xCons (xC (.int 1000099)) (xCons (xC (.int 1000117)) (xCons (xC (.int 1000121)) (xCons (xC (.int 1000133)) (xCons (xC (.int 1000151)) (xCons (xC (.int 1000159)) (xCons (xC (.int 1000171)) (xCons (xC (.int 1000183)) (xCons (xC (.int 1000187)) (xCons (xC (.int 1000193)) (xCons (xC (.int 1000199)) xNil))))))))))))))))))
  (sRet (x2 dMod (x2 dMod (x2 dAdd (x2 dMul (xVar 0) (xC (.int 48271))) (x2 dMul (xVar 1) (xC (.int 69621)))) (x2 dIx (xVar 3) (x2 dMod (xVar 1) (xC (.int 16))))) (xVar 2)))))
def f_l_value : Fn := defF false 2 2 ((sSeq (sIf (bBl (x2 dGe (xVar 0) (x2 dPow (xC (.int 10)) (xC (.int 18))))) (sRet (x2 dFdiv (x2 dSub (xVar 0) (x2 dPow (xC (.int 10)) (xC (.int 18)))) (x2 dIx (xAll lTup (xCons (xC (.int 1)) (xCons (xC (.int 7)) (xCons (xC (.int 49)) (xCons (xC (.int 343)) xNil))))) (x2 dMod (xVar 1) (xC (.int 4)))))) sNil)
  (sRet (xAll (callF 3 f_l_draw) (xCons (x2 dMul (x2 dAdd (xVar 0) (x2 dMul (xC (.int 977)) (xVar 1))) (x2 dAdd (x2 dAdd (xVar 0) (x2 dMul (xC (.int 31)) (xVar 1))) (xC (.int 5)))) (xCons (x2 dAdd (x2 dMod (xVar 1) (xC (.int 9))) (xC (.int 1))) (xCons (xC (.int 999983)) xNil)))))))
def f_l_prime : Fn := defF false 2 5 ((sSeq (sSet 2 (x2 dMod (xAll (callF 2 f_l_cell_at) (xCons (xVar 0) (xCons (xVar 1) xNil))) (x2 dPow (xC (.int 10)) (xC (.int 18)))))
  (sSeq (sSet 3 (x2 dIx (xAll lTup (xCons (xC (.int 3)) (xCons (xC (.int 5)) (xCons (x2 dAdd (xC (.int 3)) (xAll (callF 3 f_l_draw) (xCons (xVar 2) (xCons (xC (.int 4)) (xCons (xC (.int 28)) xNil))))) (xCons (x2 dAdd (xC (.int 3)) (xAll (callF 3 f_l_draw) (xCons (xVar 2) (xCons (xC (.int 4)) (xCons (xIf (bBl (x2 dEq (xVar 1) (xC (.int 0)))) (xC (.int 990)) (xC (.int 190))) xNil))))) xNil))))) (xAll (callF 3 f_l_draw) (xCons (xVar 2) (xCons (xC (.int 6)) (xCons (xC (.int 4)) xNil))))))
  (sSeq (sWhile (fun _ => 1000) (xTru (xAll dAny (xCons (xLst (xComp false [4] (xAll dRg2 (xCons (xC (.int 2)) (xCons (xC (.int 32)) xNil))) (tgN 4) (bBl (x2 dLt (xVar 4) (xVar 3))) (x2 dEq (x2 dMod (xVar 3) (xVar 4)) (xC (.int 0))))) xNil)))
  (sSet 3 (x2 dAdd (xVar 3) (xC (.int 1)))))
  (sRet (xVar 3))))))
def f_l_triple : Fn := defF false 2 2 ((sSeq (sSet 1 (x2 dMod (xVar 1) (x2 dAdd (x2 dAdd (x2 dMul (xVar 0) (xVar 0)) (xVar 0)) (xC (.int 1)))))
  (sSeq (sIf (bBl (x2 dLe (xVar 1) (xVar 0))) (sRet (xIf (bBl (x2 dEq (xVar 1) (xC (.int 0)))) (xAll lTup (xCons (xC (.int 0)) (xCons (xC (.int 0)) (xCons (xC (.int 1)) xNil)))) (xAll lTup (xCons (xC (.int 0)) (xCons (xC (.int 1)) (xCons (x2 dSub (xVar 1) (xC (.int 1))) xNil)))))) sNil)
  (sRet (xAll lTup (xCons (xC (.int 1)) (xCons (x2 dFdiv (x2 dSub (x2 dSub (xVar 1) (xVar 0)) (xC (.int 1))) (xVar 0)) (xCons (x2 dMod (x2 dSub (xVar 1) (xC (.int 1))) (xVar 0)) xNil))))))))
def f_l_triples : Fn := defF false 4 9 ((sSeq (sParO 5 6 (xAll lLst xNil) (xC (.int 0)))
  (sSeq (sSet 4 (xAll (callF 3 f_l_draw) (xCons (x2 dAdd (x2 dMod (xAll (callF 2 f_l_cell_at) (xCons (xVar 0) (xCons (x2 dAdd (xVar 1) (xC (.int 1))) xNil))) (x2 dPow (xC (.int 10)) (xC (.int 18)))) (xVar 1)) (xCons (xC (.int 8)) (xCons (xC (.int 3)) xNil)))))
  (sSeq (sWhile (fun _ => 10 ^ 300) (bBl (x2 dLt (xAll dLen (xCons (xOwn 5) xNil)) (xVar 3)))
  (sSeq (sSet 7 (x2 dAdd (xAll (callF 2 f_l_value) (xCons (xAll (callF 2 f_l_cell_at) (xCons (xVar 0) (xCons (x2 dAdd (xVar 1) (x2 dMod (xVar 6) (xC (.int 7)))) xNil))) (xCons (x2 dAdd (xVar 1) (x2 dMul (xC (.int 3)) (xVar 6))) xNil))) (x2 dMul (x2 dMul (xVar 6) (xVar 6)) (xC (.int 7919)))))
  (sSeq (sSet 8 (xAll (callF 2 f_l_triple) (xCons (xVar 2) (xCons (xIf (bBl (x2 dGt (xVar 4) (xC (.int 0)))) (x2 dFdiv (xVar 7) (x2 dIx (xAll lTup (xCons (xC (.int 1)) (xCons (xC (.int 5)) xNil))) (x2 dMod (xVar 6) (xC (.int 2))))) (x2 dAdd (x2 dMod (xVar 7) (x2 dAdd (xVar 2) (xC (.int 40)))) (x2 dMul (xC (.int 5)) (xVar 6)))) xNil))))
  (sSeq (sIf (bBl (x2 dNotIn (xVar 8) (xOwn 5))) (sApp 5 (xVar 8)) sNil)
  (sSet 6 (x2 dAdd (xVar 6) (xC (.int 1))))))))
  (sFrz 5 (sRet (xVar 5)))))))
def f_l_told : Fn := defF false 2 6 ((sSeq (sSet 2 (x2 dIx (xLst (xComp false [5] (xItems (xVar 1)) (tgN 5) (bBl (x2 dGt (x2 dMod (xVar 5) (xVar 0)) (xC (.int 0)))) (x2 dMod (xVar 5) (xVar 0)))) (xC (.int 0))))
  (sSeq (sAsg (xAll lTup (xCons (xC (.int 1)) (xCons (x2 dSub (xVar 0) (xC (.int 2))) xNil))) (tgT 2 (tgCons (tgN 3) (tgCons (tgN 4) tgNil))))
  (sSeq (sWhile (fun _ => 20) (bBl (x2 dGt (xVar 4) (xC (.int 0))))
  (sSeq (sIf (bBl (x2 dEq (x2 dMod (xVar 4) (xC (.int 2))) (xC (.int 1)))) (sSet 3 (x2 dMod (x2 dMul (xVar 3) (xVar 2)) (xVar 0))) sNil)
  (sPar 2 4 (xCons (x2 dMod (x2 dMul (xVar 2) (xVar 2)) (xVar 0)) (xCons (x2 dFdiv (xVar 4) (xC (.int 2))) xNil)))))
  (sRet (xAll dTuple (xCons (xLst (xComp false [5] (xItems (xVar 1)) (tgN 5) bYes (x2 dMod (x2 dMul (xVar 5) (xVar 3)) (xVar 0)))) xNil)))))))
def f_l_cross : Fn := defF false 3 7 ((sSeq (sOwn 3 (xAll lLst xNil))
  (sSeq (sFor (xAll dRg1 (xCons (xC (.int 3)) xNil)) (tgN 4)
  (sSeq (sPar 5 6 (xCons (x2 dMod (x2 dAdd (xVar 4) (xC (.int 1))) (xC (.int 3))) (xCons (x2 dMod (x2 dAdd (xVar 4) (xC (.int 2))) (xC (.int 3))) xNil)))
  (sApp 3 (x2 dSub (x2 dMul (x2 dIx (xVar 1) (xVar 5)) (x2 dIx (xVar 2) (xVar 6))) (x2 dMul (x2 dIx (xVar 1) (xVar 6)) (x2 dIx (xVar 2) (xVar 5)))))))
  (sFrz 3 (sRet (xAll (callF 2 f_l_told) (xCons (xVar 0) (xCons (xVar 3) xNil))))))))
def f_l_on : Fn := defF false 3 5 ((sRet (x2 dEq (x2 dMod (xAll dSum (xCons (xLst (xComp false [3, 4] (xAll dZip (xCons (xVar 1) (xCons (xVar 2) xNil))) (tgT 2 (tgCons (tgN 3) (tgCons (tgN 4) tgNil))) bYes (x2 dMul (xVar 3) (xVar 4)))) xNil)) (xVar 0)) (xC (.int 0)))))
def f_l_spanned : Fn := defF false 2 14 ((sSeq (sAsg (xVar 1) (tgT 3 (tgCons (tgN 7) (tgCons (tgN 8) (tgCons (tgN 9) tgNil)))))
  (sSeq (sSet 2 (xLst (xComp false [3] (xItems (xAll lTup (xCons (xAll lTup (xCons (xC (.int 0)) (xCons (xVar 9) (xCons (x1 dNeg (xVar 8)) xNil)))) (xCons (xAll lTup (xCons (x1 dNeg (xVar 9)) (xCons (xC (.int 0)) (xCons (xVar 7) xNil)))) (xCons (xAll lTup (xCons (xVar 8) (xCons (x1 dNeg (xVar 7)) (xCons (xC (.int 0)) xNil)))) xNil))))) (tgN 3) (xTru (xAll dAny (xCons (xLst (xComp false [11] (xItems (xVar 3)) (tgN 11) bYes (x2 dGt (x2 dMod (xVar 11) (xVar 0)) (xC (.int 0))))) xNil))) (xVar 3))))
  (sSeq (sSet 3 (xAll (callF 2 f_l_told) (xCons (xVar 0) (xCons (x2 dIx (xVar 2) (xC (.int 0))) xNil))))
  (sSeq (sSet 4 (x2 dIx (xLst (xComp false [10] (xItems (xVar 2)) (tgN 10) (bBl (x2 dNe (xAll (callF 2 f_l_told) (xCons (xVar 0) (xCons (xVar 10) xNil))) (xVar 3))) (xVar 10))) (xC (.int 0))))
  (sSeq (sOwn 5 (xAll lLst (xCons (xVar 3) xNil)))
  (sSeq (sFor (xAll dRg1 (xCons (xVar 0) xNil)) (tgN 6)
  (sApp 5 (xAll dTuple (xCons (xLst (xComp false [12, 13] (xAll dZip (xCons (xVar 4) (xCons (xVar 3) xNil))) (tgT 2 (tgCons (tgN 12) (tgCons (tgN 13) tgNil))) bYes (x2 dAdd (xVar 12) (x2 dMul (xVar 6) (xVar 13))))) xNil))))
  (sFrz 5 (sRet (xVar 5))))))))))
def f_l_points : Fn := defF false 2 3 ((sRet (xLst (xAll dSortT (xCons (xLst (xComp false [2] (xItems (xAll (callF 2 f_l_spanned) (xCons (xVar 0) (xCons (xVar 1) xNil)))) (tgN 2) bYes (xAll (callF 2 f_l_told) (xCons (xVar 0) (xCons (xVar 2) xNil))))) xNil)))))
def f_l_is_told : Fn := defF false 3 5 ((sSeq (sIf (bOr (bNot (xTru (xAll (dIsT .tup) (xCons (xVar 1) (xCons (xC (.ty "tuple")) xNil))))) (bBl (x2 dNe (xAll dLen (xCons (xVar 1) xNil)) (xVar 2)))) (sRet (xC (.bl false))) sNil)
  (sSeq (sIf (bNot (xTru (xAll dAll (xCons (xLst (xComp false [4] (xItems (xVar 1)) (tgN 4) bYes (xAnd (xAll (dIsT .int) (xCons (xVar 4) (xCons (xC (.ty "int")) xNil))) (xAnd (xNot (xAll (dIsT .bool) (xCons (xVar 4) (xCons (xC (.ty "bool")) xNil)))) (xChain dLe dLt (xC (.int 0)) (xVar 4) (xVar 0)))))) xNil)))) (sRet (xC (.bl false))) sNil)
  (sSeq (sSet 3 (xLst (xComp false [4] (xItems (xVar 1)) (tgN 4) (bBl (x2 dGt (xVar 4) (xC (.int 0)))) (xVar 4))))
  (sRet (xAnd (x2 dNe (xVar 3) (xLst (xAll lLst xNil))) (x2 dEq (x2 dIx (xVar 3) (xC (.int 0))) (xC (.int 1)))))))))
def f_l_says : Fn := defF false 2 2 ((sRet (xAnd (xAll (dIsT .bool) (xCons (xVar 0) (xCons (xC (.ty "bool")) xNil))) (x2 dEq (xVar 0) (xVar 1)))))
def f_l_right (z : Adr) : Fn := defF false 3 7 ((sSeq (sSet 3 (xAll (callF 3 f_l_cross) (xCons (xVar 0) (xCons (xVar 1) (xCons (xVar 2) xNil)))))
  (sSeq (sSet 4 (xLst (xAll lLst (xCons (xAll (callF 3 (f_join z)) (xCons (xVar 0) (xCons (xVar 1) (xCons (xVar 2) xNil)))) (xCons (xAll (callF 3 (f_meet z)) (xCons (xVar 0) (xCons (xVar 1) (xCons (xVar 2) xNil)))) xNil)))))
  (sSeq (sFor (xItems (x2 dAdd (xVar 4) (xLst (xAll lLst (xCons (xAll (callF 3 (f_join z)) (xCons (xVar 0) (xCons (xVar 2) (xCons (xVar 1) xNil)))) (xCons (xAll (callF 3 (f_meet z)) (xCons (xVar 0) (xCons (xVar 2) (xCons (xVar 1) xNil)))) xNil)))))) (tgN 5)
  (sSeq (sIf (bOr (bNot (xTru (xAll (callF 3 f_l_is_told) (xCons (xVar 0) (xCons (xVar 5) (xCons (xC (.int 3)) xNil)))))) (bBl (x2 dNe (xVar 5) (xVar 3)))) (sRet (xC (.bl false))) sNil)
  (sFor (xItems (xAll lTup (xCons (xVar 1) (xCons (xVar 2) xNil)))) (tgN 6)
  (sIf (bOr (bNot (xTru (xAll (callF 2 f_l_says) (xCons (xAll (callF 3 (f_on z)) (xCons (xVar 0) (xCons (xVar 6) (xCons (xVar 5) xNil)))) (xCons (xC (.bl true)) xNil))))) (bNot (xTru (xAll (callF 2 f_l_says) (xCons (xAll (callF 3 (f_on z)) (xCons (xVar 0) (xCons (xVar 5) (xCons (xVar 6) xNil)))) (xCons (xC (.bl true)) xNil)))))) (sRet (xC (.bl false))) sNil))))
  (sRet (xAll (callF 2 f_l_says) (xCons (xAll (callF 3 (f_on z)) (xCons (xVar 0) (xCons (xVar 1) (xCons (xVar 2) xNil)))) (xCons (xAll (callF 3 f_l_on) (xCons (xVar 0) (xCons (xVar 1) (xCons (xVar 2) xNil)))) xNil))))))))
def f_l_small_right (z : Adr) : Fn := defF false 1 7 ((sSeq (sSet 1 (xLst (xComp false [4] (xAll dRg1 (xCons (x2 dAdd (x2 dAdd (x2 dMul (xVar 0) (xVar 0)) (xVar 0)) (xC (.int 1))) xNil)) (tgN 4) bYes (xAll (callF 2 f_l_triple) (xCons (xVar 0) (xCons (xVar 4) xNil))))))
  (sSeq (sFor (xItems (x1 (dPickG none (some 3)) (xVar 1))) (tgN 2)
  (sFor (xItems (x1 (dPickG (some 1) (some 5)) (xVar 1))) (tgN 3)
  (sIf (bBl (x2 dNe (xVar 2) (xVar 3))) (sSeq (sSet 5 (xLst (xComp false [6] (xItems (xVar 1)) (tgN 6) (bAnd (xTru (xAll (callF 3 f_l_on) (xCons (xVar 0) (xCons (xVar 2) (xCons (xVar 6) xNil))))) (xTru (xAll (callF 3 f_l_on) (xCons (xVar 0) (xCons (xVar 3) (xCons (xVar 6) xNil)))))) (xVar 6))))
  (sIf (bBl (x2 dNe (xVar 5) (xLst (xAll lLst (xCons (xAll (callF 3 (f_join z)) (xCons (xVar 0) (xCons (xVar 2) (xCons (xVar 3) xNil)))) xNil))))) (sRet (xC (.bl false))) sNil)) sNil)))
  (sRet (xC (.bl true))))))
def f_l_pappus (z : Adr) : Fn := defF false 4 15 ((sSeq (sSet 4 (xAll (callF 3 (f_meet z)) (xCons (xVar 0) (xCons (xVar 1) (xCons (xVar 2) xNil)))))
  (sSeq (sSet 5 (xLst (xComp false [14] (xItems (xAll (callF 2 f_l_points) (xCons (xVar 0) (xCons (xVar 1) xNil)))) (tgN 14) (bBl (x2 dNe (xVar 14) (xVar 4))) (xVar 14))))
  (sSeq (sSet 6 (xLst (xComp false [14] (xItems (xAll (callF 2 f_l_points) (xCons (xVar 0) (xCons (xVar 2) xNil)))) (tgN 14) (bBl (x2 dNe (xVar 14) (xVar 4))) (xVar 14))))
  (sSeq (sPar 8 9 (xCons (x2 dMod (xVar 3) (xAll dLen (xCons (xVar 5) xNil))) (xCons (x2 dMod (x2 dFdiv (xVar 3) (xC (.int 7))) (xAll dLen (xCons (xVar 6) xNil))) xNil)))
  (sSeq (sSet 5 (xSlice (x2 dAdd (xVar 5) (xVar 5)) (pSome (xVar 8)) (pSome (x2 dAdd (xVar 8) (xC (.int 3))))))
  (sSeq (sSet 6 (xSlice (x2 dAdd (xVar 6) (xVar 6)) (pSome (xVar 9)) (pSome (x2 dAdd (xVar 9) (xC (.int 3))))))
  (sSeq (sOwn 7 (xAll lLst xNil))
  (sSeq (sFor (xItems (xAll lTup (xCons (xAll lTup (xCons (xC (.int 0)) (xCons (xC (.int 1)) xNil))) (xCons (xAll lTup (xCons (xC (.int 0)) (xCons (xC (.int 2)) xNil))) (xCons (xAll lTup (xCons (xC (.int 1)) (xCons (xC (.int 2)) xNil))) xNil))))) (tgT 2 (tgCons (tgN 10) (tgCons (tgN 11) tgNil)))
  (sSeq (sSet 12 (xAll (callF 3 (f_join z)) (xCons (xVar 0) (xCons (x2 dIx (xVar 5) (xVar 10)) (xCons (x2 dIx (xVar 6) (xVar 11)) xNil)))))
  (sSeq (sSet 13 (xAll (callF 3 (f_join z)) (xCons (xVar 0) (xCons (x2 dIx (xVar 5) (xVar 11)) (xCons (x2 dIx (xVar 6) (xVar 10)) xNil)))))
  (sApp 7 (xAll (callF 3 (f_meet z)) (xCons (xVar 0) (xCons (xVar 12) (xCons (xVar 13) xNil))))))))
  (sFrz 7 (sRet (xOr (x2 dLt (x1 dLenSet (xVar 7)) (xC (.int 3))) (xAll (callF 3 (f_on z)) (xCons (xVar 0) (xCons (x2 dIx (xVar 7) (xC (.int 2))) (xCons (xAll (callF 3 (f_join z)) (xCons (xVar 0) (xCons (x2 dIx (xVar 7) (xC (.int 0))) (xCons (x2 dIx (xVar 7) (xC (.int 1))) xNil)))) xNil))))))))))))))))
def f_l_desargues (z : Adr) : Fn := defF false 3 15 ((sSeq (sAsg3O 4 5 6 (x2 dIx (xVar 1) (xC (.int 0))) (xSlice (xVar 1) (pSome (xC (.int 1))) (pSome (xC (.int 4)))) (xAll lLst xNil))
  (sSeq (sFor (xAll dEnum (xCons (xVar 5) xNil)) (tgT 2 (tgCons (tgN 7) (tgCons (tgN 8) tgNil)))
  (sSeq (sSet 9 (xAll (callF 3 (f_join z)) (xCons (xVar 0) (xCons (xVar 4) (xCons (xVar 8) xNil)))))
  (sSeq (sSet 10 (xLst (xComp false [14] (xItems (xAll (callF 2 f_l_points) (xCons (xVar 0) (xCons (xVar 9) xNil)))) (tgN 14) (bBl (x2 dNotIn (xVar 14) (xAll lTup (xCons (xVar 4) (xCons (xVar 8) xNil))))) (xVar 14))))
  (sApp 6 (x2 dIx (xVar 10) (x2 dMod (x2 dFdiv (xVar 2) (x2 dAdd (xVar 7) (xC (.int 1)))) (xAll dLen (xCons (xVar 10) xNil))))))))
  (sSeq (sOwn 3 (xAll lLst xNil))
  (sSeq (sFor (xItems (xAll lTup (xCons (xAll lTup (xCons (xC (.int 0)) (xCons (xC (.int 1)) xNil))) (xCons (xAll lTup (xCons (xC (.int 0)) (xCons (xC (.int 2)) xNil))) (xCons (xAll lTup (xCons (xC (.int 1)) (xCons (xC (.int 2)) xNil))) xNil))))) (tgT 2 (tgCons (tgN 11) (tgCons (tgN 12) tgNil)))
  (sSeq (sSet 13 (xAll (callF 3 (f_join z)) (xCons (xVar 0) (xCons (x2 dIx (xVar 5) (xVar 11)) (xCons (x2 dIx (xVar 5) (xVar 12)) xNil)))))
  (sSeq (sSet 14 (xFlat (xAll (callF 3 (f_join z)) (xCons (xVar 0) (xCons (x2 dIx (xOwn 6) (xVar 11)) (xCons (x2 dIx (xOwn 6) (xVar 12)) xNil))))))
  (sSeq (sIf (bBl (x2 dEq (xVar 13) (xVar 14))) (sRet (xC (.bl true))) sNil)
  (sApp 3 (xAll (callF 3 (f_meet z)) (xCons (xVar 0) (xCons (xVar 13) (xCons (xVar 14) xNil)))))))))
  (sFrz 3 (sRet (xOr (x2 dLt (x1 dLenSet (xVar 3)) (xC (.int 3))) (xAll (callF 3 (f_on z)) (xCons (xVar 0) (xCons (x2 dIx (xVar 3) (xC (.int 2))) (xCons (xAll (callF 3 (f_join z)) (xCons (xVar 0) (xCons (x2 dIx (xVar 3) (xC (.int 0))) (xCons (x2 dIx (xVar 3) (xC (.int 1))) xNil)))) xNil))))))))))))
noncomputable def f_law (z : Adr) : Fn := defF false 1 9 ((sSeq (sSet 0 (xSliceS z.K (xVar 0) pNone (pSome (xC (.int 63)))))
  (sSeq (sFor (xAll dRg3 (xCons (xC (.int 0)) (xCons (xAll dLen (xCons (xVar 0) xNil)) (xCons (x2 dAdd (xC (.int 1)) (x2 dFdiv (xAll dLen (xCons (xVar 0) xNil)) (xC (.int 4)))) xNil)))) (tgN 1)
  (sSeq (sAsg (xAll lTup (xCons (xAll (callF 2 f_l_prime) (xCons (xVar 0) (xCons (xVar 1) xNil))) (xCons (xAll (callF 2 f_l_value) (xCons (xAll (callF 2 f_l_cell_at) (xCons (xVar 0) (xCons (x2 dAdd (xVar 1) (xC (.int 2))) xNil))) (xCons (xVar 1) xNil))) xNil))) (tgT 2 (tgCons (tgN 4) (tgCons (tgN 5) tgNil))))
  (sSeq (sSet 2 (xAll (callF 4 f_l_triples) (xCons (xVar 0) (xCons (xVar 1) (xCons (xVar 4) (xCons (xC (.int 6)) xNil))))))
  (sSeq (sFor (xAll dZip (xCons (xVar 2) (xCons (xSlice (xVar 2) (pSome (xC (.int 1))) pNone) xNil))) (tgT 2 (tgCons (tgN 6) (tgCons (tgN 7) tgNil)))
  (sIf (bNot (xTru (xAll (callF 3 (f_l_right z)) (xCons (xVar 4) (xCons (xVar 6) (xCons (xVar 7) xNil)))))) (sRet (xC (.bl false))) sNil))
  (sSeq (sIf (bOr (bNot (xTru (xAll (callF 4 (f_l_pappus z)) (xCons (xVar 4) (xCons (x2 dIx (xVar 2) (xC (.int 0))) (xCons (x2 dIx (xVar 2) (xC (.int 1))) (xCons (xVar 5) xNil))))))) (bNot (xTru (xAll (callF 4 (f_l_pappus z)) (xCons (xVar 4) (xCons (x2 dIx (xVar 2) (xC (.int 2))) (xCons (x2 dIx (xVar 2) (xC (.int 3))) (xCons (x2 dFdiv (xVar 5) (xC (.int 5))) xNil)))))))) (sRet (xC (.bl false))) sNil)
  (sSeq (sSet 3 (xLst (xComp false [8] (xItems (xSlice (xVar 2) (pSome (xC (.int 1))) (pSome (xC (.int 4))))) (tgN 8) bYes (xAll (callF 3 f_l_cross) (xCons (xVar 4) (xCons (x2 dIx (xVar 2) (xC (.int 0))) (xCons (xVar 8) xNil)))))))
  (sIf (bAnd (bBl (x2 dEq (x1 dLenSet (xVar 3)) (xC (.int 3)))) (bNot (xTru (xAll (callF 3 (f_l_desargues z)) (xCons (xVar 4) (xCons (xVar 2) (xCons (xVar 5) xNil))))))) (sRet (xC (.bl false))) sNil)))))))
  (sSeq (sIf (bOr (bNot (xTru (xAll (callF 1 (f_l_small_right z)) (xCons (xC (.int 3)) xNil)))) (bNot (xTru (xAll (callF 1 (f_l_small_right z)) (xCons (xC (.int 5)) xNil))))) (sRet (xC (.bl false))) sNil)
  (sRet (xAnd (x2 dEq (xAll (callF 3 (f_join z)) (xCons (xC (.int 7)) (xCons (xAll lTup (xCons (xC (.int 1)) (xCons (xC (.int 0)) (xCons (xC (.int 0)) xNil)))) (xCons (xAll lTup (xCons (xC (.int 0)) (xCons (xC (.int 1)) (xCons (xC (.int 0)) xNil)))) xNil)))) (xAll lTup (xCons (xC (.int 0)) (xCons (xC (.int 0)) (xCons (xC (.int 1)) xNil))))) (x2 dEq (xAll (callF 3 (f_meet z)) (xCons (xC (.int 3)) (xCons (xAll lTup (xCons (xC (.int 1)) (xCons (xC (.int 1)) (xCons (xC (.int 1)) xNil)))) (xCons (xAll lTup (xCons (xC (.int 1)) (xCons (xC (.int 2)) (xCons (xC (.int 0)) xNil)))) xNil)))) (xAll lTup (xCons (xC (.int 1)) (xCons (xC (.int 1)) (xCons (xC (.int 1)) xNil)))))))))))
end OM
set_option maxRecDepth 100000
namespace OM
open PySem DI
def f_point_by (z : Adr) : Fn := defF true 2 3 ((sSeq (sDrop (xAll (callF 1 (f_check_prime z)) (xCons (xVar 0) xNil)))
  (sSeq (sIf (bOr (bNot (xTru (xAll (callF 1 f_is_whole) (xCons (xVar 1) xNil)))) (bNot (bBl (xChain dLe dLe (xC (.int 0)) (xVar 1) (x2 dAdd (x2 dMul (xVar 0) (xVar 0)) (xVar 0)))))) (fun _ => .ex z.BadNumber) sNil)
  (sSeq (sIf (bBl (x2 dEq (xVar 1) (xC (.int 0)))) (sRet (xAll lTup (xCons (xC (.int 0)) (xCons (xC (.int 0)) (xCons (xC (.int 1)) xNil))))) sNil)
  (sSeq (sIf (bBl (x2 dLe (xVar 1) (xVar 0))) (sRet (xAll lTup (xCons (xC (.int 0)) (xCons (xC (.int 1)) (xCons (x2 dSub (xVar 1) (xC (.int 1))) xNil))))) sNil)
  (sSeq (sSet 2 (x2 dSub (x2 dSub (xVar 1) (xVar 0)) (xC (.int 1))))
  (sRet (xAll lTup (xCons (xC (.int 1)) (xCons (x2 dFdiv (xVar 2) (xVar 0)) (xCons (x2 dMod (xVar 2) (xVar 0)) xNil)))))))))))
def f_number_of (z : Adr) : Fn := defF true 2 2 ((sSeq (sDrop (xAll (callF 1 (f_check_prime z)) (xCons (xVar 0) xNil)))
  (sSeq (sDrop (xAll (callF 2 (f_check_point z)) (xCons (xVar 0) (xCons (xVar 1) xNil))))
  (sSeq (sIf (bBl (x2 dEq (x2 dIx (xVar 1) (xC (.int 0))) (xC (.int 1)))) (sRet (x2 dAdd (x2 dAdd (x2 dAdd (xC (.int 1)) (xVar 0)) (x2 dMul (x2 dIx (xVar 1) (xC (.int 1))) (xVar 0))) (x2 dIx (xVar 1) (xC (.int 2))))) sNil)
  (sRet (xIf (bBl (x2 dEq (x2 dIx (xVar 1) (xC (.int 1))) (xC (.int 1)))) (x2 dAdd (xC (.int 1)) (x2 dIx (xVar 1) (xC (.int 2)))) (xC (.int 0))))))))
def f_at_line : Fn := defF false 3 7 ((sSeq (sAsg (xVar 1) (tgT 3 (tgCons (tgN 4) (tgCons (tgN 5) (tgCons (tgN 6) tgNil)))))
  (sSeq (sIf (bAnd (bBl (x2 dEq (xVar 5) (xC (.int 0)))) (bBl (x2 dEq (xVar 6) (xC (.int 0))))) (sRet (xIf (bBl (x2 dEq (xVar 2) (xC (.int 0)))) (xAll lTup (xCons (xC (.int 0)) (xCons (xC (.int 0)) (xCons (xC (.int 1)) xNil)))) (xAll lTup (xCons (xC (.int 0)) (xCons (xC (.int 1)) (xCons (x2 dSub (xVar 2) (xC (.int 1))) xNil)))))) sNil)
  (sSeq (sIf (bBl (x2 dEq (xVar 6) (xC (.int 0)))) (sRet (xIf (bBl (x2 dEq (xVar 2) (xC (.int 0)))) (xAll lTup (xCons (xC (.int 0)) (xCons (xC (.int 0)) (xCons (xC (.int 1)) xNil)))) (xAll lTup (xCons (xC (.int 1)) (xCons (x2 dMod (x2 dMul (x1 dNeg (xVar 4)) (xAll (callF 2 f_turned) (xCons (xVar 0) (xCons (xVar 5) xNil)))) (xVar 0)) (xCons (x2 dSub (xVar 2) (xC (.int 1))) xNil)))))) sNil)
  (sSeq (sSet 3 (xAll (callF 2 f_turned) (xCons (xVar 0) (xCons (xVar 6) xNil))))
  (sSeq (sIf (bBl (x2 dEq (xVar 2) (xC (.int 0)))) (sRet (xAll lTup (xCons (xC (.int 0)) (xCons (xC (.int 1)) (xCons (x2 dMod (x2 dMul (x1 dNeg (xVar 5)) (xVar 3)) (xVar 0)) xNil))))) sNil)
  (sRet (xAll lTup (xCons (xC (.int 1)) (xCons (x2 dSub (xVar 2) (xC (.int 1))) (xCons (x2 dMod (x2 dMul (x1 dNeg (x2 dAdd (xVar 4) (x2 dMul (xVar 5) (x2 dSub (xVar 2) (xC (.int 1)))))) (xVar 3)) (xVar 0)) xNil)))))))))))
def f_point_on (z : Adr) : Fn := defF true 3 3 ((sSeq (sDrop (xAll (callF 1 (f_check_prime z)) (xCons (xVar 0) xNil)))
  (sSeq (sDrop (xAll (callF 2 (f_check_line z)) (xCons (xVar 0) (xCons (xVar 1) xNil))))
  (sSeq (sIf (bOr (bNot (xTru (xAll (callF 1 f_is_whole) (xCons (xVar 2) xNil)))) (bNot (bBl (xChain dLe dLe (xC (.int 0)) (xVar 2) (xVar 0))))) (fun _ => .ex z.BadNumber) sNil)
  (sRet (xAll (callF 3 f_at_line) (xCons (xVar 0) (xCons (xVar 1) (xCons (xVar 2) xNil)))))))))
def f_number_on (z : Adr) : Fn := defF true 3 3 ((sSeq (sDrop (xAll (callF 1 (f_check_prime z)) (xCons (xVar 0) xNil)))
  (sSeq (sDrop (xAll (callF 2 (f_check_line z)) (xCons (xVar 0) (xCons (xVar 1) xNil))))
  (sSeq (sDrop (xAll (callF 2 (f_check_point z)) (xCons (xVar 0) (xCons (xVar 2) xNil))))
  (sSeq (sIf (bNot (xTru (xAll (callF 3 f_is_on) (xCons (xVar 0) (xCons (xVar 2) (xCons (xVar 1) xNil)))))) (fun _ => .ex z.NotOn) sNil)
  (sSeq (sIf (bBl (x2 dEq (xVar 2) (xAll (callF 3 f_at_line) (xCons (xVar 0) (xCons (xVar 1) (xCons (xC (.int 0)) xNil)))))) (sRet (xC (.int 0))) sNil)
  (sSeq (sIf (bOr (bAnd (bBl (x2 dEq (x2 dIx (xVar 1) (xC (.int 1))) (xC (.int 0)))) (bBl (x2 dEq (x2 dIx (xVar 1) (xC (.int 2))) (xC (.int 0))))) (bBl (x2 dEq (x2 dIx (xVar 1) (xC (.int 2))) (xC (.int 0))))) (sRet (x2 dAdd (xC (.int 1)) (x2 dIx (xVar 2) (xC (.int 2))))) sNil)
  (sRet (x2 dAdd (xC (.int 1)) (x2 dIx (xVar 2) (xC (.int 1))))))))))))
def f_l_whole : Fn := defF false 1 1 ((sRet (xAnd (xAll (dIsT .int) (xCons (xVar 0) (xCons (xC (.ty "int")) xNil))) (xNot (xAll (dIsT .bool) (xCons (xVar 0) (xCons (xC (.ty "bool")) xNil)))))))
def f_l_not_on (z : Adr) : Fn := tryF 3 5 3 (xCons (xVar 0) (xCons (xVar 1) (xCons (xVar 2) xNil))) (f_number_on z) z.NotOn (fun a => (sSeq (sSet 4 (xLst (xAll lLst (xCons (xAll (dIsE z.K z.NotOn a) (xCons (xVar 3) (xCons (xC (.fn z.Alike)) xNil))) (xCons (xAll (dIsE z.K z.NotOn a) (xCons (xVar 3) (xCons (xC (.fn z.BadForm)) xNil))) (xCons (xAll (dIsE z.K z.NotOn a) (xCons (xVar 3) (xCons (xC (.fn z.BadLine)) xNil))) xNil))))))
  (sSeq (sSet 4 (x2 dAdd (xVar 4) (xLst (xAll lLst (xCons (xAll (dIsE z.K z.NotOn a) (xCons (xVar 3) (xCons (xC (.fn z.BadNumber)) xNil))) (xCons (xAll (dIsE z.K z.NotOn a) (xCons (xVar 3) (xCons (xC (.fn z.BadPoint)) xNil))) (xCons (xAll (dIsE z.K z.NotOn a) (xCons (xVar 3) (xCons (xC (.fn z.BadPrime)) xNil))) xNil)))))))
  (sRet (xAnd (xAll (dIsE z.K z.NotOn a) (xCons (xVar 3) (xCons (xC (.fn z.NotOn)) xNil))) (xNot (xAll dAny (xCons (xVar 4) xNil))))))))
def f_l_line_right (z : Adr) : Fn := defF false 3 8 ((sSeq (sSet 3 (xAll (callF 2 f_l_points) (xCons (xVar 0) (xCons (xVar 1) xNil))))
  (sSeq (sFor (xAll dEnum (xCons (xVar 3) xNil)) (tgT 2 (tgCons (tgN 5) (tgCons (tgN 4) tgNil)))
  (sIf (bOr (bBl (x2 dLt (xVar 0) (xC (.int 60)))) (bOr (bBl (x2 dLt (x2 dMod (xVar 5) (xC (.int 97))) (xC (.int 3)))) (bBl (x2 dEq (xVar 5) (xVar 0))))) (sSeq (sPar 6 7 (xCons (xAll (callF 3 (f_point_on z)) (xCons (xVar 0) (xCons (xVar 1) (xCons (xVar 5) xNil)))) (xCons (xAll (callF 3 (f_number_on z)) (xCons (xVar 0) (xCons (xVar 1) (xCons (xVar 4) xNil)))) xNil)))
  (sIf (bOr (bNot (xTru (xAll (callF 3 f_l_is_told) (xCons (xVar 0) (xCons (xVar 6) (xCons (xC (.int 3)) xNil)))))) (bOr (bBl (x2 dNe (xVar 6) (xVar 4))) (bOr (bNot (xTru (xAll (callF 1 f_l_whole) (xCons (xVar 7) xNil)))) (bBl (x2 dNe (xVar 7) (xVar 5)))))) (sRet (xC (.bl false))) sNil)) sNil))
  (sSeq (sFor (xItems (xVar 2)) (tgN 4)
  (sIf (bAnd (bBl (x2 dNotIn (xVar 4) (xVar 3))) (bNot (xTru (xAll (callF 3 (f_l_not_on z)) (xCons (xVar 0) (xCons (xVar 1) (xCons (xVar 4) xNil))))))) (sRet (xC (.bl false))) sNil))
  (sRet (x2 dEq (xAll dLen (xCons (xVar 3) xNil)) (x2 dAdd (xVar 0) (xC (.int 1)))))))))
def f_l_number_right (z : Adr) : Fn := defF false 2 4 ((sSeq (sSet 2 (xAll (callF 2 (f_point_by z)) (xCons (xVar 0) (xCons (xVar 1) xNil))))
  (sSeq (sIf (bOr (bNot (xTru (xAll (callF 3 f_l_is_told) (xCons (xVar 0) (xCons (xVar 2) (xCons (xC (.int 3)) xNil)))))) (bBl (x2 dNe (xVar 2) (xAll (callF 2 f_l_triple) (xCons (xVar 0) (xCons (xVar 1) xNil)))))) (sRet (xC (.bl false))) sNil)
  (sSeq (sSet 3 (xAll (callF 2 (f_number_of z)) (xCons (xVar 0) (xCons (xVar 2) xNil))))
  (sRet (xAnd (xAll (callF 1 f_l_whole) (xCons (xVar 3) xNil)) (x2 dEq (xVar 3) (xVar 1))))))))
end OM
set_option maxRecDepth 100000
namespace OM
open PySem L2 DI
def f_left_by : Fn := defF false 3 12 ((sSeq (sAsg (xAll lTup (xCons (xVar 1) (xCons (xVar 2) xNil))) (tgT 2 (tgCons (tgT 6 (tgCons (tgN 3) (tgCons (tgN 4) (tgCons (tgN 5) (tgCons (tgN 6) (tgCons (tgN 7) (tgCons (tgN 8) tgNil))))))) (tgCons (tgT 3 (tgCons (tgN 9) (tgCons (tgN 10) (tgCons (tgN 11) tgNil)))) tgNil))))
  (sRet (x2 dMod (x2 dAdd (x2 dAdd (x2 dAdd (x2 dAdd (x2 dAdd (x2 dMul (x2 dMul (xVar 3) (xVar 9)) (xVar 9)) (x2 dMul (x2 dMul (xVar 4) (xVar 10)) (xVar 10))) (x2 dMul (x2 dMul (xVar 5) (xVar 11)) (xVar 11))) (x2 dMul (x2 dMul (xVar 6) (xVar 9)) (xVar 10))) (x2 dMul (x2 dMul (xVar 7) (xVar 9)) (xVar 11))) (x2 dMul (x2 dMul (xVar 8) (xVar 10)) (xVar 11))) (xVar 0)))))
def f_rest_of : Fn := defF false 3 10 ((sSeq (sPar 4 5 (xCons (xAll (callF 3 f_at_line) (xCons (xVar 0) (xCons (xVar 2) (xCons (xC (.int 0)) xNil)))) (xCons (xAll (callF 3 f_at_line) (xCons (xVar 0) (xCons (xVar 2) (xCons (xC (.int 1)) xNil)))) xNil)))
  (sSeq (sPar 6 7 (xCons (xAll (callF 3 f_left_by) (xCons (xVar 0) (xCons (xVar 1) (xCons (xVar 4) xNil)))) (xCons (xAll (callF 3 f_left_by) (xCons (xVar 0) (xCons (xVar 1) (xCons (xVar 5) xNil)))) xNil)))
  (sSeq (sSet 3 (x2 dSub (x2 dSub (xAll (callF 3 f_left_by) (xCons (xVar 0) (xCons (xVar 1) (xCons (xAll dTuple (xCons (xLst (xComp false [8, 9] (xAll dZip (xCons (xVar 4) (xCons (xVar 5) xNil))) (tgT 2 (tgCons (tgN 8) (tgCons (tgN 9) tgNil))) bYes (x2 dAdd (xVar 8) (xVar 9)))) xNil)) xNil)))) (xVar 6)) (xVar 7)))
  (sRet (x2 dMod (x2 dSub (x2 dMul (xVar 3) (xVar 3)) (x2 dMul (x2 dMul (xC (.int 4)) (xVar 6)) (xVar 7))) (xVar 0)))))))
def f_is_square : Fn := defF false 2 3 ((sRet (xAll dAny (xCons (xLst (xComp false [2] (xAll dRg1 (xCons (xVar 0) xNil)) (tgN 2) bYes (x2 dEq (x2 dMod (x2 dMul (xVar 2) (xVar 2)) (xVar 0)) (xVar 1)))) xNil))))
def f_shared_of : Fn := defF false 3 6 ((sSeq (sSet 3 (xLst (xComp false [4] (xAll dRg1 (xCons (x2 dAdd (xVar 0) (xC (.int 1))) xNil)) (tgN 4) bYes (xAll (callF 3 f_at_line) (xCons (xVar 0) (xCons (xVar 2) (xCons (xVar 4) xNil)))))))
  (sRet (xLst (xComp false [5] (xItems (xVar 3)) (tgN 5) (bBl (x2 dEq (xAll (callF 3 f_left_by) (xCons (xVar 0) (xCons (xVar 1) (xCons (xVar 5) xNil)))) (xC (.int 0)))) (xVar 5))))))
def f_shared (z : Adr) : FnO := defO true 3 4 ((sSeq (sDrop (xAll (callF 1 (f_check_prime z)) (xCons (xVar 0) xNil)))
  (sSeq (sIf (bNot (xTru (xAll (callF 3 f_is_told) (xCons (xVar 0) (xCons (xVar 1) (xCons (xC (.int 6)) xNil)))))) (fun _ => .ex z.BadForm) sNil)
  (sSeq (sDrop (xAll (callF 2 (f_check_line z)) (xCons (xVar 0) (xCons (xVar 2) xNil))))
  (sSeq (sSet 3 (xAll (callF 3 f_shared_of) (xCons (xVar 0) (xCons (xVar 1) (xCons (xVar 2) xNil)))))
  (sRetO (oIf (bBl (x2 dGt (xAll dLen (xCons (xVar 3) xNil)) (xC (.int 0)))) (xAll (oMkL z.Shared "points") (xCons (xVar 3) xNil)) (oD (xAll (dMkV z.Apart "rest") (xCons (xAll (callF 3 f_rest_of) (xCons (xVar 0) (xCons (xVar 1) (xCons (xVar 2) xNil)))) xNil))))))))))
def f_l_left : Fn := defF false 3 9 ((sSeq (sAsg (xVar 2) (tgT 3 (tgCons (tgN 4) (tgCons (tgN 5) (tgCons (tgN 6) tgNil)))))
  (sSeq (sSet 3 (xAll lTup (xCons (x2 dMul (xVar 4) (xVar 4)) (xCons (x2 dMul (xVar 5) (xVar 5)) (xCons (x2 dMul (xVar 6) (xVar 6)) (xCons (x2 dMul (xVar 4) (xVar 5)) (xCons (x2 dMul (xVar 4) (xVar 6)) (xCons (x2 dMul (xVar 5) (xVar 6)) xNil))))))))
  (sRet (x2 dMod (xAll dSum (xCons (xLst (xComp false [7, 8] (xAll dZip (xCons (xVar 1) (xCons (xVar 3) xNil))) (tgT 2 (tgCons (tgN 7) (tgCons (tgN 8) tgNil))) bYes (x2 dMul (xVar 7) (xVar 8)))) xNil)) (xVar 0))))))
def f_l_rest : Fn := defF false 3 10 ((sSeq (sAsg (xSlice (xAll (callF 2 f_l_points) (xCons (xVar 0) (xCons (xVar 2) xNil))) pNone (pSome (xC (.int 2)))) (tgT 2 (tgCons (tgN 4) (tgCons (tgN 5) tgNil))))
  (sSeq (sPar 6 7 (xCons (xAll (callF 3 f_l_left) (xCons (xVar 0) (xCons (xVar 1) (xCons (xVar 4) xNil)))) (xCons (xAll (callF 3 f_l_left) (xCons (xVar 0) (xCons (xVar 1) (xCons (xVar 5) xNil)))) xNil)))
  (sSeq (sSet 3 (x2 dSub (x2 dSub (xAll (callF 3 f_l_left) (xCons (xVar 0) (xCons (xVar 1) (xCons (xAll dTuple (xCons (xLst (xComp false [8, 9] (xAll dZip (xCons (xVar 4) (xCons (xVar 5) xNil))) (tgT 2 (tgCons (tgN 8) (tgCons (tgN 9) tgNil))) bYes (x2 dAdd (xVar 8) (xVar 9)))) xNil)) xNil)))) (xVar 6)) (xVar 7)))
  (sRet (x2 dMod (x2 dSub (x2 dMul (xVar 3) (xVar 3)) (x2 dMul (x2 dMul (xC (.int 4)) (xVar 6)) (xVar 7))) (xVar 0)))))))
def f_l_square : Fn := defF false 2 3 ((sRet (x2 dIn (xVar 1) (xLst (xComp false [2] (xAll dRg1 (xCons (x2 dAdd (x2 dFdiv (xVar 0) (xC (.int 2))) (xC (.int 1))) xNil)) (tgN 2) bYes (x2 dMod (x2 dMul (xVar 2) (xVar 2)) (xVar 0)))))))
def f_l_form : Fn := defF false 3 10 ((sSeq (sAsg (xAll lTup (xCons (xAll (callF 3 f_l_draw) (xCons (x2 dMod (xAll (callF 2 f_l_cell_at) (xCons (xVar 0) (xCons (x2 dAdd (xVar 1) (xC (.int 1))) xNil))) (x2 dPow (xC (.int 10)) (xC (.int 18)))) (xCons (xC (.int 5)) (xCons (xC (.int 4)) xNil)))) (xCons (xAll (callF 4 f_l_triples) (xCons (xVar 0) (xCons (xVar 1) (xCons (xVar 2) (xCons (xC (.int 2)) xNil))))) xNil))) (tgT 2 (tgCons (tgN 4) (tgCons (tgN 5) tgNil))))
  (sSeq (sIf (bBl (x2 dGt (xVar 4) (xC (.int 1)))) (sSeq (sAsg (xAll lTup (xCons (x2 dIx (xVar 5) (xC (.int 0))) (xCons (x2 dIx (xVar 5) (x2 dSub (xVar 4) (xC (.int 2)))) xNil))) (tgT 2 (tgCons (tgN 6) (tgCons (tgN 7) tgNil))))
  (sSeq (sOwn 3 (xComp false [8] (xAll dRg1 (xCons (xC (.int 3)) xNil)) (tgN 8) bYes (x2 dMul (x2 dIx (xVar 6) (xVar 8)) (x2 dIx (xVar 7) (xVar 8)))))
  (sSeq (sFor (xItems (xAll lTup (xCons (xAll lTup (xCons (xC (.int 0)) (xCons (xC (.int 1)) xNil))) (xCons (xAll lTup (xCons (xC (.int 0)) (xCons (xC (.int 2)) xNil))) (xCons (xAll lTup (xCons (xC (.int 1)) (xCons (xC (.int 2)) xNil))) xNil))))) (tgT 2 (tgCons (tgN 8) (tgCons (tgN 9) tgNil)))
  (sApp 3 (x2 dAdd (x2 dMul (x2 dIx (xVar 6) (xVar 8)) (x2 dIx (xVar 7) (xVar 9))) (x2 dMul (x2 dIx (xVar 6) (xVar 9)) (x2 dIx (xVar 7) (xVar 8))))))
  (sFrz 3 (sRet (xAll (callF 2 f_l_told) (xCons (xVar 2) (xCons (xVar 3) xNil)))))))) sNil)
  (sSeq (sOwn 3 (xComp false [8] (xAll dRg1 (xCons (xC (.int 5)) xNil)) (tgN 8) bYes (x2 dMod (xAll (callF 2 f_l_value) (xCons (xAll (callF 2 f_l_cell_at) (xCons (xVar 0) (xCons (x2 dAdd (xVar 1) (xVar 8)) xNil))) (xCons (x2 dAdd (xVar 1) (x2 dMul (xC (.int 5)) (xVar 8))) xNil))) (xIf (bBl (x2 dEq (xVar 4) (xC (.int 0)))) (xVar 2) (xC (.int 3))))))
  (sFrz 3 (sRet (xAll (callF 2 f_l_told) (xCons (xVar 2) (xCons (x2 dAdd (xVar 3) (xLst (xAll lLst (xCons (xC (.int 1)) xNil)))) xNil)))))))))
def f_l_shared4 : Fn := defF false 3 4 ((sRet (xLst (xComp false [3] (xItems (xAll (callF 2 f_l_points) (xCons (xVar 0) (xCons (xVar 2) xNil)))) (tgN 3) (bBl (x2 dEq (xAll (callF 3 f_l_left) (xCons (xVar 0) (xCons (xVar 1) (xCons (xVar 3) xNil)))) (xC (.int 0)))) (xVar 3)))))
noncomputable def f_l_due4 (z : Adr) : Fn := defF false 4 4 ((sSeq (sIf (xTru (xAll (dIsI z.K [z.Oval, z.InLine, z.Shared, z.Apart]) (xCons (xVar 3) (xCons (xC (.fn z.Shared)) xNil)))) (sRet (xAnd (x2 dNe (x1 (dFld [z.Shared] "points") (xVar 3)) (xLst (xAll lLst xNil))) (x2 dEq (x1 (dFld [z.Shared] "points") (xVar 3)) (xAll (callF 3 f_l_shared4) (xCons (xVar 0) (xCons (xVar 1) (xCons (xVar 2) xNil))))))) sNil)
  (sRet (xAnd (x2 dEq (x1 (dFld [z.Apart] "rest") (xVar 3)) (xAll (callF 3 f_l_rest) (xCons (xVar 0) (xCons (xVar 1) (xCons (xVar 2) xNil))))) (xNot (xAll (callF 2 f_l_square) (xCons (xVar 0) (xCons (x1 (dFld [z.Apart] "rest") (xVar 3)) xNil))))))))
def f_Shared_shows (z : Adr) : Fn := defF false 4 4 ((sRet (xAnd (x2 dGt (xAll dLen (xCons (x1 (dFld [z.Shared] "points") (xVar 0)) xNil)) (xC (.int 0))) (x2 dEq (x1 (dFld [z.Shared] "points") (xVar 0)) (xAll (callF 3 f_shared_of) (xCons (xVar 1) (xCons (xVar 2) (xCons (xVar 3) xNil))))))))
def f_Apart_shows (z : Adr) : Fn := defF false 4 4 ((sSeq (sIf (bOr (bNot (xTru (xAll (callF 1 f_is_whole) (xCons (x1 (dFld [z.Apart] "rest") (xVar 0)) xNil)))) (bBl (x2 dNe (x1 (dFld [z.Apart] "rest") (xVar 0)) (xAll (callF 3 f_rest_of) (xCons (xVar 1) (xCons (xVar 2) (xCons (xVar 3) xNil))))))) (sRet (xC (.bl false))) sNil)
  (sRet (xNot (xAll (callF 2 f_is_square) (xCons (xVar 1) (xCons (x1 (dFld [z.Apart] "rest") (xVar 0)) xNil)))))))
noncomputable def f_l_right4 (z : Adr) : Fn := defF false 4 11 ((sSeq (sSet 4 (xAll (callF 3 f_l_shared4) (xCons (xVar 0) (xCons (xVar 1) (xCons (xVar 2) xNil)))))
  (sSeq (sFor (xAll dRg1 (xCons (xC (.int 2)) xNil)) (tgN 5)
  (sSeq (sOwnI 6 (xAll (callO 3 (f_shared z)) (xCons (xVar 0) (xCons (xVar 1) (xCons (xVar 2) xNil)))))
  (sSeq (sIf (bOr (bNot (xTru (xAll (dIsI z.K [z.Oval, z.InLine, z.Shared, z.Apart]) (xCons (xOwn 6) (xCons (xC (.fn z.Answer)) xNil))))) (bBl (x2 dEq (xAll (dIsI z.K [z.Oval, z.InLine, z.Shared, z.Apart]) (xCons (xOwn 6) (xCons (xC (.fn z.Shared)) xNil))) (xAll (dIsI z.K [z.Oval, z.InLine, z.Shared, z.Apart]) (xCons (xOwn 6) (xCons (xC (.fn z.Apart)) xNil)))))) (sRet (xC (.bl false))) sNil)
  (sSeq (sIf (bOr (xTru (xAll (dIsI z.K [z.Oval, z.InLine, z.Shared, z.Apart]) (xCons (xOwn 6) (xCons (xC (.fn z.Oval)) xNil)))) (bOr (xTru (xAll (dIsI z.K [z.Oval, z.InLine, z.Shared, z.Apart]) (xCons (xOwn 6) (xCons (xC (.fn z.InLine)) xNil)))) (bBl (x2 dNe (xAll (dIsI z.K [z.Oval, z.InLine, z.Shared, z.Apart]) (xCons (xOwn 6) (xCons (xC (.fn z.Shared)) xNil))) (x2 dNe (xVar 4) (xLst (xAll lLst xNil))))))) (sRet (xC (.bl false))) sNil)
  (sSeq (sIf (bAnd (xTru (xAll (dIsI z.K [z.Oval, z.InLine, z.Shared, z.Apart]) (xCons (xOwn 6) (xCons (xC (.fn z.Shared)) xNil)))) (bBl (x2 dNe (x1 (dFld [z.Shared] "points") (xOwn 6)) (xVar 4)))) (sRet (xC (.bl false))) sNil)
  (sSeq (sIf (bBl (x2 dIsNot (xMeth2 "shows" z.Shared z.Apart 4 (f_Shared_shows z) (f_Apart_shows z) (xOwn 6) (xCons (xVar 0) (xCons (xVar 1) (xCons (xVar 2) xNil)))) (xC (.bl true)))) (sRet (xC (.bl false))) sNil)
  (sSeq (sIf (bAnd (xTru (xAll (dIsI z.K [z.Oval, z.InLine, z.Shared, z.Apart]) (xCons (xOwn 6) (xCons (xC (.fn z.Apart)) xNil)))) (bNot (xTru (xAll (callF 4 (f_l_due4 z)) (xCons (xVar 0) (xCons (xVar 1) (xCons (xVar 2) (xCons (xOwn 6) xNil)))))))) (sRet (xC (.bl false))) sNil)
  (sSeq (sFor (xItems (xVar 3)) (tgT 2 (tgCons (tgN 7) (tgCons (tgN 8) tgNil)))
  (sSeq (sSet 9 (xFlat (xAll (callF 4 (f_l_due4 z)) (xCons (xVar 0) (xCons (xVar 7) (xCons (xVar 8) (xCons (xOwn 6) xNil)))))))
  (sIf (bNot (xTru (xAll (callF 2 f_l_says) (xCons (xMeth2 "shows" z.Shared z.Apart 4 (f_Shared_shows z) (f_Apart_shows z) (xOwn 6) (xCons (xVar 0) (xCons (xVar 7) (xCons (xVar 8) xNil)))) (xCons (xVar 9) xNil))))) (sRet (xC (.bl false))) sNil)))
  (sSeq (sIf (xTru (xAll (dIsI z.K [z.Oval, z.InLine, z.Shared, z.Apart]) (xCons (xOwn 6) (xCons (xC (.fn z.Apart)) xNil)))) (sFrz 6 (sRet (xAll (callF 1 f_l_whole) (xCons (x1 (dFld [z.Apart] "rest") (xVar 6)) xNil)))) sNil)
  (sSeq (sIf (bNot (xTru (xAll (dIsT .lst) (xCons (x1 (dFld [z.Shared] "points") (xOwn 6)) (xCons (xC (.ty "list")) xNil))))) (sRet (xC (.bl false))) sNil)
  (sSeq (sIf (bNot (xTru (xAll dAll (xCons (xLst (xComp true [10] (xItems (x1 (dFld [z.Shared] "points") (xOwn 6))) (tgN 10) bYes (xAll (callF 3 f_l_is_told) (xCons (xVar 0) (xCons (xVar 10) (xCons (xC (.int 3)) xNil)))))) xNil)))) (sRet (xC (.bl false))) sNil)
  (sSeq (sAppF 6 "points" [z.Shared] (xAll lTup (xCons (xC (.int 0)) (xCons (xC (.int 0)) (xCons (xC (.int 1)) xNil)))))
  (sIf (bBl (x2 dIsNot (xMeth2 "shows" z.Shared z.Apart 4 (f_Shared_shows z) (f_Apart_shows z) (xOwn 6) (xCons (xVar 0) (xCons (xVar 1) (xCons (xVar 2) xNil)))) (xC (.bl false)))) (sRet (xC (.bl false))) sNil)))))))))))))
  (sRet (xC (.bl true))))))
def KitOk (z : Adr) : Prop := PySem.W.kitOne z.K (.ref z.Oval) (.ref z.Oval) = some true ∧ PySem.W.kitOne z.K (.ref z.Oval) (.ref z.InLine) = some false ∧ PySem.W.kitOne z.K (.ref z.Oval) (.ref z.Shared) = some false ∧ PySem.W.kitOne z.K (.ref z.Oval) (.ref z.Apart) = some false ∧ PySem.W.kitOne z.K (.ref z.Oval) (.ref z.Answer) = some true ∧ PySem.W.kitOne z.K (.ref z.InLine) (.ref z.Oval) = some false ∧ PySem.W.kitOne z.K (.ref z.InLine) (.ref z.InLine) = some true ∧ PySem.W.kitOne z.K (.ref z.InLine) (.ref z.Shared) = some false ∧ PySem.W.kitOne z.K (.ref z.InLine) (.ref z.Apart) = some false ∧ PySem.W.kitOne z.K (.ref z.InLine) (.ref z.Answer) = some true ∧ PySem.W.kitOne z.K (.ref z.Shared) (.ref z.Oval) = some false ∧ PySem.W.kitOne z.K (.ref z.Shared) (.ref z.InLine) = some false ∧ PySem.W.kitOne z.K (.ref z.Shared) (.ref z.Shared) = some true ∧ PySem.W.kitOne z.K (.ref z.Shared) (.ref z.Apart) = some false ∧ PySem.W.kitOne z.K (.ref z.Shared) (.ref z.Answer) = some true ∧ PySem.W.kitOne z.K (.ref z.Apart) (.ref z.Oval) = some false ∧ PySem.W.kitOne z.K (.ref z.Apart) (.ref z.InLine) = some false ∧ PySem.W.kitOne z.K (.ref z.Apart) (.ref z.Shared) = some false ∧ PySem.W.kitOne z.K (.ref z.Apart) (.ref z.Apart) = some true ∧ PySem.W.kitOne z.K (.ref z.Apart) (.ref z.Answer) = some true
end OM
set_option maxRecDepth 100000
namespace OM
open PySem L2 DI
def f_in_line : Fn := defF false 4 13 ((sSeq (sAsg (xAll lTup (xCons (xVar 1) (xCons (xVar 2) (xCons (xVar 3) xNil)))) (tgT 3 (tgCons (tgT 3 (tgCons (tgN 4) (tgCons (tgN 5) (tgCons (tgN 6) tgNil)))) (tgCons (tgT 3 (tgCons (tgN 7) (tgCons (tgN 8) (tgCons (tgN 9) tgNil)))) (tgCons (tgT 3 (tgCons (tgN 10) (tgCons (tgN 11) (tgCons (tgN 12) tgNil)))) tgNil)))))
  (sRet (x2 dEq (x2 dMod (x2 dAdd (x2 dAdd (x2 dMul (xVar 4) (x2 dSub (x2 dMul (xVar 8) (xVar 12)) (x2 dMul (xVar 9) (xVar 11)))) (x2 dMul (xVar 5) (x2 dSub (x2 dMul (xVar 9) (xVar 10)) (x2 dMul (xVar 7) (xVar 12))))) (x2 dMul (xVar 6) (x2 dSub (x2 dMul (xVar 7) (xVar 11)) (x2 dMul (xVar 8) (xVar 10))))) (xVar 0)) (xC (.int 0))))))
def f_threes_of : Fn := defF false 1 5 ((sSeq (sOwn 1 (xAll lLst xNil))
  (sSeq (sFor (xAll dRg1 (xCons (xC (.int 3)) xNil)) (tgN 2)
  (sFor (xAll dRg2 (xCons (x2 dAdd (xVar 2) (xC (.int 1))) (xCons (xC (.int 4)) xNil))) (tgN 3)
  (sExt 1 (xLst (xComp false [4] (xAll dRg2 (xCons (x2 dAdd (xVar 3) (xC (.int 1))) (xCons (xC (.int 5)) xNil))) (tgN 4) bYes (xAll lTup (xCons (xVar 2) (xCons (xVar 3) (xCons (xVar 4) xNil)))))))))
  (sFrz 1 (sRet (xVar 1))))))
def f_first_in_line : Fn := defF false 2 5 ((sSeq (sFor (xItems (xAll (callF 1 f_threes_of) (xCons (xVar 1) xNil))) (tgT 3 (tgCons (tgN 2) (tgCons (tgN 3) (tgCons (tgN 4) tgNil))))
  (sIf (xTru (xAll (callF 4 f_in_line) (xCons (xVar 0) (xCons (x2 dIx (xVar 1) (xVar 2)) (xCons (x2 dIx (xVar 1) (xVar 3)) (xCons (x2 dIx (xVar 1) (xVar 4)) xNil)))))) (sRet (xLst (xAll lLst (xCons (xVar 2) (xCons (xVar 3) (xCons (xVar 4) xNil)))))) sNil))
  (sRet (xLst (xAll lLst xNil)))))
def f_through : Fn := defF false 2 17 ((sSeq (sOwn 2 (xComp false [11, 12, 13] (xItems (xVar 1)) (tgT 3 (tgCons (tgN 11) (tgCons (tgN 12) (tgCons (tgN 13) tgNil)))) bYes (xLst (xAll lLst (xCons (x2 dMul (xVar 11) (xVar 11)) (xCons (x2 dMul (xVar 12) (xVar 12)) (xCons (x2 dMul (xVar 13) (xVar 13)) (xCons (x2 dMul (xVar 11) (xVar 12)) (xCons (x2 dMul (xVar 11) (xVar 13)) (xCons (x2 dMul (xVar 12) (xVar 13)) xNil))))))))))
  (sSeq (sOwn 3 (xAll lLst xNil))
  (sSeq (sFor (xAll dRg1 (xCons (xC (.int 6)) xNil)) (tgN 4)
  (sSeq (sSet 7 (xFlat (xAll dLen (xCons (xOwn 3) xNil))))
  (sSeq (sSet 8 (xLst (xComp false [10] (xAll dRg2 (xCons (xVar 7) (xCons (xC (.int 5)) xNil))) (tgN 10) (bBl (x2 dNe (x2 dMod (x2 dIx (xIxO 2 (xVar 10)) (xVar 4)) (xVar 0)) (xC (.int 0)))) (xVar 10))))
  (sIf (bBl (x2 dGt (xAll dLen (xCons (xVar 8) xNil)) (xC (.int 0)))) (sSeq (sSwap 2 (xVar 7) (x2 dIx (xVar 8) (xC (.int 0))) (xIxO 2 (x2 dIx (xVar 8) (xC (.int 0)))) (xIxO 2 (xVar 7)))
  (sSeq (sSet 9 (xAll (callF 2 f_turned) (xCons (xVar 0) (xCons (x2 dIx (xIxO 2 (xVar 7)) (xVar 4)) xNil))))
  (sSeq (sSetIx 2 (xVar 7) (xLst (xComp false [14] (xItems (xIxO 2 (xVar 7))) (tgN 14) bYes (x2 dMod (x2 dMul (xVar 14) (xVar 9)) (xVar 0)))))
  (sSeq (sFor (xAll dRg1 (xCons (xC (.int 5)) xNil)) (tgN 10)
  (sIf (bBl (x2 dNe (xVar 10) (xVar 7))) (sSeq (sSet 15 (x2 dIx (xIxO 2 (xVar 10)) (xVar 4)))
  (sSetIx 2 (xVar 10) (xLst (xComp false [14, 16] (xAll dZip (xCons (xIxO 2 (xVar 10)) (xCons (xIxO 2 (xVar 7)) xNil))) (tgT 2 (tgCons (tgN 14) (tgCons (tgN 16) tgNil))) bYes (x2 dMod (x2 dSub (xVar 14) (x2 dMul (xVar 15) (xVar 16))) (xVar 0)))))) sNil))
  (sApp 3 (xVar 4)))))) sNil))))
  (sSeq (sFrz 3 (sSet 5 (x2 dIx (xLst (xComp false [4] (xAll dRg1 (xCons (xC (.int 6)) xNil)) (tgN 4) (bBl (x2 dNotIn (xVar 4) (xVar 3))) (xVar 4))) (xC (.int 0)))))
  (sSeq (sOwn 6 (fun ρ => ((xLst (xAll lLst (xCons (xC (.int 0)) xNil))) ρ).bind fun x => ((xC (.int 6)) ρ).bind fun y => dRep x y))
  (sSeq (sSetIx 6 (xVar 5) (xC (.int 1)))
  (sSeq (sFor (xAll dEnum (xCons (xVar 3) xNil)) (tgT 2 (tgCons (tgN 7) (tgCons (tgN 4) tgNil)))
  (sSetIx 6 (xVar 4) (x1 dNeg (x2 dIx (xIxO 2 (xVar 7)) (xVar 5)))))
  (sFrz 6 (sRet (xAll (callF 2 f_told_of) (xCons (xVar 0) (xCons (xVar 6) xNil)))))))))))))
def f_oval (z : Adr) : FnO := defO true 2 4 ((sSeq (sDrop (xAll (callF 1 (f_check_prime z)) (xCons (xVar 0) xNil)))
  (sSeq (sIf (bOr (bNot (xTru (xAll (dIsT .lst) (xCons (xVar 1) (xCons (xC (.ty "list")) xNil))))) (bBl (x2 dNe (xAll dLen (xCons (xVar 1) xNil)) (xC (.int 5))))) (fun _ => .ex z.BadPoint) sNil)
  (sSeq (sFor (xItems (xVar 1)) (tgN 2)
  (sDrop (xAll (callF 2 (f_check_point z)) (xCons (xVar 0) (xCons (xVar 2) xNil)))))
  (sSeq (sIf (bBl (x2 dNe (x1 dLenSet (xVar 1)) (xC (.int 5)))) (fun _ => .ex z.Alike) sNil)
  (sSeq (sSet 3 (xAll (callF 2 f_first_in_line) (xCons (xVar 0) (xCons (xVar 1) xNil))))
  (sRetO (oIf (bBl (x2 dEq (xVar 3) (xLst (xAll lLst xNil)))) (oD (xAll (dMkV z.Oval "form") (xCons (xAll (callF 2 f_through) (xCons (xVar 0) (xCons (xVar 1) xNil))) xNil))) (xAll (oMkL z.InLine "three") (xCons (xVar 3) xNil))))))))))
def f_l_in_line : Fn := defF false 4 4 ((sRet (xAll (callF 3 f_l_on) (xCons (xVar 0) (xCons (xVar 3) (xCons (xAll (callF 3 f_l_cross) (xCons (xVar 0) (xCons (xVar 1) (xCons (xVar 2) xNil)))) xNil))))))
def f_l_three : Fn := defF false 2 6 ((sSeq (sOwn 2 (xAll lLst xNil))
  (sSeq (sFor (xAll dRg1 (xCons (xC (.int 3)) xNil)) (tgN 3)
  (sFor (xAll dRg2 (xCons (x2 dAdd (xVar 3) (xC (.int 1))) (xCons (xC (.int 4)) xNil))) (tgN 4)
  (sFor (xAll dRg2 (xCons (x2 dAdd (xVar 4) (xC (.int 1))) (xCons (xC (.int 5)) xNil))) (tgN 5)
  (sIf (xTru (xAll (callF 4 f_l_in_line) (xCons (xVar 0) (xCons (x2 dIx (xVar 1) (xVar 3)) (xCons (x2 dIx (xVar 1) (xVar 4)) (xCons (x2 dIx (xVar 1) (xVar 5)) xNil)))))) (sApp 2 (xLst (xAll lLst (xCons (xVar 3) (xCons (xVar 4) (xCons (xVar 5) xNil)))))) sNil))))
  (sFrz 2 (sRet (xVar 2))))))
def f_l_five : Fn := defF false 3 13 ((sSeq (sSet 3 (xAll (callF 3 f_l_draw) (xCons (x2 dMod (xAll (callF 2 f_l_cell_at) (xCons (xVar 0) (xCons (x2 dAdd (xVar 1) (xC (.int 2))) xNil))) (x2 dPow (xC (.int 10)) (xC (.int 18)))) (xCons (xC (.int 9)) (xCons (xC (.int 3)) xNil)))))
  (sSeq (sSet 4 (xAll (callF 4 f_l_triples) (xCons (xVar 0) (xCons (xVar 1) (xCons (xVar 2) (xCons (xC (.int 5)) xNil))))))
  (sSeq (sIf (bBl (x2 dEq (xVar 3) (xC (.int 0)))) (sRet (xVar 4)) sNil)
  (sSeq (sIf (bAnd (bBl (x2 dEq (xVar 3) (xC (.int 1)))) (bBl (x2 dGt (xVar 2) (xC (.int 4))))) (sSeq (sSet 8 (xAll (callF 2 f_l_value) (xCons (xAll (callF 2 f_l_cell_at) (xCons (xVar 0) (xCons (x2 dAdd (xVar 1) (xC (.int 1))) xNil))) (xCons (xVar 1) xNil))))
  (sSeq (sSet 9 (xLst (xComp false [11] (xAll dRg1 (xCons (xC (.int 60)) xNil)) (tgN 11) bYes (x2 dMod (x2 dAdd (x2 dFdiv (xVar 8) (x2 dAdd (xVar 11) (xC (.int 2)))) (x2 dMul (xVar 11) (xVar 11))) (x2 dAdd (xVar 2) (xC (.int 1)))))))
  (sSeq (sSet 9 (xSlice (xLst (fun ρ => ((x2 dAdd (xVar 9) (xLst (fun ρ => ((xC (.int 5)) ρ).bind dListRg))) ρ).bind dSortSetI)) (pSome (x1 dNeg (xC (.int 5)))) pNone))
  (sRet (xLst (xComp false [12] (xItems (xVar 9)) (tgN 12) bYes (xIf (bBl (x2 dEq (xVar 12) (xVar 2))) (xAll lTup (xCons (xC (.int 0)) (xCons (xC (.int 0)) (xCons (xC (.int 1)) xNil)))) (xAll lTup (xCons (xC (.int 1)) (xCons (xVar 12) (xCons (x2 dMod (x2 dMul (xVar 12) (xVar 12)) (xVar 2)) xNil))))))))))) sNil)
  (sSeq (sSet 5 (xAll (callF 3 f_l_cross) (xCons (xVar 2) (xCons (x2 dIx (xVar 4) (xC (.int 0))) (xCons (x2 dIx (xVar 4) (xC (.int 1))) xNil)))))
  (sSeq (sSet 6 (xLst (xComp false [10] (xItems (xAll (callF 2 f_l_points) (xCons (xVar 2) (xCons (xVar 5) xNil)))) (tgN 10) (bBl (x2 dNotIn (xVar 10) (xSlice (xVar 4) pNone (pSome (xC (.int 2)))))) (xVar 10))))
  (sSeq (sSet 7 (xLst (xComp false [10] (xItems (xSlice (xVar 4) (pSome (xC (.int 2))) pNone)) (tgN 10) (bNot (xTru (xAll (callF 3 f_l_on) (xCons (xVar 2) (xCons (xVar 10) (xCons (xVar 5) xNil)))))) (xVar 10))))
  (sRet (x2 dAdd (x2 dAdd (xLst (xAll lLst (xCons (x2 dIx (xVar 4) (xC (.int 0))) (xCons (x2 dIx (xVar 6) (xC (.int 0))) xNil)))) (xSlice (x2 dAdd (xVar 7) (xSlice (xVar 6) (pSome (xC (.int 1))) pNone)) pNone (pSome (xC (.int 2))))) (xLst (xAll lLst (xCons (x2 dIx (xVar 4) (xC (.int 1))) xNil)))))))))))))
noncomputable def f_l_due3 (z : Adr) : Fn := defF false 3 4 ((sSeq (sIf (xTru (xAll (dIsI z.K [z.Oval, z.InLine, z.Shared, z.Apart]) (xCons (xVar 2) (xCons (xC (.fn z.Oval)) xNil)))) (sSeq (sIf (bOr (bNot (xTru (xAll (callF 3 f_l_is_told) (xCons (xVar 0) (xCons (x1 (dFld [z.Oval] "form") (xVar 2)) (xCons (xC (.int 6)) xNil)))))) (bBl (x2 dNe (xAll (callF 2 f_l_three) (xCons (xVar 0) (xCons (xVar 1) xNil))) (xLst (xAll lLst xNil))))) (sRet (xC (.bl false))) sNil)
  (sRet (xAll dAll (xCons (xLst (xComp false [3] (xItems (xVar 1)) (tgN 3) bYes (x2 dEq (xAll (callF 3 f_l_left) (xCons (xVar 0) (xCons (x1 (dFld [z.Oval] "form") (xVar 2)) (xCons (xVar 3) xNil)))) (xC (.int 0))))) xNil)))) sNil)
  (sRet (x2 dIn (x1 (dFld [z.InLine] "three") (xVar 2)) (xAll (callF 2 f_l_three) (xCons (xVar 0) (xCons (xVar 1) xNil)))))))
def f_Oval_shows (z : Adr) : Fn := defF false 3 4 ((sSeq (sIf (bOr (bNot (xTru (xAll (callF 3 f_is_told) (xCons (xVar 1) (xCons (x1 (dFld [z.Oval] "form") (xVar 0)) (xCons (xC (.int 6)) xNil)))))) (bBl (x2 dNe (xAll (callF 2 f_first_in_line) (xCons (xVar 1) (xCons (xVar 2) xNil))) (xLst (xAll lLst xNil))))) (sRet (xC (.bl false))) sNil)
  (sRet (xAll dAll (xCons (xLst (xComp false [3] (xItems (xVar 2)) (tgN 3) bYes (x2 dEq (xAll (callF 3 f_left_by) (xCons (xVar 1) (xCons (x1 (dFld [z.Oval] "form") (xVar 0)) (xCons (xVar 3) xNil)))) (xC (.int 0))))) xNil)))))
def f_InLine_shows (z : Adr) : Fn := defF false 3 7 ((sSeq (sIf (bOr (bBl (x2 dNe (xAll dLen (xCons (x1 (dFld [z.InLine] "three") (xVar 0)) xNil)) (xC (.int 3)))) (bNot (xTru (xAll dAll (xCons (xLst (xComp false [6] (xItems (x1 (dFld [z.InLine] "three") (xVar 0))) (tgN 6) bYes (xAll (callF 1 f_is_whole) (xCons (xVar 6) xNil)))) xNil))))) (sRet (xC (.bl false))) sNil)
  (sSeq (sAsg (x1 (dFld [z.InLine] "three") (xVar 0)) (tgT 3 (tgCons (tgN 3) (tgCons (tgN 4) (tgCons (tgN 5) tgNil)))))
  (sRet (xAnd (xCh (xC (.int 0)) (chR dLe (xVar 3) (chR dLt (xVar 4) (chR dLt (xVar 5) (chE dLt (xC (.int 5))))))) (xAll (callF 4 f_in_line) (xCons (xVar 1) (xCons (x2 dIx (xVar 2) (xVar 3)) (xCons (x2 dIx (xVar 2) (xVar 4)) (xCons (x2 dIx (xVar 2) (xVar 5)) xNil))))))))))
noncomputable def f_l_right3 (z : Adr) : Fn := defF false 3 9 ((sSeq (sParO 4 5 (xAll dListF (xCons (xVar 1) xNil)) (xAll (callF 2 f_l_three) (xCons (xVar 0) (xCons (xVar 1) xNil))))
  (sSeq (sFor (xAll dRg1 (xCons (xC (.int 2)) xNil)) (tgN 3)
  (sSeq (sOwnI 6 (fun ρ => ((xCons (xVar 0) (xCons (xOwn 4) xNil)) ρ).bind fun ds => (callO 2 (f_oval z) ds).bind fun r => if r.flat then .ok r else .und))
  (sSeq (sIf (bOr (bNot (xTru (xAll (dIsI z.K [z.Oval, z.InLine, z.Shared, z.Apart]) (xCons (xOwn 6) (xCons (xC (.fn z.Answer)) xNil))))) (bOr (bBl (x2 dEq (xAll (dIsI z.K [z.Oval, z.InLine, z.Shared, z.Apart]) (xCons (xOwn 6) (xCons (xC (.fn z.Oval)) xNil))) (xAll (dIsI z.K [z.Oval, z.InLine, z.Shared, z.Apart]) (xCons (xOwn 6) (xCons (xC (.fn z.InLine)) xNil))))) (bBl (x2 dNe (xOwn 4) (xVar 1))))) (sRet (xC (.bl false))) sNil)
  (sSeq (sIf (bOr (xTru (xAll (dIsI z.K [z.Oval, z.InLine, z.Shared, z.Apart]) (xCons (xOwn 6) (xCons (xC (.fn z.Shared)) xNil)))) (bOr (xTru (xAll (dIsI z.K [z.Oval, z.InLine, z.Shared, z.Apart]) (xCons (xOwn 6) (xCons (xC (.fn z.Apart)) xNil)))) (bBl (x2 dNe (xAll (dIsI z.K [z.Oval, z.InLine, z.Shared, z.Apart]) (xCons (xOwn 6) (xCons (xC (.fn z.InLine)) xNil))) (x2 dNe (xVar 5) (xLst (xAll lLst xNil))))))) (sRet (xC (.bl false))) sNil)
  (sSeq (sIf (bOr (bNot (xTru (xAll (callF 3 (f_l_due3 z)) (xCons (xVar 0) (xCons (xVar 1) (xCons (xOwn 6) xNil)))))) (bBl (x2 dIsNot (xMeth2 "shows" z.Oval z.InLine 3 (f_Oval_shows z) (f_InLine_shows z) (xOwn 6) (xCons (xVar 0) (xCons (xVar 1) xNil))) (xC (.bl true))))) (sRet (xC (.bl false))) sNil)
  (sSeq (sFor (xItems (xVar 2)) (tgN 7)
  (sIf (bNot (xTru (xAll (callF 2 f_l_says) (xCons (xMeth2 "shows" z.Oval z.InLine 3 (f_Oval_shows z) (f_InLine_shows z) (xOwn 6) (xCons (xVar 0) (xCons (xVar 7) xNil))) (xCons (xAll (callF 3 (f_l_due3 z)) (xCons (xVar 0) (xCons (xVar 7) (xCons (xOwn 6) xNil)))) xNil))))) (sRet (xC (.bl false))) sNil))
  (sIf (xTru (xAll (dIsI z.K [z.Oval, z.InLine, z.Shared, z.Apart]) (xCons (xOwn 6) (xCons (xC (.fn z.InLine)) xNil)))) (sSeq (sIf (bOr (bNot (xTru (xAll (dIsT .lst) (xCons (x1 (dFld [z.InLine] "three") (xOwn 6)) (xCons (xC (.ty "list")) xNil))))) (bNot (xTru (xAll dAll (xCons (xLst (xComp true [8] (xItems (x1 (dFld [z.InLine] "three") (xOwn 6))) (tgN 8) bYes (xAll (callF 1 f_l_whole) (xCons (xVar 8) xNil)))) xNil))))) (sRet (xC (.bl false))) sNil)
  (sSeq (sAppF 6 "three" [z.InLine] (xC (.int 5)))
  (sIf (bBl (x2 dIsNot (xMeth2 "shows" z.Oval z.InLine 3 (f_Oval_shows z) (f_InLine_shows z) (xOwn 6) (xCons (xVar 0) (xCons (xVar 1) xNil))) (xC (.bl false)))) (sRet (xC (.bl false))) sNil))) sNil)))))))
  (sSeq (sRev 4)
  (sFrz 4 (sRet (xAll (callF 3 (f_l_due3 z)) (xCons (xVar 0) (xCons (x1 (dPickG none (some (-1))) (xVar 1)) (xCons (fun ρ => ((xCons (xVar 0) (xCons (xVar 4) xNil)) ρ).bind fun ds => (callO 2 (f_oval z) ds).bind fun r => .ok r.toD) xNil))))))))))
end OM
set_option maxRecDepth 100000
namespace OM
open PySem L2 DI
noncomputable def f_law3 (z : Adr) : Fn := defF false 1 8 ((sSeq (sSet 0 (xSliceS z.K (xVar 0) pNone (pSome (xC (.int 63)))))
  (sSeq (sFor (xAll dRg3 (xCons (xC (.int 0)) (xCons (xAll dLen (xCons (xVar 0) xNil)) (xCons (x2 dAdd (xC (.int 1)) (x2 dFdiv (xAll dLen (xCons (xVar 0) xNil)) (xC (.int 6)))) xNil)))) (tgN 1)
  (sSeq (sSet 3 (xAll (callF 2 f_l_prime) (xCons (xVar 0) (xCons (xVar 1) xNil))))
  (sSeq (sSet 4 (xAll (callF 3 f_l_five) (xCons (xVar 0) (xCons (xVar 1) (xCons (xVar 3) xNil)))))
  (sSeq (sSet 5 (xAll (callF 4 f_l_triples) (xCons (xVar 0) (xCons (x2 dAdd (xVar 1) (xC (.int 1))) (xCons (xVar 3) (xCons (xC (.int 5)) xNil))))))
  (sSeq (sSet 6 (xLst (xAll lLst (xCons (xVar 5) (xCons (x1 (dPickG none (some (-1))) (xVar 4)) (xCons (x2 dAdd (xSlice (xVar 4) pNone (pSome (xC (.int 4)))) (xSlice (xLst (xComp false [7] (xItems (xVar 5)) (tgN 7) (bBl (x2 dNotIn (xVar 7) (xSlice (xVar 4) pNone (pSome (xC (.int 4)))))) (xVar 7))) pNone (pSome (xC (.int 1))))) xNil))))))
  (sFor (xItems (xAll lTup (xCons (xVar 4) (xCons (x2 dAdd (xSlice (xVar 4) (pSome (xC (.int 2))) pNone) (xSlice (xVar 4) pNone (pSome (xC (.int 2))))) (xCons (xVar 5) xNil))))) (tgN 2)
  (sIf (bNot (xTru (xAll (callF 3 (f_l_right3 z)) (xCons (xVar 3) (xCons (xVar 2) (xCons (xVar 6) xNil)))))) (sRet (xC (.bl false))) sNil)))))))
  (sSeq (sSet 2 (fun ρ => ((xCons (xC (.int 7)) (xCons (xLst (xAll lLst (xCons (xAll lTup (xCons (xC (.int 1)) (xCons (xC (.int 0)) (xCons (xC (.int 0)) xNil)))) (xCons (xAll lTup (xCons (xC (.int 1)) (xCons (xC (.int 1)) (xCons (xC (.int 1)) xNil)))) (xCons (xAll lTup (xCons (xC (.int 1)) (xCons (xC (.int 2)) (xCons (xC (.int 4)) xNil)))) (xCons (xAll lTup (xCons (xC (.int 1)) (xCons (xC (.int 3)) (xCons (xC (.int 2)) xNil)))) (xCons (xAll lTup (xCons (xC (.int 0)) (xCons (xC (.int 0)) (xCons (xC (.int 1)) xNil)))) xNil))))))) xNil)) ρ).bind fun ds => (callO 2 (f_oval z) ds).bind fun r => .ok r.toD))
  (sSeq (sIf (bOr (bNot (xTru (xAll (dIsI z.K [z.Oval, z.InLine, z.Shared, z.Apart]) (xCons (xVar 2) (xCons (xC (.fn z.Oval)) xNil))))) (bBl (x2 dNe (x1 (dFld [z.Oval] "form") (xVar 2)) (xAll lTup (xCons (xC (.int 0)) (xCons (xC (.int 1)) (xCons (xC (.int 0)) (xCons (xC (.int 0)) (xCons (xC (.int 6)) (xCons (xC (.int 0)) xNil)))))))))) (sRet (xC (.bl false))) sNil)
  (sRet (x2 dIn (x1 (dFld [z.InLine] "three") (fun ρ => ((xCons (xC (.int 5)) (xCons (xLst (xAll lLst (xCons (xAll lTup (xCons (xC (.int 1)) (xCons (xC (.int 0)) (xCons (xC (.int 0)) xNil)))) (xCons (xAll lTup (xCons (xC (.int 0)) (xCons (xC (.int 1)) (xCons (xC (.int 0)) xNil)))) (xCons (xAll lTup (xCons (xC (.int 0)) (xCons (xC (.int 0)) (xCons (xC (.int 1)) xNil)))) (xCons (xAll lTup (xCons (xC (.int 1)) (xCons (xC (.int 1)) (xCons (xC (.int 0)) xNil)))) (xCons (xAll lTup (xCons (xC (.int 1)) (xCons (xC (.int 1)) (xCons (xC (.int 1)) xNil)))) xNil))))))) xNil)) ρ).bind fun ds => (callO 2 (f_oval z) ds).bind fun r => .ok r.toD)) (xLst (xAll lLst (xCons (xLst (xAll lLst (xCons (xC (.int 0)) (xCons (xC (.int 1)) (xCons (xC (.int 3)) xNil))))) (xCons (xLst (xAll lLst (xCons (xC (.int 2)) (xCons (xC (.int 3)) (xCons (xC (.int 4)) xNil))))) xNil)))))))))))
end OM
set_option maxRecDepth 100000
namespace OM
open PySem L2 DI
def f_l_lines : Fn := defF false 3 6 ((sSeq (sOwn 3 (xComp false [4] (xAll dRg1 (xCons (xC (.int 3)) xNil)) (tgN 4) bYes (x2 dMul (x2 dIx (xVar 1) (xVar 4)) (x2 dIx (xVar 2) (xVar 4)))))
  (sSeq (sFor (xItems (xAll lTup (xCons (xAll lTup (xCons (xC (.int 0)) (xCons (xC (.int 1)) xNil))) (xCons (xAll lTup (xCons (xC (.int 0)) (xCons (xC (.int 2)) xNil))) (xCons (xAll lTup (xCons (xC (.int 1)) (xCons (xC (.int 2)) xNil))) xNil))))) (tgT 2 (tgCons (tgN 4) (tgCons (tgN 5) tgNil)))
  (sApp 3 (x2 dAdd (x2 dMul (x2 dIx (xVar 1) (xVar 4)) (x2 dIx (xVar 2) (xVar 5))) (x2 dMul (x2 dIx (xVar 1) (xVar 5)) (x2 dIx (xVar 2) (xVar 4))))))
  (sFrz 3 (sRet (xAll (callF 2 f_l_told) (xCons (xVar 0) (xCons (xVar 3) xNil))))))))
def f_l_two_lines : Fn := defF false 3 7 ((sSeq (sSet 3 (xLst (xComp false [6] (xAll dRg1 (xCons (xC (.int 5)) xNil)) (tgN 6) (bBl (x2 dNotIn (xVar 6) (xVar 2))) (x2 dIx (xVar 1) (xVar 6)))))
  (sSeq (sSet 4 (xLst (xComp false [6] (xItems (xVar 2)) (tgN 6) bYes (x2 dIx (xVar 1) (xVar 6)))))
  (sSeq (sSet 5 (xAll (callF 3 f_l_cross) (xCons (xVar 0) (xCons (x2 dIx (xVar 4) (xC (.int 0))) (xCons (x2 dIx (xVar 4) (xC (.int 1))) xNil)))))
  (sRet (xAll (callF 3 f_l_lines) (xCons (xVar 0) (xCons (xVar 5) (xCons (xAll (callF 3 f_l_cross) (xCons (xVar 0) (xCons (x2 dIx (xVar 3) (xC (.int 0))) (xCons (x2 dIx (xVar 3) (xC (.int 1))) xNil)))) xNil)))))))))
def f_l_five_right (z : Adr) : Fn := defF false 4 8 ((sSeq (sOwn 4 (xAll dListF (xCons (xVar 3) xNil)))
  (sSeq (sSet 5 (xLst (xAll lLst (xCons (xAll (dMkV z.Oval "form") (xCons (xVar 2) xNil)) (xCons (xAll (dMkLF z.InLine "three") (xCons (xOwn 4) xNil)) xNil)))))
  (sSeq (sApp 4 (xC (.int 0)))
  (sSeq (sIf (bOr (bBl (x2 dNe (x1 (dFld [z.Oval] "form") (x2 dIx (xVar 5) (xC (.int 0)))) (xVar 2))) (bBl (x2 dNe (x1 (dFld [z.InLine] "three") (x2 dIx (xVar 5) (xC (.int 1)))) (xVar 3)))) (sRet (xC (.bl false))) sNil)
  (sSeq (sSet 6 (x2 dEq (xAll (callF 2 f_l_three) (xCons (xVar 0) (xCons (xVar 1) xNil))) (xLst (xAll lLst xNil))))
  (sSeq (sFor (xItems (xVar 1)) (tgN 7)
  (sSet 6 (xAnd (xVar 6) (x2 dEq (xAll (callF 3 f_l_left) (xCons (xVar 0) (xCons (xVar 2) (xCons (xVar 7) xNil)))) (xC (.int 0))))))
  (sSeq (sIf (bNot (xTru (xAll (callF 2 f_l_says) (xCons (xMeth "shows" z.Oval 3 (f_Oval_shows z) (x2 dIx (xVar 5) (xC (.int 0))) (xCons (xVar 0) (xCons (xVar 1) xNil))) (xCons (xVar 6) xNil))))) (sRet (xC (.bl false))) sNil)
  (sSeq (sSet 6 (x2 dIn (xVar 3) (xAll (callF 2 f_l_three) (xCons (xVar 0) (xCons (xVar 1) xNil)))))
  (sRet (xAll (callF 2 f_l_says) (xCons (xMeth "shows" z.InLine 3 (f_InLine_shows z) (x2 dIx (xVar 5) (xC (.int 1))) (xCons (xVar 0) (xCons (xVar 1) xNil))) (xCons (xVar 6) xNil)))))))))))))
def f_l_shared5 : Fn := defF false 3 5 ((sSeq (sSet 3 (xAll (callF 2 f_l_points) (xCons (xVar 0) (xCons (xVar 2) xNil))))
  (sRet (xLst (xComp false [4] (xItems (xVar 3)) (tgN 4) (bBl (x2 dEq (xAll (callF 3 f_l_left) (xCons (xVar 0) (xCons (xVar 1) (xCons (xVar 4) xNil)))) (xC (.int 0)))) (xVar 4))))))
def f_l_line_right5 (z : Adr) : Fn := defF false 5 10 ((sSeq (sOwn 5 (xAll dListF (xCons (xVar 3) xNil)))
  (sSeq (sSet 6 (xLst (xAll lLst (xCons (xAll (dMkLF z.Shared "points") (xCons (xOwn 5) xNil)) (xCons (xAll (dMkV z.Apart "rest") (xCons (xVar 4) xNil)) xNil)))))
  (sSeq (sApp 5 (xAll lTup (xCons (xC (.int 1)) (xCons (xC (.int 0)) (xCons (xC (.int 0)) xNil)))))
  (sSeq (sIf (bOr (bBl (x2 dNe (x1 (dFld [z.Shared] "points") (x2 dIx (xVar 6) (xC (.int 0)))) (xVar 3))) (bBl (x2 dNe (x1 (dFld [z.Apart] "rest") (x2 dIx (xVar 6) (xC (.int 1)))) (xVar 4)))) (sRet (xC (.bl false))) sNil)
  (sSeq (sSet 7 (xAll (callF 3 f_l_shared5) (xCons (xVar 0) (xCons (xVar 1) (xCons (xVar 2) xNil)))))
  (sSeq (sSet 8 (xAnd (x2 dNe (xVar 3) (xLst (xAll lLst xNil))) (x2 dEq (xVar 3) (xVar 7))))
  (sSeq (sIf (bNot (xTru (xAll (callF 2 f_l_says) (xCons (xMeth "shows" z.Shared 4 (f_Shared_shows z) (x2 dIx (xVar 6) (xC (.int 0))) (xCons (xVar 0) (xCons (xVar 1) (xCons (xVar 2) xNil)))) (xCons (xVar 8) xNil))))) (sRet (xC (.bl false))) sNil)
  (sSeq (sSet 9 (x2 dEq (xVar 4) (xAll (callF 3 f_l_rest) (xCons (xVar 0) (xCons (xVar 1) (xCons (xVar 2) xNil))))))
  (sSeq (sSet 9 (xAnd (xVar 9) (xNot (xAll (callF 2 f_l_square) (xCons (xVar 0) (xCons (xVar 4) xNil))))))
  (sRet (xAll (callF 2 f_l_says) (xCons (xMeth "shows" z.Apart 4 (f_Apart_shows z) (x2 dIx (xVar 6) (xC (.int 1))) (xCons (xVar 0) (xCons (xVar 1) (xCons (xVar 2) xNil)))) (xCons (xVar 9) xNil))))))))))))))
end OM
set_option maxRecDepth 100000
namespace OM
open PySem L2 DI
noncomputable def f_law5 (z : Adr) : Fn := defF false 1 25 ((sSeq (sSet 0 (xSliceS z.K (xVar 0) pNone (pSome (xC (.int 63)))))
  (sSeq (sFor (xAll dRg3 (xCons (xC (.int 0)) (xCons (xAll dLen (xCons (xVar 0) xNil)) (xCons (x2 dAdd (xC (.int 1)) (x2 dFdiv (xAll dLen (xCons (xVar 0) xNil)) (xC (.int 3)))) xNil)))) (tgN 1)
  (sSeq (sSet 4 (xAll (callF 2 f_l_prime) (xCons (xVar 0) (xCons (xVar 1) xNil))))
  (sSeq (sSet 5 (xAll (callF 2 f_l_value) (xCons (xAll (callF 2 f_l_cell_at) (xCons (xVar 0) (xCons (x2 dAdd (xVar 1) (xC (.int 3))) xNil))) (xCons (xVar 1) xNil))))
  (sSeq (sSet 6 (xAll (callF 3 f_l_five) (xCons (xVar 0) (xCons (xVar 1) (xCons (xVar 4) xNil)))))
  (sSeq (sSet 7 (fun ρ => ((xCons (xVar 4) (xCons (xLst (xAll dListF (xCons (xVar 6) xNil))) xNil)) ρ).bind fun ds => (callO 2 (f_oval z) ds).bind fun r => .ok r.toD))
  (sSeq (sSet 8 (xLst (xAll lLst (xCons (xC (.int 0)) (xCons (x2 dAdd (xC (.int 1)) (x2 dMod (xVar 5) (xC (.int 2)))) (xCons (x2 dAdd (xC (.int 3)) (x2 dMod (x2 dFdiv (xVar 5) (xC (.int 2))) (xC (.int 2)))) xNil))))))
  (sSeq (sSet 8 (xIf (xTru (xAll (dIsI z.K [z.Oval, z.InLine, z.Shared, z.Apart]) (xCons (xVar 7) (xCons (xC (.fn z.InLine)) xNil)))) (x1 (dFld [z.InLine] "three") (xVar 7)) (xVar 8)))
  (sSeq (sSet 9 (xAll (callF 3 f_l_two_lines) (xCons (xVar 4) (xCons (xVar 6) (xCons (xVar 8) xNil)))))
  (sSeq (sIf (xTru (xAll (dIsI z.K [z.Oval, z.InLine, z.Shared, z.Apart]) (xCons (xVar 7) (xCons (xC (.fn z.Oval)) xNil)))) (sSet 9 (x1 (dFld [z.Oval] "form") (xVar 7))) sNil)
  (sSeq (sSet 10 (xLst (xComp false [14, 23] (xAll dEnumT (xCons (xVar 9) xNil)) (tgT 2 (tgCons (tgN 14) (tgCons (tgN 23) tgNil))) bYes (x2 dAdd (xVar 23) (xAll dInt1 (xCons (x2 dEq (xVar 14) (x2 dMod (xVar 5) (xC (.int 6)))) xNil))))))
  (sSeq (sSet 10 (xAll (callF 2 f_l_told) (xCons (xVar 4) (xCons (x2 dAdd (xVar 10) (xLst (xAll lLst (xCons (xC (.int 1)) xNil)))) xNil))))
  (sSeq (sSet 11 (xAll lTup (xCons (xVar 5) (xCons (x2 dFdiv (xVar 5) (xC (.int 7))) (xCons (x2 dFdiv (xVar 5) (xC (.int 49))) (xCons (xC (.int 1)) (xCons (x2 dFdiv (xVar 5) (xC (.int 5))) (xCons (xC (.int 0)) xNil))))))))
  (sSeq (sSet 12 (xLst (xAll lLst (xCons (xVar 9) (xCons (xIf (xTru (xAll dAnyIT (xCons (xSlice (xVar 10) pNone (pSome (xC (.int 6)))) xNil))) (xSlice (xVar 10) pNone (pSome (xC (.int 6)))) (xVar 9)) xNil)))))
  (sSeq (sSet 12 (x2 dAdd (xVar 12) (xLst (xAll lLst (xCons (xAll (callF 2 f_l_told) (xCons (xVar 4) (xCons (x1 dRevT (xVar 9)) xNil))) (xCons (xAll (callF 2 f_l_told) (xCons (xVar 4) (xCons (xVar 11) xNil))) xNil))))))
  (sSeq (sSet 13 (xLst (xAll lLst (xCons (xVar 8) (xCons (x1 (dPickG none (some (-1))) (xVar 8)) (xCons (xSlice (xVar 8) pNone (pSome (xC (.int 2)))) (xCons (x2 dAdd (xVar 8) (xLst (xAll lLst (xCons (xC (.int 4)) xNil)))) xNil)))))))
  (sSeq (sSet 13 (x2 dAdd (xVar 13) (xLst (xAll lLst (xCons (x2 dAdd (xLst (xAll lLst (xCons (x1 dNeg (xC (.int 1))) xNil))) (xSlice (xVar 8) (pSome (xC (.int 1))) pNone)) (xCons (x2 dAdd (xSlice (xVar 8) pNone (pSome (xC (.int 2)))) (xLst (xAll lLst (xCons (xC (.int 5)) xNil)))) (xCons (xLst (xAll lLst (xCons (xC (.int 0)) (xCons (xC (.int 0)) (xCons (xC (.int 1)) xNil))))) (xCons (xLst (xAll lLst xNil)) xNil))))))))
  (sSeq (sFor (xAll dRg1 (xCons (xC (.int 8)) xNil)) (tgN 14)
  (sIf (bNot (xTru (xAll (callF 4 (f_l_five_right z)) (xCons (xVar 4) (xCons (xVar 6) (xCons (x2 dIx (xVar 12) (x2 dMod (xVar 14) (xC (.int 4)))) (xCons (x2 dIx (xVar 13) (xVar 14)) xNil))))))) (sRet (xC (.bl false))) sNil))
  (sSeq (sAsg (xAll (callF 4 f_l_triples) (xCons (xVar 0) (xCons (x2 dAdd (xVar 1) (xC (.int 1))) (xCons (xVar 4) (xCons (xC (.int 2)) xNil))))) (tgT 2 (tgCons (tgN 20) (tgCons (tgN 21) tgNil))))
  (sSeq (sSet 15 (xAll (callF 3 f_l_shared5) (xCons (xVar 4) (xCons (xVar 9) (xCons (xVar 20) xNil)))))
  (sSeq (sSet 16 (xAll (callF 3 f_l_rest) (xCons (xVar 4) (xCons (xVar 9) (xCons (xVar 20) xNil)))))
  (sSeq (sSet 17 (xLst (xAll lLst (xCons (xVar 15) (xCons (x1 (dPickG none (some (-1))) (xVar 15)) (xCons (xSlice (xVar 15) (pSome (xC (.int 1))) pNone) xNil))))))
  (sSeq (sSet 17 (x2 dAdd (xVar 17) (xLst (xAll lLst (xCons (x2 dAdd (xVar 15) (xSlice (xVar 15) pNone (pSome (xC (.int 1))))) (xCons (x2 dAdd (xVar 15) (xLst (xAll lLst (xCons (xVar 21) xNil)))) (xCons (xLst (xAll lLst xNil)) xNil)))))))
  (sSeq (sSet 18 (xAll lTup (xCons (xVar 16) (xCons (x2 dAdd (xVar 16) (xC (.int 1))) (xCons (x2 dAdd (xVar 16) (xVar 4)) (xCons (x1 dNeg (xVar 16)) (xCons (xC (.int 0)) (xCons (xVar 5) xNil))))))))
  (sFor (xAll dEnumT (xCons (xVar 18) xNil)) (tgT 2 (tgCons (tgN 14) (tgCons (tgN 22) tgNil)))
  (sIf (bOr (bBl (x2 dLt (xVar 4) (xC (.int 200)))) (bBl (x2 dIn (xVar 14) (xAll lTup (xCons (x2 dMod (xVar 5) (xC (.int 6))) (xCons (xC (.int 0)) xNil)))))) (sIf (bNot (xTru (xAll (callF 5 (f_l_line_right5 z)) (xCons (xVar 4) (xCons (xVar 9) (xCons (xVar 20) (xCons (x2 dIx (xVar 17) (xVar 14)) (xCons (xVar 22) xNil)))))))) (sRet (xC (.bl false))) sNil) sNil)))))))))))))))))))))))))
  (sSeq (sAsg (xAll lTup (xCons (xAll lTup (xCons (xC (.int 0)) (xCons (xC (.int 1)) (xCons (xC (.int 0)) (xCons (xC (.int 0)) (xCons (xC (.int 6)) (xCons (xC (.int 0)) xNil))))))) (xCons (xAll lTup (xCons (xC (.int 1)) (xCons (xC (.int 1)) (xCons (xC (.int 0)) (xCons (xC (.int 0)) (xCons (xC (.int 0)) (xCons (xC (.int 0)) xNil))))))) (xCons (xAll lTup (xCons (xC (.int 0)) (xCons (xC (.int 0)) (xCons (xC (.int 1)) xNil)))) xNil)))) (tgT 3 (tgCons (tgN 9) (tgCons (tgN 19) (tgCons (tgN 20) tgNil)))))
  (sSeq (sOwn 2 (xAll lLst (xCons (xMeth "shows" z.Oval 3 (f_Oval_shows z) (xAll (dMkV z.Oval "form") (xCons (xVar 9) xNil)) (xCons (xC (.int 7)) (xCons (xLst (xAll lLst (xCons (xAll lTup (xCons (xC (.int 1)) (xCons (xC (.int 0)) (xCons (xC (.int 0)) xNil)))) (xCons (xAll lTup (xCons (xC (.int 1)) (xCons (xC (.int 1)) (xCons (xC (.int 1)) xNil)))) (xCons (xAll lTup (xCons (xC (.int 1)) (xCons (xC (.int 2)) (xCons (xC (.int 4)) xNil)))) (xCons (xAll lTup (xCons (xC (.int 1)) (xCons (xC (.int 3)) (xCons (xC (.int 2)) xNil)))) (xCons (xVar 20) xNil))))))) xNil))) xNil)))
  (sSeq (sApp 2 (xMeth "shows" z.Shared 4 (f_Shared_shows z) (oToD (xAll (oMkL z.Shared "points") (xCons (xLst (xAll lLst (xCons (xAll lTup (xCons (xC (.int 1)) (xCons (xC (.int 0)) (xCons (xC (.int 0)) xNil)))) xNil))) xNil))) (xCons (xC (.int 7)) (xCons (xVar 9) (xCons (xVar 20) xNil)))))
  (sSeq (sApp 2 (xMeth "shows" z.Apart 4 (f_Apart_shows z) (xAll (dMkV z.Apart "rest") (xCons (xC (.int 2)) xNil)) (xCons (xC (.int 3)) (xCons (xVar 19) (xCons (xVar 20) xNil)))))
  (sSeq (sSet 3 (xLst (xAll lLst (xCons (xMeth "shows" z.Shared 4 (f_Shared_shows z) (oToD (xAll (oMkL z.Shared "points") (xCons (xLst (xAll lLst xNil)) xNil))) (xCons (xC (.int 3)) (xCons (xVar 19) (xCons (xVar 20) xNil)))) (xCons (xMeth "shows" z.Apart 4 (f_Apart_shows z) (xAll (dMkV z.Apart "rest") (xCons (xC (.int 0)) xNil)) (xCons (xC (.int 7)) (xCons (xVar 9) (xCons (xVar 20) xNil)))) xNil)))))
  (sFrz 2 (sRet (xAnd (xAll dAll (xCons (xLst (xComp false [24] (xItems (xVar 2)) (tgN 24) bYes (xAll (callF 2 f_l_says) (xCons (xVar 24) (xCons (xC (.bl true)) xNil))))) xNil)) (xAll dAll (xCons (xLst (xComp false [24] (xItems (xVar 3)) (tgN 24) bYes (xAll (callF 2 f_l_says) (xCons (xVar 24) (xCons (xC (.bl false)) xNil))))) xNil)))))))))))))
end OM
set_option maxRecDepth 100000
/-! Num: numbers by a prime; turned. -/
namespace OM
open PySem DI
/-! ### sizes -/
def B (a : Int) (n : Nat) : Prop := a.natAbs < 2 ^ n
theorem B.mono {a : Int} {n m : Nat} (h : B a n) (l : n ≤ m) : B a m := Nat.lt_of_lt_of_le h (Nat.pow_le_pow_right (by decide) l)
theorem B.mul {a b : Int} {n m : Nat} (h : B a n) (k : B b m) : B (a * b) (n + m) := by
  unfold B
  rw [Int.natAbs_mul, Nat.pow_add]
  exact Nat.mul_lt_mul'' h k
theorem B.add {a b : Int} {n : Nat} (h : B a n) (k : B b n) : B (a + b) (n + 1) := by
  unfold B at *
  have := Int.natAbs_add_le a b
  rw [Nat.pow_succ]
  omega
theorem B.neg {a : Int} {n : Nat} (h : B a n) : B (-a) n := by
  unfold B at *
  rw [Int.natAbs_neg]
  exact h
theorem B.sub {a b : Int} {n : Nat} (h : B a n) (k : B b n) : B (a - b) (n + 1) := by
  rw [Int.sub_eq_add_neg]
  exact h.add k.neg
theorem B.of {a : Int} {n : Nat} (h1 : -(2 ^ n) < a) (h2 : a < 2 ^ n) : B a n := by
  unfold B
  have e : ((2 ^ n : Nat) : Int) = 2 ^ n := by simp
  omega
theorem B.lit {a : Int} {n : Nat} (h : a.natAbs < 2 ^ n := by decide) : B a n := h
theorem bits_of {a : Int} {n : Nat} (h : B a n) : Builtin.Int.intBits a ≤ n := by
  unfold Builtin.Int.intBits
  split
  · omega
  · rename_i hz
    have h0 : a.natAbs ≠ 0 := fun z => hz (by simpa using z)
    have := (Nat.log2_lt h0).mpr h
    omega
theorem mulOk_of {a b : Int} {n m : Nat} (h : B a n) (k : B b m) (l : n + m ≤ 134217728) : mulOk a b = true := by
  have := bits_of h
  have := bits_of k
  exact decide_eq_true (by omega)
/-! ### the primes of the program -/
def Pr (p : Int) : Prop := 3 ≤ p ∧ p ≤ 997 ∧ ∀ q : Int, 2 ≤ q → q < 32 → q < p → p % q ≠ 0
theorem Pr.nodiv {p : Int} (h : Pr p) {d : Int} (h1 : 1 < d) (h2 : d < p) : ¬ d ∣ p := by
  intro ⟨e, he⟩
  obtain ⟨h3, h4, h5⟩ := h
  have e0 : 0 < e := by
    rcases Int.lt_or_le 0 e with z | z
    · exact z
    · have := Int.mul_nonneg_of_nonpos_of_nonpos (a := -d) (b := e) (by omega) z
      have : d * e ≤ 0 := Int.mul_nonpos_of_nonneg_of_nonpos (by omega) z
      omega
  have e1 : 1 < e := by
    rcases Int.lt_or_le 1 e with z | z
    · exact z
    · have : e = 1 := by omega
      subst this
      omega
  by_cases hd : d < 32
  · exact h5 d (by omega) hd h2 (Int.emod_eq_zero_of_dvd ⟨e, he⟩)
  · have he2 : e < 32 := by
      rcases Int.lt_or_le e 32 with z | z
      · exact z
      · have h32 : 32 ≤ d := by omega
        have := Int.mul_le_mul h32 z (by decide) (by omega)
        omega
    have hep : e < p := by
      have : 2 * e ≤ d * e := Int.mul_le_mul_of_nonneg_right (by omega) (by omega)
      omega
    exact h5 e (by omega) he2 hep (Int.emod_eq_zero_of_dvd ⟨d, by rw [he, Int.mul_comm]⟩)
theorem Pr.gcd {p n : Int} (h : Pr p) (hn : n % p ≠ 0) : Int.gcd (n % p) p = 1 := by
  have h3 := h.1
  have r0 := Int.emod_nonneg n (show p ≠ 0 by omega)
  have r1 := Int.emod_lt_of_pos n (show 0 < p by omega)
  have d1 : ((Int.gcd (n % p) p : Nat) : Int) ∣ n % p := Int.gcd_dvd_left ..
  have d2 : ((Int.gcd (n % p) p : Nat) : Int) ∣ p := Int.gcd_dvd_right ..
  have le : ((Int.gcd (n % p) p : Nat) : Int) ≤ n % p := Int.le_of_dvd (by omega) d1
  have pos : 0 < Int.gcd (n % p) p := by
    rcases Nat.eq_zero_or_pos (Int.gcd (n % p) p) with z | z
    · rw [z] at d1
      have := Int.zero_dvd.mp (by simpa using d1)
      exact absurd this hn
    · exact z
  rcases Nat.lt_or_ge 1 (Int.gcd (n % p) p) with z | z
  · exact absurd d2 (h.nodiv (by omega) (by omega))
  · omega
/-! ### turned -/
abbrev tC : Ev → M Bool := bBl (x2 dGt (xVar 3) (xC (.int 0)))
abbrev tFB : Ev → S := sSeq (sSet 6 (x2 dFdiv (xVar 2) (xVar 3)))
  (sSeq (sPar 2 3 (xCons (xVar 3) (xCons (x2 dSub (xVar 2) (x2 dMul (xVar 6) (xVar 3))) xNil)))
  (sPar 4 5 (xCons (xVar 5) (xCons (x2 dSub (xVar 4) (x2 dMul (xVar 6) (xVar 5))) xNil))))
abbrev iv (i : Int) : Option Sl := some (.v (.int i))
theorem turned_loop (p n : Int) : ∀ (k : Nat) (one other mine theirs : Int) (w : Option Sl) (s : Nat), 0 ≤ one → one < 1024 → 0 ≤ other → other < k → other < 1024 → B mine s → B theirs s → s + 11 * k ≤ 20000 →
    p ∣ (one - mine * n) → p ∣ (other - theirs * n) → ∃ mine' theirs' w', whileS tC tFB k [iv p, iv n, iv one, iv other, iv mine, iv theirs, w] = .nx [iv p, iv n, iv ((Int.gcd one other : Nat) : Int), iv 0, iv mine', iv theirs', w'] ∧ p ∣ (((Int.gcd one other : Nat) : Int) - mine' * n)
  | 0, one, other, mine, theirs, w, s, h0, _, h1, h2, _, _, _, _, _, _ => by omega
  | k + 1, one, other, mine, theirs, w, s, h0, h0', h1, h2, h2', b1, b2, hs, d1, d2 => by
    unfold whileS
    by_cases hp : 0 < other
    · have e1 : one - one / other * other = one % other := by
        have := Int.mul_ediv_add_emod one other
        rw [Int.mul_comm] at this
        omega
      have q0 : 0 ≤ one / other := Int.ediv_nonneg h0 h1
      have q1 : one / other ≤ one := Int.ediv_le_self _ h0
      have bq : B (one / other) 10 := B.of (by omega) (by omega)
      have bo : B other 10 := B.of (by omega) (by omega)
      have r0 := Int.emod_nonneg one (show other ≠ 0 by omega)
      have r1 := Int.emod_lt_of_pos one hp
      obtain ⟨m', t', w', hw, hd⟩ := turned_loop p n k other (one % other) theirs (mine - one / other * theirs) (iv (one / other)) (s + 11) h1 h2' r0 (by omega) (by omega) (b2.mono (by omega))
        ((b1.mono (Nat.le_add_right s 10)).sub ((bq.mul b2).mono (by omega))) (by omega) d2 (by
          have e2 : one % other - (mine - one / other * theirs) * n = (one - mine * n) - one / other * (other - theirs * n) := by
            rw [← e1]; grind
          rw [e2]
          exact Int.dvd_sub d1 (Int.dvd_mul_of_dvd_right d2))
      have eg : Int.gcd other (one % other) = Int.gcd one other := by
        have h := Int.gcd_add_mul_left_right other (one % other) (one / other)
        rw [show one % other + other * (one / other) = one by have := Int.mul_ediv_add_emod one other; omega] at h
        rw [← h, Int.gcd_comm]
      rw [eg] at hw hd
      refine ⟨m', t', w', ?_, hd⟩
      rw [← hw]
      have o1 : mulOk (one / other) other = true := mulOk_of bq bo (by omega)
      have o2 : mulOk (one / other) theirs = true := mulOk_of bq b2 (by omega)
      simp [hp, e_fdiv hp (show other < 1073741824 by omega), e_mul o1, e_mul o2, e1]
    · have : other = 0 := by omega
      subst this
      refine ⟨mine, theirs, w, ?_, ?_⟩
      · simp [Int.gcd_zero_right, Int.natAbs_of_nonneg h0]
      · rw [Int.gcd_zero_right, Int.natAbs_of_nonneg h0]
        exact d1
/-- the number in [0, p) that n times leaves 1 -/
def IsInv (p n t : Int) : Prop := 0 ≤ t ∧ t < p ∧ (n * t) % p = 1
theorem turned_ok {p n : Int} (h : Pr p) (hn : n % p ≠ 0) : ∃ t, f_turned [.int p, .int n] = .ok (.int t) ∧ IsInv p n t := by
  have h3 := h.1
  have h4 := h.2.1
  have r0 := Int.emod_nonneg n (show p ≠ 0 by omega)
  have r1 := Int.emod_lt_of_pos n (show 0 < p by omega)
  obtain ⟨m', t', w', hw, hd⟩ := turned_loop p n 1000 (n % p) p 1 0 none 5 r0 (by omega) (by omega) (by omega) (by omega) (.lit) (.lit) (by omega)
    ⟨-(n / p), by have := Int.mul_ediv_add_emod n p; grind⟩ ⟨1, by grind⟩
  rw [h.gcd hn] at hw hd
  refine ⟨m' % p, ?_, Int.emod_nonneg _ (by omega), Int.emod_lt_of_pos _ (by omega), ?_⟩
  · have hp : 0 < p := by omega
    simp only [f_turned, defF]
    simp [e_mod hp, hw]
  · have e : (n * (m' % p)) % p = (m' * n) % p := by
      rw [Int.mul_emod, Int.emod_emod_of_dvd _ (Int.dvd_refl p), ← Int.mul_emod, Int.mul_comm]
    rw [e]
    have := Int.emod_emod_of_dvd
    obtain ⟨c, hc⟩ := hd
    have e2 : m' * n = 1 + p * (-c) := by grind
    rw [e2, Int.add_mul_emod_self_left]
    exact Int.emod_eq_of_lt (by decide) (by omega)
/-! ### a field -/
theorem inv_uniq {p n t u : Int} (h1 : IsInv p n t) (h2 : IsInv p n u) : t = u := by
  obtain ⟨a1, a2, a3⟩ := h1
  obtain ⟨b1, b2, b3⟩ := h2
  -- t = t (n u) = u (n t) = u by the prime
  have e1 : n * t = 1 + p * (n * t / p) := by have := Int.mul_ediv_add_emod (n * t) p; omega
  have e2 : n * u = 1 + p * (n * u / p) := by have := Int.mul_ediv_add_emod (n * u) p; omega
  have e3 : t - u = p * (u * (n * t / p) - t * (n * u / p)) := by grind
  have e4 : (t - u) % p = 0 := Int.emod_eq_zero_of_dvd ⟨_, e3⟩
  have e5 := Int.emod_emod_of_dvd t (Int.dvd_refl p)
  have := (Int.emod_eq_emod_iff_emod_sub_eq_zero).mpr e4
  rw [Int.emod_eq_of_lt a1 a2, Int.emod_eq_of_lt b1 b2] at this
  exact this
theorem inv_ex {p n : Int} (h : Pr p) (hn : n % p ≠ 0) : ∃ t, IsInv p n t := by
  obtain ⟨t, _, h⟩ := turned_ok h hn
  exact ⟨t, h⟩
theorem Pr.mul {p a b : Int} (h : Pr p) (hab : (a * b) % p = 0) : a % p = 0 ∨ b % p = 0 := by
  by_cases ha : a % p = 0
  · exact .inl ha
  · obtain ⟨t, _, _, ht⟩ := inv_ex h ha
    right
    obtain ⟨c, hc⟩ := Int.dvd_of_emod_eq_zero hab
    have e : a * t = 1 + p * (a * t / p) := by have := Int.mul_ediv_add_emod (a * t) p; omega
    refine Int.emod_eq_zero_of_dvd ⟨t * c - b * (a * t / p), ?_⟩
    grind
end OM
namespace OM
open Lean.Grind
/-- an int in the field -/
def io (F : Type) [Field F] (x : Int) : F := (Ring.intCast (α := F)).intCast x
section
variable {F : Type} [Field F]
theorem io_add (x y : Int) : io F (x + y) = io F x + io F y := Ring.intCast_add x y
theorem io_sub (x y : Int) : io F (x - y) = io F x - io F y := Ring.intCast_sub x y
theorem io_mul (x y : Int) : io F (x * y) = io F x * io F y := Ring.intCast_mul x y
theorem io_neg (x : Int) : io F (-x) = -io F x := Ring.intCast_neg x
theorem io_zero : io F 0 = 0 := Ring.intCast_zero
theorem io_one : io F 1 = 1 := Ring.intCast_one
end
/-- a field in which the ints are told apart by the prime alone -/
structure Fld (p : Int) (F : Type) [Field F] : Prop where
  z : ∀ x : Int, io F x = 0 ↔ x % p = 0
section
variable {p : Int} {F : Type} [Field F]
theorem Fld.eq (h : Fld p F) {x y : Int} : io F x = io F y ↔ x % p = y % p := by
  rw [Int.emod_eq_emod_iff_emod_sub_eq_zero, ← h.z, io_sub]
  constructor <;> intro e <;> grind
theorem Fld.mod (h : Fld p F) (x : Int) : io F (x % p) = io F x := h.eq.mpr (Int.emod_emod_of_dvd x (Int.dvd_refl p))
end
theorem inv_inv' {R : Type} [CommRing R] {inv : R → R} (h0 : inv 0 = 0) (h1 : ∀ a, a ≠ 0 → a * inv a = 1) (h01 : (0 : R) ≠ 1) (a : R) : inv (inv a) = a := by
  by_cases ha : a = 0
  · rw [ha, h0, h0]
  · have e1 := h1 a ha
    have hb : inv a ≠ 0 := fun q => h01 (by rw [q] at e1; grind)
    have e2 := h1 (inv a) hb
    have : inv (inv a) = a * inv a * inv (inv a) := by rw [e1]; grind
    rw [this, show a * inv a * inv (inv a) = a * (inv a * inv (inv a)) by grind, e2]
    grind
theorem inv_one' {R : Type} [CommRing R] {inv : R → R} (h1 : ∀ a, a ≠ 0 → a * inv a = 1) (h01 : (0 : R) ≠ 1) : inv 1 = 1 := by
  have e := h1 1 (fun q => h01 q.symm)
  grind
/-- a ring whose numbers but 0 have inverses -/
noncomputable def mkField (R : Type) [CommRing R] (inv : R → R) (h0 : inv 0 = 0) (h1 : ∀ a, a ≠ 0 → a * inv a = 1) (h01 : (0 : R) ≠ 1) : Field R where
  inv := inv
  div a b := a * inv b
  zpow := ⟨fun a i => if 0 ≤ i then a ^ i.toNat else inv (a ^ (-i).toNat)⟩
  div_eq_mul_inv _ _ := rfl
  zero_ne_one := h01
  inv_zero := h0
  mul_inv_cancel h := h1 _ h
  zpow_zero a := by
    show (if (0 : Int) ≤ 0 then a ^ (0 : Int).toNat else _) = 1
    rw [if_pos (by decide)]
    exact Semiring.pow_zero a
  zpow_succ a n := by
    show (if (0 : Int) ≤ (n : Int) + 1 then a ^ ((n : Int) + 1).toNat else _) = (if (0 : Int) ≤ (n : Int) then a ^ (n : Int).toNat else _) * a
    rw [if_pos (by omega), if_pos (by omega), show ((n : Int) + 1).toNat = n + 1 by omega, show (n : Int).toNat = n by omega]
    exact Semiring.pow_succ a n
  zpow_neg a n := by
    show (if (0 : Int) ≤ -n then a ^ (-n).toNat else inv (a ^ (- -n).toNat)) = inv (if (0 : Int) ≤ n then a ^ n.toNat else inv (a ^ (-n).toNat))
    rcases Int.lt_trichotomy n 0 with h | h | h
    · rw [if_pos (by omega), if_neg (by omega), inv_inv' h0 h1 h01]
    · subst h
      rw [if_pos (by decide), if_pos (by decide)]
      show a ^ 0 = inv (a ^ 0)
      rw [Semiring.pow_zero, inv_one' h1 h01]
    · rw [if_neg (by omega), if_pos (by omega), Int.neg_neg]
/-- the numbers by the prime are such a field -/
theorem fld_ex {p : Int} (h : Pr p) : ∃ (F : Type) (_ : Field F), Fld p F := by
  obtain ⟨n, hn⟩ : ∃ n : Nat, p = n := ⟨p.toNat, by have := h.1; omega⟩
  subst hn
  have h3 := h.1
  haveI : NeZero n := ⟨by omega⟩
  have ch : IsCharP (Fin n) n := inferInstance
  have z : ∀ x : Int, (Ring.intCast (α := Fin n)).intCast x = (0 : Fin n) ↔ x % (n : Int) = 0 := fun x => IsCharP.intCast_eq_zero_iff (α := Fin n) n x
  have surj : ∀ a : Fin n, ∃ x : Int, (Ring.intCast (α := Fin n)).intCast x = a := fun a => by
    refine ⟨(a.val : Int), ?_⟩
    have e := Ring.intCast_natCast (α := Fin n) a.val
    exact e.trans (Fin.ofNat_val_eq_self a)
  have h01 : (0 : Fin n) ≠ 1 := fun q => by
    have e := (z 1).mp (by
      have e1 := Ring.intCast_one (α := Fin n)
      exact e1.trans q.symm)
    rw [Int.emod_eq_of_lt (by decide) (by omega)] at e
    cases e
  have inv : ∀ a : Fin n, ∃ b : Fin n, (a = 0 → b = 0) ∧ (a ≠ 0 → a * b = 1) := fun a => by
    by_cases ha : a = 0
    · exact ⟨0, fun _ => rfl, fun q => absurd ha q⟩
    · obtain ⟨x, hx⟩ := surj a
      have hx0 : x % (n : Int) ≠ 0 := fun q => ha (hx ▸ (z x).mpr q)
      obtain ⟨t, _, _, ht⟩ := inv_ex h hx0
      refine ⟨(Ring.intCast (α := Fin n)).intCast t, fun q => absurd q ha, fun _ => ?_⟩
      rw [← hx]
      have e := Ring.intCast_mul (α := Fin n) x t
      have e2 := (IsCharP.intCast_ext_iff (α := Fin n) n (x := x * t) (y := 1)).mpr (by rw [ht, Int.emod_eq_of_lt (by decide) (by omega)])
      exact e.symm.trans (e2.trans (Ring.intCast_one (α := Fin n)))
  let fl : Field (Fin n) := mkField (Fin n) (fun a => Classical.choose (inv a)) ((Classical.choose_spec (inv 0)).1 rfl) (fun a ha => (Classical.choose_spec (inv a)).2 ha) h01
  exact ⟨Fin n, fl, @Fld.mk (n : Int) (Fin n) fl z⟩
end OM
set_option maxRecDepth 100000
/-! Tol: told lists of numbers; the law's own way to them. -/
namespace OM
open PySem L2 DI
theorem emod_mul_emod (a b p : Int) : (a % p * b) % p = (a * b) % p := by
  rw [Int.mul_emod, Int.emod_emod_of_dvd _ (Int.dvd_refl p), ← Int.mul_emod]
theorem mul_emod_emod (a b p : Int) : (a * (b % p)) % p = (a * b) % p := by
  rw [Int.mul_comm, emod_mul_emod, Int.mul_comm]
/-! ### Fermat -/
def prodI : List Int → Int
  | [] => 1
  | x :: r => x * prodI r
theorem prodI_perm {l m : List Int} (h : l.Perm m) : prodI l = prodI m := by
  induction h with
  | nil => rfl
  | cons x _ ih => unfold prodI; rw [ih]
  | swap x y l => simp only [prodI]; grind
  | trans _ _ a b => rw [a, b]
theorem prodI_map (p n : Int) : ∀ l : List Int, prodI (l.map fun x => n * x % p) % p = (n ^ l.length * prodI l) % p
  | [] => by simp [prodI]
  | x :: r => by
    have ih := prodI_map p n r
    rw [List.map_cons, List.length_cons]
    simp only [prodI]
    rw [Int.mul_emod, ih, Int.emod_emod_of_dvd _ (Int.dvd_refl p), ← Int.mul_emod]
    congr 1
    rw [Int.pow_succ]
    grind
theorem prodI_nz {p : Int} (h : Pr p) : ∀ l : List Int, (∀ x ∈ l, x % p ≠ 0) → prodI l % p ≠ 0
  | [], _ => by
    have := h.1
    show (1 : Int) % p ≠ 0
    rw [Int.emod_eq_of_lt (by decide) (by omega)]
    decide
  | x :: r, k => fun z => by
    rcases h.mul z with q | q
    · exact k x List.mem_cons_self q
    · exact prodI_nz h r (fun y hy => k y (List.mem_cons_of_mem _ hy)) q
def nums (p : Int) : List Int := (List.range (p.toNat - 1)).map fun (i : Nat) => (i : Int) + 1
theorem nums_mem {p x : Int} (hp : 1 ≤ p) : x ∈ nums p ↔ 0 < x ∧ x < p := by
  unfold nums
  simp only [List.mem_map, List.mem_range]
  constructor
  · rintro ⟨i, hi, rfl⟩
    omega
  · intro ⟨a, b⟩
    exact ⟨(x - 1).toNat, by omega, by omega⟩
theorem nodup_map {α β : Type} {f : α → β} : ∀ {l : List α}, l.Nodup → (∀ x ∈ l, ∀ y ∈ l, f x = f y → x = y) → (l.map f).Nodup
  | [], _, _ => List.nodup_nil
  | x :: r, h, k => by
    rw [List.nodup_cons] at h
    rw [List.map_cons, List.nodup_cons]
    refine ⟨fun q => ?_, nodup_map h.2 fun a ha b hb => k a (List.mem_cons_of_mem _ ha) b (List.mem_cons_of_mem _ hb)⟩
    obtain ⟨y, hy, e⟩ := List.mem_map.mp q
    exact h.1 ((k x List.mem_cons_self y (List.mem_cons_of_mem _ hy) e.symm) ▸ hy)
theorem nums_nodup (p : Int) : (nums p).Nodup := nodup_map List.nodup_range fun x _ y _ e => by omega
theorem fermat {p n : Int} (h : Pr p) (hn : n % p ≠ 0) : (n ^ (p.toNat - 1)) % p = 1 := by
  have h3 := h.1
  have hp : 0 < p := by omega
  obtain ⟨t, t0, t1, ht⟩ := inv_ex h hn
  have mem : ∀ x, x ∈ nums p ↔ 0 < x ∧ x < p := fun x => nums_mem (by omega)
  have small : ∀ {x : Int}, 0 < x → x < p → x % p ≠ 0 := fun a b => by
    rw [Int.emod_eq_of_lt (by omega) b]
    omega
  have back : ∀ x : Int, (t * (n * x % p)) % p = x % p := fun x => by
    rw [mul_emod_emod, show t * (n * x) = (n * t) * x by grind, ← emod_mul_emod, ht, Int.one_mul]
  have there : ∀ x : Int, (n * (t * x % p)) % p = x % p := fun x => by
    rw [mul_emod_emod, show n * (t * x) = (n * t) * x by grind, ← emod_mul_emod, ht, Int.one_mul]
  have nz : ∀ {a x : Int}, a % p ≠ 0 → 0 < x → x < p → 0 < a * x % p ∧ a * x % p < p := fun {a x} ha x0 x1 => by
    refine ⟨?_, Int.emod_lt_of_pos _ hp⟩
    rcases Int.lt_or_eq_of_le (Int.emod_nonneg (a * x) (show p ≠ 0 by omega)) with q | q
    · exact q
    · rcases h.mul q.symm with z | z
      · exact absurd z ha
      · exact absurd z (small x0 x1)
  have ht0 : t % p ≠ 0 := by
    rw [Int.emod_eq_of_lt t0 t1]
    intro z
    rw [z, Int.mul_zero, Int.zero_emod] at ht
    cases ht
  have pm : ((nums p).map fun x => n * x % p).Perm (nums p) := by
    refine (List.perm_ext_iff_of_nodup (nodup_map (nums_nodup p) fun x hx y hy e => ?_) (nums_nodup p)).mpr fun y => ?_
    · have e2 := congrArg (fun z => t * z % p) e
      simp only [back] at e2
      have hx := (mem x).mp hx
      have hy := (mem y).mp hy
      rwa [Int.emod_eq_of_lt (by omega) hx.2, Int.emod_eq_of_lt (by omega) hy.2] at e2
    · rw [List.mem_map, mem]
      constructor
      · rintro ⟨x, hx, rfl⟩
        have hx := (mem x).mp hx
        exact nz hn hx.1 hx.2
      · intro ⟨a, b⟩
        refine ⟨t * y % p, (mem _).mpr (nz ht0 a b), ?_⟩
        rw [there, Int.emod_eq_of_lt (by omega) b]
  have e := prodI_map p n (nums p)
  rw [prodI_perm pm] at e
  have el : (nums p).length = p.toNat - 1 := by unfold nums; rw [List.length_map, List.length_range]
  rw [el] at e
  have e2 : ((n ^ (p.toNat - 1) - 1) * prodI (nums p)) % p = 0 := by
    rw [Int.sub_mul, Int.one_mul]
    exact (Int.emod_eq_emod_iff_emod_sub_eq_zero).mp e.symm
  rcases h.mul e2 with q | q
  · have := (Int.emod_eq_emod_iff_emod_sub_eq_zero).mpr q
    rw [this, Int.emod_eq_of_lt (by decide) (by omega)]
  · exact absurd q (prodI_nz h _ (fun x hx => by
      have hx := (mem x).mp hx
      exact small hx.1 hx.2))
/-! ### the told list -/
open Classical in
noncomputable def inv (p n : Int) : Int := if h : ∃ t, IsInv p n t then Classical.choose h else 0
theorem inv_eq {p n t : Int} (h : IsInv p n t) : inv p n = t := by
  unfold inv
  rw [dif_pos ⟨t, h⟩]
  exact inv_uniq (Classical.choose_spec (⟨t, h⟩ : ∃ t, IsInv p n t)) h
theorem inv_is {p n : Int} (h : Pr p) (hn : n % p ≠ 0) : IsInv p n (inv p n) := by
  obtain ⟨t, ht⟩ := inv_ex h hn
  rw [inv_eq ht]
  exact ht
def nzs (p : Int) (v : List Int) : List Int := (v.filter fun x => decide (0 < x % p)).map fun x => x % p
theorem nzs_mem {p x : Int} {v : List Int} (h : x ∈ nzs p v) : 0 < x ∧ x % p = x := by
  unfold nzs at h
  obtain ⟨y, hy, rfl⟩ := List.mem_map.mp h
  exact ⟨of_decide_eq_true (List.mem_filter.mp hy).2, Int.emod_emod_of_dvd _ (Int.dvd_refl p)⟩
noncomputable def tolL (p : Int) (v : List Int) : List Int := match nzs p v with
  | [] => []
  | f :: _ => v.map fun x => x * inv p f % p
theorem sz16 : ∀ {n : Nat}, n ≤ 16777216 → n ≤ sizeLine := fun h => by rw [sizeLine_eq]; exact h
theorem told_of_ok {p : Int} {d : D} {v : List Int} (h : Pr p) (hd : dItems d = .ok (v.map D.int)) (hv : ∀ x ∈ v, B x 1000) (hl : v.length ≤ 1000) (hn : nzs p v ≠ []) :
    f_told_of [.int p, d] = .ok (.tup ((tolL p v).map D.int)) := by
  have h3 := h.1
  have hp : 0 < p := by omega
  have c1 : xComp false [4] (xItems (xVar 1)) (tgN 4) (bBl (x2 dGt (x2 dMod (xVar 4) (xVar 0)) (xC (.int 0)))) (x2 dMod (xVar 4) (xVar 0)) [iv p, some (.v d), none, none, none] = .ok ((nzs p v).map D.int) := by
    rw [e_comp (items := v.map D.int) (by simp [hd]) (by intro q; cases q) (by rw [List.length_map]; exact sz16 (by omega)),
      e_compR D.int (fun x => [iv p, some (.v d), none, none, iv x]) (fun x => decide (0 < x % p)) (fun x => .int (x % p)) v (fun x _ => by simp [wipeE]) (fun x _ => by simp [e_mod hp]) (fun x _ _ => by simp [e_mod hp])]
    unfold nzs
    rw [List.map_map]
    rfl
  cases q : nzs p v with
  | nil => exact absurd q hn
  | cons f r =>
    have hf := nzs_mem (p := p) (v := v) (x := f) (by rw [q]; exact List.mem_cons_self)
    obtain ⟨t, ht, hi⟩ := turned_ok h (n := f) (by rw [hf.2]; omega)
    have c2 : xComp false [4] (xItems (xVar 1)) (tgN 4) bYes (x2 dMod (x2 dMul (xVar 4) (xVar 3)) (xVar 0)) [iv p, some (.v d), some (.v (.lst ((f :: r).map D.int))), iv t, none] = .ok ((tolL p v).map D.int) := by
      rw [e_comp (items := v.map D.int) (by simp [hd]) (by intro q; cases q) (by rw [List.length_map]; exact sz16 (by omega)),
        e_compY D.int (fun x => [iv p, some (.v d), some (.v (.lst ((f :: r).map D.int))), iv t, iv x]) (fun x => .int (x * t % p)) v (fun x _ => by simp [wipeE]) (fun x hx => by
          have h4 := h.2.1
          have i1 := hi.1
          have i2 := hi.2.1
          have bt : B t 10 := B.of (by omega) (by omega)
          simp [e_mod hp, e_mul (mulOk_of (hv x hx) bt (by omega))])]
      unfold tolL
      rw [q]
      dsimp only
      rw [List.map_map, inv_eq hi]
      rfl
    simp only [f_told_of, defF, e_sSeq, e_sSet, e_xLst]
    simp only [List.length_cons, List.length_nil, List.map_cons, List.map_nil, List.replicate, Nat.reduceAdd, Nat.reduceSub, if_true, List.cons_append, List.nil_append]
    rw [c1, q]
    have e0 : atI (D.int f :: r.map D.int) 0 = some (.int f) := by simp [atI, ixN]
    simp [ht, e0]
    simp only [List.map_cons] at c2
    rw [c2]
    simp
/-! ### the law's way -/
abbrev wC : Ev → M Bool := bBl (x2 dGt (xVar 4) (xC (.int 0)))
abbrev wFB : Ev → S := sSeq (sIf (bBl (x2 dEq (x2 dMod (xVar 4) (xC (.int 2))) (xC (.int 1)))) (sSet 3 (x2 dMod (x2 dMul (xVar 3) (xVar 2)) (xVar 0))) sNil)
  (sPar 2 4 (xCons (x2 dMod (x2 dMul (xVar 2) (xVar 2)) (xVar 0)) (xCons (x2 dFdiv (xVar 4) (xC (.int 2))) xNil)))
theorem pow_step {p z base acc : Int} (d : D) (hp : 0 < p) (o1 : dMul (.int base) (.int base) = .ok (.int (base * base))) (o2 : dMul (.int acc) (.int base) = .ok (.int (acc * base))) :
    wFB [iv p, some (.v d), iv base, iv acc, iv z, none] = .nx [iv p, some (.v d), iv (base * base % p), iv (if z % 2 = 1 then acc * base % p else acc), iv (z / 2), none] := by
  by_cases q : z % 2 = 1
  · simp [e_mod hp, e_mod (show (0 : Int) < 2 by decide), e_fdiv (show (0 : Int) < 2 by decide) (by decide), o1, o2, q]
  · simp [e_mod hp, e_mod (show (0 : Int) < 2 by decide), e_fdiv (show (0 : Int) < 2 by decide) (by decide), o1, q]
theorem pow_loop {p : Int} (hp : 0 < p) (hp2 : p < 1024) (d : D) : ∀ (k e : Nat) (base acc : Int), e < 2 ^ k → 0 ≤ base → base < p → 0 ≤ acc → acc < p →
    ∃ base' acc', whileS wC wFB (k + 1) [iv p, some (.v d), iv base, iv acc, iv e, none] = .nx [iv p, some (.v d), iv base', iv acc', iv 0, none] ∧ 0 ≤ acc' ∧ acc' < p ∧ acc' % p = (acc * base ^ e) % p
  | 0, e, base, acc, he, b0, b1, a0, a1 => by
    have : e = 0 := by omega
    subst this
    exact ⟨base, acc, by simp [whileS], a0, a1, by simp⟩
  | k + 1, e, base, acc, he, b0, b1, a0, a1 => by
    by_cases hz : e = 0
    · subst hz
      exact ⟨base, acc, by simp [whileS], a0, a1, by simp⟩
    · have bb : B base 10 := B.of (by omega) (by omega)
      have ba : B acc 10 := B.of (by omega) (by omega)
      have o1 := e_mul (mulOk_of bb bb (by omega))
      have o2 := e_mul (mulOk_of ba bb (by omega))
      have e2 : (base * base) ^ (e / 2) * base ^ (e % 2) = base ^ e := by
        rw [show base * base = base ^ 2 by rw [Int.pow_succ, Int.pow_succ, Int.pow_zero, Int.one_mul], ← Int.pow_mul, ← Int.pow_add]
        congr 1
        omega
      have hpos : (0 : Int) < (e : Int) := by omega
      have m0 := Int.emod_nonneg (base * base) (show p ≠ 0 by omega)
      have m1 := Int.emod_lt_of_pos (base * base) hp
      have n0 := Int.emod_nonneg (acc * base) (show p ≠ 0 by omega)
      have n1 := Int.emod_lt_of_pos (acc * base) hp
      have pm : ∀ (x : Int) (j : Nat), (x % p) ^ j % p = x ^ j % p := fun x j => by
        induction j with
        | zero => rw [Int.pow_zero, Int.pow_zero]
        | succ j ih => rw [Int.pow_succ, Int.pow_succ, Int.mul_emod, ih, Int.emod_emod_of_dvd _ (Int.dvd_refl p), ← Int.mul_emod]
      have hd : ((e : Int)) / 2 = ((e / 2 : Nat) : Int) := by omega
      have hC : wC [iv p, some (.v d), iv base, iv acc, iv e, none] = .ok true := by simp; omega
      unfold whileS
      by_cases ho : e % 2 = 1
      · obtain ⟨base', acc', hw, q0, q1, q2⟩ := pow_loop hp hp2 d k (e / 2) (base * base % p) (acc * base % p) (by rw [Nat.pow_succ] at he; omega) m0 m1 n0 n1
        refine ⟨base', acc', ?_, q0, q1, ?_⟩
        · rw [← hw]
          have hoo : (e : Int) % 2 = 1 := by omega
          rw [hC, e_ofM_ok, if_pos rfl, pow_step d hp o1 o2, if_pos hoo, hd]
        · rw [q2, emod_mul_emod, Int.mul_emod, pm, ← Int.mul_emod, ← e2, ho, Int.pow_one]
          congr 1
          grind
      · obtain ⟨base', acc', hw, q0, q1, q2⟩ := pow_loop hp hp2 d k (e / 2) (base * base % p) acc (by rw [Nat.pow_succ] at he; omega) m0 m1 a0 a1
        refine ⟨base', acc', ?_, q0, q1, ?_⟩
        · rw [← hw]
          have hoo : (e : Int) % 2 = 0 := by omega
          rw [hC, e_ofM_ok, if_pos rfl, pow_step d hp o1 o2, if_neg (by omega), hd]
        · rw [q2, Int.mul_emod, pm, ← Int.mul_emod, ← e2, show e % 2 = 0 by omega, Int.pow_zero, Int.mul_one]
theorem l_told_ok {p : Int} {d : D} {v : List Int} (h : Pr p) (hd : dItems d = .ok (v.map D.int)) (hv : ∀ x ∈ v, B x 1000) (hl : v.length ≤ 1000) (hn : nzs p v ≠ []) :
    f_l_told [.int p, d] = .ok (.tup ((tolL p v).map D.int)) := by
  have h3 := h.1
  have h4 := h.2.1
  have hp : 0 < p := by omega
  have c1 : xComp false [5] (xItems (xVar 1)) (tgN 5) (bBl (x2 dGt (x2 dMod (xVar 5) (xVar 0)) (xC (.int 0)))) (x2 dMod (xVar 5) (xVar 0)) [iv p, some (.v d), none, none, none, none] = .ok ((nzs p v).map D.int) := by
    rw [e_comp (items := v.map D.int) (by simp [hd]) (by intro q; cases q) (by rw [List.length_map]; exact sz16 (by omega)),
      e_compR D.int (fun x => [iv p, some (.v d), none, none, none, iv x]) (fun x => decide (0 < x % p)) (fun x => .int (x % p)) v (fun x _ => by simp [wipeE]) (fun x _ => by simp [e_mod hp]) (fun x _ _ => by simp [e_mod hp])]
    unfold nzs
    rw [List.map_map]
    rfl
  cases q : nzs p v with
  | nil => exact absurd q hn
  | cons f r =>
    have hf := nzs_mem (p := p) (v := v) (x := f) (by rw [q]; exact List.mem_cons_self)
    have f1 : f < p := by
      have := Int.emod_lt_of_pos f hp
      omega
    obtain ⟨e, he⟩ : ∃ e : Nat, p - 2 = (e : Int) := ⟨(p - 2).toNat, by omega⟩
    obtain ⟨base', t, ht, t0, t1, t2⟩ := pow_loop hp (by omega) d 19 e f 1 (by have : (2 : Nat) ^ 19 = 524288 := rfl; omega) (by omega) f1 (by decide) (by omega)
    have hi : IsInv p f t := by
      refine ⟨t0, t1, ?_⟩
      rw [← mul_emod_emod, t2, mul_emod_emod, Int.one_mul, Int.mul_comm, ← Int.pow_succ]
      have := fermat h (n := f) (by rw [hf.2]; omega)
      rwa [show p.toNat - 1 = e + 1 by omega] at this
    have c2 : xComp false [5] (xItems (xVar 1)) (tgN 5) bYes (x2 dMod (x2 dMul (xVar 5) (xVar 3)) (xVar 0)) [iv p, some (.v d), iv base', iv t, iv 0, none] = .ok ((tolL p v).map D.int) := by
      rw [e_comp (items := v.map D.int) (by simp [hd]) (by intro q; cases q) (by rw [List.length_map]; exact sz16 (by omega)),
        e_compY D.int (fun x => [iv p, some (.v d), iv base', iv t, iv 0, iv x]) (fun x => .int (x * t % p)) v (fun x _ => by simp [wipeE]) (fun x hx => by
          have bt : B t 10 := B.of (by omega) (by omega)
          simp [e_mod hp, e_mul (mulOk_of (hv x hx) bt (by omega))])]
      unfold tolL
      rw [q]
      dsimp only
      rw [List.map_map, inv_eq hi]
      rfl
    simp only [f_l_told, defF, e_sSeq, e_sSet, e_xLst, e_x2]
    simp only [List.length_cons, List.length_nil, List.map_cons, List.map_nil, List.replicate, Nat.reduceAdd, Nat.reduceSub, if_true, List.cons_append, List.nil_append]
    rw [c1, q]
    have e0 : atI (D.int f :: r.map D.int) 0 = some (.int f) := by simp [atI, ixN]
    simp [e0, he]
    rw [ht]
    simp [c2]
end OM
set_option maxRecDepth 100000
/-! Pla: the plane: told triples, on, cross. -/
namespace OM
open PySem L2 DI
def ls (t : Tri) : List Int := [t.1, t.2.1, t.2.2]
def Told (p : Int) (t : Tri) : Prop := (t.1 = 1 ∧ 0 ≤ t.2.1 ∧ t.2.1 < p ∧ 0 ≤ t.2.2 ∧ t.2.2 < p) ∨ (t.1 = 0 ∧ t.2.1 = 1 ∧ 0 ≤ t.2.2 ∧ t.2.2 < p) ∨ (t.1 = 0 ∧ t.2.1 = 0 ∧ t.2.2 = 1)
def NZ (p : Int) (t : Tri) : Prop := ¬ (t.1 % p = 0 ∧ t.2.1 % p = 0 ∧ t.2.2 % p = 0)
def On (p : Int) (u v : Tri) : Prop := (u.1 * v.1 + u.2.1 * v.2.1 + u.2.2 * v.2.2) % p = 0
instance decOn (p : Int) (u v : Tri) : Decidable (On p u v) := inferInstanceAs (Decidable (_ = _))
def crT (u v : Tri) : Tri := (u.2.1 * v.2.2 - u.2.2 * v.2.1, u.2.2 * v.1 - u.1 * v.2.2, u.1 * v.2.1 - u.2.1 * v.1)
noncomputable def scl (p : Int) (t : Tri) : Int := match nzs p (ls t) with
  | [] => 0
  | f :: _ => inv p f
noncomputable def tol (p : Int) (t : Tri) : Tri := (t.1 * scl p t % p, t.2.1 * scl p t % p, t.2.2 * scl p t % p)
theorem nzs_ls {p : Int} (hp : 0 < p) (t : Tri) : nzs p (ls t) = (if t.1 % p = 0 then [] else [t.1 % p]) ++ ((if t.2.1 % p = 0 then [] else [t.2.1 % p]) ++ (if t.2.2 % p = 0 then [] else [t.2.2 % p])) := by
  have k : ∀ (x : Int) (r : List Int), ((x :: r).filter fun x => decide (0 < x % p)) = (if x % p = 0 then [] else [x]) ++ r.filter fun x => decide (0 < x % p) := fun x r => by
    have := Int.emod_nonneg x (show p ≠ 0 by omega)
    by_cases q : x % p = 0
    · rw [List.filter_cons_of_neg (by rw [decide_eq_true_eq]; omega), if_pos q]
      rfl
    · rw [List.filter_cons_of_pos (by rw [decide_eq_true_eq]; omega), if_neg q]
      rfl
  unfold nzs ls
  rw [k, k, k]
  split <;> split <;> split <;> rfl
theorem nzs_nz {p : Int} (hp : 0 < p) {t : Tri} (h : NZ p t) : nzs p (ls t) ≠ [] := by
  rw [nzs_ls hp]
  unfold NZ at h
  split <;> split <;> split <;> simp_all
theorem tolL_ls {p : Int} {t : Tri} (h : nzs p (ls t) ≠ []) : tolL p (ls t) = ls (tol p t) := by
  unfold tolL tol scl
  cases q : nzs p (ls t) with
  | nil => exact absurd q h
  | cons f r => rfl
theorem z_mul {p x s : Int} (h : x % p = 0) : x * s % p = 0 := by rw [← emod_mul_emod, h, Int.zero_mul, Int.zero_emod]
theorem tol_told {p : Int} (h : Pr p) {t : Tri} (hn : NZ p t) : Told p (tol p t) ∧ scl p t % p ≠ 0 := by
  have h3 := h.1
  have hp : 0 < p := by omega
  have e := nzs_ls hp t
  have main : ∀ x : Int, x % p ≠ 0 → scl p t = inv p (x % p) → x * scl p t % p = 1 ∧ scl p t % p ≠ 0 := fun x hx hs => by
    obtain ⟨i0, i1, i2⟩ := inv_is h (n := x % p) (by rwa [Int.emod_emod_of_dvd _ (Int.dvd_refl p)])
    rw [← hs] at i0 i1 i2
    rw [emod_mul_emod] at i2
    refine ⟨i2, fun q => ?_⟩
    rw [← mul_emod_emod, q, Int.mul_zero, Int.zero_emod] at i2
    cases i2
  have r0 : ∀ x : Int, 0 ≤ x * scl p t % p ∧ x * scl p t % p < p := fun x => ⟨Int.emod_nonneg _ (by omega), Int.emod_lt_of_pos _ hp⟩
  by_cases h1 : t.1 % p = 0
  · by_cases h2 : t.2.1 % p = 0
    · by_cases h4 : t.2.2 % p = 0
      · exact absurd ⟨h1, h2, h4⟩ hn
      · have m := main t.2.2 h4 (by unfold scl; rw [e, if_pos h1, if_pos h2, if_neg h4]; rfl)
        exact ⟨.inr (.inr ⟨z_mul h1, z_mul h2, m.1⟩), m.2⟩
    · have m := main t.2.1 h2 (by unfold scl; rw [e, if_pos h1, if_neg h2]; rfl)
      exact ⟨.inr (.inl ⟨z_mul h1, m.1, r0 _⟩), m.2⟩
  · have m := main t.1 h1 (by unfold scl; rw [e, if_neg h1]; rfl)
    exact ⟨.inl ⟨m.1, (r0 _).1, (r0 _).2, r0 _⟩, m.2⟩
theorem Told.b {p : Int} (h : Pr p) {t : Tri} (k : Told p t) : (0 ≤ t.1 ∧ t.1 < p) ∧ (0 ≤ t.2.1 ∧ t.2.1 < p) ∧ (0 ≤ t.2.2 ∧ t.2.2 < p) := by
  have := h.1
  rcases k with ⟨a, b, c, d, e⟩ | ⟨a, b, c, d⟩ | ⟨a, b, c⟩ <;> omega
theorem Told.bits {p : Int} (h : Pr p) {t : Tri} (k : Told p t) : B t.1 10 ∧ B t.2.1 10 ∧ B t.2.2 10 := by
  have := h.2.1
  obtain ⟨⟨a, b⟩, ⟨c, d⟩, e, f⟩ := k.b h
  exact ⟨B.of (by omega) (by omega), B.of (by omega) (by omega), B.of (by omega) (by omega)⟩
theorem small_z {p x : Int} (h : x % p = 0) (h1 : -p < x) (h2 : x < p) : x = 0 := by
  obtain ⟨c, rfl⟩ := Int.dvd_of_emod_eq_zero h
  have hp : 0 < p := by omega
  rcases Int.lt_trichotomy c 0 with q | q | q
  · have := Int.mul_le_mul_of_nonneg_left (show c ≤ -1 by omega) (Int.le_of_lt hp)
    omega
  · subst q; omega
  · have := Int.mul_le_mul_of_nonneg_left (show 1 ≤ c by omega) (Int.le_of_lt hp)
    omega
theorem Told.nz {p : Int} (h : Pr p) {t : Tri} (k : Told p t) : NZ p t := by
  have h3 := h.1
  have one : (1 : Int) % p = 1 := Int.emod_eq_of_lt (by decide) (by omega)
  rintro ⟨a, b, c⟩
  rcases k with ⟨e, _⟩ | ⟨_, e, _⟩ | ⟨_, _, e⟩
  · rw [e, one] at a; cases a
  · rw [e, one] at b; cases b
  · rw [e, one] at c; cases c
/-- unlike told triples cross -/
theorem cr_nz {p : Int} (h : Pr p) {u v : Tri} (hu : Told p u) (hv : Told p v) (ne : u ≠ v) : NZ p (crT u v) := by
  obtain ⟨u1, u2, u3⟩ := u
  obtain ⟨v1, v2, v3⟩ := v
  have h3 := h.1
  have one : (1 : Int) % p = 1 := Int.emod_eq_of_lt (by decide) (by omega)
  have mone : (-1 : Int) % p ≠ 0 := fun q => by
    have := small_z q (by omega) (by omega)
    omega
  rintro ⟨a, b, c⟩
  simp only [crT] at a b c
  unfold Told at hu hv
  simp only at hu hv
  rcases hu with ⟨rfl, _⟩ | ⟨rfl, rfl, _⟩ | ⟨rfl, rfl, rfl⟩ <;> rcases hv with ⟨rfl, _⟩ | ⟨rfl, rfl, _⟩ | ⟨rfl, rfl, rfl⟩ <;> simp [one] at a b c ne
  · have := small_z b (by omega) (by omega)
    have := small_z c (by omega) (by omega)
    omega
  · exact absurd b mone
  · exact absurd c mone
  · have := small_z a (by omega) (by omega)
    omega
  · exact absurd a mone
/-! ### in the field -/
open Lean.Grind
theorem On.comm {p : Int} {u v : Tri} (h : On p u v) : On p v u := by
  unfold On at *
  rw [← h]
  congr 1
  grind
def dot (F : Type) [Field F] (u v : Tri) : F := io F u.1 * io F v.1 + io F u.2.1 * io F v.2.1 + io F u.2.2 * io F v.2.2
theorem on_dot {p : Int} {F : Type} [Field F] (f : Fld p F) {u v : Tri} : On p u v ↔ dot F u v = 0 := by
  unfold On dot
  rw [← f.z, io_add, io_add, io_mul, io_mul, io_mul]
theorem nz_or {p : Int} {F : Type} [Field F] (f : Fld p F) {t : Tri} (h : NZ p t) : io F t.1 ≠ 0 ∨ io F t.2.1 ≠ 0 ∨ io F t.2.2 ≠ 0 := by
  unfold NZ at h
  rw [← f.z, ← f.z, ← f.z] at h
  by_cases a : io F t.1 = 0
  · by_cases b : io F t.2.1 = 0
    · exact .inr (.inr fun c => h ⟨a, b, c⟩)
    · exact .inr (.inl b)
  · exact .inl a
theorem cr_io {F : Type} [Field F] (u v : Tri) : io F (crT u v).1 = io F u.2.1 * io F v.2.2 - io F u.2.2 * io F v.2.1 ∧ io F (crT u v).2.1 = io F u.2.2 * io F v.1 - io F u.1 * io F v.2.2 ∧ io F (crT u v).2.2 = io F u.1 * io F v.2.1 - io F u.2.1 * io F v.1 := by
  simp only [crT, io_sub, io_mul, true_and, and_true]
theorem tol_io {p : Int} {F : Type} [Field F] (f : Fld p F) (t : Tri) : io F (tol p t).1 = io F t.1 * io F (scl p t) ∧ io F (tol p t).2.1 = io F t.2.1 * io F (scl p t) ∧ io F (tol p t).2.2 = io F t.2.2 * io F (scl p t) := by
  simp only [tol, f.mod, io_mul, true_and, and_true]
/-- the told cross lies on both -/
theorem cr_on {p : Int} (h : Pr p) (u v : Tri) : On p (tol p (crT u v)) u ∧ On p (tol p (crT u v)) v := by
  obtain ⟨F, _, f⟩ := fld_ex h
  rw [on_dot f, on_dot f]
  unfold dot
  obtain ⟨a, b, c⟩ := tol_io f (crT u v)
  obtain ⟨d, e, g⟩ := cr_io (F := F) u v
  rw [a, b, c, d, e, g]
  constructor <;> grind
theorem par_eq {F : Type} [Field F] {a b c d e f u v w x y z : F}
    (h1 : a * u + b * v + c * w = 0) (h2 : a * x + b * y + c * z = 0) (h3 : d * u + e * v + f * w = 0) (h4 : d * x + e * y + f * z = 0)
    (hn : v * z - w * y ≠ 0 ∨ w * x - u * z ≠ 0 ∨ u * y - v * x ≠ 0) : b * f - c * e = 0 ∧ c * d - a * f = 0 ∧ a * e - b * d = 0 := by
  rcases hn with q | q | q <;> refine ⟨?_, ?_, ?_⟩ <;> grind
/-- two told triples that both lie on two unlike ones are one -/
theorem on_uniq {p : Int} (h : Pr p) {u v s t : Tri} (hu : Told p u) (hv : Told p v) (ne : u ≠ v) (hs : Told p s) (ht : Told p t)
    (h1 : On p s u) (h2 : On p s v) (h3 : On p t u) (h4 : On p t v) : s = t := by
  obtain ⟨F, _, f⟩ := fld_ex h
  rcases Classical.em (s = t) with q | q
  · exact q
  · have n1 := nz_or f (cr_nz h hu hv ne)
    have n2 := nz_or f (cr_nz h hs ht q)
    obtain ⟨a, b, c⟩ := cr_io (F := F) u v
    obtain ⟨a', b', c'⟩ := cr_io (F := F) s t
    rw [a, b, c] at n1
    rw [a', b', c'] at n2
    have g := par_eq ((on_dot f).mp h1) ((on_dot f).mp h2) ((on_dot f).mp h3) ((on_dot f).mp h4) n1
    rcases n2 with z | z | z
    · exact absurd g.1 z
    · exact absurd g.2.1 z
    · exact absurd g.2.2 z
end OM
set_option maxRecDepth 100000
/-! Chk: the checks, the crosses, join, meet, on. -/
namespace OM
open PySem L2 DI
theorem eqT (u v : Tri) : PyData.eqv (triD u).toP (triD v).toP = decide (u = v) := by
  obtain ⟨a, b, c⟩ := u
  obtain ⟨d, e, f⟩ := v
  simp [triD, D.toP, toPs, PyData.eqv, PyData.eqvAll, Prod.mk.injEq, Bool.decide_and]
  rfl
theorem okT (u : Tri) : (triD u).ok = true := by rfl
theorem dEqT (u v : Tri) : dEq (triD u) (triD v) = .ok (.bl (decide (u = v))) := by
  unfold dEq
  rw [okT, okT, eqT]
  rfl
theorem dNeT (u v : Tri) : dNe (triD u) (triD v) = .ok (.bl (!decide (u = v))) := by
  unfold dNe
  rw [okT, okT, eqT]
  rfl
theorem toPs_map (ts : List Tri) : toPs (ts.map triD) = ts.map fun t => (triD t).toP := by
  induction ts with
  | nil => rfl
  | cons t r ih => rw [List.map_cons, List.map_cons, toPs, ih]
theorem okTs : ∀ ts : List Tri, isDs (ts.map triD) = true ∧ PyData.canLayAll0 (toPs (ts.map triD)) = true ∧ PyData.depthAll (toPs (ts.map triD)) ≤ 3
  | [] => ⟨rfl, rfl, by decide⟩
  | t :: r => by
    obtain ⟨a, b, c⟩ := okTs r
    rw [List.map_cons]
    refine ⟨by rw [isDs, a]; rfl, by rw [toPs, PyData.canLayAll0, b]; rfl, ?_⟩
    rw [toPs, PyData.depthAll]
    have : (triD t).toP.depth ≤ 3 := by
      simp [triD, D.toP, toPs, PyData.depth, PyData.depthAll]
    omega
theorem okLT (ts : List Tri) : (D.lst (ts.map triD)).ok = true := by
  obtain ⟨a, b, c⟩ := okTs ts
  unfold D.ok SeqAt.shaped
  rw [D.isD, a, D.toP, PyData.canLay0, b, PyData.depth]
  simp
  omega
theorem okTT (ts : List Tri) : (D.tup (ts.map triD)).ok = true := by
  obtain ⟨a, b, c⟩ := okTs ts
  unfold D.ok SeqAt.shaped
  rw [D.isD, a, D.toP, PyData.canLay0, b, PyData.depth]
  simp
  omega
theorem anyT (ts : List Tri) (t : Tri) : ((toPs (ts.map triD)).any fun z => PyData.eqv z (triD t).toP) = decide (t ∈ ts) := by
  rw [toPs_map, List.any_map]
  induction ts with
  | nil => rfl
  | cons u r ih =>
    rw [List.any_cons, ih]
    simp only [Function.comp, eqT, List.mem_cons, Bool.decide_or, eq_comm]
theorem dNotInL (ts : List Tri) (t : Tri) : dNotIn (triD t) (.lst (ts.map triD)) = .ok (.bl (!decide (t ∈ ts))) := by
  unfold dNotIn
  rw [okT, okLT, ← anyT]
  rfl
theorem dNotInT (ts : List Tri) (t : Tri) : dNotIn (triD t) (.tup (ts.map triD)) = .ok (.bl (!decide (t ∈ ts))) := by
  unfold dNotIn
  rw [okT, okTT, ← anyT]
  rfl
theorem ne1 (a : Int) : dNe (.lst [.int a]) (.lst []) = .ok (.bl true) := by rfl
theorem ne2 (a b : Int) : dNe (.lst [.int a, .int b]) (.lst []) = .ok (.bl true) := by rfl
theorem ne3 (a b c : Int) : dNe (.lst [.int a, .int b, .int c]) (.lst []) = .ok (.bl true) := by rfl
theorem check_prime_ok (z : Adr) {p : Int} (h : Pr p) : f_check_prime z [.int p] = .ok .non := by
  obtain ⟨h3, h4, h5⟩ := h
  have c1 : xComp false [1] (xAll dRg2 (xCons (xC (.int 2)) (xCons (xC (.int 32)) xNil))) (tgN 1) (bBl (x2 dLt (xVar 1) (xVar 0))) (x2 dEq (x2 dMod (xVar 0) (xVar 1)) (xC (.int 0))) [iv p, none]
      = .ok ((((List.range 30).filter fun (i : Nat) => decide (2 + (i : Int) < p)).map fun (i : Nat) => D.bl (decide (p % (2 + (i : Int)) = 0)))) := by
    rw [e_comp (items := rgD 2 1 30) (by simp [dRg2]; decide) (by intro q; cases q) (by rw [rgD_len]; exact sz16 (by omega)), rgD_map,
      e_compR _ (fun (i : Nat) => [iv p, iv (2 + (i : Int))]) (fun (i : Nat) => decide (2 + (i : Int) < p)) (fun (i : Nat) => D.bl (decide (p % (2 + (i : Int)) = 0))) (List.range 30) (fun x _ => by simp [wipeE]) (fun x _ => by simp) (fun x _ _ => by
        simp [e_mod (show (0 : Int) < 2 + (x : Int) by omega)]
        rfl)]
  have e2 : ((((List.range 30).filter fun (i : Nat) => decide (2 + (i : Int) < p)).map fun (i : Nat) => decide (p % (2 + (i : Int)) = 0))).any id = false := by
    rw [List.any_eq_false]
    intro b hb
    obtain ⟨i, hi, rfl⟩ := List.mem_map.mp hb
    obtain ⟨h6, h7⟩ := List.mem_filter.mp hi
    have h6 := List.mem_range.mp h6
    have h7 := of_decide_eq_true h7
    have := h5 (2 + (i : Int)) (by omega) (by omega) h7
    simpa using this
  have c2 := blsOf_map ((((List.range 30).filter fun (i : Nat) => decide (2 + (i : Int) < p)).map fun (i : Nat) => decide (p % (2 + (i : Int)) = 0)))
  rw [List.map_map] at c2
  simp only [f_check_prime, defF]
  simp [f_is_whole, defF, h3, h4, c1]
  rw [show (fun i : Nat => D.bl (decide (p % (2 + (i : Int)) = 0))) = D.bl ∘ fun i : Nat => decide (p % (2 + (i : Int)) = 0) from rfl, c2]
  simp only [e_ofO_some, e_bind_ok, e2]
  simp
theorem is_told_ok {p : Int} (h : Pr p) {t : Tri} (k : Told p t) : f_is_told [.int p, triD t, .int 3] = .ok (.bl true) := by
  obtain ⟨a, b, c⟩ := t
  have h3 := h.1
  rcases k with ⟨e1, e2, e3, e4, e5⟩ | ⟨e1, e2, e3, e4⟩ | ⟨e1, e2, e3⟩ <;> simp only at e1 e2 e3
  · simp only at e4 e5
    subst e1
    by_cases hb : 0 < b <;> by_cases hc : 0 < c <;>
    simp [triD, f_is_told, f_is_whole, defF, xComp, iMode, compR, wipeE, PySem.sizeLine_eq, intsOf, blsOf, e2, e3, e4, e5, show (1 : Int) < p by omega, hb, hc, atI, ixN]
  · simp only at e4
    subst e1 e2
    by_cases hc : 0 < c <;>
    simp [triD, f_is_told, f_is_whole, defF, xComp, iMode, compR, wipeE, PySem.sizeLine_eq, intsOf, blsOf, e3, e4, show (1 : Int) < p by omega, show (0 : Int) < p by omega, hc, atI, ixN]
  · subst e1 e2 e3
    simp [triD, f_is_told, f_is_whole, defF, xComp, iMode, compR, wipeE, PySem.sizeLine_eq, intsOf, blsOf, show (1 : Int) < p by omega, show (0 : Int) < p by omega, atI, ixN]
theorem crossed_ok {p : Int} (h : Pr p) {u v : Tri} (hu : Told p u) (hv : Told p v) (ne : u ≠ v) : f_crossed [.int p, triD u, triD v] = .ok (triD (tol p (crT u v))) := by
  have n := nzs_nz (p := p) (by have := h.1; omega) (cr_nz h hu hv ne)
  obtain ⟨a1, a2, a3⟩ := hu.bits h
  obtain ⟨b1, b2, b3⟩ := hv.bits h
  have m : ∀ {x y : Int}, B x 10 → B y 10 → dMul (.int x) (.int y) = .ok (.int (x * y)) := fun hx hy => e_mul (mulOk_of hx hy (by omega))
  have t := told_of_ok (d := triD (crT u v)) h (v := ls (crT u v)) rfl (by
    intro x hx
    have k : ∀ {a b c d : Int}, B a 10 → B b 10 → B c 10 → B d 10 → B (a * b - c * d) 1000 := fun ha hb hc hd => ((ha.mul hb).sub (hc.mul hd)).mono (by omega)
    simp only [ls, crT, List.mem_cons, List.not_mem_nil, or_false] at hx
    rcases hx with rfl | rfl | rfl <;> exact k ‹_› ‹_› ‹_› ‹_›) (by simp [ls]) n
  rw [tolL_ls n] at t
  simp [triD, f_crossed, defF, m a2 b3, m a3 b2, m a3 b1, m a1 b3, m a1 b2, m a2 b1]
  simp only [triD, crT] at t
  rw [t]
  rfl
theorem l_cross_ok {p : Int} (h : Pr p) {u v : Tri} (hu : Told p u) (hv : Told p v) (ne : u ≠ v) : f_l_cross [.int p, triD u, triD v] = .ok (triD (tol p (crT u v))) := by
  have n := nzs_nz (p := p) (by have := h.1; omega) (cr_nz h hu hv ne)
  obtain ⟨a1, a2, a3⟩ := hu.bits h
  obtain ⟨b1, b2, b3⟩ := hv.bits h
  have m : ∀ {x y : Int}, B x 10 → B y 10 → dMul (.int x) (.int y) = .ok (.int (x * y)) := fun hx hy => e_mul (mulOk_of hx hy (by omega))
  have t := l_told_ok (d := .lst ((ls (crT u v)).map D.int)) h (v := ls (crT u v)) rfl (by
    intro x hx
    have k : ∀ {a b c d : Int}, B a 10 → B b 10 → B c 10 → B d 10 → B (a * b - c * d) 1000 := fun ha hb hc hd => ((ha.mul hb).sub (hc.mul hd)).mono (by omega)
    simp only [ls, crT, List.mem_cons, List.not_mem_nil, or_false] at hx
    rcases hx with rfl | rfl | rfl <;> exact k ‹_› ‹_› ‹_› ‹_›) (by simp [ls]) n
  rw [tolL_ls n] at t
  simp [triD, f_l_cross, defF, dRg1, rgOk, rgD, List.range, List.range.loop, forS, e_mod (show (0 : Int) < 3 by decide), atI, ixN, gApp, PySem.sizeLine_eq, m a2 b3, m a3 b2, m a3 b1, m a1 b3, m a1 b2, m a2 b1]
  simp only [ls, crT, List.map_cons, List.map_nil] at t
  rw [t]
  rfl
theorem is_on_ok {p : Int} (h : Pr p) {u v : Tri} (hu : Told p u) (hv : Told p v) : f_is_on [.int p, triD u, triD v] = .ok (.bl (decide (On p u v))) := by
  have h3 := h.1
  obtain ⟨a1, a2, a3⟩ := hu.bits h
  obtain ⟨b1, b2, b3⟩ := hv.bits h
  have m : ∀ {x y : Int}, B x 10 → B y 10 → dMul (.int x) (.int y) = .ok (.int (x * y)) := fun hx hy => e_mul (mulOk_of hx hy (by omega))
  have e : u.1 * v.1 + (u.2.1 * v.2.1 + u.2.2 * v.2.2) = u.1 * v.1 + u.2.1 * v.2.1 + u.2.2 * v.2.2 := by grind
  simp [triD, f_is_on, defF, xComp, iMode, compR, wipeE, PySem.sizeLine_eq, intsOf, m a1 b1, m a2 b2, m a3 b3, e_mod (show 0 < p by omega), e, On]
  rfl
theorem l_on_ok {p : Int} (h : Pr p) {u v : Tri} (hu : Told p u) (hv : Told p v) : f_l_on [.int p, triD u, triD v] = .ok (.bl (decide (On p u v))) := is_on_ok h hu hv
theorem check_point_ok (z : Adr) {p : Int} (h : Pr p) {t : Tri} (k : Told p t) : f_check_point z [.int p, triD t] = .ok .non := by
  simp [f_check_point, defF, is_told_ok h k]
theorem check_line_ok (z : Adr) {p : Int} (h : Pr p) {t : Tri} (k : Told p t) : f_check_line z [.int p, triD t] = .ok .non := by
  simp [f_check_line, defF, is_told_ok h k]
noncomputable def jn (p : Int) (u v : Tri) : Tri := tol p (crT u v)
theorem jn_told {p : Int} (h : Pr p) {u v : Tri} (hu : Told p u) (hv : Told p v) (ne : u ≠ v) : Told p (jn p u v) := (tol_told h (cr_nz h hu hv ne)).1
theorem jn_l {p : Int} (h : Pr p) (u v : Tri) : On p (jn p u v) u := (cr_on h u v).1
theorem jn_r {p : Int} (h : Pr p) (u v : Tri) : On p (jn p u v) v := (cr_on h u v).2
theorem join_ok (z : Adr) {p : Int} (h : Pr p) {u v : Tri} (hu : Told p u) (hv : Told p v) (ne : u ≠ v) : f_join z [.int p, triD u, triD v] = .ok (triD (jn p u v)) := by
  simp [f_join, defF, check_prime_ok z h, check_point_ok z h hu, check_point_ok z h hv, dEqT, ne, crossed_ok h hu hv ne, jn]
theorem meet_ok (z : Adr) {p : Int} (h : Pr p) {u v : Tri} (hu : Told p u) (hv : Told p v) (ne : u ≠ v) : f_meet z [.int p, triD u, triD v] = .ok (triD (jn p u v)) := by
  simp [f_meet, defF, check_prime_ok z h, check_line_ok z h hu, check_line_ok z h hv, dEqT, ne, crossed_ok h hu hv ne, jn]
theorem on_ok (z : Adr) {p : Int} (h : Pr p) {u v : Tri} (hu : Told p u) (hv : Told p v) : f_on z [.int p, triD u, triD v] = .ok (.bl (decide (On p u v))) := by
  simp [f_on, defF, check_prime_ok z h, check_point_ok z h hu, check_line_ok z h hv, is_on_ok h hu hv]
theorem jn_eq {p : Int} (h : Pr p) {u v w : Tri} (hu : Told p u) (hv : Told p v) (ne : u ≠ v) (hw : Told p w) (h1 : On p w u) (h2 : On p w v) : w = jn p u v :=
  on_uniq h hu hv ne hw (jn_told h hu hv ne) h1 h2 (jn_l h u v) (jn_r h u v)
theorem jn_comm {p : Int} (h : Pr p) {u v : Tri} (hu : Told p u) (hv : Told p v) (ne : u ≠ v) : jn p u v = jn p v u :=
  on_uniq h hu hv ne (jn_told h hu hv ne) (jn_told h hv hu fun e => ne e.symm) (jn_l h u v) (jn_r h u v) (jn_r h v u) (jn_l h v u)
theorem l_is_told_ok {p : Int} (h : Pr p) {t : Tri} (k : Told p t) : f_l_is_told [.int p, triD t, .int 3] = .ok (.bl true) := by
  obtain ⟨a, b, c⟩ := t
  have h3 := h.1
  rcases k with ⟨e1, e2, e3, e4, e5⟩ | ⟨e1, e2, e3, e4⟩ | ⟨e1, e2, e3⟩ <;> simp only at e1 e2 e3
  · simp only at e4 e5
    subst e1
    by_cases hb : 0 < b <;> by_cases hc : 0 < c <;>
    simp [triD, f_l_is_told, defF, xComp, iMode, compR, wipeE, PySem.sizeLine_eq, intsOf, blsOf, e2, e3, e4, e5, show (1 : Int) < p by omega, hb, hc, atI, ixN, ne1, ne2, ne3]
  · simp only at e4
    subst e1 e2
    by_cases hc : 0 < c <;>
    simp [triD, f_l_is_told, defF, xComp, iMode, compR, wipeE, PySem.sizeLine_eq, intsOf, blsOf, e3, e4, show (1 : Int) < p by omega, show (0 : Int) < p by omega, hc, atI, ixN, ne1, ne2, ne3]
  · subst e1 e2 e3
    simp [triD, f_l_is_told, defF, xComp, iMode, compR, wipeE, PySem.sizeLine_eq, intsOf, blsOf, show (1 : Int) < p by omega, show (0 : Int) < p by omega, atI, ixN, ne1, ne2, ne3]
end OM
set_option maxRecDepth 100000
/-! Geo: Pappus and Desargues. -/
namespace OM
open PySem L2 DI Lean.Grind
section
variable {F : Type} [Field F]
def dt (x y : F × F × F) : F := x.1 * y.1 + x.2.1 * y.2.1 + x.2.2 * y.2.2
def cx (x y : F × F × F) : F × F × F := (x.2.1 * y.2.2 - x.2.2 * y.2.1, x.2.2 * y.1 - x.1 * y.2.2, x.1 * y.2.1 - x.2.1 * y.1)
def lc (a : F) (x : F × F × F) (b : F) (y : F × F × F) : F × F × F := (a * x.1 + b * y.1, a * x.2.1 + b * y.2.1, a * x.2.2 + b * y.2.2)
abbrev Zv (x : F × F × F) : Prop := x.1 = 0 ∧ x.2.1 = 0 ∧ x.2.2 = 0
theorem nzv {x : F × F × F} (h : ¬ Zv x) : x.1 ≠ 0 ∨ x.2.1 ≠ 0 ∨ x.2.2 ≠ 0 := by
  by_cases a : x.1 = 0
  · by_cases b : x.2.1 = 0
    · exact .inr (.inr fun c => h ⟨a, b, c⟩)
    · exact .inr (.inl b)
  · exact .inl a
theorem par_of {n n' x y : F × F × F} (h1 : dt n x = 0) (h2 : dt n' x = 0) (h3 : dt n y = 0) (h4 : dt n' y = 0) (h : ¬ Zv (cx n n')) : Zv (cx x y) := by
  have g := nzv h
  unfold dt at *
  unfold Zv cx at *
  simp only at *
  rcases g with q | q | q <;> refine ⟨?_, ?_, ?_⟩ <;> grind
theorem par_dot {n x y : F × F × F} (h : Zv (cx x y)) (hx : ¬ Zv x) (e : dt n x = 0) : dt n y = 0 := by
  have g := nzv hx
  unfold dt at *
  unfold Zv cx at *
  simp only at *
  obtain ⟨a, b, c⟩ := h
  rcases g with q | q | q <;> grind
theorem det0 {l o u a : F × F × F} (hl : ¬ Zv l) (h1 : dt l o = 0) (h2 : dt l u = 0) (h3 : dt l a = 0) : dt (cx o u) a = 0 := by
  have g := nzv hl
  unfold dt at *
  unfold cx at *
  simp only at *
  rcases g with q | q | q <;> grind
theorem span {o u a : F × F × F} (h : ¬ Zv (cx o u)) (h1 : dt (cx o u) a = 0) : ∃ x y : F, a = lc x o y u := by
  have g := nzv h
  obtain ⟨o1, o2, o3⟩ := o
  obtain ⟨u1, u2, u3⟩ := u
  obtain ⟨a1, a2, a3⟩ := a
  unfold dt at *
  unfold Zv cx at *
  simp only at *
  rcases g with q | q | q
  · refine ⟨(a2 * u3 - a3 * u2) * (o2 * u3 - o3 * u2)⁻¹, (o2 * a3 - o3 * a2) * (o2 * u3 - o3 * u2)⁻¹, ?_⟩
    simp only [lc, Prod.mk.injEq]
    refine ⟨?_, ?_, ?_⟩ <;> grind
  · refine ⟨(a3 * u1 - a1 * u3) * (o3 * u1 - o1 * u3)⁻¹, (o3 * a1 - o1 * a3) * (o3 * u1 - o1 * u3)⁻¹, ?_⟩
    simp only [lc, Prod.mk.injEq]
    refine ⟨?_, ?_, ?_⟩ <;> grind
  · refine ⟨(a1 * u2 - a2 * u1) * (o1 * u2 - o2 * u1)⁻¹, (o1 * a2 - o2 * a1) * (o1 * u2 - o2 * u1)⁻¹, ?_⟩
    simp only [lc, Prod.mk.injEq]
    refine ⟨?_, ?_, ?_⟩ <;> grind
theorem dt_lc (n x y : F × F × F) (a b : F) : dt n (lc a x b y) = a * dt n x + b * dt n y := by
  unfold dt lc
  simp only
  grind
theorem dt_comm (x y : F × F × F) : dt x y = dt y x := by
  unfold dt
  grind
theorem three {n p12 p13 p23 x12 x13 x23 : F × F × F} {c1 c2 c3 : F} (h1 : dt n x12 = 0) (h2 : dt n x13 = 0) (z1 : Zv (cx x12 p12)) (z2 : Zv (cx x13 p13)) (z3 : Zv (cx x23 p23))
    (n1 : ¬ Zv x12) (n2 : ¬ Zv x13) (n3 : ¬ Zv p23) (hc : c2 ≠ 0) (e : lc c1 p12 c2 p23 = lc c3 p13 0 p13) : dt n x23 = 0 := by
  have a := par_dot z1 n1 h1
  have b := par_dot z2 n2 h2
  have e2 := congrArg (dt n) e
  rw [dt_lc, dt_lc, a, b] at e2
  have c : dt n p23 = 0 := by grind
  have z4 : Zv (cx p23 x23) := by
    unfold Zv cx at *
    simp only at *
    obtain ⟨a, b, c⟩ := z3
    refine ⟨?_, ?_, ?_⟩ <;> grind
  exact par_dot z4 n3 c
/-- where the lines of Pappus' cross, of coordinates by O, U and V -/
def pp (o u v : F × F × F) (a b a' b' c d c' d' : F) : F × F × F := lc 1 (lc (a * b' * c * d' - a' * b * c' * d) o (b * b' * (c * d' - c' * d)) u) (d * d' * (a * b' - a' * b)) v
theorem pp_on {n n' x o u v A A' C C' : F × F × F} {a b a' b' c d c' d' : F} (hA : A = lc a o b u) (hA' : A' = lc a' o b' u) (hC : C = lc c o d v) (hC' : C' = lc c' o d' v)
    (h1 : dt n A = 0) (h2 : dt n C' = 0) (h3 : dt n' A' = 0) (h4 : dt n' C = 0) (hx : dt n x = 0) (hx' : dt n' x = 0) (hn : ¬ Zv (cx n n')) : Zv (cx x (pp o u v a b a' b' c d c' d')) := by
  refine par_of hx hx' ?_ ?_ hn
  · have e : pp o u v a b a' b' c d c' d' = lc (b' * (c * d' - c' * d)) A (d * (a * b' - a' * b)) C' := by
      subst hA hC'
      unfold pp lc
      simp only [Prod.mk.injEq]
      refine ⟨?_, ?_, ?_⟩ <;> grind
    rw [e, dt_lc, h1, h2]
    grind
  · have e : pp o u v a b a' b' c d c' d' = lc (b * (c * d' - c' * d)) A' (d' * (a * b' - a' * b)) C := by
      subst hA' hC
      unfold pp lc
      simp only [Prod.mk.injEq]
      refine ⟨?_, ?_, ?_⟩ <;> grind
    rw [e, dt_lc, h3, h4]
    grind
theorem pp_sum (o u v : F × F × F) (a1 b1 a2 b2 a3 b3 c1 d1 c2 d2 c3 d3 : F) :
    lc (b3 * d3) (pp o u v a1 b1 a2 b2 c1 d1 c2 d2) (b1 * d1) (pp o u v a2 b2 a3 b3 c2 d2 c3 d3) = lc (b2 * d2) (pp o u v a1 b1 a3 b3 c1 d1 c3 d3) 0 (pp o u v a1 b1 a3 b3 c1 d1 c3 d3) := by
  unfold pp lc
  simp only [Prod.mk.injEq]
  refine ⟨?_, ?_, ?_⟩ <;> grind
theorem pp_nz {o u v : F × F × F} {a b a' b' c d c' d' : F} (h : dt (cx o u) v ≠ 0) (hd : d ≠ 0) (hd' : d' ≠ 0) (hab : a * b' - a' * b ≠ 0) : ¬ Zv (pp o u v a b a' b' c d c' d') := fun z => by
  have e : dt (cx o u) (pp o u v a b a' b' c d c' d') = (d * d' * (a * b' - a' * b)) * dt (cx o u) v := by
    unfold pp
    rw [dt_lc, dt_lc]
    have e1 : dt (cx o u) o = 0 := by unfold dt cx; simp only; grind
    have e2 : dt (cx o u) u = 0 := by unfold dt cx; simp only; grind
    rw [e1, e2]
    grind
  have e0 : dt (cx o u) (pp o u v a b a' b' c d c' d') = 0 := by
    obtain ⟨z1, z2, z3⟩ := z
    unfold dt
    rw [z1, z2, z3]
    grind
  rw [e0] at e
  grind
theorem lc_cx (o u : F × F × F) (a b a' b' : F) : cx (lc a o b u) (lc a' o b' u) = lc (a * b' - a' * b) (cx o u) 0 (cx o u) := by
  unfold cx lc
  simp only [Prod.mk.injEq]
  refine ⟨?_, ?_, ?_⟩ <;> grind
theorem lc_nz {o u : F × F × F} {a b a' b' : F} (h : ¬ Zv (cx (lc a o b u) (lc a' o b' u))) : a * b' - a' * b ≠ 0 := fun q => h (by
  rw [lc_cx, q]
  unfold Zv lc
  simp only
  refine ⟨?_, ?_, ?_⟩ <;> grind)
end
def vec (F : Type) [Field F] (t : Tri) : F × F × F := (io F t.1, io F t.2.1, io F t.2.2)
theorem on_v {p : Int} {F : Type} [Field F] (f : Fld p F) {u v : Tri} : On p u v ↔ dt (vec F u) (vec F v) = 0 := on_dot f
theorem told_v {p : Int} (h : Pr p) {F : Type} [Field F] (f : Fld p F) {u : Tri} (hu : Told p u) : ¬ Zv (vec F u) := fun ⟨a, b, c⟩ => hu.nz h ⟨(f.z _).mp a, (f.z _).mp b, (f.z _).mp c⟩
theorem cr_v {p : Int} (h : Pr p) {F : Type} [Field F] (f : Fld p F) {u v : Tri} (hu : Told p u) (hv : Told p v) (ne : u ≠ v) : ¬ Zv (cx (vec F u) (vec F v)) := fun ⟨a, b, c⟩ => by
  obtain ⟨d, e, g⟩ := cr_io (F := F) u v
  exact cr_nz h hu hv ne ⟨(f.z _).mp (d.trans a), (f.z _).mp (e.trans b), (f.z _).mp (g.trans c)⟩
theorem pappus {p : Int} (h : Pr p) {l m O A1 A2 A3 B1 B2 B3 n12 n21 n13 n31 n23 n32 x12 x13 x23 n : Tri}
    (tl : Told p l) (tm : Told p m) (tO : Told p O) (tA1 : Told p A1) (tA2 : Told p A2) (tA3 : Told p A3) (tB1 : Told p B1) (tB2 : Told p B2) (tB3 : Told p B3)
    (t12 : Told p n12) (t21 : Told p n21) (t13 : Told p n13) (t31 : Told p n31) (t23 : Told p n23) (t32 : Told p n32) (tx12 : Told p x12) (tx13 : Told p x13) (tx23 : Told p x23)
    (hlm : l ≠ m) (oO : On p l O) (oO' : On p m O) (oA1 : On p l A1) (oA2 : On p l A2) (oA3 : On p l A3) (oB1 : On p m B1) (oB2 : On p m B2) (oB3 : On p m B3)
    (A1O : A1 ≠ O) (A2O : A2 ≠ O) (A3O : A3 ≠ O) (B1O : B1 ≠ O) (B2O : B2 ≠ O) (B3O : B3 ≠ O) (A23 : A2 ≠ A3)
    (u12 : n12 ≠ n21) (u13 : n13 ≠ n31) (u23 : n23 ≠ n32)
    (a12 : On p n12 A1) (b12 : On p n12 B2) (a21 : On p n21 A2) (b21 : On p n21 B1) (a13 : On p n13 A1) (b13 : On p n13 B3) (a31 : On p n31 A3) (b31 : On p n31 B1)
    (a23 : On p n23 A2) (b23 : On p n23 B3) (a32 : On p n32 A3) (b32 : On p n32 B2)
    (y12 : On p n12 x12) (y21 : On p n21 x12) (y13 : On p n13 x13) (y31 : On p n31 x13) (y23 : On p n23 x23) (y32 : On p n32 x23)
    (hn1 : On p n x12) (hn2 : On p n x13) : On p n x23 := by
  obtain ⟨F, _, f⟩ := fld_ex h
  have cOA := cr_v h f tO tA1 A1O.symm
  have cOB := cr_v h f tO tB1 B1O.symm
  have zl := told_v h f tl
  have zm := told_v h f tm
  obtain ⟨p1, q1, e1⟩ := span cOA (det0 zl ((on_v f).mp oO) ((on_v f).mp oA1) ((on_v f).mp oA1))
  obtain ⟨p2, q2, e2⟩ := span cOA (det0 zl ((on_v f).mp oO) ((on_v f).mp oA1) ((on_v f).mp oA2))
  obtain ⟨p3, q3, e3⟩ := span cOA (det0 zl ((on_v f).mp oO) ((on_v f).mp oA1) ((on_v f).mp oA3))
  obtain ⟨r1, s1, g1⟩ := span cOB (det0 zm ((on_v f).mp oO') ((on_v f).mp oB1) ((on_v f).mp oB1))
  obtain ⟨r2, s2, g2⟩ := span cOB (det0 zm ((on_v f).mp oO') ((on_v f).mp oB1) ((on_v f).mp oB2))
  obtain ⟨r3, s3, g3⟩ := span cOB (det0 zm ((on_v f).mp oO') ((on_v f).mp oB1) ((on_v f).mp oB3))
  have nO : ∀ {A U : Tri} {a b : F}, Told p A → A ≠ O → vec F A = lc a (vec F O) b (vec F U) → b ≠ 0 := fun {A U a b} tA ne e q => by
    refine cr_v h f tO tA ne.symm ?_
    rw [e, q]
    unfold Zv cx lc
    simp only
    refine ⟨?_, ?_, ?_⟩ <;> grind
  have hq1 := nO tA1 A1O e1
  have hs1 := nO tB1 B1O g1
  have hs2 := nO tB2 B2O g2
  have hs3 := nO tB3 B3O g3
  -- O, A1, B1 span
  have dd : dt (cx (vec F O) (vec F A1)) (vec F B1) ≠ 0 := fun q => by
    have zz : Zv (cx (cx (vec F O) (vec F A1)) (vec F l)) := by
      have k1 := (on_v f).mp oO
      have k2 := (on_v f).mp oA1
      unfold dt at k1 k2
      unfold Zv cx
      simp only
      refine ⟨?_, ?_, ?_⟩ <;> grind
    have k : dt (vec F l) (vec F B1) = 0 := by
      rw [dt_comm]
      rw [dt_comm] at q
      exact par_dot zz cOA q
    have k2 := (on_v f).mpr k
    exact B1O (on_uniq h tl tm hlm tB1 tO k2.comm oB1.comm oO.comm oO'.comm)
  have z12 := pp_on e1 e2 g1 g2 ((on_v f).mp a12) ((on_v f).mp b12) ((on_v f).mp a21) ((on_v f).mp b21) ((on_v f).mp y12) ((on_v f).mp y21) (cr_v h f t12 t21 u12)
  have z13 := pp_on e1 e3 g1 g3 ((on_v f).mp a13) ((on_v f).mp b13) ((on_v f).mp a31) ((on_v f).mp b31) ((on_v f).mp y13) ((on_v f).mp y31) (cr_v h f t13 t31 u13)
  have z23 := pp_on e2 e3 g2 g3 ((on_v f).mp a23) ((on_v f).mp b23) ((on_v f).mp a32) ((on_v f).mp b32) ((on_v f).mp y23) ((on_v f).mp y32) (cr_v h f t23 t32 u23)
  have hab : p2 * q3 - p3 * q2 ≠ 0 := lc_nz (o := vec F O) (u := vec F A1) (by rw [← e2, ← e3]; exact cr_v h f tA2 tA3 A23)
  refine (on_v f).mpr (three ((on_v f).mp hn1) ((on_v f).mp hn2) z12 z13 z23 (told_v h f tx12) (told_v h f tx13) (pp_nz dd hs2 hs3 hab) ?_ (pp_sum _ _ _ p1 q1 p2 q2 p3 q3 r1 s1 r2 s2 r3 s3))
  grind
theorem desargues {p : Int} (h : Pr p) {O A1 A2 A3 C1 C2 C3 n12 n21 n13 n31 n23 n32 x12 x13 x23 n l1 l2 l3 : Tri}
    (tO : Told p O) (tA1 : Told p A1) (tA2 : Told p A2) (tA3 : Told p A3) (tC1 : Told p C1) (tC2 : Told p C2) (tC3 : Told p C3) (tl1 : Told p l1) (tl2 : Told p l2) (tl3 : Told p l3)
    (t12 : Told p n12) (t21 : Told p n21) (t13 : Told p n13) (t31 : Told p n31) (t23 : Told p n23) (t32 : Told p n32) (tx12 : Told p x12) (tx13 : Told p x13) (tx23 : Told p x23)
    (k1 : On p l1 O) (k1' : On p l1 A1) (k1'' : On p l1 C1) (k2 : On p l2 O) (k2' : On p l2 A2) (k2'' : On p l2 C2) (k3 : On p l3 O) (k3' : On p l3 A3) (k3'' : On p l3 C3)
    (A1O : A1 ≠ O) (A2O : A2 ≠ O) (A3O : A3 ≠ O) (CA1 : C1 ≠ A1) (CA3 : C3 ≠ A3) (C23 : C2 ≠ C3)
    (u12 : n12 ≠ n21) (u13 : n13 ≠ n31) (u23 : n23 ≠ n32)
    (a12 : On p n12 A1) (b12 : On p n12 A2) (a21 : On p n21 C1) (b21 : On p n21 C2) (a13 : On p n13 A1) (b13 : On p n13 A3) (a31 : On p n31 C1) (b31 : On p n31 C3)
    (a23 : On p n23 A2) (b23 : On p n23 A3) (a32 : On p n32 C2) (b32 : On p n32 C3)
    (y12 : On p n12 x12) (y21 : On p n21 x12) (y13 : On p n13 x13) (y31 : On p n31 x13) (y23 : On p n23 x23) (y32 : On p n32 x23)
    (hn1 : On p n x12) (hn2 : On p n x13) : On p n x23 := by
  obtain ⟨F, _, f⟩ := fld_ex h
  obtain ⟨p1, q1, e1⟩ := span (cr_v h f tO tA1 A1O.symm) (det0 (told_v h f tl1) ((on_v f).mp k1) ((on_v f).mp k1') ((on_v f).mp k1''))
  obtain ⟨p2, q2, e2⟩ := span (cr_v h f tO tA2 A2O.symm) (det0 (told_v h f tl2) ((on_v f).mp k2) ((on_v f).mp k2') ((on_v f).mp k2''))
  obtain ⟨p3, q3, e3⟩ := span (cr_v h f tO tA3 A3O.symm) (det0 (told_v h f tl3) ((on_v f).mp k3) ((on_v f).mp k3') ((on_v f).mp k3''))
  have nA : ∀ {A U : Tri} {a b : F}, Told p A → Told p U → A ≠ U → vec F A = lc a (vec F O) b (vec F U) → a ≠ 0 := fun {A U a b} tA tU ne e q => by
    refine cr_v h f tA tU ne ?_
    rw [e, q]
    unfold Zv cx lc
    simp only
    refine ⟨?_, ?_, ?_⟩ <;> grind
  have h1 := nA tC1 tA1 CA1 e1
  have h3 := nA tC3 tA3 CA3 e3
  have on_l : ∀ {n n' x A A' C C' : Tri} {a b a' b' : F}, vec F C = lc a (vec F O) b (vec F A) → vec F C' = lc a' (vec F O) b' (vec F A') → On p n A → On p n A' → On p n' C → On p n' C' → On p n x → On p n' x → Told p n → Told p n' → n ≠ n' →
      Zv (cx (vec F x) (lc a' (vec F C) (-a) (vec F C'))) := fun {n n' x A A' C C' a b a' b'} e e' g1 g2 g3 g4 g5 g6 tn tn' ne => by
    refine par_of ((on_v f).mp g5) ((on_v f).mp g6) ?_ ?_ (cr_v h f tn tn' ne)
    · have k1 := (on_v f).mp g1
      have k2 := (on_v f).mp g2
      rw [dt_lc, e, e', dt_lc, dt_lc, k1, k2]
      grind
    · have k3 := (on_v f).mp g3
      have k4 := (on_v f).mp g4
      rw [dt_lc, k3, k4]
      grind
  have z12 := on_l e1 e2 a12 b12 a21 b21 y12 y21 t12 t21 u12
  have z13 := on_l e1 e3 a13 b13 a31 b31 y13 y31 t13 t31 u13
  have z23 := on_l e2 e3 a23 b23 a32 b32 y23 y32 t23 t32 u23
  refine (on_v f).mpr (three (c1 := p3) (c2 := p1) (c3 := p2) ((on_v f).mp hn1) ((on_v f).mp hn2) z12 z13 z23 (told_v h f tx12) (told_v h f tx13) ?_ h1 ?_)
  · intro z
    have g := nzv (cr_v h f tC2 tC3 C23)
    unfold Zv lc at z
    simp only at z
    obtain ⟨z1, z2, z3⟩ := z
    unfold cx at g
    simp only at g
    rcases g with q | q | q <;> grind
  · unfold lc
    simp only [Prod.mk.injEq]
    refine ⟨?_, ?_, ?_⟩ <;> grind
end OM
set_option maxRecDepth 100000
/-! Pts: the points of a line by the law's own way. -/
namespace OM
open PySem L2 DI Lean.Grind
instance decNZ (p : Int) (t : Tri) : Decidable (NZ p t) := inferInstanceAs (Decidable (¬ _))
@[simp] theorem at0 (d : D) (r : List D) : atI (d :: r) 0 = some d := by simp [atI, ixN]
theorem tol_par {p : Int} (h : Pr p) {F : Type} [Field F] (f : Fld p F) {u v : Tri} (hu : NZ p u) (hv : NZ p v) (e : tol p u = tol p v) : Zv (cx (vec F u) (vec F v)) := by
  obtain ⟨a1, a2, a3⟩ := tol_io f u
  obtain ⟨b1, b2, b3⟩ := tol_io f v
  rw [e] at a1 a2 a3
  have s1 : io F (scl p u) ≠ 0 := fun q => (tol_told h hu).2 ((f.z _).mp q)
  have s2 : io F (scl p v) ≠ 0 := fun q => (tol_told h hv).2 ((f.z _).mp q)
  unfold Zv cx vec
  simp only
  refine ⟨?_, ?_, ?_⟩ <;> grind
theorem par_tol {p : Int} (h : Pr p) {F : Type} [Field F] (f : Fld p F) {u v : Tri} (hu : NZ p u) (hv : NZ p v) (e : Zv (cx (vec F u) (vec F v))) : tol p u = tol p v := by
  rcases Classical.em (tol p u = tol p v) with q | q
  · exact q
  · refine absurd ?_ (cr_v h f (tol_told h hu).1 (tol_told h hv).1 q)
    obtain ⟨a1, a2, a3⟩ := tol_io f u
    obtain ⟨b1, b2, b3⟩ := tol_io f v
    obtain ⟨e1, e2, e3⟩ := e
    unfold cx vec at *
    unfold Zv
    simp only at *
    refine ⟨?_, ?_, ?_⟩ <;> grind
theorem tol_on {p : Int} {l u : Tri} (h : On p l u) : On p l (tol p u) := by
  unfold On tol at *
  simp only
  obtain ⟨c, hc⟩ := Int.dvd_of_emod_eq_zero h
  refine Int.emod_eq_zero_of_dvd ⟨c * scl p u - l.1 * (u.1 * scl p u / p) - l.2.1 * (u.2.1 * scl p u / p) - l.2.2 * (u.2.2 * scl p u / p), ?_⟩
  rw [Int.emod_def, Int.emod_def, Int.emod_def]
  grind
theorem l_told_t {p : Int} {t : Tri} (h : Pr p) (b1 : B t.1 1000) (b2 : B t.2.1 1000) (b3 : B t.2.2 1000) (hn : NZ p t) : f_l_told [.int p, triD t] = .ok (triD (tol p t)) := by
  have n := nzs_nz (p := p) (by have := h.1; omega) hn
  have k := l_told_ok (d := triD t) h (v := ls t) rfl (by
    intro x hx
    simp only [ls, List.mem_cons, List.not_mem_nil, or_false] at hx
    rcases hx with rfl | rfl | rfl <;> assumption) (by simp [ls]) n
  rw [tolL_ls n] at k
  exact k
def cands (l : Tri) : List Tri := [(0, l.2.2, -l.2.1), (-l.2.2, 0, l.1), (l.2.1, -l.1, 0)]
theorem cands_b {p : Int} (h : Pr p) {l : Tri} (hl : Told p l) : ∀ t ∈ cands l, B t.1 10 ∧ B t.2.1 10 ∧ B t.2.2 10 := by
  obtain ⟨a, b, c⟩ := hl.bits h
  intro t ht
  simp only [cands, List.mem_cons, List.not_mem_nil, or_false] at ht
  rcases ht with rfl | rfl | rfl <;> simp only
  · exact ⟨.lit, c, b.neg⟩
  · exact ⟨c.neg, .lit, a⟩
  · exact ⟨b, a.neg, .lit⟩
theorem cands_on (p : Int) (l : Tri) : ∀ t ∈ cands l, On p l t := by
  intro t ht
  simp only [cands, List.mem_cons, List.not_mem_nil, or_false] at ht
  unfold On
  rcases ht with rfl | rfl | rfl <;> simp only
  · rw [show l.1 * 0 + l.2.1 * l.2.2 + l.2.2 * -l.2.1 = 0 by grind, Int.zero_emod]
  · rw [show l.1 * -l.2.2 + l.2.1 * 0 + l.2.2 * l.1 = 0 by grind, Int.zero_emod]
  · rw [show l.1 * l.2.1 + l.2.1 * -l.1 + l.2.2 * 0 = 0 by grind, Int.zero_emod]
theorem cands_two {p : Int} (h : Pr p) {l : Tri} (hl : Told p l) : ∃ x ∈ cands l, ∃ y ∈ cands l, NZ p x ∧ NZ p y ∧ NZ p (crT x y) := by
  obtain ⟨a, b, c⟩ := l
  have h3 := h.1
  have one : (1 : Int) % p = 1 := Int.emod_eq_of_lt (by decide) (by omega)
  have mone : (-1 : Int) % p ≠ 0 := fun q => by
    have := small_z q (by omega) (by omega)
    omega
  rcases hl with ⟨e1, _⟩ | ⟨e1, e2, _⟩ | ⟨e1, e2, e3⟩
  · simp only at e1
    subst e1
    exact ⟨(-c, 0, 1), by simp [cands], (b, -1, 0), by simp [cands], by simp [NZ, one], by simp [NZ, mone], by simp [NZ, crT, one]⟩
  · simp only at e1 e2
    subst e1 e2
    exact ⟨(0, c, -1), by simp [cands], (1, 0, 0), by simp [cands], by simp [NZ, mone], by simp [NZ, one], by simp [NZ, crT, mone]⟩
  · simp only at e1 e2 e3
    subst e1 e2 e3
    exact ⟨(0, 1, 0), by simp [cands], (-1, 0, 0), by simp [cands], by simp [NZ, one], by simp [NZ, mone], by simp [NZ, crT, one]⟩
noncomputable def gs (p : Int) (l : Tri) : List Tri := (cands l).filter fun t => decide (NZ p t)
noncomputable def g0 (p : Int) (l : Tri) : Tri := tol p ((gs p l).headD (0, 0, 0))
noncomputable def hs (p : Int) (l : Tri) : List Tri := (gs p l).filter fun t => !decide (tol p t = g0 p l)
def addT (s : Tri) (k : Int) (q : Tri) : Tri := (s.1 + k * q.1, s.2.1 + k * q.2.1, s.2.2 + k * q.2.2)
theorem gs_ne {p : Int} (h : Pr p) {l : Tri} (hl : Told p l) : gs p l ≠ [] := by
  obtain ⟨x, hx, _, _, h1, _⟩ := cands_two h hl
  exact List.ne_nil_of_mem (List.mem_filter.mpr ⟨hx, decide_eq_true h1⟩)
theorem hs_ne {p : Int} (h : Pr p) {l : Tri} (hl : Told p l) : hs p l ≠ [] := by
  obtain ⟨x, hx, y, hy, h1, h2, h3⟩ := cands_two h hl
  by_cases q : tol p x = g0 p l
  · by_cases r : tol p y = g0 p l
    · obtain ⟨F, _, f⟩ := fld_ex h
      obtain ⟨d, e, g⟩ := cr_io (F := F) x y
      obtain ⟨a, b, c⟩ := tol_par h f h1 h2 (q.trans r.symm)
      exact absurd ⟨(f.z _).mp (d.trans a), (f.z _).mp (e.trans b), (f.z _).mp (g.trans c)⟩ h3
    · exact List.ne_nil_of_mem (List.mem_filter.mpr ⟨List.mem_filter.mpr ⟨hy, decide_eq_true h2⟩, by rw [decide_eq_false r]; rfl⟩)
  · exact List.ne_nil_of_mem (List.mem_filter.mpr ⟨List.mem_filter.mpr ⟨hx, decide_eq_true h1⟩, by rw [decide_eq_false q]; rfl⟩)
/-- the law's points, as it spans them -/
noncomputable def spn (p : Int) (l : Tri) : List Tri := g0 p l :: (List.range p.toNat).map fun (k : Nat) => addT ((hs p l).headD (0, 0, 0)) (k : Int) (g0 p l)
theorem any_nz {p : Int} (hp : 0 < p) (t : Tri) : (decide (0 < t.1 % p) || (decide (0 < t.2.1 % p) || decide (0 < t.2.2 % p))) = decide (NZ p t) := by
  have a := Int.emod_nonneg t.1 (show p ≠ 0 by omega)
  have b := Int.emod_nonneg t.2.1 (show p ≠ 0 by omega)
  have c := Int.emod_nonneg t.2.2 (show p ≠ 0 by omega)
  by_cases h : NZ p t
  · rw [decide_eq_true h]
    unfold NZ at h
    simp only [Bool.or_eq_true, decide_eq_true_eq]
    omega
  · rw [decide_eq_false h]
    have h : t.1 % p = 0 ∧ t.2.1 % p = 0 ∧ t.2.2 % p = 0 := Classical.not_not.mp h
    obtain ⟨h1, h2, h3⟩ := h
    rw [h1, h2, h3]
    rfl
abbrev spB : Ev → S := sApp 5 (xAll dTuple (xCons (xLst (xComp false [12, 13] (xAll dZip (xCons (xVar 4) (xCons (xVar 3) xNil))) (tgT 2 (tgCons (tgN 12) (tgCons (tgN 13) tgNil))) bYes (x2 dAdd (xVar 12) (x2 dMul (xVar 6) (xVar 13))))) xNil))
theorem sp_loop {s q : Tri} (bq : B q.1 10 ∧ B q.2.1 10 ∧ B q.2.2 10) (x0 x1 x2 x7 x8 x9 x10 x11 x12 x13 : Option Sl) : ∀ (ks : List Nat) (acc : List D) (w : Option Sl), (∀ k ∈ ks, k < 1024) → acc.length + ks.length < 16777216 →
    ∃ w', forS (tgN 6) spB (ks.map fun (k : Nat) => D.int (k : Int)) [x0, x1, x2, some (.v (triD q)), some (.v (triD s)), some (.o acc), w, x7, x8, x9, x10, x11, x12, x13] =
      .nx [x0, x1, x2, some (.v (triD q)), some (.v (triD s)), some (.o (acc ++ ks.map fun (k : Nat) => triD (addT s k q))), w', x7, x8, x9, x10, x11, x12, x13]
  | [], acc, w, _, _ => ⟨w, by simp [forS]⟩
  | k :: r, acc, w, hk, hl => by
    rw [List.length_cons] at hl
    obtain ⟨w', e⟩ := sp_loop bq x0 x1 x2 x7 x8 x9 x10 x11 x12 x13 r (acc ++ [triD (addT s k q)]) (iv k) (fun j hj => hk j (List.mem_cons_of_mem _ hj)) (by rw [List.length_append, List.length_singleton]; omega)
    refine ⟨w', ?_⟩
    have kb : B (k : Int) 10 := by
      have := hk k List.mem_cons_self
      exact B.of (by omega) (by omega)
    have m : ∀ {y : Int}, B y 10 → dMul (.int (k : Int)) (.int y) = .ok (.int ((k : Int) * y)) := fun hy => e_mul (mulOk_of kb hy (by omega))
    have el : acc.length < sizeLine := by rw [sizeLine_eq]; omega
    rw [List.append_assoc, List.singleton_append] at e
    rw [List.map_cons, List.map_cons, ← e]
    rw [forS]
    simp [triD, xComp, iMode, compR, wipeE, PySem.sizeLine_eq, m bq.1, m bq.2.1, m bq.2.2, gApp, addT, show acc.length < 16777216 by omega]
theorem spn_ok {p : Int} (h : Pr p) {l : Tri} (hl : Told p l) : f_l_spanned [.int p, triD l] = .ok (.lst ((spn p l).map triD)) := by
  have h3 := h.1
  have h4 := h.2.1
  have hp : 0 < p := by omega
  have cb := cands_b h hl
  have gb : ∀ t ∈ gs p l, (B t.1 10 ∧ B t.2.1 10 ∧ B t.2.2 10) ∧ NZ p t := fun t ht => ⟨cb t (List.mem_filter.mp ht).1, of_decide_eq_true (List.mem_filter.mp ht).2⟩
  have lt : ∀ t ∈ gs p l, f_l_told [.int p, triD t] = .ok (triD (tol p t)) := fun t ht => l_told_t h ((gb t ht).1.1.mono (by omega)) ((gb t ht).1.2.1.mono (by omega)) ((gb t ht).1.2.2.mono (by omega)) (gb t ht).2
  have c1 : ∀ (fi : Ev → M (List D)) (ρ : Ev), ρ = [iv p, some (.v (triD l)), none, none, none, none, none, iv l.1, iv l.2.1, iv l.2.2, none, none, none, none] → fi ρ = .ok ((cands l).map triD) →
      xComp false [3] fi (tgN 3) (xTru (xAll dAny (xCons (xLst (xComp false [11] (xItems (xVar 3)) (tgN 11) bYes (x2 dGt (x2 dMod (xVar 11) (xVar 0)) (xC (.int 0))))) xNil))) (xVar 3) ρ = .ok ((gs p l).map triD) := fun fi ρ e he => by
    subst e
    rw [e_comp (items := (cands l).map triD) he (by intro q; cases q) (by rw [List.length_map]; exact sz16 (by simp [cands])),
      e_compR triD (fun t => [iv p, some (.v (triD l)), none, some (.v (triD t)), none, none, none, iv l.1, iv l.2.1, iv l.2.2, none, none, none, none]) (fun t => decide (NZ p t)) triD (cands l) (fun x _ => by simp [wipeE]) (fun x _ => by
        rw [← any_nz hp]
        simp [triD, xComp, iMode, compR, wipeE, PySem.sizeLine_eq, e_mod hp, blsOf]) (fun x _ _ => by simp)]
    rfl
  have i1 : ∀ ρ : Ev, ρ = [iv p, some (.v (triD l)), none, none, none, none, none, iv l.1, iv l.2.1, iv l.2.2, none, none, none, none] → xItems (xAll lTup (xCons (xAll lTup (xCons (xC (.int 0)) (xCons (xVar 9) (xCons (x1 dNeg (xVar 8)) xNil)))) (xCons (xAll lTup (xCons (x1 dNeg (xVar 9)) (xCons (xC (.int 0)) (xCons (xVar 7) xNil)))) (xCons (xAll lTup (xCons (xVar 8) (xCons (x1 dNeg (xVar 7)) (xCons (xC (.int 0)) xNil)))) xNil)))) ρ = .ok ((cands l).map triD) := fun ρ e => by
    subst e
    simp [cands, triD]
  cases eg : gs p l with
  | nil => exact absurd eg (gs_ne h hl)
  | cons g gr =>
    have e0 : g0 p l = tol p g := by unfold g0; rw [eg]; rfl
    have lg := lt g (by rw [eg]; exact List.mem_cons_self)
    have c2 : xComp false [10] (xItems (xVar 2)) (tgN 10) (bBl (x2 dNe (xAll (callF 2 f_l_told) (xCons (xVar 0) (xCons (xVar 10) xNil))) (xVar 3))) (xVar 10) [iv p, some (.v (triD l)), some (.v (.lst ((gs p l).map triD))), some (.v (triD (g0 p l))), none, none, none, iv l.1, iv l.2.1, iv l.2.2, none, none, none, none] = .ok ((hs p l).map triD) := by
      rw [e_comp (items := (gs p l).map triD) (by simp) (by intro q; cases q) (by
          have := List.length_filter_le (fun t => decide (NZ p t)) (cands l)
          rw [List.length_map]
          refine sz16 ?_
          have e : (cands l).length = 3 := rfl
          unfold gs
          omega),
        e_compR triD (fun t => [iv p, some (.v (triD l)), some (.v (.lst ((gs p l).map triD))), some (.v (triD (g0 p l))), none, none, none, iv l.1, iv l.2.1, iv l.2.2, some (.v (triD t)), none, none, none]) (fun t => !decide (tol p t = g0 p l)) triD (gs p l) (fun x _ => by simp [wipeE]) (fun x hx => by
          simp [lt x hx, dNeT]) (fun x _ _ => by simp)]
      rfl
    cases eh : hs p l with
    | nil => exact absurd eh (hs_ne h hl)
    | cons s sr =>
      have bg0 : B (g0 p l).1 10 ∧ B (g0 p l).2.1 10 ∧ B (g0 p l).2.2 10 := by
        rw [e0]
        exact (tol_told h (gb g (by rw [eg]; exact List.mem_cons_self)).2).1.bits h
      obtain ⟨w, hw⟩ := sp_loop (s := s) (q := g0 p l) bg0 (iv p) (some (.v (triD l))) (some (.v (.lst ((gs p l).map triD)))) (iv l.1) (iv l.2.1) (iv l.2.2) none none none none (List.range p.toNat) [triD (g0 p l)] none (fun k hk => by
        have := List.mem_range.mp hk
        omega) (by rw [List.length_range, List.length_singleton]; omega)
      have er : dRg1 [.int p] = .ok ((List.range p.toNat).map fun (k : Nat) => D.int (k : Int)) := by
        have ro : rgOk p = true := by unfold rgOk; rw [decide_eq_true_eq]; omega
        simp only [dRg1]
        rw [if_pos ro, rgD_map]
        congr 2
        funext i
        congr 1
        omega
      have e2 : spn p l = g0 p l :: (List.range p.toNat).map fun (k : Nat) => addT s (k : Int) (g0 p l) := by unfold spn; rw [eh]; rfl
      rw [e2, List.map_cons, List.map_map]
      have a1 : atI ((gs p l).map triD) 0 = some (triD g) := by rw [eg]; exact at0 _ _
      have a2 : atI ((hs p l).map triD) 0 = some (triD s) := by rw [eh]; exact at0 _ _
      have t3 : tgT 3 (tgCons (tgN 7) (tgCons (tgN 8) (tgCons (tgN 9) tgNil))) (triD l) [iv p, some (.v (triD l)), none, none, none, none, none, none, none, none, none, none, none, none] = .ok [iv p, some (.v (triD l)), none, none, none, none, none, iv l.1, iv l.2.1, iv l.2.2, none, none, none, none] := by
        simp [triD]
      simp only [f_l_spanned, defF, List.length_cons, List.length_nil, List.map_cons, List.map_nil, List.replicate, Nat.reduceAdd, Nat.reduceSub, if_true, List.cons_append, List.nil_append]
      simp [t3, e_sAsg, c1 _ _ rfl (i1 _ rfl), a1, lg, ← e0, c2, a2, er]
      rw [hw]
      simp
end OM
set_option maxRecDepth 100000
namespace OM
open PySem L2 DI Lean.Grind
theorem par_told {p : Int} (h : Pr p) {F : Type} [Field F] (f : Fld p F) {u q : Tri} (hu : NZ p u) (hq : Told p q) : tol p u = q ↔ Zv (cx (vec F u) (vec F q)) := by
  obtain ⟨a1, a2, a3⟩ := tol_io f u
  constructor
  · intro e
    rw [e] at a1 a2 a3
    unfold Zv cx vec
    simp only
    refine ⟨?_, ?_, ?_⟩ <;> grind
  · intro e
    rcases Classical.em (tol p u = q) with z | z
    · exact z
    · refine absurd ?_ (cr_v h f (tol_told h hu).1 hq z)
      obtain ⟨e1, e2, e3⟩ := e
      unfold cx vec at *
      unfold Zv
      simp only at *
      refine ⟨?_, ?_, ?_⟩ <;> grind
theorem vec_add {F : Type} [Field F] (s : Tri) (k : Int) (q : Tri) : vec F (addT s k q) = lc 1 (vec F s) (io F k) (vec F q) := by
  unfold vec addT lc
  simp only [io_add, io_mul, Prod.mk.injEq]
  refine ⟨?_, ?_, ?_⟩ <;> grind
theorem headD_mem {α : Type} {l : List α} {d : α} (h : l ≠ []) : l.headD d ∈ l := by
  cases l with
  | nil => exact absurd rfl h
  | cons x r => exact List.mem_cons_self
/-- the first point and the other one -/
theorem base_ok {p : Int} (h : Pr p) {l : Tri} (hl : Told p l) : (Told p (g0 p l) ∧ On p l (g0 p l)) ∧ ∃ s, s = (hs p l).headD (0, 0, 0) ∧ NZ p s ∧ On p l s ∧ (B s.1 10 ∧ B s.2.1 10 ∧ B s.2.2 10) ∧ tol p s ≠ g0 p l := by
  have m1 := headD_mem (d := ((0, 0, 0) : Tri)) (gs_ne h hl)
  have m2 := headD_mem (d := ((0, 0, 0) : Tri)) (hs_ne h hl)
  obtain ⟨a, b⟩ := List.mem_filter.mp m1
  obtain ⟨c, d⟩ := List.mem_filter.mp m2
  obtain ⟨e, g⟩ := List.mem_filter.mp c
  refine ⟨⟨(tol_told h (of_decide_eq_true b)).1, tol_on (cands_on p l _ a)⟩, _, rfl, of_decide_eq_true g, cands_on p l _ e, cands_b h hl _ e, fun q => ?_⟩
  rw [decide_eq_true q] at d
  cases d
theorem addT_ok {p : Int} (h : Pr p) {F : Type} [Field F] (f : Fld p F) {l s q : Tri} (hs : NZ p s) (os : On p l s) (hq : Told p q) (oq : On p l q) (ne : tol p s ≠ q) (k : Int) : NZ p (addT s k q) ∧ On p l (addT s k q) ∧ tol p (addT s k q) ≠ q := by
  have c := fun z => ne ((par_told h f hs hq).mpr z)
  have cc := nzv c
  have v := vec_add (F := F) s k q
  have n : NZ p (addT s k q) := fun ⟨a1, a2, a3⟩ => by
    have b1 := (f.z _).mpr a1
    have b2 := (f.z _).mpr a2
    have b3 := (f.z _).mpr a3
    unfold vec lc at v
    simp only [Prod.mk.injEq] at v
    obtain ⟨v1, v2, v3⟩ := v
    unfold cx vec at cc
    simp only at cc
    rcases cc with z | z | z <;> grind
  refine ⟨n, ?_, fun e => ?_⟩
  · rw [on_v f, v, dt_lc, (on_v f).mp os, (on_v f).mp oq]
    grind
  · have z := (par_told h f n hq).mp e
    rw [v] at z
    unfold Zv cx lc at z
    simp only at z
    unfold cx at cc
    simp only at cc
    obtain ⟨z1, z2, z3⟩ := z
    rcases cc with w | w | w <;> grind
theorem addT_inj {p : Int} (h : Pr p) {F : Type} [Field F] (f : Fld p F) {l s q : Tri} (hs : NZ p s) (os : On p l s) (hq : Told p q) (oq : On p l q) (ne : tol p s ≠ q) (k j : Int) (e : tol p (addT s k q) = tol p (addT s j q)) : (k - j) % p = 0 := by
  have c := fun z => ne ((par_told h f hs hq).mpr z)
  have cc := nzv c
  have z := tol_par h f (addT_ok h f hs os hq oq ne k).1 (addT_ok h f hs os hq oq ne j).1 e
  rw [vec_add, vec_add] at z
  rw [← f.z, io_sub]
  unfold Zv cx lc at z
  simp only at z
  unfold cx at cc
  simp only at cc
  obtain ⟨z1, z2, z3⟩ := z
  rcases cc with w | w | w <;> grind
noncomputable def pts (p : Int) (l : Tri) : List Tri := sortT ((spn p l).map (tol p))
theorem tol_id {p : Int} (h : Pr p) {q : Tri} (hq : Told p q) : tol p q = q := by
  obtain ⟨F, _, f⟩ := fld_ex h
  refine (par_told h f (hq.nz h) hq).mpr ?_
  unfold Zv cx
  simp only
  refine ⟨?_, ?_, ?_⟩ <;> grind
theorem spn_mem {p : Int} (h : Pr p) {l : Tri} (hl : Told p l) : ∀ t ∈ spn p l, NZ p t ∧ On p l t ∧ B t.1 1000 ∧ B t.2.1 1000 ∧ B t.2.2 1000 := by
  obtain ⟨F, _, f⟩ := fld_ex h
  obtain ⟨⟨t1, t2⟩, s, es, s1, s2, s3, s4⟩ := base_ok h hl
  have bg := t1.bits h
  intro t ht
  unfold spn at ht
  rw [← es] at ht
  rcases List.mem_cons.mp ht with rfl | ht
  · exact ⟨t1.nz h, t2, bg.1.mono (by omega), bg.2.1.mono (by omega), bg.2.2.mono (by omega)⟩
  · obtain ⟨k, hk, rfl⟩ := List.mem_map.mp ht
    have hk := List.mem_range.mp hk
    have := h.2.1
    obtain ⟨a, b, _⟩ := addT_ok h f s1 s2 t1 t2 s4 (k : Int)
    have bk : B (k : Int) 10 := B.of (by omega) (by omega)
    have m : ∀ {x y : Int}, B x 10 → B y 10 → B (x + (k : Int) * y) 1000 := fun hx hy => ((hx.mono (m := 20) (by omega)).add (bk.mul hy)).mono (by omega)
    exact ⟨a, b, m s3.1 bg.1, m s3.2.1 bg.2.1, m s3.2.2 bg.2.2⟩
theorem spn_nodup {p : Int} (h : Pr p) {l : Tri} (hl : Told p l) : ((spn p l).map (tol p)).Nodup := by
  obtain ⟨F, _, f⟩ := fld_ex h
  obtain ⟨⟨t1, t2⟩, s, es, s1, s2, s3, s4⟩ := base_ok h hl
  unfold spn
  rw [← es, List.map_cons, List.map_map, List.nodup_cons]
  constructor
  · intro q
    obtain ⟨k, hk, e⟩ := List.mem_map.mp q
    rw [tol_id h t1] at e
    exact (addT_ok h f s1 s2 t1 t2 s4 (k : Int)).2.2 e
  · refine nodup_map List.nodup_range fun x hx y hy e => ?_
    have hx := List.mem_range.mp hx
    have hy := List.mem_range.mp hy
    have := small_z (addT_inj h f s1 s2 t1 t2 s4 _ _ e) (by omega) (by omega)
    omega
theorem pts_nodup {p : Int} (h : Pr p) {l : Tri} (hl : Told p l) : (pts p l).Nodup := (sortT_perm _).symm.nodup (spn_nodup h hl)
theorem pts_len {p : Int} (h : Pr p) (l : Tri) : (pts p l).length = p.toNat + 1 := by
  unfold pts
  rw [(sortT_perm _).length_eq, List.length_map]
  unfold spn
  rw [List.length_cons, List.length_map, List.length_range]
theorem pts_mem {p : Int} (h : Pr p) {l : Tri} (hl : Told p l) : ∀ t ∈ pts p l, Told p t ∧ On p l t := by
  intro t ht
  obtain ⟨u, hu, rfl⟩ := List.mem_map.mp ((sortT_perm _).mem_iff.mp ht)
  obtain ⟨a, b, _⟩ := spn_mem h hl u hu
  exact ⟨(tol_told h a).1, tol_on b⟩
theorem points_ok {p : Int} (h : Pr p) {l : Tri} (hl : Told p l) : f_l_points [.int p, triD l] = .ok (.lst ((pts p l).map triD)) := by
  have h4 := h.2.1
  have c1 : xComp false [2] (xItems (xAll (callF 2 f_l_spanned) (xCons (xVar 0) (xCons (xVar 1) xNil)))) (tgN 2) bYes (xAll (callF 2 f_l_told) (xCons (xVar 0) (xCons (xVar 2) xNil))) [iv p, some (.v (triD l)), none] = .ok (((spn p l).map (tol p)).map triD) := by
    rw [e_comp (items := (spn p l).map triD) (by simp [spn_ok h hl]) (by intro q; cases q) (by
        rw [List.length_map]
        refine sz16 ?_
        unfold spn
        rw [List.length_cons, List.length_map, List.length_range]
        omega),
      e_compY triD (fun t => [iv p, some (.v (triD l)), some (.v (triD t))]) (fun t => triD (tol p t)) (spn p l) (fun x _ => by simp [wipeE]) (fun x hx => by
        obtain ⟨a, b, c, d, e⟩ := spn_mem h hl x hx
        simp [l_told_t h c d e a]), List.map_map]
    rfl
  simp [f_l_points, defF, c1, dSortT, trisOf_tri, -List.map_map]
  rfl
end OM
set_option maxRecDepth 100000
/-! Draw: what the law draws from the script. -/
namespace OM
open PySem L2 DI
theorem B_bits {a : Int} {n : Nat} (h : Builtin.Int.intBits a ≤ n) : B a n := by
  unfold Builtin.Int.intBits at h
  unfold B
  split at h
  · rename_i q
    have : a = 0 := by simpa using q
    subst this
    exact Nat.pow_pos (by decide)
  · exact Nat.lt_of_lt_of_le Nat.lt_log2_self (Nat.pow_le_pow_right (by decide) h)
theorem B.add' {a b : Int} {n m : Nat} (h : B a n) (k : B b m) : B (a + b) (n + m + 1) := (h.mono (by omega)).add (k.mono (by omega))
theorem B.div {a b : Int} {n : Nat} (h : B a n) (hb : 0 < b) : B (a / b) (n + 1) := by
  unfold B at *
  have e : ((2 ^ n : Nat) : Int) = 2 ^ n := by simp
  have h1 : a / b ≤ (2 ^ n : Nat) := by
    refine Int.ediv_le_of_le_mul hb ?_
    have : (1 : Int) ≤ b := by omega
    have := Int.mul_le_mul_of_nonneg_left this (show (0 : Int) ≤ ((2 ^ n : Nat) : Int) by omega)
    omega
  have h2 : -((2 ^ n : Nat) : Int) ≤ a / b := by
    refine (Int.le_ediv_iff_mul_le hb).mpr ?_
    have : (1 : Int) ≤ b := by omega
    have := Int.mul_le_mul_of_nonneg_left this (show (0 : Int) ≤ ((2 ^ n : Nat) : Int) by omega)
    rw [Int.neg_mul]
    omega
  rw [Nat.pow_succ]
  have : 0 < 2 ^ n := Nat.pow_pos (by decide)
  omega
def cell (ns : List Int) (i : Int) : Int := ns.getD i.toNat 0
theorem atN {ds : List D} {i : Nat} {d : D} (h : ds[i]? = some d) : atI ds (i : Int) = some d := by
  have hl : i < ds.length := (List.getElem?_eq_some_iff.mp h).1
  have h2 := (List.getElem?_eq_some_iff.mp h).2
  simp [atI, ixN, hl, h2]
theorem cell_ok (ns : List Int) {i : Int} (h : 0 ≤ i) : f_l_cell_at [.lst (ns.map .int), .int i] = .ok (.int (cell ns i)) := by
  obtain ⟨j, rfl⟩ : ∃ j : Nat, i = j := ⟨i.toNat, by omega⟩
  by_cases q : j < ns.length
  · have e : atI (ns.map D.int) (j : Int) = some (.int (cell ns j)) := atN (by simp [cell, q])
    simp [f_l_cell_at, defF, q, e]
  · simp [f_l_cell_at, defF, q, cell, List.getElem?_eq_none (show ns.length ≤ j by omega)]
def Q16 : List Int := [1000003, 1000033, 1000037, 1000039, 1000081, 1000099, 1000117, 1000121, 1000133, 1000151, 1000159, 1000171, 1000183, 1000187, 1000193, 1000199]
def prm (b : Int) : Int := Q16.getD (b % 16).toNat 0
theorem q16_b : ∀ q ∈ Q16, 0 < q ∧ q < 1048576 := by decide
theorem prm_mem (b : Int) : prm b ∈ Q16 ∧ Q16[(b % 16).toNat]? = some (prm b) := by
  have h1 := Int.emod_nonneg b (show (16 : Int) ≠ 0 by decide)
  have h2 := Int.emod_lt_of_pos b (show (0 : Int) < 16 by decide)
  have hl : (b % 16).toNat < Q16.length := by
    have : Q16.length = 16 := rfl
    omega
  have e : Q16[(b % 16).toNat]? = some (prm b) := by
    unfold prm
    rw [List.getD_eq_getElem?_getD, List.getElem?_eq_getElem hl]
    rfl
  exact ⟨List.mem_of_getElem? e, e⟩
def drawV (a b m : Int) : Int := (a * 48271 + b * 69621) % prm b % m
theorem draw_ok {a b m : Int} (ha : B a 10000000) (hb : B b 1000) (hm : 0 < m) : f_l_draw [.int a, .int b, .int m] = .ok (.int (drawV a b m)) := by
  have m1 : dMul (.int a) (.int 48271) = .ok (.int (a * 48271)) := e_mul (mulOk_of ha (B.lit (n := 20)) (by omega))
  have m2 : dMul (.int b) (.int 69621) = .ok (.int (b * 69621)) := e_mul (mulOk_of hb (B.lit (n := 20)) (by omega))
  have h1 := Int.emod_nonneg b (show (16 : Int) ≠ 0 by decide)
  obtain ⟨p1, p2⟩ := prm_mem b
  have i1 : atI (Q16.map D.int) (b % 16) = some (.int (prm b)) := by
    rw [show b % 16 = ((b % 16).toNat : Int) by omega]
    exact atN (by rw [List.getElem?_map, p2]; rfl)
  simp only [Q16, List.map_cons, List.map_nil] at i1
  have hq := (q16_b _ p1).1
  have l16 : ∀ ds : List D, ds.length = 16 → lTup ds = .ok (.tup ds) := fun ds h => by
    simp only [lTup]
    rw [if_pos (sz16 (by omega))]
  simp [f_l_draw, defF, m1, m2, l16, e_mod (show (0 : Int) < 16 by decide), i1, e_mod hq, e_mod hm, drawV]
theorem drawV_b (a b : Int) {m : Int} (hm : 0 < m) : 0 ≤ drawV a b m ∧ drawV a b m < m := ⟨Int.emod_nonneg _ (by omega), Int.emod_lt_of_pos _ hm⟩
def sevens : List Int := [1, 7, 49, 343]
def sev (s : Int) : Int := sevens.getD (s % 4).toNat 1
def valV (v s : Int) : Int := if 1000000000000000000 ≤ v then (v - 1000000000000000000) / sev s else drawV ((v + 977 * s) * (v + 31 * s + 5)) (s % 9 + 1) 999983
theorem pow18 : dPow (.int 10) (.int 18) = .ok (.int 1000000000000000000) := by rfl
theorem sev_b (s : Int) : 0 < sev s ∧ sev s < 1000 := by
  unfold sev
  have h1 := Int.emod_nonneg s (show (4 : Int) ≠ 0 by decide)
  have h2 := Int.emod_lt_of_pos s (show (0 : Int) < 4 by decide)
  have : s % 4 = 0 ∨ s % 4 = 1 ∨ s % 4 = 2 ∨ s % 4 = 3 := by omega
  rcases this with e | e | e | e <;> rw [e] <;> decide
theorem value_ok {v s : Int} (hv : B v 1048576) (hs : B s 1000) : f_l_value [.int v, .int s] = .ok (.int (valV v s)) := by
  have h1 := Int.emod_nonneg s (show (4 : Int) ≠ 0 by decide)
  have h2 := Int.emod_lt_of_pos s (show (0 : Int) < 4 by decide)
  have h3 := Int.emod_nonneg s (show (9 : Int) ≠ 0 by decide)
  have h4 := Int.emod_lt_of_pos s (show (0 : Int) < 9 by decide)
  obtain ⟨s1, s2⟩ := sev_b s
  by_cases q : (1000000000000000000 : Int) ≤ v
  · have i1 : atI [D.int 1, D.int 7, D.int 49, D.int 343] (s % 4) = some (.int (sev s)) := by
      unfold sev
      have : s % 4 = 0 ∨ s % 4 = 1 ∨ s % 4 = 2 ∨ s % 4 = 3 := by omega
      rcases this with e | e | e | e <;> rw [e] <;> rfl
    simp [f_l_value, defF, pow18, q, e_mod (show (0 : Int) < 4 by decide), i1, e_fdiv s1 (by omega), valV]
  · have b1 : B (v + 977 * s) 1050000 := (hv.add' ((B.lit (n := 20)).mul hs)).mono (by omega)
    have b2 : B (v + 31 * s + 5) 1060000 := ((hv.add' ((B.lit (n := 20)).mul hs)).add' (B.lit (n := 3))).mono (by omega)
    have m1 : dMul (.int 977) (.int s) = .ok (.int (977 * s)) := e_mul (mulOk_of (B.lit (n := 20)) hs (by omega))
    have m2 : dMul (.int 31) (.int s) = .ok (.int (31 * s)) := e_mul (mulOk_of (B.lit (n := 20)) hs (by omega))
    have m3 := e_mul (mulOk_of b1 b2 (by omega))
    have d := draw_ok (a := (v + 977 * s) * (v + 31 * s + 5)) (b := s % 9 + 1) (m := 999983) ((b1.mul b2).mono (by omega)) ((B.of (n := 20) (by omega) (by omega)).mono (by omega)) (by decide)
    simp [f_l_value, defF, pow18, q, e_mod (show (0 : Int) < 9 by decide), m1, m2, m3, d, valV]
theorem valV_b {v s : Int} (hv : B v 1048576) : B (valV v s) 1048700 := by
  unfold valV
  split
  · exact (((hv.add' (B.lit (a := -1000000000000000000) (n := 60))).div (sev_b s).1)).mono (by omega)
  · obtain ⟨a, b⟩ := drawV_b ((v + 977 * s) * (v + 31 * s + 5)) (s % 9 + 1) (show (0 : Int) < 999983 by decide)
    exact (B.of (n := 20) (by omega) (by omega)).mono (by omega)
/-! ### the prime -/
theorem prime_test {p : Int} (h : 0 < p) (y0 y1 y2 y4 : Option Sl) : (∃ b, xTru (xAll dAny (xCons (xLst (xComp false [4] (xAll dRg2 (xCons (xC (.int 2)) (xCons (xC (.int 32)) xNil))) (tgN 4) (bBl (x2 dLt (xVar 4) (xVar 3))) (x2 dEq (x2 dMod (xVar 3) (xVar 4)) (xC (.int 0))))) xNil)) [y0, y1, y2, iv p, y4] = .ok b ∧ (b = false ↔ ∀ q : Int, 2 ≤ q → q < 32 → q < p → p % q ≠ 0)) := by
  have c1 : xComp false [4] (xAll dRg2 (xCons (xC (.int 2)) (xCons (xC (.int 32)) xNil))) (tgN 4) (bBl (x2 dLt (xVar 4) (xVar 3))) (x2 dEq (x2 dMod (xVar 3) (xVar 4)) (xC (.int 0))) [y0, y1, y2, iv p, y4]
      = .ok ((((List.range 30).filter fun (i : Nat) => decide (2 + (i : Int) < p)).map fun (i : Nat) => decide (p % (2 + (i : Int)) = 0)).map D.bl) := by
    rw [e_comp (items := rgD 2 1 30) (by simp [dRg2]; decide) (by intro q; cases q) (by rw [rgD_len]; exact sz16 (by omega)), rgD_map,
      e_compR _ (fun (i : Nat) => [y0, y1, y2, iv p, iv (2 + (i : Int))]) (fun (i : Nat) => decide (2 + (i : Int) < p)) (fun (i : Nat) => D.bl (decide (p % (2 + (i : Int)) = 0))) (List.range 30) (fun x _ => by simp [wipeE]) (fun x _ => by simp) (fun x _ _ => by
        simp [e_mod (show (0 : Int) < 2 + (x : Int) by omega)]
        rfl), List.map_map]
    rfl
  refine ⟨((((List.range 30).filter fun (i : Nat) => decide (2 + (i : Int) < p)).map fun (i : Nat) => decide (p % (2 + (i : Int)) = 0))).any id, by simp only [e_xTru, e_xAll, e_xCons, e_xLst, e_xNil, c1, e_bind_ok, e_any, blsOf_map, e_ofO_some, e_truB], ?_⟩
  rw [List.any_eq_false]
  constructor
  · intro k q q1 q2 q3 z
    refine k _ (List.mem_map.mpr ⟨(q - 2).toNat, List.mem_filter.mpr ⟨List.mem_range.mpr (by omega), decide_eq_true (by omega)⟩, rfl⟩) ?_
    rw [show 2 + ((q - 2).toNat : Int) = q by omega, z]
    rfl
  · intro k b hb
    obtain ⟨i, hi, rfl⟩ := List.mem_map.mp hb
    obtain ⟨h6, h7⟩ := List.mem_filter.mp hi
    have h6 := List.mem_range.mp h6
    have := k (2 + (i : Int)) (by omega) (by omega) (of_decide_eq_true h7)
    simpa using this
theorem p997 : ∀ q : Int, 2 ≤ q → q < 32 → q < 997 → (997 : Int) % q ≠ 0 := by
  intro q h1 h2 _
  obtain ⟨i, rfl⟩ : ∃ i : Nat, q = (i : Int) + 2 := ⟨(q - 2).toNat, by omega⟩
  have : ∀ i : Nat, i < 30 → (997 : Int) % ((i : Int) + 2) ≠ 0 := by decide
  exact this i (by omega)
theorem prime_loop (y0 y1 y2 : Option Sl) : ∀ (k : Nat) (p : Int) (x4 : Option Sl), 3 ≤ p → p ≤ 997 → 997 < p + k → ∃ p', Pr p' ∧ whileS (xTru (xAll dAny (xCons (xLst (xComp false [4] (xAll dRg2 (xCons (xC (.int 2)) (xCons (xC (.int 32)) xNil))) (tgN 4) (bBl (x2 dLt (xVar 4) (xVar 3))) (x2 dEq (x2 dMod (xVar 3) (xVar 4)) (xC (.int 0))))) xNil)))
    (sSet 3 (x2 dAdd (xVar 3) (xC (.int 1)))) k [y0, y1, y2, iv p, x4] = .nx [y0, y1, y2, iv p', x4]
  | 0, p, x4, _, _, _ => by omega
  | k + 1, p, x4, h1, h2, h3 => by
    obtain ⟨b, e, hb⟩ := prime_test (p := p) (by omega) y0 y1 y2 x4
    unfold whileS
    rw [e]
    cases b with
    | false => exact ⟨p, ⟨h1, h2, hb.mp rfl⟩, rfl⟩
    | true =>
      have ne : p ≠ 997 := fun q => by
        subst q
        exact absurd (hb.mpr p997) (by decide)
      obtain ⟨p', pr, w⟩ := prime_loop y0 y1 y2 k (p + 1) x4 (by omega) (by omega) (by omega)
      refine ⟨p', pr, ?_⟩
      rw [← w]
      simp
theorem prime_ok {ns : List Int} (hb : ∀ n ∈ ns, B n 1048576) {at' : Int} (ha : 0 ≤ at') : ∃ p, Pr p ∧ f_l_prime [.lst (ns.map .int), .int at'] = .ok (.int p) := by
  have c0 := Int.emod_nonneg (cell ns at') (show (1000000000000000000 : Int) ≠ 0 by decide)
  have c1 := Int.emod_lt_of_pos (cell ns at') (show (0 : Int) < 1000000000000000000 by decide)
  have bc : B (cell ns at' % 1000000000000000000) 10000000 := (B.of (n := 60) (by omega) (by omega)).mono (by omega)
  have d1 := draw_ok (b := 4) (m := 28) bc (.mono (.lit (n := 3)) (by omega)) (by decide)
  have d2 := draw_ok (b := 4) (m := if at' = 0 then 990 else 190) bc (.mono (.lit (n := 3)) (by omega)) (by split <;> decide)
  have d3 := draw_ok (b := 6) (m := 4) bc (.mono (.lit (n := 3)) (by omega)) (by decide)
  have r1 := drawV_b (cell ns at' % 1000000000000000000) 4 (show (0 : Int) < 28 by decide)
  have r2 := drawV_b (cell ns at' % 1000000000000000000) 4 (show (0 : Int) < (if at' = 0 then 990 else 190) by split <;> decide)
  have r3 := drawV_b (cell ns at' % 1000000000000000000) 6 (show (0 : Int) < 4 by decide)
  have hr := Int.lt_of_lt_of_le r2.2 (show (if at' = 0 then (990 : Int) else 190) ≤ 990 by split <;> decide)
  generalize drawV (cell ns at' % 1000000000000000000) 4 28 = y1 at *
  generalize drawV (cell ns at' % 1000000000000000000) 4 (if at' = 0 then 990 else 190) = y2 at *
  generalize drawV (cell ns at' % 1000000000000000000) 6 4 = y3 at *
  have i1 : ∃ x : Int, 3 ≤ x ∧ x ≤ 997 ∧ atI [D.int 3, D.int 5, D.int (3 + y1), D.int (3 + y2)] y3 = some (.int x) := by
    have : y3 = 0 ∨ y3 = 1 ∨ y3 = 2 ∨ y3 = 3 := by omega
    rcases this with e | e | e | e <;> rw [e]
    · exact ⟨3, by omega, by omega, rfl⟩
    · exact ⟨5, by omega, by omega, rfl⟩
    · exact ⟨3 + y1, by omega, by omega, rfl⟩
    · exact ⟨3 + y2, by omega, by omega, rfl⟩
  obtain ⟨x, x1, x2, hx⟩ := i1
  obtain ⟨p, pr, hw⟩ := prime_loop (some (.v (.lst (ns.map .int)))) (iv at') (iv (cell ns at' % 1000000000000000000)) 1000 x none x1 x2 (by omega)
  refine ⟨p, pr, ?_⟩
  have dd : ((if at' = 0 then M.ok (D.int 990) else M.ok (D.int 190)) : M D) = M.ok (D.int (if at' = 0 then 990 else 190)) := by split <;> rfl
  have eb : (at' == 0) = decide (at' = 0) := rfl
  simp only [f_l_prime, defF]
  simp [cell_ok ns ha, pow18, e_mod (show (0 : Int) < 1000000000000000000 by decide), d1, d3, dd, d2, hx]
  rw [hw]
  simp
end OM
set_option maxRecDepth 100000
/-! Trp: the triples that the law draws. -/
namespace OM
open PySem L2 DI
def trp (p n : Int) : Tri := let m := n % (p * p + p + 1)
  if m ≤ p then (if m = 0 then (0, 0, 1) else (0, 1, m - 1)) else (1, (m - p - 1) / p, (m - 1) % p)
theorem trp_told {p : Int} (h : Pr p) (n : Int) : Told p (trp p n) := by
  have h3 := h.1
  have pp : 0 ≤ p * p := Int.mul_nonneg (by omega) (by omega)
  have m0 := Int.emod_nonneg n (show p * p + p + 1 ≠ 0 by omega)
  have m1 := Int.emod_lt_of_pos n (show 0 < p * p + p + 1 by omega)
  unfold trp
  simp only
  generalize n % (p * p + p + 1) = m at *
  split
  · split
    · exact .inr (.inr ⟨rfl, rfl, rfl⟩)
    · exact .inr (.inl ⟨rfl, rfl, by simp only; omega, by simp only; omega⟩)
  · refine .inl ⟨rfl, Int.ediv_nonneg (by omega) (by omega), Int.ediv_lt_of_lt_mul (by omega) (by omega), Int.emod_nonneg _ (by omega), Int.emod_lt_of_pos _ (by omega)⟩
theorem trp_inj {p : Int} (h : Pr p) {n n' : Int} (e : trp p n = trp p n') : n % (p * p + p + 1) = n' % (p * p + p + 1) := by
  have h3 := h.1
  have pp : 0 ≤ p * p := Int.mul_nonneg (by omega) (by omega)
  have m0 := Int.emod_nonneg n (show p * p + p + 1 ≠ 0 by omega)
  have m0' := Int.emod_nonneg n' (show p * p + p + 1 ≠ 0 by omega)
  unfold trp at e
  simp only at e
  generalize n % (p * p + p + 1) = m at *
  generalize n' % (p * p + p + 1) = m' at *
  by_cases a : m ≤ p <;> by_cases b : m' ≤ p
  · rw [if_pos a, if_pos b] at e
    by_cases c : m = 0 <;> by_cases d : m' = 0
    · omega
    · rw [if_pos c, if_neg d] at e
      have := congrArg (fun t : Tri => t.2.1) e
      cases this
    · rw [if_neg c, if_pos d] at e
      have := congrArg (fun t : Tri => t.2.1) e
      cases this
    · rw [if_neg c, if_neg d] at e
      have := congrArg (fun t : Tri => t.2.2) e
      simp only at this
      omega
  · rw [if_pos a, if_neg b] at e
    have := congrArg (fun t : Tri => t.1) e
    by_cases c : m = 0
    · rw [if_pos c] at this
      cases this
    · rw [if_neg c] at this
      cases this
  · rw [if_neg a, if_pos b] at e
    have := congrArg (fun t : Tri => t.1) e
    by_cases c : m' = 0
    · rw [if_pos c] at this
      cases this
    · rw [if_neg c] at this
      cases this
  · rw [if_neg a, if_neg b] at e
    simp only [Prod.mk.injEq, true_and] at e
    obtain ⟨e1, e2⟩ := e
    have k : ∀ x : Int, (x - 1) % p = (x - p - 1) % p := fun x => by
      rw [show x - 1 = (x - p - 1) + p by omega, Int.add_emod_right]
    rw [k m, k m'] at e2
    have d1 := Int.mul_ediv_add_emod (m - p - 1) p
    have d2 := Int.mul_ediv_add_emod (m' - p - 1) p
    rw [e1, e2] at d1
    omega
theorem triple_ok {p : Int} (h : Pr p) (n : Int) : f_l_triple [.int p, .int n] = .ok (triD (trp p n)) := by
  have h3 := h.1
  have h4 := h.2.1
  have pp : 0 ≤ p * p := Int.mul_nonneg (by omega) (by omega)
  have bp : B p 10 := B.of (by omega) (by omega)
  have hM : 0 < p * p + p + 1 := by omega
  by_cases q : n % (p * p + p + 1) ≤ p
  · by_cases q2 : n % (p * p + p + 1) = 0
    · simp [f_l_triple, defF, e_mul (mulOk_of bp bp (by omega)), e_mod hM, q, q2, trp, triD, show (0 : Int) ≤ p by omega]
    · simp [f_l_triple, defF, e_mul (mulOk_of bp bp (by omega)), e_mod hM, q, q2, trp, triD]
  · simp [f_l_triple, defF, e_mul (mulOk_of bp bp (by omega)), e_mod hM, q, trp, triD, e_mod (show 0 < p by omega), e_fdiv (show 0 < p by omega) (show p < 1073741824 by omega)]
/-! ### the turns -/
def PQ : Nat := 84 * (1000003 * 1000033 * 1000037 * 1000039 * 1000081 * 1000099 * 1000117 * 1000121 * 1000133 * 1000151 * 1000159 * 1000171 * 1000183 * 1000187 * 1000193 * 1000199)
/-- the numbers that the turns take, six of them, are unlike for each prime -/
def isPr (p : Nat) : Bool := decide (3 ≤ p) && (List.range 30).all fun i => decide (p ≤ i + 2) || decide (p % (i + 2) ≠ 0)
def chk (p : Nat) : Bool := !isPr p || (List.range 6).all fun i => (List.range i).all fun j =>
  decide ((7919 * (PQ * (p + 40)) * (PQ * (p + 40)) * (i * i - j * j)) % (p * p + p + 1) ≠ 0) && decide ((5 * (PQ * (p + 40)) * (i - j)) % (p * p + p + 1) ≠ 0)
theorem chk_all : (List.range 998).all chk = true := by decide +kernel
theorem chk_of {p : Nat} (h : Pr (p : Int)) {i j : Nat} (hi : i < 6) (hj : j < i) :
    (7919 * (PQ * (p + 40)) * (PQ * (p + 40)) * (i * i - j * j)) % (p * p + p + 1) ≠ 0 ∧ (5 * (PQ * (p + 40)) * (i - j)) % (p * p + p + 1) ≠ 0 := by
  have h3 := h.1
  have h4 := h.2.1
  have c := List.all_eq_true.mp chk_all p (List.mem_range.mpr (by omega))
  have ip : isPr p = true := by
    unfold isPr
    rw [Bool.and_eq_true]
    refine ⟨decide_eq_true (by omega), List.all_eq_true.mpr fun q hq => ?_⟩
    have hq := List.mem_range.mp hq
    rw [Bool.or_eq_true, decide_eq_true_eq, decide_eq_true_eq]
    by_cases l : p ≤ q + 2
    · exact .inl l
    · refine .inr fun z => h.2.2 ((q + 2 : Nat) : Int) (by omega) (by omega) (by omega) ?_
      omega
  unfold chk at c
  rw [ip] at c
  have c1 := List.all_eq_true.mp (by simpa only [Bool.not_true, Bool.false_or] using c) i (List.mem_range.mpr hi)
  have c2 := List.all_eq_true.mp c1 j (List.mem_range.mpr hj)
  rw [Bool.and_eq_true, decide_eq_true_eq, decide_eq_true_eq] at c2
  exact c2
/-- steps that are alike by 4, by 9 and by the law's primes -/
structure Alk (s s' : Int) : Prop where
  four : s % 4 = s' % 4
  nine : s % 9 = s' % 9
  q : ∀ q ∈ Q16, s % q = s' % q
theorem emod_congr {a b c d q : Int} (h1 : a % q = c % q) (h2 : b % q = d % q) : (a * b) % q = (c * d) % q := by
  rw [Int.mul_emod, h1, h2, ← Int.mul_emod]
theorem valV_alk {s s' : Int} (h : Alk s s') (v : Int) : valV v s = valV v s' := by
  unfold valV sev
  rw [h.four, h.nine]
  split
  · rfl
  · unfold drawV
    have hq := h.q _ (prm_mem (s' % 9 + 1)).1
    generalize prm (s' % 9 + 1) = q at *
    have e1 : (v + 977 * s) % q = (v + 977 * s') % q := by
      rw [Int.add_emod, Int.mul_emod, hq, ← Int.mul_emod, ← Int.add_emod]
    have e2 : (v + 31 * s + 5) % q = (v + 31 * s' + 5) % q := by
      rw [Int.add_emod, Int.add_emod v, Int.mul_emod 31, hq, ← Int.mul_emod 31, ← Int.add_emod v, ← Int.add_emod]
    have e3 := emod_congr (emod_congr e1 e2) (rfl : (48271 : Int) % q = 48271 % q)
    rw [Int.add_emod, e3, ← Int.add_emod]
theorem alk_of {s c : Int} (h : (PQ : Int) ∣ c) : Alk (s + 3 * c) s := by
  have k : ∀ q : Int, q ∣ 3 * (PQ : Int) → (s + 3 * c) % q = s % q := fun q hq => by
    obtain ⟨d, hd⟩ := Int.dvd_trans hq (Int.mul_dvd_mul_left 3 h)
    rw [hd]
    exact Int.add_mul_emod_self_left s q d
  have kq : ∀ q ∈ Q16, q ∣ 3 * (PQ : Int) := by
    have : ∀ q ∈ Q16, (3 * (PQ : Int)) % q = 0 := by decide +kernel
    exact fun q hq => Int.dvd_of_emod_eq_zero (this q hq)
  exact ⟨k 4 (by decide +kernel), k 9 (by decide +kernel), fun q hq => k q (kq q hq)⟩
def vT (ns : List Int) (a t : Int) : Int := valV (cell ns (a + t % 7)) (a + 3 * t) + t * t * 7919
def nT (ns : List Int) (a k p t : Int) : Int := if 0 < k then vT ns a t / (if t % 2 = 0 then 1 else 5) else vT ns a t % (p + 40) + 5 * t
def EE (p : Nat) : Nat := PQ * (p + 40)
theorem vT_at (ns : List Int) (a : Int) {c : Int} (h : (PQ : Int) ∣ c) : vT ns a c = valV (cell ns a) a + c * c * 7919 := by
  unfold vT
  rw [valV_alk (alk_of h)]
  have : c % 7 = 0 := Int.emod_eq_zero_of_dvd (Int.dvd_trans (by decide +kernel) h)
  rw [this, Int.add_zero]
theorem nT_at (ns : List Int) (a k : Int) (p : Nat) (i : Nat) : nT ns a k p ((EE p * i : Nat) : Int) =
    if 0 < k then valV (cell ns a) a + ((EE p * i : Nat) : Int) * ((EE p * i : Nat) : Int) * 7919 else valV (cell ns a) a % ((p : Int) + 40) + 5 * ((EE p * i : Nat) : Int) := by
  have hd : (PQ : Int) ∣ ((EE p * i : Nat) : Int) := Int.natCast_dvd_natCast.mpr ⟨(p + 40) * i, by unfold EE; rw [Nat.mul_assoc]⟩
  have hp : ((p : Int) + 40) ∣ ((EE p * i : Nat) : Int) := by
    have : (((p + 40 : Nat)) : Int) ∣ ((EE p * i : Nat) : Int) := Int.natCast_dvd_natCast.mpr ⟨PQ * i, by unfold EE; rw [Nat.mul_comm PQ, Nat.mul_assoc]⟩
    rwa [Int.natCast_add] at this
  have h2 : ((EE p * i : Nat) : Int) % 2 = 0 := Int.emod_eq_zero_of_dvd (Int.dvd_trans (by decide +kernel) hd)
  unfold nT
  rw [vT_at ns a hd, h2]
  split
  · rw [if_pos rfl, Int.ediv_one]
  · obtain ⟨d, hd⟩ := hp
    congr 1
    rw [show ((EE p * i : Nat) : Int) * ((EE p * i : Nat) : Int) * 7919 = ((p : Int) + 40) * (d * ((EE p * i : Nat) : Int) * 7919) by
      rw [show ((EE p * i : Nat) : Int) * ((EE p * i : Nat) : Int) = (((p : Int) + 40) * d) * ((EE p * i : Nat) : Int) by rw [← hd]]
      grind]
    exact Int.add_mul_emod_self_left _ _ _
theorem sub_z {x y m : Int} (h : x % m = y % m) : (x - y) % m = 0 := (Int.emod_eq_emod_iff_emod_sub_eq_zero).mp h
theorem six {p : Nat} (h : Pr (p : Int)) (ns : List Int) (a k : Int) {i j : Nat} (hi : i < 6) (hj : j < i) :
    trp p (nT ns a k p ((EE p * i : Nat) : Int)) ≠ trp p (nT ns a k p ((EE p * j : Nat) : Int)) := fun e => by
  have z := sub_z (trp_inj h e)
  obtain ⟨c1, c2⟩ := chk_of h hi hj
  rw [nT_at, nT_at] at z
  have eM : (p : Int) * p + p + 1 = ((p * p + p + 1 : Nat) : Int) := by rw [Int.natCast_add, Int.natCast_add, Int.natCast_mul]; rfl
  rw [eM] at z
  obtain ⟨d, rfl⟩ : ∃ d, i = j + d := ⟨i - j, by omega⟩
  by_cases q : 0 < k
  · rw [if_pos q, if_pos q] at z
    refine c1 (Int.ofNat_inj.mp ?_)
    rw [Int.natCast_emod]
    refine Eq.trans (congrArg (· % ((p * p + p + 1 : Nat) : Int)) ?_) z
    rw [show (j + d) * (j + d) - j * j = d * (2 * j + d) by
      have : (j + d) * (j + d) = j * j + d * (2 * j + d) := by grind
      omega]
    show ((7919 * EE p * EE p * (d * (2 * j + d)) : Nat) : Int) = _
    simp only [Int.natCast_mul, Int.natCast_add]
    grind
  · rw [if_neg q, if_neg q] at z
    refine c2 (Int.ofNat_inj.mp ?_)
    rw [Int.natCast_emod]
    refine Eq.trans (congrArg (· % ((p * p + p + 1 : Nat) : Int)) ?_) z
    rw [show j + d - j = d by omega]
    show ((5 * EE p * d : Nat) : Int) = _
    simp only [Int.natCast_mul, Int.natCast_add]
    grind
/-! ### the loop -/
abbrev trC : Ev → M Bool := bBl (x2 dLt (xAll dLen (xCons (xOwn 5) xNil)) (xVar 3))
abbrev trB : Ev → S := (sSeq (sSet 7 (x2 dAdd (xAll (callF 2 f_l_value) (xCons (xAll (callF 2 f_l_cell_at) (xCons (xVar 0) (xCons (x2 dAdd (xVar 1) (x2 dMod (xVar 6) (xC (.int 7)))) xNil))) (xCons (x2 dAdd (xVar 1) (x2 dMul (xC (.int 3)) (xVar 6))) xNil))) (x2 dMul (x2 dMul (xVar 6) (xVar 6)) (xC (.int 7919)))))
  (sSeq (sSet 8 (xAll (callF 2 f_l_triple) (xCons (xVar 2) (xCons (xIf (bBl (x2 dGt (xVar 4) (xC (.int 0)))) (x2 dFdiv (xVar 7) (x2 dIx (xAll lTup (xCons (xC (.int 1)) (xCons (xC (.int 5)) xNil))) (x2 dMod (xVar 6) (xC (.int 2))))) (x2 dAdd (x2 dMod (xVar 7) (x2 dAdd (xVar 2) (xC (.int 40)))) (x2 dMul (xC (.int 5)) (xVar 6)))) xNil))))
  (sSeq (sIf (bBl (x2 dNotIn (xVar 8) (xOwn 5))) (sApp 5 (xVar 8)) sNil)
  (sSet 6 (x2 dAdd (xVar 6) (xC (.int 1)))))))
theorem tr_step {p : Int} (h : Pr p) {ns : List Int} (hb : ∀ n ∈ ns, B n 1048576) {a k t : Int} (ha : 0 ≤ a) (ba : B a 900) (ht : 0 ≤ t) (bt : B t 900) (many : D) (acc : List Tri) (hl : acc.length < 1000) (w7 w8 : Option Sl) :
    ∃ w7' w8', trB [some (.v (.lst (ns.map .int))), iv a, iv p, some (.v many), iv k, some (.o (acc.map triD)), iv t, w7, w8] =
      .nx [some (.v (.lst (ns.map .int))), iv a, iv p, some (.v many), iv k, some (.o ((if trp p (nT ns a k p t) ∈ acc then acc else acc ++ [trp p (nT ns a k p t)]).map triD)), iv (t + 1), w7', w8'] := by
  have h3 := h.1
  have h4 := h.2.1
  have m0 := Int.emod_nonneg t (show (7 : Int) ≠ 0 by decide)
  have b3 : B (3 * t) 902 := (((B.lit (n := 2)).mul bt)).mono (by omega)
  have m1 : dMul (.int 3) (.int t) = .ok (.int (3 * t)) := e_mul (mulOk_of (B.lit (n := 2)) bt (by omega))
  have m2 := e_mul (mulOk_of bt bt (by omega))
  have m3 : dMul (.int (t * t)) (.int 7919) = .ok (.int (t * t * 7919)) := e_mul (mulOk_of (bt.mul bt) (B.lit (n := 20)) (by omega))
  have m4 : dMul (.int 5) (.int t) = .ok (.int (5 * t)) := e_mul (mulOk_of (B.lit (n := 3)) bt (by omega))
  have bc : B (cell ns (a + t % 7)) 1048576 := by
    unfold cell
    rw [List.getD_eq_getElem?_getD]
    cases q : ns[(a + t % 7).toNat]? with
    | none => exact B.mono (n := 0) (B.lit) (by omega)
    | some x => exact hb x (List.mem_of_getElem? q)
  have v := value_ok bc (s := a + 3 * t) (((ba.mono (m := 902) (by omega)).add b3).mono (by omega))
  have c := cell_ok ns (i := a + t % 7) (by omega)
  have tr : ∀ n, f_l_triple [.int p, .int n] = .ok (triD (trp p n)) := triple_ok h
  have two : t % 2 = 0 ∨ t % 2 = 1 := by omega
  have i2 : atI [D.int 1, D.int 5] (t % 2) = some (.int (if t % 2 = 0 then 1 else 5)) := by
    rcases two with e | e <;> rw [e] <;> rfl
  have fd : ∀ x : Int, dFdiv (.int x) (.int (if t % 2 = 0 then 1 else 5)) = .ok (.int (x / (if t % 2 = 0 then 1 else 5))) := fun x => by
    split
    · exact e_fdiv (by decide) (by decide)
    · exact e_fdiv (by decide) (by decide)
  have al : acc.length < 16777216 := by omega
  have enum : ((if 0 < k then M.ok (D.int (vT ns a t / (if t % 2 = 0 then 1 else 5))) else M.ok (D.int (vT ns a t % (p + 40) + 5 * t))) : M D) = M.ok (D.int (nT ns a k p t)) := by
    unfold nT
    split <;> rfl
  refine ⟨iv (vT ns a t), some (.v (triD (trp p (nT ns a k p t)))), ?_⟩
  by_cases q : trp p (nT ns a k p t) ∈ acc
  · simp [e_mod (show (0 : Int) < 7 by decide), e_mod (show (0 : Int) < 2 by decide), e_mod (show (0 : Int) < p + 40 by omega), c, m1, v, m2, m3, m4, i2, fd, tr, ← vT.eq_def ns a t, enum, dNotInL, q]
  · simp [e_mod (show (0 : Int) < 7 by decide), e_mod (show (0 : Int) < 2 by decide), e_mod (show (0 : Int) < p + 40 by omega), c, m1, v, m2, m3, m4, i2, fd, tr, ← vT.eq_def ns a t, enum, dNotInL, q, gApp, PySem.sizeLine_eq, al]
/-- the triples found are six at the latest when the turns have come to five times EE -/
theorem tr_end {p : Nat} (h : Pr (p : Int)) (ns : List Int) (a k : Int) {acc : List Tri} {t : Nat} (hm : ∀ i : Nat, i < t → trp p (nT ns a k p (i : Int)) ∈ acc) (ht : EE p * 5 < t) : 6 ≤ acc.length := by
  let l := (List.range 6).map fun i => trp (p : Int) (nT ns a k p ((EE p * i : Nat) : Int))
  have nd : l.Nodup := nodup_map List.nodup_range fun x hx y hy e => by
    have hx := List.mem_range.mp hx
    have hy := List.mem_range.mp hy
    rcases Nat.lt_trichotomy x y with q | q | q
    · exact absurd e.symm (six h ns a k hy q)
    · exact q
    · exact absurd e (six h ns a k hx q)
  have sub : l ⊆ acc := fun u hu => by
    obtain ⟨i, hi, rfl⟩ := List.mem_map.mp hu
    have hi := List.mem_range.mp hi
    refine hm _ (Nat.lt_of_le_of_lt (Nat.mul_le_mul_left (EE p) (show i ≤ 5 by omega)) ht)
  have := nd.length_le_of_subset sub
  rwa [List.length_map, List.length_range] at this
theorem EE_b {p : Nat} (h : Pr (p : Int)) : EE p * 5 < 2 ^ 890 := by
  have h4 := h.2.1
  have : EE p ≤ PQ * 1037 := Nat.mul_le_mul_left PQ (by omega)
  have k : PQ * 1037 * 5 < 2 ^ 890 := by decide +kernel
  omega
theorem tr_loop {p : Nat} (h : Pr (p : Int)) {ns : List Int} (hb : ∀ n ∈ ns, B n 1048576) {a k : Int} (ha : 0 ≤ a) (ba : B a 900) (many : Nat) (h6 : many ≤ 6) : ∀ (fuel : Nat) (t : Nat) (acc : List Tri) (w7 w8 : Option Sl),
    EE p * 5 + 2 ≤ fuel + t → t ≤ EE p * 5 + 1 → acc.Nodup → (∀ u ∈ acc, Told p u) → acc.length ≤ many → (∀ i : Nat, i < t → trp p (nT ns a k p (i : Int)) ∈ acc) →
    ∃ acc' : List Tri, acc'.Nodup ∧ (∀ u ∈ acc', Told p u) ∧ acc'.length = many ∧ ∃ t' w7' w8', whileS trC trB fuel [some (.v (.lst (ns.map .int))), iv a, iv p, iv many, iv k, some (.o (acc.map triD)), iv t, w7, w8] =
      .nx [some (.v (.lst (ns.map .int))), iv a, iv p, iv many, iv k, some (.o (acc'.map triD)), t', w7', w8']
  | 0, t, acc, w7, w8, hf, ht, _, _, _, _ => by omega
  | fuel + 1, t, acc, w7, w8, hf, ht, nd, hT, hl, hm => by
    unfold whileS
    by_cases q : acc.length < many
    · have lt : t ≤ EE p * 5 := by
        rcases Nat.lt_or_ge (EE p * 5) t with z | z
        · have := tr_end h ns a k hm z
          omega
        · exact z
      have eb := EE_b h
      have bt : B (t : Int) 900 := by
        refine B.mono (n := 890) ?_ (by omega)
        unfold B
        rw [Int.natAbs_natCast]
        omega
      obtain ⟨w7', w8', e⟩ := tr_step h hb ha ba (t := (t : Int)) (k := k) (by omega) bt (.int many) acc (by omega) w7 w8
      have told := trp_told h (nT ns a k p (t : Int))
      have cnd : trC [some (.v (.lst (ns.map .int))), iv a, iv p, iv many, iv k, some (.o (acc.map triD)), iv t, w7, w8] = .ok true := by
        simp [q]
      rw [cnd, e_ofM_ok, if_pos rfl, e]
      have e1 : ((t : Int) + 1) = ((t + 1 : Nat) : Int) := rfl
      rw [e1]
      by_cases m : trp p (nT ns a k p (t : Int)) ∈ acc
      · rw [if_pos m]
        exact tr_loop h hb ha ba many h6 fuel (t + 1) acc w7' w8' (by omega) (by omega) nd hT hl fun i hi => by
          rcases Nat.lt_or_ge i t with z | z
          · exact hm i z
          · have : i = t := by omega
            subst this
            exact m
      · rw [if_neg m]
        refine tr_loop h hb ha ba many h6 fuel (t + 1) (acc ++ [trp p (nT ns a k p (t : Int))]) w7' w8' (by omega) (by omega) ?_ ?_ (by rw [List.length_append, List.length_singleton]; omega) fun i hi => ?_
        · rw [List.nodup_append]
          refine ⟨nd, List.nodup_cons.mpr ⟨List.not_mem_nil, List.nodup_nil⟩, fun x hx y hy e => ?_⟩
          rw [List.mem_singleton] at hy
          subst hy
          exact m (e ▸ hx)
        · intro u hu
          rcases List.mem_append.mp hu with z | z
          · exact hT u z
          · rw [List.mem_singleton] at z
            subst z
            exact told
        · rcases Nat.lt_or_ge i t with z | z
          · exact List.mem_append_left _ (hm i z)
          · have : i = t := by omega
            subst this
            exact List.mem_append_right _ (List.mem_singleton.mpr rfl)
    · refine ⟨acc, nd, hT, by omega, iv t, w7, w8, ?_⟩
      have cnd : trC [some (.v (.lst (ns.map .int))), iv a, iv p, iv many, iv k, some (.o (acc.map triD)), iv t, w7, w8] = .ok false := by
        simp
        omega
      rw [cnd]
      rfl
theorem triples_ok {p : Int} (h : Pr p) {ns : List Int} (hb : ∀ n ∈ ns, B n 1048576) {a : Int} (ha : 0 ≤ a) (ba : B a 40) {many : Nat} (h6 : many ≤ 6) :
    ∃ ts : List Tri, ts.Nodup ∧ (∀ u ∈ ts, Told p u) ∧ ts.length = many ∧ f_l_triples [.lst (ns.map .int), .int a, .int p, .int many] = .ok (.lst (ts.map triD)) := by
  obtain ⟨n, rfl⟩ : ∃ n : Nat, p = n := ⟨p.toNat, by have := h.1; omega⟩
  have c0 := Int.emod_nonneg (cell ns (a + 1)) (show (1000000000000000000 : Int) ≠ 0 by decide)
  have c1 := Int.emod_lt_of_pos (cell ns (a + 1)) (show (0 : Int) < 1000000000000000000 by decide)
  have bc : B (cell ns (a + 1) % 1000000000000000000 + a) 10000000 := ((B.of (n := 60) (by omega) (by omega)).add' ba).mono (by omega)
  have d := draw_ok (b := 8) (m := 3) bc (.mono (.lit (n := 4)) (by omega)) (by decide)
  have fu : EE n * 5 + 2 ≤ 10 ^ 300 + 0 := by
    have := EE_b h
    have k : 2 ^ 890 + 2 ≤ 10 ^ 300 := by decide +kernel
    omega
  obtain ⟨ts, t1, t2, t3, t', w7, w8, e⟩ := tr_loop h hb ha (ba.mono (by omega)) (k := drawV (cell ns (a + 1) % 1000000000000000000 + a) 8 3) many h6 (10 ^ 300) 0 [] none none fu (by omega) List.nodup_nil (fun u hu => by cases hu) (by simp) (fun i hi => by omega)
  refine ⟨ts, t1, t2, t3, ?_⟩
  have c := cell_ok ns (i := a + 1) (by omega)
  simp only [f_l_triples, defF]
  simp [pow18, e_mod (show (0 : Int) < 1000000000000000000 by decide), c, d, -Nat.reducePow, -Int.reducePow]
  rw [List.map_nil] at e
  rw [show ((0 : Nat) : Int) = 0 from rfl] at e
  rw [e]
  simp
end OM
set_option maxRecDepth 100000
/-! Com: what the laws' ends share. -/
namespace OM
open PySem L2 DI
theorem sIx_in {n i : Nat} (d : Nat) (h : i ≤ n) : HT.sIx n d (some (i : Int)) = i := by
  simp [HT.sIx, h]
  omega
theorem B_cell {ns : List Int} (hb : ∀ n ∈ ns, B n 1048576) (i : Int) : B (cell ns i) 1048576 := by
  unfold cell
  rw [List.getD_eq_getElem?_getD]
  cases q : ns[i.toNat]? with
  | none => exact B.mono (n := 0) (B.lit) (by omega)
  | some x => exact hb x (List.mem_of_getElem? q)
theorem ranges : ∀ n : Nat, n < 64 → Builtin.Range.small 0 (n : Int) (1 + (n : Int) / 4) = true ∧ 0 ≤ Builtin.Range.rangeSize 0 (n : Int) (1 + (n : Int) / 4) ∧ Builtin.Range.rangeSize 0 (n : Int) (1 + (n : Int) / 4) ≤ 64 := by
  decide +kernel
theorem cut63 {ns : List Int} (h : ns.length ≤ 63) : cutD (ns.map D.int) none (some 63) = ns.map D.int := by
  unfold cutD
  have e63 : (63 : Int) = ((63 : Nat) : Int) := rfl
  simp [HT.sIx]
  exact List.take_of_length_le (by rw [List.length_map]; omega)
theorem pr3 : Pr 3 := ⟨by decide, by decide, fun q h1 _ h2 => by
  have : q = 2 := by omega
  subst this
  decide⟩
theorem pr5 : Pr 5 := ⟨by decide, by decide, fun q h1 _ h2 => by
  have : q = 2 ∨ q = 3 ∨ q = 4 := by omega
  rcases this with rfl | rfl | rfl <;> decide⟩
theorem len4 {α : Type} {l : List α} (h : l.length = 4) : ∃ a b c d, l = [a, b, c, d] := by
  match l, h with
  | [a, b, c, d], _ => exact ⟨a, b, c, d, rfl⟩
theorem len5 {α : Type} {l : List α} (h : l.length = 5) : ∃ a b c d e, l = [a, b, c, d, e] := by
  match l, h with
  | [a, b, c, d, e], _ => exact ⟨a, b, c, d, e, rfl⟩
/-- the cells at which a law begins its cases -/
def cases' (n : Nat) : List Int := (List.range (Builtin.Range.rangeSize 0 (n : Int) (1 + (n : Int) / 4)).toNat).map fun (i : Nat) => 0 + (i : Int) * (1 + (n : Int) / 4)
theorem cases_rg {n : Nat} (h : n ≤ 63) : dRg3 [.int 0, .int n, .int (1 + (n : Int) / 4)] = .ok ((cases' n).map D.int) := by
  obtain ⟨r1, r2, r3⟩ := ranges n (by omega)
  simp only [dRg3]
  rw [if_pos ⟨by omega, by omega, r1, r2⟩, rgD_map, cases', List.map_map]
  rfl
theorem cases_b {n : Nat} (h : n ≤ 63) : ∀ x ∈ cases' n, 0 ≤ x ∧ B x 40 := fun x hx => by
  obtain ⟨r1, r2, r3⟩ := ranges n (by omega)
  obtain ⟨i, hi, rfl⟩ := List.mem_map.mp hx
  have hi := List.mem_range.mp hi
  have b1 : B (i : Int) 10 := B.of (by omega) (by omega)
  have b2 : B (1 + (n : Int) / 4) 10 := B.of (by omega) (by omega)
  rw [Int.zero_add]
  exact ⟨Int.mul_nonneg (by omega) (by omega), (b1.mul b2).mono (by omega)⟩
end OM
set_option maxRecDepth 100000
/-! Ord: the points of a line in their order; the numbers of points. -/
namespace OM
open PySem L2 DI Lean.Grind
noncomputable def al (p : Int) (l : Tri) (n : Int) : Tri :=
  if l.2.1 = 0 ∧ l.2.2 = 0 then (if n = 0 then (0, 0, 1) else (0, 1, n - 1))
  else if l.2.2 = 0 then (if n = 0 then (0, 0, 1) else (1, -l.1 * inv p l.2.1 % p, n - 1))
  else if n = 0 then (0, 1, -l.2.1 * inv p l.2.2 % p) else (1, n - 1, -(l.1 + l.2.1 * (n - 1)) * inv p l.2.2 % p)
theorem turned_inv {p n : Int} (h : Pr p) (hn : n % p ≠ 0) : f_turned [.int p, .int n] = .ok (.int (inv p n)) := by
  obtain ⟨t, ht, hi⟩ := turned_ok h hn
  rw [ht, inv_eq hi]
theorem small_nz {p x : Int} (h0 : 0 ≤ x) (h1 : x < p) (hx : x ≠ 0) : x % p ≠ 0 := by
  rw [Int.emod_eq_of_lt h0 h1]
  exact hx
theorem at_line_ok {p : Int} (h : Pr p) {l : Tri} (hl : Told p l) {n : Int} (n0 : 0 ≤ n) (n1 : n ≤ p) : f_at_line [.int p, triD l, .int n] = .ok (triD (al p l n)) := by
  have h3 := h.1
  have h4 := h.2.1
  have hp : 0 < p := by omega
  obtain ⟨b1, b2, b3⟩ := hl.bits h
  obtain ⟨⟨a0, a1⟩, ⟨c0, c1⟩, d0, d1⟩ := hl.b h
  obtain ⟨a, b, c⟩ := l
  simp only at *
  have nb : B (n - 1) 10 := B.of (by omega) (by omega)
  have invb : ∀ x : Int, x % p ≠ 0 → B (inv p x) 10 := fun x hx => by
    obtain ⟨i0, i1, _⟩ := inv_is h hx
    exact B.of (by omega) (by omega)
  by_cases hc : c = 0
  · by_cases hb : b = 0
    · by_cases hn : n = 0
      · simp [f_at_line, defF, triD, al, hc, hb, hn]
      · simp [f_at_line, defF, triD, al, hc, hb, hn]
    · have hb' := small_nz c0 c1 hb
      have m1 : dMul (.int (-a)) (.int (inv p b)) = .ok (.int (-a * inv p b)) := e_mul (mulOk_of b1.neg (invb b hb') (by omega))
      by_cases hn : n = 0
      · simp [f_at_line, defF, triD, al, hc, hb, hn]
      · simp [f_at_line, defF, triD, al, hc, hb, hn, turned_inv h hb', m1, e_mod hp]
  · have hc' := small_nz d0 d1 hc
    have m1 : dMul (.int (-b)) (.int (inv p c)) = .ok (.int (-b * inv p c)) := e_mul (mulOk_of b2.neg (invb c hc') (by omega))
    have m2 : dMul (.int b) (.int (n - 1)) = .ok (.int (b * (n - 1))) := e_mul (mulOk_of b2 nb (by omega))
    have m3 : dMul (.int (-(a + b * (n - 1)))) (.int (inv p c)) = .ok (.int (-(a + b * (n - 1)) * inv p c)) := e_mul (mulOk_of ((b1.mono (m := 20) (by omega)).add (b2.mul nb)).neg (invb c hc') (by omega))
    by_cases hn : n = 0
    · by_cases hb : b = 0
      · subst hb
        simp only [Int.neg_zero] at m1
        simp [f_at_line, defF, triD, al, hc, hn, turned_inv h hc', m1, e_mod hp]
      · simp [f_at_line, defF, triD, al, hc, hb, hn, turned_inv h hc', m1, e_mod hp]
    · by_cases hb : b = 0
      · subst hb
        simp [f_at_line, defF, triD, al, hc, hn, turned_inv h hc', m2, e_mod hp]
        simp at m3
        simp [m3, e_mod hp]
      · simp [f_at_line, defF, triD, al, hc, hb, hn, turned_inv h hc', m2, m3, e_mod hp]
theorem al_ok {p : Int} (h : Pr p) {l : Tri} (hl : Told p l) {n : Int} (n0 : 0 ≤ n) (n1 : n ≤ p) : Told p (al p l n) ∧ On p l (al p l n) := by
  obtain ⟨F, _, f⟩ := fld_ex h
  have h3 := h.1
  have md : ∀ x : Int, 0 ≤ x % p ∧ x % p < p := fun x => ⟨Int.emod_nonneg _ (by omega), Int.emod_lt_of_pos _ (by omega)⟩
  obtain ⟨⟨a0, a1⟩, ⟨c0, c1⟩, d0, d1⟩ := hl.b h
  obtain ⟨a, b, c⟩ := l
  simp only at *
  have iv1 : ∀ x : Int, x % p ≠ 0 → io F x * io F (inv p x) = 1 := fun x hx => by
    rw [← io_mul, ← io_one]
    refine f.eq.mpr ?_
    rw [(inv_is h hx).2.2, Int.emod_eq_of_lt (by decide) (by omega)]
  rw [on_dot f]
  unfold al dot
  simp only
  by_cases hc : c = 0
  · by_cases hb : b = 0
    · by_cases hn : n = 0
      · simp only [hc, hb, hn, and_self, if_true]
        exact ⟨.inr (.inr ⟨rfl, rfl, rfl⟩), by simp only [io_zero, io_one]; grind⟩
      · simp only [hc, hb, hn, and_self, if_true, if_false]
        exact ⟨.inr (.inl ⟨rfl, rfl, by simp only; omega, by simp only; omega⟩), by simp only [io_zero, io_one]; grind⟩
    · have e := iv1 b (small_nz c0 c1 hb)
      by_cases hn : n = 0
      · simp only [hc, hb, hn, and_true, if_true, if_false]
        exact ⟨.inr (.inr ⟨rfl, rfl, rfl⟩), by simp only [io_zero, io_one]; grind⟩
      · simp only [hc, hb, hn, and_true, if_true, if_false]
        refine ⟨.inl ⟨rfl, (md _).1, (md _).2, by simp only; omega, by simp only; omega⟩, ?_⟩
        simp only [f.mod, io_mul, io_neg, io_one, io_zero]
        grind
  · have e := iv1 c (small_nz d0 d1 hc)
    by_cases hn : n = 0
    · simp only [hc, hn, and_false, if_true, if_false]
      refine ⟨.inr (.inl ⟨rfl, rfl, (md _).1, (md _).2⟩), ?_⟩
      simp only [f.mod, io_mul, io_neg, io_one, io_zero]
      grind
    · simp only [hc, hn, and_false, if_false]
      refine ⟨.inl ⟨rfl, by simp only; omega, by simp only; omega, (md _).1, (md _).2⟩, ?_⟩
      simp only [f.mod, io_mul, io_neg, io_add, io_one]
      grind
open Classical in
noncomputable def numOn (p : Int) (l q : Tri) : Int := if q = al p l 0 then 0 else if l.2.2 = 0 then 1 + q.2.2 else 1 + q.2.1
theorem al_num {p : Int} (h : Pr p) {l q : Tri} (hl : Told p l) (hq : Told p q) (on : On p l q) : al p l (numOn p l q) = q ∧ 0 ≤ numOn p l q ∧ numOn p l q ≤ p := by
  obtain ⟨F, _, f⟩ := fld_ex h
  have h3 := h.1
  by_cases z : q = al p l 0
  · have e : numOn p l q = 0 := if_pos z
    rw [e]
    exact ⟨z.symm, by omega, by omega⟩
  · have e : numOn p l q = if l.2.2 = 0 then 1 + q.2.2 else 1 + q.2.1 := if_neg z
    obtain ⟨⟨a0, a1⟩, ⟨c0, c1⟩, d0, d1⟩ := hl.b h
    obtain ⟨⟨x0, x1⟩, ⟨y0, y1⟩, z0, z1⟩ := hq.b h
    have hln := hl.nz h
    rw [on_dot f] at on
    obtain ⟨a, b, c⟩ := l
    obtain ⟨x, y, w⟩ := q
    simp only [dot] at *
    have iv1 : ∀ x : Int, x % p ≠ 0 → io F x * io F (inv p x) = 1 := fun x hx => by
      rw [← io_mul, ← io_one]
      refine f.eq.mpr ?_
      rw [(inv_is h hx).2.2, Int.emod_eq_of_lt (by decide) (by omega)]
    have back : ∀ u v : Int, 0 ≤ u → u < p → io F u = io F v → v % p = u := fun u v h0 h1 e => by
      have := f.eq.mp e
      rw [Int.emod_eq_of_lt h0 h1] at this
      exact this.symm
    by_cases hc : c = 0
    · rw [e, if_pos hc]
      refine ⟨?_, by omega, by omega⟩
      subst hc
      by_cases hb : b = 0
      · subst hb
        have ha : io F a ≠ 0 := fun q => hln ⟨(f.z _).mp q, by simp, by simp⟩
        rcases hq with ⟨e1, _⟩ | ⟨e1, e2, _⟩ | ⟨e1, e2, e3⟩
        · simp only at e1
          subst e1
          simp only [io_zero, io_one] at on
          exfalso
          grind
        · simp only at e1 e2
          subst e1 e2
          simp only [al, and_self, if_true]
          rw [if_neg (by omega)]
          simp
          omega
        · simp only at e1 e2 e3
          subst e1 e2 e3
          exact absurd (by simp [al]) z
      · have ib := iv1 b (small_nz c0 c1 hb)
        rcases hq with ⟨e1, _⟩ | ⟨e1, e2, _⟩ | ⟨e1, e2, e3⟩
        · simp only at e1
          subst e1
          have k := back y (-a * inv p b) y0 y1 (by
            simp only [io_mul, io_neg]
            simp only [io_zero, io_one] at on
            grind)
          simp only [al, hb, and_true, if_false, if_true]
          rw [if_neg (by omega), k]
          simp
          omega
        · simp only at e1 e2
          subst e1 e2
          simp only [io_zero, io_one] at on
          exfalso
          grind
        · simp only at e1 e2 e3
          subst e1 e2 e3
          exact absurd (by simp [al, hb]) z
    · have ic := iv1 c (small_nz d0 d1 hc)
      rw [e, if_neg hc]
      refine ⟨?_, by omega, by omega⟩
      rcases hq with ⟨e1, _⟩ | ⟨e1, e2, _⟩ | ⟨e1, e2, e3⟩
      · simp only at e1
        subst e1
        have k := back w (-(a + b * y) * inv p c) z0 z1 (by
          simp only [io_mul, io_neg, io_add]
          simp only [io_one] at on
          grind)
        simp only [al, hc, and_false, if_false]
        rw [if_neg (by omega), show 1 + y - 1 = y by omega, k]
      · simp only at e1 e2
        subst e1 e2
        refine absurd ?_ z
        have k := back w (-b * inv p c) z0 z1 (by
          simp only [io_mul, io_neg]
          simp only [io_one, io_zero] at on
          grind)
        simp only [al, hc, and_false, if_false, if_true, k]
      · simp only at e1 e2 e3
        subst e1 e2 e3
        simp only [io_one, io_zero] at on
        exfalso
        grind
theorem al_lt {p : Int} (l : Tri) {n m : Int} (n0 : 0 ≤ n) (nm : n < m) : ltT (al p l n) (al p l m) = true := by
  have hm : m ≠ 0 := by omega
  rw [ltT_iff]
  unfold al
  by_cases hc : l.2.2 = 0 <;> by_cases hb : l.2.1 = 0 <;> by_cases hn : n = 0 <;> simp [hc, hb, hn, hm] <;> omega
theorem al_inj {p : Int} (l : Tri) {n m : Int} (n0 : 0 ≤ n) (m0 : 0 ≤ m) (e : al p l n = al p l m) : n = m := by
  have ir : ∀ t : Tri, ltT t t = true → False := fun t q => by
    have := ltT_iff.mp q
    omega
  rcases Int.lt_trichotomy n m with q | q | q
  · have := al_lt (p := p) l n0 q
    rw [e] at this
    exact (ir _ this).elim
  · exact q
  · have := al_lt (p := p) l m0 q
    rw [e] at this
    exact (ir _ this).elim
theorem num_al {p : Int} (h : Pr p) {l : Tri} (hl : Told p l) {n : Int} (n0 : 0 ≤ n) (n1 : n ≤ p) : numOn p l (al p l n) = n := by
  obtain ⟨a, b⟩ := al_ok h hl n0 n1
  obtain ⟨e, m0, m1⟩ := al_num h hl a b
  exact al_inj l m0 n0 e
/-- the points of a line, in order -/
theorem pts_eq {p : Int} (h : Pr p) {l : Tri} (hl : Told p l) : pts p l = (List.range (p.toNat + 1)).map fun (i : Nat) => al p l (i : Int) := by
  have h3 := h.1
  have nd : ((List.range (p.toNat + 1)).map fun (i : Nat) => al p l (i : Int)).Nodup := nodup_map List.nodup_range fun x _ y _ e => by
    have := al_inj l (by omega) (by omega) e
    omega
  have sub : pts p l ⊆ (List.range (p.toNat + 1)).map fun (i : Nat) => al p l (i : Int) := fun t ht => by
    obtain ⟨a, b⟩ := pts_mem h hl t ht
    obtain ⟨e, m0, m1⟩ := al_num h hl a b
    exact List.mem_map.mpr ⟨(numOn p l t).toNat, List.mem_range.mpr (by omega), by rw [show ((numOn p l t).toNat : Int) = numOn p l t by omega]; exact e⟩
  have sup : ∀ t, t ∈ ((List.range (p.toNat + 1)).map fun (i : Nat) => al p l (i : Int)) → t ∈ pts p l := fun t ht => by
    rcases Classical.em (t ∈ pts p l) with q | q
    · exact q
    · have n2 : (t :: pts p l).Nodup := List.nodup_cons.mpr ⟨q, pts_nodup h hl⟩
      have s2 : (t :: pts p l) ⊆ (List.range (p.toNat + 1)).map fun (i : Nat) => al p l (i : Int) := fun u hu => by
        rcases List.mem_cons.mp hu with rfl | hu
        · exact ht
        · exact sub hu
      have := n2.length_le_of_subset s2
      rw [List.length_cons, pts_len h, List.length_map, List.length_range] at this
      omega
  refine srT_uniq (sortT_srt _) ?_ ((List.perm_ext_iff_of_nodup (pts_nodup h hl) nd).mpr fun t => ⟨fun q => sub q, sup t⟩)
  refine List.pairwise_map.mpr (List.pairwise_lt_range.imp fun {i j} hij => ?_)
  exact ltT_asym (al_lt l (by omega) (by omega))
end OM
set_option maxRecDepth 100000
/-! Com2: where a law's cases begin, by any step. -/
namespace OM
open PySem L2 DI
def casG (d n : Nat) : List Int := (List.range (Builtin.Range.rangeSize 0 (n : Int) (1 + (n : Int) / (d : Int))).toNat).map fun (i : Nat) => 0 + (i : Int) * (1 + (n : Int) / (d : Int))
def rgsOk (d : Nat) : Prop := ∀ n : Nat, n < 64 → Builtin.Range.small 0 (n : Int) (1 + (n : Int) / (d : Int)) = true ∧ 0 ≤ Builtin.Range.rangeSize 0 (n : Int) (1 + (n : Int) / (d : Int)) ∧ Builtin.Range.rangeSize 0 (n : Int) (1 + (n : Int) / (d : Int)) ≤ 64
theorem rgs3 : rgsOk 3 := by unfold rgsOk; decide +kernel
theorem rgs6 : rgsOk 6 := by unfold rgsOk; decide +kernel
theorem casG_rg {d n : Nat} (r : rgsOk d) (hd : 0 < d) (h : n ≤ 63) : dRg3 [.int 0, .int n, .int (1 + (n : Int) / (d : Int))] = .ok ((casG d n).map D.int) := by
  obtain ⟨r1, r2, r3⟩ := r n (by omega)
  have q1 : (n : Int) / (d : Int) ≤ n := Int.ediv_le_self _ (by omega)
  have q0 : 0 ≤ (n : Int) / (d : Int) := Int.ediv_nonneg (by omega) (by omega)
  simp only [dRg3]
  rw [if_pos ⟨by omega, by omega, r1, r2⟩, rgD_map, casG, List.map_map]
  rfl
theorem casG_b {d n : Nat} (r : rgsOk d) (hd : 0 < d) (h : n ≤ 63) : ∀ x ∈ casG d n, 0 ≤ x ∧ x < 8192 := fun x hx => by
  obtain ⟨r1, r2, r3⟩ := r n (by omega)
  obtain ⟨i, hi, rfl⟩ := List.mem_map.mp hx
  have hi := List.mem_range.mp hi
  have q1 : (n : Int) / (d : Int) ≤ n := Int.ediv_le_self _ (by omega)
  have q0 : 0 ≤ (n : Int) / (d : Int) := Int.ediv_nonneg (by omega) (by omega)
  generalize (n : Int) / (d : Int) = e at *
  have : (i : Int) * (1 + e) ≤ 64 * (1 + e) := Int.mul_le_mul_of_nonneg_right (by omega) (by omega)
  have n0 : 0 ≤ (i : Int) * (1 + e) := Int.mul_nonneg (by omega) (by omega)
  omega
theorem smB {x : Int} (h0 : 0 ≤ x) (h1 : x < 10000) : B x 40 := B.of (by omega) (by omega)
theorem all_tt {α : Type} (l : List α) : ((l.map fun _ => true).all id) = true := by
  rw [List.all_map]
  exact List.all_eq_true.mpr fun _ _ => rfl
end OM
set_option maxRecDepth 100000
set_option maxHeartbeats 2000000
/-! Frm: forms, what they leave, the points that a line shares with one, the rest. -/
namespace OM
open PySem L2 DI Lean.Grind
abbrev Frm := Int × Int × Int × Int × Int × Int
def frmL (F : Frm) : List Int := [F.1, F.2.1, F.2.2.1, F.2.2.2.1, F.2.2.2.2.1, F.2.2.2.2.2]
def frmD (F : Frm) : D := .tup ((frmL F).map D.int)
def qf (F : Frm) (t : Tri) : Int := F.1 * t.1 * t.1 + F.2.1 * t.2.1 * t.2.1 + F.2.2.1 * t.2.2 * t.2.2 + F.2.2.2.1 * t.1 * t.2.1 + F.2.2.2.2.1 * t.1 * t.2.2 + F.2.2.2.2.2 * t.2.1 * t.2.2
/-- told numbers -/
def ToldL (p : Int) (v : List Int) : Prop := (∀ x ∈ v, 0 ≤ x ∧ x < p) ∧ ∃ r, (v.filter fun x => decide (0 < x)) = 1 :: r
def FT (p : Int) (F : Frm) : Prop := ToldL p (frmL F)
theorem FT.b {p : Int} (h : Pr p) {F : Frm} (k : FT p F) : B F.1 10 ∧ B F.2.1 10 ∧ B F.2.2.1 10 ∧ B F.2.2.2.1 10 ∧ B F.2.2.2.2.1 10 ∧ B F.2.2.2.2.2 10 := by
  have h4 := h.2.1
  have g : ∀ x ∈ frmL F, B x 10 := fun x hx => by
    have := k.1 x hx
    exact B.of (by omega) (by omega)
  exact ⟨g _ (by simp [frmL]), g _ (by simp [frmL]), g _ (by simp [frmL]), g _ (by simp [frmL]), g _ (by simp [frmL]), g _ (by simp [frmL])⟩
/-! ### is_told of any list of numbers -/
theorem is_told_L {p : Int} (v : List Int) (k : ToldL p v) (hl : v.length ≤ 1000) : f_is_told [.int p, .tup (v.map D.int), .int v.length] = .ok (.bl true) := by
  obtain ⟨k1, r, k2⟩ := k
  have c1 : xComp false [4] (xItems (xVar 1)) (tgN 4) bYes (xAll (callF 1 f_is_whole) (xCons (xVar 4) xNil)) [iv p, some (.v (.tup (v.map D.int))), iv v.length, none, none] = .ok ((v.map fun _ => true).map D.bl) := by
    rw [e_comp (items := v.map D.int) (by simp) (by intro q; cases q) (by rw [List.length_map]; exact sz16 (by omega)),
      e_compY D.int (fun x => [iv p, some (.v (.tup (v.map D.int))), iv v.length, none, iv x]) (fun _ => D.bl true) v (fun x _ => by simp [wipeE]) (fun x _ => by simp [f_is_whole, defF]), List.map_map]
    rfl
  have c2 : xComp false [4] (xItems (xVar 1)) (tgN 4) bYes (xChain dLe dLt (xC (.int 0)) (xVar 4) (xVar 0)) [iv p, some (.v (.tup (v.map D.int))), iv v.length, none, none] = .ok ((v.map fun _ => true).map D.bl) := by
    rw [e_comp (items := v.map D.int) (by simp) (by intro q; cases q) (by rw [List.length_map]; exact sz16 (by omega)),
      e_compY D.int (fun x => [iv p, some (.v (.tup (v.map D.int))), iv v.length, none, iv x]) (fun _ => D.bl true) v (fun x _ => by simp [wipeE]) (fun x hx => by
        have := k1 x hx
        simp [this.1, this.2]), List.map_map]
    rfl
  have c3 : xComp false [4] (xItems (xVar 1)) (tgN 4) (bBl (x2 dGt (xVar 4) (xC (.int 0)))) (xVar 4) [iv p, some (.v (.tup (v.map D.int))), iv v.length, none, none] = .ok ((v.filter fun x => decide (0 < x)).map D.int) := by
    rw [e_comp (items := v.map D.int) (by simp) (by intro q; cases q) (by rw [List.length_map]; exact sz16 (by omega)),
      e_compR D.int (fun x => [iv p, some (.v (.tup (v.map D.int))), iv v.length, none, iv x]) (fun x => decide (0 < x)) (fun x => .int x) v (fun x _ => by simp [wipeE]) (fun x _ => by simp) (fun x _ _ => by simp)]
  have al : (v.map fun _ => true).all id = true := by
    rw [List.all_map]
    exact List.all_eq_true.mpr fun _ _ => rfl
  have i0 : atI (D.int 1 :: r.map D.int) 0 = some (.int 1) := by simp [atI, ixN]
  have hpos : (0 : Int) < (r.length : Int) + 1 := by omega
  simp only [f_is_told, defF, List.length_cons, List.length_nil, List.map_cons, List.map_nil, List.replicate, Nat.reduceAdd, Nat.reduceSub, if_true, List.cons_append, List.nil_append]
  simp only [e_sSeq, e_sIf, e_bOr, e_bNot, e_xTru, e_bBl, e_x2, e_xAll, e_xCons, e_xNil, e_xLst, e_xVar, e_xC, List.getElem?_cons_succ, List.getElem?_cons_zero, e_bind_ok, e_isTu, e_isT_tt, e_truB, e_lenT, List.length_map, e_neI, beq_self_eq_true, Bool.not_true, Bool.false_eq_true, if_false, c1, c2, e_all, blsOf_map, e_ofO_some, al, e_ofM_ok, e_sNil, e_then_nx, e_sSet, c3]
  simp [k2, i0]
theorem is_told_F {p : Int} {F : Frm} (k : FT p F) : f_is_told [.int p, frmD F, .int 6] = .ok (.bl true) := is_told_L (frmL F) k (by simp [frmL])
/-! ### what a form leaves -/
theorem left_ok {p : Int} (h : Pr p) {F : Frm} (hF : B F.1 10 ∧ B F.2.1 10 ∧ B F.2.2.1 10 ∧ B F.2.2.2.1 10 ∧ B F.2.2.2.2.1 10 ∧ B F.2.2.2.2.2 10) {t : Tri} (ht : B t.1 12 ∧ B t.2.1 12 ∧ B t.2.2 12) :
    f_left_by [.int p, frmD F, triD t] = .ok (.int (qf F t % p)) := by
  obtain ⟨f1, f2, f3, f4, f5, f6⟩ := hF
  obtain ⟨t1, t2, t3⟩ := ht
  have h3 := h.1
  have m : ∀ {x y : Int}, B x 10 → B y 12 → dMul (.int x) (.int y) = .ok (.int (x * y)) := fun hx hy => e_mul (mulOk_of hx hy (by omega))
  have m2 : ∀ {x y z : Int}, B x 10 → B y 12 → B z 12 → dMul (.int (x * y)) (.int z) = .ok (.int (x * y * z)) := fun hx hy hz => e_mul (mulOk_of (hx.mul hy) hz (by omega))
  simp [f_left_by, defF, frmD, frmL, triD, m f1 t1, m2 f1 t1 t1, m f2 t2, m2 f2 t2 t2, m f3 t3, m2 f3 t3 t3, m f4 t1, m2 f4 t1 t2, m f5 t1, m2 f5 t1 t3, m f6 t2, m2 f6 t2 t3, e_mod (show 0 < p by omega), qf]
theorem l_left_ok {p : Int} (h : Pr p) {F : Frm} (hF : B F.1 10 ∧ B F.2.1 10 ∧ B F.2.2.1 10 ∧ B F.2.2.2.1 10 ∧ B F.2.2.2.2.1 10 ∧ B F.2.2.2.2.2 10) {t : Tri} (ht : B t.1 12 ∧ B t.2.1 12 ∧ B t.2.2 12) :
    f_l_left [.int p, frmD F, triD t] = .ok (.int (qf F t % p)) := by
  obtain ⟨f1, f2, f3, f4, f5, f6⟩ := hF
  obtain ⟨t1, t2, t3⟩ := ht
  have h3 := h.1
  have m : ∀ {x y : Int}, B x 12 → B y 12 → dMul (.int x) (.int y) = .ok (.int (x * y)) := fun hx hy => e_mul (mulOk_of hx hy (by omega))
  have m2 : ∀ {x y z : Int}, B x 10 → B y 12 → B z 12 → dMul (.int x) (.int (y * z)) = .ok (.int (x * (y * z))) := fun hx hy hz => e_mul (mulOk_of hx (hy.mul hz) (by omega))
  have l6 : ∀ a b c d e f : D, lTup [a, b, c, d, e, f] = .ok (.tup [a, b, c, d, e, f]) := fun _ _ _ _ _ _ => rfl
  have e : F.1 * (t.1 * t.1) + (F.2.1 * (t.2.1 * t.2.1) + (F.2.2.1 * (t.2.2 * t.2.2) + (F.2.2.2.1 * (t.1 * t.2.1) + (F.2.2.2.2.1 * (t.1 * t.2.2) + F.2.2.2.2.2 * (t.2.1 * t.2.2))))) = qf F t := by
    unfold qf
    grind
  simp [f_l_left, defF, frmD, frmL, triD, m t1 t1, m t2 t2, m t3 t3, m t1 t2, m t1 t3, m t2 t3, l6, xComp, iMode, compR, wipeE, PySem.sizeLine_eq, intsOf, m2 f1 t1 t1, m2 f2 t2 t2, m2 f3 t3 t3, m2 f4 t1 t2, m2 f5 t1 t3, m2 f6 t2 t3, e_mod (show 0 < p by omega), e]
theorem Told.b12 {p : Int} (h : Pr p) {t : Tri} (k : Told p t) : B t.1 12 ∧ B t.2.1 12 ∧ B t.2.2 12 := by
  obtain ⟨a, b, c⟩ := k.bits h
  exact ⟨a.mono (by omega), b.mono (by omega), c.mono (by omega)⟩
/-! ### the points of a line that are on a form -/
noncomputable def alL (p : Int) (l : Tri) : List Tri := (List.range (p.toNat + 1)).map fun (i : Nat) => al p l (i : Int)
noncomputable def shp (p : Int) (F : Frm) (l : Tri) : List Tri := (alL p l).filter fun t => decide (qf F t % p = 0)
theorem alL_told {p : Int} (h : Pr p) {l : Tri} (hl : Told p l) : ∀ t ∈ alL p l, Told p t ∧ On p l t := fun t ht => by
  have h3 := h.1
  obtain ⟨i, hi, rfl⟩ := List.mem_map.mp ht
  have := List.mem_range.mp hi
  exact al_ok h hl (by omega) (by omega)
theorem shared_of_ok {p : Int} (h : Pr p) {F : Frm} (hF : FT p F) {l : Tri} (hl : Told p l) : f_shared_of [.int p, frmD F, triD l] = .ok (.lst ((shp p F l).map triD)) := by
  have h3 := h.1
  have h4 := h.2.1
  have ro : rgOk (p + 1) = true := by
    unfold rgOk
    rw [decide_eq_true_eq]
    exact ⟨by omega, by omega⟩
  have rg : dRg1 [.int (p + 1)] = .ok (rgD 0 1 (p.toNat + 1)) := by
    have e : dRg1 [.int (p + 1)] = if rgOk (p + 1) = true then .ok (rgD 0 1 (p + 1).toNat) else .und := rfl
    rw [e, if_pos ro, show (p + 1).toNat = p.toNat + 1 by omega]
  have c1 : xComp false [4] (xAll dRg1 (xCons (x2 dAdd (xVar 0) (xC (.int 1))) xNil)) (tgN 4) bYes (xAll (callF 3 f_at_line) (xCons (xVar 0) (xCons (xVar 2) (xCons (xVar 4) xNil)))) [iv p, some (.v (frmD F)), some (.v (triD l)), none, none, none] = .ok ((alL p l).map triD) := by
    rw [e_comp (items := rgD 0 1 (p.toNat + 1)) (by simp [rg]) (by intro q; cases q) (by rw [rgD_len]; exact sz16 (by omega)), rgD_map,
      e_compY _ (fun (i : Nat) => [iv p, some (.v (frmD F)), some (.v (triD l)), none, iv (0 + (i : Int) * 1), none]) (fun (i : Nat) => triD (al p l (i : Int))) (List.range (p.toNat + 1)) (fun x _ => by simp [wipeE]) (fun x hx => by
        have := List.mem_range.mp hx
        have e := at_line_ok h hl (n := (x : Int)) (by omega) (by omega)
        simp [e])]
    unfold alL
    rw [List.map_map]
    rfl
  have c2 : xComp false [5] (xItems (xVar 3)) (tgN 5) (bBl (x2 dEq (xAll (callF 3 f_left_by) (xCons (xVar 0) (xCons (xVar 1) (xCons (xVar 5) xNil)))) (xC (.int 0)))) (xVar 5) [iv p, some (.v (frmD F)), some (.v (triD l)), some (.v (.lst ((alL p l).map triD))), none, none] = .ok ((shp p F l).map triD) := by
    rw [e_comp (items := (alL p l).map triD) (by simp) (by intro q; cases q) (by unfold alL; rw [List.length_map, List.length_map, List.length_range]; exact sz16 (by omega)),
      e_compR triD (fun t => [iv p, some (.v (frmD F)), some (.v (triD l)), some (.v (.lst ((alL p l).map triD))), none, some (.v (triD t))]) (fun t => decide (qf F t % p = 0)) triD (alL p l) (fun x _ => by simp [wipeE]) (fun t ht => by
        have e := left_ok h (hF.b h) ((alL_told h hl t ht).1.b12 h)
        simp [e]
        rfl) (fun t _ _ => by simp)]
    rfl
  simp only [f_shared_of, defF, List.length_cons, List.length_nil, List.map_cons, List.map_nil, List.replicate, Nat.reduceAdd, Nat.reduceSub, if_true, List.cons_append, List.nil_append]
  simp only [e_sSeq, e_sSet, e_xLst, c1, e_bind_ok, e_ofM_ok, e_then_nx, List.set_cons_succ, List.set_cons_zero, e_sRet, c2]
theorem l_shared4_ok {p : Int} (h : Pr p) {F : Frm} (hF : FT p F) {l : Tri} (hl : Told p l) : f_l_shared4 [.int p, frmD F, triD l] = .ok (.lst ((shp p F l).map triD)) := by
  have h3 := h.1
  have h4 := h.2.1
  have e1 := points_ok h hl
  rw [pts_eq h hl] at e1
  change f_l_points [.int p, triD l] = .ok (.lst ((alL p l).map triD)) at e1
  have c2 : xComp false [3] (xItems (xAll (callF 2 f_l_points) (xCons (xVar 0) (xCons (xVar 2) xNil)))) (tgN 3) (bBl (x2 dEq (xAll (callF 3 f_l_left) (xCons (xVar 0) (xCons (xVar 1) (xCons (xVar 3) xNil)))) (xC (.int 0)))) (xVar 3) [iv p, some (.v (frmD F)), some (.v (triD l)), none] = .ok ((shp p F l).map triD) := by
    rw [e_comp (items := (alL p l).map triD) (by simp [e1]) (by intro q; cases q) (by unfold alL; rw [List.length_map, List.length_map, List.length_range]; exact sz16 (by omega)),
      e_compR triD (fun t => [iv p, some (.v (frmD F)), some (.v (triD l)), some (.v (triD t))]) (fun t => decide (qf F t % p = 0)) triD (alL p l) (fun x _ => by simp [wipeE]) (fun t ht => by
        have e := l_left_ok h (hF.b h) ((alL_told h hl t ht).1.b12 h)
        simp [e]
        rfl) (fun t _ _ => by simp)]
    rfl
  simp only [f_l_shared4, defF, List.length_cons, List.length_nil, List.map_cons, List.map_nil, List.replicate, Nat.reduceAdd, Nat.reduceSub, if_true, List.cons_append, List.nil_append]
  simp only [e_xLst, c2, e_bind_ok, e_ofM_ok, e_sRet]
/-! ### the rest -/
def sumT (s t : Tri) : Tri := (s.1 + t.1, s.2.1 + t.2.1, s.2.2 + t.2.2)
noncomputable def rst (p : Int) (F : Frm) (l : Tri) : Int :=
  ((qf F (sumT (al p l 0) (al p l 1)) % p - qf F (al p l 0) % p - qf F (al p l 1) % p) * (qf F (sumT (al p l 0) (al p l 1)) % p - qf F (al p l 0) % p - qf F (al p l 1) % p) - 4 * (qf F (al p l 0) % p) * (qf F (al p l 1) % p)) % p
theorem sumT_b {p : Int} (h : Pr p) {s t : Tri} (hs : Told p s) (ht : Told p t) : B (sumT s t).1 12 ∧ B (sumT s t).2.1 12 ∧ B (sumT s t).2.2 12 := by
  obtain ⟨a, b, c⟩ := hs.bits h
  obtain ⟨d, e, f⟩ := ht.bits h
  exact ⟨(a.add d).mono (by omega), (b.add e).mono (by omega), (c.add f).mono (by omega)⟩
theorem rest_of_ok {p : Int} (h : Pr p) {F : Frm} (hF : FT p F) {l : Tri} (hl : Told p l) : f_rest_of [.int p, frmD F, triD l] = .ok (.int (rst p F l)) := by
  have h3 := h.1
  have h4 := h.2.1
  have a0 := at_line_ok h hl (n := 0) (by omega) (by omega)
  have a1 := at_line_ok h hl (n := 1) (by omega) (by omega)
  have t0 := (al_ok h hl (n := 0) (by omega) (by omega)).1
  have t1 := (al_ok h hl (n := 1) (by omega) (by omega)).1
  have l0 := left_ok h (hF.b h) (t0.b12 h)
  have l1 := left_ok h (hF.b h) (t1.b12 h)
  have l2 := left_ok h (hF.b h) (sumT_b h t0 t1)
  have bd : ∀ x : Int, B (x % p) 10 := fun x => by
    have u1 := Int.emod_nonneg x (show p ≠ 0 by omega)
    have u2 := Int.emod_lt_of_pos x (show 0 < p by omega)
    exact B.of (by omega) (by omega)
  unfold rst
  generalize al p l 0 = P at *
  generalize al p l 1 = Q at *
  have bq := bd (qf F (sumT P Q))
  have bP := bd (qf F P)
  have bQ := bd (qf F Q)
  generalize qf F (sumT P Q) % p = x at *
  generalize qf F P % p = y at *
  generalize qf F Q % p = w at *
  have b1 : B (x - y - w) 14 := ((bq.sub bP).sub (bQ.mono (by omega))).mono (by omega)
  have m1 := e_mul (mulOk_of b1 b1 (by omega))
  have m2 := e_mul (mulOk_of (B.lit (a := 4) (n := 3)) bP (by omega))
  have m3 := e_mul (mulOk_of ((B.lit (a := 4) (n := 3)).mul bP) bQ (by omega))
  simp only [triD, sumT] at l2 a0 a1 l0 l1 ⊢
  simp [f_rest_of, defF, a0, a1, l0, l1, xComp, iMode, compR, wipeE, PySem.sizeLine_eq, l2, m1, m2, m3, e_mod (show 0 < p by omega)]
theorem l_rest_ok {p : Int} (h : Pr p) {F : Frm} (hF : FT p F) {l : Tri} (hl : Told p l) : f_l_rest [.int p, frmD F, triD l] = .ok (.int (rst p F l)) := by
  have h3 := h.1
  have h4 := h.2.1
  have e1 := points_ok h hl
  rw [pts_eq h hl] at e1
  have t0 := (al_ok h hl (n := 0) (by omega) (by omega)).1
  have t1 := (al_ok h hl (n := 1) (by omega) (by omega)).1
  have l0 := l_left_ok h (hF.b h) (t0.b12 h)
  have l1 := l_left_ok h (hF.b h) (t1.b12 h)
  have l2 := l_left_ok h (hF.b h) (sumT_b h t0 t1)
  have bd : ∀ x : Int, B (x % p) 10 := fun x => by
    have u1 := Int.emod_nonneg x (show p ≠ 0 by omega)
    have u2 := Int.emod_lt_of_pos x (show 0 < p by omega)
    exact B.of (by omega) (by omega)
  have cut : ∃ r, (List.range (p.toNat + 1)).map (fun (i : Nat) => al p l (i : Int)) = al p l 0 :: al p l 1 :: r := by
    obtain ⟨k, hk⟩ : ∃ k, p.toNat + 1 = k + 2 := ⟨p.toNat - 1, by omega⟩
    rw [hk, List.range_succ_eq_map, List.range_succ_eq_map]
    exact ⟨_, rfl⟩
  obtain ⟨r, hr⟩ := cut
  rw [hr] at e1
  unfold rst
  generalize al p l 0 = P at *
  generalize al p l 1 = Q at *
  have bq := bd (qf F (sumT P Q))
  have bP := bd (qf F P)
  have bQ := bd (qf F Q)
  generalize qf F (sumT P Q) % p = x at *
  generalize qf F P % p = y at *
  generalize qf F Q % p = w at *
  have b1 : B (x - y - w) 14 := ((bq.sub bP).sub (bQ.mono (by omega))).mono (by omega)
  have m1 := e_mul (mulOk_of b1 b1 (by omega))
  have m2 := e_mul (mulOk_of (B.lit (a := 4) (n := 3)) bP (by omega))
  have m3 := e_mul (mulOk_of ((B.lit (a := 4) (n := 3)).mul bP) bQ (by omega))
  have c2 : ∀ (a b : D) (ds : List D), cutD (a :: b :: ds) none (some 2) = [a, b] := fun a b ds => by
    unfold cutD
    rw [show (2 : Int) = ((2 : Nat) : Int) from rfl, sIx_in _ (by simp)]
    rfl
  simp only [List.map_cons] at e1
  simp only [triD, sumT] at l2 l0 l1 e1 ⊢
  simp [f_l_rest, defF, e1, c2, l0, l1, xComp, iMode, compR, wipeE, PySem.sizeLine_eq, l2, m1, m2, m3, e_mod (show 0 < p by omega)]
end OM
set_option maxRecDepth 100000
set_option maxHeartbeats 4000000
/-! Frm2: no point on both, then the rest is no square. -/
namespace OM
open PySem L2 DI Lean.Grind
theorem io_qf {K : Type} [Field K] (F : Frm) (t : Tri) : io K (qf F t) = io K F.1 * io K t.1 * io K t.1 + io K F.2.1 * io K t.2.1 * io K t.2.1 + io K F.2.2.1 * io K t.2.2 * io K t.2.2 + io K F.2.2.2.1 * io K t.1 * io K t.2.1 + io K F.2.2.2.2.1 * io K t.1 * io K t.2.2 + io K F.2.2.2.2.2 * io K t.2.1 * io K t.2.2 := by
  simp only [qf, io_add, io_mul]
/-- u P + v Q -/
def mixT (u : Int) (P : Tri) (v : Int) (Q : Tri) : Tri := (u * P.1 + v * Q.1, u * P.2.1 + v * Q.2.1, u * P.2.2 + v * Q.2.2)
theorem qf_mix (F : Frm) (u v : Int) (P Q : Tri) : qf F (mixT u P v Q) = u * u * qf F P + u * v * (qf F (sumT P Q) - qf F P - qf F Q) + v * v * qf F Q := by
  obtain ⟨a, b, c, d, e, f⟩ := F
  obtain ⟨x, y, z⟩ := P
  obtain ⟨r, s, t⟩ := Q
  simp only [qf, mixT, sumT]
  grind
theorem qf_tol {p : Int} (F : Frm) {t : Tri} (h : Pr p) (e : qf F t % p = 0) : qf F (tol p t) % p = 0 := by
  obtain ⟨K, _, f⟩ := fld_ex h
  obtain ⟨a, b, c⟩ := tol_io f t
  rw [← f.z, io_qf] at e ⊢
  rw [a, b, c]
  grind
theorem two_nz {p : Int} {K : Type} [Field K] (h : Pr p) (f : Fld p K) : io K 2 ≠ 0 := fun e => by
  rw [f.z] at e
  have h3 := h.1
  rw [Int.emod_eq_of_lt (by decide) (by omega)] at e
  cases e
theorem mix_nz {p : Int} (h : Pr p) {P Q : Tri} (hP : Told p P) (hQ : Told p Q) (ne : P ≠ Q) {u v : Int} (hv : v % p ≠ 0) : NZ p (mixT u P v Q) := fun z => by
  obtain ⟨K, _, f⟩ := fld_ex h
  obtain ⟨z1, z2, z3⟩ := z
  rw [← f.z] at z1 z2 z3
  simp only [mixT, io_add, io_mul] at z1 z2 z3
  have hv : io K v ≠ 0 := fun e => hv ((f.z v).mp e)
  obtain ⟨a, b, c⟩ := cr_io (F := K) P Q
  have n := nz_or f (cr_nz h hP hQ ne)
  rw [a, b, c] at n
  have k : ∀ {x1 x2 y1 y2 : K}, io K u * x1 + io K v * y1 = 0 → io K u * x2 + io K v * y2 = 0 → x1 * y2 - x2 * y1 = 0 := fun {x1 x2 y1 y2} e1 e2 => by
    have : io K v * (x1 * y2 - x2 * y1) = 0 := by grind
    grind
  rcases n with n | n | n
  · exact n (k z2 z3)
  · exact n (k z3 z1)
  · exact n (k z1 z2)
theorem mix_on {p : Int} (h : Pr p) {l P Q : Tri} (u v : Int) (oP : On p l P) (oQ : On p l Q) : On p l (mixT u P v Q) := by
  obtain ⟨K, _, f⟩ := fld_ex h
  rw [on_dot f] at *
  unfold dot at *
  simp only [mixT, io_add, io_mul]
  grind
def sq (p r : Int) : Bool := (List.range p.toNat).any fun (i : Nat) => decide ((i : Int) * (i : Int) % p = r)
theorem sq_iff {p r : Int} : sq p r = true ↔ ∃ x : Int, 0 ≤ x ∧ x < p ∧ x * x % p = r := by
  unfold sq
  rw [List.any_eq_true]
  constructor
  · rintro ⟨i, hi, e⟩
    have hi := List.mem_range.mp hi
    exact ⟨i, by omega, by omega, of_decide_eq_true e⟩
  · rintro ⟨x, h0, h1, e⟩
    refine ⟨x.toNat, List.mem_range.mpr (by omega), _root_.decide_eq_true ?_⟩
    rw [show ((x.toNat : Nat) : Int) = x by omega]
    exact e
theorem no_square {p : Int} (h : Pr p) {F : Frm} {l : Tri} (hl : Told p l) (e : shp p F l = []) : sq p (rst p F l) = false := by
  have h3 := h.1
  have h4 := h.2.1
  cases q : sq p (rst p F l) with
  | false => rfl
  | true =>
    exfalso
    obtain ⟨s, s0, s1, hs⟩ := sq_iff.mp q
    obtain ⟨tP, oP⟩ := al_ok h hl (n := 0) (by omega) (by omega)
    obtain ⟨tQ, oQ⟩ := al_ok h hl (n := 1) (by omega) (by omega)
    have ne : al p l 0 ≠ al p l 1 := fun z => by
      have := al_inj l (by decide) (by decide) z
      cases this
    have on1 : ∀ i : Nat, i < p.toNat + 1 → qf F (al p l (i : Int)) % p ≠ 0 := fun i hi z => by
      have : al p l (i : Int) ∈ shp p F l := List.mem_filter.mpr ⟨List.mem_map.mpr ⟨i, List.mem_range.mpr hi, rfl⟩, _root_.decide_eq_true z⟩
      rw [e] at this
      cases this
    have nA := on1 0 (by omega)
    rw [show (((0 : Nat)) : Int) = 0 from rfl] at nA
    unfold rst at hs
    generalize al p l 0 = P at *
    generalize al p l 1 = Q at *
    obtain ⟨K, _, f⟩ := fld_ex h
    have es : io K s * io K s = (io K (qf F (sumT P Q)) - io K (qf F P) - io K (qf F Q)) * (io K (qf F (sumT P Q)) - io K (qf F P) - io K (qf F Q)) - 4 * io K (qf F P) * io K (qf F Q) := by
      have e1 := congrArg (io K) hs
      rw [f.mod, f.mod] at e1
      simp only [io_sub, io_mul, f.mod] at e1
      have e4 : io K 4 = 4 := by
        rw [show (4 : Int) = 1 + 1 + 1 + 1 from rfl]
        simp only [io_add, io_one]
        grind
      rw [e4] at e1
      exact e1
    -- the point
    have nv : (2 * qf F P) % p ≠ 0 := fun z => by
      rcases h.mul z with z | z
      · exact two_nz h f ((f.z 2).mpr z)
      · exact nA z
    have hz : qf F (mixT (s - (qf F (sumT P Q) - qf F P - qf F Q)) P (2 * qf F P) Q) % p = 0 := by
      rw [← f.z, qf_mix]
      have e2 : io K 2 = 2 := by
        rw [show (2 : Int) = 1 + 1 from rfl]
        simp only [io_add, io_one]
        grind
      simp only [io_add, io_sub, io_mul, e2]
      grind
    have hn := mix_nz h tP tQ ne (u := s - (qf F (sumT P Q) - qf F P - qf F Q)) nv
    have ho := mix_on h (s - (qf F (sumT P Q) - qf F P - qf F Q)) (2 * qf F P) oP oQ
    generalize mixT (s - (qf F (sumT P Q) - qf F P - qf F Q)) P (2 * qf F P) Q = R at *
    have tR := (tol_told h hn).1
    have oR := tol_on ho
    obtain ⟨n1, n2, n3⟩ := al_num h hl tR oR
    have hR := on1 (numOn p l (tol p R)).toNat (by omega)
    rw [show (((numOn p l (tol p R)).toNat : Nat) : Int) = numOn p l (tol p R) by omega, n1] at hR
    exact hR (qf_tol F h hz)
/-! ### squares as the program and the law look for them -/
theorem is_square_ok {p : Int} (h : Pr p) (r : Int) : f_is_square [.int p, .int r] = .ok (.bl (sq p r)) := by
  have h3 := h.1
  have h4 := h.2.1
  have ro : rgOk p = true := by
    unfold rgOk
    rw [decide_eq_true_eq]
    exact ⟨by omega, by omega⟩
  have rg : dRg1 [.int p] = .ok (rgD 0 1 p.toNat) := by
    have e : dRg1 [.int p] = if rgOk p = true then .ok (rgD 0 1 p.toNat) else .und := rfl
    rw [e, if_pos ro]
  have c1 : xComp false [2] (xAll dRg1 (xCons (xVar 0) xNil)) (tgN 2) bYes (x2 dEq (x2 dMod (x2 dMul (xVar 2) (xVar 2)) (xVar 0)) (xVar 1)) [iv p, iv r, none] = .ok (((List.range p.toNat).map fun (i : Nat) => decide ((i : Int) * (i : Int) % p = r)).map D.bl) := by
    rw [e_comp (items := rgD 0 1 p.toNat) (by simp [rg]) (by intro q; cases q) (by rw [rgD_len]; exact sz16 (by omega)), rgD_map,
      e_compY _ (fun (i : Nat) => [iv p, iv r, iv (0 + (i : Int) * 1)]) (fun (i : Nat) => D.bl (decide ((i : Int) * (i : Int) % p = r))) (List.range p.toNat) (fun x _ => by simp [wipeE]) (fun x hx => by
        have := List.mem_range.mp hx
        have bx : B (x : Int) 10 := B.of (by omega) (by omega)
        simp [e_mul (mulOk_of bx bx (by omega)), e_mod (show 0 < p by omega)]
        rfl), List.map_map]
    rfl
  have e2 : ((List.range p.toNat).map fun (i : Nat) => decide ((i : Int) * (i : Int) % p = r)).any id = sq p r := by
    rw [List.any_map]
    rfl
  simp only [f_is_square, defF, List.length_cons, List.length_nil, List.map_cons, List.map_nil, List.replicate, Nat.reduceAdd, Nat.reduceSub, if_true, List.cons_append, List.nil_append]
  simp only [e_sRet, e_xAll, e_xCons, e_xNil, e_xLst, c1, e_bind_ok, e_any, blsOf_map, e_ofO_some, e_ofM_ok, e2]
theorem okIs : ∀ ts : List Int, isDs (ts.map D.int) = true ∧ PyData.canLayAll0 (toPs (ts.map D.int)) = true ∧ PyData.depthAll (toPs (ts.map D.int)) ≤ 3
  | [] => ⟨rfl, rfl, by decide⟩
  | t :: r => by
    obtain ⟨a, b, c⟩ := okIs r
    rw [List.map_cons]
    refine ⟨by rw [isDs, a]; rfl, by rw [toPs, PyData.canLayAll0, b]; rfl, ?_⟩
    rw [toPs, PyData.depthAll]
    have : (D.int t).toP.depth ≤ 3 := by
      simp [D.toP, PyData.depth]
    omega
theorem okLI (ts : List Int) : (D.lst (ts.map D.int)).ok = true := by
  obtain ⟨a, b, c⟩ := okIs ts
  unfold D.ok SeqAt.shaped
  rw [D.isD, a, D.toP, PyData.canLay0, b, PyData.depth]
  simp
  omega
theorem okTI (ts : List Int) : (D.tup (ts.map D.int)).ok = true := by
  obtain ⟨a, b, c⟩ := okIs ts
  unfold D.ok SeqAt.shaped
  rw [D.isD, a, D.toP, PyData.canLay0, b, PyData.depth]
  simp
  omega
theorem dInI (ts : List Int) (t : Int) : dIn (.int t) (.lst (ts.map D.int)) = .ok (.bl (decide (t ∈ ts))) := by
  have e : ((toPs (ts.map D.int)).any fun z => PyData.eqv z (D.int t).toP) = decide (t ∈ ts) := by
    induction ts with
    | nil => rfl
    | cons u r ih =>
      rw [List.map_cons, toPs, List.any_cons, ih]
      have : PyData.eqv (D.int u).toP (D.int t).toP = decide (u = t) := rfl
      rw [this]
      simp only [List.mem_cons, Bool.decide_or, eq_comm]
  unfold dIn
  rw [okLI, ← e]
  rfl
theorem l_square_ok {p : Int} (h : Pr p) (r : Int) : f_l_square [.int p, .int r] = .ok (.bl (sq p r)) := by
  have h3 := h.1
  have h4 := h.2.1
  have ro : rgOk (p / 2 + 1) = true := by
    unfold rgOk
    rw [decide_eq_true_eq]
    exact ⟨by omega, by omega⟩
  have rg : dRg1 [.int (p / 2 + 1)] = .ok (rgD 0 1 (p / 2 + 1).toNat) := by
    have e : dRg1 [.int (p / 2 + 1)] = if rgOk (p / 2 + 1) = true then .ok (rgD 0 1 (p / 2 + 1).toNat) else .und := rfl
    rw [e, if_pos ro]
  have c1 : xComp false [2] (xAll dRg1 (xCons (x2 dAdd (x2 dFdiv (xVar 0) (xC (.int 2))) (xC (.int 1))) xNil)) (tgN 2) bYes (x2 dMod (x2 dMul (xVar 2) (xVar 2)) (xVar 0)) [iv p, iv r, none] = .ok (((List.range (p / 2 + 1).toNat).map fun (i : Nat) => (i : Int) * (i : Int) % p).map D.int) := by
    rw [e_comp (items := rgD 0 1 (p / 2 + 1).toNat) (by simp [e_fdiv (show (0 : Int) < 2 by decide) (by decide), rg]) (by intro q; cases q) (by rw [rgD_len]; exact sz16 (by omega)), rgD_map,
      e_compY _ (fun (i : Nat) => [iv p, iv r, iv (0 + (i : Int) * 1)]) (fun (i : Nat) => D.int ((i : Int) * (i : Int) % p)) (List.range (p / 2 + 1).toNat) (fun x _ => by simp [wipeE]) (fun x hx => by
        have := List.mem_range.mp hx
        have bx : B (x : Int) 10 := B.of (by omega) (by omega)
        simp [e_mul (mulOk_of bx bx (by omega)), e_mod (show 0 < p by omega)]), List.map_map]
    rfl
  have e2 : decide (r ∈ ((List.range (p / 2 + 1).toNat).map fun (i : Nat) => (i : Int) * (i : Int) % p)) = sq p r := by
    rcases Bool.eq_false_or_eq_true (sq p r) with q | q
    · rw [q]
      refine _root_.decide_eq_true ?_
      obtain ⟨x, x0, x1, e⟩ := sq_iff.mp q
      by_cases hx : x ≤ p / 2
      · exact List.mem_map.mpr ⟨x.toNat, List.mem_range.mpr (by omega), by rw [show ((x.toNat : Nat) : Int) = x by omega]; exact e⟩
      · refine List.mem_map.mpr ⟨(p - x).toNat, List.mem_range.mpr (by omega), ?_⟩
        rw [show (((p - x).toNat : Nat) : Int) = p - x by omega, ← e]
        apply Int.emod_eq_emod_iff_emod_sub_eq_zero.mpr
        rw [show (p - x) * (p - x) - x * x = p * (p - 2 * x) by grind]
        exact Int.mul_emod_right _ _
    · rw [q]
      refine decide_eq_false fun z => ?_
      obtain ⟨i, hi, e⟩ := List.mem_map.mp z
      have hi := List.mem_range.mp hi
      have : sq p r = true := sq_iff.mpr ⟨i, by omega, by omega, e⟩
      rw [q] at this
      cases this
  simp only [f_l_square, defF, List.length_cons, List.length_nil, List.map_cons, List.map_nil, List.replicate, Nat.reduceAdd, Nat.reduceSub, if_true, List.cons_append, List.nil_append]
  simp only [e_sRet, e_x2, e_xVar, List.getElem?_cons_succ, List.getElem?_cons_zero, e_bind_ok, e_xLst, c1, dInI, e_ofM_ok, e2]
/-! ### told lists -/
theorem tolL_told {p : Int} (h : Pr p) {v : List Int} (hn : nzs p v ≠ []) : ToldL p (tolL p v) ∧ (tolL p v).length = v.length := by
  have h3 := h.1
  cases q : nzs p v with
  | nil => exact absurd q hn
  | cons f r =>
    have hf := nzs_mem (p := p) (v := v) (x := f) (by rw [q]; exact List.mem_cons_self)
    have hi := inv_is h (n := f) (by rw [hf.2]; omega)
    have e : tolL p v = v.map fun x => x * inv p f % p := by
      unfold tolL
      rw [q]
    rw [e]
    refine ⟨⟨fun x hx => ?_, ?_⟩, List.length_map _⟩
    · obtain ⟨y, _, rfl⟩ := List.mem_map.mp hx
      exact ⟨Int.emod_nonneg _ (by omega), Int.emod_lt_of_pos _ (by omega)⟩
    · clear e hn
      induction v with
      | nil => cases q
      | cons x v ih =>
        by_cases hx : x % p = 0
        · have e1 : nzs p (x :: v) = nzs p v := by
            unfold nzs
            rw [List.filter_cons_of_neg (by rw [hx]; decide)]
          rw [e1] at q
          obtain ⟨r', hr⟩ := ih q
          refine ⟨r', ?_⟩
          rw [List.map_cons, List.filter_cons_of_neg (by rw [z_mul hx]; decide)]
          exact hr
        · have p0 : 0 < x % p := by
            have := Int.emod_nonneg x (show p ≠ 0 by omega)
            omega
          have e1 : nzs p (x :: v) = x % p :: nzs p v := by
            unfold nzs
            rw [List.filter_cons_of_pos (by simpa using p0), List.map_cons]
          rw [e1] at q
          cases q
          have e2 : x * inv p (x % p) % p = 1 := by
            rw [← emod_mul_emod]
            exact hi.2.2
          rw [List.map_cons, List.filter_cons_of_pos (by rw [e2]; decide), e2]
          exact ⟨_, rfl⟩
theorem len6 {v : List Int} (h : v.length = 6) : ∃ F : Frm, v = frmL F := by
  match v, h with
  | [a, b, c, d, e, f], _ => exact ⟨(a, b, c, d, e, f), rfl⟩
theorem nzs_of {p x : Int} (hp : 0 < p) {v : List Int} (hx : x ∈ v) (hn : x % p ≠ 0) : nzs p v ≠ [] := fun e => by
  have : x % p ∈ nzs p v := List.mem_map.mpr ⟨x, List.mem_filter.mpr ⟨hx, _root_.decide_eq_true (by have := Int.emod_nonneg x (show p ≠ 0 by omega); omega)⟩, rfl⟩
  rw [e] at this
  cases this
end OM
set_option maxRecDepth 100000
set_option maxHeartbeats 2000000
/-! Lin: five rows of six numbers brought to steps. -/
namespace OM
open PySem L2 DI Lean.Grind
abbrev Row := Nat → Int
def ur (r : Nat → Row) (a : Nat) (f : Row) : Nat → Row := fun j => if j = a then f else r j
def S6 {K : Type} [Field K] (t : Nat → K) : K := t 0 + t 1 + t 2 + t 3 + t 4 + t 5
def d6 (K : Type) [Field K] (f v : Row) : K := S6 fun d => io K (f d) * io K (v d)
section
variable {K : Type} [Field K]
theorem S6_congr {t u : Nat → K} (h : ∀ d, d < 6 → t d = u d) : S6 t = S6 u := by
  unfold S6
  rw [h 0 (by decide), h 1 (by decide), h 2 (by decide), h 3 (by decide), h 4 (by decide), h 5 (by decide)]
theorem S6_add (t u : Nat → K) : S6 (fun d => t d + u d) = S6 t + S6 u := by
  unfold S6
  grind
theorem S6_zero : S6 (fun _ => (0 : K)) = 0 := by
  unfold S6
  grind
theorem S6_one {a : Nat} (h : a < 6) (x : K) : S6 (fun d => if d = a then x else 0) = x := by
  have : a = 0 ∨ a = 1 ∨ a = 2 ∨ a = 3 ∨ a = 4 ∨ a = 5 := by omega
  unfold S6
  rcases this with rfl | rfl | rfl | rfl | rfl | rfl <;> simp <;> grind
theorem d6_scale {f g v : Row} {s : K} (h : ∀ d, io K (g d) = io K (f d) * s) : d6 K g v = d6 K f v * s := by
  unfold d6 S6
  simp only [h]
  grind
theorem d6_sub {f g e v : Row} {s : K} (h : ∀ d, io K (g d) = io K (f d) - s * io K (e d)) : d6 K g v = d6 K f v - s * d6 K e v := by
  unfold d6 S6
  simp only [h]
  grind
structure Inv6 (K : Type) [Field K] (r0 : Nat → Row) (c : Nat) (r : Nat → Row) (P : List Nat) : Prop where
  b : ∀ j d, B (r j d) 22
  len : P.length ≤ 5
  lt : ∀ x ∈ P, x < c
  nd : P.Nodup
  piv : ∀ (k q : Nat), P[k]? = some q → ∀ j, j < 5 → io K (r j q) = if j = k then 1 else 0
  zer : ∀ d, d < c → d ∉ P → ∀ j, P.length ≤ j → j < 5 → io K (r j d) = 0
  sol : ∀ v : Row, (∀ j, j < 5 → d6 K (r j) v = 0) → ∀ j, j < 5 → d6 K (r0 j) v = 0
theorem inv6_start {r0 : Nat → Row} (h : ∀ j d, B (r0 j d) 22) : Inv6 K r0 0 r0 [] :=
  ⟨h, by decide, (fun x hx => by cases hx), List.nodup_nil, (fun k q e => by simp at e), (fun d hd => by omega), fun v hv => hv⟩
theorem inv6_skip {r0 r : Nat → Row} {c : Nat} {P : List Nat} (I : Inv6 K r0 c r P) (h : ∀ j, P.length ≤ j → j < 5 → io K (r j c) = 0) : Inv6 K r0 (c + 1) r P :=
  ⟨I.b, I.len, fun x hx => Nat.lt_succ_of_lt (I.lt x hx), I.nd, I.piv, fun d hd hn j h1 h2 => by
    by_cases e : d = c
    · rw [e]; exact h j h1 h2
    · exact I.zer d (by omega) hn j h1 h2, I.sol⟩
/-- the two rows exchanged -/
def rw1 (r : Nat → Row) (a j0 : Nat) : Nat → Row := ur (ur r a (r j0)) j0 (r a)
def rw2 (p : Int) (r : Nat → Row) (a j0 : Nat) (i : Int) : Nat → Row := ur (rw1 r a j0) a fun d => rw1 r a j0 a d * i % p
/-- .. and the column cleared in the first n rows -/
def rw3 (p : Int) (r : Nat → Row) (a j0 c : Nat) (i : Int) (n : Nat) : Nat → Row := fun j => if j < n ∧ j ≠ a then fun d => (rw2 p r a j0 i j d - rw2 p r a j0 i j c * rw2 p r a j0 i a d) % p else rw2 p r a j0 i j
theorem rw1_at (r : Nat → Row) (a j0 : Nat) : rw1 r a j0 a = r j0 := by
  unfold rw1 ur
  by_cases e : a = j0
  · subst e; simp
  · simp [e]
theorem rw1_ne (r : Nat → Row) {a j0 j : Nat} (h : j ≠ a) : rw1 r a j0 j = if j = j0 then r a else r j := by
  unfold rw1 ur
  by_cases e : j = j0
  · simp [e]
  · simp [e, h]
theorem rw2_at (p : Int) (r : Nat → Row) (a j0 : Nat) (i : Int) (d : Nat) : rw2 p r a j0 i a d = r j0 d * i % p := by
  unfold rw2 ur
  rw [if_pos rfl, rw1_at]
theorem rw2_ne (p : Int) (r : Nat → Row) {a j0 j : Nat} (i : Int) (h : j ≠ a) : rw2 p r a j0 i j = if j = j0 then r a else r j := by
  unfold rw2
  rw [show ur (rw1 r a j0) a (fun d => rw1 r a j0 a d * i % p) j = rw1 r a j0 j from if_neg h, rw1_ne r h]
theorem inv6_piv {p : Int} (h : Pr p) (f : Fld p K) {r0 r : Nat → Row} {c j0 : Nat} {i : Int} {P : List Nat} (I : Inv6 K r0 c r P) (h1 : P.length ≤ j0) (h2 : j0 < 5) (hi : io K (r j0 c) * io K i = 1) :
    Inv6 K r0 (c + 1) (rw3 p r P.length j0 c i 5) (P ++ [c]) := by
  have h3 := h.1
  have h4 := h.2.1
  have mb : ∀ x : Int, B (x % p) 22 := fun x => by
    have u1 := Int.emod_nonneg x (show p ≠ 0 by omega)
    have u2 := Int.emod_lt_of_pos x (show 0 < p by omega)
    exact B.of (by omega) (by omega)
  -- the rows in the field
  have eA : ∀ d, io K (rw3 p r P.length j0 c i 5 P.length d) = io K (r j0 d) * io K i := fun d => by
    unfold rw3
    rw [if_neg (fun z => z.2 rfl), rw2_at, f.mod, io_mul]
  have eJ : ∀ j, j < 5 → j ≠ P.length → ∀ d, io K (rw3 p r P.length j0 c i 5 j d) = io K ((if j = j0 then r P.length else r j) d) - io K ((if j = j0 then r P.length else r j) c) * (io K (r j0 d) * io K i) := fun j hj hn d => by
    unfold rw3
    rw [if_pos ⟨hj, hn⟩, f.mod, io_sub, io_mul, rw2_at, f.mod, io_mul, rw2_ne p r i hn]
  have ne0 : io K (r j0 c) ≠ 0 := fun z => by
    rw [z] at hi
    grind
  refine ⟨fun j d => ?_, ?_, fun x hx => ?_, ?_, fun k q e j hj => ?_, fun d hd hn j hj1 hj2 => ?_, fun v hv => I.sol v ?_⟩
  · unfold rw3
    by_cases q : j < 5 ∧ j ≠ P.length
    · rw [if_pos q]; exact mb _
    · rw [if_neg q]
      by_cases e : j = P.length
      · rw [e, rw2_at]; exact mb _
      · rw [rw2_ne p r i e]
        split
        · exact I.b _ _
        · exact I.b _ _
  · rw [List.length_append, List.length_singleton]
    omega
  · rcases List.mem_append.mp hx with z | z
    · exact Nat.lt_succ_of_lt (I.lt x z)
    · rw [List.mem_singleton.mp z]; exact Nat.lt_succ_self c
  · refine List.nodup_append.mpr ⟨I.nd, by simp, fun x hx y hy => ?_⟩
    rw [List.mem_singleton.mp hy]
    have := I.lt x hx
    omega
  · by_cases hk : k < P.length
    · rw [List.getElem?_append_left hk] at e
      have z0 : io K (r j0 q) = 0 := by
        rw [I.piv k q e j0 h2, if_neg (by omega)]
      by_cases ja : j = P.length
      · rw [ja, eA, z0, if_neg (by omega)]
        grind
      · rw [eJ j hj ja, z0]
        by_cases jj : j = j0
        · rw [if_pos jj, I.piv k q e P.length (by omega), if_neg (by omega), if_neg (by omega)]
          grind
        · rw [if_neg jj, I.piv k q e j hj]
          grind
    · have hk' : k = P.length := by
        have := (List.getElem?_eq_some_iff.mp e).1
        rw [List.length_append, List.length_singleton] at this
        omega
      subst hk'
      rw [List.getElem?_append_right (Nat.le_refl _), Nat.sub_self] at e
      have : q = c := by simpa using e.symm
      subst this
      by_cases ja : j = P.length
      · rw [ja, eA, hi, if_pos rfl]
      · rw [eJ j hj ja, hi, if_neg ja]
        grind
  · rw [List.length_append, List.length_singleton] at hj1
    have hn1 : d ∉ P := fun z => hn (List.mem_append_left _ z)
    have hn2 : d ≠ c := fun z => hn (List.mem_append_right _ (by rw [z]; exact List.mem_singleton.mpr rfl))
    have zd := I.zer d (by omega) hn1
    rw [eJ j hj2 (by omega), zd j0 h1 h2]
    by_cases jj : j = j0
    · rw [if_pos jj, zd P.length (Nat.le_refl _) (by omega)]
      grind
    · rw [if_neg jj, zd j (by omega) hj2]
      grind
  · have vA := hv P.length (by omega)
    rw [d6_scale eA] at vA
    have v0 : d6 K (r j0) v = 0 := by
      have : d6 K (r j0) v * io K i * io K (r j0 c) = 0 := by rw [vA]; grind
      grind
    have vJ : ∀ j, j < 5 → j ≠ P.length → d6 K (if j = j0 then r P.length else r j) v = 0 := fun j hj hn => by
      have e := hv j hj
      have e2 : d6 K (rw3 p r P.length j0 c i 5 j) v = d6 K (if j = j0 then r P.length else r j) v - (io K ((if j = j0 then r P.length else r j) c) * io K i) * d6 K (r j0) v := d6_sub fun d => by
        rw [eJ j hj hn d]
        grind
      rw [e2, v0] at e
      grind
    intro j hj
    by_cases jj : j = j0
    · rw [jj]; exact v0
    · by_cases ja : j = P.length
      · have := vJ j0 h2 (by omega)
        rw [if_pos rfl] at this
        rw [ja]; exact this
      · have := vJ j hj ja
        rw [if_neg jj] at this
        exact this
theorem inv6_end {r0 r : Nat → Row} {P : List Nat} (I : Inv6 K r0 6 r P) {fr : Nat} (h1 : fr < 6) (h2 : fr ∉ P) {v : Row} (v1 : io K (v fr) = 1) (v2 : ∀ (k q : Nat), P[k]? = some q → io K (v q) = -io K (r k fr)) (v3 : ∀ d, d < 6 → d ∉ P → d ≠ fr → io K (v d) = 0) :
    ∀ j, j < 5 → d6 K (r0 j) v = 0 := by
  refine I.sol v fun j hj => ?_
  unfold d6
  have mem : ∀ d, d ∈ P → ∃ k, k < P.length ∧ P[k]? = some d := fun d hd => by
    obtain ⟨k, hk, e⟩ := List.mem_iff_getElem.mp hd
    exact ⟨k, hk, by rw [List.getElem?_eq_getElem hk, e]⟩
  by_cases hjp : j < P.length
  · have eq : P[j]? = some P[j] := List.getElem?_eq_getElem hjp
    have hq6 : P[j] < 6 := I.lt _ (List.getElem_mem hjp)
    have hqf : P[j] ≠ fr := fun z => h2 (by rw [← z]; exact List.getElem_mem hjp)
    have e := S6_congr (t := fun d => io K (r j d) * io K (v d)) (u := fun d => (if d = P[j] then io K (v P[j]) else 0) + (if d = fr then io K (r j fr) else 0)) fun d hd => by
      by_cases df : d = fr
      · rw [df, v1, if_neg (fun z => hqf z.symm), if_pos rfl]
        grind
      · by_cases dp : d ∈ P
        · obtain ⟨k, hk, ek⟩ := mem d dp
          try dsimp only
          rw [I.piv k d ek j hj, if_neg df]
          by_cases jk : j = k
          · subst jk
            rw [eq] at ek
            have : P[j] = d := Option.some.inj ek
            rw [if_pos rfl, if_pos this.symm, this]
            grind
          · have : d ≠ P[j] := fun z => jk (by
              have e1 : P[k]? = P[j]? := by rw [ek, eq, z]
              exact ((List.getElem?_inj hk I.nd).mp e1).symm)
            rw [if_neg jk, if_neg this]
            grind
        · try dsimp only
          rw [v3 d hd dp df, if_neg df, if_neg (fun z => dp (by rw [z]; exact List.getElem_mem hjp))]
          grind
    rw [e, S6_add, S6_one hq6, S6_one h1, v2 j P[j] eq]
    grind
  · have e := S6_congr (t := fun d => io K (r j d) * io K (v d)) (u := fun _ => 0) fun d hd => by
      by_cases dp : d ∈ P
      · obtain ⟨k, hk, ek⟩ := mem d dp
        try dsimp only
        rw [I.piv k d ek j hj, if_neg (by omega)]
        grind
      · try dsimp only
        by_cases df : d = fr
        · rw [I.zer d hd dp j (by omega) hj]
          grind
        · rw [v3 d hd dp df]
          grind
    rw [e, S6_zero]
end
end OM
set_option maxRecDepth 100000
set_option maxHeartbeats 4000000
/-! Law4: what is shared. -/
namespace OM
open PySem L2 DI
theorem eqvAllT : ∀ (ts us : List Tri), PyData.eqvAll (toPs (ts.map triD)) (toPs (us.map triD)) = decide (ts = us)
  | [], [] => rfl
  | [], _ :: _ => rfl
  | _ :: _, [] => rfl
  | t :: ts, u :: us => by
    rw [List.map_cons, List.map_cons, toPs, toPs, PyData.eqvAll, eqT, eqvAllT ts us]
    by_cases a : t = u <;> by_cases b : ts = us <;> simp [a, b]
theorem dEqLT (ts us : List Tri) : dEq (.lst (ts.map triD)) (.lst (us.map triD)) = .ok (.bl (decide (ts = us))) := by
  unfold dEq
  rw [okLT, okLT, ← eqvAllT]
  rfl
theorem dNeLT (ts us : List Tri) : dNe (.lst (ts.map triD)) (.lst (us.map triD)) = .ok (.bl (!decide (ts = us))) := by
  unfold dNe
  rw [okLT, okLT, ← eqvAllT]
  rfl
theorem dNeL0 (ts : List Tri) : dNe (.lst (ts.map triD)) (.lst []) = .ok (.bl (!decide (ts = []))) := dNeLT ts []
theorem shL (p : Int) (F : Frm) (l : Tri) (h4 : p ≤ 997) : (shp p F l).length ≤ 1000 := by
  unfold shp
  refine Nat.le_trans (List.length_filter_le _ _) ?_
  unfold alL
  rw [List.length_map, List.length_range]
  omega
theorem shared_ok (z : Adr) {p : Int} (h : Pr p) {F : Frm} (hF : FT p F) {l : Tri} (hl : Told p l) :
    f_shared z [.int p, frmD F, triD l] = if shp p F l = [] then .ok (.d (.ins z.Apart ["rest"] [.int (rst p F l)])) else .ok (.i z.Shared "points" ((shp p F l).map triD)) := by
  have e1 := check_prime_ok z h
  have e2 := is_told_F hF
  have e3 := check_line_ok z h hl
  have e4 := shared_of_ok h hF hl
  have e5 := rest_of_ok h hF hl
  by_cases q : shp p F l = []
  · rw [q] at e4
    simp [f_shared, defO, e1, e2, e3, e4, e5, q]
  · have hp : 0 < (shp p F l).length := List.length_pos_iff.mpr q
    simp [f_shared, defO, e1, e2, e3, e4, q, hp]
theorem Shared_shows_ok (z : Adr) {p : Int} (h : Pr p) {F : Frm} (hF : FT p F) {l : Tri} (hl : Told p l) (ps : List Tri) :
    f_Shared_shows z [.ins z.Shared ["points"] [.lst (ps.map triD)], .int p, frmD F, triD l] = .ok (.bl (!decide (ps = []) && decide (ps = shp p F l))) := by
  have e4 := shared_of_ok h hF hl
  by_cases q : ps = []
  · subst q
    simp [f_Shared_shows, defF]
  · have hp : 0 < ps.length := List.length_pos_iff.mpr q
    simp [f_Shared_shows, defF, e4, hp, dEqLT, q]
theorem Apart_shows_ok (z : Adr) {p : Int} (h : Pr p) {F : Frm} (hF : FT p F) {l : Tri} (hl : Told p l) (r : Int) :
    f_Apart_shows z [.ins z.Apart ["rest"] [.int r], .int p, frmD F, triD l] = .ok (.bl (decide (r = rst p F l) && !sq p r)) := by
  have e5 := rest_of_ok h hF hl
  have e6 := is_square_ok h r
  by_cases q : r = rst p F l
  · simp [f_Apart_shows, defF, f_is_whole, e5, e6, q]
    rw [← q, e6]
    simp
  · simp [f_Apart_shows, defF, f_is_whole, e5, q]
theorem due4_s (z : Adr) (k : KitOk z) {p : Int} (h : Pr p) {F : Frm} (hF : FT p F) {l : Tri} (hl : Told p l) (ps : List Tri) : f_l_due4 z [.int p, frmD F, triD l, .ins z.Shared ["points"] [.lst (ps.map triD)]] = .ok (.bl (!decide (ps = []) && decide (ps = shp p F l))) := by
  obtain ⟨k00, k01, k02, k03, k04, k10, k11, k12, k13, k14, k20, k21, k22, k23, k24, k30, k31, k32, k33, k34⟩ := k
  have i2 := fun (ns : List Str) (xs : List D) => e_isC (cs := [z.Oval, z.InLine, z.Shared, z.Apart]) (ns := ns) (xs := xs) (by simp) k22
  have e4 := l_shared4_ok h hF hl
  by_cases q : ps = []
  · subst q
    have d0 : dNe (.lst []) (.lst []) = .ok (.bl false) := by rfl
    simp [f_l_due4, defF, i2, d0]
  · simp [f_l_due4, defF, i2, dNeL0, e4, dEqLT, q]
theorem due4_a (z : Adr) (k : KitOk z) {p : Int} (h : Pr p) {F : Frm} (hF : FT p F) {l : Tri} (hl : Told p l) (r : Int) : f_l_due4 z [.int p, frmD F, triD l, .ins z.Apart ["rest"] [.int r]] = .ok (.bl (decide (r = rst p F l) && !sq p r)) := by
  obtain ⟨k00, k01, k02, k03, k04, k10, k11, k12, k13, k14, k20, k21, k22, k23, k24, k30, k31, k32, k33, k34⟩ := k
  have i2 := fun (ns : List Str) (xs : List D) => e_isC (cs := [z.Oval, z.InLine, z.Shared, z.Apart]) (ns := ns) (xs := xs) (by simp) k32
  have e5 := l_rest_ok h hF hl
  have e6 := l_square_ok h r
  by_cases q : r = rst p F l
  · simp [f_l_due4, defF, i2, e5, e6, q]
    rw [← q, e6]
    simp
  · simp [f_l_due4, defF, i2, e5, q]
theorem cs_ne (z : Adr) (k : KitOk z) : z.Apart ≠ z.Shared := by
  obtain ⟨k00, k01, k02, k03, k04, k10, k11, k12, k13, k14, k20, k21, k22, k23, k24, k30, k31, k32, k33, k34⟩ := k
  intro e
  rw [e, k22] at k32
  cases k32
theorem says_ok (a b : Bool) : f_l_says [.bl a, .bl b] = .ok (.bl (a == b)) := by
  simp [f_l_says, defF]
theorem whole_ok (r : Int) : f_l_whole [.int r] = .ok (.bl true) := by
  simp [f_l_whole, defF]
end OM
set_option maxRecDepth 100000
set_option maxHeartbeats 4000000
/-! Thr: the form through five points. -/
namespace OM
open PySem L2 DI Lean.Grind
abbrev thE : Ev → S := (sIf (bBl (x2 dNe (xVar 10) (xVar 7))) (sSeq (sSet 15 (x2 dIx (xIxO 2 (xVar 10)) (xVar 4)))
  (sSetIx 2 (xVar 10) (xLst (xComp false [14, 16] (xAll dZip (xCons (xIxO 2 (xVar 10)) (xCons (xIxO 2 (xVar 7)) xNil))) (tgT 2 (tgCons (tgN 14) (tgCons (tgN 16) tgNil))) bYes (x2 dMod (x2 dSub (xVar 14) (x2 dMul (xVar 15) (xVar 16))) (xVar 0)))))) sNil)
abbrev thU1 : Ev → S := (sSwap 2 (xVar 7) (x2 dIx (xVar 8) (xC (.int 0))) (xIxO 2 (x2 dIx (xVar 8) (xC (.int 0)))) (xIxO 2 (xVar 7)))
abbrev thU2 : Ev → S := (sSet 9 (xAll (callF 2 f_turned) (xCons (xVar 0) (xCons (x2 dIx (xIxO 2 (xVar 7)) (xVar 4)) xNil))))
abbrev thU3 : Ev → S := (sSetIx 2 (xVar 7) (xLst (xComp false [14] (xItems (xIxO 2 (xVar 7))) (tgN 14) bYes (x2 dMod (x2 dMul (xVar 14) (xVar 9)) (xVar 0)))))
abbrev thU5 : Ev → S := (sApp 3 (xVar 4))
abbrev thT1 : Ev → S := (sSet 7 (xFlat (xAll dLen (xCons (xOwn 3) xNil))))
abbrev thT2 : Ev → S := (sSet 8 (xLst (xComp false [10] (xAll dRg2 (xCons (xVar 7) (xCons (xC (.int 5)) xNil))) (tgN 10) (bBl (x2 dNe (x2 dMod (x2 dIx (xIxO 2 (xVar 10)) (xVar 4)) (xVar 0)) (xC (.int 0)))) (xVar 10))))
abbrev thB : Ev → S := (sSeq thT1 (sSeq thT2 (sIf (bBl (x2 dGt (xAll dLen (xCons (xVar 8) xNil)) (xC (.int 0)))) (sSeq thU1 (sSeq thU2 (sSeq thU3 (sSeq (sFor (xAll dRg1 (xCons (xC (.int 5)) xNil)) (tgN 10) thE) thU5)))) sNil)))
abbrev thA1 : Ev → S := (sOwn 2 (xComp false [11, 12, 13] (xItems (xVar 1)) (tgT 3 (tgCons (tgN 11) (tgCons (tgN 12) (tgCons (tgN 13) tgNil)))) bYes (xLst (xAll lLst (xCons (x2 dMul (xVar 11) (xVar 11)) (xCons (x2 dMul (xVar 12) (xVar 12)) (xCons (x2 dMul (xVar 13) (xVar 13)) (xCons (x2 dMul (xVar 11) (xVar 12)) (xCons (x2 dMul (xVar 11) (xVar 13)) (xCons (x2 dMul (xVar 12) (xVar 13)) xNil))))))))))
abbrev thA2 : Ev → S := (sOwn 3 (xAll lLst xNil))
abbrev thZ1 : Ev → S := (sFrz 3 (sSet 5 (x2 dIx (xLst (xComp false [4] (xAll dRg1 (xCons (xC (.int 6)) xNil)) (tgN 4) (bBl (x2 dNotIn (xVar 4) (xVar 3))) (xVar 4))) (xC (.int 0)))))
abbrev thZ2 : Ev → S := (sOwn 6 (fun ρ => ((xLst (xAll lLst (xCons (xC (.int 0)) xNil))) ρ).bind fun x => ((xC (.int 6)) ρ).bind fun y => dRep x y))
abbrev thZ3 : Ev → S := (sSetIx 6 (xVar 5) (xC (.int 1)))
abbrev thF : Ev → S := (sSetIx 6 (xVar 4) (x1 dNeg (x2 dIx (xIxO 2 (xVar 7)) (xVar 5))))
abbrev thZ5 : Ev → S := (sFrz 6 (sRet (xAll (callF 2 f_told_of) (xCons (xVar 0) (xCons (xVar 6) xNil)))))
theorem through_eq : f_through = defF false 2 17 (sSeq thA1 (sSeq thA2 (sSeq (sFor (xAll dRg1 (xCons (xC (.int 6)) xNil)) (tgN 4) thB) (sSeq thZ1 (sSeq thZ2 (sSeq thZ3 (sSeq (sFor (xAll dEnum (xCons (xVar 3) xNil)) (tgT 2 (tgCons (tgN 7) (tgCons (tgN 4) tgNil))) thF) thZ5))))))) := rfl
def rowD (f : Row) : D := .lst ((List.range 6).map fun d => D.int (f d))
def rowsL (r : Nat → Row) : List D := (List.range 5).map fun j => rowD (r j)
theorem rowsL_len (r : Nat → Row) : (rowsL r).length = 5 := by unfold rowsL; rw [List.length_map, List.length_range]
theorem rows_at (r : Nat → Row) {j : Nat} (h : j < 5) : dIx (.lst (rowsL r)) (.int (j : Int)) = .ok (rowD (r j)) := by
  have e : atI (rowsL r) (j : Int) = some (rowD (r j)) := atN (by simp [rowsL, h])
  show ofO (atI (rowsL r) (j : Int)) = _
  rw [e]
  rfl
theorem row_at (f : Row) {d : Nat} (h : d < 6) : dIx (rowD f) (.int (d : Int)) = .ok (.int (f d)) := by
  have e : atI ((List.range 6).map fun d => D.int (f d)) (d : Int) = some (.int (f d)) := atN (by simp [h])
  show ofO (atI ((List.range 6).map fun d => D.int (f d)) (d : Int)) = _
  rw [e]
  rfl
theorem rows_set (r : Nat → Row) {a : Nat} (f : Row) (h : a < 5) : gSet (.int (a : Int)) (rowD f) (rowsL r) = .ok (rowsL (ur r a f)) := by
  rw [gSet_nat (by rw [rowsL_len]; exact h)]
  congr 1
  apply List.ext_getElem?
  intro j
  unfold rowsL
  by_cases hj : j < 5
  · by_cases e : a = j
    · subst e
      rw [List.getElem?_set_self (by simp; exact h)]
      simp [h, ur]
    · rw [List.getElem?_set_ne e]
      simp [hj, ur, show ¬ j = a from fun z => e z.symm]
  · rw [List.getElem?_eq_none (by simp; omega), List.getElem?_eq_none (by simp; omega)]
abbrev stT (p : Int) (five : D) (r : Nat → Row) (P : List Nat) (w4 w5 w6 w7 w8 w9 w10 w15 : Option Sl) : Ev :=
  [iv p, some (.v five), some (.o (rowsL r)), some (.o (P.map fun (q : Nat) => D.int (q : Int))), w4, w5, w6, w7, w8, w9, w10, none, none, none, none, w15, none]
theorem forS_go {α : Type} {tf : D → Ev → M Ev} {b : Ev → S} (mk : α → D) (J : Nat → Ev → Prop) : ∀ (l : List α) (n : Nat), (∀ i x, l[i]? = some x → ∀ ρ, J (n + i) ρ → ∃ ρ1, tf (mk x) ρ = .ok ρ1 ∧ ∃ ρ2, b ρ1 = .nx ρ2 ∧ J (n + i + 1) ρ2) → ∀ ρ, J n ρ →
    ∃ ρ', forS tf b (l.map mk) ρ = .nx ρ' ∧ J (n + l.length) ρ' := by
  intro l
  induction l with
  | nil => exact fun n _ ρ hρ => ⟨ρ, rfl, hρ⟩
  | cons x l ih =>
    intro n hs ρ hρ
    obtain ⟨ρ1, e1, ρ2, e2, h2⟩ := hs 0 x rfl ρ hρ
    obtain ⟨ρ', e3, h3⟩ := ih (n + 1) (fun i y hy ρ h => by
      have := hs (i + 1) y (by simpa using hy) ρ (by rw [show n + (i + 1) = n + 1 + i by omega]; exact h)
      rw [show n + (i + 1) + 1 = n + 1 + i + 1 by omega] at this
      exact this) ρ2 h2
    refine ⟨ρ', ?_, ?_⟩
    · rw [List.map_cons, forS, e1]
      show (match b ρ1 with | _ => _) = _
      rw [e2]
      exact e3
    · rw [List.length_cons, show n + (l.length + 1) = n + 1 + l.length by omega]
      exact h3
theorem range_at {n i x : Nat} (h : (List.range n)[i]? = some x) : i < n ∧ x = i := by
  obtain ⟨hi, e⟩ := List.getElem?_eq_some_iff.mp h
  rw [List.getElem_range] at e
  rw [List.length_range] at hi
  exact ⟨hi, e.symm⟩
section
variable {p : Int} (h : Pr p) (five : D)
include h
/-- one row cleared -/
theorem thE_ok {r : Nat → Row} (rb : ∀ j d, B (r j d) 22) {P : List Nat} {a c j0 n : Nat} {i : Int} (ha : a < 5) (hc : c < 6) (hn : n < 5) (w5 w6 w8 w9 w15 : Option Sl) :
    ∃ w15', thE (stT p five (rw3 p r a j0 c i n) P (iv c) w5 w6 (iv a) w8 w9 (iv n) w15) = .nx (stT p five (rw3 p r a j0 c i (n + 1)) P (iv c) w5 w6 (iv a) w8 w9 (iv n) w15') := by
  have h3 := h.1
  have h4 := h.2.1
  have mb : ∀ x : Int, B (x % p) 22 := fun x => by
    have u1 := Int.emod_nonneg x (show p ≠ 0 by omega)
    have u2 := Int.emod_lt_of_pos x (show 0 < p by omega)
    exact B.of (by omega) (by omega)
  have eN : rw3 p r a j0 c i n n = rw2 p r a j0 i n := by
    unfold rw3
    rw [if_neg (fun z => Nat.lt_irrefl n z.1)]
  have eA : rw3 p r a j0 c i n a = rw2 p r a j0 i a := by
    unfold rw3
    rw [if_neg (fun z => z.2 rfl)]
  by_cases na : n = a
  · refine ⟨w15, ?_⟩
    have e : rw3 p r a j0 c i (n + 1) = rw3 p r a j0 c i n := by
      funext j
      unfold rw3
      by_cases q : j < n + 1 ∧ j ≠ a
      · rw [if_pos q, if_pos ⟨by omega, q.2⟩]
      · rw [if_neg q, if_neg (fun z => q ⟨by omega, z.2⟩)]
    rw [e]
    subst na
    simp
  · have e : rw3 p r a j0 c i (n + 1) = ur (rw3 p r a j0 c i n) n (fun d => (rw2 p r a j0 i n d - rw2 p r a j0 i n c * rw2 p r a j0 i a d) % p) := by
      funext j
      unfold ur
      by_cases jn : j = n
      · subst jn
        rw [if_pos rfl]
        unfold rw3
        rw [if_pos ⟨Nat.lt_succ_self _, na⟩]
      · rw [if_neg jn]
        unfold rw3
        by_cases q : j < n + 1 ∧ j ≠ a
        · rw [if_pos q, if_pos ⟨by omega, q.2⟩]
        · rw [if_neg q, if_neg (fun z => q ⟨by omega, z.2⟩)]
    have b2 : ∀ j d, B (rw2 p r a j0 i j d) 22 := fun j d => by
      by_cases e : j = a
      · rw [e, rw2_at]; exact mb _
      · rw [rw2_ne p r i e]
        split
        · exact rb _ _
        · exact rb _ _
    have rn := rows_at (rw3 p r a j0 c i n) hn
    rw [eN] at rn
    have ra := rows_at (rw3 p r a j0 c i n) ha
    rw [eA] at ra
    have rc := row_at (rw2 p r a j0 i n) hc
    refine ⟨iv (rw2 p r a j0 i n c), ?_⟩
    have zp : zipD ((List.range 6).map fun d => D.int (rw2 p r a j0 i n d)) ((List.range 6).map fun d => D.int (rw2 p r a j0 i a d)) = (List.range 6).map fun d => .tup [.int (rw2 p r a j0 i n d), .int (rw2 p r a j0 i a d)] := by rfl
    have cm : xComp false [14, 16] (xAll dZip (xCons (xIxO 2 (xVar 10)) (xCons (xIxO 2 (xVar 7)) xNil))) (tgT 2 (tgCons (tgN 14) (tgCons (tgN 16) tgNil))) bYes (x2 dMod (x2 dSub (xVar 14) (x2 dMul (xVar 15) (xVar 16))) (xVar 0))
        (stT p five (rw3 p r a j0 c i n) P (iv c) w5 w6 (iv a) w8 w9 (iv n) (iv (rw2 p r a j0 i n c))) = .ok ((List.range 6).map fun d => D.int ((rw2 p r a j0 i n d - rw2 p r a j0 i n c * rw2 p r a j0 i a d) % p)) := by
      rw [e_comp (items := (List.range 6).map fun d => .tup [.int (rw2 p r a j0 i n d), .int (rw2 p r a j0 i a d)]) (by simp [-e_ixL, rn, ra]; exact congrArg M.ok zp) (by intro q; cases q) (by rw [List.length_map, List.length_range]; exact sz16 (by omega)),
        e_compY (fun d : Nat => D.tup [.int (rw2 p r a j0 i n d), .int (rw2 p r a j0 i a d)]) (fun d => [iv p, some (.v five), some (.o (rowsL (rw3 p r a j0 c i n))), some (.o (P.map fun (q : Nat) => D.int (q : Int))), iv c, w5, w6, iv a, w8, w9, iv n, none, none, none, iv (rw2 p r a j0 i n d), iv (rw2 p r a j0 i n c), iv (rw2 p r a j0 i a d)])
          (fun d => D.int ((rw2 p r a j0 i n d - rw2 p r a j0 i n c * rw2 p r a j0 i a d) % p)) (List.range 6) (fun x _ => by simp [wipeE]) (fun x _ => by
            simp [e_mul (mulOk_of (b2 n c) (b2 a x) (by omega)), e_mod (show 0 < p by omega)])]
    have st := rows_set (rw3 p r a j0 c i n) (fun d => (rw2 p r a j0 i n d - rw2 p r a j0 i n c * rw2 p r a j0 i a d) % p) hn
    rw [← e] at st
    have ne : ¬ (n : Int) = (a : Int) := by omega
    simp only [thE, e_sIf, e_bBl, e_x2, e_xVar, List.getElem?_cons_succ, List.getElem?_cons_zero, e_bind_ok, e_neI, e_ofM_ok]
    simp [-e_ixL, ne, rn, rc]
    rw [cm]
    simp
    change (S.ofM (gSet (.int (n : Int)) (rowD fun d => (rw2 p r a j0 i n d - rw2 p r a j0 i n c * rw2 p r a j0 i a d) % p) (rowsL (rw3 p r a j0 c i n))) _) = _
    rw [st]
    rfl
theorem thE_loop {r : Nat → Row} (rb : ∀ j d, B (r j d) 22) {P : List Nat} {a c j0 : Nat} {i : Int} (ha : a < 5) (hc : c < 6) (w5 w6 w8 w9 w10 w15 : Option Sl) :
    ∃ w10' w15', forS (tgN 10) thE ((List.range 5).map fun (j : Nat) => D.int (j : Int)) (stT p five (rw3 p r a j0 c i 0) P (iv c) w5 w6 (iv a) w8 w9 w10 w15) = .nx (stT p five (rw3 p r a j0 c i 5) P (iv c) w5 w6 (iv a) w8 w9 w10' w15') := by
  obtain ⟨ρ', e, v10, v15, e2⟩ := forS_go (tf := tgN 10) (b := thE) (fun (j : Nat) => D.int (j : Int)) (fun n ρ => ∃ w10 w15, ρ = stT p five (rw3 p r a j0 c i n) P (iv c) w5 w6 (iv a) w8 w9 w10 w15) (List.range 5) 0 (fun n x hx ρ hρ => by
    obtain ⟨v10, v15, rfl⟩ := hρ
    obtain ⟨hn, rfl⟩ := range_at hx
    rw [Nat.zero_add]
    obtain ⟨u15, e⟩ := thE_ok h five rb (P := P) (a := a) (c := c) (j0 := j0) (n := x) (i := i) ha hc hn w5 w6 w8 w9 v15
    exact ⟨_, e_tgN 10 _, _, e, iv x, u15, rfl⟩) _ ⟨w10, w15, rfl⟩
  rw [e2, List.length_range, Nat.zero_add] at e
  exact ⟨v10, v15, e⟩
end
end OM
set_option maxRecDepth 100000
set_option maxHeartbeats 4000000
/-! Thr2: the form through five points. -/
namespace OM
open PySem L2 DI Lean.Grind
section
variable {p : Int} (h : Pr p) (five : D)
include h
omit h in
theorem xAll_of {α : Type} {op : List D → M α} {fs : Ev → M (List D)} {ρ : Ev} {xs : List D} {r : M α} (h1 : fs ρ = .ok xs) (h2 : op xs = r) : xAll op fs ρ = r := by
  rw [e_xAll, h1]
  exact h2
theorem thT1_ok (r : Nat → Row) (c : Nat) (P : List Nat) (w5 w6 w7 w8 w9 w10 w15 : Option Sl) : thT1 (stT p five r P (iv c) w5 w6 w7 w8 w9 w10 w15) = .nx (stT p five r P (iv c) w5 w6 (iv P.length) w8 w9 w10 w15) := by
  simp [D.flat]
theorem th_rg {a : Nat} (ha : a ≤ 5) : dRg2 [.int (a : Int), .int 5] = .ok (rgD a 1 (5 - a)) := by
  have ro : (rgOk (a : Int) && rgOk 5) = true := by
    rw [Bool.and_eq_true]
    unfold rgOk
    rw [decide_eq_true_eq, decide_eq_true_eq]
    exact ⟨⟨by omega, by omega⟩, by omega, by omega⟩
  have e : dRg2 [.int (a : Int), .int 5] = if (rgOk (a : Int) && rgOk 5) = true then .ok (rgD a 1 (5 - (a : Int)).toNat) else .und := rfl
  rw [e, if_pos ro, show (5 - (a : Int)).toNat = 5 - a by omega]
theorem thT2_ok {r : Nat → Row} (c : Nat) {P : List Nat} (hlen : P.length ≤ 5) (hc : c < 6) (w5 w6 w8 w9 w10 w15 : Option Sl) :
    thT2 (stT p five r P (iv c) w5 w6 (iv P.length) w8 w9 w10 w15) = .nx (stT p five r P (iv c) w5 w6 (iv P.length) (some (.v (.lst (((List.range (5 - P.length)).filter fun i => !(r (P.length + i) c % p == 0)).map fun (i : Nat) => D.int ((P.length + i : Nat) : Int))))) w9 w10 w15) := by
  have h3 := h.1
  have h4 := h.2.1
  have cm : xComp false [10] (xAll dRg2 (xCons (xVar 7) (xCons (xC (.int 5)) xNil))) (tgN 10) (bBl (x2 dNe (x2 dMod (x2 dIx (xIxO 2 (xVar 10)) (xVar 4)) (xVar 0)) (xC (.int 0)))) (xVar 10) (stT p five r P (iv c) w5 w6 (iv P.length) w8 w9 w10 w15)
      = .ok (((List.range (5 - P.length)).filter fun i => !(r (P.length + i) c % p == 0)).map fun (i : Nat) => D.int ((P.length + i : Nat) : Int)) := by
    rw [e_comp (items := rgD P.length 1 (5 - P.length)) (xAll_of (xs := [.int (P.length : Int), .int 5]) rfl (th_rg h hlen)) (by intro q; cases q) (by rw [rgD_len]; exact sz16 (by omega)), rgD_map,
      e_compR _ (fun (i : Nat) => [iv p, some (.v five), some (.o (rowsL r)), some (.o (P.map fun (q : Nat) => D.int (q : Int))), iv c, w5, w6, iv P.length, w8, w9, iv ((P.length + i : Nat) : Int), none, none, none, none, w15, none]) (fun i => !(r (P.length + i) c % p == 0)) (fun (i : Nat) => D.int ((P.length + i : Nat) : Int)) (List.range (5 - P.length))
        (fun x _ => by simp [wipeE]) (fun x hx => by
          have hx := List.mem_range.mp hx
          have e1 := rows_at r (j := P.length + x) (by omega)
          have e2 := row_at (r (P.length + x)) hc
          rw [Int.natCast_add] at e1
          simp [-e_ixL, e1, e2, e_mod (show 0 < p by omega)]) (fun x _ _ => by simp)]
  simp only [thT2, e_sSet, e_xLst, cm, e_bind_ok, e_ofM_ok, List.set_cons_succ, List.set_cons_zero]
theorem thU1_ok {r : Nat → Row} (c : Nat) {P : List Nat} (ha : P.length < 5) {j0 : Nat} (hj5 : j0 < 5) (ds : List D) (w5 w6 w9 w10 w15 : Option Sl) :
    thU1 (stT p five r P (iv c) w5 w6 (iv P.length) (some (.v (.lst (D.int (j0 : Int) :: ds)))) w9 w10 w15) = .nx (stT p five (rw1 r P.length j0) P (iv c) w5 w6 (iv P.length) (some (.v (.lst (D.int (j0 : Int) :: ds)))) w9 w10 w15) := by
  have i0' : dIx (.lst (D.int (j0 : Int) :: ds)) (.int 0) = .ok (.int (j0 : Int)) := by
    show ofO (atI _ _) = _
    simp [atI, ixN]
  have e1 := rows_at r hj5
  have e2 := rows_at r ha
  have e3 := rows_set r (r j0) ha
  have e4 := rows_set (ur r P.length (r j0)) (r P.length) hj5
  simp [-e_ixL, i0', e1, e2, e3, e4, rw1]
theorem thU2_ok {r : Nat → Row} {c : Nat} {P : List Nat} (ha : P.length < 5) {j0 : Nat} (hc : c < 6) (hx : r j0 c % p ≠ 0) (w5 w6 w8 w9 w10 w15 : Option Sl) :
    thU2 (stT p five (rw1 r P.length j0) P (iv c) w5 w6 (iv P.length) w8 w9 w10 w15) = .nx (stT p five (rw1 r P.length j0) P (iv c) w5 w6 (iv P.length) w8 (iv (inv p (r j0 c))) w10 w15) := by
  have hby := turned_inv h hx
  have e1 := rows_at (rw1 r P.length j0) ha
  rw [rw1_at] at e1
  have e2 := row_at (r j0) hc
  simp [-e_ixL, e1, e2, hby]
theorem thU3_ok {r : Nat → Row} (rb : ∀ j d, B (r j d) 22) (c : Nat) {P : List Nat} (ha : P.length < 5) (j0 : Nat) {i : Int} (bi : B i 10) (w5 w6 w8 w10 w15 : Option Sl) :
    thU3 (stT p five (rw1 r P.length j0) P (iv c) w5 w6 (iv P.length) w8 (iv i) w10 w15) = .nx (stT p five (rw2 p r P.length j0 i) P (iv c) w5 w6 (iv P.length) w8 (iv i) w10 w15) := by
  have h3 := h.1
  have e1 := rows_at (rw1 r P.length j0) ha
  have cm2 : xComp false [14] (xItems (xIxO 2 (xVar 7))) (tgN 14) bYes (x2 dMod (x2 dMul (xVar 14) (xVar 9)) (xVar 0)) (stT p five (rw1 r P.length j0) P (iv c) w5 w6 (iv P.length) w8 (iv i) w10 w15)
      = .ok ((List.range 6).map fun d => D.int (rw1 r P.length j0 P.length d * i % p)) := by
    rw [e_comp (items := (List.range 6).map fun d => D.int (rw1 r P.length j0 P.length d)) (by simp [-e_ixL, e1]; rfl) (by intro q; cases q) (by rw [List.length_map, List.length_range]; exact sz16 (by omega)),
      e_compY (fun d : Nat => D.int (rw1 r P.length j0 P.length d)) (fun d => [iv p, some (.v five), some (.o (rowsL (rw1 r P.length j0))), some (.o (P.map fun (q : Nat) => D.int (q : Int))), iv c, w5, w6, iv P.length, w8, iv i, w10, none, none, none, iv (rw1 r P.length j0 P.length d), w15, none])
        (fun d => D.int (rw1 r P.length j0 P.length d * i % p)) (List.range 6) (fun x _ => by simp [wipeE]) (fun x _ => by
          have bx : B (rw1 r P.length j0 P.length x) 22 := by rw [rw1_at]; exact rb _ _
          simp [e_mul (mulOk_of bx bi (by omega)), e_mod (show 0 < p by omega)])]
  have e2 := rows_set (rw1 r P.length j0) (fun d => rw1 r P.length j0 P.length d * i % p) ha
  simp only [thU3, e_sSetIx, e_xLst, cm2, e_bind_ok, e_ofM_ok]
  simp
  change (S.ofM (gSet (.int (P.length : Int)) (rowD fun d => rw1 r P.length j0 P.length d * i % p) (rowsL (rw1 r P.length j0))) _) = _
  rw [e2]
  rfl
theorem th_app (c : Nat) {P : List Nat} (ha : P.length < 5) : gApp (.int (c : Int)) (P.map fun (q : Nat) => D.int (q : Int)) = .ok ((P ++ [c]).map fun (q : Nat) => D.int (q : Int)) := by
  unfold gApp
  rw [if_pos (by rw [PySem.sizeLine_eq, List.length_map]; omega), List.map_append]
  rfl
theorem thU5_ok (r : Nat → Row) (c : Nat) {P : List Nat} (ha : P.length < 5) (w5 w6 w7 w8 w9 w10 w15 : Option Sl) :
    thU5 (stT p five r P (iv c) w5 w6 w7 w8 w9 w10 w15) = .nx (stT p five r (P ++ [c]) (iv c) w5 w6 w7 w8 w9 w10 w15) := by
  simp only [thU5, e_sApp, e_oAt, List.getElem?_cons_succ, List.getElem?_cons_zero, e_xVar, e_ofM_ok, th_app h c ha, e_oPut, List.set_cons_succ, List.set_cons_zero]
theorem th_rg5 : dRg1 [.int 5] = .ok ((List.range 5).map fun (j : Nat) => D.int (j : Int)) := rfl
/-- the loop's body once its parts are known -/
theorem thB_nil {ρ ρ1 ρ2 : Ev} (e1 : thT1 ρ = .nx ρ1) (e2 : thT2 ρ1 = .nx ρ2) (e3 : ρ2[8]? = some (some (.v (.lst [])))) : thB ρ = .nx ρ2 := by
  simp only [thB, e_sSeq, e1, e_then_nx, e2]
  simp [e3]
theorem thB_one {ρ ρ1 ρ2 ρ3 ρ4 ρ5 ρ6 ρ7 : Ev} {d : D} {ds : List D} (e1 : thT1 ρ = .nx ρ1) (e2 : thT2 ρ1 = .nx ρ2) (e3 : ρ2[8]? = some (some (.v (.lst (d :: ds))))) (e4 : thU1 ρ2 = .nx ρ3) (e5 : thU2 ρ3 = .nx ρ4) (e6 : thU3 ρ4 = .nx ρ5)
    (e7 : forS (tgN 10) thE ((List.range 5).map fun (j : Nat) => D.int (j : Int)) ρ5 = .nx ρ6) (e8 : thU5 ρ6 = .nx ρ7) : thB ρ = .nx ρ7 := by
  have ln : (0 : Int) < ((ds.length + 1 : Nat) : Int) := by omega
  have c : bBl (x2 dGt (xAll dLen (xCons (xVar 8) xNil)) (xC (.int 0))) ρ2 = .ok true := by
    simp only [e_bBl, e_x2, e_xAll, e_xCons, e_xNil, e_xVar, e3, e_bind_ok, e_lenL, e_xC, List.length_cons, e_cmp, decide_eq_true_eq]
    simp [ln]
  simp only [thB, e_sSeq, e1, e_then_nx, e2, e_sIf, c, e_ofM_ok, if_true, e4, e5, e6, e_sFor, e_xAll, e_xCons, e_xC, e_xNil, e_bind_ok, th_rg5 h, e7, e8]
/-- one column -/
theorem thB_ok {K : Type} [Field K] (f : Fld p K) {r0 r : Nat → Row} {c : Nat} {P : List Nat} (I : Inv6 K r0 c r P) (hc : c < 6) (w5 w6 w7 w8 w9 w10 w15 : Option Sl) :
    ∃ r' P', Inv6 K r0 (c + 1) r' P' ∧ ∃ w7' w8' w9' w10' w15', thB (stT p five r P (iv c) w5 w6 w7 w8 w9 w10 w15) = .nx (stT p five r' P' (iv c) w5 w6 w7' w8' w9' w10' w15') := by
  have h3 := h.1
  have h4 := h.2.1
  have hlen := I.len
  have t1 := thT1_ok h five r c P w5 w6 w7 w8 w9 w10 w15
  have t2 := thT2_ok h five (r := r) c hlen hc w5 w6 w8 w9 w10 w15
  obtain ⟨T, hT⟩ : ∃ T : Nat → Bool, T = fun i => !(r (P.length + i) c % p == 0) := ⟨_, rfl⟩
  rw [← hT] at t2
  cases q : (List.range (5 - P.length)).filter T with
  | nil =>
    rw [q] at t2
    refine ⟨r, P, inv6_skip I fun j h1 h2 => ?_, _, _, _, _, _, thB_nil h t1 t2 rfl⟩
    have : ¬ T (j - P.length) = true := fun z => by
      have : j - P.length ∈ (List.range (5 - P.length)).filter T := List.mem_filter.mpr ⟨List.mem_range.mpr (by omega), z⟩
      rw [q] at this
      cases this
    have e : P.length + (j - P.length) = j := by omega
    simp only [hT, e, Bool.not_eq_true', beq_eq_false_iff_ne, ne_eq, Decidable.not_not] at this
    exact (f.z _).mpr this
  | cons i0 rest =>
    rw [q] at t2
    have hi : i0 ∈ (List.range (5 - P.length)).filter T := by rw [q]; exact List.mem_cons_self
    obtain ⟨hi1, hi2⟩ := List.mem_filter.mp hi
    have hi1 := List.mem_range.mp hi1
    obtain ⟨j0, ej⟩ : ∃ j0, j0 = P.length + i0 := ⟨_, rfl⟩
    have hj5 : j0 < 5 := by omega
    have hx : r j0 c % p ≠ 0 := by
      simp only [hT, ← ej, Bool.not_eq_true', beq_eq_false_iff_ne, ne_eq] at hi2
      exact hi2
    have ha : P.length < 5 := by omega
    have hinv := inv_is h hx
    have hK : io K (r j0 c) * io K (inv p (r j0 c)) = 1 := by
      have := congrArg (io K) hinv.2.2
      rw [f.mod, io_mul, io_one] at this
      exact this
    have rb := I.b
    have bi : B (inv p (r j0 c)) 10 := by
      have := hinv.1
      have := hinv.2.1
      exact B.of (by omega) (by omega)
    rw [List.map_cons, ← ej] at t2
    have z0 : rw3 p r P.length j0 c (inv p (r j0 c)) 0 = rw2 p r P.length j0 (inv p (r j0 c)) := by
      funext j
      unfold rw3
      rw [if_neg (fun z => Nat.not_lt_zero _ z.1)]
    have u1 := thU1_ok h five (r := r) c ha hj5 (rest.map fun (i : Nat) => D.int ((P.length + i : Nat) : Int)) w5 w6 w9 w10 w15
    have u2 := thU2_ok h five (P := P) ha hc hx w5 w6 (some (.v (.lst (D.int (j0 : Int) :: rest.map fun (i : Nat) => D.int ((P.length + i : Nat) : Int))))) w9 w10 w15
    have u3 := thU3_ok h five rb c ha j0 bi w5 w6 (some (.v (.lst (D.int (j0 : Int) :: rest.map fun (i : Nat) => D.int ((P.length + i : Nat) : Int))))) w10 w15
    obtain ⟨v10, v15, u4⟩ := thE_loop h five rb (P := P) (a := P.length) (c := c) (j0 := j0) (i := inv p (r j0 c)) ha hc w5 w6 (some (.v (.lst (D.int (j0 : Int) :: rest.map fun (i : Nat) => D.int ((P.length + i : Nat) : Int))))) (iv (inv p (r j0 c))) w10 w15
    rw [z0] at u4
    have u5 := thU5_ok h five (rw3 p r P.length j0 c (inv p (r j0 c)) 5) c ha w5 w6 (iv P.length) (some (.v (.lst (D.int (j0 : Int) :: rest.map fun (i : Nat) => D.int ((P.length + i : Nat) : Int))))) (iv (inv p (r j0 c))) v10 v15
    exact ⟨_, P ++ [c], inv6_piv h f I (by omega) hj5 hK, _, _, _, _, _, thB_one h t1 t2 rfl u1 u2 u3 u4 u5⟩
theorem thB_loop {K : Type} [Field K] (f : Fld p K) {r0 : Nat → Row} (w5 w6 : Option Sl) (I0 : Inv6 K r0 0 r0 []) (w4 w7 w8 w9 w10 w15 : Option Sl) :
    ∃ r' P', Inv6 K r0 6 r' P' ∧ ∃ w4' w7' w8' w9' w10' w15', forS (tgN 4) thB ((List.range 6).map fun (j : Nat) => D.int (j : Int)) (stT p five r0 [] w4 w5 w6 w7 w8 w9 w10 w15) = .nx (stT p five r' P' w4' w5 w6 w7' w8' w9' w10' w15') := by
  obtain ⟨ρ', e, r', P', I, v4, v7, v8, v9, v10, v15, e2⟩ := forS_go (tf := tgN 4) (b := thB) (fun (j : Nat) => D.int (j : Int)) (fun n ρ => ∃ r P, Inv6 K r0 n r P ∧ ∃ w4 w7 w8 w9 w10 w15, ρ = stT p five r P w4 w5 w6 w7 w8 w9 w10 w15) (List.range 6) 0 (fun n x hx ρ hρ => by
    obtain ⟨r, P, I, v4, v7, v8, v9, v10, v15, rfl⟩ := hρ
    obtain ⟨hn, rfl⟩ := range_at hx
    rw [Nat.zero_add] at I ⊢
    obtain ⟨r1, P1, I1, x7, x8, x9, x10, x15, e⟩ := thB_ok h five f I hn w5 w6 v7 v8 v9 v10 v15
    exact ⟨_, e_tgN 4 _, _, e, r1, P1, I1, iv x, x7, x8, x9, x10, x15, rfl⟩) _ ⟨r0, [], I0, w4, w7, w8, w9, w10, w15, rfl⟩
  rw [List.length_range, Nat.zero_add] at I
  rw [e2] at e
  exact ⟨r', P', I, v4, v7, v8, v9, v10, v15, e⟩
end
end OM
set_option maxRecDepth 100000
set_option maxHeartbeats 4000000
/-! Thr3: the form through five points, joined. -/
namespace OM
open PySem L2 DI Lean.Grind
theorem enum_map (g : Nat → D) : ∀ (n : Nat), enumD ((List.range n).map g) = (List.range n).map fun (i : Nat) => D.tup [.int (i : Int), g i] := fun n => by
  have k : ∀ (f g : Nat → D) (l : List Nat), zipD (l.map f) (l.map g) = l.map fun i => D.tup [f i, g i] := fun f g l => by
    induction l with
    | nil => rfl
    | cons x r ih => rw [List.map_cons, List.map_cons, e_zipD_cons, ih, List.map_cons]
  unfold enumD
  rw [List.length_map, List.length_range, rgD_map, k]
  congr 1
  funext i
  simp
def rowT (t : Tri) : Row := fun d => match d with
  | 0 => t.1 * t.1
  | 1 => t.2.1 * t.2.1
  | 2 => t.2.2 * t.2.2
  | 3 => t.1 * t.2.1
  | 4 => t.1 * t.2.2
  | _ => t.2.1 * t.2.2
def r0F (five : List Tri) : Nat → Row := fun j => rowT (five.getD j (0, 0, 0))
theorem rowT_D (t : Tri) : rowD (rowT t) = .lst [.int (t.1 * t.1), .int (t.2.1 * t.2.1), .int (t.2.2 * t.2.2), .int (t.1 * t.2.1), .int (t.1 * t.2.2), .int (t.2.1 * t.2.2)] := rfl
theorem five_of {α : Type} {l : List α} (h : l.length = 5) : ∃ a b c d e, l = [a, b, c, d, e] := by
  match l, h with
  | [a, b, c, d, e], _ => exact ⟨a, b, c, d, e, rfl⟩
theorem rowsF {five : List Tri} (hl : five.length = 5) : five.map (fun t => rowD (rowT t)) = rowsL (r0F five) := by
  obtain ⟨a, b, c, d, e, rfl⟩ := five_of hl
  rfl
theorem Told.b10 {p : Int} (h : Pr p) {t : Tri} (k : Told p t) : B t.1 10 ∧ B t.2.1 10 ∧ B t.2.2 10 := by
  have h3 := h.1
  have h4 := h.2.1
  rcases k with ⟨a, b, c, d, e⟩ | ⟨a, b, c, d⟩ | ⟨a, b, c⟩ <;> exact ⟨B.of (by omega) (by omega), B.of (by omega) (by omega), B.of (by omega) (by omega)⟩
theorem rowT_b {t : Tri} (b : B t.1 10 ∧ B t.2.1 10 ∧ B t.2.2 10) (d : Nat) : B (rowT t d) 22 := by
  obtain ⟨b1, b2, b3⟩ := b
  unfold rowT
  split
  · exact (b1.mul b1).mono (by omega)
  · exact (b2.mul b2).mono (by omega)
  · exact (b3.mul b3).mono (by omega)
  · exact (b1.mul b2).mono (by omega)
  · exact (b1.mul b3).mono (by omega)
  · exact (b2.mul b3).mono (by omega)
theorem dNotInI (ts : List Int) (t : Int) : dNotIn (.int t) (.lst (ts.map D.int)) = .ok (.bl (!decide (t ∈ ts))) := by
  have e : ((toPs (ts.map D.int)).any fun z => PyData.eqv z (D.int t).toP) = decide (t ∈ ts) := by
    induction ts with
    | nil => rfl
    | cons u r ih =>
      rw [List.map_cons, toPs, List.any_cons, ih]
      have : PyData.eqv (D.int u).toP (D.int t).toP = decide (u = t) := rfl
      rw [this]
      simp only [List.mem_cons, Bool.decide_or, eq_comm]
  unfold dNotIn
  rw [okLI, ← e]
  rfl
theorem sub_len {α : Type} [BEq α] [LawfulBEq α] : ∀ {l P : List α}, l.Nodup → (∀ d ∈ l, d ∈ P) → l.length ≤ P.length
  | [], _, _, _ => Nat.zero_le _
  | x :: l, P, nd, hs => by
    have hx := hs x List.mem_cons_self
    have nd2 := List.nodup_cons.mp nd
    have := sub_len (P := P.erase x) nd2.2 fun d hd => (List.mem_erase_of_ne (fun z => nd2.1 (by rw [← z]; exact hd))).mpr (hs d (List.mem_cons_of_mem _ hd))
    rw [List.length_erase_of_mem hx] at this
    have := List.length_pos_of_mem hx
    rw [List.length_cons]
    omega
theorem free_of {P : List Nat} (hl : P.length ≤ 5) : ∃ fr, fr < 6 ∧ fr ∉ P ∧ ∃ r, ((List.range 6).filter fun d => !decide (d ∈ P)) = fr :: r := by
  cases e : (List.range 6).filter fun d => !decide (d ∈ P) with
  | nil =>
    exfalso
    have sub : ∀ d ∈ List.range 6, d ∈ P := fun d hd => by
      refine Decidable.byContradiction fun z => ?_
      have : d ∈ (List.range 6).filter fun d => !decide (d ∈ P) := List.mem_filter.mpr ⟨hd, by simp [z]⟩
      rw [e] at this
      cases this
    have := sub_len List.nodup_range sub
    rw [List.length_range] at this
    omega
  | cons fr r =>
    have m : fr ∈ (List.range 6).filter fun d => !decide (d ∈ P) := by rw [e]; exact List.mem_cons_self
    obtain ⟨m1, m2⟩ := List.mem_filter.mp m
    exact ⟨fr, List.mem_range.mp m1, by simpa using m2, r, rfl⟩
section
variable {p : Int} (h : Pr p)
include h
abbrev stZ (p : Int) (five : D) (r : Nat → Row) (P : List Nat) (fr : Nat) (v : Row) (w4 w7 w8 w9 w10 w15 : Option Sl) : Ev :=
  [iv p, some (.v five), some (.o (rowsL r)), some (.v (.lst (P.map fun (q : Nat) => D.int (q : Int)))), w4, iv fr, some (.o ((List.range 6).map fun d => D.int (v d))), w7, w8, w9, w10, none, none, none, none, w15, none]
theorem fl_set (v : Row) {a : Nat} (x : Int) (ha : a < 6) : gSet (.int (a : Int)) (.int x) ((List.range 6).map fun d => D.int (v d)) = .ok ((List.range 6).map fun d => D.int (if d = a then x else v d)) := by
  rw [gSet_nat (by rw [List.length_map, List.length_range]; exact ha)]
  congr 1
  apply List.ext_getElem?
  intro j
  by_cases hj : j < 6
  · by_cases e : a = j
    · subst e
      rw [List.getElem?_set_self (by simp; exact ha)]
      simp [ha]
    · rw [List.getElem?_set_ne e]
      simp [hj, show ¬ j = a from fun z => e z.symm]
  · rw [List.getElem?_eq_none (by simp; omega), List.getElem?_eq_none (by simp; omega)]
theorem thF_ok (five : D) {r : Nat → Row} (P : List Nat) {fr : Nat} (v : Row) {k q : Nat} (hk : k < 5) (hq : q < 6) (hf : fr < 6) (w8 w9 w10 w15 : Option Sl) :
    thF (stZ p five r P fr v (iv q) (iv k) w8 w9 w10 w15) = .nx (stZ p five r P fr (fun d => if d = q then -r k fr else v d) (iv q) (iv k) w8 w9 w10 w15) := by
  have e1 := rows_at r hk
  have e2 := row_at (r k) hf
  have e3 := fl_set h v (-r k fr) hq
  simp [-e_ixL, e1, e2, e3]
theorem thF_loop (five : D) {r : Nat → Row} (P : List Nat) {fr : Nat} (hl : P.length ≤ 5) (hP : ∀ q ∈ P, q < 6) (nd : P.Nodup) (hf : fr < 6) (hn : fr ∉ P) (rb : ∀ j d, B (r j d) 22) (w4 w7 w8 w9 w10 w15 : Option Sl) :
    ∃ v : Row, v fr = 1 ∧ (∀ (k q : Nat), P[k]? = some q → v q = -r k fr) ∧ (∀ d, d ∉ P → d ≠ fr → v d = 0) ∧ (∀ d, B (v d) 22) ∧
      ∃ w4' w7', forS (tgT 2 (tgCons (tgN 7) (tgCons (tgN 4) tgNil))) thF (enumD (P.map fun (q : Nat) => D.int (q : Int))) (stZ p five r P fr (fun d => if d = fr then 1 else 0) w4 w7 w8 w9 w10 w15) = .nx (stZ p five r P fr v w4' w7' w8 w9 w10 w15) := by
  have eP : P.map (fun (q : Nat) => D.int (q : Int)) = (List.range P.length).map fun i => D.int ((P.getD i 0 : Nat) : Int) := by
    apply List.ext_getElem?
    intro i
    by_cases hi : i < P.length
    · simp [hi]
    · rw [List.getElem?_eq_none (by simp; omega), List.getElem?_eq_none (by simp; omega)]
  have eE : enumD (P.map fun (q : Nat) => D.int (q : Int)) = (List.range P.length).map fun (i : Nat) => D.tup [.int (i : Int), .int ((P.getD i 0 : Nat) : Int)] := by
    rw [eP, enum_map]
  rw [eE]
  obtain ⟨ρ', e, v, v1, v2, v3, v4, u4, u7, e2⟩ := forS_go (tf := tgT 2 (tgCons (tgN 7) (tgCons (tgN 4) tgNil))) (b := thF) (fun (i : Nat) => D.tup [.int (i : Int), .int ((P.getD i 0 : Nat) : Int)])
    (fun n ρ => ∃ v : Row, v fr = 1 ∧ (∀ (k q : Nat), k < n → P[k]? = some q → v q = -r k fr) ∧ (∀ d, d ∉ P → d ≠ fr → v d = 0) ∧ (∀ d, B (v d) 22) ∧ ∃ w4 w7, ρ = stZ p five r P fr v w4 w7 w8 w9 w10 w15) (List.range P.length) 0 (fun n x hx ρ hρ => by
      obtain ⟨v, v1, v2, v3, v4, u4, u7, rfl⟩ := hρ
      obtain ⟨hn2, rfl⟩ := range_at hx
      rw [Nat.zero_add] at v2 ⊢
      have gq : P[x]? = some (P.getD x 0) := by
        rw [List.getD_eq_getElem?_getD, List.getElem?_eq_getElem hn2]
        rfl
      have mq : P.getD x 0 ∈ P := List.mem_of_getElem? gq
      refine ⟨stZ p five r P fr v (iv (P.getD x 0 : Nat)) (iv x) w8 w9 w10 w15, by simp, _, thF_ok h five P v (by omega) (hP _ mq) hf w8 w9 w10 w15, _, ?_, fun k q hk hq => ?_, fun d hd hdf => ?_, fun d => ?_, _, _, rfl⟩
      · rw [if_neg (fun z => hn (by rw [z]; exact mq))]
        exact v1
      · by_cases e : k = x
        · subst e
          rw [gq] at hq
          rw [if_pos (Option.some.inj hq).symm]
        · rw [if_neg (fun z => e (by
            have e1 : P[k]? = P[x]? := by rw [hq, gq, z]
            exact (List.getElem?_inj (List.getElem?_eq_some_iff.mp hq).1 nd).mp e1)), v2 k q (by omega) hq]
      · rw [if_neg (fun z => hd (by rw [z]; exact mq)), v3 d hd hdf]
      · split
        · exact (rb _ _).neg
        · exact v4 d) _ ⟨_, if_pos rfl, fun k q hk => absurd hk (Nat.not_lt_zero _), fun d _ hd => if_neg hd, fun d => by split <;> exact B.of (by omega) (by omega), w4, w7, rfl⟩
  rw [e2] at e
  rw [List.length_range, Nat.zero_add] at v2
  exact ⟨v, v1, fun k q hq => v2 k q (List.getElem?_eq_some_iff.mp hq).1 hq, v3, v4, u4, u7, e⟩
omit h in
theorem qf_row {K : Type} [Field K] (F : Frm) (t : Tri) : io K (qf F t) = d6 K (rowT t) (fun d => (frmL F).getD d 0) := by
  rw [io_qf]
  unfold d6 S6 rowT frmL
  simp [io_mul]
  grind
theorem thA1_ok {five : List Tri} (hl : five.length = 5) (ht : ∀ t ∈ five, Told p t) : thA1 [iv p, some (.v (.lst (five.map triD))), none, none, none, none, none, none, none, none, none, none, none, none, none, none, none] = .nx [iv p, some (.v (.lst (five.map triD))), some (.o (rowsL (r0F five))), none, none, none, none, none, none, none, none, none, none, none, none, none, none] := by
  have cm : xComp false [11, 12, 13] (xItems (xVar 1)) (tgT 3 (tgCons (tgN 11) (tgCons (tgN 12) (tgCons (tgN 13) tgNil)))) bYes (xLst (xAll lLst (xCons (x2 dMul (xVar 11) (xVar 11)) (xCons (x2 dMul (xVar 12) (xVar 12)) (xCons (x2 dMul (xVar 13) (xVar 13)) (xCons (x2 dMul (xVar 11) (xVar 12)) (xCons (x2 dMul (xVar 11) (xVar 13)) (xCons (x2 dMul (xVar 12) (xVar 13)) xNil)))))))) [iv p, some (.v (.lst (five.map triD))), none, none, none, none, none, none, none, none, none, none, none, none, none, none, none]
      = .ok (five.map fun t => rowD (rowT t)) := by
    rw [e_comp (items := five.map triD) (by simp) (by intro q; cases q) (by rw [List.length_map, hl]; exact sz16 (by omega)),
      e_compY triD (fun t => [iv p, some (.v (.lst (five.map triD))), none, none, none, none, none, none, none, none, none, iv t.1, iv t.2.1, iv t.2.2, none, none, none]) (fun t => rowD (rowT t)) five (fun x _ => by simp [wipeE, triD]) (fun x hx => by
        obtain ⟨b1, b2, b3⟩ := (ht x hx).b10 h
        simp only [e_xLst, e_xAll, e_xCons, e_x2, e_xVar, List.getElem?_cons_succ, List.getElem?_cons_zero, e_bind_ok, e_mul (mulOk_of b1 b1 (by omega)), e_mul (mulOk_of b2 b2 (by omega)), e_mul (mulOk_of b3 b3 (by omega)), e_mul (mulOk_of b1 b2 (by omega)), e_mul (mulOk_of b1 b3 (by omega)), e_mul (mulOk_of b2 b3 (by omega)), e_xNil]
        rfl)]
  simp only [thA1, e_sOwn, cm, rowsF hl, e_ofM_ok, List.set_cons_succ, List.set_cons_zero]
theorem thZ1_ok (five : D) {r : Nat → Row} {P : List Nat} (hl : P.length ≤ 5) {fr : Nat} {rs : List Nat} (hfr : ((List.range 6).filter fun d => !decide (d ∈ P)) = fr :: rs) (w4 w7 w8 w9 w10 w15 : Option Sl) :
    ∃ w4', thZ1 (stT p five r P w4 none none w7 w8 w9 w10 w15) = .nx [iv p, some (.v five), some (.o (rowsL r)), some (.v (.lst (P.map fun (q : Nat) => D.int (q : Int)))), w4', iv fr, none, w7, w8, w9, w10, none, none, none, none, w15, none] := by
  have eq : P.map (fun (q : Nat) => D.int (q : Int)) = (P.map fun (q : Nat) => (q : Int)).map D.int := by rw [List.map_map]; rfl
  have dm : ∀ d : Nat, decide ((d : Int) ∈ P.map fun (q : Nat) => (q : Int)) = decide (d ∈ P) := fun d => by
    rw [decide_eq_decide, List.mem_map]
    constructor
    · rintro ⟨x, hx, e⟩
      rw [show d = x by omega]
      exact hx
    · exact fun hd => ⟨d, hd, rfl⟩
  have rg6 : dRg1 [.int 6] = .ok ((List.range 6).map fun (j : Nat) => D.int (j : Int)) := rfl
  have cm : xComp false [4] (xAll dRg1 (xCons (xC (.int 6)) xNil)) (tgN 4) (bBl (x2 dNotIn (xVar 4) (xVar 3))) (xVar 4) [iv p, some (.v five), some (.o (rowsL r)), some (.v (.lst (P.map fun (q : Nat) => D.int (q : Int)))), w4, none, none, w7, w8, w9, w10, none, none, none, none, w15, none]
      = .ok ((fr :: rs).map fun (d : Nat) => D.int (d : Int)) := by
    rw [e_comp (items := (List.range 6).map fun (j : Nat) => D.int (j : Int)) (xAll_of (xs := [.int 6]) rfl rg6) (by intro q; cases q) (by rw [List.length_map, List.length_range]; exact sz16 (by omega)),
      e_compR (fun (j : Nat) => D.int (j : Int)) (fun (i : Nat) => [iv p, some (.v five), some (.o (rowsL r)), some (.v (.lst (P.map fun (q : Nat) => D.int (q : Int)))), iv i, none, none, w7, w8, w9, w10, none, none, none, none, w15, none]) (fun d => !decide (d ∈ P)) (fun (d : Nat) => D.int (d : Int)) (List.range 6)
        (fun x _ => by simp [wipeE]) (fun x _ => by
          simp only [e_bBl, e_x2, e_xVar, List.getElem?_cons_succ, List.getElem?_cons_zero, e_bind_ok, eq, dNotInI, dm]) (fun x _ _ => by simp), hfr]
  have i0 : dIx (.lst ((fr :: rs).map fun (d : Nat) => D.int (d : Int))) (.int 0) = .ok (.int (fr : Int)) := by
    show ofO (atI _ _) = _
    simp [atI, ixN]
  refine ⟨w4, ?_⟩
  simp only [thZ1, e_sFrz, e_frz, List.getElem?_cons_succ, List.getElem?_cons_zero, List.set_cons_succ, List.set_cons_zero, e_sSet, e_x2, e_xLst, cm, e_bind_ok, e_xC, i0, e_ofM_ok]
theorem thZ23_ok (five : D) {r : Nat → Row} {P : List Nat} {fr : Nat} (hf : fr < 6) (w4 w7 w8 w9 w10 w15 : Option Sl) :
    (thZ2 [iv p, some (.v five), some (.o (rowsL r)), some (.v (.lst (P.map fun (q : Nat) => D.int (q : Int)))), w4, iv fr, none, w7, w8, w9, w10, none, none, none, none, w15, none]).then thZ3 = .nx (stZ p five r P fr (fun d => if d = fr then 1 else 0) w4 w7 w8 w9 w10 w15) := by
  have e := fl_set h (fun _ => 0) 1 hf
  have rp : dRep (.lst [.int 0]) (.int 6) = .ok ((List.range 6).map fun d => D.int ((fun _ => (0 : Int)) d)) := rfl
  simp only [thZ2, e_sOwn, e_xLst, e_xAll, e_xCons, e_xC, e_xNil, e_bind_ok, e_lLst1, rp, e_ofM_ok, e_then_nx, List.set_cons_succ, List.set_cons_zero, thZ3, e_sSetIx, e_oAt, List.getElem?_cons_succ, List.getElem?_cons_zero, e_xVar]
  rw [e]
  simp
theorem through_ok {five : List Tri} (hl : five.length = 5) (ht : ∀ t ∈ five, Told p t) : ∃ F, FT p F ∧ (∀ t ∈ five, qf F t % p = 0) ∧ f_through [.int p, .lst (five.map triD)] = .ok (frmD F) := by
  obtain ⟨K, _, f⟩ := fld_ex h
  have rb0 : ∀ j d, B (r0F five j d) 22 := fun j d => by
    unfold r0F
    by_cases hj : j < five.length
    · rw [List.getD_eq_getElem?_getD, List.getElem?_eq_getElem hj]
      exact rowT_b ((ht _ (List.getElem_mem hj)).b10 h) d
    · rw [List.getD_eq_getElem?_getD, List.getElem?_eq_none (by omega)]
      exact rowT_b ⟨B.of (by decide) (by decide), B.of (by decide) (by decide), B.of (by decide) (by decide)⟩ d
  have a1 := thA1_ok h hl ht
  obtain ⟨r, P, I, w4, w7, w8, w9, w10, w15, lo⟩ := thB_loop h (.lst (five.map triD)) f none none (inv6_start (K := K) rb0) none none none none none none
  obtain ⟨fr, hf, hn, rs, hfr⟩ := free_of I.len
  obtain ⟨y4, z1⟩ := thZ1_ok h (.lst (five.map triD)) (r := r) I.len hfr w4 w7 w8 w9 w10 w15
  have z2 := thZ23_ok h (.lst (five.map triD)) (r := r) (P := P) hf y4 w7 w8 w9 w10 w15
  obtain ⟨v, v1, v2, v3, v4, x4, x7, z3⟩ := thF_loop h (.lst (five.map triD)) (r := r) P I.len I.lt I.nd hf hn I.b y4 w7 w8 w9 w10 w15
  -- the numbers found
  let vl : List Int := (List.range 6).map v
  have hvl : vl.map D.int = (List.range 6).map fun d => D.int (v d) := by
    show ((List.range 6).map v).map D.int = _
    rw [List.map_map]
    rfl
  have nz : nzs p vl ≠ [] := nzs_of (x := 1) (by have := h.1; omega) (List.mem_map.mpr ⟨fr, List.mem_range.mpr hf, v1⟩) (by
    rw [Int.emod_eq_of_lt (by decide) (by have := h.1; omega)]
    decide)
  have to := told_of_ok (d := .lst (vl.map D.int)) h (v := vl) rfl (fun x hx => by
    obtain ⟨d, _, rfl⟩ := List.mem_map.mp hx
    exact (v4 d).mono (by omega)) (by show ((List.range 6).map v).length ≤ 1000; rw [List.length_map, List.length_range]; omega) nz
  obtain ⟨tl, tlen⟩ := tolL_told h nz
  obtain ⟨F, hF⟩ := len6 (v := tolL p vl) (by rw [tlen]; show ((List.range 6).map v).length = 6; rw [List.length_map, List.length_range])
  have hFT : FT p F := by
    unfold FT
    rw [← hF]
    exact tl
  have sol := inv6_end I hf hn (v := v) (by rw [v1, io_one]) (fun k q e => by rw [v2 k q e, io_neg]) (fun d hd hdP hdf => by rw [v3 d hdP hdf]; exact io_zero)
  refine ⟨F, hFT, fun t hmem => ?_, ?_⟩
  · rw [← f.z]
    rw [qf_row]
    obtain ⟨j, hj, e⟩ := List.mem_iff_getElem.mp hmem
    have s := sol j (by omega)
    have er : r0F five j = rowT t := by
      unfold r0F
      rw [List.getD_eq_getElem?_getD, List.getElem?_eq_getElem hj, e]
      rfl
    rw [er] at s
    obtain ⟨g, rg, hg⟩ : ∃ g rg, nzs p vl = g :: rg := by
      cases q : nzs p vl with
      | nil => exact absurd q nz
      | cons g rg => exact ⟨g, rg, rfl⟩
    have ev : ∀ d, d < 6 → io K ((frmL F).getD d 0) = io K (v d) * io K (inv p g) := fun d hd => by
      have : (tolL p vl).getD d 0 = v d * inv p g % p := by
        unfold tolL
        rw [hg]
        show ((vl.map fun x => x * inv p g % p)).getD d 0 = _
        show ((((List.range 6).map v).map fun x => x * inv p g % p)).getD d 0 = _
        simp [hd]
      rw [← hF, this, f.mod, io_mul]
    have : d6 K (rowT t) (fun d => (frmL F).getD d 0) = d6 K (rowT t) v * io K (inv p g) := by
      unfold d6
      rw [S6_congr (u := fun d => io K (rowT t d) * io K (v d) * io K (inv p g)) fun d hd => by rw [ev d hd]; grind]
      unfold S6
      grind
    rw [this, s]
    grind
  · have rg6 : dRg1 [.int 6] = .ok ((List.range 6).map fun (j : Nat) => D.int (j : Int)) := rfl
    rw [through_eq]
    simp only [defF, List.length_cons, List.length_nil, List.map_cons, List.map_nil, List.replicate, Nat.reduceAdd, Nat.reduceSub, if_true, List.cons_append, List.nil_append]
    rw [e_sSeq, a1, e_then_nx, e_sSeq]
    rw [show thA2 [iv p, some (.v (.lst (five.map triD))), some (.o (rowsL (r0F five))), none, none, none, none, none, none, none, none, none, none, none, none, none, none] = .nx (stT p (.lst (five.map triD)) (r0F five) [] none none none none none none none none) from rfl]
    rw [e_then_nx, e_sSeq, e_sFor, xAll_of (xs := [.int 6]) rfl rg6, e_ofM_ok, lo, e_then_nx, e_sSeq, z1, e_then_nx, e_sSeq]
    rw [show ∀ (s : S) (a b : Ev → S), s.then (sSeq a b) = (s.then a).then b from fun s a b => by cases s <;> rfl, z2, e_then_nx, e_sSeq, e_sFor]
    rw [show xAll dEnum (xCons (xVar 3) xNil) (stZ p (.lst (five.map triD)) r P fr (fun d => if d = fr then 1 else 0) y4 w7 w8 w9 w10 w15) = .ok (enumD (P.map fun (q : Nat) => D.int (q : Int))) from rfl]
    rw [e_ofM_ok, z3, e_then_nx]
    have to2 : f_told_of [.int p, .lst ((List.range 6).map fun d => D.int (v d))] = .ok (frmD F) := by
      rw [← hvl, to, hF]
      rfl
    simp only [thZ5, e_sFrz, e_frz, List.getElem?_cons_succ, List.getElem?_cons_zero, List.set_cons_succ, List.set_cons_zero, e_sRet, e_xAll, e_xCons, e_xVar, e_xNil, e_bind_ok, e_callF, List.length_cons, List.length_nil, Nat.reduceAdd, if_true, to2, e_ofM_ok]
end
end OM
set_option maxRecDepth 100000
set_option maxHeartbeats 4000000
/-! Law3: three in line. -/
namespace OM
open PySem L2 DI Lean.Grind
structure Five (p : Int) (five : List Tri) : Prop where
  len : five.length = 5
  told : ∀ t ∈ five, Told p t
  nd : five.Nodup
def det (a b c : Tri) : Int := a.1 * (b.2.1 * c.2.2 - b.2.2 * c.2.1) + a.2.1 * (b.2.2 * c.1 - b.1 * c.2.2) + a.2.2 * (b.1 * c.2.1 - b.2.1 * c.1)
theorem on_cr_det {p : Int} (h : Pr p) {a b c : Tri} (ha : Told p a) (hb : Told p b) (ne : a ≠ b) : On p c (tol p (crT a b)) ↔ det a b c % p = 0 := by
  obtain ⟨K, _, f⟩ := fld_ex h
  have s0 := (tol_told h (cr_nz h ha hb ne)).2
  have s1 : io K (scl p (crT a b)) ≠ 0 := fun z => s0 ((f.z _).mp z)
  unfold On
  rw [← f.z, ← f.z]
  have e : io K (c.1 * (tol p (crT a b)).1 + c.2.1 * (tol p (crT a b)).2.1 + c.2.2 * (tol p (crT a b)).2.2) = io K (det a b c) * io K (scl p (crT a b)) := by
    unfold tol det crT
    simp only [io_add, io_mul, io_sub, f.mod]
    grind
  rw [e]
  constructor
  · intro z
    grind
  · intro z
    rw [z]
    grind
theorem in_line_ok {p : Int} (h : Pr p) {a b c : Tri} (ha : Told p a) (hb : Told p b) (hc : Told p c) : f_in_line [.int p, triD a, triD b, triD c] = .ok (.bl (decide (det a b c % p = 0))) := by
  have h3 := h.1
  obtain ⟨a1, a2, a3⟩ := ha.b10 h
  obtain ⟨b1, b2, b3⟩ := hb.b10 h
  obtain ⟨c1, c2, c3⟩ := hc.b10 h
  have m : ∀ {x y : Int}, B x 10 → B y 10 → dMul (.int x) (.int y) = .ok (.int (x * y)) := fun hx hy => e_mul (mulOk_of hx hy (by omega))
  have m2 : ∀ {x y z u v : Int}, B x 10 → B y 10 → B z 10 → B u 10 → B v 10 → dMul (.int x) (.int (y * z - u * v)) = .ok (.int (x * (y * z - u * v))) := fun hx hy hz hu hv => e_mul (mulOk_of hx ((hy.mul hz).sub (hu.mul hv)) (by omega))
  simp [f_in_line, defF, triD, m b2 c3, m b3 c2, m b3 c1, m b1 c3, m b1 c2, m b2 c1, m2 a1 b2 c3 b3 c2, m2 a2 b3 c1 b1 c3, m2 a3 b1 c2 b2 c1, e_mod (show 0 < p by omega), det]
  rfl
theorem l_in_line_ok {p : Int} (h : Pr p) {a b c : Tri} (ha : Told p a) (hb : Told p b) (hc : Told p c) (ne : a ≠ b) : f_l_in_line [.int p, triD a, triD b, triD c] = .ok (.bl (decide (det a b c % p = 0))) := by
  have e1 := l_cross_ok h ha hb ne
  have e2 := l_on_ok h hc (tol_told h (cr_nz h ha hb ne)).1
  rw [show decide (On p c (tol p (crT a b))) = decide (det a b c % p = 0) from decide_eq_decide.mpr (on_cr_det h ha hb ne)] at e2
  simp [f_l_in_line, defF, e1, e2]
def T10 : List Tri := [(0, 1, 2), (0, 1, 3), (0, 1, 4), (0, 2, 3), (0, 2, 4), (0, 3, 4), (1, 2, 3), (1, 2, 4), (1, 3, 4), (2, 3, 4)]
theorem T10_lt : ∀ t ∈ T10, 0 ≤ t.1 ∧ t.1 < t.2.1 ∧ t.2.1 < t.2.2 ∧ t.2.2 < 5 := by decide
def g5 (five : List Tri) (i : Int) : Tri := five.getD i.toNat (0, 0, 0)
def inl (p : Int) (five : List Tri) (t : Tri) : Bool := decide (det (g5 five t.1) (g5 five t.2.1) (g5 five t.2.2) % p = 0)
def ths (p : Int) (five : List Tri) : List Tri := T10.filter (inl p five)
def t3L (t : Tri) : D := .lst [.int t.1, .int t.2.1, .int t.2.2]
theorem g5_at {five : List Tri} (hl : five.length = 5) {i : Int} (h0 : 0 ≤ i) (h1 : i < 5) : five[i.toNat]? = some (g5 five i) := by
  unfold g5
  rw [List.getD_eq_getElem?_getD, List.getElem?_eq_getElem (by omega)]
  rfl
theorem g5_told {p : Int} {five : List Tri} (k : Five p five) {i : Int} (h0 : 0 ≤ i) (h1 : i < 5) : Told p (g5 five i) := k.told _ (List.mem_of_getElem? (g5_at k.len h0 h1))
theorem g5_ne {p : Int} {five : List Tri} (k : Five p five) {i j : Int} (h0 : 0 ≤ i) (h1 : i < j) (h2 : j < 5) : g5 five i ≠ g5 five j := fun e => by
  have hi := g5_at k.len (i := i) (by omega) (by omega)
  have hj := g5_at k.len (i := j) (by omega) (by omega)
  rw [e] at hi
  have hl := k.len
  have := (List.getElem?_inj (by omega) k.nd).mp (hi.trans hj.symm)
  omega
theorem g5_ix {five : List Tri} (hl : five.length = 5) {i : Int} (h0 : 0 ≤ i) (h1 : i < 5) : dIx (.lst (five.map triD)) (.int i) = .ok (triD (g5 five i)) := by
  obtain ⟨n, rfl⟩ : ∃ n : Nat, i = (n : Int) := ⟨i.toNat, by omega⟩
  have e : atI (five.map triD) (n : Int) = some (triD (g5 five n)) := atN (by
    rw [List.getElem?_map, show five[n]? = some (g5 five n) from g5_at hl h0 h1]
    rfl)
  show ofO (atI _ _) = _
  rw [e]
  rfl
theorem threes_ok (d : D) : f_threes_of [d] = .ok (.lst (T10.map triD)) := by
  have r1 : dRg1 [.int 3] = .ok [.int 0, .int 1, .int 2] := rfl
  have r2 : dRg2 [.int 1, .int 4] = .ok [.int 1, .int 2, .int 3] := rfl
  have r3 : dRg2 [.int 2, .int 4] = .ok [.int 2, .int 3] := rfl
  have r4 : dRg2 [.int 3, .int 4] = .ok [.int 3] := rfl
  have r5 : dRg2 [.int 2, .int 5] = .ok [.int 2, .int 3, .int 4] := rfl
  have r6 : dRg2 [.int 3, .int 5] = .ok [.int 3, .int 4] := rfl
  have r7 : dRg2 [.int 4, .int 5] = .ok [.int 4] := rfl
  simp [f_threes_of, defF, r1, r2, r3, r4, r5, r6, r7, xComp, iMode, compR, wipeE, PySem.sizeLine_eq, forS, gExt, T10, triD]
abbrev firB : Ev → S := (sIf (xTru (xAll (callF 4 f_in_line) (xCons (xVar 0) (xCons (x2 dIx (xVar 1) (xVar 2)) (xCons (x2 dIx (xVar 1) (xVar 3)) (xCons (x2 dIx (xVar 1) (xVar 4)) xNil)))))) (sRet (xLst (xAll lLst (xCons (xVar 2) (xCons (xVar 3) (xCons (xVar 4) xNil)))))) sNil)
theorem first_eq : f_first_in_line = defF false 2 5 ((sSeq (sFor (xItems (xAll (callF 1 f_threes_of) (xCons (xVar 1) xNil))) (tgT 3 (tgCons (tgN 2) (tgCons (tgN 3) (tgCons (tgN 4) tgNil)))) firB) (sRet (xLst (xAll lLst xNil))))) := rfl
def fst3 : List Tri → D
  | [] => .lst []
  | t :: _ => t3L t
section
variable {p : Int} (h : Pr p) {five : List Tri} (k : Five p five)
include h k
theorem first_loop : ∀ (l : List Tri), (∀ t ∈ l, t ∈ T10) → ∀ (w2 w3 w4 : Option Sl), (∃ v2 v3 v4, forS (tgT 3 (tgCons (tgN 2) (tgCons (tgN 3) (tgCons (tgN 4) tgNil)))) firB (l.map triD) [iv p, some (.v (.lst (five.map triD))), w2, w3, w4] = match l.filter (inl p five) with
    | [] => .nx [iv p, some (.v (.lst (five.map triD))), v2, v3, v4]
    | t :: _ => .rt (t3L t)) := by
  intro l
  induction l with
  | nil => exact fun _ w2 w3 w4 => ⟨w2, w3, w4, rfl⟩
  | cons t l ih =>
    intro hl w2 w3 w4
    obtain ⟨x1, x2, x3, x4⟩ := T10_lt t (hl t List.mem_cons_self)
    obtain ⟨i, j, m⟩ := t
    simp only at x1 x2 x3 x4
    have e1 := g5_ix k.len (i := i) (by omega) (by omega)
    have e2 := g5_ix k.len (i := j) (by omega) (by omega)
    have e3 := g5_ix k.len (i := m) (by omega) (by omega)
    have e := in_line_ok h (g5_told k (i := i) (by omega) (by omega)) (g5_told k (i := j) (by omega) (by omega)) (g5_told k (i := m) (by omega) (by omega))
    have tg : tgT 3 (tgCons (tgN 2) (tgCons (tgN 3) (tgCons (tgN 4) tgNil))) (triD (i, j, m)) [iv p, some (.v (.lst (five.map triD))), w2, w3, w4] = .ok [iv p, some (.v (.lst (five.map triD))), iv i, iv j, iv m] := rfl
    rw [List.map_cons, forS, tg]
    by_cases q : det (g5 five i) (g5 five j) (g5 five m) % p = 0
    · refine ⟨w2, w3, w4, ?_⟩
      rw [decide_eq_true q] at e
      have b : firB [iv p, some (.v (.lst (five.map triD))), iv i, iv j, iv m] = .rt (t3L (i, j, m)) := by
        simp [-e_ixL, e1, e2, e3, e, t3L]
      rw [List.filter_cons_of_pos (by unfold inl; exact decide_eq_true q)]
      dsimp only
      rw [b]
    · rw [decide_eq_false q] at e
      have b : firB [iv p, some (.v (.lst (five.map triD))), iv i, iv j, iv m] = .nx [iv p, some (.v (.lst (five.map triD))), iv i, iv j, iv m] := by
        simp [-e_ixL, e1, e2, e3, e]
      obtain ⟨v2, v3, v4, e4⟩ := ih (fun t ht => hl t (List.mem_cons_of_mem _ ht)) (iv i) (iv j) (iv m)
      refine ⟨v2, v3, v4, ?_⟩
      rw [List.filter_cons_of_neg (by unfold inl; simpa using q), ← e4]
      dsimp only
      rw [b]
theorem first_ok : f_first_in_line [.int p, .lst (five.map triD)] = .ok (fst3 (ths p five)) := by
  obtain ⟨v2, v3, v4, e⟩ := first_loop h k T10 (fun _ ht => ht) none none none
  rw [first_eq]
  simp only [defF, List.length_cons, List.length_nil, List.map_cons, List.map_nil, List.replicate, Nat.reduceAdd, Nat.reduceSub, if_true, List.cons_append, List.nil_append]
  simp only [e_sSeq, e_sFor, e_xItems, e_xAll, e_xCons, e_xVar, List.getElem?_cons_succ, List.getElem?_cons_zero, e_bind_ok, e_xNil, e_callF, List.length_cons, List.length_nil, Nat.reduceAdd, if_true, threes_ok, e_itL, e_ofM_ok]
  rw [e]
  unfold ths
  cases T10.filter (inl p five) with
  | nil => rfl
  | cons t r => rfl
end
end OM
set_option maxRecDepth 100000
set_option maxHeartbeats 4000000
/-! Law3b: three in line. -/
namespace OM
open PySem L2 DI Lean.Grind
/-! ### the law's own list -/
theorem forS_flat {α W : Type} {tf : D → Ev → M Ev} {b : Ev → S} (mk : α → D) (g : α → List D) (st : List D → W → Ev) : ∀ (l : List α) (acc : List D) (w : W), (∀ x ∈ l, ∀ acc w, acc.length + (g x).length ≤ 1000 → ∃ ρ1, tf (mk x) (st acc w) = .ok ρ1 ∧ ∃ w2, b ρ1 = .nx (st (acc ++ g x) w2)) → acc.length + (l.flatMap g).length ≤ 1000 →
    ∃ w2, forS tf b (l.map mk) (st acc w) = .nx (st (acc ++ l.flatMap g) w2) := by
  intro l
  induction l with
  | nil => exact fun acc w _ _ => ⟨w, by rw [List.flatMap_nil, List.append_nil]; rfl⟩
  | cons x l ih =>
    intro acc w hs hz
    rw [List.flatMap_cons, List.length_append] at hz
    obtain ⟨ρ1, e1, w2, e2⟩ := hs x List.mem_cons_self acc w (by omega)
    obtain ⟨w3, e3⟩ := ih (acc ++ g x) w2 (fun y hy => hs y (List.mem_cons_of_mem _ hy)) (by rw [List.length_append]; omega)
    refine ⟨w3, ?_⟩
    rw [List.map_cons, forS, e1, List.flatMap_cons, ← List.append_assoc, ← e3]
    dsimp only
    rw [e2]
abbrev l3B : Ev → S := (sIf (xTru (xAll (callF 4 f_l_in_line) (xCons (xVar 0) (xCons (x2 dIx (xVar 1) (xVar 3)) (xCons (x2 dIx (xVar 1) (xVar 4)) (xCons (x2 dIx (xVar 1) (xVar 5)) xNil)))))) (sApp 2 (xLst (xAll lLst (xCons (xVar 3) (xCons (xVar 4) (xCons (xVar 5) xNil)))))) sNil)
abbrev l3C : Ev → S := (sFor (xAll dRg2 (xCons (x2 dAdd (xVar 4) (xC (.int 1))) (xCons (xC (.int 5)) xNil))) (tgN 5) l3B)
abbrev l3D : Ev → S := (sFor (xAll dRg2 (xCons (x2 dAdd (xVar 3) (xC (.int 1))) (xCons (xC (.int 4)) xNil))) (tgN 4) l3C)
theorem l3_eq : f_l_three = defF false 2 6 ((sSeq (sOwn 2 (xAll lLst xNil)) (sSeq (sFor (xAll dRg1 (xCons (xC (.int 3)) xNil)) (tgN 3) l3D) (sFrz 2 (sRet (xVar 2)))))) := rfl
def ksJ (j : Int) : List Int := if j = 1 then [2, 3, 4] else if j = 2 then [3, 4] else if j = 3 then [4] else []
def jsI (i : Int) : List Int := if i = 0 then [1, 2, 3] else if i = 1 then [2, 3] else if i = 2 then [3] else []
def g3K (p : Int) (five : List Tri) (i j m : Int) : List D := if inl p five (i, j, m) = true then [t3L (i, j, m)] else []
def g3J (p : Int) (five : List Tri) (i j : Int) : List D := (ksJ j).flatMap (g3K p five i j)
def g3I (p : Int) (five : List Tri) (i : Int) : List D := (jsI i).flatMap (g3J p five i)
theorem ksJ_rg {j : Int} (hj : j = 1 ∨ j = 2 ∨ j = 3) : dRg2 [.int (j + 1), .int 5] = .ok ((ksJ j).map D.int) := by
  rcases hj with rfl | rfl | rfl <;> rfl
theorem jsI_rg {i : Int} (hi : i = 0 ∨ i = 1 ∨ i = 2) : dRg2 [.int (i + 1), .int 4] = .ok ((jsI i).map D.int) := by
  rcases hi with rfl | rfl | rfl <;> rfl
theorem ths_flat (p : Int) (five : List Tri) : ([0, 1, 2] : List Int).flatMap (g3I p five) = (ths p five).map t3L := by
  have fa : ∀ (x : Tri) (l : List Tri), ((x :: l).filter (inl p five)).map t3L = (if inl p five x = true then [t3L x] else []) ++ (l.filter (inl p five)).map t3L := fun x l => by
    by_cases q : inl p five x = true
    · rw [List.filter_cons_of_pos q, if_pos q]
      rfl
    · rw [List.filter_cons_of_neg q, if_neg q]
      rfl
  unfold ths T10
  simp only [fa, List.filter_nil, List.map_nil, List.append_nil]
  simp [g3I, g3J, jsI, ksJ, g3K, List.flatMap_cons]
section
variable {p : Int} (h : Pr p) {five : List Tri} (k : Five p five)
include h k
theorem l3B_ok {i j m : Int} (h0 : 0 ≤ i) (h1 : i < j) (h2 : j < m) (h3 : m < 5) (acc : List D) (hz : acc.length + (g3K p five i j m).length ≤ 1000) : l3B [iv p, some (.v (.lst (five.map triD))), some (.o acc), iv i, iv j, iv m] = .nx [iv p, some (.v (.lst (five.map triD))), some (.o (acc ++ g3K p five i j m)), iv i, iv j, iv m] := by
  have e1 := g5_ix k.len (i := i) (by omega) (by omega)
  have e2 := g5_ix k.len (i := j) (by omega) (by omega)
  have e3 := g5_ix k.len (i := m) (by omega) (by omega)
  have e := l_in_line_ok h (g5_told k (i := i) (by omega) (by omega)) (g5_told k (i := j) (by omega) (by omega)) (g5_told k (i := m) (by omega) (by omega)) (g5_ne k (by omega) h1 (by omega))
  by_cases q : det (g5 five i) (g5 five j) (g5 five m) % p = 0
  · rw [decide_eq_true q] at e
    have gk : g3K p five i j m = [t3L (i, j, m)] := if_pos (by unfold inl; exact decide_eq_true q)
    rw [gk]
    have ga : gApp (.lst [.int i, .int j, .int m]) acc = .ok (acc ++ [t3L (i, j, m)]) := by
      unfold gApp
      rw [if_pos (by rw [PySem.sizeLine_eq]; omega)]
      rfl
    simp [-e_ixL, e1, e2, e3, e, ga]
  · rw [decide_eq_false q] at e
    have gk : g3K p five i j m = [] := if_neg (by unfold inl; simpa using q)
    rw [gk, List.append_nil]
    simp [-e_ixL, e1, e2, e3, e]
theorem l3C_ok {i j : Int} (h0 : 0 ≤ i) (h1 : i < j) (hj : j = 1 ∨ j = 2 ∨ j = 3) (acc : List D) (hz : acc.length + (g3J p five i j).length ≤ 1000) (w5 : Option Sl) : ∃ v5, l3C [iv p, some (.v (.lst (five.map triD))), some (.o acc), iv i, iv j, w5] = .nx [iv p, some (.v (.lst (five.map triD))), some (.o (acc ++ g3J p five i j)), iv i, iv j, v5] := by
  obtain ⟨v5, e⟩ := forS_flat (tf := tgN 5) (b := l3B) D.int (g3K p five i j) (fun acc (w5 : Option Sl) => [iv p, some (.v (.lst (five.map triD))), some (.o acc), iv i, iv j, w5]) (ksJ j) acc w5 (fun m hm acc w hz => by
    have : j < m ∧ m < 5 := by
      rcases hj with rfl | rfl | rfl <;> simp [ksJ] at hm <;> omega
    exact ⟨_, e_tgN 5 _, iv m, l3B_ok h k h0 h1 this.1 this.2 acc hz⟩) hz
  refine ⟨v5, Eq.trans ?_ e⟩
  rw [show l3C [iv p, some (.v (.lst (five.map triD))), some (.o acc), iv i, iv j, w5] = S.ofM (dRg2 [.int (j + 1), .int 5]) fun items => forS (tgN 5) l3B items [iv p, some (.v (.lst (five.map triD))), some (.o acc), iv i, iv j, w5] from rfl, ksJ_rg hj]
  rfl
theorem l3D_ok {i : Int} (hi : i = 0 ∨ i = 1 ∨ i = 2) (acc : List D) (hz : acc.length + (g3I p five i).length ≤ 1000) (w4 w5 : Option Sl) : ∃ v4 v5, l3D [iv p, some (.v (.lst (five.map triD))), some (.o acc), iv i, w4, w5] = .nx [iv p, some (.v (.lst (five.map triD))), some (.o (acc ++ g3I p five i)), iv i, v4, v5] := by
  obtain ⟨⟨v4, v5⟩, e⟩ := forS_flat (tf := tgN 4) (b := l3C) D.int (g3J p five i) (fun acc (w : Option Sl × Option Sl) => [iv p, some (.v (.lst (five.map triD))), some (.o acc), iv i, w.1, w.2]) (jsI i) acc (w4, w5) (fun j hj acc w hz => by
    have : i < j ∧ (j = 1 ∨ j = 2 ∨ j = 3) := by
      rcases hi with rfl | rfl | rfl <;> simp [jsI] at hj <;> omega
    obtain ⟨v5, e⟩ := l3C_ok h k (i := i) (j := j) (by omega) this.1 this.2 acc hz w.2
    exact ⟨_, e_tgN 4 _, (iv j, v5), e⟩) hz
  refine ⟨v4, v5, Eq.trans ?_ e⟩
  rw [show l3D [iv p, some (.v (.lst (five.map triD))), some (.o acc), iv i, w4, w5] = S.ofM (dRg2 [.int (i + 1), .int 4]) fun items => forS (tgN 4) l3C items [iv p, some (.v (.lst (five.map triD))), some (.o acc), iv i, w4, w5] from rfl, jsI_rg hi]
  rfl
theorem l_three_ok : f_l_three [.int p, .lst (five.map triD)] = .ok (.lst ((ths p five).map t3L)) := by
  have hz : ([] : List D).length + (([0, 1, 2] : List Int).flatMap (g3I p five)).length ≤ 1000 := by
    rw [ths_flat, List.length_map]
    have : (ths p five).length ≤ T10.length := List.length_filter_le _ _
    have : T10.length = 10 := rfl
    rw [List.length_nil]
    omega
  obtain ⟨⟨v3, v4, v5⟩, e⟩ := forS_flat (tf := tgN 3) (b := l3D) D.int (g3I p five) (fun acc (w : Option Sl × Option Sl × Option Sl) => [iv p, some (.v (.lst (five.map triD))), some (.o acc), w.1, w.2.1, w.2.2]) [0, 1, 2] [] (none, none, none) (fun i hi acc w hz => by
    obtain ⟨v4, v5, e⟩ := l3D_ok h k (i := i) (by simpa using hi) acc hz w.2.1 w.2.2
    exact ⟨_, e_tgN 3 _, (iv i, v4, v5), e⟩) hz
  rw [ths_flat] at e
  have rg : dRg1 [.int 3] = .ok (([0, 1, 2] : List Int).map D.int) := rfl
  rw [l3_eq]
  simp only [defF, List.length_cons, List.length_nil, List.map_cons, List.map_nil, List.replicate, Nat.reduceAdd, Nat.reduceSub, if_true, List.cons_append, List.nil_append]
  simp only [e_sSeq, e_sOwn, e_xAll, e_xNil, e_bind_ok, e_lLst0, e_ofM_ok, List.set_cons_succ, List.set_cons_zero, e_then_nx, e_sFor, e_xCons, e_xC, rg]
  rw [e]
  rfl
end
end OM
set_option maxRecDepth 100000
set_option maxHeartbeats 4000000
/-! Law3c: the oval or the three that is found, and what is said of others. -/
namespace OM
open PySem L2 DI
theorem eq3 (u v : Tri) : PyData.eqv (t3L u).toP (t3L v).toP = decide (u = v) := by
  obtain ⟨a, b, c⟩ := u
  obtain ⟨d, e, f⟩ := v
  simp [t3L, D.toP, toPs, PyData.eqv, PyData.eqvAll, Prod.mk.injEq, Bool.decide_and]
  rfl
theorem ok3 (u : Tri) : (t3L u).ok = true := by rfl
theorem toPs_map3 (ts : List Tri) : toPs (ts.map t3L) = ts.map fun t => (t3L t).toP := by
  induction ts with
  | nil => rfl
  | cons t r ih => rw [List.map_cons, List.map_cons, toPs, ih]
theorem okTs3 : ∀ ts : List Tri, isDs (ts.map t3L) = true ∧ PyData.canLayAll0 (toPs (ts.map t3L)) = true ∧ PyData.depthAll (toPs (ts.map t3L)) ≤ 3
  | [] => ⟨rfl, rfl, by decide⟩
  | t :: r => by
    obtain ⟨a, b, c⟩ := okTs3 r
    rw [List.map_cons]
    refine ⟨by rw [isDs, a]; rfl, by rw [toPs, PyData.canLayAll0, b]; rfl, ?_⟩
    rw [toPs, PyData.depthAll]
    have : (t3L t).toP.depth ≤ 3 := by
      simp [t3L, D.toP, toPs, PyData.depth, PyData.depthAll]
    omega
theorem okL3 (ts : List Tri) : (D.lst (ts.map t3L)).ok = true := by
  obtain ⟨a, b, c⟩ := okTs3 ts
  unfold D.ok SeqAt.shaped
  rw [D.isD, a, D.toP, PyData.canLay0, b, PyData.depth]
  simp
  omega
theorem any3 (ts : List Tri) (t : Tri) : ((toPs (ts.map t3L)).any fun z => PyData.eqv z (t3L t).toP) = decide (t ∈ ts) := by
  rw [toPs_map3, List.any_map]
  induction ts with
  | nil => rfl
  | cons u r ih =>
    rw [List.any_cons, ih]
    simp only [Function.comp, eq3, List.mem_cons, Bool.decide_or, eq_comm]
theorem dIn3 (ts : List Tri) (t : Tri) : dIn (t3L t) (.lst (ts.map t3L)) = .ok (.bl (decide (t ∈ ts))) := by
  unfold dIn
  rw [ok3, okL3, ← any3]
  rfl
theorem dNe3 (ts : List Tri) : dNe (.lst (ts.map t3L)) (.lst []) = .ok (.bl (!decide (ts = []))) := by
  unfold dNe
  rw [okL3]
  cases ts with
  | nil => rfl
  | cons t r =>
    rw [decide_eq_false (by simp)]
    rfl
theorem dNeF (ts : List Tri) : dNe (fst3 ts) (.lst []) = .ok (.bl (!decide (ts = []))) := by
  cases ts with
  | nil => rfl
  | cons t r =>
    rw [decide_eq_false (by simp)]
    exact ne3 _ _ _
theorem dEqF (ts : List Tri) : dEq (fst3 ts) (.lst []) = .ok (.bl (decide (ts = []))) := by
  cases ts with
  | nil => rfl
  | cons t r =>
    rw [decide_eq_false (by simp)]
    rfl
theorem dNeI0 (x : Int) (r : List Int) : dNe (.lst (.int x :: r.map D.int)) (.lst []) = .ok (.bl true) := by
  have := okLI (x :: r)
  rw [List.map_cons] at this
  unfold dNe
  rw [this]
  rfl
theorem l_is_told_L {p : Int} (v : List Int) (k : ToldL p v) (hl : v.length ≤ 1000) : f_l_is_told [.int p, .tup (v.map D.int), .int v.length] = .ok (.bl true) := by
  obtain ⟨k1, r, k2⟩ := k
  have c1 : xComp false [4] (xItems (xVar 1)) (tgN 4) bYes (xAnd (xAll (dIsT .int) (xCons (xVar 4) (xCons (xC (.ty "int")) xNil))) (xAnd (xNot (xAll (dIsT .bool) (xCons (xVar 4) (xCons (xC (.ty "bool")) xNil)))) (xChain dLe dLt (xC (.int 0)) (xVar 4) (xVar 0)))) [iv p, some (.v (.tup (v.map D.int))), iv v.length, none, none] = .ok ((v.map fun _ => true).map D.bl) := by
    rw [e_comp (items := v.map D.int) (by simp) (by intro q; cases q) (by rw [List.length_map]; exact sz16 (by omega)),
      e_compY D.int (fun x => [iv p, some (.v (.tup (v.map D.int))), iv v.length, none, iv x]) (fun _ => D.bl true) v (fun x _ => by simp [wipeE]) (fun x hx => by
        have := k1 x hx
        simp [this.1, this.2]), List.map_map]
    rfl
  have c3 : xComp false [4] (xItems (xVar 1)) (tgN 4) (bBl (x2 dGt (xVar 4) (xC (.int 0)))) (xVar 4) [iv p, some (.v (.tup (v.map D.int))), iv v.length, none, none] = .ok ((v.filter fun x => decide (0 < x)).map D.int) := by
    rw [e_comp (items := v.map D.int) (by simp) (by intro q; cases q) (by rw [List.length_map]; exact sz16 (by omega)),
      e_compR D.int (fun x => [iv p, some (.v (.tup (v.map D.int))), iv v.length, none, iv x]) (fun x => decide (0 < x)) (fun x => .int x) v (fun x _ => by simp [wipeE]) (fun x _ => by simp) (fun x _ _ => by simp)]
  have al : (v.map fun _ => true).all id = true := by
    rw [List.all_map]
    exact List.all_eq_true.mpr fun _ _ => rfl
  have i0 : atI (D.int 1 :: r.map D.int) 0 = some (.int 1) := by simp [atI, ixN]
  simp only [f_l_is_told, defF, List.length_cons, List.length_nil, List.map_cons, List.map_nil, List.replicate, Nat.reduceAdd, Nat.reduceSub, if_true, List.cons_append, List.nil_append]
  simp only [e_sSeq, e_sIf, e_bOr, e_bNot, e_xTru, e_bBl, e_x2, e_xAll, e_xCons, e_xNil, e_xLst, e_xVar, e_xC, List.getElem?_cons_succ, List.getElem?_cons_zero, e_bind_ok, e_isTu, e_isT_tt, e_truB, e_lenT, List.length_map, e_neI, beq_self_eq_true, Bool.not_true, Bool.false_eq_true, if_false, c1, e_all, blsOf_map, e_ofO_some, al, e_ofM_ok, e_sNil, e_then_nx, e_sSet, c3]
  simp [k2, i0, dNeI0]
theorem l_is_told_F {p : Int} {F : Frm} (k : FT p F) : f_l_is_told [.int p, frmD F, .int 6] = .ok (.bl true) := l_is_told_L (frmL F) k (by simp [frmL])
/-! ### the five are unlike -/
theorem dd_nd : ∀ {l : List (List Int)}, l.Nodup → dd l = l
  | [], _ => rfl
  | x :: l, h => by
    have h2 := List.nodup_cons.mp h
    unfold dd
    rw [if_neg h2.1, dd_nd h2.2]
theorem tupsOf_T : ∀ ts : List Tri, tupsOf (ts.map triD) = some (ts.map ls)
  | [] => rfl
  | t :: r => by
    rw [List.map_cons, tupsOf, tupsOf_T r]
    rfl
theorem lenSetT {ts : List Tri} (hn : ts.Nodup) (hl : ts.length < 64) : dLenSet (.lst (ts.map triD)) = .ok (.int ts.length) := by
  have hd : dd (ts.map ls) = ts.map ls := dd_nd (List.Pairwise.map ls (fun a b ne e => ne (by
    obtain ⟨a1, a2, a3⟩ := a
    obtain ⟨b1, b2, b3⟩ := b
    simp [ls] at e
    obtain ⟨e1, e2, e3⟩ := e
    rw [e1, e2, e3])) hn)
  unfold dLenSet
  dsimp only
  rw [tupsOf_T]
  dsimp only
  rw [if_pos (by rw [List.length_map]; exact hl), hd, List.length_map]
def ovB (p : Int) (F : Frm) (five : List Tri) : Bool := decide (ths p five = []) && five.all fun t => qf F t % p == 0
section
variable (z : Adr) {p : Int} (h : Pr p) {five : List Tri} (k : Five p five)
include h k
theorem chk_loop (w3 : Option Sl) : ∀ (l : List Tri), (∀ t ∈ l, Told p t) → ∀ (w2 : Option Sl), ∃ v2, forS (tgN 2) (sDrop (xAll (callF 2 (f_check_point z)) (xCons (xVar 0) (xCons (xVar 2) xNil)))) (l.map triD) [iv p, some (.v (.lst (five.map triD))), w2, w3] = .nx [iv p, some (.v (.lst (five.map triD))), v2, w3] := by
  intro l
  induction l with
  | nil => exact fun _ w2 => ⟨w2, rfl⟩
  | cons t l ih =>
    intro ht w2
    obtain ⟨v2, e⟩ := ih (fun u hu => ht u (List.mem_cons_of_mem _ hu)) (some (.v (triD t)))
    have c := check_point_ok z h (ht t List.mem_cons_self)
    refine ⟨v2, ?_⟩
    rw [← e, List.map_cons, forS]
    simp [c]
theorem oval_ok : ∃ F, FT p F ∧ (∀ t ∈ five, qf F t % p = 0) ∧ f_oval z [.int p, .lst (five.map triD)] = match ths p five with
    | [] => .ok (.d (.ins z.Oval ["form"] [frmD F]))
    | t :: _ => .ok (.i z.InLine "three" [.int t.1, .int t.2.1, .int t.2.2]) := by
  obtain ⟨F, hF, hq, e1⟩ := through_ok h k.len k.told
  refine ⟨F, hF, hq, ?_⟩
  have e2 := check_prime_ok z h
  have e3 := lenSetT k.nd (by rw [k.len]; decide)
  rw [k.len] at e3
  have e4 := first_ok h k
  obtain ⟨v2, e5⟩ := chk_loop z h k none five k.told none
  have ln : ((five.map triD).length : Int) = 5 := by rw [List.length_map, k.len]; rfl
  cases q : ths p five with
  | nil =>
    rw [q] at e4
    have e6 := dEqF []
    simp only [fst3] at e4 e6
    simp [f_oval, defO, e2, isT, k.len, e5, e3, e4, e6, e1]
  | cons t r =>
    rw [q] at e4
    have e6 := dEqF (t :: r)
    simp only [fst3] at e4 e6
    simp [f_oval, defO, e2, isT, k.len, e5, e3, e4, e6]
    simp [t3L]
theorem Oval_shows_ok {F : Frm} (hF : FT p F) : f_Oval_shows z [.ins z.Oval ["form"] [frmD F], .int p, .lst (five.map triD)] = .ok (.bl (ovB p F five)) := by
  have e1 := is_told_F hF
  have e2 := first_ok h k
  have e3 := dNeF (ths p five)
  have c : xComp false [3] (xItems (xVar 2)) (tgN 3) bYes (x2 dEq (xAll (callF 3 f_left_by) (xCons (xVar 1) (xCons (x1 (dFld [z.Oval] "form") (xVar 0)) (xCons (xVar 3) xNil)))) (xC (.int 0))) [some (.v (.ins z.Oval ["form"] [frmD F])), iv p, some (.v (.lst (five.map triD))), none] = .ok ((five.map fun t => qf F t % p == 0).map D.bl) := by
    rw [e_comp (items := five.map triD) (by simp) (by intro q; cases q) (by rw [List.length_map, k.len]; exact sz16 (by omega)),
      e_compY triD (fun t => [some (.v (.ins z.Oval ["form"] [frmD F])), iv p, some (.v (.lst (five.map triD))), some (.v (triD t))]) (fun t => D.bl (qf F t % p == 0)) five (fun x _ => by simp [wipeE]) (fun x hx => by
        have e := left_ok h (hF.b h) ((k.told x hx).b12 h)
        simp [e]), List.map_map]
    rfl
  have al : (five.map fun t => qf F t % p == 0).all id = five.all fun t => qf F t % p == 0 := by
    rw [List.all_map]
    rfl
  unfold ovB
  by_cases q : ths p five = []
  · rw [decide_eq_true q] at e3 ⊢
    simp only [f_Oval_shows, defF, List.length_cons, List.length_nil, List.map_cons, List.map_nil, List.replicate, Nat.reduceAdd, Nat.reduceSub, if_true, List.cons_append, List.nil_append]
    simp only [e_sSeq, e_sIf, e_bOr, e_bNot, e_xTru, e_bBl, e_x2, e_x1, e_xAll, e_xCons, e_xNil, e_xLst, e_xVar, e_xC, List.getElem?_cons_succ, List.getElem?_cons_zero, e_bind_ok, e_fld, e_callF, List.length_cons, List.length_nil, Nat.reduceAdd, if_true, e1, e2, e3, e_lLst0, e_truB, Bool.not_true, Bool.false_eq_true, if_false, e_ofM_ok, e_sNil, e_then_nx, e_sRet, c, e_all, blsOf_map, e_ofO_some, al, Bool.true_and]
  · rw [decide_eq_false q] at e3 ⊢
    simp [f_Oval_shows, defF, e1, e2, e3]
theorem InLine_shows_ok {t : Tri} (ht : t ∈ T10) : f_InLine_shows z [.ins z.InLine ["three"] [.lst [.int t.1, .int t.2.1, .int t.2.2]], .int p, .lst (five.map triD)] = .ok (.bl (inl p five t)) := by
  obtain ⟨x1, x2, x3, x4⟩ := T10_lt t ht
  have e1 := g5_ix k.len (i := t.1) (by omega) (by omega)
  have e2 := g5_ix k.len (i := t.2.1) (by omega) (by omega)
  have e3 := g5_ix k.len (i := t.2.2) (by omega) (by omega)
  have e := in_line_ok h (g5_told k (i := t.1) (by omega) (by omega)) (g5_told k (i := t.2.1) (by omega) (by omega)) (g5_told k (i := t.2.2) (by omega) (by omega))
  simp [-e_ixL, f_InLine_shows, defF, f_is_whole, xComp, iMode, compR, wipeE, PySem.sizeLine_eq, blsOf, x1, x2, x3, x4, e1, e2, e3, e, inl]
omit h k in
theorem InLine_shows4 (t : Tri) (d : D) : f_InLine_shows z [.ins z.InLine ["three"] [.lst [.int t.1, .int t.2.1, .int t.2.2, .int 5]], .int p, d] = .ok (.bl false) := by
  simp [f_InLine_shows, defF]
end
section
variable (z : Adr) (kk : KitOk z) {p : Int} (h : Pr p) {five : List Tri} (k : Five p five)
include kk h k
theorem due3_o {F : Frm} (hF : FT p F) : f_l_due3 z [.int p, .lst (five.map triD), .ins z.Oval ["form"] [frmD F]] = .ok (.bl (ovB p F five)) := by
  obtain ⟨k00, k01, k02, k03, k04, k10, k11, k12, k13, k14, k20, k21, k22, k23, k24, k30, k31, k32, k33, k34⟩ := kk
  have i0 := fun (ns : List Str) (xs : List D) => e_isC (cs := [z.Oval, z.InLine, z.Shared, z.Apart]) (ns := ns) (xs := xs) (by simp) k00
  have e1 := l_is_told_F hF
  have e2 := l_three_ok h k
  have e3 := dNe3 (ths p five)
  have c : xComp false [3] (xItems (xVar 1)) (tgN 3) bYes (x2 dEq (xAll (callF 3 f_l_left) (xCons (xVar 0) (xCons (x1 (dFld [z.Oval] "form") (xVar 2)) (xCons (xVar 3) xNil)))) (xC (.int 0))) [iv p, some (.v (.lst (five.map triD))), some (.v (.ins z.Oval ["form"] [frmD F])), none] = .ok ((five.map fun t => qf F t % p == 0).map D.bl) := by
    rw [e_comp (items := five.map triD) (by simp) (by intro q; cases q) (by rw [List.length_map, k.len]; exact sz16 (by omega)),
      e_compY triD (fun t => [iv p, some (.v (.lst (five.map triD))), some (.v (.ins z.Oval ["form"] [frmD F])), some (.v (triD t))]) (fun t => D.bl (qf F t % p == 0)) five (fun x _ => by simp [wipeE]) (fun x hx => by
        have e := l_left_ok h (hF.b h) ((k.told x hx).b12 h)
        simp [e]), List.map_map]
    rfl
  have al : (five.map fun t => qf F t % p == 0).all id = five.all fun t => qf F t % p == 0 := by
    rw [List.all_map]
    rfl
  unfold ovB
  by_cases q : ths p five = []
  · rw [decide_eq_true q] at e3 ⊢
    simp only [f_l_due3, defF, List.length_cons, List.length_nil, List.map_cons, List.map_nil, List.replicate, Nat.reduceAdd, Nat.reduceSub, if_true, List.cons_append, List.nil_append]
    simp only [e_sSeq, e_sIf, e_bOr, e_bNot, e_xTru, e_bBl, e_x2, e_x1, e_xAll, e_xCons, e_xNil, e_xLst, e_xVar, e_xC, List.getElem?_cons_succ, List.getElem?_cons_zero, e_bind_ok, i0, e_fld, e_callF, List.length_cons, List.length_nil, Nat.reduceAdd, if_true, e1, e2, e3, e_lLst0, e_truB, Bool.not_true, Bool.false_eq_true, if_false, e_ofM_ok, e_sNil, e_then_nx, e_sRet, c, e_all, blsOf_map, e_ofO_some, al, Bool.true_and]
    try rfl
  · rw [decide_eq_false q] at e3 ⊢
    simp [f_l_due3, defF, i0, e1, e2, e3]
theorem due3_i {t : Tri} (ht : t ∈ T10) : f_l_due3 z [.int p, .lst (five.map triD), .ins z.InLine ["three"] [.lst [.int t.1, .int t.2.1, .int t.2.2]]] = .ok (.bl (inl p five t)) := by
  obtain ⟨k00, k01, k02, k03, k04, k10, k11, k12, k13, k14, k20, k21, k22, k23, k24, k30, k31, k32, k33, k34⟩ := kk
  have i0 := fun (ns : List Str) (xs : List D) => e_isC (cs := [z.Oval, z.InLine, z.Shared, z.Apart]) (ns := ns) (xs := xs) (by simp) k10
  have e2 := l_three_ok h k
  have e3 := dIn3 (ths p five) t
  have em : decide (t ∈ ths p five) = inl p five t := by
    unfold ths
    by_cases q : inl p five t = true
    · rw [q]
      exact decide_eq_true (List.mem_filter.mpr ⟨ht, q⟩)
    · rw [Bool.eq_false_iff.mpr q]
      exact decide_eq_false fun m => q (List.mem_filter.mp m).2
  rw [em] at e3
  simp only [t3L] at e3
  simp [f_l_due3, defF, i0, e2, e3]
end
end OM
set_option maxRecDepth 100000
set_option maxHeartbeats 4000000
/-! Law3d: five points asked. -/
namespace OM
open PySem L2 DI
noncomputable abbrev r3in (z : Adr) : Ev → S := (sIf (bNot (xTru (xAll (callF 2 f_l_says) (xCons (xMeth2 "shows" z.Oval z.InLine 3 (f_Oval_shows z) (f_InLine_shows z) (xOwn 6) (xCons (xVar 0) (xCons (xVar 7) xNil))) (xCons (xAll (callF 3 (f_l_due3 z)) (xCons (xVar 0) (xCons (xVar 7) (xCons (xOwn 6) xNil)))) xNil))))) (sRet (xC (.bl false))) sNil)
noncomputable abbrev r3b1 (z : Adr) : Ev → S := (sOwnI 6 (fun ρ => ((xCons (xVar 0) (xCons (xOwn 4) xNil)) ρ).bind fun ds => (callO 2 (f_oval z) ds).bind fun r => if r.flat then .ok r else .und))
noncomputable abbrev r3b2 (z : Adr) : Ev → S := (sIf (bOr (bNot (xTru (xAll (dIsI z.K [z.Oval, z.InLine, z.Shared, z.Apart]) (xCons (xOwn 6) (xCons (xC (.fn z.Answer)) xNil))))) (bOr (bBl (x2 dEq (xAll (dIsI z.K [z.Oval, z.InLine, z.Shared, z.Apart]) (xCons (xOwn 6) (xCons (xC (.fn z.Oval)) xNil))) (xAll (dIsI z.K [z.Oval, z.InLine, z.Shared, z.Apart]) (xCons (xOwn 6) (xCons (xC (.fn z.InLine)) xNil))))) (bBl (x2 dNe (xOwn 4) (xVar 1))))) (sRet (xC (.bl false))) sNil)
noncomputable abbrev r3b3 (z : Adr) : Ev → S := (sIf (bOr (xTru (xAll (dIsI z.K [z.Oval, z.InLine, z.Shared, z.Apart]) (xCons (xOwn 6) (xCons (xC (.fn z.Shared)) xNil)))) (bOr (xTru (xAll (dIsI z.K [z.Oval, z.InLine, z.Shared, z.Apart]) (xCons (xOwn 6) (xCons (xC (.fn z.Apart)) xNil)))) (bBl (x2 dNe (xAll (dIsI z.K [z.Oval, z.InLine, z.Shared, z.Apart]) (xCons (xOwn 6) (xCons (xC (.fn z.InLine)) xNil))) (x2 dNe (xVar 5) (xLst (xAll lLst xNil))))))) (sRet (xC (.bl false))) sNil)
noncomputable abbrev r3b4 (z : Adr) : Ev → S := (sIf (bOr (bNot (xTru (xAll (callF 3 (f_l_due3 z)) (xCons (xVar 0) (xCons (xVar 1) (xCons (xOwn 6) xNil)))))) (bBl (x2 dIsNot (xMeth2 "shows" z.Oval z.InLine 3 (f_Oval_shows z) (f_InLine_shows z) (xOwn 6) (xCons (xVar 0) (xCons (xVar 1) xNil))) (xC (.bl true))))) (sRet (xC (.bl false))) sNil)
noncomputable abbrev r3t1 (z : Adr) : Ev → S := (sIf (bOr (bNot (xTru (xAll (dIsT .lst) (xCons (x1 (dFld [z.InLine] "three") (xOwn 6)) (xCons (xC (.ty "list")) xNil))))) (bNot (xTru (xAll dAll (xCons (xLst (xComp true [8] (xItems (x1 (dFld [z.InLine] "three") (xOwn 6))) (tgN 8) bYes (xAll (callF 1 f_l_whole) (xCons (xVar 8) xNil)))) xNil))))) (sRet (xC (.bl false))) sNil)
noncomputable abbrev r3t2 (z : Adr) : Ev → S := (sAppF 6 "three" [z.InLine] (xC (.int 5)))
noncomputable abbrev r3t3 (z : Adr) : Ev → S := (sIf (bBl (x2 dIsNot (xMeth2 "shows" z.Oval z.InLine 3 (f_Oval_shows z) (f_InLine_shows z) (xOwn 6) (xCons (xVar 0) (xCons (xVar 1) xNil))) (xC (.bl false)))) (sRet (xC (.bl false))) sNil)
noncomputable abbrev r3b5 (z : Adr) : Ev → S := (sFor (xItems (xVar 2)) (tgN 7) (r3in z))
noncomputable abbrev r3b6 (z : Adr) : Ev → S := (sIf (xTru (xAll (dIsI z.K [z.Oval, z.InLine, z.Shared, z.Apart]) (xCons (xOwn 6) (xCons (xC (.fn z.InLine)) xNil)))) (sSeq (r3t1 z) (sSeq (r3t2 z) (r3t3 z))) sNil)
noncomputable abbrev r3body (z : Adr) : Ev → S := (sSeq (r3b1 z) (sSeq (r3b2 z) (sSeq (r3b3 z) (sSeq (r3b4 z) (sSeq (r3b5 z) (r3b6 z))))))
noncomputable abbrev r3z1 (z : Adr) : Ev → S := (sRev 4)
noncomputable abbrev r3z2 (z : Adr) : Ev → S := (sFrz 4 (sRet (xAll (callF 3 (f_l_due3 z)) (xCons (xVar 0) (xCons (x1 (dPickG none (some (-1))) (xVar 1)) (xCons (fun ρ => ((xCons (xVar 0) (xCons (xVar 4) xNil)) ρ).bind fun ds => (callO 2 (f_oval z) ds).bind fun r => .ok r.toD) xNil))))))
theorem right3_eq (z : Adr) : f_l_right3 z = defF false 3 9 (sSeq (sParO 4 5 (xAll dListF (xCons (xVar 1) xNil)) (xAll (callF 2 f_l_three) (xCons (xVar 0) (xCons (xVar 1) xNil)))) (sSeq (sFor (xAll dRg1 (xCons (xC (.int 2)) xNil)) (tgN 3) (r3body z)) (sSeq (r3z1 z) (r3z2 z)))) := rfl
theorem nsf : ¬ ("shows" : Str) ∈ (["form"] : List Str) := by decide
theorem nst : ¬ ("shows" : Str) ∈ (["three"] : List Str) := by decide
abbrev insO (z : Adr) (F : Frm) : D := .ins z.Oval ["form"] [frmD F]
abbrev insI (z : Adr) (t : Tri) : D := .ins z.InLine ["three"] [.lst [.int t.1, .int t.2.1, .int t.2.2]]
def slO (z : Adr) (F : Frm) : Option Sl := some (.v (insO z F))
def slI (z : Adr) (t : Tri) : Option Sl := some (.oi z.InLine "three" [.int t.1, .int t.2.1, .int t.2.2])
def slI4 (z : Adr) (t : Tri) : Option Sl := some (.oi z.InLine "three" [.int t.1, .int t.2.1, .int t.2.2, .int 5])
def osD (os : List (List Tri)) : D := .lst (os.map fun o => .lst (o.map triD))
abbrev st3 (p : Int) (five : List Tri) (os : List (List Tri)) (ts : List Tri) (w3 s6 w7 : Option Sl) : Ev :=
  [iv p, some (.v (.lst (five.map triD))), some (.v (osD os)), w3, some (.o (five.map triD)), some (.v (.lst (ts.map t3L))), s6, w7, none]
theorem ci_ne (z : Adr) (k : KitOk z) : z.InLine ≠ z.Oval := by
  obtain ⟨k00, k01, k02, k03, k04, k10, k11, k12, k13, k14, k20, k21, k22, k23, k24, k30, k31, k32, k33, k34⟩ := k
  intro e
  rw [e, k00] at k10
  cases k10
section
variable (z : Adr) (kk : KitOk z)
include kk
theorem isiO : (∀ ns xs, dIsI z.K [z.Oval, z.InLine, z.Shared, z.Apart] [.ins z.Oval ns xs, .fn z.Oval] = .ok (.bl true)) ∧ (∀ ns xs, dIsI z.K [z.Oval, z.InLine, z.Shared, z.Apart] [.ins z.Oval ns xs, .fn z.InLine] = .ok (.bl false)) ∧
    (∀ ns xs, dIsI z.K [z.Oval, z.InLine, z.Shared, z.Apart] [.ins z.Oval ns xs, .fn z.Shared] = .ok (.bl false)) ∧ (∀ ns xs, dIsI z.K [z.Oval, z.InLine, z.Shared, z.Apart] [.ins z.Oval ns xs, .fn z.Apart] = .ok (.bl false)) ∧
    (∀ ns xs, dIsI z.K [z.Oval, z.InLine, z.Shared, z.Apart] [.ins z.Oval ns xs, .fn z.Answer] = .ok (.bl true)) := by
  obtain ⟨k00, k01, k02, k03, k04, k10, k11, k12, k13, k14, k20, k21, k22, k23, k24, k30, k31, k32, k33, k34⟩ := kk
  exact ⟨fun _ _ => e_isC (by simp) k00, fun _ _ => e_isC (by simp) k01, fun _ _ => e_isC (by simp) k02, fun _ _ => e_isC (by simp) k03, fun _ _ => e_isC (by simp) k04⟩
theorem isiI : (∀ ns xs, dIsI z.K [z.Oval, z.InLine, z.Shared, z.Apart] [.ins z.InLine ns xs, .fn z.Oval] = .ok (.bl false)) ∧ (∀ ns xs, dIsI z.K [z.Oval, z.InLine, z.Shared, z.Apart] [.ins z.InLine ns xs, .fn z.InLine] = .ok (.bl true)) ∧
    (∀ ns xs, dIsI z.K [z.Oval, z.InLine, z.Shared, z.Apart] [.ins z.InLine ns xs, .fn z.Shared] = .ok (.bl false)) ∧ (∀ ns xs, dIsI z.K [z.Oval, z.InLine, z.Shared, z.Apart] [.ins z.InLine ns xs, .fn z.Apart] = .ok (.bl false)) ∧
    (∀ ns xs, dIsI z.K [z.Oval, z.InLine, z.Shared, z.Apart] [.ins z.InLine ns xs, .fn z.Answer] = .ok (.bl true)) := by
  obtain ⟨k00, k01, k02, k03, k04, k10, k11, k12, k13, k14, k20, k21, k22, k23, k24, k30, k31, k32, k33, k34⟩ := kk
  exact ⟨fun _ _ => e_isC (by simp) k10, fun _ _ => e_isC (by simp) k11, fun _ _ => e_isC (by simp) k12, fun _ _ => e_isC (by simp) k13, fun _ _ => e_isC (by simp) k14⟩
end
section
variable (z : Adr) (kk : KitOk z) {p : Int} (h : Pr p) {five : List Tri} (os : List (List Tri)) (ts : List Tri)
include kk h
theorem in_o {F : Frm} (hF : FT p F) : ∀ (os' : List (List Tri)), (∀ o ∈ os', Five p o) → ∀ (w3 w7 : Option Sl), ∃ v7, forS (tgN 7) (r3in z) (os'.map fun o => .lst (o.map triD)) (st3 p five os ts w3 (slO z F) w7) = .nx (st3 p five os ts w3 (slO z F) v7)
  | [], _, w3, w7 => ⟨w7, rfl⟩
  | o :: os', ho, w3, w7 => by
    have ko := ho o List.mem_cons_self
    obtain ⟨v7, e⟩ := in_o hF os' (fun o' h' => ho o' (List.mem_cons_of_mem _ h')) w3 (some (.v (.lst (o.map triD))))
    refine ⟨v7, ?_⟩
    rw [← e, List.map_cons, forS]
    have d := due3_o z kk h ko hF
    have sh := Oval_shows_ok z h ko hF
    have m := e_xMethA (mt := "shows") (C := z.Oval) (C2 := z.InLine) (n := 3) (F := f_Oval_shows z) (F2 := f_InLine_shows z) (f := xOwn 6) (fs := xCons (xVar 0) (xCons (xVar 7) xNil)) (ρ := st3 p five os ts w3 (slO z F) (some (.v (.lst (o.map triD))))) (ns := ["form"]) (xs := [frmD F]) rfl nsf
    simp [sh] at m
    simp [slO, d]
    simp [slO] at m
    rw [m]
    simp [says_ok]
theorem in_i {t : Tri} (ht : t ∈ T10) : ∀ (os' : List (List Tri)), (∀ o ∈ os', Five p o) → ∀ (w3 w7 : Option Sl), ∃ v7, forS (tgN 7) (r3in z) (os'.map fun o => .lst (o.map triD)) (st3 p five os ts w3 (slI z t) w7) = .nx (st3 p five os ts w3 (slI z t) v7)
  | [], _, w3, w7 => ⟨w7, rfl⟩
  | o :: os', ho, w3, w7 => by
    have ko := ho o List.mem_cons_self
    obtain ⟨v7, e⟩ := in_i ht os' (fun o' h' => ho o' (List.mem_cons_of_mem _ h')) w3 (some (.v (.lst (o.map triD))))
    refine ⟨v7, ?_⟩
    rw [← e, List.map_cons, forS]
    have d := due3_i z kk h ko ht
    have sh := InLine_shows_ok z h ko ht
    have m := e_xMethB (mt := "shows") (C := z.Oval) (C2 := z.InLine) (n := 3) (F := f_Oval_shows z) (F2 := f_InLine_shows z) (f := xOwn 6) (fs := xCons (xVar 0) (xCons (xVar 7) xNil)) (ρ := st3 p five os ts w3 (slI z t) (some (.v (.lst (o.map triD))))) (ns := ["three"]) (xs := [.lst [.int t.1, .int t.2.1, .int t.2.2]]) (ci_ne z kk) rfl nst
    simp [sh] at m
    simp [slI, d]
    simp [slI] at m
    rw [m]
    simp [says_ok]
variable (k : Five p five)
include k
theorem ov_all {F : Frm} (q : ths p five = []) (hq : ∀ t ∈ five, qf F t % p = 0) : ovB p F five = true := by
  unfold ovB
  rw [decide_eq_true q, Bool.true_and]
  exact List.all_eq_true.mpr fun t ht => by rw [hq t ht]; rfl
theorem turn_o {F : Frm} (hF : FT p F) (q : ths p five = []) (hq : ∀ t ∈ five, qf F t % p = 0) (eo : f_oval z [.int p, .lst (five.map triD)] = .ok (.d (insO z F))) (ho : ∀ o ∈ os, Five p o) (w3 w6 w7 : Option Sl) :
    ∃ w6' w7', r3body z (st3 p five os [] w3 w6 w7) = .nx (st3 p five os [] w3 w6' w7') := by
  obtain ⟨i0, i1, i2, i3, i4⟩ := isiO z kk
  have bo := ov_all z kk h k q hq
  have t1 : r3b1 z (st3 p five os [] w3 w6 w7) = .nx (st3 p five os [] w3 (slO z F) w7) := by
    simp [eo, slO, Fr.flat, D.flat, flats, frmD, frmL]
  have ne5 := dNeLT five five
  rw [decide_eq_true rfl] at ne5
  have t2 : r3b2 z (st3 p five os [] w3 (slO z F) w7) = .nx (st3 p five os [] w3 (slO z F) w7) := by
    simp [slO, i0, i1, i4, ne5]
  have ne0 := dNe3 []
  rw [decide_eq_true rfl] at ne0
  have t3 : r3b3 z (st3 p five os [] w3 (slO z F) w7) = .nx (st3 p five os [] w3 (slO z F) w7) := by
    simp only [List.map_nil] at ne0
    simp [slO, i1, i2, i3, ne0]
  have d := due3_o z kk h k hF
  have sh := Oval_shows_ok z h k hF
  rw [bo] at d sh
  have t4 : r3b4 z (st3 p five os [] w3 (slO z F) w7) = .nx (st3 p five os [] w3 (slO z F) w7) := by
    have m : xMeth2 "shows" z.Oval z.InLine 3 (f_Oval_shows z) (f_InLine_shows z) (xOwn 6) (xCons (xVar 0) (xCons (xVar 1) xNil)) (st3 p five os [] w3 (slO z F) w7) = .ok (.bl true) := by
      rw [e_xMethA (ns := ["form"]) (xs := [frmD F]) rfl nsf]
      simp [sh]
    have d' : xTru (xAll (callF 3 (f_l_due3 z)) (xCons (xVar 0) (xCons (xVar 1) (xCons (xOwn 6) xNil)))) (st3 p five os [] w3 (slO z F) w7) = .ok true := by
      simp [slO, d]
    simp only [r3b4, e_sIf, e_bOr, e_bNot, d', e_bind_ok, Bool.not_true, Bool.false_eq_true, if_false, e_bBl, e_x2, m, e_xC, e_isNot, e_ofM_ok]
    simp
  obtain ⟨v7, ei⟩ := in_o z kk h (five := five) os [] hF os ho w3 w7
  have t5 : r3b5 z (st3 p five os [] w3 (slO z F) w7) = .nx (st3 p five os [] w3 (slO z F) v7) := by
    rw [← ei]
    simp [osD]
  have t6 : r3b6 z (st3 p five os [] w3 (slO z F) v7) = .nx (st3 p five os [] w3 (slO z F) v7) := by
    simp [slO, i1]
  exact ⟨slO z F, v7, by simp only [r3body, e_sSeq, t1, e_then_nx, t2, t3, t4, t5, t6]⟩
theorem turn_i {t : Tri} {r : List Tri} (q : ths p five = t :: r) (eo : f_oval z [.int p, .lst (five.map triD)] = .ok (.i z.InLine "three" [.int t.1, .int t.2.1, .int t.2.2])) (ho : ∀ o ∈ os, Five p o) (w3 w6 w7 : Option Sl) :
    ∃ w6' w7', r3body z (st3 p five os (t :: r) w3 w6 w7) = .nx (st3 p five os (t :: r) w3 w6' w7') := by
  obtain ⟨i0, i1, i2, i3, i4⟩ := isiI z kk
  have mt : t ∈ ths p five := by rw [q]; exact List.mem_cons_self
  obtain ⟨ht, hin⟩ := List.mem_filter.mp mt
  have t1 : r3b1 z (st3 p five os (t :: r) w3 w6 w7) = .nx (st3 p five os (t :: r) w3 (slI z t) w7) := by
    simp [eo, slI, Fr.flat, D.flat, flats]
  have ne5 := dNeLT five five
  rw [decide_eq_true rfl] at ne5
  have t2 : r3b2 z (st3 p five os (t :: r) w3 (slI z t) w7) = .nx (st3 p five os (t :: r) w3 (slI z t) w7) := by
    simp [slI, i0, i1, i4, ne5]
  have ne0 := dNe3 (t :: r)
  rw [decide_eq_false (by simp)] at ne0
  have t3 : r3b3 z (st3 p five os (t :: r) w3 (slI z t) w7) = .nx (st3 p five os (t :: r) w3 (slI z t) w7) := by
    simp only [List.map_cons] at ne0
    simp [slI, i1, i2, i3, ne0]
  have d := due3_i z kk h k ht
  have sh := InLine_shows_ok z h k ht
  rw [hin] at d sh
  have t4 : r3b4 z (st3 p five os (t :: r) w3 (slI z t) w7) = .nx (st3 p five os (t :: r) w3 (slI z t) w7) := by
    have m : xMeth2 "shows" z.Oval z.InLine 3 (f_Oval_shows z) (f_InLine_shows z) (xOwn 6) (xCons (xVar 0) (xCons (xVar 1) xNil)) (st3 p five os (t :: r) w3 (slI z t) w7) = .ok (.bl true) := by
      rw [e_xMethB (ns := ["three"]) (xs := [.lst [.int t.1, .int t.2.1, .int t.2.2]]) (ci_ne z kk) rfl nst]
      simp [sh]
    have d' : xTru (xAll (callF 3 (f_l_due3 z)) (xCons (xVar 0) (xCons (xVar 1) (xCons (xOwn 6) xNil)))) (st3 p five os (t :: r) w3 (slI z t) w7) = .ok true := by
      simp [slI, d]
    simp only [r3b4, e_sIf, e_bOr, e_bNot, d', e_bind_ok, Bool.not_true, Bool.false_eq_true, if_false, e_bBl, e_x2, m, e_xC, e_isNot, e_ofM_ok]
    simp
  obtain ⟨v7, ei⟩ := in_i z kk h (five := five) os (t :: r) ht os ho w3 w7
  have t5 : r3b5 z (st3 p five os (t :: r) w3 (slI z t) w7) = .nx (st3 p five os (t :: r) w3 (slI z t) v7) := by
    rw [← ei]
    simp [osD]
  have u1 : r3t1 z (st3 p five os (t :: r) w3 (slI z t) v7) = .nx (st3 p five os (t :: r) w3 (slI z t) v7) := by
    simp [slI, isT, xComp, iMode, compR, wipeE, PySem.sizeLine_eq, blsOf, whole_ok, flats, D.flat]
  have u2 : r3t2 z (st3 p five os (t :: r) w3 (slI z t) v7) = .nx (st3 p five os (t :: r) w3 (slI4 z t) v7) := by
    have ga : gApp (.int 5) [.int t.1, .int t.2.1, .int t.2.2] = .ok [.int t.1, .int t.2.1, .int t.2.2, .int 5] := by
      unfold gApp
      rw [if_pos (by rw [PySem.sizeLine_eq]; simp)]
      rfl
    simp [slI, slI4, ga]
  have sh4 := InLine_shows4 z (p := p) t (.lst (five.map triD))
  have u3 : r3t3 z (st3 p five os (t :: r) w3 (slI4 z t) v7) = .nx (st3 p five os (t :: r) w3 (slI4 z t) v7) := by
    have m : xMeth2 "shows" z.Oval z.InLine 3 (f_Oval_shows z) (f_InLine_shows z) (xOwn 6) (xCons (xVar 0) (xCons (xVar 1) xNil)) (st3 p five os (t :: r) w3 (slI4 z t) v7) = .ok (.bl false) := by
      rw [e_xMethB (ns := ["three"]) (xs := [.lst [.int t.1, .int t.2.1, .int t.2.2, .int 5]]) (ci_ne z kk) rfl nst]
      simp [sh4]
    simp only [r3t3, e_sIf, e_bBl, e_x2, m, e_bind_ok, e_xC, e_isNot, e_ofM_ok]
    simp
  have t6 : r3b6 z (st3 p five os (t :: r) w3 (slI z t) v7) = .nx (st3 p five os (t :: r) w3 (slI4 z t) v7) := by
    have c : xTru (xAll (dIsI z.K [z.Oval, z.InLine, z.Shared, z.Apart]) (xCons (xOwn 6) (xCons (xC (.fn z.InLine)) xNil))) (st3 p five os (t :: r) w3 (slI z t) v7) = .ok true := by
      simp [slI, i1]
    show S.ofM (xTru (xAll (dIsI z.K [z.Oval, z.InLine, z.Shared, z.Apart]) (xCons (xOwn 6) (xCons (xC (.fn z.InLine)) xNil))) (st3 p five os (t :: r) w3 (slI z t) v7)) _ = _
    rw [c, e_ofM_ok, if_pos rfl, e_sSeq, u1, e_then_nx, e_sSeq, u2, e_then_nx, u3]
  exact ⟨slI4 z t, v7, by simp only [r3body, e_sSeq, t1, e_then_nx, t2, t3, t4, t5, t6]⟩
theorem rev5 : dPickG none (some (-1)) (.lst (five.map triD)) = .ok (.lst (five.reverse.map triD)) := by
  obtain ⟨a, b, c, d, e, rfl⟩ := five_of k.len
  unfold dPickG
  dsimp only
  have ix : PySem.sliceRange (PySem.sliceBounds none none (some (-1)) 5).1 (PySem.sliceBounds none none (some (-1)) 5).2.1 (PySem.sliceBounds none none (some (-1)) 5).2.2 = [4, 3, 2, 1, 0] := by decide +kernel
  simp only [pickL, List.map_cons, List.map_nil, List.length_cons, List.length_nil, List.length_replicate, Nat.reduceAdd, Nat.zero_add, ix]
  rw [if_pos (by rw [PySem.sizeLine_eq]; exact Nat.le_trans (List.length_filterMap_le _ _) (by decide))]
  rfl
theorem Five.rev : Five p five.reverse := ⟨by rw [List.length_reverse, k.len], fun t ht => k.told t (List.mem_reverse.mp ht), (List.reverse_perm five).symm.nodup k.nd⟩
/-- the last words: the five in reverse -/
theorem end3 (w3 s6 w7 : Option Sl) : r3z2 z [iv p, some (.v (.lst (five.map triD))), some (.v (osD os)), w3, some (.o (five.reverse.map triD)), some (.v (.lst (ts.map t3L))), s6, w7, none] = .rt (.bl true) := by
  have kr := Five.rev z kk h k
  have rv := rev5 z kk h k
  obtain ⟨F, hF, hq, eo⟩ := oval_ok z h kr
  cases q : ths p five.reverse with
  | nil =>
    rw [q] at eo
    have d := due3_o z kk h kr hF
    rw [ov_all z kk h kr q hq] at d
    dsimp only at eo
    simp only [List.map_reverse] at rv eo d
    simp [rv, eo, d]
  | cons t r =>
    rw [q] at eo
    have mt : t ∈ ths p five.reverse := by rw [q]; exact List.mem_cons_self
    obtain ⟨ht, hin⟩ := List.mem_filter.mp mt
    have d := due3_i z kk h kr ht
    rw [hin] at d
    dsimp only at eo
    simp only [List.map_reverse] at rv eo d
    simp [rv, eo, d]
theorem right3_ok (ho : ∀ o ∈ os, Five p o) : f_l_right3 z [.int p, .lst (five.map triD), osD os] = .ok (.bl true) := by
  have e0 := l_three_ok h k
  have rg : dRg1 [.int 2] = .ok [.int 0, .int 1] := by rfl
  rw [right3_eq]
  unfold defF
  rw [if_pos (by rfl)]
  have s0 : (List.map (fun d => some (Sl.v d)) [D.int p, .lst (five.map triD), osD os] ++ List.replicate (9 - 3) none : Ev) = [iv p, some (.v (.lst (five.map triD))), some (.v (osD os)), none, none, none, none, none, none] := rfl
  rw [s0]
  have a1 : sParO 4 5 (xAll dListF (xCons (xVar 1) xNil)) (xAll (callF 2 f_l_three) (xCons (xVar 0) (xCons (xVar 1) xNil))) [iv p, some (.v (.lst (five.map triD))), some (.v (osD os)), none, none, none, none, none, none] = .nx (st3 p five os (ths p five) none none none) := by
    simp [e0]
  have turn : ∀ w3 w6 w7, ∃ w6' w7', r3body z (st3 p five os (ths p five) w3 w6 w7) = .nx (st3 p five os (ths p five) w3 w6' w7') := fun w3 w6 w7 => by
    obtain ⟨F, hF, hq, eo⟩ := oval_ok z h k
    cases q : ths p five with
    | nil =>
      rw [q] at eo
      exact turn_o z kk h os k hF q hq eo ho w3 w6 w7
    | cons t r =>
      rw [q] at eo
      exact turn_i z kk h os k q eo ho w3 w6 w7
  obtain ⟨w6, w7, t0⟩ := turn (iv 0) none none
  obtain ⟨v6, v7, t1⟩ := turn (iv 1) w6 w7
  have en := end3 z kk h os (ths p five) k (iv 1) v6 v7
  rw [List.map_reverse] at en
  simp only [e_sSeq, a1, e_then_nx, e_sFor, e_xAll, e_xCons, e_xC, e_xNil, e_bind_ok, rg, e_ofM_ok]
  rw [forS]
  simp only [e_tgN, List.set_cons_succ, List.set_cons_zero]
  rw [t0]
  dsimp only
  rw [forS]
  simp only [e_tgN, List.set_cons_succ, List.set_cons_zero]
  rw [t1]
  dsimp only
  rw [forS]
  have z1 : sRev 4 (st3 p five os (ths p five) (iv 1) v6 v7) = .nx [iv p, some (.v (.lst (five.map triD))), some (.v (osD os)), iv 1, some (.o (five.map triD).reverse), some (.v (.lst ((ths p five).map t3L))), v6, v7, none] := by
    simp
  rw [e_then_nx, e_sSeq]
  show (match ((r3z1 z) (st3 p five os (ths p five) (iv 1) v6 v7)).then (r3z2 z) with | S.nx ρ => M.ok D.non | S.rt d => M.ok d | S.ex c => if false = true then M.ex c else M.und | x => M.und) = _
  rw [show r3z1 z (st3 p five os (ths p five) (iv 1) v6 v7) = _ from z1, e_then_nx, en]
end
end OM
set_option maxRecDepth 100000
set_option maxHeartbeats 4000000
/-! Law3e: the law's five points. -/
namespace OM
open PySem L2 DI
abbrev fv1 : Ev → S := (sSet 3 (xAll (callF 3 f_l_draw) (xCons (x2 dMod (xAll (callF 2 f_l_cell_at) (xCons (xVar 0) (xCons (x2 dAdd (xVar 1) (xC (.int 2))) xNil))) (x2 dPow (xC (.int 10)) (xC (.int 18)))) (xCons (xC (.int 9)) (xCons (xC (.int 3)) xNil)))))
abbrev fv2 : Ev → S := (sSet 4 (xAll (callF 4 f_l_triples) (xCons (xVar 0) (xCons (xVar 1) (xCons (xVar 2) (xCons (xC (.int 5)) xNil))))))
abbrev fv3 : Ev → S := (sIf (bBl (x2 dEq (xVar 3) (xC (.int 0)))) (sRet (xVar 4)) sNil)
abbrev fv5 : Ev → S := (sSet 5 (xAll (callF 3 f_l_cross) (xCons (xVar 2) (xCons (x2 dIx (xVar 4) (xC (.int 0))) (xCons (x2 dIx (xVar 4) (xC (.int 1))) xNil)))))
abbrev fv6 : Ev → S := (sSet 6 (xLst (xComp false [10] (xItems (xAll (callF 2 f_l_points) (xCons (xVar 2) (xCons (xVar 5) xNil)))) (tgN 10) (bBl (x2 dNotIn (xVar 10) (xSlice (xVar 4) pNone (pSome (xC (.int 2)))))) (xVar 10))))
abbrev fv7 : Ev → S := (sSet 7 (xLst (xComp false [10] (xItems (xSlice (xVar 4) (pSome (xC (.int 2))) pNone)) (tgN 10) (bNot (xTru (xAll (callF 3 f_l_on) (xCons (xVar 2) (xCons (xVar 10) (xCons (xVar 5) xNil)))))) (xVar 10))))
abbrev fv8 : Ev → S := (sRet (x2 dAdd (x2 dAdd (xLst (xAll lLst (xCons (x2 dIx (xVar 4) (xC (.int 0))) (xCons (x2 dIx (xVar 6) (xC (.int 0))) xNil)))) (xSlice (x2 dAdd (xVar 7) (xSlice (xVar 6) (pSome (xC (.int 1))) pNone)) pNone (pSome (xC (.int 2))))) (xLst (xAll lLst (xCons (x2 dIx (xVar 4) (xC (.int 1))) xNil)))))
abbrev fw1 : Ev → S := (sSet 8 (xAll (callF 2 f_l_value) (xCons (xAll (callF 2 f_l_cell_at) (xCons (xVar 0) (xCons (x2 dAdd (xVar 1) (xC (.int 1))) xNil))) (xCons (xVar 1) xNil))))
abbrev fw2 : Ev → S := (sSet 9 (xLst (xComp false [11] (xAll dRg1 (xCons (xC (.int 60)) xNil)) (tgN 11) bYes (x2 dMod (x2 dAdd (x2 dFdiv (xVar 8) (x2 dAdd (xVar 11) (xC (.int 2)))) (x2 dMul (xVar 11) (xVar 11))) (x2 dAdd (xVar 2) (xC (.int 1)))))))
abbrev fw3 : Ev → S := (sSet 9 (xSlice (xLst (fun ρ => ((x2 dAdd (xVar 9) (xLst (fun ρ => ((xC (.int 5)) ρ).bind dListRg))) ρ).bind dSortSetI)) (pSome (x1 dNeg (xC (.int 5)))) pNone))
abbrev fw4 : Ev → S := (sRet (xLst (xComp false [12] (xItems (xVar 9)) (tgN 12) bYes (xIf (bBl (x2 dEq (xVar 12) (xVar 2))) (xAll lTup (xCons (xC (.int 0)) (xCons (xC (.int 0)) (xCons (xC (.int 1)) xNil)))) (xAll lTup (xCons (xC (.int 1)) (xCons (xVar 12) (xCons (x2 dMod (x2 dMul (xVar 12) (xVar 12)) (xVar 2)) xNil))))))))
abbrev fv4 : Ev → S := (sIf (bAnd (bBl (x2 dEq (xVar 3) (xC (.int 1)))) (bBl (x2 dGt (xVar 2) (xC (.int 4))))) (sSeq fw1 (sSeq fw2 (sSeq fw3 fw4))) sNil)
theorem five_eq : f_l_five = defF false 3 13 (sSeq fv1 (sSeq fv2 (sSeq fv3 (sSeq fv4 (sSeq fv5 (sSeq fv6 (sSeq fv7 fv8))))))) := rfl
theorem cut_lo {ds : List D} {k : Nat} (h : k ≤ ds.length) : cutD ds none (some (k : Int)) = ds.take k := by
  unfold cutD
  rw [sIx_in _ h]
  rfl
theorem cut_hi {ds : List D} {k : Nat} (h : k ≤ ds.length) : cutD ds (some (k : Int)) none = ds.drop k := by
  unfold cutD
  rw [sIx_in _ h]
  show (ds.drop k).take (ds.length - k) = _
  rw [List.take_of_length_le (by rw [List.length_drop]; omega)]
theorem cut_end {ds : List D} (h : 5 ≤ ds.length) : cutD ds (some (-5)) none = ds.drop (ds.length - 5) := by
  have e : ∀ d, HT.sIx ds.length d (some (-5)) = ds.length - 5 := fun d => by
    show (if (-5 : Int) < 0 then (-5 + (ds.length : Int)).toNat else min (-5 : Int).toNat ds.length) = _
    rw [if_pos (by decide)]
    omega
  unfold cutD
  rw [e]
  show (ds.drop (ds.length - 5)).take (ds.length - (ds.length - 5)) = _
  rw [List.take_of_length_le (by rw [List.length_drop]; omega)]
theorem dAddL {xs ys : List D} (h : xs.length + ys.length ≤ 1000) : dAdd (.lst xs) (.lst ys) = .ok (.lst (xs ++ ys)) := by
  show (if xs.length + ys.length ≤ sizeLine then _ else _) = _
  rw [if_pos (by rw [PySem.sizeLine_eq]; omega)]
theorem sortSetI_ok {ns : List Int} (h : ns.length ≤ 1000) : dSortSetI (.lst (ns.map D.int)) = .ok ((srtI ns).map D.int) := by
  unfold dSortSetI
  dsimp only
  rw [intsOf_map]
  dsimp only
  rw [if_pos h]
/-- the conic's point -/
def cpt (p t : Int) : Tri := if t = p then (0, 0, 1) else (1, t, t * t % p)
theorem cpt_told {p t : Int} (h : Pr p) (h0 : 0 ≤ t) (h1 : t ≤ p) : Told p (cpt p t) := by
  have h3 := h.1
  unfold cpt
  split
  · exact .inr (.inr ⟨rfl, rfl, rfl⟩)
  · exact .inl ⟨rfl, h0, by simp only; omega, Int.emod_nonneg _ (by omega), Int.emod_lt_of_pos _ (by omega)⟩
theorem cpt_inj {p s t : Int} (h : s ≠ t) : cpt p s ≠ cpt p t := fun e => by
  unfold cpt at e
  split at e <;> split at e
  · omega
  · simp at e
  · simp at e
  · simp at e
    exact h e.1
theorem pts_sub {p : Int} (h : Pr p) {l q : Tri} (hl : Told p l) (hq : Told p q) (on : On p l q) : q ∈ pts p l := by
  obtain ⟨e, n0, n1⟩ := al_num h hl hq on
  rw [pts_eq h hl]
  exact List.mem_map.mpr ⟨(numOn p l q).toNat, List.mem_range.mpr (by omega), by rw [show (((numOn p l q).toNat : Nat) : Int) = numOn p l q by omega]; exact e⟩
section
variable {p : Int} (h : Pr p) {ns : List Int} {a : Int}
include h
abbrev st5 (p : Int) (ns : List Int) (a : Int) (w3 w4 w5 w6 w7 w8 w9 : Option Sl) : Ev := [some (.v (.lst (ns.map .int))), iv a, iv p, w3, w4, w5, w6, w7, w8, w9, none, none, none]
theorem fw2_ok (h4 : p ≤ 997) (v : Int) (w3 w4 w5 w6 w7 w9 : Option Sl) : fw2 (st5 p ns a w3 w4 w5 w6 w7 (iv v) w9) = .nx (st5 p ns a w3 w4 w5 w6 w7 (iv v) (some (.v (.lst (((List.range 60).map fun (i : Nat) => (v / ((i : Int) + 2) + (i : Int) * (i : Int)) % (p + 1)).map D.int))))) := by
  have h3 := h.1
  have rg60 : dRg1 [.int 60] = .ok (rgD 0 1 60) := rfl
  have cm : xComp false [11] (xAll dRg1 (xCons (xC (.int 60)) xNil)) (tgN 11) bYes (x2 dMod (x2 dAdd (x2 dFdiv (xVar 8) (x2 dAdd (xVar 11) (xC (.int 2)))) (x2 dMul (xVar 11) (xVar 11))) (x2 dAdd (xVar 2) (xC (.int 1)))) (st5 p ns a w3 w4 w5 w6 w7 (iv v) w9)
      = .ok (((List.range 60).map fun (i : Nat) => (v / ((i : Int) + 2) + (i : Int) * (i : Int)) % (p + 1)).map D.int) := by
    rw [e_comp (items := rgD 0 1 60) (xAll_of (xs := [.int 60]) rfl rg60) (by intro q; cases q) (by rw [rgD_len]; exact sz16 (by omega)), rgD_map,
      e_compY _ (fun (i : Nat) => [some (.v (.lst (ns.map .int))), iv a, iv p, w3, w4, w5, w6, w7, iv v, w9, none, iv i, none]) (fun (i : Nat) => D.int ((v / ((i : Int) + 2) + (i : Int) * (i : Int)) % (p + 1))) (List.range 60) (fun x _ => by simp [wipeE]) (fun x hx => by
        have hx := List.mem_range.mp hx
        have bx : B (x : Int) 10 := B.of (by omega) (by omega)
        simp [e_fdiv (show (0 : Int) < (x : Int) + 2 by omega) (show (x : Int) + 2 < 1073741824 by omega), e_mul (mulOk_of bx bx (by omega)), e_mod (show 0 < p + 1 by omega)]), List.map_map]
    rfl
  simp only [fw2, e_sSet, e_xLst, cm, e_bind_ok, e_ofM_ok, List.set_cons_succ, List.set_cons_zero]
/-- the last five of the sorted -/
theorem last5 {L : List Int} (hL : L.length ≤ 1000) (h4 : ∀ x, 0 ≤ x → x < 5 → x ∈ L) (hb : ∀ x ∈ L, 0 ≤ x ∧ x ≤ p) : ∃ ts : List Int, ts.length = 5 ∧ ts.Pairwise (· < ·) ∧ (∀ t ∈ ts, 0 ≤ t ∧ t ≤ p) ∧ dSlice (.lst ((srtI L).map D.int)) (some (-5)) none = .ok (.lst (ts.map D.int)) := by
  have l5 : 5 ≤ (srtI L).length := by
    have nd : ([0, 1, 2, 3, 4] : List Int).Nodup := by decide
    exact sub_len (l := [0, 1, 2, 3, 4]) nd fun d hd => srtI_mem.mpr (h4 d (by revert d; decide) (by revert d; decide))
  refine ⟨(srtI L).drop ((srtI L).length - 5), by rw [List.length_drop]; omega, (srtI_pw L).sublist (List.drop_sublist _ _), fun t ht => hb t (srtI_mem.mp (List.mem_of_mem_drop ht)), ?_⟩
  rw [e_slL, cut_end (by rw [List.length_map]; exact l5), List.length_map, List.map_drop]
theorem fw3_ok (h5 : 4 < p) {L : List Int} (hL : L.length = 60) (hb : ∀ x ∈ L, 0 ≤ x ∧ x ≤ p) (w3 w4 w5 w6 w7 w8 : Option Sl) : ∃ ts : List Int, ts.length = 5 ∧ ts.Pairwise (· < ·) ∧ (∀ t ∈ ts, 0 ≤ t ∧ t ≤ p) ∧ fw3 (st5 p ns a w3 w4 w5 w6 w7 w8 (some (.v (.lst (L.map D.int))))) = .nx (st5 p ns a w3 w4 w5 w6 w7 w8 (some (.v (.lst (ts.map D.int))))) := by
  have mem : ∀ x ∈ L ++ [0, 1, 2, 3, 4], 0 ≤ x ∧ x ≤ p := fun x hx => by
    rcases List.mem_append.mp hx with z | z
    · exact hb x z
    · simp at z
      omega
  have ln : (L ++ [0, 1, 2, 3, 4]).length ≤ 1000 := by
    rw [List.length_append, hL]
    decide
  obtain ⟨ts, t1, t2, t3, e⟩ := last5 h (L := L ++ [0, 1, 2, 3, 4]) ln (fun x h0 h1 => List.mem_append_right _ (by simp; omega)) mem
  refine ⟨ts, t1, t2, t3, ?_⟩
  have r5 : dListRg (.int 5) = .ok (([0, 1, 2, 3, 4] : List Int).map D.int) := rfl
  have ad : dAdd (.lst (L.map D.int)) (.lst (([0, 1, 2, 3, 4] : List Int).map D.int)) = .ok (.lst ((L ++ [0, 1, 2, 3, 4]).map D.int)) := by
    rw [dAddL (by rw [List.length_map, hL]; decide), List.map_append]
  have ss := sortSetI_ok ln
  simp only [fw3, e_sSet, e_xSlice, e_xLst, e_x2, e_xVar, List.getElem?_cons_succ, List.getElem?_cons_zero, e_bind_ok, e_xC, r5, ad, ss, e_pSome, e_x1, e_neg, e_pNone, e, e_ofM_ok, List.set_cons_succ, List.set_cons_zero]
theorem fw4_ok {ts : List Int} (hl : ts.length = 5) (hb : ∀ t ∈ ts, 0 ≤ t ∧ t ≤ p) (w3 w4 w5 w6 w7 w8 : Option Sl) : fw4 (st5 p ns a w3 w4 w5 w6 w7 w8 (some (.v (.lst (ts.map D.int))))) = .rt (.lst ((ts.map (cpt p)).map triD)) := by
  have h3 := h.1
  have h4 := h.2.1
  have cm : xComp false [12] (xItems (xVar 9)) (tgN 12) bYes (xIf (bBl (x2 dEq (xVar 12) (xVar 2))) (xAll lTup (xCons (xC (.int 0)) (xCons (xC (.int 0)) (xCons (xC (.int 1)) xNil)))) (xAll lTup (xCons (xC (.int 1)) (xCons (xVar 12) (xCons (x2 dMod (x2 dMul (xVar 12) (xVar 12)) (xVar 2)) xNil)))))
      (st5 p ns a w3 w4 w5 w6 w7 w8 (some (.v (.lst (ts.map D.int))))) = .ok ((ts.map (cpt p)).map triD) := by
    rw [e_comp (items := ts.map D.int) (by simp) (by intro q; cases q) (by rw [List.length_map, hl]; exact sz16 (by omega)),
      e_compY D.int (fun t => [some (.v (.lst (ns.map .int))), iv a, iv p, w3, w4, w5, w6, w7, w8, some (.v (.lst (ts.map D.int))), none, none, iv t]) (fun t => triD (cpt p t)) ts (fun x _ => by simp [wipeE]) (fun x hx => by
        have := hb x hx
        have bx : B x 12 := B.of (by omega) (by omega)
        by_cases q : x = p
        · subst q
          simp [cpt, triD]
        · simp [cpt, triD, q, e_mul (mulOk_of bx bx (by omega)), e_mod (show 0 < p by omega)]), List.map_map]
    rfl
  simp only [fw4, e_sRet, e_xLst, cm, e_bind_ok, e_ofM_ok]
theorem five_turns {ts : List Int} (hl : ts.length = 5) (hp : ts.Pairwise (· < ·)) (hb : ∀ t ∈ ts, 0 ≤ t ∧ t ≤ p) : Five p (ts.map (cpt p)) := by
  refine ⟨by rw [List.length_map, hl], fun t ht => ?_, List.Pairwise.map (cpt p) (fun s t lt => cpt_inj (by omega)) hp⟩
  obtain ⟨x, hx, rfl⟩ := List.mem_map.mp ht
  exact cpt_told h (hb x hx).1 (hb x hx).2
end
theorem l_five_ok {p : Int} (h : Pr p) {ns : List Int} (hb : ∀ n ∈ ns, B n 1048576) {a : Int} (ha : 0 ≤ a) (ba : a < 10000) : ∃ five, Five p five ∧ f_l_five [.lst (ns.map .int), .int a, .int p] = .ok (.lst (five.map triD)) := by
  have h3 := h.1
  have h4 := h.2.1
  have c0 := Int.emod_nonneg (cell ns (a + 2)) (show (1000000000000000000 : Int) ≠ 0 by decide)
  have c1 := Int.emod_lt_of_pos (cell ns (a + 2)) (show (0 : Int) < 1000000000000000000 by decide)
  have bc : B (cell ns (a + 2) % 1000000000000000000) 10000000 := (B.of (n := 60) (by omega) (by omega)).mono (by omega)
  have d := draw_ok (b := 9) (m := 3) bc (.mono (.lit (n := 4)) (by omega)) (by decide)
  have kb := drawV_b (cell ns (a + 2) % 1000000000000000000) 9 (show (0 : Int) < 3 by decide)
  have ce := cell_ok ns (i := a + 2) (by omega)
  have ce1 := cell_ok ns (i := a + 1) (by omega)
  have va := value_ok (v := cell ns (a + 1)) (s := a) (B_cell hb _) ((smB ha ba).mono (by omega))
  obtain ⟨ts, nd, told, hl, et⟩ := triples_ok h hb ha (smB ha ba) (many := 5) (by decide)
  rw [show ((5 : Nat) : Int) = 5 from rfl] at et
  generalize drawV (cell ns (a + 2) % 1000000000000000000) 9 3 = kd at *
  generalize valV (cell ns (a + 1)) a = v at *
  have f1 : fv1 (st5 p ns a none none none none none none none) = .nx (st5 p ns a (iv kd) none none none none none none) := by
    simp [pow18, e_mod (show (0 : Int) < 1000000000000000000 by decide), ce, d]
  have f2 : fv2 (st5 p ns a (iv kd) none none none none none none) = .nx (st5 p ns a (iv kd) (some (.v (.lst (ts.map triD)))) none none none none none) := by
    simp [et]
  have s0 : (List.map (fun d => some (Sl.v d)) [D.lst (ns.map .int), .int a, .int p] ++ List.replicate (13 - 3) none : Ev) = st5 p ns a none none none none none none none := rfl
  have start : ∀ x : D, (∀ s : Ev → S, (sSeq fv3 s) (st5 p ns a (iv kd) (some (.v (.lst (ts.map triD)))) none none none none none) = .rt x) → f_l_five [.lst (ns.map .int), .int a, .int p] = .ok x := fun x e => by
    rw [five_eq]
    unfold defF
    rw [if_pos (by rfl), s0, e_sSeq, f1, e_then_nx, e_sSeq, f2, e_then_nx, e]
  by_cases k0 : kd = 0
  · refine ⟨ts, ⟨hl, told, nd⟩, start _ fun s => ?_⟩
    have f3 : fv3 (st5 p ns a (iv kd) (some (.v (.lst (ts.map triD)))) none none none none none) = .rt (.lst (ts.map triD)) := by
      simp [k0]
    rw [e_sSeq, f3, e_then_rt]
  have f3 : fv3 (st5 p ns a (iv kd) (some (.v (.lst (ts.map triD)))) none none none none none) = .nx (st5 p ns a (iv kd) (some (.v (.lst (ts.map triD)))) none none none none none) := by
    simp [k0]
  have start2 : ∀ x : D, (sSeq fv4 (sSeq fv5 (sSeq fv6 (sSeq fv7 fv8)))) (st5 p ns a (iv kd) (some (.v (.lst (ts.map triD)))) none none none none none) = .rt x → f_l_five [.lst (ns.map .int), .int a, .int p] = .ok x := fun x e => by
    rw [five_eq]
    unfold defF
    rw [if_pos (by rfl), s0, e_sSeq, f1, e_then_nx, e_sSeq, f2, e_then_nx, e_sSeq, f3, e_then_nx, e]
  by_cases k1 : kd = 1 ∧ 4 < p
  · -- points of the conic
    have g1 : fw1 (st5 p ns a (iv kd) (some (.v (.lst (ts.map triD)))) none none none none none) = .nx (st5 p ns a (iv kd) (some (.v (.lst (ts.map triD)))) none none none (iv v) none) := by
      simp [ce1, va]
    have g2 := fw2_ok h (ns := ns) (a := a) h4 v (iv kd) (some (.v (.lst (ts.map triD)))) none none none none
    obtain ⟨us, u1, u2, u3, g3⟩ := fw3_ok h (ns := ns) (a := a) k1.2 (L := (List.range 60).map fun (i : Nat) => (v / ((i : Int) + 2) + (i : Int) * (i : Int)) % (p + 1)) (by rw [List.length_map, List.length_range]) (fun x hx => by
      obtain ⟨i, _, rfl⟩ := List.mem_map.mp hx
      have := Int.emod_nonneg (v / ((i : Int) + 2) + (i : Int) * (i : Int)) (show p + 1 ≠ 0 by omega)
      have := Int.emod_lt_of_pos (v / ((i : Int) + 2) + (i : Int) * (i : Int)) (show 0 < p + 1 by omega)
      omega) (iv kd) (some (.v (.lst (ts.map triD)))) none none none (iv v)
    have g4 := fw4_ok h (ns := ns) (a := a) u1 u3 (iv kd) (some (.v (.lst (ts.map triD)))) none none none (iv v)
    refine ⟨us.map (cpt p), five_turns h u1 u2 u3, start2 _ ?_⟩
    have c : bAnd (bBl (x2 dEq (xVar 3) (xC (.int 1)))) (bBl (x2 dGt (xVar 2) (xC (.int 4)))) (st5 p ns a (iv kd) (some (.v (.lst (ts.map triD)))) none none none none none) = .ok true := by
      simp [k1.1, k1.2]
    rw [e_sSeq, show fv4 (st5 p ns a (iv kd) (some (.v (.lst (ts.map triD)))) none none none none none) = .rt (.lst ((us.map (cpt p)).map triD)) by
      rw [show fv4 = sIf (bAnd (bBl (x2 dEq (xVar 3) (xC (.int 1)))) (bBl (x2 dGt (xVar 2) (xC (.int 4))))) (sSeq fw1 (sSeq fw2 (sSeq fw3 fw4))) sNil from rfl]
      rw [e_sIf, c, e_ofM_ok, if_pos rfl, e_sSeq, g1, e_then_nx, e_sSeq, g2, e_then_nx, e_sSeq, g3, e_then_nx, g4], e_then_rt]
  · -- three in a line
    have c : bAnd (bBl (x2 dEq (xVar 3) (xC (.int 1)))) (bBl (x2 dGt (xVar 2) (xC (.int 4)))) (st5 p ns a (iv kd) (some (.v (.lst (ts.map triD)))) none none none none none) = .ok false := by
      by_cases q : kd = 1
      · have : ¬ 4 < p := fun z => k1 ⟨q, z⟩
        simp [q, this]
      · simp [q]
    have f4 : fv4 (st5 p ns a (iv kd) (some (.v (.lst (ts.map triD)))) none none none none none) = .nx (st5 p ns a (iv kd) (some (.v (.lst (ts.map triD)))) none none none none none) := by
      rw [show fv4 = sIf (bAnd (bBl (x2 dEq (xVar 3) (xC (.int 1)))) (bBl (x2 dGt (xVar 2) (xC (.int 4))))) (sSeq fw1 (sSeq fw2 (sSeq fw3 fw4))) sNil from rfl]
      rw [e_sIf, c, e_ofM_ok]
      rfl
    obtain ⟨d0, d1, d2, d3, d4, rfl⟩ := five_of hl
    have T0 := told d0 (by simp)
    have T1 := told d1 (by simp)
    have ne01 : d0 ≠ d1 := fun e => by
      have := (List.nodup_cons.mp nd).1
      rw [e] at this
      exact this (by simp)
    have ecr := l_cross_ok h T0 T1 ne01
    obtain ⟨l, hlc⟩ : ∃ l, l = tol p (crT d0 d1) := ⟨_, rfl⟩
    have Tl : Told p l := by rw [hlc]; exact (tol_told h (cr_nz h T0 T1 ne01)).1
    have on0 : On p l d0 := by rw [hlc]; exact (cr_on h d0 d1).1
    have on1 : On p l d1 := by rw [hlc]; exact (cr_on h d0 d1).2
    rw [← hlc] at ecr
    have ept := points_ok h Tl
    have ix : ∀ (x : D) (xs : List D), dIx (.lst (x :: xs)) (.int 0) = .ok x := fun x xs => by
      show ofO (atI _ _) = _
      simp [atI, ixN]
    have ix1 : ∀ (x y : D) (xs : List D), dIx (.lst (x :: y :: xs)) (.int 1) = .ok y := fun x y xs => by
      have e : atI (x :: y :: xs) ((1 : Nat) : Int) = some y := atN (by simp)
      show ofO (atI _ ((1 : Nat) : Int)) = _
      rw [e]
      rfl
    have f5 : fv5 (st5 p ns a (iv kd) (some (.v (.lst ([d0, d1, d2, d3, d4].map triD)))) none none none none none) = .nx (st5 p ns a (iv kd) (some (.v (.lst ([d0, d1, d2, d3, d4].map triD)))) (some (.v (triD l))) none none none none) := by
      simp [-e_ixL, ix, ix1, ecr]
    obtain ⟨on, hon⟩ : ∃ on, on = (pts p l).filter fun q => !decide (q ∈ [d0, d1]) := ⟨_, rfl⟩
    obtain ⟨off, hoff⟩ : ∃ off, off = [d2, d3, d4].filter fun q => !decide (On p q l) := ⟨_, rfl⟩
    have ct : cutD ([d0, d1, d2, d3, d4].map triD) none (some 2) = [d0, d1].map triD := cut_lo (k := 2) (by simp)
    have ch : cutD ([d0, d1, d2, d3, d4].map triD) (some 2) none = [d2, d3, d4].map triD := cut_hi (k := 2) (by simp)
    have pl := pts_len h l
    have cm6 : xComp false [10] (xItems (xAll (callF 2 f_l_points) (xCons (xVar 2) (xCons (xVar 5) xNil)))) (tgN 10) (bBl (x2 dNotIn (xVar 10) (xSlice (xVar 4) pNone (pSome (xC (.int 2)))))) (xVar 10) (st5 p ns a (iv kd) (some (.v (.lst ([d0, d1, d2, d3, d4].map triD)))) (some (.v (triD l))) none none none none) = .ok (on.map triD) := by
      rw [e_comp (items := (pts p l).map triD) (by simp [ept]) (by intro q; cases q) (by rw [List.length_map, pl]; exact sz16 (by omega)),
        e_compR triD (fun q => [some (.v (.lst (ns.map .int))), iv a, iv p, iv kd, some (.v (.lst ([d0, d1, d2, d3, d4].map triD))), some (.v (triD l)), none, none, none, none, some (.v (triD q)), none, none]) (fun q => !decide (q ∈ [d0, d1])) triD (pts p l) (fun x _ => by simp [wipeE]) (fun x _ => by
          have dn := dNotInL [d0, d1] x
          simp only [e_bBl, e_x2, e_xVar, List.getElem?_cons_succ, List.getElem?_cons_zero, e_bind_ok, e_xSlice, e_pNone, e_pSome, e_xC, e_slL, ct, dn]) (fun x _ _ => by simp), ← hon]
    have f6 : fv6 (st5 p ns a (iv kd) (some (.v (.lst ([d0, d1, d2, d3, d4].map triD)))) (some (.v (triD l))) none none none none) = .nx (st5 p ns a (iv kd) (some (.v (.lst ([d0, d1, d2, d3, d4].map triD)))) (some (.v (triD l))) (some (.v (.lst (on.map triD)))) none none none) := by
      simp only [fv6, e_sSet, e_xLst, cm6, e_bind_ok, e_ofM_ok, List.set_cons_succ, List.set_cons_zero]
    have cm7 : xComp false [10] (xItems (xSlice (xVar 4) (pSome (xC (.int 2))) pNone)) (tgN 10) (bNot (xTru (xAll (callF 3 f_l_on) (xCons (xVar 2) (xCons (xVar 10) (xCons (xVar 5) xNil)))))) (xVar 10) (st5 p ns a (iv kd) (some (.v (.lst ([d0, d1, d2, d3, d4].map triD)))) (some (.v (triD l))) (some (.v (.lst (on.map triD)))) none none none) = .ok (off.map triD) := by
      rw [e_comp (items := [d2, d3, d4].map triD) (by simp only [e_xItems, e_xSlice, e_xVar, List.getElem?_cons_succ, List.getElem?_cons_zero, e_bind_ok, e_pSome, e_xC, e_pNone, e_slL, ch, e_itL]) (by intro q; cases q) (sz16 (by simp)),
        e_compR triD (fun q => [some (.v (.lst (ns.map .int))), iv a, iv p, iv kd, some (.v (.lst ([d0, d1, d2, d3, d4].map triD))), some (.v (triD l)), some (.v (.lst (on.map triD))), none, none, none, some (.v (triD q)), none, none]) (fun q => !decide (On p q l)) triD [d2, d3, d4] (fun x _ => by simp [wipeE]) (fun x hx => by
          have e := l_on_ok h (told x (by simp at hx; simp [hx])) Tl
          simp [e]) (fun x _ _ => by simp), ← hoff]
    have f7 : fv7 (st5 p ns a (iv kd) (some (.v (.lst ([d0, d1, d2, d3, d4].map triD)))) (some (.v (triD l))) (some (.v (.lst (on.map triD)))) none none none) = .nx (st5 p ns a (iv kd) (some (.v (.lst ([d0, d1, d2, d3, d4].map triD)))) (some (.v (triD l))) (some (.v (.lst (on.map triD)))) (some (.v (.lst (off.map triD)))) none none) := by
      simp only [fv7, e_sSet, e_xLst, cm7, e_bind_ok, e_ofM_ok, List.set_cons_succ, List.set_cons_zero]
    -- enough of them, all unlike
    have onP : ∀ q ∈ on, Told p q ∧ On p l q ∧ q ≠ d0 ∧ q ≠ d1 := fun q hq => by
      rw [hon] at hq
      obtain ⟨m1, m2⟩ := List.mem_filter.mp hq
      have := pts_mem h Tl q m1
      simp at m2
      exact ⟨this.1, this.2, m2.1, m2.2⟩
    have offP : ∀ q ∈ off, Told p q ∧ ¬ On p q l ∧ q ≠ d0 ∧ q ≠ d1 := fun q hq => by
      rw [hoff] at hq
      obtain ⟨m1, m2⟩ := List.mem_filter.mp hq
      refine ⟨told q (List.mem_cons_of_mem _ (List.mem_cons_of_mem _ m1)), by simpa using m2, fun e => ?_, fun e => ?_⟩
      · exact (List.nodup_cons.mp nd).1 (by rw [← e]; exact List.mem_cons_of_mem _ m1)
      · exact (List.nodup_cons.mp (List.nodup_cons.mp nd).2).1 (by rw [← e]; exact m1)
    have onc : ∀ q, On p q l ↔ On p l q := fun q => by
      unfold On
      rw [show q.1 * l.1 + q.2.1 * l.2.1 + q.2.2 * l.2.2 = l.1 * q.1 + l.2.1 * q.2.1 + l.2.2 * q.2.2 by
        rw [Int.mul_comm q.1, Int.mul_comm q.2.1, Int.mul_comm q.2.2]]
    have ndon : on.Nodup := by rw [hon]; exact (pts_nodup h Tl).filter _
    have nd3 := (List.nodup_cons.mp (List.nodup_cons.mp nd).2).2
    have ndoff : off.Nodup := by rw [hoff]; exact nd3.filter _
    have all : (off ++ on).Nodup := List.nodup_append.mpr ⟨ndoff, ndon, fun x hx y hy e => by
      rw [← e] at hy
      exact (offP x hx).2.1 ((onc x).mpr (onP x hy).2.1)⟩
    have l3 : 3 ≤ (off ++ on).length := sub_len (l := [d2, d3, d4]) nd3 fun q hq => by
      by_cases o : On p q l
      · refine List.mem_append_right _ ?_
        rw [hon]
        refine List.mem_filter.mpr ⟨pts_sub h Tl (told q (List.mem_cons_of_mem _ (List.mem_cons_of_mem _ hq))) ((onc q).mp o), ?_⟩
        have n0 : q ≠ d0 := fun e => (List.nodup_cons.mp nd).1 (by rw [← e]; exact List.mem_cons_of_mem _ hq)
        have n1 : q ≠ d1 := fun e => (List.nodup_cons.mp (List.nodup_cons.mp nd).2).1 (by rw [← e]; exact hq)
        simp [n0, n1]
      · refine List.mem_append_left _ ?_
        rw [hoff]
        exact List.mem_filter.mpr ⟨hq, by simp [o]⟩
    have lon : 2 ≤ on.length := by
      have := sub_len (l := pts p l) (P := d0 :: d1 :: on) (pts_nodup h Tl) fun q hq => by
        by_cases e0 : q = d0
        · rw [e0]; exact List.mem_cons_self
        · by_cases e1 : q = d1
          · rw [e1]; exact List.mem_cons_of_mem _ List.mem_cons_self
          · refine List.mem_cons_of_mem _ (List.mem_cons_of_mem _ ?_)
            rw [hon]
            exact List.mem_filter.mpr ⟨hq, by simp [e0, e1]⟩
      rw [pl, List.length_cons, List.length_cons] at this
      omega
    cases eon : on with
    | nil => rw [eon] at lon; simp at lon
    | cons o on' =>
      rw [eon] at l3 all
      have l2 : 2 ≤ (off ++ on').length := by
        rw [List.length_append, List.length_cons] at l3
        rw [List.length_append]
        omega
      obtain ⟨x, y, r, exy⟩ : ∃ x y r, off ++ on' = x :: y :: r := by
        match q : off ++ on', l2 with
        | x :: y :: r, _ => exact ⟨x, y, r, rfl⟩
      have mem : ∀ q ∈ off ++ o :: on', Told p q ∧ q ≠ d0 ∧ q ≠ d1 := fun q hq => by
        rcases List.mem_append.mp hq with z | z
        · exact ⟨(offP q z).1, (offP q z).2.2⟩
        · rw [← eon] at z
          exact ⟨(onP q z).1, (onP q z).2.2⟩
      have pm : (off ++ o :: on').Perm (o :: x :: y :: r) := by
        rw [← exy]
        exact List.perm_middle
      have nd4 : (o :: x :: y :: r).Nodup := pm.nodup all
      have Mo := mem o (pm.mem_iff.mpr (by simp))
      have Mx := mem x (pm.mem_iff.mpr (by simp))
      have My := mem y (pm.mem_iff.mpr (by simp))
      refine ⟨[d0, o, x, y, d1], ⟨rfl, fun t ht => ?_, ?_⟩, start2 _ ?_⟩
      · simp at ht
        rcases ht with rfl | rfl | rfl | rfl | rfl
        · exact T0
        · exact Mo.1
        · exact Mx.1
        · exact My.1
        · exact T1
      · simp only [List.nodup_cons, List.mem_cons, not_or, List.not_mem_nil, not_false_eq_true, List.nodup_nil, and_true] at nd4 ⊢
        exact ⟨⟨fun e => Mo.2.1 e.symm, fun e => Mx.2.1 e.symm, fun e => My.2.1 e.symm, ne01⟩, ⟨nd4.1.1, nd4.1.2.1, Mo.2.2⟩, ⟨nd4.2.1.1, Mx.2.2⟩, My.2.2⟩
      · rw [eon] at f6 f7
        have lno : on'.length ≤ 998 := by
          have e1 : on.length ≤ (pts p l).length := by rw [hon]; exact List.length_filter_le _ _
          rw [eon, pl, List.length_cons] at e1
          omega
        have lof : off.length ≤ 3 := by rw [hoff]; exact List.length_filter_le _ _
        have ch1 : cutD ((o :: on').map triD) (some 1) none = on'.map triD := by
          rw [show (1 : Int) = ((1 : Nat) : Int) from rfl, cut_hi (by simp)]
          rfl
        have ad1 : dAdd (.lst (off.map triD)) (.lst (on'.map triD)) = .ok (.lst ((x :: y :: r).map triD)) := by
          show (if (off.map triD).length + (on'.map triD).length ≤ sizeLine then _ else _) = _
          rw [if_pos (by rw [PySem.sizeLine_eq, List.length_map, List.length_map]; omega), ← List.map_append, exy]
        have ct2 : cutD ((x :: y :: r).map triD) none (some 2) = [triD x, triD y] := by
          rw [show (2 : Int) = ((2 : Nat) : Int) from rfl, cut_lo (by simp)]
          rfl
        have ad2 : dAdd (.lst [triD d0, triD o]) (.lst [triD x, triD y]) = .ok (.lst [triD d0, triD o, triD x, triD y]) := dAddL (by simp)
        have ad3 : dAdd (.lst [triD d0, triD o, triD x, triD y]) (.lst [triD d1]) = .ok (.lst [triD d0, triD o, triD x, triD y, triD d1]) := dAddL (by simp)
        have f8 : fv8 (st5 p ns a (iv kd) (some (.v (.lst ([d0, d1, d2, d3, d4].map triD)))) (some (.v (triD l))) (some (.v (.lst ((o :: on').map triD)))) (some (.v (.lst (off.map triD)))) none none) = .rt (.lst ([d0, o, x, y, d1].map triD)) := by
          simp only [List.map_cons] at ch1 ct2 ad1
          simp only [fv8, e_sRet, e_x2, e_xLst, e_xAll, e_xCons, e_xNil, e_xVar, List.getElem?_cons_succ, List.getElem?_cons_zero, e_bind_ok, List.map_cons, List.map_nil, e_xC, ix, ix1, e_lLst2, e_lLst1, e_xSlice, e_pSome, e_pNone, e_slL, ch1, ad1, ct2, ad2, ad3, e_ofM_ok]
        rw [e_sSeq, f4, e_then_nx, e_sSeq, f5, e_then_nx, e_sSeq, f6, e_then_nx, e_sSeq, f7, e_then_nx, f8]
end OM
set_option maxRecDepth 100000
set_option maxHeartbeats 4000000
/-! Law5: answers made by hand. -/
namespace OM
open PySem L2 DI Lean.Grind
/-- the form of two lines -/
def prodL (u v : Tri) : List Int := [u.1 * v.1, u.2.1 * v.2.1, u.2.2 * v.2.2, u.1 * v.2.1 + u.2.1 * v.1, u.1 * v.2.2 + u.2.2 * v.1, u.2.1 * v.2.2 + u.2.2 * v.2.1]
theorem prodL_nz {p : Int} (h : Pr p) {u v : Tri} (hu : Told p u) (hv : Told p v) : nzs p (prodL u v) ≠ [] := by
  have h3 := h.1
  have one : (1 : Int) % p ≠ 0 := by rw [Int.emod_eq_of_lt (by decide) (by omega)]; decide
  obtain ⟨a, b, c⟩ := u
  obtain ⟨d, e, f⟩ := v
  have k : ∀ x ∈ prodL (a, b, c) (d, e, f), x = 1 → nzs p (prodL (a, b, c) (d, e, f)) ≠ [] := fun x hx e => nzs_of (by omega) hx (by rw [e]; exact one)
  rcases hu with ⟨e1, _⟩ | ⟨e1, e2, _⟩ | ⟨e1, e2, e3⟩ <;> rcases hv with ⟨g1, _⟩ | ⟨g1, g2, _⟩ | ⟨g1, g2, g3⟩ <;> simp only at *
  · subst e1 g1; exact k _ (by simp [prodL]; exact .inl rfl) (by decide)
  · subst e1 g1 g2; exact k (1 * 1 + b * 0) (by simp [prodL]) (by simp)
  · subst e1 g1 g2 g3; exact k (1 * 1 + c * 0) (by simp [prodL]) (by simp)
  · subst e1 e2 g1; exact k (0 * e + 1 * 1) (by simp [prodL]) (by simp)
  · subst e1 e2 g1 g2; exact k (1 * 1) (by simp [prodL]) (by simp)
  · subst e1 e2 g1 g2 g3; exact k (1 * 1 + c * 0) (by simp [prodL]) (by simp)
  · subst e1 e2 e3 g1; exact k (0 * f + 1 * 1) (by simp [prodL]) (by simp)
  · subst e1 e2 e3 g1 g2; exact k (0 * f + 1 * 1) (by simp [prodL]) (by simp)
  · subst e1 e2 e3 g1 g2 g3; exact k (1 * 1) (by simp [prodL]) (by simp)
theorem prodL_b {p : Int} (h : Pr p) {u v : Tri} (hu : Told p u) (hv : Told p v) : ∀ x ∈ prodL u v, B x 1000 := by
  obtain ⟨a1, a2, a3⟩ := hu.bits h
  obtain ⟨b1, b2, b3⟩ := hv.bits h
  intro x hx
  have k : ∀ {a b : Int}, B a 10 → B b 10 → B (a * b) 1000 := fun ha hb => (ha.mul hb).mono (by omega)
  have k2 : ∀ {a b c d : Int}, B a 10 → B b 10 → B c 10 → B d 10 → B (a * b + c * d) 1000 := fun ha hb hc hd => ((ha.mul hb).add (hc.mul hd)).mono (by omega)
  simp only [prodL, List.mem_cons, List.not_mem_nil, or_false] at hx
  rcases hx with rfl | rfl | rfl | rfl | rfl | rfl
  · exact k ‹_› ‹_›
  · exact k ‹_› ‹_›
  · exact k ‹_› ‹_›
  · exact k2 ‹_› ‹_› ‹_› ‹_›
  · exact k2 ‹_› ‹_› ‹_› ‹_›
  · exact k2 ‹_› ‹_› ‹_› ‹_›
theorem l_told_big {p : Int} {d : D} {v : List Int} (h : Pr p) (hd : dItems d = .ok (v.map D.int)) (hv : ∀ x ∈ v, B x 2000000) (hl : v.length ≤ 1000) (hn : nzs p v ≠ []) :
    f_l_told [.int p, d] = .ok (.tup ((tolL p v).map D.int)) := by
  have h3 := h.1
  have h4 := h.2.1
  have hp : 0 < p := by omega
  have c1 : xComp false [5] (xItems (xVar 1)) (tgN 5) (bBl (x2 dGt (x2 dMod (xVar 5) (xVar 0)) (xC (.int 0)))) (x2 dMod (xVar 5) (xVar 0)) [iv p, some (.v d), none, none, none, none] = .ok ((nzs p v).map D.int) := by
    rw [e_comp (items := v.map D.int) (by simp [hd]) (by intro q; cases q) (by rw [List.length_map]; exact sz16 (by omega)),
      e_compR D.int (fun x => [iv p, some (.v d), none, none, none, iv x]) (fun x => decide (0 < x % p)) (fun x => .int (x % p)) v (fun x _ => by simp [wipeE]) (fun x _ => by simp [e_mod hp]) (fun x _ _ => by simp [e_mod hp])]
    unfold nzs
    rw [List.map_map]
    rfl
  cases q : nzs p v with
  | nil => exact absurd q hn
  | cons f r =>
    have hf := nzs_mem (p := p) (v := v) (x := f) (by rw [q]; exact List.mem_cons_self)
    have f1 : f < p := by
      have := Int.emod_lt_of_pos f hp
      omega
    obtain ⟨e, he⟩ : ∃ e : Nat, p - 2 = (e : Int) := ⟨(p - 2).toNat, by omega⟩
    obtain ⟨base', t, ht, t0, t1, t2⟩ := pow_loop hp (by omega) d 19 e f 1 (by have : (2 : Nat) ^ 19 = 524288 := rfl; omega) (by omega) f1 (by decide) (by omega)
    have hi : IsInv p f t := by
      refine ⟨t0, t1, ?_⟩
      rw [← mul_emod_emod, t2, mul_emod_emod, Int.one_mul, Int.mul_comm, ← Int.pow_succ]
      have := fermat h (n := f) (by rw [hf.2]; omega)
      rwa [show p.toNat - 1 = e + 1 by omega] at this
    have c2 : xComp false [5] (xItems (xVar 1)) (tgN 5) bYes (x2 dMod (x2 dMul (xVar 5) (xVar 3)) (xVar 0)) [iv p, some (.v d), iv base', iv t, iv 0, none] = .ok ((tolL p v).map D.int) := by
      rw [e_comp (items := v.map D.int) (by simp [hd]) (by intro q; cases q) (by rw [List.length_map]; exact sz16 (by omega)),
        e_compY D.int (fun x => [iv p, some (.v d), iv base', iv t, iv 0, iv x]) (fun x => .int (x * t % p)) v (fun x _ => by simp [wipeE]) (fun x hx => by
          have bt : B t 10 := B.of (by omega) (by omega)
          simp [e_mod hp, e_mul (mulOk_of (hv x hx) bt (by omega))])]
      unfold tolL
      rw [q]
      dsimp only
      rw [List.map_map, inv_eq hi]
      rfl
    simp only [f_l_told, defF, e_sSeq, e_sSet, e_xLst, e_x2]
    simp only [List.length_cons, List.length_nil, List.map_cons, List.map_nil, List.replicate, Nat.reduceAdd, Nat.reduceSub, if_true, List.cons_append, List.nil_append]
    rw [c1, q]
    have e0 : atI (D.int f :: r.map D.int) 0 = some (.int f) := by simp [atI, ixN]
    simp [e0, he]
    rw [ht]
    simp [c2]
theorem e_slT (ds : List D) (lo hi : Option Int) : dSlice (.tup ds) lo hi = .ok (.tup (cutD ds lo hi)) := rfl
theorem e_revT (ds : List D) : dRevT (.tup ds) = .ok (.tup ds.reverse) := rfl
theorem e_enumT (ds : List D) : dEnumT [.tup ds] = .ok (enumD ds) := rfl
theorem e_anyIT (v : List Int) : dAnyIT [.tup (v.map D.int)] = .ok (.bl (v.any fun n => n != 0)) := by
  show (ofO (intsOf (v.map D.int))).bind _ = _
  rw [intsOf_map]
  rfl
theorem told_FB {p : Int} (h : Pr p) {d : D} {v : List Int} (hd : dItems d = .ok (v.map D.int)) (hv : ∀ x ∈ v, B x 2000000) (hl : v.length = 6) (hn : nzs p v ≠ []) : ∃ F, FT p F ∧ f_l_told [.int p, d] = .ok (frmD F) := by
  have t := tolL_told h hn
  obtain ⟨F, hF⟩ := len6 (t.2.trans hl)
  refine ⟨F, by unfold FT; rw [← hF]; exact t.1, ?_⟩
  rw [l_told_big h hd hv (by omega) hn, hF]
  rfl
theorem l_lines_ok {p : Int} (h : Pr p) {u v : Tri} (hu : Told p u) (hv : Told p v) : ∃ F, FT p F ∧ f_l_lines [.int p, triD u, triD v] = .ok (frmD F) := by
  obtain ⟨a1, a2, a3⟩ := hu.b10 h
  obtain ⟨b1, b2, b3⟩ := hv.b10 h
  obtain ⟨F, hF, e⟩ := told_FB h (d := .lst ((prodL u v).map D.int)) (v := prodL u v) rfl (fun x hx => (prodL_b h hu hv x hx).mono (by omega)) rfl (prodL_nz h hu hv)
  refine ⟨F, hF, ?_⟩
  simp only [prodL, List.map_cons, List.map_nil] at e
  have m : ∀ {x y : Int}, B x 10 → B y 10 → dMul (.int x) (.int y) = .ok (.int (x * y)) := fun hx hy => e_mul (mulOk_of hx hy (by omega))
  have i0 : ∀ u : Tri, dIx (triD u) (.int 0) = .ok (.int u.1) := fun u => rfl
  have i1 : ∀ u : Tri, dIx (triD u) (.int 1) = .ok (.int u.2.1) := fun u => rfl
  have i2 : ∀ u : Tri, dIx (triD u) (.int 2) = .ok (.int u.2.2) := fun u => rfl
  have rg3 : dRg1 [.int 3] = .ok [.int 0, .int 1, .int 2] := by rfl
  have g : ∀ (d : D) (ds : List D), ds.length < 100 → gApp d ds = .ok (ds ++ [d]) := fun d ds h => by
    unfold gApp
    rw [if_pos (by rw [PySem.sizeLine_eq]; omega)]
  simp only [f_l_lines, defF]
  simp [-e_ixL, -e_ixT, rg3, xComp, iMode, compR, wipeE, PySem.sizeLine_eq, forS, i0, i1, i2, m a1 b1, m a2 b2, m a3 b3, m a1 b2, m a2 b1, m a1 b3, m a3 b1, m a2 b3, m a3 b2, g, e]
def l3 (t : Tri) : List Int := [t.1, t.2.1, t.2.2]
theorem T10_co : ∀ t ∈ T10, ∃ a b : Int, ([0, 1, 2, 3, 4] : List Int).filter (fun x => !decide (x ∈ l3 t)) = [a, b] ∧ 0 ≤ a ∧ a < b ∧ b < 5 := by
  intro t ht
  simp only [T10, List.mem_cons, List.not_mem_nil, or_false] at ht
  rcases ht with rfl | rfl | rfl | rfl | rfl | rfl | rfl | rfl | rfl | rfl
  · exact ⟨3, 4, by decide, by decide, by decide, by decide⟩
  · exact ⟨2, 4, by decide, by decide, by decide, by decide⟩
  · exact ⟨2, 3, by decide, by decide, by decide, by decide⟩
  · exact ⟨1, 4, by decide, by decide, by decide, by decide⟩
  · exact ⟨1, 3, by decide, by decide, by decide, by decide⟩
  · exact ⟨1, 2, by decide, by decide, by decide, by decide⟩
  · exact ⟨0, 4, by decide, by decide, by decide, by decide⟩
  · exact ⟨0, 3, by decide, by decide, by decide, by decide⟩
  · exact ⟨0, 2, by decide, by decide, by decide, by decide⟩
  · exact ⟨0, 1, by decide, by decide, by decide, by decide⟩
theorem ix0 (x : D) (xs : List D) : dIx (.lst (x :: xs)) (.int 0) = .ok x := by
  show ofO (atI _ _) = _
  simp [atI, ixN]
theorem ix1 (x y : D) (xs : List D) : dIx (.lst (x :: y :: xs)) (.int 1) = .ok y := by
  have e : atI (x :: y :: xs) ((1 : Nat) : Int) = some y := atN (by simp)
  show ofO (atI _ ((1 : Nat) : Int)) = _
  rw [e]
  rfl
theorem two_lines_ok {p : Int} (h : Pr p) {five : List Tri} (k : Five p five) {t : Tri} (ht : t ∈ T10) : ∃ F, FT p F ∧ f_l_two_lines [.int p, .lst (five.map triD), .lst ((l3 t).map D.int)] = .ok (frmD F) := by
  obtain ⟨y1, y2, y3, y4⟩ := T10_lt t ht
  obtain ⟨a, b, ef, a0, ab, b5⟩ := T10_co t ht
  have c1 : xComp false [6] (xAll dRg1 (xCons (xC (.int 5)) xNil)) (tgN 6) (bBl (x2 dNotIn (xVar 6) (xVar 2))) (x2 dIx (xVar 1) (xVar 6)) [iv p, some (.v (.lst (five.map triD))), some (.v (.lst ((l3 t).map D.int))), none, none, none, none] = .ok [triD (g5 five a), triD (g5 five b)] := by
    rw [e_comp (items := ([0, 1, 2, 3, 4] : List Int).map D.int) (xAll_of (xs := [.int 5]) rfl rfl) (by intro q; cases q) (sz16 (by simp)),
      e_compR D.int (fun x => [iv p, some (.v (.lst (five.map triD))), some (.v (.lst ((l3 t).map D.int))), none, none, none, iv x]) (fun x => !decide (x ∈ l3 t)) (fun x => triD (g5 five x)) [0, 1, 2, 3, 4] (fun x _ => by simp [wipeE]) (fun x _ => by
        have e := dNotInI (l3 t) x
        simp only [e_bBl, e_x2, e_xVar, List.getElem?_cons_succ, List.getElem?_cons_zero, e_bind_ok, e]) (fun x hx _ => by
        have e := g5_ix k.len (i := x) (by simp at hx; omega) (by simp at hx; omega)
        simp [-e_ixL, e]), ef]
    rfl
  have c2 : ∀ w : D, xComp false [6] (xItems (xVar 2)) (tgN 6) bYes (x2 dIx (xVar 1) (xVar 6)) [iv p, some (.v (.lst (five.map triD))), some (.v (.lst ((l3 t).map D.int))), some (.v w), none, none, none] = .ok [triD (g5 five t.1), triD (g5 five t.2.1), triD (g5 five t.2.2)] := fun w => by
    rw [e_comp (items := (l3 t).map D.int) (by simp) (by intro q; cases q) (sz16 (by simp [l3])),
      e_compY D.int (fun x => [iv p, some (.v (.lst (five.map triD))), some (.v (.lst ((l3 t).map D.int))), some (.v w), none, none, iv x]) (fun x => triD (g5 five x)) (l3 t) (fun x _ => by simp [wipeE]) (fun x hx => by
        have e := g5_ix k.len (i := x) (by simp [l3] at hx; omega) (by simp [l3] at hx; omega)
        simp [-e_ixL, e])]
    rfl
  have n1 := g5_ne k (i := t.1) (j := t.2.1) (by omega) (by omega) (by omega)
  have n2 := g5_ne k (i := a) (j := b) (by omega) (by omega) (by omega)
  have T1 := g5_told k (i := t.1) (by omega) (by omega)
  have T2 := g5_told k (i := t.2.1) (by omega) (by omega)
  have T3 := g5_told k (i := a) (by omega) (by omega)
  have T4 := g5_told k (i := b) (by omega) (by omega)
  have e1 := l_cross_ok h T1 T2 n1
  have e2 := l_cross_ok h T3 T4 n2
  obtain ⟨F, hF, e⟩ := l_lines_ok h (tol_told h (cr_nz h T1 T2 n1)).1 (tol_told h (cr_nz h T3 T4 n2)).1
  refine ⟨F, hF, ?_⟩
  simp only [f_l_two_lines, defF, List.length_cons, List.length_nil, List.map_cons, List.map_nil, List.replicate, Nat.reduceAdd, Nat.reduceSub, if_true, List.cons_append, List.nil_append]
  simp only [l3, List.map_cons, List.map_nil] at c1 c2
  simp only [l3, List.map_cons, List.map_nil, e_sSeq, e_sSet, e_xLst, c1, e_bind_ok, e_ofM_ok, e_then_nx, List.set_cons_succ, List.set_cons_zero, c2]
  simp [-e_ixL, ix0, ix1, e1, e2, e]
/-! ### threes of any kind -/
theorem eqvAllI : ∀ xs ys : List Int, PyData.eqvAll (toPs (xs.map D.int)) (toPs (ys.map D.int)) = decide (xs = ys)
  | [], [] => rfl
  | [], _ :: _ => rfl
  | _ :: _, [] => rfl
  | x :: xs, y :: ys => by
    rw [List.map_cons, List.map_cons, toPs, toPs, PyData.eqvAll, eqvAllI xs ys]
    have : PyData.eqv (D.int x).toP (D.int y).toP = decide (x = y) := rfl
    rw [this]
    by_cases a : x = y <;> by_cases b : xs = ys <;> simp [a, b]
theorem dNeLI (xs ys : List Int) : dNe (.lst (xs.map D.int)) (.lst (ys.map D.int)) = .ok (.bl (!decide (xs = ys))) := by
  unfold dNe
  rw [okLI, okLI, ← eqvAllI]
  rfl
theorem dNeTI (xs ys : List Int) : dNe (.tup (xs.map D.int)) (.tup (ys.map D.int)) = .ok (.bl (!decide (xs = ys))) := by
  unfold dNe
  rw [okTI, okTI, ← eqvAllI]
  rfl
theorem dIn3g (ts : List Tri) (v : List Int) : dIn (.lst (v.map D.int)) (.lst (ts.map t3L)) = .ok (.bl (decide (v ∈ ts.map l3))) := by
  have e : ((toPs (ts.map t3L)).any fun z => PyData.eqv z (D.lst (v.map D.int)).toP) = decide (v ∈ ts.map l3) := by
    rw [toPs_map3, List.any_map]
    induction ts with
    | nil => rfl
    | cons u r ih =>
      rw [List.any_cons, ih]
      have : PyData.eqv (t3L u).toP (D.lst (v.map D.int)).toP = decide (l3 u = v) := (eqvAllI (l3 u) v : PyData.eqvAll (toPs ((l3 u).map D.int)) (toPs (v.map D.int)) = _)
      simp only [Function.comp, this, List.map_cons, List.mem_cons, Bool.decide_or, eq_comm]
  unfold dIn
  rw [okLI, okL3, ← e]
  rfl
theorem T10_of {a b c : Int} (h0 : 0 ≤ a) (h1 : a < b) (h2 : b < c) (h3 : c < 5) : (a, b, c) ∈ T10 := by
  have ha : a = 0 ∨ a = 1 ∨ a = 2 := by omega
  have hb : b = 1 ∨ b = 2 ∨ b = 3 := by omega
  have hc : c = 2 ∨ c = 3 ∨ c = 4 := by omega
  rcases ha with rfl | rfl | rfl <;> rcases hb with rfl | rfl | rfl <;> rcases hc with rfl | rfl | rfl <;> first | decide | (exfalso; omega)
theorem l3_mem (p : Int) (five : List Tri) (a b c : Int) : ([a, b, c] ∈ (ths p five).map l3) ↔ ((a, b, c) ∈ T10 ∧ inl p five (a, b, c) = true) := by
  rw [List.mem_map]
  constructor
  · rintro ⟨t, ht, e⟩
    obtain ⟨x, y, w⟩ := t
    simp [l3] at e
    obtain ⟨rfl, rfl, rfl⟩ := e
    exact List.mem_filter.mp ht
  · exact fun ht => ⟨(a, b, c), List.mem_filter.mpr ht, rfl⟩
theorem l3_len {p : Int} {five : List Tri} {v : List Int} (h : v ∈ (ths p five).map l3) : v.length = 3 := by
  obtain ⟨t, _, rfl⟩ := List.mem_map.mp h
  rfl
section
variable (z : Adr) {p : Int} (h : Pr p) {five : List Tri} (k : Five p five)
include h k
theorem InLine_shows_any (v : List Int) : f_InLine_shows z [.ins z.InLine ["three"] [.lst (v.map D.int)], .int p, .lst (five.map triD)] = .ok (.bl (decide (v ∈ (ths p five).map l3))) := by
  have no : v.length ≠ 3 → decide (v ∈ (ths p five).map l3) = false := fun q => decide_eq_false fun m => q (l3_len m)
  match v, no with
  | [], no => rw [no (by simp)]; simp [f_InLine_shows, defF]
  | [a], no => rw [no (by simp)]; simp [f_InLine_shows, defF]
  | [a, b], no => rw [no (by simp)]; simp [f_InLine_shows, defF]
  | a :: b :: c :: d :: r, no =>
    rw [no (by simp)]
    have : ¬ ((r.length : Int) + 1 + 1 + 1 + 1 = 3) := by omega
    simp [f_InLine_shows, defF, this]
  | [a, b, c], _ =>
    by_cases q : 0 ≤ a ∧ a < b ∧ b < c ∧ c < 5
    · have m := T10_of q.1 q.2.1 q.2.2.1 q.2.2.2
      have e := InLine_shows_ok z h k m
      have d : decide ([a, b, c] ∈ (ths p five).map l3) = inl p five (a, b, c) := by
        cases w : inl p five (a, b, c) with
        | true => exact decide_eq_true ((l3_mem p five a b c).mpr ⟨m, w⟩)
        | false =>
          refine decide_eq_false fun z => ?_
          have := ((l3_mem p five a b c).mp z).2
          rw [w] at this
          cases this
      rw [d]
      exact e
    · have d : decide ([a, b, c] ∈ (ths p five).map l3) = false := decide_eq_false fun z => by
        have := T10_lt _ ((l3_mem p five a b c).mp z).1
        exact q ⟨this.1, this.2.1, this.2.2.1, this.2.2.2⟩
      rw [d]
      by_cases q1 : 0 ≤ a
      · by_cases q2 : a < b
        · by_cases q3 : b < c
          · have q4 : ¬ c < 5 := fun z => q ⟨q1, q2, q3, z⟩
            simp [f_InLine_shows, defF, f_is_whole, xComp, iMode, compR, wipeE, PySem.sizeLine_eq, blsOf, q1, q2, q3, q4]
          · simp [f_InLine_shows, defF, f_is_whole, xComp, iMode, compR, wipeE, PySem.sizeLine_eq, blsOf, q1, q2, q3]
        · simp [f_InLine_shows, defF, f_is_whole, xComp, iMode, compR, wipeE, PySem.sizeLine_eq, blsOf, q1, q2]
      · simp [f_InLine_shows, defF, f_is_whole, xComp, iMode, compR, wipeE, PySem.sizeLine_eq, blsOf, q1]
end
end OM
set_option maxRecDepth 100000
set_option maxHeartbeats 4000000
/-! Law5b: a five's answers, a line's answers. -/
namespace OM
open PySem L2 DI
theorem nsp : ¬ ("shows" : Str) ∈ (["points"] : List Str) := by decide
theorem nsrr : ¬ ("shows" : Str) ∈ (["rest"] : List Str) := by decide
theorem flI : ∀ ts : List Int, flats (ts.map D.int) = true
  | [] => rfl
  | t :: r => by
    rw [List.map_cons, flats, flI r]
    rfl
theorem flT : ∀ ts : List Tri, flats (ts.map triD) = true
  | [] => rfl
  | t :: r => by
    rw [List.map_cons, flats, flT r]
    rfl
theorem e_mkLF (C : Addr) (n : Str) (ds : List D) (h : flats ds = true) : dMkLF C n [.lst ds] = .ok (.ins C [n] [.lst ds]) := if_pos h
theorem dEq3 (ts : List Tri) : dEq (.lst (ts.map t3L)) (.lst []) = .ok (.bl (decide (ts = []))) := by
  unfold dEq
  rw [okL3]
  cases ts with
  | nil => rfl
  | cons t r =>
    rw [decide_eq_false (by simp)]
    rfl
theorem e_xMeth1 {ρ : Ev} {f : Ev → M D} {fs : Ev → M (List D)} {mt : Str} {C : Addr} {n : Nat} {F : Fn} {ns : List Str} {xs ds : List D} {r : M D} (e : f ρ = .ok (.ins C ns xs)) (h : mt ∉ ns) (e2 : fs ρ = .ok ds) (hl : ds.length + 1 = n) (hr : F (.ins C ns xs :: ds) = r) : xMeth mt C n F f fs ρ = r := by
  rw [e_xMeth e h, e2, e_bind_ok, if_pos hl, hr]
section
variable (z : Adr) {p : Int} (h : Pr p) {five : List Tri} (k : Five p five)
include h k
abbrev frL : Ev → S := (sSet 6 (xAnd (xVar 6) (x2 dEq (xAll (callF 3 f_l_left) (xCons (xVar 0) (xCons (xVar 2) (xCons (xVar 7) xNil)))) (xC (.int 0)))))
theorem fr_loop {F : Frm} (hF : FT p F) (w3 w4 w5 : Option Sl) : ∀ (l : List Tri), (∀ t ∈ l, Told p t) → ∀ (b : Bool) (w7 : Option Sl), ∃ v7, forS (tgN 7) frL (l.map triD) [iv p, some (.v (.lst (five.map triD))), some (.v (frmD F)), w3, w4, w5, some (.v (.bl b)), w7] = .nx [iv p, some (.v (.lst (five.map triD))), some (.v (frmD F)), w3, w4, w5, some (.v (.bl (b && l.all fun t => qf F t % p == 0))), v7] := by
  intro l
  induction l with
  | nil => exact fun _ b w7 => ⟨w7, by rw [List.all_nil, Bool.and_true]; rfl⟩
  | cons t l ih =>
    intro ht b w7
    have e := l_left_ok h (hF.b h) ((ht t List.mem_cons_self).b12 h)
    obtain ⟨v7, e2⟩ := ih (fun u hu => ht u (List.mem_cons_of_mem _ hu)) (b && (qf F t % p == 0)) (some (.v (triD t)))
    refine ⟨v7, ?_⟩
    rw [List.all_cons, ← Bool.and_assoc, ← e2, List.map_cons, forS]
    cases b with
    | false => simp [e]
    | true => simp [e]
theorem five_right_ok {F : Frm} (hF : FT p F) (v : List Int) (hv : v.length ≤ 1100) : f_l_five_right z [.int p, .lst (five.map triD), frmD F, .lst (v.map D.int)] = .ok (.bl true) := by
  have e1 := l_three_ok h k
  have e2 := dEq3 (ths p five)
  have e3 := dIn3g (ths p five) v
  have s1 := Oval_shows_ok z h k hF
  have s2 := InLine_shows_any z h k v
  have n1 := dNeTI (frmL F) (frmL F)
  rw [decide_eq_true rfl] at n1
  change dNe (frmD F) (frmD F) = _ at n1
  have n2 := dNeLI v v
  rw [decide_eq_true rfl] at n2
  obtain ⟨v7, lo⟩ := fr_loop h k hF (some (.v (.lst (v.map D.int)))) (some (.o (v.map D.int ++ [.int 0]))) (some (.v (.lst [.ins z.Oval ["form"] [frmD F], .ins z.InLine ["three"] [.lst (v.map D.int)]]))) five k.told (decide (ths p five = [])) none
  have g : gApp (.int 0) (v.map D.int) = .ok (v.map D.int ++ [.int 0]) := by
    unfold gApp
    rw [if_pos (by rw [PySem.sizeLine_eq, List.length_map]; omega)]
  have mk := e_mkLF z.InLine "three" (v.map D.int) (flI v)
  have s0 : (List.map (fun d => some (Sl.v d)) [D.int p, .lst (five.map triD), frmD F, .lst (v.map D.int)] ++ List.replicate (8 - 4) none : Ev) = [iv p, some (.v (.lst (five.map triD))), some (.v (frmD F)), some (.v (.lst (v.map D.int))), none, none, none, none] := rfl
  have m1 : ∀ w4 w7 : Option Sl, ∀ b : Bool, xMeth "shows" z.Oval 3 (f_Oval_shows z) (x2 dIx (xVar 5) (xC (.int 0))) (xCons (xVar 0) (xCons (xVar 1) xNil)) [iv p, some (.v (.lst (five.map triD))), some (.v (frmD F)), some (.v (.lst (v.map D.int))), w4, some (.v (.lst [.ins z.Oval ["form"] [frmD F], .ins z.InLine ["three"] [.lst (v.map D.int)]])), some (.v (.bl b)), w7] = .ok (.bl (ovB p F five)) := fun w4 w7 b =>
    e_xMeth1 (ns := ["form"]) (xs := [frmD F]) (ds := [.int p, .lst (five.map triD)]) (by simp [-e_ixL, ix0]) nsf (by simp) rfl s1
  have m2 : ∀ w4 w7 : Option Sl, ∀ b : Bool, xMeth "shows" z.InLine 3 (f_InLine_shows z) (x2 dIx (xVar 5) (xC (.int 1))) (xCons (xVar 0) (xCons (xVar 1) xNil)) [iv p, some (.v (.lst (five.map triD))), some (.v (frmD F)), some (.v (.lst (v.map D.int))), w4, some (.v (.lst [.ins z.Oval ["form"] [frmD F], .ins z.InLine ["three"] [.lst (v.map D.int)]])), some (.v (.bl b)), w7] = .ok (.bl (decide (v ∈ (ths p five).map l3))) := fun w4 w7 b =>
    e_xMeth1 (ns := ["three"]) (xs := [.lst (v.map D.int)]) (ds := [.int p, .lst (five.map triD)]) (by simp [-e_ixL, ix1]) nst (by simp) rfl s2
  unfold f_l_five_right defF
  rw [if_pos (by rfl), s0]
  simp only [e_sSeq, e_sOwn, e_xAll, e_xCons, e_xVar, List.getElem?_cons_succ, List.getElem?_cons_zero, e_bind_ok, e_xNil, e_listL, e_ofM_ok, List.set_cons_succ, List.set_cons_zero, e_then_nx, e_sSet, e_xLst, e_mkV, e_xOwn, mk, e_lLst2, e_sApp, e_oAt, e_xC, g, e_oPut, e_sIf, e_bOr, e_bBl, e_x2, e_x1, ix0, ix1, e_fld, n1, n2, Bool.not_true, Bool.false_eq_true, if_false, e_sNil, e_callF, List.length_cons, List.length_nil, Nat.reduceAdd, if_true, e1, e_lLst0, e2, e_sFor, e_xItems, e_itL]
  rw [show (sSet 6 (xAnd (xVar 6) (x2 dEq (xAll (callF 3 f_l_left) (xCons (xVar 0) (xCons (xVar 2) (xCons (xVar 7) xNil)))) (xC (.int 0))))) = frL from rfl, lo]
  have eb : (decide (ths p five = []) && five.all fun t => qf F t % p == 0) = ovB p F five := rfl
  rw [eb]
  simp only [e_then_nx, e_sSeq, e_sIf, e_bNot, e_xTru, e_xAll, e_xCons, m1, e_xVar, List.getElem?_cons_succ, List.getElem?_cons_zero, e_bind_ok, e_xNil, e_callF, List.length_cons, List.length_nil, Nat.reduceAdd, if_true, says_ok, beq_self_eq_true, e_truB, e_ofM_ok, Bool.not_true, Bool.false_eq_true, if_false, e_sNil, e_sSet, e_x2, e1, e3, List.set_cons_succ, List.set_cons_zero, e_sRet, m2]
end
theorem l_shared5_ok {p : Int} (h : Pr p) {F : Frm} (hF : FT p F) {l : Tri} (hl : Told p l) : f_l_shared5 [.int p, frmD F, triD l] = .ok (.lst ((shp p F l).map triD)) := by
  have h3 := h.1
  have h4 := h.2.1
  have e1 := points_ok h hl
  rw [pts_eq h hl] at e1
  change f_l_points [.int p, triD l] = .ok (.lst ((alL p l).map triD)) at e1
  have c2 : xComp false [4] (xItems (xVar 3)) (tgN 4) (bBl (x2 dEq (xAll (callF 3 f_l_left) (xCons (xVar 0) (xCons (xVar 1) (xCons (xVar 4) xNil)))) (xC (.int 0)))) (xVar 4) [iv p, some (.v (frmD F)), some (.v (triD l)), some (.v (.lst ((alL p l).map triD))), none] = .ok ((shp p F l).map triD) := by
    rw [e_comp (items := (alL p l).map triD) (by simp) (by intro q; cases q) (by unfold alL; rw [List.length_map, List.length_map, List.length_range]; exact sz16 (by omega)),
      e_compR triD (fun t => [iv p, some (.v (frmD F)), some (.v (triD l)), some (.v (.lst ((alL p l).map triD))), some (.v (triD t))]) (fun t => decide (qf F t % p = 0)) triD (alL p l) (fun x _ => by simp [wipeE]) (fun t ht => by
        have e := l_left_ok h (hF.b h) ((alL_told h hl t ht).1.b12 h)
        simp [e]
        rfl) (fun t _ _ => by simp)]
    rfl
  simp only [f_l_shared5, defF, List.length_cons, List.length_nil, List.map_cons, List.map_nil, List.replicate, Nat.reduceAdd, Nat.reduceSub, if_true, List.cons_append, List.nil_append]
  simp only [e_sSeq, e_sSet, e_xAll, e_xCons, e_xVar, List.getElem?_cons_succ, List.getElem?_cons_zero, e_xNil, e_callF, List.length_cons, List.length_nil, Nat.reduceAdd, if_true, e1, e_xLst, c2, e_bind_ok, e_ofM_ok, e_sRet, e_then_nx, List.set_cons_succ, List.set_cons_zero]
theorem line_right5_ok (z : Adr) {p : Int} (h : Pr p) {F : Frm} (hF : FT p F) {l : Tri} (hl : Told p l) (ps : List Tri) (hps : ps.length ≤ 100000) (r : Int) : f_l_line_right5 z [.int p, frmD F, triD l, .lst (ps.map triD), .int r] = .ok (.bl true) := by
  have e1 := l_shared5_ok h hF hl
  have e2 := dNeL0 ps
  have e3 := dEqLT ps (shp p F l)
  have e4 := l_rest_ok h hF hl
  have e5 := l_square_ok h r
  have s1 := Shared_shows_ok z h hF hl ps
  have s2 := Apart_shows_ok z h hF hl r
  have n1 := dNeLT ps ps
  rw [decide_eq_true rfl] at n1
  have g : gApp (triD (1, 0, 0)) (ps.map triD) = .ok (ps.map triD ++ [triD (1, 0, 0)]) := by
    unfold gApp
    rw [if_pos (by rw [PySem.sizeLine_eq, List.length_map]; omega)]
  change gApp (.tup [.int 1, .int 0, .int 0]) (ps.map triD) = _ at g
  have mk := e_mkLF z.Shared "points" (ps.map triD) (flT ps)
  have s0 : (List.map (fun d => some (Sl.v d)) [D.int p, frmD F, triD l, .lst (ps.map triD), .int r] ++ List.replicate (10 - 5) none : Ev) = [iv p, some (.v (frmD F)), some (.v (triD l)), some (.v (.lst (ps.map triD))), iv r, none, none, none, none, none] := rfl
  have m1 : ∀ w5 w7 w8 w9 : Option Sl, xMeth "shows" z.Shared 4 (f_Shared_shows z) (x2 dIx (xVar 6) (xC (.int 0))) (xCons (xVar 0) (xCons (xVar 1) (xCons (xVar 2) xNil))) [iv p, some (.v (frmD F)), some (.v (triD l)), some (.v (.lst (ps.map triD))), iv r, w5, some (.v (.lst [.ins z.Shared ["points"] [.lst (ps.map triD)], .ins z.Apart ["rest"] [.int r]])), w7, w8, w9] = .ok (.bl (!decide (ps = []) && decide (ps = shp p F l))) := fun w5 w7 w8 w9 =>
    e_xMeth1 (ns := ["points"]) (xs := [.lst (ps.map triD)]) (ds := [.int p, frmD F, triD l]) (by simp [-e_ixL, ix0]) nsp (by simp) rfl s1
  have m2 : ∀ w5 w7 w8 w9 : Option Sl, xMeth "shows" z.Apart 4 (f_Apart_shows z) (x2 dIx (xVar 6) (xC (.int 1))) (xCons (xVar 0) (xCons (xVar 1) (xCons (xVar 2) xNil))) [iv p, some (.v (frmD F)), some (.v (triD l)), some (.v (.lst (ps.map triD))), iv r, w5, some (.v (.lst [.ins z.Shared ["points"] [.lst (ps.map triD)], .ins z.Apart ["rest"] [.int r]])), w7, w8, w9] = .ok (.bl (decide (r = rst p F l) && !sq p r)) := fun w5 w7 w8 w9 =>
    e_xMeth1 (ns := ["rest"]) (xs := [.int r]) (ds := [.int p, frmD F, triD l]) (by simp [-e_ixL, ix1]) nsrr (by simp) rfl s2
  have x8 : ∀ w5 w6 w8 w9 : Option Sl, xAnd (x2 dNe (xVar 3) (xLst (xAll lLst xNil))) (x2 dEq (xVar 3) (xVar 7)) [iv p, some (.v (frmD F)), some (.v (triD l)), some (.v (.lst (ps.map triD))), iv r, w5, w6, some (.v (.lst ((shp p F l).map triD))), w8, w9] = .ok (.bl (!decide (ps = []) && decide (ps = shp p F l))) := fun w5 w6 w8 w9 => by
    simp only [e_xAnd, e_x2, e_xVar, List.getElem?_cons_succ, List.getElem?_cons_zero, e_bind_ok, e_xLst, e_xAll, e_xNil, e_lLst0, e2, e3]
    cases (!decide (ps = [])) <;> simp
  have x9 : ∀ w5 w6 w7 w8 : Option Sl, xAnd (xVar 9) (xNot (xAll (callF 2 f_l_square) (xCons (xVar 0) (xCons (xVar 4) xNil)))) [iv p, some (.v (frmD F)), some (.v (triD l)), some (.v (.lst (ps.map triD))), iv r, w5, w6, w7, w8, some (.v (.bl (r == rst p F l)))] = .ok (.bl (decide (r = rst p F l) && !sq p r)) := fun w5 w6 w7 w8 => by
    by_cases q : r = rst p F l
    · have qb : (r == rst p F l) = true := by rw [q]; exact beq_self_eq_true _
      simp [qb, e5, q]
      rw [← q]
      simp [e5]
    · have qb : (r == rst p F l) = false := by simpa using q
      simp [qb, q]
  unfold f_l_line_right5 defF
  rw [if_pos (by rfl), s0]
  simp only [e_sSeq, e_sOwn, e_xAll, e_xCons, e_xVar, List.getElem?_cons_succ, List.getElem?_cons_zero, e_bind_ok, e_xNil, e_listL, e_ofM_ok, List.set_cons_succ, List.set_cons_zero, e_then_nx, e_sSet, e_xLst, e_mkV, e_xOwn, mk, e_lLst2, e_sApp, e_oAt, e_xC, e_lTup3, g, e_oPut, e_sIf, e_bOr, e_bBl, e_x2, e_x1, ix0, ix1, e_fld, n1, e_neI, beq_self_eq_true, Bool.not_true, Bool.false_eq_true, if_false, e_sNil, e_callF, List.length_cons, List.length_nil, Nat.reduceAdd, if_true, e1, x8, e_bNot, e_xTru, m1, says_ok, e_truB, e4, e_eqI, x9, e_sRet, m2]
end OM
set_option maxRecDepth 100000
set_option maxHeartbeats 4000000
/-! Law5c: the law's forms. -/
namespace OM
open PySem L2 DI
noncomputable abbrev mb1 (z : Adr) : Ev → S := (sSet 4 (xAll (callF 2 f_l_prime) (xCons (xVar 0) (xCons (xVar 1) xNil))))
noncomputable abbrev mb2 (z : Adr) : Ev → S := (sSet 5 (xAll (callF 2 f_l_value) (xCons (xAll (callF 2 f_l_cell_at) (xCons (xVar 0) (xCons (x2 dAdd (xVar 1) (xC (.int 3))) xNil))) (xCons (xVar 1) xNil))))
noncomputable abbrev mb3 (z : Adr) : Ev → S := (sSet 6 (xAll (callF 3 f_l_five) (xCons (xVar 0) (xCons (xVar 1) (xCons (xVar 4) xNil)))))
noncomputable abbrev mb4 (z : Adr) : Ev → S := (sSet 7 (fun ρ => ((xCons (xVar 4) (xCons (xLst (xAll dListF (xCons (xVar 6) xNil))) xNil)) ρ).bind fun ds => (callO 2 (f_oval z) ds).bind fun r => .ok r.toD))
noncomputable abbrev mb5 (z : Adr) : Ev → S := (sSet 8 (xLst (xAll lLst (xCons (xC (.int 0)) (xCons (x2 dAdd (xC (.int 1)) (x2 dMod (xVar 5) (xC (.int 2)))) (xCons (x2 dAdd (xC (.int 3)) (x2 dMod (x2 dFdiv (xVar 5) (xC (.int 2))) (xC (.int 2)))) xNil))))))
noncomputable abbrev mb6 (z : Adr) : Ev → S := (sSet 8 (xIf (xTru (xAll (dIsI z.K [z.Oval, z.InLine, z.Shared, z.Apart]) (xCons (xVar 7) (xCons (xC (.fn z.InLine)) xNil)))) (x1 (dFld [z.InLine] "three") (xVar 7)) (xVar 8)))
noncomputable abbrev mb7 (z : Adr) : Ev → S := (sSet 9 (xAll (callF 3 f_l_two_lines) (xCons (xVar 4) (xCons (xVar 6) (xCons (xVar 8) xNil)))))
noncomputable abbrev mb8 (z : Adr) : Ev → S := (sIf (xTru (xAll (dIsI z.K [z.Oval, z.InLine, z.Shared, z.Apart]) (xCons (xVar 7) (xCons (xC (.fn z.Oval)) xNil)))) (sSet 9 (x1 (dFld [z.Oval] "form") (xVar 7))) sNil)
noncomputable abbrev mb9 (z : Adr) : Ev → S := (sSet 10 (xLst (xComp false [14, 23] (xAll dEnumT (xCons (xVar 9) xNil)) (tgT 2 (tgCons (tgN 14) (tgCons (tgN 23) tgNil))) bYes (x2 dAdd (xVar 23) (xAll dInt1 (xCons (x2 dEq (xVar 14) (x2 dMod (xVar 5) (xC (.int 6)))) xNil))))))
noncomputable abbrev mb10 (z : Adr) : Ev → S := (sSet 10 (xAll (callF 2 f_l_told) (xCons (xVar 4) (xCons (x2 dAdd (xVar 10) (xLst (xAll lLst (xCons (xC (.int 1)) xNil)))) xNil))))
noncomputable abbrev mb11 (z : Adr) : Ev → S := (sSet 11 (xAll lTup (xCons (xVar 5) (xCons (x2 dFdiv (xVar 5) (xC (.int 7))) (xCons (x2 dFdiv (xVar 5) (xC (.int 49))) (xCons (xC (.int 1)) (xCons (x2 dFdiv (xVar 5) (xC (.int 5))) (xCons (xC (.int 0)) xNil))))))))
noncomputable abbrev mb12 (z : Adr) : Ev → S := (sSet 12 (xLst (xAll lLst (xCons (xVar 9) (xCons (xIf (xTru (xAll dAnyIT (xCons (xSlice (xVar 10) pNone (pSome (xC (.int 6)))) xNil))) (xSlice (xVar 10) pNone (pSome (xC (.int 6)))) (xVar 9)) xNil)))))
noncomputable abbrev mb13 (z : Adr) : Ev → S := (sSet 12 (x2 dAdd (xVar 12) (xLst (xAll lLst (xCons (xAll (callF 2 f_l_told) (xCons (xVar 4) (xCons (x1 dRevT (xVar 9)) xNil))) (xCons (xAll (callF 2 f_l_told) (xCons (xVar 4) (xCons (xVar 11) xNil))) xNil))))))
noncomputable abbrev mb14 (z : Adr) : Ev → S := (sSet 13 (xLst (xAll lLst (xCons (xVar 8) (xCons (x1 (dPickG none (some (-1))) (xVar 8)) (xCons (xSlice (xVar 8) pNone (pSome (xC (.int 2)))) (xCons (x2 dAdd (xVar 8) (xLst (xAll lLst (xCons (xC (.int 4)) xNil)))) xNil)))))))
noncomputable abbrev mb15 (z : Adr) : Ev → S := (sSet 13 (x2 dAdd (xVar 13) (xLst (xAll lLst (xCons (x2 dAdd (xLst (xAll lLst (xCons (x1 dNeg (xC (.int 1))) xNil))) (xSlice (xVar 8) (pSome (xC (.int 1))) pNone)) (xCons (x2 dAdd (xSlice (xVar 8) pNone (pSome (xC (.int 2)))) (xLst (xAll lLst (xCons (xC (.int 5)) xNil)))) (xCons (xLst (xAll lLst (xCons (xC (.int 0)) (xCons (xC (.int 0)) (xCons (xC (.int 1)) xNil))))) (xCons (xLst (xAll lLst xNil)) xNil))))))))
noncomputable abbrev mi16 (z : Adr) : Ev → S := (sIf (bNot (xTru (xAll (callF 4 (f_l_five_right z)) (xCons (xVar 4) (xCons (xVar 6) (xCons (x2 dIx (xVar 12) (x2 dMod (xVar 14) (xC (.int 4)))) (xCons (x2 dIx (xVar 13) (xVar 14)) xNil))))))) (sRet (xC (.bl false))) sNil)
noncomputable abbrev mb16 (z : Adr) : Ev → S := (sFor (xAll dRg1 (xCons (xC (.int 8)) xNil)) (tgN 14) (mi16 z))
noncomputable abbrev mb17 (z : Adr) : Ev → S := (sAsg (xAll (callF 4 f_l_triples) (xCons (xVar 0) (xCons (x2 dAdd (xVar 1) (xC (.int 1))) (xCons (xVar 4) (xCons (xC (.int 2)) xNil))))) (tgT 2 (tgCons (tgN 20) (tgCons (tgN 21) tgNil))))
noncomputable abbrev mb18 (z : Adr) : Ev → S := (sSet 15 (xAll (callF 3 f_l_shared5) (xCons (xVar 4) (xCons (xVar 9) (xCons (xVar 20) xNil)))))
noncomputable abbrev mb19 (z : Adr) : Ev → S := (sSet 16 (xAll (callF 3 f_l_rest) (xCons (xVar 4) (xCons (xVar 9) (xCons (xVar 20) xNil)))))
noncomputable abbrev mb20 (z : Adr) : Ev → S := (sSet 17 (xLst (xAll lLst (xCons (xVar 15) (xCons (x1 (dPickG none (some (-1))) (xVar 15)) (xCons (xSlice (xVar 15) (pSome (xC (.int 1))) pNone) xNil))))))
noncomputable abbrev mb21 (z : Adr) : Ev → S := (sSet 17 (x2 dAdd (xVar 17) (xLst (xAll lLst (xCons (x2 dAdd (xVar 15) (xSlice (xVar 15) pNone (pSome (xC (.int 1))))) (xCons (x2 dAdd (xVar 15) (xLst (xAll lLst (xCons (xVar 21) xNil)))) (xCons (xLst (xAll lLst xNil)) xNil)))))))
noncomputable abbrev mb22 (z : Adr) : Ev → S := (sSet 18 (xAll lTup (xCons (xVar 16) (xCons (x2 dAdd (xVar 16) (xC (.int 1))) (xCons (x2 dAdd (xVar 16) (xVar 4)) (xCons (x1 dNeg (xVar 16)) (xCons (xC (.int 0)) (xCons (xVar 5) xNil))))))))
noncomputable abbrev mi23 (z : Adr) : Ev → S := (sIf (bOr (bBl (x2 dLt (xVar 4) (xC (.int 200)))) (bBl (x2 dIn (xVar 14) (xAll lTup (xCons (x2 dMod (xVar 5) (xC (.int 6))) (xCons (xC (.int 0)) xNil)))))) (sIf (bNot (xTru (xAll (callF 5 (f_l_line_right5 z)) (xCons (xVar 4) (xCons (xVar 9) (xCons (xVar 20) (xCons (x2 dIx (xVar 17) (xVar 14)) (xCons (xVar 22) xNil)))))))) (sRet (xC (.bl false))) sNil) sNil)
noncomputable abbrev mb23 (z : Adr) : Ev → S := (sFor (xAll dEnumT (xCons (xVar 18) xNil)) (tgT 2 (tgCons (tgN 14) (tgCons (tgN 22) tgNil))) (mi23 z))
noncomputable abbrev law5B (z : Adr) : Ev → S := (sSeq (mb1 z) (sSeq (mb2 z) (sSeq (mb3 z) (sSeq (mb4 z) (sSeq (mb5 z) (sSeq (mb6 z) (sSeq (mb7 z) (sSeq (mb8 z) (sSeq (mb9 z) (sSeq (mb10 z) (sSeq (mb11 z) (sSeq (mb12 z) (sSeq (mb13 z) (sSeq (mb14 z) (sSeq (mb15 z) (sSeq (mb16 z) (sSeq (mb17 z) (sSeq (mb18 z) (sSeq (mb19 z) (sSeq (mb20 z) (sSeq (mb21 z) (sSeq (mb22 z) (mb23 z)))))))))))))))))))))))
noncomputable abbrev law5E1 (z : Adr) : Ev → S := (sAsg (xAll lTup (xCons (xAll lTup (xCons (xC (.int 0)) (xCons (xC (.int 1)) (xCons (xC (.int 0)) (xCons (xC (.int 0)) (xCons (xC (.int 6)) (xCons (xC (.int 0)) xNil))))))) (xCons (xAll lTup (xCons (xC (.int 1)) (xCons (xC (.int 1)) (xCons (xC (.int 0)) (xCons (xC (.int 0)) (xCons (xC (.int 0)) (xCons (xC (.int 0)) xNil))))))) (xCons (xAll lTup (xCons (xC (.int 0)) (xCons (xC (.int 0)) (xCons (xC (.int 1)) xNil)))) xNil)))) (tgT 3 (tgCons (tgN 9) (tgCons (tgN 19) (tgCons (tgN 20) tgNil)))))
noncomputable abbrev law5E2 (z : Adr) : Ev → S := (sOwn 2 (xAll lLst (xCons (xMeth "shows" z.Oval 3 (f_Oval_shows z) (xAll (dMkV z.Oval "form") (xCons (xVar 9) xNil)) (xCons (xC (.int 7)) (xCons (xLst (xAll lLst (xCons (xAll lTup (xCons (xC (.int 1)) (xCons (xC (.int 0)) (xCons (xC (.int 0)) xNil)))) (xCons (xAll lTup (xCons (xC (.int 1)) (xCons (xC (.int 1)) (xCons (xC (.int 1)) xNil)))) (xCons (xAll lTup (xCons (xC (.int 1)) (xCons (xC (.int 2)) (xCons (xC (.int 4)) xNil)))) (xCons (xAll lTup (xCons (xC (.int 1)) (xCons (xC (.int 3)) (xCons (xC (.int 2)) xNil)))) (xCons (xVar 20) xNil))))))) xNil))) xNil)))
noncomputable abbrev law5E3 (z : Adr) : Ev → S := (sApp 2 (xMeth "shows" z.Shared 4 (f_Shared_shows z) (oToD (xAll (oMkL z.Shared "points") (xCons (xLst (xAll lLst (xCons (xAll lTup (xCons (xC (.int 1)) (xCons (xC (.int 0)) (xCons (xC (.int 0)) xNil)))) xNil))) xNil))) (xCons (xC (.int 7)) (xCons (xVar 9) (xCons (xVar 20) xNil)))))
noncomputable abbrev law5E4 (z : Adr) : Ev → S := (sApp 2 (xMeth "shows" z.Apart 4 (f_Apart_shows z) (xAll (dMkV z.Apart "rest") (xCons (xC (.int 2)) xNil)) (xCons (xC (.int 3)) (xCons (xVar 19) (xCons (xVar 20) xNil)))))
noncomputable abbrev law5E5 (z : Adr) : Ev → S := (sSet 3 (xLst (xAll lLst (xCons (xMeth "shows" z.Shared 4 (f_Shared_shows z) (oToD (xAll (oMkL z.Shared "points") (xCons (xLst (xAll lLst xNil)) xNil))) (xCons (xC (.int 3)) (xCons (xVar 19) (xCons (xVar 20) xNil)))) (xCons (xMeth "shows" z.Apart 4 (f_Apart_shows z) (xAll (dMkV z.Apart "rest") (xCons (xC (.int 0)) xNil)) (xCons (xC (.int 7)) (xCons (xVar 9) (xCons (xVar 20) xNil)))) xNil)))))
noncomputable abbrev law5E6 (z : Adr) : Ev → S := (sFrz 2 (sRet (xAnd (xAll dAll (xCons (xLst (xComp false [24] (xItems (xVar 2)) (tgN 24) bYes (xAll (callF 2 f_l_says) (xCons (xVar 24) (xCons (xC (.bl true)) xNil))))) xNil)) (xAll dAll (xCons (xLst (xComp false [24] (xItems (xVar 3)) (tgN 24) bYes (xAll (callF 2 f_l_says) (xCons (xVar 24) (xCons (xC (.bl false)) xNil))))) xNil)))))
theorem law5_eq (z : Adr) : f_law5 z = defF false 1 25 (sSeq (sSet 0 (xSliceS z.K (xVar 0) pNone (pSome (xC (.int 63))))) (sSeq (sFor (xAll dRg3 (xCons (xC (.int 0)) (xCons (xAll dLen (xCons (xVar 0) xNil)) (xCons (x2 dAdd (xC (.int 1)) (x2 dFdiv (xAll dLen (xCons (xVar 0) xNil)) (xC (.int 3)))) xNil)))) (tgN 1) (law5B z)) (sSeq (law5E1 z) (sSeq (law5E2 z) (sSeq (law5E3 z) (sSeq (law5E4 z) (sSeq (law5E5 z) (law5E6 z)))))))) := rfl
theorem pick_len_le {α : Type} (xs : List α) : (pickL xs none (some (-1))).length ≤ xs.length := by
  unfold pickL
  refine Nat.le_trans (List.length_filterMap_le _ _) (sliceRange_length_le _ _ _ _ (fun hc => ?_) fun hc => ?_)
  · simp only [sliceBounds] at hc ⊢
    simp at hc ⊢
  · simp only [sliceBounds] at hc ⊢
    simp at hc ⊢
theorem pick_map {α β : Type} (f : α → β) (xs : List α) (lo st : Option Int) : pickL (xs.map f) lo st = (pickL xs lo st).map f := by
  have e : ∀ ix : List Nat, ix.filterMap ((xs.map f)[·]?) = (ix.filterMap (xs[·]?)).map f := fun ix => by
    induction ix with
    | nil => rfl
    | cons i ix ih =>
      cases q : xs[i]? with
      | none => rw [List.filterMap_cons_none (by rw [List.getElem?_map, q]; rfl), List.filterMap_cons_none q, ih]
      | some d => rw [List.filterMap_cons_some (b := f d) (by rw [List.getElem?_map, q]; rfl), List.filterMap_cons_some q, ih, List.map_cons]
  unfold pickL
  rw [List.length_map]
  exact e _
theorem pick_any {α : Type} (f : α → D) (xs : List α) (hl : xs.length ≤ 1000) : ∃ ys : List α, ys.length ≤ 1000 ∧ dPickG none (some (-1)) (.lst (xs.map f)) = .ok (.lst (ys.map f)) := by
  refine ⟨pickL xs none (some (-1)), Nat.le_trans (pick_len_le xs) hl, ?_⟩
  unfold dPickG
  dsimp only
  have := pick_len_le (List.replicate (xs.map f).length ())
  rw [List.length_replicate, List.length_map] at this
  rw [List.length_map, if_pos (by rw [PySem.sizeLine_eq]; omega), pick_map]
theorem dInTI (ts : List Int) (t : Int) : dIn (.int t) (.tup (ts.map D.int)) = .ok (.bl (decide (t ∈ ts))) := by
  have e : ((toPs (ts.map D.int)).any fun z => PyData.eqv z (D.int t).toP) = decide (t ∈ ts) := by
    induction ts with
    | nil => rfl
    | cons u r ih =>
      rw [List.map_cons, toPs, List.any_cons, ih]
      have : PyData.eqv (D.int u).toP (D.int t).toP = decide (u = t) := rfl
      rw [this]
      simp only [List.mem_cons, Bool.decide_or, eq_comm]
  unfold dIn
  rw [okTI, ← e]
  rfl
theorem ixM {α : Type} (f : α → D) {xs : List α} {i : Nat} {x : α} (h : xs[i]? = some x) : dIx (.lst (xs.map f)) (.int (i : Int)) = .ok (f x) := by
  have e : atI (xs.map f) (i : Int) = some (f x) := atN (by rw [List.getElem?_map, h]; rfl)
  show ofO (atI _ _) = _
  rw [e]
  rfl
/-- a told list of seven, cut to six -/
theorem cut7 {p : Int} {v : List Int} (k : ToldL p v) (hl : v.length = 7) (ha : ((v.take 6).any fun n => n != 0) = true) : ∃ G, FT p G ∧ D.tup ((v.take 6).map D.int) = frmD G := by
  obtain ⟨G, hG⟩ := len6 (v := v.take 6) (by rw [List.length_take, hl]; rfl)
  refine ⟨G, ?_, by rw [hG]; rfl⟩
  unfold FT
  rw [← hG]
  obtain ⟨k1, r, k2⟩ := k
  refine ⟨fun x hx => k1 x (List.mem_of_mem_take hx), ?_⟩
  rw [← List.take_append_drop 6 v, List.filter_append] at k2
  cases q : (v.take 6).filter fun x => decide (0 < x) with
  | nil =>
    exfalso
    obtain ⟨x, hx, hn⟩ := List.any_eq_true.mp ha
    have h0 := (k1 x (List.mem_of_mem_take hx)).1
    have hn : x ≠ 0 := by simpa using hn
    have : x ∈ (v.take 6).filter fun x => decide (0 < x) := List.mem_filter.mpr ⟨hx, decide_eq_true (by omega)⟩
    rw [q] at this
    cases this
  | cons y r' =>
    rw [q, List.cons_append] at k2
    cases k2
    exact ⟨_, rfl⟩
section
variable (z : Adr) (kk : KitOk z) {p : Int} (h : Pr p) {five : List Tri} (k : Five p five) {ns : List Int} {a c : Int}
include kk h k
theorem pre5 (w2 w3 w4 w5 w6 w7 w8 w9 w10 w11 w12 w13 w14 w15 w16 w17 w18 w19 w20 w21 w22 w23 w24 : Option Sl) : ∃ T t F, t ∈ T10 ∧ FT p F ∧ ∀ s : Ev → S, (sSeq (mb4 z) (sSeq (mb5 z) (sSeq (mb6 z) (sSeq (mb7 z) (sSeq (mb8 z) s))))) [some (.v (.lst (ns.map .int))), iv a, w2, w3, iv p, iv c, some (.v (.lst (five.map triD))), w7, w8, w9, w10, w11, w12, w13, w14, w15, w16, w17, w18, w19, w20, w21, w22, w23, w24] = s [some (.v (.lst (ns.map .int))), iv a, w2, w3, iv p, iv c, some (.v (.lst (five.map triD))), some (.v T), some (.v (.lst ((l3 t).map D.int))), some (.v (frmD F)), w10, w11, w12, w13, w14, w15, w16, w17, w18, w19, w20, w21, w22, w23, w24] := by
  obtain ⟨F0, hF0, hq, eo⟩ := oval_ok z h k
  have c20 := Int.emod_nonneg c (show (2 : Int) ≠ 0 by decide)
  have c21 := Int.emod_lt_of_pos c (show (0 : Int) < 2 by decide)
  have d20 := Int.emod_nonneg (c / 2) (show (2 : Int) ≠ 0 by decide)
  have d21 := Int.emod_lt_of_pos (c / 2) (show (0 : Int) < 2 by decide)
  have m0 : ((0, 1 + c % 2, 3 + c / 2 % 2) : Tri) ∈ T10 := T10_of (by omega) (by omega) (by omega) (by omega)
  obtain ⟨i0, i1, i2, i3, i4⟩ := isiO z kk
  obtain ⟨j0, j1, j2, j3, j4⟩ := isiI z kk
  cases q : ths p five with
  | nil =>
    rw [q] at eo
    dsimp only at eo
    obtain ⟨F1, hF1, e2⟩ := two_lines_ok h k m0
    refine ⟨insO z F0, (0, 1 + c % 2, 3 + c / 2 % 2), F0, m0, hF0, fun s => ?_⟩
    have t4 : mb4 z [some (.v (.lst (ns.map .int))), iv a, w2, w3, iv p, iv c, some (.v (.lst (five.map triD))), w7, w8, w9, w10, w11, w12, w13, w14, w15, w16, w17, w18, w19, w20, w21, w22, w23, w24] = .nx [some (.v (.lst (ns.map .int))), iv a, w2, w3, iv p, iv c, some (.v (.lst (five.map triD))), some (.v (insO z F0)), w8, w9, w10, w11, w12, w13, w14, w15, w16, w17, w18, w19, w20, w21, w22, w23, w24] := by
      simp [eo]
    have t5 : mb5 z [some (.v (.lst (ns.map .int))), iv a, w2, w3, iv p, iv c, some (.v (.lst (five.map triD))), some (.v (insO z F0)), w8, w9, w10, w11, w12, w13, w14, w15, w16, w17, w18, w19, w20, w21, w22, w23, w24] = .nx [some (.v (.lst (ns.map .int))), iv a, w2, w3, iv p, iv c, some (.v (.lst (five.map triD))), some (.v (insO z F0)), some (.v (.lst ((l3 (0, 1 + c % 2, 3 + c / 2 % 2)).map D.int))), w9, w10, w11, w12, w13, w14, w15, w16, w17, w18, w19, w20, w21, w22, w23, w24] := by
      simp [e_mod (show (0 : Int) < 2 by decide), e_fdiv (show (0 : Int) < 2 by decide) (show (2 : Int) < 1073741824 by decide), l3]
    have t6 : mb6 z [some (.v (.lst (ns.map .int))), iv a, w2, w3, iv p, iv c, some (.v (.lst (five.map triD))), some (.v (insO z F0)), some (.v (.lst ((l3 (0, 1 + c % 2, 3 + c / 2 % 2)).map D.int))), w9, w10, w11, w12, w13, w14, w15, w16, w17, w18, w19, w20, w21, w22, w23, w24] = .nx [some (.v (.lst (ns.map .int))), iv a, w2, w3, iv p, iv c, some (.v (.lst (five.map triD))), some (.v (insO z F0)), some (.v (.lst ((l3 (0, 1 + c % 2, 3 + c / 2 % 2)).map D.int))), w9, w10, w11, w12, w13, w14, w15, w16, w17, w18, w19, w20, w21, w22, w23, w24] := by
      simp [i1]
    have t7 : mb7 z [some (.v (.lst (ns.map .int))), iv a, w2, w3, iv p, iv c, some (.v (.lst (five.map triD))), some (.v (insO z F0)), some (.v (.lst ((l3 (0, 1 + c % 2, 3 + c / 2 % 2)).map D.int))), w9, w10, w11, w12, w13, w14, w15, w16, w17, w18, w19, w20, w21, w22, w23, w24] = .nx [some (.v (.lst (ns.map .int))), iv a, w2, w3, iv p, iv c, some (.v (.lst (five.map triD))), some (.v (insO z F0)), some (.v (.lst ((l3 (0, 1 + c % 2, 3 + c / 2 % 2)).map D.int))), some (.v (frmD F1)), w10, w11, w12, w13, w14, w15, w16, w17, w18, w19, w20, w21, w22, w23, w24] := by
      simp [e2]
    have t8 : mb8 z [some (.v (.lst (ns.map .int))), iv a, w2, w3, iv p, iv c, some (.v (.lst (five.map triD))), some (.v (insO z F0)), some (.v (.lst ((l3 (0, 1 + c % 2, 3 + c / 2 % 2)).map D.int))), some (.v (frmD F1)), w10, w11, w12, w13, w14, w15, w16, w17, w18, w19, w20, w21, w22, w23, w24] = .nx [some (.v (.lst (ns.map .int))), iv a, w2, w3, iv p, iv c, some (.v (.lst (five.map triD))), some (.v (insO z F0)), some (.v (.lst ((l3 (0, 1 + c % 2, 3 + c / 2 % 2)).map D.int))), some (.v (frmD F0)), w10, w11, w12, w13, w14, w15, w16, w17, w18, w19, w20, w21, w22, w23, w24] := by
      simp [i0]
    rw [e_sSeq, t4, e_then_nx, e_sSeq, t5, e_then_nx, e_sSeq, t6, e_then_nx, e_sSeq, t7, e_then_nx, e_sSeq, t8, e_then_nx]
  | cons t r =>
    rw [q] at eo
    dsimp only at eo
    have mt : t ∈ ths p five := by rw [q]; exact List.mem_cons_self
    have ht := (List.mem_filter.mp mt).1
    obtain ⟨F1, hF1, e2⟩ := two_lines_ok h k ht
    refine ⟨insI z t, t, F1, ht, hF1, fun s => ?_⟩
    have t4 : mb4 z [some (.v (.lst (ns.map .int))), iv a, w2, w3, iv p, iv c, some (.v (.lst (five.map triD))), w7, w8, w9, w10, w11, w12, w13, w14, w15, w16, w17, w18, w19, w20, w21, w22, w23, w24] = .nx [some (.v (.lst (ns.map .int))), iv a, w2, w3, iv p, iv c, some (.v (.lst (five.map triD))), some (.v (insI z t)), w8, w9, w10, w11, w12, w13, w14, w15, w16, w17, w18, w19, w20, w21, w22, w23, w24] := by
      simp [eo]
    have t5 : mb5 z [some (.v (.lst (ns.map .int))), iv a, w2, w3, iv p, iv c, some (.v (.lst (five.map triD))), some (.v (insI z t)), w8, w9, w10, w11, w12, w13, w14, w15, w16, w17, w18, w19, w20, w21, w22, w23, w24] = .nx [some (.v (.lst (ns.map .int))), iv a, w2, w3, iv p, iv c, some (.v (.lst (five.map triD))), some (.v (insI z t)), some (.v (.lst ((l3 (0, 1 + c % 2, 3 + c / 2 % 2)).map D.int))), w9, w10, w11, w12, w13, w14, w15, w16, w17, w18, w19, w20, w21, w22, w23, w24] := by
      simp [e_mod (show (0 : Int) < 2 by decide), e_fdiv (show (0 : Int) < 2 by decide) (show (2 : Int) < 1073741824 by decide), l3]
    have t6 : mb6 z [some (.v (.lst (ns.map .int))), iv a, w2, w3, iv p, iv c, some (.v (.lst (five.map triD))), some (.v (insI z t)), some (.v (.lst ((l3 (0, 1 + c % 2, 3 + c / 2 % 2)).map D.int))), w9, w10, w11, w12, w13, w14, w15, w16, w17, w18, w19, w20, w21, w22, w23, w24] = .nx [some (.v (.lst (ns.map .int))), iv a, w2, w3, iv p, iv c, some (.v (.lst (five.map triD))), some (.v (insI z t)), some (.v (.lst ((l3 t).map D.int))), w9, w10, w11, w12, w13, w14, w15, w16, w17, w18, w19, w20, w21, w22, w23, w24] := by
      simp [j1, l3]
    have t7 : mb7 z [some (.v (.lst (ns.map .int))), iv a, w2, w3, iv p, iv c, some (.v (.lst (five.map triD))), some (.v (insI z t)), some (.v (.lst ((l3 t).map D.int))), w9, w10, w11, w12, w13, w14, w15, w16, w17, w18, w19, w20, w21, w22, w23, w24] = .nx [some (.v (.lst (ns.map .int))), iv a, w2, w3, iv p, iv c, some (.v (.lst (five.map triD))), some (.v (insI z t)), some (.v (.lst ((l3 t).map D.int))), some (.v (frmD F1)), w10, w11, w12, w13, w14, w15, w16, w17, w18, w19, w20, w21, w22, w23, w24] := by
      simp [e2]
    have t8 : mb8 z [some (.v (.lst (ns.map .int))), iv a, w2, w3, iv p, iv c, some (.v (.lst (five.map triD))), some (.v (insI z t)), some (.v (.lst ((l3 t).map D.int))), some (.v (frmD F1)), w10, w11, w12, w13, w14, w15, w16, w17, w18, w19, w20, w21, w22, w23, w24] = .nx [some (.v (.lst (ns.map .int))), iv a, w2, w3, iv p, iv c, some (.v (.lst (five.map triD))), some (.v (insI z t)), some (.v (.lst ((l3 t).map D.int))), some (.v (frmD F1)), w10, w11, w12, w13, w14, w15, w16, w17, w18, w19, w20, w21, w22, w23, w24] := by
      simp [j0]
    rw [e_sSeq, t4, e_then_nx, e_sSeq, t5, e_then_nx, e_sSeq, t6, e_then_nx, e_sSeq, t7, e_then_nx, e_sSeq, t8, e_then_nx]
theorem mid5 {F : Frm} (hF : FT p F) (bc : B c 1048700) (T : D) (t : Tri) (w2 w3 w4 w5 w6 w7 w8 w9 w10 w11 w12 w13 w14 w15 w16 w17 w18 w19 w20 w21 w22 w23 w24 : Option Sl) : ∃ (x10 x11 : Option Sl) (fs : List Frm), fs.length = 4 ∧ (∀ G ∈ fs, FT p G) ∧ ∀ s : Ev → S, (sSeq (mb9 z) (sSeq (mb10 z) (sSeq (mb11 z) (sSeq (mb12 z) (sSeq (mb13 z) s))))) [some (.v (.lst (ns.map .int))), iv a, w2, w3, iv p, iv c, some (.v (.lst (five.map triD))), some (.v T), some (.v (.lst ((l3 t).map D.int))), some (.v (frmD F)), w10, w11, w12, w13, w14, w15, w16, w17, w18, w19, w20, w21, w22, w23, w24] = s [some (.v (.lst (ns.map .int))), iv a, w2, w3, iv p, iv c, some (.v (.lst (five.map triD))), some (.v T), some (.v (.lst ((l3 t).map D.int))), some (.v (frmD F)), x10, x11, some (.v (.lst (fs.map frmD))), w13, w14, w15, w16, w17, w18, w19, w20, w21, w22, w23, w24] := by
  have h3 := h.1
  obtain ⟨bl, hbl⟩ : ∃ bl : List Int, bl = (List.range 6).map fun (i : Nat) => (frmL F).getD i 0 + (if (i : Int) == c % 6 then 1 else 0) := ⟨_, rfl⟩
  have lbl : bl.length = 6 := by rw [hbl, List.length_map, List.length_range]
  have fb : ∀ i : Nat, B ((frmL F).getD i 0) 10 := fun i => by
    by_cases hi : i < 6
    · have m : (frmL F).getD i 0 ∈ frmL F := by
        rw [List.getD_eq_getElem?_getD, List.getElem?_eq_getElem (by simpa [frmL] using hi)]
        exact List.getElem_mem _
      have := hF.1 _ m
      have := h.2.1
      exact B.of (by omega) (by omega)
    · rw [List.getD_eq_getElem?_getD, List.getElem?_eq_none (by simp [frmL]; omega)]
      exact B.of (by decide) (by decide)
  have bb : ∀ x ∈ bl ++ [1], B x 2000000 := fun x hx => by
    rcases List.mem_append.mp hx with y | y
    · rw [hbl] at y
      obtain ⟨i, _, rfl⟩ := List.mem_map.mp y
      refine ((fb i).add (k := ?_) (n := 10)).mono (by omega)
      split
      · exact B.of (by decide) (by decide)
      · exact B.of (by decide) (by decide)
    · rw [List.mem_singleton.mp y]
      exact (B.of (n := 10) (by decide) (by decide)).mono (by omega)
  have one : (1 : Int) % p ≠ 0 := by rw [Int.emod_eq_of_lt (by decide) (by omega)]; decide
  have nz7 : nzs p (bl ++ [1]) ≠ [] := nzs_of (x := 1) (by omega) (by simp) one
  have l7 : (bl ++ [1]).length = 7 := by rw [List.length_append, lbl]; rfl
  have et := l_told_big (d := .lst ((bl ++ [1]).map D.int)) h (v := bl ++ [1]) rfl bb (by rw [l7]; decide) nz7
  obtain ⟨tl, tlen⟩ := tolL_told h nz7
  rw [l7] at tlen
  obtain ⟨v7, hv7⟩ : ∃ v7, v7 = tolL p (bl ++ [1]) := ⟨_, rfl⟩
  rw [← hv7] at et tl tlen
  have eF : frmD F = .tup ((List.range 6).map fun (i : Nat) => D.int ((frmL F).getD i 0)) := rfl
  have cm : xComp false [14, 23] (xAll dEnumT (xCons (xVar 9) xNil)) (tgT 2 (tgCons (tgN 14) (tgCons (tgN 23) tgNil))) bYes (x2 dAdd (xVar 23) (xAll dInt1 (xCons (x2 dEq (xVar 14) (x2 dMod (xVar 5) (xC (.int 6)))) xNil))) [some (.v (.lst (ns.map .int))), iv a, w2, w3, iv p, iv c, some (.v (.lst (five.map triD))), some (.v T), some (.v (.lst ((l3 t).map D.int))), some (.v (frmD F)), w10, w11, w12, w13, w14, w15, w16, w17, w18, w19, w20, w21, w22, w23, w24] = .ok (bl.map D.int) := by
    rw [e_comp (items := (List.range 6).map fun (i : Nat) => D.tup [.int (i : Int), .int ((frmL F).getD i 0)]) (by
      rw [← enum_map fun (i : Nat) => D.int ((frmL F).getD i 0)]
      rfl) (by intro q; cases q) (by rw [List.length_map, List.length_range]; exact sz16 (by omega)),
      e_compY (fun (i : Nat) => D.tup [.int (i : Int), .int ((frmL F).getD i 0)]) (fun (i : Nat) => [some (.v (.lst (ns.map .int))), iv a, w2, w3, iv p, iv c, some (.v (.lst (five.map triD))), some (.v T), some (.v (.lst ((l3 t).map D.int))), some (.v (frmD F)), w10, w11, w12, w13, iv i, w15, w16, w17, w18, w19, w20, w21, w22, iv ((frmL F).getD i 0), w24]) (fun (i : Nat) => D.int ((frmL F).getD i 0 + (if (i : Int) == c % 6 then 1 else 0))) (List.range 6) (fun x _ => by simp [wipeE]) (fun x _ => by
        simp only [e_x2, e_xAll, e_xCons, e_xVar, List.getElem?_cons_succ, List.getElem?_cons_zero, e_bind_ok, e_xC, e_mod (show (0 : Int) < 6 by decide), e_eqI, e_xNil]
        rfl), hbl, List.map_map]
    rfl
  have t9 : mb9 z [some (.v (.lst (ns.map .int))), iv a, w2, w3, iv p, iv c, some (.v (.lst (five.map triD))), some (.v T), some (.v (.lst ((l3 t).map D.int))), some (.v (frmD F)), w10, w11, w12, w13, w14, w15, w16, w17, w18, w19, w20, w21, w22, w23, w24] = .nx [some (.v (.lst (ns.map .int))), iv a, w2, w3, iv p, iv c, some (.v (.lst (five.map triD))), some (.v T), some (.v (.lst ((l3 t).map D.int))), some (.v (frmD F)), some (.v (.lst (bl.map D.int))), w11, w12, w13, w14, w15, w16, w17, w18, w19, w20, w21, w22, w23, w24] := by
    simp only [mb9, e_sSet, e_xLst, cm, e_bind_ok, e_ofM_ok, List.set_cons_succ, List.set_cons_zero]
  have ad : dAdd (.lst (bl.map D.int)) (.lst [.int 1]) = .ok (.lst ((bl ++ [1]).map D.int)) := by
    rw [dAddL (by rw [List.length_map, lbl]; decide), List.map_append]
    rfl
  have t10 : mb10 z [some (.v (.lst (ns.map .int))), iv a, w2, w3, iv p, iv c, some (.v (.lst (five.map triD))), some (.v T), some (.v (.lst ((l3 t).map D.int))), some (.v (frmD F)), some (.v (.lst (bl.map D.int))), w11, w12, w13, w14, w15, w16, w17, w18, w19, w20, w21, w22, w23, w24] = .nx [some (.v (.lst (ns.map .int))), iv a, w2, w3, iv p, iv c, some (.v (.lst (five.map triD))), some (.v T), some (.v (.lst ((l3 t).map D.int))), some (.v (frmD F)), some (.v (.tup (v7.map D.int))), w11, w12, w13, w14, w15, w16, w17, w18, w19, w20, w21, w22, w23, w24] := by
    simp only [mb10, e_sSet, e_xAll, e_xCons, e_xVar, List.getElem?_cons_succ, List.getElem?_cons_zero, e_bind_ok, e_x2, e_xLst, e_xC, e_xNil, e_lLst1, ad, e_callF, List.length_cons, List.length_nil, Nat.reduceAdd, if_true, et, e_ofM_ok, List.set_cons_succ, List.set_cons_zero]
  have l6 : ∀ a b c d e f : D, lTup [a, b, c, d, e, f] = .ok (.tup [a, b, c, d, e, f]) := fun _ _ _ _ _ _ => rfl
  have fd : ∀ j : Int, 0 < j → j < 100 → dFdiv (.int c) (.int j) = .ok (.int (c / j)) := fun j j0 j1 => e_fdiv j0 (by omega)
  have t11 : mb11 z [some (.v (.lst (ns.map .int))), iv a, w2, w3, iv p, iv c, some (.v (.lst (five.map triD))), some (.v T), some (.v (.lst ((l3 t).map D.int))), some (.v (frmD F)), some (.v (.tup (v7.map D.int))), w11, w12, w13, w14, w15, w16, w17, w18, w19, w20, w21, w22, w23, w24] = .nx [some (.v (.lst (ns.map .int))), iv a, w2, w3, iv p, iv c, some (.v (.lst (five.map triD))), some (.v T), some (.v (.lst ((l3 t).map D.int))), some (.v (frmD F)), some (.v (.tup (v7.map D.int))), some (.v (.tup (([c, c / 7, c / 49, 1, c / 5, 0] : List Int).map D.int))), w12, w13, w14, w15, w16, w17, w18, w19, w20, w21, w22, w23, w24] := by
    simp only [mb11, e_sSet, e_xAll, e_xCons, e_xVar, List.getElem?_cons_succ, List.getElem?_cons_zero, e_bind_ok, e_x2, e_xC, fd 7 (by decide) (by decide), fd 49 (by decide) (by decide), fd 5 (by decide) (by decide), e_xNil, l6, e_ofM_ok, List.set_cons_succ, List.set_cons_zero]
    rfl
  have ct : cutD (v7.map D.int) none (some 6) = (v7.take 6).map D.int := by
    rw [show (6 : Int) = ((6 : Nat) : Int) from rfl, cut_lo (by rw [List.length_map, tlen]; decide), List.map_take]
  have an := e_anyIT (v7.take 6)
  obtain ⟨G, hG, t12⟩ : ∃ G, FT p G ∧ mb12 z [some (.v (.lst (ns.map .int))), iv a, w2, w3, iv p, iv c, some (.v (.lst (five.map triD))), some (.v T), some (.v (.lst ((l3 t).map D.int))), some (.v (frmD F)), some (.v (.tup (v7.map D.int))), some (.v (.tup (([c, c / 7, c / 49, 1, c / 5, 0] : List Int).map D.int))), w12, w13, w14, w15, w16, w17, w18, w19, w20, w21, w22, w23, w24] = .nx [some (.v (.lst (ns.map .int))), iv a, w2, w3, iv p, iv c, some (.v (.lst (five.map triD))), some (.v T), some (.v (.lst ((l3 t).map D.int))), some (.v (frmD F)), some (.v (.tup (v7.map D.int))), some (.v (.tup (([c, c / 7, c / 49, 1, c / 5, 0] : List Int).map D.int))), some (.v (.lst [frmD F, frmD G])), w13, w14, w15, w16, w17, w18, w19, w20, w21, w22, w23, w24] := by
    by_cases q : ((v7.take 6).any fun n => n != 0) = true
    · obtain ⟨G, hG, e⟩ := cut7 tl tlen q
      refine ⟨G, hG, ?_⟩
      rw [q, e] at an
      simp only [mb12, e_sSet, e_xLst, e_xAll, e_xCons, e_xVar, List.getElem?_cons_succ, List.getElem?_cons_zero, e_bind_ok, e_xIf, e_xTru, e_xSlice, e_pNone, e_pSome, e_xC, e_slT, ct, e_xNil, an, e_truB, if_true, e, e_lLst2, e_ofM_ok, List.set_cons_succ, List.set_cons_zero]
    · refine ⟨F, hF, ?_⟩
      rw [Bool.eq_false_iff.mpr q] at an
      simp only [mb12, e_sSet, e_xLst, e_xAll, e_xCons, e_xVar, List.getElem?_cons_succ, List.getElem?_cons_zero, e_bind_ok, e_xIf, e_xTru, e_xSlice, e_pNone, e_pSome, e_xC, e_slT, ct, e_xNil, an, e_truB, Bool.false_eq_true, if_false, e_lLst2, e_ofM_ok, List.set_cons_succ, List.set_cons_zero]
  have mem1 : (1 : Int) ∈ frmL F := by
    obtain ⟨_, r, e⟩ := hF
    have : (1 : Int) ∈ (frmL F).filter fun x => decide (0 < x) := by rw [e]; exact List.mem_cons_self
    exact (List.mem_filter.mp this).1
  obtain ⟨H, hH, eH⟩ := told_FB h (d := .tup ((frmL F).reverse.map D.int)) (v := (frmL F).reverse) rfl (fun x hx => by
    have := hF.1 x (List.mem_reverse.mp hx)
    have := h.2.1
    exact (B.of (n := 10) (by omega) (by omega)).mono (by omega)) (by simp [frmL]) (nzs_of (x := 1) (by omega) (List.mem_reverse.mpr mem1) one)
  have bd : ∀ j : Int, 0 < j → B (c / j) 2000000 := fun j hj => (bc.div hj).mono (by omega)
  obtain ⟨I, hI, eI⟩ := told_FB h (d := .tup (([c, c / 7, c / 49, 1, c / 5, 0] : List Int).map D.int)) (v := [c, c / 7, c / 49, 1, c / 5, 0]) rfl (fun x hx => by
    simp only [List.mem_cons, List.not_mem_nil, or_false] at hx
    rcases hx with rfl | rfl | rfl | rfl | rfl | rfl
    · exact bc.mono (by omega)
    · exact bd 7 (by decide)
    · exact bd 49 (by decide)
    · exact (B.of (n := 10) (by decide) (by decide)).mono (by omega)
    · exact bd 5 (by decide)
    · exact (B.of (n := 10) (by decide) (by decide)).mono (by omega)) rfl (nzs_of (x := 1) (by omega) (by simp) one)
  have er : dRevT (frmD F) = .ok (.tup ((frmL F).reverse.map D.int)) := by
    rw [List.map_reverse]
    rfl
  have ad2 : dAdd (.lst [frmD F, frmD G]) (.lst [frmD H, frmD I]) = .ok (.lst ([F, G, H, I].map frmD)) := dAddL (by simp)
  have t13 : mb13 z [some (.v (.lst (ns.map .int))), iv a, w2, w3, iv p, iv c, some (.v (.lst (five.map triD))), some (.v T), some (.v (.lst ((l3 t).map D.int))), some (.v (frmD F)), some (.v (.tup (v7.map D.int))), some (.v (.tup (([c, c / 7, c / 49, 1, c / 5, 0] : List Int).map D.int))), some (.v (.lst [frmD F, frmD G])), w13, w14, w15, w16, w17, w18, w19, w20, w21, w22, w23, w24] = .nx [some (.v (.lst (ns.map .int))), iv a, w2, w3, iv p, iv c, some (.v (.lst (five.map triD))), some (.v T), some (.v (.lst ((l3 t).map D.int))), some (.v (frmD F)), some (.v (.tup (v7.map D.int))), some (.v (.tup (([c, c / 7, c / 49, 1, c / 5, 0] : List Int).map D.int))), some (.v (.lst ([F, G, H, I].map frmD))), w13, w14, w15, w16, w17, w18, w19, w20, w21, w22, w23, w24] := by
    simp only [mb13, e_sSet, e_x2, e_xVar, List.getElem?_cons_succ, List.getElem?_cons_zero, e_bind_ok, e_xLst, e_xAll, e_xCons, e_x1, er, e_xNil, e_callF, List.length_cons, List.length_nil, Nat.reduceAdd, if_true, eH, eI, e_lLst2, ad2, e_ofM_ok, List.set_cons_succ, List.set_cons_zero]
  refine ⟨some (.v (.tup (v7.map D.int))), some (.v (.tup (([c, c / 7, c / 49, 1, c / 5, 0] : List Int).map D.int))), [F, G, H, I], rfl, fun X hX => ?_, fun s => ?_⟩
  · simp only [List.mem_cons, List.not_mem_nil, or_false] at hX
    rcases hX with rfl | rfl | rfl | rfl
    · exact hF
    · exact hG
    · exact hH
    · exact hI
  · rw [e_sSeq, t9, e_then_nx, e_sSeq, t10, e_then_nx, e_sSeq, t11, e_then_nx, e_sSeq, t12, e_then_nx, e_sSeq, t13, e_then_nx]
end
end OM
set_option maxRecDepth 100000
set_option maxHeartbeats 4000000
/-! Law5d: the law's threes, its first loop. -/
namespace OM
open PySem L2 DI
section
variable (z : Adr) (kk : KitOk z) {p : Int} (h : Pr p) {five : List Tri} (k : Five p five) {ns : List Int} {a c : Int}
include kk h k
theorem thr5 {F : Frm} (T : D) {t : Tri} (fs : List Frm) (x10 x11 : Option Sl) (w2 w3 w4 w5 w6 w7 w8 w9 w10 w11 w12 w13 w14 w15 w16 w17 w18 w19 w20 w21 w22 w23 w24 : Option Sl) : ∃ vs : List (List Int), vs.length = 8 ∧ (∀ v ∈ vs, v.length ≤ 1100) ∧ ∀ s : Ev → S, (sSeq (mb14 z) (sSeq (mb15 z) s)) [some (.v (.lst (ns.map .int))), iv a, w2, w3, iv p, iv c, some (.v (.lst (five.map triD))), some (.v T), some (.v (.lst ((l3 t).map D.int))), some (.v (frmD F)), x10, x11, some (.v (.lst (fs.map frmD))), w13, w14, w15, w16, w17, w18, w19, w20, w21, w22, w23, w24] = s [some (.v (.lst (ns.map .int))), iv a, w2, w3, iv p, iv c, some (.v (.lst (five.map triD))), some (.v T), some (.v (.lst ((l3 t).map D.int))), some (.v (frmD F)), x10, x11, some (.v (.lst (fs.map frmD))), some (.v (.lst (vs.map fun v => D.lst (v.map D.int)))), w14, w15, w16, w17, w18, w19, w20, w21, w22, w23, w24] := by
  obtain ⟨y1, hy, e1⟩ := pick_any D.int (l3 t) (by simp [l3])
  have c2 : cutD ((l3 t).map D.int) none (some 2) = ((l3 t).take 2).map D.int := by
    rw [show (2 : Int) = ((2 : Nat) : Int) from rfl, cut_lo (by simp [l3]), List.map_take]
  have c1 : cutD ((l3 t).map D.int) (some 1) none = ((l3 t).drop 1).map D.int := by
    rw [show (1 : Int) = ((1 : Nat) : Int) from rfl, cut_hi (by simp [l3]), List.map_drop]
  have a1 : dAdd (.lst ((l3 t).map D.int)) (.lst [.int 4]) = .ok (.lst ((l3 t ++ [4]).map D.int)) := by
    rw [dAddL (by simp [l3]), List.map_append]
    rfl
  have a2 : dAdd (.lst [.int (-1)]) (.lst (((l3 t).drop 1).map D.int)) = .ok (.lst ((-1 :: (l3 t).drop 1).map D.int)) := dAddL (by simp [l3])
  have a3 : dAdd (.lst (((l3 t).take 2).map D.int)) (.lst [.int 5]) = .ok (.lst (((l3 t).take 2 ++ [5]).map D.int)) := by
    rw [dAddL (by simp [l3]), List.map_append]
    rfl
  have l4 : ∀ a b c d : D, lLst [a, b, c, d] = .ok [a, b, c, d] := fun _ _ _ _ => rfl
  have t14 : mb14 z [some (.v (.lst (ns.map .int))), iv a, w2, w3, iv p, iv c, some (.v (.lst (five.map triD))), some (.v T), some (.v (.lst ((l3 t).map D.int))), some (.v (frmD F)), x10, x11, some (.v (.lst (fs.map frmD))), w13, w14, w15, w16, w17, w18, w19, w20, w21, w22, w23, w24] = .nx [some (.v (.lst (ns.map .int))), iv a, w2, w3, iv p, iv c, some (.v (.lst (five.map triD))), some (.v T), some (.v (.lst ((l3 t).map D.int))), some (.v (frmD F)), x10, x11, some (.v (.lst (fs.map frmD))), some (.v (.lst [.lst ((l3 t).map D.int), .lst (y1.map D.int), .lst (((l3 t).take 2).map D.int), .lst ((l3 t ++ [4]).map D.int)])), w14, w15, w16, w17, w18, w19, w20, w21, w22, w23, w24] := by
    simp only [mb14, e_sSet, e_xLst, e_xAll, e_xCons, e_xVar, List.getElem?_cons_succ, List.getElem?_cons_zero, e_bind_ok, e_x1, e1, e_xSlice, e_pNone, e_pSome, e_xC, e_slL, c2, e_x2, e_xNil, e_lLst1, a1, l4, e_ofM_ok, List.set_cons_succ, List.set_cons_zero]
  have a4 : dAdd (.lst [.lst ((l3 t).map D.int), .lst (y1.map D.int), .lst (((l3 t).take 2).map D.int), .lst ((l3 t ++ [4]).map D.int)]) (.lst [.lst ((-1 :: (l3 t).drop 1).map D.int), .lst (((l3 t).take 2 ++ [5]).map D.int), .lst [.int 0, .int 0, .int 1], .lst []]) = .ok (.lst (([l3 t, y1, (l3 t).take 2, l3 t ++ [4], -1 :: (l3 t).drop 1, (l3 t).take 2 ++ [5], [0, 0, 1], []] : List (List Int)).map fun v => D.lst (v.map D.int))) := dAddL (by simp)
  have t15 : mb15 z [some (.v (.lst (ns.map .int))), iv a, w2, w3, iv p, iv c, some (.v (.lst (five.map triD))), some (.v T), some (.v (.lst ((l3 t).map D.int))), some (.v (frmD F)), x10, x11, some (.v (.lst (fs.map frmD))), some (.v (.lst [.lst ((l3 t).map D.int), .lst (y1.map D.int), .lst (((l3 t).take 2).map D.int), .lst ((l3 t ++ [4]).map D.int)])), w14, w15, w16, w17, w18, w19, w20, w21, w22, w23, w24] = .nx [some (.v (.lst (ns.map .int))), iv a, w2, w3, iv p, iv c, some (.v (.lst (five.map triD))), some (.v T), some (.v (.lst ((l3 t).map D.int))), some (.v (frmD F)), x10, x11, some (.v (.lst (fs.map frmD))), some (.v (.lst (([l3 t, y1, (l3 t).take 2, l3 t ++ [4], -1 :: (l3 t).drop 1, (l3 t).take 2 ++ [5], [0, 0, 1], []] : List (List Int)).map fun v => D.lst (v.map D.int)))), w14, w15, w16, w17, w18, w19, w20, w21, w22, w23, w24] := by
    simp only [mb15, e_sSet, e_xLst, e_xAll, e_xCons, e_xVar, List.getElem?_cons_succ, List.getElem?_cons_zero, e_bind_ok, e_x1, e_neg, e_xSlice, e_pNone, e_pSome, e_xC, e_slL, c1, c2, e_x2, e_xNil, e_lLst0, e_lLst1, e_lLst3, a2, a3, l4, a4, e_ofM_ok, List.set_cons_succ, List.set_cons_zero]
  refine ⟨[l3 t, y1, (l3 t).take 2, l3 t ++ [4], -1 :: (l3 t).drop 1, (l3 t).take 2 ++ [5], [0, 0, 1], []], rfl, fun v hv => ?_, fun s => ?_⟩
  · simp only [List.mem_cons, List.not_mem_nil, or_false] at hv
    rcases hv with rfl | rfl | rfl | rfl | rfl | rfl | rfl | rfl <;> first | omega | simp [l3]
  · rw [e_sSeq, t14, e_then_nx, e_sSeq, t15, e_then_nx]
theorem loop16 {F : Frm} (T : D) {t : Tri} {fs : List Frm} (hfs : fs.length = 4) (hF : ∀ G ∈ fs, FT p G) {vs : List (List Int)} (hvs : vs.length = 8) (hv : ∀ v ∈ vs, v.length ≤ 1100) (x10 x11 : Option Sl) (w2 w3 w4 w5 w6 w7 w8 w9 w10 w11 w12 w13 w14 w15 w16 w17 w18 w19 w20 w21 w22 w23 w24 : Option Sl) : ∃ x14, mb16 z [some (.v (.lst (ns.map .int))), iv a, w2, w3, iv p, iv c, some (.v (.lst (five.map triD))), some (.v T), some (.v (.lst ((l3 t).map D.int))), some (.v (frmD F)), x10, x11, some (.v (.lst (fs.map frmD))), some (.v (.lst (vs.map fun v => D.lst (v.map D.int)))), w14, w15, w16, w17, w18, w19, w20, w21, w22, w23, w24] = .nx [some (.v (.lst (ns.map .int))), iv a, w2, w3, iv p, iv c, some (.v (.lst (five.map triD))), some (.v T), some (.v (.lst ((l3 t).map D.int))), some (.v (frmD F)), x10, x11, some (.v (.lst (fs.map frmD))), some (.v (.lst (vs.map fun v => D.lst (v.map D.int)))), x14, w15, w16, w17, w18, w19, w20, w21, w22, w23, w24] := by
  have rg8 : dRg1 [.int 8] = .ok ((List.range 8).map fun (j : Nat) => D.int (j : Int)) := rfl
  obtain ⟨ρ', e, x14, rfl⟩ := forS_go (tf := tgN 14) (b := mi16 z) (fun (j : Nat) => D.int (j : Int)) (fun _ ρ => ∃ x14, ρ = [some (.v (.lst (ns.map .int))), iv a, w2, w3, iv p, iv c, some (.v (.lst (five.map triD))), some (.v T), some (.v (.lst ((l3 t).map D.int))), some (.v (frmD F)), x10, x11, some (.v (.lst (fs.map frmD))), some (.v (.lst (vs.map fun v => D.lst (v.map D.int)))), x14, w15, w16, w17, w18, w19, w20, w21, w22, w23, w24]) (List.range 8) 0 (fun n x hx ρ hρ => by
    obtain ⟨x14, rfl⟩ := hρ
    obtain ⟨hn, rfl⟩ := range_at hx
    have g1 : fs[x % 4]? = some (fs[x % 4]'(by omega)) := List.getElem?_eq_getElem _
    have g2 : vs[x]? = some (vs[x]'(by omega)) := List.getElem?_eq_getElem _
    have i1 := ixM frmD g1
    have i2 := ixM (fun v : List Int => D.lst (v.map D.int)) g2
    rw [Int.natCast_emod, show ((4 : Nat) : Int) = 4 from rfl] at i1
    have r := five_right_ok z h k (hF _ (List.getElem_mem (by omega : x % 4 < fs.length))) (vs[x]'(by omega)) (hv _ (List.getElem_mem _))
    refine ⟨_, e_tgN 14 _, _, ?_, iv x, rfl⟩
    simp only [mi16, e_sIf, e_bNot, e_xTru, e_xAll, e_xCons, e_xVar, e_x2, e_xC, e_xNil, List.set_cons_succ, List.set_cons_zero, List.getElem?_cons_succ, List.getElem?_cons_zero, e_bind_ok, e_mod (show (0 : Int) < 4 by decide), i1, i2, e_callF, List.length_cons, List.length_nil, Nat.reduceAdd, if_true, r, e_truB, e_ofM_ok, Bool.not_true, Bool.false_eq_true, if_false, e_sNil]) [some (.v (.lst (ns.map .int))), iv a, w2, w3, iv p, iv c, some (.v (.lst (five.map triD))), some (.v T), some (.v (.lst ((l3 t).map D.int))), some (.v (frmD F)), x10, x11, some (.v (.lst (fs.map frmD))), some (.v (.lst (vs.map fun v => D.lst (v.map D.int)))), w14, w15, w16, w17, w18, w19, w20, w21, w22, w23, w24] ⟨w14, rfl⟩
  refine ⟨x14, ?_⟩
  rw [← e]
  show S.ofM (xAll dRg1 (xCons (xC (.int 8)) xNil) _) _ = _
  rw [xAll_of (xs := [.int 8]) rfl rg8]
  rfl
end
end OM
set_option maxRecDepth 100000
set_option maxHeartbeats 4000000
/-! Law5e: the law's points, its second loop. -/
namespace OM
open PySem L2 DI
section
variable (z : Adr) (kk : KitOk z) {p : Int} (h : Pr p) {five : List Tri} (k : Five p five) {ns : List Int} {a c : Int}
include kk h k
theorem pts5 {F : Frm} (hF : FT p F) (T : D) {t : Tri} (fs : List Frm) {l o : Tri} (hl : Told p l) (ho : Told p o) (et : f_l_triples [.lst (ns.map .int), .int (a + 1), .int p, .int 2] = .ok (.lst [triD l, triD o])) (x10 x11 x13 x14 : Option Sl) (w2 w3 w4 w5 w6 w7 w8 w9 w10 w11 w12 w13 w14 w15 w16 w17 w18 w19 w20 w21 w22 w23 w24 : Option Sl) : ∃ (qs : List (List Tri)) (rs : List Int), qs.length = 6 ∧ (∀ v ∈ qs, v.length ≤ 100000) ∧ rs.length = 6 ∧ ∀ s : Ev → S, (sSeq (mb17 z) (sSeq (mb18 z) (sSeq (mb19 z) (sSeq (mb20 z) (sSeq (mb21 z) (sSeq (mb22 z) s)))))) [some (.v (.lst (ns.map .int))), iv a, w2, w3, iv p, iv c, some (.v (.lst (five.map triD))), some (.v T), some (.v (.lst ((l3 t).map D.int))), some (.v (frmD F)), x10, x11, some (.v (.lst (fs.map frmD))), x13, x14, w15, w16, w17, w18, w19, w20, w21, w22, w23, w24] = s [some (.v (.lst (ns.map .int))), iv a, w2, w3, iv p, iv c, some (.v (.lst (five.map triD))), some (.v T), some (.v (.lst ((l3 t).map D.int))), some (.v (frmD F)), x10, x11, some (.v (.lst (fs.map frmD))), x13, x14, some (.v (.lst ((shp p F l).map triD))), iv (rst p F l), some (.v (.lst (qs.map fun v => D.lst (v.map triD)))), some (.v (.tup (rs.map D.int))), w19, some (.v (triD l)), some (.v (triD o)), w22, w23, w24] := by
  have h4 := h.2.1
  have hz := shL p F l h4
  have hz : (shp p F l).length ≤ 999 := by
    refine Nat.le_trans (List.length_filter_le _ _) ?_
    unfold alL
    rw [List.length_map, List.length_range]
    omega
  obtain ⟨y1, hy, e1⟩ := pick_any triD (shp p F l) (by omega)
  have es := l_shared5_ok h hF hl
  have er := l_rest_ok h hF hl
  have t17 : mb17 z [some (.v (.lst (ns.map .int))), iv a, w2, w3, iv p, iv c, some (.v (.lst (five.map triD))), some (.v T), some (.v (.lst ((l3 t).map D.int))), some (.v (frmD F)), x10, x11, some (.v (.lst (fs.map frmD))), x13, x14, w15, w16, w17, w18, w19, w20, w21, w22, w23, w24] = .nx [some (.v (.lst (ns.map .int))), iv a, w2, w3, iv p, iv c, some (.v (.lst (five.map triD))), some (.v T), some (.v (.lst ((l3 t).map D.int))), some (.v (frmD F)), x10, x11, some (.v (.lst (fs.map frmD))), x13, x14, w15, w16, w17, w18, w19, some (.v (triD l)), some (.v (triD o)), w22, w23, w24] := by
    simp only [mb17, e_sAsg, e_xAll, e_xCons, e_xVar, List.getElem?_cons_succ, List.getElem?_cons_zero, e_bind_ok, e_x2, e_xC, e_add, e_xNil, e_callF, List.length_cons, List.length_nil, Nat.reduceAdd, if_true, et, e_ofM_ok, e_tgT_l, e_tgCons, e_tgN, e_tgNil, List.set_cons_succ, List.set_cons_zero]
  have t18 : mb18 z [some (.v (.lst (ns.map .int))), iv a, w2, w3, iv p, iv c, some (.v (.lst (five.map triD))), some (.v T), some (.v (.lst ((l3 t).map D.int))), some (.v (frmD F)), x10, x11, some (.v (.lst (fs.map frmD))), x13, x14, w15, w16, w17, w18, w19, some (.v (triD l)), some (.v (triD o)), w22, w23, w24] = .nx [some (.v (.lst (ns.map .int))), iv a, w2, w3, iv p, iv c, some (.v (.lst (five.map triD))), some (.v T), some (.v (.lst ((l3 t).map D.int))), some (.v (frmD F)), x10, x11, some (.v (.lst (fs.map frmD))), x13, x14, some (.v (.lst ((shp p F l).map triD))), w16, w17, w18, w19, some (.v (triD l)), some (.v (triD o)), w22, w23, w24] := by
    simp only [mb18, e_sSet, e_xAll, e_xCons, e_xVar, List.getElem?_cons_succ, List.getElem?_cons_zero, e_bind_ok, e_xNil, e_callF, List.length_cons, List.length_nil, Nat.reduceAdd, if_true, es, e_ofM_ok, List.set_cons_succ, List.set_cons_zero]
  have t19 : mb19 z [some (.v (.lst (ns.map .int))), iv a, w2, w3, iv p, iv c, some (.v (.lst (five.map triD))), some (.v T), some (.v (.lst ((l3 t).map D.int))), some (.v (frmD F)), x10, x11, some (.v (.lst (fs.map frmD))), x13, x14, some (.v (.lst ((shp p F l).map triD))), w16, w17, w18, w19, some (.v (triD l)), some (.v (triD o)), w22, w23, w24] = .nx [some (.v (.lst (ns.map .int))), iv a, w2, w3, iv p, iv c, some (.v (.lst (five.map triD))), some (.v T), some (.v (.lst ((l3 t).map D.int))), some (.v (frmD F)), x10, x11, some (.v (.lst (fs.map frmD))), x13, x14, some (.v (.lst ((shp p F l).map triD))), iv (rst p F l), w17, w18, w19, some (.v (triD l)), some (.v (triD o)), w22, w23, w24] := by
    simp only [mb19, e_sSet, e_xAll, e_xCons, e_xVar, List.getElem?_cons_succ, List.getElem?_cons_zero, e_bind_ok, e_xNil, e_callF, List.length_cons, List.length_nil, Nat.reduceAdd, if_true, er, e_ofM_ok, List.set_cons_succ, List.set_cons_zero]
  have c1 : cutD ((shp p F l).map triD) (some 1) none = ((shp p F l).drop 1).map triD := by
    by_cases q : 1 ≤ (shp p F l).length
    · rw [show (1 : Int) = ((1 : Nat) : Int) from rfl, cut_hi (by rw [List.length_map]; exact q), List.map_drop]
    · have : shp p F l = [] := List.length_eq_zero_iff.mp (by omega)
      rw [this]
      rfl
  have c2 : cutD ((shp p F l).map triD) none (some 1) = ((shp p F l).take 1).map triD := by
    by_cases q : 1 ≤ (shp p F l).length
    · rw [show (1 : Int) = ((1 : Nat) : Int) from rfl, cut_lo (by rw [List.length_map]; exact q), List.map_take]
    · have : shp p F l = [] := List.length_eq_zero_iff.mp (by omega)
      rw [this]
      rfl
  have t20 : mb20 z [some (.v (.lst (ns.map .int))), iv a, w2, w3, iv p, iv c, some (.v (.lst (five.map triD))), some (.v T), some (.v (.lst ((l3 t).map D.int))), some (.v (frmD F)), x10, x11, some (.v (.lst (fs.map frmD))), x13, x14, some (.v (.lst ((shp p F l).map triD))), iv (rst p F l), w17, w18, w19, some (.v (triD l)), some (.v (triD o)), w22, w23, w24] = .nx [some (.v (.lst (ns.map .int))), iv a, w2, w3, iv p, iv c, some (.v (.lst (five.map triD))), some (.v T), some (.v (.lst ((l3 t).map D.int))), some (.v (frmD F)), x10, x11, some (.v (.lst (fs.map frmD))), x13, x14, some (.v (.lst ((shp p F l).map triD))), iv (rst p F l), some (.v (.lst [.lst ((shp p F l).map triD), .lst (y1.map triD), .lst (((shp p F l).drop 1).map triD)])), w18, w19, some (.v (triD l)), some (.v (triD o)), w22, w23, w24] := by
    simp only [mb20, e_sSet, e_xLst, e_xAll, e_xCons, e_xVar, List.getElem?_cons_succ, List.getElem?_cons_zero, e_bind_ok, e_x1, e1, e_xSlice, e_pNone, e_pSome, e_xC, e_slL, c1, e_xNil, e_lLst3, e_ofM_ok, List.set_cons_succ, List.set_cons_zero]
  have a1 : dAdd (.lst ((shp p F l).map triD)) (.lst (((shp p F l).take 1).map triD)) = .ok (.lst ((shp p F l ++ (shp p F l).take 1).map triD)) := by
    rw [dAddL (by rw [List.length_map, List.length_map, List.length_take]; omega), List.map_append]
  have a2 : dAdd (.lst ((shp p F l).map triD)) (.lst [triD o]) = .ok (.lst ((shp p F l ++ [o]).map triD)) := by
    rw [dAddL (by rw [List.length_map, List.length_singleton]; omega), List.map_append]
    rfl
  have a3 : dAdd (.lst [.lst ((shp p F l).map triD), .lst (y1.map triD), .lst (((shp p F l).drop 1).map triD)]) (.lst [.lst ((shp p F l ++ (shp p F l).take 1).map triD), .lst ((shp p F l ++ [o]).map triD), .lst []]) = .ok (.lst (([shp p F l, y1, (shp p F l).drop 1, shp p F l ++ (shp p F l).take 1, shp p F l ++ [o], []] : List (List Tri)).map fun v => D.lst (v.map triD))) := dAddL (by simp)
  have t21 : mb21 z [some (.v (.lst (ns.map .int))), iv a, w2, w3, iv p, iv c, some (.v (.lst (five.map triD))), some (.v T), some (.v (.lst ((l3 t).map D.int))), some (.v (frmD F)), x10, x11, some (.v (.lst (fs.map frmD))), x13, x14, some (.v (.lst ((shp p F l).map triD))), iv (rst p F l), some (.v (.lst [.lst ((shp p F l).map triD), .lst (y1.map triD), .lst (((shp p F l).drop 1).map triD)])), w18, w19, some (.v (triD l)), some (.v (triD o)), w22, w23, w24] = .nx [some (.v (.lst (ns.map .int))), iv a, w2, w3, iv p, iv c, some (.v (.lst (five.map triD))), some (.v T), some (.v (.lst ((l3 t).map D.int))), some (.v (frmD F)), x10, x11, some (.v (.lst (fs.map frmD))), x13, x14, some (.v (.lst ((shp p F l).map triD))), iv (rst p F l), some (.v (.lst (([shp p F l, y1, (shp p F l).drop 1, shp p F l ++ (shp p F l).take 1, shp p F l ++ [o], []] : List (List Tri)).map fun v => D.lst (v.map triD)))), w18, w19, some (.v (triD l)), some (.v (triD o)), w22, w23, w24] := by
    simp only [mb21, e_sSet, e_xLst, e_xAll, e_xCons, e_xVar, List.getElem?_cons_succ, List.getElem?_cons_zero, e_bind_ok, e_x2, e_xSlice, e_pNone, e_pSome, e_xC, e_slL, c2, a1, a2, a3, e_xNil, e_lLst0, e_lLst1, e_lLst3, e_ofM_ok, List.set_cons_succ, List.set_cons_zero]
  have l6 : ∀ a b c d e f : D, lTup [a, b, c, d, e, f] = .ok (.tup [a, b, c, d, e, f]) := fun _ _ _ _ _ _ => rfl
  have t22 : mb22 z [some (.v (.lst (ns.map .int))), iv a, w2, w3, iv p, iv c, some (.v (.lst (five.map triD))), some (.v T), some (.v (.lst ((l3 t).map D.int))), some (.v (frmD F)), x10, x11, some (.v (.lst (fs.map frmD))), x13, x14, some (.v (.lst ((shp p F l).map triD))), iv (rst p F l), some (.v (.lst (([shp p F l, y1, (shp p F l).drop 1, shp p F l ++ (shp p F l).take 1, shp p F l ++ [o], []] : List (List Tri)).map fun v => D.lst (v.map triD)))), w18, w19, some (.v (triD l)), some (.v (triD o)), w22, w23, w24] = .nx [some (.v (.lst (ns.map .int))), iv a, w2, w3, iv p, iv c, some (.v (.lst (five.map triD))), some (.v T), some (.v (.lst ((l3 t).map D.int))), some (.v (frmD F)), x10, x11, some (.v (.lst (fs.map frmD))), x13, x14, some (.v (.lst ((shp p F l).map triD))), iv (rst p F l), some (.v (.lst (([shp p F l, y1, (shp p F l).drop 1, shp p F l ++ (shp p F l).take 1, shp p F l ++ [o], []] : List (List Tri)).map fun v => D.lst (v.map triD)))), some (.v (.tup (([rst p F l, rst p F l + 1, rst p F l + p, -rst p F l, 0, c] : List Int).map D.int))), w19, some (.v (triD l)), some (.v (triD o)), w22, w23, w24] := by
    simp only [mb22, e_sSet, e_xAll, e_xCons, e_xVar, List.getElem?_cons_succ, List.getElem?_cons_zero, e_bind_ok, e_x1, e_x2, e_neg, e_add, e_xC, e_xNil, l6, e_ofM_ok, List.set_cons_succ, List.set_cons_zero]
    rfl
  refine ⟨[shp p F l, y1, (shp p F l).drop 1, shp p F l ++ (shp p F l).take 1, shp p F l ++ [o], []], ([rst p F l, rst p F l + 1, rst p F l + p, -rst p F l, 0, c] : List Int), rfl, fun v hv => ?_, rfl, fun s => ?_⟩
  · simp only [List.mem_cons, List.not_mem_nil, or_false] at hv
    rcases hv with rfl | rfl | rfl | rfl | rfl | rfl
    · omega
    · omega
    · rw [List.length_drop]; omega
    · rw [List.length_append, List.length_take]; omega
    · rw [List.length_append, List.length_singleton]; omega
    · simp
  · rw [e_sSeq, t17, e_then_nx, e_sSeq, t18, e_then_nx, e_sSeq, t19, e_then_nx, e_sSeq, t20, e_then_nx, e_sSeq, t21, e_then_nx, e_sSeq, t22, e_then_nx]
theorem loop23 {F : Frm} (hF : FT p F) (T : D) {t : Tri} (fs : List Frm) {l o : Tri} (hl : Told p l) {qs : List (List Tri)} {rs : List Int} (hq : qs.length = 6) (hv : ∀ v ∈ qs, v.length ≤ 100000) (hr : rs.length = 6) (x10 x11 x13 x14 : Option Sl) (w2 w3 w4 w5 w6 w7 w8 w9 w10 w11 w12 w13 w14 w15 w16 w17 w18 w19 w20 w21 w22 w23 w24 : Option Sl) : ∃ y14 y22, mb23 z [some (.v (.lst (ns.map .int))), iv a, w2, w3, iv p, iv c, some (.v (.lst (five.map triD))), some (.v T), some (.v (.lst ((l3 t).map D.int))), some (.v (frmD F)), x10, x11, some (.v (.lst (fs.map frmD))), x13, x14, some (.v (.lst ((shp p F l).map triD))), iv (rst p F l), some (.v (.lst (qs.map fun v => D.lst (v.map triD)))), some (.v (.tup (rs.map D.int))), w19, some (.v (triD l)), some (.v (triD o)), w22, w23, w24] = .nx [some (.v (.lst (ns.map .int))), iv a, w2, w3, iv p, iv c, some (.v (.lst (five.map triD))), some (.v T), some (.v (.lst ((l3 t).map D.int))), some (.v (frmD F)), x10, x11, some (.v (.lst (fs.map frmD))), x13, y14, some (.v (.lst ((shp p F l).map triD))), iv (rst p F l), some (.v (.lst (qs.map fun v => D.lst (v.map triD)))), some (.v (.tup (rs.map D.int))), w19, some (.v (triD l)), some (.v (triD o)), y22, w23, w24] := by
  have er : rs.map D.int = (List.range 6).map fun (i : Nat) => D.int (rs.getD i 0) := by
    apply List.ext_getElem?
    intro i
    by_cases hi : i < 6
    · simp [hi, hr]
    · rw [List.getElem?_eq_none (by simp; omega), List.getElem?_eq_none (by simp; omega)]
  have en : enumD (rs.map D.int) = (List.range 6).map fun (i : Nat) => D.tup [.int (i : Int), .int (rs.getD i 0)] := by
    rw [er, enum_map]
  obtain ⟨ρ', e, y14, y22, rfl⟩ := forS_go (tf := tgT 2 (tgCons (tgN 14) (tgCons (tgN 22) tgNil))) (b := mi23 z) (fun (i : Nat) => D.tup [.int (i : Int), .int (rs.getD i 0)]) (fun _ ρ => ∃ x14 x22, ρ = [some (.v (.lst (ns.map .int))), iv a, w2, w3, iv p, iv c, some (.v (.lst (five.map triD))), some (.v T), some (.v (.lst ((l3 t).map D.int))), some (.v (frmD F)), x10, x11, some (.v (.lst (fs.map frmD))), x13, x14, some (.v (.lst ((shp p F l).map triD))), iv (rst p F l), some (.v (.lst (qs.map fun v => D.lst (v.map triD)))), some (.v (.tup (rs.map D.int))), w19, some (.v (triD l)), some (.v (triD o)), x22, w23, w24]) (List.range 6) 0 (fun n x hx ρ hρ => by
    obtain ⟨x14, x22, rfl⟩ := hρ
    obtain ⟨hn, rfl⟩ := range_at hx
    have g2 : qs[x]? = some (qs[x]'(by omega)) := List.getElem?_eq_getElem _
    have i2 := ixM (fun v : List Tri => D.lst (v.map triD)) g2
    have r := line_right5_ok z h hF hl (qs[x]'(by omega)) (hv _ (List.getElem_mem _)) (rs.getD x 0)
    have di := dInTI [c % 6, 0] (x : Int)
    simp only [List.map_cons, List.map_nil] at di
    refine ⟨[some (.v (.lst (ns.map .int))), iv a, w2, w3, iv p, iv c, some (.v (.lst (five.map triD))), some (.v T), some (.v (.lst ((l3 t).map D.int))), some (.v (frmD F)), x10, x11, some (.v (.lst (fs.map frmD))), x13, iv x, some (.v (.lst ((shp p F l).map triD))), iv (rst p F l), some (.v (.lst (qs.map fun v => D.lst (v.map triD)))), some (.v (.tup (rs.map D.int))), w19, some (.v (triD l)), some (.v (triD o)), iv (rs.getD x 0), w23, w24], by simp, _, ?_, iv x, iv (rs.getD x 0), rfl⟩
    have co : ∃ b : Bool, bOr (bBl (x2 dLt (xVar 4) (xC (.int 200)))) (bBl (x2 dIn (xVar 14) (xAll lTup (xCons (x2 dMod (xVar 5) (xC (.int 6))) (xCons (xC (.int 0)) xNil))))) [some (.v (.lst (ns.map .int))), iv a, w2, w3, iv p, iv c, some (.v (.lst (five.map triD))), some (.v T), some (.v (.lst ((l3 t).map D.int))), some (.v (frmD F)), x10, x11, some (.v (.lst (fs.map frmD))), x13, iv x, some (.v (.lst ((shp p F l).map triD))), iv (rst p F l), some (.v (.lst (qs.map fun v => D.lst (v.map triD)))), some (.v (.tup (rs.map D.int))), w19, some (.v (triD l)), some (.v (triD o)), iv (rs.getD x 0), w23, w24] = .ok b := by
      by_cases q : p < 200
      · exact ⟨true, by simp [q]⟩
      · exact ⟨decide ((x : Int) ∈ [c % 6, 0]), by simp only [e_bOr, e_bBl, e_x2, e_xVar, List.getElem?_cons_succ, List.getElem?_cons_zero, e_bind_ok, e_xC, e_cmp, q, decide_false, Bool.false_eq_true, if_false, e_xAll, e_xCons, e_mod (show (0 : Int) < 6 by decide), e_xNil, e_lTup2, di]⟩
    obtain ⟨b, co⟩ := co
    have e0 : ∀ ρ, mi23 z ρ = S.ofM (bOr (bBl (x2 dLt (xVar 4) (xC (.int 200)))) (bBl (x2 dIn (xVar 14) (xAll lTup (xCons (x2 dMod (xVar 5) (xC (.int 6))) (xCons (xC (.int 0)) xNil))))) ρ) fun b => if b = true then (sIf (bNot (xTru (xAll (callF 5 (f_l_line_right5 z)) (xCons (xVar 4) (xCons (xVar 9) (xCons (xVar 20) (xCons (x2 dIx (xVar 17) (xVar 14)) (xCons (xVar 22) xNil)))))))) (sRet (xC (.bl false))) sNil) ρ else sNil ρ := fun _ => rfl
    rw [e0, co, e_ofM_ok]
    cases b with
    | false => rfl
    | true =>
      rw [if_pos rfl]
      simp only [e_sIf, e_bNot, e_xTru, e_xAll, e_xCons, e_xVar, e_x2, e_xNil, List.getElem?_cons_succ, List.getElem?_cons_zero, e_bind_ok, i2, e_callF, List.length_cons, List.length_nil, Nat.reduceAdd, if_true, r, e_truB, e_ofM_ok, Bool.not_true, Bool.false_eq_true, if_false, e_sNil]) [some (.v (.lst (ns.map .int))), iv a, w2, w3, iv p, iv c, some (.v (.lst (five.map triD))), some (.v T), some (.v (.lst ((l3 t).map D.int))), some (.v (frmD F)), x10, x11, some (.v (.lst (fs.map frmD))), x13, x14, some (.v (.lst ((shp p F l).map triD))), iv (rst p F l), some (.v (.lst (qs.map fun v => D.lst (v.map triD)))), some (.v (.tup (rs.map D.int))), w19, some (.v (triD l)), some (.v (triD o)), w22, w23, w24] ⟨x14, w22, rfl⟩
  refine ⟨y14, y22, ?_⟩
  rw [← e, ← en]
  show S.ofM (xAll dEnumT (xCons (xVar 18) xNil) _) _ = _
  rw [xAll_of (xs := [.tup (rs.map D.int)]) rfl (e_enumT _)]
  rfl
end
end OM
set_option maxRecDepth 100000
set_option maxHeartbeats 4000000
/-! Law5f: the law. -/
namespace OM
open PySem L2 DI
theorem law5_body (z : Adr) (kk : KitOk z) {ns : List Int} (hb : ∀ n ∈ ns, B n 1048576) {a : Int} (ha : 0 ≤ a) (ba : a < 8192) (w2 w3 w4 w5 w6 w7 w8 w9 w10 w11 w12 w13 w14 w15 w16 w17 w18 w19 w20 w21 w22 w23 w24 : Option Sl) : ∃ w2' w3' w4' w5' w6' w7' w8' w9' w10' w11' w12' w13' w14' w15' w16' w17' w18' w19' w20' w21' w22' w23' w24', law5B z [some (.v (.lst (ns.map .int))), iv a, w2, w3, w4, w5, w6, w7, w8, w9, w10, w11, w12, w13, w14, w15, w16, w17, w18, w19, w20, w21, w22, w23, w24] = .nx [some (.v (.lst (ns.map .int))), iv a, w2', w3', w4', w5', w6', w7', w8', w9', w10', w11', w12', w13', w14', w15', w16', w17', w18', w19', w20', w21', w22', w23', w24'] := by
  obtain ⟨p, h, ep⟩ := prime_ok hb ha
  obtain ⟨five, k, ef⟩ := l_five_ok h hb ha (by omega)
  have ce := cell_ok ns (i := a + 3) (by omega)
  have va := value_ok (v := cell ns (a + 3)) (s := a) (B_cell hb _) ((smB ha (by omega)).mono (by omega))
  have bc : B (valV (cell ns (a + 3)) a) 1048700 := valV_b (B_cell hb _)
  obtain ⟨c, hc⟩ : ∃ c, c = valV (cell ns (a + 3)) a := ⟨_, rfl⟩
  rw [← hc] at va bc
  obtain ⟨ts, nd, told, hl, et⟩ := triples_ok h hb (a := a + 1) (by omega) (smB (by omega) (by omega)) (many := 2) (by decide)
  obtain ⟨l, o, rfl⟩ : ∃ x y, ts = [x, y] := by
    match ts, hl with
    | [x, y], _ => exact ⟨x, y, rfl⟩
  have et : f_l_triples [.lst (ns.map .int), .int (a + 1), .int p, .int 2] = .ok (.lst [triD l, triD o]) := et
  have Tl := told l (by simp)
  have To := told o (by simp)
  have t1 : mb1 z [some (.v (.lst (ns.map .int))), iv a, w2, w3, w4, w5, w6, w7, w8, w9, w10, w11, w12, w13, w14, w15, w16, w17, w18, w19, w20, w21, w22, w23, w24] = .nx [some (.v (.lst (ns.map .int))), iv a, w2, w3, iv p, w5, w6, w7, w8, w9, w10, w11, w12, w13, w14, w15, w16, w17, w18, w19, w20, w21, w22, w23, w24] := by
    simp [ep]
  have t2 : mb2 z [some (.v (.lst (ns.map .int))), iv a, w2, w3, iv p, w5, w6, w7, w8, w9, w10, w11, w12, w13, w14, w15, w16, w17, w18, w19, w20, w21, w22, w23, w24] = .nx [some (.v (.lst (ns.map .int))), iv a, w2, w3, iv p, iv c, w6, w7, w8, w9, w10, w11, w12, w13, w14, w15, w16, w17, w18, w19, w20, w21, w22, w23, w24] := by
    simp [ce, va]
  have t3 : mb3 z [some (.v (.lst (ns.map .int))), iv a, w2, w3, iv p, iv c, w6, w7, w8, w9, w10, w11, w12, w13, w14, w15, w16, w17, w18, w19, w20, w21, w22, w23, w24] = .nx [some (.v (.lst (ns.map .int))), iv a, w2, w3, iv p, iv c, some (.v (.lst (five.map triD))), w7, w8, w9, w10, w11, w12, w13, w14, w15, w16, w17, w18, w19, w20, w21, w22, w23, w24] := by
    simp [ef]
  obtain ⟨T, t, F, ht, hF, q1⟩ := pre5 z kk h k (ns := ns) (a := a) (c := c) w2 w3 w4 w5 w6 w7 w8 w9 w10 w11 w12 w13 w14 w15 w16 w17 w18 w19 w20 w21 w22 w23 w24
  obtain ⟨x10, x11, fs, hfs, hFs, q2⟩ := mid5 z kk h k (ns := ns) (a := a) (c := c) hF bc T t w2 w3 w4 w5 w6 w7 w8 w9 w10 w11 w12 w13 w14 w15 w16 w17 w18 w19 w20 w21 w22 w23 w24
  obtain ⟨vs, hvs, hv, q3⟩ := thr5 z kk h k (ns := ns) (a := a) (c := c) (F := F) T (t := t) fs x10 x11 w2 w3 w4 w5 w6 w7 w8 w9 w10 w11 w12 w13 w14 w15 w16 w17 w18 w19 w20 w21 w22 w23 w24
  obtain ⟨x14, q4⟩ := loop16 z kk h k (ns := ns) (a := a) (c := c) (F := F) T (t := t) hfs hFs hvs hv x10 x11 w2 w3 w4 w5 w6 w7 w8 w9 w10 w11 w12 w13 w14 w15 w16 w17 w18 w19 w20 w21 w22 w23 w24
  obtain ⟨qs, rs, hq, hqv, hr, q5⟩ := pts5 z kk h k (ns := ns) (a := a) (c := c) hF T (t := t) fs Tl To et x10 x11 (some (.v (.lst (vs.map fun v => .lst (v.map D.int))))) x14 w2 w3 w4 w5 w6 w7 w8 w9 w10 w11 w12 w13 w14 w15 w16 w17 w18 w19 w20 w21 w22 w23 w24
  obtain ⟨y14, y22, q6⟩ := loop23 z kk h k (ns := ns) (a := a) (c := c) hF T (t := t) fs (l := l) (o := o) Tl hq hqv hr x10 x11 (some (.v (.lst (vs.map fun v => .lst (v.map D.int))))) x14 w2 w3 w4 w5 w6 w7 w8 w9 w10 w11 w12 w13 w14 w15 w16 w17 w18 w19 w20 w21 w22 w23 w24
  exact ⟨_, _, _, _, _, _, _, _, _, _, _, _, _, _, _, _, _, _, _, _, _, _, _, by
    rw [show law5B z = sSeq (mb1 z) (sSeq (mb2 z) (sSeq (mb3 z) (sSeq (mb4 z) (sSeq (mb5 z) (sSeq (mb6 z) (sSeq (mb7 z) (sSeq (mb8 z) (sSeq (mb9 z) (sSeq (mb10 z) (sSeq (mb11 z) (sSeq (mb12 z) (sSeq (mb13 z) (sSeq (mb14 z) (sSeq (mb15 z) (sSeq (mb16 z) (sSeq (mb17 z) (sSeq (mb18 z) (sSeq (mb19 z) (sSeq (mb20 z) (sSeq (mb21 z) (sSeq (mb22 z) (mb23 z)))))))))))))))))))))) from rfl]
    rw [e_sSeq, t1, e_then_nx, e_sSeq, t2, e_then_nx, e_sSeq, t3, e_then_nx, q1, q2, q3, e_sSeq, q4, e_then_nx, q5, q6]⟩
theorem law5_loop (z : Adr) (k : KitOk z) {ns : List Int} (hb : ∀ n ∈ ns, B n 1048576) (as : List Int) (h : ∀ a ∈ as, 0 ≤ a ∧ a < 8192) (w1 w2 w3 w4 w5 w6 w7 w8 w9 w10 w11 w12 w13 w14 w15 w16 w17 w18 w19 w20 w21 w22 w23 w24 : Option Sl) :
    ∃ w1' w2' w3' w4' w5' w6' w7' w8' w9' w10' w11' w12' w13' w14' w15' w16' w17' w18' w19' w20' w21' w22' w23' w24', forS (tgN 1) (law5B z) (as.map D.int) [some (.v (.lst (ns.map .int))), w1, w2, w3, w4, w5, w6, w7, w8, w9, w10, w11, w12, w13, w14, w15, w16, w17, w18, w19, w20, w21, w22, w23, w24] = .nx [some (.v (.lst (ns.map .int))), w1', w2', w3', w4', w5', w6', w7', w8', w9', w10', w11', w12', w13', w14', w15', w16', w17', w18', w19', w20', w21', w22', w23', w24'] := by
  obtain ⟨ρ', e, w1', w2', w3', w4', w5', w6', w7', w8', w9', w10', w11', w12', w13', w14', w15', w16', w17', w18', w19', w20', w21', w22', w23', w24', rfl⟩ := forS_go (tf := tgN 1) (b := law5B z) D.int (fun _ ρ => ∃ w1 w2 w3 w4 w5 w6 w7 w8 w9 w10 w11 w12 w13 w14 w15 w16 w17 w18 w19 w20 w21 w22 w23 w24, ρ = [some (.v (.lst (ns.map .int))), w1, w2, w3, w4, w5, w6, w7, w8, w9, w10, w11, w12, w13, w14, w15, w16, w17, w18, w19, w20, w21, w22, w23, w24]) as 0 (fun n x hx ρ hρ => by
    obtain ⟨w1, w2, w3, w4, w5, w6, w7, w8, w9, w10, w11, w12, w13, w14, w15, w16, w17, w18, w19, w20, w21, w22, w23, w24, rfl⟩ := hρ
    obtain ⟨h0, h1⟩ := h x (List.mem_of_getElem? hx)
    obtain ⟨w2', w3', w4', w5', w6', w7', w8', w9', w10', w11', w12', w13', w14', w15', w16', w17', w18', w19', w20', w21', w22', w23', w24', e⟩ := law5_body z k hb h0 h1 w2 w3 w4 w5 w6 w7 w8 w9 w10 w11 w12 w13 w14 w15 w16 w17 w18 w19 w20 w21 w22 w23 w24
    exact ⟨_, e_tgN 1 _, _, e, iv x, w2', w3', w4', w5', w6', w7', w8', w9', w10', w11', w12', w13', w14', w15', w16', w17', w18', w19', w20', w21', w22', w23', w24', rfl⟩) [some (.v (.lst (ns.map .int))), w1, w2, w3, w4, w5, w6, w7, w8, w9, w10, w11, w12, w13, w14, w15, w16, w17, w18, w19, w20, w21, w22, w23, w24] ⟨w1, w2, w3, w4, w5, w6, w7, w8, w9, w10, w11, w12, w13, w14, w15, w16, w17, w18, w19, w20, w21, w22, w23, w24, rfl⟩
  exact ⟨w1', w2', w3', w4', w5', w6', w7', w8', w9', w10', w11', w12', w13', w14', w15', w16', w17', w18', w19', w20', w21', w22', w23', w24', e⟩
theorem x5a (z : Adr) : f_Oval_shows z [.ins z.Oval ["form"] [.tup [.int 0, .int 1, .int 0, .int 0, .int 6, .int 0]], .int 7, .lst [.tup [.int 1, .int 0, .int 0], .tup [.int 1, .int 1, .int 1], .tup [.int 1, .int 2, .int 4], .tup [.int 1, .int 3, .int 2], .tup [.int 0, .int 0, .int 1]]] = .ok (.bl true) := by 
  have e1 : f_is_told [.int 7, .tup [.int 0, .int 1, .int 0, .int 0, .int 6, .int 0], .int 6] = .ok (.bl true) := by with_unfolding_all rfl
  have e2 : f_first_in_line [.int 7, .lst [.tup [.int 1, .int 0, .int 0], .tup [.int 1, .int 1, .int 1], .tup [.int 1, .int 2, .int 4], .tup [.int 1, .int 3, .int 2], .tup [.int 0, .int 0, .int 1]]] = .ok (.lst []) := by with_unfolding_all rfl
  have d : dNe (.lst []) (.lst []) = .ok (.bl false) := by rfl
  have p1 : f_left_by [.int 7, .tup [.int 0, .int 1, .int 0, .int 0, .int 6, .int 0], .tup [.int 1, .int 0, .int 0]] = .ok (.int 0) := by with_unfolding_all rfl
  have p2 : f_left_by [.int 7, .tup [.int 0, .int 1, .int 0, .int 0, .int 6, .int 0], .tup [.int 1, .int 1, .int 1]] = .ok (.int 0) := by with_unfolding_all rfl
  have p3 : f_left_by [.int 7, .tup [.int 0, .int 1, .int 0, .int 0, .int 6, .int 0], .tup [.int 1, .int 2, .int 4]] = .ok (.int 0) := by with_unfolding_all rfl
  have p4 : f_left_by [.int 7, .tup [.int 0, .int 1, .int 0, .int 0, .int 6, .int 0], .tup [.int 1, .int 3, .int 2]] = .ok (.int 0) := by with_unfolding_all rfl
  have p5 : f_left_by [.int 7, .tup [.int 0, .int 1, .int 0, .int 0, .int 6, .int 0], .tup [.int 0, .int 0, .int 1]] = .ok (.int 0) := by with_unfolding_all rfl
  simp [f_Oval_shows, defF, e1, e2, d, xComp, iMode, compR, wipeE, PySem.sizeLine_eq, p1, p2, p3, p4, p5, blsOf]
theorem x5b (z : Adr) : f_Shared_shows z [.ins z.Shared ["points"] [.lst [.tup [.int 1, .int 0, .int 0]]], .int 7, .tup [.int 0, .int 1, .int 0, .int 0, .int 6, .int 0], .tup [.int 0, .int 0, .int 1]] = .ok (.bl true) := by 
  have e1 : f_shared_of [.int 7, .tup [.int 0, .int 1, .int 0, .int 0, .int 6, .int 0], .tup [.int 0, .int 0, .int 1]] = .ok (.lst [.tup [.int 1, .int 0, .int 0]]) := by with_unfolding_all rfl
  have d : dEq (.lst [.tup [.int 1, .int 0, .int 0]]) (.lst [.tup [.int 1, .int 0, .int 0]]) = .ok (.bl true) := by rfl
  simp [f_Shared_shows, defF, e1, d]
theorem x5c (z : Adr) : f_Apart_shows z [.ins z.Apart ["rest"] [.int 2], .int 3, .tup [.int 1, .int 1, .int 0, .int 0, .int 0, .int 0], .tup [.int 0, .int 0, .int 1]] = .ok (.bl true) := by 
  have e1 : f_rest_of [.int 3, .tup [.int 1, .int 1, .int 0, .int 0, .int 0, .int 0], .tup [.int 0, .int 0, .int 1]] = .ok (.int 2) := by with_unfolding_all rfl
  have e2 : f_is_square [.int 3, .int 2] = .ok (.bl false) := by with_unfolding_all rfl
  simp [f_Apart_shows, defF, f_is_whole, e1, e2]
theorem x5d (z : Adr) : f_Shared_shows z [.ins z.Shared ["points"] [.lst []], .int 3, .tup [.int 1, .int 1, .int 0, .int 0, .int 0, .int 0], .tup [.int 0, .int 0, .int 1]] = .ok (.bl false) := by 
  simp [f_Shared_shows, defF]
theorem x5e (z : Adr) : f_Apart_shows z [.ins z.Apart ["rest"] [.int 0], .int 7, .tup [.int 0, .int 1, .int 0, .int 0, .int 6, .int 0], .tup [.int 0, .int 0, .int 1]] = .ok (.bl false) := by 
  have e1 : f_rest_of [.int 7, .tup [.int 0, .int 1, .int 0, .int 0, .int 6, .int 0], .tup [.int 0, .int 0, .int 1]] = .ok (.int 0) := by with_unfolding_all rfl
  have e2 : f_is_square [.int 7, .int 0] = .ok (.bl true) := by with_unfolding_all rfl
  simp [f_Apart_shows, defF, f_is_whole, e1, e2]
theorem law_true5 (z : Adr) (k : KitOk z) : LawD z.K (f_law5 z) := by
  intro ns hl hbits
  have hb : ∀ n ∈ ns, B n 1048576 := fun n hn => B_bits (hbits n hn)
  obtain ⟨w1', w2', w3', w4', w5', w6', w7', w8', w9', w10', w11', w12', w13', w14', w15', w16', w17', w18', w19', w20', w21', w22', w23', w24', e⟩ := law5_loop z k hb _ (casG_b rgs3 (by decide) hl) none none none none none none none none none none none none none none none none none none none none none none none none
  have sl0 : xSliceS z.K (xVar 0) pNone (pSome (xC (.int 63))) [some (.v (.scr z.K (ns.map .int))), none, none, none, none, none, none, none, none, none, none, none, none, none, none, none, none, none, none, none, none, none, none, none, none] = .ok (.lst (ns.map .int)) := by
    simp [dSliceS, cut63 hl]
  have rg := casG_rg rgs3 (by decide) hl
  rw [show ((3 : Nat) : Int) = 3 from rfl] at rg
  have l6 : ∀ a b c d e f : D, lTup [a, b, c, d, e, f] = .ok (.tup [a, b, c, d, e, f]) := fun _ _ _ _ _ _ => rfl
  have l5 : ∀ a b c d e : D, lLst [a, b, c, d, e] = .ok [a, b, c, d, e] := fun _ _ _ _ _ => rfl
  have g1 : gApp (.bl true) [.bl true] = .ok [.bl true, .bl true] := by
    unfold gApp
    rw [if_pos (by rw [PySem.sizeLine_eq]; simp)]
    rfl
  have g2 : gApp (.bl true) [.bl true, .bl true] = .ok [.bl true, .bl true, .bl true] := by
    unfold gApp
    rw [if_pos (by rw [PySem.sizeLine_eq]; simp)]
    rfl
  have q1 : law5E1 z [some (.v (.lst (ns.map .int))), w1', w2', w3', w4', w5', w6', w7', w8', w9', w10', w11', w12', w13', w14', w15', w16', w17', w18', w19', w20', w21', w22', w23', w24'] = .nx [some (.v (.lst (ns.map .int))), w1', w2', w3', w4', w5', w6', w7', w8', some (.v (.tup [.int 0, .int 1, .int 0, .int 0, .int 6, .int 0])), w10', w11', w12', w13', w14', w15', w16', w17', w18', some (.v (.tup [.int 1, .int 1, .int 0, .int 0, .int 0, .int 0])), some (.v (.tup [.int 0, .int 0, .int 1])), w21', w22', w23', w24'] := by
    simp [l6]
  have q2 : law5E2 z [some (.v (.lst (ns.map .int))), w1', w2', w3', w4', w5', w6', w7', w8', some (.v (.tup [.int 0, .int 1, .int 0, .int 0, .int 6, .int 0])), w10', w11', w12', w13', w14', w15', w16', w17', w18', some (.v (.tup [.int 1, .int 1, .int 0, .int 0, .int 0, .int 0])), some (.v (.tup [.int 0, .int 0, .int 1])), w21', w22', w23', w24'] = .nx [some (.v (.lst (ns.map .int))), w1', some (.o [.bl true]), w3', w4', w5', w6', w7', w8', some (.v (.tup [.int 0, .int 1, .int 0, .int 0, .int 6, .int 0])), w10', w11', w12', w13', w14', w15', w16', w17', w18', some (.v (.tup [.int 1, .int 1, .int 0, .int 0, .int 0, .int 0])), some (.v (.tup [.int 0, .int 0, .int 1])), w21', w22', w23', w24'] := by
    have m : xMeth "shows" z.Oval 3 (f_Oval_shows z) (xAll (dMkV z.Oval "form") (xCons (xVar 9) xNil)) (xCons (xC (.int 7)) (xCons (xLst (xAll lLst (xCons (xAll lTup (xCons (xC (.int 1)) (xCons (xC (.int 0)) (xCons (xC (.int 0)) xNil)))) (xCons (xAll lTup (xCons (xC (.int 1)) (xCons (xC (.int 1)) (xCons (xC (.int 1)) xNil)))) (xCons (xAll lTup (xCons (xC (.int 1)) (xCons (xC (.int 2)) (xCons (xC (.int 4)) xNil)))) (xCons (xAll lTup (xCons (xC (.int 1)) (xCons (xC (.int 3)) (xCons (xC (.int 2)) xNil)))) (xCons (xVar 20) xNil))))))) xNil)) [some (.v (.lst (ns.map .int))), w1', w2', w3', w4', w5', w6', w7', w8', some (.v (.tup [.int 0, .int 1, .int 0, .int 0, .int 6, .int 0])), w10', w11', w12', w13', w14', w15', w16', w17', w18', some (.v (.tup [.int 1, .int 1, .int 0, .int 0, .int 0, .int 0])), some (.v (.tup [.int 0, .int 0, .int 1])), w21', w22', w23', w24'] = .ok (.bl true) :=
      e_xMeth1 (ns := ["form"]) (xs := [.tup [.int 0, .int 1, .int 0, .int 0, .int 6, .int 0]]) (by simp) nsf (by simp [l5]) rfl (x5a z)
    simp only [law5E2, e_sOwn, e_xAll, e_xCons, m, e_bind_ok, e_xNil, e_lLst1, e_ofM_ok, List.set_cons_succ, List.set_cons_zero]
  have q3 : law5E3 z [some (.v (.lst (ns.map .int))), w1', some (.o [.bl true]), w3', w4', w5', w6', w7', w8', some (.v (.tup [.int 0, .int 1, .int 0, .int 0, .int 6, .int 0])), w10', w11', w12', w13', w14', w15', w16', w17', w18', some (.v (.tup [.int 1, .int 1, .int 0, .int 0, .int 0, .int 0])), some (.v (.tup [.int 0, .int 0, .int 1])), w21', w22', w23', w24'] = .nx [some (.v (.lst (ns.map .int))), w1', some (.o [.bl true, .bl true]), w3', w4', w5', w6', w7', w8', some (.v (.tup [.int 0, .int 1, .int 0, .int 0, .int 6, .int 0])), w10', w11', w12', w13', w14', w15', w16', w17', w18', some (.v (.tup [.int 1, .int 1, .int 0, .int 0, .int 0, .int 0])), some (.v (.tup [.int 0, .int 0, .int 1])), w21', w22', w23', w24'] := by
    have m : xMeth "shows" z.Shared 4 (f_Shared_shows z) (oToD (xAll (oMkL z.Shared "points") (xCons (xLst (xAll lLst (xCons (xAll lTup (xCons (xC (.int 1)) (xCons (xC (.int 0)) (xCons (xC (.int 0)) xNil)))) xNil))) xNil))) (xCons (xC (.int 7)) (xCons (xVar 9) (xCons (xVar 20) xNil))) [some (.v (.lst (ns.map .int))), w1', some (.o [.bl true]), w3', w4', w5', w6', w7', w8', some (.v (.tup [.int 0, .int 1, .int 0, .int 0, .int 6, .int 0])), w10', w11', w12', w13', w14', w15', w16', w17', w18', some (.v (.tup [.int 1, .int 1, .int 0, .int 0, .int 0, .int 0])), some (.v (.tup [.int 0, .int 0, .int 1])), w21', w22', w23', w24'] = .ok (.bl true) :=
      e_xMeth1 (ns := ["points"]) (xs := [.lst [.tup [.int 1, .int 0, .int 0]]]) (by simp) nsp (by simp) rfl (x5b z)
    simp only [law5E3, e_sApp, e_oAt, List.getElem?_cons_succ, List.getElem?_cons_zero, m, e_ofM_ok, g1, e_oPut, List.set_cons_succ, List.set_cons_zero]
  have q4 : law5E4 z [some (.v (.lst (ns.map .int))), w1', some (.o [.bl true, .bl true]), w3', w4', w5', w6', w7', w8', some (.v (.tup [.int 0, .int 1, .int 0, .int 0, .int 6, .int 0])), w10', w11', w12', w13', w14', w15', w16', w17', w18', some (.v (.tup [.int 1, .int 1, .int 0, .int 0, .int 0, .int 0])), some (.v (.tup [.int 0, .int 0, .int 1])), w21', w22', w23', w24'] = .nx [some (.v (.lst (ns.map .int))), w1', some (.o [.bl true, .bl true, .bl true]), w3', w4', w5', w6', w7', w8', some (.v (.tup [.int 0, .int 1, .int 0, .int 0, .int 6, .int 0])), w10', w11', w12', w13', w14', w15', w16', w17', w18', some (.v (.tup [.int 1, .int 1, .int 0, .int 0, .int 0, .int 0])), some (.v (.tup [.int 0, .int 0, .int 1])), w21', w22', w23', w24'] := by
    have m : xMeth "shows" z.Apart 4 (f_Apart_shows z) (xAll (dMkV z.Apart "rest") (xCons (xC (.int 2)) xNil)) (xCons (xC (.int 3)) (xCons (xVar 19) (xCons (xVar 20) xNil))) [some (.v (.lst (ns.map .int))), w1', some (.o [.bl true, .bl true]), w3', w4', w5', w6', w7', w8', some (.v (.tup [.int 0, .int 1, .int 0, .int 0, .int 6, .int 0])), w10', w11', w12', w13', w14', w15', w16', w17', w18', some (.v (.tup [.int 1, .int 1, .int 0, .int 0, .int 0, .int 0])), some (.v (.tup [.int 0, .int 0, .int 1])), w21', w22', w23', w24'] = .ok (.bl true) :=
      e_xMeth1 (ns := ["rest"]) (xs := [.int 2]) (by simp) nsrr (by simp) rfl (x5c z)
    simp only [law5E4, e_sApp, e_oAt, List.getElem?_cons_succ, List.getElem?_cons_zero, m, e_ofM_ok, g2, e_oPut, List.set_cons_succ, List.set_cons_zero]
  have q5 : law5E5 z [some (.v (.lst (ns.map .int))), w1', some (.o [.bl true, .bl true, .bl true]), w3', w4', w5', w6', w7', w8', some (.v (.tup [.int 0, .int 1, .int 0, .int 0, .int 6, .int 0])), w10', w11', w12', w13', w14', w15', w16', w17', w18', some (.v (.tup [.int 1, .int 1, .int 0, .int 0, .int 0, .int 0])), some (.v (.tup [.int 0, .int 0, .int 1])), w21', w22', w23', w24'] = .nx [some (.v (.lst (ns.map .int))), w1', some (.o [.bl true, .bl true, .bl true]), some (.v (.lst [.bl false, .bl false])), w4', w5', w6', w7', w8', some (.v (.tup [.int 0, .int 1, .int 0, .int 0, .int 6, .int 0])), w10', w11', w12', w13', w14', w15', w16', w17', w18', some (.v (.tup [.int 1, .int 1, .int 0, .int 0, .int 0, .int 0])), some (.v (.tup [.int 0, .int 0, .int 1])), w21', w22', w23', w24'] := by
    have m1 : xMeth "shows" z.Shared 4 (f_Shared_shows z) (oToD (xAll (oMkL z.Shared "points") (xCons (xLst (xAll lLst xNil)) xNil))) (xCons (xC (.int 3)) (xCons (xVar 19) (xCons (xVar 20) xNil))) [some (.v (.lst (ns.map .int))), w1', some (.o [.bl true, .bl true, .bl true]), w3', w4', w5', w6', w7', w8', some (.v (.tup [.int 0, .int 1, .int 0, .int 0, .int 6, .int 0])), w10', w11', w12', w13', w14', w15', w16', w17', w18', some (.v (.tup [.int 1, .int 1, .int 0, .int 0, .int 0, .int 0])), some (.v (.tup [.int 0, .int 0, .int 1])), w21', w22', w23', w24'] = .ok (.bl false) :=
      e_xMeth1 (ns := ["points"]) (xs := [.lst []]) (by simp) nsp (by simp) rfl (x5d z)
    have m2 : xMeth "shows" z.Apart 4 (f_Apart_shows z) (xAll (dMkV z.Apart "rest") (xCons (xC (.int 0)) xNil)) (xCons (xC (.int 7)) (xCons (xVar 9) (xCons (xVar 20) xNil))) [some (.v (.lst (ns.map .int))), w1', some (.o [.bl true, .bl true, .bl true]), w3', w4', w5', w6', w7', w8', some (.v (.tup [.int 0, .int 1, .int 0, .int 0, .int 6, .int 0])), w10', w11', w12', w13', w14', w15', w16', w17', w18', some (.v (.tup [.int 1, .int 1, .int 0, .int 0, .int 0, .int 0])), some (.v (.tup [.int 0, .int 0, .int 1])), w21', w22', w23', w24'] = .ok (.bl false) :=
      e_xMeth1 (ns := ["rest"]) (xs := [.int 0]) (by simp) nsrr (by simp) rfl (x5e z)
    simp only [law5E5, e_sSet, e_xLst, e_xAll, e_xCons, m1, m2, e_bind_ok, e_xNil, e_lLst2, e_ofM_ok, List.set_cons_succ, List.set_cons_zero]
  have q6 : law5E6 z [some (.v (.lst (ns.map .int))), w1', some (.o [.bl true, .bl true, .bl true]), some (.v (.lst [.bl false, .bl false])), w4', w5', w6', w7', w8', some (.v (.tup [.int 0, .int 1, .int 0, .int 0, .int 6, .int 0])), w10', w11', w12', w13', w14', w15', w16', w17', w18', some (.v (.tup [.int 1, .int 1, .int 0, .int 0, .int 0, .int 0])), some (.v (.tup [.int 0, .int 0, .int 1])), w21', w22', w23', w24'] = .rt (.bl true) := by
    simp [xComp, iMode, compR, wipeE, PySem.sizeLine_eq, says_ok, blsOf]
  rw [law5_eq]
  unfold defF
  rw [if_pos (by rfl)]
  have e0 : (List.map (fun d => some (Sl.v d)) [D.scr z.K (ns.map .int)] ++ List.replicate (25 - 1) none : Ev) = [some (.v (.scr z.K (ns.map .int))), none, none, none, none, none, none, none, none, none, none, none, none, none, none, none, none, none, none, none, none, none, none, none, none] := rfl
  rw [e0]
  simp only [e_sSeq, e_sSet, sl0, e_ofM_ok, e_then_nx, List.set_cons_zero, e_sFor, e_xAll, e_xCons, e_xC, e_bind_ok, e_xVar, List.getElem?_cons_zero, e_xNil, e_lenL, List.length_map, e_x2, e_add, e_fdiv (show (0 : Int) < 3 by decide) (show (3 : Int) < 1073741824 by decide), rg]
  rw [e]
  rw [e_then_nx, e_sSeq, q1, e_then_nx, e_sSeq, q2, e_then_nx, e_sSeq, q3, e_then_nx, e_sSeq, q4, e_then_nx, e_sSeq, q5, e_then_nx, q6]
end OM
set_option maxRecDepth 100000
set_option maxHeartbeats 4000000
namespace OM
open PySem PySem.Spec PyProof.Rows L2 DI
def topS (i : Nat) : Stmt := PySem.Challenge.pw_onemeet_k05_answers_by_hand.main.body.getD i (.Pass ⟨0, 0, 0, 0⟩)
def methS (i j : Nat) : Stmt := match topS i with
  | .ClassDef _ _ _ body _ _ _ _ _ _ _ => body.getD j (.Pass ⟨0, 0, 0, 0⟩)
  | st => st
section
variable {P : Program} {w : World} {K : PySem.W.Frag} {mg : Str → Option Value} {base : Heap}
abbrev s_is_whole : Stmt := topS 7
abbrev n_is_whole : List Str := ["thing"]
theorem sc_is_whole : FnScope n_is_whole ["thing"] (defScope s_is_whole) := ⟨rfl, rfl, rfl, by decide +kernel, rfl, by decide +kernel, by decide +kernel⟩
theorem c_is_whole {f : Addr} {fd : FuncData} (F : Fun K "is_whole" "is_whole" s_is_whole f fd) (gm : mg "is_whole" = some (.ref f)) (b_isinstance : mg "isinstance" = none) (b_int : mg "int" = none) (b_bool : mg "bool" = none) : Cal P w K mg base CX0 1 "is_whole" 1 f_is_whole :=
  cal_mk F gm (F.binds (ps := ["thing"]) fun _ _ _ _ _ _ us hl => match us, hl with | [_], _ => rfl) (fnD0 _ F sc_is_whole fun cdv A outer s H E hr =>
  (dss_one (ds_ret (de_and (de_isT .int (by rfl) b_isinstance (da_cons (de_var (pv 0)) (da_cons (de_gTy (by rfl) b_int PyProof.Rows.boot_int) da_nil))) (de_one (de_not (de_isT .bool (by rfl) b_isinstance (da_cons (de_var (pv 0)) (da_cons (de_gTy (by rfl) b_bool PyProof.Rows.boot_bool) da_nil)))))))))
abbrev s_check_prime : Stmt := topS 8
abbrev n_check_prime : List Str := ["prime", "part"]
theorem sc_check_prime : FnScope n_check_prime ["prime"] (defScope s_check_prime) := ⟨rfl, rfl, rfl, by decide +kernel, rfl, by decide +kernel, by decide +kernel⟩
theorem c_check_prime {f : Addr} {fd : FuncData} (F : Fun K "check_prime" "check_prime" s_check_prime f fd) (gm : mg "check_prime" = some (.ref f)) {z : Adr} (e_BadPrime : ExcC K mg "BadPrime" z.BadPrime) (b_any : mg "any" = none) (b_range : mg "range" = none) (g_GREATEST : ∃ t, mg "GREATEST" = some (.int 997 t)) (c_is_whole : Cal P w K mg base CX0 1 "is_whole" 1 f_is_whole) : Cal P w K mg base (L2.CX P w) 2 "check_prime" 1 (f_check_prime z) :=
  cal_mk F gm (F.binds (ps := ["prime"]) fun _ _ _ _ _ _ us hl => match us, hl with | [_], _ => rfl) (fnDX _ F sc_check_prime fun cdv A outer s H E hr =>
  (dss_cons (ds_if (PW.pt (dw_or (dt_not (dt_val (de_cal c_is_whole (hr.mono (by decide)) (by rfl) rfl pass_0 (da_cons (de_var (pv 0)) da_nil)))) (dw_or1 (dt_not (dt_chain (m := true) op_le op_le sv_cmp sv_cmp de_int (de_var (pv 0)) (de_gI (by rfl) g_GREATEST)))))) (dss_one (ds_raise rfl (takes_of rfl rfl rfl rfl) (fun _ _ h => h) (e_BadPrime.mk' (by rfl)))) dss_nil)
  (dss_one (ds_if (dt_val (de_any rfl (by rfl) b_any (da_cons (de_df (df_compIf (own := [("part", 1)]) rfl sc_check_prime.nd (di_rg2 (by rfl) b_range (da_cons de_int (da_cons de_int da_nil))) (blkOk_by (N := n_check_prime) (sc := defScope s_check_prime) (own := [("part", 1)]) (by decide +kernel)) (fun _ _ _ _ _ => (dg_name (pg_name (i := 1) sc_check_prime.nd rfl (.inl rfl)))) (fun _ _ _ _ _ => (dt_lt (m := true) (de_var (pv 1)) (de_var (pv 0)))) (fun _ _ _ _ _ => (de_eq (hu64 hr) (de_mod (de_var (pv 0)) (de_var (pv 1))) de_int)))) da_nil))) (dss_one (ds_raise rfl (takes_of rfl rfl rfl rfl) (fun _ _ h => h) (e_BadPrime.mk' (by rfl)))) dss_nil))))
abbrev s_is_told : Stmt := topS 9
abbrev n_is_told : List Str := ["prime", "thing", "many", "above", "one"]
theorem sc_is_told : FnScope n_is_told ["prime", "thing", "many"] (defScope s_is_told) := ⟨rfl, rfl, rfl, by decide +kernel, rfl, by decide +kernel, by decide +kernel⟩
theorem c_is_told {f : Addr} {fd : FuncData} (F : Fun K "is_told" "is_told" s_is_told f fd) (gm : mg "is_told" = some (.ref f)) (b_isinstance : mg "isinstance" = none) (b_tuple : mg "tuple" = none) (b_len : mg "len" = none) (b_all : mg "all" = none) (c_is_whole : Cal P w K mg base CX0 1 "is_whole" 1 f_is_whole) : Cal P w K mg base CX0 2 "is_told" 3 f_is_told :=
  cal_mk F gm (F.binds (ps := ["prime", "thing", "many"]) fun _ _ _ _ _ _ us hl => match us, hl with | [_, _, _], _ => rfl) (fnD0 _ F sc_is_told fun cdv A outer s H E hr =>
  (dss_cons (ds_if (PW.pt (dw_or (dt_not (dt_val (de_isT .tup (by rfl) b_isinstance (da_cons (de_var (pv 1)) (da_cons (de_gTy (by rfl) b_tuple PyProof.Rows.boot_tuple) da_nil))))) (dw_or (dt_ne (m := true) (hu64 hr) (de_len (by rfl) b_len (da_cons (de_var (pv 1)) da_nil)) (de_var (pv 2))) (dw_or1 (dt_not (dt_val (de_all rfl (by rfl) b_all (da_cons (de_df (df_comp (own := [("one", 4)]) rfl sc_is_told.nd (di_seq (de_var (pv 1))) (blkOk_by (N := n_is_told) (sc := defScope s_is_told) (own := [("one", 4)]) (by decide +kernel)) (fun _ _ _ _ _ => (dg_name (pg_name (i := 4) sc_is_told.nd rfl (.inl rfl)))) (fun _ _ _ _ _ => (de_cal c_is_whole (hr.mono (by decide)) (by rfl) rfl pass_0 (da_cons (de_var (pv 4)) da_nil))))) da_nil)))))))) (dss_one (ds_ret de_bl)) dss_nil)
  (dss_cons (ds_if (dt_not (dt_val (de_all rfl (by rfl) b_all (da_cons (de_df (df_comp (own := [("one", 4)]) rfl sc_is_told.nd (di_seq (de_var (pv 1))) (blkOk_by (N := n_is_told) (sc := defScope s_is_told) (own := [("one", 4)]) (by decide +kernel)) (fun _ _ _ _ _ => (dg_name (pg_name (i := 4) sc_is_told.nd rfl (.inl rfl)))) (fun _ _ _ _ _ => (de_chain op_le op_lt sv_cmp sv_cmp de_int (de_var (pv 4)) (de_var (pv 0)))))) da_nil)))) (dss_one (ds_ret de_bl)) dss_nil)
  (dss_cons (ds_asgN (ps_df (da_compIf (own := [("one", 4)]) (i := 3) rfl sc_is_told.nd rfl rfl (sw_true rfl rfl rfl (by decide +kernel)) (di_seq (de_var (pv 1))) (blkOk_by (N := n_is_told) (sc := defScope s_is_told) (own := [("one", 4)]) (by decide +kernel)) (fun _ _ _ _ _ => (dg_name (pg_name (i := 4) sc_is_told.nd rfl (.inl rfl)))) (fun _ _ _ _ _ => (dt_gt (m := true) (de_var (pv 4)) de_int)) (fun _ _ _ _ _ => (de_var (pv 4))))))
  (dss_one (ds_ret (de_and (de_gt (de_len (by rfl) b_len (da_cons (de_var (pv 3)) da_nil)) de_int) (de_one (de_eq (hu64 hr) (de_ix (de_var (pv 3)) de_int) de_int)))))))))
abbrev s_check_point : Stmt := topS 10
abbrev n_check_point : List Str := ["prime", "thing"]
theorem sc_check_point : FnScope n_check_point ["prime", "thing"] (defScope s_check_point) := ⟨rfl, rfl, rfl, by decide +kernel, rfl, by decide +kernel, by decide +kernel⟩
theorem c_check_point {f : Addr} {fd : FuncData} (F : Fun K "check_point" "check_point" s_check_point f fd) (gm : mg "check_point" = some (.ref f)) {z : Adr} (e_BadPoint : ExcC K mg "BadPoint" z.BadPoint) (c_is_told : Cal P w K mg base CX0 2 "is_told" 3 f_is_told) : Cal P w K mg base (L2.CX P w) 3 "check_point" 2 (f_check_point z) :=
  cal_mk F gm (F.binds (ps := ["prime", "thing"]) fun _ _ _ _ _ _ us hl => match us, hl with | [_, _], _ => rfl) (fnDX _ F sc_check_point fun cdv A outer s H E hr =>
  (dss_one (ds_if (dt_not (dt_val (de_cal c_is_told (hr.mono (by decide)) (by rfl) rfl pass_0 (da_cons (de_var (pv 0)) (da_cons (de_var (pv 1)) (da_cons de_int da_nil)))))) (dss_one (ds_raise rfl (takes_of rfl rfl rfl rfl) (fun _ _ h => h) (e_BadPoint.mk' (by rfl)))) dss_nil)))
abbrev s_turned : Stmt := topS 11
abbrev n_turned : List Str := ["prime", "number", "one", "other", "mine", "theirs", "often"]
theorem sc_turned : FnScope n_turned ["prime", "number"] (defScope s_turned) := ⟨rfl, rfl, rfl, by decide +kernel, rfl, by decide +kernel, by decide +kernel⟩
theorem c_turned {f : Addr} {fd : FuncData} (F : Fun K "turned" "turned" s_turned f fd) (gm : mg "turned" = some (.ref f)) : Cal P w K mg base CX0 1 "turned" 2 f_turned :=
  cal_mk F gm (F.binds (ps := ["prime", "number"]) fun _ _ _ _ _ _ us hl => match us, hl with | [_, _], _ => rfl) (fnD0 _ F sc_turned fun cdv A outer s H E hr =>
  (dss_cons (ds_par (ps_par (i := 2) (j := 3) rfl sc_turned.nd rfl rfl (by decide) rfl rfl (da_cons (de_mod (de_var (pv 1)) (de_var (pv 0))) (da_cons (de_var (pv 0)) da_nil)) rfl))
  (dss_cons (ds_asg (vs := [4, 5]) (de_tup (da_cons de_int (da_cons de_int da_nil))) (dg_tup rfl (dgs_cons (dg_name (pg_name (i := 4) sc_turned.nd rfl (.inl rfl))) (dgs_cons (dg_name (pg_name (i := 5) sc_turned.nd rfl (.inl rfl))) dgs_nil))))
  (dss_cons (ds_while (fun _ => 1000) PassesOwn.never (dt_gt (m := true) (de_var (pv 3)) de_int)
  (dss_cons (ds_asgN (ps_set (i := 6) sc_turned.nd rfl (.inl rfl) (de_fdiv (de_var (pv 2)) (de_var (pv 3)))))
  (dss_cons (ds_par (ps_par (i := 2) (j := 3) rfl sc_turned.nd rfl rfl (by decide) rfl rfl (da_cons (de_var (pv 3)) (da_cons (de_sub (de_var (pv 2)) (de_mul (de_var (pv 6)) (de_var (pv 3)))) da_nil)) rfl))
  (dss_one (ds_par (ps_par (i := 4) (j := 5) rfl sc_turned.nd rfl rfl (by decide) rfl rfl (da_cons (de_var (pv 5)) (da_cons (de_sub (de_var (pv 4)) (de_mul (de_var (pv 6)) (de_var (pv 5)))) da_nil)) rfl))))))
  (dss_one (ds_ret (de_mod (de_var (pv 4)) (de_var (pv 0)))))))))
abbrev s_told_of : Stmt := topS 12
abbrev n_told_of : List Str := ["prime", "some", "above", "by", "one"]
theorem sc_told_of : FnScope n_told_of ["prime", "some"] (defScope s_told_of) := ⟨rfl, rfl, rfl, by decide +kernel, rfl, by decide +kernel, by decide +kernel⟩
theorem c_told_of {f : Addr} {fd : FuncData} (F : Fun K "told_of" "told_of" s_told_of f fd) (gm : mg "told_of" = some (.ref f)) (b_tuple : mg "tuple" = none) (c_turned : Cal P w K mg base CX0 1 "turned" 2 f_turned) : Cal P w K mg base CX0 2 "told_of" 2 f_told_of :=
  cal_mk F gm (F.binds (ps := ["prime", "some"]) fun _ _ _ _ _ _ us hl => match us, hl with | [_, _], _ => rfl) (fnD0 _ F sc_told_of fun cdv A outer s H E hr =>
  (dss_cons (ds_asgN (ps_df (da_compIf (own := [("one", 4)]) (i := 2) rfl sc_told_of.nd rfl rfl (sw_true rfl rfl rfl (by decide +kernel)) (di_seq (de_var (pv 1))) (blkOk_by (N := n_told_of) (sc := defScope s_told_of) (own := [("one", 4)]) (by decide +kernel)) (fun _ _ _ _ _ => (dg_name (pg_name (i := 4) sc_told_of.nd rfl (.inl rfl)))) (fun _ _ _ _ _ => (dt_gt (m := true) (de_mod (de_var (pv 4)) (de_var (pv 0))) de_int)) (fun _ _ _ _ _ => (de_mod (de_var (pv 4)) (de_var (pv 0)))))))
  (dss_cons (ds_asgN (ps_set (i := 3) sc_told_of.nd rfl (.inr rfl) (de_cal c_turned (hr.mono (by decide)) (by rfl) rfl pass_0 (da_cons (de_var (pv 0)) (da_cons (de_ix (de_var (pv 2)) de_int) da_nil)))))
  (dss_one (ds_ret (de_tuple (by rfl) b_tuple (da_cons (de_df (df_comp (own := [("one", 4)]) rfl sc_told_of.nd (di_seq (de_var (pv 1))) (blkOk_by (N := n_told_of) (sc := defScope s_told_of) (own := [("one", 4)]) (by decide +kernel)) (fun _ _ _ _ _ => (dg_name (pg_name (i := 4) sc_told_of.nd rfl (.inl rfl)))) (fun _ _ _ _ _ => (de_mod (de_mul (de_var (pv 4)) (de_var (pv 3))) (de_var (pv 0)))))) da_nil)))))))
abbrev s_at_line : Stmt := topS 14
abbrev n_at_line : List Str := ["prime", "line", "number", "by", "a", "b", "c"]
theorem sc_at_line : FnScope n_at_line ["prime", "line", "number"] (defScope s_at_line) := ⟨rfl, rfl, rfl, by decide +kernel, rfl, by decide +kernel, by decide +kernel⟩
theorem c_at_line {f : Addr} {fd : FuncData} (F : Fun K "at_line" "at_line" s_at_line f fd) (gm : mg "at_line" = some (.ref f)) (c_turned : Cal P w K mg base CX0 1 "turned" 2 f_turned) : Cal P w K mg base CX0 2 "at_line" 3 f_at_line :=
  cal_mk F gm (F.binds (ps := ["prime", "line", "number"]) fun _ _ _ _ _ _ us hl => match us, hl with | [_, _, _], _ => rfl) (fnD0 _ F sc_at_line fun cdv A outer s H E hr =>
  (dss_cons (ds_asg (vs := [4, 5, 6]) (de_var (pv 1)) (dg_tup rfl (dgs_cons (dg_name (pg_name (i := 4) sc_at_line.nd rfl (.inl rfl))) (dgs_cons (dg_name (pg_name (i := 5) sc_at_line.nd rfl (.inl rfl))) (dgs_cons (dg_name (pg_name (i := 6) sc_at_line.nd rfl (.inl rfl))) dgs_nil)))))
  (dss_cons (ds_if (PW.pt (dw_and (dt_eq (m := true) (hu64 hr) (de_var (pv 5)) de_int) (dw_and1 (dt_eq (m := true) (hu64 hr) (de_var (pv 6)) de_int)))) (dss_one (ds_ret (de_if (dt_eq (m := true) (hu64 hr) (de_var (pv 2)) de_int) (de_tup (da_cons de_int (da_cons de_int (da_cons de_int da_nil)))) (de_tup (da_cons de_int (da_cons de_int (da_cons (de_sub (de_var (pv 2)) de_int) da_nil))))))) dss_nil)
  (dss_cons (ds_if (dt_eq (m := true) (hu64 hr) (de_var (pv 6)) de_int) (dss_one (ds_ret (de_if (dt_eq (m := true) (hu64 hr) (de_var (pv 2)) de_int) (de_tup (da_cons de_int (da_cons de_int (da_cons de_int da_nil)))) (de_tup (da_cons de_int (da_cons (de_mod (de_mul (de_neg (de_var (pv 4))) (de_cal c_turned (hr.mono (by decide)) (by rfl) rfl pass_0 (da_cons (de_var (pv 0)) (da_cons (de_var (pv 5)) da_nil)))) (de_var (pv 0))) (da_cons (de_sub (de_var (pv 2)) de_int) da_nil))))))) dss_nil)
  (dss_cons (ds_asgN (ps_set (i := 3) sc_at_line.nd rfl (.inl rfl) (de_cal c_turned (hr.mono (by decide)) (by rfl) rfl pass_0 (da_cons (de_var (pv 0)) (da_cons (de_var (pv 6)) da_nil)))))
  (dss_cons (ds_if (dt_eq (m := true) (hu64 hr) (de_var (pv 2)) de_int) (dss_one (ds_ret (de_tup (da_cons de_int (da_cons de_int (da_cons (de_mod (de_mul (de_neg (de_var (pv 5))) (de_var (pv 3))) (de_var (pv 0))) da_nil)))))) dss_nil)
  (dss_one (ds_ret (de_tup (da_cons de_int (da_cons (de_sub (de_var (pv 2)) de_int) (da_cons (de_mod (de_mul (de_neg (de_add (de_var (pv 4)) (de_mul (de_var (pv 5)) (de_sub (de_var (pv 2)) de_int)))) (de_var (pv 3))) (de_var (pv 0))) da_nil))))))))))))
abbrev s_left_by : Stmt := topS 17
abbrev n_left_by : List Str := ["prime", "form", "point", "a", "b", "c", "d", "e", "f", "x", "y", "z"]
theorem sc_left_by : FnScope n_left_by ["prime", "form", "point"] (defScope s_left_by) := ⟨rfl, rfl, rfl, by decide +kernel, rfl, by decide +kernel, by decide +kernel⟩
theorem c_left_by {f : Addr} {fd : FuncData} (F : Fun K "left_by" "left_by" s_left_by f fd) (gm : mg "left_by" = some (.ref f)) : Cal P w K mg base CX0 1 "left_by" 3 f_left_by :=
  cal_mk F gm (F.binds (ps := ["prime", "form", "point"]) fun _ _ _ _ _ _ us hl => match us, hl with | [_, _, _], _ => rfl) (fnD0 _ F sc_left_by fun cdv A outer s H E hr =>
  (dss_cons (ds_asg (vs := [3, 4, 5, 6, 7, 8, 9, 10, 11]) (de_tup (da_cons (de_var (pv 1)) (da_cons (de_var (pv 2)) da_nil))) (dg_tup rfl (dgs_cons (dg_tup rfl (dgs_cons (dg_name (pg_name (i := 3) sc_left_by.nd rfl (.inl rfl))) (dgs_cons (dg_name (pg_name (i := 4) sc_left_by.nd rfl (.inl rfl))) (dgs_cons (dg_name (pg_name (i := 5) sc_left_by.nd rfl (.inl rfl))) (dgs_cons (dg_name (pg_name (i := 6) sc_left_by.nd rfl (.inl rfl))) (dgs_cons (dg_name (pg_name (i := 7) sc_left_by.nd rfl (.inl rfl))) (dgs_cons (dg_name (pg_name (i := 8) sc_left_by.nd rfl (.inl rfl))) dgs_nil))))))) (dgs_cons (dg_tup rfl (dgs_cons (dg_name (pg_name (i := 9) sc_left_by.nd rfl (.inl rfl))) (dgs_cons (dg_name (pg_name (i := 10) sc_left_by.nd rfl (.inl rfl))) (dgs_cons (dg_name (pg_name (i := 11) sc_left_by.nd rfl (.inl rfl))) dgs_nil)))) dgs_nil))))
  (dss_one (ds_ret (de_mod (de_add (de_add (de_add (de_add (de_add (de_mul (de_mul (de_var (pv 3)) (de_var (pv 9))) (de_var (pv 9))) (de_mul (de_mul (de_var (pv 4)) (de_var (pv 10))) (de_var (pv 10)))) (de_mul (de_mul (de_var (pv 5)) (de_var (pv 11))) (de_var (pv 11)))) (de_mul (de_mul (de_var (pv 6)) (de_var (pv 9))) (de_var (pv 10)))) (de_mul (de_mul (de_var (pv 7)) (de_var (pv 9))) (de_var (pv 11)))) (de_mul (de_mul (de_var (pv 8)) (de_var (pv 10))) (de_var (pv 11)))) (de_var (pv 0)))))))
abbrev s_in_line : Stmt := topS 18
abbrev n_in_line : List Str := ["prime", "one", "other", "third", "a", "b", "c", "d", "e", "f", "g", "h", "i"]
theorem sc_in_line : FnScope n_in_line ["prime", "one", "other", "third"] (defScope s_in_line) := ⟨rfl, rfl, rfl, by decide +kernel, rfl, by decide +kernel, by decide +kernel⟩
theorem c_in_line {f : Addr} {fd : FuncData} (F : Fun K "in_line" "in_line" s_in_line f fd) (gm : mg "in_line" = some (.ref f)) : Cal P w K mg base CX0 1 "in_line" 4 f_in_line :=
  cal_mk F gm (F.binds (ps := ["prime", "one", "other", "third"]) fun _ _ _ _ _ _ us hl => match us, hl with | [_, _, _, _], _ => rfl) (fnD0 _ F sc_in_line fun cdv A outer s H E hr =>
  (dss_cons (ds_asg (vs := [4, 5, 6, 7, 8, 9, 10, 11, 12]) (de_tup (da_cons (de_var (pv 1)) (da_cons (de_var (pv 2)) (da_cons (de_var (pv 3)) da_nil)))) (dg_tup rfl (dgs_cons (dg_tup rfl (dgs_cons (dg_name (pg_name (i := 4) sc_in_line.nd rfl (.inl rfl))) (dgs_cons (dg_name (pg_name (i := 5) sc_in_line.nd rfl (.inl rfl))) (dgs_cons (dg_name (pg_name (i := 6) sc_in_line.nd rfl (.inl rfl))) dgs_nil)))) (dgs_cons (dg_tup rfl (dgs_cons (dg_name (pg_name (i := 7) sc_in_line.nd rfl (.inl rfl))) (dgs_cons (dg_name (pg_name (i := 8) sc_in_line.nd rfl (.inl rfl))) (dgs_cons (dg_name (pg_name (i := 9) sc_in_line.nd rfl (.inl rfl))) dgs_nil)))) (dgs_cons (dg_tup rfl (dgs_cons (dg_name (pg_name (i := 10) sc_in_line.nd rfl (.inl rfl))) (dgs_cons (dg_name (pg_name (i := 11) sc_in_line.nd rfl (.inl rfl))) (dgs_cons (dg_name (pg_name (i := 12) sc_in_line.nd rfl (.inl rfl))) dgs_nil)))) dgs_nil)))))
  (dss_one (ds_ret (de_eq (hu64 hr) (de_mod (de_add (de_add (de_mul (de_var (pv 4)) (de_sub (de_mul (de_var (pv 8)) (de_var (pv 12))) (de_mul (de_var (pv 9)) (de_var (pv 11))))) (de_mul (de_var (pv 5)) (de_sub (de_mul (de_var (pv 9)) (de_var (pv 10))) (de_mul (de_var (pv 7)) (de_var (pv 12)))))) (de_mul (de_var (pv 6)) (de_sub (de_mul (de_var (pv 7)) (de_var (pv 11))) (de_mul (de_var (pv 8)) (de_var (pv 10)))))) (de_var (pv 0))) de_int)))))
abbrev s_threes_of : Stmt := topS 19
abbrev n_threes_of : List Str := ["five", "found", "first", "second", "third"]
theorem sc_threes_of : FnScope n_threes_of ["five"] (defScope s_threes_of) := ⟨rfl, rfl, rfl, by decide +kernel, rfl, by decide +kernel, by decide +kernel⟩
theorem c_threes_of {f : Addr} {fd : FuncData} (F : Fun K "threes_of" "threes_of" s_threes_of f fd) (gm : mg "threes_of" = some (.ref f)) (b_range : mg "range" = none) : Cal P w K mg base CX0 1 "threes_of" 1 f_threes_of :=
  cal_mk F gm (F.binds (ps := ["five"]) fun _ _ _ _ _ _ us hl => match us, hl with | [_], _ => rfl) (fnD0 _ F sc_threes_of fun cdv A outer s H E hr =>
  (dss_cons (ds_ownN (ps_set (i := 1) sc_threes_of.nd rfl (.inl rfl) (df_lst da_nil)))
  (dss_cons (ds_for (vs := [2]) PassesOwn.never rfl (di_rg1 (by rfl) b_range (da_cons de_int da_nil)) (dg_name (pg_name (i := 2) sc_threes_of.nd rfl (.inr rfl)))
  (dss_one (ds_for (vs := [3]) PassesOwn.never rfl (di_rg2 (by rfl) b_range (da_cons (de_add (de_var (pv 2)) de_int) (da_cons de_int da_nil))) (dg_name (pg_name (i := 3) sc_threes_of.nd rfl (.inr rfl)))
  (dss_one (ds_extend (pv 1) (de_df (df_comp (own := [("third", 4)]) rfl sc_threes_of.nd (di_rg2 (by rfl) b_range (da_cons (de_add (de_var (pv 3)) de_int) (da_cons de_int da_nil))) (blkOk_by (N := n_threes_of) (sc := defScope s_threes_of) (own := [("third", 4)]) (by decide +kernel)) (fun _ _ _ _ _ => (dg_name (pg_name (i := 4) sc_threes_of.nd rfl (.inl rfl)))) (fun _ _ _ _ _ => (de_tup (da_cons (de_var (pv 2)) (da_cons (de_var (pv 3)) (da_cons (de_var (pv 4)) da_nil))))))))))))
  (dss_one (ds_frz 1 (ds_ret (de_var (pv 1))))))))
abbrev s_first_in_line : Stmt := topS 20
abbrev n_first_in_line : List Str := ["prime", "five", "first", "second", "third"]
theorem sc_first_in_line : FnScope n_first_in_line ["prime", "five"] (defScope s_first_in_line) := ⟨rfl, rfl, rfl, by decide +kernel, rfl, by decide +kernel, by decide +kernel⟩
theorem c_first_in_line {f : Addr} {fd : FuncData} (F : Fun K "first_in_line" "first_in_line" s_first_in_line f fd) (gm : mg "first_in_line" = some (.ref f)) (c_threes_of : Cal P w K mg base CX0 1 "threes_of" 1 f_threes_of) (c_in_line : Cal P w K mg base CX0 1 "in_line" 4 f_in_line) : Cal P w K mg base CX0 2 "first_in_line" 2 f_first_in_line :=
  cal_mk F gm (F.binds (ps := ["prime", "five"]) fun _ _ _ _ _ _ us hl => match us, hl with | [_, _], _ => rfl) (fnD0 _ F sc_first_in_line fun cdv A outer s H E hr =>
  (dss_cons (ds_for (vs := [2, 3, 4]) PassesOwn.never rfl (di_seq (de_cal c_threes_of (hr.mono (by decide)) (by rfl) rfl pass_0 (da_cons (de_var (pv 1)) da_nil))) (dg_tup rfl (dgs_cons (dg_name (pg_name (i := 2) sc_first_in_line.nd rfl (.inl rfl))) (dgs_cons (dg_name (pg_name (i := 3) sc_first_in_line.nd rfl (.inl rfl))) (dgs_cons (dg_name (pg_name (i := 4) sc_first_in_line.nd rfl (.inl rfl))) dgs_nil))))
  (dss_one (ds_if (dt_val (de_cal c_in_line (hr.mono (by decide)) (by rfl) rfl pass_0 (da_cons (de_var (pv 0)) (da_cons (de_ix (de_var (pv 1)) (de_var (pv 2))) (da_cons (de_ix (de_var (pv 1)) (de_var (pv 3))) (da_cons (de_ix (de_var (pv 1)) (de_var (pv 4))) da_nil)))))) (dss_one (ds_ret (de_df (df_lst (da_cons (de_var (pv 2)) (da_cons (de_var (pv 3)) (da_cons (de_var (pv 4)) da_nil))))))) dss_nil)))
  (dss_one (ds_ret (de_df (df_lst da_nil))))))
abbrev s_rest_of : Stmt := topS 21
abbrev n_rest_of : List Str := ["prime", "form", "line", "both", "one", "other", "first", "last", "mine", "theirs"]
theorem sc_rest_of : FnScope n_rest_of ["prime", "form", "line"] (defScope s_rest_of) := ⟨rfl, rfl, rfl, by decide +kernel, rfl, by decide +kernel, by decide +kernel⟩
theorem c_rest_of {f : Addr} {fd : FuncData} (F : Fun K "rest_of" "rest_of" s_rest_of f fd) (gm : mg "rest_of" = some (.ref f)) (b_tuple : mg "tuple" = none) (b_zip : mg "zip" = none) (c_at_line : Cal P w K mg base CX0 2 "at_line" 3 f_at_line) (c_left_by : Cal P w K mg base CX0 1 "left_by" 3 f_left_by) : Cal P w K mg base CX0 3 "rest_of" 3 f_rest_of :=
  cal_mk F gm (F.binds (ps := ["prime", "form", "line"]) fun _ _ _ _ _ _ us hl => match us, hl with | [_, _, _], _ => rfl) (fnD0 _ F sc_rest_of fun cdv A outer s H E hr =>
  (dss_cons (ds_par (ps_par (i := 4) (j := 5) rfl sc_rest_of.nd rfl rfl (by decide) rfl rfl (da_cons (de_cal c_at_line (hr.mono (by decide)) (by rfl) rfl pass_0 (da_cons (de_var (pv 0)) (da_cons (de_var (pv 2)) (da_cons de_int da_nil)))) (da_cons (de_cal c_at_line (hr.mono (by decide)) (by rfl) rfl pass_0 (da_cons (de_var (pv 0)) (da_cons (de_var (pv 2)) (da_cons de_int da_nil)))) da_nil)) rfl))
  (dss_cons (ds_par (ps_par (i := 6) (j := 7) rfl sc_rest_of.nd rfl rfl (by decide) rfl rfl (da_cons (de_cal c_left_by (hr.mono (by decide)) (by rfl) rfl pass_0 (da_cons (de_var (pv 0)) (da_cons (de_var (pv 1)) (da_cons (de_var (pv 4)) da_nil)))) (da_cons (de_cal c_left_by (hr.mono (by decide)) (by rfl) rfl pass_0 (da_cons (de_var (pv 0)) (da_cons (de_var (pv 1)) (da_cons (de_var (pv 5)) da_nil)))) da_nil)) rfl))
  (dss_cons (ds_asgN (ps_set (i := 3) sc_rest_of.nd rfl (.inl rfl) (de_sub (de_sub (de_cal c_left_by (hr.mono (by decide)) (by rfl) rfl pass_0 (da_cons (de_var (pv 0)) (da_cons (de_var (pv 1)) (da_cons (de_tuple (by rfl) b_tuple (da_cons (de_df (df_comp (own := [("mine", 8), ("theirs", 9)]) rfl sc_rest_of.nd (di_zip (by rfl) b_zip (da_cons (de_var (pv 4)) (da_cons (de_var (pv 5)) da_nil))) (blkOk_by (N := n_rest_of) (sc := defScope s_rest_of) (own := [("mine", 8), ("theirs", 9)]) (by decide +kernel)) (fun _ _ _ _ _ => (dg_tup rfl (dgs_cons (dg_name (pg_name (i := 8) sc_rest_of.nd rfl (.inl rfl))) (dgs_cons (dg_name (pg_name (i := 9) sc_rest_of.nd rfl (.inl rfl))) dgs_nil)))) (fun _ _ _ _ _ => (de_add (de_var (pv 8)) (de_var (pv 9)))))) da_nil)) da_nil)))) (de_var (pv 6))) (de_var (pv 7)))))
  (dss_one (ds_ret (de_mod (de_sub (de_mul (de_var (pv 3)) (de_var (pv 3))) (de_mul (de_mul de_int (de_var (pv 6))) (de_var (pv 7)))) (de_var (pv 0)))))))))
abbrev s_is_square : Stmt := topS 22
abbrev n_is_square : List Str := ["prime", "number", "one"]
theorem sc_is_square : FnScope n_is_square ["prime", "number"] (defScope s_is_square) := ⟨rfl, rfl, rfl, by decide +kernel, rfl, by decide +kernel, by decide +kernel⟩
theorem c_is_square {f : Addr} {fd : FuncData} (F : Fun K "is_square" "is_square" s_is_square f fd) (gm : mg "is_square" = some (.ref f)) (b_any : mg "any" = none) (b_range : mg "range" = none) : Cal P w K mg base CX0 1 "is_square" 2 f_is_square :=
  cal_mk F gm (F.binds (ps := ["prime", "number"]) fun _ _ _ _ _ _ us hl => match us, hl with | [_, _], _ => rfl) (fnD0 _ F sc_is_square fun cdv A outer s H E hr =>
  (dss_one (ds_ret (de_any rfl (by rfl) b_any (da_cons (de_df (df_comp (own := [("one", 2)]) rfl sc_is_square.nd (di_rg1 (by rfl) b_range (da_cons (de_var (pv 0)) da_nil)) (blkOk_by (N := n_is_square) (sc := defScope s_is_square) (own := [("one", 2)]) (by decide +kernel)) (fun _ _ _ _ _ => (dg_name (pg_name (i := 2) sc_is_square.nd rfl (.inl rfl)))) (fun _ _ _ _ _ => (de_eq (hu64 hr) (de_mod (de_mul (de_var (pv 2)) (de_var (pv 2))) (de_var (pv 0))) (de_var (pv 1)))))) da_nil)))))
abbrev s_shared_of : Stmt := topS 27
abbrev n_shared_of : List Str := ["prime", "form", "line", "every", "number", "point"]
theorem sc_shared_of : FnScope n_shared_of ["prime", "form", "line"] (defScope s_shared_of) := ⟨rfl, rfl, rfl, by decide +kernel, rfl, by decide +kernel, by decide +kernel⟩
theorem c_shared_of {f : Addr} {fd : FuncData} (F : Fun K "shared_of" "shared_of" s_shared_of f fd) (gm : mg "shared_of" = some (.ref f)) (b_range : mg "range" = none) (c_at_line : Cal P w K mg base CX0 2 "at_line" 3 f_at_line) (c_left_by : Cal P w K mg base CX0 1 "left_by" 3 f_left_by) : Cal P w K mg base CX0 3 "shared_of" 3 f_shared_of :=
  cal_mk F gm (F.binds (ps := ["prime", "form", "line"]) fun _ _ _ _ _ _ us hl => match us, hl with | [_, _, _], _ => rfl) (fnD0 _ F sc_shared_of fun cdv A outer s H E hr =>
  (dss_cons (ds_asgN (ps_df (da_comp (own := [("number", 4)]) (i := 3) rfl sc_shared_of.nd rfl rfl (sw_true rfl rfl rfl (by decide +kernel)) (di_rg1 (by rfl) b_range (da_cons (de_add (de_var (pv 0)) de_int) da_nil)) (blkOk_by (N := n_shared_of) (sc := defScope s_shared_of) (own := [("number", 4)]) (by decide +kernel)) (fun _ _ _ _ _ => (dg_name (pg_name (i := 4) sc_shared_of.nd rfl (.inl rfl)))) (fun _ _ _ _ _ => (de_cal c_at_line (hr.mono (by decide)) (by rfl) rfl pass_0 (da_cons (de_var (pv 0)) (da_cons (de_var (pv 2)) (da_cons (de_var (pv 4)) da_nil))))))))
  (dss_one (ds_ret (de_df (df_compIf (own := [("point", 5)]) rfl sc_shared_of.nd (di_seq (de_var (pv 3))) (blkOk_by (N := n_shared_of) (sc := defScope s_shared_of) (own := [("point", 5)]) (by decide +kernel)) (fun _ _ _ _ _ => (dg_name (pg_name (i := 5) sc_shared_of.nd rfl (.inl rfl)))) (fun _ _ _ _ _ => (dt_eq (m := true) (hu64 hr) (de_cal c_left_by (hr.mono (by decide)) (by rfl) rfl pass_0 (da_cons (de_var (pv 0)) (da_cons (de_var (pv 1)) (da_cons (de_var (pv 5)) da_nil)))) de_int)) (fun _ _ _ _ _ => (de_var (pv 5)))))))))
abbrev s_through : Stmt := topS 29
abbrev n_through : List Str := ["prime", "five", "rows", "places", "place", "free", "found", "at", "some", "by", "row", "x", "y", "z", "one", "often", "other"]
theorem sc_through : FnScope n_through ["prime", "five"] (defScope s_through) := ⟨rfl, rfl, rfl, by decide +kernel, rfl, by decide +kernel, by decide +kernel⟩
theorem c_through {f : Addr} {fd : FuncData} (F : Fun K "through" "through" s_through f fd) (gm : mg "through" = some (.ref f)) (b_range : mg "range" = none) (b_len : mg "len" = none) (b_zip : mg "zip" = none) (b_enumerate : mg "enumerate" = none) (c_turned : Cal P w K mg base CX0 1 "turned" 2 f_turned) (c_told_of : Cal P w K mg base CX0 2 "told_of" 2 f_told_of) : Cal P w K mg base CX0 3 "through" 2 f_through :=
  cal_mk F gm (F.binds (ps := ["prime", "five"]) fun _ _ _ _ _ _ us hl => match us, hl with | [_, _], _ => rfl) (fnD0 _ F sc_through fun cdv A outer s H E hr =>
  (dss_cons (ds_ownN (ps_set (i := 2) sc_through.nd rfl (.inr rfl) (df_comp (own := [("x", 11), ("y", 12), ("z", 13)]) rfl sc_through.nd (di_seq (de_var (pv 1))) (blkOk_by (N := n_through) (sc := defScope s_through) (own := [("x", 11), ("y", 12), ("z", 13)]) (by decide +kernel)) (fun _ _ _ _ _ => (dg_tup rfl (dgs_cons (dg_name (pg_name (i := 11) sc_through.nd rfl (.inl rfl))) (dgs_cons (dg_name (pg_name (i := 12) sc_through.nd rfl (.inl rfl))) (dgs_cons (dg_name (pg_name (i := 13) sc_through.nd rfl (.inl rfl))) dgs_nil))))) (fun _ _ _ _ _ => (de_df (df_lst (da_cons (de_mul (de_var (pv 11)) (de_var (pv 11))) (da_cons (de_mul (de_var (pv 12)) (de_var (pv 12))) (da_cons (de_mul (de_var (pv 13)) (de_var (pv 13))) (da_cons (de_mul (de_var (pv 11)) (de_var (pv 12))) (da_cons (de_mul (de_var (pv 11)) (de_var (pv 13))) (da_cons (de_mul (de_var (pv 12)) (de_var (pv 13))) da_nil))))))))))))
  (dss_cons (ds_ownN (ps_set (i := 3) sc_through.nd rfl (.inr rfl) (df_lst da_nil)))
  (dss_cons (ds_for (vs := [4]) PassesOwn.never rfl (di_rg1 (by rfl) b_range (da_cons de_int da_nil)) (dg_name (pg_name (i := 4) sc_through.nd rfl (.inr rfl)))
  (dss_cons (ds_asgN (ps_set (i := 7) sc_through.nd rfl (.inl rfl) (de_flat (de_len (by rfl) b_len (da_cons (de_own (pv 3)) da_nil)))))
  (dss_cons (ds_asgN (ps_df (da_compIf (own := [("row", 10)]) (i := 8) rfl sc_through.nd rfl rfl (sw_true rfl rfl rfl (by decide +kernel)) (di_rg2 (by rfl) b_range (da_cons (de_var (pv 7)) (da_cons de_int da_nil))) (blkOk_by (N := n_through) (sc := defScope s_through) (own := [("row", 10)]) (by decide +kernel)) (fun _ _ _ _ _ => (dg_name (pg_name (i := 10) sc_through.nd rfl (.inl rfl)))) (fun _ _ _ _ _ => (dt_ne (m := true) (hu64 hr) (de_mod (de_ix (de_ixO (pv 2) (de_var (pv 10))) (de_var (pv 4))) (de_var (pv 0))) de_int)) (fun _ _ _ _ _ => (de_var (pv 10))))))
  (dss_one (ds_if (dt_gt (m := true) (de_len (by rfl) b_len (da_cons (de_var (pv 8)) da_nil)) de_int) (dss_cons (ds_swap (ps_asg (pe_tup (pa_cons (de_ixO (pv 2) (de_ix (de_var (pv 8)) de_int)) (pa_cons (de_ixO (pv 2) (de_var (pv 7))) pa_nil))) (pg_tup rfl (pgs_cons (pg_sub (pv 2) (de_var (pv 7)) set_list) (pgs_cons (pg_sub (pv 2) (de_ix (de_var (pv 8)) de_int) set_list) pgs_nil)))))
  (dss_cons (ds_asgN (ps_set (i := 9) sc_through.nd rfl (.inr rfl) (de_cal c_turned (hr.mono (by decide)) (by rfl) rfl pass_0 (da_cons (de_var (pv 0)) (da_cons (de_ix (de_ixO (pv 2) (de_var (pv 7))) (de_var (pv 4))) da_nil)))))
  (dss_cons (ds_setIx (pv 2) (de_var (pv 7)) (de_df (df_comp (own := [("one", 14)]) rfl sc_through.nd (di_seq (de_ixO (pv 2) (de_var (pv 7)))) (blkOk_by (N := n_through) (sc := defScope s_through) (own := [("one", 14)]) (by decide +kernel)) (fun _ _ _ _ _ => (dg_name (pg_name (i := 14) sc_through.nd rfl (.inl rfl)))) (fun _ _ _ _ _ => (de_mod (de_mul (de_var (pv 14)) (de_var (pv 9))) (de_var (pv 0)))))) (fun h => pg_sub (pv 2) (de_var (pv 7)) h))
  (dss_cons (ds_for (vs := [10]) PassesOwn.never rfl (di_rg1 (by rfl) b_range (da_cons de_int da_nil)) (dg_name (pg_name (i := 10) sc_through.nd rfl (.inl rfl)))
  (dss_one (ds_if (dt_ne (m := true) (hu64 hr) (de_var (pv 10)) (de_var (pv 7))) (dss_cons (ds_asgN (ps_set (i := 15) sc_through.nd rfl (.inr rfl) (de_ix (de_ixO (pv 2) (de_var (pv 10))) (de_var (pv 4)))))
  (dss_one (ds_setIx (pv 2) (de_var (pv 10)) (de_df (df_comp (own := [("one", 14), ("other", 16)]) rfl sc_through.nd (di_zip (by rfl) b_zip (da_cons (de_ixO (pv 2) (de_var (pv 10))) (da_cons (de_ixO (pv 2) (de_var (pv 7))) da_nil))) (blkOk_by (N := n_through) (sc := defScope s_through) (own := [("one", 14), ("other", 16)]) (by decide +kernel)) (fun _ _ _ _ _ => (dg_tup rfl (dgs_cons (dg_name (pg_name (i := 14) sc_through.nd rfl (.inl rfl))) (dgs_cons (dg_name (pg_name (i := 16) sc_through.nd rfl (.inl rfl))) dgs_nil)))) (fun _ _ _ _ _ => (de_mod (de_sub (de_var (pv 14)) (de_mul (de_var (pv 15)) (de_var (pv 16)))) (de_var (pv 0)))))) (fun h => pg_sub (pv 2) (de_var (pv 10)) h)))) dss_nil)))
  (dss_one (ds_append (pv 3) (de_var (pv 4)))))))) dss_nil)))))
  (dss_cons (ds_frz 3 (ds_asgN (ps_set (i := 5) sc_through.nd rfl (.inl rfl) (de_ix (de_df (df_compIf (own := [("place", 4)]) rfl sc_through.nd (di_rg1 (by rfl) b_range (da_cons de_int da_nil)) (blkOk_by (N := n_through) (sc := defScope s_through) (own := [("place", 4)]) (by decide +kernel)) (fun _ _ _ _ _ => (dg_name (pg_name (i := 4) sc_through.nd rfl (.inl rfl)))) (fun _ _ _ _ _ => (dt_notIn (m := true) (hu65 hr) (de_var (pv 4)) (de_var (pv 3)) (by with_unfolding_all rfl))) (fun _ _ _ _ _ => (de_var (pv 4))))) de_int))))
  (dss_cons (ds_ownN (ps_set (i := 6) sc_through.nd rfl (.inl rfl) (df_rep (de_df (df_lst (da_cons de_int da_nil))) de_int)))
  (dss_cons (ds_setIx (pv 6) (de_var (pv 5)) de_int (fun h => pg_sub (pv 6) (de_var (pv 5)) h))
  (dss_cons (ds_for (vs := [7, 4]) PassesOwn.never rfl (di_enum (by rfl) b_enumerate (da_cons (de_var (pv 3)) da_nil)) (dg_tup rfl (dgs_cons (dg_name (pg_name (i := 7) sc_through.nd rfl (.inl rfl))) (dgs_cons (dg_name (pg_name (i := 4) sc_through.nd rfl (.inr rfl))) dgs_nil)))
  (dss_one (ds_setIx (pv 6) (de_var (pv 4)) (de_neg (de_ix (de_ixO (pv 2) (de_var (pv 7))) (de_var (pv 5)))) (fun h => pg_sub (pv 6) (de_var (pv 4)) h))))
  (dss_one (ds_frz 6 (ds_ret (de_cal c_told_of (hr.mono (by decide)) (by rfl) rfl pass_0 (da_cons (de_var (pv 0)) (da_cons (de_var (pv 6)) da_nil))))))))))))))
abbrev s_Oval_init : Stmt := methS 23 0
abbrev n_Oval_init : List Str := ["self", "form"]
theorem sc_Oval_init : FnScope n_Oval_init ["self", "form"] (defScope s_Oval_init) := ⟨rfl, rfl, rfl, by decide +kernel, rfl, by decide +kernel, by decide +kernel⟩
theorem k_Oval {f : Addr} {fd : FuncData} (F : Fun K "__init__" "Oval.__init__" s_Oval_init f fd) {z : Adr} (cl : Cls K z.Oval ∧ NoAttr K z.Oval "form") (M : Mk K z.Oval f) (g : mg "Oval" = some (.ref z.Oval)) : MkV P w K mg base 1 "Oval" z.Oval "form" :=
  ⟨⟨f, fd, _, M, fnIV F sc_Oval_init cl fun cdv A outer s H E hr => pss_one (ps_fld (pv 0) (pv 1) rfl), g, F.binds (ps := ["self", "form"]) fun _ _ _ _ _ _ us hl => match us, hl with | [_, _], _ => rfl⟩⟩
abbrev s_InLine_init : Stmt := methS 24 0
abbrev n_InLine_init : List Str := ["self", "three"]
theorem sc_InLine_init : FnScope n_InLine_init ["self", "three"] (defScope s_InLine_init) := ⟨rfl, rfl, rfl, by decide +kernel, rfl, by decide +kernel, by decide +kernel⟩
theorem k_InLine {f : Addr} {fd : FuncData} (F : Fun K "__init__" "InLine.__init__" s_InLine_init f fd) {z : Adr} (cl : Cls K z.InLine ∧ NoAttr K z.InLine "three") (M : Mk K z.InLine f) (g : mg "InLine" = some (.ref z.InLine)) (b_list : mg "list" = none) : MkL P w K mg base 1 "InLine" z.InLine "three" :=
  ⟨⟨f, fd, _, M, fnIL F sc_InLine_init cl fun cdv A outer s H E hr => pss_one (ps_fld (pv 0) (pe_callTy call_list_of (by rfl) b_list PyProof.Rows.boot_list (pa_cons (pv 1) pa_nil)) rfl), g, F.binds (ps := ["self", "three"]) fun _ _ _ _ _ _ us hl => match us, hl with | [_, _], _ => rfl⟩⟩
abbrev s_oval : Stmt := topS 30
abbrev n_oval : List Str := ["prime", "five", "point", "three"]
theorem sc_oval : FnScope n_oval ["prime", "five"] (defScope s_oval) := ⟨rfl, rfl, rfl, by decide +kernel, rfl, by decide +kernel, by decide +kernel⟩
theorem c_oval {f : Addr} {fd : FuncData} (F : Fun K "oval" "oval" s_oval f fd) (gm : mg "oval" = some (.ref f)) {z : Adr} (e_BadPoint : ExcC K mg "BadPoint" z.BadPoint) (e_Alike : ExcC K mg "Alike" z.Alike) (b_isinstance : mg "isinstance" = none) (b_list : mg "list" = none) (b_len : mg "len" = none) (b_set : mg "set" = none) (c_check_prime : Cal P w K mg base (L2.CX P w) 2 "check_prime" 1 (f_check_prime z)) (c_check_point : Cal P w K mg base (L2.CX P w) 3 "check_point" 2 (f_check_point z)) (c_first_in_line : Cal P w K mg base CX0 2 "first_in_line" 2 f_first_in_line) (c_through : Cal P w K mg base CX0 3 "through" 2 f_through) (k_Oval : MkV P w K mg base 1 "Oval" z.Oval "form") (k_InLine : MkL P w K mg base 1 "InLine" z.InLine "three") : CalO P w K mg base (L2.CX P w) 4 "oval" 2 (f_oval z) :=
  calO_mk F gm (F.binds (ps := ["prime", "five"]) fun _ _ _ _ _ _ us hl => match us, hl with | [_, _], _ => rfl) (fnOX _ F sc_oval fun cdv A outer s H E hr =>
  (dss_cons (ds_expr (de_cal c_check_prime (hr.mono (by decide)) (by rfl) rfl pass_X (da_cons (de_var (pv 0)) da_nil)))
  (dss_cons (ds_if (PW.pt (dw_or (dt_not (dt_val (de_isT .lst (by rfl) b_isinstance (da_cons (de_var (pv 1)) (da_cons (de_gTy (by rfl) b_list PyProof.Rows.boot_list) da_nil))))) (dw_or1 (dt_ne (m := true) (hu64 hr) (de_len (by rfl) b_len (da_cons (de_var (pv 1)) da_nil)) de_int)))) (dss_one (ds_raise rfl (takes_of rfl rfl rfl rfl) (fun _ _ h => h) (e_BadPoint.mk' (by rfl)))) dss_nil)
  (dss_cons (ds_for (vs := [2]) (passes_of rfl) rfl (di_seq (de_var (pv 1))) (dg_name (pg_name (i := 2) sc_oval.nd rfl (.inl rfl)))
  (dss_one (ds_expr (de_cal c_check_point (hr.mono (by decide)) (by rfl) rfl pass_X (da_cons (de_var (pv 0)) (da_cons (de_var (pv 2)) da_nil))))))
  (dss_cons (ds_if (dt_ne (m := true) (hu64 hr) (de_lenSet rfl (hu64 hr) (by rfl) b_len (by rfl) b_set (de_var (pv 1))) de_int) (dss_one (ds_raise rfl (takes_of rfl rfl rfl rfl) (fun _ _ h => h) (e_Alike.mk' (by rfl)))) dss_nil)
  (dss_cons (ds_asgN (ps_set (i := 3) sc_oval.nd rfl (.inl rfl) (de_cal c_first_in_line (hr.mono (by decide)) (by rfl) rfl pass_0 (da_cons (de_var (pv 0)) (da_cons (de_var (pv 1)) da_nil)))))
  (dss_one (ds_retO (do_if (dt_eq (m := true) (hu64 hr) (de_var (pv 3)) (de_df (df_lst da_nil))) (do_de (de_mkV k_Oval (hr.mono (by decide)) (by rfl) (da_cons (de_cal c_through (hr.mono (by decide)) (by rfl) rfl pass_0 (da_cons (de_var (pv 0)) (da_cons (de_var (pv 1)) da_nil))) da_nil))) (do_mkL k_InLine (hr.mono (by decide)) (by rfl) (da_cons (de_var (pv 3)) da_nil)))))))))))
abbrev s_l_cell_at : Stmt := topS 32
abbrev n_l_cell_at : List Str := ["_law_script", "_law_k"]
theorem sc_l_cell_at : FnScope n_l_cell_at ["_law_script", "_law_k"] (defScope s_l_cell_at) := ⟨rfl, rfl, rfl, by decide +kernel, rfl, by decide +kernel, by decide +kernel⟩
theorem c_l_cell_at {f : Addr} {fd : FuncData} (F : Fun K "_law_cell_at" "_law_cell_at" s_l_cell_at f fd) (gm : mg "_law_cell_at" = some (.ref f)) (b_len : mg "len" = none) : Cal P w K mg base CX0 1 "_law_cell_at" 2 f_l_cell_at :=
  cal_mk F gm (F.binds (ps := ["_law_script", "_law_k"]) fun _ _ _ _ _ _ us hl => match us, hl with | [_, _], _ => rfl) (fnD0 _ F sc_l_cell_at fun cdv A outer s H E hr =>
  (dss_cons (ds_if (dt_lt (m := true) (de_var (pv 1)) (de_len (by rfl) b_len (da_cons (de_var (pv 0)) da_nil))) (dss_one (ds_ret (de_ix (de_var (pv 0)) (de_var (pv 1))))) dss_nil)
  (dss_one (ds_ret de_int))))
abbrev s_l_draw : Stmt := topS 33
abbrev n_l_draw : List Str := ["_law_cell", "_law_k", "_law_many", "_law_primes"]
theorem sc_l_draw : FnScope n_l_draw ["_law_cell", "_law_k", "_law_many"] (defScope s_l_draw) := ⟨rfl, rfl, rfl, by decide +kernel, rfl, by decide +kernel, by decide +kernel⟩
theorem c_l_draw {f : Addr} {fd : FuncData} (F : Fun K "_law_draw" "_law_draw" s_l_draw f fd) (gm : mg "_law_draw" = some (.ref f)) : Cal P w K mg base CX0 1 "_law_draw" 3 f_l_draw :=
  cal_mk F gm (F.binds (ps := ["_law_cell", "_law_k", "_law_many"]) fun _ _ _ _ _ _ us hl => match us, hl with | [_, _, _], _ => rfl) (fnD0 _ F sc_l_draw fun cdv A outer s H E hr =>
  (dss_cons (ds_asgN (ps_set (i := 3) sc_l_draw.nd rfl (.inl rfl) (de_tup (da_cons de_int (da_cons de_int (da_cons de_int (da_cons de_int (da_cons de_int (da_cons de_int (da_cons de_int (da_cons de_int (da_cons de_int (da_cons de_int (da_cons de_int (da_cons de_int (da_cons de_int (da_cons de_int (da_cons de_int (da_cons de_int da_nil)))))))))))))))))))
  (dss_one (ds_ret (de_mod (de_mod (de_add (de_mul (de_var (pv 0)) de_int) (de_mul (de_var (pv 1)) de_int)) (de_ix (de_var (pv 3)) (de_mod (de_var (pv 1)) de_int))) (de_var (pv 2)))))))
abbrev s_l_value : Stmt := topS 34
abbrev n_l_value : List Str := ["_law_cell", "_law_k"]
theorem sc_l_value : FnScope n_l_value ["_law_cell", "_law_k"] (defScope s_l_value) := ⟨rfl, rfl, rfl, by decide +kernel, rfl, by decide +kernel, by decide +kernel⟩
theorem c_l_value {f : Addr} {fd : FuncData} (F : Fun K "_law_value" "_law_value" s_l_value f fd) (gm : mg "_law_value" = some (.ref f)) (c_l_draw : Cal P w K mg base CX0 1 "_law_draw" 3 f_l_draw) : Cal P w K mg base CX0 2 "_law_value" 2 f_l_value :=
  cal_mk F gm (F.binds (ps := ["_law_cell", "_law_k"]) fun _ _ _ _ _ _ us hl => match us, hl with | [_, _], _ => rfl) (fnD0 _ F sc_l_value fun cdv A outer s H E hr =>
  (dss_cons (ds_if (dt_ge (m := true) (de_var (pv 0)) (de_pow de_int de_int)) (dss_one (ds_ret (de_fdiv (de_sub (de_var (pv 0)) (de_pow de_int de_int)) (de_ix (de_tup (da_cons de_int (da_cons de_int (da_cons de_int (da_cons de_int da_nil))))) (de_mod (de_var (pv 1)) de_int))))) dss_nil)
  (dss_one (ds_ret (de_cal c_l_draw (hr.mono (by decide)) (by rfl) rfl pass_0 (da_cons (de_mul (de_add (de_var (pv 0)) (de_mul de_int (de_var (pv 1)))) (de_add (de_add (de_var (pv 0)) (de_mul de_int (de_var (pv 1)))) de_int)) (da_cons (de_add (de_mod (de_var (pv 1)) de_int) de_int) (da_cons de_int da_nil))))))))
abbrev s_l_prime : Stmt := topS 35
abbrev n_l_prime : List Str := ["_law_script", "_law_k", "_law_cell", "_law_found", "_law_part"]
theorem sc_l_prime : FnScope n_l_prime ["_law_script", "_law_k"] (defScope s_l_prime) := ⟨rfl, rfl, rfl, by decide +kernel, rfl, by decide +kernel, by decide +kernel⟩
theorem c_l_prime {f : Addr} {fd : FuncData} (F : Fun K "_law_prime" "_law_prime" s_l_prime f fd) (gm : mg "_law_prime" = some (.ref f)) (b_any : mg "any" = none) (b_range : mg "range" = none) (c_l_cell_at : Cal P w K mg base CX0 1 "_law_cell_at" 2 f_l_cell_at) (c_l_draw : Cal P w K mg base CX0 1 "_law_draw" 3 f_l_draw) : Cal P w K mg base CX0 2 "_law_prime" 2 f_l_prime :=
  cal_mk F gm (F.binds (ps := ["_law_script", "_law_k"]) fun _ _ _ _ _ _ us hl => match us, hl with | [_, _], _ => rfl) (fnD0 _ F sc_l_prime fun cdv A outer s H E hr =>
  (dss_cons (ds_asgN (ps_set (i := 2) sc_l_prime.nd rfl (.inl rfl) (de_mod (de_cal c_l_cell_at (hr.mono (by decide)) (by rfl) rfl pass_0 (da_cons (de_var (pv 0)) (da_cons (de_var (pv 1)) da_nil))) (de_pow de_int de_int))))
  (dss_cons (ds_asgN (ps_set (i := 3) sc_l_prime.nd rfl (.inr rfl) (de_ix (de_tup (da_cons de_int (da_cons de_int (da_cons (de_add de_int (de_cal c_l_draw (hr.mono (by decide)) (by rfl) rfl pass_0 (da_cons (de_var (pv 2)) (da_cons de_int (da_cons de_int da_nil))))) (da_cons (de_add de_int (de_cal c_l_draw (hr.mono (by decide)) (by rfl) rfl pass_0 (da_cons (de_var (pv 2)) (da_cons de_int (da_cons (de_if (dt_eq (m := true) (hu64 hr) (de_var (pv 1)) de_int) de_int de_int) da_nil))))) da_nil))))) (de_cal c_l_draw (hr.mono (by decide)) (by rfl) rfl pass_0 (da_cons (de_var (pv 2)) (da_cons de_int (da_cons de_int da_nil)))))))
  (dss_cons (ds_while (fun _ => 1000) PassesOwn.never (dt_val (de_any rfl (by rfl) b_any (da_cons (de_df (df_compIf (own := [("_law_part", 4)]) rfl sc_l_prime.nd (di_rg2 (by rfl) b_range (da_cons de_int (da_cons de_int da_nil))) (blkOk_by (N := n_l_prime) (sc := defScope s_l_prime) (own := [("_law_part", 4)]) (by decide +kernel)) (fun _ _ _ _ _ => (dg_name (pg_name (i := 4) sc_l_prime.nd rfl (.inl rfl)))) (fun _ _ _ _ _ => (dt_lt (m := true) (de_var (pv 4)) (de_var (pv 3)))) (fun _ _ _ _ _ => (de_eq (hu64 hr) (de_mod (de_var (pv 3)) (de_var (pv 4))) de_int)))) da_nil)))
  (dss_one (ds_asgN (ps_set (i := 3) sc_l_prime.nd rfl (.inr rfl) (de_add (de_var (pv 3)) de_int)))))
  (dss_one (ds_ret (de_var (pv 3))))))))
abbrev s_l_triple : Stmt := topS 36
abbrev n_l_triple : List Str := ["_law_prime_here", "_law_number"]
theorem sc_l_triple : FnScope n_l_triple ["_law_prime_here", "_law_number"] (defScope s_l_triple) := ⟨rfl, rfl, rfl, by decide +kernel, rfl, by decide +kernel, by decide +kernel⟩
theorem c_l_triple {f : Addr} {fd : FuncData} (F : Fun K "_law_triple" "_law_triple" s_l_triple f fd) (gm : mg "_law_triple" = some (.ref f)) : Cal P w K mg base CX0 1 "_law_triple" 2 f_l_triple :=
  cal_mk F gm (F.binds (ps := ["_law_prime_here", "_law_number"]) fun _ _ _ _ _ _ us hl => match us, hl with | [_, _], _ => rfl) (fnD0 _ F sc_l_triple fun cdv A outer s H E hr =>
  (dss_cons (ds_asgN (ps_set (i := 1) sc_l_triple.nd rfl (.inl rfl) (de_mod (de_var (pv 1)) (de_add (de_add (de_mul (de_var (pv 0)) (de_var (pv 0))) (de_var (pv 0))) de_int))))
  (dss_cons (ds_if (dt_le (m := true) (de_var (pv 1)) (de_var (pv 0))) (dss_one (ds_ret (de_if (dt_eq (m := true) (hu64 hr) (de_var (pv 1)) de_int) (de_tup (da_cons de_int (da_cons de_int (da_cons de_int da_nil)))) (de_tup (da_cons de_int (da_cons de_int (da_cons (de_sub (de_var (pv 1)) de_int) da_nil))))))) dss_nil)
  (dss_one (ds_ret (de_tup (da_cons de_int (da_cons (de_fdiv (de_sub (de_sub (de_var (pv 1)) (de_var (pv 0))) de_int) (de_var (pv 0))) (da_cons (de_mod (de_sub (de_var (pv 1)) de_int) (de_var (pv 0))) da_nil)))))))))
abbrev s_l_triples : Stmt := topS 37
abbrev n_l_triples : List Str := ["_law_script", "_law_k", "_law_prime_here", "_law_many", "_law_kind", "_law_found", "_law_turn", "_law_number", "_law_one"]
theorem sc_l_triples : FnScope n_l_triples ["_law_script", "_law_k", "_law_prime_here", "_law_many"] (defScope s_l_triples) := ⟨rfl, rfl, rfl, by decide +kernel, rfl, by decide +kernel, by decide +kernel⟩
theorem c_l_triples {f : Addr} {fd : FuncData} (F : Fun K "_law_triples" "_law_triples" s_l_triples f fd) (gm : mg "_law_triples" = some (.ref f)) (b_len : mg "len" = none) (c_l_draw : Cal P w K mg base CX0 1 "_law_draw" 3 f_l_draw) (c_l_cell_at : Cal P w K mg base CX0 1 "_law_cell_at" 2 f_l_cell_at) (c_l_value : Cal P w K mg base CX0 2 "_law_value" 2 f_l_value) (c_l_triple : Cal P w K mg base CX0 1 "_law_triple" 2 f_l_triple) : Cal P w K mg base CX0 3 "_law_triples" 4 f_l_triples :=
  cal_mk F gm (F.binds (ps := ["_law_script", "_law_k", "_law_prime_here", "_law_many"]) fun _ _ _ _ _ _ us hl => match us, hl with | [_, _, _, _], _ => rfl) (fnD0 _ F sc_l_triples fun cdv A outer s H E hr =>
  (dss_cons (ds_parO (ps_par (i := 5) (j := 6) rfl sc_l_triples.nd rfl rfl (by decide) rfl rfl (pa_cons (df_lst da_nil) (pa_cons de_int pa_nil)) rfl))
  (dss_cons (ds_asgN (ps_set (i := 4) sc_l_triples.nd rfl (.inl rfl) (de_cal c_l_draw (hr.mono (by decide)) (by rfl) rfl pass_0 (da_cons (de_add (de_mod (de_cal c_l_cell_at (hr.mono (by decide)) (by rfl) rfl pass_0 (da_cons (de_var (pv 0)) (da_cons (de_add (de_var (pv 1)) de_int) da_nil))) (de_pow de_int de_int)) (de_var (pv 1))) (da_cons de_int (da_cons de_int da_nil))))))
  (dss_cons (ds_while (fun _ => 10 ^ 300) PassesOwn.never (dt_lt (m := true) (de_len (by rfl) b_len (da_cons (de_own (pv 5)) da_nil)) (de_var (pv 3)))
  (dss_cons (ds_asgN (ps_set (i := 7) sc_l_triples.nd rfl (.inl rfl) (de_add (de_cal c_l_value (hr.mono (by decide)) (by rfl) rfl pass_0 (da_cons (de_cal c_l_cell_at (hr.mono (by decide)) (by rfl) rfl pass_0 (da_cons (de_var (pv 0)) (da_cons (de_add (de_var (pv 1)) (de_mod (de_var (pv 6)) de_int)) da_nil))) (da_cons (de_add (de_var (pv 1)) (de_mul de_int (de_var (pv 6)))) da_nil))) (de_mul (de_mul (de_var (pv 6)) (de_var (pv 6))) de_int))))
  (dss_cons (ds_asgN (ps_set (i := 8) sc_l_triples.nd rfl (.inl rfl) (de_cal c_l_triple (hr.mono (by decide)) (by rfl) rfl pass_0 (da_cons (de_var (pv 2)) (da_cons (de_if (dt_gt (m := true) (de_var (pv 4)) de_int) (de_fdiv (de_var (pv 7)) (de_ix (de_tup (da_cons de_int (da_cons de_int da_nil))) (de_mod (de_var (pv 6)) de_int))) (de_add (de_mod (de_var (pv 7)) (de_add (de_var (pv 2)) de_int)) (de_mul de_int (de_var (pv 6))))) da_nil)))))
  (dss_cons (ds_if (dt_notIn (m := true) (hu65 hr) (de_var (pv 8)) (de_own (pv 5)) (by with_unfolding_all rfl)) (dss_one (ds_append (pv 5) (de_var (pv 8)))) dss_nil)
  (dss_one (ds_asgN (ps_set (i := 6) sc_l_triples.nd rfl (.inl rfl) (de_add (de_var (pv 6)) de_int))))))))
  (dss_one (ds_frz 5 (ds_ret (de_var (pv 5)))))))))
abbrev s_l_told : Stmt := topS 38
abbrev n_l_told : List Str := ["_law_prime_here", "_law_some", "_law_number", "_law_by", "_law_left_here", "_law_one"]
theorem sc_l_told : FnScope n_l_told ["_law_prime_here", "_law_some"] (defScope s_l_told) := ⟨rfl, rfl, rfl, by decide +kernel, rfl, by decide +kernel, by decide +kernel⟩
theorem c_l_told {f : Addr} {fd : FuncData} (F : Fun K "_law_told" "_law_told" s_l_told f fd) (gm : mg "_law_told" = some (.ref f)) (b_tuple : mg "tuple" = none) : Cal P w K mg base CX0 1 "_law_told" 2 f_l_told :=
  cal_mk F gm (F.binds (ps := ["_law_prime_here", "_law_some"]) fun _ _ _ _ _ _ us hl => match us, hl with | [_, _], _ => rfl) (fnD0 _ F sc_l_told fun cdv A outer s H E hr =>
  (dss_cons (ds_asgN (ps_set (i := 2) sc_l_told.nd rfl (.inl rfl) (de_ix (de_df (df_compIf (own := [("_law_one", 5)]) rfl sc_l_told.nd (di_seq (de_var (pv 1))) (blkOk_by (N := n_l_told) (sc := defScope s_l_told) (own := [("_law_one", 5)]) (by decide +kernel)) (fun _ _ _ _ _ => (dg_name (pg_name (i := 5) sc_l_told.nd rfl (.inl rfl)))) (fun _ _ _ _ _ => (dt_gt (m := true) (de_mod (de_var (pv 5)) (de_var (pv 0))) de_int)) (fun _ _ _ _ _ => (de_mod (de_var (pv 5)) (de_var (pv 0)))))) de_int)))
  (dss_cons (ds_asg (vs := [3, 4]) (de_tup (da_cons de_int (da_cons (de_sub (de_var (pv 0)) de_int) da_nil))) (dg_tup rfl (dgs_cons (dg_name (pg_name (i := 3) sc_l_told.nd rfl (.inr rfl))) (dgs_cons (dg_name (pg_name (i := 4) sc_l_told.nd rfl (.inl rfl))) dgs_nil))))
  (dss_cons (ds_while (fun _ => 20) PassesOwn.never (dt_gt (m := true) (de_var (pv 4)) de_int)
  (dss_cons (ds_if (dt_eq (m := true) (hu64 hr) (de_mod (de_var (pv 4)) de_int) de_int) (dss_one (ds_asgN (ps_set (i := 3) sc_l_told.nd rfl (.inr rfl) (de_mod (de_mul (de_var (pv 3)) (de_var (pv 2))) (de_var (pv 0)))))) dss_nil)
  (dss_one (ds_par (ps_par (i := 2) (j := 4) rfl sc_l_told.nd rfl rfl (by decide) rfl rfl (da_cons (de_mod (de_mul (de_var (pv 2)) (de_var (pv 2))) (de_var (pv 0))) (da_cons (de_fdiv (de_var (pv 4)) de_int) da_nil)) rfl)))))
  (dss_one (ds_ret (de_tuple (by rfl) b_tuple (da_cons (de_df (df_comp (own := [("_law_one", 5)]) rfl sc_l_told.nd (di_seq (de_var (pv 1))) (blkOk_by (N := n_l_told) (sc := defScope s_l_told) (own := [("_law_one", 5)]) (by decide +kernel)) (fun _ _ _ _ _ => (dg_name (pg_name (i := 5) sc_l_told.nd rfl (.inl rfl)))) (fun _ _ _ _ _ => (de_mod (de_mul (de_var (pv 5)) (de_var (pv 3))) (de_var (pv 0)))))) da_nil))))))))
abbrev s_l_cross : Stmt := topS 39
abbrev n_l_cross : List Str := ["_law_prime_here", "_law_one", "_law_other", "_law_found", "_law_at", "_law_near", "_law_far"]
theorem sc_l_cross : FnScope n_l_cross ["_law_prime_here", "_law_one", "_law_other"] (defScope s_l_cross) := ⟨rfl, rfl, rfl, by decide +kernel, rfl, by decide +kernel, by decide +kernel⟩
theorem c_l_cross {f : Addr} {fd : FuncData} (F : Fun K "_law_cross" "_law_cross" s_l_cross f fd) (gm : mg "_law_cross" = some (.ref f)) (b_range : mg "range" = none) (c_l_told : Cal P w K mg base CX0 1 "_law_told" 2 f_l_told) : Cal P w K mg base CX0 2 "_law_cross" 3 f_l_cross :=
  cal_mk F gm (F.binds (ps := ["_law_prime_here", "_law_one", "_law_other"]) fun _ _ _ _ _ _ us hl => match us, hl with | [_, _, _], _ => rfl) (fnD0 _ F sc_l_cross fun cdv A outer s H E hr =>
  (dss_cons (ds_ownN (ps_set (i := 3) sc_l_cross.nd rfl (.inl rfl) (df_lst da_nil)))
  (dss_cons (ds_for (vs := [4]) PassesOwn.never rfl (di_rg1 (by rfl) b_range (da_cons de_int da_nil)) (dg_name (pg_name (i := 4) sc_l_cross.nd rfl (.inl rfl)))
  (dss_cons (ds_par (ps_par (i := 5) (j := 6) rfl sc_l_cross.nd rfl rfl (by decide) rfl rfl (da_cons (de_mod (de_add (de_var (pv 4)) de_int) de_int) (da_cons (de_mod (de_add (de_var (pv 4)) de_int) de_int) da_nil)) rfl))
  (dss_one (ds_append (pv 3) (de_sub (de_mul (de_ix (de_var (pv 1)) (de_var (pv 5))) (de_ix (de_var (pv 2)) (de_var (pv 6)))) (de_mul (de_ix (de_var (pv 1)) (de_var (pv 6))) (de_ix (de_var (pv 2)) (de_var (pv 5)))))))))
  (dss_one (ds_frz 3 (ds_ret (de_cal c_l_told (hr.mono (by decide)) (by rfl) rfl pass_0 (da_cons (de_var (pv 0)) (da_cons (de_var (pv 3)) da_nil)))))))))
abbrev s_l_on : Stmt := topS 40
abbrev n_l_on : List Str := ["_law_prime_here", "_law_point", "_law_line", "_law_mine", "_law_theirs"]
theorem sc_l_on : FnScope n_l_on ["_law_prime_here", "_law_point", "_law_line"] (defScope s_l_on) := ⟨rfl, rfl, rfl, by decide +kernel, rfl, by decide +kernel, by decide +kernel⟩
theorem c_l_on {f : Addr} {fd : FuncData} (F : Fun K "_law_on" "_law_on" s_l_on f fd) (gm : mg "_law_on" = some (.ref f)) (b_sum : mg "sum" = none) (b_zip : mg "zip" = none) : Cal P w K mg base CX0 1 "_law_on" 3 f_l_on :=
  cal_mk F gm (F.binds (ps := ["_law_prime_here", "_law_point", "_law_line"]) fun _ _ _ _ _ _ us hl => match us, hl with | [_, _, _], _ => rfl) (fnD0 _ F sc_l_on fun cdv A outer s H E hr =>
  (dss_one (ds_ret (de_eq (hu64 hr) (de_mod (de_sum rfl (by rfl) b_sum (da_cons (de_df (df_comp (own := [("_law_mine", 3), ("_law_theirs", 4)]) rfl sc_l_on.nd (di_zip (by rfl) b_zip (da_cons (de_var (pv 1)) (da_cons (de_var (pv 2)) da_nil))) (blkOk_by (N := n_l_on) (sc := defScope s_l_on) (own := [("_law_mine", 3), ("_law_theirs", 4)]) (by decide +kernel)) (fun _ _ _ _ _ => (dg_tup rfl (dgs_cons (dg_name (pg_name (i := 3) sc_l_on.nd rfl (.inl rfl))) (dgs_cons (dg_name (pg_name (i := 4) sc_l_on.nd rfl (.inl rfl))) dgs_nil)))) (fun _ _ _ _ _ => (de_mul (de_var (pv 3)) (de_var (pv 4)))))) da_nil)) (de_var (pv 0))) de_int))))
abbrev s_l_in_line : Stmt := topS 41
abbrev n_l_in_line : List Str := ["_law_prime_here", "_law_one", "_law_other", "_law_third"]
theorem sc_l_in_line : FnScope n_l_in_line ["_law_prime_here", "_law_one", "_law_other", "_law_third"] (defScope s_l_in_line) := ⟨rfl, rfl, rfl, by decide +kernel, rfl, by decide +kernel, by decide +kernel⟩
theorem c_l_in_line {f : Addr} {fd : FuncData} (F : Fun K "_law_in_line" "_law_in_line" s_l_in_line f fd) (gm : mg "_law_in_line" = some (.ref f)) (c_l_on : Cal P w K mg base CX0 1 "_law_on" 3 f_l_on) (c_l_cross : Cal P w K mg base CX0 2 "_law_cross" 3 f_l_cross) : Cal P w K mg base CX0 3 "_law_in_line" 4 f_l_in_line :=
  cal_mk F gm (F.binds (ps := ["_law_prime_here", "_law_one", "_law_other", "_law_third"]) fun _ _ _ _ _ _ us hl => match us, hl with | [_, _, _, _], _ => rfl) (fnD0 _ F sc_l_in_line fun cdv A outer s H E hr =>
  (dss_one (ds_ret (de_cal c_l_on (hr.mono (by decide)) (by rfl) rfl pass_0 (da_cons (de_var (pv 0)) (da_cons (de_var (pv 3)) (da_cons (de_cal c_l_cross (hr.mono (by decide)) (by rfl) rfl pass_0 (da_cons (de_var (pv 0)) (da_cons (de_var (pv 1)) (da_cons (de_var (pv 2)) da_nil)))) da_nil)))))))
abbrev s_l_spanned : Stmt := topS 43
abbrev n_l_spanned : List Str := ["_law_prime_here", "_law_line", "_law_both", "_law_one", "_law_other", "_law_found", "_law_often", "_law_a", "_law_b", "_law_c", "_law_more", "_law_number", "_law_mine", "_law_theirs"]
theorem sc_l_spanned : FnScope n_l_spanned ["_law_prime_here", "_law_line"] (defScope s_l_spanned) := ⟨rfl, rfl, rfl, by decide +kernel, rfl, by decide +kernel, by decide +kernel⟩
theorem c_l_spanned {f : Addr} {fd : FuncData} (F : Fun K "_law_spanned" "_law_spanned" s_l_spanned f fd) (gm : mg "_law_spanned" = some (.ref f)) (b_any : mg "any" = none) (b_range : mg "range" = none) (b_tuple : mg "tuple" = none) (b_zip : mg "zip" = none) (c_l_told : Cal P w K mg base CX0 1 "_law_told" 2 f_l_told) : Cal P w K mg base CX0 2 "_law_spanned" 2 f_l_spanned :=
  cal_mk F gm (F.binds (ps := ["_law_prime_here", "_law_line"]) fun _ _ _ _ _ _ us hl => match us, hl with | [_, _], _ => rfl) (fnD0 _ F sc_l_spanned fun cdv A outer s H E hr =>
  (dss_cons (ds_asg (vs := [7, 8, 9]) (de_var (pv 1)) (dg_tup rfl (dgs_cons (dg_name (pg_name (i := 7) sc_l_spanned.nd rfl (.inl rfl))) (dgs_cons (dg_name (pg_name (i := 8) sc_l_spanned.nd rfl (.inl rfl))) (dgs_cons (dg_name (pg_name (i := 9) sc_l_spanned.nd rfl (.inl rfl))) dgs_nil)))))
  (dss_cons (ds_asgN (ps_df (da_compIf (own := [("_law_one", 3)]) (i := 2) rfl sc_l_spanned.nd rfl rfl (sw_true rfl rfl rfl (by decide +kernel)) (di_seq (de_tup (da_cons (de_tup (da_cons de_int (da_cons (de_var (pv 9)) (da_cons (de_neg (de_var (pv 8))) da_nil)))) (da_cons (de_tup (da_cons (de_neg (de_var (pv 9))) (da_cons de_int (da_cons (de_var (pv 7)) da_nil)))) (da_cons (de_tup (da_cons (de_var (pv 8)) (da_cons (de_neg (de_var (pv 7))) (da_cons de_int da_nil)))) da_nil))))) (blkOk_by (N := n_l_spanned) (sc := defScope s_l_spanned) (own := [("_law_one", 3)]) (by decide +kernel)) (fun _ _ _ _ _ => (dg_name (pg_name (i := 3) sc_l_spanned.nd rfl (.inl rfl)))) (fun _ _ _ _ _ => (dt_val (de_any rfl (by rfl) b_any (da_cons (de_df (df_comp (own := [("_law_number", 11)]) rfl sc_l_spanned.nd (di_seq (de_var (pv 3))) (blkOk_by (N := n_l_spanned) (sc := relS _ (defScope s_l_spanned)) (own := [("_law_number", 11)]) (by decide +kernel)) (fun _ _ _ _ _ => (dg_name (pg_name (i := 11) sc_l_spanned.nd rfl (.inl rfl)))) (fun _ _ _ _ _ => (de_gt (de_mod (de_var (pv 11)) (de_var (pv 0))) de_int)))) da_nil)))) (fun _ _ _ _ _ => (de_var (pv 3))))))
  (dss_cons (ds_asgN (ps_set (i := 3) sc_l_spanned.nd rfl (.inr rfl) (de_cal c_l_told (hr.mono (by decide)) (by rfl) rfl pass_0 (da_cons (de_var (pv 0)) (da_cons (de_ix (de_var (pv 2)) de_int) da_nil)))))
  (dss_cons (ds_asgN (ps_set (i := 4) sc_l_spanned.nd rfl (.inl rfl) (de_ix (de_df (df_compIf (own := [("_law_more", 10)]) rfl sc_l_spanned.nd (di_seq (de_var (pv 2))) (blkOk_by (N := n_l_spanned) (sc := defScope s_l_spanned) (own := [("_law_more", 10)]) (by decide +kernel)) (fun _ _ _ _ _ => (dg_name (pg_name (i := 10) sc_l_spanned.nd rfl (.inl rfl)))) (fun _ _ _ _ _ => (dt_ne (m := true) (hu64 hr) (de_cal c_l_told (hr.mono (by decide)) (by rfl) rfl pass_0 (da_cons (de_var (pv 0)) (da_cons (de_var (pv 10)) da_nil))) (de_var (pv 3)))) (fun _ _ _ _ _ => (de_var (pv 10))))) de_int)))
  (dss_cons (ds_ownN (ps_set (i := 5) sc_l_spanned.nd rfl (.inl rfl) (df_lst (da_cons (de_var (pv 3)) da_nil))))
  (dss_cons (ds_for (vs := [6]) PassesOwn.never rfl (di_rg1 (by rfl) b_range (da_cons (de_var (pv 0)) da_nil)) (dg_name (pg_name (i := 6) sc_l_spanned.nd rfl (.inr rfl)))
  (dss_one (ds_append (pv 5) (de_tuple (by rfl) b_tuple (da_cons (de_df (df_comp (own := [("_law_mine", 12), ("_law_theirs", 13)]) rfl sc_l_spanned.nd (di_zip (by rfl) b_zip (da_cons (de_var (pv 4)) (da_cons (de_var (pv 3)) da_nil))) (blkOk_by (N := n_l_spanned) (sc := defScope s_l_spanned) (own := [("_law_mine", 12), ("_law_theirs", 13)]) (by decide +kernel)) (fun _ _ _ _ _ => (dg_tup rfl (dgs_cons (dg_name (pg_name (i := 12) sc_l_spanned.nd rfl (.inl rfl))) (dgs_cons (dg_name (pg_name (i := 13) sc_l_spanned.nd rfl (.inl rfl))) dgs_nil)))) (fun _ _ _ _ _ => (de_add (de_var (pv 12)) (de_mul (de_var (pv 6)) (de_var (pv 13))))))) da_nil)))))
  (dss_one (ds_frz 5 (ds_ret (de_var (pv 5))))))))))))
abbrev s_l_points : Stmt := topS 42
abbrev n_l_points : List Str := ["_law_prime_here", "_law_line", "_law_one"]
theorem sc_l_points : FnScope n_l_points ["_law_prime_here", "_law_line"] (defScope s_l_points) := ⟨rfl, rfl, rfl, by decide +kernel, rfl, by decide +kernel, by decide +kernel⟩
theorem c_l_points {f : Addr} {fd : FuncData} (F : Fun K "_law_points" "_law_points" s_l_points f fd) (gm : mg "_law_points" = some (.ref f)) (b_sorted : mg "sorted" = none) (c_l_spanned : Cal P w K mg base CX0 2 "_law_spanned" 2 f_l_spanned) (c_l_told : Cal P w K mg base CX0 1 "_law_told" 2 f_l_told) : Cal P w K mg base CX0 3 "_law_points" 2 f_l_points :=
  cal_mk F gm (F.binds (ps := ["_law_prime_here", "_law_line"]) fun _ _ _ _ _ _ us hl => match us, hl with | [_, _], _ => rfl) (fnD0 _ F sc_l_points fun cdv A outer s H E hr =>
  (dss_one (ds_ret (de_df (df_sortT (by rfl) b_sorted (da_cons (de_df (df_comp (own := [("_law_one", 2)]) rfl sc_l_points.nd (di_seq (de_cal c_l_spanned (hr.mono (by decide)) (by rfl) rfl pass_0 (da_cons (de_var (pv 0)) (da_cons (de_var (pv 1)) da_nil)))) (blkOk_by (N := n_l_points) (sc := defScope s_l_points) (own := [("_law_one", 2)]) (by decide +kernel)) (fun _ _ _ _ _ => (dg_name (pg_name (i := 2) sc_l_points.nd rfl (.inl rfl)))) (fun _ _ _ _ _ => (de_cal c_l_told (hr.mono (by decide)) (by rfl) rfl pass_0 (da_cons (de_var (pv 0)) (da_cons (de_var (pv 2)) da_nil)))))) da_nil))))))
abbrev s_l_left : Stmt := topS 44
abbrev n_l_left : List Str := ["_law_prime_here", "_law_form", "_law_point", "_law_parts", "_law_x", "_law_y", "_law_z", "_law_one", "_law_part"]
theorem sc_l_left : FnScope n_l_left ["_law_prime_here", "_law_form", "_law_point"] (defScope s_l_left) := ⟨rfl, rfl, rfl, by decide +kernel, rfl, by decide +kernel, by decide +kernel⟩
theorem c_l_left {f : Addr} {fd : FuncData} (F : Fun K "_law_left" "_law_left" s_l_left f fd) (gm : mg "_law_left" = some (.ref f)) (b_sum : mg "sum" = none) (b_zip : mg "zip" = none) : Cal P w K mg base CX0 1 "_law_left" 3 f_l_left :=
  cal_mk F gm (F.binds (ps := ["_law_prime_here", "_law_form", "_law_point"]) fun _ _ _ _ _ _ us hl => match us, hl with | [_, _, _], _ => rfl) (fnD0 _ F sc_l_left fun cdv A outer s H E hr =>
  (dss_cons (ds_asg (vs := [4, 5, 6]) (de_var (pv 2)) (dg_tup rfl (dgs_cons (dg_name (pg_name (i := 4) sc_l_left.nd rfl (.inl rfl))) (dgs_cons (dg_name (pg_name (i := 5) sc_l_left.nd rfl (.inl rfl))) (dgs_cons (dg_name (pg_name (i := 6) sc_l_left.nd rfl (.inl rfl))) dgs_nil)))))
  (dss_cons (ds_asgN (ps_set (i := 3) sc_l_left.nd rfl (.inl rfl) (de_tup (da_cons (de_mul (de_var (pv 4)) (de_var (pv 4))) (da_cons (de_mul (de_var (pv 5)) (de_var (pv 5))) (da_cons (de_mul (de_var (pv 6)) (de_var (pv 6))) (da_cons (de_mul (de_var (pv 4)) (de_var (pv 5))) (da_cons (de_mul (de_var (pv 4)) (de_var (pv 6))) (da_cons (de_mul (de_var (pv 5)) (de_var (pv 6))) da_nil)))))))))
  (dss_one (ds_ret (de_mod (de_sum rfl (by rfl) b_sum (da_cons (de_df (df_comp (own := [("_law_one", 7), ("_law_part", 8)]) rfl sc_l_left.nd (di_zip (by rfl) b_zip (da_cons (de_var (pv 1)) (da_cons (de_var (pv 3)) da_nil))) (blkOk_by (N := n_l_left) (sc := defScope s_l_left) (own := [("_law_one", 7), ("_law_part", 8)]) (by decide +kernel)) (fun _ _ _ _ _ => (dg_tup rfl (dgs_cons (dg_name (pg_name (i := 7) sc_l_left.nd rfl (.inl rfl))) (dgs_cons (dg_name (pg_name (i := 8) sc_l_left.nd rfl (.inl rfl))) dgs_nil)))) (fun _ _ _ _ _ => (de_mul (de_var (pv 7)) (de_var (pv 8)))))) da_nil)) (de_var (pv 0))))))))
abbrev s_l_is_told : Stmt := topS 45
abbrev n_l_is_told : List Str := ["_law_prime_here", "_law_found", "_law_many", "_law_above", "_law_one"]
theorem sc_l_is_told : FnScope n_l_is_told ["_law_prime_here", "_law_found", "_law_many"] (defScope s_l_is_told) := ⟨rfl, rfl, rfl, by decide +kernel, rfl, by decide +kernel, by decide +kernel⟩
theorem c_l_is_told {f : Addr} {fd : FuncData} (F : Fun K "_law_is_told" "_law_is_told" s_l_is_told f fd) (gm : mg "_law_is_told" = some (.ref f)) (b_isinstance : mg "isinstance" = none) (b_tuple : mg "tuple" = none) (b_len : mg "len" = none) (b_all : mg "all" = none) (b_int : mg "int" = none) (b_bool : mg "bool" = none) : Cal P w K mg base CX0 1 "_law_is_told" 3 f_l_is_told :=
  cal_mk F gm (F.binds (ps := ["_law_prime_here", "_law_found", "_law_many"]) fun _ _ _ _ _ _ us hl => match us, hl with | [_, _, _], _ => rfl) (fnD0 _ F sc_l_is_told fun cdv A outer s H E hr =>
  (dss_cons (ds_if (PW.pt (dw_or (dt_not (dt_val (de_isT .tup (by rfl) b_isinstance (da_cons (de_var (pv 1)) (da_cons (de_gTy (by rfl) b_tuple PyProof.Rows.boot_tuple) da_nil))))) (dw_or1 (dt_ne (m := true) (hu64 hr) (de_len (by rfl) b_len (da_cons (de_var (pv 1)) da_nil)) (de_var (pv 2)))))) (dss_one (ds_ret de_bl)) dss_nil)
  (dss_cons (ds_if (dt_not (dt_val (de_all rfl (by rfl) b_all (da_cons (de_df (df_comp (own := [("_law_one", 4)]) rfl sc_l_is_told.nd (di_seq (de_var (pv 1))) (blkOk_by (N := n_l_is_told) (sc := defScope s_l_is_told) (own := [("_law_one", 4)]) (by decide +kernel)) (fun _ _ _ _ _ => (dg_name (pg_name (i := 4) sc_l_is_told.nd rfl (.inl rfl)))) (fun _ _ _ _ _ => (de_and (de_isT .int (by rfl) b_isinstance (da_cons (de_var (pv 4)) (da_cons (de_gTy (by rfl) b_int PyProof.Rows.boot_int) da_nil))) (de_and (de_not (de_isT .bool (by rfl) b_isinstance (da_cons (de_var (pv 4)) (da_cons (de_gTy (by rfl) b_bool PyProof.Rows.boot_bool) da_nil)))) (de_one (de_chain op_le op_lt sv_cmp sv_cmp de_int (de_var (pv 4)) (de_var (pv 0))))))))) da_nil)))) (dss_one (ds_ret de_bl)) dss_nil)
  (dss_cons (ds_asgN (ps_df (da_compIf (own := [("_law_one", 4)]) (i := 3) rfl sc_l_is_told.nd rfl rfl (sw_true rfl rfl rfl (by decide +kernel)) (di_seq (de_var (pv 1))) (blkOk_by (N := n_l_is_told) (sc := defScope s_l_is_told) (own := [("_law_one", 4)]) (by decide +kernel)) (fun _ _ _ _ _ => (dg_name (pg_name (i := 4) sc_l_is_told.nd rfl (.inl rfl)))) (fun _ _ _ _ _ => (dt_gt (m := true) (de_var (pv 4)) de_int)) (fun _ _ _ _ _ => (de_var (pv 4))))))
  (dss_one (ds_ret (de_and (de_ne (hu64 hr) (de_var (pv 3)) (de_df (df_lst da_nil))) (de_one (de_eq (hu64 hr) (de_ix (de_var (pv 3)) de_int) de_int)))))))))
abbrev s_l_says : Stmt := topS 46
abbrev n_l_says : List Str := ["_law_said", "_law_due"]
theorem sc_l_says : FnScope n_l_says ["_law_said", "_law_due"] (defScope s_l_says) := ⟨rfl, rfl, rfl, by decide +kernel, rfl, by decide +kernel, by decide +kernel⟩
theorem c_l_says {f : Addr} {fd : FuncData} (F : Fun K "_law_says" "_law_says" s_l_says f fd) (gm : mg "_law_says" = some (.ref f)) (b_isinstance : mg "isinstance" = none) (b_bool : mg "bool" = none) : Cal P w K mg base CX0 1 "_law_says" 2 f_l_says :=
  cal_mk F gm (F.binds (ps := ["_law_said", "_law_due"]) fun _ _ _ _ _ _ us hl => match us, hl with | [_, _], _ => rfl) (fnD0 _ F sc_l_says fun cdv A outer s H E hr =>
  (dss_one (ds_ret (de_and (de_isT .bool (by rfl) b_isinstance (da_cons (de_var (pv 0)) (da_cons (de_gTy (by rfl) b_bool PyProof.Rows.boot_bool) da_nil))) (de_one (de_eq (hu64 hr) (de_var (pv 0)) (de_var (pv 1))))))))
abbrev s_l_three : Stmt := topS 47
abbrev n_l_three : List Str := ["_law_prime_here", "_law_five_here", "_law_found", "_law_first", "_law_second", "_law_third"]
theorem sc_l_three : FnScope n_l_three ["_law_prime_here", "_law_five_here"] (defScope s_l_three) := ⟨rfl, rfl, rfl, by decide +kernel, rfl, by decide +kernel, by decide +kernel⟩
theorem c_l_three {f : Addr} {fd : FuncData} (F : Fun K "_law_three" "_law_three" s_l_three f fd) (gm : mg "_law_three" = some (.ref f)) (b_range : mg "range" = none) (c_l_in_line : Cal P w K mg base CX0 3 "_law_in_line" 4 f_l_in_line) : Cal P w K mg base CX0 4 "_law_three" 2 f_l_three :=
  cal_mk F gm (F.binds (ps := ["_law_prime_here", "_law_five_here"]) fun _ _ _ _ _ _ us hl => match us, hl with | [_, _], _ => rfl) (fnD0 _ F sc_l_three fun cdv A outer s H E hr =>
  (dss_cons (ds_ownN (ps_set (i := 2) sc_l_three.nd rfl (.inl rfl) (df_lst da_nil)))
  (dss_cons (ds_for (vs := [3]) PassesOwn.never rfl (di_rg1 (by rfl) b_range (da_cons de_int da_nil)) (dg_name (pg_name (i := 3) sc_l_three.nd rfl (.inl rfl)))
  (dss_one (ds_for (vs := [4]) PassesOwn.never rfl (di_rg2 (by rfl) b_range (da_cons (de_add (de_var (pv 3)) de_int) (da_cons de_int da_nil))) (dg_name (pg_name (i := 4) sc_l_three.nd rfl (.inl rfl)))
  (dss_one (ds_for (vs := [5]) PassesOwn.never rfl (di_rg2 (by rfl) b_range (da_cons (de_add (de_var (pv 4)) de_int) (da_cons de_int da_nil))) (dg_name (pg_name (i := 5) sc_l_three.nd rfl (.inl rfl)))
  (dss_one (ds_if (dt_val (de_cal c_l_in_line (hr.mono (by decide)) (by rfl) rfl pass_0 (da_cons (de_var (pv 0)) (da_cons (de_ix (de_var (pv 1)) (de_var (pv 3))) (da_cons (de_ix (de_var (pv 1)) (de_var (pv 4))) (da_cons (de_ix (de_var (pv 1)) (de_var (pv 5))) da_nil)))))) (dss_one (ds_append (pv 2) (de_df (df_lst (da_cons (de_var (pv 3)) (da_cons (de_var (pv 4)) (da_cons (de_var (pv 5)) da_nil))))))) dss_nil)))))))
  (dss_one (ds_frz 2 (ds_ret (de_var (pv 2))))))))
abbrev s_l_rest : Stmt := topS 48
abbrev n_l_rest : List Str := ["_law_prime_here", "_law_form", "_law_line", "_law_both", "_law_one", "_law_other", "_law_first", "_law_last", "_law_mine", "_law_theirs"]
theorem sc_l_rest : FnScope n_l_rest ["_law_prime_here", "_law_form", "_law_line"] (defScope s_l_rest) := ⟨rfl, rfl, rfl, by decide +kernel, rfl, by decide +kernel, by decide +kernel⟩
theorem c_l_rest {f : Addr} {fd : FuncData} (F : Fun K "_law_rest" "_law_rest" s_l_rest f fd) (gm : mg "_law_rest" = some (.ref f)) (b_tuple : mg "tuple" = none) (b_zip : mg "zip" = none) (c_l_points : Cal P w K mg base CX0 3 "_law_points" 2 f_l_points) (c_l_left : Cal P w K mg base CX0 1 "_law_left" 3 f_l_left) : Cal P w K mg base CX0 4 "_law_rest" 3 f_l_rest :=
  cal_mk F gm (F.binds (ps := ["_law_prime_here", "_law_form", "_law_line"]) fun _ _ _ _ _ _ us hl => match us, hl with | [_, _, _], _ => rfl) (fnD0 _ F sc_l_rest fun cdv A outer s H E hr =>
  (dss_cons (ds_asg (vs := [4, 5]) (de_slice (de_cal c_l_points (hr.mono (by decide)) (by rfl) rfl pass_0 (da_cons (de_var (pv 0)) (da_cons (de_var (pv 2)) da_nil))) dp_none (dp_some de_int)) (dg_tup rfl (dgs_cons (dg_name (pg_name (i := 4) sc_l_rest.nd rfl (.inl rfl))) (dgs_cons (dg_name (pg_name (i := 5) sc_l_rest.nd rfl (.inl rfl))) dgs_nil))))
  (dss_cons (ds_par (ps_par (i := 6) (j := 7) rfl sc_l_rest.nd rfl rfl (by decide) rfl rfl (da_cons (de_cal c_l_left (hr.mono (by decide)) (by rfl) rfl pass_0 (da_cons (de_var (pv 0)) (da_cons (de_var (pv 1)) (da_cons (de_var (pv 4)) da_nil)))) (da_cons (de_cal c_l_left (hr.mono (by decide)) (by rfl) rfl pass_0 (da_cons (de_var (pv 0)) (da_cons (de_var (pv 1)) (da_cons (de_var (pv 5)) da_nil)))) da_nil)) rfl))
  (dss_cons (ds_asgN (ps_set (i := 3) sc_l_rest.nd rfl (.inl rfl) (de_sub (de_sub (de_cal c_l_left (hr.mono (by decide)) (by rfl) rfl pass_0 (da_cons (de_var (pv 0)) (da_cons (de_var (pv 1)) (da_cons (de_tuple (by rfl) b_tuple (da_cons (de_df (df_comp (own := [("_law_mine", 8), ("_law_theirs", 9)]) rfl sc_l_rest.nd (di_zip (by rfl) b_zip (da_cons (de_var (pv 4)) (da_cons (de_var (pv 5)) da_nil))) (blkOk_by (N := n_l_rest) (sc := defScope s_l_rest) (own := [("_law_mine", 8), ("_law_theirs", 9)]) (by decide +kernel)) (fun _ _ _ _ _ => (dg_tup rfl (dgs_cons (dg_name (pg_name (i := 8) sc_l_rest.nd rfl (.inl rfl))) (dgs_cons (dg_name (pg_name (i := 9) sc_l_rest.nd rfl (.inl rfl))) dgs_nil)))) (fun _ _ _ _ _ => (de_add (de_var (pv 8)) (de_var (pv 9)))))) da_nil)) da_nil)))) (de_var (pv 6))) (de_var (pv 7)))))
  (dss_one (ds_ret (de_mod (de_sub (de_mul (de_var (pv 3)) (de_var (pv 3))) (de_mul (de_mul de_int (de_var (pv 6))) (de_var (pv 7)))) (de_var (pv 0)))))))))
abbrev s_l_square : Stmt := topS 49
abbrev n_l_square : List Str := ["_law_prime_here", "_law_number", "_law_one"]
theorem sc_l_square : FnScope n_l_square ["_law_prime_here", "_law_number"] (defScope s_l_square) := ⟨rfl, rfl, rfl, by decide +kernel, rfl, by decide +kernel, by decide +kernel⟩
theorem c_l_square {f : Addr} {fd : FuncData} (F : Fun K "_law_square" "_law_square" s_l_square f fd) (gm : mg "_law_square" = some (.ref f)) (b_range : mg "range" = none) : Cal P w K mg base CX0 1 "_law_square" 2 f_l_square :=
  cal_mk F gm (F.binds (ps := ["_law_prime_here", "_law_number"]) fun _ _ _ _ _ _ us hl => match us, hl with | [_, _], _ => rfl) (fnD0 _ F sc_l_square fun cdv A outer s H E hr =>
  (dss_one (ds_ret (de_in (hu65 hr) (de_var (pv 1)) (de_df (df_comp (own := [("_law_one", 2)]) rfl sc_l_square.nd (di_rg1 (by rfl) b_range (da_cons (de_add (de_fdiv (de_var (pv 0)) de_int) de_int) da_nil)) (blkOk_by (N := n_l_square) (sc := defScope s_l_square) (own := [("_law_one", 2)]) (by decide +kernel)) (fun _ _ _ _ _ => (dg_name (pg_name (i := 2) sc_l_square.nd rfl (.inl rfl)))) (fun _ _ _ _ _ => (de_mod (de_mul (de_var (pv 2)) (de_var (pv 2))) (de_var (pv 0)))))) (by with_unfolding_all rfl)))))
abbrev s_l_five : Stmt := topS 50
abbrev n_l_five : List Str := ["_law_script", "_law_k", "_law_prime_here", "_law_kind", "_law_drawn", "_law_line", "_law_on_it", "_law_off_it", "_law_start", "_law_turns", "_law_point", "_law_at", "_law_turn"]
theorem sc_l_five : FnScope n_l_five ["_law_script", "_law_k", "_law_prime_here"] (defScope s_l_five) := ⟨rfl, rfl, rfl, by decide +kernel, rfl, by decide +kernel, by decide +kernel⟩
theorem c_l_five {f : Addr} {fd : FuncData} (F : Fun K "_law_five" "_law_five" s_l_five f fd) (gm : mg "_law_five" = some (.ref f)) (b_range : mg "range" = none) (b_sorted : mg "sorted" = none) (b_set : mg "set" = none) (b_list : mg "list" = none) (c_l_draw : Cal P w K mg base CX0 1 "_law_draw" 3 f_l_draw) (c_l_cell_at : Cal P w K mg base CX0 1 "_law_cell_at" 2 f_l_cell_at) (c_l_triples : Cal P w K mg base CX0 3 "_law_triples" 4 f_l_triples) (c_l_value : Cal P w K mg base CX0 2 "_law_value" 2 f_l_value) (c_l_cross : Cal P w K mg base CX0 2 "_law_cross" 3 f_l_cross) (c_l_points : Cal P w K mg base CX0 3 "_law_points" 2 f_l_points) (c_l_on : Cal P w K mg base CX0 1 "_law_on" 3 f_l_on) : Cal P w K mg base CX0 4 "_law_five" 3 f_l_five :=
  cal_mk F gm (F.binds (ps := ["_law_script", "_law_k", "_law_prime_here"]) fun _ _ _ _ _ _ us hl => match us, hl with | [_, _, _], _ => rfl) (fnD0 _ F sc_l_five fun cdv A outer s H E hr =>
  (dss_cons (ds_asgN (ps_set (i := 3) sc_l_five.nd rfl (.inl rfl) (de_cal c_l_draw (hr.mono (by decide)) (by rfl) rfl pass_0 (da_cons (de_mod (de_cal c_l_cell_at (hr.mono (by decide)) (by rfl) rfl pass_0 (da_cons (de_var (pv 0)) (da_cons (de_add (de_var (pv 1)) de_int) da_nil))) (de_pow de_int de_int)) (da_cons de_int (da_cons de_int da_nil))))))
  (dss_cons (ds_asgN (ps_set (i := 4) sc_l_five.nd rfl (.inr rfl) (de_cal c_l_triples (hr.mono (by decide)) (by rfl) rfl pass_0 (da_cons (de_var (pv 0)) (da_cons (de_var (pv 1)) (da_cons (de_var (pv 2)) (da_cons de_int da_nil)))))))
  (dss_cons (ds_if (dt_eq (m := true) (hu64 hr) (de_var (pv 3)) de_int) (dss_one (ds_ret (de_var (pv 4)))) dss_nil)
  (dss_cons (ds_if (PW.pt (dw_and (dt_eq (m := true) (hu64 hr) (de_var (pv 3)) de_int) (dw_and1 (dt_gt (m := true) (de_var (pv 2)) de_int)))) (dss_cons (ds_asgN (ps_set (i := 8) sc_l_five.nd rfl (.inr rfl) (de_cal c_l_value (hr.mono (by decide)) (by rfl) rfl pass_0 (da_cons (de_cal c_l_cell_at (hr.mono (by decide)) (by rfl) rfl pass_0 (da_cons (de_var (pv 0)) (da_cons (de_add (de_var (pv 1)) de_int) da_nil))) (da_cons (de_var (pv 1)) da_nil)))))
  (dss_cons (ds_asgN (ps_df (da_comp (own := [("_law_at", 11)]) (i := 9) rfl sc_l_five.nd rfl rfl (sw_true rfl rfl rfl (by decide +kernel)) (di_rg1 (by rfl) b_range (da_cons de_int da_nil)) (blkOk_by (N := n_l_five) (sc := defScope s_l_five) (own := [("_law_at", 11)]) (by decide +kernel)) (fun _ _ _ _ _ => (dg_name (pg_name (i := 11) sc_l_five.nd rfl (.inl rfl)))) (fun _ _ _ _ _ => (de_mod (de_add (de_fdiv (de_var (pv 8)) (de_add (de_var (pv 11)) de_int)) (de_mul (de_var (pv 11)) (de_var (pv 11)))) (de_add (de_var (pv 2)) de_int))))))
  (dss_cons (ds_asgN (ps_set (i := 9) sc_l_five.nd rfl (.inl rfl) (de_slice (de_df (df_sortSetI rfl (by rfl) b_sorted (by rfl) b_set (de_add (de_var (pv 9)) (de_df (df_listRg rfl (by rfl) b_list (by rfl) b_range de_int))))) (dp_some (de_neg de_int)) dp_none)))
  (dss_one (ds_ret (de_df (df_comp (own := [("_law_turn", 12)]) rfl sc_l_five.nd (di_seq (de_var (pv 9))) (blkOk_by (N := n_l_five) (sc := defScope s_l_five) (own := [("_law_turn", 12)]) (by decide +kernel)) (fun _ _ _ _ _ => (dg_name (pg_name (i := 12) sc_l_five.nd rfl (.inl rfl)))) (fun _ _ _ _ _ => (de_if (dt_eq (m := true) (hu64 hr) (de_var (pv 12)) (de_var (pv 2))) (de_tup (da_cons de_int (da_cons de_int (da_cons de_int da_nil)))) (de_tup (da_cons de_int (da_cons (de_var (pv 12)) (da_cons (de_mod (de_mul (de_var (pv 12)) (de_var (pv 12))) (de_var (pv 2))) da_nil))))))))))))) dss_nil)
  (dss_cons (ds_asgN (ps_set (i := 5) sc_l_five.nd rfl (.inr rfl) (de_cal c_l_cross (hr.mono (by decide)) (by rfl) rfl pass_0 (da_cons (de_var (pv 2)) (da_cons (de_ix (de_var (pv 4)) de_int) (da_cons (de_ix (de_var (pv 4)) de_int) da_nil))))))
  (dss_cons (ds_asgN (ps_df (da_compIf (own := [("_law_point", 10)]) (i := 6) rfl sc_l_five.nd rfl rfl (sw_true rfl rfl rfl (by decide +kernel)) (di_seq (de_cal c_l_points (hr.mono (by decide)) (by rfl) rfl pass_0 (da_cons (de_var (pv 2)) (da_cons (de_var (pv 5)) da_nil)))) (blkOk_by (N := n_l_five) (sc := defScope s_l_five) (own := [("_law_point", 10)]) (by decide +kernel)) (fun _ _ _ _ _ => (dg_name (pg_name (i := 10) sc_l_five.nd rfl (.inl rfl)))) (fun _ _ _ _ _ => (dt_notIn (m := true) (hu65 hr) (de_var (pv 10)) (de_slice (de_var (pv 4)) dp_none (dp_some de_int)) (by with_unfolding_all rfl))) (fun _ _ _ _ _ => (de_var (pv 10))))))
  (dss_cons (ds_asgN (ps_df (da_compIf (own := [("_law_point", 10)]) (i := 7) rfl sc_l_five.nd rfl rfl (sw_true rfl rfl rfl (by decide +kernel)) (di_seq (de_slice (de_var (pv 4)) (dp_some de_int) dp_none)) (blkOk_by (N := n_l_five) (sc := defScope s_l_five) (own := [("_law_point", 10)]) (by decide +kernel)) (fun _ _ _ _ _ => (dg_name (pg_name (i := 10) sc_l_five.nd rfl (.inl rfl)))) (fun _ _ _ _ _ => (dt_not (dt_val (de_cal c_l_on (hr.mono (by decide)) (by rfl) rfl pass_0 (da_cons (de_var (pv 2)) (da_cons (de_var (pv 10)) (da_cons (de_var (pv 5)) da_nil))))))) (fun _ _ _ _ _ => (de_var (pv 10))))))
  (dss_one (ds_ret (de_add (de_add (de_df (df_lst (da_cons (de_ix (de_var (pv 4)) de_int) (da_cons (de_ix (de_var (pv 6)) de_int) da_nil)))) (de_slice (de_add (de_var (pv 7)) (de_slice (de_var (pv 6)) (dp_some de_int) dp_none)) dp_none (dp_some de_int))) (de_df (df_lst (da_cons (de_ix (de_var (pv 4)) de_int) da_nil))))))))))))))
abbrev s_l_lines : Stmt := topS 51
abbrev n_l_lines : List Str := ["_law_prime_here", "_law_one", "_law_other", "_law_found", "_law_at", "_law_to"]
theorem sc_l_lines : FnScope n_l_lines ["_law_prime_here", "_law_one", "_law_other"] (defScope s_l_lines) := ⟨rfl, rfl, rfl, by decide +kernel, rfl, by decide +kernel, by decide +kernel⟩
theorem c_l_lines {f : Addr} {fd : FuncData} (F : Fun K "_law_lines" "_law_lines" s_l_lines f fd) (gm : mg "_law_lines" = some (.ref f)) (b_range : mg "range" = none) (c_l_told : Cal P w K mg base CX0 1 "_law_told" 2 f_l_told) : Cal P w K mg base CX0 2 "_law_lines" 3 f_l_lines :=
  cal_mk F gm (F.binds (ps := ["_law_prime_here", "_law_one", "_law_other"]) fun _ _ _ _ _ _ us hl => match us, hl with | [_, _, _], _ => rfl) (fnD0 _ F sc_l_lines fun cdv A outer s H E hr =>
  (dss_cons (ds_ownN (da_comp (own := [("_law_at", 4)]) (i := 3) rfl sc_l_lines.nd rfl rfl (sw_true rfl rfl rfl (by decide +kernel)) (di_rg1 (by rfl) b_range (da_cons de_int da_nil)) (blkOk_by (N := n_l_lines) (sc := defScope s_l_lines) (own := [("_law_at", 4)]) (by decide +kernel)) (fun _ _ _ _ _ => (dg_name (pg_name (i := 4) sc_l_lines.nd rfl (.inl rfl)))) (fun _ _ _ _ _ => (de_mul (de_ix (de_var (pv 1)) (de_var (pv 4))) (de_ix (de_var (pv 2)) (de_var (pv 4)))))))
  (dss_cons (ds_for (vs := [4, 5]) PassesOwn.never rfl (di_seq (de_tup (da_cons (de_tup (da_cons de_int (da_cons de_int da_nil))) (da_cons (de_tup (da_cons de_int (da_cons de_int da_nil))) (da_cons (de_tup (da_cons de_int (da_cons de_int da_nil))) da_nil))))) (dg_tup rfl (dgs_cons (dg_name (pg_name (i := 4) sc_l_lines.nd rfl (.inl rfl))) (dgs_cons (dg_name (pg_name (i := 5) sc_l_lines.nd rfl (.inl rfl))) dgs_nil)))
  (dss_one (ds_append (pv 3) (de_add (de_mul (de_ix (de_var (pv 1)) (de_var (pv 4))) (de_ix (de_var (pv 2)) (de_var (pv 5)))) (de_mul (de_ix (de_var (pv 1)) (de_var (pv 5))) (de_ix (de_var (pv 2)) (de_var (pv 4))))))))
  (dss_one (ds_frz 3 (ds_ret (de_cal c_l_told (hr.mono (by decide)) (by rfl) rfl pass_0 (da_cons (de_var (pv 0)) (da_cons (de_var (pv 3)) da_nil)))))))))
abbrev s_l_two_lines : Stmt := topS 52
abbrev n_l_two_lines : List Str := ["_law_prime_here", "_law_five_here", "_law_three_here", "_law_rest_here", "_law_some", "_law_line", "_law_at"]
theorem sc_l_two_lines : FnScope n_l_two_lines ["_law_prime_here", "_law_five_here", "_law_three_here"] (defScope s_l_two_lines) := ⟨rfl, rfl, rfl, by decide +kernel, rfl, by decide +kernel, by decide +kernel⟩
theorem c_l_two_lines {f : Addr} {fd : FuncData} (F : Fun K "_law_two_lines" "_law_two_lines" s_l_two_lines f fd) (gm : mg "_law_two_lines" = some (.ref f)) (b_range : mg "range" = none) (c_l_cross : Cal P w K mg base CX0 2 "_law_cross" 3 f_l_cross) (c_l_lines : Cal P w K mg base CX0 2 "_law_lines" 3 f_l_lines) : Cal P w K mg base CX0 3 "_law_two_lines" 3 f_l_two_lines :=
  cal_mk F gm (F.binds (ps := ["_law_prime_here", "_law_five_here", "_law_three_here"]) fun _ _ _ _ _ _ us hl => match us, hl with | [_, _, _], _ => rfl) (fnD0 _ F sc_l_two_lines fun cdv A outer s H E hr =>
  (dss_cons (ds_asgN (ps_df (da_compIf (own := [("_law_at", 6)]) (i := 3) rfl sc_l_two_lines.nd rfl rfl (sw_true rfl rfl rfl (by decide +kernel)) (di_rg1 (by rfl) b_range (da_cons de_int da_nil)) (blkOk_by (N := n_l_two_lines) (sc := defScope s_l_two_lines) (own := [("_law_at", 6)]) (by decide +kernel)) (fun _ _ _ _ _ => (dg_name (pg_name (i := 6) sc_l_two_lines.nd rfl (.inl rfl)))) (fun _ _ _ _ _ => (dt_notIn (m := true) (hu65 hr) (de_var (pv 6)) (de_var (pv 2)) (by with_unfolding_all rfl))) (fun _ _ _ _ _ => (de_ix (de_var (pv 1)) (de_var (pv 6)))))))
  (dss_cons (ds_asgN (ps_df (da_comp (own := [("_law_at", 6)]) (i := 4) rfl sc_l_two_lines.nd rfl rfl (sw_true rfl rfl rfl (by decide +kernel)) (di_seq (de_var (pv 2))) (blkOk_by (N := n_l_two_lines) (sc := defScope s_l_two_lines) (own := [("_law_at", 6)]) (by decide +kernel)) (fun _ _ _ _ _ => (dg_name (pg_name (i := 6) sc_l_two_lines.nd rfl (.inl rfl)))) (fun _ _ _ _ _ => (de_ix (de_var (pv 1)) (de_var (pv 6)))))))
  (dss_cons (ds_asgN (ps_set (i := 5) sc_l_two_lines.nd rfl (.inl rfl) (de_cal c_l_cross (hr.mono (by decide)) (by rfl) rfl pass_0 (da_cons (de_var (pv 0)) (da_cons (de_ix (de_var (pv 4)) de_int) (da_cons (de_ix (de_var (pv 4)) de_int) da_nil))))))
  (dss_one (ds_ret (de_cal c_l_lines (hr.mono (by decide)) (by rfl) rfl pass_0 (da_cons (de_var (pv 0)) (da_cons (de_var (pv 5)) (da_cons (de_cal c_l_cross (hr.mono (by decide)) (by rfl) rfl pass_0 (da_cons (de_var (pv 0)) (da_cons (de_ix (de_var (pv 3)) de_int) (da_cons (de_ix (de_var (pv 3)) de_int) da_nil)))) da_nil))))))))))
abbrev s_InLine_shows : Stmt := methS 24 1
abbrev n_InLine_shows : List Str := ["self", "prime", "five", "first", "second", "third", "at"]
theorem sc_InLine_shows : FnScope n_InLine_shows ["self", "prime", "five"] (defScope s_InLine_shows) := ⟨rfl, rfl, rfl, by decide +kernel, rfl, by decide +kernel, by decide +kernel⟩
theorem m_InLine_shows {f : Addr} {fd : FuncData} (F : Fun K "shows" "InLine.shows" s_InLine_shows f fd) {z : Adr} (b_len : mg "len" = none) (b_all : mg "all" = none) (c_is_whole : Cal P w K mg base CX0 1 "is_whole" 1 f_is_whole) (c_in_line : Cal P w K mg base CX0 1 "in_line" 4 f_in_line) (a_three : ClsF K [z.InLine] "three") (cl : Cls K z.InLine) (mt : Meth K z.InLine "shows" f) : CalM P w K mg base CX0 2 z.InLine "shows" 3 (f_InLine_shows z) :=
  ⟨⟨f, fd, _, cl, mt, fnD0 _ F sc_InLine_shows fun cdv A outer s H E hr =>
  (dss_cons (ds_if (PW.pt (dw_or (dt_ne (m := true) (hu64 hr) (de_len (by rfl) b_len (da_cons (de_fld a_three (de_var (pv 0))) da_nil)) de_int) (dw_or1 (dt_not (dt_val (de_all rfl (by rfl) b_all (da_cons (de_df (df_comp (own := [("at", 6)]) rfl sc_InLine_shows.nd (di_seq (de_fld a_three (de_var (pv 0)))) (blkOk_by (N := n_InLine_shows) (sc := defScope s_InLine_shows) (own := [("at", 6)]) (by decide +kernel)) (fun _ _ _ _ _ => (dg_name (pg_name (i := 6) sc_InLine_shows.nd rfl (.inl rfl)))) (fun _ _ _ _ _ => (de_cal c_is_whole (hr.mono (by decide)) (by rfl) rfl pass_0 (da_cons (de_var (pv 6)) da_nil))))) da_nil))))))) (dss_one (ds_ret de_bl)) dss_nil)
  (dss_cons (ds_asg (vs := [3, 4, 5]) (de_fld a_three (de_var (pv 0))) (dg_tup rfl (dgs_cons (dg_name (pg_name (i := 3) sc_InLine_shows.nd rfl (.inl rfl))) (dgs_cons (dg_name (pg_name (i := 4) sc_InLine_shows.nd rfl (.inl rfl))) (dgs_cons (dg_name (pg_name (i := 5) sc_InLine_shows.nd rfl (.inl rfl))) dgs_nil)))))
  (dss_one (ds_ret (de_and (de_ch de_int (dch_link op_le sv_cmp (de_var (pv 3)) (dch_link op_lt sv_cmp (de_var (pv 4)) (dch_link op_lt sv_cmp (de_var (pv 5)) (dch_last op_lt sv_cmp de_int))))) (de_one (de_cal c_in_line (hr.mono (by decide)) (by rfl) rfl pass_0 (da_cons (de_var (pv 1)) (da_cons (de_ix (de_var (pv 2)) (de_var (pv 3))) (da_cons (de_ix (de_var (pv 2)) (de_var (pv 4))) (da_cons (de_ix (de_var (pv 2)) (de_var (pv 5))) da_nil))))))))))), F.binds (ps := ["self", "prime", "five"]) fun _ _ _ _ _ _ us hl => match us, hl with | [_, _, _], _ => rfl⟩⟩
abbrev s_Oval_shows : Stmt := methS 23 1
abbrev n_Oval_shows : List Str := ["self", "prime", "five", "point"]
theorem sc_Oval_shows : FnScope n_Oval_shows ["self", "prime", "five"] (defScope s_Oval_shows) := ⟨rfl, rfl, rfl, by decide +kernel, rfl, by decide +kernel, by decide +kernel⟩
theorem m_Oval_shows {f : Addr} {fd : FuncData} (F : Fun K "shows" "Oval.shows" s_Oval_shows f fd) {z : Adr} (b_all : mg "all" = none) (c_is_told : Cal P w K mg base CX0 2 "is_told" 3 f_is_told) (c_first_in_line : Cal P w K mg base CX0 2 "first_in_line" 2 f_first_in_line) (c_left_by : Cal P w K mg base CX0 1 "left_by" 3 f_left_by) (a_form : ClsF K [z.Oval] "form") (cl : Cls K z.Oval) (mt : Meth K z.Oval "shows" f) : CalM P w K mg base CX0 3 z.Oval "shows" 3 (f_Oval_shows z) :=
  ⟨⟨f, fd, _, cl, mt, fnD0 _ F sc_Oval_shows fun cdv A outer s H E hr =>
  (dss_cons (ds_if (PW.pt (dw_or (dt_not (dt_val (de_cal c_is_told (hr.mono (by decide)) (by rfl) rfl pass_0 (da_cons (de_var (pv 1)) (da_cons (de_fld a_form (de_var (pv 0))) (da_cons de_int da_nil)))))) (dw_or1 (dt_ne (m := true) (hu64 hr) (de_cal c_first_in_line (hr.mono (by decide)) (by rfl) rfl pass_0 (da_cons (de_var (pv 1)) (da_cons (de_var (pv 2)) da_nil))) (de_df (df_lst da_nil)))))) (dss_one (ds_ret de_bl)) dss_nil)
  (dss_one (ds_ret (de_all rfl (by rfl) b_all (da_cons (de_df (df_comp (own := [("point", 3)]) rfl sc_Oval_shows.nd (di_seq (de_var (pv 2))) (blkOk_by (N := n_Oval_shows) (sc := defScope s_Oval_shows) (own := [("point", 3)]) (by decide +kernel)) (fun _ _ _ _ _ => (dg_name (pg_name (i := 3) sc_Oval_shows.nd rfl (.inl rfl)))) (fun _ _ _ _ _ => (de_eq (hu64 hr) (de_cal c_left_by (hr.mono (by decide)) (by rfl) rfl pass_0 (da_cons (de_var (pv 1)) (da_cons (de_fld a_form (de_var (pv 0))) (da_cons (de_var (pv 3)) da_nil)))) de_int)))) da_nil))))), F.binds (ps := ["self", "prime", "five"]) fun _ _ _ _ _ _ us hl => match us, hl with | [_, _, _], _ => rfl⟩⟩
abbrev s_l_five_right : Stmt := topS 53
abbrev n_l_five_right : List Str := ["_law_prime_here", "_law_five_here", "_law_form", "_law_three_here", "_law_handed", "_law_answers", "_law_due", "_law_point"]
theorem sc_l_five_right : FnScope n_l_five_right ["_law_prime_here", "_law_five_here", "_law_form", "_law_three_here"] (defScope s_l_five_right) := ⟨rfl, rfl, rfl, by decide +kernel, rfl, by decide +kernel, by decide +kernel⟩
theorem c_l_five_right {f : Addr} {fd : FuncData} (F : Fun K "_law_five_right" "_law_five_right" s_l_five_right f fd) (gm : mg "_law_five_right" = some (.ref f)) {z : Adr} (b_list : mg "list" = none) (c_l_three : Cal P w K mg base CX0 4 "_law_three" 2 f_l_three) (c_l_left : Cal P w K mg base CX0 1 "_law_left" 3 f_l_left) (c_l_says : Cal P w K mg base CX0 1 "_law_says" 2 f_l_says) (k_InLine : MkL P w K mg base 1 "InLine" z.InLine "three") (k_Oval : MkV P w K mg base 1 "Oval" z.Oval "form") (a_form : ClsF K [z.Oval] "form") (a_three : ClsF K [z.InLine] "three") (m_Oval_shows : CalM P w K mg base CX0 3 z.Oval "shows" 3 (f_Oval_shows z)) (m_InLine_shows : CalM P w K mg base CX0 2 z.InLine "shows" 3 (f_InLine_shows z)) : Cal P w K mg base CX0 5 "_law_five_right" 4 (f_l_five_right z) :=
  cal_mk F gm (F.binds (ps := ["_law_prime_here", "_law_five_here", "_law_form", "_law_three_here"]) fun _ _ _ _ _ _ us hl => match us, hl with | [_, _, _, _], _ => rfl) (fnD0 _ F sc_l_five_right fun cdv A outer s H E hr =>
  (dss_cons (ds_ownN (ps_set (i := 4) sc_l_five_right.nd rfl (.inl rfl) (df_list (by rfl) b_list (da_cons (de_var (pv 3)) da_nil))))
  (dss_cons (ds_asgN (ps_set (i := 5) sc_l_five_right.nd rfl (.inl rfl) (de_df (df_lst (da_cons (de_mkV k_Oval (hr.mono (by decide)) (by rfl) (da_cons (de_var (pv 2)) da_nil)) (da_cons (de_mkLF k_InLine (hr.mono (by decide)) (by rfl) (da_cons (de_own (pv 4)) da_nil)) da_nil))))))
  (dss_cons (ds_append (pv 4) de_int)
  (dss_cons (ds_if (PW.pt (dw_or (dt_ne (m := true) (hu64 hr) (de_fld a_form (de_ix (de_var (pv 5)) de_int)) (de_var (pv 2))) (dw_or1 (dt_ne (m := true) (hu64 hr) (de_fld a_three (de_ix (de_var (pv 5)) de_int)) (de_var (pv 3)))))) (dss_one (ds_ret de_bl)) dss_nil)
  (dss_cons (ds_asgN (ps_set (i := 6) sc_l_five_right.nd rfl (.inl rfl) (de_eq (hu64 hr) (de_cal c_l_three (hr.mono (by decide)) (by rfl) rfl pass_0 (da_cons (de_var (pv 0)) (da_cons (de_var (pv 1)) da_nil))) (de_df (df_lst da_nil)))))
  (dss_cons (ds_for (vs := [7]) PassesOwn.never rfl (di_seq (de_var (pv 1))) (dg_name (pg_name (i := 7) sc_l_five_right.nd rfl (.inl rfl)))
  (dss_one (ds_asgN (ps_set (i := 6) sc_l_five_right.nd rfl (.inl rfl) (de_and (de_var (pv 6)) (de_one (de_eq (hu64 hr) (de_cal c_l_left (hr.mono (by decide)) (by rfl) rfl pass_0 (da_cons (de_var (pv 0)) (da_cons (de_var (pv 2)) (da_cons (de_var (pv 7)) da_nil)))) de_int)))))))
  (dss_cons (ds_if (dt_not (dt_val (de_cal c_l_says (hr.mono (by decide)) (by rfl) rfl pass_0 (da_cons (de_meth m_Oval_shows (hr.mono (by decide)) pass_0 (de_ix (de_var (pv 5)) de_int) (da_cons (de_var (pv 0)) (da_cons (de_var (pv 1)) da_nil))) (da_cons (de_var (pv 6)) da_nil))))) (dss_one (ds_ret de_bl)) dss_nil)
  (dss_cons (ds_asgN (ps_set (i := 6) sc_l_five_right.nd rfl (.inl rfl) (de_in (hu65 hr) (de_var (pv 3)) (de_cal c_l_three (hr.mono (by decide)) (by rfl) rfl pass_0 (da_cons (de_var (pv 0)) (da_cons (de_var (pv 1)) da_nil))) (by with_unfolding_all rfl))))
  (dss_one (ds_ret (de_cal c_l_says (hr.mono (by decide)) (by rfl) rfl pass_0 (da_cons (de_meth m_InLine_shows (hr.mono (by decide)) pass_0 (de_ix (de_var (pv 5)) de_int) (da_cons (de_var (pv 0)) (da_cons (de_var (pv 1)) da_nil))) (da_cons (de_var (pv 6)) da_nil))))))))))))))
abbrev s_l_shared5 : Stmt := topS 54
abbrev n_l_shared5 : List Str := ["_law_prime_here", "_law_form", "_law_line", "_law_found", "_law_point"]
theorem sc_l_shared5 : FnScope n_l_shared5 ["_law_prime_here", "_law_form", "_law_line"] (defScope s_l_shared5) := ⟨rfl, rfl, rfl, by decide +kernel, rfl, by decide +kernel, by decide +kernel⟩
theorem c_l_shared5 {f : Addr} {fd : FuncData} (F : Fun K "_law_shared" "_law_shared" s_l_shared5 f fd) (gm : mg "_law_shared" = some (.ref f)) (c_l_points : Cal P w K mg base CX0 3 "_law_points" 2 f_l_points) (c_l_left : Cal P w K mg base CX0 1 "_law_left" 3 f_l_left) : Cal P w K mg base CX0 4 "_law_shared" 3 f_l_shared5 :=
  cal_mk F gm (F.binds (ps := ["_law_prime_here", "_law_form", "_law_line"]) fun _ _ _ _ _ _ us hl => match us, hl with | [_, _, _], _ => rfl) (fnD0 _ F sc_l_shared5 fun cdv A outer s H E hr =>
  (dss_cons (ds_asgN (ps_set (i := 3) sc_l_shared5.nd rfl (.inl rfl) (de_cal c_l_points (hr.mono (by decide)) (by rfl) rfl pass_0 (da_cons (de_var (pv 0)) (da_cons (de_var (pv 2)) da_nil)))))
  (dss_one (ds_ret (de_df (df_compIf (own := [("_law_point", 4)]) rfl sc_l_shared5.nd (di_seq (de_var (pv 3))) (blkOk_by (N := n_l_shared5) (sc := defScope s_l_shared5) (own := [("_law_point", 4)]) (by decide +kernel)) (fun _ _ _ _ _ => (dg_name (pg_name (i := 4) sc_l_shared5.nd rfl (.inl rfl)))) (fun _ _ _ _ _ => (dt_eq (m := true) (hu64 hr) (de_cal c_l_left (hr.mono (by decide)) (by rfl) rfl pass_0 (da_cons (de_var (pv 0)) (da_cons (de_var (pv 1)) (da_cons (de_var (pv 4)) da_nil)))) de_int)) (fun _ _ _ _ _ => (de_var (pv 4)))))))))
abbrev s_Shared_init : Stmt := methS 25 0
abbrev n_Shared_init : List Str := ["self", "points"]
theorem sc_Shared_init : FnScope n_Shared_init ["self", "points"] (defScope s_Shared_init) := ⟨rfl, rfl, rfl, by decide +kernel, rfl, by decide +kernel, by decide +kernel⟩
theorem k_Shared {f : Addr} {fd : FuncData} (F : Fun K "__init__" "Shared.__init__" s_Shared_init f fd) {z : Adr} (cl : Cls K z.Shared ∧ NoAttr K z.Shared "points") (M : Mk K z.Shared f) (g : mg "Shared" = some (.ref z.Shared)) (b_list : mg "list" = none) : MkL P w K mg base 1 "Shared" z.Shared "points" :=
  ⟨⟨f, fd, _, M, fnIL F sc_Shared_init cl fun cdv A outer s H E hr => pss_one (ps_fld (pv 0) (pe_callTy call_list_of (by rfl) b_list PyProof.Rows.boot_list (pa_cons (pv 1) pa_nil)) rfl), g, F.binds (ps := ["self", "points"]) fun _ _ _ _ _ _ us hl => match us, hl with | [_, _], _ => rfl⟩⟩
abbrev s_Apart_init : Stmt := methS 26 0
abbrev n_Apart_init : List Str := ["self", "rest"]
theorem sc_Apart_init : FnScope n_Apart_init ["self", "rest"] (defScope s_Apart_init) := ⟨rfl, rfl, rfl, by decide +kernel, rfl, by decide +kernel, by decide +kernel⟩
theorem k_Apart {f : Addr} {fd : FuncData} (F : Fun K "__init__" "Apart.__init__" s_Apart_init f fd) {z : Adr} (cl : Cls K z.Apart ∧ NoAttr K z.Apart "rest") (M : Mk K z.Apart f) (g : mg "Apart" = some (.ref z.Apart)) : MkV P w K mg base 1 "Apart" z.Apart "rest" :=
  ⟨⟨f, fd, _, M, fnIV F sc_Apart_init cl fun cdv A outer s H E hr => pss_one (ps_fld (pv 0) (pv 1) rfl), g, F.binds (ps := ["self", "rest"]) fun _ _ _ _ _ _ us hl => match us, hl with | [_, _], _ => rfl⟩⟩
abbrev s_Apart_shows : Stmt := methS 26 1
abbrev n_Apart_shows : List Str := ["self", "prime", "form", "line"]
theorem sc_Apart_shows : FnScope n_Apart_shows ["self", "prime", "form", "line"] (defScope s_Apart_shows) := ⟨rfl, rfl, rfl, by decide +kernel, rfl, by decide +kernel, by decide +kernel⟩
theorem m_Apart_shows {f : Addr} {fd : FuncData} (F : Fun K "shows" "Apart.shows" s_Apart_shows f fd) {z : Adr} (c_is_whole : Cal P w K mg base CX0 1 "is_whole" 1 f_is_whole) (c_rest_of : Cal P w K mg base CX0 3 "rest_of" 3 f_rest_of) (c_is_square : Cal P w K mg base CX0 1 "is_square" 2 f_is_square) (a_rest : ClsF K [z.Apart] "rest") (cl : Cls K z.Apart) (mt : Meth K z.Apart "shows" f) : CalM P w K mg base CX0 4 z.Apart "shows" 4 (f_Apart_shows z) :=
  ⟨⟨f, fd, _, cl, mt, fnD0 _ F sc_Apart_shows fun cdv A outer s H E hr =>
  (dss_cons (ds_if (PW.pt (dw_or (dt_not (dt_val (de_cal c_is_whole (hr.mono (by decide)) (by rfl) rfl pass_0 (da_cons (de_fld a_rest (de_var (pv 0))) da_nil)))) (dw_or1 (dt_ne (m := true) (hu64 hr) (de_fld a_rest (de_var (pv 0))) (de_cal c_rest_of (hr.mono (by decide)) (by rfl) rfl pass_0 (da_cons (de_var (pv 1)) (da_cons (de_var (pv 2)) (da_cons (de_var (pv 3)) da_nil)))))))) (dss_one (ds_ret de_bl)) dss_nil)
  (dss_one (ds_ret (de_not (de_cal c_is_square (hr.mono (by decide)) (by rfl) rfl pass_0 (da_cons (de_var (pv 1)) (da_cons (de_fld a_rest (de_var (pv 0))) da_nil))))))), F.binds (ps := ["self", "prime", "form", "line"]) fun _ _ _ _ _ _ us hl => match us, hl with | [_, _, _, _], _ => rfl⟩⟩
abbrev s_Shared_shows : Stmt := methS 25 1
abbrev n_Shared_shows : List Str := ["self", "prime", "form", "line"]
theorem sc_Shared_shows : FnScope n_Shared_shows ["self", "prime", "form", "line"] (defScope s_Shared_shows) := ⟨rfl, rfl, rfl, by decide +kernel, rfl, by decide +kernel, by decide +kernel⟩
theorem m_Shared_shows {f : Addr} {fd : FuncData} (F : Fun K "shows" "Shared.shows" s_Shared_shows f fd) {z : Adr} (b_len : mg "len" = none) (c_shared_of : Cal P w K mg base CX0 3 "shared_of" 3 f_shared_of) (a_points : ClsF K [z.Shared] "points") (cl : Cls K z.Shared) (mt : Meth K z.Shared "shows" f) : CalM P w K mg base CX0 4 z.Shared "shows" 4 (f_Shared_shows z) :=
  ⟨⟨f, fd, _, cl, mt, fnD0 _ F sc_Shared_shows fun cdv A outer s H E hr =>
  (dss_one (ds_ret (de_and (de_gt (de_len (by rfl) b_len (da_cons (de_fld a_points (de_var (pv 0))) da_nil)) de_int) (de_one (de_eq (hu64 hr) (de_fld a_points (de_var (pv 0))) (de_cal c_shared_of (hr.mono (by decide)) (by rfl) rfl pass_0 (da_cons (de_var (pv 1)) (da_cons (de_var (pv 2)) (da_cons (de_var (pv 3)) da_nil))))))))), F.binds (ps := ["self", "prime", "form", "line"]) fun _ _ _ _ _ _ us hl => match us, hl with | [_, _, _, _], _ => rfl⟩⟩
abbrev s_l_line_right5 : Stmt := topS 55
abbrev n_l_line_right5 : List Str := ["_law_prime_here", "_law_form", "_law_line", "_law_points_here", "_law_rest_here", "_law_handed", "_law_answers", "_law_every", "_law_good", "_law_due"]
theorem sc_l_line_right5 : FnScope n_l_line_right5 ["_law_prime_here", "_law_form", "_law_line", "_law_points_here", "_law_rest_here"] (defScope s_l_line_right5) := ⟨rfl, rfl, rfl, by decide +kernel, rfl, by decide +kernel, by decide +kernel⟩
theorem c_l_line_right5 {f : Addr} {fd : FuncData} (F : Fun K "_law_line_right" "_law_line_right" s_l_line_right5 f fd) (gm : mg "_law_line_right" = some (.ref f)) {z : Adr} (b_list : mg "list" = none) (c_l_shared5 : Cal P w K mg base CX0 4 "_law_shared" 3 f_l_shared5) (c_l_says : Cal P w K mg base CX0 1 "_law_says" 2 f_l_says) (c_l_rest : Cal P w K mg base CX0 4 "_law_rest" 3 f_l_rest) (c_l_square : Cal P w K mg base CX0 1 "_law_square" 2 f_l_square) (k_Apart : MkV P w K mg base 1 "Apart" z.Apart "rest") (k_Shared : MkL P w K mg base 1 "Shared" z.Shared "points") (a_points : ClsF K [z.Shared] "points") (a_rest : ClsF K [z.Apart] "rest") (m_Shared_shows : CalM P w K mg base CX0 4 z.Shared "shows" 4 (f_Shared_shows z)) (m_Apart_shows : CalM P w K mg base CX0 4 z.Apart "shows" 4 (f_Apart_shows z)) : Cal P w K mg base CX0 5 "_law_line_right" 5 (f_l_line_right5 z) :=
  cal_mk F gm (F.binds (ps := ["_law_prime_here", "_law_form", "_law_line", "_law_points_here", "_law_rest_here"]) fun _ _ _ _ _ _ us hl => match us, hl with | [_, _, _, _, _], _ => rfl) (fnD0 _ F sc_l_line_right5 fun cdv A outer s H E hr =>
  (dss_cons (ds_ownN (ps_set (i := 5) sc_l_line_right5.nd rfl (.inl rfl) (df_list (by rfl) b_list (da_cons (de_var (pv 3)) da_nil))))
  (dss_cons (ds_asgN (ps_set (i := 6) sc_l_line_right5.nd rfl (.inl rfl) (de_df (df_lst (da_cons (de_mkLF k_Shared (hr.mono (by decide)) (by rfl) (da_cons (de_own (pv 5)) da_nil)) (da_cons (de_mkV k_Apart (hr.mono (by decide)) (by rfl) (da_cons (de_var (pv 4)) da_nil)) da_nil))))))
  (dss_cons (ds_append (pv 5) (de_tup (da_cons de_int (da_cons de_int (da_cons de_int da_nil)))))
  (dss_cons (ds_if (PW.pt (dw_or (dt_ne (m := true) (hu64 hr) (de_fld a_points (de_ix (de_var (pv 6)) de_int)) (de_var (pv 3))) (dw_or1 (dt_ne (m := true) (hu64 hr) (de_fld a_rest (de_ix (de_var (pv 6)) de_int)) (de_var (pv 4)))))) (dss_one (ds_ret de_bl)) dss_nil)
  (dss_cons (ds_asgN (ps_set (i := 7) sc_l_line_right5.nd rfl (.inl rfl) (de_cal c_l_shared5 (hr.mono (by decide)) (by rfl) rfl pass_0 (da_cons (de_var (pv 0)) (da_cons (de_var (pv 1)) (da_cons (de_var (pv 2)) da_nil))))))
  (dss_cons (ds_asgN (ps_set (i := 8) sc_l_line_right5.nd rfl (.inl rfl) (de_and (de_ne (hu64 hr) (de_var (pv 3)) (de_df (df_lst da_nil))) (de_one (de_eq (hu64 hr) (de_var (pv 3)) (de_var (pv 7)))))))
  (dss_cons (ds_if (dt_not (dt_val (de_cal c_l_says (hr.mono (by decide)) (by rfl) rfl pass_0 (da_cons (de_meth m_Shared_shows (hr.mono (by decide)) pass_0 (de_ix (de_var (pv 6)) de_int) (da_cons (de_var (pv 0)) (da_cons (de_var (pv 1)) (da_cons (de_var (pv 2)) da_nil)))) (da_cons (de_var (pv 8)) da_nil))))) (dss_one (ds_ret de_bl)) dss_nil)
  (dss_cons (ds_asgN (ps_set (i := 9) sc_l_line_right5.nd rfl (.inl rfl) (de_eq (hu64 hr) (de_var (pv 4)) (de_cal c_l_rest (hr.mono (by decide)) (by rfl) rfl pass_0 (da_cons (de_var (pv 0)) (da_cons (de_var (pv 1)) (da_cons (de_var (pv 2)) da_nil)))))))
  (dss_cons (ds_asgN (ps_set (i := 9) sc_l_line_right5.nd rfl (.inl rfl) (de_and (de_var (pv 9)) (de_one (de_not (de_cal c_l_square (hr.mono (by decide)) (by rfl) rfl pass_0 (da_cons (de_var (pv 0)) (da_cons (de_var (pv 4)) da_nil))))))))
  (dss_one (ds_ret (de_cal c_l_says (hr.mono (by decide)) (by rfl) rfl pass_0 (da_cons (de_meth m_Apart_shows (hr.mono (by decide)) pass_0 (de_ix (de_var (pv 6)) de_int) (da_cons (de_var (pv 0)) (da_cons (de_var (pv 1)) (da_cons (de_var (pv 2)) da_nil)))) (da_cons (de_var (pv 9)) da_nil)))))))))))))))
abbrev s_law : Stmt := topS 56
abbrev n_law : List Str := ["_law_script", "_law_k", "_law_good", "_law_bad", "_law_prime_here", "_law_cell", "_law_five_here", "_law_told_here", "_law_three_here", "_law_form", "_law_bent", "_law_some", "_law_forms", "_law_threes", "_law_at", "_law_both", "_law_rest_here", "_law_points_here", "_law_rests", "_law_round_one", "_law_line", "_law_other", "_law_number", "_law_one", "_law_said"]
theorem sc_law : FnScope n_law ["_law_script"] (defScope s_law) := ⟨rfl, rfl, rfl, by decide +kernel, rfl, by decide +kernel, by decide +kernel⟩
set_option maxHeartbeats 0 in
theorem c_law {f : Addr} {fd : FuncData} (F : Fun K "law" "law" s_law f fd) {z : Adr} (hK : z.K = K) (b_range : mg "range" = none) (b_len : mg "len" = none) (b_list : mg "list" = none) (b_isinstance : mg "isinstance" = none) (b_enumerate : mg "enumerate" = none) (b_int : mg "int" = none) (b_any : mg "any" = none) (b_all : mg "all" = none) (r_InLine : mg "InLine" = some (.ref z.InLine)) (r_Oval : mg "Oval" = some (.ref z.Oval)) (c_l_prime : Cal P w K mg base CX0 2 "_law_prime" 2 f_l_prime) (c_l_value : Cal P w K mg base CX0 2 "_law_value" 2 f_l_value) (c_l_cell_at : Cal P w K mg base CX0 1 "_law_cell_at" 2 f_l_cell_at) (c_l_five : Cal P w K mg base CX0 4 "_law_five" 3 f_l_five) (c_oval : CalO P w K mg base (L2.CX P w) 4 "oval" 2 (f_oval z)) (c_l_two_lines : Cal P w K mg base CX0 3 "_law_two_lines" 3 f_l_two_lines) (c_l_told : Cal P w K mg base CX0 1 "_law_told" 2 f_l_told) (c_l_five_right : Cal P w K mg base CX0 5 "_law_five_right" 4 (f_l_five_right z)) (c_l_triples : Cal P w K mg base CX0 3 "_law_triples" 4 f_l_triples) (c_l_shared5 : Cal P w K mg base CX0 4 "_law_shared" 3 f_l_shared5) (c_l_rest : Cal P w K mg base CX0 4 "_law_rest" 3 f_l_rest) (c_l_line_right5 : Cal P w K mg base CX0 5 "_law_line_right" 5 (f_l_line_right5 z)) (c_l_says : Cal P w K mg base CX0 1 "_law_says" 2 f_l_says) (isi : ∀ C ∈ [z.Oval, z.InLine, z.Shared, z.Apart], ClsI K C) (a_three : ClsF K [z.InLine] "three") (a_form : ClsF K [z.Oval] "form") (k_Oval : MkV P w K mg base 1 "Oval" z.Oval "form") (m_Oval_shows : CalM P w K mg base CX0 3 z.Oval "shows" 3 (f_Oval_shows z)) (k_Shared : MkL P w K mg base 1 "Shared" z.Shared "points") (m_Shared_shows : CalM P w K mg base CX0 4 z.Shared "shows" 4 (f_Shared_shows z)) (k_Apart : MkV P w K mg base 1 "Apart" z.Apart "rest") (m_Apart_shows : CalM P w K mg base CX0 4 z.Apart "shows" 4 (f_Apart_shows z)) : FnOk P w K mg base CX0 6 f fd ["_law_script"] (spD 1 (f_law5 z)) :=
  fnD0 _ F sc_law fun cdv A outer s H E hr =>
  (dss_cons (ds_asgN (ps_set (i := 0) sc_law.nd rfl (.inl rfl) (de_sliceS hK (de_var (pv 0)) dp_none (dp_some de_int))))
  (dss_cons (ds_for (vs := [1]) PassesOwn.never rfl (di_rg3 (by rfl) b_range (da_cons de_int (da_cons (de_len (by rfl) b_len (da_cons (de_var (pv 0)) da_nil)) (da_cons (de_add de_int (de_fdiv (de_len (by rfl) b_len (da_cons (de_var (pv 0)) da_nil)) de_int)) da_nil)))) (dg_name (pg_name (i := 1) sc_law.nd rfl (.inl rfl)))
  (dss_cons (ds_asgN (ps_set (i := 4) sc_law.nd rfl (.inl rfl) (de_cal c_l_prime (hr.mono (by decide)) (by rfl) rfl pass_0 (da_cons (de_var (pv 0)) (da_cons (de_var (pv 1)) da_nil)))))
  (dss_cons (ds_asgN (ps_set (i := 5) sc_law.nd rfl (.inr rfl) (de_cal c_l_value (hr.mono (by decide)) (by rfl) rfl pass_0 (da_cons (de_cal c_l_cell_at (hr.mono (by decide)) (by rfl) rfl pass_0 (da_cons (de_var (pv 0)) (da_cons (de_add (de_var (pv 1)) de_int) da_nil))) (da_cons (de_var (pv 1)) da_nil)))))
  (dss_cons (ds_asgN (ps_set (i := 6) sc_law.nd rfl (.inl rfl) (de_cal c_l_five (hr.mono (by decide)) (by rfl) rfl pass_0 (da_cons (de_var (pv 0)) (da_cons (de_var (pv 1)) (da_cons (de_var (pv 4)) da_nil))))))
  (dss_cons (ds_asgN (ps_set (i := 7) sc_law.nd rfl (.inl rfl) (de_calO c_oval (hr.mono (by decide)) (by rfl) rfl pass_N (da_cons (de_var (pv 4)) (da_cons (de_df (df_list (by rfl) b_list (da_cons (de_var (pv 6)) da_nil))) da_nil)))))
  (dss_cons (ds_asgN (ps_set (i := 8) sc_law.nd rfl (.inl rfl) (de_df (df_lst (da_cons de_int (da_cons (de_add de_int (de_mod (de_var (pv 5)) de_int)) (da_cons (de_add de_int (de_mod (de_fdiv (de_var (pv 5)) de_int) de_int)) da_nil)))))))
  (dss_cons (ds_asgN (ps_set (i := 8) sc_law.nd rfl (.inl rfl) (de_if (dt_val (de_isI hK isi (by rfl) b_isinstance (da_cons (de_var (pv 7)) (da_cons (de_gRef (by rfl) r_InLine) da_nil)))) (de_fld a_three (de_var (pv 7))) (de_var (pv 8)))))
  (dss_cons (ds_asgN (ps_set (i := 9) sc_law.nd rfl (.inl rfl) (de_cal c_l_two_lines (hr.mono (by decide)) (by rfl) rfl pass_0 (da_cons (de_var (pv 4)) (da_cons (de_var (pv 6)) (da_cons (de_var (pv 8)) da_nil))))))
  (dss_cons (ds_if (dt_val (de_isI hK isi (by rfl) b_isinstance (da_cons (de_var (pv 7)) (da_cons (de_gRef (by rfl) r_Oval) da_nil)))) (dss_one (ds_asgN (ps_set (i := 9) sc_law.nd rfl (.inl rfl) (de_fld a_form (de_var (pv 7)))))) dss_nil)
  (dss_cons (ds_asgN (ps_df (da_comp (own := [("_law_at", 14), ("_law_one", 23)]) (i := 10) rfl sc_law.nd rfl rfl (sw_true rfl rfl rfl (by decide +kernel)) (di_enumT (by rfl) b_enumerate (da_cons (de_var (pv 9)) da_nil)) (blkOk_by (N := n_law) (sc := defScope s_law) (own := [("_law_at", 14), ("_law_one", 23)]) (by decide +kernel)) (fun _ _ _ _ _ => (dg_tup rfl (dgs_cons (dg_name (pg_name (i := 14) sc_law.nd rfl (.inl rfl))) (dgs_cons (dg_name (pg_name (i := 23) sc_law.nd rfl (.inl rfl))) dgs_nil)))) (fun _ _ _ _ _ => (de_add (de_var (pv 23)) (de_int1 (by rfl) b_int (da_cons (de_eq (hu64 hr) (de_var (pv 14)) (de_mod (de_var (pv 5)) de_int)) da_nil)))))))
  (dss_cons (ds_asgN (ps_set (i := 10) sc_law.nd rfl (.inl rfl) (de_cal c_l_told (hr.mono (by decide)) (by rfl) rfl pass_0 (da_cons (de_var (pv 4)) (da_cons (de_add (de_var (pv 10)) (de_df (df_lst (da_cons de_int da_nil)))) da_nil)))))
  (dss_cons (ds_asgN (ps_set (i := 11) sc_law.nd rfl (.inl rfl) (de_tup (da_cons (de_var (pv 5)) (da_cons (de_fdiv (de_var (pv 5)) de_int) (da_cons (de_fdiv (de_var (pv 5)) de_int) (da_cons de_int (da_cons (de_fdiv (de_var (pv 5)) de_int) (da_cons de_int da_nil)))))))))
  (dss_cons (ds_asgN (ps_set (i := 12) sc_law.nd rfl (.inl rfl) (de_df (df_lst (da_cons (de_var (pv 9)) (da_cons (de_if (dt_val (de_anyIT rfl (by rfl) b_any (da_cons (de_slice (de_var (pv 10)) dp_none (dp_some de_int)) da_nil))) (de_slice (de_var (pv 10)) dp_none (dp_some de_int)) (de_var (pv 9))) da_nil))))))
  (dss_cons (ds_asgN (ps_set (i := 12) sc_law.nd rfl (.inl rfl) (de_add (de_var (pv 12)) (de_df (df_lst (da_cons (de_cal c_l_told (hr.mono (by decide)) (by rfl) rfl pass_0 (da_cons (de_var (pv 4)) (da_cons (de_revT (de_var (pv 9)) (po_some (pe_un un_neg pe_int)) (fun _ _ _ h => ⟨_, rfl, _, rfl, h⟩)) da_nil))) (da_cons (de_cal c_l_told (hr.mono (by decide)) (by rfl) rfl pass_0 (da_cons (de_var (pv 4)) (da_cons (de_var (pv 11)) da_nil))) da_nil)))))))
  (dss_cons (ds_asgN (ps_set (i := 13) sc_law.nd rfl (.inl rfl) (de_df (df_lst (da_cons (de_var (pv 8)) (da_cons (de_pick (zl := none) (zs := -1) (de_var (pv 8)) po_none (fun _ _ _ h => h) (po_some (pe_un un_neg pe_int)) (fun _ _ _ h => ⟨_, rfl, _, rfl, h⟩) (by decide)) (da_cons (de_slice (de_var (pv 8)) dp_none (dp_some de_int)) (da_cons (de_add (de_var (pv 8)) (de_df (df_lst (da_cons de_int da_nil)))) da_nil))))))))
  (dss_cons (ds_asgN (ps_set (i := 13) sc_law.nd rfl (.inl rfl) (de_add (de_var (pv 13)) (de_df (df_lst (da_cons (de_add (de_df (df_lst (da_cons (de_neg de_int) da_nil))) (de_slice (de_var (pv 8)) (dp_some de_int) dp_none)) (da_cons (de_add (de_slice (de_var (pv 8)) dp_none (dp_some de_int)) (de_df (df_lst (da_cons de_int da_nil)))) (da_cons (de_df (df_lst (da_cons de_int (da_cons de_int (da_cons de_int da_nil))))) (da_cons (de_df (df_lst da_nil)) da_nil)))))))))
  (dss_cons (ds_for (vs := [14]) PassesOwn.never rfl (di_rg1 (by rfl) b_range (da_cons de_int da_nil)) (dg_name (pg_name (i := 14) sc_law.nd rfl (.inl rfl)))
  (dss_one (ds_if (dt_not (dt_val (de_cal c_l_five_right (hr.mono (by decide)) (by rfl) rfl pass_0 (da_cons (de_var (pv 4)) (da_cons (de_var (pv 6)) (da_cons (de_ix (de_var (pv 12)) (de_mod (de_var (pv 14)) de_int)) (da_cons (de_ix (de_var (pv 13)) (de_var (pv 14))) da_nil))))))) (dss_one (ds_ret de_bl)) dss_nil)))
  (dss_cons (ds_asg (vs := [20, 21]) (de_cal c_l_triples (hr.mono (by decide)) (by rfl) rfl pass_0 (da_cons (de_var (pv 0)) (da_cons (de_add (de_var (pv 1)) de_int) (da_cons (de_var (pv 4)) (da_cons de_int da_nil))))) (dg_tup rfl (dgs_cons (dg_name (pg_name (i := 20) sc_law.nd rfl (.inl rfl))) (dgs_cons (dg_name (pg_name (i := 21) sc_law.nd rfl (.inl rfl))) dgs_nil))))
  (dss_cons (ds_asgN (ps_set (i := 15) sc_law.nd rfl (.inl rfl) (de_cal c_l_shared5 (hr.mono (by decide)) (by rfl) rfl pass_0 (da_cons (de_var (pv 4)) (da_cons (de_var (pv 9)) (da_cons (de_var (pv 20)) da_nil))))))
  (dss_cons (ds_asgN (ps_set (i := 16) sc_law.nd rfl (.inl rfl) (de_cal c_l_rest (hr.mono (by decide)) (by rfl) rfl pass_0 (da_cons (de_var (pv 4)) (da_cons (de_var (pv 9)) (da_cons (de_var (pv 20)) da_nil))))))
  (dss_cons (ds_asgN (ps_set (i := 17) sc_law.nd rfl (.inl rfl) (de_df (df_lst (da_cons (de_var (pv 15)) (da_cons (de_pick (zl := none) (zs := -1) (de_var (pv 15)) po_none (fun _ _ _ h => h) (po_some (pe_un un_neg pe_int)) (fun _ _ _ h => ⟨_, rfl, _, rfl, h⟩) (by decide)) (da_cons (de_slice (de_var (pv 15)) (dp_some de_int) dp_none) da_nil)))))))
  (dss_cons (ds_asgN (ps_set (i := 17) sc_law.nd rfl (.inl rfl) (de_add (de_var (pv 17)) (de_df (df_lst (da_cons (de_add (de_var (pv 15)) (de_slice (de_var (pv 15)) dp_none (dp_some de_int))) (da_cons (de_add (de_var (pv 15)) (de_df (df_lst (da_cons (de_var (pv 21)) da_nil)))) (da_cons (de_df (df_lst da_nil)) da_nil))))))))
  (dss_cons (ds_asgN (ps_set (i := 18) sc_law.nd rfl (.inl rfl) (de_tup (da_cons (de_var (pv 16)) (da_cons (de_add (de_var (pv 16)) de_int) (da_cons (de_add (de_var (pv 16)) (de_var (pv 4))) (da_cons (de_neg (de_var (pv 16))) (da_cons de_int (da_cons (de_var (pv 5)) da_nil)))))))))
  (dss_one (ds_for (vs := [14, 22]) PassesOwn.never rfl (di_enumT (by rfl) b_enumerate (da_cons (de_var (pv 18)) da_nil)) (dg_tup rfl (dgs_cons (dg_name (pg_name (i := 14) sc_law.nd rfl (.inl rfl))) (dgs_cons (dg_name (pg_name (i := 22) sc_law.nd rfl (.inl rfl))) dgs_nil)))
  (dss_one (ds_if (PW.pt (dw_or (dt_lt (m := true) (de_var (pv 4)) de_int) (dw_or1 (dt_in (m := true) (hu65 hr) (de_var (pv 14)) (de_tup (da_cons (de_mod (de_var (pv 5)) de_int) (da_cons de_int da_nil))) (by with_unfolding_all rfl))))) (dss_one (ds_if (dt_not (dt_val (de_cal c_l_line_right5 (hr.mono (by decide)) (by rfl) rfl pass_0 (da_cons (de_var (pv 4)) (da_cons (de_var (pv 9)) (da_cons (de_var (pv 20)) (da_cons (de_ix (de_var (pv 17)) (de_var (pv 14))) (da_cons (de_var (pv 22)) da_nil)))))))) (dss_one (ds_ret de_bl)) dss_nil)) dss_nil)))))))))))))))))))))))))))
  (dss_cons (ds_asg (vs := [9, 19, 20]) (de_tup (da_cons (de_tup (da_cons de_int (da_cons de_int (da_cons de_int (da_cons de_int (da_cons de_int (da_cons de_int da_nil))))))) (da_cons (de_tup (da_cons de_int (da_cons de_int (da_cons de_int (da_cons de_int (da_cons de_int (da_cons de_int da_nil))))))) (da_cons (de_tup (da_cons de_int (da_cons de_int (da_cons de_int da_nil)))) da_nil)))) (dg_tup rfl (dgs_cons (dg_name (pg_name (i := 9) sc_law.nd rfl (.inl rfl))) (dgs_cons (dg_name (pg_name (i := 19) sc_law.nd rfl (.inl rfl))) (dgs_cons (dg_name (pg_name (i := 20) sc_law.nd rfl (.inl rfl))) dgs_nil)))))
  (dss_cons (ds_ownN (ps_set (i := 2) sc_law.nd rfl (.inl rfl) (df_lst (da_cons (de_meth m_Oval_shows (hr.mono (by decide)) pass_0 (de_mkV k_Oval (hr.mono (by decide)) (by rfl) (da_cons (de_var (pv 9)) da_nil)) (da_cons de_int (da_cons (de_df (df_lst (da_cons (de_tup (da_cons de_int (da_cons de_int (da_cons de_int da_nil)))) (da_cons (de_tup (da_cons de_int (da_cons de_int (da_cons de_int da_nil)))) (da_cons (de_tup (da_cons de_int (da_cons de_int (da_cons de_int da_nil)))) (da_cons (de_tup (da_cons de_int (da_cons de_int (da_cons de_int da_nil)))) (da_cons (de_var (pv 20)) da_nil))))))) da_nil))) da_nil))))
  (dss_cons (ds_append (pv 2) (de_meth m_Shared_shows (hr.mono (by decide)) pass_0 (de_do (do_mkL k_Shared (hr.mono (by decide)) (by rfl) (da_cons (de_df (df_lst (da_cons (de_tup (da_cons de_int (da_cons de_int (da_cons de_int da_nil)))) da_nil))) da_nil))) (da_cons de_int (da_cons (de_var (pv 9)) (da_cons (de_var (pv 20)) da_nil)))))
  (dss_cons (ds_append (pv 2) (de_meth m_Apart_shows (hr.mono (by decide)) pass_0 (de_mkV k_Apart (hr.mono (by decide)) (by rfl) (da_cons de_int da_nil)) (da_cons de_int (da_cons (de_var (pv 19)) (da_cons (de_var (pv 20)) da_nil)))))
  (dss_cons (ds_asgN (ps_set (i := 3) sc_law.nd rfl (.inl rfl) (de_df (df_lst (da_cons (de_meth m_Shared_shows (hr.mono (by decide)) pass_0 (de_do (do_mkL k_Shared (hr.mono (by decide)) (by rfl) (da_cons (de_df (df_lst da_nil)) da_nil))) (da_cons de_int (da_cons (de_var (pv 19)) (da_cons (de_var (pv 20)) da_nil)))) (da_cons (de_meth m_Apart_shows (hr.mono (by decide)) pass_0 (de_mkV k_Apart (hr.mono (by decide)) (by rfl) (da_cons de_int da_nil)) (da_cons de_int (da_cons (de_var (pv 9)) (da_cons (de_var (pv 20)) da_nil)))) da_nil))))))
  (dss_one (ds_frz 2 (ds_ret (de_and (de_all rfl (by rfl) b_all (da_cons (de_df (df_comp (own := [("_law_said", 24)]) rfl sc_law.nd (di_seq (de_var (pv 2))) (blkOk_by (N := n_law) (sc := defScope s_law) (own := [("_law_said", 24)]) (by decide +kernel)) (fun _ _ _ _ _ => (dg_name (pg_name (i := 24) sc_law.nd rfl (.inl rfl)))) (fun _ _ _ _ _ => (de_cal c_l_says (hr.mono (by decide)) (by rfl) rfl pass_0 (da_cons (de_var (pv 24)) (da_cons de_bl da_nil)))))) da_nil)) (de_one (de_all rfl (by rfl) b_all (da_cons (de_df (df_comp (own := [("_law_said", 24)]) rfl sc_law.nd (di_seq (de_var (pv 3))) (blkOk_by (N := n_law) (sc := defScope s_law) (own := [("_law_said", 24)]) (by decide +kernel)) (fun _ _ _ _ _ => (dg_name (pg_name (i := 24) sc_law.nd rfl (.inl rfl)))) (fun _ _ _ _ _ => (de_cal c_l_says (hr.mono (by decide)) (by rfl) rfl pass_0 (da_cons (de_var (pv 24)) (da_cons de_bl da_nil)))))) da_nil))))))))))))))
end
end OM
set_option maxRecDepth 100000
set_option maxHeartbeats 4000000
namespace OM
open PySem PySem.Spec PyProof.Rows L2 DI
def d_is_whole : He.DefD := ⟨("is_whole", none), "is_whole", "is_whole", defArgs s_is_whole, defBody s_is_whole, defScope s_is_whole, [], []⟩
def d_check_prime : He.DefD := ⟨("check_prime", none), "check_prime", "check_prime", defArgs s_check_prime, defBody s_check_prime, defScope s_check_prime, [], []⟩
def d_is_told : He.DefD := ⟨("is_told", none), "is_told", "is_told", defArgs s_is_told, defBody s_is_told, defScope s_is_told, [], []⟩
def d_check_point : He.DefD := ⟨("check_point", none), "check_point", "check_point", defArgs s_check_point, defBody s_check_point, defScope s_check_point, [], []⟩
def d_turned : He.DefD := ⟨("turned", none), "turned", "turned", defArgs s_turned, defBody s_turned, defScope s_turned, [], []⟩
def d_told_of : He.DefD := ⟨("told_of", none), "told_of", "told_of", defArgs s_told_of, defBody s_told_of, defScope s_told_of, [], []⟩
def d_at_line : He.DefD := ⟨("at_line", none), "at_line", "at_line", defArgs s_at_line, defBody s_at_line, defScope s_at_line, [], []⟩
def d_left_by : He.DefD := ⟨("left_by", none), "left_by", "left_by", defArgs s_left_by, defBody s_left_by, defScope s_left_by, [], []⟩
def d_in_line : He.DefD := ⟨("in_line", none), "in_line", "in_line", defArgs s_in_line, defBody s_in_line, defScope s_in_line, [], []⟩
def d_threes_of : He.DefD := ⟨("threes_of", none), "threes_of", "threes_of", defArgs s_threes_of, defBody s_threes_of, defScope s_threes_of, [], []⟩
def d_first_in_line : He.DefD := ⟨("first_in_line", none), "first_in_line", "first_in_line", defArgs s_first_in_line, defBody s_first_in_line, defScope s_first_in_line, [], []⟩
def d_rest_of : He.DefD := ⟨("rest_of", none), "rest_of", "rest_of", defArgs s_rest_of, defBody s_rest_of, defScope s_rest_of, [], []⟩
def d_is_square : He.DefD := ⟨("is_square", none), "is_square", "is_square", defArgs s_is_square, defBody s_is_square, defScope s_is_square, [], []⟩
def d_shared_of : He.DefD := ⟨("shared_of", none), "shared_of", "shared_of", defArgs s_shared_of, defBody s_shared_of, defScope s_shared_of, [], []⟩
def d_through : He.DefD := ⟨("through", none), "through", "through", defArgs s_through, defBody s_through, defScope s_through, [], []⟩
def d_Oval_init : He.DefD := ⟨("Oval", some "__init__"), "__init__", "Oval.__init__", defArgs s_Oval_init, defBody s_Oval_init, defScope s_Oval_init, [], []⟩
def d_InLine_init : He.DefD := ⟨("InLine", some "__init__"), "__init__", "InLine.__init__", defArgs s_InLine_init, defBody s_InLine_init, defScope s_InLine_init, [], []⟩
def d_oval : He.DefD := ⟨("oval", none), "oval", "oval", defArgs s_oval, defBody s_oval, defScope s_oval, [], []⟩
def d_l_cell_at : He.DefD := ⟨("_law_cell_at", none), "_law_cell_at", "_law_cell_at", defArgs s_l_cell_at, defBody s_l_cell_at, defScope s_l_cell_at, [], []⟩
def d_l_draw : He.DefD := ⟨("_law_draw", none), "_law_draw", "_law_draw", defArgs s_l_draw, defBody s_l_draw, defScope s_l_draw, [], []⟩
def d_l_value : He.DefD := ⟨("_law_value", none), "_law_value", "_law_value", defArgs s_l_value, defBody s_l_value, defScope s_l_value, [], []⟩
def d_l_prime : He.DefD := ⟨("_law_prime", none), "_law_prime", "_law_prime", defArgs s_l_prime, defBody s_l_prime, defScope s_l_prime, [], []⟩
def d_l_triple : He.DefD := ⟨("_law_triple", none), "_law_triple", "_law_triple", defArgs s_l_triple, defBody s_l_triple, defScope s_l_triple, [], []⟩
def d_l_triples : He.DefD := ⟨("_law_triples", none), "_law_triples", "_law_triples", defArgs s_l_triples, defBody s_l_triples, defScope s_l_triples, [], []⟩
def d_l_told : He.DefD := ⟨("_law_told", none), "_law_told", "_law_told", defArgs s_l_told, defBody s_l_told, defScope s_l_told, [], []⟩
def d_l_cross : He.DefD := ⟨("_law_cross", none), "_law_cross", "_law_cross", defArgs s_l_cross, defBody s_l_cross, defScope s_l_cross, [], []⟩
def d_l_on : He.DefD := ⟨("_law_on", none), "_law_on", "_law_on", defArgs s_l_on, defBody s_l_on, defScope s_l_on, [], []⟩
def d_l_in_line : He.DefD := ⟨("_law_in_line", none), "_law_in_line", "_law_in_line", defArgs s_l_in_line, defBody s_l_in_line, defScope s_l_in_line, [], []⟩
def d_l_spanned : He.DefD := ⟨("_law_spanned", none), "_law_spanned", "_law_spanned", defArgs s_l_spanned, defBody s_l_spanned, defScope s_l_spanned, [], []⟩
def d_l_points : He.DefD := ⟨("_law_points", none), "_law_points", "_law_points", defArgs s_l_points, defBody s_l_points, defScope s_l_points, [], []⟩
def d_l_left : He.DefD := ⟨("_law_left", none), "_law_left", "_law_left", defArgs s_l_left, defBody s_l_left, defScope s_l_left, [], []⟩
def d_l_is_told : He.DefD := ⟨("_law_is_told", none), "_law_is_told", "_law_is_told", defArgs s_l_is_told, defBody s_l_is_told, defScope s_l_is_told, [], []⟩
def d_l_says : He.DefD := ⟨("_law_says", none), "_law_says", "_law_says", defArgs s_l_says, defBody s_l_says, defScope s_l_says, [], []⟩
def d_l_three : He.DefD := ⟨("_law_three", none), "_law_three", "_law_three", defArgs s_l_three, defBody s_l_three, defScope s_l_three, [], []⟩
def d_l_rest : He.DefD := ⟨("_law_rest", none), "_law_rest", "_law_rest", defArgs s_l_rest, defBody s_l_rest, defScope s_l_rest, [], []⟩
def d_l_square : He.DefD := ⟨("_law_square", none), "_law_square", "_law_square", defArgs s_l_square, defBody s_l_square, defScope s_l_square, [], []⟩
def d_l_five : He.DefD := ⟨("_law_five", none), "_law_five", "_law_five", defArgs s_l_five, defBody s_l_five, defScope s_l_five, [], []⟩
def d_l_lines : He.DefD := ⟨("_law_lines", none), "_law_lines", "_law_lines", defArgs s_l_lines, defBody s_l_lines, defScope s_l_lines, [], []⟩
def d_l_two_lines : He.DefD := ⟨("_law_two_lines", none), "_law_two_lines", "_law_two_lines", defArgs s_l_two_lines, defBody s_l_two_lines, defScope s_l_two_lines, [], []⟩
def d_InLine_shows : He.DefD := ⟨("InLine", some "shows"), "shows", "InLine.shows", defArgs s_InLine_shows, defBody s_InLine_shows, defScope s_InLine_shows, [], []⟩
def d_Oval_shows : He.DefD := ⟨("Oval", some "shows"), "shows", "Oval.shows", defArgs s_Oval_shows, defBody s_Oval_shows, defScope s_Oval_shows, [], []⟩
def d_l_five_right : He.DefD := ⟨("_law_five_right", none), "_law_five_right", "_law_five_right", defArgs s_l_five_right, defBody s_l_five_right, defScope s_l_five_right, [], []⟩
def d_l_shared5 : He.DefD := ⟨("_law_shared", none), "_law_shared", "_law_shared", defArgs s_l_shared5, defBody s_l_shared5, defScope s_l_shared5, [], []⟩
def d_Shared_init : He.DefD := ⟨("Shared", some "__init__"), "__init__", "Shared.__init__", defArgs s_Shared_init, defBody s_Shared_init, defScope s_Shared_init, [], []⟩
def d_Apart_init : He.DefD := ⟨("Apart", some "__init__"), "__init__", "Apart.__init__", defArgs s_Apart_init, defBody s_Apart_init, defScope s_Apart_init, [], []⟩
def d_Apart_shows : He.DefD := ⟨("Apart", some "shows"), "shows", "Apart.shows", defArgs s_Apart_shows, defBody s_Apart_shows, defScope s_Apart_shows, [], []⟩
def d_Shared_shows : He.DefD := ⟨("Shared", some "shows"), "shows", "Shared.shows", defArgs s_Shared_shows, defBody s_Shared_shows, defScope s_Shared_shows, [], []⟩
def d_l_line_right5 : He.DefD := ⟨("_law_line_right", none), "_law_line_right", "_law_line_right", defArgs s_l_line_right5, defBody s_l_line_right5, defScope s_l_line_right5, [], []⟩
def d_law : He.DefD := ⟨("law", none), "law", "law", defArgs s_law, defBody s_law, defScope s_law, [], []⟩
def fns : List He.DefD := [d_is_whole, d_check_prime, d_is_told, d_check_point, d_turned, d_told_of, d_at_line, d_left_by, d_in_line, d_threes_of, d_first_in_line, d_rest_of, d_is_square, d_shared_of, d_through, d_Oval_init, d_InLine_init, d_oval, d_l_cell_at, d_l_draw, d_l_value, d_l_prime, d_l_triple, d_l_triples, d_l_told, d_l_cross, d_l_on, d_l_in_line, d_l_spanned, d_l_points, d_l_left, d_l_is_told, d_l_says, d_l_three, d_l_rest, d_l_square, d_l_five, d_l_lines, d_l_two_lines, d_InLine_shows, d_Oval_shows, d_l_five_right, d_l_shared5, d_Shared_init, d_Apart_init, d_Apart_shows, d_Shared_shows, d_l_line_right5, d_law]
def fas : List He.Fa := [.glo "is_whole", .glo "check_prime", .glo "is_told", .glo "check_point", .glo "turned", .glo "told_of", .glo "at_line", .glo "left_by", .glo "in_line", .glo "threes_of", .glo "first_in_line", .glo "rest_of", .glo "is_square", .glo "shared_of", .glo "through", .glo "oval", .glo "_law_cell_at", .glo "_law_draw", .glo "_law_value", .glo "_law_prime", .glo "_law_triple", .glo "_law_triples", .glo "_law_told", .glo "_law_cross", .glo "_law_on", .glo "_law_in_line", .glo "_law_spanned", .glo "_law_points", .glo "_law_left", .glo "_law_is_told", .glo "_law_says", .glo "_law_three", .glo "_law_rest", .glo "_law_square", .glo "_law_five", .glo "_law_lines", .glo "_law_two_lines", .glo "_law_five_right", .glo "_law_shared", .glo "_law_line_right", .glo "law", .free "isinstance", .free "int", .free "bool", .free "any", .free "range", .free "tuple", .free "len", .free "all", .free "zip", .free "enumerate", .free "list", .free "set", .free "sum", .free "sorted", .int "GREATEST" 997, .glo "BadPrime", .exc "BadPrime", .glo "BadPoint", .exc "BadPoint", .glo "Alike", .exc "Alike", .glo "InLine", .glo "Oval", .cls "Oval", .noat "Oval" "form", .cls "InLine", .noat "InLine" "three", .glo "Shared", .cls "Shared", .noat "Shared" "points", .glo "Apart", .cls "Apart", .noat "Apart" "rest", .glo "Answer", .mkr "Oval", .mkr "InLine", .meth "InLine" "shows", .meth "Oval" "shows", .mkr "Shared", .mkr "Apart", .meth "Apart" "shows", .meth "Shared" "shows"]
abbrev R : PySem.W.OpenRow := PySem.W.OpenLaw.row PySem.Challenge.rw_onemeet_k05_answers_by_hand
def isB (K : PySem.W.Frag) (x : Str) : Bool := (He.Fa.cls x).ok K && (He.eqO (PySem.W.findIn K (.ref (He.ga K x)) "__class__") (some (some (.builtin "object.__class__"))) && decide (PySem.W.mroIn K (He.ga K x) (.type "object") = some true))
def exB (K : PySem.W.Frag) : Bool := He.eqO (PySem.W.specialIn K (.builtin "object.__class__") "__get__") (some (some (.builtin "getset_descriptor.__get__"))) && (decide (PySem.W.takesIn K (.builtin "object.__class__") = some true) && ((isB K "Oval" && DI.kitB K "Oval" [("Oval", true), ("InLine", false), ("Shared", false), ("Apart", false), ("Answer", true)]) && (isB K "InLine" && DI.kitB K "InLine" [("Oval", false), ("InLine", true), ("Shared", false), ("Apart", false), ("Answer", true)]) && (isB K "Shared" && DI.kitB K "Shared" [("Oval", false), ("InLine", false), ("Shared", true), ("Apart", false), ("Answer", true)]) && (isB K "Apart" && DI.kitB K "Apart" [("Oval", false), ("InLine", false), ("Shared", false), ("Apart", true), ("Answer", true)])))
abbrev hk : PySem.W.Hook := DI.hookB 6 fas fns exB
def ob (s : PySem.W.SharedT) : Bool × He.AlD := DI.obB 6 fas fns exB (HandSHeadRun.getT s)
theorem ob_eq (s : PySem.W.SharedT) : ob s = hk.obs s.abs := DI.obB_eq (HandSHeadRun.getT_eq s)
def loose1 : List PySem.Str := ["MeetError", "BadPrime", "BadPoint", "Alike", "GREATEST", "is_whole", "check_prime", "is_told", "check_point", "turned", "told_of", "at_line", "Answer", "left_by", "in_line", "threes_of", "first_in_line", "rest_of", "is_square", "Oval", "InLine", "Shared", "Apart", "shared_of", "through", "oval", "_law_cell_at", "_law_draw", "_law_value", "_law_prime"]
def loose2 : List PySem.Str := ["_law_triple", "_law_triples", "_law_told", "_law_cross", "_law_on", "_law_in_line", "_law_points", "_law_spanned", "_law_left", "_law_is_told", "_law_says", "_law_three", "_law_rest", "_law_square", "_law_five", "_law_lines", "_law_two_lines", "_law_five_right", "_law_shared", "_law_line_right"]
def loose3 : List PySem.Str := []
def loose : List PySem.Str := loose1 ++ (loose2 ++ loose3)
set_option maxHeartbeats 0 in
theorem run (w : World) : HandSHeadRun.RunEq R (PySem.W.view R.prog [56]) hk ob 40000 loose w := by
  intro os
  kernel_rfl
set_option maxHeartbeats 0 in
theorem facts {P : Program} {w : World} {K : PySem.W.Frag} {h : Heap} {mg : Str → Option Value} {f : Addr} (X : K.In h) (G : h.Ns mainGlobals mg) (hfa : mg ("law" : Str) = some (.ref f)) (c : He.SaysD fas fns K) (hex : exB K = true) :
    ∃ (fd : FuncData) (z : Adr), z.K = K ∧ KitOk z ∧ (∀ (s : Shared) (v : Value), BindsTo s fd ⟨[v], []⟩ [("_law_script", v)]) ∧ ∀ base : Heap, K.In base → base.Ns mainGlobals mg → FnOk P w K mg base CX0 6 f fd ["_law_script"] (spD 1 (f_law5 z)) := by
  obtain ⟨z, hz⟩ : ∃ z : Adr, z = { K := K, BadPrime := He.ga K "BadPrime", BadPoint := He.ga K "BadPoint", Alike := He.ga K "Alike", InLine := He.ga K "InLine", Oval := He.ga K "Oval", Shared := He.ga K "Shared", Apart := He.ga K "Apart", Answer := He.ga K "Answer" } := ⟨_, rfl⟩
  have b_isinstance := He.free_ok X G (c.fact 41 (f := .free "isinstance") rfl)
  have b_int := He.free_ok X G (c.fact 42 (f := .free "int") rfl)
  have b_bool := He.free_ok X G (c.fact 43 (f := .free "bool") rfl)
  have b_any := He.free_ok X G (c.fact 44 (f := .free "any") rfl)
  have b_range := He.free_ok X G (c.fact 45 (f := .free "range") rfl)
  have b_tuple := He.free_ok X G (c.fact 46 (f := .free "tuple") rfl)
  have b_len := He.free_ok X G (c.fact 47 (f := .free "len") rfl)
  have b_all := He.free_ok X G (c.fact 48 (f := .free "all") rfl)
  have b_zip := He.free_ok X G (c.fact 49 (f := .free "zip") rfl)
  have b_enumerate := He.free_ok X G (c.fact 50 (f := .free "enumerate") rfl)
  have b_list := He.free_ok X G (c.fact 51 (f := .free "list") rfl)
  have b_set := He.free_ok X G (c.fact 52 (f := .free "set") rfl)
  have b_sum := He.free_ok X G (c.fact 53 (f := .free "sum") rfl)
  have b_sorted := He.free_ok X G (c.fact 54 (f := .free "sorted") rfl)
  have g_GREATEST := He.int_ok X G (c.fact 55 (f := .int "GREATEST" 997) rfl)
  have e_BadPrime : ExcC K mg "BadPrime" z.BadPrime := by rw [hz]; exact excC_of X G (c.fact 56 (f := .glo "BadPrime") rfl) (c.fact 57 (f := .exc "BadPrime") rfl)
  have e_BadPoint : ExcC K mg "BadPoint" z.BadPoint := by rw [hz]; exact excC_of X G (c.fact 58 (f := .glo "BadPoint") rfl) (c.fact 59 (f := .exc "BadPoint") rfl)
  have e_Alike : ExcC K mg "Alike" z.Alike := by rw [hz]; exact excC_of X G (c.fact 60 (f := .glo "Alike") rfl) (c.fact 61 (f := .exc "Alike") rfl)
  have r_InLine : mg "InLine" = some (.ref z.InLine) := by rw [hz]; exact He.glo_ok X G (c.fact 62 (f := .glo "InLine") rfl)
  have r_Oval : mg "Oval" = some (.ref z.Oval) := by rw [hz]; exact He.glo_ok X G (c.fact 63 (f := .glo "Oval") rfl)
  have isi : (∀ C ∈ [z.Oval, z.InLine, z.Shared, z.Apart], ClsI K C) ∧ KitOk z := by
    rw [hz]
    unfold exB at hex
    simp only [isB, Bool.and_eq_true] at hex
    obtain ⟨hn, htk, hq⟩ := hex
    obtain ⟨⟨⟨⟨⟨hc0, ha0, hm0⟩, hk0⟩, ⟨⟨hc1, ha1, hm1⟩, hk1⟩⟩, ⟨⟨hc2, ha2, hm2⟩, hk2⟩⟩, ⟨⟨hc3, ha3, hm3⟩, hk3⟩⟩ := hq
    refine ⟨fun C hC => ?_, DI.kitB_ok hk0 0, DI.kitB_ok hk0 1, DI.kitB_ok hk0 2, DI.kitB_ok hk0 3, DI.kitB_ok hk0 4, DI.kitB_ok hk1 0, DI.kitB_ok hk1 1, DI.kitB_ok hk1 2, DI.kitB_ok hk1 3, DI.kitB_ok hk1 4, DI.kitB_ok hk2 0, DI.kitB_ok hk2 1, DI.kitB_ok hk2 2, DI.kitB_ok hk2 3, DI.kitB_ok hk2 4, DI.kitB_ok hk3 0, DI.kitB_ok hk3 1, DI.kitB_ok hk3 2, DI.kitB_ok hk3 3, DI.kitB_ok hk3 4⟩
    simp only [List.mem_cons, List.not_mem_nil, or_false] at hC
    rcases hC with rfl | rfl | rfl | rfl
    · exact ⟨He.cls_ok hc0, He.eqO_ok ha0, He.eqO_ok hn, of_decide_eq_true htk, of_decide_eq_true hm0⟩
    · exact ⟨He.cls_ok hc1, He.eqO_ok ha1, He.eqO_ok hn, of_decide_eq_true htk, of_decide_eq_true hm1⟩
    · exact ⟨He.cls_ok hc2, He.eqO_ok ha2, He.eqO_ok hn, of_decide_eq_true htk, of_decide_eq_true hm2⟩
    · exact ⟨He.cls_ok hc3, He.eqO_ok ha3, He.eqO_ok hn, of_decide_eq_true htk, of_decide_eq_true hm3⟩
  obtain ⟨isi, kits⟩ := isi
  have cl_Oval : Cls K z.Oval ∧ NoAttr K z.Oval "form" := by rw [hz]; exact ⟨He.cls_ok (c.fact 64 (f := .cls "Oval") rfl), He.noat_ok (c.fact 65 (f := .noat "Oval" "form") rfl)⟩
  have gl_Oval : mg "Oval" = some (.ref z.Oval) := by rw [hz]; exact He.glo_ok X G (c.fact 63 (f := .glo "Oval") rfl)
  have a_form : ClsF K [z.Oval] "form" := fun C hC => by rw [List.mem_singleton.mp hC]; exact cl_Oval
  have cl_InLine : Cls K z.InLine ∧ NoAttr K z.InLine "three" := by rw [hz]; exact ⟨He.cls_ok (c.fact 66 (f := .cls "InLine") rfl), He.noat_ok (c.fact 67 (f := .noat "InLine" "three") rfl)⟩
  have gl_InLine : mg "InLine" = some (.ref z.InLine) := by rw [hz]; exact He.glo_ok X G (c.fact 62 (f := .glo "InLine") rfl)
  have a_three : ClsF K [z.InLine] "three" := fun C hC => by rw [List.mem_singleton.mp hC]; exact cl_InLine
  have cl_Shared : Cls K z.Shared ∧ NoAttr K z.Shared "points" := by rw [hz]; exact ⟨He.cls_ok (c.fact 69 (f := .cls "Shared") rfl), He.noat_ok (c.fact 70 (f := .noat "Shared" "points") rfl)⟩
  have gl_Shared : mg "Shared" = some (.ref z.Shared) := by rw [hz]; exact He.glo_ok X G (c.fact 68 (f := .glo "Shared") rfl)
  have a_points : ClsF K [z.Shared] "points" := fun C hC => by rw [List.mem_singleton.mp hC]; exact cl_Shared
  have cl_Apart : Cls K z.Apart ∧ NoAttr K z.Apart "rest" := by rw [hz]; exact ⟨He.cls_ok (c.fact 72 (f := .cls "Apart") rfl), He.noat_ok (c.fact 73 (f := .noat "Apart" "rest") rfl)⟩
  have gl_Apart : mg "Apart" = some (.ref z.Apart) := by rw [hz]; exact He.glo_ok X G (c.fact 71 (f := .glo "Apart") rfl)
  have a_rest : ClsF K [z.Apart] "rest" := fun C hC => by rw [List.mem_singleton.mp hC]; exact cl_Apart
  obtain ⟨fd_is_whole, F_is_whole⟩ := c.def_ 0 (d := d_is_whole) rfl
  have G_is_whole := He.glo_ok X G (c.fact 0 (f := .glo "is_whole") rfl)
  obtain ⟨fd_check_prime, F_check_prime⟩ := c.def_ 1 (d := d_check_prime) rfl
  have G_check_prime := He.glo_ok X G (c.fact 1 (f := .glo "check_prime") rfl)
  obtain ⟨fd_is_told, F_is_told⟩ := c.def_ 2 (d := d_is_told) rfl
  have G_is_told := He.glo_ok X G (c.fact 2 (f := .glo "is_told") rfl)
  obtain ⟨fd_check_point, F_check_point⟩ := c.def_ 3 (d := d_check_point) rfl
  have G_check_point := He.glo_ok X G (c.fact 3 (f := .glo "check_point") rfl)
  obtain ⟨fd_turned, F_turned⟩ := c.def_ 4 (d := d_turned) rfl
  have G_turned := He.glo_ok X G (c.fact 4 (f := .glo "turned") rfl)
  obtain ⟨fd_told_of, F_told_of⟩ := c.def_ 5 (d := d_told_of) rfl
  have G_told_of := He.glo_ok X G (c.fact 5 (f := .glo "told_of") rfl)
  obtain ⟨fd_at_line, F_at_line⟩ := c.def_ 6 (d := d_at_line) rfl
  have G_at_line := He.glo_ok X G (c.fact 6 (f := .glo "at_line") rfl)
  obtain ⟨fd_left_by, F_left_by⟩ := c.def_ 7 (d := d_left_by) rfl
  have G_left_by := He.glo_ok X G (c.fact 7 (f := .glo "left_by") rfl)
  obtain ⟨fd_in_line, F_in_line⟩ := c.def_ 8 (d := d_in_line) rfl
  have G_in_line := He.glo_ok X G (c.fact 8 (f := .glo "in_line") rfl)
  obtain ⟨fd_threes_of, F_threes_of⟩ := c.def_ 9 (d := d_threes_of) rfl
  have G_threes_of := He.glo_ok X G (c.fact 9 (f := .glo "threes_of") rfl)
  obtain ⟨fd_first_in_line, F_first_in_line⟩ := c.def_ 10 (d := d_first_in_line) rfl
  have G_first_in_line := He.glo_ok X G (c.fact 10 (f := .glo "first_in_line") rfl)
  obtain ⟨fd_rest_of, F_rest_of⟩ := c.def_ 11 (d := d_rest_of) rfl
  have G_rest_of := He.glo_ok X G (c.fact 11 (f := .glo "rest_of") rfl)
  obtain ⟨fd_is_square, F_is_square⟩ := c.def_ 12 (d := d_is_square) rfl
  have G_is_square := He.glo_ok X G (c.fact 12 (f := .glo "is_square") rfl)
  obtain ⟨fd_shared_of, F_shared_of⟩ := c.def_ 13 (d := d_shared_of) rfl
  have G_shared_of := He.glo_ok X G (c.fact 13 (f := .glo "shared_of") rfl)
  obtain ⟨fd_through, F_through⟩ := c.def_ 14 (d := d_through) rfl
  have G_through := He.glo_ok X G (c.fact 14 (f := .glo "through") rfl)
  obtain ⟨fd_Oval_init, F_Oval_init⟩ := c.def_ 15 (d := d_Oval_init) rfl
  have M_Oval : Mk K z.Oval (He.fAd K d_Oval_init.at_) := by rw [hz]; exact He.mkr_ok (c.fact 75 (f := .mkr "Oval") rfl)
  obtain ⟨fd_InLine_init, F_InLine_init⟩ := c.def_ 16 (d := d_InLine_init) rfl
  have M_InLine : Mk K z.InLine (He.fAd K d_InLine_init.at_) := by rw [hz]; exact He.mkr_ok (c.fact 76 (f := .mkr "InLine") rfl)
  obtain ⟨fd_oval, F_oval⟩ := c.def_ 17 (d := d_oval) rfl
  have G_oval := He.glo_ok X G (c.fact 15 (f := .glo "oval") rfl)
  obtain ⟨fd_l_cell_at, F_l_cell_at⟩ := c.def_ 18 (d := d_l_cell_at) rfl
  have G_l_cell_at := He.glo_ok X G (c.fact 16 (f := .glo "_law_cell_at") rfl)
  obtain ⟨fd_l_draw, F_l_draw⟩ := c.def_ 19 (d := d_l_draw) rfl
  have G_l_draw := He.glo_ok X G (c.fact 17 (f := .glo "_law_draw") rfl)
  obtain ⟨fd_l_value, F_l_value⟩ := c.def_ 20 (d := d_l_value) rfl
  have G_l_value := He.glo_ok X G (c.fact 18 (f := .glo "_law_value") rfl)
  obtain ⟨fd_l_prime, F_l_prime⟩ := c.def_ 21 (d := d_l_prime) rfl
  have G_l_prime := He.glo_ok X G (c.fact 19 (f := .glo "_law_prime") rfl)
  obtain ⟨fd_l_triple, F_l_triple⟩ := c.def_ 22 (d := d_l_triple) rfl
  have G_l_triple := He.glo_ok X G (c.fact 20 (f := .glo "_law_triple") rfl)
  obtain ⟨fd_l_triples, F_l_triples⟩ := c.def_ 23 (d := d_l_triples) rfl
  have G_l_triples := He.glo_ok X G (c.fact 21 (f := .glo "_law_triples") rfl)
  obtain ⟨fd_l_told, F_l_told⟩ := c.def_ 24 (d := d_l_told) rfl
  have G_l_told := He.glo_ok X G (c.fact 22 (f := .glo "_law_told") rfl)
  obtain ⟨fd_l_cross, F_l_cross⟩ := c.def_ 25 (d := d_l_cross) rfl
  have G_l_cross := He.glo_ok X G (c.fact 23 (f := .glo "_law_cross") rfl)
  obtain ⟨fd_l_on, F_l_on⟩ := c.def_ 26 (d := d_l_on) rfl
  have G_l_on := He.glo_ok X G (c.fact 24 (f := .glo "_law_on") rfl)
  obtain ⟨fd_l_in_line, F_l_in_line⟩ := c.def_ 27 (d := d_l_in_line) rfl
  have G_l_in_line := He.glo_ok X G (c.fact 25 (f := .glo "_law_in_line") rfl)
  obtain ⟨fd_l_spanned, F_l_spanned⟩ := c.def_ 28 (d := d_l_spanned) rfl
  have G_l_spanned := He.glo_ok X G (c.fact 26 (f := .glo "_law_spanned") rfl)
  obtain ⟨fd_l_points, F_l_points⟩ := c.def_ 29 (d := d_l_points) rfl
  have G_l_points := He.glo_ok X G (c.fact 27 (f := .glo "_law_points") rfl)
  obtain ⟨fd_l_left, F_l_left⟩ := c.def_ 30 (d := d_l_left) rfl
  have G_l_left := He.glo_ok X G (c.fact 28 (f := .glo "_law_left") rfl)
  obtain ⟨fd_l_is_told, F_l_is_told⟩ := c.def_ 31 (d := d_l_is_told) rfl
  have G_l_is_told := He.glo_ok X G (c.fact 29 (f := .glo "_law_is_told") rfl)
  obtain ⟨fd_l_says, F_l_says⟩ := c.def_ 32 (d := d_l_says) rfl
  have G_l_says := He.glo_ok X G (c.fact 30 (f := .glo "_law_says") rfl)
  obtain ⟨fd_l_three, F_l_three⟩ := c.def_ 33 (d := d_l_three) rfl
  have G_l_three := He.glo_ok X G (c.fact 31 (f := .glo "_law_three") rfl)
  obtain ⟨fd_l_rest, F_l_rest⟩ := c.def_ 34 (d := d_l_rest) rfl
  have G_l_rest := He.glo_ok X G (c.fact 32 (f := .glo "_law_rest") rfl)
  obtain ⟨fd_l_square, F_l_square⟩ := c.def_ 35 (d := d_l_square) rfl
  have G_l_square := He.glo_ok X G (c.fact 33 (f := .glo "_law_square") rfl)
  obtain ⟨fd_l_five, F_l_five⟩ := c.def_ 36 (d := d_l_five) rfl
  have G_l_five := He.glo_ok X G (c.fact 34 (f := .glo "_law_five") rfl)
  obtain ⟨fd_l_lines, F_l_lines⟩ := c.def_ 37 (d := d_l_lines) rfl
  have G_l_lines := He.glo_ok X G (c.fact 35 (f := .glo "_law_lines") rfl)
  obtain ⟨fd_l_two_lines, F_l_two_lines⟩ := c.def_ 38 (d := d_l_two_lines) rfl
  have G_l_two_lines := He.glo_ok X G (c.fact 36 (f := .glo "_law_two_lines") rfl)
  obtain ⟨fd_InLine_shows, F_InLine_shows⟩ := c.def_ 39 (d := d_InLine_shows) rfl
  have M_InLine_shows : Meth K z.InLine "shows" (He.fAd K d_InLine_shows.at_) := by rw [hz]; exact He.meth_ok (c.fact 77 (f := .meth "InLine" "shows") rfl)
  obtain ⟨fd_Oval_shows, F_Oval_shows⟩ := c.def_ 40 (d := d_Oval_shows) rfl
  have M_Oval_shows : Meth K z.Oval "shows" (He.fAd K d_Oval_shows.at_) := by rw [hz]; exact He.meth_ok (c.fact 78 (f := .meth "Oval" "shows") rfl)
  obtain ⟨fd_l_five_right, F_l_five_right⟩ := c.def_ 41 (d := d_l_five_right) rfl
  have G_l_five_right := He.glo_ok X G (c.fact 37 (f := .glo "_law_five_right") rfl)
  obtain ⟨fd_l_shared5, F_l_shared5⟩ := c.def_ 42 (d := d_l_shared5) rfl
  have G_l_shared5 := He.glo_ok X G (c.fact 38 (f := .glo "_law_shared") rfl)
  obtain ⟨fd_Shared_init, F_Shared_init⟩ := c.def_ 43 (d := d_Shared_init) rfl
  have M_Shared : Mk K z.Shared (He.fAd K d_Shared_init.at_) := by rw [hz]; exact He.mkr_ok (c.fact 79 (f := .mkr "Shared") rfl)
  obtain ⟨fd_Apart_init, F_Apart_init⟩ := c.def_ 44 (d := d_Apart_init) rfl
  have M_Apart : Mk K z.Apart (He.fAd K d_Apart_init.at_) := by rw [hz]; exact He.mkr_ok (c.fact 80 (f := .mkr "Apart") rfl)
  obtain ⟨fd_Apart_shows, F_Apart_shows⟩ := c.def_ 45 (d := d_Apart_shows) rfl
  have M_Apart_shows : Meth K z.Apart "shows" (He.fAd K d_Apart_shows.at_) := by rw [hz]; exact He.meth_ok (c.fact 81 (f := .meth "Apart" "shows") rfl)
  obtain ⟨fd_Shared_shows, F_Shared_shows⟩ := c.def_ 46 (d := d_Shared_shows) rfl
  have M_Shared_shows : Meth K z.Shared "shows" (He.fAd K d_Shared_shows.at_) := by rw [hz]; exact He.meth_ok (c.fact 82 (f := .meth "Shared" "shows") rfl)
  obtain ⟨fd_l_line_right5, F_l_line_right5⟩ := c.def_ 47 (d := d_l_line_right5) rfl
  have G_l_line_right5 := He.glo_ok X G (c.fact 39 (f := .glo "_law_line_right") rfl)
  obtain ⟨fd_law, F_law⟩ := c.def_ 48 (d := d_law) rfl
  have hg := He.glo_ok X G (c.fact 40 (f := .glo "law") rfl)
  have e := hfa.symm.trans hg
  cases e
  have b := FunD.bindsA (ps := ["_law_script"]) F_law fun _ _ _ _ _ _ us hl => match us, hl with | [_], _ => rfl
  refine ⟨fd_law, z, by rw [hz], kits, fun s v => b s [v] rfl, fun base _ _ => ?_⟩
  have C_is_whole := c_is_whole (P := P) (w := w) (base := base) (fun0 F_is_whole) G_is_whole b_isinstance b_int b_bool
  have C_check_prime := c_check_prime (z := z) (P := P) (w := w) (base := base) (fun0 F_check_prime) G_check_prime e_BadPrime b_any b_range g_GREATEST C_is_whole
  have C_is_told := c_is_told (P := P) (w := w) (base := base) (fun0 F_is_told) G_is_told b_isinstance b_tuple b_len b_all C_is_whole
  have C_check_point := c_check_point (z := z) (P := P) (w := w) (base := base) (fun0 F_check_point) G_check_point e_BadPoint C_is_told
  have C_turned := c_turned (P := P) (w := w) (base := base) (fun0 F_turned) G_turned 
  have C_told_of := c_told_of (P := P) (w := w) (base := base) (fun0 F_told_of) G_told_of b_tuple C_turned
  have C_at_line := c_at_line (P := P) (w := w) (base := base) (fun0 F_at_line) G_at_line C_turned
  have C_left_by := c_left_by (P := P) (w := w) (base := base) (fun0 F_left_by) G_left_by 
  have C_in_line := c_in_line (P := P) (w := w) (base := base) (fun0 F_in_line) G_in_line 
  have C_threes_of := c_threes_of (P := P) (w := w) (base := base) (fun0 F_threes_of) G_threes_of b_range
  have C_first_in_line := c_first_in_line (P := P) (w := w) (base := base) (fun0 F_first_in_line) G_first_in_line C_threes_of C_in_line
  have C_rest_of := c_rest_of (P := P) (w := w) (base := base) (fun0 F_rest_of) G_rest_of b_tuple b_zip C_at_line C_left_by
  have C_is_square := c_is_square (P := P) (w := w) (base := base) (fun0 F_is_square) G_is_square b_any b_range
  have C_shared_of := c_shared_of (P := P) (w := w) (base := base) (fun0 F_shared_of) G_shared_of b_range C_at_line C_left_by
  have C_through := c_through (P := P) (w := w) (base := base) (fun0 F_through) G_through b_range b_len b_zip b_enumerate C_turned C_told_of
  have k_Oval := k_Oval (z := z) (P := P) (w := w) (base := base) (fun0 F_Oval_init) cl_Oval M_Oval gl_Oval
  have k_InLine := k_InLine (z := z) (P := P) (w := w) (base := base) (fun0 F_InLine_init) cl_InLine M_InLine gl_InLine b_list
  have C_oval := c_oval (z := z) (P := P) (w := w) (base := base) (fun0 F_oval) G_oval e_BadPoint e_Alike b_isinstance b_list b_len b_set C_check_prime C_check_point C_first_in_line C_through k_Oval k_InLine
  have C_l_cell_at := c_l_cell_at (P := P) (w := w) (base := base) (fun0 F_l_cell_at) G_l_cell_at b_len
  have C_l_draw := c_l_draw (P := P) (w := w) (base := base) (fun0 F_l_draw) G_l_draw 
  have C_l_value := c_l_value (P := P) (w := w) (base := base) (fun0 F_l_value) G_l_value C_l_draw
  have C_l_prime := c_l_prime (P := P) (w := w) (base := base) (fun0 F_l_prime) G_l_prime b_any b_range C_l_cell_at C_l_draw
  have C_l_triple := c_l_triple (P := P) (w := w) (base := base) (fun0 F_l_triple) G_l_triple 
  have C_l_triples := c_l_triples (P := P) (w := w) (base := base) (fun0 F_l_triples) G_l_triples b_len C_l_draw C_l_cell_at C_l_value C_l_triple
  have C_l_told := c_l_told (P := P) (w := w) (base := base) (fun0 F_l_told) G_l_told b_tuple
  have C_l_cross := c_l_cross (P := P) (w := w) (base := base) (fun0 F_l_cross) G_l_cross b_range C_l_told
  have C_l_on := c_l_on (P := P) (w := w) (base := base) (fun0 F_l_on) G_l_on b_sum b_zip
  have C_l_in_line := c_l_in_line (P := P) (w := w) (base := base) (fun0 F_l_in_line) G_l_in_line C_l_on C_l_cross
  have C_l_spanned := c_l_spanned (P := P) (w := w) (base := base) (fun0 F_l_spanned) G_l_spanned b_any b_range b_tuple b_zip C_l_told
  have C_l_points := c_l_points (P := P) (w := w) (base := base) (fun0 F_l_points) G_l_points b_sorted C_l_spanned C_l_told
  have C_l_left := c_l_left (P := P) (w := w) (base := base) (fun0 F_l_left) G_l_left b_sum b_zip
  have C_l_is_told := c_l_is_told (P := P) (w := w) (base := base) (fun0 F_l_is_told) G_l_is_told b_isinstance b_tuple b_len b_all b_int b_bool
  have C_l_says := c_l_says (P := P) (w := w) (base := base) (fun0 F_l_says) G_l_says b_isinstance b_bool
  have C_l_three := c_l_three (P := P) (w := w) (base := base) (fun0 F_l_three) G_l_three b_range C_l_in_line
  have C_l_rest := c_l_rest (P := P) (w := w) (base := base) (fun0 F_l_rest) G_l_rest b_tuple b_zip C_l_points C_l_left
  have C_l_square := c_l_square (P := P) (w := w) (base := base) (fun0 F_l_square) G_l_square b_range
  have C_l_five := c_l_five (P := P) (w := w) (base := base) (fun0 F_l_five) G_l_five b_range b_sorted b_set b_list C_l_draw C_l_cell_at C_l_triples C_l_value C_l_cross C_l_points C_l_on
  have C_l_lines := c_l_lines (P := P) (w := w) (base := base) (fun0 F_l_lines) G_l_lines b_range C_l_told
  have C_l_two_lines := c_l_two_lines (P := P) (w := w) (base := base) (fun0 F_l_two_lines) G_l_two_lines b_range C_l_cross C_l_lines
  have m_InLine_shows := m_InLine_shows (z := z) (P := P) (w := w) (base := base) (fun0 F_InLine_shows) b_len b_all C_is_whole C_in_line a_three cl_InLine.1 M_InLine_shows
  have m_Oval_shows := m_Oval_shows (z := z) (P := P) (w := w) (base := base) (fun0 F_Oval_shows) b_all C_is_told C_first_in_line C_left_by a_form cl_Oval.1 M_Oval_shows
  have C_l_five_right := c_l_five_right (z := z) (P := P) (w := w) (base := base) (fun0 F_l_five_right) G_l_five_right b_list C_l_three C_l_left C_l_says k_InLine k_Oval a_form a_three m_Oval_shows m_InLine_shows
  have C_l_shared5 := c_l_shared5 (P := P) (w := w) (base := base) (fun0 F_l_shared5) G_l_shared5 C_l_points C_l_left
  have k_Shared := k_Shared (z := z) (P := P) (w := w) (base := base) (fun0 F_Shared_init) cl_Shared M_Shared gl_Shared b_list
  have k_Apart := k_Apart (z := z) (P := P) (w := w) (base := base) (fun0 F_Apart_init) cl_Apart M_Apart gl_Apart
  have m_Apart_shows := m_Apart_shows (z := z) (P := P) (w := w) (base := base) (fun0 F_Apart_shows) C_is_whole C_rest_of C_is_square a_rest cl_Apart.1 M_Apart_shows
  have m_Shared_shows := m_Shared_shows (z := z) (P := P) (w := w) (base := base) (fun0 F_Shared_shows) b_len C_shared_of a_points cl_Shared.1 M_Shared_shows
  have C_l_line_right5 := c_l_line_right5 (z := z) (P := P) (w := w) (base := base) (fun0 F_l_line_right5) G_l_line_right5 b_list C_l_shared5 C_l_says C_l_rest C_l_square k_Apart k_Shared a_points a_rest m_Shared_shows m_Apart_shows
  exact c_law (z := z) (P := P) (w := w) (base := base) (fun0 F_law) (show z.K = K by rw [hz]) b_range b_len b_list b_isinstance b_enumerate b_int b_any b_all r_InLine r_Oval C_l_prime C_l_value C_l_cell_at C_l_five C_oval C_l_two_lines C_l_told C_l_five_right C_l_triples C_l_shared5 C_l_rest C_l_line_right5 C_l_says isi a_three a_form k_Oval m_Oval_shows k_Shared m_Shared_shows k_Apart m_Apart_shows
end OM
open PySem PySem.W PySem.Calls PyProof.Rows
set_option maxHeartbeats 0 in
theorem PySem.Challenge.cw_onemeet_k05_answers_by_hand_holds : PySem.Challenge.rw_onemeet_k05_answers_by_hand.Holds := by
  w_on; o_law
  refine HandSHeadRun.head_any (r := OpenLaw.row PySem.Challenge.rw_onemeet_k05_answers_by_hand) (q := view (OpenLaw.row PySem.Challenge.rw_onemeet_k05_answers_by_hand).prog [56]) (H := OM.hk) (ob := OM.ob) (M := 40000) (loose := OM.loose) (d := HandSHeadRun.topDef (OpenLaw.row PySem.Challenge.rw_onemeet_k05_answers_by_hand).prog 56) (kwd := []) OM.ob_eq
    (by kernel_rfl) (fun s => by kernel_rfl) OM.run (by kernel_rfl) (by kernel_rfl) (by kernel_rfl) (by rfl) (by first | assumption | decide +kernel) (by decide +kernel) ⟨rfl, rfl, rfl, rfl, rfl, by decide +kernel⟩ ?hw ?hc
  case hw => w_witness2
  case hc =>
    refine DI.walk_end (l := PySem.Challenge.rw_onemeet_k05_answers_by_hand) (k := 6) (x := "_law_script") rfl (by kernel_rfl) ⟨rfl, by decide, by decide⟩ ?F
    intro w mg fa h Y G hmg0
    obtain ⟨K, KX, c, hex⟩ := Y
    have hmg : mg ("law" : PySem.Str) = some (.ref fa) := by
      have e : (HandSHeadRun.topDef (OpenLaw.row PySem.Challenge.rw_onemeet_k05_answers_by_hand).prog 56).name = ("law" : PySem.Str) := by kernel_rfl
      rw [← e]
      exact hmg0
    obtain ⟨fd, z, hz, kt, hb, hF⟩ := OM.facts (P := (PySem.Challenge.rw_onemeet_k05_answers_by_hand).prog) (w := w) KX G hmg c hex
    exact ⟨K, fd, OM.f_law5 z, KX, hb, hz ▸ OM.law_true5 z kt, hF⟩
