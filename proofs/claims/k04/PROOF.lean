import PyProof.Rows.All
import Wide.All
import OpenK.AllK
import Wide.FinOn
import HandS.ForMost
import HandS.ForExc
import HandS.Wide
import HandS.IsInst
import HandS.SortInts
import HandS.More
import HandS.Conv
import PySem.Challenge.RW_wishlots_k04_prefixes
set_option Elab.async false
set_option maxRecDepth 100000
set_option linter.all false
namespace WL
open PySem L2

/-! ### data and heaps -/
section
variable {K : PySem.W.Frag}
theorem sq_t {H H' : Hp} {a : Addr} {xs : List V} (e : Same H H') (h : SqT K H a xs) : SqT K H' a xs := by
  obtain (held | ⟨o, locked⟩) | written := h
  · exact .inl (.inl (e a _ held))
  · exact .inl (.inr ⟨o, e a _ locked⟩)
  · exact .inr written
mutual
theorem dp_mono {H H' : Hp} (e : Same H H') : ∀ (d : PyData) (v : V), Dp K H v d → Dp K H' v d
  | _, _, .non => .non
  | _, _, .bl b => .bl b
  | _, _, .int i => .int i
  | _, _, .str x => .str x
  | .list ds, _, .lst (xs := xs) h a => .lst (e.seq h) (dps_mono e ds xs a)
  | .tuple ds, _, .tup (xs := xs) h a => .tup (sq_t e h) (dps_mono e ds xs a)
theorem dps_mono {H H' : Hp} (e : Same H H') : ∀ (ds : List PyData) (xs : List V), DpAll K H xs ds → DpAll K H' xs ds
  | _, _, .nil => .nil
  | d :: ds, v :: vs, .cons h a => .cons (dp_mono e d v h) (dps_mono e ds vs a)
end
theorem dpa_len {H : Hp} : ∀ {ds : List PyData} {xs : List V}, DpAll K H xs ds → xs.length = ds.length
  | [], _, .nil => rfl
  | _ :: _, _ :: _, .cons _ a => congrArg (· + 1) (dpa_len a)
theorem dpa_at {H : Hp} : ∀ {ds : List PyData} {xs : List V} {i : Nat} {v : V} {d : PyData}, DpAll K H xs ds → xs[i]? = some v → ds[i]? = some d → Dp K H v d
  | [], _, i, v, d, .nil, h, _ => by simp at h
  | _ :: _, _ :: _, 0, v, d, .cons h _, e, e' => by
    cases (show some _ = some v from e)
    cases (show some _ = some d from e')
    exact h
  | _ :: ds, _ :: xs, i + 1, v, d, .cons _ a, e, e' => dpa_at (i := i) a (by simpa using e) (by simpa using e')
theorem dpa_mk {H : Hp} : ∀ {ds : List PyData} {xs : List V}, xs.length = ds.length → (∀ (i : Nat) v d, xs[i]? = some v → ds[i]? = some d → Dp K H v d) → DpAll K H xs ds
  | [], [], _, _ => .nil
  | [], _ :: _, h, _ => by simp at h
  | _ :: _, [], h, _ => by simp at h
  | d :: ds, x :: xs, h, k => .cons (k 0 x d rfl rfl) (dpa_mk (by simpa using h) fun i v d a b => k (i + 1) v d (by simpa using a) (by simpa using b))
theorem dpa_get {H : Hp} {ds : List PyData} {xs : List V} {i : Nat} {d : PyData} (a : DpAll K H xs ds) (e : ds[i]? = some d) : ∃ v, xs[i]? = some v ∧ Dp K H v d := by
  obtain ⟨h, _⟩ := List.getElem?_eq_some_iff.mp e
  have hx : i < xs.length := by rw [dpa_len a]; exact h
  exact ⟨xs[i], List.getElem?_eq_getElem hx, dpa_at a (List.getElem?_eq_getElem hx) e⟩
theorem dpa_get' {H : Hp} {ds : List PyData} {xs : List V} {i : Nat} {v : V} (a : DpAll K H xs ds) (e : xs[i]? = some v) : ∃ d, ds[i]? = some d ∧ Dp K H v d := by
  obtain ⟨h, _⟩ := List.getElem?_eq_some_iff.mp e
  have hx : i < ds.length := by rw [← dpa_len a]; exact h
  exact ⟨ds[i], List.getElem?_eq_getElem hx, dpa_at a e (List.getElem?_eq_getElem hx)⟩
theorem dpa_app {H : Hp} : ∀ {ds es : List PyData} {xs ys : List V}, DpAll K H xs ds → DpAll K H ys es → DpAll K H (xs ++ ys) (ds ++ es)
  | [], _, _, _, .nil, b => b
  | _ :: _, _, _ :: _, _, .cons h a, b => .cons h (dpa_app a b)
theorem dpa_one {H : Hp} {v : V} {d : PyData} (h : Dp K H v d) : DpAll K H [v] [d] := .cons h .nil
theorem dpa_set {H : Hp} {v : V} {d : PyData} (h : Dp K H v d) : ∀ {ds : List PyData} {xs : List V} (i : Nat), DpAll K H xs ds → DpAll K H (xs.set i v) (ds.set i d)
  | [], _, _, .nil => .nil
  | _ :: _, _ :: _, 0, .cons _ a => .cons h a
  | _ :: _, _ :: _, i + 1, .cons g a => .cons g (dpa_set h i a)
theorem dpa_take {H : Hp} : ∀ {ds : List PyData} {xs : List V} (n : Nat), DpAll K H xs ds → DpAll K H (xs.take n) (ds.take n)
  | _, _, 0, _ => .nil
  | [], _, _ + 1, .nil => .nil
  | _ :: _, _ :: _, n + 1, .cons h a => .cons h (dpa_take n a)
theorem dpa_drop {H : Hp} : ∀ {ds : List PyData} {xs : List V} (n : Nat), DpAll K H xs ds → DpAll K H (xs.drop n) (ds.drop n)
  | _, _, 0, a => a
  | [], _, _ + 1, .nil => .nil
  | _ :: _, _ :: _, n + 1, .cons _ a => dpa_drop n a
theorem dpa_erase {H : Hp} : ∀ {ds : List PyData} {xs : List V} (n : Nat), DpAll K H xs ds → DpAll K H (xs.eraseIdx n) (ds.eraseIdx n)
  | [], _, _, .nil => .nil
  | _ :: _, _ :: _, 0, .cons _ a => a
  | _ :: _, _ :: _, n + 1, .cons h a => .cons h (dpa_erase n a)
theorem dpa_rev {H : Hp} {ds : List PyData} {xs : List V} (a : DpAll K H xs ds) : DpAll K H xs.reverse ds.reverse := by
  induction ds generalizing xs with
  | nil => cases a; exact .nil
  | cons d ds ih =>
    cases a with
    | cons h a =>
      rw [List.reverse_cons, List.reverse_cons]
      exact dpa_app (ih a) (dpa_one h)
theorem dpa_ints {H : Hp} : ∀ {ns : List Int} {xs : List V}, DpAll K H xs (ns.map PyData.int) → xs = ns.map V.int
  | [], _, .nil => rfl
  | _ :: _, _ :: _, .cons h a => by
    cases h
    exact congrArg _ (dpa_ints a)
theorem ints_dpa {H : Hp} : ∀ (ns : List Int), DpAll K H (ns.map V.int) (ns.map PyData.int)
  | [] => .nil
  | _ :: ns => .cons (.int _) (ints_dpa ns)
theorem dpa_bools {H : Hp} : ∀ {ns : List Bool} {xs : List V}, DpAll K H xs (ns.map PyData.bool) → xs = ns.map V.bl
  | [], _, .nil => rfl
  | _ :: _, _ :: _, .cons h a => by
    cases h
    exact congrArg _ (dpa_bools a)
theorem dpa_strs {H : Hp} : ∀ {ns : List Str} {xs : List V}, DpAll K H xs (ns.map PyData.str) → xs = ns.map V.str
  | [], _, .nil => rfl
  | _ :: _, _ :: _, .cons h a => by
    cases h
    exact congrArg _ (dpa_strs a)
theorem strs_dpa {H : Hp} : ∀ (ns : List Str), DpAll K H (ns.map V.str) (ns.map PyData.str)
  | [] => .nil
  | _ :: ns => .cons (.str _) (strs_dpa ns)
theorem dp_int {H : Hp} {v : V} {i : Int} (h : Dp K H v (.int i)) : v = .int i := by cases h; rfl
theorem dp_bool {H : Hp} {v : V} {i : Bool} (h : Dp K H v (.bool i)) : v = .bl i := by cases h; rfl
theorem dp_str {H : Hp} {v : V} {i : Str} (h : Dp K H v (.str i)) : v = .str i := by cases h; rfl
theorem dp_none {H : Hp} {v : V} (h : Dp K H v .none) : v = .non := by cases h; rfl
theorem dp_list {H : Hp} {v : V} {ds : List PyData} (h : Dp K H v (.list ds)) : ∃ a xs, v = .ref a ∧ SqL K H a xs ∧ DpAll K H xs ds := by
  cases h with
  | lst h a => exact ⟨_, _, rfl, h, a⟩
theorem dp_tuple {H : Hp} {v : V} {ds : List PyData} (h : Dp K H v (.tuple ds)) : ∃ a xs, v = .ref a ∧ SqT K H a xs ∧ DpAll K H xs ds := by
  cases h with
  | tup h a => exact ⟨_, _, rfl, h, a⟩

/-- the heap grows; what was known stays; what was there but not known stays unknown -/
structure Gr (F H F' H' : Hp) : Prop where
  ff : Same F F'
  hh : Same H H'
  fh : Same F' H'
  ap : ∀ a o, F a = none → H a = some o → F' a = none
theorem Gr.refl {F H : Hp} (e : Same F H) : Gr F H F H := ⟨Same.refl _, Same.refl _, e, fun _ _ h _ => h⟩
theorem Gr.trans {F H F1 H1 F2 H2 : Hp} (a : Gr F H F1 H1) (b : Gr F1 H1 F2 H2) : Gr F H F2 H2 :=
  ⟨a.ff.trans b.ff, a.hh.trans b.hh, b.fh, fun c o h e => b.ap c o (a.ap c o h e) (a.hh c o e)⟩
theorem same_new {H : Hp} {p : Addr} {o : HO} (h : H p = none) : Same H (upd H p o) := fun a u e => by rw [upd_ne (ne_of_none e h)]; exact e
/-- a new object that is known from now on -/
theorem Gr.new {F H : Hp} {p : Addr} {o : HO} (e : Same F H) (h : H p = none) : Gr F H (upd F p o) (upd H p o) := by
  have hF : F p = none := e.free h
  refine ⟨same_new hF, same_new h, fun a u q => ?_, fun a u q r => ?_⟩
  · by_cases z : a = p
    · rw [z, upd_same] at q ⊢; exact q
    · rw [upd_ne z] at q ⊢; exact e a u q
  · rw [upd_ne (ne_of_none r h)]; exact q
/-- a new object of one's own -/
theorem Gr.own {F H : Hp} {p : Addr} {o : HO} (e : Same F H) (h : H p = none) : Gr F H F (upd H p o) :=
  ⟨Same.refl _, same_new h, e.trans (same_new h), fun _ _ q _ => q⟩
/-- an object of one's own is known from now on -/
theorem Gr.frz {F H F' H' : Hp} {p : Addr} {o : HO} (g : Gr F H F' H') (h : H p = none) (h' : F' p = none) (e : H' p = some o) : Gr F H (upd F' p o) H' := by
  refine ⟨g.ff.trans (same_new h'), g.hh, fun a u q => ?_, fun a u q r => ?_⟩
  · by_cases z : a = p
    · rw [z, upd_same] at q; rw [z, e]; exact q
    · rw [upd_ne z] at q; exact g.fh a u q
  · rw [upd_ne (ne_of_none r h)]; exact g.ap a u q r

/-! ### environments of data -/
/-- an exception object of the class at C, without a dict of its own -/
def EO (C a : Addr) : HO := .ext fun h => ∃ (oe : Obj) (vs : Array Value), h.get? a = some oe ∧ Zc (.ref C) none oe ∧ oe.data = .fields vs
inductive Sl where
  | un
  | ex (C : Addr)
  | da (d : PyData)
  | ow (ds : List PyData)
  | ow2 (dss : List (List PyData))

def SlOk (K : PySem.W.Frag) (F H : Hp) : Sl → Option (Option V) → (Addr → Prop) → Prop
  | .un, _, _ => True
  | .ex C, o, _ => ∃ a, o = some (some (.ref a)) ∧ F a = some (EO C a)
  | .da d, o, _ => ∃ v, o = some (some v) ∧ Dp K F v d
  | .ow ds, o, A => ∃ l xs, o = some (some (.ref l)) ∧ H l = some (.lst xs) ∧ A l ∧ DpAll K F xs ds
  | .ow2 dss, o, A => ∃ l ls, o = some (some (.ref l)) ∧ H l = some (.lst (ls.map V.ref)) ∧ A l ∧ (l :: ls).Nodup ∧ ls.length = dss.length ∧
      ∀ (i : Nat) r ds, ls[i]? = some r → dss[i]? = some ds → A r ∧ ∃ xs, H r = some (.lst xs) ∧ DpAll K F xs ds
theorem SlOk.mono {F H F' H' : Hp} {s : Sl} {o : Option (Option V)} {A A' : Addr → Prop} (h : SlOk K F H s o A) (ff : Same F F') (hh : ∀ a u, A a → H a = some u → H' a = some u) (hA : ∀ a, A a → A' a) : SlOk K F' H' s o A' := by
  cases s with
  | un => trivial
  | ex C => obtain ⟨a, e, p⟩ := h; exact ⟨a, e, ff _ _ p⟩
  | da d => obtain ⟨v, e, p⟩ := h; exact ⟨v, e, dp_mono ff _ _ p⟩
  | ow ds => obtain ⟨l, xs, e, p, a, q⟩ := h; exact ⟨l, xs, e, hh _ _ a p, hA _ a, dps_mono ff _ _ q⟩
  | ow2 dss =>
    obtain ⟨l, ls, e, p, a, nd, len, q⟩ := h
    refine ⟨l, ls, e, hh _ _ a p, hA _ a, nd, len, fun i r ds h1 h2 => ?_⟩
    obtain ⟨ar, xs, hr, dr⟩ := q i r ds h1 h2
    exact ⟨hA _ ar, xs, hh _ _ ar hr, dps_mono ff _ _ dr⟩
structure En (K : PySem.W.Frag) (N : Addr → Prop) (ρ : List Sl) (σ : St) (F H : Hp) : Prop where
  fh : Same F H
  len : ρ.length = σ.length
  en : ∃ A : Nat → Addr → Prop, (∀ i s, ρ[i]? = some s → SlOk K F H s σ[i]? (A i)) ∧ (∀ i j a, A i a → A j a → i = j) ∧ (∀ i a, A i a → F a = none ∧ N a ∧ ∃ o, H a = some o)
variable {N : Addr → Prop} {ρ : List Sl} {σ : St} {F H F' H' : Hp}
theorem En.gr (e : En K N ρ σ F H) (g : Gr F H F' H') : En K N ρ σ F' H' := by
  obtain ⟨A, h1, h2, h3⟩ := e.en
  refine ⟨g.fh, e.len, A, fun i s hs => (h1 i s hs).mono g.ff (fun a u _ q => g.hh a u q) fun _ a => a, h2, fun i a q => ?_⟩
  obtain ⟨f, n, o, ho⟩ := h3 i a q
  exact ⟨g.ap a o f ho, n, o, g.hh a o ho⟩
/-- what an expression or a call gives -/
def RetOk (K : PySem.W.Frag) (N : Addr → Prop) (F H : Hp) (s : Sl) (v : V) : Prop := ∃ A : Addr → Prop, SlOk K F H s (some (some v)) A ∧ ∀ a, A a → F a = none ∧ N a ∧ ∃ o, H a = some o
theorem ret_da {d : PyData} {v : V} (h : Dp K F v d) : RetOk K N F H (.da d) v := ⟨fun _ => False, ⟨v, rfl, h⟩, fun _ z => z.elim⟩
theorem of_ret_da {d : PyData} {v : V} (h : RetOk K N F H (.da d) v) : Dp K F v d := by
  obtain ⟨A, ⟨v', e, p⟩, _⟩ := h
  cases e
  exact p
theorem ret_ow {ds : List PyData} {l : Addr} {xs : List V} (h : H l = some (.lst xs)) (f : F l = none) (n : N l) (a : DpAll K F xs ds) : RetOk K N F H (.ow ds) (.ref l) :=
  ⟨fun b => b = l, ⟨l, xs, rfl, h, rfl, a⟩, fun b e => by rw [e]; exact ⟨f, n, _, h⟩⟩
theorem of_ret_ow {ds : List PyData} {v : V} (h : RetOk K N F H (.ow ds) v) : ∃ l xs, v = .ref l ∧ H l = some (.lst xs) ∧ F l = none ∧ N l ∧ DpAll K F xs ds := by
  obtain ⟨A, ⟨l, xs, e, p, a, q⟩, k⟩ := h
  cases e
  obtain ⟨k1, k2, _⟩ := k l a
  exact ⟨l, xs, rfl, p, k1, k2, q⟩
theorem RetOk.imp {N' : Addr → Prop} {s : Sl} {v : V} (h : RetOk K N F H s v) (n : ∀ a, N a → N' a) : RetOk K N' F H s v := by
  obtain ⟨A, p, k⟩ := h
  exact ⟨A, p, fun a q => ⟨(k a q).1, n a (k a q).2.1, (k a q).2.2⟩⟩
theorem RetOk.gr {s : Sl} {v : V} (h : RetOk K N F H s v) (g : Gr F H F' H') : RetOk K N F' H' s v := by
  obtain ⟨A, p, k⟩ := h
  refine ⟨A, p.mono g.ff (fun a u _ q => g.hh a u q) fun _ a => a, fun a q => ?_⟩
  obtain ⟨f, n, o, ho⟩ := k a q
  exact ⟨g.ap a o f ho, n, o, g.hh a o ho⟩

end
end WL

namespace WL
open PySem L2
section
variable {K : PySem.W.Frag} {N : Addr → Prop} {ρ : List Sl} {σ : St} {F H F' H' F0 H0 : Hp}
/-- a slot is stored -/
theorem En.put (e : En K N ρ σ F H) (g : Gr F H F' H') {i : Nat} {s : Sl} {v : V} (r : RetOk K (fun a => H a = none) F' H' s v) (n : ∀ a, H a = none → N a) : En K N (ρ.set i s) (σ.set i (some v)) F' H' := by
  obtain ⟨A, h1, h2, h3⟩ := e.en
  obtain ⟨B, b1, b2⟩ := r
  have nb : ∀ j a, A j a → B a → False := fun j a p q => by
    obtain ⟨_, _, o, ho⟩ := h3 j a p
    have z : H a = none := (b2 a q).2.1
    rw [ho] at z; cases z
  refine ⟨g.fh, by rw [List.length_set, List.length_set]; exact e.len, fun j a => (j = i ∧ B a) ∨ (j ≠ i ∧ A j a), fun j t ht => ?_, fun j k a p q => ?_, fun j a p => ?_⟩
  · by_cases z : j = i
    · subst z
      have hj : j < ρ.length := by have := (List.getElem?_eq_some_iff.mp ht).1; simpa using this
      rw [List.getElem?_set_self hj] at ht
      cases ht
      rw [List.getElem?_set_self (by rw [← e.len]; exact hj)]
      exact b1.mono (Same.refl _) (fun _ _ _ q => q) fun a q => .inl ⟨rfl, q⟩
    · rw [List.getElem?_set_ne (Ne.symm z)] at ht ⊢
      exact (h1 j t ht).mono g.ff (fun a u _ q => g.hh a u q) fun a q => .inr ⟨z, q⟩
  · rcases p with ⟨p1, p2⟩ | ⟨p1, p2⟩ <;> rcases q with ⟨q1, q2⟩ | ⟨q1, q2⟩
    · exact p1.trans q1.symm
    · exact (nb _ _ q2 p2).elim
    · exact (nb _ _ p2 q2).elim
    · exact h2 j k a p2 q2
  · rcases p with ⟨p1, p2⟩ | ⟨p1, p2⟩
    · obtain ⟨z1, z2, z3⟩ := b2 a p2
      exact ⟨z1, n a z2, z3⟩
    · obtain ⟨f, n, o, ho⟩ := h3 j a p2
      exact ⟨g.ap a o f ho, n, o, g.hh a o ho⟩
/-- a slot is forgotten -/
theorem En.drop (e : En K N ρ σ F H) (i : Nat) : En K N (ρ.set i .un) σ F H := by
  obtain ⟨A, h1, h2, h3⟩ := e.en
  refine ⟨e.fh, by rw [List.length_set]; exact e.len, fun j a => j ≠ i ∧ A j a, fun j t ht => ?_, fun j k a p q => h2 j k a p.2 q.2, fun j a p => h3 j a p.2⟩
  by_cases z : j = i
  · subst z
    have hj : j < ρ.length := by have := (List.getElem?_eq_some_iff.mp ht).1; simpa using this
    rw [List.getElem?_set_self hj] at ht
    cases ht
    trivial
  · rw [List.getElem?_set_ne (Ne.symm z)] at ht
    exact (h1 j t ht).mono (Same.refl _) (fun a u _ q => q) fun a q => ⟨z, q⟩
theorem En.dropv (e : En K N ρ σ F H) (i : Nat) (o : Option V) : En K N (ρ.set i .un) (σ.set i o) F H := by
  obtain ⟨A, h1, h2, h3⟩ := (e.drop i).en
  refine ⟨e.fh, by rw [List.length_set, List.length_set]; exact e.len, A, fun j t ht => ?_, h2, h3⟩
  by_cases z : j = i
  · subst z
    have hj : j < ρ.length := by have := (List.getElem?_eq_some_iff.mp ht).1; simpa using this
    rw [List.getElem?_set_self hj] at ht
    cases ht
    trivial
  · have := h1 j t ht
    rw [List.getElem?_set_ne (Ne.symm z)]
    exact this
def wipeR (ρ : List Sl) : List Nat → List Sl
  | [] => ρ
  | v :: vs => (wipeR ρ vs).set v .un
theorem En.wipe (e : En K N ρ σ F H) : ∀ vs : List Nat, En K N (wipeR ρ vs) (L2.wipe σ vs) F H
  | [] => e
  | v :: vs => (e.wipe vs).dropv v none
theorem wipe_back {vs : List Nat} {j : Nat} (hj : j ∈ vs) (x : Option V) : ∀ τ : St, wipe (τ.set j x) vs = wipe τ vs := by
  intro τ
  induction vs with
  | nil => cases hj
  | cons v vs ih =>
    show (wipe (τ.set j x) vs).set v none = (wipe τ vs).set v none
    by_cases hm : j ∈ vs
    · rw [ih hm]
    · have ej : j = v := (List.mem_cons.mp hj).resolve_right hm
      subst ej
      have sw : ∀ (ws : List Nat) (τ : St), j ∉ ws → wipe (τ.set j x) ws = (wipe τ ws).set j x := by
        intro ws
        induction ws with
        | nil => intro τ _; rfl
        | cons w ws ih2 =>
          intro τ hn
          show (wipe (τ.set j x) ws).set w none = ((wipe τ ws).set w none).set j x
          rw [ih2 τ (fun z => hn (List.mem_cons_of_mem _ z)), List.set_comm _ _ (fun z => hn (by rw [z]; exact List.mem_cons_self))]
      rw [sw vs τ hm, List.set_set]
theorem wipe_idem (σ : St) (vs : List Nat) : wipe (wipe σ vs) vs = wipe σ vs := by
  have h : ∀ (ws : List Nat) (τ : St), (∀ v ∈ ws, v < τ.length → τ[v]? = some none) → wipe τ ws = τ := by
    intro ws
    induction ws with
    | nil => intro τ _; rfl
    | cons w ws ih =>
      intro τ hv
      show (wipe τ ws).set w none = τ
      rw [ih τ fun v hm => hv v (List.mem_cons_of_mem _ hm)]
      refine List.ext_getElem? fun i => ?_
      by_cases z : w = i
      · subst z
        by_cases hl : w < τ.length
        · rw [List.getElem?_set_self hl]; exact (hv w List.mem_cons_self hl).symm
        · rw [List.getElem?_eq_none (by simpa using hl), List.getElem?_eq_none (by simpa using hl)]
      · rw [List.getElem?_set_ne z]
  refine h vs _ fun v hm hl => ?_
  have k : ∀ (ws : List Nat) (τ : St), v ∈ ws → v < τ.length → (wipe τ ws)[v]? = some none := by
    intro ws
    induction ws with
    | nil => intro _ z; cases z
    | cons w ws ih =>
      intro τ hm hl
      show ((wipe τ ws).set w none)[v]? = some none
      by_cases z : w = v
      · subst z; rw [List.getElem?_set_self (by rw [wipe_length]; exact hl)]
      · rw [List.getElem?_set_ne z]; exact ih τ ((List.mem_cons.mp hm).resolve_left fun q => z q.symm) hl
  exact k vs σ hm (by rw [wipe_length] at hl; exact hl)

/-- one's own list, to be changed -/
theorem En.mut (e : En K N ρ σ F H) {i : Nat} {ds : List PyData} (h : ρ[i]? = some (.ow ds)) : ∃ l xs, σ[i]? = some (some (.ref l)) ∧ H l = some (.lst xs) ∧ DpAll K F xs ds ∧ N l ∧ F l = none ∧
    ∀ ys es, DpAll K F ys es → En K N (ρ.set i (.ow es)) σ F (upd H l (.lst ys)) := by
  obtain ⟨A, h1, h2, h3⟩ := e.en
  obtain ⟨l, xs, es, hl, al, dl⟩ := h1 i _ h
  obtain ⟨fl, nl, _⟩ := h3 i l al
  refine ⟨l, xs, es, hl, dl, nl, fl, fun ys zs dz => ⟨fun a u q => ?_, by rw [List.length_set]; exact e.len, A, fun j t ht => ?_, h2, fun j a p => ?_⟩⟩
  · rw [upd_ne (ne_of_none q fl)]; exact e.fh a u q
  · by_cases z : j = i
    · subst z
      have hj : j < ρ.length := (List.getElem?_eq_some_iff.mp h).1
      rw [List.getElem?_set_self hj] at ht
      cases ht
      exact ⟨l, ys, es, upd_same, al, dz⟩
    · rw [List.getElem?_set_ne (Ne.symm z)] at ht
      refine (h1 j t ht).mono (Same.refl _) (fun a u p q => ?_) fun a q => q
      rw [upd_ne (fun y => z (h2 j i l (by rw [← y]; exact p) al))]
      exact q
  · obtain ⟨f, n, o, ho⟩ := h3 j a p
    by_cases z : a = l
    · rw [z]; exact ⟨fl, nl, _, upd_same⟩
    · exact ⟨f, n, o, by rw [upd_ne z]; exact ho⟩
/-- a row of one's own list of lists, to be changed -/
theorem En.mut2 (e : En K N ρ σ F H) {i : Nat} {dss : List (List PyData)} (h : ρ[i]? = some (.ow2 dss)) : ∃ (l : Addr) (ls : List Addr), σ[i]? = some (some (.ref l)) ∧ H l = some (.lst (ls.map V.ref)) ∧ N l ∧ F l = none ∧ ls.length = dss.length ∧
    ∀ (j : Nat) ds, dss[j]? = some ds → ∃ r xs, ls[j]? = some r ∧ H r = some (.lst xs) ∧ DpAll K F xs ds ∧ N r ∧ F r = none ∧ r ≠ l ∧ ∀ ys es, DpAll K F ys es → En K N (ρ.set i (.ow2 (dss.set j es))) σ F (upd H r (.lst ys)) := by
  obtain ⟨A, h1, h2, h3⟩ := e.en
  obtain ⟨l, ls, es, hl, al, nd, len, dl⟩ := h1 i _ h
  obtain ⟨fl, nl, _⟩ := h3 i l al
  refine ⟨l, ls, es, hl, nl, fl, len, fun j ds hj => ?_⟩
  have hjl : j < ls.length := by rw [len]; exact (List.getElem?_eq_some_iff.mp hj).1
  have hr : ls[j]? = some ls[j] := List.getElem?_eq_getElem hjl
  obtain ⟨ar, xs, hx, dx⟩ := dl j _ ds hr hj
  obtain ⟨fr, nr, _⟩ := h3 i _ ar
  have nrl : ls[j] ≠ l := fun z => (List.nodup_cons.mp nd).1 (by rw [← z]; exact List.getElem_mem hjl)
  refine ⟨ls[j], xs, hr, hx, dx, nr, fr, nrl, fun ys zs dz => ⟨fun a u q => ?_, by rw [List.length_set]; exact e.len, A, fun k t ht => ?_, h2, fun k a p => ?_⟩⟩
  · rw [upd_ne (ne_of_none q fr)]; exact e.fh a u q
  · by_cases z : k = i
    · subst z
      have hk : k < ρ.length := (List.getElem?_eq_some_iff.mp h).1
      rw [List.getElem?_set_self hk] at ht
      cases ht
      refine ⟨l, ls, es, by rw [upd_ne nrl.symm]; exact hl, al, nd, by rw [List.length_set]; exact len, fun m r ds' hm hd => ?_⟩
      by_cases y : m = j
      · subst y
        rw [hr] at hm
        cases hm
        rw [List.getElem?_set_self (by rw [← len]; exact hjl)] at hd
        cases hd
        exact ⟨ar, ys, upd_same, dz⟩
      · rw [List.getElem?_set_ne (Ne.symm y)] at hd
        obtain ⟨am, xm, hxm, dm⟩ := dl m r ds' hm hd
        refine ⟨am, xm, ?_, dm⟩
        rw [upd_ne (fun q => y (nd_ix (List.nodup_cons.mp nd).2 hm (by rw [q]; exact hr)))]
        exact hxm
    · rw [List.getElem?_set_ne (Ne.symm z)] at ht
      refine (h1 k t ht).mono (Same.refl _) (fun a u p q => ?_) fun a q => q
      rw [upd_ne (fun y => z (h2 k i ls[j] (by rw [← y]; exact p) ar))]
      exact q
  · obtain ⟨f, n, o, ho⟩ := h3 k a p
    by_cases z : a = ls[j]
    · rw [z]; exact ⟨fr, nr, _, upd_same⟩
    · exact ⟨f, n, o, by rw [upd_ne z]; exact ho⟩

/-! ### what an expression gives -/
/-- an expression gives s, the environment as it is -/
def XR (K : PySem.W.Frag) (te : TE) (ρ : List Sl) (s : Sl) : Prop := ∀ (N : Addr → Prop) (σ : St) (F H : Hp), En K N ρ σ F H → ∀ Q : VK, (∀ v F' H', Gr F H F' H' → RetOk K (fun a => H a = none) F' H' s v → Q v H') → te σ H Q
abbrev XE (K : PySem.W.Frag) (te : TE) (ρ : List Sl) (d : PyData) : Prop := XR K te ρ (.da d)
def XT (K : PySem.W.Frag) (tt : TT) (ρ : List Sl) (b : Bool) : Prop := ∀ (N : Addr → Prop) (σ : St) (F H : Hp), En K N ρ σ F H → ∀ Q : Bool → Hp → Prop, (∀ F' H', Gr F H F' H' → Q b H') → tt σ H Q
def XA (K : PySem.W.Frag) (ta : TA) (ρ : List Sl) (ds : List PyData) : Prop := ∀ (N : Addr → Prop) (σ : St) (F H : Hp), En K N ρ σ F H → ∀ Q : List V → Hp → Prop, (∀ vs F' H', Gr F H F' H' → DpAll K F' vs ds → Q vs H') → ta σ H Q
/-- a list or a tuple (b: a tuple), to be read; its items are known -/
def Sq (K : PySem.W.Frag) (b : Bool) (H : Hp) (p : Addr) (xs : List V) : Prop := match b with
  | false => SqL K H p xs
  | true => SqT K H p xs
def XS (K : PySem.W.Frag) (te : TE) (ρ : List Sl) (b : Bool) (ds : List PyData) : Prop := ∀ (N : Addr → Prop) (σ : St) (F H : Hp), En K N ρ σ F H → ∀ Q : VK, (∀ p xs F' H', Gr F H F' H' → Sq K b H' p xs → DpAll K F' xs ds → Q (.ref p) H') → te σ H Q
/-- a value that is read as it stands now -/
def XP (K : PySem.W.Frag) (te : TE) (ρ : List Sl) (d : PyData) : Prop := ∀ (N : Addr → Prop) (σ : St) (F H : Hp), En K N ρ σ F H → ∀ Q : VK, (∀ v F' H', Gr F H F' H' → Dp K H' v d → Q v H') → te σ H Q
def XPs (K : PySem.W.Frag) (ta : TA) (ρ : List Sl) (ds : List PyData) : Prop := ∀ (N : Addr → Prop) (σ : St) (F H : Hp), En K N ρ σ F H → ∀ Q : List V → Hp → Prop, (∀ vs F' H', Gr F H F' H' → DpAll K H' vs ds → Q vs H') → ta σ H Q

theorem xe_intro {te : TE} {d : PyData} (h : ∀ (N : Addr → Prop) (σ : St) (F H : Hp), En K N ρ σ F H → ∀ Q : VK, (∀ v F' H', Gr F H F' H' → Dp K F' v d → Q v H') → te σ H Q) : XE K te ρ d := fun N σ F H e Q q => h N σ F H e Q fun v F' H' g p => q v F' H' g (ret_da p)
theorem XR.e {te : TE} {d : PyData} (h : XE K te ρ d) (e : En K N ρ σ F H) {Q : VK} (q : ∀ v F' H', Gr F H F' H' → Dp K F' v d → Q v H') : te σ H Q := h N σ F H e Q fun v F' H' g r => q v F' H' g (of_ret_da r)
/-- a new list is known from now on -/
theorem x_frz {te : TE} {ds : List PyData} (h : XR K te ρ (.ow ds)) : XE K te ρ (.list ds) := xe_intro fun N σ F H e Q q => h N σ F H e Q fun v F' H' g r => by
  obtain ⟨l, xs, rfl, hl, fl, nl, a⟩ := of_ret_ow r
  exact q _ (upd F' l (.lst xs)) H' (g.frz nl fl hl) (.lst (.inl (.inl upd_same)) (dps_mono (same_new fl) _ _ a))
theorem x_var {i : Nat} {d : PyData} (h : ρ[i]? = some (.da d)) : XE K (tVar i) ρ d := xe_intro fun N σ F H e Q q => by
  obtain ⟨A, h1, _, _⟩ := e.en
  obtain ⟨v, ev, p⟩ := h1 i _ h
  exact ⟨v, ev, q v F H (.refl e.fh) p⟩
theorem x_c {v : V} {d : PyData} (h : ∀ F : Hp, Dp K F v d) : XE K (tC v) ρ d := xe_intro fun N σ F H e Q q => q v F H (.refl e.fh) (h F)
theorem x_int {i : Int} : XE K (tC (.int i)) ρ (.int i) := x_c fun _ => .int i
theorem x_bl {b : Bool} : XE K (tC (.bl b)) ρ (.bool b) := x_c fun _ => .bl b
theorem x_non : XE K (tC .non) ρ .none := x_c fun _ => .non
theorem x_str {x : Str} : XE K (tC (.str x)) ρ (.str x) := x_c fun _ => .str x
/-- a constant tuple of the module -/
theorem x_kt {a : Addr} {xs : List V} {ds : List PyData} (h : ∀ F : Hp, SqT K F a xs) (k : ∀ F : Hp, DpAll K F xs ds) : XE K (tC (.ref a)) ρ (.tuple ds) := x_c fun F => .tup (h F) (k F)
/-- sequences -/
theorem xs_t {te : TE} {ds : List PyData} (h : XE K te ρ (.tuple ds)) : XS K te ρ true ds := fun N σ F H e Q q => h.e e fun v F' H' g p => by
  obtain ⟨a, xs, rfl, s, k⟩ := dp_tuple p
  exact q a xs F' H' g (sq_t g.fh s) k
theorem xs_l {te : TE} {ds : List PyData} (h : XE K te ρ (.list ds)) : XS K te ρ false ds := fun N σ F H e Q q => h.e e fun v F' H' g p => by
  obtain ⟨a, xs, rfl, s, k⟩ := dp_list p
  exact q a xs F' H' g (g.fh.seq s) k
theorem xs_n {te : TE} {ds : List PyData} (h : XR K te ρ (.ow ds)) : XS K te ρ false ds := xs_l (x_frz h)
theorem xs_o {i : Nat} {ds : List PyData} (h : ρ[i]? = some (.ow ds)) : XS K (tVar i) ρ false ds := fun N σ F H e Q q => by
  obtain ⟨l, xs, es, hl, dl, _⟩ := e.mut h
  exact ⟨_, es, q l xs F H (.refl e.fh) (SqL.of hl) dl⟩
/-- values as they stand -/
theorem xp_e {te : TE} {d : PyData} (h : XE K te ρ d) : XP K te ρ d := fun N σ F H e Q q => h.e e fun v F' H' g p => q v F' H' g (dp_mono g.fh _ _ p)
theorem xp_o {i : Nat} {ds : List PyData} (h : ρ[i]? = some (.ow ds)) : XP K (tVar i) ρ (.list ds) := fun N σ F H e Q q => by
  obtain ⟨l, xs, es, hl, dl, _⟩ := e.mut h
  exact ⟨_, es, q (.ref l) F H (.refl e.fh) (.lst (SqL.of hl) (dps_mono e.fh _ _ dl))⟩
theorem xp_o2 {i : Nat} {dss : List (List PyData)} (h : ρ[i]? = some (.ow2 dss)) : XP K (tVar i) ρ (.list (dss.map PyData.list)) := fun N σ F H e Q q => by
  obtain ⟨l, ls, es, hl, _, _, len, k⟩ := e.mut2 h
  refine ⟨_, es, q (.ref l) F H (.refl e.fh) (.lst (SqL.of hl) (dpa_mk (by rw [List.length_map, List.length_map, len]) fun j v d hv hd => ?_))⟩
  rw [List.getElem?_map] at hv hd
  cases e1 : dss[j]? with
  | none => rw [e1] at hd; cases hd
  | some ds =>
    rw [e1] at hd
    cases hd
    obtain ⟨r, xs, hr, hx, dx, _⟩ := k j ds e1
    rw [hr] at hv
    cases hv
    exact .lst (SqL.of hx) (dps_mono e.fh _ _ dx)
/-- arguments -/
theorem xa_nil : XA K tNil ρ [] := fun N σ F H e Q q => q [] F H (.refl e.fh) .nil
theorem xa_cons {te : TE} {ta : TA} {d : PyData} {ds : List PyData} (h : XE K te ρ d) (k : XA K ta ρ ds) : XA K (tCons te ta) ρ (d :: ds) := fun N σ F H e Q q => h.e e fun v F1 H1 g1 p =>
  k N σ F1 H1 (e.gr g1) _ fun vs F2 H2 g2 ps => q (v :: vs) F2 H2 (g1.trans g2) (.cons (dp_mono g2.ff _ _ p) ps)
theorem xps_nil : XPs K tNil ρ [] := fun N σ F H e Q q => q [] F H (.refl e.fh) .nil
theorem xps_cons {te : TE} {ta : TA} {d : PyData} {ds : List PyData} (h : XP K te ρ d) (k : XPs K ta ρ ds) : XPs K (tCons te ta) ρ (d :: ds) := fun N σ F H e Q q => h N σ F H e _ fun v F1 H1 g1 p =>
  k N σ F1 H1 (e.gr g1) _ fun vs F2 H2 g2 ps => q (v :: vs) F2 H2 (g1.trans g2) (.cons (dp_mono g2.hh _ _ p) ps)
/-- a two-place operation -/
def RE (K : PySem.W.Frag) (r : R2) (a b : PyData) (s : Sl) : Prop := ∀ (F H : Hp) (x y : V), Same F H → Dp K F x a → Dp K F y b → ∀ Q : VK, (∀ v F' H', Gr F H F' H' → RetOk K (fun a => H a = none) F' H' s v → Q v H') → r x y H Q
theorem x_op {ta tb : TE} {r : R2} {a b : PyData} {s : Sl} (ha : XE K ta ρ a) (hb : XE K tb ρ b) (hr : RE K r a b s) : XR K (tOp r ta tb) ρ s := fun N σ F H e Q q => ha.e e fun x F1 H1 g1 p1 =>
  hb.e (e.gr g1) fun y F2 H2 g2 p2 => hr F2 H2 x y g2.fh (dp_mono g2.ff _ _ p1) p2 Q fun v F3 H3 g3 r3 => q v F3 H3 ((g1.trans g2).trans g3) (r3.imp fun a z => (g1.hh.trans g2.hh).free z)
theorem re_s {r : R2} {a b d : PyData} (h : ∀ (F H : Hp) (x y : V), Same F H → Dp K F x a → Dp K F y b → ∀ Q : VK, (∀ v, Dp K F v d → Q v H) → r x y H Q) : RE K r a b (.da d) := fun F H x y e p1 p2 Q q => h F H x y e p1 p2 Q fun v p => q v F H (.refl e) (ret_da p)
theorem re_I0 {g : Int → Int → V} {i j : Int} {d : PyData} (hd : ∀ F : Hp, Dp K F (g i j) d) : RE K (rI0 g) (.int i) (.int j) (.da d) := re_s fun F H x y e p1 p2 Q q => ⟨i, j, dp_int p1, dp_int p2, q _ (hd F)⟩
theorem re_I {C : Int → Int → Prop} {g : Int → Int → V} {i j : Int} {d : PyData} (hc : C i j) (hd : ∀ F : Hp, Dp K F (g i j) d) : RE K (rI C g) (.int i) (.int j) (.da d) := re_s fun F H x y e p1 p2 Q q => ⟨i, j, dp_int p1, dp_int p2, hc, q _ (hd F)⟩
end
end WL

namespace WL
open PySem L2
section
variable {K : PySem.W.Frag} {N : Addr → Prop} {ρ : List Sl} {σ : St} {F H F' H' F0 H0 : Hp}
/-! ### statements -/
structure Post where
  nx : List Sl → Prop
  rt : Sl → Prop := fun _ => False
  bk : List Sl → Prop := fun _ => False
  ct : List Sl → Prop := fun _ => False
  ex : Addr → Prop := fun _ => False
  E : XK := fun _ _ _ => False
structure Es (K : PySem.W.Frag) (F0 H0 : Hp) (ρ : List Sl) (σ : St) (F H : Hp) : Prop where
  gr : Gr F0 H0 F H
  en : En K (fun a => H0 a = none) ρ σ F H
structure Fi (K : PySem.W.Frag) (F0 H0 : Hp) (P : Post) (D : Ends) : Prop where
  nx : ∀ ρ σ F H, P.nx ρ → Es K F0 H0 ρ σ F H → D.nx σ H
  rt : ∀ s v F H, P.rt s → Gr F0 H0 F H → RetOk K (fun a => H0 a = none) F H s v → D.rt v H
  bk : ∀ ρ σ F H, P.bk ρ → Es K F0 H0 ρ σ F H → D.bk σ H
  ct : ∀ ρ σ F H, P.ct ρ → Es K F0 H0 ρ σ F H → D.ct σ H
  ex : ∀ C F H, P.ex C → Gr F0 H0 F H → P.E (.ref C) none H
def WS (K : PySem.W.Frag) (ts : TS) (ρ : List Sl) (P : Post) : Prop := ∀ (F0 H0 : Hp) (σ : St) (F H : Hp) (D : Ends), Es K F0 H0 ρ σ F H → Fi K F0 H0 P D → ts D σ H
theorem Es.go (e : Es K F0 H0 ρ σ F H) (g : Gr F H F' H') : Es K F0 H0 ρ σ F' H' := ⟨e.gr.trans g, e.en.gr g⟩
theorem Es.put (e : Es K F0 H0 ρ σ F H) (g : Gr F H F' H') {i : Nat} {s : Sl} {v : V} (r : RetOk K (fun a => H a = none) F' H' s v) : Es K F0 H0 (ρ.set i s) (σ.set i (some v)) F' H' := ⟨e.gr.trans g, e.en.put g r fun a h => e.gr.hh.free h⟩
theorem Es.drop (e : Es K F0 H0 ρ σ F H) (i : Nat) : Es K F0 H0 (ρ.set i .un) σ F H := ⟨e.gr, e.en.drop i⟩
theorem Es.drops (e : Es K F0 H0 ρ σ F H) : ∀ js : List Nat, Es K F0 H0 (wipeR ρ js) σ F H
  | [] => e
  | j :: js => (e.drops js).drop j
theorem Es.mut (e : Es K F0 H0 ρ σ F H) {i : Nat} {ds : List PyData} (h : ρ[i]? = some (.ow ds)) : ∃ l xs, σ[i]? = some (some (.ref l)) ∧ H l = some (.lst xs) ∧ DpAll K F xs ds ∧ F l = none ∧ H0 l = none ∧
    ∀ ys es, DpAll K F ys es → Es K F0 H0 (ρ.set i (.ow es)) σ F (upd H l (.lst ys)) := by
  obtain ⟨l, xs, es, hl, dl, nl, fl, k⟩ := e.en.mut h
  refine ⟨l, xs, es, hl, dl, fl, nl, fun ys zs d => ⟨⟨e.gr.ff, fun a u q => ?_, (k ys zs d).fh, e.gr.ap⟩, k ys zs d⟩⟩
  rw [upd_ne (ne_of_none q nl)]
  exact e.gr.hh a u q
theorem Es.mut2 (e : Es K F0 H0 ρ σ F H) {i : Nat} {dss : List (List PyData)} (h : ρ[i]? = some (.ow2 dss)) : ∃ (l : Addr) (ls : List Addr), σ[i]? = some (some (.ref l)) ∧ H l = some (.lst (ls.map V.ref)) ∧ ls.length = dss.length ∧
    ∀ (j : Nat) ds, dss[j]? = some ds → ∃ r xs, ls[j]? = some r ∧ H r = some (.lst xs) ∧ DpAll K F xs ds ∧ r ≠ l ∧ ∀ ys es, DpAll K F ys es → Es K F0 H0 (ρ.set i (.ow2 (dss.set j es))) σ F (upd H r (.lst ys)) := by
  obtain ⟨l, ls, es, hl, nl, fl, len, k⟩ := e.en.mut2 h
  refine ⟨l, ls, es, hl, len, fun j ds hj => ?_⟩
  obtain ⟨r, xs, hr, hx, dx, nr, fr, nrl, kk⟩ := k j ds hj
  refine ⟨r, xs, hr, hx, dx, nrl, fun ys zs d => ⟨⟨e.gr.ff, fun a u q => ?_, (kk ys zs d).fh, e.gr.ap⟩, kk ys zs d⟩⟩
  rw [upd_ne (ne_of_none q nr)]
  exact e.gr.hh a u q

variable {P P' : Post} {t u : TS} {te ta tb : TE} {c : TT}
theorem ws_imp (h : WS K t ρ P') (h1 : ∀ r, P'.nx r → P.nx r) (h2 : ∀ s, P'.rt s → P.rt s) (h3 : ∀ r, P'.bk r → P.bk r) (h4 : ∀ r, P'.ct r → P.ct r) (h5 : ∀ C, P'.ex C → P.ex C ∧ P'.E = P.E) : WS K t ρ P := fun F0 H0 σ F H D e f =>
  h F0 H0 σ F H D e ⟨fun r σ F H p => f.nx r σ F H (h1 r p), fun s v F H p => f.rt s v F H (h2 s p), fun r σ F H p => f.bk r σ F H (h3 r p), fun r σ F H p => f.ct r σ F H (h4 r p), fun C F H p => by rw [(h5 C p).2]; exact f.ex C F H (h5 C p).1⟩
theorem s_next (h : P.nx ρ) : WS K tNext ρ P := fun F0 H0 σ F H D e f => f.nx _ _ _ _ h e
theorem s_seq (h : WS K t ρ { P with nx := fun r => WS K u r P }) : WS K (tSeq t u) ρ P := fun F0 H0 σ F H D e f =>
  h F0 H0 σ F H { D with nx := u D } e ⟨fun r σ F H p e => p F0 H0 σ F H D e f, f.rt, f.bk, f.ct, f.ex⟩
theorem s_seqM (M : List Sl → Prop) (h : WS K t ρ { P with nx := M }) (k : ∀ r, M r → WS K u r P) : WS K (tSeq t u) ρ P := s_seq (ws_imp h k (fun _ h => h) (fun _ h => h) (fun _ h => h) fun _ h => ⟨h, rfl⟩)
theorem s_asg {i : Nat} {s : Sl} (h : XR K te ρ s) (k : P.nx (ρ.set i s)) : WS K (tAsg te (gName i)) ρ P := fun F0 H0 σ F H D e f =>
  h _ σ F H e.en _ fun v F' H' g r => f.nx _ _ _ _ k (e.put g r)
theorem s_if {b : Bool} (h : XT K c ρ b) (h1 : b = true → WS K t ρ P) (h2 : b = false → WS K u ρ P) : WS K (tIfS c t u) ρ P := fun F0 H0 σ F H D e f =>
  h _ σ F H e.en _ fun F' H' g => by
    cases b with
    | true => exact h1 rfl F0 H0 σ F' H' D (e.go g) f
    | false => exact h2 rfl F0 H0 σ F' H' D (e.go g) f
theorem s_ret {s : Sl} (h : XR K te ρ s) (k : P.rt s) : WS K (tRet te) ρ P := fun F0 H0 σ F H D e f =>
  h _ σ F H e.en _ fun v F' H' g r => f.rt s v F' H' k (e.gr.trans g) (r.imp fun a z => e.gr.hh.free z)
theorem s_retv {i : Nat} {s : Sl} (hs : ρ[i]? = some s) (hn : s ≠ .un) (k : P.rt s) : WS K (tRet (tVar i)) ρ P := fun F0 H0 σ F H D e f => by
  obtain ⟨A, h1, h2, h3⟩ := e.en.en
  have z := h1 i s hs
  have fin : ∀ v, σ[i]? = some (some v) → tRet (tVar i) D σ H := fun v hv => ⟨v, hv, f.rt s v F H k e.gr ⟨A i, by rw [← hv]; exact z, fun a q => h3 i a q⟩⟩
  cases s with
  | un => exact (hn rfl).elim
  | ex C => obtain ⟨a, e1, _⟩ := z; exact fin _ e1
  | da d => obtain ⟨v, e1, _⟩ := z; exact fin v e1
  | ow ds => obtain ⟨l, _, e1, _⟩ := z; exact fin _ e1
  | ow2 ds => obtain ⟨l, _, e1, _⟩ := z; exact fin _ e1
theorem s_retN (k : P.rt (.da .none)) : WS K tRetN ρ P := fun F0 H0 σ F H D e f => f.rt _ _ F H k e.gr (ret_da .non)
theorem s_drop {s : Sl} (h : XR K te ρ s) (k : P.nx ρ) : WS K (tDrop te) ρ P := fun F0 H0 σ F H D e f =>
  h _ σ F H e.en _ fun v F' H' g r => f.nx _ _ _ _ k (e.go g)
theorem s_break (k : P.bk ρ) : WS K tBreak ρ P := fun F0 H0 σ F H D e f => f.bk _ _ _ _ k e
theorem s_cont (k : P.ct ρ) : WS K tCont ρ P := fun F0 H0 σ F H D e f => f.ct _ _ _ _ k e
/-- one's own list is known from now on -/
theorem s_frz (i : Nat) {ds : List PyData} (h : ρ[i]? = some (.ow ds)) (k : WS K t (ρ.set i (.da (.list ds))) P) : WS K t ρ P := fun F0 H0 σ F H D e f => by
  obtain ⟨A, h1, h2, h3⟩ := e.en.en
  obtain ⟨l, xs, es, hl, al, dl⟩ := h1 i _ h
  obtain ⟨fl, nl, _⟩ := h3 i l al
  have g := e.gr.frz nl fl hl
  refine k F0 H0 σ (upd F l (.lst xs)) H D ⟨g, g.fh, by rw [List.length_set]; exact e.en.len, fun j a => j ≠ i ∧ A j a, fun j s hs => ?_, fun j k a p q => h2 j k a p.2 q.2, fun j a p => ?_⟩ f
  · by_cases z : j = i
    · subst z
      have hj : j < ρ.length := (List.getElem?_eq_some_iff.mp h).1
      rw [List.getElem?_set_self hj] at hs
      cases hs
      exact ⟨_, es, .lst (.inl (.inl upd_same)) (dps_mono (same_new fl) _ _ dl)⟩
    · rw [List.getElem?_set_ne (Ne.symm z)] at hs
      exact (h1 j s hs).mono (same_new fl) (fun _ _ _ q => q) fun a q => ⟨z, q⟩
  · obtain ⟨f1, n1, o1⟩ := h3 j a p.2
    exact ⟨by rw [upd_ne fun y => p.1 (h2 j i l (by rw [← y]; exact p.2) al)]; exact f1, n1, o1⟩
theorem s_drops (js : List Nat) (k : WS K t (wipeR ρ js) P) : WS K t ρ P := fun F0 H0 σ F H D e f => k F0 H0 σ F H D (e.drops js) f

/-! ### targets -/
def WG (K : PySem.W.Frag) (g : TG) (d : PyData) (ρ : List Sl) (R : List Sl → Prop) : Prop := ∀ (F0 H0 : Hp) (σ : St) (F H : Hp) (v : V), Es K F0 H0 ρ σ F H → Dp K F v d → ∀ T : St → Hp → Prop, (∀ r τ, R r → Es K F0 H0 r τ F H → T τ H) → g v σ H T
def WGs (K : PySem.W.Frag) (g : TGs) (ds : List PyData) (ρ : List Sl) (R : List Sl → Prop) : Prop := ∀ (F0 H0 : Hp) (σ : St) (F H : Hp) (vs : List V), Es K F0 H0 ρ σ F H → DpAll K F vs ds → ∀ T : St → Hp → Prop, (∀ r τ, R r → Es K F0 H0 r τ F H → T τ H) → g vs σ H T
theorem wg_name {j : Nat} {d : PyData} {R : List Sl → Prop} (h : R (ρ.set j (.da d))) : WG K (gName j) d ρ R := fun F0 H0 σ F H v e p T k => k _ _ h (e.put (.refl e.en.fh) (ret_da p))
theorem wgs_nil {R : List Sl → Prop} (h : R ρ) : WGs K gNil [] ρ R := fun F0 H0 σ F H vs e p T k => by
  cases p
  exact ⟨rfl, k _ _ h e⟩
theorem wgs_cons {g : TG} {gs : TGs} {d : PyData} {ds : List PyData} {R : List Sl → Prop} (h : WG K g d ρ fun r => WGs K gs ds r R) : WGs K (gCons g gs) (d :: ds) ρ R := fun F0 H0 σ F H vs e p T k => by
  cases p with
  | cons p ps =>
    exact ⟨_, _, rfl, h F0 H0 σ F H _ e p _ fun r τ q e1 => q F0 H0 τ F H _ e1 ps T k⟩
theorem wg_tup {gs : TGs} {ds : List PyData} {n : Nat} {R : List Sl → Prop} (h : WGs K gs ds ρ R) (hn : ds.length = n) : WG K (gTup K n gs) (.tuple ds) ρ R := fun F0 H0 σ F H v e p T k => by
  obtain ⟨a, xs, rfl, s, q⟩ := dp_tuple p
  exact ⟨a, xs, rfl, sq_t e.en.fh s, (dpa_len q).trans hn, h F0 H0 σ F H xs e q T k⟩
theorem s_asgT {g : TG} {d : PyData} (h : XE K te ρ d) (k : WG K g d ρ P.nx) : WS K (tAsg te g) ρ P := fun F0 H0 σ F H D e f =>
  h.e e.en fun v F' H' gr p => k F0 H0 σ F' H' v (e.go gr) p _ fun r τ q e1 => f.nx _ _ _ _ q e1

/-! ### loops -/
def iSeq (K : PySem.W.Frag) (tl : TE) : TI := fun σ H R => tl σ H fun x H1 => ∃ a, x = .ref a ∧ (((∃ xs, SqL K H1 a xs) ∧ R (Itl K a) H1) ∨ ((∃ xs, SqT K H1 a xs) ∧ R (Itt K a) H1))
/-- an iterator that was just laid -/
theorem it_start {X : Cx} {pins : List (Addr × Obj)} {σ : St} {H : Hp} {s : Shared} {tg : Expr} {R : It → Hp → Prop} {J : It} {tn : Nat → Heap → Prop} {o : Obj} (I : Inv X pins σ H s) (T : Turn X.prog X.w X.K tg J [s.heap.objs.size] s.heap.objs.size tn)
    (t0 : tn 0 (s.heap.push o)) (q : R J H) : PIE X pins σ tg R (.ref s.heap.objs.size) { s with heap := s.heap.push o } := by
  have grown : Inv X pins σ H { s with heap := s.heap.push o } := I.kept (t' := s.toks) (fun _ _ known => Heap.get?_push_of_some _ known)
  have young : FpOk X pins H s.heap.objs.size := I.fpOk (Nat.le_refl _) I.fresh
  exact ⟨_, _, _, J, H, rfl, grown, T, t0, fun b mem => by cases List.mem_singleton.mp mem; exact young, q⟩
theorem pi_seq {X : Cx} {tg l : Expr} {tl : TE} (hl : PE X l tl) : PI X tg l (iSeq X.K tl) := by
  constructor
  intro pins s σ H R I ask
  apply thn (hl.run pins s σ H _ I ask)
  rintro v s1 ⟨x, H1, I1, rel, a, rfl, ways⟩
  cases rel
  rcases ways with ⟨⟨xs, src⟩, q⟩ | ⟨⟨xs, src⟩, q⟩
  · obtain ⟨its, _, plain, _⟩ := I1.list src
    exact wpAny_pyIter_list plain.isList (it_start I1 (turn_list a _) ⟨_, Heap.get?_push_size _ rfl, rfl, rfl⟩ q)
  · obtain ⟨its, _, tup, _⟩ := I1.tuple src
    exact wpAny_pyIter_tuple tup (it_start I1 (turn_tuple a _) ⟨_, Heap.get?_push_size _ rfl, rfl, rfl⟩ q)
def sqd : PyData → List PyData
  | .list ds => ds
  | .tuple ds => ds
  | _ => []
def isq : PyData → Prop
  | .list _ => True
  | .tuple _ => True
  | _ => False
theorem Es.base (e : Es K F0 H0 ρ σ F H) : ∃ G : Hp, Es K F G ρ σ F H ∧ (∀ r τ F2 H2, Es K F G r τ F2 H2 → Es K F0 H0 r τ F2 H2) ∧ (∀ F2 H2, Gr F G F2 H2 → Gr F0 H0 F2 H2) ∧ (∀ a, G a = none → H0 a = none) := by
  have hG : ∃ G : Hp, (∀ a o, G a = some o → H a = some o) ∧ (∀ a o, H0 a = some o → G a = some o) ∧ (∀ a o, F a = some o → G a = some o) ∧ ∀ a, H0 a = none → F a = none → G a = none := by
    refine ⟨fun a => match H0 a with | some o => some o | none => F a, fun a o h => ?_, fun a o h => ?_, fun a o h => ?_, fun a h k => ?_⟩
    · cases z : H0 a with
      | some u => simp only [z] at h; cases h; exact e.gr.hh a _ z
      | none => simp only [z] at h; exact e.gr.fh a _ h
    · simp only [h]
    · cases z : H0 a with
      | some u =>
        simp only [z]
        rw [← e.gr.fh a _ h]; exact (e.gr.hh a _ z).symm
      | none => simp only [z]; exact h
    · simp only [h]; exact k
  obtain ⟨G, g1, g2, g3, g4⟩ := hG
  have gg : ∀ F2 H2, Gr F G F2 H2 → Gr F0 H0 F2 H2 := fun F2 H2 g => ⟨e.gr.ff.trans g.ff, fun a o q => g.hh a o (g2 a o q), g.fh, fun a o q r => g.ap a o (e.gr.ap a o q r) (g2 a o r)⟩
  have gn : ∀ a, G a = none → H0 a = none := fun a q => by
    cases z : H0 a with
    | none => rfl
    | some u => rw [g2 a u z] at q; cases q
  refine ⟨G, ⟨⟨Same.refl _, g1, e.en.fh, fun _ _ q _ => q⟩, e.en.fh, e.en.len, ?_⟩, fun r τ F2 H2 q => ⟨gg _ _ q.gr, q.en.fh, q.en.len, ?_⟩, gg, gn⟩
  · obtain ⟨A, h1, h2, h3⟩ := e.en.en
    exact ⟨A, h1, h2, fun i a p => ⟨(h3 i a p).1, g4 a (h3 i a p).2.1 (h3 i a p).1, (h3 i a p).2.2⟩⟩
  · obtain ⟨A, h1, h2, h3⟩ := q.en.en
    exact ⟨A, h1, h2, fun i a p => ⟨(h3 i a p).1, gn a (h3 i a p).2.1, (h3 i a p).2.2⟩⟩
theorem s_for {α : Type} {tl : TE} {g : TG} {d : PyData} (xs : List α) (em : α → PyData) (js : List Nat) (I : Nat → List Sl → Prop) (hl : XE K tl ρ d) (hq : isq d) (hx : sqd d = xs.map em) (h0 : I 0 (wipeR ρ js))
    (hs : ∀ (i : Nat) x r, xs[i]? = some x → I i r → WG K g (em x) r fun r' => WS K t r' { nx := fun z => I (i + 1) (wipeR z js), rt := P.rt, bk := P.nx, ct := fun z => I (i + 1) (wipeR z js), ex := P.ex, E := P.E })
    (hd : ∀ r, I xs.length r → P.nx r) : WS K (tFor (iSeq K tl) g t) ρ P := fun F0 H0 σ F H D e f => by
  refine hl.e e.en fun v F1 H1 g1 p1 => ?_
  obtain ⟨G, b1, b2, b3, b4⟩ := (e.go g1).base
  have turn : ∀ (vs : List V) (ds : List PyData), ds = xs.map em → DpAll K F1 vs ds → ∀ i (y : V) τ H2, vs[i]? = some y → (∃ r F2, I i r ∧ Es K F1 G r τ F2 H2) →
      g y τ H2 fun σ2 H3 => t { D with nx := fun τ H2 => (∃ r F2, I (i + 1) r ∧ Es K F1 G r τ F2 H2), ct := fun τ H2 => (∃ r F2, I (i + 1) r ∧ Es K F1 G r τ F2 H2), bk := D.nx } σ2 H3 := by
    rintro vs ds eds dv i y τ H2 hy ⟨r, F2, hI, e2⟩
    obtain ⟨d', hd', pd⟩ := dpa_get' dv hy
    rw [eds, List.getElem?_map] at hd'
    cases hx' : xs[i]? with
    | none => rw [hx'] at hd'; cases hd'
    | some x =>
      rw [hx'] at hd'
      cases hd'
      refine hs i x r hx' hI F1 G τ F2 H2 y e2 (dp_mono e2.gr.ff _ _ pd) _ fun r' τ' hw e3 => ?_
      exact hw F1 G τ' F2 H2 _ e3 ⟨fun r τ F H p e => ⟨_, F, p, e.drops js⟩, fun s v F H p g q => f.rt s v F H p (b3 _ _ g) (q.imp b4), fun r τ F H p e => f.nx r τ F H p (b2 _ _ _ _ e), fun r τ F H p e => ⟨_, F, p, e.drops js⟩, fun C F H p g => f.ex C F H p (b3 _ _ g)⟩
  have start : ∃ r F2, I 0 r ∧ Es K F1 G r σ F2 H1 := ⟨_, F1, h0, b1.drops js⟩
  have done : ∀ τ H2, (∃ r F2, I xs.length r ∧ Es K F1 G r τ F2 H2) → D.nx τ H2 := fun τ H2 ⟨r, F2, p, q⟩ => f.nx r τ F2 H2 (hd r p) (b2 _ _ _ _ q)
  cases d with
  | list ds =>
    obtain ⟨a, vs, rfl, s, q⟩ := dp_list p1
    have len : vs.length = xs.length := by rw [dpa_len q, show ds = xs.map em from hx, List.length_map]
    refine ⟨a, rfl, .inl ⟨⟨vs, (e.go g1).gr.fh.seq s⟩, for_list (K := K) (a := a) (xs := vs) (fun i τ H2 => ∃ r F2, I i r ∧ Es K F1 G r τ F2 H2) start (fun i τ H2 _ ⟨r, F2, _, q⟩ => (q.gr.ff.trans q.gr.fh).seq s) (fun i y τ H2 hy w => turn vs ds hx q i y τ H2 hy w) (by rw [len]; exact done)⟩⟩
  | tuple ds =>
    obtain ⟨a, vs, rfl, s, q⟩ := dp_tuple p1
    have len : vs.length = xs.length := by rw [dpa_len q, show ds = xs.map em from hx, List.length_map]
    refine ⟨a, rfl, .inr ⟨⟨vs, sq_t (e.go g1).gr.fh s⟩, for_tup (K := K) (a := a) (xs := vs) (fun i τ H2 => ∃ r F2, I i r ∧ Es K F1 G r τ F2 H2) start (fun i τ H2 _ ⟨r, F2, _, q⟩ => sq_t (q.gr.ff.trans q.gr.fh) s) (fun i y τ H2 hy w => turn vs ds hx q i y τ H2 hy w) (by rw [len]; exact done)⟩⟩
  | none => exact hq.elim
  | bool _ => exact hq.elim
  | int _ => exact hq.elim
  | str _ => exact hq.elim
  | dict _ => exact hq.elim
/-- for i in range(n) -/
theorem s_range {ta : TA} {g : TG} {n : Int} (js : List Nat) (I : Nat → List Sl → Prop) (hl : XA K ta ρ [.int n]) (hn : n ≤ 100000 ∧ -100000 ≤ n) (h0 : I 0 (wipeR ρ js))
    (hs : ∀ (i : Nat) r, (i : Int) < n → I i r → WG K g (.int i) r fun r' => WS K t r' { nx := fun z => I (i + 1) (wipeR z js), rt := P.rt, bk := P.nx, ct := fun z => I (i + 1) (wipeR z js), ex := P.ex, E := P.E })
    (hd : ∀ r, I n.toNat r → P.nx r) : WS K (tFor (iRng1 ta) g t) ρ P := fun F0 H0 σ F H D e f => by
  refine hl _ σ F H e.en _ fun vs F1 H1 g1 p1 => ?_
  have e1 := e.go g1
  have ev : vs = [V.int n] := dpa_ints (ns := [n]) p1
  refine ⟨n, ev, by omega, by omega, for_range (lo := 0) (n := n.toNat) (fun i τ H2 => ∃ r F2, I i r ∧ Es K F0 H0 r τ F2 H2) ⟨_, F1, h0, e1.drops js⟩ ?_ fun τ H2 ⟨r, F2, p, q⟩ => f.nx r τ F2 H2 (hd r p) q⟩
  rintro i τ H2 hi ⟨r, F2, hI, e2⟩
  have e0 : (0 : Int) + (i : Int) = (i : Int) := Int.zero_add _
  rw [e0]
  refine hs i r (by omega) hI F0 H0 τ F2 H2 (.int (i : Int)) e2 (.int _) _ fun r' τ' hw e3 => ?_
  exact hw F0 H0 τ' F2 H2 _ e3 ⟨fun r τ F H p e => ⟨_, F, p, e.drops js⟩, f.rt, f.nx, fun r τ F H p e => ⟨_, F, p, e.drops js⟩, f.ex⟩
theorem s_while (js : List Nat) (I : Nat → List Sl → Prop) (m : Nat) (h0 : I m (wipeR ρ js))
    (hs : ∀ (m : Nat) r, I m r → ∃ b, XT K c r b ∧ (b = true → WS K t r { nx := fun z => ∃ m', m' < m ∧ I m' (wipeR z js), rt := P.rt, bk := P.nx, ct := fun z => ∃ m', m' < m ∧ I m' (wipeR z js), ex := P.ex, E := P.E }) ∧ (b = false → P.nx r)) :
    WS K (tWhile c t) ρ P := fun F0 H0 σ F H D e f => by
  refine ⟨fun m τ H2 => ∃ r F2, I m r ∧ Es K F0 H0 r τ F2 H2, ⟨m, _, F, h0, e.drops js⟩, ?_⟩
  rintro m τ H2 ⟨r, F2, hI, e2⟩
  obtain ⟨b, hc, h1, h2⟩ := hs m r hI
  refine hc _ τ F2 H2 e2.en _ fun F3 H3 g3 => ?_
  cases b with
  | true =>
    rw [if_pos rfl]
    refine ⟨fun τ' H' => ∃ m', m' < m ∧ ∃ r F2, I m' r ∧ Es K F0 H0 r τ' F2 H', fun τ' H' h => h, ?_⟩
    exact h1 rfl F0 H0 τ F3 H3 _ (e2.go g3) ⟨fun r τ F H ⟨m', l, p⟩ e => ⟨m', l, _, F, p, e.drops js⟩, f.rt, f.nx, fun r τ F H ⟨m', l, p⟩ e => ⟨m', l, _, F, p, e.drops js⟩, f.ex⟩
  | false =>
    rw [if_neg Bool.false_ne_true]
    exact f.nx _ _ _ _ (h2 rfl) (e2.go g3)

/-! ### comprehensions -/
theorem En.putD (e : En K N ρ σ F H) (g : Gr F H F' H') {i : Nat} {d : PyData} {v : V} (p : Dp K F' v d) : En K N (ρ.set i (.da d)) (σ.set i (some v)) F' H' := by
  obtain ⟨A, h1, h2, h3⟩ := ((e.gr g).dropv i (some v)).en
  refine ⟨g.fh, by rw [List.length_set, List.length_set]; exact e.len, A, fun j t ht => ?_, h2, h3⟩
  by_cases z : j = i
  · subst z
    have hj : j < ρ.length := by have := (List.getElem?_eq_some_iff.mp ht).1; simpa using this
    rw [List.getElem?_set_self hj] at ht
    cases ht
    exact ⟨v, by rw [List.getElem?_set_self (by rw [← e.len]; exact hj)], p⟩
  · have := h1 j t (by rw [List.getElem?_set_ne (Ne.symm z)] at ht ⊢; exact ht)
    exact this
theorem lc_turn {α : Type} {tt : TT} {te : TE} {xs : List α} {p : α → Bool} {h : α → PyData} {vs : List Nat} {j : Nat} {em : α → PyData} {i : Nat} {x : α} {y : V} {D : Addr} {F1 H1 H2 : Hp} (hx : xs[i]? = some x) (hz : xs.length ≤ 100000)
    (en : En K N ρ σ F1 H1) (nD : H1 D = none) (hj : j ∈ vs)
    (py : Dp K F1 y (em x)) (ht : XT K tt ((wipeR ρ vs).set j (.da (em x))) (p x)) (he : p x = true → XE K te ((wipeR ρ vs).set j (.da (em x))) (h x))
    (w : ∃ F' acc, Gr F1 H1 F' H2 ∧ F' D = none ∧ H2 D = some (.lst acc) ∧ DpAll K F' acc (((xs.take i).filter p).map h)) :
    gName j y (wipe σ vs) H2 fun σ2 H2 => wipe σ2 vs = wipe σ vs ∧ tt σ2 H2 fun b H3 => if b = true then te σ2 H3 fun y H4 => ∃ acc, H4 D = some (.lst acc) ∧ acc.length < sizeLine ∧
      (∃ F' acc', Gr F1 H1 F' (upd H4 D (.lst (acc ++ [y]))) ∧ F' D = none ∧ (upd H4 D (.lst (acc ++ [y]))) D = some (.lst acc') ∧ DpAll K F' acc' (((xs.take (i + 1)).filter p).map h)) else
      (∃ F' acc', Gr F1 H1 F' H3 ∧ F' D = none ∧ H3 D = some (.lst acc') ∧ DpAll K F' acc' (((xs.take (i + 1)).filter p).map h)) := by
  obtain ⟨F', acc, g, fD, hD, da⟩ := w
  have en2 : En K N ((wipeR ρ vs).set j (.da (em x))) ((wipe σ vs).set j (some y)) F' H2 := ((en.gr g).wipe vs).putD (.refl g.fh) (dp_mono g.ff _ _ py)
  have hi : i < xs.length := (List.getElem?_eq_some_iff.mp hx).1
  have tk : xs.take (i + 1) = xs.take i ++ [x] := by rw [List.take_succ, hx]; rfl
  refine ⟨by rw [wipe_back hj, wipe_idem], ht N _ F' H2 en2 _ fun F3 H3 g3 => ?_⟩
  have fD3 : F3 D = none := g3.ap D _ fD hD
  cases hp : p x with
  | true =>
    rw [if_pos rfl]
    refine (he hp).e (en2.gr g3) fun v F4 H4 g4 p4 => ?_
    have fD4 : F4 D = none := g4.ap D _ fD3 (g3.hh _ _ hD)
    have g5 := (g.trans g3).trans g4
    refine ⟨acc, g4.hh _ _ (g3.hh _ _ hD), ?_, F4, acc ++ [v], ⟨g5.ff, fun a u q => ?_, fun a u q => ?_, g5.ap⟩, fD4, upd_same, ?_⟩
    · have l1 := dpa_len da
      rw [List.length_map] at l1
      have l2 := List.length_filter_le p (xs.take i)
      have l3 : (xs.take i).length ≤ xs.length := by rw [List.length_take]; exact Nat.min_le_right _ _
      exact Nat.lt_of_le_of_lt (by omega : acc.length ≤ 100000) (by decide)
    · rw [upd_ne (ne_of_none q nD)]; exact g5.hh a u q
    · rw [upd_ne (ne_of_none q fD4)]; exact g5.fh a u q
    · rw [tk, List.filter_append, List.map_append]
      have e1 : ([x].filter p).map h = [h x] := by simp [hp]
      rw [e1]
      exact dpa_app (dps_mono (g3.ff.trans g4.ff) _ _ da) (dpa_one p4)
  | false =>
    rw [if_neg Bool.false_ne_true]
    refine ⟨F3, acc, g.trans g3, fD3, g3.hh _ _ hD, ?_⟩
    rw [tk, List.filter_append, List.map_append]
    have e1 : ([x].filter p).map h = [] := by simp [hp]
    rw [e1, List.append_nil]
    exact dps_mono g3.ff _ _ da
theorem x_lc {α : Type} {tl te : TE} {tt : TT} {d : PyData} {j : Nat} {vs : List Nat} (xs : List α) (em : α → PyData) (p : α → Bool) (h : α → PyData) (hl : XE K tl ρ d) (hq : isq d) (hx : sqd d = xs.map em) (hz : xs.length ≤ 100000) (hj : j ∈ vs)
    (ht : ∀ x ∈ xs, XT K tt ((wipeR ρ vs).set j (.da (em x))) (p x)) (he : ∀ x ∈ xs, p x = true → XE K te ((wipeR ρ vs).set j (.da (em x))) (h x)) : XR K (tLc (iSeq K tl) (gName j) tt te vs) ρ (.ow ((xs.filter p).map h)) := fun N σ F H e Q q => by
  refine hl.e e fun v F1 H1 g1 p1 => ?_
  have en := e.gr g1
  have turn : ∀ (ys : List V) (ds : List PyData), ds = xs.map em → DpAll K F1 ys ds → ∀ D, H1 D = none → ∀ i (y : V) H2, ys[i]? = some y → (∃ F' acc, Gr F1 H1 F' H2 ∧ F' D = none ∧ H2 D = some (.lst acc) ∧ DpAll K F' acc (((xs.take i).filter p).map h)) →
      gName j y (wipe σ vs) H2 fun σ2 H2 => wipe σ2 vs = wipe σ vs ∧ tt σ2 H2 fun b H3 => if b = true then te σ2 H3 fun y H4 => ∃ acc, H4 D = some (.lst acc) ∧ acc.length < sizeLine ∧
      (∃ F' acc', Gr F1 H1 F' (upd H4 D (.lst (acc ++ [y]))) ∧ F' D = none ∧ (upd H4 D (.lst (acc ++ [y]))) D = some (.lst acc') ∧ DpAll K F' acc' (((xs.take (i + 1)).filter p).map h)) else
      (∃ F' acc', Gr F1 H1 F' H3 ∧ F' D = none ∧ H3 D = some (.lst acc') ∧ DpAll K F' acc' (((xs.take (i + 1)).filter p).map h)) := by
    intro ys ds eds dy D nD i y H2 hy w
    obtain ⟨d', hd', pd⟩ := dpa_get' dy hy
    rw [eds, List.getElem?_map] at hd'
    cases hx' : xs[i]? with
    | none => rw [hx'] at hd'; cases hd'
    | some x =>
      rw [hx'] at hd'
      cases hd'
      have hm := List.mem_of_getElem? hx'
      exact lc_turn hx' hz en nD hj pd (ht x hm) (he x hm) w
  have start : ∀ D, H1 D = none → (∃ F' acc, Gr F1 H1 F' (upd H1 D (.lst [])) ∧ F' D = none ∧ (upd H1 D (.lst [])) D = some (.lst acc) ∧ DpAll K F' acc (((xs.take 0).filter p).map h)) := fun D nD =>
    ⟨F1, [], .own en.fh nD, en.fh.free nD, upd_same, .nil⟩
  have done : ∀ D H2, H1 D = none → (∃ F' acc, Gr F1 H1 F' H2 ∧ F' D = none ∧ H2 D = some (.lst acc) ∧ DpAll K F' acc (((xs.take xs.length).filter p).map h)) → Q (.ref D) H2 := fun D H2 nD ⟨F', acc, g, fD, hD, da⟩ => by
    rw [List.take_length] at da
    exact q _ F' H2 (g1.trans g) (ret_ow hD fD (g1.hh.free nD) da)
  cases d with
  | list ds =>
    obtain ⟨a, ys, rfl, s, pq⟩ := dp_list p1
    have len : ys.length = xs.length := by rw [dpa_len pq, show ds = xs.map em from hx, List.length_map]
    exact ⟨a, rfl, .inl ⟨⟨ys, en.fh.seq s⟩, fun D nD => lc_list (K := K) (a := a) (xs := ys) (fun i H2 => ∃ F' acc, Gr F1 H1 F' H2 ∧ F' D = none ∧ H2 D = some (.lst acc) ∧ DpAll K F' acc (((xs.take i).filter p).map h)) (start D nD)
      (fun i H2 _ ⟨F', _, g, _⟩ => g.hh.seq (en.fh.seq s)) (fun i y H2 hy w => turn ys ds hx pq D nD i y H2 hy w) (by rw [len]; exact fun H2 w => done D H2 nD w)⟩⟩
  | tuple ds =>
    obtain ⟨a, ys, rfl, s, pq⟩ := dp_tuple p1
    have len : ys.length = xs.length := by rw [dpa_len pq, show ds = xs.map em from hx, List.length_map]
    exact ⟨a, rfl, .inr ⟨⟨ys, sq_t en.fh s⟩, fun D nD => lc_tup (K := K) (a := a) (xs := ys) (fun i H2 => ∃ F' acc, Gr F1 H1 F' H2 ∧ F' D = none ∧ H2 D = some (.lst acc) ∧ DpAll K F' acc (((xs.take i).filter p).map h)) (start D nD)
      (fun i H2 _ ⟨F', _, g, _⟩ => sq_t g.hh (sq_t en.fh s)) (fun i y H2 hy w => turn ys ds hx pq D nD i y H2 hy w) (by rw [len]; exact fun H2 w => done D H2 nD w)⟩⟩
  | none => exact hq.elim
  | bool _ => exact hq.elim
  | int _ => exact hq.elim
  | str _ => exact hq.elim
  | dict _ => exact hq.elim
theorem x_lcR {ta : TA} {te : TE} {tt : TT} {n : Int} {j : Nat} {vs : List Nat} (p : Nat → Bool) (h : Nat → PyData) (hl : XA K ta ρ [.int n]) (hn : n ≤ 100000 ∧ -100000 ≤ n) (hj : j ∈ vs)
    (ht : ∀ i : Nat, (i : Int) < n → XT K tt ((wipeR ρ vs).set j (.da (.int i))) (p i)) (he : ∀ i : Nat, (i : Int) < n → p i = true → XE K te ((wipeR ρ vs).set j (.da (.int i))) (h i)) : XR K (tLc (iRng1 ta) (gName j) tt te vs) ρ (.ow (((List.range n.toNat).filter p).map h)) := fun N σ F H e Q q => by
  refine hl _ σ F H e _ fun ws F1 H1 g1 p1 => ?_
  have en := e.gr g1
  have ev : ws = [V.int n] := dpa_ints (ns := [n]) p1
  have len : (List.range n.toNat).length = n.toNat := List.length_range
  refine ⟨n, ev, by omega, by omega, fun D nD => lc_range (lo := 0) (n := n.toNat) (fun i H2 => ∃ F' acc, Gr F1 H1 F' H2 ∧ F' D = none ∧ H2 D = some (.lst acc) ∧ DpAll K F' acc ((((List.range n.toNat).take i).filter p).map h)) ⟨F1, [], .own en.fh nD, en.fh.free nD, upd_same, .nil⟩ (fun i H2 hi w => ?_) fun H2 ⟨F', acc, g, fD, hD, da⟩ => ?_⟩
  · have e0 : (0 : Int) + (i : Int) = (i : Int) := Int.zero_add _
    rw [e0]
    exact lc_turn (em := fun i : Nat => PyData.int i) (x := i) (by rw [List.getElem?_range hi]) (by rw [len]; omega) en nD hj (.int _) (ht i (by omega)) (he i (by omega)) w
  · rw [List.take_of_length_le (by rw [len]; exact Nat.le_refl _)] at da
    exact q _ F' H2 (g1.trans g) (ret_ow hD fD (g1.hh.free nD) da)
theorem xt_yes : XT K tYes ρ true := fun N σ F H e Q q => q F H (.refl e.fh)

/-! ### promises over data -/
def spF (K : PySem.W.Frag) (R : List PyData → Sl → Prop) : Sp := fun vs H Q _ => ∃ (F : Hp) (ds : List PyData) (s : Sl), Same F H ∧ DpAll K F vs ds ∧ R ds s ∧ ∀ v F' H', Gr F H F' H' → RetOk K (fun a => H a = none) F' H' s v → Q v H'
theorem x_call {R : List PyData → Sl → Prop} {E : XK} {ta : TA} {ds : List PyData} {s : Sl} (ha : XA K ta ρ ds) (hp : R ds s) : XR K (tCall (spF K R) [] E ta) ρ s := fun N σ F H e Q q =>
  ha N σ F H e _ fun vs F1 H1 g1 p1 => ⟨F1, ds, s, g1.fh, by rw [List.append_nil]; exact p1, hp, fun v F' H' g r => q v F' H' (g1.trans g) (r.imp fun a z => g1.hh.free z)⟩
def startR (N : List Str) (ds : List PyData) : List Sl := ds.map Sl.da ++ List.replicate (N.length - ds.length) Sl.un
theorem start_en {N : List Str} {vs : List V} {ds : List PyData} {M : Addr → Prop} (e : Same F H) (p : DpAll K F vs ds) : En K M (startR N ds) (L2.start N vs) F H := by
  have l := dpa_len p
  refine ⟨e, ?_, fun _ _ => False, fun i s hs => ?_, fun _ _ _ z => z.elim, fun _ _ z => z.elim⟩
  · unfold startR L2.start
    simp [l]
  · unfold startR at hs
    by_cases hi : i < ds.length
    · rw [List.getElem?_append_left (by rw [List.length_map]; exact hi), List.getElem?_map, List.getElem?_eq_getElem hi] at hs
      cases hs
      obtain ⟨v, hv, q⟩ := dpa_get p (List.getElem?_eq_getElem hi)
      refine ⟨v, ?_, q⟩
      unfold L2.start
      rw [List.getElem?_append_left (by rw [List.length_map, l]; exact hi), List.getElem?_map, hv]
      rfl
    · rw [List.getElem?_append_right (by rw [List.length_map]; omega), List.getElem?_replicate] at hs
      split at hs
      · cases hs; trivial
      · cases hs
section
variable {Pr : Program} {w : World} {mg : Str → Option Value} {base : Heap}
theorem fn_ok {x qual : Str} {st : Stmt} {f : Addr} {fd : FuncData} {N ps : List Str} {k : Nat} {R : List PyData → Sl → Prop} (Fu : Fun K x qual st f fd) (S : FnScope N ps (defScope st)) (len : ∀ ds s, R ds s → ds.length = ps.length)
    (body : ∀ (cdv : Value) (A : Around) (outer : List Env) (s : Shared) (H : Hp) (E : XK), Room k (A.deeper (PyProof.Rows.envOfC qual (defScope st) s.heap.objs.size f cdv)) →
      ∃ t, PSs (cxOf CX0 Pr w K mg base N qual (defScope st) f cdv A outer s H E).nox (defBody st) t ∧ ∀ ds s, R ds s → WS K t (startR N ds) { nx := fun _ => s = .da .none, rt := fun s' => s' = s }) :
    FnOk Pr w K mg base CX0 (k + 1) f fd ps (spF K R) := by
  refine Fu.ok S (fun vs H Q E h => ?_) (fun cdv A outer s H vs Q E hr h => ?_)
  · obtain ⟨F, ds, z, _, p, q, _⟩ := h
    rw [dpa_len p]
    exact len ds z q
  · obtain ⟨F, ds, z, e, p, hp, k⟩ := h
    obtain ⟨t, ht, ws⟩ := body cdv A outer s H E hr
    refine ⟨t, ht, ws ds z hp F H _ F H _ ⟨.refl e, start_en e p⟩ ⟨fun r σ F' H' z es => ?_, fun s v F' H' z g r => ?_, fun _ _ _ _ z => z.elim, fun _ _ _ _ z => z.elim, fun _ _ _ z => z.elim⟩⟩
    · exact k _ F' H' es.gr (by rw [z]; exact ret_da .non)
    · rw [z] at r
      exact k _ F' H' g r
theorem fn_never {f : Addr} {fd : FuncData} {ps : List Str} : FnOk Pr w K mg base CX0 0 f fd ps (spF K fun _ _ => False) :=
  ⟨fun vs H Q E ⟨_, _, _, _, _, z, _⟩ => z.elim, fun A outer s H args us vs Q E _ _ _ _ ⟨_, _, _, _, _, z, _⟩ => z.elim⟩
end
end
end WL

namespace WL
open PySem L2
/-! ### operators -/
section
variable {X : Cx}
def CDivG (_ j : Int) : Prop := j ≠ 0 ∧ j.natAbs.log2 < 9000
theorem op_fdivG : OpR X (binaryOp .FloorDiv) (rI CDivG fun i j => .int (i.fdiv j)) := opI fun _ _ _ _ _ _ _ hc q => PyProof.Rows.floordiv_int hc.1 q (.inl (PyProof.noPylong_of_log2 hc.2))
theorem op_mulX : OpR X (binaryOp .Mult) (rI PySem.IntMulOk fun i j => .int (i * j)) := opI fun _ _ _ _ _ _ _ hc q => PyProof.Rows.mul_int q hc
def rAddX (K : PySem.W.Frag) : R2 := fun x y H Q => (∃ i j, x = .int i ∧ y = .int j ∧ Q (.int (i + j)) H) ∨ rCat x y H Q ∨ rCatT K x y H Q ∨ (∃ i j, x = .str i ∧ y = .str j ∧ i.length + j.length ≤ sizeLine ∧ Q (.str (i ++ j)) H)
theorem op_addX : OpR X (binaryOp .Add) (rAddX X.K) := op_add.or (op_cat.or (op_catT.or op_add_str))
end
section
variable {K : PySem.W.Frag} {N : Addr → Prop} {ρ : List Sl} {σ : St} {F H F' H' F0 H0 : Hp} {ta tb te tc : TE} {tt tu : TT}
theorem re_add {i j : Int} : RE K (rAddX K) (.int i) (.int j) (.da (.int (i + j))) := re_s fun F H x y e p1 p2 Q q => .inl ⟨i, j, dp_int p1, dp_int p2, q _ (.int _)⟩
theorem re_cats {i j : Str} (h : i.length + j.length ≤ sizeLine) : RE K (rAddX K) (.str i) (.str j) (.da (.str (i ++ j))) := re_s fun F H x y e p1 p2 Q q => .inr (.inr (.inr ⟨i, j, dp_str p1, dp_str p2, h, q _ (.str _)⟩))
theorem x_add {i j : Int} (ha : XE K ta ρ (.int i)) (hb : XE K tb ρ (.int j)) : XE K (tOp (rAddX K) ta tb) ρ (.int (i + j)) := x_op ha hb re_add
theorem x_sub {i j : Int} (ha : XE K ta ρ (.int i)) (hb : XE K tb ρ (.int j)) : XE K (tOp (rI0 fun i j => .int (i - j)) ta tb) ρ (.int (i - j)) := x_op ha hb (re_I0 fun _ => .int _)
theorem x_mul {i j : Int} (ha : XE K ta ρ (.int i)) (hb : XE K tb ρ (.int j)) (h : PySem.IntMulOk i j) : XE K (tOp (rI PySem.IntMulOk fun i j => .int (i * j)) ta tb) ρ (.int (i * j)) := x_op ha hb (re_I h fun _ => .int _)
theorem x_fdiv {i j : Int} (ha : XE K ta ρ (.int i)) (hb : XE K tb ρ (.int j)) (h : CDivG i j) : XE K (tOp (rI CDivG fun i j => .int (i.fdiv j)) ta tb) ρ (.int (i.fdiv j)) := x_op ha hb (re_I h fun _ => .int _)
theorem x_div {i j : Int} (ha : XE K ta ρ (.int i)) (hb : XE K tb ρ (.int j)) (h : 0 < j) (h2 : j.natAbs.log2 < 9000) : XE K (tOp (rI CDivG fun i j => .int (i.fdiv j)) ta tb) ρ (.int (i / j)) := by
  have := x_fdiv ha hb ⟨by omega, h2⟩
  rw [Int.fdiv_eq_ediv_of_nonneg i (by omega)] at this
  exact this
theorem x_fmod {i j : Int} (ha : XE K ta ρ (.int i)) (hb : XE K tb ρ (.int j)) (h : j ≠ 0) : XE K (tOp (rI (fun _ j => j ≠ 0) fun i j => .int (i.fmod j)) ta tb) ρ (.int (i.fmod j)) := x_op ha hb (re_I h fun _ => .int _)
theorem x_mod {i j : Int} (ha : XE K ta ρ (.int i)) (hb : XE K tb ρ (.int j)) (h : 0 < j) : XE K (tOp (rI (fun _ j => j ≠ 0) fun i j => .int (i.fmod j)) ta tb) ρ (.int (i % j)) := by
  have := x_fmod ha hb (by omega : j ≠ 0)
  rw [Int.fmod_eq_emod_of_nonneg i (by omega)] at this
  exact this
theorem x_pow {i j : Int} (ha : XE K ta ρ (.int i)) (hb : XE K tb ρ (.int j)) (h : CPow i j) : XE K (tOp (rI CPow fun i j => .int (i ^ j.toNat)) ta tb) ρ (.int (i ^ j.toNat)) := x_op ha hb (re_I h fun _ => .int _)
theorem x_shr {i j : Int} (ha : XE K ta ρ (.int i)) (hb : XE K tb ρ (.int j)) (h : 0 ≤ j) : XE K (tOp (rI (fun _ j => 0 ≤ j) fun i j => .int (i / 2 ^ j.toNat)) ta tb) ρ (.int (i / 2 ^ j.toNat)) := x_op ha hb (re_I h fun _ => .int _)
theorem x_band {i j : Int} (ha : XE K ta ρ (.int i)) (hb : XE K tb ρ (.int j)) : XE K (tOp (rI0 fun i j => .int (Builtin.bitAnd i j)) ta tb) ρ (.int (Builtin.bitAnd i j)) := x_op ha hb (re_I0 fun _ => .int _)
theorem x_lt {i j : Int} (ha : XE K ta ρ (.int i)) (hb : XE K tb ρ (.int j)) : XE K (tOp (rI0 fun i j => .bl (decide (i < j))) ta tb) ρ (.bool (decide (i < j))) := x_op ha hb (re_I0 fun _ => .bl _)
theorem x_le {i j : Int} (ha : XE K ta ρ (.int i)) (hb : XE K tb ρ (.int j)) : XE K (tOp (rI0 fun i j => .bl (decide (i ≤ j))) ta tb) ρ (.bool (decide (i ≤ j))) := x_op ha hb (re_I0 fun _ => .bl _)
theorem x_gt {i j : Int} (ha : XE K ta ρ (.int i)) (hb : XE K tb ρ (.int j)) : XE K (tOp (rI0 fun i j => .bl (decide (j < i))) ta tb) ρ (.bool (decide (j < i))) := x_op ha hb (re_I0 fun _ => .bl _)
theorem x_ge {i j : Int} (ha : XE K ta ρ (.int i)) (hb : XE K tb ρ (.int j)) : XE K (tOp (rI0 fun i j => .bl (decide (j ≤ i))) ta tb) ρ (.bool (decide (j ≤ i))) := x_op ha hb (re_I0 fun _ => .bl _)
theorem x_neg {i : Int} (ha : XE K ta ρ (.int i)) : XE K (tUn (rU fun i => .int (-i)) ta) ρ (.int (-i)) := xe_intro fun N σ F H e Q q => ha.e e fun v F1 H1 g p => ⟨i, dp_int p, q _ F1 H1 g (.int _)⟩
def isNone : PyData → Bool
  | .none => true
  | _ => false
theorem x_isN {d : PyData} (ha : XP K ta ρ d) : XE K (tOp (fun x y H Q => y = V.non ∧ Q (.bl (decide (x = .non))) H) ta (tC .non)) ρ (.bool (isNone d)) := xe_intro fun N σ F H e Q q => ha N σ F H e _ fun v F1 H1 g p => ⟨rfl, by
  have : (decide (v = V.non)) = (isNone d) := by cases p <;> simp [isNone]
  rw [this]
  exact q _ F1 H1 g (.bl _)⟩
theorem x_notN {d : PyData} (ha : XP K ta ρ d) : XE K (tOp (fun x y H Q => y = V.non ∧ Q (.bl (!decide (x = .non))) H) ta (tC .non)) ρ (.bool (!(isNone d))) := xe_intro fun N σ F H e Q q => ha N σ F H e _ fun v F1 H1 g p => ⟨rfl, by
  have : (decide (v = V.non)) = (isNone d) := by cases p <;> simp [isNone]
  rw [this]
  exact q _ F1 H1 g (.bl _)⟩
theorem x_eq {a b : PyData} (ha : XP K ta ρ a) (hb : XP K tb ρ b) (sa : SeqAt.shaped a = true) (sb : SeqAt.shaped b = true) : XE K (tOp (rEqD K) ta tb) ρ (.bool (PyData.eqv a b)) := xe_intro fun N σ F H e Q q => ha N σ F H e _ fun x F1 H1 g1 p1 =>
  hb N σ F1 H1 (e.gr g1) _ fun y F2 H2 g2 p2 => ⟨a, b, dp_mono g2.hh _ _ p1, p2, sa, sb, q _ F2 H2 (g1.trans g2) (.bl _)⟩
theorem x_ne {a b : PyData} (ha : XP K ta ρ a) (hb : XP K tb ρ b) (sa : SeqAt.shaped a = true) (sb : SeqAt.shaped b = true) : XE K (tOp (rNeD K) ta tb) ρ (.bool (!PyData.eqv a b)) := xe_intro fun N σ F H e Q q => ha N σ F H e _ fun x F1 H1 g1 p1 =>
  hb N σ F1 H1 (e.gr g1) _ fun y F2 H2 g2 p2 => ⟨a, b, dp_mono g2.hh _ _ p1, p2, sa, sb, q _ F2 H2 (g1.trans g2) (.bl _)⟩
theorem x_eqI {i j : Int} (ha : XE K ta ρ (.int i)) (hb : XE K tb ρ (.int j)) : XE K (tOp (rEqD K) ta tb) ρ (.bool (decide (i = j))) := by
  have := x_eq (xp_e ha) (xp_e hb) (by rfl) (by rfl)
  rw [show PyData.eqv (.int i) (.int j) = (i == j) from rfl] at this
  rw [show decide (i = j) = (i == j) from rfl]
  exact this
theorem x_neI {i j : Int} (ha : XE K ta ρ (.int i)) (hb : XE K tb ρ (.int j)) : XE K (tOp (rNeD K) ta tb) ρ (.bool (!decide (i = j))) := by
  have := x_ne (xp_e ha) (xp_e hb) (by rfl) (by rfl)
  rw [show PyData.eqv (.int i) (.int j) = (i == j) from rfl] at this
  rw [show decide (i = j) = (i == j) from rfl]
  exact this
/-! tests -/
theorem xt_test {b : Bool} (h : XE K te ρ (.bool b)) : XT K (tTest te) ρ b := fun N σ F H e Q q => h.e e fun v F1 H1 g p => ⟨b, dp_bool p, q F1 H1 g⟩
theorem xt_B {b : Bool} (h : XE K te ρ (.bool b)) : XT K (tB te) ρ b := fun N σ F H e Q q => h.e e fun v F1 H1 g p => ⟨b, dp_bool p, q F1 H1 g⟩
theorem xt_and {a b : Bool} (h : XT K tt ρ a) (k : a = true → XT K tu ρ b) : XT K (tAnd tt tu) ρ (a && b) := fun N σ F H e Q q => h N σ F H e _ fun F1 H1 g => by
  cases a with
  | true => exact k rfl N σ F1 H1 (e.gr g) Q fun F2 H2 g2 => q F2 H2 (g.trans g2)
  | false => exact q F1 H1 g
theorem xt_or {a b : Bool} (h : XT K tt ρ a) (k : a = false → XT K tu ρ b) : XT K (tOr tt tu) ρ (a || b) := fun N σ F H e Q q => h N σ F H e _ fun F1 H1 g => by
  cases a with
  | true => exact q F1 H1 g
  | false => exact k rfl N σ F1 H1 (e.gr g) Q fun F2 H2 g2 => q F2 H2 (g.trans g2)
theorem xt_not {a : Bool} (h : XT K tt ρ a) : XT K (tNot tt) ρ (!a) := fun N σ F H e Q q => h N σ F H e _ fun F1 H1 g => q F1 H1 g
theorem xt_is {a b : Bool} (h : XT K tt ρ a) (e : a = b) : XT K tt ρ b := e ▸ h
theorem xr_is {a b : Sl} (h : XR K te ρ a) (e : a = b) : XR K te ρ b := e ▸ h
theorem x_and {a b : Bool} (h : XE K ta ρ (.bool a)) (k : a = true → XE K tb ρ (.bool b)) : XE K (tAndV ta tb) ρ (.bool (a && b)) := xe_intro fun N σ F H e Q q => h.e e fun v F1 H1 g p => ⟨a, dp_bool p, by
  cases a with
  | true => exact (k rfl).e (e.gr g) fun v F2 H2 g2 p2 => q v F2 H2 (g.trans g2) p2
  | false => exact q _ F1 H1 g (.bl _)⟩
theorem x_or {a b : Bool} (h : XE K ta ρ (.bool a)) (k : a = false → XE K tb ρ (.bool b)) : XE K (tOrV ta tb) ρ (.bool (a || b)) := xe_intro fun N σ F H e Q q => h.e e fun v F1 H1 g p => ⟨a, dp_bool p, by
  cases a with
  | true => exact q _ F1 H1 g (.bl _)
  | false => exact (k rfl).e (e.gr g) fun v F2 H2 g2 p2 => q v F2 H2 (g.trans g2) p2⟩
theorem x_not {a : Bool} (h : XE K ta ρ (.bool a)) : XE K (tNotV ta) ρ (.bool (!a)) := xe_intro fun N σ F H e Q q => h.e e fun v F1 H1 g p => ⟨a, dp_bool p, q _ F1 H1 g (.bl _)⟩
theorem x_ife {b : Bool} {s : Sl} (h : XT K tt ρ b) (h1 : b = true → XR K ta ρ s) (h2 : b = false → XR K tb ρ s) : XR K (tIf tt ta tb) ρ s := fun N σ F H e Q q => h N σ F H e _ fun F1 H1 g => by
  cases b with
  | true => exact h1 rfl N σ F1 H1 (e.gr g) Q fun v F2 H2 g2 r => q v F2 H2 (g.trans g2) (r.imp fun a z => g.hh.free z)
  | false => exact h2 rfl N σ F1 H1 (e.gr g) Q fun v F2 H2 g2 r => q v F2 H2 (g.trans g2) (r.imp fun a z => g.hh.free z)
/-! displays -/
theorem x_tup {t : TA} {ds : List PyData} (h : XA K t ρ ds) (hz : ds.length ≤ 100000) : XE K (tTup t) ρ (.tuple ds) := xe_intro fun N σ F H e Q q => h N σ F H e _ fun vs F1 H1 g p =>
  ⟨by rw [dpa_len p]; exact Nat.le_trans hz (by decide), fun a ha => q (.ref a) (upd F1 a (.tup vs)) _ (g.trans (.new g.fh ha)) (.tup (SqT.of upd_same) (dps_mono (same_new (g.fh.free ha)) _ _ p))⟩
theorem x_lst {t : TA} {ds : List PyData} (h : XA K t ρ ds) (hz : ds.length ≤ 100000) : XR K (tLst t) ρ (.ow ds) := fun N σ F H e Q q => h N σ F H e _ fun vs F1 H1 g p =>
  ⟨by rw [dpa_len p]; exact Nat.le_trans hz (by decide), fun a ha => q (.ref a) F1 _ (g.trans (.own g.fh ha)) (ret_ow upd_same (g.fh.free ha) (g.hh.free ha) p)⟩
/-! sequences read -/
theorem dpa_atI {vs : List V} {ds : List PyData} {k : Int} {d : PyData} (p : DpAll K F vs ds) (h : atI ds k = some d) : ∃ v, atI vs k = some v ∧ Dp K F v d := by
  unfold atI at h ⊢
  rw [dpa_len p]
  cases z : ixN ds.length k with
  | none => rw [z] at h; cases h
  | some j =>
    rw [z] at h
    exact dpa_get p h
theorem atI_ok {α : Type} {ds : List α} {k : Int} {j : Nat} {d : α} (e : k = (j : Int)) (h : ds[j]? = some d) : atI ds k = some d := by rw [e]; exact atI_nat h
theorem x_ix {b : Bool} {ds : List PyData} {k : Int} {d : PyData} (h : XS K ta ρ b ds) (hk : XE K tb ρ (.int k)) (ha : atI ds k = some d) : XE K (tOp (rIx K) ta tb) ρ d := xe_intro fun N σ F H e Q q => h N σ F H e _ fun p xs F1 H1 g1 s px =>
  hk.e (e.gr g1) fun y F2 H2 g2 py => by
    obtain ⟨v, hv, pv⟩ := dpa_atI px ha
    have fin := q v F2 H2 (g1.trans g2) (dp_mono g2.ff _ _ pv)
    cases b with
    | false => exact .inl ⟨p, xs, k, v, rfl, dp_int py, g2.hh.seq s, hv, fin⟩
    | true => exact .inr (.inl ⟨p, xs, k, v, rfl, dp_int py, sq_t g2.hh s, hv, fin⟩)
theorem x_len {b : Bool} {ds : List PyData} (h : XS K ta ρ b ds) : XE K (tCB (fun xs H Q => ∃ p ys, xs = [.ref p] ∧ (SqL K H p ys ∨ SqT K H p ys) ∧ Q (.int ys.length) H) (tCons ta tNil)) ρ (.int ds.length) := xe_intro fun N σ F H e Q q => h N σ F H e _ fun p xs F1 H1 g1 s px => by
  refine ⟨p, xs, rfl, ?_, ?_⟩
  · cases b with
    | false => exact .inl s
    | true => exact .inr s
  · rw [dpa_len px]; exact q _ F1 H1 g1 (.int _)
theorem x_list {b : Bool} {ds : List PyData} (h : XS K ta ρ b ds) : XR K (tCB (fun xs H Q => ∃ p ys, xs = [.ref p] ∧ (SqL K H p ys ∨ SqT K H p ys) ∧ ∀ l, H l = none → Q (.ref l) (upd H l (.lst ys))) (tCons ta tNil)) ρ (.ow ds) := fun N σ F H e Q q => h N σ F H e _ fun p xs F1 H1 g1 s px => by
  refine ⟨p, xs, rfl, ?_, fun l hl => q (.ref l) F1 _ (g1.trans (.own g1.fh hl)) (ret_ow upd_same (g1.fh.free hl) (g1.hh.free hl) px)⟩
  cases b with
  | false => exact .inl s
  | true => exact .inr s
def rTupleOf (K : PySem.W.Frag) : List V → Hp → VK → Prop := fun xs H Q => ∃ p ys, xs = [.ref p] ∧ ((SqL K H p ys ∧ ∀ l, H l = none → Q (.ref l) (upd H l (.tup ys))) ∨ (SqT K H p ys ∧ Q (.ref p) H))
theorem x_tuple {ds : List PyData} (h : XS K ta ρ false ds) : XE K (tCB (rTupleOf K) (tCons ta tNil)) ρ (.tuple ds) := xe_intro fun N σ F H e Q q => h N σ F H e _ fun p xs F1 H1 g1 s px =>
  ⟨p, xs, rfl, .inl ⟨s, fun l hl => q (.ref l) (upd F1 l (.tup xs)) _ (g1.trans (.new g1.fh hl)) (.tup (SqT.of upd_same) (dps_mono (same_new (g1.fh.free hl)) _ _ px))⟩⟩
theorem x_tupleT {ds : List PyData} (h : XE K ta ρ (.tuple ds)) : XE K (tCB (rTupleOf K) (tCons ta tNil)) ρ (.tuple ds) := xe_intro fun N σ F H e Q q => h.e e fun v F1 H1 g1 p => by
  obtain ⟨a, xs, rfl, s, _⟩ := dp_tuple p
  exact ⟨a, xs, rfl, .inr ⟨sq_t g1.fh s, q _ F1 H1 g1 p⟩⟩
theorem x_abs {i : Int} (h : XE K ta ρ (.int i)) : XE K (tCB (fun xs H Q => ∃ i, xs = [V.int i] ∧ Q (.int (if i < 0 then -i else i)) H) (tCons ta tNil)) ρ (.int (i.natAbs : Int)) := xe_intro fun N σ F H e Q q => h.e e fun v F1 H1 g1 p => ⟨i, by rw [dp_int p], by
  have : (if i < 0 then -i else i) = ((i.natAbs : Nat) : Int) := by split <;> omega
  rw [this]; exact q _ F1 H1 g1 (.int _)⟩
theorem x_min2 {i j : Int} (h : XE K ta ρ (.int i)) (k : XE K tb ρ (.int j)) : XE K (tCB (fun xs H Q => ∃ i j, xs = [V.int i, .int j] ∧ Q (.int (if j < i then j else i)) H) (tCons ta (tCons tb tNil))) ρ (.int (min i j)) := xe_intro fun N σ F H e Q q => h.e e fun v F1 H1 g1 p => k.e (e.gr g1) fun y F2 H2 g2 p2 => ⟨i, j, by rw [dp_int p, dp_int p2], by
  have : (if j < i then j else i) = min i j := by rw [Int.min_def]; split <;> split <;> omega
  rw [this]; exact q _ F2 H2 (g1.trans g2) (.int _)⟩
theorem x_intb {b : Bool} (h : XE K ta ρ (.bool b)) : XE K (tCB (fun xs H Q => (∃ i, xs = [V.int i] ∧ Q (.int i) H) ∨ ∃ k, xs = [V.bl k] ∧ Q (.int (if k then 1 else 0)) H) (tCons ta tNil)) ρ (.int (if b then 1 else 0)) := xe_intro fun N σ F H e Q q => h.e e fun v F1 H1 g1 p => .inr ⟨b, by rw [dp_bool p], q _ F1 H1 g1 (.int _)⟩
def cutD {α : Type} (xs : List α) (lo hi : Option Int) : List α := (xs.drop (HT.sIx xs.length 0 lo)).take (HT.sIx xs.length xs.length hi - HT.sIx xs.length 0 lo)
theorem dpa_cut {vs : List V} {ds : List PyData} (p : DpAll K F vs ds) (lo hi : Option Int) : DpAll K F (cutV vs lo hi) (cutD ds lo hi) := by
  unfold cutV cutD
  rw [dpa_len p]
  exact dpa_take _ (dpa_drop _ p)
/-- an optional part of a slice -/
def XO (K : PySem.W.Frag) (to : TO) (ρ : List Sl) (o : Option Int) : Prop := ∀ (N : Addr → Prop) (σ : St) (F H : Hp), En K N ρ σ F H → ∀ Q : Option Int → Hp → Prop, (∀ F' H', Gr F H F' H' → Q o H') → to σ H Q
theorem xo_none : XO K tNoPart ρ none := fun N σ F H e Q q => q F H (.refl e.fh)
theorem xo_some {i : Int} (h : XE K te ρ (.int i)) : XO K (tPart te) ρ (some i) := fun N σ F H e Q q => h.e e fun v F1 H1 g p => ⟨i, dp_int p, q F1 H1 g⟩
def rSlX (K : PySem.W.Frag) : V → Option Int → Option Int → Hp → VK → Prop := fun x lo hi H Q => rSlL K x lo hi H Q ∨ rSlT K x lo hi H Q
theorem sl_seq {X : Cx} : SlR X (rSlX X.K) := sl_list.or sl_tup
theorem x_sliceL {ds : List PyData} {lo hi : Option Int} {tl th : TO} (h : XS K ta ρ false ds) (hl : XO K tl ρ lo) (hh : XO K th ρ hi) : XR K (tSl (rSlX K) ta tl th) ρ (.ow (cutD ds lo hi)) := fun N σ F H e Q q => h N σ F H e _ fun p xs F1 H1 g1 s px =>
  hl N σ F1 H1 (e.gr g1) _ fun F2 H2 g2 => hh N σ F2 H2 ((e.gr g1).gr g2) _ fun F3 H3 g3 => .inl ⟨p, xs, rfl, (g2.trans g3).hh.seq s, fun l hl => q (.ref l) F3 _ (((g1.trans g2).trans g3).trans (.own g3.fh hl)) (ret_ow upd_same (g3.fh.free hl) (((g1.trans g2).trans g3).hh.free hl) (dpa_cut (dps_mono (g2.trans g3).ff _ _ px) lo hi))⟩
/-- list(range(n)) -/
theorem x_listRg {n : Int} (h : XE K ta ρ (.int n)) (hn : n ≤ 100000 ∧ -100000 ≤ n) : XR K (tLstRg (tRg1 ta)) ρ (.ow ((List.range n.toNat).map fun (i : Nat) => PyData.int i)) := fun N σ F H e Q q => h.e e fun v F1 H1 g1 p => ⟨n, dp_int p, ⟨by omega, by omega, by omega, by omega, by omega⟩, fun l hl => q (.ref l) F1 _ (g1.trans (.own g1.fh hl)) (ret_ow upd_same (g1.fh.free hl) (g1.hh.free hl) (by
  unfold rgV
  have e1 : ((List.range (n - 0).toNat).map fun (i : Nat) => V.int (0 + (i : Nat))) = ((List.range n.toNat).map fun i : Nat => (i : Int)).map V.int := by
    rw [List.map_map, show (n - 0).toNat = n.toNat by omega]
    refine List.map_congr_left fun i _ => ?_
    show V.int (0 + (i : Int)) = V.int (i : Int)
    rw [Int.zero_add]
  rw [e1]
  have e2 : ((List.range n.toNat).map fun (i : Nat) => PyData.int i) = ((List.range n.toNat).map fun i : Nat => (i : Int)).map PyData.int := by rw [List.map_map]; rfl
  rw [e2]
  exact ints_dpa _))⟩
/-- isinstance -/
def tyD : PyData → String
  | .none => "NoneType"
  | .bool _ => "bool"
  | .int _ => "int"
  | .str _ => "str"
  | .list _ => "list"
  | .tuple _ => "tuple"
  | .dict _ => "dict"
theorem tyx_of {v : V} {d : PyData} (p : Dp K H v d) : TyX K H v (.type (tyD d)) := by
  cases p with
  | non => exact .base .non
  | bl b => exact .base (.bl b)
  | int i => exact .base (.int i)
  | str x => exact .base (.str x)
  | lst s _ =>
    rcases s with (s | ⟨o, s⟩) | ⟨o, _, _, s, c, _⟩
    · exact .base (.lst s)
    · exact .base (.frz s)
    · exact .kList s c
  | tup s _ =>
    rcases s with (s | ⟨o, s⟩) | ⟨o, _, _, s, c, _⟩
    · exact .base (.tup s)
    · exact .fTuple s
    · exact .kTuple s c
theorem x_isi {d : PyData} {T : String} {b : Bool} (h : XP K ta ρ d) (hk : kitB (tyD d) T = some b) : XE K (tCB (rIsi K) (tCons ta (tCons (tC (.ty T)) tNil))) ρ (.bool b) := xe_intro fun N σ F H e Q q => h N σ F H e _ fun v F1 H1 g1 p =>
  ⟨v, .ty T, _, _, b, rfl, .ty T, tyx_of p, kit_ty hk, q _ F1 H1 g1 (.bl _)⟩
/-! changes of one's own lists -/
theorem s_append {i : Nat} {ds : List PyData} {d : PyData} {P : Post} (hi : ρ[i]? = some (.ow ds)) (h : XE K te ρ d) (hz : ds.length ≤ 100000) (k : P.nx (ρ.set i (.ow (ds ++ [d])))) : WS K (tDrop (tBM K "list" rAppend (tVar i) (tCons te tNil))) ρ P := fun F0 H0 σ F H D e f => by
  obtain ⟨l, xs, es, hl, dl, fl, nl, _⟩ := e.mut hi
  refine ⟨_, es, .inl ⟨rfl, xs, SqL.of hl⟩, h.e e.en fun v F1 H1 g p => ?_⟩
  obtain ⟨l', xs', es', hl', dl', fl', nl', k'⟩ := (e.go g).mut hi
  rw [es] at es'
  cases es'
  exact ⟨l, xs', v, rfl, rfl, hl', by rw [dpa_len dl']; exact Nat.lt_of_le_of_lt hz (by decide), f.nx _ _ _ _ k (k' _ _ (dpa_app dl' (dpa_one p)))⟩
def rInsert : V → List V → Hp → VK → Prop := fun x vs H Q => ∃ (l : Addr) (xs : List V) (i : Int) (y : V), x = .ref l ∧ vs = [.int i, y] ∧ H l = some (.lst xs) ∧ xs.length < sizeLine ∧ 0 ≤ i ∧ i < 2 ^ 63 ∧ Q .non (upd H l (.lst (xs.take i.toNat ++ [y] ++ xs.drop i.toNat)))
theorem s_insert {i : Nat} {ds : List PyData} {k : Int} {d : PyData} {P : Post} (hi : ρ[i]? = some (.ow ds)) (hk : XE K ta ρ (.int k)) (h : XE K te ρ d) (hz : ds.length ≤ 100000) (h0 : 0 ≤ k ∧ k < 2 ^ 63) (kk : P.nx (ρ.set i (.ow (ds.take k.toNat ++ [d] ++ ds.drop k.toNat)))) :
    WS K (tDrop (tBM K "list" rInsert (tVar i) (tCons ta (tCons te tNil)))) ρ P := fun F0 H0 σ F H D e f => by
  obtain ⟨l, xs, es, hl, dl, fl, nl, _⟩ := e.mut hi
  refine ⟨_, es, .inl ⟨rfl, xs, SqL.of hl⟩, hk.e e.en fun y F1 H1 g1 p1 => h.e (e.en.gr g1) fun v F2 H2 g2 p => ?_⟩
  obtain ⟨l', xs', es', hl', dl', fl', nl', k'⟩ := (e.go (g1.trans g2)).mut hi
  rw [es] at es'
  cases es'
  exact ⟨l, xs', k, v, rfl, by rw [dp_int p1], hl', by rw [dpa_len dl']; exact Nat.lt_of_le_of_lt hz (by decide), h0.1, h0.2, f.nx _ _ _ _ kk (k' _ _ (dpa_app (dpa_app (dpa_take _ dl') (dpa_one p)) (dpa_drop _ dl')))⟩
/-- a, b = e1, e2 -/
theorem s_par {i j : Nat} {a b : PyData} {P : Post} (ha : XE K ta ρ a) (hb : XE K tb ρ b) (k : P.nx ((ρ.set i (.da a)).set j (.da b))) : WS K (tPar i j (tCons ta (tCons tb tNil))) ρ P := fun F0 H0 σ F H D e f =>
  ha.e e.en fun x F1 H1 g1 p1 => hb.e (e.en.gr g1) fun y F2 H2 g2 p2 => ⟨x, y, rfl, f.nx _ _ _ _ k ⟨(e.go (g1.trans g2)).gr, (e.en.putD (g1.trans g2) (dp_mono g2.ff _ _ p1)).putD (.refl g2.fh) p2⟩⟩
end
end WL

namespace WL
open PySem L2
section
variable {X : Cx}
def rGetL : V → V → Hp → VK → Prop := fun o i H Q => ∃ p xs k v, o = .ref p ∧ i = .int k ∧ H p = some (.lst xs) ∧ 0 ≤ k ∧ k < 2 ^ 63 ∧ xs[k.toNat]? = some v ∧ Q v H
theorem get_list : PGet X rGetL := by
  intro pins s σ H o i ov iv Q I ro ri h
  obtain ⟨p, xs, k, v, rfl, rfl, hp, h0, h1, hx, q⟩ := h
  cases ro
  obtain ⟨t, rfl⟩ := ri
  obtain ⟨its, r, pl, hz⟩ := I.list (SqL.of (K := X.K) hp)
  obtain ⟨w, ew, rw'⟩ := r.get hx
  exact wpAny_getItem_list pl.isList h0 h1 (by simpa using ew) ⟨v, H, I, rw', q⟩
end
section
variable {K : PySem.W.Frag} {N : Addr → Prop} {ρ : List Sl} {σ : St} {F H F' H' F0 H0 : Hp} {ta tb te tc : TE} {tt tu : TT} {P : Post} {t : TS}
/-- a row of one's own list of lists, read -/
theorem xs_row {i : Nat} {dss : List (List PyData)} {ds : List PyData} {k : Int} (h : ρ[i]? = some (.ow2 dss)) (hk : XE K tb ρ (.int k)) (ha : atI dss k = some ds) : XS K (tOp (rIx K) (tVar i) tb) ρ false ds := fun N σ F H e Q q => by
  obtain ⟨l, ls, es, _⟩ := e.mut2 h
  refine ⟨_, es, hk.e e fun y F1 H1 g1 py => ?_⟩
  obtain ⟨l', ls', es', hl', _, _, len, kk⟩ := (e.gr g1).mut2 h
  rw [es] at es'
  cases es'
  unfold atI at ha
  cases z : ixN dss.length k with
  | none => rw [z] at ha; cases ha
  | some j =>
    rw [z] at ha
    obtain ⟨r, xs, hr, hx, dx, _⟩ := kk j ds ha
    refine .inl ⟨l, ls'.map V.ref, k, .ref r, rfl, dp_int py, SqL.of hl', ?_, q r xs F1 H1 g1 (SqL.of hx) dx⟩
    unfold atI
    rw [List.length_map, len, z]
    show (ls'.map V.ref)[j]? = some (V.ref r)
    rw [List.getElem?_map, hr]
    rfl
theorem xs_len2 {i : Nat} {dss : List (List PyData)} (h : ρ[i]? = some (.ow2 dss)) : XE K (tCB (fun xs H Q => ∃ p ys, xs = [.ref p] ∧ (SqL K H p ys ∨ SqT K H p ys) ∧ Q (.int ys.length) H) (tCons (tVar i) tNil)) ρ (.int dss.length) := xe_intro fun N σ F H e Q q => by
  obtain ⟨l, ls, es, hl, _, _, len, _⟩ := e.mut2 h
  refine ⟨_, es, l, ls.map V.ref, rfl, .inl (SqL.of hl), ?_⟩
  rw [List.length_map, len]
  exact q _ F H (.refl e.fh) (.int _)
/-- x[i] = e -/
theorem s_seti {i : Nat} {ds : List PyData} {k : Int} {j : Nat} {d : PyData} (hi : ρ[i]? = some (.ow ds)) (h : XE K te ρ d) (hk : XE K tb ρ (.int k)) (hj : ixN ds.length k = some j) (kk : P.nx (ρ.set i (.ow (ds.set j d)))) : WS K (tAsg te (gSub (tVar i) tb rSetL)) ρ P := fun F0 H0 σ F H D e f => by
  refine h.e e.en fun v F1 H1 g1 p1 => ?_
  obtain ⟨l, xs, es, _⟩ := e.mut hi
  refine ⟨_, es, hk.e (e.en.gr g1) fun y F2 H2 g2 p2 => ?_⟩
  obtain ⟨l', xs', es', hl', dl', fl', nl', k'⟩ := (e.go (g1.trans g2)).mut hi
  rw [es] at es'
  cases es'
  exact ⟨l, xs', k, j, rfl, dp_int p2, hl', by rw [dpa_len dl']; exact hj, f.nx _ _ _ _ kk (k' _ _ (dpa_set (dp_mono g2.ff _ _ p1) j dl'))⟩
/-- a row of one's own list of lists, to be changed -/
theorem row_ev {i : Nat} {dss : List (List PyData)} {ds : List PyData} {a : Int} {ja : Nat} (e : Es K F0 H0 ρ σ F H) (hi : ρ[i]? = some (.ow2 dss)) (ha : XE K ta ρ (.int a)) (ja' : ixN dss.length a = some ja) (hr : dss[ja]? = some ds) {Q : VK}
    (q : ∀ r F1 H1, Gr F H F1 H1 → (∀ F2 H2, Gr F1 H1 F2 H2 → ∃ xs, H2 r = some (.lst xs) ∧ DpAll K F2 xs ds ∧ ∀ ys es, DpAll K F2 ys es → Es K F0 H0 (ρ.set i (.ow2 (dss.set ja es))) σ F2 (upd H2 r (.lst ys))) → Q (.ref r) H1) : tOp (rIx K) (tVar i) ta σ H Q := by
  obtain ⟨l, ls, es, _⟩ := e.mut2 hi
  refine ⟨_, es, ha.e e.en fun y F1 H1 g1 py => ?_⟩
  obtain ⟨l', ls', es', hl', len, kk⟩ := (e.go g1).mut2 hi
  rw [es] at es'
  cases es'
  obtain ⟨r, xs, er, hx, dx, _, _⟩ := kk ja ds hr
  refine .inl ⟨l, ls'.map V.ref, a, .ref r, rfl, dp_int py, SqL.of hl', ?_, q r F1 H1 g1 fun F2 H2 g2 => ?_⟩
  · unfold atI
    rw [List.length_map, len, ja']
    show (ls'.map V.ref)[ja]? = some (V.ref r)
    rw [List.getElem?_map, er]
    rfl
  · obtain ⟨l3, ls3, es3, hl3, len3, k3⟩ := (e.go (g1.trans g2)).mut2 hi
    rw [es] at es3
    cases es3
    have := g2.hh _ _ hl'
    rw [hl3] at this
    have el : ls3.map V.ref = ls'.map V.ref := HO.lst.inj (Option.some.inj this)
    have el2 : ls3[ja]? = some r := by
      have h1 := congrArg (fun z : List V => z[ja]?) el
      simp only [List.getElem?_map, er] at h1
      cases z : ls3[ja]? with
      | none => rw [z] at h1; cases h1
      | some r' => rw [z] at h1; cases h1; rfl
    obtain ⟨r3, xs3, er3, hx3, dx3, _, k4⟩ := k3 ja ds hr
    rw [el2] at er3
    cases er3
    exact ⟨xs3, hx3, dx3, k4⟩
/-- x[a][b] = e -/
theorem s_set2 {i : Nat} {dss : List (List PyData)} {ds : List PyData} {a b : Int} {ja jb : Nat} {d : PyData} (hi : ρ[i]? = some (.ow2 dss)) (h : XE K te ρ d) (ha : XE K ta ρ (.int a)) (hb : XE K tb ρ (.int b)) (ja' : ixN dss.length a = some ja) (hr : dss[ja]? = some ds) (jb' : ixN ds.length b = some jb)
    (kk : P.nx (ρ.set i (.ow2 (dss.set ja (ds.set jb d))))) : WS K (tAsg te (gSub (tOp (rIx K) (tVar i) ta) tb rSetL)) ρ P := fun F0 H0 σ F H D e f =>
  h.e e.en fun v F1 H1 g1 p1 => row_ev (e.go g1) hi ha ja' hr fun r F2 H2 g2 k => hb.e ((e.en.gr g1).gr g2) fun y F3 H3 g3 p3 => by
    obtain ⟨xs, hx, dx, k4⟩ := k F3 H3 g3
    exact ⟨r, xs, b, jb, rfl, dp_int p3, hx, by rw [dpa_len dx]; exact jb', f.nx _ _ _ _ kk (k4 _ _ (dpa_set (dp_mono (g2.trans g3).ff _ _ p1) jb dx))⟩
/-- x[a][b] += e -/
theorem s_aug2 {i : Nat} {dss : List (List PyData)} {ds : List PyData} {a b m n : Int} {ja jb : Nat} {fn : Int → Int → Int} (hi : ρ[i]? = some (.ow2 dss)) (ha : XE K ta ρ (.int a)) (hb : XE K tb ρ (.int b)) (h : XE K te ρ (.int n)) (ja' : ixN dss.length a = some ja) (hr : dss[ja]? = some ds) (b0 : 0 ≤ b) (eb : b.toNat = jb) (hm : ds[jb]? = some (.int m))
    (hz : ds.length ≤ 100000) (kk : P.nx (ρ.set i (.ow2 (dss.set ja (ds.set jb (.int (fn m n))))))) : WS K (tAugS (tOp (rIx K) (tVar i) ta) tb te rGetL (ipI fn) rSetL) ρ P := fun F0 H0 σ F H D e f =>
  row_ev e hi ha ja' hr fun r F2 H2 g2 k => hb.e (e.en.gr g2) fun y F3 H3 g3 p3 => by
    obtain ⟨xs, hx, dx, k4⟩ := k F3 H3 g3
    obtain ⟨v, hv, pv⟩ := dpa_get dx hm
    have jl := (List.getElem?_eq_some_iff.mp hm).1
    refine ⟨r, xs, b, v, rfl, dp_int p3, hx, b0, by omega, by rw [eb]; exact hv, h.e ((e.en.gr g2).gr g3) fun z F4 H4 g4 p4 => ?_⟩
    obtain ⟨xs4, hx4, dx4, k5⟩ := k F4 H4 (g3.trans g4)
    refine ⟨m, n, by rw [dp_int pv], dp_int p4, r, xs4, b, jb, rfl, dp_int p3, hx4, ?_, f.nx _ _ _ _ kk (k5 _ _ (dpa_set (.int _) jb dx4))⟩
    unfold ixN
    rw [dpa_len dx4, if_pos b0, if_pos (by omega), eb]
/-- one's own list of lists is known from now on -/
theorem s_frz2 (i : Nat) {dss : List (List PyData)} (h : ρ[i]? = some (.ow2 dss)) (k : WS K t (ρ.set i (.da (.list (dss.map PyData.list)))) P) : WS K t ρ P := fun F0 H0 σ F H D e f => by
  obtain ⟨A, h1, h2, h3⟩ := e.en.en
  obtain ⟨l, ls, es, hl, al, nd, len, dl⟩ := h1 i _ h
  have hF : ∃ F' : Hp, (∀ a, a ∈ l :: ls → F' a = H a) ∧ (∀ a, a ∉ l :: ls → F' a = F a) := by
    refine ⟨fun a => if a ∈ l :: ls then H a else F a, fun a q => if_pos q, fun a q => if_neg q⟩
  obtain ⟨F', f1, f2⟩ := hF
  have own : ∀ a, a ∈ l :: ls → A i a := fun a q => by
    rcases List.mem_cons.mp q with z | z
    · rw [z]; exact al
    · obtain ⟨n, hn⟩ := List.getElem?_of_mem z
      have hn2 : n < dss.length := by rw [← len]; exact (List.getElem?_eq_some_iff.mp hn).1
      exact (dl n a _ hn (List.getElem?_eq_getElem hn2)).1
  have ff : Same F F' := fun a o q => by
    rw [f2 a fun z => by have := (h3 i a (own a z)).1; rw [this] at q; cases q]; exact q
  have fh : Same F' H := fun a o q => by
    by_cases z : a ∈ l :: ls
    · rw [f1 a z] at q; exact q
    · rw [f2 a z] at q; exact e.en.fh a o q
  have g : Gr F0 H0 F' H := ⟨e.gr.ff.trans ff, e.gr.hh, fh, fun a o q r => by
    rw [f2 a fun z => by have := (h3 i a (own a z)).2.1; rw [this] at r; cases r]
    exact e.gr.ap a o q r⟩
  refine k F0 H0 σ F' H D ⟨g, fh, by rw [List.length_set]; exact e.en.len, fun j a => j ≠ i ∧ A j a, fun j s hs => ?_, fun j k a p q => h2 j k a p.2 q.2, fun j a p => ?_⟩ f
  · by_cases z : j = i
    · subst z
      have hj : j < ρ.length := (List.getElem?_eq_some_iff.mp h).1
      rw [List.getElem?_set_self hj] at hs
      cases hs
      refine ⟨_, es, .lst (.inl (.inl (by rw [f1 l List.mem_cons_self]; exact hl))) (dpa_mk (by rw [List.length_map, List.length_map, len]) fun n v d hv hd => ?_)⟩
      rw [List.getElem?_map] at hv hd
      cases e1 : ls[n]? with
      | none => rw [e1] at hv; cases hv
      | some r =>
        rw [e1] at hv
        cases hv
        cases e2 : dss[n]? with
        | none => rw [e2] at hd; cases hd
        | some ds =>
          rw [e2] at hd
          cases hd
          obtain ⟨_, xs, hx, dx⟩ := dl n r ds e1 e2
          exact .lst (.inl (.inl (by rw [f1 r (List.mem_cons_of_mem _ (List.mem_of_getElem? e1))]; exact hx))) (dps_mono ff _ _ dx)
    · rw [List.getElem?_set_ne (Ne.symm z)] at hs
      exact (h1 j s hs).mono ff (fun _ _ _ q => q) fun a q => ⟨z, q⟩
  · obtain ⟨q1, n1, o1⟩ := h3 j a p.2
    exact ⟨by rw [f2 a fun y => p.1 (h2 j i a p.2 (own a y))]; exact q1, n1, o1⟩
/-- a comprehension whose items are lists of one's own -/
theorem lc2_turn {α : Type} {te : TE} {xs : List α} {h : α → List PyData} {vs : List Nat} {j : Nat} {em : α → PyData} {i : Nat} {x : α} {y : V} {D : Addr} {F1 H1 H2 : Hp} (hx : xs[i]? = some x) (hz : xs.length ≤ 100000)
    (en : En K N ρ σ F1 H1) (nD : H1 D = none) (hj : j ∈ vs)
    (py : Dp K F1 y (em x)) (he : XR K te ((wipeR ρ vs).set j (.da (em x))) (.ow (h x)))
    (w : ∃ (F' : Hp) (ls : List Addr), Gr F1 H1 F' H2 ∧ F' D = none ∧ H2 D = some (.lst (ls.map V.ref)) ∧ (D :: ls).Nodup ∧ ls.length = i ∧ ∀ (k : Nat) r x, ls[k]? = some r → xs[k]? = some x → F' r = none ∧ H1 r = none ∧ ∃ ys, H2 r = some (.lst ys) ∧ DpAll K F' ys (h x)) :
    gName j y (wipe σ vs) H2 fun σ2 H2 => wipe σ2 vs = wipe σ vs ∧ tYes σ2 H2 fun b H3 => if b = true then te σ2 H3 fun y H4 => ∃ acc, H4 D = some (.lst acc) ∧ acc.length < sizeLine ∧
      (∃ (F' : Hp) (ls : List Addr), Gr F1 H1 F' (upd H4 D (.lst (acc ++ [y]))) ∧ F' D = none ∧ (upd H4 D (.lst (acc ++ [y]))) D = some (.lst (ls.map V.ref)) ∧ (D :: ls).Nodup ∧ ls.length = i + 1 ∧ ∀ (k : Nat) r x, ls[k]? = some r → xs[k]? = some x → F' r = none ∧ H1 r = none ∧ ∃ ys, (upd H4 D (.lst (acc ++ [y]))) r = some (.lst ys) ∧ DpAll K F' ys (h x)) else
      (∃ (F' : Hp) (ls : List Addr), Gr F1 H1 F' H3 ∧ F' D = none ∧ H3 D = some (.lst (ls.map V.ref)) ∧ (D :: ls).Nodup ∧ ls.length = i + 1 ∧ ∀ (k : Nat) r x, ls[k]? = some r → xs[k]? = some x → F' r = none ∧ H1 r = none ∧ ∃ ys, H3 r = some (.lst ys) ∧ DpAll K F' ys (h x)) := by
  obtain ⟨F', ls, g, fD, hD, nd, len, dl⟩ := w
  have en2 : En K N ((wipeR ρ vs).set j (.da (em x))) ((wipe σ vs).set j (some y)) F' H2 := ((en.gr g).wipe vs).putD (.refl g.fh) (dp_mono g.ff _ _ py)
  have hi : i < xs.length := (List.getElem?_eq_some_iff.mp hx).1
  refine ⟨by rw [wipe_back hj, wipe_idem], ?_⟩
  unfold tYes
  dsimp only
  rw [if_pos rfl]
  refine he N _ F' H2 en2 _ fun v F4 H4 g4 r4 => ?_
  obtain ⟨l, ys, rfl, hl, fl, nl, dys⟩ := of_ret_ow r4
  have fD4 : F4 D = none := g4.ap D _ fD hD
  have g5 := g.trans g4
  have lD : l ≠ D := fun z => by rw [z, hD] at nl; cases nl
  have lls : l ∉ ls := fun z => by
    obtain ⟨n, hn⟩ := List.getElem?_of_mem z
    have hn2 : n < xs.length := by have := (List.getElem?_eq_some_iff.mp hn).1; omega
    obtain ⟨_, _, ys', hy', _⟩ := dl n l _ hn (List.getElem?_eq_getElem hn2)
    rw [nl] at hy'; cases hy'
  refine ⟨ls.map V.ref, g4.hh _ _ hD, by rw [List.length_map, len]; exact Nat.lt_of_le_of_lt (by omega : i ≤ 100000) (by decide), F4, ls ++ [l], ⟨g5.ff, fun a u q => ?_, fun a u q => ?_, g5.ap⟩, fD4, ?_, ?_, ?_, fun k r x' hk hx' => ?_⟩
  · rw [upd_ne (ne_of_none q nD)]; exact g5.hh a u q
  · rw [upd_ne (ne_of_none q fD4)]; exact g5.fh a u q
  · rw [upd_same, List.map_append]; rfl
  · refine List.nodup_cons.mpr ⟨fun z => ?_, List.nodup_append.mpr ⟨(List.nodup_cons.mp nd).2, (by simp), fun a ha b hb => ?_⟩⟩
    · rcases List.mem_append.mp z with z | z
      · exact (List.nodup_cons.mp nd).1 z
      · exact lD (List.mem_singleton.mp z).symm
    · rw [List.mem_singleton.mp hb]
      exact fun z => lls (by rw [← z]; exact ha)
  · rw [List.length_append, len]; rfl
  · by_cases hk2 : k < ls.length
    · rw [List.getElem?_append_left hk2] at hk
      obtain ⟨a1, a2, ys', a3, a4⟩ := dl k r x' hk hx'
      have rD : r ≠ D := fun z => (List.nodup_cons.mp nd).1 (by rw [← z]; exact List.mem_of_getElem? hk)
      exact ⟨g4.ap _ _ a1 a3, a2, ys', by rw [upd_ne rD]; exact g4.hh _ _ a3, dps_mono g4.ff _ _ a4⟩
    · have hk3 : k = ls.length := by
        have := (List.getElem?_eq_some_iff.mp hk).1
        rw [List.length_append] at this
        simp at this
        omega
      subst hk3
      rw [List.getElem?_append_right (Nat.le_refl _), Nat.sub_self] at hk
      have er : l = r := by simpa using hk
      subst er
      rw [len, hx] at hx'
      cases hx'
      exact ⟨fl, g.hh.free nl, ys, by rw [upd_ne lD]; exact hl, dys⟩
theorem lc2_done {α : Type} {xs : List α} {h : α → List PyData} {D : Addr} {F1 H1 H2 : Hp} {M : Addr → Prop} (n : ∀ a, H1 a = none → M a) (nD : H1 D = none)
    (w : ∃ (F' : Hp) (ls : List Addr), Gr F1 H1 F' H2 ∧ F' D = none ∧ H2 D = some (.lst (ls.map V.ref)) ∧ (D :: ls).Nodup ∧ ls.length = xs.length ∧ ∀ (k : Nat) r x, ls[k]? = some r → xs[k]? = some x → F' r = none ∧ H1 r = none ∧ ∃ ys, H2 r = some (.lst ys) ∧ DpAll K F' ys (h x)) :
    ∃ F', Gr F1 H1 F' H2 ∧ RetOk K M F' H2 (.ow2 (xs.map h)) (.ref D) := by
  obtain ⟨F', ls, g, fD, hD, nd, len, dl⟩ := w
  refine ⟨F', g, fun a => a = D ∨ a ∈ ls, ⟨D, ls, rfl, hD, .inl rfl, nd, by rw [List.length_map, len], fun i r ds hr hd => ?_⟩, fun a q => ?_⟩
  · rw [List.getElem?_map] at hd
    cases e1 : xs[i]? with
    | none => rw [e1] at hd; cases hd
    | some x =>
      rw [e1] at hd
      cases hd
      obtain ⟨_, _, ys, h1, h2⟩ := dl i r x hr e1
      exact ⟨.inr (List.mem_of_getElem? hr), ys, h1, h2⟩
  · rcases q with z | z
    · rw [z]; exact ⟨fD, n D nD, _, hD⟩
    · obtain ⟨k, hk⟩ := List.getElem?_of_mem z
      have hk2 : k < xs.length := by rw [← len]; exact (List.getElem?_eq_some_iff.mp hk).1
      obtain ⟨a1, a2, ys, a3, _⟩ := dl k a _ hk (List.getElem?_eq_getElem hk2)
      exact ⟨a1, n a a2, _, a3⟩
theorem x_lc2R {ta : TA} {n : Int} {j : Nat} {vs : List Nat} (h : Nat → List PyData) (hl : XA K ta ρ [.int n]) (hn : n ≤ 100000 ∧ -100000 ≤ n) (hj : j ∈ vs)
    (he : ∀ i : Nat, (i : Int) < n → XR K te ((wipeR ρ vs).set j (.da (.int i))) (.ow (h i))) : XR K (tLc (iRng1 ta) (gName j) tYes te vs) ρ (.ow2 ((List.range n.toNat).map h)) := fun N σ F H e Q q => by
  refine hl _ σ F H e _ fun ws F1 H1 g1 p1 => ?_
  have en := e.gr g1
  have ev : ws = [V.int n] := dpa_ints (ns := [n]) p1
  have len : (List.range n.toNat).length = n.toNat := List.length_range
  refine ⟨n, ev, by omega, by omega, fun D nD => lc_range (lo := 0) (n := n.toNat) (fun i H2 => ∃ (F' : Hp) (ls : List Addr), Gr F1 H1 F' H2 ∧ F' D = none ∧ H2 D = some (.lst (ls.map V.ref)) ∧ (D :: ls).Nodup ∧ ls.length = i ∧ ∀ (k : Nat) r x, ls[k]? = some r → (List.range n.toNat)[k]? = some x → F' r = none ∧ H1 r = none ∧ ∃ ys, H2 r = some (.lst ys) ∧ DpAll K F' ys (h x))
    ⟨F1, [], .own en.fh nD, en.fh.free nD, upd_same, (by simp), rfl, fun k r x hk _ => by simp at hk⟩ (fun i H2 hi w => ?_) fun H2 w => ?_⟩
  · have e0 : (0 : Int) + (i : Int) = (i : Int) := Int.zero_add _
    rw [e0]
    exact lc2_turn (em := fun i : Nat => PyData.int i) (x := i) (by rw [List.getElem?_range hi]) (by rw [len]; omega) en nD hj (.int _) (he i (by omega)) w
  · obtain ⟨F', g, r⟩ := lc2_done (K := K) (M := fun a => H a = none) (xs := List.range n.toNat) (h := h) (fun a z => g1.hh.free z) nD (by rw [len]; exact w)
    exact q _ F' H2 (g1.trans g) r
theorem x_lc2 {α : Type} {tl : TE} {d : PyData} {j : Nat} {vs : List Nat} (xs : List α) (em : α → PyData) (h : α → List PyData) (hl : XE K tl ρ d) (hq : isq d) (hx : sqd d = xs.map em) (hz : xs.length ≤ 100000) (hj : j ∈ vs)
    (he : ∀ x ∈ xs, XR K te ((wipeR ρ vs).set j (.da (em x))) (.ow (h x))) : XR K (tLc (iSeq K tl) (gName j) tYes te vs) ρ (.ow2 (xs.map h)) := fun N σ F H e Q q => by
  refine hl.e e fun v F1 H1 g1 p1 => ?_
  have en := e.gr g1
  have start : ∀ D, H1 D = none → (∃ (F' : Hp) (ls : List Addr), Gr F1 H1 F' (upd H1 D (.lst [])) ∧ F' D = none ∧ (upd H1 D (.lst [])) D = some (.lst (ls.map V.ref)) ∧ (D :: ls).Nodup ∧ ls.length = 0 ∧ ∀ (k : Nat) r x, ls[k]? = some r → xs[k]? = some x → F' r = none ∧ H1 r = none ∧ ∃ ys, (upd H1 D (.lst [])) r = some (.lst ys) ∧ DpAll K F' ys (h x)) := fun D nD =>
    ⟨F1, [], .own en.fh nD, en.fh.free nD, upd_same, (by simp), rfl, fun k r x hk _ => by simp at hk⟩
  have turn : ∀ (ys : List V) (ds : List PyData), ds = xs.map em → DpAll K F1 ys ds → ∀ (i : Nat) (y : V), ys[i]? = some y → ∃ x, xs[i]? = some x ∧ Dp K F1 y (em x) := by
    intro ys ds eds dy i y hy
    obtain ⟨d', hd', pd⟩ := dpa_get' dy hy
    rw [eds, List.getElem?_map] at hd'
    cases hx' : xs[i]? with
    | none => rw [hx'] at hd'; cases hd'
    | some x =>
      rw [hx'] at hd'
      cases hd'
      exact ⟨x, rfl, pd⟩
  cases d with
  | list ds =>
    obtain ⟨a, ys, rfl, s, pq⟩ := dp_list p1
    have len : ys.length = xs.length := by rw [dpa_len pq, show ds = xs.map em from hx, List.length_map]
    refine ⟨a, rfl, .inl ⟨⟨ys, en.fh.seq s⟩, fun D nD => lc_list (K := K) (a := a) (xs := ys) (fun i H2 => ∃ (F' : Hp) (ls : List Addr), Gr F1 H1 F' H2 ∧ F' D = none ∧ H2 D = some (.lst (ls.map V.ref)) ∧ (D :: ls).Nodup ∧ ls.length = i ∧ ∀ (k : Nat) r x, ls[k]? = some r → xs[k]? = some x → F' r = none ∧ H1 r = none ∧ ∃ ys, H2 r = some (.lst ys) ∧ DpAll K F' ys (h x)) (start D nD)
      (fun i H2 _ ⟨F', _, g, _⟩ => g.hh.seq (en.fh.seq s)) (fun i y H2 hy w => ?_) (by
        rw [len]
        intro H2 w
        obtain ⟨F', g, r⟩ := lc2_done (K := K) (M := fun a => H a = none) (xs := xs) (h := h) (fun a z => g1.hh.free z) nD w
        exact q _ F' H2 (g1.trans g) r)⟩⟩
    obtain ⟨x, hx', pd⟩ := turn ys ds hx pq i y hy
    exact lc2_turn hx' hz en nD hj pd (he x (List.mem_of_getElem? hx')) w
  | tuple ds =>
    obtain ⟨a, ys, rfl, s, pq⟩ := dp_tuple p1
    have len : ys.length = xs.length := by rw [dpa_len pq, show ds = xs.map em from hx, List.length_map]
    refine ⟨a, rfl, .inr ⟨⟨ys, sq_t en.fh s⟩, fun D nD => lc_tup (K := K) (a := a) (xs := ys) (fun i H2 => ∃ (F' : Hp) (ls : List Addr), Gr F1 H1 F' H2 ∧ F' D = none ∧ H2 D = some (.lst (ls.map V.ref)) ∧ (D :: ls).Nodup ∧ ls.length = i ∧ ∀ (k : Nat) r x, ls[k]? = some r → xs[k]? = some x → F' r = none ∧ H1 r = none ∧ ∃ ys, H2 r = some (.lst ys) ∧ DpAll K F' ys (h x)) (start D nD)
      (fun i H2 _ ⟨F', _, g, _⟩ => sq_t g.hh (sq_t en.fh s)) (fun i y H2 hy w => ?_) (by
        rw [len]
        intro H2 w
        obtain ⟨F', g, r⟩ := lc2_done (K := K) (M := fun a => H a = none) (xs := xs) (h := h) (fun a z => g1.hh.free z) nD w
        exact q _ F' H2 (g1.trans g) r)⟩⟩
    obtain ⟨x, hx', pd⟩ := turn ys ds hx pq i y hy
    exact lc2_turn hx' hz en nD hj pd (he x (List.mem_of_getElem? hx')) w
  | none => exact hq.elim
  | bool _ => exact hq.elim
  | int _ => exact hq.elim
  | str _ => exact hq.elim
  | dict _ => exact hq.elim
/-- a list that stands in the heap by itself -/
def XK (K : PySem.W.Frag) (te : TE) (ρ : List Sl) (ds : List PyData) : Prop := ∀ (N : Addr → Prop) (σ : St) (F H : Hp), En K N ρ σ F H → ∀ Q : VK, (∀ p xs F' H', Gr F H F' H' → H' p = some (.lst xs) → DpAll K F' xs ds → Q (.ref p) H') → te σ H Q
theorem xk_o {i : Nat} {ds : List PyData} (h : ρ[i]? = some (.ow ds)) : XK K (tVar i) ρ ds := fun N σ F H e Q q => by
  obtain ⟨l, xs, es, hl, dl, _⟩ := e.mut h
  exact ⟨_, es, q l xs F H (.refl e.fh) hl dl⟩
theorem xk_n {ds : List PyData} (h : XR K te ρ (.ow ds)) : XK K te ρ ds := fun N σ F H e Q q => h N σ F H e Q fun v F' H' g r => by
  obtain ⟨l, xs, rfl, hl, fl, nl, a⟩ := of_ret_ow r
  exact q l xs F' H' g hl a
theorem x_cat {a b : List PyData} (ha : XK K ta ρ a) (hb : XK K tb ρ b) (hz : a.length + b.length ≤ 100000) : XR K (tOp (rAddX K) ta tb) ρ (.ow (a ++ b)) := fun N σ F H e Q q => ha N σ F H e _ fun p xs F1 H1 g1 hp dp => hb N σ F1 H1 (e.gr g1) _ fun r ys F2 H2 g2 hr dr =>
  .inr (.inl ⟨p, r, xs, ys, rfl, rfl, g2.hh _ _ hp, hr, by rw [dpa_len dp, dpa_len dr]; exact Nat.le_trans hz (by decide), fun l hl => q (.ref l) F2 _ ((g1.trans g2).trans (.own g2.fh hl)) (ret_ow upd_same (g2.fh.free hl) ((g1.trans g2).hh.free hl) (dpa_app (dps_mono g2.ff _ _ dp) dr))⟩)
theorem cutD_map {α β : Type} (f : α → β) (xs : List α) (lo hi : Option Int) : cutD (xs.map f) lo hi = (cutD xs lo hi).map f := by
  unfold cutD
  rw [List.length_map, List.map_take, List.map_drop]
theorem cutD_len {α : Type} (xs : List α) (lo hi : Option Int) : (cutD xs lo hi).length ≤ xs.length := by
  unfold cutD
  rw [List.length_take, List.length_drop]
  omega
end
end WL

namespace WL
open PySem L2
/-! ### fractions -/
def fr (q : Rat) : PyData := .tuple [.int q.num, .int q.den]
theorem fr_inj {a b : Rat} (h : fr a = fr b) : a = b := by
  unfold fr at h
  injection h with h
  injection h with h1 h
  injection h with h2 h
  injection h1 with h1
  injection h2 with h2
  exact Rat.ext h1 (by exact_mod_cast h2)
theorem gcd_pos {a b : Int} (h : b ≠ 0) : 0 < Int.gcd a b := Nat.pos_of_ne_zero fun z => h (Int.gcd_eq_zero_iff.mp z).2
theorem gcd_le {a b : Int} (h : b ≠ 0) : Int.gcd a b ≤ b.natAbs := Nat.le_of_dvd (Int.natAbs_pos.mpr h) (Int.natAbs_dvd_natAbs.mpr (Int.gcd_dvd_right a b) |> fun z => by simpa using z)
theorem fdiv_neg_r (a g : Int) (h : 0 ≤ g) : a.fdiv (0 - g) = (-a) / g := by
  have := Int.neg_fdiv_neg (-a) g
  rw [Int.neg_neg] at this
  rw [Int.zero_sub, this, Int.fdiv_eq_ediv_of_nonneg _ h]
theorem frac_num {a b : Int} (h : b ≠ 0) : a.fdiv (if b < 0 then 0 - (Int.gcd a b : Int) else (Int.gcd a b : Int)) = (Rat.divInt a b).num := by
  rw [Rat.num_divInt, Int.gcd_comm b a]
  have g0 : (0 : Int) ≤ (Int.gcd a b : Int) := Int.natCast_nonneg _
  by_cases z : b < 0
  · rw [if_pos z, Int.sign_eq_neg_one_of_neg z, fdiv_neg_r _ _ g0]
    congr 1
    omega
  · rw [if_neg z, Int.sign_eq_one_of_pos (by omega), Int.fdiv_eq_ediv_of_nonneg _ g0, Int.one_mul]
theorem frac_den {a b : Int} (h : b ≠ 0) : b.fdiv (if b < 0 then 0 - (Int.gcd a b : Int) else (Int.gcd a b : Int)) = ((Rat.divInt a b).den : Int) := by
  rw [Rat.den_divInt, if_neg h, Int.gcd_comm b a]
  have g0 : (0 : Int) ≤ (Int.gcd a b : Int) := Int.natCast_nonneg _
  by_cases z : b < 0
  · rw [if_pos z, fdiv_neg_r _ _ g0, Int.natCast_ediv]
    congr 1
    omega
  · rw [if_neg z, Int.fdiv_eq_ediv_of_nonneg _ g0, Int.natCast_ediv]
    congr 1
    omega
theorem gcd_fmod (a b : Int) : Int.gcd b (a.fmod b) = Int.gcd a b := by
  rw [Int.fmod_def, Int.gcd_sub_mul_left_right]
  exact Int.gcd_comm _ _
theorem fmod_lt {a b : Int} (h : b ≠ 0) : (a.fmod b).natAbs < b.natAbs := by
  by_cases z : 0 < b
  · have h1 := Int.fmod_nonneg_of_pos a z
    have h2 := Int.fmod_lt_of_pos a z
    omega
  · have h0 := Int.neg_fmod_neg (-a) (-b)
    rw [Int.neg_neg, Int.neg_neg] at h0
    have h1 := Int.fmod_nonneg_of_pos (-a) (by omega : 0 < -b)
    have h2 := Int.fmod_lt_of_pos (-a) (by omega : 0 < -b)
    omega
theorem frac_pos {a b : Int} (h : 0 < b) : a / (Int.gcd a b : Int) = (Rat.divInt a b).num ∧ b / (Int.gcd a b : Int) = ((Rat.divInt a b).den : Int) := by
  have h1 := frac_num (a := a) (b := b) (by omega)
  have h2 := frac_den (a := a) (b := b) (by omega)
  have g0 : (0 : Int) ≤ (Int.gcd a b : Int) := Int.natCast_nonneg _
  rw [if_neg (by omega), Int.fdiv_eq_ediv_of_nonneg _ g0] at h1 h2
  exact ⟨h1, h2⟩
theorem log_lt {n k : Nat} (h : n < 2 ^ k) (hk : 0 < k) : n.log2 < k := PySem.Flt.log2_lt_of hk h
theorem log_mono {m n : Nat} (h : m ≤ n) : m.log2 ≤ n.log2 := by
  by_cases z : m = 0
  · rw [z]; simp
  · exact (Nat.le_log2 (by omega)).mpr (Nat.le_trans (Nat.log2_self_le z) h)
/-- products of small factors -/
theorem mul_s {i j : Int} (h : i.natAbs < 2 ^ 60 ∨ j.natAbs < 2 ^ 60) : PySem.IntMulOk i j := by
  rcases h with h | h
  · exact .of_left (PySem.intBits_le_64 (by omega) (by omega))
  · exact .of_right (PySem.intBits_le_64 (by omega) (by omega))
theorem mul_w {i j : Int} (a b : Nat) (ha : i.natAbs < 2 ^ a) (hb : j.natAbs < 2 ^ b) (h : a + b ≤ 999998) : PySem.IntMulOk i j :=
  (wide_mul (a := a + 1) (b := b + 1) (Nat.lt_of_lt_of_le ha (Nat.pow_le_pow_right (by decide) (by omega))) (Nat.lt_of_lt_of_le hb (Nat.pow_le_pow_right (by decide) (by omega))) (by omega) (by omega) (by omega)).ok
/-- a fraction of moderate size -/
def Sm (q : Rat) : Prop := q.num.natAbs < 2 ^ 4000 ∧ q.den < 2 ^ 4000
theorem before_iff (a b : Rat) : decide (a.num * (b.den : Int) < b.num * (a.den : Int)) = decide (a < b) := by
  rw [decide_eq_decide]
  exact (Rat.lt_iff a b).symm
theorem plus_eq (a b : Rat) : Rat.divInt (a.num * (b.den : Int) + b.num * (a.den : Int)) ((a.den : Int) * (b.den : Int)) = a + b := by
  have h := Rat.divInt_add_divInt a.num b.num (d₁ := (a.den : Int)) (d₂ := (b.den : Int)) (by have := a.den_nz; omega) (by have := b.den_nz; omega)
  rw [Rat.num_divInt_den, Rat.num_divInt_den] at h
  exact h.symm
theorem minus_eq (a b : Rat) : Rat.divInt (a.num * (b.den : Int) - b.num * (a.den : Int)) ((a.den : Int) * (b.den : Int)) = a - b := by
  have h := Rat.divInt_sub_divInt a.num b.num (d₁ := (a.den : Int)) (d₂ := (b.den : Int)) (by have := a.den_nz; omega) (by have := b.den_nz; omega)
  rw [Rat.num_divInt_den, Rat.num_divInt_den] at h
  exact h.symm
theorem times_eq (a b : Rat) : Rat.divInt (a.num * b.num) ((a.den : Int) * (b.den : Int)) = a * b := by
  have h := Rat.divInt_mul_divInt a.num b.num (d₁ := (a.den : Int)) (d₂ := (b.den : Int))
  rw [Rat.num_divInt_den, Rat.num_divInt_den] at h
  exact h.symm
theorem den_pos (a : Rat) : (0 : Int) < (a.den : Int) := by have := a.den_nz; omega
theorem den_mul_pos (a b : Rat) : (0 : Int) < (a.den : Int) * (b.den : Int) := Int.mul_pos (den_pos a) (den_pos b)
theorem den_mul_log {a b : Rat} (ha : a.den < 2 ^ 4000) (hb : b.den < 2 ^ 4000) : ((a.den : Int) * (b.den : Int)).natAbs.log2 < 9000 := by
  rw [Int.natAbs_mul, Int.natAbs_natCast, Int.natAbs_natCast]
  exact Nat.lt_of_lt_of_le (log_lt (k := 4000 + 4000) (by rw [Nat.pow_add]; exact Nat.mul_lt_mul'' ha hb) (by decide)) (by decide)
/-! what a fraction, a list of them is for == -/
theorem fr_shaped (q : Rat) : SeqAt.shaped (fr q) = true := by rfl
end WL

namespace WL
open PySem L2
/-- data of a depth below n -/
def Ds : Nat → PyData → Prop
  | 0, _ => False
  | _ + 1, .none => True
  | _ + 1, .bool _ => True
  | _ + 1, .int _ => True
  | _ + 1, .str s => SeqAt.shaped (.str s) = true
  | n + 1, .list ds => ds.length ≤ 100000 ∧ ∀ d ∈ ds, Ds n d
  | n + 1, .tuple ds => ds.length ≤ 100000 ∧ ∀ d ∈ ds, Ds n d
  | _ + 1, .dict _ => False
theorem Ds.mono : ∀ {n m : Nat} {d : PyData}, Ds n d → n ≤ m → Ds m d
  | 0, _, _, h, _ => h.elim
  | n + 1, 0, _, _, h => absurd h (by omega)
  | n + 1, m + 1, d, h, hl => by
    cases d with
    | list ds => exact ⟨h.1, fun d hd => Ds.mono (h.2 d hd) (by omega)⟩
    | tuple ds => exact ⟨h.1, fun d hd => Ds.mono (h.2 d hd) (by omega)⟩
    | dict _ => exact h.elim
    | str s => exact h
    | _ => trivial
theorem Ds_fr (n : Nat) (q : Rat) : Ds (n + 2) (fr q) := ⟨by simp, fun d hd => by
  simp at hd
  rcases hd with h | h <;> rw [h] <;> trivial⟩
theorem canAll {ds : List PyData} (h : ∀ d ∈ ds, d.canLay0 = true) : PyData.canLayAll0 ds = true := by
  induction ds with
  | nil => rfl
  | cons d ds ih => unfold PyData.canLayAll0; rw [h d List.mem_cons_self, ih fun x hx => h x (List.mem_cons_of_mem _ hx)]; rfl
theorem eqvAll {ds : List PyData} (h : ∀ d ∈ ds, PyData.eqv d d = true) : PyData.eqvAll ds ds = true := by
  induction ds with
  | nil => rfl
  | cons d ds ih => unfold PyData.eqvAll; rw [h d List.mem_cons_self, ih fun x hx => h x (List.mem_cons_of_mem _ hx)]; rfl
theorem Ds_can : ∀ {n : Nat} {d : PyData}, Ds n d → d.canLay0 = true ∧ PyData.eqv d d = true
  | 0, _, h => h.elim
  | n + 1, .none, _ => ⟨rfl, rfl⟩
  | n + 1, .bool b, _ => ⟨rfl, by simp [PyData.eqv]⟩
  | n + 1, .int b, _ => ⟨rfl, by simp [PyData.eqv]⟩
  | n + 1, .str s, h => ⟨SeqAt.canLay_of_shaped h, by simp [PyData.eqv]⟩
  | n + 1, .list ds, h => ⟨by unfold PyData.canLay0; exact canAll fun d hd => (Ds_can (h.2 d hd)).1, by unfold PyData.eqv; exact eqvAll fun d hd => (Ds_can (h.2 d hd)).2⟩
  | n + 1, .tuple ds, h => ⟨by unfold PyData.canLay0; exact canAll fun d hd => (Ds_can (h.2 d hd)).1, by unfold PyData.eqv; exact eqvAll fun d hd => (Ds_can (h.2 d hd)).2⟩
  | n + 1, .dict _, h => h.elim
theorem depthAll_le {ds : List PyData} {n : Nat} (h : ∀ d ∈ ds, d.depth ≤ n) : PyData.depthAll ds ≤ n := by
  induction ds with
  | nil => exact Nat.zero_le _
  | cons d ds ih => unfold PyData.depthAll; exact Nat.max_le.mpr ⟨h d List.mem_cons_self, ih fun x hx => h x (List.mem_cons_of_mem _ hx)⟩
theorem Ds_depth : ∀ {n : Nat} {d : PyData}, Ds n d → d.depth ≤ n
  | 0, _, h => h.elim
  | n + 1, .none, _ => Nat.zero_le _
  | n + 1, .bool b, _ => Nat.zero_le _
  | n + 1, .int b, _ => Nat.zero_le _
  | n + 1, .str s, h => Nat.zero_le _
  | n + 1, .list ds, h => by unfold PyData.depth; exact Nat.succ_le_succ (depthAll_le fun d hd => Ds_depth (h.2 d hd))
  | n + 1, .tuple ds, h => by unfold PyData.depth; exact Nat.succ_le_succ (depthAll_le fun d hd => Ds_depth (h.2 d hd))
  | n + 1, .dict _, h => h.elim
theorem Ds_shaped {n : Nat} {d : PyData} (h : Ds n d) (hn : n ≤ 64) : SeqAt.shaped d = true := by
  unfold SeqAt.shaped
  rw [(Ds_can h).1, decide_eq_true (Nat.le_trans (Ds_depth h) hn)]
  rfl
theorem Ds_eqv {n : Nat} {d : PyData} (h : Ds n d) : PyData.eqv d d = true := (Ds_can h).2
def nat_ (n : Nat) : PyData := .int n
theorem Ds_nat (n : Nat) (k : Nat) : Ds (n + 1) (nat_ k) := trivial
theorem Ds_map {α : Type} {n : Nat} {f : α → PyData} {l : List α} (h : ∀ x ∈ l, Ds n (f x)) : ∀ d ∈ l.map f, Ds n d := fun d hd => by
  obtain ⟨x, hx, rfl⟩ := List.mem_map.mp hd
  exact h x hx
theorem atI_get' {α : Type} {xs : List α} {k : Nat} (h : k < xs.length) : atI xs (k : Int) = some xs[k] := atI_nat (List.getElem?_eq_getElem h)
theorem atI_map {α β : Type} {xs : List α} {f : α → β} {k : Int} {x : α} (h : atI xs k = some x) : atI (xs.map f) k = some (f x) := by
  unfold atI at h ⊢
  rw [List.length_map]
  cases z : ixN xs.length k with
  | none => rw [z] at h; cases h
  | some j =>
    rw [z] at h
    show (xs.map f)[j]? = _
    rw [List.getElem?_map, show xs[j]? = some x from h]
    rfl
theorem range_map_get {α : Type} (f : Nat → α) {c i : Nat} (h : i < c) : ((List.range c).map f)[i]? = some (f i) := by rw [List.getElem?_map, List.getElem?_range h]; rfl
theorem range_map_set {α : Type} (f : Nat → α) (c i : Nat) (v : α) : ((List.range c).map f).set i v = (List.range c).map fun j => if j = i then v else f j := by
  refine List.ext_getElem? fun j => ?_
  by_cases z : i = j
  · subst z
    by_cases h : i < c
    · rw [List.getElem?_set_self (by simpa using h), range_map_get _ h, if_pos rfl]
    · rw [List.getElem?_eq_none (by simp; omega), List.getElem?_eq_none (by simp; omega)]
  · rw [List.getElem?_set_ne z, List.getElem?_map, List.getElem?_map]
    by_cases h : j < c
    · rw [List.getElem?_range h]
      show some (f j) = some (if j = i then v else f j)
      rw [if_neg fun y : j = i => z y.symm]
    · rw [List.getElem?_eq_none (by simp; omega)]; rfl
theorem range_map_congr {α : Type} {f g : Nat → α} {c : Nat} (h : ∀ i, i < c → f i = g i) : (List.range c).map f = (List.range c).map g := List.map_congr_left fun i hi => h i (List.mem_range.mp hi)
theorem ixN_nat {n j : Nat} {k : Int} (e : k = (j : Int)) (h : j < n) : ixN n k = some j := by
  unfold ixN
  rw [e, if_pos (by omega), if_pos (by omega), Int.toNat_natCast]
/-- the sum of f over 0 .. n - 1 -/
def upto (f : Nat → Int) : Nat → Int
  | 0 => 0
  | n + 1 => upto f n + f n
theorem upto_nn {f : Nat → Int} (h : ∀ i, 0 ≤ f i) : ∀ n, 0 ≤ upto f n
  | 0 => Int.le_refl 0
  | n + 1 => by have := upto_nn h n; have := h n; show 0 ≤ upto f n + f n; omega
theorem upto_le {f : Nat → Int} {b : Int} (h : ∀ i, f i ≤ b) : ∀ n : Nat, upto f n ≤ n * b
  | 0 => by simp [upto]
  | n + 1 => by have := upto_le h n; have := h n; show upto f n + f n ≤ ((n + 1 : Nat) : Int) * b; rw [Int.natCast_add, Int.add_mul]; omega
theorem upto_add (f g : Nat → Int) : ∀ n, upto (fun i => f i + g i) n = upto f n + upto g n
  | 0 => rfl
  | n + 1 => by show upto _ n + (f n + g n) = (upto f n + f n) + (upto g n + g n); rw [upto_add f g n]; omega
theorem upto_congr {f g : Nat → Int} : ∀ {n : Nat}, (∀ i, i < n → f i = g i) → upto f n = upto g n
  | 0, _ => rfl
  | n + 1, h => by show upto f n + f n = upto g n + g n; rw [upto_congr fun i hi => h i (by omega), h n (by omega)]
theorem upto_zero : ∀ n : Nat, upto (fun _ => 0) n = 0
  | 0 => rfl
  | n + 1 => by show upto _ n + 0 = 0; rw [upto_zero n]; rfl
theorem upto_one {c m : Nat} (w : Int) (h : m < c) : upto (fun t => if m = t then w else 0) c = w := by
  induction c with
  | zero => omega
  | succ c ih =>
    show upto _ c + (if m = c then w else 0) = w
    by_cases z : m = c
    · rw [if_pos z, upto_congr (g := fun _ => 0) (fun i hi => if_neg (by omega)), upto_zero, Int.zero_add]
    · rw [if_neg z, ih (by omega), Int.add_zero]
/-- the sums up to each place -/
def prefs (acc : Rat) : List Rat → List Rat
  | [] => []
  | q :: qs => (acc + q) :: prefs (acc + q) qs
theorem prefs_len : ∀ (l : List Rat) (a : Rat), (prefs a l).length = l.length
  | [], _ => rfl
  | _ :: l, a => congrArg (· + 1) (prefs_len l _)
theorem prefs_app : ∀ (l m : List Rat) (a : Rat), prefs a (l ++ m) = prefs a l ++ prefs (l.foldl (· + ·) a) m
  | [], _, _ => rfl
  | q :: l, m, a => congrArg (_ :: ·) (prefs_app l m (a + q))
theorem take_succ_get {α : Type} {l : List α} {i : Nat} {x : α} (h : l[i]? = some x) : l.take (i + 1) = l.take i ++ [x] := by rw [List.take_succ, h]; rfl
theorem fr_zero : fr 0 = .tuple [.int 0, .int 1] := rfl
theorem fr_one : fr 1 = .tuple [.int 1, .int 1] := rfl
def shareAt (sh : List Rat) (t : Nat) : Rat := sh.getD t 0
theorem perm_sum {l m : List Int} (h : l.Perm m) : l.sum = m.sum := by
  induction h with
  | nil => rfl
  | cons x _ ih => rw [List.sum_cons, List.sum_cons, ih]
  | swap x y l => simp only [List.sum_cons]; omega
  | trans _ _ a b => exact a.trans b
/-- the sum over an order -/
theorem sum_perm {f : Nat → Int} {l : List Nat} {c : Nat} (h : l.Perm (List.range c)) : (l.map f).sum = upto f c := by
  rw [perm_sum (h.map f)]
  clear h
  induction c with
  | zero => rfl
  | succ c ih => rw [List.range_succ, List.map_append, List.sum_append, ih]; simp [upto]
theorem take_sum_le {l : List Int} (h : ∀ x ∈ l, 0 ≤ x) (i : Nat) : 0 ≤ (l.take i).sum ∧ (l.take i).sum ≤ l.sum := by
  have nn : ∀ m : List Int, (∀ x ∈ m, 0 ≤ x) → 0 ≤ m.sum := fun m => by
    induction m with
    | nil => intro _; exact Int.le_refl 0
    | cons x m ih => intro h; rw [List.sum_cons]; have := h x List.mem_cons_self; have := ih fun y hy => h y (List.mem_cons_of_mem _ hy); omega
  have e : l.sum = (l.take i).sum + (l.drop i).sum := by rw [← List.sum_append, List.take_append_drop]
  have h1 := nn (l.take i) fun x hx => h x (List.mem_of_mem_take hx)
  have h2 := nn (l.drop i) fun x hx => h x (List.mem_of_mem_drop hx)
  omega
/-- fractions over one bottom -/
theorem divInt_add_same (a b : Int) {d : Int} (h : d ≠ 0) : Rat.divInt a d + Rat.divInt b d = Rat.divInt (a + b) d := by
  rw [Rat.divInt_add_divInt _ _ h h, Rat.divInt_eq_divInt_iff (by simp [h]) h]
  rw [← Int.add_mul]
  exact Int.mul_assoc _ _ _
theorem divInt_zero' (d : Int) : Rat.divInt 0 d = 0 := by simp
theorem foldl_divInt {d : Int} (h : d ≠ 0) : ∀ (l : List Int) (a : Int), (l.map fun x => Rat.divInt x d).foldl (· + ·) (Rat.divInt a d) = Rat.divInt (a + l.sum) d
  | [], a => by simp
  | x :: l, a => by
    show (l.map fun x => Rat.divInt x d).foldl (· + ·) (Rat.divInt a d + Rat.divInt x d) = _
    rw [divInt_add_same _ _ h, foldl_divInt h l (a + x), List.sum_cons, Int.add_assoc]
theorem Sm_divInt {a d : Int} (h0 : 0 ≤ a) (h1 : a ≤ d) (hd : 0 < d) (hl : d < 2 ^ 3999) : Sm (Rat.divInt a d) := by
  obtain ⟨e1, e2⟩ := frac_pos (a := a) hd
  have g := gcd_pos (a := a) (b := d) (by omega)
  have h3 : (Rat.divInt a d).num ≤ a := by
    rw [← e1]
    exact Int.ediv_le_self _ h0
  have h4 : 0 ≤ (Rat.divInt a d).num := by rw [← e1]; exact Int.ediv_nonneg h0 (by omega)
  have h5 : ((Rat.divInt a d).den : Int) ≤ d := by rw [← e2]; exact Int.ediv_le_self _ (by omega)
  have h6 : (2 : Int) ^ 3999 < 2 ^ 4000 := by decide +kernel
  constructor <;> omega
/-- the sums of an order, one after another -/
def psum (acc : Int) : List Int → List Int
  | [] => []
  | x :: l => (acc + x) :: psum (acc + x) l
theorem prefs_divInt {d : Int} (h : d ≠ 0) : ∀ (l : List Int) (a : Int), prefs (Rat.divInt a d) (l.map fun x => Rat.divInt x d) = (psum a l).map fun x => Rat.divInt x d
  | [], _ => rfl
  | x :: l, a => by
    show (Rat.divInt a d + Rat.divInt x d) :: prefs (Rat.divInt a d + Rat.divInt x d) _ = _
    rw [divInt_add_same _ _ h, prefs_divInt h l (a + x)]
    rfl
theorem psum_app : ∀ (l m : List Int) (a : Int), psum a (l ++ m) = psum a l ++ psum (a + l.sum) m
  | [], m, a => by simp [psum]
  | x :: l, m, a => by
    show (a + x) :: psum (a + x) (l ++ m) = _
    rw [psum_app l m (a + x), List.sum_cons, Int.add_assoc]
    rfl
theorem psum_len : ∀ (l : List Int) (a : Int), (psum a l).length = l.length
  | [], _ => rfl
  | _ :: l, _ => congrArg (· + 1) (psum_len l _)
theorem psum_last : ∀ (l : List Int) (a : Int), l ≠ [] → ∃ m, psum a l = m ++ [a + l.sum]
  | [], _, h => absurd rfl h
  | [x], a, _ => ⟨[], by simp [psum]⟩
  | x :: y :: l, a, _ => by
    obtain ⟨m, hm⟩ := psum_last (y :: l) (a + x) (by simp)
    refine ⟨(a + x) :: m, ?_⟩
    show (a + x) :: psum (a + x) (y :: l) = _
    rw [hm, List.sum_cons (a := x), Int.add_assoc]
    rfl
theorem erase_map {α β : Type} (f : α → β) : ∀ (l : List α) (j : Nat), (l.map f).eraseIdx j = (l.eraseIdx j).map f
  | [], _ => rfl
  | _ :: _, 0 => rfl
  | a :: l, j + 1 => congrArg (f a :: ·) (erase_map f l j)
end WL

namespace WL
open PySem L2
section
variable {K : PySem.W.Frag} {N : Addr → Prop} {ρ : List Sl} {σ : St} {F H F' H' F0 H0 : Hp} {ta tb te tc : TE} {tt tu : TT} {P : Post} {t : TS}
/-- a.append(b.pop(k)) -/
theorem s_appPop {i j : Nat} {ds es : List PyData} {k : Int} {m : Nat} {d : PyData} (hi : ρ[i]? = some (.ow ds)) (hj : ρ[j]? = some (.ow es)) (hij : i ≠ j) (h : XE K te ρ (.int k)) (hk : -(2 ^ 63) ≤ k ∧ k < 2 ^ 63) (hm : seqIndex? k es.length = some m) (hd : es[m]? = some d) (hz : ds.length ≤ 100000)
    (kk : P.nx ((ρ.set j (.ow (es.eraseIdx m))).set i (.ow (ds ++ [d])))) : WS K (tDrop (tBM K "list" rAppend (tVar i) (tCons (tBM K "list" rPopAt (tVar j) (tCons te tNil)) tNil))) ρ P := fun F0 H0 σ F H D e f => by
  obtain ⟨l, xs, el, hl, dl, fl, nl, _⟩ := e.mut hi
  obtain ⟨q, zs, eq, hq, _⟩ := e.mut hj
  refine ⟨_, el, .inl ⟨rfl, xs, SqL.of hl⟩, _, eq, .inl ⟨rfl, zs, SqL.of hq⟩, h.e e.en fun y F1 H1 g p => ?_⟩
  obtain ⟨q1, zs1, eq1, hq1, dq1, _, _, k1⟩ := (e.go g).mut hj
  rw [eq] at eq1
  cases eq1
  obtain ⟨v, hv, pv⟩ := dpa_get dq1 hd
  refine ⟨q, zs1, k, m, v, rfl, by rw [dp_int p], hq1, hk.1, hk.2, by rw [dpa_len dq1]; exact hm, hv, ?_⟩
  have e2 := k1 _ _ (dpa_erase m dq1)
  obtain ⟨l2, xs2, el2, hl2, dl2, _, _, k2⟩ := e2.mut (i := i) (by rw [List.getElem?_set_ne hij.symm]; exact hi)
  rw [el] at el2
  cases el2
  exact ⟨l, xs2, v, rfl, rfl, hl2, by rw [dpa_len dl2]; exact Nat.lt_of_le_of_lt hz (by decide), f.nx _ _ _ _ kk (k2 _ _ (dpa_app dl2 (dpa_one pv)))⟩
/-- x.remove(y) and the like come later -/
theorem seqIndex_nat {n j : Nat} {k : Int} (e : k = (j : Int)) (h : j < n) : seqIndex? k n = some j := (ixN_seq (ixN_nat e h)).1
end
section
variable {X : Cx} {K : PySem.W.Frag}
/-! the rules with K itself: within a comprehension's block nothing may hang on the block -/
theorem ix_seqK (hK : X.K = K := by rfl) : IxR X (rIx K) := by subst hK; exact ix_seq
theorem op_addK (hK : X.K = K := by rfl) : OpR X (binaryOp .Add) (rAddX K) := by subst hK; exact op_addX
theorem op_eqK (hu : X.A.units + 64 < cLine) (hK : X.K = K := by rfl) : OpR X (compareOp .Eq) (rEqD K) := by subst hK; exact op_eqD hu
theorem op_neK (hu : X.A.units + 64 < cLine) (hK : X.K = K := by rfl) : OpR X (compareOp .NotEq) (rNeD K) := by subst hK; exact op_neD hu
theorem op_inK (hK : X.K = K := by rfl) : OpR X (compareOp .In) (rIn K false) := by subst hK; exact op_in_seq
theorem op_notInK (hK : X.K = K := by rfl) : OpR X (compareOp .NotIn) (rIn K true) := by subst hK; exact op_notIn_seq
theorem sl_seqK (hK : X.K = K := by rfl) : SlR X (rSlX K) := by subst hK; exact sl_seq
def rLenX (K : PySem.W.Frag) : List V → Hp → VK → Prop := fun xs H Q => ∃ p ys, xs = [V.ref p] ∧ (SqL K H p ys ∨ SqT K H p ys) ∧ Q (.int ys.length) H
def rListX (K : PySem.W.Frag) : List V → Hp → VK → Prop := fun xs H Q => ∃ p ys, xs = [V.ref p] ∧ (SqL K H p ys ∨ SqT K H p ys) ∧ ∀ l, H l = none → Q (.ref l) (upd H l (.lst ys))
theorem len_K (hK : X.K = K := by rfl) : CallR X (.builtin "len") (rLenX K) := by subst hK; exact call_len_seq
theorem list_K (hK : X.K = K := by rfl) : CallR X (.type "list") (rListX K) := by subst hK; exact call_list_of
theorem tuple_K (hK : X.K = K := by rfl) : CallR X (.type "tuple") (rTupleOf K) := by subst hK; exact call_tuple_of
theorem isi_K (hK : X.K = K := by rfl) : CallR X (.builtin "isinstance") (rIsi K) := by subst hK; exact call_isi
theorem sum_K (hc : X.calm = true) (hK : X.K = K := by rfl) : CallR X (.builtin "sum") (rSum K) := by subst hK; exact cr_sum hc
theorem max_K (hc : X.calm = true) (hK : X.K = K := by rfl) : CallR X (.builtin "max") (rMax K) := by subst hK; exact cr_max hc
theorem min_K (hc : X.calm = true) (hK : X.K = K := by rfl) : CallR X (.builtin "min") (rMin K) := by subst hK; exact cr_min hc
theorem all_K (hc : X.calm = true) (hK : X.K = K := by rfl) : CallR X (.builtin "all") (rAll K) := by subst hK; exact cr_all hc
theorem pi_seqK {tg l : Expr} {tl : TE} (hl : PE X l tl) (hK : X.K = K := by rfl) : PI X tg l (iSeq K tl) := by subst hK; exact pi_seq hl
theorem pg_tupK {es : List Expr} {k : Nat} {t : TGs} {n : Nat} {pos : Pos} (hc : X.calm = true) (h : PGs X es t)
    (hn : (assignEach es X.env).length = n := by rfl) (hst : (assignEach es X.env).findIdx? (·.1) = none := by rfl) (hK : X.K = K := by rfl) : PG X (.Tuple es k pos) (gTup K n t) := by subst hK; exact pg_tup hc h hn hst
end
end WL

open PySem L2 WL

local macro_rules | `(tactic| walk_at "side") => `(tactic| first | omega | decide | rfl | assumption | (exact mul_s (by omega)) | (exact log_lt (k := 60) (by omega) (by decide)))
local macro_rules | `(tactic| walk_at "xe") => `(tactic| first
  | exact x_int | exact x_var rfl | exact x_bl | exact x_non | exact x_str | exact xa_nil | exact xt_yes | exact xs_o rfl | exact xo_none | exact xp_o rfl
  | (refine xa_cons ?_ ?_ <;> walk_at "xe")
  | (refine xs_t ?_; walk_at "xe"; done) | (refine xs_l ?_; walk_at "xe"; done) | (refine xs_n ?_; walk_at "xe"; done)
  | (refine x_add ?_ ?_ <;> walk_at "xe") | (refine x_sub ?_ ?_ <;> walk_at "xe")
  | (refine x_mul ?_ ?_ ?_ <;> first | walk_at "xe" | walk_at "side")
  | (refine x_mod ?_ ?_ ?_ <;> first | walk_at "xe" | walk_at "side")
  | (refine x_div ?_ ?_ ?_ ?_ <;> first | walk_at "xe" | walk_at "side")
  | (refine x_lt ?_ ?_ <;> walk_at "xe") | (refine x_le ?_ ?_ <;> walk_at "xe") | (refine x_gt ?_ ?_ <;> walk_at "xe") | (refine x_ge ?_ ?_ <;> walk_at "xe")
  | (refine x_eqI ?_ ?_ <;> walk_at "xe") | (refine x_neI ?_ ?_ <;> walk_at "xe")
  | (refine x_neg ?_; walk_at "xe") | (refine x_not ?_; walk_at "xe")
  | (refine x_abs ?_; walk_at "xe") | (refine x_min2 ?_ ?_ <;> walk_at "xe") | (refine x_intb ?_; walk_at "xe")
  | (refine x_tup ?_ ?_; (walk_at "xe"); (simp; done))
  | (refine x_lst ?_ ?_; (walk_at "xe"); (simp; done))
  | (refine x_ix ?_ ?_ ?_; (walk_at "xe"); (walk_at "xe"); (first | rfl | assumption))
  | (refine x_len ?_; walk_at "xe")
  | (refine x_tuple ?_; walk_at "xe") | (refine x_tupleT ?_; walk_at "xe") | (refine x_list ?_; walk_at "xe")
  | (refine xo_some ?_; walk_at "xe")
  | (refine xt_test ?_; walk_at "xe") | (refine xt_B ?_; walk_at "xe") | (refine xt_not ?_; walk_at "xe")
  | (refine xp_e ?_; walk_at "xe"; done) | (refine xp_e (x_frz ?_); walk_at "xe"; done)
  | (refine x_frz ?_; walk_at "xe"; done))
local macro_rules | `(tactic| walk_at "start") => `(tactic| dsimp only [startR, List.map, List.length_cons, List.length_nil, List.replicate, List.cons_append, List.nil_append, Nat.reduceAdd, Nat.reduceSub])
/-- a plain store, then the rest -/
local macro_rules | `(tactic| walk_at "asg") => `(tactic| (refine s_seq (s_asg ?a ?_); (case a => walk_at "xe"); dsimp only [List.set]))


namespace WL
open PySem L2
def topS (i : Nat) : Stmt := PySem.Challenge.pw_wishlots_k04_prefixes.main.body.getD i (.Pass ⟨0, 0, 0, 0⟩)
abbrev s_common : Stmt := topS 4
abbrev s_fraction : Stmt := topS 5
abbrev s_plus : Stmt := topS 6
abbrev s_prefixes : Stmt := topS 9
abbrev s_law_cell_at : Stmt := topS 11
abbrev s_law_mixed : Stmt := topS 12
abbrev s_law_perm : Stmt := topS 13
abbrev s_law_divisor : Stmt := topS 14
abbrev s_law_lowest : Stmt := topS 15
abbrev s_law_sums : Stmt := topS 16
abbrev s_law_table : Stmt := topS 17
abbrev s_law_same : Stmt := topS 18
abbrev s_law : Stmt := topS 19
structure Txt (K : PySem.W.Frag) (mg : Str → Option Value) where
  a_common : Addr
  d_common : FuncData
  F_common : Fun K "common" "common" s_common a_common d_common
  b_common : Binds K d_common ["one", "two"] []
  m_common : mg "common" = some (.ref a_common)
  a_fraction : Addr
  d_fraction : FuncData
  F_fraction : Fun K "fraction" "fraction" s_fraction a_fraction d_fraction
  b_fraction : Binds K d_fraction ["top", "bottom"] []
  m_fraction : mg "fraction" = some (.ref a_fraction)
  a_plus : Addr
  d_plus : FuncData
  F_plus : Fun K "plus" "plus" s_plus a_plus d_plus
  b_plus : Binds K d_plus ["one", "two"] []
  m_plus : mg "plus" = some (.ref a_plus)
  a_prefixes : Addr
  d_prefixes : FuncData
  F_prefixes : Fun K "prefixes" "prefixes" s_prefixes a_prefixes d_prefixes
  b_prefixes : Binds K d_prefixes ["wish", "shares"] []
  m_prefixes : mg "prefixes" = some (.ref a_prefixes)
  a_law_cell_at : Addr
  d_law_cell_at : FuncData
  F_law_cell_at : Fun K "_law_cell_at" "_law_cell_at" s_law_cell_at a_law_cell_at d_law_cell_at
  b_law_cell_at : Binds K d_law_cell_at ["_law_script", "_law_k"] []
  m_law_cell_at : mg "_law_cell_at" = some (.ref a_law_cell_at)
  a_law_mixed : Addr
  d_law_mixed : FuncData
  F_law_mixed : Fun K "_law_mixed" "_law_mixed" s_law_mixed a_law_mixed d_law_mixed
  b_law_mixed : Binds K d_law_mixed ["_law_cell", "_law_many"] []
  m_law_mixed : mg "_law_mixed" = some (.ref a_law_mixed)
  a_law_perm : Addr
  d_law_perm : FuncData
  F_law_perm : Fun K "_law_perm" "_law_perm" s_law_perm a_law_perm d_law_perm
  b_law_perm : Binds K d_law_perm ["_law_number", "_law_count"] []
  m_law_perm : mg "_law_perm" = some (.ref a_law_perm)
  a_law_divisor : Addr
  d_law_divisor : FuncData
  F_law_divisor : Fun K "_law_divisor" "_law_divisor" s_law_divisor a_law_divisor d_law_divisor
  b_law_divisor : Binds K d_law_divisor ["_law_one", "_law_other"] []
  m_law_divisor : mg "_law_divisor" = some (.ref a_law_divisor)
  a_law_lowest : Addr
  d_law_lowest : FuncData
  F_law_lowest : Fun K "_law_lowest" "_law_lowest" s_law_lowest a_law_lowest d_law_lowest
  b_law_lowest : Binds K d_law_lowest ["_law_top", "_law_bottom"] []
  m_law_lowest : mg "_law_lowest" = some (.ref a_law_lowest)
  a_law_sums : Addr
  d_law_sums : FuncData
  F_law_sums : Fun K "_law_sums" "_law_sums" s_law_sums a_law_sums d_law_sums
  b_law_sums : Binds K d_law_sums ["_law_script", "_law_at", "_law_count"] []
  m_law_sums : mg "_law_sums" = some (.ref a_law_sums)
  a_law_same : Addr
  d_law_same : FuncData
  F_law_same : Fun K "_law_same" "_law_same" s_law_same a_law_same d_law_same
  b_law_same : Binds K d_law_same ["_law_found", "_law_due"] []
  m_law_same : mg "_law_same" = some (.ref a_law_same)
  a_law : Addr
  d_law : FuncData
  F_law : Fun K "law" "law" s_law a_law d_law
  b_law : Binds K d_law ["_law_script"] []
  m_law : mg "law" = some (.ref a_law)
  z_abs : mg "abs" = none
  z_bool : mg "bool" = none
  z_int : mg "int" = none
  z_isinstance : mg "isinstance" = none
  z_len : mg "len" = none
  z_list : mg "list" = none
  z_range : mg "range" = none
  z_str : mg "str" = none
  z_tuple : mg "tuple" = none
  v_NONE : V
  u_NONE : Value
  m_NONE : mg "NONE" = some u_NONE
  r_NONE : RelV v_NONE u_NONE
  t_NONE : ∀ H : Hp, Dp K H v_NONE (.tuple [.int 0, .int 1])
end WL
namespace WL
open PySem L2
def R_common (ds : List PyData) (s : Sl) : Prop := ∃ a b : Int, ds = [.int a, .int b] ∧ s = .da (.int (Int.gcd a b))
theorem sc_common : FnScope ["one", "two"] ["one", "two"] (defScope s_common) := ⟨rfl, rfl, rfl, by decide +kernel, rfl, by decide +kernel, by decide +kernel⟩
theorem ok_common {P : Program} {w : World} {K : PySem.W.Frag} {mg : Str → Option Value} {base : Heap} (T : Txt K mg) : FnOk P w K mg base CX0 1 T.a_common T.d_common ["one", "two"] (spF K R_common) := by
  refine fn_ok T.F_common sc_common (by rintro _ _ ⟨_, _, rfl, _⟩; rfl) fun cdv A outer s H E hr => ⟨_, (pss_cons (ps_while PassesOwn.never (pt_cmpR (op_neK (K := K) hr.units) (pv 1) pe_int (nomark _)) (pss_one (ps_par (i := 0) (j := 1) (by rfl) sc_common.nd rfl rfl (by decide) rfl rfl (pa_cons (pv 1) (pa_cons (pe_op op_modN (pv 0) (pv 1)) pa_nil)) (by rfl))))
      (pss_one (ps_ret (pe_callB call_abs (by rfl) T.z_abs (by decide +kernel) (pa_cons (pv 0) pa_nil))))), ?_⟩
  rintro _ _ ⟨a, b, rfl, rfl⟩
  refine s_seq (s_while [] (fun m r => ∃ x y : Int, r = [.da (.int x), .da (.int y)] ∧ Int.gcd x y = Int.gcd a b ∧ m = y.natAbs) _ ⟨a, b, rfl, rfl, rfl⟩ ?_)
  rintro m r ⟨x, y, rfl, hg, rfl⟩
  refine ⟨_, xt_test (x_neI (x_var rfl) x_int), fun hb => ?_, fun hb => ?_⟩
  · have hy : y ≠ 0 := by simpa using hb
    exact s_par (x_var rfl) (x_fmod (x_var rfl) (x_var rfl) hy) ⟨_, fmod_lt hy, y, x.fmod y, rfl, by rw [gcd_fmod]; exact hg, rfl⟩
  · have hy : y = 0 := by simpa using hb
    subst hy
    refine s_ret (x_abs (x_var rfl)) ?_
    rw [← hg, Int.gcd_zero_right]
def R_fraction (ds : List PyData) (s : Sl) : Prop := ∃ a b : Int, ds = [.int a, .int b] ∧ b ≠ 0 ∧ b.natAbs.log2 < 9000 ∧ s = .da (fr (Rat.divInt a b))
theorem sc_fraction : FnScope ["top", "bottom", "by"] ["top", "bottom"] (defScope s_fraction) := ⟨rfl, rfl, rfl, by decide +kernel, rfl, by decide +kernel, by decide +kernel⟩
theorem ok_fraction {P : Program} {w : World} {K : PySem.W.Frag} {mg : Str → Option Value} {base : Heap} (T : Txt K mg) : FnOk P w K mg base CX0 2 T.a_fraction T.d_fraction ["top", "bottom"] (spF K R_fraction) := by
  have G_common := ok_common (P := P) (w := w) (base := base) T
  refine fn_ok T.F_fraction sc_fraction (by rintro _ _ ⟨_, _, rfl, _⟩; rfl) fun cdv A outer s H E hr => ⟨_, (pss_cons (ps_if (pt_cmpR (op_eqK (K := K) hr.units) (pv 1) pe_int (nomark _)) (pss_one ps_never) pss_nil)
      (pss_cons (ps_set (i := 2) sc_fraction.nd rfl (Or.inl rfl) (pe_call G_common (hr.mono (by decide)) (by rfl) T.m_common T.F_common.kp T.b_common .nil pass0 (pa_cons (pv 0) (pa_cons (pv 1) pa_nil))))
      (pss_cons (ps_if (pt_cmpR op_lt (pv 1) pe_int (nomark _)) (pss_one (ps_set (i := 2) sc_fraction.nd rfl (Or.inl rfl) (pe_op op_sub pe_int (pv 2)))) pss_nil)
      (pss_one (ps_ret (pe_tup (pa_cons (pe_op op_fdivG (pv 0) (pv 2)) (pa_cons (pe_op op_fdivG (pv 1) (pv 2)) pa_nil)))))))), ?_⟩
  rintro _ _ ⟨a, b, rfl, hb, hl, rfl⟩
  dsimp only [startR, List.map, List.length_cons, List.length_nil, List.replicate, List.cons_append, List.nil_append, Nat.reduceAdd, Nat.reduceSub]
  refine s_seq (s_if (xt_test (x_eqI (x_var rfl) x_int)) (fun h => absurd (of_decide_eq_true h) hb) fun _ => s_next ?_)
  refine s_seq (s_asg (x_call (ds := [.int a, .int b]) (by walk_at "xe") ⟨a, b, rfl, rfl⟩) ?_)
  have g0 := gcd_pos (a := a) hb
  have gl : (Int.gcd a b).log2 < 9000 := Nat.lt_of_le_of_lt (log_mono (gcd_le hb)) hl
  refine s_seqM (fun r => r = [.da (.int a), .da (.int b), .da (.int (if b < 0 then 0 - (Int.gcd a b : Int) else (Int.gcd a b : Int)))]) (s_if (xt_test (x_lt (x_var rfl) x_int)) (fun h => ?_) fun h => s_next ?_) ?_
  · refine s_asg (x_sub x_int (x_var rfl)) ?_
    rw [if_pos (of_decide_eq_true h)]
    rfl
  · rw [if_neg (of_decide_eq_false h)]
    rfl
  · rintro r rfl
    have e1 : (if b < 0 then 0 - (Int.gcd a b : Int) else (Int.gcd a b : Int)) ≠ 0 ∧ (if b < 0 then 0 - (Int.gcd a b : Int) else (Int.gcd a b : Int)).natAbs = Int.gcd a b := by split <;> omega
    refine s_ret (x_tup (xa_cons (x_fdiv (x_var rfl) (x_var rfl) ⟨e1.1, by rw [e1.2]; exact gl⟩) (xa_cons (x_fdiv (x_var rfl) (x_var rfl) ⟨e1.1, by rw [e1.2]; exact gl⟩) xa_nil)) (by simp)) ?_
    rw [frac_num hb, frac_den hb]
    rfl
theorem xnum {K : PySem.W.Frag} {ρ : List Sl} {i : Nat} {q : Rat} (h : ρ[i]? = some (.da (fr q))) : XE K (tOp (rIx K) (tVar i) (tC (.int 0))) ρ (.int q.num) := x_ix (ds := [.int q.num, .int q.den]) (xs_t (x_var h)) x_int rfl
theorem xden {K : PySem.W.Frag} {ρ : List Sl} {i : Nat} {q : Rat} (h : ρ[i]? = some (.da (fr q))) : XE K (tOp (rIx K) (tVar i) (tC (.int 1))) ρ (.int q.den) := x_ix (ds := [.int q.num, .int q.den]) (xs_t (x_var h)) x_int rfl
def R_plus (ds : List PyData) (s : Sl) : Prop := ∃ a b : Rat, ds = [fr a, fr b] ∧ Sm a ∧ Sm b ∧ s = .da (fr (a + b))
theorem sc_plus : FnScope ["one", "two"] ["one", "two"] (defScope s_plus) := ⟨rfl, rfl, rfl, by decide +kernel, rfl, by decide +kernel, by decide +kernel⟩
theorem ok_plus {P : Program} {w : World} {K : PySem.W.Frag} {mg : Str → Option Value} {base : Heap} (T : Txt K mg) : FnOk P w K mg base CX0 3 T.a_plus T.d_plus ["one", "two"] (spF K R_plus) := by
  have G_fraction := ok_fraction (P := P) (w := w) (base := base) T
  refine fn_ok T.F_plus sc_plus (by rintro _ _ ⟨_, _, rfl, _⟩; rfl) fun cdv A outer s H E hr => ⟨_, (pss_one (ps_ret (pe_call G_fraction (hr.mono (by decide)) (by rfl) T.m_fraction T.F_fraction.kp T.b_fraction .nil pass0 (pa_cons (pe_op (op_addK (K := K)) (pe_op op_mulX (pe_ix (ix_seqK (K := K)) (pv 0) pe_int (fun _ _ => rfl)) (pe_ix (ix_seqK (K := K)) (pv 1) pe_int (fun _ _ => rfl))) (pe_op op_mulX (pe_ix (ix_seqK (K := K)) (pv 1) pe_int (fun _ _ => rfl)) (pe_ix (ix_seqK (K := K)) (pv 0) pe_int (fun _ _ => rfl)))) (pa_cons (pe_op op_mulX (pe_ix (ix_seqK (K := K)) (pv 0) pe_int (fun _ _ => rfl)) (pe_ix (ix_seqK (K := K)) (pv 1) pe_int (fun _ _ => rfl))) pa_nil))))), ?_⟩
  rintro _ _ ⟨a, b, rfl, ha, hb, rfl⟩
  refine s_ret (x_call (R := R_fraction) (xa_cons (x_add (x_mul (xnum rfl) (xden rfl) (mul_w 4000 4000 ha.1 hb.2 (by decide))) (x_mul (xnum rfl) (xden rfl) (mul_w 4000 4000 hb.1 ha.2 (by decide)))) (xa_cons (x_mul (xden rfl) (xden rfl) (mul_w 4000 4000 ha.2 hb.2 (by decide))) xa_nil)) ⟨_, _, rfl, ?_, den_mul_log ha.2 hb.2, rfl⟩) ?_
  · have := den_mul_pos a b; omega
  · rw [plus_eq]
end WL

namespace WL
open PySem L2
/-! ### helpers of the laws -/
def cell (ns : List Int) (k : Nat) : Int := ns.getD k 0
def R_law_cell_at (ds : List PyData) (s : Sl) : Prop := ∃ (ns : List Int) (k : Nat), ds = [.list (ns.map .int), .int k] ∧ s = .da (.int (cell ns k))
theorem sc_law_cell_at : FnScope ["_law_script", "_law_k"] ["_law_script", "_law_k"] (defScope s_law_cell_at) := ⟨rfl, rfl, rfl, by decide +kernel, rfl, by decide +kernel, by decide +kernel⟩
theorem ok_law_cell_at {P : Program} {w : World} {K : PySem.W.Frag} {mg : Str → Option Value} {base : Heap} (T : Txt K mg) : FnOk P w K mg base CX0 1 T.a_law_cell_at T.d_law_cell_at ["_law_script", "_law_k"] (spF K R_law_cell_at) := by
  refine fn_ok T.F_law_cell_at sc_law_cell_at (by rintro _ _ ⟨_, _, rfl, _⟩; rfl) fun cdv A outer s H E hr => ⟨_, (pss_cons (ps_if (pt_cmpR op_lt (pv 1) (pe_callB (len_K (K := K)) (by rfl) T.z_len (by decide +kernel) (pa_cons (pv 0) pa_nil)) (nomark _)) (pss_one (ps_ret (pe_ix (ix_seqK (K := K)) (pv 0) (pv 1) (fun _ _ => rfl)))) pss_nil)
      (pss_one (ps_ret pe_int))), ?_⟩
  rintro _ _ ⟨ns, k, rfl, rfl⟩
  dsimp only [startR, List.map, List.length_cons, List.length_nil, List.replicate, List.cons_append, List.nil_append, Nat.reduceAdd, Nat.reduceSub]
  refine s_seq (s_if (xt_test (x_lt (x_var rfl) (x_len (xs_l (x_var rfl))))) (fun h => ?_) fun h => s_next ?_)
  · have h1 := of_decide_eq_true h
    rw [List.length_map] at h1
    have h2 : k < ns.length := by omega
    refine s_ret (x_ix (xs_l (x_var rfl)) (x_var rfl) (atI_map (atI_get' h2))) ?_
    unfold cell
    rw [List.getD_eq_getElem?_getD, List.getElem?_eq_getElem h2]
    rfl
  · have h1 := of_decide_eq_false h
    rw [List.length_map] at h1
    refine s_ret x_int ?_
    unfold cell
    rw [List.getD_eq_getElem?_getD, List.getElem?_eq_none (by omega)]
    rfl
end WL

namespace WL
open PySem L2
/-- the numbers drawn of a cell -/
def mxO (c : Int) : Nat → Int
  | 0 => c / 2
  | i + 1 => mxO c i / 5040
def mxE (c : Int) : Nat → Int
  | 0 => (c / 2 % 2147483647 * 16807 + 11) % 2147483647
  | i + 1 => (mxE c i * mxE c i + 48271 * mxE c i + i + 1) % 2147483647
def mixed (c : Int) (m : Nat) : List Int := if c % 2 = 1 then (List.range m).map fun j => mxO c j % 5040 else (List.range m).map fun j => mxE c (j + 1)
theorem mxE_nn (c : Int) (i : Nat) : 0 ≤ mxE c i ∧ mxE c i < 2147483647 := by cases i <;> (unfold mxE; omega)
theorem mixed_len (c : Int) (m : Nat) : (mixed c m).length = m := by unfold mixed; split <;> simp
theorem mixed_mem {c : Int} {m : Nat} {v : Int} (h : v ∈ mixed c m) : 0 ≤ v ∧ v < 2147483647 := by
  unfold mixed at h
  split at h
  · obtain ⟨j, _, rfl⟩ := List.mem_map.mp h
    omega
  · obtain ⟨j, _, rfl⟩ := List.mem_map.mp h
    exact mxE_nn c _
def R_law_mixed (ds : List PyData) (s : Sl) : Prop := ∃ (c : Int) (m : Nat), ds = [.int c, .int m] ∧ m ≤ 100 ∧ s = .ow ((mixed c m).map .int)
theorem sc_law_mixed : FnScope ["_law_cell", "_law_many", "_law_found", "_law_number", "_law_k"] ["_law_cell", "_law_many"] (defScope s_law_mixed) := ⟨rfl, rfl, rfl, by decide +kernel, rfl, by decide +kernel, by decide +kernel⟩
theorem ok_law_mixed {P : Program} {w : World} {K : PySem.W.Frag} {mg : Str → Option Value} {base : Heap} (T : Txt K mg) : FnOk P w K mg base CX0 1 T.a_law_mixed T.d_law_mixed ["_law_cell", "_law_many"] (spF K R_law_mixed) := by
  refine fn_ok T.F_law_mixed sc_law_mixed (by rintro _ _ ⟨_, _, rfl, _⟩; rfl) fun cdv A outer s H E hr => ⟨_, (pss_cons (ps_set (i := 2) sc_law_mixed.nd rfl (Or.inl rfl) (pe_lst pa_nil))
      (pss_cons (ps_set (i := 3) sc_law_mixed.nd rfl (Or.inl rfl) (pe_op op_fdivG (pv 0) pe_int))
      (pss_cons (ps_if (pt_cmpR (op_eqK (K := K) hr.units) (pe_op op_modN (pv 0) pe_int) pe_int (nomark _)) (pss_cons (ps_for PassesOwn.never rfl (pi_range1 (by rfl) T.z_range (pa_cons (pv 1) pa_nil)) (pg_name (i := 4) sc_law_mixed.nd rfl (Or.inl rfl)) (pss_cons (ps_expr (pe_bm PySem.F.plainAttrs_list PySem.F.slot_list_append PySem.F.type_list_append mt_append (pv 2) (pa_cons (pe_op op_modN (pv 3) pe_int) pa_nil)))
      (pss_one (ps_set (i := 3) sc_law_mixed.nd rfl (Or.inl rfl) (pe_op op_fdivG (pv 3) pe_int)))))
      (pss_one (ps_ret (pv 2)))) pss_nil)
      (pss_cons (ps_set (i := 3) sc_law_mixed.nd rfl (Or.inl rfl) (pe_op op_modN (pe_op (op_addK (K := K)) (pe_op op_mulX (pe_op op_modN (pv 3) pe_int) pe_int) pe_int) pe_int))
      (pss_cons (ps_for PassesOwn.never rfl (pi_range1 (by rfl) T.z_range (pa_cons (pv 1) pa_nil)) (pg_name (i := 4) sc_law_mixed.nd rfl (Or.inl rfl)) (pss_cons (ps_set (i := 3) sc_law_mixed.nd rfl (Or.inl rfl) (pe_op op_modN (pe_op (op_addK (K := K)) (pe_op (op_addK (K := K)) (pe_op (op_addK (K := K)) (pe_op op_mulX (pv 3) (pv 3)) (pe_op op_mulX pe_int (pv 3))) (pv 4)) pe_int) pe_int))
      (pss_one (ps_expr (pe_bm PySem.F.plainAttrs_list PySem.F.slot_list_append PySem.F.type_list_append mt_append (pv 2) (pa_cons (pv 3) pa_nil))))))
      (pss_one (ps_ret (pv 2)))))))), ?_⟩
  rintro _ _ ⟨c, m, rfl, hm, rfl⟩
  dsimp only [startR, List.map, List.length_cons, List.length_nil, List.replicate, List.cons_append, List.nil_append, Nat.reduceAdd, Nat.reduceSub]
  refine s_seq (s_asg (x_lst xa_nil (by simp)) ?_)
  refine s_seq (s_asg (x_div (x_var rfl) x_int (by decide) (by decide)) ?_)
  refine s_seq (s_if (xt_test (x_eqI (x_mod (x_var rfl) x_int (by decide)) x_int)) (fun h => ?_) fun h => s_next ?_)
  · have h1 := of_decide_eq_true h
    refine s_seq (s_range (n := m) [4] (fun i r => r = [.da (.int c), .da (.int m), .ow (((List.range i).map fun j => mxO c j % 5040).map .int), .da (.int (mxO c i)), .un]) (xa_cons (x_var rfl) xa_nil) (by omega) rfl (fun i r hi hr => ?_) fun r hr => ?_)
    · subst hr
      refine wg_name ?_
      refine s_seq (s_append (by rfl) (x_mod (x_var rfl) x_int (by decide)) (by simp; omega) ?_)
      refine s_asg (x_div (x_var rfl) x_int (by decide) (by decide)) ?_
      simp only [List.range_succ, List.map_append]
      rfl
    · subst hr
      refine s_retv (i := 2) rfl (by intro z; cases z) ?_
      unfold mixed
      rw [if_pos h1, Int.toNat_natCast]
  · have h1 := of_decide_eq_false h
    refine s_seq (s_asg (x_mod (x_add (x_mul (x_mod (x_var rfl) x_int (by decide)) x_int (mul_s (.inr (by decide)))) x_int) x_int (by decide)) ?_)
    refine s_seq (s_range (n := m) [4] (fun i r => r = [.da (.int c), .da (.int m), .ow (((List.range i).map fun j => mxE c (j + 1)).map .int), .da (.int (mxE c i)), .un]) (xa_cons (x_var rfl) xa_nil) (by omega) rfl (fun i r hi hr => ?_) fun r hr => ?_)
    · subst hr
      have hb := mxE_nn c i
      refine wg_name ?_
      refine s_seq (s_asg (x_mod (x_add (x_add (x_add (x_mul (x_var rfl) (x_var rfl) (mul_s (.inl (by omega)))) (x_mul x_int (x_var rfl) (mul_s (.inl (by decide))))) (x_var rfl)) x_int) x_int (by decide)) ?_)
      refine s_append (by rfl) (x_var rfl) (by simp; omega) ?_
      simp only [List.range_succ, List.map_append]
      rfl
    · subst hr
      refine s_retv (i := 2) rfl (by intro z; cases z) ?_
      unfold mixed
      rw [if_neg h1, Int.toNat_natCast]
end WL

namespace WL
open PySem L2
def pmN (n : Int) : Nat → Int
  | 0 => n
  | i + 1 => pmN n i / ((i : Int) + 1)
/-- a drawn order of 0 .. c - 1 -/
def perm (n : Int) : Nat → List Nat
  | 0 => []
  | i + 1 => (perm n i).take (pmN n i % ((i : Int) + 1)).toNat ++ [i] ++ (perm n i).drop (pmN n i % ((i : Int) + 1)).toNat
theorem perm_perm (n : Int) : ∀ c, (perm n c).Perm (List.range c)
  | 0 => .refl _
  | i + 1 => by
    rw [List.range_succ]
    unfold perm
    refine List.Perm.trans (l₂ := i :: perm n i) ?_ (List.Perm.trans ((perm_perm n i).cons i) (List.perm_append_comm (l₁ := [i])))
    rw [List.append_assoc]
    refine List.perm_append_comm_assoc _ _ _ |>.trans ?_
    rw [List.take_append_drop]
    exact .refl _
theorem perm_len (n : Int) (c : Nat) : (perm n c).length = c := by rw [(perm_perm n c).length_eq, List.length_range]
theorem perm_mem {n : Int} {c t : Nat} : t ∈ perm n c ↔ t < c := by rw [(perm_perm n c).mem_iff, List.mem_range]
theorem perm_nodup (n : Int) (c : Nat) : (perm n c).Nodup := (perm_perm n c).nodup_iff.mpr List.nodup_range
def R_law_perm (ds : List PyData) (s : Sl) : Prop := ∃ (n : Int) (c : Nat), ds = [.int n, .int c] ∧ c ≤ 100 ∧ s = .ow ((perm n c).map nat_)
theorem sc_law_perm : FnScope ["_law_number", "_law_count", "_law_found", "_law_k"] ["_law_number", "_law_count"] (defScope s_law_perm) := ⟨rfl, rfl, rfl, by decide +kernel, rfl, by decide +kernel, by decide +kernel⟩
theorem ok_law_perm {P : Program} {w : World} {K : PySem.W.Frag} {mg : Str → Option Value} {base : Heap} (T : Txt K mg) : FnOk P w K mg base CX0 1 T.a_law_perm T.d_law_perm ["_law_number", "_law_count"] (spF K R_law_perm) := by
  refine fn_ok T.F_law_perm sc_law_perm (by rintro _ _ ⟨_, _, rfl, _⟩; rfl) fun cdv A outer s H E hr => ⟨_, (pss_cons (ps_set (i := 2) sc_law_perm.nd rfl (Or.inl rfl) (pe_lst pa_nil))
      (pss_cons (ps_for PassesOwn.never rfl (pi_range1 (by rfl) T.z_range (pa_cons (pv 1) pa_nil)) (pg_name (i := 3) sc_law_perm.nd rfl (Or.inl rfl)) (pss_cons (ps_expr (pe_bm PySem.F.plainAttrs_list PySem.F.slot_list_insert PySem.F.type_list_insert mt_insert (pv 2) (pa_cons (pe_op op_modN (pv 0) (pe_op (op_addK (K := K)) (pv 3) pe_int)) (pa_cons (pv 3) pa_nil))))
      (pss_one (ps_set (i := 0) sc_law_perm.nd rfl (Or.inl rfl) (pe_op op_fdivG (pv 0) (pe_op (op_addK (K := K)) (pv 3) pe_int))))))
      (pss_one (ps_ret (pv 2))))), ?_⟩
  rintro _ _ ⟨n, c, rfl, hc, rfl⟩
  dsimp only [startR, List.map, List.length_cons, List.length_nil, List.replicate, List.cons_append, List.nil_append, Nat.reduceAdd, Nat.reduceSub]
  refine s_seq (s_asg (x_lst xa_nil (by simp)) ?_)
  refine s_seq (s_range (n := c) [3] (fun i r => r = [.da (.int (pmN n i)), .da (.int c), .ow ((perm n i).map nat_), .un]) (xa_cons (x_var rfl) xa_nil) (by omega) rfl (fun i r hi hr => ?_) fun r hr => ?_)
  · subst hr
    have h0 : 0 ≤ pmN n i % ((i : Int) + 1) := Int.emod_nonneg _ (by omega)
    have h1 : pmN n i % ((i : Int) + 1) < (i : Int) + 1 := Int.emod_lt_of_pos _ (by omega)
    refine wg_name ?_
    refine s_seq (s_insert (by rfl) (x_mod (x_var rfl) (x_add (x_var rfl) x_int) (by omega)) (x_var rfl) (by rw [List.length_map, perm_len]; omega) ⟨h0, by omega⟩ ?_)
    refine s_asg (x_div (x_var rfl) (x_add (x_var rfl) x_int) (by omega) (Nat.lt_trans (log_lt (k := 60) (by omega) (by decide)) (by decide))) ?_
    rw [← List.map_take, ← List.map_drop]
    show [Sl.da _, _, Sl.ow _, _] = _
    have e : (perm n i).take (pmN n i % ((i : Int) + 1)).toNat ++ [i] ++ (perm n i).drop (pmN n i % ((i : Int) + 1)).toNat = perm n (i + 1) := rfl
    rw [← e]
    simp only [List.map_append]
    rfl
  · subst hr
    exact s_retv (i := 2) rfl (by intro z; cases z) rfl
end WL

namespace WL
open PySem L2
def R_law_divisor (ds : List PyData) (s : Sl) : Prop := ∃ a b : Int, ds = [.int a, .int b] ∧ s = .da (.int (Int.gcd a b))
theorem sc_law_divisor : FnScope ["_law_one", "_law_other", "_law_rest"] ["_law_one", "_law_other"] (defScope s_law_divisor) := ⟨rfl, rfl, rfl, by decide +kernel, rfl, by decide +kernel, by decide +kernel⟩
theorem ok_law_divisor {P : Program} {w : World} {K : PySem.W.Frag} {mg : Str → Option Value} {base : Heap} (T : Txt K mg) : FnOk P w K mg base CX0 1 T.a_law_divisor T.d_law_divisor ["_law_one", "_law_other"] (spF K R_law_divisor) := by
  refine fn_ok T.F_law_divisor sc_law_divisor (by rintro _ _ ⟨_, _, rfl, _⟩; rfl) fun cdv A outer s H E hr => ⟨_, (pss_cons (ps_while PassesOwn.never (pt_cmpR (op_neK (K := K) hr.units) (pv 1) pe_int (nomark _)) (pss_cons (ps_set (i := 2) sc_law_divisor.nd rfl (Or.inl rfl) (pe_op op_modN (pv 0) (pv 1)))
      (pss_cons (ps_set (i := 0) sc_law_divisor.nd rfl (Or.inl rfl) (pv 1))
      (pss_one (ps_set (i := 1) sc_law_divisor.nd rfl (Or.inl rfl) (pv 2))))))
      (pss_one (ps_ret (pe_callB call_abs (by rfl) T.z_abs (by decide +kernel) (pa_cons (pv 0) pa_nil))))), ?_⟩
  rintro _ _ ⟨a, b, rfl, rfl⟩
  dsimp only [startR, List.map, List.length_cons, List.length_nil, List.replicate, List.cons_append, List.nil_append, Nat.reduceAdd, Nat.reduceSub]
  refine s_seq (s_while [2] (fun m r => ∃ x y : Int, r = [.da (.int x), .da (.int y), .un] ∧ Int.gcd x y = Int.gcd a b ∧ m = y.natAbs) _ ⟨a, b, rfl, rfl, rfl⟩ ?_)
  rintro m r ⟨x, y, rfl, hg, rfl⟩
  refine ⟨_, xt_test (x_neI (x_var rfl) x_int), fun hb => ?_, fun hb => ?_⟩
  · have hy : y ≠ 0 := by simpa using hb
    refine s_seq (s_asg (x_fmod (x_var rfl) (x_var rfl) hy) ?_)
    refine s_seq (s_asg (x_var rfl) ?_)
    exact s_asg (x_var rfl) ⟨_, fmod_lt hy, y, x.fmod y, rfl, by rw [gcd_fmod]; exact hg, rfl⟩
  · have hy : y = 0 := by simpa using hb
    subst hy
    refine s_ret (x_abs (x_var rfl)) ?_
    rw [← hg, Int.gcd_zero_right]
theorem never_law_lowest {P : Program} {w : World} {K : PySem.W.Frag} {mg : Str → Option Value} {base : Heap} (T : Txt K mg) : FnOk P w K mg base CX0 0 T.a_law_lowest T.d_law_lowest ["_law_top", "_law_bottom"] (spF K fun _ _ => False) := fn_never
def R_law_lowest (ds : List PyData) (s : Sl) : Prop := ∃ a b : Int, ds = [.int a, .int b] ∧ 0 < b ∧ b.natAbs.log2 < 9000 ∧ s = .da (fr (Rat.divInt a b))
theorem sc_law_lowest : FnScope ["_law_top", "_law_bottom", "_law_share"] ["_law_top", "_law_bottom"] (defScope s_law_lowest) := ⟨rfl, rfl, rfl, by decide +kernel, rfl, by decide +kernel, by decide +kernel⟩
theorem ok_law_lowest {P : Program} {w : World} {K : PySem.W.Frag} {mg : Str → Option Value} {base : Heap} (T : Txt K mg) : FnOk P w K mg base CX0 2 T.a_law_lowest T.d_law_lowest ["_law_top", "_law_bottom"] (spF K R_law_lowest) := by
  have G_law_divisor := ok_law_divisor (P := P) (w := w) (base := base) T
  have G_law_lowest := never_law_lowest (P := P) (w := w) (base := base) T
  refine fn_ok T.F_law_lowest sc_law_lowest (by rintro _ _ ⟨_, _, rfl, _⟩; rfl) fun cdv A outer s H E hr => ⟨_, (pss_cons (ps_if (pt_cmpR op_lt (pv 1) pe_int (nomark _)) (pss_one (ps_ret (pe_call G_law_lowest (hr.mono (by decide)) (by rfl) T.m_law_lowest T.F_law_lowest.kp T.b_law_lowest .nil pass0 (pa_cons (pe_op op_sub pe_int (pv 0)) (pa_cons (pe_op op_sub pe_int (pv 1)) pa_nil))))) pss_nil)
      (pss_cons (ps_if (pt_cmpR (op_eqK (K := K) hr.units) (pv 1) pe_int (nomark _)) (pss_one (ps_set (i := 1) sc_law_lowest.nd rfl (Or.inl rfl) pe_int)) pss_nil)
      (pss_cons (ps_set (i := 2) sc_law_lowest.nd rfl (Or.inl rfl) (pe_call G_law_divisor (hr.mono (by decide)) (by rfl) T.m_law_divisor T.F_law_divisor.kp T.b_law_divisor .nil pass0 (pa_cons (pv 0) (pa_cons (pv 1) pa_nil))))
      (pss_one (ps_ret (pe_tup (pa_cons (pe_op op_fdivG (pv 0) (pv 2)) (pa_cons (pe_op op_fdivG (pv 1) (pv 2)) pa_nil)))))))), ?_⟩
  rintro _ _ ⟨a, b, rfl, hb, hl, rfl⟩
  dsimp only [startR, List.map, List.length_cons, List.length_nil, List.replicate, List.cons_append, List.nil_append, Nat.reduceAdd, Nat.reduceSub]
  refine s_seq (s_if (xt_test (x_lt (x_var rfl) x_int)) (fun h => absurd (of_decide_eq_true h) (by omega)) fun _ => s_next ?_)
  refine s_seq (s_if (xt_test (x_eqI (x_var rfl) x_int)) (fun h => absurd (of_decide_eq_true h) (by omega)) fun _ => s_next ?_)
  refine s_seq (s_asg (x_call (xa_cons (x_var rfl) (xa_cons (x_var rfl) xa_nil)) ⟨a, b, rfl, rfl⟩) ?_)
  have g0 := gcd_pos (a := a) (b := b) (by omega)
  have gl : (Int.gcd a b).log2 < 9000 := Nat.lt_of_le_of_lt (log_mono (gcd_le (by omega))) hl
  refine s_ret (x_tup (xa_cons (x_div (x_var rfl) (x_var rfl) (by omega) (by rw [Int.natAbs_natCast]; exact gl)) (xa_cons (x_div (x_var rfl) (x_var rfl) (by omega) (by rw [Int.natAbs_natCast]; exact gl)) xa_nil)) (by simp)) ?_
  obtain ⟨e1, e2⟩ := frac_pos (a := a) hb
  rw [e1, e2]
  rfl
end WL

namespace WL
open PySem L2
def R_law_same (n : Nat) (ds : List PyData) (s : Sl) : Prop := ∃ d, ds = [d, d] ∧ Ds n d ∧ s = .da (.bool true)
theorem x_neB {K : PySem.W.Frag} {ρ : List Sl} {ta tb : TE} {i j : Bool} (ha : XE K ta ρ (.bool i)) (hb : XE K tb ρ (.bool j)) : XE K (tOp (rNeD K) ta tb) ρ (.bool (!(i == j))) := x_ne (xp_e ha) (xp_e hb) (by rfl) (by rfl)
theorem x_eqB {K : PySem.W.Frag} {ρ : List Sl} {ta tb : TE} {i j : Bool} (ha : XE K ta ρ (.bool i)) (hb : XE K tb ρ (.bool j)) : XE K (tOp (rEqD K) ta tb) ρ (.bool (i == j)) := x_eq (xp_e ha) (xp_e hb) (by rfl) (by rfl)
theorem x_eqS {K : PySem.W.Frag} {ρ : List Sl} {ta tb : TE} {i j : Str} (ha : XE K ta ρ (.str i)) (hb : XE K tb ρ (.str j)) (hi : SeqAt.shaped (.str i) = true) (hj : SeqAt.shaped (.str j) = true) : XE K (tOp (rEqD K) ta tb) ρ (.bool (i == j)) := x_eq (xp_e ha) (xp_e hb) hi hj
theorem sc_law_same : FnScope ["_law_found", "_law_due", "_law_k"] ["_law_found", "_law_due"] (defScope s_law_same) := ⟨rfl, rfl, rfl, by decide +kernel, rfl, by decide +kernel, by decide +kernel⟩
theorem same_step {P : Program} {w : World} {K : PySem.W.Frag} {mg : Str → Option Value} {base : Heap} (T : Txt K mg) {n : Nat} (G_law_same : FnOk P w K mg base CX0 n T.a_law_same T.d_law_same ["_law_found", "_law_due"] (spF K (R_law_same n))) : FnOk P w K mg base CX0 (n + 1) T.a_law_same T.d_law_same ["_law_found", "_law_due"] (spF K (R_law_same (n + 1))) := by
  refine fn_ok T.F_law_same sc_law_same (by rintro _ _ ⟨_, rfl, _⟩; rfl) fun cdv A outer s H E hr => ⟨_, (pss_cons (ps_if (PW.pt (pw_or (pt_val (pe_callB (isi_K (K := K)) (by rfl) T.z_isinstance (by decide +kernel) (pa_cons (pv 1) (pa_cons (pe_bltn (v := .ty "tuple") (by rfl) T.z_tuple (by decide +kernel) rfl) pa_nil)))) (pw_or1 (pt_val (pe_callB (isi_K (K := K)) (by rfl) T.z_isinstance (by decide +kernel) (pa_cons (pv 1) (pa_cons (pe_bltn (v := .ty "list") (by rfl) T.z_list (by decide +kernel) rfl) pa_nil))))))) (pss_cons (ps_if (PW.pt (pw_or (pt_cmpR (op_neK (K := K) hr.units) (pe_callB (isi_K (K := K)) (by rfl) T.z_isinstance (by decide +kernel) (pa_cons (pv 0) (pa_cons (pe_bltn (v := .ty "tuple") (by rfl) T.z_tuple (by decide +kernel) rfl) pa_nil))) (pe_callB (isi_K (K := K)) (by rfl) T.z_isinstance (by decide +kernel) (pa_cons (pv 1) (pa_cons (pe_bltn (v := .ty "tuple") (by rfl) T.z_tuple (by decide +kernel) rfl) pa_nil))) (nomark _)) (pw_or1 (pt_cmpR (op_neK (K := K) hr.units) (pe_callB (isi_K (K := K)) (by rfl) T.z_isinstance (by decide +kernel) (pa_cons (pv 0) (pa_cons (pe_bltn (v := .ty "list") (by rfl) T.z_list (by decide +kernel) rfl) pa_nil))) (pe_callB (isi_K (K := K)) (by rfl) T.z_isinstance (by decide +kernel) (pa_cons (pv 1) (pa_cons (pe_bltn (v := .ty "list") (by rfl) T.z_list (by decide +kernel) rfl) pa_nil))) (nomark _))))) (pss_one (ps_ret pe_bl)) pss_nil)
      (pss_cons (ps_if (pt_cmpR (op_neK (K := K) hr.units) (pe_callB (len_K (K := K)) (by rfl) T.z_len (by decide +kernel) (pa_cons (pv 0) pa_nil)) (pe_callB (len_K (K := K)) (by rfl) T.z_len (by decide +kernel) (pa_cons (pv 1) pa_nil)) (nomark _)) (pss_one (ps_ret pe_bl)) pss_nil)
      (pss_cons (ps_for PassesOwn.never rfl (pi_range1 (by rfl) T.z_range (pa_cons (pe_callB (len_K (K := K)) (by rfl) T.z_len (by decide +kernel) (pa_cons (pv 1) pa_nil)) pa_nil)) (pg_name (i := 2) sc_law_same.nd rfl (Or.inl rfl)) (pss_one (ps_if (pt_not (pt_val (pe_call G_law_same (hr.mono (Nat.le_refl _)) (by rfl) T.m_law_same T.F_law_same.kp T.b_law_same .nil pass0 (pa_cons (pe_ix (ix_seqK (K := K)) (pv 0) (pv 2) (fun _ _ => rfl)) (pa_cons (pe_ix (ix_seqK (K := K)) (pv 1) (pv 2) (fun _ _ => rfl)) pa_nil))))) (pss_one (ps_ret pe_bl)) pss_nil)))
      (pss_one (ps_ret pe_bl))))) pss_nil)
      (pss_cons (ps_if (pt_val (pe_callB (isi_K (K := K)) (by rfl) T.z_isinstance (by decide +kernel) (pa_cons (pv 1) (pa_cons (pe_bltn (v := .ty "bool") (by rfl) T.z_bool (by decide +kernel) rfl) pa_nil)))) (pss_one (ps_ret (pe_and (pe_callB (isi_K (K := K)) (by rfl) T.z_isinstance (by decide +kernel) (pa_cons (pv 0) (pa_cons (pe_bltn (v := .ty "bool") (by rfl) T.z_bool (by decide +kernel) rfl) pa_nil))) (pe_one (pe_cmpR (op_eqK (K := K) hr.units) (pv 0) (pv 1) (nomark _)))))) pss_nil)
      (pss_cons (ps_if (pt_val (pe_callB (isi_K (K := K)) (by rfl) T.z_isinstance (by decide +kernel) (pa_cons (pv 1) (pa_cons (pe_bltn (v := .ty "int") (by rfl) T.z_int (by decide +kernel) rfl) pa_nil)))) (pss_one (ps_ret (pe_and (pe_callB (isi_K (K := K)) (by rfl) T.z_isinstance (by decide +kernel) (pa_cons (pv 0) (pa_cons (pe_bltn (v := .ty "int") (by rfl) T.z_int (by decide +kernel) rfl) pa_nil))) (pe_and (pe_not (pe_callB (isi_K (K := K)) (by rfl) T.z_isinstance (by decide +kernel) (pa_cons (pv 0) (pa_cons (pe_bltn (v := .ty "bool") (by rfl) T.z_bool (by decide +kernel) rfl) pa_nil)))) (pe_one (pe_cmpR (op_eqK (K := K) hr.units) (pv 0) (pv 1) (nomark _))))))) pss_nil)
      (pss_cons (ps_if (pt_val (pe_callB (isi_K (K := K)) (by rfl) T.z_isinstance (by decide +kernel) (pa_cons (pv 1) (pa_cons (pe_bltn (v := .ty "str") (by rfl) T.z_str (by decide +kernel) rfl) pa_nil)))) (pss_one (ps_ret (pe_and (pe_callB (isi_K (K := K)) (by rfl) T.z_isinstance (by decide +kernel) (pa_cons (pv 0) (pa_cons (pe_bltn (v := .ty "str") (by rfl) T.z_str (by decide +kernel) rfl) pa_nil))) (pe_one (pe_cmpR (op_eqK (K := K) hr.units) (pv 0) (pv 1) (nomark _)))))) pss_nil)
      (pss_one (ps_ret (pe_and (pe_cmpR op_isN (pv 1) pe_non (nomark _)) (pe_one (pe_cmpR op_isN (pv 0) pe_non (nomark _)))))))))), ?_⟩
  rintro _ _ ⟨d, rfl, hd, rfl⟩
  dsimp only [startR, List.map, List.length_cons, List.length_nil, List.replicate, List.cons_append, List.nil_append, Nat.reduceAdd, Nat.reduceSub]
  have isi : ∀ {ρ : List Sl} {i : Nat} (S T : String) (b : Bool), ρ[i]? = some (.da d) → tyD d = S → kitB S T = some b → XE K (tCB (rIsi K) (tCons (tVar i) (tCons (tC (.ty T)) tNil))) ρ (.bool b) := fun S T b h e k => x_isi (xp_e (x_var h)) (by rw [e]; exact k)
  cases d with
  | list ds =>
    refine s_seq (s_if (xt_or (xt_B (isi "list" "tuple" false rfl rfl (by decide +kernel))) fun _ => xt_B (isi "list" "list" true rfl rfl (by decide +kernel))) (fun _ => ?_) fun h => absurd h (by decide))
    refine s_seq (s_if (xt_or (xt_test (x_neB (isi "list" "tuple" false rfl rfl (by decide +kernel)) (isi "list" "tuple" false rfl rfl (by decide +kernel)))) fun _ => xt_test (x_neB (isi "list" "list" true rfl rfl (by decide +kernel)) (isi "list" "list" true rfl rfl (by decide +kernel)))) (fun h => absurd h (by decide)) fun _ => s_next ?_)
    refine s_seq (s_if (xt_test (x_neI (x_len (xs_l (x_var rfl))) (x_len (xs_l (x_var rfl))))) (fun h => absurd h (by simp)) fun _ => s_next ?_)
    refine s_seq (s_range (n := ds.length) [2] (fun i r => r = [.da (.list ds), .da (.list ds), .un]) (xa_cons (x_len (xs_l (x_var rfl))) xa_nil) (by have := hd.1; omega) rfl (fun i r hi hr => ?_) fun r hr => ?_)
    · subst hr
      have hi2 : i < ds.length := by omega
      refine wg_name ?_
      refine s_if (xt_not (xt_B (x_call (xa_cons (x_ix (xs_l (x_var rfl)) (x_var rfl) (atI_get' hi2)) (xa_cons (x_ix (xs_l (x_var rfl)) (x_var rfl) (atI_get' hi2)) xa_nil)) ⟨_, rfl, hd.2 _ (List.getElem_mem _), rfl⟩))) (fun h => absurd h (by decide)) fun _ => s_next rfl
    · subst hr
      exact s_ret x_bl rfl
  | tuple ds =>
    refine s_seq (s_if (xt_or (xt_B (isi "tuple" "tuple" true rfl rfl (by decide +kernel))) fun _ => xt_B (isi "tuple" "list" false rfl rfl (by decide +kernel))) (fun _ => ?_) fun h => absurd h (by decide))
    refine s_seq (s_if (xt_or (xt_test (x_neB (isi "tuple" "tuple" true rfl rfl (by decide +kernel)) (isi "tuple" "tuple" true rfl rfl (by decide +kernel)))) fun _ => xt_test (x_neB (isi "tuple" "list" false rfl rfl (by decide +kernel)) (isi "tuple" "list" false rfl rfl (by decide +kernel)))) (fun h => absurd h (by decide)) fun _ => s_next ?_)
    refine s_seq (s_if (xt_test (x_neI (x_len (xs_t (x_var rfl))) (x_len (xs_t (x_var rfl))))) (fun h => absurd h (by simp)) fun _ => s_next ?_)
    refine s_seq (s_range (n := ds.length) [2] (fun i r => r = [.da (.tuple ds), .da (.tuple ds), .un]) (xa_cons (x_len (xs_t (x_var rfl))) xa_nil) (by have := hd.1; omega) rfl (fun i r hi hr => ?_) fun r hr => ?_)
    · subst hr
      have hi2 : i < ds.length := by omega
      refine wg_name ?_
      refine s_if (xt_not (xt_B (x_call (xa_cons (x_ix (xs_t (x_var rfl)) (x_var rfl) (atI_get' hi2)) (xa_cons (x_ix (xs_t (x_var rfl)) (x_var rfl) (atI_get' hi2)) xa_nil)) ⟨_, rfl, hd.2 _ (List.getElem_mem _), rfl⟩))) (fun h => absurd h (by decide)) fun _ => s_next rfl
    · subst hr
      exact s_ret x_bl rfl
  | bool b =>
    refine s_seq (s_if (xt_or (xt_B (isi "bool" "tuple" false rfl rfl (by decide +kernel))) fun _ => xt_B (isi "bool" "list" false rfl rfl (by decide +kernel))) (fun h => absurd h (by decide)) fun _ => s_next ?_)
    exact s_seq (s_if (xt_B (isi "bool" "bool" true rfl rfl (by decide +kernel))) (fun _ => s_ret (x_and (isi "bool" "bool" true rfl rfl (by decide +kernel)) fun _ => x_eqB (x_var rfl) (x_var rfl)) (by simp)) fun h => absurd h (by decide))
  | int z =>
    refine s_seq (s_if (xt_or (xt_B (isi "int" "tuple" false rfl rfl (by decide +kernel))) fun _ => xt_B (isi "int" "list" false rfl rfl (by decide +kernel))) (fun h => absurd h (by decide)) fun _ => s_next ?_)
    refine s_seq (s_if (xt_B (isi "int" "bool" false rfl rfl (by decide +kernel))) (fun h => absurd h (by decide)) fun _ => s_next ?_)
    exact s_seq (s_if (xt_B (isi "int" "int" true rfl rfl (by decide +kernel))) (fun _ => s_ret (x_and (isi "int" "int" true rfl rfl (by decide +kernel)) fun _ => x_and (x_not (isi "int" "bool" false rfl rfl (by decide +kernel))) fun _ => x_eqI (x_var rfl) (x_var rfl)) (by simp)) fun h => absurd h (by decide))
  | str z =>
    refine s_seq (s_if (xt_or (xt_B (isi "str" "tuple" false rfl rfl (by decide +kernel))) fun _ => xt_B (isi "str" "list" false rfl rfl (by decide +kernel))) (fun h => absurd h (by decide)) fun _ => s_next ?_)
    refine s_seq (s_if (xt_B (isi "str" "bool" false rfl rfl (by decide +kernel))) (fun h => absurd h (by decide)) fun _ => s_next ?_)
    refine s_seq (s_if (xt_B (isi "str" "int" false rfl rfl (by decide +kernel))) (fun h => absurd h (by decide)) fun _ => s_next ?_)
    exact s_seq (s_if (xt_B (isi "str" "str" true rfl rfl (by decide +kernel))) (fun _ => s_ret (x_and (isi "str" "str" true rfl rfl (by decide +kernel)) fun _ => x_eqS (x_var rfl) (x_var rfl) hd hd) (by simp)) fun h => absurd h (by decide))
  | none =>
    refine s_seq (s_if (xt_or (xt_B (isi "NoneType" "tuple" false rfl rfl (by decide +kernel))) fun _ => xt_B (isi "NoneType" "list" false rfl rfl (by decide +kernel))) (fun h => absurd h (by decide)) fun _ => s_next ?_)
    refine s_seq (s_if (xt_B (isi "NoneType" "bool" false rfl rfl (by decide +kernel))) (fun h => absurd h (by decide)) fun _ => s_next ?_)
    refine s_seq (s_if (xt_B (isi "NoneType" "int" false rfl rfl (by decide +kernel))) (fun h => absurd h (by decide)) fun _ => s_next ?_)
    refine s_seq (s_if (xt_B (isi "NoneType" "str" false rfl rfl (by decide +kernel))) (fun h => absurd h (by decide)) fun _ => s_next ?_)
    exact s_ret (x_and (x_isN (xp_e (x_var rfl))) fun _ => x_isN (xp_e (x_var rfl))) rfl
  | dict _ => exact hd.elim
theorem ok_law_same {P : Program} {w : World} {K : PySem.W.Frag} {mg : Str → Option Value} {base : Heap} (T : Txt K mg) : ∀ n : Nat, FnOk P w K mg base CX0 n T.a_law_same T.d_law_same ["_law_found", "_law_due"] (spF K (R_law_same n))
  | 0 => fn_never.imp fun vs H Q E ⟨F, ds, s, e, p, ⟨d, _, h, _⟩, _⟩ => h.elim
  | n + 1 => same_step T (ok_law_same T n)
end WL

namespace WL
open PySem L2
def R_prefixes (ds : List PyData) (s : Sl) : Prop := ∃ (wish : List Nat) (sh : List Rat), ds = [.tuple (wish.map nat_), .tuple (sh.map fr)] ∧ wish.length ≤ 1000 ∧ (∀ t ∈ wish, t < sh.length) ∧ (∀ q ∈ sh, Sm q) ∧ (∀ i, Sm (((wish.take i).map (shareAt sh)).foldl (· + ·) 0)) ∧
  s = .da (.tuple ((prefs 0 (wish.map (shareAt sh))).map fr))
theorem sc_prefixes : FnScope ["wish", "shares", "found", "here", "thing"] ["wish", "shares"] (defScope s_prefixes) := ⟨rfl, rfl, rfl, by decide +kernel, rfl, by decide +kernel, by decide +kernel⟩
theorem ok_prefixes {P : Program} {w : World} {K : PySem.W.Frag} {mg : Str → Option Value} {base : Heap} (T : Txt K mg) : FnOk P w K mg base CX0 4 T.a_prefixes T.d_prefixes ["wish", "shares"] (spF K R_prefixes) := by
  have G_plus := ok_plus (P := P) (w := w) (base := base) T
  refine fn_ok T.F_prefixes sc_prefixes (by rintro _ _ ⟨_, _, rfl, _⟩; rfl) fun cdv A outer s H E hr => ⟨_, (pss_cons (ps_set (i := 2) sc_prefixes.nd rfl (Or.inl rfl) (pe_lst pa_nil))
      (pss_cons (ps_set (i := 3) sc_prefixes.nd rfl (Or.inl rfl) (pe_glob (by rfl) T.m_NONE (v := T.v_NONE) T.r_NONE))
      (pss_cons (ps_for PassesOwn.never rfl (pi_seqK (K := K) (pv 0)) (pg_name (i := 4) sc_prefixes.nd rfl (Or.inl rfl)) (pss_cons (ps_set (i := 3) sc_prefixes.nd rfl (Or.inl rfl) (pe_call G_plus (hr.mono (by decide)) (by rfl) T.m_plus T.F_plus.kp T.b_plus .nil pass0 (pa_cons (pv 3) (pa_cons (pe_ix (ix_seqK (K := K)) (pv 1) (pv 4) (fun _ _ => rfl)) pa_nil))))
      (pss_one (ps_expr (pe_bm PySem.F.plainAttrs_list PySem.F.slot_list_append PySem.F.type_list_append mt_append (pv 2) (pa_cons (pv 3) pa_nil))))))
      (pss_one (ps_ret (pe_callTy (T := "tuple") (tuple_K (K := K)) (by rfl) T.z_tuple (by decide +kernel) (pa_cons (pv 2) pa_nil))))))), ?_⟩
  rintro _ _ ⟨wish, sh, rfl, hw, ht, hs, hp, rfl⟩
  dsimp only [startR, List.map, List.length_cons, List.length_nil, List.replicate, List.cons_append, List.nil_append, Nat.reduceAdd, Nat.reduceSub]
  refine s_seq (s_asg (x_lst xa_nil (by simp)) ?_)
  refine s_seq (s_asg (x_c T.t_NONE) ?_)
  refine s_seq (s_for wish nat_ [4] (fun i r => r = [.da (.tuple (wish.map nat_)), .da (.tuple (sh.map fr)), .ow ((prefs 0 ((wish.take i).map (shareAt sh))).map fr), .da (fr (((wish.take i).map (shareAt sh)).foldl (· + ·) 0)), .un]) (x_var rfl) trivial rfl rfl (fun i t r hi hr => ?_) fun r hr => ?_)
  · subst hr
    have htl := ht t (List.mem_of_getElem? hi)
    have e1 : sh[t]? = some (shareAt sh t) := by unfold shareAt; rw [List.getD_eq_getElem?_getD, List.getElem?_eq_getElem htl]; rfl
    have e2 := take_succ_get hi
    refine wg_name ?_
    refine s_seq (s_asg (x_call (xa_cons (x_var rfl) (xa_cons (x_ix (xs_t (x_var rfl)) (x_var rfl) (atI_map (atI_nat e1))) xa_nil)) ⟨_, _, rfl, hp i, hs _ (List.mem_of_getElem? e1), rfl⟩) ?_)
    refine s_append (by rfl) (x_var rfl) (by rw [List.length_map, prefs_len, List.length_map]; have : (wish.take i).length ≤ wish.length := by rw [List.length_take]; exact Nat.min_le_right _ _
                                             omega) ?_
    rw [e2]
    simp only [List.map_append, prefs_app, List.foldl_append]
    rfl
  · subst hr
    refine s_ret (x_tuple (xs_o rfl)) ?_
    rw [List.take_length]
end WL

namespace WL
open PySem L2
/-- the weight and the order of the k-th deal of the table at a place -/
def sWt (ns : List Int) (a : Nat) (k : Nat) : Int :=
  if cell ns a / 5 % 3 = 0 then 1 + (mixed (cell ns (a + 1 + k)) 2).getD 0 0 % 5 else if cell ns a / 5 % 3 = 1 then 1 + (mixed (cell ns (a + 1 + k)) 2).getD 0 0 else 1 + cell ns (a + 1 + k) % 10 ^ 20
def sOrd (ns : List Int) (a c : Nat) (k : Nat) : List Nat := perm ((mixed (cell ns (a + 1 + k)) 2).getD 1 0) c
def sMany (ns : List Int) (a : Nat) : Nat := (1 + cell ns a % 5).toNat
def sEnt (ns : List Int) (a c k p t : Nat) : Int := upto (fun j => if (sOrd ns a c j).getD p 0 = t then sWt ns a j else 0) k
def sTot (ns : List Int) (a : Nat) : Int := upto (sWt ns a) (sMany ns a)
/-- the sums: rows of ints -/
def sMat (ns : List Int) (a c : Nat) : List (List Int) := (List.range c).map fun p => (List.range c).map fun t => sEnt ns a c (sMany ns a) p t
theorem mixed_two (c : Int) : ∃ x y, mixed c 2 = [x, y] ∧ 0 ≤ x ∧ x < 2147483647 ∧ 0 ≤ y ∧ y < 2147483647 := by
  have h := mixed_len c 2
  match e : mixed c 2, h with
  | [x, y], _ =>
    have hx := mixed_mem (c := c) (m := 2) (v := x) (by rw [e]; simp)
    have hy := mixed_mem (c := c) (m := 2) (v := y) (by rw [e]; simp)
    exact ⟨x, y, rfl, hx.1, hx.2, hy.1, hy.2⟩
theorem sWt_pos (ns : List Int) (a k : Nat) : 0 < sWt ns a k ∧ sWt ns a k ≤ 10 ^ 20 := by
  unfold sWt
  obtain ⟨x, y, e, h1, h2, _⟩ := mixed_two (cell ns (a + 1 + k))
  rw [e]
  have h3 : [x, y].getD 0 0 = x := rfl
  rw [h3]
  split
  · omega
  · split <;> omega
theorem sOrd_len (ns : List Int) (a c k : Nat) : (sOrd ns a c k).length = c := perm_len _ _
theorem sOrd_mem {ns : List Int} {a c k p : Nat} (h : p < c) : (sOrd ns a c k).getD p 0 < c := by
  have hl : p < (sOrd ns a c k).length := by rw [sOrd_len]; exact h
  rw [List.getD_eq_getElem?_getD, List.getElem?_eq_getElem hl]
  exact perm_mem.mp (List.getElem_mem hl)
theorem sMany_le (ns : List Int) (a : Nat) : 1 ≤ sMany ns a ∧ sMany ns a ≤ 5 ∧ (sMany ns a : Int) = 1 + cell ns a % 5 := by unfold sMany; omega
theorem sTot_pos (ns : List Int) (a : Nat) : 0 < sTot ns a ∧ sTot ns a ≤ 5 * 10 ^ 20 := by
  have h1 := sMany_le ns a
  constructor
  · unfold sTot
    obtain ⟨m, hm⟩ : ∃ m, sMany ns a = m + 1 := ⟨sMany ns a - 1, by omega⟩
    rw [hm]
    have := upto_nn (fun i => Int.le_of_lt (sWt_pos ns a i).1) m
    have := (sWt_pos ns a m).1
    show 0 < upto _ m + _
    omega
  · have h2 := upto_le (fun i => (sWt_pos ns a i).2) (sMany ns a)
    have h3 : (sMany ns a : Int) * 10 ^ 20 ≤ 5 * 10 ^ 20 := Int.mul_le_mul_of_nonneg_right (by omega) (by decide)
    exact Int.le_trans h2 h3
def R_law_sums (ds : List PyData) (s : Sl) : Prop := ∃ (ns : List Int) (a c : Nat), ds = [.list (ns.map .int), .int a, .int c] ∧ c ≤ 6 ∧ s = .da (.tuple [.list ((sMat ns a c).map fun r => .list (r.map .int)), .int (sTot ns a)])
/-- the sums while they are made: k deals, and of the next one p people -/
def sIn (ns : List Int) (a c k p : Nat) : List (List PyData) := (List.range c).map fun q => (List.range c).map fun t => .int (if q < p then sEnt ns a c (k + 1) q t else sEnt ns a c k q t)
theorem sIn_next (ns : List Int) (a c k : Nat) : sIn ns a c k c = sIn ns a c (k + 1) 0 := range_map_congr fun q hq => range_map_congr fun t _ => by rw [if_pos hq, if_neg (Nat.not_lt_zero _)]
theorem sc_law_sums : FnScope ["_law_script", "_law_at", "_law_count", "_law_many", "_law_great", "_law_sums_here", "_law_total", "_law_k", "_law_cell", "_law_xs", "_law_weight", "_law_order", "_law_person", "_law_thing"] ["_law_script", "_law_at", "_law_count"] (defScope s_law_sums) := ⟨rfl, rfl, rfl, by decide +kernel, rfl, by decide +kernel, by decide +kernel⟩
theorem ok_law_sums {P : Program} {w : World} {K : PySem.W.Frag} {mg : Str → Option Value} {base : Heap} (T : Txt K mg) : FnOk P w K mg base CX0 2 T.a_law_sums T.d_law_sums ["_law_script", "_law_at", "_law_count"] (spF K R_law_sums) := by
  have G_law_cell_at := ok_law_cell_at (P := P) (w := w) (base := base) T
  have G_law_mixed := ok_law_mixed (P := P) (w := w) (base := base) T
  have G_law_perm := ok_law_perm (P := P) (w := w) (base := base) T
  refine fn_ok T.F_law_sums sc_law_sums (by rintro _ _ ⟨_, _, _, rfl, _⟩; rfl) fun cdv A outer s H E hr => ⟨_, (pss_cons (ps_set (i := 3) sc_law_sums.nd rfl (Or.inl rfl) (pe_op (op_addK (K := K)) pe_int (pe_op op_modN (pe_call G_law_cell_at (hr.mono (by decide)) (by rfl) T.m_law_cell_at T.F_law_cell_at.kp T.b_law_cell_at .nil pass0 (pa_cons (pv 0) (pa_cons (pv 1) pa_nil))) pe_int)))
      (pss_cons (ps_set (i := 4) sc_law_sums.nd rfl (Or.inl rfl) (pe_op op_modN (pe_op op_fdivG (pe_call G_law_cell_at (hr.mono (by decide)) (by rfl) T.m_law_cell_at T.F_law_cell_at.kp T.b_law_cell_at .nil pass0 (pa_cons (pv 0) (pa_cons (pv 1) pa_nil))) pe_int) pe_int))
      (pss_cons (ps_setLc (i := 5) (own := [("_law_person", 12)]) (g := (gName 12)) (by rfl) sc_law_sums.nd rfl rfl (sw_true rfl rfl rfl (by decide +kernel)) (pi_range1 (by rfl) T.z_range (pa_cons (pv 2) pa_nil)) (blkOk_by (by kernel_rfl)) (fun _ _ _ _ _ => (pg_name (i := 12) sc_law_sums.nd rfl (Or.inl rfl))) (fun _ _ _ _ _ => by exact pts_nil) (fun _ _ _ _ _ => by exact (by exact (pe_lc (own := [("_law_thing", 13)]) (g := (gName 13)) (by rfl) sc_law_sums.nd (pi_range1 (by rfl) T.z_range (pa_cons (pv 2) pa_nil)) (blkOk_by (by kernel_rfl)) (fun _ _ _ _ _ => (pg_name (i := 13) sc_law_sums.nd rfl (Or.inl rfl))) (fun _ _ _ _ _ => by exact pts_nil) (fun _ _ _ _ _ => by exact pe_int)))))
      (pss_cons (ps_set (i := 6) sc_law_sums.nd rfl (Or.inl rfl) pe_int)
      (pss_cons (ps_for PassesOwn.never rfl (pi_range1 (by rfl) T.z_range (pa_cons (pv 3) pa_nil)) (pg_name (i := 7) sc_law_sums.nd rfl (Or.inl rfl)) (pss_cons (ps_set (i := 8) sc_law_sums.nd rfl (Or.inl rfl) (pe_call G_law_cell_at (hr.mono (by decide)) (by rfl) T.m_law_cell_at T.F_law_cell_at.kp T.b_law_cell_at .nil pass0 (pa_cons (pv 0) (pa_cons (pe_op (op_addK (K := K)) (pe_op (op_addK (K := K)) (pv 1) pe_int) (pv 7)) pa_nil))))
      (pss_cons (ps_set (i := 9) sc_law_sums.nd rfl (Or.inl rfl) (pe_call G_law_mixed (hr.mono (by decide)) (by rfl) T.m_law_mixed T.F_law_mixed.kp T.b_law_mixed .nil pass0 (pa_cons (pv 8) (pa_cons pe_int pa_nil))))
      (pss_cons (ps_set (i := 10) sc_law_sums.nd rfl (Or.inl rfl) (pe_ix (ix_seqK (K := K)) (pe_lst (pa_cons (pe_op (op_addK (K := K)) pe_int (pe_op op_modN (pe_ix (ix_seqK (K := K)) (pv 9) pe_int (fun _ _ => rfl)) pe_int)) (pa_cons (pe_op (op_addK (K := K)) pe_int (pe_ix (ix_seqK (K := K)) (pv 9) pe_int (fun _ _ => rfl))) (pa_cons (pe_op (op_addK (K := K)) pe_int (pe_op op_modN (pv 8) (pe_op op_pow pe_int pe_int))) pa_nil)))) (pv 4) (fun _ _ => rfl)))
      (pss_cons (ps_set (i := 11) sc_law_sums.nd rfl (Or.inl rfl) (pe_call G_law_perm (hr.mono (by decide)) (by rfl) T.m_law_perm T.F_law_perm.kp T.b_law_perm .nil pass0 (pa_cons (pe_ix (ix_seqK (K := K)) (pv 9) pe_int (fun _ _ => rfl)) (pa_cons (pv 2) pa_nil))))
      (pss_cons (ps_for PassesOwn.never rfl (pi_range1 (by rfl) T.z_range (pa_cons (pv 2) pa_nil)) (pg_name (i := 12) sc_law_sums.nd rfl (Or.inl rfl)) (pss_one (ps_augS (pe_ix (ix_seqK (K := K)) (pv 5) (pv 12) (fun _ _ => rfl)) (pe_ix (ix_seqK (K := K)) (pv 11) (pv 12) (fun _ _ => rfl)) get_list (pv 10) ip_add set_list)))
      (pss_one (ps_set (i := 6) sc_law_sums.nd rfl (Or.inl rfl) (pe_op (op_addK (K := K)) (pv 6) (pv 10))))))))))
      (pss_one (ps_ret (pe_tup (pa_cons (pv 5) (pa_cons (pv 6) pa_nil)))))))))), ?_⟩
  rintro _ _ ⟨ns, a, c, rfl, hc, rfl⟩
  dsimp only [startR, List.map, List.length_cons, List.length_nil, List.replicate, List.cons_append, List.nil_append, Nat.reduceAdd, Nat.reduceSub]
  obtain ⟨hm1, hm5, hme⟩ := sMany_le ns a
  refine s_seq (s_asg (x_add x_int (x_mod (x_call (xa_cons (x_var rfl) (xa_cons (x_var rfl) xa_nil)) ⟨ns, a, rfl, rfl⟩) x_int (by decide))) ?_)
  refine s_seq (s_asg (x_mod (x_div (x_call (xa_cons (x_var rfl) (xa_cons (x_var rfl) xa_nil)) ⟨ns, a, rfl, rfl⟩) x_int (by decide) (by decide)) x_int (by decide)) ?_)
  refine s_seq (s_asg (x_lc2R (n := c) (fun _ => (List.range c).map fun _ => .int 0) (xa_cons (x_var rfl) xa_nil) (by omega) (by simp) fun i hi => xr_is (x_lcR (n := c) (fun _ => true) (fun _ => .int 0) (xa_cons (x_var rfl) xa_nil) (by omega) (by simp) (fun _ _ => xt_yes) (fun _ _ _ => x_int)) (by rw [List.filter_eq_self.mpr (fun _ _ => rfl), Int.toNat_natCast])) ?_)
  refine s_seq (s_asg x_int ?_)
  rw [← hme, Int.toNat_natCast]
  have e0 : ((List.range c).map fun _ => (List.range c).map fun _ => PyData.int 0) = sIn ns a c 0 0 := range_map_congr fun q _ => range_map_congr fun t _ => by simp [sEnt, upto]
  rw [e0]
  refine s_seq (s_range (n := sMany ns a) [7, 8, 9, 10, 11, 12] (fun i r => r = [.da (.list (ns.map .int)), .da (.int a), .da (.int c), .da (.int (sMany ns a)), .da (.int (cell ns a / 5 % 3)), .ow2 (sIn ns a c i 0), .da (.int (upto (sWt ns a) i)), .un, .un, .un, .un, .un, .un, .un]) (xa_cons (x_var rfl) xa_nil) (by omega) rfl (fun i r hi hr => ?_) fun r hr => ?_)
  · subst hr
    obtain ⟨x, y, exy, hx0, hx1, hy0, hy1⟩ := mixed_two (cell ns (a + 1 + i))
    refine wg_name ?_
    refine s_seq (s_asg (x_call (xa_cons (x_var rfl) (xa_cons (x_add (x_add (x_var rfl) x_int) (x_var rfl)) xa_nil)) ⟨ns, a + 1 + i, rfl, rfl⟩) ?_)
    refine s_seq (s_asg (x_call (xa_cons (x_var rfl) (xa_cons x_int xa_nil)) ⟨_, 2, rfl, by decide, rfl⟩) ?_)
    rw [exy]
    have ew : atI [1 + x % 5, 1 + x, 1 + cell ns (a + 1 + i) % 10 ^ 20] (cell ns a / 5 % 3) = some (sWt ns a i) := by
      have h3 : cell ns a / 5 % 3 = 0 ∨ cell ns a / 5 % 3 = 1 ∨ cell ns a / 5 % 3 = 2 := by omega
      unfold sWt
      rw [exy]
      rcases h3 with h | h | h <;> rw [h] <;> rfl
    refine s_seq (s_asg (x_ix (xs_n (x_lst (xa_cons (x_add x_int (x_mod (x_ix (xs_o rfl) x_int rfl) x_int (by decide))) (xa_cons (x_add x_int (x_ix (xs_o rfl) x_int rfl)) (xa_cons (x_add x_int (x_mod (x_var rfl) (x_pow x_int x_int ⟨by decide, by decide, by decide⟩) (by decide))) xa_nil))) (by simp))) (x_var rfl) (atI_map (f := PyData.int) (xs := [1 + x % 5, 1 + x, 1 + cell ns (a + 1 + i) % 10 ^ 20]) ew)) ?_)
    refine s_seq (s_asg (x_call (xa_cons (x_ix (xs_o rfl) x_int rfl) (xa_cons (x_var rfl) xa_nil)) ⟨y, c, rfl, by omega, rfl⟩) ?_)
    have eo : perm y c = sOrd ns a c i := by unfold sOrd; rw [exy]; rfl
    rw [eo]
    refine s_seq (s_range (n := c) [12] (fun p r => r = [.da (.list (ns.map .int)), .da (.int a), .da (.int c), .da (.int (sMany ns a)), .da (.int (cell ns a / 5 % 3)), .ow2 (sIn ns a c i p), .da (.int (upto (sWt ns a) i)), .da (.int i), .da (.int (cell ns (a + 1 + i))), .ow ([x, y].map .int), .da (.int (sWt ns a i)), .ow ((sOrd ns a c i).map nat_), .un, .un]) (xa_cons (x_var rfl) xa_nil) (by omega) rfl (fun p r hp hr => ?_) fun r hr => ?_)
    · subst hr
      have hpc : p < c := by omega
      have ht := sOrd_mem (ns := ns) (a := a) (k := i) hpc
      have eo1 : atI ((sOrd ns a c i).map nat_) (p : Int) = some (nat_ ((sOrd ns a c i).getD p 0)) := by
        have hl : p < (sOrd ns a c i).length := by rw [sOrd_len]; exact hpc
        rw [atI_map (atI_get' hl), List.getD_eq_getElem?_getD, List.getElem?_eq_getElem hl]
        rfl
      refine wg_name ?_
      refine s_aug2 (ja := p) (jb := (sOrd ns a c i).getD p 0) (m := sEnt ns a c i p ((sOrd ns a c i).getD p 0)) (by rfl) (x_var rfl) (x_ix (xs_o rfl) (x_var rfl) eo1) (x_var rfl) (ixN_nat rfl (by simp [sIn]; exact hpc)) (range_map_get _ hpc) (Int.natCast_nonneg _) (Int.toNat_natCast _) ?_ (by simp; omega) ?_
      · rw [range_map_get _ ht, if_neg (Nat.lt_irrefl _)]
      · unfold sIn
        rw [range_map_set, range_map_set]
        refine congrArg (fun z => [_, _, _, _, _, Sl.ow2 z, _, _, _, _, _, _, _, _]) (range_map_congr fun q hq => ?_)
        by_cases hqp : q = p
        · subst hqp
          rw [if_pos rfl]
          refine range_map_congr fun t ht2 => ?_
          rw [if_pos (Nat.lt_succ_self _), if_neg (Nat.lt_irrefl _)]
          show _ = PyData.int (upto _ i + (if (sOrd ns a c i).getD q 0 = t then sWt ns a i else 0))
          by_cases z : t = (sOrd ns a c i).getD q 0
          · rw [if_pos z, if_pos z.symm, z]; rfl
          · rw [if_neg z, if_neg fun y => z y.symm, Int.add_zero]; rfl
        · rw [if_neg hqp]
          refine range_map_congr fun t ht2 => ?_
          by_cases z : q < p
          · rw [if_pos z, if_pos (by omega)]
          · rw [if_neg z, if_neg (by omega)]
    · subst hr
      rw [Int.toNat_natCast, sIn_next]
      refine s_asg (x_add (x_var rfl) (x_var rfl)) ?_
      rfl
  · subst hr
    rw [Int.toNat_natCast]
    refine s_frz2 5 rfl ?_
    refine s_ret (x_tup (xa_cons (x_var rfl) (xa_cons (x_var rfl) xa_nil)) (by simp)) ?_
    have e1 : (sIn ns a c (sMany ns a) 0).map PyData.list = (sMat ns a c).map fun r => .list (r.map .int) := by
      unfold sIn sMat
      rw [List.map_map, List.map_map]
      refine range_map_congr fun q hq => ?_
      show PyData.list _ = PyData.list _
      rw [List.map_map]
      refine congrArg PyData.list (range_map_congr fun t _ => ?_)
      rw [if_neg (Nat.not_lt_zero _)]
      rfl
    rw [e1]
    rfl
end WL

namespace WL
open PySem L2
def R_law (ds : List PyData) (s : Sl) : Prop := ∃ ns : List Int, ds = [.list (ns.map .int)] ∧ ns.length ≤ 63 ∧ s = .da (.bool true)
theorem law_of {K : PySem.W.Frag} {H : Hp} (a : Addr) (ns : List Int) (hl : ns.length ≤ 63) (hS : SqL K H a (ns.map V.int)) : spF K R_law [.ref a] H (fun v _ => v = .bl true) (fun _ _ _ => False) :=
  ⟨H, _, _, Same.refl _, .cons (.lst hS (ints_dpa ns)) .nil, ⟨ns, rfl, hl, rfl⟩, fun v F' H' g r => dp_bool (of_ret_da r)⟩
end WL

namespace WL
open PySem L2
/-- a person's sums come to the whole -/
theorem row_sum (ns : List Int) (a c p : Nat) (hp : p < c) : ∀ k, upto (fun t => sEnt ns a c k p t) c = upto (sWt ns a) k
  | 0 => upto_zero c
  | k + 1 => by
    have e : upto (fun t => sEnt ns a c (k + 1) p t) c = upto (fun t => sEnt ns a c k p t + (if (sOrd ns a c k).getD p 0 = t then sWt ns a k else 0)) c := upto_congr fun _ _ => rfl
    rw [e, upto_add, row_sum ns a c p hp k, upto_one _ (sOrd_mem hp)]
    rfl
theorem sEnt_nn (ns : List Int) (a c k p t : Nat) : 0 ≤ sEnt ns a c k p t := upto_nn (fun i => by split; exact Int.le_of_lt (sWt_pos ns a i).1; exact Int.le_refl 0) k
theorem sc_law : FnScope ["_law_script", "_law_count", "_law_sums_here", "_law_total", "_law_row", "_law_shares", "_law_cell", "_law_wish", "_law_due", "_law_here", "_law_thing", "_law_found", "_law_top"] ["_law_script"] (defScope s_law) := ⟨rfl, rfl, rfl, by decide +kernel, rfl, by decide +kernel, by decide +kernel⟩
theorem ok_law {P : Program} {w : World} {K : PySem.W.Frag} {mg : Str → Option Value} {base : Heap} (T : Txt K mg) : FnOk P w K mg base CX0 8 T.a_law T.d_law ["_law_script"] (spF K R_law) := by
  have G_law_cell_at := ok_law_cell_at (P := P) (w := w) (base := base) T
  have G_law_lowest := ok_law_lowest (P := P) (w := w) (base := base) T
  have G_law_mixed := ok_law_mixed (P := P) (w := w) (base := base) T
  have G_law_perm := ok_law_perm (P := P) (w := w) (base := base) T
  have G_law_same := ok_law_same (P := P) (w := w) (base := base) T 3
  have G_law_sums := ok_law_sums (P := P) (w := w) (base := base) T
  have G_prefixes := ok_prefixes (P := P) (w := w) (base := base) T
  refine fn_ok T.F_law sc_law (by rintro _ _ ⟨_, rfl, _⟩; rfl) fun cdv A outer s H E hr => ⟨_, (pss_cons (ps_set (i := 1) sc_law.nd rfl (Or.inl rfl) (pe_op (op_addK (K := K)) pe_int (pe_op op_modN (pe_call G_law_cell_at (hr.mono (by decide)) (by rfl) T.m_law_cell_at T.F_law_cell_at.kp T.b_law_cell_at .nil pass0 (pa_cons (pv 0) (pa_cons pe_int pa_nil))) pe_int)))
      (pss_cons (ps_asg (pe_call G_law_sums (hr.mono (by decide)) (by rfl) T.m_law_sums T.F_law_sums.kp T.b_law_sums .nil pass0 (pa_cons (pv 0) (pa_cons pe_int (pa_cons (pv 1) pa_nil)))) (pg_tupK (K := K) (by rfl) (pgs_cons (pg_name (i := 2) sc_law.nd rfl (Or.inl rfl)) (pgs_cons (pg_name (i := 3) sc_law.nd rfl (Or.inr rfl)) pgs_nil))))
      (pss_cons (ps_set (i := 4) sc_law.nd rfl (Or.inl rfl) (pe_ix (ix_seqK (K := K)) (pv 2) (pe_op op_modN (pe_call G_law_cell_at (hr.mono (by decide)) (by rfl) T.m_law_cell_at T.F_law_cell_at.kp T.b_law_cell_at .nil pass0 (pa_cons (pv 0) (pa_cons pe_int pa_nil))) (pv 1)) (fun _ _ => rfl)))
      (pss_cons (ps_set (i := 5) sc_law.nd rfl (Or.inl rfl) (pe_callTy (T := "tuple") (tuple_K (K := K)) (by rfl) T.z_tuple (by decide +kernel) (pa_cons (by exact (pe_lc (own := [("_law_top", 12)]) (g := (gName 12)) (by rfl) sc_law.nd (pi_seqK (K := K) (pv 4)) (blkOk_by (by kernel_rfl)) (fun _ _ _ _ _ => (pg_name (i := 12) sc_law.nd rfl (Or.inl rfl))) (fun _ _ _ _ _ => by exact pts_nil) (fun _ _ _ _ _ => by exact (pe_call G_law_lowest (hr.mono (by decide)) (by rfl) T.m_law_lowest T.F_law_lowest.kp T.b_law_lowest .nil pass0 (pa_cons (pv 12) (pa_cons (pv 3) pa_nil)))))) pa_nil)))
      (pss_cons (ps_for PassesOwn.never rfl (pi_seqK (K := K) (pe_op (op_addK (K := K)) (pe_lst (pa_cons (pe_call G_law_cell_at (hr.mono (by decide)) (by rfl) T.m_law_cell_at T.F_law_cell_at.kp T.b_law_cell_at .nil pass0 (pa_cons (pv 0) (pa_cons pe_int pa_nil))) pa_nil)) (pe_slice (sl_seqK (K := K)) (pv 0) (po_some pe_int) (po_some pe_int)))) (pg_name (i := 6) sc_law.nd rfl (Or.inl rfl)) (pss_cons (ps_set (i := 7) sc_law.nd rfl (Or.inl rfl) (pe_call G_law_perm (hr.mono (by decide)) (by rfl) T.m_law_perm T.F_law_perm.kp T.b_law_perm .nil pass0 (pa_cons (pe_ix (ix_seqK (K := K)) (pe_call G_law_mixed (hr.mono (by decide)) (by rfl) T.m_law_mixed T.F_law_mixed.kp T.b_law_mixed .nil pass0 (pa_cons (pv 6) (pa_cons pe_int pa_nil))) pe_int (fun _ _ => rfl)) (pa_cons (pv 1) pa_nil))))
      (pss_cons (ps_set (i := 8) sc_law.nd rfl (Or.inl rfl) (pe_lst pa_nil))
      (pss_cons (ps_set (i := 9) sc_law.nd rfl (Or.inl rfl) pe_int)
      (pss_cons (ps_for PassesOwn.never rfl (pi_seqK (K := K) (pv 7)) (pg_name (i := 10) sc_law.nd rfl (Or.inl rfl)) (pss_cons (ps_set (i := 9) sc_law.nd rfl (Or.inl rfl) (pe_op (op_addK (K := K)) (pv 9) (pe_ix (ix_seqK (K := K)) (pv 4) (pv 10) (fun _ _ => rfl))))
      (pss_one (ps_expr (pe_bm PySem.F.plainAttrs_list PySem.F.slot_list_append PySem.F.type_list_append mt_append (pv 8) (pa_cons (pe_call G_law_lowest (hr.mono (by decide)) (by rfl) T.m_law_lowest T.F_law_lowest.kp T.b_law_lowest .nil pass0 (pa_cons (pv 9) (pa_cons (pv 3) pa_nil))) pa_nil))))))
      (pss_cons (ps_set (i := 11) sc_law.nd rfl (Or.inl rfl) (pe_call G_prefixes (hr.mono (by decide)) (by rfl) T.m_prefixes T.F_prefixes.kp T.b_prefixes .nil pass0 (pa_cons (pe_callTy (T := "tuple") (tuple_K (K := K)) (by rfl) T.z_tuple (by decide +kernel) (pa_cons (pv 7) pa_nil)) (pa_cons (pv 5) pa_nil))))
      (pss_one (ps_if (PW.pt (pw_or (pt_not (pt_val (pe_call G_law_same (hr.mono (by decide)) (by rfl) T.m_law_same T.F_law_same.kp T.b_law_same .nil pass0 (pa_cons (pv 11) (pa_cons (pe_callTy (T := "tuple") (tuple_K (K := K)) (by rfl) T.z_tuple (by decide +kernel) (pa_cons (pv 8) pa_nil)) pa_nil))))) (pw_or1 (pt_cmpR (op_neK (K := K) hr.units) (pe_ix (ix_seqK (K := K)) (pv 11) (pe_un un_neg pe_int) (fun _ _ => rfl)) (pe_tup (pa_cons pe_int (pa_cons pe_int pa_nil))) (nomark _))))) (pss_one (ps_ret pe_bl)) pss_nil))))))))
      (pss_one (ps_ret pe_bl))))))), ?_⟩
  rintro _ _ ⟨ns, rfl, hn, rfl⟩
  dsimp only [startR, List.map, List.length_cons, List.length_nil, List.replicate, List.cons_append, List.nil_append, Nat.reduceAdd, Nat.reduceSub]
  obtain ⟨c, hc, hc1, hc6⟩ : ∃ c : Nat, 1 + cell ns 0 % 6 = (c : Int) ∧ 1 ≤ c ∧ c ≤ 6 := ⟨(1 + cell ns 0 % 6).toNat, by omega, by omega, by omega⟩
  obtain ⟨p, hp, hpc⟩ : ∃ p : Nat, cell ns 1 % (c : Int) = (p : Int) ∧ p < c := ⟨(cell ns 1 % (c : Int)).toNat, by have := Int.emod_nonneg (cell ns 1) (by omega : (c : Int) ≠ 0); omega, by have := Int.emod_lt_of_pos (cell ns 1) (by omega : (0 : Int) < c); have := Int.emod_nonneg (cell ns 1) (by omega : (c : Int) ≠ 0); omega⟩
  obtain ⟨ht0, ht1⟩ := sTot_pos ns 2
  have hd0 : sTot ns 2 ≠ 0 := by omega
  have hbig : sTot ns 2 < 2 ^ 3999 := Int.lt_of_le_of_lt ht1 (by decide +kernel)
  have hlog : (sTot ns 2).natAbs.log2 < 9000 := Nat.lt_trans (log_lt (k := 80) (by omega) (by decide)) (by decide)
  -- the row
  obtain ⟨row, erow⟩ : ∃ row : List Int, row = (List.range c).map fun t => sEnt ns 2 c (sMany ns 2) p t := ⟨_, rfl⟩
  let dv : Int → Rat := fun x => Rat.divInt x (sTot ns 2)
  have hrow : row.length = c := by rw [erow]; simp
  have hnn : ∀ x ∈ row, 0 ≤ x := fun x hx => by
    rw [erow] at hx
    obtain ⟨t, _, rfl⟩ := List.mem_map.mp hx
    exact sEnt_nn _ _ _ _ _ _
  have hrowat : ∀ t, t < c → row[t]? = some (sEnt ns 2 c (sMany ns 2) p t) := fun t ht => by rw [erow]; exact range_map_get _ ht
  have hmat : atI ((sMat ns 2 c).map fun r : List Int => PyData.list (r.map .int)) (p : Int) = some (.list (row.map .int)) := by rw [erow]; exact atI_map (f := fun r : List Int => PyData.list (r.map .int)) (atI_nat (range_map_get _ hpc))
  refine s_seq (s_asg (x_add x_int (x_mod (x_call (xa_cons (x_var rfl) (xa_cons x_int xa_nil)) ⟨ns, 0, rfl, rfl⟩) x_int (by decide))) ?_)
  rw [hc]
  refine s_seq (s_asgT (x_call (xa_cons (x_var rfl) (xa_cons x_int (xa_cons (x_var rfl) xa_nil))) ⟨ns, 2, c, rfl, hc6, rfl⟩) (wg_tup (wgs_cons (wg_name (wgs_cons (wg_name (wgs_nil ?_))))) rfl))
  refine s_seq (s_asg (x_ix (xs_l (x_var rfl)) (x_mod (x_call (xa_cons (x_var rfl) (xa_cons x_int xa_nil)) ⟨ns, 1, rfl, rfl⟩) (x_var rfl) (by omega)) (by rw [hp]; exact hmat)) ?_)
  refine s_seq (s_asg (x_tuple (xs_n (x_lc row PyData.int (fun _ => true) (fun x => fr (dv x)) (x_var rfl) trivial rfl (by omega) (by simp) (fun _ _ => xt_yes) fun x hx _ => x_call (xa_cons (x_var rfl) (xa_cons (x_var rfl) xa_nil)) ⟨x, sTot ns 2, rfl, ht0, hlog, rfl⟩))) ?_)
  rw [List.filter_eq_self.mpr (fun _ _ => rfl)]
  have hsh : (row.map fun x => fr (dv x)) = (row.map dv).map fr := by show List.map (fr ∘ dv) row = _; exact (List.map_map (g := fr) (f := dv) (l := row)).symm
  rw [hsh]
  -- the loop
  refine s_seq (s_for ([cell ns 1] ++ cutD ns (some 10) (some 63)) PyData.int [6, 7, 8, 9, 10, 11] (fun i r => r = [.da (.list (ns.map .int)), .da (.int c), .da (.list ((sMat ns 2 c).map fun r : List Int => PyData.list (r.map .int))), .da (.int (sTot ns 2)), .da (.list (row.map .int)), .da (.tuple ((row.map dv).map fr)), .un, .un, .un, .un, .un, .un, .un]) (x_frz (x_cat (xk_n (x_lst (xa_cons (x_call (xa_cons (x_var rfl) (xa_cons x_int xa_nil)) ⟨ns, 1, rfl, rfl⟩) xa_nil) (by simp))) (xk_n (x_sliceL (xs_l (x_var rfl)) (xo_some x_int) (xo_some x_int))) ?_)) trivial ?_ rfl (fun i z r hi hr => ?_) fun r hr => ?_)
  · have := cutD_len (ns.map PyData.int) (some 10) (some 63)
    rw [List.length_map] at this
    simp only [List.length_cons, List.length_nil]
    omega
  · rw [cutD_map, List.map_append]
    rfl
  · subst hr
    obtain ⟨z0, hz0⟩ : ∃ z0, mixed z 1 = [z0] := by
      have h := mixed_len z 1
      match e : mixed z 1, h with
      | [x], _ => exact ⟨x, rfl⟩
    have hw := perm_perm z0 c
    have hwl := perm_len z0 c
    have wt : ∀ i, (((perm z0 c).take i).map (shareAt (row.map dv))).foldl (· + ·) 0 = dv (((perm z0 c).take i).map fun t => row.getD t 0).sum ∧ ((perm z0 c).map (shareAt (row.map dv))) = ((perm z0 c).map fun t => row.getD t 0).map dv := fun i => by
      have hs : ∀ t, t < c → shareAt (row.map dv) t = dv (row.getD t 0) := fun t ht => by
        unfold shareAt
        rw [List.getD_eq_getElem?_getD, List.getD_eq_getElem?_getD, List.getElem?_map, hrowat t ht]
        rfl
      have h2 : ∀ l : List Nat, (∀ t ∈ l, t < c) → l.map (shareAt (row.map dv)) = (l.map fun t => row.getD t 0).map dv := fun l hl => by
        rw [List.map_map]
        exact List.map_congr_left fun t ht => hs t (hl t ht)
      refine ⟨?_, h2 _ fun t ht => perm_mem.mp ht⟩
      rw [h2 _ fun t ht => perm_mem.mp (List.mem_of_mem_take ht)]
      have := foldl_divInt hd0 (((perm z0 c).take i).map fun t => row.getD t 0) 0
      rw [divInt_zero', Int.zero_add] at this
      exact this
    -- the wished shares, whole
    obtain ⟨ws, ews⟩ : ∃ ws : List Int, ws = (perm z0 c).map fun t => row.getD t 0 := ⟨_, rfl⟩
    have hwsl : ws.length = c := by rw [ews, List.length_map, hwl]
    have hws : ∀ x ∈ ws, 0 ≤ x := fun x hx => by
      rw [ews] at hx
      obtain ⟨t, ht, rfl⟩ := List.mem_map.mp hx
      have ht2 := perm_mem.mp ht
      rw [List.getD_eq_getElem?_getD, hrowat t ht2]
      exact sEnt_nn _ _ _ _ _ _
    have hsum : ws.sum = sTot ns 2 := by
      rw [ews, sum_perm hw, upto_congr (g := fun t => sEnt ns 2 c (sMany ns 2) p t) (fun t ht => by rw [List.getD_eq_getElem?_getD, hrowat t ht]; rfl), row_sum ns 2 c p hpc]
      rfl
    have htake : ∀ i, ((perm z0 c).take i).map (fun t => row.getD t 0) = ws.take i := fun i => by rw [ews, List.map_take]
    refine wg_name ?_
    refine s_seq (s_asg (x_call (xa_cons (x_ix (xs_n (x_call (xa_cons (x_var rfl) (xa_cons x_int xa_nil)) ⟨z, 1, rfl, by decide, rfl⟩)) x_int (by rw [hz0]; rfl)) (xa_cons (x_var rfl) xa_nil)) ⟨z0, c, rfl, by omega, rfl⟩) ?_)
    refine s_seq (s_asg (x_lst xa_nil (by simp)) ?_)
    refine s_seq (s_asg x_int ?_)
    refine s_frz 7 rfl ?_
    refine s_seq (s_for (perm z0 c) nat_ [10] (fun i r => r = [.da (.list (ns.map .int)), .da (.int c), .da (.list ((sMat ns 2 c).map fun r : List Int => PyData.list (r.map .int))), .da (.int (sTot ns 2)), .da (.list (row.map .int)), .da (.tuple ((row.map dv).map fr)), .da (.int z), .da (.list ((perm z0 c).map nat_)), .ow (((psum 0 (ws.take i)).map dv).map fr), .da (.int (ws.take i).sum), .un, .un, .un]) (x_var rfl) trivial rfl rfl (fun i t r hi hr => ?_) fun r hr => ?_)
    · subst hr
      have ht2 := perm_mem.mp (List.mem_of_getElem? hi)
      have e2 := take_succ_get hi
      have e3 : ws.take (i + 1) = ws.take i ++ [sEnt ns 2 c (sMany ns 2) p t] := by
        rw [← htake (i + 1), e2, List.map_append, htake]
        show _ ++ [row.getD t 0] = _
        rw [List.getD_eq_getElem?_getD, hrowat t ht2]
        rfl
      have b1 := take_sum_le hws (i + 1)
      refine wg_name ?_
      refine s_seq (s_asg (x_add (x_var rfl) (x_ix (xs_l (x_var rfl)) (x_var rfl) (atI_map (f := PyData.int) (atI_nat (hrowat t ht2))))) ?_)
      refine s_append (by rfl) (x_call (xa_cons (x_var rfl) (xa_cons (x_var rfl) xa_nil)) ⟨_, sTot ns 2, rfl, ht0, hlog, rfl⟩) (by rw [List.length_map, List.length_map, psum_len, List.length_take]; rw [hwsl]; omega) ?_
      rw [e3, psum_app, List.sum_append]
      simp only [List.map_append, List.sum_cons, List.sum_nil, Int.add_zero, Int.zero_add]
      rfl
    · subst hr
      rw [List.take_of_length_le (by rw [hwsl, hwl]; exact Nat.le_refl _ : ws.length ≤ (perm z0 c).length)]
      have hpre : prefs 0 ((perm z0 c).map (shareAt (row.map dv))) = (psum 0 ws).map dv := by
        rw [(wt 0).2, ← ews, ← divInt_zero' (sTot ns 2)]
        exact prefs_divInt hd0 ws 0
      have hone : dv (sTot ns 2) = 1 := by
        show Rat.divInt (sTot ns 2) (sTot ns 2) = 1
        rw [show (1 : Rat) = Rat.divInt 1 1 from rfl, Rat.divInt_eq_divInt_iff hd0 (by decide)]
        omega
      have hlen : ((psum 0 ws).map dv).length = c := by rw [List.length_map, psum_len, hwsl]
      refine s_seq (s_asg (x_call (xa_cons (x_tuple (xs_l (x_var rfl))) (xa_cons (x_var rfl) xa_nil)) ⟨perm z0 c, row.map dv, rfl, by omega, fun t ht => by rw [List.length_map, hrow]; exact perm_mem.mp ht, fun q hq => ?_, fun i => ?_, rfl⟩) ?_)
      · obtain ⟨x, hx, rfl⟩ := List.mem_map.mp hq
        rw [erow] at hx
        obtain ⟨t, ht, rfl⟩ := List.mem_map.mp hx
        have ht3 := List.mem_range.mp ht
        -- an entry is at most the whole
        have hle : sEnt ns 2 c (sMany ns 2) p t ≤ sTot ns 2 := by
          rw [← hsum]
          have hm : sEnt ns 2 c (sMany ns 2) p t ∈ ws := by rw [ews]; exact List.mem_map.mpr ⟨t, perm_mem.mpr ht3, by rw [List.getD_eq_getElem?_getD, hrowat t ht3]; rfl⟩
          obtain ⟨j, hj⟩ := List.getElem?_of_mem hm
          have h1 := take_sum_le hws (j + 1)
          rw [take_succ_get hj, List.sum_append] at h1
          have h2 := take_sum_le hws j
          simp only [List.sum_cons, List.sum_nil] at h1
          omega
        exact Sm_divInt (sEnt_nn _ _ _ _ _ _) hle ht0 hbig
      · rw [(wt i).1, htake]
        have := take_sum_le hws i
        exact Sm_divInt this.1 (by omega) ht0 hbig
      rw [hpre]
      obtain ⟨m, hm⟩ := psum_last ws 0 (fun z => by have : ws.length = 0 := by rw [z]; rfl
                                                    omega)
      have hlast : atI (((psum 0 ws).map dv).map fr) (-1) = some (fr 1) := by
        rw [hm, Int.zero_add, hsum, List.map_append, List.map_append]
        show atI (_ ++ [fr (dv (sTot ns 2))]) (-1) = _
        rw [hone]
        unfold atI
        have e : ixN ((((m.map dv).map fr) ++ [fr 1]).length) (-1) = some ((m.map dv).map fr).length := by
          unfold ixN
          rw [if_neg (by decide), List.length_append]
          simp only [List.length_cons, List.length_nil]
          rw [if_pos (by omega)]
          congr 1
          omega
        rw [e]
        show (((m.map dv).map fr) ++ [fr 1])[((m.map dv).map fr).length]? = _
        rw [List.getElem?_append_right (Nat.le_refl _), Nat.sub_self]
        rfl
      refine s_if (xt_or (xt_not (xt_B (x_call (xa_cons (x_var rfl) (xa_cons (x_tuple (xs_o rfl)) xa_nil)) ⟨_, rfl, ⟨by rw [List.length_map, hlen]; omega, fun d hd => ?_⟩, rfl⟩))) fun _ => xt_test (x_ne (xp_e (x_ix (xs_t (x_var rfl)) (x_neg x_int) hlast)) (xp_e (x_tup (xa_cons x_int (xa_cons x_int xa_nil)) (by simp))) (by rfl) (by rfl))) (fun h => absurd h (by decide)) fun _ => s_next rfl
      obtain ⟨q, _, rfl⟩ := List.mem_map.mp hd
      exact Ds_fr 0 q
  · subst hr
    exact s_ret x_bl rfl
end WL
namespace WL
open PySem L2
theorem all_mk {l : PySem.W.OpenLaw} {w : World} {K : PySem.W.Frag} {h : Heap} {mg : Str → Option Value} {fa : Addr} (X : K.In h) (G : h.Ns mainGlobals mg) (hfa : mg "law" = some (.ref fa))
    {f0 : Addr} {od0 an0 : Option Addr} {sl0 : Array (Option Value)} {oc0 kV0 dc0 pm0 cd0 ct0 : Value}
    {f1 : Addr} {od1 an1 : Option Addr} {sl1 : Array (Option Value)} {oc1 kV1 dc1 pm1 cd1 ct1 : Value}
    {f2 : Addr} {od2 an2 : Option Addr} {sl2 : Array (Option Value)} {oc2 kV2 dc2 pm2 cd2 ct2 : Value}
    {f3 : Addr} {od3 an3 : Option Addr} {sl3 : Array (Option Value)} {oc3 kV3 dc3 pm3 cd3 ct3 : Value}
    {f4 : Addr} {od4 an4 : Option Addr} {sl4 : Array (Option Value)} {oc4 kV4 dc4 pm4 cd4 ct4 : Value}
    {f5 : Addr} {od5 an5 : Option Addr} {sl5 : Array (Option Value)} {oc5 kV5 dc5 pm5 cd5 ct5 : Value}
    {f6 : Addr} {od6 an6 : Option Addr} {sl6 : Array (Option Value)} {oc6 kV6 dc6 pm6 cd6 ct6 : Value}
    {f7 : Addr} {od7 an7 : Option Addr} {sl7 : Array (Option Value)} {oc7 kV7 dc7 pm7 cd7 ct7 : Value}
    {f8 : Addr} {od8 an8 : Option Addr} {sl8 : Array (Option Value)} {oc8 kV8 dc8 pm8 cd8 ct8 : Value}
    {f9 : Addr} {od9 an9 : Option Addr} {sl9 : Array (Option Value)} {oc9 kV9 dc9 pm9 cd9 ct9 : Value}
    {f10 : Addr} {od10 an10 : Option Addr} {sl10 : Array (Option Value)} {oc10 kV10 dc10 pm10 cd10 ct10 : Value}
    {f11 : Addr} {od11 an11 : Option Addr} {sl11 : Array (Option Value)} {oc11 kV11 dc11 pm11 cd11 ct11 : Value}
    {tNONE : Addr} {tdNONE : Option Addr} {tnNONE : Nat} {tslNONE : Array (Option Value)} {tkNONE0 tkNONE1 : Tok}
    (a0 : PySem.W.nsIn K mainGlobals "common" = some (some (.ref f0)))
    (l0 : K.lookup f0 = some ⟨oc0, od0, .func (PySem.W.fnOf "common" "common" (defArgs s_common) (defBody s_common) (defScope s_common) .none kV0 dc0 pm0 an0 cd0 ct0), sl0⟩)
    (c0 : PySem.W.codeIn K cd0 "common" = true) (k0 : PySem.W.keepIn K (.ref f0) = true)
    (a1 : PySem.W.nsIn K mainGlobals "fraction" = some (some (.ref f1)))
    (l1 : K.lookup f1 = some ⟨oc1, od1, .func (PySem.W.fnOf "fraction" "fraction" (defArgs s_fraction) (defBody s_fraction) (defScope s_fraction) .none kV1 dc1 pm1 an1 cd1 ct1), sl1⟩)
    (c1 : PySem.W.codeIn K cd1 "fraction" = true) (k1 : PySem.W.keepIn K (.ref f1) = true)
    (a2 : PySem.W.nsIn K mainGlobals "plus" = some (some (.ref f2)))
    (l2 : K.lookup f2 = some ⟨oc2, od2, .func (PySem.W.fnOf "plus" "plus" (defArgs s_plus) (defBody s_plus) (defScope s_plus) .none kV2 dc2 pm2 an2 cd2 ct2), sl2⟩)
    (c2 : PySem.W.codeIn K cd2 "plus" = true) (k2 : PySem.W.keepIn K (.ref f2) = true)
    (a3 : PySem.W.nsIn K mainGlobals "prefixes" = some (some (.ref f3)))
    (l3 : K.lookup f3 = some ⟨oc3, od3, .func (PySem.W.fnOf "prefixes" "prefixes" (defArgs s_prefixes) (defBody s_prefixes) (defScope s_prefixes) .none kV3 dc3 pm3 an3 cd3 ct3), sl3⟩)
    (c3 : PySem.W.codeIn K cd3 "prefixes" = true) (k3 : PySem.W.keepIn K (.ref f3) = true)
    (a4 : PySem.W.nsIn K mainGlobals "_law_cell_at" = some (some (.ref f4)))
    (l4 : K.lookup f4 = some ⟨oc4, od4, .func (PySem.W.fnOf "_law_cell_at" "_law_cell_at" (defArgs s_law_cell_at) (defBody s_law_cell_at) (defScope s_law_cell_at) .none kV4 dc4 pm4 an4 cd4 ct4), sl4⟩)
    (c4 : PySem.W.codeIn K cd4 "_law_cell_at" = true) (k4 : PySem.W.keepIn K (.ref f4) = true)
    (a5 : PySem.W.nsIn K mainGlobals "_law_mixed" = some (some (.ref f5)))
    (l5 : K.lookup f5 = some ⟨oc5, od5, .func (PySem.W.fnOf "_law_mixed" "_law_mixed" (defArgs s_law_mixed) (defBody s_law_mixed) (defScope s_law_mixed) .none kV5 dc5 pm5 an5 cd5 ct5), sl5⟩)
    (c5 : PySem.W.codeIn K cd5 "_law_mixed" = true) (k5 : PySem.W.keepIn K (.ref f5) = true)
    (a6 : PySem.W.nsIn K mainGlobals "_law_perm" = some (some (.ref f6)))
    (l6 : K.lookup f6 = some ⟨oc6, od6, .func (PySem.W.fnOf "_law_perm" "_law_perm" (defArgs s_law_perm) (defBody s_law_perm) (defScope s_law_perm) .none kV6 dc6 pm6 an6 cd6 ct6), sl6⟩)
    (c6 : PySem.W.codeIn K cd6 "_law_perm" = true) (k6 : PySem.W.keepIn K (.ref f6) = true)
    (a7 : PySem.W.nsIn K mainGlobals "_law_divisor" = some (some (.ref f7)))
    (l7 : K.lookup f7 = some ⟨oc7, od7, .func (PySem.W.fnOf "_law_divisor" "_law_divisor" (defArgs s_law_divisor) (defBody s_law_divisor) (defScope s_law_divisor) .none kV7 dc7 pm7 an7 cd7 ct7), sl7⟩)
    (c7 : PySem.W.codeIn K cd7 "_law_divisor" = true) (k7 : PySem.W.keepIn K (.ref f7) = true)
    (a8 : PySem.W.nsIn K mainGlobals "_law_lowest" = some (some (.ref f8)))
    (l8 : K.lookup f8 = some ⟨oc8, od8, .func (PySem.W.fnOf "_law_lowest" "_law_lowest" (defArgs s_law_lowest) (defBody s_law_lowest) (defScope s_law_lowest) .none kV8 dc8 pm8 an8 cd8 ct8), sl8⟩)
    (c8 : PySem.W.codeIn K cd8 "_law_lowest" = true) (k8 : PySem.W.keepIn K (.ref f8) = true)
    (a9 : PySem.W.nsIn K mainGlobals "_law_sums" = some (some (.ref f9)))
    (l9 : K.lookup f9 = some ⟨oc9, od9, .func (PySem.W.fnOf "_law_sums" "_law_sums" (defArgs s_law_sums) (defBody s_law_sums) (defScope s_law_sums) .none kV9 dc9 pm9 an9 cd9 ct9), sl9⟩)
    (c9 : PySem.W.codeIn K cd9 "_law_sums" = true) (k9 : PySem.W.keepIn K (.ref f9) = true)
    (a10 : PySem.W.nsIn K mainGlobals "_law_same" = some (some (.ref f10)))
    (l10 : K.lookup f10 = some ⟨oc10, od10, .func (PySem.W.fnOf "_law_same" "_law_same" (defArgs s_law_same) (defBody s_law_same) (defScope s_law_same) .none kV10 dc10 pm10 an10 cd10 ct10), sl10⟩)
    (c10 : PySem.W.codeIn K cd10 "_law_same" = true) (k10 : PySem.W.keepIn K (.ref f10) = true)
    (a11 : PySem.W.nsIn K mainGlobals "law" = some (some (.ref f11)))
    (l11 : K.lookup f11 = some ⟨oc11, od11, .func (PySem.W.fnOf "law" "law" (defArgs s_law) (defBody s_law) (defScope s_law) .none kV11 dc11 pm11 an11 cd11 ct11), sl11⟩)
    (c11 : PySem.W.codeIn K cd11 "law" = true) (k11 : PySem.W.keepIn K (.ref f11) = true)
    (z_abs : PySem.W.nsIn K mainGlobals "abs" = some none)
    (z_bool : PySem.W.nsIn K mainGlobals "bool" = some none)
    (z_int : PySem.W.nsIn K mainGlobals "int" = some none)
    (z_isinstance : PySem.W.nsIn K mainGlobals "isinstance" = some none)
    (z_len : PySem.W.nsIn K mainGlobals "len" = some none)
    (z_list : PySem.W.nsIn K mainGlobals "list" = some none)
    (z_range : PySem.W.nsIn K mainGlobals "range" = some none)
    (z_str : PySem.W.nsIn K mainGlobals "str" = some none)
    (z_tuple : PySem.W.nsIn K mainGlobals "tuple" = some none)
    (acNONE : PySem.W.nsIn K mainGlobals "NONE" = some (some (.ref tNONE)))
    (lcNONE : K.lookup tNONE = some ⟨.type "tuple", tdNONE, .seq #[.int 0 tkNONE0, .int 1 tkNONE1] tnNONE, tslNONE⟩) :
    ∃ fd : FuncData, (∀ (s : Shared) (v : Value), BindsTo s fd ⟨[v], []⟩ [("_law_script", v)]) ∧ ∀ base : Heap, K.In base → base.Ns mainGlobals mg → FnOk l.prog w K mg base CX0 8 fa fd ["_law_script"] (spF K R_law) := by
  have e2 : fa = f11 := Value.ref.inj (Option.some.inj (hfa.symm.trans (PySem.W.mg_of X G a11)))
  rw [e2]
  have F0 := fun_mk (st := s_common) l0 c0 k0
  have b0 := F0.binds (ps := ["one", "two"]) fun _ _ _ _ _ _ us hl => match us, hl with | [_, _], _ => rfl
  have F1 := fun_mk (st := s_fraction) l1 c1 k1
  have b1 := F1.binds (ps := ["top", "bottom"]) fun _ _ _ _ _ _ us hl => match us, hl with | [_, _], _ => rfl
  have F2 := fun_mk (st := s_plus) l2 c2 k2
  have b2 := F2.binds (ps := ["one", "two"]) fun _ _ _ _ _ _ us hl => match us, hl with | [_, _], _ => rfl
  have F3 := fun_mk (st := s_prefixes) l3 c3 k3
  have b3 := F3.binds (ps := ["wish", "shares"]) fun _ _ _ _ _ _ us hl => match us, hl with | [_, _], _ => rfl
  have F4 := fun_mk (st := s_law_cell_at) l4 c4 k4
  have b4 := F4.binds (ps := ["_law_script", "_law_k"]) fun _ _ _ _ _ _ us hl => match us, hl with | [_, _], _ => rfl
  have F5 := fun_mk (st := s_law_mixed) l5 c5 k5
  have b5 := F5.binds (ps := ["_law_cell", "_law_many"]) fun _ _ _ _ _ _ us hl => match us, hl with | [_, _], _ => rfl
  have F6 := fun_mk (st := s_law_perm) l6 c6 k6
  have b6 := F6.binds (ps := ["_law_number", "_law_count"]) fun _ _ _ _ _ _ us hl => match us, hl with | [_, _], _ => rfl
  have F7 := fun_mk (st := s_law_divisor) l7 c7 k7
  have b7 := F7.binds (ps := ["_law_one", "_law_other"]) fun _ _ _ _ _ _ us hl => match us, hl with | [_, _], _ => rfl
  have F8 := fun_mk (st := s_law_lowest) l8 c8 k8
  have b8 := F8.binds (ps := ["_law_top", "_law_bottom"]) fun _ _ _ _ _ _ us hl => match us, hl with | [_, _], _ => rfl
  have F9 := fun_mk (st := s_law_sums) l9 c9 k9
  have b9 := F9.binds (ps := ["_law_script", "_law_at", "_law_count"]) fun _ _ _ _ _ _ us hl => match us, hl with | [_, _, _], _ => rfl
  have F10 := fun_mk (st := s_law_same) l10 c10 k10
  have b10 := F10.binds (ps := ["_law_found", "_law_due"]) fun _ _ _ _ _ _ us hl => match us, hl with | [_, _], _ => rfl
  have F11 := fun_mk (st := s_law) l11 c11 k11
  have b11 := F11.binds (ps := ["_law_script"]) fun _ _ _ _ _ _ us hl => match us, hl with | [_], _ => rfl
  let T : Txt K mg := { a_common := f0, d_common := _, F_common := F0, b_common := b0, m_common := PySem.W.mg_of X G a0, a_fraction := f1, d_fraction := _, F_fraction := F1, b_fraction := b1, m_fraction := PySem.W.mg_of X G a1, a_plus := f2, d_plus := _, F_plus := F2, b_plus := b2, m_plus := PySem.W.mg_of X G a2, a_prefixes := f3, d_prefixes := _, F_prefixes := F3, b_prefixes := b3, m_prefixes := PySem.W.mg_of X G a3, a_law_cell_at := f4, d_law_cell_at := _, F_law_cell_at := F4, b_law_cell_at := b4, m_law_cell_at := PySem.W.mg_of X G a4, a_law_mixed := f5, d_law_mixed := _, F_law_mixed := F5, b_law_mixed := b5, m_law_mixed := PySem.W.mg_of X G a5, a_law_perm := f6, d_law_perm := _, F_law_perm := F6, b_law_perm := b6, m_law_perm := PySem.W.mg_of X G a6, a_law_divisor := f7, d_law_divisor := _, F_law_divisor := F7, b_law_divisor := b7, m_law_divisor := PySem.W.mg_of X G a7, a_law_lowest := f8, d_law_lowest := _, F_law_lowest := F8, b_law_lowest := b8, m_law_lowest := PySem.W.mg_of X G a8, a_law_sums := f9, d_law_sums := _, F_law_sums := F9, b_law_sums := b9, m_law_sums := PySem.W.mg_of X G a9, a_law_same := f10, d_law_same := _, F_law_same := F10, b_law_same := b10, m_law_same := PySem.W.mg_of X G a10, a_law := f11, d_law := _, F_law := F11, b_law := b11, m_law := PySem.W.mg_of X G a11, z_abs := PySem.W.mg_none_of X G z_abs, z_bool := PySem.W.mg_none_of X G z_bool, z_int := PySem.W.mg_none_of X G z_int, z_isinstance := PySem.W.mg_none_of X G z_isinstance, z_len := PySem.W.mg_none_of X G z_len, z_list := PySem.W.mg_none_of X G z_list, z_range := PySem.W.mg_none_of X G z_range, z_str := PySem.W.mg_none_of X G z_str, z_tuple := PySem.W.mg_none_of X G z_tuple, v_NONE := .ref tNONE, u_NONE := .ref tNONE, m_NONE := PySem.W.mg_of X G acNONE, r_NONE := rfl, t_NONE := fun H => .tup (xs := [V.int 0, V.int 1]) (.inr ⟨_, _, _, lcNONE, rfl, rfl, (by show 2 ≤ sizeLine; decide), .cons ⟨_, rfl⟩ (.cons ⟨_, rfl⟩ (.nil))⟩) (.cons (.int _) (.cons (.int _) (.nil))) }
  exact ⟨PySem.W.fnOf "law" "law" (defArgs s_law) (defBody s_law) (defScope s_law) .none kV11 dc11 pm11 an11 cd11 ct11, fun s v => .of_eq rfl, fun base _ _ => ok_law (P := l.prog) (w := w) (base := base) T⟩
theorem walk {l : PySem.W.OpenLaw} {q : Program} {loose : List Str} {XP : (Str → Option Value) → Heap → Prop} {YP : World → Heap → Prop} {d : DefRec} {K : Params → PySem.W.Frag} (hn : l.most = some 63) (hdf : d.params.defaults = [])
    (hY : ∀ (w : World) (h : Heap), YP w h → (K w.params).In h)
    (F : ∀ (w : World) (mg : Str → Option Value) (fa : Addr) (h : Heap), (K w.params).In h → h.Ns mainGlobals mg → mg d.name = some (.ref fa) →
      ∃ fd : FuncData, (∀ (s : Shared) (u : Value), BindsTo s fd ⟨[u], []⟩ [("_law_script", u)]) ∧ ∀ base : Heap, (K w.params).In base → base.Ns mainGlobals mg → FnOk l.prog w (K w.params) mg base CX0 8 fa fd ["_law_script"] (spF (K w.params) R_law)) :
    PySem.W.WalkO q loose XP YP l.row.toRowW d [] (fun f vs => PySem.call f vs) :=
  L2.walk_of (n := 63) (k := 8) (x := "_law_script") (CX := fun _ => CX0) (sp := fun w => spF (K w.params) R_law) hn (by decide) hdf ⟨rfl, by decide, by decide⟩ hY F (fun _ _ a ns hl hb hS => law_of a ns hl hS) fun _ _ _ _ _ z => z
end WL
open PySem PySem.W PyProof.Rows
set_option maxRecDepth 100000 in
set_option maxHeartbeats 0 in
theorem PySem.Challenge.cw_wishlots_k04_prefixes_holds : PySem.Challenge.rw_wishlots_k04_prefixes.Holds := by
  w_on; o_law; k_head; (case hw => w_witness2)
  k_fill
  refine WL.walk (l := PySem.Challenge.rw_wishlots_k04_prefixes) rfl rfl (fun w h Y => PySem.W.kIn_of Y) ?F
  case F =>
    intro w mg fa h KX G hmg
    refine' WL.all_mk KX G hmg ?a0 ?l0 ?c0 ?k0 ?a1 ?l1 ?c1 ?k1 ?a2 ?l2 ?c2 ?k2 ?a3 ?l3 ?c3 ?k3 ?a4 ?l4 ?c4 ?k4 ?a5 ?l5 ?c5 ?k5 ?a6 ?l6 ?c6 ?k6 ?a7 ?l7 ?c7 ?k7 ?a8 ?l8 ?c8 ?k8 ?a9 ?l9 ?c9 ?k9 ?a10 ?l10 ?c10 ?k10 ?a11 ?l11 ?c11 ?k11 ?z_abs ?z_bool ?z_int ?z_isinstance ?z_len ?z_list ?z_range ?z_str ?z_tuple ?acNONE ?lcNONE
    (case a0 => k_is)
    (case l0 => k_is)
    (case c0 => k_is)
    (case k0 => k_is)
    (case a1 => k_is)
    (case l1 => k_is)
    (case c1 => k_is)
    (case k1 => k_is)
    (case a2 => k_is)
    (case l2 => k_is)
    (case c2 => k_is)
    (case k2 => k_is)
    (case a3 => k_is)
    (case l3 => k_is)
    (case c3 => k_is)
    (case k3 => k_is)
    (case a4 => k_is)
    (case l4 => k_is)
    (case c4 => k_is)
    (case k4 => k_is)
    (case a5 => k_is)
    (case l5 => k_is)
    (case c5 => k_is)
    (case k5 => k_is)
    (case a6 => k_is)
    (case l6 => k_is)
    (case c6 => k_is)
    (case k6 => k_is)
    (case a7 => k_is)
    (case l7 => k_is)
    (case c7 => k_is)
    (case k7 => k_is)
    (case a8 => k_is)
    (case l8 => k_is)
    (case c8 => k_is)
    (case k8 => k_is)
    (case a9 => k_is)
    (case l9 => k_is)
    (case c9 => k_is)
    (case k9 => k_is)
    (case a10 => k_is)
    (case l10 => k_is)
    (case c10 => k_is)
    (case k10 => k_is)
    (case a11 => k_is)
    (case l11 => k_is)
    (case c11 => k_is)
    (case k11 => k_is)
    (case z_abs => k_is)
    (case z_bool => k_is)
    (case z_int => k_is)
    (case z_isinstance => k_is)
    (case z_len => k_is)
    (case z_list => k_is)
    (case z_range => k_is)
    (case z_str => k_is)
    (case z_tuple => k_is)
    (case acNONE => k_is)
    (case lcNONE => k_is)
#print axioms PySem.Challenge.cw_wishlots_k04_prefixes_holds

