import PyProof.Rows.All
import Wide.All
import OpenK.AllK
import Wide.FinOn
import HandS.ForMost
import HandS.ForExc
import HandS.Wide
import HandS.IsInst
import HandS.SortInts
import HandS.More
import HandS.TupAny
import HandS.SetFor
import HandS.ExcIs
import HandS.Conv
import HandS.Deep
import HandS.Strs
import HandS.SetKeys
import HandS.TupSets
import KE.DataMinMax
import HandS.Style
import PySem.Challenge.RW_wishlots_k64_whole_names_turned_about
set_option Elab.async false
set_option maxRecDepth 100000
set_option linter.all false
namespace WL
open PySem L2

/-! ### data and heaps -/
section
variable {K : PySem.W.Frag}
theorem sq_t {H H' : Hp} {a : Addr} {xs : List V} (e : Same H H') (h : SqT K H a xs) : SqT K H' a xs := by
  obtain (held | ⟨o, locked⟩) | written := h
  · exact .inl (.inl (e a _ held))
  · exact .inl (.inr ⟨o, e a _ locked⟩)
  · exact .inr written
mutual
theorem dp_mono {H H' : Hp} (e : Same H H') : ∀ (d : PyData) (v : V), Dp K H v d → Dp K H' v d
  | _, _, .non => .non
  | _, _, .bl b => .bl b
  | _, _, .int i => .int i
  | _, _, .str x => .str x
  | .list ds, _, .lst (xs := xs) h a => .lst (e.seq h) (dps_mono e ds xs a)
  | .tuple ds, _, .tup (xs := xs) h a => .tup (sq_t e h) (dps_mono e ds xs a)
theorem dps_mono {H H' : Hp} (e : Same H H') : ∀ (ds : List PyData) (xs : List V), DpAll K H xs ds → DpAll K H' xs ds
  | _, _, .nil => .nil
  | d :: ds, v :: vs, .cons h a => .cons (dp_mono e d v h) (dps_mono e ds vs a)
end
theorem dpa_len {H : Hp} : ∀ {ds : List PyData} {xs : List V}, DpAll K H xs ds → xs.length = ds.length
  | [], _, .nil => rfl
  | _ :: _, _ :: _, .cons _ a => congrArg (· + 1) (dpa_len a)
theorem dpa_at {H : Hp} : ∀ {ds : List PyData} {xs : List V} {i : Nat} {v : V} {d : PyData}, DpAll K H xs ds → xs[i]? = some v → ds[i]? = some d → Dp K H v d
  | [], _, i, v, d, .nil, h, _ => by simp at h
  | _ :: _, _ :: _, 0, v, d, .cons h _, e, e' => by
    cases (show some _ = some v from e)
    cases (show some _ = some d from e')
    exact h
  | _ :: ds, _ :: xs, i + 1, v, d, .cons _ a, e, e' => dpa_at (i := i) a (by simpa using e) (by simpa using e')
theorem dpa_mk {H : Hp} : ∀ {ds : List PyData} {xs : List V}, xs.length = ds.length → (∀ (i : Nat) v d, xs[i]? = some v → ds[i]? = some d → Dp K H v d) → DpAll K H xs ds
  | [], [], _, _ => .nil
  | [], _ :: _, h, _ => by simp at h
  | _ :: _, [], h, _ => by simp at h
  | d :: ds, x :: xs, h, k => .cons (k 0 x d rfl rfl) (dpa_mk (by simpa using h) fun i v d a b => k (i + 1) v d (by simpa using a) (by simpa using b))
theorem dpa_get {H : Hp} {ds : List PyData} {xs : List V} {i : Nat} {d : PyData} (a : DpAll K H xs ds) (e : ds[i]? = some d) : ∃ v, xs[i]? = some v ∧ Dp K H v d := by
  obtain ⟨h, _⟩ := List.getElem?_eq_some_iff.mp e
  have hx : i < xs.length := by rw [dpa_len a]; exact h
  exact ⟨xs[i], List.getElem?_eq_getElem hx, dpa_at a (List.getElem?_eq_getElem hx) e⟩
theorem dpa_get' {H : Hp} {ds : List PyData} {xs : List V} {i : Nat} {v : V} (a : DpAll K H xs ds) (e : xs[i]? = some v) : ∃ d, ds[i]? = some d ∧ Dp K H v d := by
  obtain ⟨h, _⟩ := List.getElem?_eq_some_iff.mp e
  have hx : i < ds.length := by rw [← dpa_len a]; exact h
  exact ⟨ds[i], List.getElem?_eq_getElem hx, dpa_at a e (List.getElem?_eq_getElem hx)⟩
theorem dpa_app {H : Hp} : ∀ {ds es : List PyData} {xs ys : List V}, DpAll K H xs ds → DpAll K H ys es → DpAll K H (xs ++ ys) (ds ++ es)
  | [], _, _, _, .nil, b => b
  | _ :: _, _, _ :: _, _, .cons h a, b => .cons h (dpa_app a b)
theorem dpa_one {H : Hp} {v : V} {d : PyData} (h : Dp K H v d) : DpAll K H [v] [d] := .cons h .nil
theorem dpa_set {H : Hp} {v : V} {d : PyData} (h : Dp K H v d) : ∀ {ds : List PyData} {xs : List V} (i : Nat), DpAll K H xs ds → DpAll K H (xs.set i v) (ds.set i d)
  | [], _, _, .nil => .nil
  | _ :: _, _ :: _, 0, .cons _ a => .cons h a
  | _ :: _, _ :: _, i + 1, .cons g a => .cons g (dpa_set h i a)
theorem dpa_take {H : Hp} : ∀ {ds : List PyData} {xs : List V} (n : Nat), DpAll K H xs ds → DpAll K H (xs.take n) (ds.take n)
  | _, _, 0, _ => .nil
  | [], _, _ + 1, .nil => .nil
  | _ :: _, _ :: _, n + 1, .cons h a => .cons h (dpa_take n a)
theorem dpa_drop {H : Hp} : ∀ {ds : List PyData} {xs : List V} (n : Nat), DpAll K H xs ds → DpAll K H (xs.drop n) (ds.drop n)
  | _, _, 0, a => a
  | [], _, _ + 1, .nil => .nil
  | _ :: _, _ :: _, n + 1, .cons _ a => dpa_drop n a
theorem dpa_erase {H : Hp} : ∀ {ds : List PyData} {xs : List V} (n : Nat), DpAll K H xs ds → DpAll K H (xs.eraseIdx n) (ds.eraseIdx n)
  | [], _, _, .nil => .nil
  | _ :: _, _ :: _, 0, .cons _ a => a
  | _ :: _, _ :: _, n + 1, .cons h a => .cons h (dpa_erase n a)
theorem dpa_rev {H : Hp} {ds : List PyData} {xs : List V} (a : DpAll K H xs ds) : DpAll K H xs.reverse ds.reverse := by
  induction ds generalizing xs with
  | nil => cases a; exact .nil
  | cons d ds ih =>
    cases a with
    | cons h a =>
      rw [List.reverse_cons, List.reverse_cons]
      exact dpa_app (ih a) (dpa_one h)
theorem dpa_ints {H : Hp} : ∀ {ns : List Int} {xs : List V}, DpAll K H xs (ns.map PyData.int) → xs = ns.map V.int
  | [], _, .nil => rfl
  | _ :: _, _ :: _, .cons h a => by
    cases h
    exact congrArg _ (dpa_ints a)
theorem ints_dpa {H : Hp} : ∀ (ns : List Int), DpAll K H (ns.map V.int) (ns.map PyData.int)
  | [] => .nil
  | _ :: ns => .cons (.int _) (ints_dpa ns)
theorem dpa_bools {H : Hp} : ∀ {ns : List Bool} {xs : List V}, DpAll K H xs (ns.map PyData.bool) → xs = ns.map V.bl
  | [], _, .nil => rfl
  | _ :: _, _ :: _, .cons h a => by
    cases h
    exact congrArg _ (dpa_bools a)
theorem dpa_strs {H : Hp} : ∀ {ns : List Str} {xs : List V}, DpAll K H xs (ns.map PyData.str) → xs = ns.map V.str
  | [], _, .nil => rfl
  | _ :: _, _ :: _, .cons h a => by
    cases h
    exact congrArg _ (dpa_strs a)
theorem strs_dpa {H : Hp} : ∀ (ns : List Str), DpAll K H (ns.map V.str) (ns.map PyData.str)
  | [] => .nil
  | _ :: ns => .cons (.str _) (strs_dpa ns)
theorem dp_int {H : Hp} {v : V} {i : Int} (h : Dp K H v (.int i)) : v = .int i := by cases h; rfl
theorem dp_bool {H : Hp} {v : V} {i : Bool} (h : Dp K H v (.bool i)) : v = .bl i := by cases h; rfl
theorem dp_str {H : Hp} {v : V} {i : Str} (h : Dp K H v (.str i)) : v = .str i := by cases h; rfl
theorem dp_none {H : Hp} {v : V} (h : Dp K H v .none) : v = .non := by cases h; rfl
theorem dp_list {H : Hp} {v : V} {ds : List PyData} (h : Dp K H v (.list ds)) : ∃ a xs, v = .ref a ∧ SqL K H a xs ∧ DpAll K H xs ds := by
  cases h with
  | lst h a => exact ⟨_, _, rfl, h, a⟩
theorem dp_tuple {H : Hp} {v : V} {ds : List PyData} (h : Dp K H v (.tuple ds)) : ∃ a xs, v = .ref a ∧ SqT K H a xs ∧ DpAll K H xs ds := by
  cases h with
  | tup h a => exact ⟨_, _, rfl, h, a⟩

/-- the heap grows; what was known stays; what was there but not known stays unknown -/
structure Gr (F H F' H' : Hp) : Prop where
  ff : Same F F'
  hh : Same H H'
  fh : Same F' H'
  ap : ∀ a o, F a = none → H a = some o → F' a = none
theorem Gr.refl {F H : Hp} (e : Same F H) : Gr F H F H := ⟨Same.refl _, Same.refl _, e, fun _ _ h _ => h⟩
theorem Gr.trans {F H F1 H1 F2 H2 : Hp} (a : Gr F H F1 H1) (b : Gr F1 H1 F2 H2) : Gr F H F2 H2 :=
  ⟨a.ff.trans b.ff, a.hh.trans b.hh, b.fh, fun c o h e => b.ap c o (a.ap c o h e) (a.hh c o e)⟩
theorem same_new {H : Hp} {p : Addr} {o : HO} (h : H p = none) : Same H (upd H p o) := fun a u e => by rw [upd_ne (ne_of_none e h)]; exact e
/-- a new object that is known from now on -/
theorem Gr.new {F H : Hp} {p : Addr} {o : HO} (e : Same F H) (h : H p = none) : Gr F H (upd F p o) (upd H p o) := by
  have hF : F p = none := e.free h
  refine ⟨same_new hF, same_new h, fun a u q => ?_, fun a u q r => ?_⟩
  · by_cases z : a = p
    · rw [z, upd_same] at q ⊢; exact q
    · rw [upd_ne z] at q ⊢; exact e a u q
  · rw [upd_ne (ne_of_none r h)]; exact q
/-- a new object of one's own -/
theorem Gr.own {F H : Hp} {p : Addr} {o : HO} (e : Same F H) (h : H p = none) : Gr F H F (upd H p o) :=
  ⟨Same.refl _, same_new h, e.trans (same_new h), fun _ _ q _ => q⟩
/-- an object of one's own is known from now on -/
theorem Gr.frz {F H F' H' : Hp} {p : Addr} {o : HO} (g : Gr F H F' H') (h : H p = none) (h' : F' p = none) (e : H' p = some o) : Gr F H (upd F' p o) H' := by
  refine ⟨g.ff.trans (same_new h'), g.hh, fun a u q => ?_, fun a u q r => ?_⟩
  · by_cases z : a = p
    · rw [z, upd_same] at q; rw [z, e]; exact q
    · rw [upd_ne z] at q; exact g.fh a u q
  · rw [upd_ne (ne_of_none r h)]; exact g.ap a u q r

/-! ### environments of data -/
/-- an exception object of the class at C, without a dict of its own -/
def EO (C a : Addr) : HO := .ext fun h => ∃ (oe : Obj) (vs : Array Value), h.get? a = some oe ∧ Zc (.ref C) none oe ∧ oe.data = .fields vs
/-! ### what is one's own: lists, tuples, dicts, instances, one within another -/
inductive Ot where
  | da (d : PyData)
  | li (ts : List Ot)
  | tu (ts : List Ot)
  | di (ks : List Key) (ts : List Ot)
  | ob (C : Addr) (ns : List Str) (ts : List Ot)
  | at_ (v : V)
mutual
inductive OtOk (K : PySem.W.Frag) (F H : Hp) : Ot → V → List Addr → Prop
  | da {v : V} {d : PyData} : Dp K F v d → OtOk K F H (.da d) v []
  | li {l : Addr} {vs : List V} {ts : List Ot} {as : List Addr} : H l = some (.lst vs) → OtsOk K F H ts vs as → OtOk K F H (.li ts) (.ref l) (l :: as)
  | tu {l : Addr} {vs : List V} {ts : List Ot} {as : List Addr} : H l = some (.tup vs) → OtsOk K F H ts vs as → OtOk K F H (.tu ts) (.ref l) (l :: as)
  | di {l : Addr} {ks : List Key} {vs : List V} {ts : List Ot} {as : List Addr} : H l = some (.dK (ks.zip vs)) → ks.length = ts.length → OtsOk K F H ts vs as → OtOk K F H (.di ks ts) (.ref l) (l :: as)
  | ob {l dx C : Addr} {ns : List Str} {vs : List V} {ts : List Ot} {as : List Addr} : H l = some (.ins C dx (ns.zip vs)) → H dx = some (.own l) → ns.length = ts.length → OtsOk K F H ts vs as → OtOk K F H (.ob C ns ts) (.ref l) (l :: dx :: as)
  | at_ {v : V} : OtOk K F H (.at_ v) v []
inductive OtsOk (K : PySem.W.Frag) (F H : Hp) : List Ot → List V → List Addr → Prop
  | nil : OtsOk K F H [] [] []
  | cons {t : Ot} {ts : List Ot} {v : V} {vs : List V} {as bs : List Addr} : OtOk K F H t v as → OtsOk K F H ts vs bs → OtsOk K F H (t :: ts) (v :: vs) (as ++ bs)
end
mutual
theorem OtOk.mono {F H F' H' : Hp} (ff : Same F F') : ∀ {t : Ot} {v : V} {as : List Addr}, OtOk K F H t v as → (∀ a ∈ as, ∀ o, H a = some o → H' a = some o) → OtOk K F' H' t v as
  | _, _, _, .da p, _ => .da (dp_mono ff _ _ p)
  | _, _, _, .li h p, m => .li (m _ List.mem_cons_self _ h) (p.mono ff fun a q => m a (List.mem_cons_of_mem _ q))
  | _, _, _, .tu h p, m => .tu (m _ List.mem_cons_self _ h) (p.mono ff fun a q => m a (List.mem_cons_of_mem _ q))
  | _, _, _, .di h e p, m => .di (m _ List.mem_cons_self _ h) e (p.mono ff fun a q => m a (List.mem_cons_of_mem _ q))
  | _, _, _, .ob h g e p, m => .ob (m _ List.mem_cons_self _ h) (m _ (List.mem_cons_of_mem _ List.mem_cons_self) _ g) e (p.mono ff fun a q => m a (List.mem_cons_of_mem _ (List.mem_cons_of_mem _ q)))
  | _, _, _, .at_, _ => .at_
theorem OtsOk.mono {F H F' H' : Hp} (ff : Same F F') : ∀ {ts : List Ot} {vs : List V} {as : List Addr}, OtsOk K F H ts vs as → (∀ a ∈ as, ∀ o, H a = some o → H' a = some o) → OtsOk K F' H' ts vs as
  | _, _, _, .nil, _ => .nil
  | _, _, _, .cons p q, m => .cons (p.mono ff fun a z => m a (List.mem_append_left _ z)) (q.mono ff fun a z => m a (List.mem_append_right _ z))
end
inductive Sl where
  | un
  | ex (C : Addr)
  | da (d : PyData)
  | ow (ds : List PyData)
  | ow2 (dss : List (List PyData))
  | ow2a (l : Addr) (dss : List (List PyData))
  | row (r : List Nat)
  | rows (W : List (List Nat))
  | orows (W : List (List Nat))
  | ot (o : Option V) (t : Ot)
  | fd (kvs : List (Key × PyData))
/-- a tuple of numbers whose record is known to have no dict -/
def PlT (F : Hp) (v : V) (r : List Nat) : Prop := ∃ a ob, v = .ref a ∧ F a = some (.frz ob (.tup (r.map fun i : Nat => V.int i))) ∧ ob.cls = .type "tuple" ∧ ob.dict = none
def PlAll (F : Hp) (xs : List V) (W : List (List Nat)) : Prop := xs.length = W.length ∧ ∀ (i : Nat) v r, xs[i]? = some v → W[i]? = some r → PlT F v r
theorem PlT.mono {F F' : Hp} {v : V} {r : List Nat} (h : PlT F v r) (e : Same F F') : PlT F' v r := by
  obtain ⟨a, ob, q, p, z⟩ := h
  exact ⟨a, ob, q, e _ _ p, z⟩
theorem PlAll.mono {F F' : Hp} {xs : List V} {W : List (List Nat)} (h : PlAll F xs W) (e : Same F F') : PlAll F' xs W := ⟨h.1, fun i v r p q => (h.2 i v r p q).mono e⟩

def SlOk (K : PySem.W.Frag) (F H : Hp) : Sl → Option (Option V) → (Addr → Prop) → Prop
  | .un, _, _ => True
  | .ex C, o, _ => ∃ a, o = some (some (.ref a)) ∧ F a = some (EO C a)
  | .da d, o, _ => ∃ v, o = some (some v) ∧ Dp K F v d
  | .ow ds, o, A => ∃ l xs, o = some (some (.ref l)) ∧ H l = some (.lst xs) ∧ A l ∧ DpAll K F xs ds
  | .ow2 dss, o, A => ∃ l ls, o = some (some (.ref l)) ∧ H l = some (.lst (ls.map V.ref)) ∧ A l ∧ (l :: ls).Nodup ∧ ls.length = dss.length ∧
      ∀ (i : Nat) r ds, ls[i]? = some r → dss[i]? = some ds → A r ∧ ∃ xs, H r = some (.lst xs) ∧ DpAll K F xs ds
  | .ow2a l dss, o, A => ∃ ls, o = some (some (.ref l)) ∧ H l = some (.lst (ls.map V.ref)) ∧ A l ∧ (l :: ls).Nodup ∧ ls.length = dss.length ∧
      ∀ (i : Nat) r ds, ls[i]? = some r → dss[i]? = some ds → A r ∧ ∃ xs, H r = some (.lst xs) ∧ DpAll K F xs ds
  | .row r, o, _ => ∃ v, o = some (some v) ∧ PlT F v r
  | .rows W, o, _ => ∃ a xs, o = some (some (.ref a)) ∧ F a = some (.lst xs) ∧ PlAll F xs W
  | .orows W, o, A => ∃ l xs, o = some (some (.ref l)) ∧ H l = some (.lst xs) ∧ A l ∧ PlAll F xs W
  | .ot q t, o, A => ∃ v as, o = some (some v) ∧ (∀ w, q = some w → v = w) ∧ OtOk K F H t v as ∧ as.Nodup ∧ ∀ a ∈ as, A a
  | .fd kvs, o, _ => ∃ a vs, o = some (some (.ref a)) ∧ F a = some (.dK ((kvs.map (·.1)).zip vs)) ∧ DpAll K F vs (kvs.map (·.2))
theorem SlOk.mono {F H F' H' : Hp} {s : Sl} {o : Option (Option V)} {A A' : Addr → Prop} (h : SlOk K F H s o A) (ff : Same F F') (hh : ∀ a u, A a → H a = some u → H' a = some u) (hA : ∀ a, A a → A' a) : SlOk K F' H' s o A' := by
  cases s with
  | un => trivial
  | ex C => obtain ⟨a, e, p⟩ := h; exact ⟨a, e, ff _ _ p⟩
  | da d => obtain ⟨v, e, p⟩ := h; exact ⟨v, e, dp_mono ff _ _ p⟩
  | ow ds => obtain ⟨l, xs, e, p, a, q⟩ := h; exact ⟨l, xs, e, hh _ _ a p, hA _ a, dps_mono ff _ _ q⟩
  | ow2 dss =>
    obtain ⟨l, ls, e, p, a, nd, len, q⟩ := h
    refine ⟨l, ls, e, hh _ _ a p, hA _ a, nd, len, fun i r ds h1 h2 => ?_⟩
    obtain ⟨ar, xs, hr, dr⟩ := q i r ds h1 h2
    exact ⟨hA _ ar, xs, hh _ _ ar hr, dps_mono ff _ _ dr⟩
  | ow2a l dss =>
    obtain ⟨ls, e, p, a, nd, len, q⟩ := h
    refine ⟨ls, e, hh _ _ a p, hA _ a, nd, len, fun i r ds h1 h2 => ?_⟩
    obtain ⟨ar, xs, hr, dr⟩ := q i r ds h1 h2
    exact ⟨hA _ ar, xs, hh _ _ ar hr, dps_mono ff _ _ dr⟩
  | row r => obtain ⟨v, e, p⟩ := h; exact ⟨v, e, p.mono ff⟩
  | rows W => obtain ⟨a, xs, e, p, q⟩ := h; exact ⟨a, xs, e, ff _ _ p, q.mono ff⟩
  | orows W => obtain ⟨l, xs, e, p, a, q⟩ := h; exact ⟨l, xs, e, hh _ _ a p, hA _ a, q.mono ff⟩
  | ot q t => obtain ⟨v, as, e, w, p, nd, q⟩ := h; exact ⟨v, as, e, w, p.mono ff fun a m o z => hh a o (q a m) z, nd, fun a m => hA a (q a m)⟩
  | fd kvs => obtain ⟨a, vs, e, p, q⟩ := h; exact ⟨a, vs, e, ff _ _ p, dps_mono ff _ _ q⟩
structure En (K : PySem.W.Frag) (N : Addr → Prop) (ρ : List Sl) (σ : St) (F H : Hp) : Prop where
  fh : Same F H
  len : ρ.length = σ.length
  en : ∃ A : Nat → Addr → Prop, (∀ i s, ρ[i]? = some s → SlOk K F H s σ[i]? (A i)) ∧ (∀ i j a, A i a → A j a → i = j) ∧ (∀ i a, A i a → F a = none ∧ N a ∧ ∃ o, H a = some o)
variable {N : Addr → Prop} {ρ : List Sl} {σ : St} {F H F' H' : Hp}
theorem En.gr (e : En K N ρ σ F H) (g : Gr F H F' H') : En K N ρ σ F' H' := by
  obtain ⟨A, h1, h2, h3⟩ := e.en
  refine ⟨g.fh, e.len, A, fun i s hs => (h1 i s hs).mono g.ff (fun a u _ q => g.hh a u q) fun _ a => a, h2, fun i a q => ?_⟩
  obtain ⟨f, n, o, ho⟩ := h3 i a q
  exact ⟨g.ap a o f ho, n, o, g.hh a o ho⟩
/-- what an expression or a call gives -/
def RetOk (K : PySem.W.Frag) (N : Addr → Prop) (F H : Hp) (s : Sl) (v : V) : Prop := ∃ A : Addr → Prop, SlOk K F H s (some (some v)) A ∧ ∀ a, A a → F a = none ∧ N a ∧ ∃ o, H a = some o
theorem ret_da {d : PyData} {v : V} (h : Dp K F v d) : RetOk K N F H (.da d) v := ⟨fun _ => False, ⟨v, rfl, h⟩, fun _ z => z.elim⟩
theorem of_ret_da {d : PyData} {v : V} (h : RetOk K N F H (.da d) v) : Dp K F v d := by
  obtain ⟨A, ⟨v', e, p⟩, _⟩ := h
  cases e
  exact p
theorem ret_ow {ds : List PyData} {l : Addr} {xs : List V} (h : H l = some (.lst xs)) (f : F l = none) (n : N l) (a : DpAll K F xs ds) : RetOk K N F H (.ow ds) (.ref l) :=
  ⟨fun b => b = l, ⟨l, xs, rfl, h, rfl, a⟩, fun b e => by rw [e]; exact ⟨f, n, _, h⟩⟩
theorem of_ret_ow {ds : List PyData} {v : V} (h : RetOk K N F H (.ow ds) v) : ∃ l xs, v = .ref l ∧ H l = some (.lst xs) ∧ F l = none ∧ N l ∧ DpAll K F xs ds := by
  obtain ⟨A, ⟨l, xs, e, p, a, q⟩, k⟩ := h
  cases e
  obtain ⟨k1, k2, _⟩ := k l a
  exact ⟨l, xs, rfl, p, k1, k2, q⟩
theorem RetOk.imp {N' : Addr → Prop} {s : Sl} {v : V} (h : RetOk K N F H s v) (n : ∀ a, N a → N' a) : RetOk K N' F H s v := by
  obtain ⟨A, p, k⟩ := h
  exact ⟨A, p, fun a q => ⟨(k a q).1, n a (k a q).2.1, (k a q).2.2⟩⟩
theorem RetOk.gr {s : Sl} {v : V} (h : RetOk K N F H s v) (g : Gr F H F' H') : RetOk K N F' H' s v := by
  obtain ⟨A, p, k⟩ := h
  refine ⟨A, p.mono g.ff (fun a u _ q => g.hh a u q) fun _ a => a, fun a q => ?_⟩
  obtain ⟨f, n, o, ho⟩ := k a q
  exact ⟨g.ap a o f ho, n, o, g.hh a o ho⟩

end
end WL

namespace WL
open PySem L2
section
variable {K : PySem.W.Frag} {N : Addr → Prop} {ρ : List Sl} {σ : St} {F H F' H' F0 H0 : Hp}
/-- a slot is stored -/
theorem En.put (e : En K N ρ σ F H) (g : Gr F H F' H') {i : Nat} {s : Sl} {v : V} (r : RetOk K (fun a => H a = none) F' H' s v) (n : ∀ a, H a = none → N a) : En K N (ρ.set i s) (σ.set i (some v)) F' H' := by
  obtain ⟨A, h1, h2, h3⟩ := e.en
  obtain ⟨B, b1, b2⟩ := r
  have nb : ∀ j a, A j a → B a → False := fun j a p q => by
    obtain ⟨_, _, o, ho⟩ := h3 j a p
    have z : H a = none := (b2 a q).2.1
    rw [ho] at z; cases z
  refine ⟨g.fh, by rw [List.length_set, List.length_set]; exact e.len, fun j a => (j = i ∧ B a) ∨ (j ≠ i ∧ A j a), fun j t ht => ?_, fun j k a p q => ?_, fun j a p => ?_⟩
  · by_cases z : j = i
    · subst z
      have hj : j < ρ.length := by have := (List.getElem?_eq_some_iff.mp ht).1; simpa using this
      rw [List.getElem?_set_self hj] at ht
      cases ht
      rw [List.getElem?_set_self (by rw [← e.len]; exact hj)]
      exact b1.mono (Same.refl _) (fun _ _ _ q => q) fun a q => .inl ⟨rfl, q⟩
    · rw [List.getElem?_set_ne (Ne.symm z)] at ht ⊢
      exact (h1 j t ht).mono g.ff (fun a u _ q => g.hh a u q) fun a q => .inr ⟨z, q⟩
  · rcases p with ⟨p1, p2⟩ | ⟨p1, p2⟩ <;> rcases q with ⟨q1, q2⟩ | ⟨q1, q2⟩
    · exact p1.trans q1.symm
    · exact (nb _ _ q2 p2).elim
    · exact (nb _ _ p2 q2).elim
    · exact h2 j k a p2 q2
  · rcases p with ⟨p1, p2⟩ | ⟨p1, p2⟩
    · obtain ⟨z1, z2, z3⟩ := b2 a p2
      exact ⟨z1, n a z2, z3⟩
    · obtain ⟨f, n, o, ho⟩ := h3 j a p2
      exact ⟨g.ap a o f ho, n, o, g.hh a o ho⟩
/-- a slot is forgotten -/
theorem En.drop (e : En K N ρ σ F H) (i : Nat) : En K N (ρ.set i .un) σ F H := by
  obtain ⟨A, h1, h2, h3⟩ := e.en
  refine ⟨e.fh, by rw [List.length_set]; exact e.len, fun j a => j ≠ i ∧ A j a, fun j t ht => ?_, fun j k a p q => h2 j k a p.2 q.2, fun j a p => h3 j a p.2⟩
  by_cases z : j = i
  · subst z
    have hj : j < ρ.length := by have := (List.getElem?_eq_some_iff.mp ht).1; simpa using this
    rw [List.getElem?_set_self hj] at ht
    cases ht
    trivial
  · rw [List.getElem?_set_ne (Ne.symm z)] at ht
    exact (h1 j t ht).mono (Same.refl _) (fun a u _ q => q) fun a q => ⟨z, q⟩
theorem En.dropv (e : En K N ρ σ F H) (i : Nat) (o : Option V) : En K N (ρ.set i .un) (σ.set i o) F H := by
  obtain ⟨A, h1, h2, h3⟩ := (e.drop i).en
  refine ⟨e.fh, by rw [List.length_set, List.length_set]; exact e.len, A, fun j t ht => ?_, h2, h3⟩
  by_cases z : j = i
  · subst z
    have hj : j < ρ.length := by have := (List.getElem?_eq_some_iff.mp ht).1; simpa using this
    rw [List.getElem?_set_self hj] at ht
    cases ht
    trivial
  · have := h1 j t ht
    rw [List.getElem?_set_ne (Ne.symm z)]
    exact this
def wipeR (ρ : List Sl) : List Nat → List Sl
  | [] => ρ
  | v :: vs => (wipeR ρ vs).set v .un
theorem En.wipe (e : En K N ρ σ F H) : ∀ vs : List Nat, En K N (wipeR ρ vs) (L2.wipe σ vs) F H
  | [] => e
  | v :: vs => (e.wipe vs).dropv v none
theorem wipe_back {vs : List Nat} {j : Nat} (hj : j ∈ vs) (x : Option V) : ∀ τ : St, wipe (τ.set j x) vs = wipe τ vs := by
  intro τ
  induction vs with
  | nil => cases hj
  | cons v vs ih =>
    show (wipe (τ.set j x) vs).set v none = (wipe τ vs).set v none
    by_cases hm : j ∈ vs
    · rw [ih hm]
    · have ej : j = v := (List.mem_cons.mp hj).resolve_right hm
      subst ej
      have sw : ∀ (ws : List Nat) (τ : St), j ∉ ws → wipe (τ.set j x) ws = (wipe τ ws).set j x := by
        intro ws
        induction ws with
        | nil => intro τ _; rfl
        | cons w ws ih2 =>
          intro τ hn
          show (wipe (τ.set j x) ws).set w none = ((wipe τ ws).set w none).set j x
          rw [ih2 τ (fun z => hn (List.mem_cons_of_mem _ z)), List.set_comm _ _ (fun z => hn (by rw [z]; exact List.mem_cons_self))]
      rw [sw vs τ hm, List.set_set]
theorem wipe_idem (σ : St) (vs : List Nat) : wipe (wipe σ vs) vs = wipe σ vs := by
  have h : ∀ (ws : List Nat) (τ : St), (∀ v ∈ ws, v < τ.length → τ[v]? = some none) → wipe τ ws = τ := by
    intro ws
    induction ws with
    | nil => intro τ _; rfl
    | cons w ws ih =>
      intro τ hv
      show (wipe τ ws).set w none = τ
      rw [ih τ fun v hm => hv v (List.mem_cons_of_mem _ hm)]
      refine List.ext_getElem? fun i => ?_
      by_cases z : w = i
      · subst z
        by_cases hl : w < τ.length
        · rw [List.getElem?_set_self hl]; exact (hv w List.mem_cons_self hl).symm
        · rw [List.getElem?_eq_none (by simpa using hl), List.getElem?_eq_none (by simpa using hl)]
      · rw [List.getElem?_set_ne z]
  refine h vs _ fun v hm hl => ?_
  have k : ∀ (ws : List Nat) (τ : St), v ∈ ws → v < τ.length → (wipe τ ws)[v]? = some none := by
    intro ws
    induction ws with
    | nil => intro _ z; cases z
    | cons w ws ih =>
      intro τ hm hl
      show ((wipe τ ws).set w none)[v]? = some none
      by_cases z : w = v
      · subst z; rw [List.getElem?_set_self (by rw [wipe_length]; exact hl)]
      · rw [List.getElem?_set_ne z]; exact ih τ ((List.mem_cons.mp hm).resolve_left fun q => z q.symm) hl
  exact k vs σ hm (by rw [wipe_length] at hl; exact hl)

/-- one's own list, to be changed -/
theorem En.mut (e : En K N ρ σ F H) {i : Nat} {ds : List PyData} (h : ρ[i]? = some (.ow ds)) : ∃ l xs, σ[i]? = some (some (.ref l)) ∧ H l = some (.lst xs) ∧ DpAll K F xs ds ∧ N l ∧ F l = none ∧
    ∀ ys es, DpAll K F ys es → En K N (ρ.set i (.ow es)) σ F (upd H l (.lst ys)) := by
  obtain ⟨A, h1, h2, h3⟩ := e.en
  obtain ⟨l, xs, es, hl, al, dl⟩ := h1 i _ h
  obtain ⟨fl, nl, _⟩ := h3 i l al
  refine ⟨l, xs, es, hl, dl, nl, fl, fun ys zs dz => ⟨fun a u q => ?_, by rw [List.length_set]; exact e.len, A, fun j t ht => ?_, h2, fun j a p => ?_⟩⟩
  · rw [upd_ne (ne_of_none q fl)]; exact e.fh a u q
  · by_cases z : j = i
    · subst z
      have hj : j < ρ.length := (List.getElem?_eq_some_iff.mp h).1
      rw [List.getElem?_set_self hj] at ht
      cases ht
      exact ⟨l, ys, es, upd_same, al, dz⟩
    · rw [List.getElem?_set_ne (Ne.symm z)] at ht
      refine (h1 j t ht).mono (Same.refl _) (fun a u p q => ?_) fun a q => q
      rw [upd_ne (fun y => z (h2 j i l (by rw [← y]; exact p) al))]
      exact q
  · obtain ⟨f, n, o, ho⟩ := h3 j a p
    by_cases z : a = l
    · rw [z]; exact ⟨fl, nl, _, upd_same⟩
    · exact ⟨f, n, o, by rw [upd_ne z]; exact ho⟩
/-- a row of one's own list of lists, to be changed -/
theorem En.mut2 (e : En K N ρ σ F H) {i : Nat} {dss : List (List PyData)} (h : ρ[i]? = some (.ow2 dss)) : ∃ (l : Addr) (ls : List Addr), σ[i]? = some (some (.ref l)) ∧ H l = some (.lst (ls.map V.ref)) ∧ N l ∧ F l = none ∧ ls.length = dss.length ∧
    ∀ (j : Nat) ds, dss[j]? = some ds → ∃ r xs, ls[j]? = some r ∧ H r = some (.lst xs) ∧ DpAll K F xs ds ∧ N r ∧ F r = none ∧ r ≠ l ∧ ∀ ys es, DpAll K F ys es → En K N (ρ.set i (.ow2 (dss.set j es))) σ F (upd H r (.lst ys)) := by
  obtain ⟨A, h1, h2, h3⟩ := e.en
  obtain ⟨l, ls, es, hl, al, nd, len, dl⟩ := h1 i _ h
  obtain ⟨fl, nl, _⟩ := h3 i l al
  refine ⟨l, ls, es, hl, nl, fl, len, fun j ds hj => ?_⟩
  have hjl : j < ls.length := by rw [len]; exact (List.getElem?_eq_some_iff.mp hj).1
  have hr : ls[j]? = some ls[j] := List.getElem?_eq_getElem hjl
  obtain ⟨ar, xs, hx, dx⟩ := dl j _ ds hr hj
  obtain ⟨fr, nr, _⟩ := h3 i _ ar
  have nrl : ls[j] ≠ l := fun z => (List.nodup_cons.mp nd).1 (by rw [← z]; exact List.getElem_mem hjl)
  refine ⟨ls[j], xs, hr, hx, dx, nr, fr, nrl, fun ys zs dz => ⟨fun a u q => ?_, by rw [List.length_set]; exact e.len, A, fun k t ht => ?_, h2, fun k a p => ?_⟩⟩
  · rw [upd_ne (ne_of_none q fr)]; exact e.fh a u q
  · by_cases z : k = i
    · subst z
      have hk : k < ρ.length := (List.getElem?_eq_some_iff.mp h).1
      rw [List.getElem?_set_self hk] at ht
      cases ht
      refine ⟨l, ls, es, by rw [upd_ne nrl.symm]; exact hl, al, nd, by rw [List.length_set]; exact len, fun m r ds' hm hd => ?_⟩
      by_cases y : m = j
      · subst y
        rw [hr] at hm
        cases hm
        rw [List.getElem?_set_self (by rw [← len]; exact hjl)] at hd
        cases hd
        exact ⟨ar, ys, upd_same, dz⟩
      · rw [List.getElem?_set_ne (Ne.symm y)] at hd
        obtain ⟨am, xm, hxm, dm⟩ := dl m r ds' hm hd
        refine ⟨am, xm, ?_, dm⟩
        rw [upd_ne (fun q => y (nd_ix (List.nodup_cons.mp nd).2 hm (by rw [q]; exact hr)))]
        exact hxm
    · rw [List.getElem?_set_ne (Ne.symm z)] at ht
      refine (h1 k t ht).mono (Same.refl _) (fun a u p q => ?_) fun a q => q
      rw [upd_ne (fun y => z (h2 k i ls[j] (by rw [← y]; exact p) ar))]
      exact q
  · obtain ⟨f, n, o, ho⟩ := h3 k a p
    by_cases z : a = ls[j]
    · rw [z]; exact ⟨fr, nr, _, upd_same⟩
    · exact ⟨f, n, o, by rw [upd_ne z]; exact ho⟩

/-! ### what an expression gives -/
/-- an expression gives s, the environment as it is -/
def XR (K : PySem.W.Frag) (te : TE) (ρ : List Sl) (s : Sl) : Prop := ∀ (N : Addr → Prop) (σ : St) (F H : Hp), En K N ρ σ F H → ∀ Q : VK, (∀ v F' H', Gr F H F' H' → RetOk K (fun a => H a = none) F' H' s v → Q v H') → te σ H Q
abbrev XE (K : PySem.W.Frag) (te : TE) (ρ : List Sl) (d : PyData) : Prop := XR K te ρ (.da d)
def XT (K : PySem.W.Frag) (tt : TT) (ρ : List Sl) (b : Bool) : Prop := ∀ (N : Addr → Prop) (σ : St) (F H : Hp), En K N ρ σ F H → ∀ Q : Bool → Hp → Prop, (∀ F' H', Gr F H F' H' → Q b H') → tt σ H Q
def XA (K : PySem.W.Frag) (ta : TA) (ρ : List Sl) (ds : List PyData) : Prop := ∀ (N : Addr → Prop) (σ : St) (F H : Hp), En K N ρ σ F H → ∀ Q : List V → Hp → Prop, (∀ vs F' H', Gr F H F' H' → DpAll K F' vs ds → Q vs H') → ta σ H Q
/-- a list or a tuple (b: a tuple), to be read; its items are known -/
def Sq (K : PySem.W.Frag) (b : Bool) (H : Hp) (p : Addr) (xs : List V) : Prop := match b with
  | false => SqL K H p xs
  | true => SqT K H p xs
def XS (K : PySem.W.Frag) (te : TE) (ρ : List Sl) (b : Bool) (ds : List PyData) : Prop := ∀ (N : Addr → Prop) (σ : St) (F H : Hp), En K N ρ σ F H → ∀ Q : VK, (∀ p xs F' H', Gr F H F' H' → Sq K b H' p xs → DpAll K F' xs ds → Q (.ref p) H') → te σ H Q
/-- a value that is read as it stands now -/
def XP (K : PySem.W.Frag) (te : TE) (ρ : List Sl) (d : PyData) : Prop := ∀ (N : Addr → Prop) (σ : St) (F H : Hp), En K N ρ σ F H → ∀ Q : VK, (∀ v F' H', Gr F H F' H' → Dp K H' v d → Q v H') → te σ H Q
def XPs (K : PySem.W.Frag) (ta : TA) (ρ : List Sl) (ds : List PyData) : Prop := ∀ (N : Addr → Prop) (σ : St) (F H : Hp), En K N ρ σ F H → ∀ Q : List V → Hp → Prop, (∀ vs F' H', Gr F H F' H' → DpAll K H' vs ds → Q vs H') → ta σ H Q

theorem xe_intro {te : TE} {d : PyData} (h : ∀ (N : Addr → Prop) (σ : St) (F H : Hp), En K N ρ σ F H → ∀ Q : VK, (∀ v F' H', Gr F H F' H' → Dp K F' v d → Q v H') → te σ H Q) : XE K te ρ d := fun N σ F H e Q q => h N σ F H e Q fun v F' H' g p => q v F' H' g (ret_da p)
theorem XR.e {te : TE} {d : PyData} (h : XE K te ρ d) (e : En K N ρ σ F H) {Q : VK} (q : ∀ v F' H', Gr F H F' H' → Dp K F' v d → Q v H') : te σ H Q := h N σ F H e Q fun v F' H' g r => q v F' H' g (of_ret_da r)
/-- a new list is known from now on -/
theorem x_frz {te : TE} {ds : List PyData} (h : XR K te ρ (.ow ds)) : XE K te ρ (.list ds) := xe_intro fun N σ F H e Q q => h N σ F H e Q fun v F' H' g r => by
  obtain ⟨l, xs, rfl, hl, fl, nl, a⟩ := of_ret_ow r
  exact q _ (upd F' l (.lst xs)) H' (g.frz nl fl hl) (.lst (.inl (.inl upd_same)) (dps_mono (same_new fl) _ _ a))
theorem x_var {i : Nat} {d : PyData} (h : ρ[i]? = some (.da d)) : XE K (tVar i) ρ d := xe_intro fun N σ F H e Q q => by
  obtain ⟨A, h1, _, _⟩ := e.en
  obtain ⟨v, ev, p⟩ := h1 i _ h
  exact ⟨v, ev, q v F H (.refl e.fh) p⟩
theorem x_c {v : V} {d : PyData} (h : ∀ F : Hp, Dp K F v d) : XE K (tC v) ρ d := xe_intro fun N σ F H e Q q => q v F H (.refl e.fh) (h F)
theorem x_int {i : Int} : XE K (tC (.int i)) ρ (.int i) := x_c fun _ => .int i
theorem x_bl {b : Bool} : XE K (tC (.bl b)) ρ (.bool b) := x_c fun _ => .bl b
theorem x_non : XE K (tC .non) ρ .none := x_c fun _ => .non
theorem x_str {x : Str} : XE K (tC (.str x)) ρ (.str x) := x_c fun _ => .str x
/-- a constant tuple of the module -/
theorem x_kt {a : Addr} {xs : List V} {ds : List PyData} (h : ∀ F : Hp, SqT K F a xs) (k : ∀ F : Hp, DpAll K F xs ds) : XE K (tC (.ref a)) ρ (.tuple ds) := x_c fun F => .tup (h F) (k F)
/-- sequences -/
theorem xs_t {te : TE} {ds : List PyData} (h : XE K te ρ (.tuple ds)) : XS K te ρ true ds := fun N σ F H e Q q => h.e e fun v F' H' g p => by
  obtain ⟨a, xs, rfl, s, k⟩ := dp_tuple p
  exact q a xs F' H' g (sq_t g.fh s) k
theorem xs_l {te : TE} {ds : List PyData} (h : XE K te ρ (.list ds)) : XS K te ρ false ds := fun N σ F H e Q q => h.e e fun v F' H' g p => by
  obtain ⟨a, xs, rfl, s, k⟩ := dp_list p
  exact q a xs F' H' g (g.fh.seq s) k
theorem xs_n {te : TE} {ds : List PyData} (h : XR K te ρ (.ow ds)) : XS K te ρ false ds := xs_l (x_frz h)
theorem xs_o {i : Nat} {ds : List PyData} (h : ρ[i]? = some (.ow ds)) : XS K (tVar i) ρ false ds := fun N σ F H e Q q => by
  obtain ⟨l, xs, es, hl, dl, _⟩ := e.mut h
  exact ⟨_, es, q l xs F H (.refl e.fh) (SqL.of hl) dl⟩
/-- values as they stand -/
theorem xp_e {te : TE} {d : PyData} (h : XE K te ρ d) : XP K te ρ d := fun N σ F H e Q q => h.e e fun v F' H' g p => q v F' H' g (dp_mono g.fh _ _ p)
theorem xp_o {i : Nat} {ds : List PyData} (h : ρ[i]? = some (.ow ds)) : XP K (tVar i) ρ (.list ds) := fun N σ F H e Q q => by
  obtain ⟨l, xs, es, hl, dl, _⟩ := e.mut h
  exact ⟨_, es, q (.ref l) F H (.refl e.fh) (.lst (SqL.of hl) (dps_mono e.fh _ _ dl))⟩
theorem xp_o2 {i : Nat} {dss : List (List PyData)} (h : ρ[i]? = some (.ow2 dss)) : XP K (tVar i) ρ (.list (dss.map PyData.list)) := fun N σ F H e Q q => by
  obtain ⟨l, ls, es, hl, _, _, len, k⟩ := e.mut2 h
  refine ⟨_, es, q (.ref l) F H (.refl e.fh) (.lst (SqL.of hl) (dpa_mk (by rw [List.length_map, List.length_map, len]) fun j v d hv hd => ?_))⟩
  rw [List.getElem?_map] at hv hd
  cases e1 : dss[j]? with
  | none => rw [e1] at hd; cases hd
  | some ds =>
    rw [e1] at hd
    cases hd
    obtain ⟨r, xs, hr, hx, dx, _⟩ := k j ds e1
    rw [hr] at hv
    cases hv
    exact .lst (SqL.of hx) (dps_mono e.fh _ _ dx)
/-- arguments -/
theorem xa_nil : XA K tNil ρ [] := fun N σ F H e Q q => q [] F H (.refl e.fh) .nil
theorem xa_cons {te : TE} {ta : TA} {d : PyData} {ds : List PyData} (h : XE K te ρ d) (k : XA K ta ρ ds) : XA K (tCons te ta) ρ (d :: ds) := fun N σ F H e Q q => h.e e fun v F1 H1 g1 p =>
  k N σ F1 H1 (e.gr g1) _ fun vs F2 H2 g2 ps => q (v :: vs) F2 H2 (g1.trans g2) (.cons (dp_mono g2.ff _ _ p) ps)
theorem xps_nil : XPs K tNil ρ [] := fun N σ F H e Q q => q [] F H (.refl e.fh) .nil
theorem xps_cons {te : TE} {ta : TA} {d : PyData} {ds : List PyData} (h : XP K te ρ d) (k : XPs K ta ρ ds) : XPs K (tCons te ta) ρ (d :: ds) := fun N σ F H e Q q => h N σ F H e _ fun v F1 H1 g1 p =>
  k N σ F1 H1 (e.gr g1) _ fun vs F2 H2 g2 ps => q (v :: vs) F2 H2 (g1.trans g2) (.cons (dp_mono g2.hh _ _ p) ps)
/-- a two-place operation -/
def RE (K : PySem.W.Frag) (r : R2) (a b : PyData) (s : Sl) : Prop := ∀ (F H : Hp) (x y : V), Same F H → Dp K F x a → Dp K F y b → ∀ Q : VK, (∀ v F' H', Gr F H F' H' → RetOk K (fun a => H a = none) F' H' s v → Q v H') → r x y H Q
theorem x_op {ta tb : TE} {r : R2} {a b : PyData} {s : Sl} (ha : XE K ta ρ a) (hb : XE K tb ρ b) (hr : RE K r a b s) : XR K (tOp r ta tb) ρ s := fun N σ F H e Q q => ha.e e fun x F1 H1 g1 p1 =>
  hb.e (e.gr g1) fun y F2 H2 g2 p2 => hr F2 H2 x y g2.fh (dp_mono g2.ff _ _ p1) p2 Q fun v F3 H3 g3 r3 => q v F3 H3 ((g1.trans g2).trans g3) (r3.imp fun a z => (g1.hh.trans g2.hh).free z)
theorem re_s {r : R2} {a b d : PyData} (h : ∀ (F H : Hp) (x y : V), Same F H → Dp K F x a → Dp K F y b → ∀ Q : VK, (∀ v, Dp K F v d → Q v H) → r x y H Q) : RE K r a b (.da d) := fun F H x y e p1 p2 Q q => h F H x y e p1 p2 Q fun v p => q v F H (.refl e) (ret_da p)
theorem re_I0 {g : Int → Int → V} {i j : Int} {d : PyData} (hd : ∀ F : Hp, Dp K F (g i j) d) : RE K (rI0 g) (.int i) (.int j) (.da d) := re_s fun F H x y e p1 p2 Q q => ⟨i, j, dp_int p1, dp_int p2, q _ (hd F)⟩
theorem re_I {C : Int → Int → Prop} {g : Int → Int → V} {i j : Int} {d : PyData} (hc : C i j) (hd : ∀ F : Hp, Dp K F (g i j) d) : RE K (rI C g) (.int i) (.int j) (.da d) := re_s fun F H x y e p1 p2 Q q => ⟨i, j, dp_int p1, dp_int p2, hc, q _ (hd F)⟩
end
end WL

namespace WL
open PySem L2
section
variable {K : PySem.W.Frag} {N : Addr → Prop} {ρ : List Sl} {σ : St} {F H F' H' F0 H0 : Hp}
/-! ### statements -/
structure Post where
  nx : List Sl → Prop
  rt : Sl → Prop := fun _ => False
  bk : List Sl → Prop := fun _ => False
  ct : List Sl → Prop := fun _ => False
  ex : Addr → Prop := fun _ => False
  rtE : Sl → List Sl → Prop := fun _ _ => False
  exE : Addr → List Sl → Prop := fun _ _ => False
  E : XK := fun _ _ _ => False
structure Es (K : PySem.W.Frag) (F0 H0 : Hp) (ρ : List Sl) (σ : St) (F H : Hp) : Prop where
  gr : Gr F0 H0 F H
  en : En K (fun a => H0 a = none) ρ σ F H
structure Fi (K : PySem.W.Frag) (F0 H0 : Hp) (P : Post) (D : Ends) : Prop where
  nx : ∀ ρ σ F H, P.nx ρ → Es K F0 H0 ρ σ F H → D.nx σ H
  rt : ∀ s v F H, P.rt s → Gr F0 H0 F H → RetOk K (fun a => H0 a = none) F H s v → D.rt v H
  bk : ∀ ρ σ F H, P.bk ρ → Es K F0 H0 ρ σ F H → D.bk σ H
  ct : ∀ ρ σ F H, P.ct ρ → Es K F0 H0 ρ σ F H → D.ct σ H
  ex : ∀ C F H, P.ex C → Gr F0 H0 F H → P.E (.ref C) none H
  rtE : ∀ s ρ σ v F H, P.rtE s ρ → Es K F0 H0 (ρ ++ [s]) (σ ++ [some v]) F H → D.rt v H
  exE : ∀ C ρ σ F H, P.exE C ρ → Es K F0 H0 ρ σ F H → P.E (.ref C) none H
def WS (K : PySem.W.Frag) (ts : TS) (ρ : List Sl) (P : Post) : Prop := ∀ (F0 H0 : Hp) (σ : St) (F H : Hp) (D : Ends), Es K F0 H0 ρ σ F H → Fi K F0 H0 P D → ts D σ H
theorem Es.go (e : Es K F0 H0 ρ σ F H) (g : Gr F H F' H') : Es K F0 H0 ρ σ F' H' := ⟨e.gr.trans g, e.en.gr g⟩
theorem Es.put (e : Es K F0 H0 ρ σ F H) (g : Gr F H F' H') {i : Nat} {s : Sl} {v : V} (r : RetOk K (fun a => H a = none) F' H' s v) : Es K F0 H0 (ρ.set i s) (σ.set i (some v)) F' H' := ⟨e.gr.trans g, e.en.put g r fun a h => e.gr.hh.free h⟩
theorem Es.drop (e : Es K F0 H0 ρ σ F H) (i : Nat) : Es K F0 H0 (ρ.set i .un) σ F H := ⟨e.gr, e.en.drop i⟩
theorem Es.drops (e : Es K F0 H0 ρ σ F H) : ∀ js : List Nat, Es K F0 H0 (wipeR ρ js) σ F H
  | [] => e
  | j :: js => (e.drops js).drop j
theorem Es.mut (e : Es K F0 H0 ρ σ F H) {i : Nat} {ds : List PyData} (h : ρ[i]? = some (.ow ds)) : ∃ l xs, σ[i]? = some (some (.ref l)) ∧ H l = some (.lst xs) ∧ DpAll K F xs ds ∧ F l = none ∧ H0 l = none ∧
    ∀ ys es, DpAll K F ys es → Es K F0 H0 (ρ.set i (.ow es)) σ F (upd H l (.lst ys)) := by
  obtain ⟨l, xs, es, hl, dl, nl, fl, k⟩ := e.en.mut h
  refine ⟨l, xs, es, hl, dl, fl, nl, fun ys zs d => ⟨⟨e.gr.ff, fun a u q => ?_, (k ys zs d).fh, e.gr.ap⟩, k ys zs d⟩⟩
  rw [upd_ne (ne_of_none q nl)]
  exact e.gr.hh a u q
theorem Es.mut2 (e : Es K F0 H0 ρ σ F H) {i : Nat} {dss : List (List PyData)} (h : ρ[i]? = some (.ow2 dss)) : ∃ (l : Addr) (ls : List Addr), σ[i]? = some (some (.ref l)) ∧ H l = some (.lst (ls.map V.ref)) ∧ ls.length = dss.length ∧
    ∀ (j : Nat) ds, dss[j]? = some ds → ∃ r xs, ls[j]? = some r ∧ H r = some (.lst xs) ∧ DpAll K F xs ds ∧ r ≠ l ∧ ∀ ys es, DpAll K F ys es → Es K F0 H0 (ρ.set i (.ow2 (dss.set j es))) σ F (upd H r (.lst ys)) := by
  obtain ⟨l, ls, es, hl, nl, fl, len, k⟩ := e.en.mut2 h
  refine ⟨l, ls, es, hl, len, fun j ds hj => ?_⟩
  obtain ⟨r, xs, hr, hx, dx, nr, fr, nrl, kk⟩ := k j ds hj
  refine ⟨r, xs, hr, hx, dx, nrl, fun ys zs d => ⟨⟨e.gr.ff, fun a u q => ?_, (kk ys zs d).fh, e.gr.ap⟩, kk ys zs d⟩⟩
  rw [upd_ne (ne_of_none q nr)]
  exact e.gr.hh a u q

variable {P P' : Post} {t u : TS} {te ta tb : TE} {c : TT}
theorem ws_imp (h : WS K t ρ P') (h1 : ∀ r, P'.nx r → P.nx r) (h2 : ∀ s, P'.rt s → P.rt s) (h3 : ∀ r, P'.bk r → P.bk r) (h4 : ∀ r, P'.ct r → P.ct r) (h5 : ∀ C, P'.ex C → P.ex C ∧ P'.E = P.E) (h6 : ∀ s r, P'.rtE s r → P.rtE s r) (h7 : ∀ C r, P'.exE C r → P.exE C r ∧ P'.E = P.E) : WS K t ρ P := fun F0 H0 σ F H D e f =>
  h F0 H0 σ F H D e ⟨fun r σ F H p => f.nx r σ F H (h1 r p), fun s v F H p => f.rt s v F H (h2 s p), fun r σ F H p => f.bk r σ F H (h3 r p), fun r σ F H p => f.ct r σ F H (h4 r p), fun C F H p => by rw [(h5 C p).2]; exact f.ex C F H (h5 C p).1, fun s r σ v F H p => f.rtE s r σ v F H (h6 s r p), fun C r σ F H p => by rw [(h7 C r p).2]; exact f.exE C r σ F H (h7 C r p).1⟩
theorem s_next (h : P.nx ρ) : WS K tNext ρ P := fun F0 H0 σ F H D e f => f.nx _ _ _ _ h e
theorem s_seq (h : WS K t ρ { P with nx := fun r => WS K u r P }) : WS K (tSeq t u) ρ P := fun F0 H0 σ F H D e f =>
  h F0 H0 σ F H { D with nx := u D } e ⟨fun r σ F H p e => p F0 H0 σ F H D e f, f.rt, f.bk, f.ct, f.ex, f.rtE, f.exE⟩
theorem s_seqM (M : List Sl → Prop) (h : WS K t ρ { P with nx := M }) (k : ∀ r, M r → WS K u r P) : WS K (tSeq t u) ρ P := s_seq (ws_imp h k (fun _ h => h) (fun _ h => h) (fun _ h => h) (fun _ h => ⟨h, rfl⟩) (fun _ _ h => h) fun _ _ h => ⟨h, rfl⟩)
theorem s_asg {i : Nat} {s : Sl} (h : XR K te ρ s) (k : P.nx (ρ.set i s)) : WS K (tAsg te (gName i)) ρ P := fun F0 H0 σ F H D e f =>
  h _ σ F H e.en _ fun v F' H' g r => f.nx _ _ _ _ k (e.put g r)
theorem s_if {b : Bool} (h : XT K c ρ b) (h1 : b = true → WS K t ρ P) (h2 : b = false → WS K u ρ P) : WS K (tIfS c t u) ρ P := fun F0 H0 σ F H D e f =>
  h _ σ F H e.en _ fun F' H' g => by
    cases b with
    | true => exact h1 rfl F0 H0 σ F' H' D (e.go g) f
    | false => exact h2 rfl F0 H0 σ F' H' D (e.go g) f
theorem s_ret {s : Sl} (h : XR K te ρ s) (k : P.rt s) : WS K (tRet te) ρ P := fun F0 H0 σ F H D e f =>
  h _ σ F H e.en _ fun v F' H' g r => f.rt s v F' H' k (e.gr.trans g) (r.imp fun a z => e.gr.hh.free z)
theorem s_retv {i : Nat} {s : Sl} (hs : ρ[i]? = some s) (hn : s ≠ .un) (k : P.rt s) : WS K (tRet (tVar i)) ρ P := fun F0 H0 σ F H D e f => by
  obtain ⟨A, h1, h2, h3⟩ := e.en.en
  have z := h1 i s hs
  have fin : ∀ v, σ[i]? = some (some v) → tRet (tVar i) D σ H := fun v hv => ⟨v, hv, f.rt s v F H k e.gr ⟨A i, by rw [← hv]; exact z, fun a q => h3 i a q⟩⟩
  cases s with
  | un => exact (hn rfl).elim
  | ex C => obtain ⟨a, e1, _⟩ := z; exact fin _ e1
  | da d => obtain ⟨v, e1, _⟩ := z; exact fin v e1
  | ow ds => obtain ⟨l, _, e1, _⟩ := z; exact fin _ e1
  | ow2 ds => obtain ⟨l, _, e1, _⟩ := z; exact fin _ e1
  | ow2a l ds => obtain ⟨_, e1, _⟩ := z; exact fin _ e1
  | row r => obtain ⟨_, e1, _⟩ := z; exact fin _ e1
  | rows W => obtain ⟨_, _, e1, _⟩ := z; exact fin _ e1
  | orows W => obtain ⟨_, _, e1, _⟩ := z; exact fin _ e1
  | ot q t => obtain ⟨_, _, e1, _⟩ := z; exact fin _ e1
  | fd kvs => obtain ⟨_, _, e1, _⟩ := z; exact fin _ e1
theorem s_retN (k : P.rt (.da .none)) : WS K tRetN ρ P := fun F0 H0 σ F H D e f => f.rt _ _ F H k e.gr (ret_da .non)
theorem s_drop {s : Sl} (h : XR K te ρ s) (k : P.nx ρ) : WS K (tDrop te) ρ P := fun F0 H0 σ F H D e f =>
  h _ σ F H e.en _ fun v F' H' g r => f.nx _ _ _ _ k (e.go g)
theorem s_break (k : P.bk ρ) : WS K tBreak ρ P := fun F0 H0 σ F H D e f => f.bk _ _ _ _ k e
theorem s_cont (k : P.ct ρ) : WS K tCont ρ P := fun F0 H0 σ F H D e f => f.ct _ _ _ _ k e
/-- one's own list is known from now on -/
theorem s_frz (i : Nat) {ds : List PyData} (h : ρ[i]? = some (.ow ds)) (k : WS K t (ρ.set i (.da (.list ds))) P) : WS K t ρ P := fun F0 H0 σ F H D e f => by
  obtain ⟨A, h1, h2, h3⟩ := e.en.en
  obtain ⟨l, xs, es, hl, al, dl⟩ := h1 i _ h
  obtain ⟨fl, nl, _⟩ := h3 i l al
  have g := e.gr.frz nl fl hl
  refine k F0 H0 σ (upd F l (.lst xs)) H D ⟨g, g.fh, by rw [List.length_set]; exact e.en.len, fun j a => j ≠ i ∧ A j a, fun j s hs => ?_, fun j k a p q => h2 j k a p.2 q.2, fun j a p => ?_⟩ f
  · by_cases z : j = i
    · subst z
      have hj : j < ρ.length := (List.getElem?_eq_some_iff.mp h).1
      rw [List.getElem?_set_self hj] at hs
      cases hs
      exact ⟨_, es, .lst (.inl (.inl upd_same)) (dps_mono (same_new fl) _ _ dl)⟩
    · rw [List.getElem?_set_ne (Ne.symm z)] at hs
      exact (h1 j s hs).mono (same_new fl) (fun _ _ _ q => q) fun a q => ⟨z, q⟩
  · obtain ⟨f1, n1, o1⟩ := h3 j a p.2
    exact ⟨by rw [upd_ne fun y => p.1 (h2 j i l (by rw [← y]; exact p.2) al)]; exact f1, n1, o1⟩
theorem s_drops (js : List Nat) (k : WS K t (wipeR ρ js) P) : WS K t ρ P := fun F0 H0 σ F H D e f => k F0 H0 σ F H D (e.drops js) f

/-! ### targets -/
def WG (K : PySem.W.Frag) (g : TG) (d : PyData) (ρ : List Sl) (R : List Sl → Prop) : Prop := ∀ (F0 H0 : Hp) (σ : St) (F H : Hp) (v : V), Es K F0 H0 ρ σ F H → Dp K F v d → ∀ T : St → Hp → Prop, (∀ r τ, R r → Es K F0 H0 r τ F H → T τ H) → g v σ H T
def WGs (K : PySem.W.Frag) (g : TGs) (ds : List PyData) (ρ : List Sl) (R : List Sl → Prop) : Prop := ∀ (F0 H0 : Hp) (σ : St) (F H : Hp) (vs : List V), Es K F0 H0 ρ σ F H → DpAll K F vs ds → ∀ T : St → Hp → Prop, (∀ r τ, R r → Es K F0 H0 r τ F H → T τ H) → g vs σ H T
theorem wg_name {j : Nat} {d : PyData} {R : List Sl → Prop} (h : R (ρ.set j (.da d))) : WG K (gName j) d ρ R := fun F0 H0 σ F H v e p T k => k _ _ h (e.put (.refl e.en.fh) (ret_da p))
theorem wgs_nil {R : List Sl → Prop} (h : R ρ) : WGs K gNil [] ρ R := fun F0 H0 σ F H vs e p T k => by
  cases p
  exact ⟨rfl, k _ _ h e⟩
theorem wgs_cons {g : TG} {gs : TGs} {d : PyData} {ds : List PyData} {R : List Sl → Prop} (h : WG K g d ρ fun r => WGs K gs ds r R) : WGs K (gCons g gs) (d :: ds) ρ R := fun F0 H0 σ F H vs e p T k => by
  cases p with
  | cons p ps =>
    exact ⟨_, _, rfl, h F0 H0 σ F H _ e p _ fun r τ q e1 => q F0 H0 τ F H _ e1 ps T k⟩
theorem wg_tup {gs : TGs} {ds : List PyData} {n : Nat} {R : List Sl → Prop} (h : WGs K gs ds ρ R) (hn : ds.length = n) : WG K (gTup K n gs) (.tuple ds) ρ R := fun F0 H0 σ F H v e p T k => by
  obtain ⟨a, xs, rfl, s, q⟩ := dp_tuple p
  exact ⟨a, xs, rfl, sq_t e.en.fh s, (dpa_len q).trans hn, h F0 H0 σ F H xs e q T k⟩
theorem s_asgT {g : TG} {d : PyData} (h : XE K te ρ d) (k : WG K g d ρ P.nx) : WS K (tAsg te g) ρ P := fun F0 H0 σ F H D e f =>
  h.e e.en fun v F' H' gr p => k F0 H0 σ F' H' v (e.go gr) p _ fun r τ q e1 => f.nx _ _ _ _ q e1

/-! ### loops -/
def iSeq (K : PySem.W.Frag) (tl : TE) : TI := fun σ H R => tl σ H fun x H1 => ∃ a, x = .ref a ∧ (((∃ xs, SqL K H1 a xs) ∧ R (Itl K a) H1) ∨ ((∃ xs, SqT K H1 a xs) ∧ R (Itt K a) H1))
/-- an iterator that was just laid -/
theorem it_start {X : Cx} {pins : List (Addr × Obj)} {σ : St} {H : Hp} {s : Shared} {tg : Expr} {R : It → Hp → Prop} {J : It} {tn : Nat → Heap → Prop} {o : Obj} (I : Inv X pins σ H s) (T : Turn X.prog X.w X.K tg J [s.heap.objs.size] s.heap.objs.size tn)
    (t0 : tn 0 (s.heap.push o)) (q : R J H) : PIE X pins σ tg R (.ref s.heap.objs.size) { s with heap := s.heap.push o } := by
  have grown : Inv X pins σ H { s with heap := s.heap.push o } := I.kept (t' := s.toks) (fun _ _ known => Heap.get?_push_of_some _ known)
  have young : FpOk X pins H s.heap.objs.size := I.fpOk (Nat.le_refl _) I.fresh
  exact ⟨_, _, _, J, H, rfl, grown, T, t0, fun b mem => by cases List.mem_singleton.mp mem; exact young, q⟩
theorem pi_seq {X : Cx} {tg l : Expr} {tl : TE} (hl : PE X l tl) : PI X tg l (iSeq X.K tl) := by
  constructor
  intro pins s σ H R I ask
  apply thn (hl.run pins s σ H _ I ask)
  rintro v s1 ⟨x, H1, I1, rel, a, rfl, ways⟩
  cases rel
  rcases ways with ⟨⟨xs, src⟩, q⟩ | ⟨⟨xs, src⟩, q⟩
  · obtain ⟨its, _, plain, _⟩ := I1.list src
    exact wpAny_pyIter_list plain.isList (it_start I1 (turn_list a _) ⟨_, Heap.get?_push_size _ rfl, rfl, rfl⟩ q)
  · obtain ⟨its, _, tup, _⟩ := I1.tuple src
    exact wpAny_pyIter_tuple tup (it_start I1 (turn_tuple a _) ⟨_, Heap.get?_push_size _ rfl, rfl, rfl⟩ q)
def sqd : PyData → List PyData
  | .list ds => ds
  | .tuple ds => ds
  | _ => []
def isq : PyData → Prop
  | .list _ => True
  | .tuple _ => True
  | _ => False
theorem Es.base (e : Es K F0 H0 ρ σ F H) : ∃ G : Hp, Es K F G ρ σ F H ∧ (∀ r τ F2 H2, Es K F G r τ F2 H2 → Es K F0 H0 r τ F2 H2) ∧ (∀ F2 H2, Gr F G F2 H2 → Gr F0 H0 F2 H2) ∧ (∀ a, G a = none → H0 a = none) := by
  have hG : ∃ G : Hp, (∀ a o, G a = some o → H a = some o) ∧ (∀ a o, H0 a = some o → G a = some o) ∧ (∀ a o, F a = some o → G a = some o) ∧ ∀ a, H0 a = none → F a = none → G a = none := by
    refine ⟨fun a => match H0 a with | some o => some o | none => F a, fun a o h => ?_, fun a o h => ?_, fun a o h => ?_, fun a h k => ?_⟩
    · cases z : H0 a with
      | some u => simp only [z] at h; cases h; exact e.gr.hh a _ z
      | none => simp only [z] at h; exact e.gr.fh a _ h
    · simp only [h]
    · cases z : H0 a with
      | some u =>
        simp only [z]
        rw [← e.gr.fh a _ h]; exact (e.gr.hh a _ z).symm
      | none => simp only [z]; exact h
    · simp only [h]; exact k
  obtain ⟨G, g1, g2, g3, g4⟩ := hG
  have gg : ∀ F2 H2, Gr F G F2 H2 → Gr F0 H0 F2 H2 := fun F2 H2 g => ⟨e.gr.ff.trans g.ff, fun a o q => g.hh a o (g2 a o q), g.fh, fun a o q r => g.ap a o (e.gr.ap a o q r) (g2 a o r)⟩
  have gn : ∀ a, G a = none → H0 a = none := fun a q => by
    cases z : H0 a with
    | none => rfl
    | some u => rw [g2 a u z] at q; cases q
  refine ⟨G, ⟨⟨Same.refl _, g1, e.en.fh, fun _ _ q _ => q⟩, e.en.fh, e.en.len, ?_⟩, fun r τ F2 H2 q => ⟨gg _ _ q.gr, q.en.fh, q.en.len, ?_⟩, gg, gn⟩
  · obtain ⟨A, h1, h2, h3⟩ := e.en.en
    exact ⟨A, h1, h2, fun i a p => ⟨(h3 i a p).1, g4 a (h3 i a p).2.1 (h3 i a p).1, (h3 i a p).2.2⟩⟩
  · obtain ⟨A, h1, h2, h3⟩ := q.en.en
    exact ⟨A, h1, h2, fun i a p => ⟨(h3 i a p).1, gn a (h3 i a p).2.1, (h3 i a p).2.2⟩⟩
theorem s_for {α : Type} {tl : TE} {g : TG} {d : PyData} (xs : List α) (em : α → PyData) (js : List Nat) (I : Nat → List Sl → Prop) (hl : XE K tl ρ d) (hq : isq d) (hx : sqd d = xs.map em) (h0 : I 0 (wipeR ρ js))
    (hs : ∀ (i : Nat) x r, xs[i]? = some x → I i r → WG K g (em x) r fun r' => WS K t r' { nx := fun z => I (i + 1) (wipeR z js), rt := P.rt, bk := P.nx, ct := fun z => I (i + 1) (wipeR z js), ex := P.ex, rtE := P.rtE, exE := P.exE, E := P.E })
    (hd : ∀ r, I xs.length r → P.nx r) : WS K (tFor (iSeq K tl) g t) ρ P := fun F0 H0 σ F H D e f => by
  refine hl.e e.en fun v F1 H1 g1 p1 => ?_
  obtain ⟨G, b1, b2, b3, b4⟩ := (e.go g1).base
  have turn : ∀ (vs : List V) (ds : List PyData), ds = xs.map em → DpAll K F1 vs ds → ∀ i (y : V) τ H2, vs[i]? = some y → (∃ r F2, I i r ∧ Es K F1 G r τ F2 H2) →
      g y τ H2 fun σ2 H3 => t { D with nx := fun τ H2 => (∃ r F2, I (i + 1) r ∧ Es K F1 G r τ F2 H2), ct := fun τ H2 => (∃ r F2, I (i + 1) r ∧ Es K F1 G r τ F2 H2), bk := D.nx } σ2 H3 := by
    rintro vs ds eds dv i y τ H2 hy ⟨r, F2, hI, e2⟩
    obtain ⟨d', hd', pd⟩ := dpa_get' dv hy
    rw [eds, List.getElem?_map] at hd'
    cases hx' : xs[i]? with
    | none => rw [hx'] at hd'; cases hd'
    | some x =>
      rw [hx'] at hd'
      cases hd'
      refine hs i x r hx' hI F1 G τ F2 H2 y e2 (dp_mono e2.gr.ff _ _ pd) _ fun r' τ' hw e3 => ?_
      exact hw F1 G τ' F2 H2 _ e3 ⟨fun r τ F H p e => ⟨_, F, p, e.drops js⟩, fun s v F H p g q => f.rt s v F H p (b3 _ _ g) (q.imp b4), fun r τ F H p e => f.nx r τ F H p (b2 _ _ _ _ e), fun r τ F H p e => ⟨_, F, p, e.drops js⟩, fun C F H p g => f.ex C F H p (b3 _ _ g), fun s r τ v F H p e => f.rtE s r τ v F H p (b2 _ _ _ _ e), fun C r τ F H p e => f.exE C r τ F H p (b2 _ _ _ _ e)⟩
  have start : ∃ r F2, I 0 r ∧ Es K F1 G r σ F2 H1 := ⟨_, F1, h0, b1.drops js⟩
  have done : ∀ τ H2, (∃ r F2, I xs.length r ∧ Es K F1 G r τ F2 H2) → D.nx τ H2 := fun τ H2 ⟨r, F2, p, q⟩ => f.nx r τ F2 H2 (hd r p) (b2 _ _ _ _ q)
  cases d with
  | list ds =>
    obtain ⟨a, vs, rfl, s, q⟩ := dp_list p1
    have len : vs.length = xs.length := by rw [dpa_len q, show ds = xs.map em from hx, List.length_map]
    refine ⟨a, rfl, .inl ⟨⟨vs, (e.go g1).gr.fh.seq s⟩, for_list (K := K) (a := a) (xs := vs) (fun i τ H2 => ∃ r F2, I i r ∧ Es K F1 G r τ F2 H2) start (fun i τ H2 _ ⟨r, F2, _, q⟩ => (q.gr.ff.trans q.gr.fh).seq s) (fun i y τ H2 hy w => turn vs ds hx q i y τ H2 hy w) (by rw [len]; exact done)⟩⟩
  | tuple ds =>
    obtain ⟨a, vs, rfl, s, q⟩ := dp_tuple p1
    have len : vs.length = xs.length := by rw [dpa_len q, show ds = xs.map em from hx, List.length_map]
    refine ⟨a, rfl, .inr ⟨⟨vs, sq_t (e.go g1).gr.fh s⟩, for_tup (K := K) (a := a) (xs := vs) (fun i τ H2 => ∃ r F2, I i r ∧ Es K F1 G r τ F2 H2) start (fun i τ H2 _ ⟨r, F2, _, q⟩ => sq_t (q.gr.ff.trans q.gr.fh) s) (fun i y τ H2 hy w => turn vs ds hx q i y τ H2 hy w) (by rw [len]; exact done)⟩⟩
  | none => exact hq.elim
  | bool _ => exact hq.elim
  | int _ => exact hq.elim
  | str _ => exact hq.elim
  | dict _ => exact hq.elim
/-- for i in range(n) -/
theorem s_range {ta : TA} {g : TG} {n : Int} (js : List Nat) (I : Nat → List Sl → Prop) (hl : XA K ta ρ [.int n]) (hn : n ≤ 100000 ∧ -100000 ≤ n) (h0 : I 0 (wipeR ρ js))
    (hs : ∀ (i : Nat) r, (i : Int) < n → I i r → WG K g (.int i) r fun r' => WS K t r' { nx := fun z => I (i + 1) (wipeR z js), rt := P.rt, bk := P.nx, ct := fun z => I (i + 1) (wipeR z js), ex := P.ex, rtE := P.rtE, exE := P.exE, E := P.E })
    (hd : ∀ r, I n.toNat r → P.nx r) : WS K (tFor (iRng1 ta) g t) ρ P := fun F0 H0 σ F H D e f => by
  refine hl _ σ F H e.en _ fun vs F1 H1 g1 p1 => ?_
  have e1 := e.go g1
  have ev : vs = [V.int n] := dpa_ints (ns := [n]) p1
  refine ⟨n, ev, by omega, by omega, for_range (lo := 0) (n := n.toNat) (fun i τ H2 => ∃ r F2, I i r ∧ Es K F0 H0 r τ F2 H2) ⟨_, F1, h0, e1.drops js⟩ ?_ fun τ H2 ⟨r, F2, p, q⟩ => f.nx r τ F2 H2 (hd r p) q⟩
  rintro i τ H2 hi ⟨r, F2, hI, e2⟩
  have e0 : (0 : Int) + (i : Int) = (i : Int) := Int.zero_add _
  rw [e0]
  refine hs i r (by omega) hI F0 H0 τ F2 H2 (.int (i : Int)) e2 (.int _) _ fun r' τ' hw e3 => ?_
  exact hw F0 H0 τ' F2 H2 _ e3 ⟨fun r τ F H p e => ⟨_, F, p, e.drops js⟩, f.rt, f.nx, fun r τ F H p e => ⟨_, F, p, e.drops js⟩, f.ex, f.rtE, f.exE⟩
theorem s_while (js : List Nat) (I : Nat → List Sl → Prop) (m : Nat) (h0 : I m (wipeR ρ js))
    (hs : ∀ (m : Nat) r, I m r → ∃ b, XT K c r b ∧ (b = true → WS K t r { nx := fun z => ∃ m', m' < m ∧ I m' (wipeR z js), rt := P.rt, bk := P.nx, ct := fun z => ∃ m', m' < m ∧ I m' (wipeR z js), ex := P.ex, rtE := P.rtE, exE := P.exE, E := P.E }) ∧ (b = false → P.nx r)) :
    WS K (tWhile c t) ρ P := fun F0 H0 σ F H D e f => by
  refine ⟨fun m τ H2 => ∃ r F2, I m r ∧ Es K F0 H0 r τ F2 H2, ⟨m, _, F, h0, e.drops js⟩, ?_⟩
  rintro m τ H2 ⟨r, F2, hI, e2⟩
  obtain ⟨b, hc, h1, h2⟩ := hs m r hI
  refine hc _ τ F2 H2 e2.en _ fun F3 H3 g3 => ?_
  cases b with
  | true =>
    rw [if_pos rfl]
    refine ⟨fun τ' H' => ∃ m', m' < m ∧ ∃ r F2, I m' r ∧ Es K F0 H0 r τ' F2 H', fun τ' H' h => h, ?_⟩
    exact h1 rfl F0 H0 τ F3 H3 _ (e2.go g3) ⟨fun r τ F H ⟨m', l, p⟩ e => ⟨m', l, _, F, p, e.drops js⟩, f.rt, f.nx, fun r τ F H ⟨m', l, p⟩ e => ⟨m', l, _, F, p, e.drops js⟩, f.ex, f.rtE, f.exE⟩
  | false =>
    rw [if_neg Bool.false_ne_true]
    exact f.nx _ _ _ _ (h2 rfl) (e2.go g3)

/-! ### comprehensions -/
theorem En.putD (e : En K N ρ σ F H) (g : Gr F H F' H') {i : Nat} {d : PyData} {v : V} (p : Dp K F' v d) : En K N (ρ.set i (.da d)) (σ.set i (some v)) F' H' := by
  obtain ⟨A, h1, h2, h3⟩ := ((e.gr g).dropv i (some v)).en
  refine ⟨g.fh, by rw [List.length_set, List.length_set]; exact e.len, A, fun j t ht => ?_, h2, h3⟩
  by_cases z : j = i
  · subst z
    have hj : j < ρ.length := by have := (List.getElem?_eq_some_iff.mp ht).1; simpa using this
    rw [List.getElem?_set_self hj] at ht
    cases ht
    exact ⟨v, by rw [List.getElem?_set_self (by rw [← e.len]; exact hj)], p⟩
  · have := h1 j t (by rw [List.getElem?_set_ne (Ne.symm z)] at ht ⊢; exact ht)
    exact this
theorem lc_turn {α : Type} {tt : TT} {te : TE} {xs : List α} {p : α → Bool} {h : α → PyData} {vs : List Nat} {j : Nat} {em : α → PyData} {i : Nat} {x : α} {y : V} {D : Addr} {F1 H1 H2 : Hp} (hx : xs[i]? = some x) (hz : xs.length ≤ 100000)
    (en : En K N ρ σ F1 H1) (nD : H1 D = none) (hj : j ∈ vs)
    (py : Dp K F1 y (em x)) (ht : XT K tt ((wipeR ρ vs).set j (.da (em x))) (p x)) (he : p x = true → XE K te ((wipeR ρ vs).set j (.da (em x))) (h x))
    (w : ∃ F' acc, Gr F1 H1 F' H2 ∧ F' D = none ∧ H2 D = some (.lst acc) ∧ DpAll K F' acc (((xs.take i).filter p).map h)) :
    gName j y (wipe σ vs) H2 fun σ2 H2 => wipe σ2 vs = wipe σ vs ∧ tt σ2 H2 fun b H3 => if b = true then te σ2 H3 fun y H4 => ∃ acc, H4 D = some (.lst acc) ∧ acc.length < sizeLine ∧
      (∃ F' acc', Gr F1 H1 F' (upd H4 D (.lst (acc ++ [y]))) ∧ F' D = none ∧ (upd H4 D (.lst (acc ++ [y]))) D = some (.lst acc') ∧ DpAll K F' acc' (((xs.take (i + 1)).filter p).map h)) else
      (∃ F' acc', Gr F1 H1 F' H3 ∧ F' D = none ∧ H3 D = some (.lst acc') ∧ DpAll K F' acc' (((xs.take (i + 1)).filter p).map h)) := by
  obtain ⟨F', acc, g, fD, hD, da⟩ := w
  have en2 : En K N ((wipeR ρ vs).set j (.da (em x))) ((wipe σ vs).set j (some y)) F' H2 := ((en.gr g).wipe vs).putD (.refl g.fh) (dp_mono g.ff _ _ py)
  have hi : i < xs.length := (List.getElem?_eq_some_iff.mp hx).1
  have tk : xs.take (i + 1) = xs.take i ++ [x] := by rw [List.take_succ, hx]; rfl
  refine ⟨by rw [wipe_back hj, wipe_idem], ht N _ F' H2 en2 _ fun F3 H3 g3 => ?_⟩
  have fD3 : F3 D = none := g3.ap D _ fD hD
  cases hp : p x with
  | true =>
    rw [if_pos rfl]
    refine (he hp).e (en2.gr g3) fun v F4 H4 g4 p4 => ?_
    have fD4 : F4 D = none := g4.ap D _ fD3 (g3.hh _ _ hD)
    have g5 := (g.trans g3).trans g4
    refine ⟨acc, g4.hh _ _ (g3.hh _ _ hD), ?_, F4, acc ++ [v], ⟨g5.ff, fun a u q => ?_, fun a u q => ?_, g5.ap⟩, fD4, upd_same, ?_⟩
    · have l1 := dpa_len da
      rw [List.length_map] at l1
      have l2 := List.length_filter_le p (xs.take i)
      have l3 : (xs.take i).length ≤ xs.length := by rw [List.length_take]; exact Nat.min_le_right _ _
      exact Nat.lt_of_le_of_lt (by omega : acc.length ≤ 100000) (by decide)
    · rw [upd_ne (ne_of_none q nD)]; exact g5.hh a u q
    · rw [upd_ne (ne_of_none q fD4)]; exact g5.fh a u q
    · rw [tk, List.filter_append, List.map_append]
      have e1 : ([x].filter p).map h = [h x] := by simp [hp]
      rw [e1]
      exact dpa_app (dps_mono (g3.ff.trans g4.ff) _ _ da) (dpa_one p4)
  | false =>
    rw [if_neg Bool.false_ne_true]
    refine ⟨F3, acc, g.trans g3, fD3, g3.hh _ _ hD, ?_⟩
    rw [tk, List.filter_append, List.map_append]
    have e1 : ([x].filter p).map h = [] := by simp [hp]
    rw [e1, List.append_nil]
    exact dps_mono g3.ff _ _ da
theorem x_lc {α : Type} {tl te : TE} {tt : TT} {d : PyData} {j : Nat} {vs : List Nat} (xs : List α) (em : α → PyData) (p : α → Bool) (h : α → PyData) (hl : XE K tl ρ d) (hq : isq d) (hx : sqd d = xs.map em) (hz : xs.length ≤ 100000) (hj : j ∈ vs)
    (ht : ∀ x ∈ xs, XT K tt ((wipeR ρ vs).set j (.da (em x))) (p x)) (he : ∀ x ∈ xs, p x = true → XE K te ((wipeR ρ vs).set j (.da (em x))) (h x)) : XR K (tLc (iSeq K tl) (gName j) tt te vs) ρ (.ow ((xs.filter p).map h)) := fun N σ F H e Q q => by
  refine hl.e e fun v F1 H1 g1 p1 => ?_
  have en := e.gr g1
  have turn : ∀ (ys : List V) (ds : List PyData), ds = xs.map em → DpAll K F1 ys ds → ∀ D, H1 D = none → ∀ i (y : V) H2, ys[i]? = some y → (∃ F' acc, Gr F1 H1 F' H2 ∧ F' D = none ∧ H2 D = some (.lst acc) ∧ DpAll K F' acc (((xs.take i).filter p).map h)) →
      gName j y (wipe σ vs) H2 fun σ2 H2 => wipe σ2 vs = wipe σ vs ∧ tt σ2 H2 fun b H3 => if b = true then te σ2 H3 fun y H4 => ∃ acc, H4 D = some (.lst acc) ∧ acc.length < sizeLine ∧
      (∃ F' acc', Gr F1 H1 F' (upd H4 D (.lst (acc ++ [y]))) ∧ F' D = none ∧ (upd H4 D (.lst (acc ++ [y]))) D = some (.lst acc') ∧ DpAll K F' acc' (((xs.take (i + 1)).filter p).map h)) else
      (∃ F' acc', Gr F1 H1 F' H3 ∧ F' D = none ∧ H3 D = some (.lst acc') ∧ DpAll K F' acc' (((xs.take (i + 1)).filter p).map h)) := by
    intro ys ds eds dy D nD i y H2 hy w
    obtain ⟨d', hd', pd⟩ := dpa_get' dy hy
    rw [eds, List.getElem?_map] at hd'
    cases hx' : xs[i]? with
    | none => rw [hx'] at hd'; cases hd'
    | some x =>
      rw [hx'] at hd'
      cases hd'
      have hm := List.mem_of_getElem? hx'
      exact lc_turn hx' hz en nD hj pd (ht x hm) (he x hm) w
  have start : ∀ D, H1 D = none → (∃ F' acc, Gr F1 H1 F' (upd H1 D (.lst [])) ∧ F' D = none ∧ (upd H1 D (.lst [])) D = some (.lst acc) ∧ DpAll K F' acc (((xs.take 0).filter p).map h)) := fun D nD =>
    ⟨F1, [], .own en.fh nD, en.fh.free nD, upd_same, .nil⟩
  have done : ∀ D H2, H1 D = none → (∃ F' acc, Gr F1 H1 F' H2 ∧ F' D = none ∧ H2 D = some (.lst acc) ∧ DpAll K F' acc (((xs.take xs.length).filter p).map h)) → Q (.ref D) H2 := fun D H2 nD ⟨F', acc, g, fD, hD, da⟩ => by
    rw [List.take_length] at da
    exact q _ F' H2 (g1.trans g) (ret_ow hD fD (g1.hh.free nD) da)
  cases d with
  | list ds =>
    obtain ⟨a, ys, rfl, s, pq⟩ := dp_list p1
    have len : ys.length = xs.length := by rw [dpa_len pq, show ds = xs.map em from hx, List.length_map]
    exact ⟨a, rfl, .inl ⟨⟨ys, en.fh.seq s⟩, fun D nD => lc_list (K := K) (a := a) (xs := ys) (fun i H2 => ∃ F' acc, Gr F1 H1 F' H2 ∧ F' D = none ∧ H2 D = some (.lst acc) ∧ DpAll K F' acc (((xs.take i).filter p).map h)) (start D nD)
      (fun i H2 _ ⟨F', _, g, _⟩ => g.hh.seq (en.fh.seq s)) (fun i y H2 hy w => turn ys ds hx pq D nD i y H2 hy w) (by rw [len]; exact fun H2 w => done D H2 nD w)⟩⟩
  | tuple ds =>
    obtain ⟨a, ys, rfl, s, pq⟩ := dp_tuple p1
    have len : ys.length = xs.length := by rw [dpa_len pq, show ds = xs.map em from hx, List.length_map]
    exact ⟨a, rfl, .inr ⟨⟨ys, sq_t en.fh s⟩, fun D nD => lc_tup (K := K) (a := a) (xs := ys) (fun i H2 => ∃ F' acc, Gr F1 H1 F' H2 ∧ F' D = none ∧ H2 D = some (.lst acc) ∧ DpAll K F' acc (((xs.take i).filter p).map h)) (start D nD)
      (fun i H2 _ ⟨F', _, g, _⟩ => sq_t g.hh (sq_t en.fh s)) (fun i y H2 hy w => turn ys ds hx pq D nD i y H2 hy w) (by rw [len]; exact fun H2 w => done D H2 nD w)⟩⟩
  | none => exact hq.elim
  | bool _ => exact hq.elim
  | int _ => exact hq.elim
  | str _ => exact hq.elim
  | dict _ => exact hq.elim
theorem x_lcR {ta : TA} {te : TE} {tt : TT} {n : Int} {j : Nat} {vs : List Nat} (p : Nat → Bool) (h : Nat → PyData) (hl : XA K ta ρ [.int n]) (hn : n ≤ 100000 ∧ -100000 ≤ n) (hj : j ∈ vs)
    (ht : ∀ i : Nat, (i : Int) < n → XT K tt ((wipeR ρ vs).set j (.da (.int i))) (p i)) (he : ∀ i : Nat, (i : Int) < n → p i = true → XE K te ((wipeR ρ vs).set j (.da (.int i))) (h i)) : XR K (tLc (iRng1 ta) (gName j) tt te vs) ρ (.ow (((List.range n.toNat).filter p).map h)) := fun N σ F H e Q q => by
  refine hl _ σ F H e _ fun ws F1 H1 g1 p1 => ?_
  have en := e.gr g1
  have ev : ws = [V.int n] := dpa_ints (ns := [n]) p1
  have len : (List.range n.toNat).length = n.toNat := List.length_range
  refine ⟨n, ev, by omega, by omega, fun D nD => lc_range (lo := 0) (n := n.toNat) (fun i H2 => ∃ F' acc, Gr F1 H1 F' H2 ∧ F' D = none ∧ H2 D = some (.lst acc) ∧ DpAll K F' acc ((((List.range n.toNat).take i).filter p).map h)) ⟨F1, [], .own en.fh nD, en.fh.free nD, upd_same, .nil⟩ (fun i H2 hi w => ?_) fun H2 ⟨F', acc, g, fD, hD, da⟩ => ?_⟩
  · have e0 : (0 : Int) + (i : Int) = (i : Int) := Int.zero_add _
    rw [e0]
    exact lc_turn (em := fun i : Nat => PyData.int i) (x := i) (by rw [List.getElem?_range hi]) (by rw [len]; omega) en nD hj (.int _) (ht i (by omega)) (he i (by omega)) w
  · rw [List.take_of_length_le (by rw [len]; exact Nat.le_refl _)] at da
    exact q _ F' H2 (g1.trans g) (ret_ow hD fD (g1.hh.free nD) da)
theorem xt_yes : XT K tYes ρ true := fun N σ F H e Q q => q F H (.refl e.fh)

/-! ### promises over data -/
def spF (K : PySem.W.Frag) (R : List PyData → Sl → Prop) : Sp := fun vs H Q _ => ∃ (F : Hp) (ds : List PyData) (s : Sl), Same F H ∧ DpAll K F vs ds ∧ R ds s ∧ ∀ v F' H', Gr F H F' H' → RetOk K (fun a => H a = none) F' H' s v → Q v H'
theorem x_call {R : List PyData → Sl → Prop} {E : XK} {ta : TA} {ds : List PyData} {s : Sl} (ha : XA K ta ρ ds) (hp : R ds s) : XR K (tCall (spF K R) [] E ta) ρ s := fun N σ F H e Q q =>
  ha N σ F H e _ fun vs F1 H1 g1 p1 => ⟨F1, ds, s, g1.fh, by rw [List.append_nil]; exact p1, hp, fun v F' H' g r => q v F' H' (g1.trans g) (r.imp fun a z => g1.hh.free z)⟩
def startR (N : List Str) (ds : List PyData) : List Sl := ds.map Sl.da ++ List.replicate (N.length - ds.length) Sl.un
theorem start_en {N : List Str} {vs : List V} {ds : List PyData} {M : Addr → Prop} (e : Same F H) (p : DpAll K F vs ds) : En K M (startR N ds) (L2.start N vs) F H := by
  have l := dpa_len p
  refine ⟨e, ?_, fun _ _ => False, fun i s hs => ?_, fun _ _ _ z => z.elim, fun _ _ z => z.elim⟩
  · unfold startR L2.start
    simp [l]
  · unfold startR at hs
    by_cases hi : i < ds.length
    · rw [List.getElem?_append_left (by rw [List.length_map]; exact hi), List.getElem?_map, List.getElem?_eq_getElem hi] at hs
      cases hs
      obtain ⟨v, hv, q⟩ := dpa_get p (List.getElem?_eq_getElem hi)
      refine ⟨v, ?_, q⟩
      unfold L2.start
      rw [List.getElem?_append_left (by rw [List.length_map, l]; exact hi), List.getElem?_map, hv]
      rfl
    · rw [List.getElem?_append_right (by rw [List.length_map]; omega), List.getElem?_replicate] at hs
      split at hs
      · cases hs; trivial
      · cases hs
section
variable {Pr : Program} {w : World} {mg : Str → Option Value} {base : Heap}
theorem fn_ok {x qual : Str} {st : Stmt} {f : Addr} {fd : FuncData} {N ps : List Str} {k : Nat} {R : List PyData → Sl → Prop} (Fu : Fun K x qual st f fd) (S : FnScope N ps (defScope st)) (len : ∀ ds s, R ds s → ds.length = ps.length)
    (body : ∀ (cdv : Value) (A : Around) (outer : List Env) (s : Shared) (H : Hp) (E : XK), Room k (A.deeper (PyProof.Rows.envOfC qual (defScope st) s.heap.objs.size f cdv)) →
      ∃ t, PSs (cxOf CX0 Pr w K mg base N qual (defScope st) f cdv A outer s H E).nox (defBody st) t ∧ ∀ ds s, R ds s → WS K t (startR N ds) { nx := fun _ => s = .da .none, rt := fun s' => s' = s }) :
    FnOk Pr w K mg base CX0 (k + 1) f fd ps (spF K R) := by
  refine Fu.ok S (fun vs H Q E h => ?_) (fun cdv A outer s H vs Q E hr h => ?_)
  · obtain ⟨F, ds, z, _, p, q, _⟩ := h
    rw [dpa_len p]
    exact len ds z q
  · obtain ⟨F, ds, z, e, p, hp, k⟩ := h
    obtain ⟨t, ht, ws⟩ := body cdv A outer s H E hr
    refine ⟨t, ht, ws ds z hp F H _ F H _ ⟨.refl e, start_en e p⟩ ⟨fun r σ F' H' z es => ?_, fun s v F' H' z g r => ?_, fun _ _ _ _ z => z.elim, fun _ _ _ _ z => z.elim, fun _ _ _ z => z.elim, fun _ _ _ _ _ _ z => z.elim, fun _ _ _ _ _ z => z.elim⟩⟩
    · exact k _ F' H' es.gr (by rw [z]; exact ret_da .non)
    · rw [z] at r
      exact k _ F' H' g r
theorem fn_never {f : Addr} {fd : FuncData} {ps : List Str} : FnOk Pr w K mg base CX0 0 f fd ps (spF K fun _ _ => False) :=
  ⟨fun vs H Q E ⟨_, _, _, _, _, z, _⟩ => z.elim, fun A outer s H args us vs Q E _ _ _ _ ⟨_, _, _, _, _, z, _⟩ => z.elim⟩
end
end
end WL

namespace WL
open PySem L2
/-! ### operators -/
section
variable {X : Cx}
def CDivG (_ j : Int) : Prop := j ≠ 0 ∧ j.natAbs.log2 < 9000
theorem op_fdivG : OpR X (binaryOp .FloorDiv) (rI CDivG fun i j => .int (i.fdiv j)) := opI fun _ _ _ _ _ _ _ hc q => PyProof.Rows.floordiv_int hc.1 q (.inl (PyProof.noPylong_of_log2 hc.2))
theorem op_mulX : OpR X (binaryOp .Mult) (rI PySem.IntMulOk fun i j => .int (i * j)) := opI fun _ _ _ _ _ _ _ hc q => PyProof.Rows.mul_int q hc
def rAddX (K : PySem.W.Frag) : R2 := fun x y H Q => (∃ i j, x = .int i ∧ y = .int j ∧ Q (.int (i + j)) H) ∨ rCat x y H Q ∨ rCatA K x y H Q ∨ (∃ i j, x = .str i ∧ y = .str j ∧ i.length + j.length ≤ sizeLine ∧ Q (.str (i ++ j)) H)
theorem op_addX : OpR X (binaryOp .Add) (rAddX X.K) := op_add.or (op_cat.or (op_catA.or op_add_str))
end
section
variable {K : PySem.W.Frag} {N : Addr → Prop} {ρ : List Sl} {σ : St} {F H F' H' F0 H0 : Hp} {ta tb te tc : TE} {tt tu : TT}
theorem re_add {i j : Int} : RE K (rAddX K) (.int i) (.int j) (.da (.int (i + j))) := re_s fun F H x y e p1 p2 Q q => .inl ⟨i, j, dp_int p1, dp_int p2, q _ (.int _)⟩
theorem re_cats {i j : Str} (h : i.length + j.length ≤ sizeLine) : RE K (rAddX K) (.str i) (.str j) (.da (.str (i ++ j))) := re_s fun F H x y e p1 p2 Q q => .inr (.inr (.inr ⟨i, j, dp_str p1, dp_str p2, h, q _ (.str _)⟩))
theorem x_add {i j : Int} (ha : XE K ta ρ (.int i)) (hb : XE K tb ρ (.int j)) : XE K (tOp (rAddX K) ta tb) ρ (.int (i + j)) := x_op ha hb re_add
theorem x_sub {i j : Int} (ha : XE K ta ρ (.int i)) (hb : XE K tb ρ (.int j)) : XE K (tOp (rI0 fun i j => .int (i - j)) ta tb) ρ (.int (i - j)) := x_op ha hb (re_I0 fun _ => .int _)
theorem x_mul {i j : Int} (ha : XE K ta ρ (.int i)) (hb : XE K tb ρ (.int j)) (h : PySem.IntMulOk i j) : XE K (tOp (rI PySem.IntMulOk fun i j => .int (i * j)) ta tb) ρ (.int (i * j)) := x_op ha hb (re_I h fun _ => .int _)
theorem x_fdiv {i j : Int} (ha : XE K ta ρ (.int i)) (hb : XE K tb ρ (.int j)) (h : CDivG i j) : XE K (tOp (rI CDivG fun i j => .int (i.fdiv j)) ta tb) ρ (.int (i.fdiv j)) := x_op ha hb (re_I h fun _ => .int _)
theorem x_div {i j : Int} (ha : XE K ta ρ (.int i)) (hb : XE K tb ρ (.int j)) (h : 0 < j) (h2 : j.natAbs.log2 < 9000) : XE K (tOp (rI CDivG fun i j => .int (i.fdiv j)) ta tb) ρ (.int (i / j)) := by
  have := x_fdiv ha hb ⟨by omega, h2⟩
  rw [Int.fdiv_eq_ediv_of_nonneg i (by omega)] at this
  exact this
theorem x_fmod {i j : Int} (ha : XE K ta ρ (.int i)) (hb : XE K tb ρ (.int j)) (h : j ≠ 0) : XE K (tOp (rI (fun _ j => j ≠ 0) fun i j => .int (i.fmod j)) ta tb) ρ (.int (i.fmod j)) := x_op ha hb (re_I h fun _ => .int _)
theorem x_mod {i j : Int} (ha : XE K ta ρ (.int i)) (hb : XE K tb ρ (.int j)) (h : 0 < j) : XE K (tOp (rI (fun _ j => j ≠ 0) fun i j => .int (i.fmod j)) ta tb) ρ (.int (i % j)) := by
  have := x_fmod ha hb (by omega : j ≠ 0)
  rw [Int.fmod_eq_emod_of_nonneg i (by omega)] at this
  exact this
theorem x_pow {i j : Int} (ha : XE K ta ρ (.int i)) (hb : XE K tb ρ (.int j)) (h : CPow i j) : XE K (tOp (rI CPow fun i j => .int (i ^ j.toNat)) ta tb) ρ (.int (i ^ j.toNat)) := x_op ha hb (re_I h fun _ => .int _)
theorem x_shr {i j : Int} (ha : XE K ta ρ (.int i)) (hb : XE K tb ρ (.int j)) (h : 0 ≤ j) : XE K (tOp (rI (fun _ j => 0 ≤ j) fun i j => .int (i / 2 ^ j.toNat)) ta tb) ρ (.int (i / 2 ^ j.toNat)) := x_op ha hb (re_I h fun _ => .int _)
theorem x_band {i j : Int} (ha : XE K ta ρ (.int i)) (hb : XE K tb ρ (.int j)) : XE K (tOp (rI0 fun i j => .int (Builtin.bitAnd i j)) ta tb) ρ (.int (Builtin.bitAnd i j)) := x_op ha hb (re_I0 fun _ => .int _)
theorem x_lt {i j : Int} (ha : XE K ta ρ (.int i)) (hb : XE K tb ρ (.int j)) : XE K (tOp (rI0 fun i j => .bl (decide (i < j))) ta tb) ρ (.bool (decide (i < j))) := x_op ha hb (re_I0 fun _ => .bl _)
theorem x_le {i j : Int} (ha : XE K ta ρ (.int i)) (hb : XE K tb ρ (.int j)) : XE K (tOp (rI0 fun i j => .bl (decide (i ≤ j))) ta tb) ρ (.bool (decide (i ≤ j))) := x_op ha hb (re_I0 fun _ => .bl _)
theorem x_gt {i j : Int} (ha : XE K ta ρ (.int i)) (hb : XE K tb ρ (.int j)) : XE K (tOp (rI0 fun i j => .bl (decide (j < i))) ta tb) ρ (.bool (decide (j < i))) := x_op ha hb (re_I0 fun _ => .bl _)
theorem x_ge {i j : Int} (ha : XE K ta ρ (.int i)) (hb : XE K tb ρ (.int j)) : XE K (tOp (rI0 fun i j => .bl (decide (j ≤ i))) ta tb) ρ (.bool (decide (j ≤ i))) := x_op ha hb (re_I0 fun _ => .bl _)
theorem x_neg {i : Int} (ha : XE K ta ρ (.int i)) : XE K (tUn (rU fun i => .int (-i)) ta) ρ (.int (-i)) := xe_intro fun N σ F H e Q q => ha.e e fun v F1 H1 g p => ⟨i, dp_int p, q _ F1 H1 g (.int _)⟩
def isNone : PyData → Bool
  | .none => true
  | _ => false
theorem x_isN {d : PyData} (ha : XP K ta ρ d) : XE K (tOp (fun x y H Q => y = V.non ∧ Q (.bl (decide (x = .non))) H) ta (tC .non)) ρ (.bool (isNone d)) := xe_intro fun N σ F H e Q q => ha N σ F H e _ fun v F1 H1 g p => ⟨rfl, by
  have : (decide (v = V.non)) = (isNone d) := by cases p <;> simp [isNone]
  rw [this]
  exact q _ F1 H1 g (.bl _)⟩
theorem x_notN {d : PyData} (ha : XP K ta ρ d) : XE K (tOp (fun x y H Q => y = V.non ∧ Q (.bl (!decide (x = .non))) H) ta (tC .non)) ρ (.bool (!(isNone d))) := xe_intro fun N σ F H e Q q => ha N σ F H e _ fun v F1 H1 g p => ⟨rfl, by
  have : (decide (v = V.non)) = (isNone d) := by cases p <;> simp [isNone]
  rw [this]
  exact q _ F1 H1 g (.bl _)⟩
theorem x_eq {a b : PyData} (ha : XP K ta ρ a) (hb : XP K tb ρ b) (sa : SeqAt.shaped a = true) (sb : SeqAt.shaped b = true) : XE K (tOp (rEqD K) ta tb) ρ (.bool (PyData.eqv a b)) := xe_intro fun N σ F H e Q q => ha N σ F H e _ fun x F1 H1 g1 p1 =>
  hb N σ F1 H1 (e.gr g1) _ fun y F2 H2 g2 p2 => ⟨a, b, dp_mono g2.hh _ _ p1, p2, sa, sb, q _ F2 H2 (g1.trans g2) (.bl _)⟩
theorem x_ne {a b : PyData} (ha : XP K ta ρ a) (hb : XP K tb ρ b) (sa : SeqAt.shaped a = true) (sb : SeqAt.shaped b = true) : XE K (tOp (rNeD K) ta tb) ρ (.bool (!PyData.eqv a b)) := xe_intro fun N σ F H e Q q => ha N σ F H e _ fun x F1 H1 g1 p1 =>
  hb N σ F1 H1 (e.gr g1) _ fun y F2 H2 g2 p2 => ⟨a, b, dp_mono g2.hh _ _ p1, p2, sa, sb, q _ F2 H2 (g1.trans g2) (.bl _)⟩
theorem x_eqI {i j : Int} (ha : XE K ta ρ (.int i)) (hb : XE K tb ρ (.int j)) : XE K (tOp (rEqD K) ta tb) ρ (.bool (decide (i = j))) := by
  have := x_eq (xp_e ha) (xp_e hb) (by rfl) (by rfl)
  rw [show PyData.eqv (.int i) (.int j) = (i == j) from rfl] at this
  rw [show decide (i = j) = (i == j) from rfl]
  exact this
theorem x_neI {i j : Int} (ha : XE K ta ρ (.int i)) (hb : XE K tb ρ (.int j)) : XE K (tOp (rNeD K) ta tb) ρ (.bool (!decide (i = j))) := by
  have := x_ne (xp_e ha) (xp_e hb) (by rfl) (by rfl)
  rw [show PyData.eqv (.int i) (.int j) = (i == j) from rfl] at this
  rw [show decide (i = j) = (i == j) from rfl]
  exact this
/-! tests -/
theorem xt_test {b : Bool} (h : XE K te ρ (.bool b)) : XT K (tTest te) ρ b := fun N σ F H e Q q => h.e e fun v F1 H1 g p => ⟨b, dp_bool p, q F1 H1 g⟩
theorem xt_B {b : Bool} (h : XE K te ρ (.bool b)) : XT K (tB te) ρ b := fun N σ F H e Q q => h.e e fun v F1 H1 g p => ⟨b, dp_bool p, q F1 H1 g⟩
theorem xt_and {a b : Bool} (h : XT K tt ρ a) (k : a = true → XT K tu ρ b) : XT K (tAnd tt tu) ρ (a && b) := fun N σ F H e Q q => h N σ F H e _ fun F1 H1 g => by
  cases a with
  | true => exact k rfl N σ F1 H1 (e.gr g) Q fun F2 H2 g2 => q F2 H2 (g.trans g2)
  | false => exact q F1 H1 g
theorem xt_or {a b : Bool} (h : XT K tt ρ a) (k : a = false → XT K tu ρ b) : XT K (tOr tt tu) ρ (a || b) := fun N σ F H e Q q => h N σ F H e _ fun F1 H1 g => by
  cases a with
  | true => exact q F1 H1 g
  | false => exact k rfl N σ F1 H1 (e.gr g) Q fun F2 H2 g2 => q F2 H2 (g.trans g2)
theorem xt_not {a : Bool} (h : XT K tt ρ a) : XT K (tNot tt) ρ (!a) := fun N σ F H e Q q => h N σ F H e _ fun F1 H1 g => q F1 H1 g
theorem xt_is {a b : Bool} (h : XT K tt ρ a) (e : a = b) : XT K tt ρ b := e ▸ h
theorem xr_is {a b : Sl} (h : XR K te ρ a) (e : a = b) : XR K te ρ b := e ▸ h
theorem x_and {a b : Bool} (h : XE K ta ρ (.bool a)) (k : a = true → XE K tb ρ (.bool b)) : XE K (tAndV ta tb) ρ (.bool (a && b)) := xe_intro fun N σ F H e Q q => h.e e fun v F1 H1 g p => ⟨a, dp_bool p, by
  cases a with
  | true => exact (k rfl).e (e.gr g) fun v F2 H2 g2 p2 => q v F2 H2 (g.trans g2) p2
  | false => exact q _ F1 H1 g (.bl _)⟩
theorem x_or {a b : Bool} (h : XE K ta ρ (.bool a)) (k : a = false → XE K tb ρ (.bool b)) : XE K (tOrV ta tb) ρ (.bool (a || b)) := xe_intro fun N σ F H e Q q => h.e e fun v F1 H1 g p => ⟨a, dp_bool p, by
  cases a with
  | true => exact q _ F1 H1 g (.bl _)
  | false => exact (k rfl).e (e.gr g) fun v F2 H2 g2 p2 => q v F2 H2 (g.trans g2) p2⟩
theorem x_not {a : Bool} (h : XE K ta ρ (.bool a)) : XE K (tNotV ta) ρ (.bool (!a)) := xe_intro fun N σ F H e Q q => h.e e fun v F1 H1 g p => ⟨a, dp_bool p, q _ F1 H1 g (.bl _)⟩
theorem x_ife {b : Bool} {s : Sl} (h : XT K tt ρ b) (h1 : b = true → XR K ta ρ s) (h2 : b = false → XR K tb ρ s) : XR K (tIf tt ta tb) ρ s := fun N σ F H e Q q => h N σ F H e _ fun F1 H1 g => by
  cases b with
  | true => exact h1 rfl N σ F1 H1 (e.gr g) Q fun v F2 H2 g2 r => q v F2 H2 (g.trans g2) (r.imp fun a z => g.hh.free z)
  | false => exact h2 rfl N σ F1 H1 (e.gr g) Q fun v F2 H2 g2 r => q v F2 H2 (g.trans g2) (r.imp fun a z => g.hh.free z)
/-! displays -/
theorem x_tup {t : TA} {ds : List PyData} (h : XA K t ρ ds) (hz : ds.length ≤ 100000) : XE K (tTup t) ρ (.tuple ds) := xe_intro fun N σ F H e Q q => h N σ F H e _ fun vs F1 H1 g p =>
  ⟨by rw [dpa_len p]; exact Nat.le_trans hz (by decide), fun a ha => q (.ref a) (upd F1 a (.tup vs)) _ (g.trans (.new g.fh ha)) (.tup (SqT.of upd_same) (dps_mono (same_new (g.fh.free ha)) _ _ p))⟩
theorem x_lst {t : TA} {ds : List PyData} (h : XA K t ρ ds) (hz : ds.length ≤ 100000) : XR K (tLst t) ρ (.ow ds) := fun N σ F H e Q q => h N σ F H e _ fun vs F1 H1 g p =>
  ⟨by rw [dpa_len p]; exact Nat.le_trans hz (by decide), fun a ha => q (.ref a) F1 _ (g.trans (.own g.fh ha)) (ret_ow upd_same (g.fh.free ha) (g.hh.free ha) p)⟩
/-! sequences read -/
theorem dpa_atI {vs : List V} {ds : List PyData} {k : Int} {d : PyData} (p : DpAll K F vs ds) (h : atI ds k = some d) : ∃ v, atI vs k = some v ∧ Dp K F v d := by
  unfold atI at h ⊢
  rw [dpa_len p]
  cases z : ixN ds.length k with
  | none => rw [z] at h; cases h
  | some j =>
    rw [z] at h
    exact dpa_get p h
theorem atI_ok {α : Type} {ds : List α} {k : Int} {j : Nat} {d : α} (e : k = (j : Int)) (h : ds[j]? = some d) : atI ds k = some d := by rw [e]; exact atI_nat h
theorem x_ix {b : Bool} {ds : List PyData} {k : Int} {d : PyData} (h : XS K ta ρ b ds) (hk : XE K tb ρ (.int k)) (ha : atI ds k = some d) : XE K (tOp (rIx K) ta tb) ρ d := xe_intro fun N σ F H e Q q => h N σ F H e _ fun p xs F1 H1 g1 s px =>
  hk.e (e.gr g1) fun y F2 H2 g2 py => by
    obtain ⟨v, hv, pv⟩ := dpa_atI px ha
    have fin := q v F2 H2 (g1.trans g2) (dp_mono g2.ff _ _ pv)
    cases b with
    | false => exact .inl ⟨p, xs, k, v, rfl, dp_int py, g2.hh.seq s, hv, fin⟩
    | true => exact .inr (.inl ⟨p, xs, k, v, rfl, dp_int py, sq_t g2.hh s, hv, fin⟩)
theorem x_len {b : Bool} {ds : List PyData} (h : XS K ta ρ b ds) : XE K (tCB (fun xs H Q => ∃ p ys, xs = [.ref p] ∧ (SqL K H p ys ∨ SqT K H p ys) ∧ Q (.int ys.length) H) (tCons ta tNil)) ρ (.int ds.length) := xe_intro fun N σ F H e Q q => h N σ F H e _ fun p xs F1 H1 g1 s px => by
  refine ⟨p, xs, rfl, ?_, ?_⟩
  · cases b with
    | false => exact .inl s
    | true => exact .inr s
  · rw [dpa_len px]; exact q _ F1 H1 g1 (.int _)
theorem x_list {b : Bool} {ds : List PyData} (h : XS K ta ρ b ds) : XR K (tCB (fun xs H Q => ∃ p ys, xs = [.ref p] ∧ (SqL K H p ys ∨ SqT K H p ys) ∧ ∀ l, H l = none → Q (.ref l) (upd H l (.lst ys))) (tCons ta tNil)) ρ (.ow ds) := fun N σ F H e Q q => h N σ F H e _ fun p xs F1 H1 g1 s px => by
  refine ⟨p, xs, rfl, ?_, fun l hl => q (.ref l) F1 _ (g1.trans (.own g1.fh hl)) (ret_ow upd_same (g1.fh.free hl) (g1.hh.free hl) px)⟩
  cases b with
  | false => exact .inl s
  | true => exact .inr s
def rTupleOf (K : PySem.W.Frag) : List V → Hp → VK → Prop := fun xs H Q => ∃ p ys, xs = [.ref p] ∧ ((SqL K H p ys ∧ ∀ l, H l = none → Q (.ref l) (upd H l (.tup ys))) ∨ (SqT K H p ys ∧ Q (.ref p) H))
theorem x_tuple {ds : List PyData} (h : XS K ta ρ false ds) : XE K (tCB (rTupleOf K) (tCons ta tNil)) ρ (.tuple ds) := xe_intro fun N σ F H e Q q => h N σ F H e _ fun p xs F1 H1 g1 s px =>
  ⟨p, xs, rfl, .inl ⟨s, fun l hl => q (.ref l) (upd F1 l (.tup xs)) _ (g1.trans (.new g1.fh hl)) (.tup (SqT.of upd_same) (dps_mono (same_new (g1.fh.free hl)) _ _ px))⟩⟩
theorem x_tupleT {ds : List PyData} (h : XE K ta ρ (.tuple ds)) : XE K (tCB (rTupleOf K) (tCons ta tNil)) ρ (.tuple ds) := xe_intro fun N σ F H e Q q => h.e e fun v F1 H1 g1 p => by
  obtain ⟨a, xs, rfl, s, _⟩ := dp_tuple p
  exact ⟨a, xs, rfl, .inr ⟨sq_t g1.fh s, q _ F1 H1 g1 p⟩⟩
theorem x_abs {i : Int} (h : XE K ta ρ (.int i)) : XE K (tCB (fun xs H Q => ∃ i, xs = [V.int i] ∧ Q (.int (if i < 0 then -i else i)) H) (tCons ta tNil)) ρ (.int (i.natAbs : Int)) := xe_intro fun N σ F H e Q q => h.e e fun v F1 H1 g1 p => ⟨i, by rw [dp_int p], by
  have : (if i < 0 then -i else i) = ((i.natAbs : Nat) : Int) := by split <;> omega
  rw [this]; exact q _ F1 H1 g1 (.int _)⟩
theorem x_min2 {i j : Int} (h : XE K ta ρ (.int i)) (k : XE K tb ρ (.int j)) : XE K (tCB (fun xs H Q => ∃ i j, xs = [V.int i, .int j] ∧ Q (.int (if j < i then j else i)) H) (tCons ta (tCons tb tNil))) ρ (.int (min i j)) := xe_intro fun N σ F H e Q q => h.e e fun v F1 H1 g1 p => k.e (e.gr g1) fun y F2 H2 g2 p2 => ⟨i, j, by rw [dp_int p, dp_int p2], by
  have : (if j < i then j else i) = min i j := by rw [Int.min_def]; split <;> split <;> omega
  rw [this]; exact q _ F2 H2 (g1.trans g2) (.int _)⟩
theorem x_intb {b : Bool} (h : XE K ta ρ (.bool b)) : XE K (tCB (fun xs H Q => (∃ i, xs = [V.int i] ∧ Q (.int i) H) ∨ ∃ k, xs = [V.bl k] ∧ Q (.int (if k then 1 else 0)) H) (tCons ta tNil)) ρ (.int (if b then 1 else 0)) := xe_intro fun N σ F H e Q q => h.e e fun v F1 H1 g1 p => .inr ⟨b, by rw [dp_bool p], q _ F1 H1 g1 (.int _)⟩
def cutD {α : Type} (xs : List α) (lo hi : Option Int) : List α := (xs.drop (HT.sIx xs.length 0 lo)).take (HT.sIx xs.length xs.length hi - HT.sIx xs.length 0 lo)
theorem dpa_cut {vs : List V} {ds : List PyData} (p : DpAll K F vs ds) (lo hi : Option Int) : DpAll K F (cutV vs lo hi) (cutD ds lo hi) := by
  unfold cutV cutD
  rw [dpa_len p]
  exact dpa_take _ (dpa_drop _ p)
/-- an optional part of a slice -/
def XO (K : PySem.W.Frag) (to : TO) (ρ : List Sl) (o : Option Int) : Prop := ∀ (N : Addr → Prop) (σ : St) (F H : Hp), En K N ρ σ F H → ∀ Q : Option Int → Hp → Prop, (∀ F' H', Gr F H F' H' → Q o H') → to σ H Q
theorem xo_none : XO K tNoPart ρ none := fun N σ F H e Q q => q F H (.refl e.fh)
theorem xo_some {i : Int} (h : XE K te ρ (.int i)) : XO K (tPart te) ρ (some i) := fun N σ F H e Q q => h.e e fun v F1 H1 g p => ⟨i, dp_int p, q F1 H1 g⟩
def rSlX (K : PySem.W.Frag) : V → Option Int → Option Int → Hp → VK → Prop := fun x lo hi H Q => rSlL K x lo hi H Q ∨ rSlA K x lo hi H Q
theorem sl_seq {X : Cx} : SlR X (rSlX X.K) := sl_list.or sl_tupA
theorem x_sliceL {ds : List PyData} {lo hi : Option Int} {tl th : TO} (h : XS K ta ρ false ds) (hl : XO K tl ρ lo) (hh : XO K th ρ hi) : XR K (tSl (rSlX K) ta tl th) ρ (.ow (cutD ds lo hi)) := fun N σ F H e Q q => h N σ F H e _ fun p xs F1 H1 g1 s px =>
  hl N σ F1 H1 (e.gr g1) _ fun F2 H2 g2 => hh N σ F2 H2 ((e.gr g1).gr g2) _ fun F3 H3 g3 => .inl ⟨p, xs, rfl, (g2.trans g3).hh.seq s, fun l hl => q (.ref l) F3 _ (((g1.trans g2).trans g3).trans (.own g3.fh hl)) (ret_ow upd_same (g3.fh.free hl) (((g1.trans g2).trans g3).hh.free hl) (dpa_cut (dps_mono (g2.trans g3).ff _ _ px) lo hi))⟩
/-- list(range(n)) -/
theorem x_listRg {n : Int} (h : XE K ta ρ (.int n)) (hn : n ≤ 100000 ∧ -100000 ≤ n) : XR K (tLstRg (tRg1 ta)) ρ (.ow ((List.range n.toNat).map fun (i : Nat) => PyData.int i)) := fun N σ F H e Q q => h.e e fun v F1 H1 g1 p => ⟨n, dp_int p, ⟨by omega, by omega, by omega, by omega, by omega⟩, fun l hl => q (.ref l) F1 _ (g1.trans (.own g1.fh hl)) (ret_ow upd_same (g1.fh.free hl) (g1.hh.free hl) (by
  unfold rgV
  have e1 : ((List.range (n - 0).toNat).map fun (i : Nat) => V.int (0 + (i : Nat))) = ((List.range n.toNat).map fun i : Nat => (i : Int)).map V.int := by
    rw [List.map_map, show (n - 0).toNat = n.toNat by omega]
    refine List.map_congr_left fun i _ => ?_
    show V.int (0 + (i : Int)) = V.int (i : Int)
    rw [Int.zero_add]
  rw [e1]
  have e2 : ((List.range n.toNat).map fun (i : Nat) => PyData.int i) = ((List.range n.toNat).map fun i : Nat => (i : Int)).map PyData.int := by rw [List.map_map]; rfl
  rw [e2]
  exact ints_dpa _))⟩
/-- isinstance -/
def tyD : PyData → String
  | .none => "NoneType"
  | .bool _ => "bool"
  | .int _ => "int"
  | .str _ => "str"
  | .list _ => "list"
  | .tuple _ => "tuple"
  | .dict _ => "dict"
theorem tyx_of {v : V} {d : PyData} (p : Dp K H v d) : TyX K H v (.type (tyD d)) := by
  cases p with
  | non => exact .base .non
  | bl b => exact .base (.bl b)
  | int i => exact .base (.int i)
  | str x => exact .base (.str x)
  | lst s _ =>
    rcases s with (s | ⟨o, s⟩) | ⟨o, _, _, s, c, _⟩
    · exact .base (.lst s)
    · exact .base (.frz s)
    · exact .kList s c
  | tup s _ =>
    rcases s with (s | ⟨o, s⟩) | ⟨o, _, _, s, c, _⟩
    · exact .base (.tup s)
    · exact .fTuple s
    · exact .kTuple s c
theorem x_isi {d : PyData} {T : String} {b : Bool} (h : XP K ta ρ d) (hk : kitB (tyD d) T = some b) : XE K (tCB (rIsi K) (tCons ta (tCons (tC (.ty T)) tNil))) ρ (.bool b) := xe_intro fun N σ F H e Q q => h N σ F H e _ fun v F1 H1 g1 p =>
  ⟨v, .ty T, _, _, b, rfl, .ty T, tyx_of p, kit_ty hk, q _ F1 H1 g1 (.bl _)⟩
/-! changes of one's own lists -/
theorem s_append {i : Nat} {ds : List PyData} {d : PyData} {P : Post} (hi : ρ[i]? = some (.ow ds)) (h : XE K te ρ d) (hz : ds.length ≤ 100000) (k : P.nx (ρ.set i (.ow (ds ++ [d])))) : WS K (tDrop (tBM K "list" rAppend (tVar i) (tCons te tNil))) ρ P := fun F0 H0 σ F H D e f => by
  obtain ⟨l, xs, es, hl, dl, fl, nl, _⟩ := e.mut hi
  refine ⟨_, es, .inl ⟨rfl, xs, SqL.of hl⟩, h.e e.en fun v F1 H1 g p => ?_⟩
  obtain ⟨l', xs', es', hl', dl', fl', nl', k'⟩ := (e.go g).mut hi
  rw [es] at es'
  cases es'
  exact ⟨l, xs', v, rfl, rfl, hl', by rw [dpa_len dl']; exact Nat.lt_of_le_of_lt hz (by decide), f.nx _ _ _ _ k (k' _ _ (dpa_app dl' (dpa_one p)))⟩
def rInsert : V → List V → Hp → VK → Prop := fun x vs H Q => ∃ (l : Addr) (xs : List V) (i : Int) (y : V), x = .ref l ∧ vs = [.int i, y] ∧ H l = some (.lst xs) ∧ xs.length < sizeLine ∧ 0 ≤ i ∧ i < 2 ^ 63 ∧ Q .non (upd H l (.lst (xs.take i.toNat ++ [y] ++ xs.drop i.toNat)))
theorem s_insert {i : Nat} {ds : List PyData} {k : Int} {d : PyData} {P : Post} (hi : ρ[i]? = some (.ow ds)) (hk : XE K ta ρ (.int k)) (h : XE K te ρ d) (hz : ds.length ≤ 100000) (h0 : 0 ≤ k ∧ k < 2 ^ 63) (kk : P.nx (ρ.set i (.ow (ds.take k.toNat ++ [d] ++ ds.drop k.toNat)))) :
    WS K (tDrop (tBM K "list" rInsert (tVar i) (tCons ta (tCons te tNil)))) ρ P := fun F0 H0 σ F H D e f => by
  obtain ⟨l, xs, es, hl, dl, fl, nl, _⟩ := e.mut hi
  refine ⟨_, es, .inl ⟨rfl, xs, SqL.of hl⟩, hk.e e.en fun y F1 H1 g1 p1 => h.e (e.en.gr g1) fun v F2 H2 g2 p => ?_⟩
  obtain ⟨l', xs', es', hl', dl', fl', nl', k'⟩ := (e.go (g1.trans g2)).mut hi
  rw [es] at es'
  cases es'
  exact ⟨l, xs', k, v, rfl, by rw [dp_int p1], hl', by rw [dpa_len dl']; exact Nat.lt_of_le_of_lt hz (by decide), h0.1, h0.2, f.nx _ _ _ _ kk (k' _ _ (dpa_app (dpa_app (dpa_take _ dl') (dpa_one p)) (dpa_drop _ dl')))⟩
/-- a, b = e1, e2 -/
theorem s_par {i j : Nat} {a b : PyData} {P : Post} (ha : XE K ta ρ a) (hb : XE K tb ρ b) (k : P.nx ((ρ.set i (.da a)).set j (.da b))) : WS K (tPar i j (tCons ta (tCons tb tNil))) ρ P := fun F0 H0 σ F H D e f =>
  ha.e e.en fun x F1 H1 g1 p1 => hb.e (e.en.gr g1) fun y F2 H2 g2 p2 => ⟨x, y, rfl, f.nx _ _ _ _ k ⟨(e.go (g1.trans g2)).gr, (e.en.putD (g1.trans g2) (dp_mono g2.ff _ _ p1)).putD (.refl g2.fh) p2⟩⟩
end
end WL

namespace WL
open PySem L2
section
variable {X : Cx}
def rGetL : V → V → Hp → VK → Prop := fun o i H Q => ∃ p xs k v, o = .ref p ∧ i = .int k ∧ H p = some (.lst xs) ∧ 0 ≤ k ∧ k < 2 ^ 63 ∧ xs[k.toNat]? = some v ∧ Q v H
theorem get_list : PGet X rGetL := by
  intro pins s σ H o i ov iv Q I ro ri h
  obtain ⟨p, xs, k, v, rfl, rfl, hp, h0, h1, hx, q⟩ := h
  cases ro
  obtain ⟨t, rfl⟩ := ri
  obtain ⟨its, r, pl, hz⟩ := I.list (SqL.of (K := X.K) hp)
  obtain ⟨w, ew, rw'⟩ := r.get hx
  exact wpAny_getItem_list pl.isList h0 h1 (by simpa using ew) ⟨v, H, I, rw', q⟩
end
section
variable {K : PySem.W.Frag} {N : Addr → Prop} {ρ : List Sl} {σ : St} {F H F' H' F0 H0 : Hp} {ta tb te tc : TE} {tt tu : TT} {P : Post} {t : TS}
/-- a row of one's own list of lists, read -/
theorem xs_row {i : Nat} {dss : List (List PyData)} {ds : List PyData} {k : Int} (h : ρ[i]? = some (.ow2 dss)) (hk : XE K tb ρ (.int k)) (ha : atI dss k = some ds) : XS K (tOp (rIx K) (tVar i) tb) ρ false ds := fun N σ F H e Q q => by
  obtain ⟨l, ls, es, _⟩ := e.mut2 h
  refine ⟨_, es, hk.e e fun y F1 H1 g1 py => ?_⟩
  obtain ⟨l', ls', es', hl', _, _, len, kk⟩ := (e.gr g1).mut2 h
  rw [es] at es'
  cases es'
  unfold atI at ha
  cases z : ixN dss.length k with
  | none => rw [z] at ha; cases ha
  | some j =>
    rw [z] at ha
    obtain ⟨r, xs, hr, hx, dx, _⟩ := kk j ds ha
    refine .inl ⟨l, ls'.map V.ref, k, .ref r, rfl, dp_int py, SqL.of hl', ?_, q r xs F1 H1 g1 (SqL.of hx) dx⟩
    unfold atI
    rw [List.length_map, len, z]
    show (ls'.map V.ref)[j]? = some (V.ref r)
    rw [List.getElem?_map, hr]
    rfl
theorem xs_len2 {i : Nat} {dss : List (List PyData)} (h : ρ[i]? = some (.ow2 dss)) : XE K (tCB (fun xs H Q => ∃ p ys, xs = [.ref p] ∧ (SqL K H p ys ∨ SqT K H p ys) ∧ Q (.int ys.length) H) (tCons (tVar i) tNil)) ρ (.int dss.length) := xe_intro fun N σ F H e Q q => by
  obtain ⟨l, ls, es, hl, _, _, len, _⟩ := e.mut2 h
  refine ⟨_, es, l, ls.map V.ref, rfl, .inl (SqL.of hl), ?_⟩
  rw [List.length_map, len]
  exact q _ F H (.refl e.fh) (.int _)
/-- x[i] = e -/
theorem s_seti {i : Nat} {ds : List PyData} {k : Int} {j : Nat} {d : PyData} (hi : ρ[i]? = some (.ow ds)) (h : XE K te ρ d) (hk : XE K tb ρ (.int k)) (hj : ixN ds.length k = some j) (kk : P.nx (ρ.set i (.ow (ds.set j d)))) : WS K (tAsg te (gSub (tVar i) tb rSetL)) ρ P := fun F0 H0 σ F H D e f => by
  refine h.e e.en fun v F1 H1 g1 p1 => ?_
  obtain ⟨l, xs, es, _⟩ := e.mut hi
  refine ⟨_, es, hk.e (e.en.gr g1) fun y F2 H2 g2 p2 => ?_⟩
  obtain ⟨l', xs', es', hl', dl', fl', nl', k'⟩ := (e.go (g1.trans g2)).mut hi
  rw [es] at es'
  cases es'
  exact ⟨l, xs', k, j, rfl, dp_int p2, hl', by rw [dpa_len dl']; exact hj, f.nx _ _ _ _ kk (k' _ _ (dpa_set (dp_mono g2.ff _ _ p1) j dl'))⟩
/-- a row of one's own list of lists, to be changed -/
theorem row_ev {i : Nat} {dss : List (List PyData)} {ds : List PyData} {a : Int} {ja : Nat} (e : Es K F0 H0 ρ σ F H) (hi : ρ[i]? = some (.ow2 dss)) (ha : XE K ta ρ (.int a)) (ja' : ixN dss.length a = some ja) (hr : dss[ja]? = some ds) {Q : VK}
    (q : ∀ r F1 H1, Gr F H F1 H1 → (∀ F2 H2, Gr F1 H1 F2 H2 → ∃ xs, H2 r = some (.lst xs) ∧ DpAll K F2 xs ds ∧ ∀ ys es, DpAll K F2 ys es → Es K F0 H0 (ρ.set i (.ow2 (dss.set ja es))) σ F2 (upd H2 r (.lst ys))) → Q (.ref r) H1) : tOp (rIx K) (tVar i) ta σ H Q := by
  obtain ⟨l, ls, es, _⟩ := e.mut2 hi
  refine ⟨_, es, ha.e e.en fun y F1 H1 g1 py => ?_⟩
  obtain ⟨l', ls', es', hl', len, kk⟩ := (e.go g1).mut2 hi
  rw [es] at es'
  cases es'
  obtain ⟨r, xs, er, hx, dx, _, _⟩ := kk ja ds hr
  refine .inl ⟨l, ls'.map V.ref, a, .ref r, rfl, dp_int py, SqL.of hl', ?_, q r F1 H1 g1 fun F2 H2 g2 => ?_⟩
  · unfold atI
    rw [List.length_map, len, ja']
    show (ls'.map V.ref)[ja]? = some (V.ref r)
    rw [List.getElem?_map, er]
    rfl
  · obtain ⟨l3, ls3, es3, hl3, len3, k3⟩ := (e.go (g1.trans g2)).mut2 hi
    rw [es] at es3
    cases es3
    have := g2.hh _ _ hl'
    rw [hl3] at this
    have el : ls3.map V.ref = ls'.map V.ref := HO.lst.inj (Option.some.inj this)
    have el2 : ls3[ja]? = some r := by
      have h1 := congrArg (fun z : List V => z[ja]?) el
      simp only [List.getElem?_map, er] at h1
      cases z : ls3[ja]? with
      | none => rw [z] at h1; cases h1
      | some r' => rw [z] at h1; cases h1; rfl
    obtain ⟨r3, xs3, er3, hx3, dx3, _, k4⟩ := k3 ja ds hr
    rw [el2] at er3
    cases er3
    exact ⟨xs3, hx3, dx3, k4⟩
/-- x[a][b] = e -/
theorem s_set2 {i : Nat} {dss : List (List PyData)} {ds : List PyData} {a b : Int} {ja jb : Nat} {d : PyData} (hi : ρ[i]? = some (.ow2 dss)) (h : XE K te ρ d) (ha : XE K ta ρ (.int a)) (hb : XE K tb ρ (.int b)) (ja' : ixN dss.length a = some ja) (hr : dss[ja]? = some ds) (jb' : ixN ds.length b = some jb)
    (kk : P.nx (ρ.set i (.ow2 (dss.set ja (ds.set jb d))))) : WS K (tAsg te (gSub (tOp (rIx K) (tVar i) ta) tb rSetL)) ρ P := fun F0 H0 σ F H D e f =>
  h.e e.en fun v F1 H1 g1 p1 => row_ev (e.go g1) hi ha ja' hr fun r F2 H2 g2 k => hb.e ((e.en.gr g1).gr g2) fun y F3 H3 g3 p3 => by
    obtain ⟨xs, hx, dx, k4⟩ := k F3 H3 g3
    exact ⟨r, xs, b, jb, rfl, dp_int p3, hx, by rw [dpa_len dx]; exact jb', f.nx _ _ _ _ kk (k4 _ _ (dpa_set (dp_mono (g2.trans g3).ff _ _ p1) jb dx))⟩
/-- x[a][b] += e -/
theorem s_aug2 {i : Nat} {dss : List (List PyData)} {ds : List PyData} {a b m n : Int} {ja jb : Nat} {fn : Int → Int → Int} (hi : ρ[i]? = some (.ow2 dss)) (ha : XE K ta ρ (.int a)) (hb : XE K tb ρ (.int b)) (h : XE K te ρ (.int n)) (ja' : ixN dss.length a = some ja) (hr : dss[ja]? = some ds) (b0 : 0 ≤ b) (eb : b.toNat = jb) (hm : ds[jb]? = some (.int m))
    (hz : ds.length ≤ 100000) (kk : P.nx (ρ.set i (.ow2 (dss.set ja (ds.set jb (.int (fn m n))))))) : WS K (tAugS (tOp (rIx K) (tVar i) ta) tb te rGetL (ipI fn) rSetL) ρ P := fun F0 H0 σ F H D e f =>
  row_ev e hi ha ja' hr fun r F2 H2 g2 k => hb.e (e.en.gr g2) fun y F3 H3 g3 p3 => by
    obtain ⟨xs, hx, dx, k4⟩ := k F3 H3 g3
    obtain ⟨v, hv, pv⟩ := dpa_get dx hm
    have jl := (List.getElem?_eq_some_iff.mp hm).1
    refine ⟨r, xs, b, v, rfl, dp_int p3, hx, b0, by omega, by rw [eb]; exact hv, h.e ((e.en.gr g2).gr g3) fun z F4 H4 g4 p4 => ?_⟩
    obtain ⟨xs4, hx4, dx4, k5⟩ := k F4 H4 (g3.trans g4)
    refine ⟨m, n, by rw [dp_int pv], dp_int p4, r, xs4, b, jb, rfl, dp_int p3, hx4, ?_, f.nx _ _ _ _ kk (k5 _ _ (dpa_set (.int _) jb dx4))⟩
    unfold ixN
    rw [dpa_len dx4, if_pos b0, if_pos (by omega), eb]
/-- one's own list of lists is known from now on -/
theorem s_frz2 (i : Nat) {dss : List (List PyData)} (h : ρ[i]? = some (.ow2 dss)) (k : WS K t (ρ.set i (.da (.list (dss.map PyData.list)))) P) : WS K t ρ P := fun F0 H0 σ F H D e f => by
  obtain ⟨A, h1, h2, h3⟩ := e.en.en
  obtain ⟨l, ls, es, hl, al, nd, len, dl⟩ := h1 i _ h
  have hF : ∃ F' : Hp, (∀ a, a ∈ l :: ls → F' a = H a) ∧ (∀ a, a ∉ l :: ls → F' a = F a) := by
    refine ⟨fun a => if a ∈ l :: ls then H a else F a, fun a q => if_pos q, fun a q => if_neg q⟩
  obtain ⟨F', f1, f2⟩ := hF
  have own : ∀ a, a ∈ l :: ls → A i a := fun a q => by
    rcases List.mem_cons.mp q with z | z
    · rw [z]; exact al
    · obtain ⟨n, hn⟩ := List.getElem?_of_mem z
      have hn2 : n < dss.length := by rw [← len]; exact (List.getElem?_eq_some_iff.mp hn).1
      exact (dl n a _ hn (List.getElem?_eq_getElem hn2)).1
  have ff : Same F F' := fun a o q => by
    rw [f2 a fun z => by have := (h3 i a (own a z)).1; rw [this] at q; cases q]; exact q
  have fh : Same F' H := fun a o q => by
    by_cases z : a ∈ l :: ls
    · rw [f1 a z] at q; exact q
    · rw [f2 a z] at q; exact e.en.fh a o q
  have g : Gr F0 H0 F' H := ⟨e.gr.ff.trans ff, e.gr.hh, fh, fun a o q r => by
    rw [f2 a fun z => by have := (h3 i a (own a z)).2.1; rw [this] at r; cases r]
    exact e.gr.ap a o q r⟩
  refine k F0 H0 σ F' H D ⟨g, fh, by rw [List.length_set]; exact e.en.len, fun j a => j ≠ i ∧ A j a, fun j s hs => ?_, fun j k a p q => h2 j k a p.2 q.2, fun j a p => ?_⟩ f
  · by_cases z : j = i
    · subst z
      have hj : j < ρ.length := (List.getElem?_eq_some_iff.mp h).1
      rw [List.getElem?_set_self hj] at hs
      cases hs
      refine ⟨_, es, .lst (.inl (.inl (by rw [f1 l List.mem_cons_self]; exact hl))) (dpa_mk (by rw [List.length_map, List.length_map, len]) fun n v d hv hd => ?_)⟩
      rw [List.getElem?_map] at hv hd
      cases e1 : ls[n]? with
      | none => rw [e1] at hv; cases hv
      | some r =>
        rw [e1] at hv
        cases hv
        cases e2 : dss[n]? with
        | none => rw [e2] at hd; cases hd
        | some ds =>
          rw [e2] at hd
          cases hd
          obtain ⟨_, xs, hx, dx⟩ := dl n r ds e1 e2
          exact .lst (.inl (.inl (by rw [f1 r (List.mem_cons_of_mem _ (List.mem_of_getElem? e1))]; exact hx))) (dps_mono ff _ _ dx)
    · rw [List.getElem?_set_ne (Ne.symm z)] at hs
      exact (h1 j s hs).mono ff (fun _ _ _ q => q) fun a q => ⟨z, q⟩
  · obtain ⟨q1, n1, o1⟩ := h3 j a p.2
    exact ⟨by rw [f2 a fun y => p.1 (h2 j i a p.2 (own a y))]; exact q1, n1, o1⟩
/-- a comprehension whose items are lists of one's own -/
theorem lc2_turn {α : Type} {te : TE} {xs : List α} {h : α → List PyData} {vs : List Nat} {j : Nat} {em : α → PyData} {i : Nat} {x : α} {y : V} {D : Addr} {F1 H1 H2 : Hp} (hx : xs[i]? = some x) (hz : xs.length ≤ 100000)
    (en : En K N ρ σ F1 H1) (nD : H1 D = none) (hj : j ∈ vs)
    (py : Dp K F1 y (em x)) (he : XR K te ((wipeR ρ vs).set j (.da (em x))) (.ow (h x)))
    (w : ∃ (F' : Hp) (ls : List Addr), Gr F1 H1 F' H2 ∧ F' D = none ∧ H2 D = some (.lst (ls.map V.ref)) ∧ (D :: ls).Nodup ∧ ls.length = i ∧ ∀ (k : Nat) r x, ls[k]? = some r → xs[k]? = some x → F' r = none ∧ H1 r = none ∧ ∃ ys, H2 r = some (.lst ys) ∧ DpAll K F' ys (h x)) :
    gName j y (wipe σ vs) H2 fun σ2 H2 => wipe σ2 vs = wipe σ vs ∧ tYes σ2 H2 fun b H3 => if b = true then te σ2 H3 fun y H4 => ∃ acc, H4 D = some (.lst acc) ∧ acc.length < sizeLine ∧
      (∃ (F' : Hp) (ls : List Addr), Gr F1 H1 F' (upd H4 D (.lst (acc ++ [y]))) ∧ F' D = none ∧ (upd H4 D (.lst (acc ++ [y]))) D = some (.lst (ls.map V.ref)) ∧ (D :: ls).Nodup ∧ ls.length = i + 1 ∧ ∀ (k : Nat) r x, ls[k]? = some r → xs[k]? = some x → F' r = none ∧ H1 r = none ∧ ∃ ys, (upd H4 D (.lst (acc ++ [y]))) r = some (.lst ys) ∧ DpAll K F' ys (h x)) else
      (∃ (F' : Hp) (ls : List Addr), Gr F1 H1 F' H3 ∧ F' D = none ∧ H3 D = some (.lst (ls.map V.ref)) ∧ (D :: ls).Nodup ∧ ls.length = i + 1 ∧ ∀ (k : Nat) r x, ls[k]? = some r → xs[k]? = some x → F' r = none ∧ H1 r = none ∧ ∃ ys, H3 r = some (.lst ys) ∧ DpAll K F' ys (h x)) := by
  obtain ⟨F', ls, g, fD, hD, nd, len, dl⟩ := w
  have en2 : En K N ((wipeR ρ vs).set j (.da (em x))) ((wipe σ vs).set j (some y)) F' H2 := ((en.gr g).wipe vs).putD (.refl g.fh) (dp_mono g.ff _ _ py)
  have hi : i < xs.length := (List.getElem?_eq_some_iff.mp hx).1
  refine ⟨by rw [wipe_back hj, wipe_idem], ?_⟩
  unfold tYes
  dsimp only
  rw [if_pos rfl]
  refine he N _ F' H2 en2 _ fun v F4 H4 g4 r4 => ?_
  obtain ⟨l, ys, rfl, hl, fl, nl, dys⟩ := of_ret_ow r4
  have fD4 : F4 D = none := g4.ap D _ fD hD
  have g5 := g.trans g4
  have lD : l ≠ D := fun z => by rw [z, hD] at nl; cases nl
  have lls : l ∉ ls := fun z => by
    obtain ⟨n, hn⟩ := List.getElem?_of_mem z
    have hn2 : n < xs.length := by have := (List.getElem?_eq_some_iff.mp hn).1; omega
    obtain ⟨_, _, ys', hy', _⟩ := dl n l _ hn (List.getElem?_eq_getElem hn2)
    rw [nl] at hy'; cases hy'
  refine ⟨ls.map V.ref, g4.hh _ _ hD, by rw [List.length_map, len]; exact Nat.lt_of_le_of_lt (by omega : i ≤ 100000) (by decide), F4, ls ++ [l], ⟨g5.ff, fun a u q => ?_, fun a u q => ?_, g5.ap⟩, fD4, ?_, ?_, ?_, fun k r x' hk hx' => ?_⟩
  · rw [upd_ne (ne_of_none q nD)]; exact g5.hh a u q
  · rw [upd_ne (ne_of_none q fD4)]; exact g5.fh a u q
  · rw [upd_same, List.map_append]; rfl
  · refine List.nodup_cons.mpr ⟨fun z => ?_, List.nodup_append.mpr ⟨(List.nodup_cons.mp nd).2, (by simp), fun a ha b hb => ?_⟩⟩
    · rcases List.mem_append.mp z with z | z
      · exact (List.nodup_cons.mp nd).1 z
      · exact lD (List.mem_singleton.mp z).symm
    · rw [List.mem_singleton.mp hb]
      exact fun z => lls (by rw [← z]; exact ha)
  · rw [List.length_append, len]; rfl
  · by_cases hk2 : k < ls.length
    · rw [List.getElem?_append_left hk2] at hk
      obtain ⟨a1, a2, ys', a3, a4⟩ := dl k r x' hk hx'
      have rD : r ≠ D := fun z => (List.nodup_cons.mp nd).1 (by rw [← z]; exact List.mem_of_getElem? hk)
      exact ⟨g4.ap _ _ a1 a3, a2, ys', by rw [upd_ne rD]; exact g4.hh _ _ a3, dps_mono g4.ff _ _ a4⟩
    · have hk3 : k = ls.length := by
        have := (List.getElem?_eq_some_iff.mp hk).1
        rw [List.length_append] at this
        simp at this
        omega
      subst hk3
      rw [List.getElem?_append_right (Nat.le_refl _), Nat.sub_self] at hk
      have er : l = r := by simpa using hk
      subst er
      rw [len, hx] at hx'
      cases hx'
      exact ⟨fl, g.hh.free nl, ys, by rw [upd_ne lD]; exact hl, dys⟩
theorem lc2_done {α : Type} {xs : List α} {h : α → List PyData} {D : Addr} {F1 H1 H2 : Hp} {M : Addr → Prop} (n : ∀ a, H1 a = none → M a) (nD : H1 D = none)
    (w : ∃ (F' : Hp) (ls : List Addr), Gr F1 H1 F' H2 ∧ F' D = none ∧ H2 D = some (.lst (ls.map V.ref)) ∧ (D :: ls).Nodup ∧ ls.length = xs.length ∧ ∀ (k : Nat) r x, ls[k]? = some r → xs[k]? = some x → F' r = none ∧ H1 r = none ∧ ∃ ys, H2 r = some (.lst ys) ∧ DpAll K F' ys (h x)) :
    ∃ F', Gr F1 H1 F' H2 ∧ RetOk K M F' H2 (.ow2 (xs.map h)) (.ref D) := by
  obtain ⟨F', ls, g, fD, hD, nd, len, dl⟩ := w
  refine ⟨F', g, fun a => a = D ∨ a ∈ ls, ⟨D, ls, rfl, hD, .inl rfl, nd, by rw [List.length_map, len], fun i r ds hr hd => ?_⟩, fun a q => ?_⟩
  · rw [List.getElem?_map] at hd
    cases e1 : xs[i]? with
    | none => rw [e1] at hd; cases hd
    | some x =>
      rw [e1] at hd
      cases hd
      obtain ⟨_, _, ys, h1, h2⟩ := dl i r x hr e1
      exact ⟨.inr (List.mem_of_getElem? hr), ys, h1, h2⟩
  · rcases q with z | z
    · rw [z]; exact ⟨fD, n D nD, _, hD⟩
    · obtain ⟨k, hk⟩ := List.getElem?_of_mem z
      have hk2 : k < xs.length := by rw [← len]; exact (List.getElem?_eq_some_iff.mp hk).1
      obtain ⟨a1, a2, ys, a3, _⟩ := dl k a _ hk (List.getElem?_eq_getElem hk2)
      exact ⟨a1, n a a2, _, a3⟩
theorem x_lc2R {ta : TA} {n : Int} {j : Nat} {vs : List Nat} (h : Nat → List PyData) (hl : XA K ta ρ [.int n]) (hn : n ≤ 100000 ∧ -100000 ≤ n) (hj : j ∈ vs)
    (he : ∀ i : Nat, (i : Int) < n → XR K te ((wipeR ρ vs).set j (.da (.int i))) (.ow (h i))) : XR K (tLc (iRng1 ta) (gName j) tYes te vs) ρ (.ow2 ((List.range n.toNat).map h)) := fun N σ F H e Q q => by
  refine hl _ σ F H e _ fun ws F1 H1 g1 p1 => ?_
  have en := e.gr g1
  have ev : ws = [V.int n] := dpa_ints (ns := [n]) p1
  have len : (List.range n.toNat).length = n.toNat := List.length_range
  refine ⟨n, ev, by omega, by omega, fun D nD => lc_range (lo := 0) (n := n.toNat) (fun i H2 => ∃ (F' : Hp) (ls : List Addr), Gr F1 H1 F' H2 ∧ F' D = none ∧ H2 D = some (.lst (ls.map V.ref)) ∧ (D :: ls).Nodup ∧ ls.length = i ∧ ∀ (k : Nat) r x, ls[k]? = some r → (List.range n.toNat)[k]? = some x → F' r = none ∧ H1 r = none ∧ ∃ ys, H2 r = some (.lst ys) ∧ DpAll K F' ys (h x))
    ⟨F1, [], .own en.fh nD, en.fh.free nD, upd_same, (by simp), rfl, fun k r x hk _ => by simp at hk⟩ (fun i H2 hi w => ?_) fun H2 w => ?_⟩
  · have e0 : (0 : Int) + (i : Int) = (i : Int) := Int.zero_add _
    rw [e0]
    exact lc2_turn (em := fun i : Nat => PyData.int i) (x := i) (by rw [List.getElem?_range hi]) (by rw [len]; omega) en nD hj (.int _) (he i (by omega)) w
  · obtain ⟨F', g, r⟩ := lc2_done (K := K) (M := fun a => H a = none) (xs := List.range n.toNat) (h := h) (fun a z => g1.hh.free z) nD (by rw [len]; exact w)
    exact q _ F' H2 (g1.trans g) r
theorem x_lc2 {α : Type} {tl : TE} {d : PyData} {j : Nat} {vs : List Nat} (xs : List α) (em : α → PyData) (h : α → List PyData) (hl : XE K tl ρ d) (hq : isq d) (hx : sqd d = xs.map em) (hz : xs.length ≤ 100000) (hj : j ∈ vs)
    (he : ∀ x ∈ xs, XR K te ((wipeR ρ vs).set j (.da (em x))) (.ow (h x))) : XR K (tLc (iSeq K tl) (gName j) tYes te vs) ρ (.ow2 (xs.map h)) := fun N σ F H e Q q => by
  refine hl.e e fun v F1 H1 g1 p1 => ?_
  have en := e.gr g1
  have start : ∀ D, H1 D = none → (∃ (F' : Hp) (ls : List Addr), Gr F1 H1 F' (upd H1 D (.lst [])) ∧ F' D = none ∧ (upd H1 D (.lst [])) D = some (.lst (ls.map V.ref)) ∧ (D :: ls).Nodup ∧ ls.length = 0 ∧ ∀ (k : Nat) r x, ls[k]? = some r → xs[k]? = some x → F' r = none ∧ H1 r = none ∧ ∃ ys, (upd H1 D (.lst [])) r = some (.lst ys) ∧ DpAll K F' ys (h x)) := fun D nD =>
    ⟨F1, [], .own en.fh nD, en.fh.free nD, upd_same, (by simp), rfl, fun k r x hk _ => by simp at hk⟩
  have turn : ∀ (ys : List V) (ds : List PyData), ds = xs.map em → DpAll K F1 ys ds → ∀ (i : Nat) (y : V), ys[i]? = some y → ∃ x, xs[i]? = some x ∧ Dp K F1 y (em x) := by
    intro ys ds eds dy i y hy
    obtain ⟨d', hd', pd⟩ := dpa_get' dy hy
    rw [eds, List.getElem?_map] at hd'
    cases hx' : xs[i]? with
    | none => rw [hx'] at hd'; cases hd'
    | some x =>
      rw [hx'] at hd'
      cases hd'
      exact ⟨x, rfl, pd⟩
  cases d with
  | list ds =>
    obtain ⟨a, ys, rfl, s, pq⟩ := dp_list p1
    have len : ys.length = xs.length := by rw [dpa_len pq, show ds = xs.map em from hx, List.length_map]
    refine ⟨a, rfl, .inl ⟨⟨ys, en.fh.seq s⟩, fun D nD => lc_list (K := K) (a := a) (xs := ys) (fun i H2 => ∃ (F' : Hp) (ls : List Addr), Gr F1 H1 F' H2 ∧ F' D = none ∧ H2 D = some (.lst (ls.map V.ref)) ∧ (D :: ls).Nodup ∧ ls.length = i ∧ ∀ (k : Nat) r x, ls[k]? = some r → xs[k]? = some x → F' r = none ∧ H1 r = none ∧ ∃ ys, H2 r = some (.lst ys) ∧ DpAll K F' ys (h x)) (start D nD)
      (fun i H2 _ ⟨F', _, g, _⟩ => g.hh.seq (en.fh.seq s)) (fun i y H2 hy w => ?_) (by
        rw [len]
        intro H2 w
        obtain ⟨F', g, r⟩ := lc2_done (K := K) (M := fun a => H a = none) (xs := xs) (h := h) (fun a z => g1.hh.free z) nD w
        exact q _ F' H2 (g1.trans g) r)⟩⟩
    obtain ⟨x, hx', pd⟩ := turn ys ds hx pq i y hy
    exact lc2_turn hx' hz en nD hj pd (he x (List.mem_of_getElem? hx')) w
  | tuple ds =>
    obtain ⟨a, ys, rfl, s, pq⟩ := dp_tuple p1
    have len : ys.length = xs.length := by rw [dpa_len pq, show ds = xs.map em from hx, List.length_map]
    refine ⟨a, rfl, .inr ⟨⟨ys, sq_t en.fh s⟩, fun D nD => lc_tup (K := K) (a := a) (xs := ys) (fun i H2 => ∃ (F' : Hp) (ls : List Addr), Gr F1 H1 F' H2 ∧ F' D = none ∧ H2 D = some (.lst (ls.map V.ref)) ∧ (D :: ls).Nodup ∧ ls.length = i ∧ ∀ (k : Nat) r x, ls[k]? = some r → xs[k]? = some x → F' r = none ∧ H1 r = none ∧ ∃ ys, H2 r = some (.lst ys) ∧ DpAll K F' ys (h x)) (start D nD)
      (fun i H2 _ ⟨F', _, g, _⟩ => sq_t g.hh (sq_t en.fh s)) (fun i y H2 hy w => ?_) (by
        rw [len]
        intro H2 w
        obtain ⟨F', g, r⟩ := lc2_done (K := K) (M := fun a => H a = none) (xs := xs) (h := h) (fun a z => g1.hh.free z) nD w
        exact q _ F' H2 (g1.trans g) r)⟩⟩
    obtain ⟨x, hx', pd⟩ := turn ys ds hx pq i y hy
    exact lc2_turn hx' hz en nD hj pd (he x (List.mem_of_getElem? hx')) w
  | none => exact hq.elim
  | bool _ => exact hq.elim
  | int _ => exact hq.elim
  | str _ => exact hq.elim
  | dict _ => exact hq.elim
/-- a list that stands in the heap by itself -/
def XK (K : PySem.W.Frag) (te : TE) (ρ : List Sl) (ds : List PyData) : Prop := ∀ (N : Addr → Prop) (σ : St) (F H : Hp), En K N ρ σ F H → ∀ Q : VK, (∀ p xs F' H', Gr F H F' H' → H' p = some (.lst xs) → DpAll K F' xs ds → Q (.ref p) H') → te σ H Q
theorem xk_o {i : Nat} {ds : List PyData} (h : ρ[i]? = some (.ow ds)) : XK K (tVar i) ρ ds := fun N σ F H e Q q => by
  obtain ⟨l, xs, es, hl, dl, _⟩ := e.mut h
  exact ⟨_, es, q l xs F H (.refl e.fh) hl dl⟩
theorem xk_n {ds : List PyData} (h : XR K te ρ (.ow ds)) : XK K te ρ ds := fun N σ F H e Q q => h N σ F H e Q fun v F' H' g r => by
  obtain ⟨l, xs, rfl, hl, fl, nl, a⟩ := of_ret_ow r
  exact q l xs F' H' g hl a
theorem x_cat {a b : List PyData} (ha : XK K ta ρ a) (hb : XK K tb ρ b) (hz : a.length + b.length ≤ 100000) : XR K (tOp (rAddX K) ta tb) ρ (.ow (a ++ b)) := fun N σ F H e Q q => ha N σ F H e _ fun p xs F1 H1 g1 hp dp => hb N σ F1 H1 (e.gr g1) _ fun r ys F2 H2 g2 hr dr =>
  .inr (.inl ⟨p, r, xs, ys, rfl, rfl, g2.hh _ _ hp, hr, by rw [dpa_len dp, dpa_len dr]; exact Nat.le_trans hz (by decide), fun l hl => q (.ref l) F2 _ ((g1.trans g2).trans (.own g2.fh hl)) (ret_ow upd_same (g2.fh.free hl) ((g1.trans g2).hh.free hl) (dpa_app (dps_mono g2.ff _ _ dp) dr))⟩)
theorem cutD_map {α β : Type} (f : α → β) (xs : List α) (lo hi : Option Int) : cutD (xs.map f) lo hi = (cutD xs lo hi).map f := by
  unfold cutD
  rw [List.length_map, List.map_take, List.map_drop]
theorem cutD_len {α : Type} (xs : List α) (lo hi : Option Int) : (cutD xs lo hi).length ≤ xs.length := by
  unfold cutD
  rw [List.length_take, List.length_drop]
  omega
end
end WL

namespace WL
open PySem L2
/-! ### fractions -/
def fr (q : Rat) : PyData := .tuple [.int q.num, .int q.den]
theorem fr_inj {a b : Rat} (h : fr a = fr b) : a = b := by
  unfold fr at h
  injection h with h
  injection h with h1 h
  injection h with h2 h
  injection h1 with h1
  injection h2 with h2
  exact Rat.ext h1 (by exact_mod_cast h2)
theorem gcd_pos {a b : Int} (h : b ≠ 0) : 0 < Int.gcd a b := Nat.pos_of_ne_zero fun z => h (Int.gcd_eq_zero_iff.mp z).2
theorem gcd_le {a b : Int} (h : b ≠ 0) : Int.gcd a b ≤ b.natAbs := Nat.le_of_dvd (Int.natAbs_pos.mpr h) (Int.natAbs_dvd_natAbs.mpr (Int.gcd_dvd_right a b) |> fun z => by simpa using z)
theorem fdiv_neg_r (a g : Int) (h : 0 ≤ g) : a.fdiv (0 - g) = (-a) / g := by
  have := Int.neg_fdiv_neg (-a) g
  rw [Int.neg_neg] at this
  rw [Int.zero_sub, this, Int.fdiv_eq_ediv_of_nonneg _ h]
theorem frac_num {a b : Int} (h : b ≠ 0) : a.fdiv (if b < 0 then 0 - (Int.gcd a b : Int) else (Int.gcd a b : Int)) = (Rat.divInt a b).num := by
  rw [Rat.num_divInt, Int.gcd_comm b a]
  have g0 : (0 : Int) ≤ (Int.gcd a b : Int) := Int.natCast_nonneg _
  by_cases z : b < 0
  · rw [if_pos z, Int.sign_eq_neg_one_of_neg z, fdiv_neg_r _ _ g0]
    congr 1
    omega
  · rw [if_neg z, Int.sign_eq_one_of_pos (by omega), Int.fdiv_eq_ediv_of_nonneg _ g0, Int.one_mul]
theorem frac_den {a b : Int} (h : b ≠ 0) : b.fdiv (if b < 0 then 0 - (Int.gcd a b : Int) else (Int.gcd a b : Int)) = ((Rat.divInt a b).den : Int) := by
  rw [Rat.den_divInt, if_neg h, Int.gcd_comm b a]
  have g0 : (0 : Int) ≤ (Int.gcd a b : Int) := Int.natCast_nonneg _
  by_cases z : b < 0
  · rw [if_pos z, fdiv_neg_r _ _ g0, Int.natCast_ediv]
    congr 1
    omega
  · rw [if_neg z, Int.fdiv_eq_ediv_of_nonneg _ g0, Int.natCast_ediv]
    congr 1
    omega
theorem gcd_fmod (a b : Int) : Int.gcd b (a.fmod b) = Int.gcd a b := by
  rw [Int.fmod_def, Int.gcd_sub_mul_left_right]
  exact Int.gcd_comm _ _
theorem fmod_lt {a b : Int} (h : b ≠ 0) : (a.fmod b).natAbs < b.natAbs := by
  by_cases z : 0 < b
  · have h1 := Int.fmod_nonneg_of_pos a z
    have h2 := Int.fmod_lt_of_pos a z
    omega
  · have h0 := Int.neg_fmod_neg (-a) (-b)
    rw [Int.neg_neg, Int.neg_neg] at h0
    have h1 := Int.fmod_nonneg_of_pos (-a) (by omega : 0 < -b)
    have h2 := Int.fmod_lt_of_pos (-a) (by omega : 0 < -b)
    omega
theorem frac_pos {a b : Int} (h : 0 < b) : a / (Int.gcd a b : Int) = (Rat.divInt a b).num ∧ b / (Int.gcd a b : Int) = ((Rat.divInt a b).den : Int) := by
  have h1 := frac_num (a := a) (b := b) (by omega)
  have h2 := frac_den (a := a) (b := b) (by omega)
  have g0 : (0 : Int) ≤ (Int.gcd a b : Int) := Int.natCast_nonneg _
  rw [if_neg (by omega), Int.fdiv_eq_ediv_of_nonneg _ g0] at h1 h2
  exact ⟨h1, h2⟩
theorem log_lt {n k : Nat} (h : n < 2 ^ k) (hk : 0 < k) : n.log2 < k := PySem.Flt.log2_lt_of hk h
theorem log_mono {m n : Nat} (h : m ≤ n) : m.log2 ≤ n.log2 := by
  by_cases z : m = 0
  · rw [z]; simp
  · exact (Nat.le_log2 (by omega)).mpr (Nat.le_trans (Nat.log2_self_le z) h)
/-- products of small factors -/
theorem mul_s {i j : Int} (h : i.natAbs < 2 ^ 60 ∨ j.natAbs < 2 ^ 60) : PySem.IntMulOk i j := by
  rcases h with h | h
  · exact .of_left (PySem.intBits_le_64 (by omega) (by omega))
  · exact .of_right (PySem.intBits_le_64 (by omega) (by omega))
theorem mul_w {i j : Int} (a b : Nat) (ha : i.natAbs < 2 ^ a) (hb : j.natAbs < 2 ^ b) (h : a + b ≤ 999998) : PySem.IntMulOk i j :=
  (wide_mul (a := a + 1) (b := b + 1) (Nat.lt_of_lt_of_le ha (Nat.pow_le_pow_right (by decide) (by omega))) (Nat.lt_of_lt_of_le hb (Nat.pow_le_pow_right (by decide) (by omega))) (by omega) (by omega) (by omega)).ok
/-- a fraction of moderate size -/
def Sm (q : Rat) : Prop := q.num.natAbs < 2 ^ 4000 ∧ q.den < 2 ^ 4000
theorem before_iff (a b : Rat) : decide (a.num * (b.den : Int) < b.num * (a.den : Int)) = decide (a < b) := by
  rw [decide_eq_decide]
  exact (Rat.lt_iff a b).symm
theorem plus_eq (a b : Rat) : Rat.divInt (a.num * (b.den : Int) + b.num * (a.den : Int)) ((a.den : Int) * (b.den : Int)) = a + b := by
  have h := Rat.divInt_add_divInt a.num b.num (d₁ := (a.den : Int)) (d₂ := (b.den : Int)) (by have := a.den_nz; omega) (by have := b.den_nz; omega)
  rw [Rat.num_divInt_den, Rat.num_divInt_den] at h
  exact h.symm
theorem minus_eq (a b : Rat) : Rat.divInt (a.num * (b.den : Int) - b.num * (a.den : Int)) ((a.den : Int) * (b.den : Int)) = a - b := by
  have h := Rat.divInt_sub_divInt a.num b.num (d₁ := (a.den : Int)) (d₂ := (b.den : Int)) (by have := a.den_nz; omega) (by have := b.den_nz; omega)
  rw [Rat.num_divInt_den, Rat.num_divInt_den] at h
  exact h.symm
theorem times_eq (a b : Rat) : Rat.divInt (a.num * b.num) ((a.den : Int) * (b.den : Int)) = a * b := by
  have h := Rat.divInt_mul_divInt a.num b.num (d₁ := (a.den : Int)) (d₂ := (b.den : Int))
  rw [Rat.num_divInt_den, Rat.num_divInt_den] at h
  exact h.symm
theorem den_pos (a : Rat) : (0 : Int) < (a.den : Int) := by have := a.den_nz; omega
theorem den_mul_pos (a b : Rat) : (0 : Int) < (a.den : Int) * (b.den : Int) := Int.mul_pos (den_pos a) (den_pos b)
theorem den_mul_log {a b : Rat} (ha : a.den < 2 ^ 4000) (hb : b.den < 2 ^ 4000) : ((a.den : Int) * (b.den : Int)).natAbs.log2 < 9000 := by
  rw [Int.natAbs_mul, Int.natAbs_natCast, Int.natAbs_natCast]
  exact Nat.lt_of_lt_of_le (log_lt (k := 4000 + 4000) (by rw [Nat.pow_add]; exact Nat.mul_lt_mul'' ha hb) (by decide)) (by decide)
/-! what a fraction, a list of them is for == -/
theorem fr_shaped (q : Rat) : SeqAt.shaped (fr q) = true := by rfl
end WL

namespace WL
open PySem L2
/-- data of a depth below n -/
def Ds : Nat → PyData → Prop
  | 0, _ => False
  | _ + 1, .none => True
  | _ + 1, .bool _ => True
  | _ + 1, .int _ => True
  | _ + 1, .str s => SeqAt.shaped (.str s) = true
  | n + 1, .list ds => ds.length ≤ 100000 ∧ ∀ d ∈ ds, Ds n d
  | n + 1, .tuple ds => ds.length ≤ 100000 ∧ ∀ d ∈ ds, Ds n d
  | _ + 1, .dict _ => False
theorem Ds.mono : ∀ {n m : Nat} {d : PyData}, Ds n d → n ≤ m → Ds m d
  | 0, _, _, h, _ => h.elim
  | n + 1, 0, _, _, h => absurd h (by omega)
  | n + 1, m + 1, d, h, hl => by
    cases d with
    | list ds => exact ⟨h.1, fun d hd => Ds.mono (h.2 d hd) (by omega)⟩
    | tuple ds => exact ⟨h.1, fun d hd => Ds.mono (h.2 d hd) (by omega)⟩
    | dict _ => exact h.elim
    | str s => exact h
    | _ => trivial
theorem Ds_fr (n : Nat) (q : Rat) : Ds (n + 2) (fr q) := ⟨by simp, fun d hd => by
  simp at hd
  rcases hd with h | h <;> rw [h] <;> trivial⟩
theorem canAll {ds : List PyData} (h : ∀ d ∈ ds, d.canLay0 = true) : PyData.canLayAll0 ds = true := by
  induction ds with
  | nil => rfl
  | cons d ds ih => unfold PyData.canLayAll0; rw [h d List.mem_cons_self, ih fun x hx => h x (List.mem_cons_of_mem _ hx)]; rfl
theorem eqvAll {ds : List PyData} (h : ∀ d ∈ ds, PyData.eqv d d = true) : PyData.eqvAll ds ds = true := by
  induction ds with
  | nil => rfl
  | cons d ds ih => unfold PyData.eqvAll; rw [h d List.mem_cons_self, ih fun x hx => h x (List.mem_cons_of_mem _ hx)]; rfl
theorem Ds_can : ∀ {n : Nat} {d : PyData}, Ds n d → d.canLay0 = true ∧ PyData.eqv d d = true
  | 0, _, h => h.elim
  | n + 1, .none, _ => ⟨rfl, rfl⟩
  | n + 1, .bool b, _ => ⟨rfl, by simp [PyData.eqv]⟩
  | n + 1, .int b, _ => ⟨rfl, by simp [PyData.eqv]⟩
  | n + 1, .str s, h => ⟨SeqAt.canLay_of_shaped h, by simp [PyData.eqv]⟩
  | n + 1, .list ds, h => ⟨by unfold PyData.canLay0; exact canAll fun d hd => (Ds_can (h.2 d hd)).1, by unfold PyData.eqv; exact eqvAll fun d hd => (Ds_can (h.2 d hd)).2⟩
  | n + 1, .tuple ds, h => ⟨by unfold PyData.canLay0; exact canAll fun d hd => (Ds_can (h.2 d hd)).1, by unfold PyData.eqv; exact eqvAll fun d hd => (Ds_can (h.2 d hd)).2⟩
  | n + 1, .dict _, h => h.elim
theorem depthAll_le {ds : List PyData} {n : Nat} (h : ∀ d ∈ ds, d.depth ≤ n) : PyData.depthAll ds ≤ n := by
  induction ds with
  | nil => exact Nat.zero_le _
  | cons d ds ih => unfold PyData.depthAll; exact Nat.max_le.mpr ⟨h d List.mem_cons_self, ih fun x hx => h x (List.mem_cons_of_mem _ hx)⟩
theorem Ds_depth : ∀ {n : Nat} {d : PyData}, Ds n d → d.depth ≤ n
  | 0, _, h => h.elim
  | n + 1, .none, _ => Nat.zero_le _
  | n + 1, .bool b, _ => Nat.zero_le _
  | n + 1, .int b, _ => Nat.zero_le _
  | n + 1, .str s, h => Nat.zero_le _
  | n + 1, .list ds, h => by unfold PyData.depth; exact Nat.succ_le_succ (depthAll_le fun d hd => Ds_depth (h.2 d hd))
  | n + 1, .tuple ds, h => by unfold PyData.depth; exact Nat.succ_le_succ (depthAll_le fun d hd => Ds_depth (h.2 d hd))
  | n + 1, .dict _, h => h.elim
theorem Ds_shaped {n : Nat} {d : PyData} (h : Ds n d) (hn : n ≤ 64) : SeqAt.shaped d = true := by
  unfold SeqAt.shaped
  rw [(Ds_can h).1, decide_eq_true (Nat.le_trans (Ds_depth h) hn)]
  rfl
theorem Ds_eqv {n : Nat} {d : PyData} (h : Ds n d) : PyData.eqv d d = true := (Ds_can h).2
def nat_ (n : Nat) : PyData := .int n
theorem Ds_nat (n : Nat) (k : Nat) : Ds (n + 1) (nat_ k) := trivial
theorem Ds_map {α : Type} {n : Nat} {f : α → PyData} {l : List α} (h : ∀ x ∈ l, Ds n (f x)) : ∀ d ∈ l.map f, Ds n d := fun d hd => by
  obtain ⟨x, hx, rfl⟩ := List.mem_map.mp hd
  exact h x hx
theorem atI_get' {α : Type} {xs : List α} {k : Nat} (h : k < xs.length) : atI xs (k : Int) = some xs[k] := atI_nat (List.getElem?_eq_getElem h)
theorem atI_map {α β : Type} {xs : List α} {f : α → β} {k : Int} {x : α} (h : atI xs k = some x) : atI (xs.map f) k = some (f x) := by
  unfold atI at h ⊢
  rw [List.length_map]
  cases z : ixN xs.length k with
  | none => rw [z] at h; cases h
  | some j =>
    rw [z] at h
    show (xs.map f)[j]? = _
    rw [List.getElem?_map, show xs[j]? = some x from h]
    rfl
theorem range_map_get {α : Type} (f : Nat → α) {c i : Nat} (h : i < c) : ((List.range c).map f)[i]? = some (f i) := by rw [List.getElem?_map, List.getElem?_range h]; rfl
theorem range_map_set {α : Type} (f : Nat → α) (c i : Nat) (v : α) : ((List.range c).map f).set i v = (List.range c).map fun j => if j = i then v else f j := by
  refine List.ext_getElem? fun j => ?_
  by_cases z : i = j
  · subst z
    by_cases h : i < c
    · rw [List.getElem?_set_self (by simpa using h), range_map_get _ h, if_pos rfl]
    · rw [List.getElem?_eq_none (by simp; omega), List.getElem?_eq_none (by simp; omega)]
  · rw [List.getElem?_set_ne z, List.getElem?_map, List.getElem?_map]
    by_cases h : j < c
    · rw [List.getElem?_range h]
      show some (f j) = some (if j = i then v else f j)
      rw [if_neg fun y : j = i => z y.symm]
    · rw [List.getElem?_eq_none (by simp; omega)]; rfl
theorem range_map_congr {α : Type} {f g : Nat → α} {c : Nat} (h : ∀ i, i < c → f i = g i) : (List.range c).map f = (List.range c).map g := List.map_congr_left fun i hi => h i (List.mem_range.mp hi)
theorem ixN_nat {n j : Nat} {k : Int} (e : k = (j : Int)) (h : j < n) : ixN n k = some j := by
  unfold ixN
  rw [e, if_pos (by omega), if_pos (by omega), Int.toNat_natCast]
/-- the sum of f over 0 .. n - 1 -/
def upto (f : Nat → Int) : Nat → Int
  | 0 => 0
  | n + 1 => upto f n + f n
theorem upto_nn {f : Nat → Int} (h : ∀ i, 0 ≤ f i) : ∀ n, 0 ≤ upto f n
  | 0 => Int.le_refl 0
  | n + 1 => by have := upto_nn h n; have := h n; show 0 ≤ upto f n + f n; omega
theorem upto_le {f : Nat → Int} {b : Int} (h : ∀ i, f i ≤ b) : ∀ n : Nat, upto f n ≤ n * b
  | 0 => by simp [upto]
  | n + 1 => by have := upto_le h n; have := h n; show upto f n + f n ≤ ((n + 1 : Nat) : Int) * b; rw [Int.natCast_add, Int.add_mul]; omega
theorem upto_add (f g : Nat → Int) : ∀ n, upto (fun i => f i + g i) n = upto f n + upto g n
  | 0 => rfl
  | n + 1 => by show upto _ n + (f n + g n) = (upto f n + f n) + (upto g n + g n); rw [upto_add f g n]; omega
theorem upto_congr {f g : Nat → Int} : ∀ {n : Nat}, (∀ i, i < n → f i = g i) → upto f n = upto g n
  | 0, _ => rfl
  | n + 1, h => by show upto f n + f n = upto g n + g n; rw [upto_congr fun i hi => h i (by omega), h n (by omega)]
theorem upto_zero : ∀ n : Nat, upto (fun _ => 0) n = 0
  | 0 => rfl
  | n + 1 => by show upto _ n + 0 = 0; rw [upto_zero n]; rfl
theorem upto_one {c m : Nat} (w : Int) (h : m < c) : upto (fun t => if m = t then w else 0) c = w := by
  induction c with
  | zero => omega
  | succ c ih =>
    show upto _ c + (if m = c then w else 0) = w
    by_cases z : m = c
    · rw [if_pos z, upto_congr (g := fun _ => 0) (fun i hi => if_neg (by omega)), upto_zero, Int.zero_add]
    · rw [if_neg z, ih (by omega), Int.add_zero]
/-- the sums up to each place -/
def prefs (acc : Rat) : List Rat → List Rat
  | [] => []
  | q :: qs => (acc + q) :: prefs (acc + q) qs
theorem prefs_len : ∀ (l : List Rat) (a : Rat), (prefs a l).length = l.length
  | [], _ => rfl
  | _ :: l, a => congrArg (· + 1) (prefs_len l _)
theorem prefs_app : ∀ (l m : List Rat) (a : Rat), prefs a (l ++ m) = prefs a l ++ prefs (l.foldl (· + ·) a) m
  | [], _, _ => rfl
  | q :: l, m, a => congrArg (_ :: ·) (prefs_app l m (a + q))
theorem take_succ_get {α : Type} {l : List α} {i : Nat} {x : α} (h : l[i]? = some x) : l.take (i + 1) = l.take i ++ [x] := by rw [List.take_succ, h]; rfl
theorem fr_zero : fr 0 = .tuple [.int 0, .int 1] := rfl
theorem fr_one : fr 1 = .tuple [.int 1, .int 1] := rfl
def shareAt (sh : List Rat) (t : Nat) : Rat := sh.getD t 0
theorem perm_sum {l m : List Int} (h : l.Perm m) : l.sum = m.sum := by
  induction h with
  | nil => rfl
  | cons x _ ih => rw [List.sum_cons, List.sum_cons, ih]
  | swap x y l => simp only [List.sum_cons]; omega
  | trans _ _ a b => exact a.trans b
/-- the sum over an order -/
theorem sum_perm {f : Nat → Int} {l : List Nat} {c : Nat} (h : l.Perm (List.range c)) : (l.map f).sum = upto f c := by
  rw [perm_sum (h.map f)]
  clear h
  induction c with
  | zero => rfl
  | succ c ih => rw [List.range_succ, List.map_append, List.sum_append, ih]; simp [upto]
theorem take_sum_le {l : List Int} (h : ∀ x ∈ l, 0 ≤ x) (i : Nat) : 0 ≤ (l.take i).sum ∧ (l.take i).sum ≤ l.sum := by
  have nn : ∀ m : List Int, (∀ x ∈ m, 0 ≤ x) → 0 ≤ m.sum := fun m => by
    induction m with
    | nil => intro _; exact Int.le_refl 0
    | cons x m ih => intro h; rw [List.sum_cons]; have := h x List.mem_cons_self; have := ih fun y hy => h y (List.mem_cons_of_mem _ hy); omega
  have e : l.sum = (l.take i).sum + (l.drop i).sum := by rw [← List.sum_append, List.take_append_drop]
  have h1 := nn (l.take i) fun x hx => h x (List.mem_of_mem_take hx)
  have h2 := nn (l.drop i) fun x hx => h x (List.mem_of_mem_drop hx)
  omega
/-- fractions over one bottom -/
theorem divInt_add_same (a b : Int) {d : Int} (h : d ≠ 0) : Rat.divInt a d + Rat.divInt b d = Rat.divInt (a + b) d := by
  rw [Rat.divInt_add_divInt _ _ h h, Rat.divInt_eq_divInt_iff (by simp [h]) h]
  rw [← Int.add_mul]
  exact Int.mul_assoc _ _ _
theorem divInt_zero' (d : Int) : Rat.divInt 0 d = 0 := by simp
theorem foldl_divInt {d : Int} (h : d ≠ 0) : ∀ (l : List Int) (a : Int), (l.map fun x => Rat.divInt x d).foldl (· + ·) (Rat.divInt a d) = Rat.divInt (a + l.sum) d
  | [], a => by simp
  | x :: l, a => by
    show (l.map fun x => Rat.divInt x d).foldl (· + ·) (Rat.divInt a d + Rat.divInt x d) = _
    rw [divInt_add_same _ _ h, foldl_divInt h l (a + x), List.sum_cons, Int.add_assoc]
theorem Sm_divInt {a d : Int} (h0 : 0 ≤ a) (h1 : a ≤ d) (hd : 0 < d) (hl : d < 2 ^ 3999) : Sm (Rat.divInt a d) := by
  obtain ⟨e1, e2⟩ := frac_pos (a := a) hd
  have g := gcd_pos (a := a) (b := d) (by omega)
  have h3 : (Rat.divInt a d).num ≤ a := by
    rw [← e1]
    exact Int.ediv_le_self _ h0
  have h4 : 0 ≤ (Rat.divInt a d).num := by rw [← e1]; exact Int.ediv_nonneg h0 (by omega)
  have h5 : ((Rat.divInt a d).den : Int) ≤ d := by rw [← e2]; exact Int.ediv_le_self _ (by omega)
  have h6 : (2 : Int) ^ 3999 < 2 ^ 4000 := by decide +kernel
  constructor <;> omega
/-- the sums of an order, one after another -/
def psum (acc : Int) : List Int → List Int
  | [] => []
  | x :: l => (acc + x) :: psum (acc + x) l
theorem prefs_divInt {d : Int} (h : d ≠ 0) : ∀ (l : List Int) (a : Int), prefs (Rat.divInt a d) (l.map fun x => Rat.divInt x d) = (psum a l).map fun x => Rat.divInt x d
  | [], _ => rfl
  | x :: l, a => by
    show (Rat.divInt a d + Rat.divInt x d) :: prefs (Rat.divInt a d + Rat.divInt x d) _ = _
    rw [divInt_add_same _ _ h, prefs_divInt h l (a + x)]
    rfl
theorem psum_app : ∀ (l m : List Int) (a : Int), psum a (l ++ m) = psum a l ++ psum (a + l.sum) m
  | [], m, a => by simp [psum]
  | x :: l, m, a => by
    show (a + x) :: psum (a + x) (l ++ m) = _
    rw [psum_app l m (a + x), List.sum_cons, Int.add_assoc]
    rfl
theorem psum_len : ∀ (l : List Int) (a : Int), (psum a l).length = l.length
  | [], _ => rfl
  | _ :: l, _ => congrArg (· + 1) (psum_len l _)
theorem psum_last : ∀ (l : List Int) (a : Int), l ≠ [] → ∃ m, psum a l = m ++ [a + l.sum]
  | [], _, h => absurd rfl h
  | [x], a, _ => ⟨[], by simp [psum]⟩
  | x :: y :: l, a, _ => by
    obtain ⟨m, hm⟩ := psum_last (y :: l) (a + x) (by simp)
    refine ⟨(a + x) :: m, ?_⟩
    show (a + x) :: psum (a + x) (y :: l) = _
    rw [hm, List.sum_cons (a := x), Int.add_assoc]
    rfl
theorem erase_map {α β : Type} (f : α → β) : ∀ (l : List α) (j : Nat), (l.map f).eraseIdx j = (l.eraseIdx j).map f
  | [], _ => rfl
  | _ :: _, 0 => rfl
  | a :: l, j + 1 => congrArg (f a :: ·) (erase_map f l j)
end WL

namespace WL
open PySem L2
section
variable {K : PySem.W.Frag} {N : Addr → Prop} {ρ : List Sl} {σ : St} {F H F' H' F0 H0 : Hp} {ta tb te tc : TE} {tt tu : TT} {P : Post} {t : TS}
/-- a.append(b.pop(k)) -/
theorem s_appPop {i j : Nat} {ds es : List PyData} {k : Int} {m : Nat} {d : PyData} (hi : ρ[i]? = some (.ow ds)) (hj : ρ[j]? = some (.ow es)) (hij : i ≠ j) (h : XE K te ρ (.int k)) (hk : -(2 ^ 63) ≤ k ∧ k < 2 ^ 63) (hm : seqIndex? k es.length = some m) (hd : es[m]? = some d) (hz : ds.length ≤ 100000)
    (kk : P.nx ((ρ.set j (.ow (es.eraseIdx m))).set i (.ow (ds ++ [d])))) : WS K (tDrop (tBM K "list" rAppend (tVar i) (tCons (tBM K "list" rPopAt (tVar j) (tCons te tNil)) tNil))) ρ P := fun F0 H0 σ F H D e f => by
  obtain ⟨l, xs, el, hl, dl, fl, nl, _⟩ := e.mut hi
  obtain ⟨q, zs, eq, hq, _⟩ := e.mut hj
  refine ⟨_, el, .inl ⟨rfl, xs, SqL.of hl⟩, _, eq, .inl ⟨rfl, zs, SqL.of hq⟩, h.e e.en fun y F1 H1 g p => ?_⟩
  obtain ⟨q1, zs1, eq1, hq1, dq1, _, _, k1⟩ := (e.go g).mut hj
  rw [eq] at eq1
  cases eq1
  obtain ⟨v, hv, pv⟩ := dpa_get dq1 hd
  refine ⟨q, zs1, k, m, v, rfl, by rw [dp_int p], hq1, hk.1, hk.2, by rw [dpa_len dq1]; exact hm, hv, ?_⟩
  have e2 := k1 _ _ (dpa_erase m dq1)
  obtain ⟨l2, xs2, el2, hl2, dl2, _, _, k2⟩ := e2.mut (i := i) (by rw [List.getElem?_set_ne hij.symm]; exact hi)
  rw [el] at el2
  cases el2
  exact ⟨l, xs2, v, rfl, rfl, hl2, by rw [dpa_len dl2]; exact Nat.lt_of_le_of_lt hz (by decide), f.nx _ _ _ _ kk (k2 _ _ (dpa_app dl2 (dpa_one pv)))⟩
/-- x.remove(y) and the like come later -/
theorem seqIndex_nat {n j : Nat} {k : Int} (e : k = (j : Int)) (h : j < n) : seqIndex? k n = some j := (ixN_seq (ixN_nat e h)).1
end
section
variable {X : Cx} {K : PySem.W.Frag}
/-! the rules with K itself: within a comprehension's block nothing may hang on the block -/
theorem ix_seqK (hK : X.K = K := by rfl) : IxR X (rIx K) := by subst hK; exact ix_seq
theorem op_addK (hK : X.K = K := by rfl) : OpR X (binaryOp .Add) (rAddX K) := by subst hK; exact op_addX
theorem op_eqK (hu : X.A.units + 64 < cLine) (hK : X.K = K := by rfl) : OpR X (compareOp .Eq) (rEqD K) := by subst hK; exact op_eqD hu
theorem op_neK (hu : X.A.units + 64 < cLine) (hK : X.K = K := by rfl) : OpR X (compareOp .NotEq) (rNeD K) := by subst hK; exact op_neD hu
theorem op_inK (hK : X.K = K := by rfl) : OpR X (compareOp .In) (rIn K false) := by subst hK; exact op_in_seq
theorem op_notInK (hK : X.K = K := by rfl) : OpR X (compareOp .NotIn) (rIn K true) := by subst hK; exact op_notIn_seq
theorem sl_seqK (hK : X.K = K := by rfl) : SlR X (rSlX K) := by subst hK; exact sl_seq
def rLenX (K : PySem.W.Frag) : List V → Hp → VK → Prop := fun xs H Q => ∃ p ys, xs = [V.ref p] ∧ (SqL K H p ys ∨ SqT K H p ys) ∧ Q (.int ys.length) H
def rListX (K : PySem.W.Frag) : List V → Hp → VK → Prop := fun xs H Q => ∃ p ys, xs = [V.ref p] ∧ (SqL K H p ys ∨ SqT K H p ys) ∧ ∀ l, H l = none → Q (.ref l) (upd H l (.lst ys))
theorem len_K (hK : X.K = K := by rfl) : CallR X (.builtin "len") (rLenX K) := by subst hK; exact call_len_seq
theorem list_K (hK : X.K = K := by rfl) : CallR X (.type "list") (rListX K) := by subst hK; exact call_list_of
theorem tuple_K (hK : X.K = K := by rfl) : CallR X (.type "tuple") (rTupleOf K) := by subst hK; exact call_tuple_of
theorem isi_K (hK : X.K = K := by rfl) : CallR X (.builtin "isinstance") (rIsi K) := by subst hK; exact call_isi
theorem sum_K (hc : X.calm = true) (hK : X.K = K := by rfl) : CallR X (.builtin "sum") (rSum K) := by subst hK; exact cr_sum hc
theorem max_K (hc : X.calm = true) (hK : X.K = K := by rfl) : CallR X (.builtin "max") (rMax K) := by subst hK; exact cr_max hc
theorem min_K (hc : X.calm = true) (hK : X.K = K := by rfl) : CallR X (.builtin "min") (rMin K) := by subst hK; exact cr_min hc
theorem all_K (hc : X.calm = true) (hK : X.K = K := by rfl) : CallR X (.builtin "all") (rAll K) := by subst hK; exact cr_all hc
theorem pi_seqK {tg l : Expr} {tl : TE} (hl : PE X l tl) (hK : X.K = K := by rfl) : PI X tg l (iSeq K tl) := by subst hK; exact pi_seq hl
theorem pg_tupK {es : List Expr} {k : Nat} {t : TGs} {n : Nat} {pos : Pos} (hc : X.calm = true) (h : PGs X es t)
    (hn : (assignEach es X.env).length = n := by rfl) (hst : (assignEach es X.env).findIdx? (·.1) = none := by rfl) (hK : X.K = K := by rfl) : PG X (.Tuple es k pos) (gTup K n t) := by subst hK; exact pg_tup hc h hn hst
end
end WL

namespace WL
open PySem L2
/-! ### tables over one bottom -/
structure Tab (c : Nat) (d : Int) (M : Nat → Nat → Int) : Prop where
  pos : 0 < d
  big : d < 2 ^ 3999
  nn : ∀ p t, p < c → t < c → 0 ≤ M p t
  row : ∀ p, p < c → upto (M p) c = d
  col : ∀ t, t < c → upto (fun p => M p t) c = d
def rowQ (c : Nat) (d : Int) (M : Nat → Nat → Int) (p : Nat) : List Rat := (List.range c).map fun t => Rat.divInt (M p t) d
def tabT (c : Nat) (d : Int) (M : Nat → Nat → Int) : List (List Rat) := (List.range c).map (rowQ c d M)
def frT (r : List Rat) : PyData := .tuple (r.map fr)
def rowT (r : List Nat) : PyData := .tuple (r.map nat_)
structure Wi (W : List (List Nat)) (c : Nat) : Prop where
  len : W.length = c
  perm : ∀ r ∈ W, r.Perm (List.range c)
theorem upto_ge {f : Nat → Int} : ∀ {n i : Nat}, (∀ i, i < n → 0 ≤ f i) → i < n → f i ≤ upto f n
  | n + 1, i, h, hi => by
    have nn : ∀ m, m ≤ n → 0 ≤ upto f m := fun m => by
      induction m with
      | zero => intro _; exact Int.le_refl 0
      | succ m ih => intro hm; have := ih (by omega); have := h m (by omega); show 0 ≤ upto f m + f m; omega
    show f i ≤ upto f n + f n
    by_cases z : i = n
    · rw [z]; have := nn n (Nat.le_refl _); omega
    · have := upto_ge (f := f) (n := n) (i := i) (fun j hj => h j (by omega)) (by omega); have := h n (by omega); omega
theorem shareAt_row {c : Nat} {d : Int} {M : Nat → Nat → Int} {p t : Nat} (ht : t < c) : shareAt (rowQ c d M p) t = Rat.divInt (M p t) d := by
  unfold shareAt rowQ
  rw [List.getD_eq_getElem?_getD, range_map_get _ ht]
  rfl
theorem divInt_zero_ (d : Int) : Rat.divInt 0 d = 0 := by simp
section
variable {c : Nat} {d : Int} {M : Nat → Nat → Int} {w : List Nat} {p : Nat}
theorem Tab.le (h : Tab c d M) {p t : Nat} (hp : p < c) (ht : t < c) : M p t ≤ d := by
  rw [← h.row p hp]
  exact upto_ge (fun i hi => h.nn p i hp hi) ht
theorem Tab.sm (h : Tab c d M) {p : Nat} (hp : p < c) : ∀ q ∈ rowQ c d M p, Sm q := fun q hq => by
  obtain ⟨t, ht, rfl⟩ := List.mem_map.mp hq
  have ht' := List.mem_range.mp ht
  exact Sm_divInt (h.nn _ _ hp ht') (h.le hp ht') h.pos h.big
theorem pre_eq (h : d ≠ 0) (hw : ∀ t ∈ w, t < c) : (w.map (shareAt (rowQ c d M p))).foldl (· + ·) 0 = Rat.divInt (w.map (M p)).sum d := by
  have e : w.map (shareAt (rowQ c d M p)) = (w.map (M p)).map fun x => Rat.divInt x d := by
    rw [List.map_map]
    exact List.map_congr_left fun t ht => shareAt_row (hw t ht)
  have := foldl_divInt h (w.map (M p)) 0
  rw [divInt_zero_, Int.zero_add] at this
  rw [e]
  exact this
theorem prefs_eq (h : d ≠ 0) (hw : ∀ t ∈ w, t < c) : prefs 0 (w.map (shareAt (rowQ c d M p))) = (psum 0 (w.map (M p))).map fun x => Rat.divInt x d := by
  have e : w.map (shareAt (rowQ c d M p)) = (w.map (M p)).map fun x => Rat.divInt x d := by
    rw [List.map_map]
    exact List.map_congr_left fun t ht => shareAt_row (hw t ht)
  rw [e, ← divInt_zero_ d]
  exact prefs_divInt h _ 0
theorem psum_get : ∀ (l : List Int) (a : Int) (i : Nat), i < l.length → (psum a l)[i]? = some (a + (l.take (i + 1)).sum)
  | [], _, i, h => by simp at h
  | x :: l, a, 0, _ => by simp [psum]
  | x :: l, a, i + 1, h => by
    show (psum (a + x) l)[i]? = _
    rw [psum_get l (a + x) i (by simpa using h), List.take_succ_cons, List.sum_cons, Int.add_assoc]
/-- how much of what stands up to a place -/
def preI (M : Nat → Nat → Int) (w : List Nat) (p k : Nat) : Int := ((w.take k).map (M p)).sum
theorem Tab.pre (h : Tab c d M) (hp : p < c) (hw : w.Perm (List.range c)) (i : Nat) : 0 ≤ preI M w p i ∧ preI M w p i ≤ d := by
  have nn : ∀ x ∈ w.map (M p), 0 ≤ x := fun x hx => by
    obtain ⟨t, ht, rfl⟩ := List.mem_map.mp hx
    exact h.nn p t hp (List.mem_range.mp (hw.mem_iff.mp ht))
  have := take_sum_le nn i
  rw [sum_perm hw, h.row p hp] at this
  unfold preI
  rw [List.map_take]
  exact this
theorem Tab.smp (h : Tab c d M) (hp : p < c) (hw : w.Perm (List.range c)) (i : Nat) : Sm (((w.take i).map (shareAt (rowQ c d M p))).foldl (· + ·) 0) := by
  rw [pre_eq (by have := h.pos; omega) (fun t ht => List.mem_range.mp (hw.mem_iff.mp (List.mem_of_mem_take ht)))]
  have := h.pre hp hw i
  exact Sm_divInt this.1 this.2 h.pos h.big
/-- the k-th prefix -/
theorem Tab.prefs_get (h : Tab c d M) (hw : w.Perm (List.range c)) {k : Nat} (hk : k < c) : (prefs 0 (w.map (shareAt (rowQ c d M p))))[k]? = some (Rat.divInt (preI M w p (k + 1)) d) := by
  have hl : w.length = c := by rw [hw.length_eq, List.length_range]
  rw [prefs_eq (by have := h.pos; omega) (fun t ht => List.mem_range.mp (hw.mem_iff.mp ht)), List.getElem?_map, psum_get _ _ _ (by rw [List.length_map, hl]; exact hk), Int.zero_add]
  unfold preI
  rw [List.map_take]
  rfl
theorem divInt_lt {a b d : Int} (h : 0 < d) : Rat.divInt a d < Rat.divInt b d ↔ a < b := by
  have e : ∀ x : Int, Rat.divInt x d = (x : Rat) / (d : Rat) := fun x => Rat.divInt_eq_div x d
  have hd : (0 : Rat) < (d : Rat) := Rat.intCast_pos.mpr h
  rw [e, e, Rat.div_lt_iff hd, Rat.div_mul_cancel (by grind), Rat.intCast_lt_intCast]
end
/-! ### the first of some -/
def fst_ {α : Type} (f : Nat → Option α) : Nat → Option α
  | 0 => none
  | n + 1 => match fst_ f n with
    | some x => some x
    | none => f n
theorem fst_mono {α : Type} {f : Nat → Option α} {x : α} : ∀ {n i : Nat}, fst_ f i = some x → i ≤ n → fst_ f n = some x
  | 0, i, h, hi => by have : i = 0 := by omega
                      rw [this] at h; exact h
  | n + 1, i, h, hi => by
    by_cases z : i = n + 1
    · rw [z] at h; exact h
    · have := fst_mono (n := n) h (by omega)
      unfold fst_
      rw [this]
theorem fst_step {α : Type} {f : Nat → Option α} {i : Nat} (h : fst_ f i = none) : fst_ f (i + 1) = f i := by
  show (match fst_ f i with | some x => some x | none => f i) = f i
  rw [h]
/-- the first person who would rather have another one's shares, at some place -/
def rthK (lt : Nat → Nat → Nat → Bool) (p o : Nat) (k : Nat) : Option (Nat × Nat × Nat) := if lt p o k then some (p, o, k) else none
def rthO (lt : Nat → Nat → Nat → Bool) (c p o : Nat) : Option (Nat × Nat × Nat) := fst_ (rthK lt p o) c
def rthP (lt : Nat → Nat → Nat → Bool) (c p : Nat) : Option (Nat × Nat × Nat) := fst_ (rthO lt c p) c
def rth (lt : Nat → Nat → Nat → Bool) (c : Nat) : Option (Nat × Nat × Nat) := fst_ (rthP lt c) c
def rthT : Option (Nat × Nat × Nat) → PyData
  | none => .none
  | some (p, o, k) => .tuple [nat_ p, nat_ o, nat_ k]
theorem rth_found {lt : Nat → Nat → Nat → Bool} {c p o k : Nat} (hp : p < c) (ho : o < c) (hk : k < c) (h1 : fst_ (rthP lt c) p = none) (h2 : fst_ (rthO lt c p) o = none) (h3 : fst_ (rthK lt p o) k = none) (h : lt p o k = true) : rth lt c = some (p, o, k) := by
  have a3 : fst_ (rthK lt p o) (k + 1) = some (p, o, k) := by rw [fst_step h3]; unfold rthK; rw [if_pos h]
  have b3 : rthO lt c p o = some (p, o, k) := fst_mono a3 hk
  have a2 : fst_ (rthO lt c p) (o + 1) = some (p, o, k) := by rw [fst_step h2]; exact b3
  have b2 : rthP lt c p = some (p, o, k) := fst_mono a2 ho
  have a1 : fst_ (rthP lt c) (p + 1) = some (p, o, k) := by rw [fst_step h1]; exact b2
  exact fst_mono a1 hp
def ltM (W : List (List Nat)) (M : Nat → Nat → Int) (p o k : Nat) : Bool := decide (preI M (W.getD p []) p (k + 1) < preI M (W.getD p []) o (k + 1))
end WL

namespace WL
open PySem L2
/-! ### exceptions that are kept behind their suite -/
section
variable {X Y : Cx} {pins qins : List (Addr × Obj)} {σ : L2.St} {H : Hp} {s : Shared} {D : Ends} {f : Flow}
/-- an object that stands there already is tracked from now on -/
theorem inv_track {a : Addr} {o : HO} {oe : Obj} {vs : Array Value} (I : Inv X pins σ H s) (here : s.heap.get? a = some oe) (record : oe.data = .fields vs) (free : H a = none) (young : X.s_0.heap.get? a = none) (notLocals : a ≠ X.env.locals)
    (notPinned : ∀ p, p ∈ X.pn ++ pins → p.1 ≠ a) (new : ObjOk X.prog X.w (upd H a o) s.heap a o) : Inv X pins σ (upd H a o) s where
  ok := I.ok
  os := I.os
  bare := I.bare
  base := {
    keep := I.base.keep
    slot := I.base.slot
    there := I.base.there
    free := fun b u old unk out => (upd_ne fun same => by rw [same, young] at old; cases old).trans (I.base.free b u old unk out)
    tups := fun b xs was => (upd_ne (ne_of_none (I.base.tups b xs was) free)).trans (I.base.tups b xs was)
    frzs := fun b w u was => (upd_ne (ne_of_none (I.base.frzs b w u was) free)).trans (I.base.frzs b w u was)
    tbls := fun b ps was => (I.base.tbls b ps was).imp fun m now => (upd_ne (ne_of_none now free)).trans now }
  loc := I.loc
  cell := I.cell
  free := (upd_ne notLocals.symm).trans I.free
  freeC := fun x c at_ => (upd_ne fun same => by
    obtain ⟨v, o', there, isCell⟩ := I.cell x c at_
    rw [same, here] at there
    cases there
    rw [record] at isCell
    cases isCell).trans (I.freeC x c at_)
  pin := fun p mem => ⟨(I.pin p mem).1, (upd_ne (notPinned p mem)).trans (I.pin p mem).2.1, (I.pin p mem).2.2⟩
  hok := fun b u at_ => by
    by_cases same : b = a
    · cases same
      cases (upd_same).symm.trans at_
      exact new
    · have old : H b = some u := (upd_ne same).symm.trans at_
      exact (I.hok b u old).stay (fun _ _ _ k => k) (fun c k => (upd_ne (ne_of_none k free)).trans k) fun c _ k => (upd_ne (ne_of_none k free)).trans k
  len := I.len
/-- into a suite without a pin of its own, and out of it -/
theorem inv_in (I : Inv X pins σ H s) (a : Addr) : Inv (X.suite a (X.pn ++ pins)) [] σ H s where
  ok := I.ok.suite _ _
  os := I.os
  bare := I.bare
  base := I.base
  loc := I.loc
  cell := I.cell
  free := I.free
  freeC := I.freeC
  pin := fun p mem => I.pin p (by simpa using mem)
  hok := I.hok
  len := I.len
theorem inv_out {a : Addr} (ok : X.Ok) (I : Inv (X.suite a (X.pn ++ pins)) qins σ H s) : Inv X pins σ H s where
  ok := ok
  os := I.os
  bare := I.bare
  base := I.base
  loc := I.loc
  cell := I.cell
  free := I.free
  freeC := I.freeC
  pin := fun p mem => I.pin p (List.mem_append_left _ mem)
  hok := I.hok
  len := I.len
theorem sp_move (k : ∀ τ G, Inv X pins τ G s → Inv Y qins τ G s) (h : SP X pins D f s) : SP Y qins D f s := by
  cases f with
  | ret u => exact let ⟨v, τ, G, I, r, q⟩ := h; ⟨v, τ, G, k τ G I, r, q⟩
  | next => exact let ⟨τ, G, I, q⟩ := h; ⟨τ, G, k τ G I, q⟩
  | brk => exact let ⟨τ, G, I, q⟩ := h; ⟨τ, G, k τ G I, q⟩
  | cont => exact let ⟨τ, G, I, q⟩ := h; ⟨τ, G, k τ G I, q⟩
/-- the ends of a suite: the clause's name goes -/
def unD (i : Nat) (D : Ends) : Ends := { nx := fun τ => D.nx (τ.set i none), rt := D.rt, bk := fun τ => D.bk (τ.set i none), ct := fun τ => D.ct (τ.set i none) }
theorem sp_unname {M : Model} {A : Around} {E : Value → Shared → Prop} {i : Nat} {n : Str} {pos : Pos} (nd : X.N.Nodup) (hi : X.N[i]? = some n) (hl : X.env.kindOf n = some .local) (h : SP X pins (unD i D) f s) :
    wpAny M A (do bindName X.env n .none; unbindBehindTheSuite X.env n pos) (fun _ s' => SP X pins D f s') E s := by
  cases f with
  | ret u => exact let ⟨v, τ, G, I, r, q⟩ := h; gone_ok I nd hi hl fun s' J => ⟨v, _, G, J, r, q⟩
  | next => exact let ⟨τ, G, I, q⟩ := h; gone_ok I nd hi hl fun s' J => ⟨_, G, J, q⟩
  | brk => exact let ⟨τ, G, I, q⟩ := h; gone_ok I nd hi hl fun s' J => ⟨_, G, J, q⟩
  | cont => exact let ⟨τ, G, I, q⟩ := h; gone_ok I nd hi hl fun s' J => ⟨_, G, J, q⟩
end
/-- what the clause 'except x as n' wishes: the exception is of an own class that the clause names; the suite sees it tracked -/
def wKeep (K : PySem.W.Frag) (c : Value) (i : Nat) (ts : TS) (D : Ends) : WX := fun cls d σ H =>
  PySem.W.exmOne K cls c = some true ∧ d = none ∧ ∃ C, cls = .ref C ∧ ∀ a, H a = none → ts (unD i D) (σ.set i (some (.ref a))) (upd H a (EO C a))
theorem ps_try_keep {X : Cx} {x n : Str} {c : Value} {i : Nat} {body suite : List Stmt} {b0 : Stmt} {np pos pos' : Pos} {tb : WX → TS} {ts : TS} (hstack : X.stack = X.env :: X.outer) (hex : X.ex = []) (hframe : X.env.frame = some X.env.locals) (nd : X.N.Nodup) (hi : X.N[i]? = some n)
    (hl : X.env.kindOf n = some .local) (hc : Names X x c)
    (hbody : ∀ (W : WX) (pn : List (Addr × Obj)) (xe : Value → Shared → Prop), Takes (X.tr pn xe) W → PassesOwn (model X.prog X.w) X.A X.env xe → PSs (X.tr pn xe) body (tb W))
    (hsuite : ∀ (a : Addr) (pn : List (Addr × Obj)), PSs (X.suite a pn) (b0 :: suite) ts) :
    PS X (.Try body [.ExceptHandler (some (.Name x np)) (some n) (b0 :: suite) pos'] [] [] pos) (fun D σ H => tb (wKeep X.K c i ts D) D σ H) := by
  constructor
  intro pins s σ H D I ask
  have ok := I.ok
  have frames : X.A.frames = some (X.env :: X.outer) := ok.frames.trans (congrArg some hstack)
  refine wpAny_Try_except (wpAny_mono ((hbody (wKeep X.K c i ts D) (X.pn ++ pins) (fun e s1 => wpAny (model X.prog X.w) X.A (noteFrame e X.env) (fun _ s2 => wpAny (model X.prog X.w) X.A (setFlight e none) (fun _ s3 =>
    wpAny (model X.prog X.w) X.A (handleBy e X.env [.ExceptHandler (some (.Name x np)) (some n) (b0 :: suite) pos']) (SP X pins D) X.xe s3) X.xe s2) X.xe s1) ?_ PassesOwn.looking).run [] s σ H D (I.toTry _) ask) ?_ fun _ _ raised => raised)
  · rintro u sE ⟨a, B, sI, pins', τ, G, cls, d, rfl, inner, nb, up, sky, free, os, bare, isOne, rfl, C, rfl, run⟩
    have J : Inv X pins τ G sI := inner.ofTry ok
    rw [show (X.tr (X.pn ++ pins) _).stack = X.env :: X.outer from hstack] at sky
    have noB : B.get? a = none := by obtain q | q | q := sky <;> exact q.2.1
    refine Sky.land Zc.steady frames hframe sky fun h1 fly1 up1 => ?_
    have J1 := J.landed (s' := { sE with heap := h1 }) nb fly1.1 (up.trans up1) os bare
    obtain ⟨ob, vs, at1, kind, rec_⟩ := fly1.there
    -- the exception is no frame, and younger than all that stood
    have noFrame : a ∉ frs (X.env :: X.outer) := fun mem => by
      obtain ⟨_, o', q, no⟩ := fly1.2.2.1.mem mem
      cases at1.symm.trans q
      exact no _ rec_
    have noLocals : a ≠ X.env.locals := fun same => noFrame (List.mem_filterMap.mpr ⟨X.env, List.mem_cons_self, hframe.trans (congrArg some same.symm)⟩)
    have noI : sI.heap.get? a = none := by
      cases was : sI.heap.get? a with
      | none => rfl
      | some o => cases noB.symm.trans (nb a o was (by rw [show (X.tr (X.pn ++ pins) _).stack = X.env :: X.outer from hstack]; exact noFrame))
    have noStart : X.s_0.heap.get? a = none := by
      cases was : X.s_0.heap.get? a with
      | none => rfl
      | some o =>
        obtain ⟨o', now⟩ := J.base.there a o was (by rw [hex]; exact List.not_mem_nil)
        cases noI.symm.trans now
    have suite1 := J1.suite (vs := vs) at1 rec_ free noLocals fun mem => by
      obtain ⟨e, me, q⟩ := List.mem_filterMap.mp mem
      exact noFrame (List.mem_filterMap.mpr ⟨e, List.mem_cons_of_mem _ me, q⟩)
    have isA : PySem.W.Looks (model X.prog X.w) h1 (typeOf (.ref a)) (.ref C) := fun _ _ _ _ there ans => wpAny_typeOf_ref (there a ob at1) (by rw [kind.1]; exact ans)
    have asked := PySem.W.exm_one (M := model X.prog X.w) J1.kIn isA isOne
    have name_ : ∀ {Q E : Value → Shared → Prop}, Q c { sE with heap := h1 } → wpAny (model X.prog X.w) (X.A.mark (some (.ref a))) (eval (.Name x np) X.env) Q E { sE with heap := h1 } := fun ans => by
      obtain ⟨glob, dbg, inMod | ⟨notMod, built, notName⟩⟩ := hc
      · exact ld_glob (X := X.suite a _) suite1 glob inMod ans dbg
      · exact ld_blt (X := X.suite a _) suite1 glob notMod built ans notName dbg
    refine wpAny_handleBy_cons (codeAny_handlers_test (name_ (asked.here (codeAny_handlers_suite_as (HandSPX.lands_againZ fly1 fun h2 fly2 up2 => ?_))))) (fun z => nomatch z)
    obtain ⟨ob2, vs2, at2, kind2, rec2⟩ := fly2.there
    have J2 := J.landed (s' := { sE with heap := h2 }) nb fly2.1 ((up.trans up1).trans up2) os bare
    have tracked : Inv X pins τ (upd G a (EO C a)) { sE with heap := h2 } := inv_track J2 at2 rec2 free noStart noLocals (fun p mem same => by cases noI.symm.trans ((congrArg _ same.symm).trans (J.pin p mem).1))
      ⟨⟨ob2, vs2, at2, kind2, rec2⟩, ⟨ob2, at2⟩, fun _ _ ⟨o, v, q, r⟩ there => ⟨o, v, there o q, r⟩⟩
    refine store_ok (X := X.suite a (X.pn ++ pins)) (v := .ref a) (inv_in tracked a) nd hi (.inl hl) rfl (fun s3 I3 => ?_) (.inr hl)
    exact wpAny_mono ((hsuite a _).run [] s3 _ _ _ I3 (run a free)) (fun fl s4 end_ => sp_unname nd hi hl (sp_move (fun _ _ K => inv_out ok K) end_)) fun _ _ z => z.elim
  · exact fun fl s1 end_ => by
      cases fl with
      | next =>
        obtain ⟨τ, G, J, q⟩ := end_
        exact wpAny_execs_nil ⟨τ, G, J.ofTry ok, q⟩
      | ret u => exact sp_move (fun _ _ J => J.ofTry ok) end_
      | brk => exact sp_move (fun _ _ J => J.ofTry ok) end_
      | cont => exact sp_move (fun _ _ J => J.ofTry ok) end_
end WL

namespace WL
open PySem L2
/-! ### isinstance of a kept exception -/
def rIsX (K : PySem.W.Frag) : List V → Hp → VK → Prop := fun xs H Q => ∃ (a C : Addr) (c : V) (cv : Value) (b : Bool), xs = [.ref a, c] ∧ H a = some (EO C a) ∧ ExcC K C ∧ (∀ u, RelV c u → u = cv) ∧ PySem.W.kitOne K (.ref C) cv = some b ∧ Q (.bl b) H
theorem isx_K {X : Cx} {K : PySem.W.Frag} (hK : X.K = K := by rfl) : CallR X (.builtin "isinstance") (rIsX K) := by
  subst hK
  rintro pins s σ H _ us Q I rel ⟨a, C, c, cv, b, rfl, held, k, only, isOne, q⟩
  obtain ⟨ua, uc, rfl, ra, rc⟩ := vals2 rel
  cases ra
  cases only uc rc
  obtain ⟨⟨⟨oc, od, oda, osl⟩, vs, there, ⟨rfl, rfl⟩, rfl⟩, _⟩ := I.hok a _ held
  have at_ : PySem.W.InstAt s.heap a _ C none := ⟨there, rfl, rfl, trivial⟩
  exact PySem.W.kia_one (PySem.W.handS_kitx_exc k.hg k.hk k.hs k.hd k.ha k.hn k.ht k.hm) I.kIn at_ isOne (fun z => nomatch z) fun tk => ⟨.bl b, H, I.kept (t' := tk) fun _ _ z => z, rfl, q⟩
section
variable {K : PySem.W.Frag} {N : Addr → Prop} {ρ : List Sl} {σ : L2.St} {F H F' H' F0 H0 : Hp} {ta tb te tc : TE} {P : Post} {t : TS}
theorem x_varE {i : Nat} {C : Addr} (h : ρ[i]? = some (.ex C)) : XR K (tVar i) ρ (.ex C) := fun N σ F H e Q q => by
  obtain ⟨A, h1, _, _⟩ := e.en
  obtain ⟨a, ea, p⟩ := h1 i _ h
  exact ⟨_, ea, q _ F H (.refl e.fh) ⟨fun _ => False, ⟨a, rfl, p⟩, fun _ z => z.elim⟩⟩
theorem x_isx {i : Nat} {C D : Addr} {b : Bool} (h : ρ[i]? = some (.ex C)) (k : ExcC K C) (hb : PySem.W.kitOne K (.ref C) (.ref D) = some b) : XE K (tCB (rIsX K) (tCons (tVar i) (tCons (tC (.ref D)) tNil))) ρ (.bool b) := xe_intro fun N σ F H e Q q => by
  obtain ⟨A, h1, _, _⟩ := e.en
  obtain ⟨a, ea, p⟩ := h1 i _ h
  exact ⟨_, ea, a, C, _, _, b, rfl, e.fh _ _ p, k, fun u r => r, hb, q _ F H (.refl e.fh) (.bl _)⟩
theorem x_isxT {i : Nat} {C : Addr} {T : String} {b : Bool} (h : ρ[i]? = some (.ex C)) (k : ExcC K C) (hb : PySem.W.kitOne K (.ref C) (.type T) = some b) : XE K (tCB (rIsX K) (tCons (tVar i) (tCons (tC (.ty T)) tNil))) ρ (.bool b) := xe_intro fun N σ F H e Q q => by
  obtain ⟨A, h1, _, _⟩ := e.en
  obtain ⟨a, ea, p⟩ := h1 i _ h
  exact ⟨_, ea, a, C, _, _, b, rfl, e.fh _ _ p, k, fun u r => r, hb, q _ F H (.refl e.fh) (.bl _)⟩
theorem x_notNE {i : Nat} {C : Addr} (h : ρ[i]? = some (.ex C)) : XE K (tOp (fun x y H Q => y = V.non ∧ Q (.bl (!decide (x = .non))) H) (tVar i) (tC .non)) ρ (.bool true) := xe_intro fun N σ F H e Q q => by
  obtain ⟨A, h1, _, _⟩ := e.en
  obtain ⟨a, ea, p⟩ := h1 i _ h
  exact ⟨_, ea, rfl, q _ F H (.refl e.fh) (.bl _)⟩
theorem x_isNE {i : Nat} {C : Addr} (h : ρ[i]? = some (.ex C)) : XE K (tOp (fun x y H Q => y = V.non ∧ Q (.bl (decide (x = .non))) H) (tVar i) (tC .non)) ρ (.bool false) := xe_intro fun N σ F H e Q q => by
  obtain ⟨A, h1, _, _⟩ := e.en
  obtain ⟨a, ea, p⟩ := h1 i _ h
  exact ⟨_, ea, rfl, q _ F H (.refl e.fh) (.bl _)⟩
/-! ### promises of defs that take an exception, of defs that raise -/
def spE (K : PySem.W.Frag) (C : Addr) (s : Sl) : Sp := fun vs H Q _ => ∃ (F : Hp) (a : Addr), vs = [.ref a] ∧ Same F H ∧ F a = some (EO C a) ∧ ∀ v F' H', Gr F H F' H' → RetOk K (fun a => H a = none) F' H' s v → Q v H'
theorem x_callE {C : Addr} {E : L2.XK} {s : Sl} {i : Nat} (h : ρ[i]? = some (.ex C)) : XR K (tCall (spE K C s) [] E (tCons (tVar i) tNil)) ρ s := fun N σ F H e Q q => by
  obtain ⟨A, h1, _, _⟩ := e.en
  obtain ⟨a, ea, p⟩ := h1 i _ h
  exact ⟨_, ea, F, a, rfl, e.fh, p, q⟩
def spR (K : PySem.W.Frag) (C : Addr) (R : List PyData → Option Sl → Prop) : Sp := fun vs H Q E => ∃ (F : Hp) (ds : List PyData) (o : Option Sl), Same F H ∧ DpAll K F vs ds ∧ R ds o ∧
  (∀ s, o = some s → ∀ v F' H', Gr F H F' H' → RetOk K (fun a => H a = none) F' H' s v → Q v H') ∧ (o = none → ∀ F' H', Gr F H F' H' → E (.ref C) none H')
theorem s_raise {C : Addr} {E : L2.XK} (h : P.ex C) (hE : P.E = E) : WS K (fun _ _ H => E (.ref C) none H) ρ P := fun F0 H0 σ F H D e f => by
  rw [← hE]
  exact f.ex C F H h e.gr
/-- a try's body: what is wished of an exception (its class, the environment where it is raised) -/
def WSW (K : PySem.W.Frag) (tb : WX → TS) (ρ : List Sl) (P : Post) (ex : Addr → List Sl → Prop) : Prop := ∀ (F0 H0 : Hp) (σ : L2.St) (F H : Hp) (D : Ends) (W : WX), Es K F0 H0 ρ σ F H → Fi K F0 H0 P D →
  (∀ C r τ F' H', ex C r → Es K F0 H0 r τ F' H' → W (.ref C) none τ H') → tb W D σ H
theorem wsw_drop {C : Addr} {R : List PyData → Option Sl → Prop} {tA : TA} {ds : List PyData} {o : Option Sl} {ex : Addr → List Sl → Prop} (ha : XA K tA ρ ds) (hr : R ds o) (h1 : ∀ s, o = some s → P.nx ρ) (h2 : o = none → ex C ρ) :
    WSW K (fun W => tDrop (tCallS (spR K C R) (WE W) tA)) ρ P ex := fun F0 H0 σ F H D W e f w =>
  ha _ σ F H e.en _ fun vs F1 H1 g p => ⟨F1, ds, o, g.fh, p, hr, fun s hs v F2 H2 g2 r => f.nx _ _ _ _ (h1 s hs) (e.go (g.trans g2)), fun hn F2 H2 g2 => w C ρ σ F2 H2 (h2 hn) (e.go (g.trans g2))⟩
theorem wsw_asg {C : Addr} {R : List PyData → Option Sl → Prop} {tA : TA} {ds : List PyData} {o : Option Sl} {j : Nat} {ex : Addr → List Sl → Prop} (ha : XA K tA ρ ds) (hr : R ds o) (h1 : ∀ s, o = some s → P.nx (ρ.set j s)) (h2 : o = none → ex C ρ) :
    WSW K (fun W => tAsg (tCallS (spR K C R) (WE W) tA) (gName j)) ρ P ex := fun F0 H0 σ F H D W e f w =>
  ha _ σ F H e.en _ fun vs F1 H1 g p => ⟨F1, ds, o, g.fh, p, hr, fun s hs v F2 H2 g2 r => f.nx _ _ _ _ (h1 s hs) (e.put (g.trans g2) (r.imp fun a z => g.hh.free z)), fun hn F2 H2 g2 => w C ρ σ F2 H2 (h2 hn) (e.go (g.trans g2))⟩
theorem Es.dropv (e : Es K F0 H0 ρ σ F H) (i : Nat) (o : Option V) : Es K F0 H0 (ρ.set i .un) (σ.set i o) F H := ⟨e.gr, e.en.dropv i o⟩
/-- try: body / except c as n: suite -/
theorem s_try {c : Value} {i : Nat} {tw : WX → TS} {ts : TS} (h : WSW K tw ρ P fun C r => PySem.W.exmOne K (.ref C) c = some true ∧ WS K ts (r.set i (.ex C)) { P with nx := fun z => P.nx (z.set i .un), bk := fun z => P.bk (z.set i .un), ct := fun z => P.ct (z.set i .un) }) :
    WS K (fun D σ H => tw (wKeep K c i ts D) D σ H) ρ P := fun F0 H0 σ F H D e f =>
  h F0 H0 σ F H D _ e f fun C r τ F1 H1 ⟨one, ws⟩ e1 => ⟨one, rfl, C, rfl, fun a free => by
    have g := Gr.new (o := EO C a) e1.en.fh free
    have e2 : Es K F0 H0 (r.set i (.ex C)) (τ.set i (some (.ref a))) (upd F1 a (EO C a)) (upd H1 a (EO C a)) := e1.put g ⟨fun _ => False, ⟨a, rfl, upd_same⟩, fun _ z => z.elim⟩
    exact ws F0 H0 _ _ _ (unD i D) e2 ⟨fun z τ F H p q => f.nx _ _ _ _ p (q.dropv i none), f.rt, fun z τ F H p q => f.bk _ _ _ _ p (q.dropv i none), fun z τ F H p q => f.ct _ _ _ _ p (q.dropv i none), f.ex, f.rtE, f.exE⟩⟩
section
variable {Pr : Program} {w : World} {mg : Str → Option Value} {base : Heap}
theorem fnE_ok {x qual : Str} {st : Stmt} {f : Addr} {fd : FuncData} {N ps : List Str} {k : Nat} {C : Addr} {z : Sl} (Fu : Fun K x qual st f fd) (S : FnScope N ps (defScope st)) (len : ps.length = 1)
    (body : ∀ (cdv : Value) (A : Around) (outer : List Env) (s : Shared) (H : Hp) (E : L2.XK), Room k (A.deeper (PyProof.Rows.envOfC qual (defScope st) s.heap.objs.size f cdv)) →
      ∃ t, PSs (cxOf CX0 Pr w K mg base N qual (defScope st) f cdv A outer s H E).nox (defBody st) t ∧ WS K t (.ex C :: List.replicate (N.length - 1) .un) { nx := fun _ => z = .da .none, rt := fun s' => s' = z }) :
    FnOk Pr w K mg base CX0 (k + 1) f fd ps (spE K C z) := by
  refine Fu.ok S (fun vs H Q E h => ?_) (fun cdv A outer s H vs Q E hr h => ?_)
  · obtain ⟨F, a, rfl, _⟩ := h
    exact len.symm
  · obtain ⟨F, a, rfl, e, ha, k⟩ := h
    obtain ⟨t, ht, ws⟩ := body cdv A outer s H E hr
    have en : En K (fun a => H a = none) (.ex C :: List.replicate (N.length - 1) .un) (L2.start N [.ref a]) F H := by
      refine ⟨e, by simp [L2.start], fun _ _ => False, fun i s hs => ?_, fun _ _ _ z => z.elim, fun _ _ z => z.elim⟩
      cases i with
      | zero => cases (show some (Sl.ex C) = some s from hs); exact ⟨a, rfl, ha⟩
      | succ i =>
        rw [List.getElem?_cons_succ, List.getElem?_replicate] at hs
        split at hs
        · cases hs; trivial
        · cases hs
    refine ⟨t, ht, ws F H _ F H _ ⟨.refl e, en⟩ ⟨fun r σ F' H' q es => k _ F' H' es.gr (by rw [q]; exact ret_da .non), fun s v F' H' q g r => k _ F' H' g (by rw [q] at r; exact r), fun _ _ _ _ z => z.elim, fun _ _ _ _ z => z.elim, fun _ _ _ z => z.elim, fun _ _ _ _ _ _ z => z.elim, fun _ _ _ _ _ z => z.elim⟩⟩
theorem fnR_ok {x qual : Str} {st : Stmt} {f : Addr} {fd : FuncData} {N ps : List Str} {k : Nat} {C : Addr} {R : List PyData → Option Sl → Prop} (Fu : Fun K x qual st f fd) (S : FnScope N ps (defScope st)) (len : ∀ ds o, R ds o → ds.length = ps.length)
    (body : ∀ (cdv : Value) (A : Around) (outer : List Env) (s : Shared) (H : Hp) (E : L2.XK), Room k (A.deeper (PyProof.Rows.envOfC qual (defScope st) s.heap.objs.size f cdv)) →
      ∃ t, PSs (cxOf (L2.CX Pr w) Pr w K mg base N qual (defScope st) f cdv A outer s H E) (defBody st) t ∧ ∀ ds o, R ds o → WS K t (startR N ds) { nx := fun _ => o = some (.da .none), rt := fun s' => o = some s', ex := fun D => D = C ∧ o = none, E := E }) :
    FnOk Pr w K mg base (L2.CX Pr w) (k + 1) f fd ps (spR K C R) := by
  refine Fu.okX S (fun vs H Q E h => ?_) (fun cdv A outer s H vs Q E hr h => ?_)
  · obtain ⟨F, ds, o, _, p, q, _⟩ := h
    rw [dpa_len p]
    exact len ds o q
  · obtain ⟨F, ds, o, e, p, hp, k1, k2⟩ := h
    obtain ⟨t, ht, ws⟩ := body cdv A outer s H E hr
    refine ⟨t, ht, ws ds o hp F H _ F H _ ⟨.refl e, start_en e p⟩ ⟨fun r σ F' H' z es => k1 _ z _ F' H' es.gr (ret_da .non), fun s v F' H' z g r => k1 _ z _ F' H' g r, fun _ _ _ _ z => z.elim, fun _ _ _ _ z => z.elim, fun D F' H' z g => ?_, fun _ _ _ _ _ _ z => z.elim, fun _ _ _ _ _ z => z.elim⟩⟩
    rw [z.1]
    exact k2 z.2 F' H' g
end
end
end WL

namespace WL
open PySem L2
/-! ### sorted of a list or a tuple of whole numbers -/
section
open PyProof.Rows
variable {prog : Program} {w : World} {A : Around} {E : Value → Shared → Prop} {s : Shared}
/-- the heap with the list that collecting has made -/
def heapC (h : Heap) (vs : List Value) : Heap := (h.push (seqObj "list" #[] 0)).update h.objs.size (Obj.mapSeq (· ++ vs.toArray))
theorem heapC_old {h : Heap} {vs : List Value} {b : Addr} {o : Obj} (q : h.get? b = some o) : (heapC h vs).get? b = some o :=
  (Heap.get?_update_ne _ _ _ _ (Nat.ne_of_lt (Heap.lt_size q))).trans (Heap.get?_push_of_some _ q)
theorem collect_tup {l : Addr} {o : Obj} {n : Nat} {vs : List Value} {Q : List Value → Shared → Prop} (there : s.heap.get? l = some o) (kind : o.cls = .type "tuple") (data : o.data = .seq vs.toArray n) (small : vs.length ≤ sizeLine)
    (k : Q vs { s with heap := heapC s.heap vs }) : wpAny (model prog w) A (collect (.ref l)) Q E s := by
  have still : (s.heap.push (seqObj "list" #[] 0)).get? l = some o := Heap.get?_push_of_some _ there
  have made : (s.heap.push (seqObj "list" #[] 0)).get? s.heap.objs.size = some (seqObj "list" #[] 0) := Heap.get?_push_size _ rfl
  unfold collect
  refine wpAny_bind (wpAny_runValue (codeAny_builtin entry_proto_collect' ?_))
  refine wpAny_bind (wpAny_newList (wpAny_pure ⟨Code.quiet_builtin _ (by decide +kernel), codeAny_builtin entry_list_iadd' ?_⟩))
  show wpAny _ _ (Builtin.List.listExtendWith (.ref s.heap.objs.size) (.ref l) (.ref s.heap.objs.size)) _ _ { s with heap := s.heap.push (seqObj "list" #[] 0) }
  unfold Builtin.List.listExtendWith
  refine wpAny_bind (wpAny_typeOf (T := "tuple") ⟨o, still, kind⟩ ?_)
  have yes : (Value.type "tuple" == Value.type "tuple") = true := by rfl
  rw [if_pos (by rw [yes]; simp)]
  refine wpAny_bind (listItems_at still data (wpAny_bind (listItems_at made rfl ?_)))
  rw [if_neg (by simp)]
  refine wpAny_bind (listUpdate_at made rfl ?_ (Nat.zero_le _) (by show (#[] ++ vs.toArray).size ≤ sizeLine + 1; simp only [Array.size_append, List.size_toArray, List.length_nil]; omega))
  refine wpAny_pure ?_
  have fill := get?_update_seq (n := 0) made (· ++ vs.toArray)
  show wpAny (model prog w) A (load s.heap.objs.size >>= _) Q E { s with heap := heapC s.heap vs }
  refine wpAny_bind (wpAny_load fill ?_)
  show wpAny _ _ (pure ((#[] : Array Value) ++ vs.toArray).toList) Q E _
  have e : ((#[] : Array Value) ++ vs.toArray).toList = vs := by simp
  rw [e]
  exact wpAny_pure k
theorem sorted_tup {l : Addr} {o : Obj} {n : Nat} {vs : List Value} {ns : List Int} {Q : Value → Shared → Prop} (there : s.heap.get? l = some o) (kind : o.cls = .type "tuple") (data : o.data = .seq vs.toArray n) (small : vs.length ≤ sizeLine) (whole : IntsAre vs ns)
    (k : ∀ out : List Value, SrtO.Srtd SrtO.ltIv out → SrtO.Stb SrtO.ltIv out vs → Q (.ref (s.heap.objs.size + 1)) { s with heap := sortedAll s.heap vs out.toArray }) :
    wpAny (model prog w) A (call (.builtin "sorted") [.ref l]) Q E s := by
  have size : (heapC s.heap vs).objs.size = s.heap.objs.size + 1 := (Heap.size_update ..).trans (size_push' ..)
  have stands : ((heapC s.heap vs).push (seqObj "list" vs.toArray 0)).get? (s.heap.objs.size + 1) = some (seqObj "list" vs.toArray 0) := by
    rw [← size]
    exact Heap.get?_push_size _ rfl
  refine Calls.call_function_entry kind_sorted plain_sorted entry_sorted (args_sorted1 _) ?_
  unfold Builtin.«sorted»
  refine wpAny_bind (m := checkCount "sorted" 1 1 _) (wpAny_pure (wpAny_bind (collect_tup there kind data small (wpAny_bind (wpAny_newList ?_ small)))))
  rw [size]
  refine wpAny_bind (wpAny_holding (wpAny_call_entry slot_list_sort ⟨_, stands, rfl⟩ entry_list_sort ?_ (args_list_sort _)))
  exact SrtO.list_sort_ord SrtO.swo_int stands small (fun two => SrtO.ints_sortable whole two) fun out h1 h2 => ⟨_, rfl, wpAny_pure ⟨_, rfl, k out h1 h2⟩⟩
end
/-- the same numbers, rising -/
def srt (ns : List Int) : List Int := ns.mergeSort fun a b => decide (a ≤ b)
theorem srt_only {ms ns : List Int} (p : ms.Perm ns) (r : ms.Pairwise (· ≤ ·)) : ms = srt ns := by
  refine List.Perm.eq_of_pairwise (le := fun a b : Int => a ≤ b) (fun a b _ _ h1 h2 => Int.le_antisymm h1 h2) r ?_ (p.trans (List.mergeSort_perm _ _).symm)
  exact (List.pairwise_mergeSort (le := fun a b : Int => decide (a ≤ b)) (fun a b c h1 h2 => decide_eq_true (Int.le_trans (of_decide_eq_true h1) (of_decide_eq_true h2))) (fun a b => by rcases Int.le_total a b with h | h <;> simp [h]) ns).imp fun h => of_decide_eq_true h
theorem range_up (n : Nat) : ((List.range n).map fun i : Nat => (i : Int)).Pairwise (· ≤ ·) := List.pairwise_map.mpr (List.pairwise_lt_range.imp fun h => by omega)
def rSortX (K : PySem.W.Frag) : List V → Hp → VK → Prop := fun vs H Q => ∃ (a : Addr) (ns : List Int), vs = [V.ref a] ∧ (SqL K H a (ns.map V.int) ∨ SqT K H a (ns.map V.int)) ∧ ∀ p : Addr, H p = none → Q (.ref p) (upd H p (.lst ((srt ns).map V.int)))
theorem sorted_K {X : Cx} {K : PySem.W.Frag} (hK : X.K = K := by rfl) : CallR X (.builtin "sorted") (rSortX K) := by
  subst hK
  intro pins s σ H vs us Q I r h
  obtain ⟨a, ns, rfl, here | here, q⟩ := h
  · exact cr_sortedI pins s σ H _ us Q I r ⟨a, ns, rfl, here, fun ms p p1 p2 free => by rw [srt_only p1 p2]; exact q p free⟩
  · obtain ⟨its, rv, ⟨o, there, kind, n, data⟩, small⟩ := I.tuple here
    obtain ⟨u, rfl, ru⟩ := vals1 r
    cases ru
    have whole := rv.ints
    refine sorted_tup there kind data (by rw [← rv.length]; exact small) whole fun out h1 h2 => ?_
    obtain ⟨k1, k2, k3⟩ := SrtO.ints_out whole h1 h2
    obtain ⟨ep, new⟩ := PyProof.Rows.sortedAll_at s.heap its out.toArray
    have e := srt_only k2 k3
    have len : ((srt ns).map V.int).length ≤ sizeLine := by
      rw [← e, List.length_map, k2.length_eq, ← List.length_map (f := V.int)]
      exact small
    refine ⟨.ref _, upd H (s.heap.objs.size + 1) (.lst ((srt ns).map V.int)), I.laid (t' := s.toks) (fun _ _ => PyProof.Rows.sortedAll_old) (Nat.le_succ _) ⟨len, out, ep, ?_, new⟩, rfl, q _ (I.hok.fresh (Nat.le_succ _))⟩
    rw [← e]
    exact vals_of_ints k1
section
variable {K : PySem.W.Frag} {N : Addr → Prop} {ρ : List Sl} {σ : St} {F H F' H' F0 H0 : Hp} {ta tb te tl tc : TE} {tt tu : TT} {P : Post} {t : TS}
theorem x_sorted {b : Bool} {ns : List Int} (h : XS K ta ρ b (ns.map .int)) : XR K (tCB (rSortX K) (tCons ta tNil)) ρ (.ow ((srt ns).map .int)) := fun N σ F H e Q q => h N σ F H e _ fun p xs F1 H1 g1 s px => by
  rw [dpa_ints px] at s
  refine ⟨p, ns, rfl, ?_, fun l hl => q (.ref l) F1 _ (g1.trans (.own g1.fh hl)) (ret_ow upd_same (g1.fh.free hl) (g1.hh.free hl) (ints_dpa _))⟩
  cases b with
  | false => exact .inl s
  | true => exact .inr s
/-! ### in -/
theorem inV_nat (k : Nat) : ∀ l : List Nat, inV (.int k) (l.map fun i : Nat => V.int i) = decide (k ∈ l)
  | [] => by simp [inV]
  | a :: l => by
    have ih := inV_nat k l
    unfold inV at ih ⊢
    rw [List.map_cons, List.any_cons, ih]
    have e : eqV (V.int (a : Int)) (.int (k : Int)) = decide (k = a) := by
      show ((a : Int) == (k : Int)) = _
      by_cases z : k = a
      · subst z; simp
      · simp [z]; omega
    rw [e]
    by_cases z : k = a <;> simp [z]
theorem flat_nat : ∀ l : List Nat, (l.map fun i : Nat => V.int i).all flatV = true
  | [] => rfl
  | a :: l => by rw [List.map_cons, List.all_cons, flat_nat l]; rfl
theorem nats_dp {H : Hp} : ∀ {l : List Nat} {xs : List V}, DpAll K H xs (l.map nat_) → xs = l.map fun i : Nat => V.int i
  | [], _, .nil => rfl
  | n :: ns, _, .cons p a => by
    rw [dp_int p, nats_dp a]
    rfl
theorem x_in {b : Bool} {k : Nat} {l : List Nat} (h : XE K te ρ (.int k)) (hs : XS K tl ρ b (l.map nat_)) : XE K (tOp (rIn K false) te tl) ρ (.bool (decide (k ∈ l))) := xe_intro fun N σ F H e Q q => h.e e fun v F1 H1 g1 p1 => hs N σ F1 H1 (e.gr g1) _ fun p xs F2 H2 g2 s px => by
  rw [nats_dp px] at s
  refine ⟨p, l.map fun i : Nat => V.int i, rfl, ?_, by rw [dp_int p1]; rfl, flat_nat l, ?_⟩
  · cases b with
    | false => exact .inl s
    | true => exact .inr s
  · rw [dp_int p1, inV_nat]
    exact q _ F2 H2 (g1.trans g2) (.bl _)
theorem x_notIn {b : Bool} {k : Nat} {l : List Nat} (h : XE K te ρ (.int k)) (hs : XS K tl ρ b (l.map nat_)) : XE K (tOp (rIn K true) te tl) ρ (.bool (!decide (k ∈ l))) := xe_intro fun N σ F H e Q q => h.e e fun v F1 H1 g1 p1 => hs N σ F1 H1 (e.gr g1) _ fun p xs F2 H2 g2 s px => by
  rw [nats_dp px] at s
  refine ⟨p, l.map fun i : Nat => V.int i, rfl, ?_, by rw [dp_int p1]; rfl, flat_nat l, ?_⟩
  · cases b with
    | false => exact .inl s
    | true => exact .inr s
  · rw [dp_int p1, inV_nat]
    exact q _ F2 H2 (g1.trans g2) (.bl _)
/-! ### tuples put together, parts of them -/
theorem x_catT {a b : List PyData} (ha : XE K ta ρ (.tuple a)) (hb : XE K tb ρ (.tuple b)) (hz : a.length + b.length ≤ 100000) : XE K (tOp (rAddX K) ta tb) ρ (.tuple (a ++ b)) := xe_intro fun N σ F H e Q q => ha.e e fun v F1 H1 g1 p1 => hb.e (e.gr g1) fun u F2 H2 g2 p2 => by
  obtain ⟨x, xs, rfl, s1, d1⟩ := dp_tuple p1
  obtain ⟨y, ys, rfl, s2, d2⟩ := dp_tuple p2
  have D1 := dps_mono g2.ff _ _ d1
  have fin : ∀ p (zs : List V), SqT K F2 p zs → zs = xs ++ ys → Q (.ref p) H2 := fun p zs s z => q _ F2 H2 (g1.trans g2) (.tup s (by rw [z]; exact dpa_app D1 d2))
  refine .inr (.inr (.inl ⟨x, y, xs, ys, rfl, rfl, sq_t (g2.ff.trans g2.fh) s1, sq_t g2.fh s2, by rw [dpa_len d1, dpa_len d2]; exact Nat.le_trans hz (by decide), fun z => fin y ys s2 (by rw [z]; rfl), fun _ z => fin x xs (sq_t g2.ff s1) (by rw [z, List.append_nil]), fun _ _ p free => ?_⟩))
  exact q (.ref p) (upd F2 p (.tup (xs ++ ys))) _ ((g1.trans g2).trans (.new g2.fh free)) (.tup (SqT.of upd_same) (dps_mono (same_new (g2.fh.free free)) _ _ (dpa_app D1 d2)))
theorem cutD_all {α : Type} {xs : List α} {lo hi : Option Int} (h : HT.sIx xs.length 0 lo = 0 ∧ HT.sIx xs.length xs.length hi = xs.length) : cutD xs lo hi = xs := by
  unfold cutD
  rw [h.1, h.2, List.drop_zero, Nat.sub_zero, List.take_length]
theorem x_sliceT {ds : List PyData} {lo hi : Option Int} {tl th : TO} (h : XE K ta ρ (.tuple ds)) (hl : XO K tl ρ lo) (hh : XO K th ρ hi) : XE K (tSl (rSlX K) ta tl th) ρ (.tuple (cutD ds lo hi)) := xe_intro fun N σ F H e Q q => h.e e fun v F1 H1 g1 p1 =>
  hl N σ F1 H1 (e.gr g1) _ fun F2 H2 g2 => hh N σ F2 H2 ((e.gr g1).gr g2) _ fun F3 H3 g3 => by
    obtain ⟨x, xs, rfl, s1, d1⟩ := dp_tuple p1
    have g := (g1.trans g2).trans g3
    have D := dps_mono (g2.trans g3).ff _ _ d1
    refine .inr ⟨x, xs, rfl, sq_t ((g2.trans g3).ff.trans g3.fh) s1, fun z => ?_, fun z p free => ?_⟩
    · rw [dpa_len d1] at z
      rw [cutD_all z] at q
      exact q _ F3 H3 g (dp_mono (g2.trans g3).ff _ _ p1)
    · exact q (.ref p) (upd F3 p (.tup (cutV xs lo hi))) _ (g.trans (.new g3.fh free)) (.tup (SqT.of upd_same) (dps_mono (same_new (g3.fh.free free)) _ _ (dpa_cut D lo hi)))
/-! ### x.remove(y) -/
theorem s_remove {i : Nat} {ns : List Int} {k : Int} {j : Nat} (hi : ρ[i]? = some (.ow (ns.map .int))) (h : XE K te ρ (.int k)) (hj : ns[j]? = some k) (no : ∀ m : Nat, m < j → ns[m]? ≠ some k) (kk : P.nx (ρ.set i (.ow ((ns.eraseIdx j).map .int)))) : WS K (tDrop (tBM K "list" rRemI (tVar i) (tCons te tNil))) ρ P := fun F0 H0 σ F H D e f => by
  obtain ⟨l, xs, es, hl, dl, fl, nl, _⟩ := e.mut hi
  refine ⟨_, es, .inl ⟨rfl, xs, SqL.of hl⟩, h.e e.en fun v F1 H1 g p => ?_⟩
  obtain ⟨l', xs', es', hl', dl', fl', nl', k'⟩ := (e.go g).mut hi
  rw [es] at es'
  cases es'
  rw [dpa_ints dl'] at hl'
  exact ⟨l, ns, k, j, rfl, by rw [dp_int p], hl', hj, no, f.nx _ _ _ _ kk (k' _ _ (ints_dpa _))⟩
end
/-! ### == of lists of whole numbers -/
theorem eqv_ints : ∀ a b : List Int, PyData.eqvAll (a.map .int) (b.map .int) = decide (a = b)
  | [], [] => rfl
  | [], _ :: _ => by simp [PyData.eqvAll]
  | _ :: _, [] => by simp [PyData.eqvAll]
  | x :: a, y :: b => by
    have ih := eqv_ints a b
    rw [List.map_cons, List.map_cons, PyData.eqvAll, ih, show PyData.eqv (.int x) (.int y) = (x == y) from rfl]
    by_cases z : x = y <;> by_cases u : a = b <;> simp [z, u]
end WL

namespace WL
open PySem L2
/-! ### a deal by turns -/
/-- what is left of c things -/
def lf (c : Nat) (tk : List Nat) : List Nat := (List.range c).filter fun t => !decide (t ∈ tk)
theorem lf_mem {c : Nat} {tk : List Nat} {t : Nat} : t ∈ lf c tk ↔ t < c ∧ t ∉ tk := by
  unfold lf
  rw [List.mem_filter, List.mem_range, Bool.not_eq_true', decide_eq_false_iff_not]
theorem lf_nil (c : Nat) : lf c [] = List.range c := by
  unfold lf
  rw [List.filter_eq_self]
  intro t _
  simp
theorem lf_nd (c : Nat) (tk : List Nat) : (lf c tk).Nodup := List.nodup_range.sublist List.filter_sublist
theorem lf_rem (c : Nat) (tk : List Nat) (t : Nat) : (lf c tk).filter (· != t) = lf c (tk ++ [t]) := by
  unfold lf
  rw [List.filter_filter]
  refine List.filter_congr fun u _ => ?_
  by_cases h : u = t <;> by_cases k : u ∈ tk <;> simp [h, k]
/-- what is liked best of what is not taken -/
def bst (r tk : List Nat) : Nat := ((r.filter fun t => !decide (t ∈ tk)).head?).getD 0
theorem bst_ok {c : Nat} {r tk : List Nat} (hr : r.Perm (List.range c)) (ht : tk.length < c) : ∃ l, (r.filter fun t => !decide (t ∈ tk)) = bst r tk :: l := by
  cases e : r.filter fun t => !decide (t ∈ tk) with
  | cons a l =>
    refine ⟨l, ?_⟩
    unfold bst
    rw [e]
    rfl
  | nil =>
    have all : List.range c ⊆ tk := fun t m => by
      have q := List.filter_eq_nil_iff.mp e t (hr.mem_iff.mpr m)
      simpa using q
    have := List.nodup_range.length_le_of_subset all
    rw [List.length_range] at this
    omega
theorem bst_mem {c : Nat} {r tk : List Nat} (hr : r.Perm (List.range c)) (ht : tk.length < c) : bst r tk ∈ r ∧ bst r tk ∉ tk ∧ bst r tk < c := by
  obtain ⟨l, e⟩ := bst_ok hr ht
  have m : bst r tk ∈ r.filter fun t => !decide (t ∈ tk) := by rw [e]; exact List.mem_cons_self
  rw [List.mem_filter] at m
  exact ⟨m.1, by simpa using m.2, List.mem_range.mp (hr.mem_iff.mp m.1)⟩
theorem bst_first {r tk : List Nat} {j t : Nat} (h : r[j]? = some t) (was : ∀ u ∈ r.take j, u ∈ tk) (no : t ∉ tk) : bst r tk = t := by
  have hj := (List.getElem?_eq_some_iff.mp h)
  obtain ⟨h1, h2⟩ := hj
  unfold bst
  rw [← List.take_append_drop j r, List.filter_append, List.filter_eq_nil_iff.mpr (fun u m => by simpa using was u m), List.nil_append, List.drop_eq_getElem_cons h1, List.filter_cons_of_pos (by rw [h2]; simpa using no), h2]
  rfl
def dl1 (W : List (List Nat)) (s : List Nat × List Nat) (p : Nat) : List Nat × List Nat := (s.1 ++ [bst (W.getD p []) s.1], s.2.set p (bst (W.getD p []) s.1))
def dlF (W : List (List Nat)) (c : Nat) (os : List Nat) : List Nat × List Nat := os.foldl (dl1 W) ([], List.replicate c 0)
theorem dlF_len (W : List (List Nat)) (c : Nat) (os : List Nat) : (dlF W c os).1.length = os.length ∧ (dlF W c os).2.length = c := by
  have gen : ∀ (os : List Nat) (s : List Nat × List Nat), (os.foldl (dl1 W) s).1.length = s.1.length + os.length ∧ (os.foldl (dl1 W) s).2.length = s.2.length := by
    intro os
    induction os with
    | nil => exact fun s => ⟨rfl, rfl⟩
    | cons p os ih =>
      intro s
      obtain ⟨h1, h2⟩ := ih (dl1 W s p)
      rw [List.foldl_cons, h1, h2]
      constructor
      · show (s.1 ++ [_]).length + _ = _
        rw [List.length_append, List.length_cons, List.length_cons, List.length_nil]
        omega
      · show (s.2.set _ _).length = _
        rw [List.length_set]
  have := gen os ([], List.replicate c 0)
  exact ⟨this.1.trans (by simp), this.2.trans (by simp)⟩
theorem dlF_step {W : List (List Nat)} {c : Nat} {os : List Nat} {i p : Nat} (h : os[i]? = some p) : dlF W c (os.take (i + 1)) = dl1 W (dlF W c (os.take i)) p := by
  unfold dlF
  rw [List.take_succ, h, Option.toList, List.foldl_append]
  rfl
theorem nat_ints (l : List Nat) : l.map nat_ = (l.map fun i : Nat => (i : Int)).map PyData.int := by
  rw [List.map_map]
  rfl
theorem Wi.row {W : List (List Nat)} {c p : Nat} (h : Wi W c) (hp : p < c) : W[p]? = some (W.getD p []) ∧ (W.getD p []).Perm (List.range c) := by
  have e : W[p]? = some (W.getD p []) := by
    rw [List.getD_eq_getElem?_getD, List.getElem?_eq_getElem (by rw [h.len]; exact hp)]
    rfl
  exact ⟨e, h.perm _ (List.mem_of_getElem? e)⟩
/-- as data, a list or a tuple -/
def sqOf (b : Bool) (ds : List PyData) : PyData := match b with
  | false => .list ds
  | true => .tuple ds
/-- numbers that are an order of c people -/
def isOrd (c : Nat) (ns : List Int) : Prop := srt ns = (List.range c).map fun i : Nat => (i : Int)
theorem isOrd_of {c : Nat} {os : List Nat} (h : os.Perm (List.range c)) : isOrd c (os.map fun i : Nat => (i : Int)) := (srt_only (h.map _).symm (range_up c)).symm
theorem isOrd_perm {c : Nat} {ns : List Int} (h : isOrd c ns) : ns.Perm ((List.range c).map fun i : Nat => (i : Int)) := by
  rw [← h]
  exact (List.mergeSort_perm _ _).symm
section
variable {K : PySem.W.Frag} {ρ : List Sl} {te tb ta : TE} {P : Post}
theorem s_removeN {i : Nat} {l : List Nat} {t : Nat} (hi : ρ[i]? = some (.ow (l.map nat_))) (h : XE K te ρ (.int t)) (nd : l.Nodup) (ht : t ∈ l) (kk : P.nx (ρ.set i (.ow ((l.filter (· != t)).map nat_)))) : WS K (tDrop (tBM K "list" rRemI (tVar i) (tCons te tNil))) ρ P := by
  have hj : l.idxOf t < l.length := List.idxOf_lt_length_of_mem ht
  have at_ : l[l.idxOf t]? = some t := by rw [List.getElem?_eq_getElem hj, List.getElem_idxOf]
  refine s_remove (j := l.idxOf t) (ns := l.map fun i : Nat => (i : Int)) (by rw [← nat_ints]; exact hi) h (by rw [List.getElem?_map, at_]; rfl) (fun m hm z => ?_) ?_
  · rw [List.getElem?_map] at z
    cases e : l[m]? with
    | none => rw [e] at z; cases z
    | some u =>
      rw [e] at z
      have : u = t := by
        have z' : (u : Int) = (t : Int) := Option.some.inj z
        omega
      subst this
      have := (List.getElem?_inj hj nd).mp (at_.trans e.symm)
      omega
  · have e : (l.map fun i : Nat => (i : Int)).eraseIdx (l.idxOf t) = (l.filter (· != t)).map fun i : Nat => (i : Int) := by
      rw [← nd.erase_eq_filter t, List.erase_eq_eraseIdx_of_idxOf rfl]
      exact erase_map _ _ _
    rw [e, ← nat_ints]
    exact kk
theorem x_sortedQ {b : Bool} {ns : List Int} (h : XE K ta ρ (sqOf b (ns.map .int))) : XR K (tCB (rSortX K) (tCons ta tNil)) ρ (.ow ((srt ns).map .int)) := by
  cases b with
  | false => exact x_sorted (xs_l h)
  | true => exact x_sorted (xs_t h)
theorem isq_sqOf (b : Bool) (ds : List PyData) : isq (sqOf b ds) ∧ sqd (sqOf b ds) = ds := by
  cases b with
  | false => exact ⟨trivial, rfl⟩
  | true => exact ⟨trivial, rfl⟩
theorem Ds_ints {ns : List Int} (h : ns.length ≤ 100000) : Ds 2 (.list (ns.map .int)) := ⟨by rw [List.length_map]; exact h, Ds_map fun _ _ => trivial⟩
theorem eqv_ord {c : Nat} {ns : List Int} : PyData.eqv (.list ((srt ns).map .int)) (.list ((List.range c).map fun i : Nat => PyData.int i)) = true ↔ isOrd c ns := by
  have e : ((List.range c).map fun i : Nat => PyData.int i) = ((List.range c).map fun i : Nat => (i : Int)).map .int := by rw [List.map_map]; rfl
  rw [e, show PyData.eqv (.list ((srt ns).map .int)) (.list (((List.range c).map fun i : Nat => (i : Int)).map .int)) = PyData.eqvAll ((srt ns).map .int) (((List.range c).map fun i : Nat => (i : Int)).map .int) by unfold PyData.eqv; rfl, eqv_ints, decide_eq_true_iff]
  rfl
theorem shp_range {c : Nat} (h : c ≤ 100000) : SeqAt.shaped (.list ((List.range c).map fun i : Nat => PyData.int i)) = true := by
  have e : ((List.range c).map fun i : Nat => PyData.int i) = ((List.range c).map fun i : Nat => (i : Int)).map .int := by rw [List.map_map]; rfl
  rw [e]
  exact Ds_shaped (Ds_ints (by simpa using h)) (by decide)
theorem srt_len (ns : List Int) : (srt ns).length = ns.length := (List.mergeSort_perm _ _).length_eq
theorem takes_none {X : Cx} : Takes X fun _ _ _ _ => False := fun _ _ x => by
  obtain ⟨_, _, _, _, _, _, _, _, _, _, _, _, _, _, _, _, no⟩ := x
  exact no.elim
/-- a call of a def that may raise, where it does not -/
theorem x_callR {C : Addr} {R : List PyData → Option Sl → Prop} {tA : TA} {ds : List PyData} {s : Sl} {W : WX} (ha : XA K tA ρ ds) (hr : R ds (some s)) : XR K (tCallS (spR K C R) (WE W) tA) ρ s := fun N σ F H e Q q => ha N σ F H e _ fun vs F1 H1 g p =>
  ⟨F1, ds, some s, g.fh, p, hr, fun s' hs v F2 H2 g2 r => by cases hs; exact q v F2 H2 (g.trans g2) (r.imp fun a z => g.hh.free z), fun z => nomatch z⟩
/-! parts of tuples of whole numbers -/
theorem cutD_to {α : Type} (xs : List α) (a : Nat) : cutD xs none (some (a : Int)) = xs.take a := by
  unfold cutD
  rw [HT.sIx_none, HT.sIx_nat, List.drop_zero, Nat.sub_zero, ← List.take_take, List.take_length]
theorem cutD_from {α : Type} (xs : List α) {a : Nat} (h : a ≤ xs.length) : cutD xs (some (a : Int)) none = xs.drop a := by
  unfold cutD
  rw [HT.sIx_none, HT.sIx_nat, Nat.min_eq_left h, List.take_of_length_le (by rw [List.length_drop]; exact Nat.le_refl _)]
theorem x_toT {I : List Int} {a : Nat} {tl th : TO} (h : XE K ta ρ (.tuple (I.map .int))) (hl : XO K tl ρ none) (hh : XO K th ρ (some (a : Int))) : XE K (tSl (rSlX K) ta tl th) ρ (.tuple ((I.take a).map .int)) :=
  xr_is (x_sliceT h hl hh) (by rw [cutD_map, cutD_to])
theorem x_fromT {I : List Int} {a : Nat} {tl th : TO} (h : XE K ta ρ (.tuple (I.map .int))) (ha : a ≤ I.length) (hl : XO K tl ρ (some (a : Int))) (hh : XO K th ρ none) : XE K (tSl (rSlX K) ta tl th) ρ (.tuple ((I.drop a).map .int)) :=
  xr_is (x_sliceT h hl hh) (by rw [cutD_map, cutD_from _ ha])
theorem x_catI {A B : List Int} (ha : XE K ta ρ (.tuple (A.map .int))) (hb : XE K tb ρ (.tuple (B.map .int))) (hz : A.length + B.length ≤ 100000) : XE K (tOp (rAddX K) ta tb) ρ (.tuple ((A ++ B).map .int)) :=
  xr_is (x_catT ha hb (by rw [List.length_map, List.length_map]; exact hz)) (by rw [List.map_append])
theorem x_oneI {t : TE} {i : Int} (h : XE K t ρ (.int i)) : XE K (tTup (tCons t tNil)) ρ (.tuple ([i].map .int)) := x_tup (xa_cons h xa_nil) (by simp)
end
/-! orders that are none -/
def bentL (I : List Int) (a : Nat) (z : Int) : List (List Int) :=
  [I.take a ++ I.drop (a + 1), I ++ [I.getD a 0], I.take a ++ [I.length + z] ++ I.drop (a + 1), I.take a ++ [-1 - z] ++ I.drop (a + 1)] ++ (if 1 < I.length then [I.take a ++ [(atI I (a - 1)).getD 0] ++ I.drop (a + 1)] else [])
theorem ahead_at {I : List Int} {a : Nat} (ha : a < I.length) (h1 : 1 < I.length) : ∃ (j : Nat) (h : j < I.length), j ≠ a ∧ atI I (a - 1) = some I[j] := by
  by_cases z : a = 0
  · refine ⟨I.length - 1, by omega, by omega, ?_⟩
    have e : ixN I.length (((a : Nat) : Int) - 1) = some (I.length - 1) := by
      unfold ixN
      rw [if_neg (by omega), if_pos (by omega)]
      congr 1
      omega
    unfold atI
    rw [e]
    exact List.getElem?_eq_getElem _
  · refine ⟨a - 1, by omega, by omega, ?_⟩
    rw [show ((a : Nat) : Int) - 1 = ((a - 1 : Nat) : Int) by omega]
    exact atI_nat (List.getElem?_eq_getElem _)
theorem bent_bad {c : Nat} {os : List Nat} {a : Nat} {z : Int} (hp : os.Perm (List.range c)) (ha : a < c) (hz : 0 ≤ z) : ∀ ns ∈ bentL (os.map fun i : Nat => (i : Int)) a z, ¬ isOrd c ns ∧ ns.length ≤ c + 1 := by
  obtain ⟨I, eI⟩ : ∃ I, I = os.map fun i : Nat => (i : Int) := ⟨_, rfl⟩
  rw [← eI]
  have pI : I.Perm ((List.range c).map fun i : Nat => (i : Int)) := by rw [eI]; exact hp.map _
  have lI : I.length = c := by rw [pI.length_eq, List.length_map, List.length_range]
  have mem : ∀ x, x ∈ I ↔ 0 ≤ x ∧ x < c := fun x => by
    rw [pI.mem_iff, List.mem_map]
    constructor
    · rintro ⟨i, hi, rfl⟩
      have := List.mem_range.mp hi
      omega
    · rintro ⟨h1, h2⟩
      exact ⟨x.toNat, List.mem_range.mpr (by omega), by omega⟩
  have same : ∀ ns, isOrd c ns → ns.length = c ∧ ∀ x, x ∈ ns ↔ 0 ≤ x ∧ x < c := fun ns h => by
    have p := isOrd_perm h
    exact ⟨by rw [p.length_eq, List.length_map, List.length_range], fun x => by rw [p.mem_iff, ← pI.mem_iff, mem]⟩
  have nd : I.Nodup := by
    rw [eI, List.Nodup, List.pairwise_map]
    exact (hp.nodup_iff.mpr List.nodup_range).imp fun h => by omega
  have l1 : (I.take a).length = a := by rw [List.length_take]; omega
  have l2 : (I.drop (a + 1)).length = c - (a + 1) := by rw [List.length_drop, lI]
  intro ns hns
  simp only [bentL, List.mem_append, List.mem_cons, List.not_mem_nil, or_false] at hns
  rcases hns with (rfl | rfl | rfl | rfl) | hns
  · refine ⟨fun h => ?_, ?_⟩
    · have := (same _ h).1
      rw [List.length_append, l1, l2] at this
      omega
    · rw [List.length_append, l1, l2]
      omega
  · refine ⟨fun h => ?_, ?_⟩
    · have := (same _ h).1
      rw [List.length_append, lI] at this
      simp at this
    · rw [List.length_append, lI]
      simp
  · refine ⟨fun h => ?_, ?_⟩
    · have := ((same _ h).2 (I.length + z)).mp (by simp)
      rw [lI] at this
      omega
    · rw [List.length_append, List.length_append, l1, l2]
      simp only [List.length_cons, List.length_nil]
      omega
  · refine ⟨fun h => ?_, ?_⟩
    · have := ((same _ h).2 (-1 - z)).mp (by simp)
      omega
    · rw [List.length_append, List.length_append, l1, l2]
      simp only [List.length_cons, List.length_nil]
      omega
  · split at hns
    · rename_i h1
      rw [List.mem_singleton] at hns
      subst hns
      obtain ⟨j, hj, ja, e⟩ := ahead_at (by omega : a < I.length) h1
      have ha' : a < I.length := by omega
      refine ⟨fun h => ?_, ?_⟩
      · have m := ((same _ h).2 I[a]).mpr ((mem _).mp (List.getElem_mem _))
        rw [e] at m
        simp only [Option.getD_some, List.mem_append, List.mem_singleton] at m
        rcases m with (m | m) | m
        · obtain ⟨k, hk, q⟩ := List.getElem_of_mem m
          rw [List.getElem_take] at q
          have := (List.getElem_inj nd).mp q
          rw [l1] at hk
          omega
        · have := (List.getElem_inj nd).mp m
          omega
        · obtain ⟨k, hk, q⟩ := List.getElem_of_mem m
          rw [List.getElem_drop] at q
          have := (List.getElem_inj nd).mp q
          omega
      · rw [List.length_append, List.length_append, l1, l2]
        simp only [List.length_cons, List.length_nil]
        omega
    · cases hns
end WL

namespace WL
open PySem L2
/-! ### fractions of any whole numbers -/
theorem divInt_turn {a b : Int} (hb : b ≠ 0) : Rat.divInt (0 - a) (0 - b) = Rat.divInt a b :=
  (Rat.divInt_eq_divInt_iff (by omega) hb).mpr (by rw [Int.zero_sub, Int.zero_sub, Int.neg_mul, Int.mul_neg])
theorem divInt_bd {a b : Int} (hb : b ≠ 0) : (Rat.divInt a b).num.natAbs ≤ a.natAbs ∧ (Rat.divInt a b).den ≤ b.natAbs := by
  have pos : ∀ {a b : Int}, 0 < b → (Rat.divInt a b).num.natAbs ≤ a.natAbs ∧ (Rat.divInt a b).den ≤ b.natAbs := fun {a b} h => by
    obtain ⟨e1, e2⟩ := frac_pos (a := a) h
    constructor
    · rw [← e1]
      exact Int.natAbs_ediv_le_natAbs _ _
    · have := Int.natAbs_ediv_le_natAbs b (Int.gcd a b)
      rw [e2] at this
      exact this
  by_cases h : 0 < b
  · exact pos h
  · have := pos (a := 0 - a) (b := 0 - b) (by omega)
    rw [divInt_turn hb] at this
    omega
theorem worth {n d : Int} (hd : d ≠ 0) : (Rat.divInt n d).num * d = n * ((Rat.divInt n d).den : Int) :=
  (Rat.divInt_eq_divInt_iff (by have := den_pos (Rat.divInt n d); omega) hd).mp (Rat.num_divInt_den _)
theorem coprime (q : Rat) : Int.gcd q.num (q.den : Int) = 1 := by
  have := q.reduced
  unfold Nat.Coprime at this
  rw [Int.gcd, Int.natAbs_natCast]
  exact this
/-- a fraction of small numbers -/
def Sw (q : Rat) : Prop := q.num.natAbs < 2 ^ 140 ∧ q.den < 2 ^ 140
theorem Sw.sm {q : Rat} (h : Sw q) : Sm q := ⟨Nat.lt_of_lt_of_le h.1 (Nat.pow_le_pow_right (by decide) (by decide)), Nat.lt_of_lt_of_le h.2 (Nat.pow_le_pow_right (by decide) (by decide))⟩
theorem Sw_divInt {a b : Int} (hb : b ≠ 0) (h1 : a.natAbs < 2 ^ 140) (h2 : b.natAbs < 2 ^ 140) : Sw (Rat.divInt a b) := by
  have := divInt_bd (a := a) hb
  exact ⟨Nat.lt_of_le_of_lt this.1 h1, Nat.lt_of_le_of_lt this.2 h2⟩
theorem log140 {b : Int} (h : b.natAbs < 2 ^ 140) : b.natAbs.log2 < 9000 := Nat.lt_trans (log_lt h (by decide)) (by decide)
/-- the number drawn of a cell -/
def numF (c : Int) : Int := if c % 4 = 0 then c / 4 * 982451653 % (2 * 10 ^ 40 - 1) - 10 ^ 40 + 1 else if c % 4 = 1 then c / 4 % 2001 - 1000 else c / 4 % 25 - 12
theorem numF_bd (c : Int) : (numF c).natAbs < 2 ^ 140 := by
  have big : (10 : Int) ^ 40 < 2 ^ 139 := by decide +kernel
  have b1 := Int.emod_nonneg (c / 4 * 982451653) (show (2 * 10 ^ 40 - 1 : Int) ≠ 0 by decide)
  have b2 := Int.emod_lt_of_pos (c / 4 * 982451653) (show (0 : Int) < 2 * 10 ^ 40 - 1 by decide)
  have e : (2 : Nat) ^ 140 = 2 * 2 ^ 139 := by decide +kernel
  have g : (((2 : Nat) ^ 139 : Nat) : Int) = 2 ^ 139 := by decide +kernel
  have s1 : (5000 : Int) < 2 ^ 139 := by decide +kernel
  rw [e]
  generalize (10 : Int) ^ 40 = T at *
  generalize (2 : Nat) ^ 139 = M at *
  generalize (2 : Int) ^ 139 = M' at *
  unfold numF
  split
  · omega
  · split <;> omega
end WL

namespace WL
open PySem L2
section
variable {K : PySem.W.Frag} {N : Addr → Prop} {ρ : List Sl} {σ : St} {F H F' H' F0 H0 : Hp} {ta tb te tl tc : TE} {tt tu : TT} {P : Post} {t : TS}
/-! ### comprehensions over what is read as it stands, any target -/
/-- what a target does with an item: the slots then -/
def Tgt (K : PySem.W.Frag) (g : TG) (vs : List Nat) (ρ : List Sl) (d : PyData) (r : List Sl) : Prop := ∀ (N : Addr → Prop) (σ : St) (F H : Hp) (y : V), En K N (wipeR ρ vs) (wipe σ vs) F H → Dp K F y d → ∀ T : St → Hp → Prop, (∀ τ, wipe τ vs = wipe σ vs → En K N r τ F H → T τ H) → g y (wipe σ vs) H T
theorem tgt_name {j : Nat} {vs : List Nat} {d : PyData} (hj : j ∈ vs) : Tgt K (gName j) vs ρ d ((wipeR ρ vs).set j (.da d)) := fun N σ F H y e p T k => k _ (by rw [wipe_back hj, wipe_idem]) (e.putD (.refl e.fh) p)
theorem tgt_pair {i j : Nat} {vs : List Nat} {c d : PyData} (hi : i ∈ vs) (hj : j ∈ vs) : Tgt K (gTup K 2 (gCons (gName i) (gCons (gName j) gNil))) vs ρ (.tuple [c, d]) (((wipeR ρ vs).set i (.da c)).set j (.da d)) := fun N σ F H y e p T k => by
  obtain ⟨a, xs, rfl, s, q⟩ := dp_tuple p
  have len := dpa_len q
  cases q with
  | cons q1 q =>
    cases q with
    | cons q2 q =>
      cases q
      exact ⟨a, _, rfl, sq_t e.fh s, len, _, _, rfl, _, _, rfl, rfl, k _ (by rw [wipe_back hj, wipe_back hi, wipe_idem]) ((e.putD (.refl e.fh) q1).putD (.refl e.fh) q2)⟩
theorem lc_turnG {α : Type} {g : TG} {tt : TT} {te : TE} {xs : List α} {p : α → Bool} {h : α → PyData} {vs : List Nat} {rx : α → List Sl} {em : α → PyData} {i : Nat} {x : α} {y : V} {D : Addr} {F1 H1 H2 : Hp} (hx : xs[i]? = some x) (hz : xs.length ≤ 100000)
    (en : En K N ρ σ F1 H1) (nD : H1 D = none) (hg : Tgt K g vs ρ (em x) (rx x))
    (py : Dp K F1 y (em x)) (ht : XT K tt (rx x) (p x)) (he : p x = true → XE K te (rx x) (h x))
    (w : ∃ F' acc, Gr F1 H1 F' H2 ∧ F' D = none ∧ H2 D = some (.lst acc) ∧ DpAll K F' acc (((xs.take i).filter p).map h)) :
    g y (wipe σ vs) H2 fun σ2 H2 => wipe σ2 vs = wipe σ vs ∧ tt σ2 H2 fun b H3 => if b = true then te σ2 H3 fun y H4 => ∃ acc, H4 D = some (.lst acc) ∧ acc.length < sizeLine ∧
      (∃ F' acc', Gr F1 H1 F' (upd H4 D (.lst (acc ++ [y]))) ∧ F' D = none ∧ (upd H4 D (.lst (acc ++ [y]))) D = some (.lst acc') ∧ DpAll K F' acc' (((xs.take (i + 1)).filter p).map h)) else
      (∃ F' acc', Gr F1 H1 F' H3 ∧ F' D = none ∧ H3 D = some (.lst acc') ∧ DpAll K F' acc' (((xs.take (i + 1)).filter p).map h)) := by
  obtain ⟨F', acc, gr, fD, hD, da⟩ := w
  have hi : i < xs.length := (List.getElem?_eq_some_iff.mp hx).1
  have tk : xs.take (i + 1) = xs.take i ++ [x] := by rw [List.take_succ, hx]; rfl
  refine hg N σ F' H2 y ((en.gr gr).wipe vs) (dp_mono gr.ff _ _ py) _ fun τ back en2 => ⟨back, ht N _ F' H2 en2 _ fun F3 H3 g3 => ?_⟩
  have fD3 : F3 D = none := g3.ap D _ fD hD
  cases hp : p x with
  | true =>
    rw [if_pos rfl]
    refine (he hp).e (en2.gr g3) fun v F4 H4 g4 p4 => ?_
    have fD4 : F4 D = none := g4.ap D _ fD3 (g3.hh _ _ hD)
    have g5 := (gr.trans g3).trans g4
    refine ⟨acc, g4.hh _ _ (g3.hh _ _ hD), ?_, F4, acc ++ [v], ⟨g5.ff, fun a u q => ?_, fun a u q => ?_, g5.ap⟩, fD4, upd_same, ?_⟩
    · have l1 := dpa_len da
      rw [List.length_map] at l1
      have l2 := List.length_filter_le p (xs.take i)
      have l3 : (xs.take i).length ≤ xs.length := by rw [List.length_take]; exact Nat.min_le_right _ _
      exact Nat.lt_of_le_of_lt (by omega : acc.length ≤ 100000) (by decide)
    · rw [upd_ne (ne_of_none q nD)]; exact g5.hh a u q
    · rw [upd_ne (ne_of_none q fD4)]; exact g5.fh a u q
    · rw [tk, List.filter_append, List.map_append]
      have e1 : ([x].filter p).map h = [h x] := by simp [hp]
      rw [e1]
      exact dpa_app (dps_mono (g3.ff.trans g4.ff) _ _ da) (dpa_one p4)
  | false =>
    rw [if_neg Bool.false_ne_true]
    refine ⟨F3, acc, gr.trans g3, fD3, g3.hh _ _ hD, ?_⟩
    rw [tk, List.filter_append, List.map_append]
    have e1 : ([x].filter p).map h = [] := by simp [hp]
    rw [e1, List.append_nil]
    exact dps_mono g3.ff _ _ da
theorem x_lcG {α : Type} {g : TG} {b : Bool} {ds : List PyData} {vs : List Nat} (xs : List α) (em : α → PyData) (rx : α → List Sl) (p : α → Bool) (h : α → PyData) (hl : XS K tl ρ b ds) (hx : ds = xs.map em) (hz : xs.length ≤ 100000) (hg : ∀ x ∈ xs, Tgt K g vs ρ (em x) (rx x))
    (ht : ∀ x ∈ xs, XT K tt (rx x) (p x)) (he : ∀ x ∈ xs, p x = true → XE K te (rx x) (h x)) : XR K (tLc (iSeq K tl) g tt te vs) ρ (.ow ((xs.filter p).map h)) := fun N σ F H e Q q => hl N σ F H e _ fun a ys F1 H1 g1 s pq => by
  have en := e.gr g1
  have len : ys.length = xs.length := by rw [dpa_len pq, hx, List.length_map]
  have turn : ∀ D, H1 D = none → ∀ i (y : V) H2, ys[i]? = some y → (∃ F' acc, Gr F1 H1 F' H2 ∧ F' D = none ∧ H2 D = some (.lst acc) ∧ DpAll K F' acc (((xs.take i).filter p).map h)) →
      g y (wipe σ vs) H2 fun σ2 H2 => wipe σ2 vs = wipe σ vs ∧ tt σ2 H2 fun b H3 => if b = true then te σ2 H3 fun y H4 => ∃ acc, H4 D = some (.lst acc) ∧ acc.length < sizeLine ∧
      (∃ F' acc', Gr F1 H1 F' (upd H4 D (.lst (acc ++ [y]))) ∧ F' D = none ∧ (upd H4 D (.lst (acc ++ [y]))) D = some (.lst acc') ∧ DpAll K F' acc' (((xs.take (i + 1)).filter p).map h)) else
      (∃ F' acc', Gr F1 H1 F' H3 ∧ F' D = none ∧ H3 D = some (.lst acc') ∧ DpAll K F' acc' (((xs.take (i + 1)).filter p).map h)) := by
    intro D nD i y H2 hy w
    obtain ⟨d', hd', pd⟩ := dpa_get' pq hy
    rw [hx, List.getElem?_map] at hd'
    cases hx' : xs[i]? with
    | none => rw [hx'] at hd'; cases hd'
    | some x =>
      rw [hx'] at hd'
      cases hd'
      have hm := List.mem_of_getElem? hx'
      exact lc_turnG hx' hz en nD (hg x hm) pd (ht x hm) (he x hm) w
  have start : ∀ D, H1 D = none → (∃ F' acc, Gr F1 H1 F' (upd H1 D (.lst [])) ∧ F' D = none ∧ (upd H1 D (.lst [])) D = some (.lst acc) ∧ DpAll K F' acc (((xs.take 0).filter p).map h)) := fun D nD =>
    ⟨F1, [], .own en.fh nD, en.fh.free nD, upd_same, .nil⟩
  have done : ∀ D H2, H1 D = none → (∃ F' acc, Gr F1 H1 F' H2 ∧ F' D = none ∧ H2 D = some (.lst acc) ∧ DpAll K F' acc (((xs.take xs.length).filter p).map h)) → Q (.ref D) H2 := fun D H2 nD ⟨F', acc, g, fD, hD, da⟩ => by
    rw [List.take_length] at da
    exact q _ F' H2 (g1.trans g) (ret_ow hD fD (g1.hh.free nD) da)
  cases b with
  | false =>
    exact ⟨a, rfl, .inl ⟨⟨ys, s⟩, fun D nD => lc_list (K := K) (a := a) (xs := ys) (fun i H2 => ∃ F' acc, Gr F1 H1 F' H2 ∧ F' D = none ∧ H2 D = some (.lst acc) ∧ DpAll K F' acc (((xs.take i).filter p).map h)) (start D nD)
      (fun i H2 _ ⟨F', _, g, _⟩ => g.hh.seq s) (fun i y H2 hy w => turn D nD i y H2 hy w) (by rw [len]; exact fun H2 w => done D H2 nD w)⟩⟩
  | true =>
    exact ⟨a, rfl, .inr ⟨⟨ys, s⟩, fun D nD => lc_tup (K := K) (a := a) (xs := ys) (fun i H2 => ∃ F' acc, Gr F1 H1 F' H2 ∧ F' D = none ∧ H2 D = some (.lst acc) ∧ DpAll K F' acc (((xs.take i).filter p).map h)) (start D nD)
      (fun i H2 _ ⟨F', _, g, _⟩ => sq_t g.hh s) (fun i y H2 hy w => turn D nD i y H2 hy w) (by rw [len]; exact fun H2 w => done D H2 nD w)⟩⟩
/-! ### in, for data of any depth; sums -/
theorem room65 {k : Nat} {A : Around} (r : Room k A) : A.units + 65 < cLine := by have := r.un; omega
theorem x_notInD {d : PyData} {ds : List PyData} (h : XP K te ρ d) (hl : XE K tl ρ (.list ds)) (sd : SeqAt.shaped d = true) (sl : SeqAt.shaped (.list ds) = true) : XE K (tOp (rNotInD K) te tl) ρ (.bool (!ds.any fun z => PyData.eqv z d)) := xe_intro fun N σ F H e Q q => h N σ F H e _ fun x F1 H1 g1 p1 => hl.e (e.gr g1) fun y F2 H2 g2 p2 =>
  ⟨d, ds, dp_mono g2.hh _ _ p1, dp_mono g2.fh _ _ p2, sd, sl, q _ F2 H2 (g1.trans g2) (.bl _)⟩
theorem x_sum {ns : List Int} (h : XE K ta ρ (.list (ns.map .int))) : XE K (tCB (rSum K) (tCons ta tNil)) ρ (.int ns.sum) := xe_intro fun N σ F H e Q q => h.e e fun v F1 H1 g1 p => by
  obtain ⟨a, xs, rfl, s, d⟩ := dp_list p
  rw [dpa_ints d] at s
  exact ⟨a, ns, rfl, g1.fh.seq s, q _ F1 H1 g1 (.int _)⟩
end
section
variable {X : Cx} {K : PySem.W.Frag}
theorem op_notInDK (hu : X.A.units + 65 < cLine) (hK : X.K = K := by rfl) : OpR X (compareOp .NotIn) (rNotInD K) := by subst hK; exact op_notInD hu
end
end WL

namespace WL
open PySem L2
/-! ### a deal that is picked -/
abbrev Lots := List (Rat × List Nat)
/-- the weights up to a place -/
def usF (u : Rat) : Lots → Nat → Rat
  | _, 0 => u
  | [], _ + 1 => u
  | x :: r, i + 1 => usF (u + x.1) r i
theorem usF_snoc : ∀ (L : Lots) (u : Rat) (i : Nat) (x : Rat × List Nat), L[i]? = some x → usF u L (i + 1) = usF u L i + x.1
  | [], _, _, _, h => by simp at h
  | y :: r, u, 0, x, h => by
    cases (show some y = some x from h)
    cases r <;> rfl
  | y :: r, u, i + 1, x, h => usF_snoc r (u + y.1) i x h
def pk (q : Rat) : Rat → Lots → Option (List Nat)
  | _, [] => none
  | u, x :: r => if q < u + x.1 then some x.2 else pk q (u + x.1) r
theorem usF_ge : ∀ (L : Lots) (u : Rat) (i : Nat), (∀ x ∈ L, 0 < x.1) → u ≤ usF u L i
  | _, u, 0, _ => by cases ‹Lots› <;> exact Rat.le_refl
  | [], u, _ + 1, _ => Rat.le_refl
  | x :: r, u, i + 1, h => by
    have h1 := usF_ge r (u + x.1) i fun y m => h y (List.mem_cons_of_mem _ m)
    have h2 := h x List.mem_cons_self
    show u ≤ usF (u + x.1) r i
    grind
theorem pk_at : ∀ (L : Lots) (u q : Rat) (i : Nat) (x : Rat × List Nat), (∀ x ∈ L, 0 < x.1) → L[i]? = some x → usF u L i ≤ q → q < usF u L (i + 1) → pk q u L = some x.2
  | [], _, _, _, _, _, h, _, _ => by simp at h
  | y :: r, u, q, 0, x, hw, h, h1, h2 => by
    cases (show some y = some x from h)
    have e : usF u (y :: r) 1 = u + y.1 := by cases r <;> rfl
    rw [e] at h2
    unfold pk
    rw [if_pos h2]
  | y :: r, u, q, i + 1, x, hw, h, h1, h2 => by
    have hr : ∀ x ∈ r, 0 < x.1 := fun z m => hw z (List.mem_cons_of_mem _ m)
    have h3 := usF_ge r (u + y.1) i hr
    have h1' : usF (u + y.1) r i ≤ q := h1
    unfold pk
    rw [if_neg (by grind)]
    exact pk_at r (u + y.1) q i x hr h h1' h2
theorem pk_snoc (q : Rat) : ∀ (L : Lots) (u : Rat) (i : Nat) (x : Rat × List Nat), L[i]? = some x → pk q u (L.take (i + 1)) = match pk q u (L.take i) with
    | some d => some d
    | none => if q < usF u L (i + 1) then some x.2 else none
  | [], _, _, _, h => by simp at h
  | y :: r, u, 0, x, h => by
    cases (show some y = some x from h)
    have e : usF u (y :: r) 1 = u + y.1 := by cases r <;> rfl
    rw [e]
    show (if q < u + y.1 then some y.2 else pk q (u + y.1) []) = if q < u + y.1 then some y.2 else none
    rfl
  | y :: r, u, i + 1, x, h => by
    have ih := pk_snoc q r (u + y.1) i x h
    rw [List.take_succ_cons, List.take_succ_cons]
    unfold pk
    split
    · rfl
    · exact ih
theorem pk_none (q : Rat) : ∀ (L : Lots) (u : Rat), pk q u L = none → ¬ q < u → ¬ q < usF u L L.length
  | [], _, _, h => h
  | y :: r, u, h, _ => by
    unfold pk at h
    split at h
    · cases h
    · exact pk_none q r (u + y.1) h ‹_›
theorem pk_drop (q : Rat) : ∀ (L : Lots) (u : Rat) (i : Nat) (x : Rat × List Nat), L[i]? = some x → pk q (usF u L i) (L.drop i) = if q < usF u L (i + 1) then some x.2 else pk q (usF u L (i + 1)) (L.drop (i + 1))
  | [], _, _, _, h => by simp at h
  | y :: r, u, 0, x, h => by
    cases (show some y = some x from h)
    have e : usF u (y :: r) 1 = u + y.1 := by cases r <;> rfl
    rw [e]
    rfl
  | y :: r, u, i + 1, x, h => pk_drop q r (u + y.1) i x h
/-- just ahead of a border -/
theorem ahead_ok {u w : Rat} (hw : 0 < w) : 0 ≤ w + Rat.divInt (-1) (((u + w).den : Int) * (w.den : Int) * 10 ^ 6) ∧ Rat.divInt (-1) (((u + w).den : Int) * (w.den : Int) * 10 ^ 6) < 0 := by
  have d1 := den_pos (u + w)
  have d2 := den_pos w
  have d12 := Int.mul_pos d1 d2
  obtain ⟨X, eX⟩ : ∃ X, X = ((u + w).den : Int) * (w.den : Int) * 10 ^ 6 := ⟨_, rfl⟩
  have hX : 0 < X := by rw [eX]; exact Int.mul_pos d12 (by decide)
  have hle : (w.den : Int) ≤ X := by
    rw [eX]
    have z := Int.mul_le_mul_of_nonneg_right (show (1 : Int) ≤ ((u + w).den : Int) by omega) (show (0 : Int) ≤ (w.den : Int) by omega)
    rw [Int.one_mul] at z
    omega
  rw [← eX]
  have hn : 1 ≤ w.num := by
    have := (Rat.lt_iff 0 w).mp hw
    simp at this
    omega
  constructor
  · rw [← Rat.num_divInt_den w, Rat.divInt_add_divInt _ _ (by omega) (by omega)]
    refine Rat.divInt_nonneg ?_ (Int.le_of_lt (Int.mul_pos d2 hX))
    have z := Int.mul_le_mul_of_nonneg_right hn (Int.le_of_lt hX)
    rw [Int.one_mul] at z
    rw [Int.neg_mul, Int.one_mul]
    omega
  · rw [show (0 : Rat) = Rat.divInt 0 X by simp]
    exact (divInt_lt hX).mpr (by decide)
theorem fr_ahead {X : Int} (hX : 0 < X) : PyData.tuple [.int (-1), .int X] = fr (Rat.divInt (-1) X) := by
  obtain ⟨e1, e2⟩ := frac_pos (a := -1) hX
  have g : Int.gcd (-1) X = 1 := by simp [Int.gcd]
  rw [g] at e1 e2
  unfold fr
  rw [← e1, ← e2]
  simp
theorem fr_whole (k : Int) : PyData.tuple [.int k, .int 1] = fr (Rat.divInt k 1) := by
  obtain ⟨e1, e2⟩ := frac_pos (a := k) (b := 1) (by decide)
  unfold fr
  rw [← e1, ← e2]
  simp
/-! the lots drawn -/
def lSize (c0 : Int) : Int := if c0 / 6 % 3 = 0 then 2 else if c0 / 6 % 3 = 1 then 60 else 10 ^ 12
theorem lSize_bd (c0 : Int) : 0 < lSize c0 ∧ lSize c0 ≤ 10 ^ 12 := by
  unfold lSize
  split
  · decide
  · split <;> decide
def lTot (r : List (Int × List Nat)) : Int := (r.map (·.1)).sum
def lLots (r : List (Int × List Nat)) (T : Int) : Lots := r.map fun x => (Rat.divInt x.1 T, x.2)
theorem lLots_us (T : Int) (hT : T ≠ 0) : ∀ (r : List (Int × List Nat)) (a : Int) (i : Nat), usF (Rat.divInt a T) (lLots r T) i = Rat.divInt (a + lTot (r.take i)) T
  | [], a, 0 => by simp [lLots, usF, lTot]
  | _ :: _, a, 0 => by simp [lLots, usF, lTot]
  | [], a, i + 1 => by simp [lLots, usF, lTot]
  | x :: r, a, i + 1 => by
    show usF (Rat.divInt a T + Rat.divInt x.1 T) (lLots r T) i = _
    rw [divInt_add_same _ _ hT, lLots_us T hT r (a + x.1) i]
    simp only [lTot, List.take_succ_cons, List.map_cons, List.sum_cons]
    rw [Int.add_assoc]
theorem lTot_take : ∀ (r : List (Int × List Nat)) (i : Nat), (∀ x ∈ r, 1 ≤ x.1) → 0 ≤ lTot (r.take i) ∧ lTot (r.take i) ≤ lTot r
  | [], i, _ => by simp [lTot]
  | x :: r, 0, h => by
    have h1 := (lTot_take r 0 fun y m => h y (List.mem_cons_of_mem _ m))
    have h2 := h x List.mem_cons_self
    simp [lTot] at h1 ⊢
    omega
  | x :: r, i + 1, h => by
    have h1 := (lTot_take r i fun y m => h y (List.mem_cons_of_mem _ m))
    have h2 := h x List.mem_cons_self
    simp only [lTot, List.take_succ_cons, List.map_cons, List.sum_cons] at h1 ⊢
    omega
theorem lTot_le : ∀ (r : List (Int × List Nat)), (∀ x ∈ r, x.1 ≤ 10 ^ 12) → lTot r ≤ r.length * 10 ^ 12
  | [], _ => by simp [lTot]
  | x :: r, h => by
    have h1 := lTot_le r fun y m => h y (List.mem_cons_of_mem _ m)
    have h2 := h x List.mem_cons_self
    simp only [lTot, List.map_cons, List.sum_cons, List.length_cons] at h1 ⊢
    omega
theorem lTot_pos : ∀ (r : List (Int × List Nat)), r ≠ [] → (∀ x ∈ r, 1 ≤ x.1) → 0 < lTot r
  | [], h, _ => absurd rfl h
  | x :: r, _, h => by
    have h1 := (lTot_take r 0 fun y m => h y (List.mem_cons_of_mem _ m))
    have h2 := h x List.mem_cons_self
    simp [lTot] at h1 ⊢
    omega
/-- lots that come to a whole -/
structure LotsOk (L : Lots) (c : Nat) : Prop where
  len : L.length ≤ 40
  pos : ∀ x ∈ L, 0 < x.1
  deal : ∀ x ∈ L, x.2.Perm (List.range c)
  sw : ∀ x ∈ L, Sw x.1
  us : ∀ i, Sw (usF 0 L i)
  one : usF 0 L L.length = 1
theorem w140 {i j : Int} (a b : Nat) (ha : i.natAbs < 2 ^ a) (hb : j.natAbs < 2 ^ b) : (i * j).natAbs < 2 ^ (a + b) := by
  rw [Int.natAbs_mul, Nat.pow_add]
  exact Nat.mul_lt_mul'' ha hb
theorem Sm_add {a b : Rat} (ha : Sw a) (h1 : b.num.natAbs < 2 ^ 300) (h2 : b.den < 2 ^ 300) : Sm (a + b) := by
  have na : ((a.den : Int)).natAbs < 2 ^ 140 := by rw [Int.natAbs_natCast]; exact ha.2
  have nb : ((b.den : Int)).natAbs < 2 ^ 300 := by rw [Int.natAbs_natCast]; exact h2
  have t1 := w140 140 300 ha.1 nb
  have t2 := w140 300 140 h1 na
  have t3 := w140 140 300 na nb
  have d0 := den_mul_pos a b
  have bd := divInt_bd (a := a.num * (b.den : Int) + b.num * (a.den : Int)) (b := (a.den : Int) * (b.den : Int)) (by omega)
  rw [plus_eq] at bd
  have e1 : 2 ^ (140 + 300) ≤ 2 ^ 440 := Nat.le_refl _
  have e2 : 2 ^ (300 + 140) ≤ 2 ^ 440 := Nat.le_refl _
  have e3 : 2 ^ 440 + 2 ^ 440 ≤ 2 ^ 4000 := by
    have := Nat.pow_le_pow_right (n := 2) (by decide) (show 441 ≤ 4000 by decide)
    have e : 2 ^ 441 = 2 ^ 440 * 2 := Nat.pow_succ ..
    omega
  have n1 := Nat.lt_of_lt_of_le t1 e1
  have n2 := Nat.lt_of_lt_of_le t2 e2
  have n3 := Nat.lt_of_lt_of_le t3 e1
  generalize 2 ^ 440 = M at *
  constructor
  · refine Nat.lt_of_le_of_lt bd.1 ?_
    refine Nat.lt_of_lt_of_le ?_ e3
    omega
  · refine Nat.lt_of_le_of_lt bd.2 ?_
    refine Nat.lt_of_lt_of_le n3 ?_
    omega
theorem fr_naught : PyData.tuple [.int 0, .int 1] = fr 0 := (fr_whole 0).trans (by simp)
theorem usF_up : ∀ (L : Lots) (u : Rat) (i j : Nat), (∀ x ∈ L, 0 < x.1) → i ≤ j → j ≤ L.length → usF u L i ≤ usF u L j
  | L, u, 0, j, h, _, _ => by
    have := usF_ge L u j h
    rw [show usF u L 0 = u by cases L <;> rfl]
    exact this
  | [], u, i + 1, j, h, h1, h2 => by simp at h2; omega
  | x :: r, u, i + 1, 0, h, h1, h2 => by omega
  | x :: r, u, i + 1, j + 1, h, h1, h2 => usF_up r (u + x.1) i j (fun y m => h y (List.mem_cons_of_mem _ m)) (by omega) (by simp at h2; omega)
theorem pk_mem (q : Rat) : ∀ (L : Lots) (u : Rat) (d : List Nat), pk q u L = some d → ∃ x ∈ L, x.2 = d
  | [], _, _, h => nomatch h
  | y :: r, u, d, h => by
    unfold pk at h
    split at h
    · cases h
      exact ⟨y, List.mem_cons_self, rfl⟩
    · obtain ⟨x, m, e⟩ := pk_mem q r (u + y.1) d h
      exact ⟨x, List.mem_cons_of_mem _ m, e⟩
end WL

namespace WL
open PySem L2
/-! ### defs that change a list of lists of their caller -/
section
variable {K : PySem.W.Frag} {N : Addr → Prop} {ρ : List Sl} {σ : L2.St} {F H F' H' F0 H0 : Hp} {ta tb te tc : TE} {P : Post} {t u : TS} {l : Addr} {dss : List (List PyData)}
theorem En.swap (e : En K N ρ σ F H) {i : Nat} {s s' : Sl} (h : ρ[i]? = some s) (f : ∀ A, SlOk K F H s σ[i]? A → SlOk K F H s' σ[i]? A) : En K N (ρ.set i s') σ F H := by
  obtain ⟨A, h1, h2, h3⟩ := e.en
  refine ⟨e.fh, by rw [List.length_set]; exact e.len, A, fun k t ht => ?_, h2, h3⟩
  by_cases z : k = i
  · subst z
    rw [List.getElem?_set_self (List.getElem?_eq_some_iff.mp h).1] at ht
    cases ht
    exact f _ (h1 k _ h)
  · rw [List.getElem?_set_ne (Ne.symm z)] at ht
    exact h1 k t ht
theorem En.at_ (e : En K N ρ σ F H) {i : Nat} (h : ρ[i]? = some (.ow2a l dss)) : σ[i]? = some (some (.ref l)) := by
  obtain ⟨A, h1, _⟩ := e.en
  obtain ⟨_, q, _⟩ := h1 i _ h
  exact q
theorem En.ofA (e : En K N ρ σ F H) {i : Nat} (h : ρ[i]? = some (.ow2a l dss)) : En K N (ρ.set i (.ow2 dss)) σ F H := e.swap h fun A ⟨ls, q⟩ => ⟨l, ls, q⟩
theorem En.toA (e : En K N ρ σ F H) {i : Nat} (h : ρ[i]? = some (.ow2 dss)) (hs : σ[i]? = some (some (.ref l))) : En K N (ρ.set i (.ow2a l dss)) σ F H := e.swap h fun A ⟨l', ls, q1, q⟩ => by
  rw [hs] at q1
  cases q1
  exact ⟨ls, hs, q⟩
theorem set_self {α : Type} {ρ : List α} {i : Nat} {s s' : α} (h : ρ[i]? = some s) : (ρ.set i s')[i]? = some s' := List.getElem?_set_self (List.getElem?_eq_some_iff.mp h).1
theorem s_know2 {i : Nat} (hi : ρ[i]? = some (.ow2 dss)) (k : ∀ l, WS K t (ρ.set i (.ow2a l dss)) P) : WS K t ρ P := fun F0 H0 σ F H D e f => by
  obtain ⟨l, ls, es, _⟩ := e.en.mut2 hi
  exact k l F0 H0 σ F H D ⟨e.gr, e.en.toA hi es⟩ f
theorem s_forget2 {i : Nat} (hi : ρ[i]? = some (.ow2a l dss)) (k : WS K t (ρ.set i (.ow2 dss)) P) : WS K t ρ P := fun F0 H0 σ F H D e f => k F0 H0 σ F H D ⟨e.gr, e.en.ofA hi⟩ f
/-- x[a][b] += e, the list of lists standing at l -/
theorem s_aug2a {i : Nat} {ds : List PyData} {a b m n : Int} {ja jb : Nat} {fn : Int → Int → Int} (hi : ρ[i]? = some (.ow2a l dss)) (ha : XE K ta (ρ.set i (.ow2 dss)) (.int a)) (hb : XE K tb (ρ.set i (.ow2 dss)) (.int b)) (h : XE K te (ρ.set i (.ow2 dss)) (.int n))
    (ja' : ixN dss.length a = some ja) (hr : dss[ja]? = some ds) (b0 : 0 ≤ b) (eb : b.toNat = jb) (hm : ds[jb]? = some (.int m)) (hz : ds.length ≤ 100000)
    (kk : P.nx (ρ.set i (.ow2a l (dss.set ja (ds.set jb (.int (fn m n))))))) : WS K (tAugS (tOp (rIx K) (tVar i) ta) tb te rGetL (ipI fn) rSetL) ρ P := fun F0 H0 σ F H D e f => by
  have es := e.en.at_ hi
  have e' : Es K F0 H0 (ρ.set i (.ow2 dss)) σ F H := ⟨e.gr, e.en.ofA hi⟩
  refine row_ev e' (set_self hi) ha ja' hr fun r F2 H2 g2 k => hb.e (e'.en.gr g2) fun y F3 H3 g3 p3 => ?_
  obtain ⟨xs, hx, dx, k4⟩ := k F3 H3 g3
  obtain ⟨v, hv, pv⟩ := dpa_get dx hm
  have jl := (List.getElem?_eq_some_iff.mp hm).1
  refine ⟨r, xs, b, v, rfl, dp_int p3, hx, b0, by omega, by rw [eb]; exact hv, h.e ((e'.en.gr g2).gr g3) fun z F4 H4 g4 p4 => ?_⟩
  obtain ⟨xs4, hx4, dx4, k5⟩ := k F4 H4 (g3.trans g4)
  have done := k5 _ _ (dpa_set (d := .int (fn m n)) (v := .int (fn m n)) (.int _) jb dx4)
  rw [List.set_set] at done
  have done2 := done.en.toA (i := i) (l := l) (set_self hi) es
  rw [List.set_set] at done2
  refine ⟨m, n, by rw [dp_int pv], dp_int p4, r, xs4, b, jb, rfl, dp_int p3, hx4, ?_, f.nx _ _ _ _ kk ⟨done.gr, done2⟩⟩
  unfold ixN
  rw [dpa_len dx4, if_pos b0, if_pos (by omega), eb]
/-! ### the promise -/
inductive ArgsOk (K : PySem.W.Frag) (F : Hp) (l : Addr) : List V → List (Option PyData) → Prop
  | nil : ArgsOk K F l [] []
  | da {v : V} {d : PyData} {vs : List V} {ss : List (Option PyData)} : Dp K F v d → ArgsOk K F l vs ss → ArgsOk K F l (v :: vs) (some d :: ss)
  | own {vs : List V} {ss : List (Option PyData)} : ArgsOk K F l vs ss → ArgsOk K F l (.ref l :: vs) (none :: ss)
theorem ArgsOk.len {vs : List V} {ss : List (Option PyData)} (h : ArgsOk K F l vs ss) : vs.length = ss.length := by
  induction h with
  | nil => rfl
  | da _ _ ih => exact congrArg (· + 1) ih
  | own _ ih => exact congrArg (· + 1) ih
theorem ArgsOk.getD : ∀ {vs : List V} {ss : List (Option PyData)}, ArgsOk K F l vs ss → ∀ (j : Nat) (d : PyData), ss[j]? = some (some d) → ∃ v, vs[j]? = some v ∧ Dp K F v d
  | _, _, .nil, j, d, q => by simp at q
  | _, _, .da p a, 0, d, q => by cases q; exact ⟨_, rfl, p⟩
  | _, _, .da p a, j + 1, d, q => a.getD j d q
  | _, _, .own a, 0, d, q => by cases q
  | _, _, .own a, j + 1, d, q => a.getD j d q
theorem ArgsOk.getN : ∀ {vs : List V} {ss : List (Option PyData)}, ArgsOk K F l vs ss → ∀ j : Nat, ss[j]? = some none → vs[j]? = some (V.ref l)
  | _, _, .nil, j, q => by simp at q
  | _, _, .da p a, 0, q => by cases q
  | _, _, .da p a, j + 1, q => a.getN j q
  | _, _, .own a, 0, q => rfl
  | _, _, .own a, j + 1, q => a.getN j q
def XM (K : PySem.W.Frag) (ta : TA) (ρ : List Sl) (l : Addr) (ss : List (Option PyData)) : Prop := ∀ (N : Addr → Prop) (σ : L2.St) (F H : Hp), En K N ρ σ F H → ∀ Q : List V → Hp → Prop, (∀ vs F' H', Gr F H F' H' → ArgsOk K F' l vs ss → Q vs H') → ta σ H Q
theorem ArgsOk.mono {vs : List V} {ss : List (Option PyData)} (h : ArgsOk K F l vs ss) (e : Same F F') : ArgsOk K F' l vs ss := by
  induction h with
  | nil => exact .nil
  | da p _ ih => exact .da (dp_mono e _ _ p) ih
  | own _ ih => exact .own ih
theorem xm_nil : XM K tNil ρ l [] := fun N σ F H e Q q => q [] F H (.refl e.fh) .nil
theorem xm_cons {d : PyData} {ss : List (Option PyData)} {tA : TA} (h : XE K te ρ d) (k : XM K tA ρ l ss) : XM K (tCons te tA) ρ l (some d :: ss) := fun N σ F H e Q q => h.e e fun v F1 H1 g1 p => k N σ F1 H1 (e.gr g1) _ fun vs F2 H2 g2 a => q _ F2 H2 (g1.trans g2) (.da (dp_mono g2.ff _ _ p) a)
theorem xm_own {i : Nat} {ss : List (Option PyData)} {tA : TA} (h : ρ[i]? = some (.ow2a l dss)) (k : XM K tA ρ l ss) : XM K (tCons (tVar i) tA) ρ l (none :: ss) := fun N σ F H e Q q => ⟨_, e.at_ h, k N σ F H e _ fun vs F2 H2 g2 a => q _ F2 H2 g2 (.own a)⟩
def slA (l : Addr) (dss : List (List PyData)) : Option PyData → Sl
  | some d => .da d
  | none => .ow2a l dss
/-- what a def promises that changes the list of lists handed in -/
def spM (K : PySem.W.Frag) (R : List (Option PyData) → List (List PyData) → List (List PyData) → Prop) : Sp := fun vs H Q _ => ∃ (F H0 : Hp) (l : Addr) (dss dss' : List (List PyData)) (ss : List (Option PyData)) (A : Addr → Prop),
  Same F H ∧ Same H0 H ∧ SlOk K F H (.ow2a l dss) (some (some (.ref l))) A ∧ (∀ a, A a → F a = none ∧ H0 a = none ∧ ∃ o, H a = some o) ∧ ArgsOk K F l vs ss ∧ R ss dss dss' ∧
  ∀ F' H' A', Gr F H0 F' H' → SlOk K F' H' (.ow2a l dss') (some (some (.ref l))) A' → (∀ a, A' a → F' a = none ∧ H0 a = none ∧ ∃ o, H' a = some o) → Q .non H'
theorem s_callM {R : List (Option PyData) → List (List PyData) → List (List PyData) → Prop} {E : L2.XK} {tA : TA} {i : Nat} {ss : List (Option PyData)} {dss' : List (List PyData)} (hi : ρ[i]? = some (.ow2a l dss)) (ha : XM K tA ρ l ss) (hR : R ss dss dss') (k : P.nx (ρ.set i (.ow2a l dss'))) :
    WS K (tDrop (tCall (spM K R) [] E tA)) ρ P := fun F0 H0 σ F H D e f => ha _ σ F H e.en _ fun vs F1 H1 g1 a1 => by
  have e1 := e.go g1
  obtain ⟨A, h1, h2, h3⟩ := e1.en.en
  classical
  obtain ⟨H0', hA, hN⟩ : ∃ H0' : Hp, (∀ a, A i a → H0' a = none) ∧ (∀ a, ¬ A i a → H0' a = H1 a) := ⟨fun a => if A i a then none else H1 a, fun a q => if_pos q, fun a q => if_neg q⟩
  have was : ∀ a o, H0 a = some o → H1 a = some o ∧ H0' a = some o := fun a o q => by
    have q1 := e1.gr.hh a o q
    have no : ¬ A i a := fun z => by
      have := (h3 i a z).2.1
      rw [this] at q
      cases q
    exact ⟨q1, by rw [hN a no]; exact q1⟩
  have oi := h1 i _ hi
  rw [e1.en.at_ hi] at oi
  show ∃ _, _
  rw [List.append_nil]
  refine ⟨F1, H0', l, dss, dss', ss, A i, e1.en.fh, fun a o q => ?_, oi, fun a q => ⟨(h3 i a q).1, hA a q, (h3 i a q).2.2⟩, a1, hR, fun F2 H2 A2 g s2 n2 => ?_⟩
  · by_cases z : A i a
    · rw [hA a z] at q; cases q
    · rw [hN a z] at q; exact q
  · refine f.nx _ σ F2 H2 k ⟨⟨e1.gr.ff.trans g.ff, fun a o q => g.hh a o (was a o q).2, g.fh, fun a o q q2 => g.ap a o (e1.gr.ap a o q q2) (was a o q2).2⟩, g.fh, by rw [List.length_set]; exact e1.en.len, fun j a => if j = i then A2 a else A j a, fun j t ht => ?_, fun j m a p q => ?_, fun j a p => ?_⟩
    · by_cases z : j = i
      · subst z
        rw [set_self hi] at ht
        cases ht
        rw [e1.en.at_ hi]
        exact s2.mono (Same.refl _) (fun _ _ _ q => q) fun a q => (if_pos rfl).mpr q
      · rw [List.getElem?_set_ne (Ne.symm z)] at ht
        refine (h1 j t ht).mono g.ff (fun a o p q => g.hh a o ?_) fun a p => (if_neg z).mpr p
        rw [hN a fun w => z (h2 j i a p w)]
        exact q
    · have key : ∀ j, j ≠ i → A2 a → A j a → False := fun j z p q => by
        obtain ⟨_, n0, _⟩ := n2 a p
        obtain ⟨_, _, o, ho⟩ := h3 j a q
        rw [hN a fun w => z (h2 j i a q w), ho] at n0
        cases n0
      by_cases z : j = i
      · by_cases y : m = i
        · rw [z, y]
        · exact (key m y ((if_pos z).mp p) ((if_neg y).mp q)).elim
      · by_cases y : m = i
        · exact (key j z ((if_pos y).mp q) ((if_neg z).mp p)).elim
        · exact h2 j m a ((if_neg z).mp p) ((if_neg y).mp q)
    · by_cases z : j = i
      · obtain ⟨n1, n0, n3⟩ := n2 a ((if_pos z).mp p)
        refine ⟨n1, ?_, n3⟩
        cases q : H0 a with
        | none => rfl
        | some o =>
          have := (was a o q).2
          rw [n0] at this
          cases this
      · have p' := (if_neg z).mp p
        obtain ⟨n1, n0, o, ho⟩ := h3 j a p'
        have h0 : H0' a = some o := by rw [hN a fun w => z (h2 j i a p' w)]; exact ho
        exact ⟨g.ap a o n1 h0, n0, o, g.hh a o h0⟩
/-- a body that leaves the list of lists at l, slot i, as dss' -/
def WSM (K : PySem.W.Frag) (t : TS) (ρ : List Sl) (i : Nat) (l : Addr) (dss' : List (List PyData)) : Prop := ∀ (F0 H0 : Hp) (σ : L2.St) (F H : Hp) (D : Ends), Es K F0 H0 ρ σ F H →
  (∀ r τ F' H', r[i]? = some (.ow2a l dss') → Es K F0 H0 r τ F' H' → D.nx τ H' ∧ D.rt .non H') → t D σ H
theorem wsm_of {i : Nat} {dss' : List (List PyData)} (h : WS K t ρ { nx := fun r => r[i]? = some (.ow2a l dss'), rt := fun _ => False }) : WSM K t ρ i l dss' := fun F0 H0 σ F H D e q =>
  h F0 H0 σ F H D e ⟨fun r τ F' H' z es => (q r τ F' H' z es).1, fun _ _ _ _ z => z.elim, fun _ _ _ _ z => z.elim, fun _ _ _ _ z => z.elim, fun _ _ _ z => z.elim, fun _ _ _ _ _ _ z => z.elim, fun _ _ _ _ _ z => z.elim⟩
theorem wsm_ret {i : Nat} {c : TT} {v w : TS} (h : XT K c ρ true) (k : ρ[i]? = some (.ow2a l dss)) : WSM K (tSeq (tIfS c tRetN v) w) ρ i l dss := fun F0 H0 σ F H D e q =>
  h _ σ F H e.en _ fun F' H' g => by
    rw [if_pos rfl]
    exact (q ρ σ F' H' k (e.go g)).2
def startM (N : List Str) (l : Addr) (dss : List (List PyData)) (ss : List (Option PyData)) : List Sl := ss.map (slA l dss) ++ List.replicate (N.length - ss.length) Sl.un
section
variable {Pr : Program} {w : World} {mg : Str → Option Value} {base : Heap}
theorem fnM_ok {x qual : Str} {st : Stmt} {f : Addr} {fd : FuncData} {N ps : List Str} {k : Nat} {R : List (Option PyData) → List (List PyData) → List (List PyData) → Prop} (i : Nat) (Fu : Fun K x qual st f fd) (S : FnScope N ps (defScope st))
    (len : ∀ ss a b, R ss a b → ss.length = ps.length ∧ ss[i]? = some none ∧ ∀ j : Nat, ss[j]? = some none → j = i)
    (body : ∀ (cdv : Value) (A : Around) (outer : List Env) (s : Shared) (H : Hp) (E : L2.XK), Room k (A.deeper (PyProof.Rows.envOfC qual (defScope st) s.heap.objs.size f cdv)) →
      ∃ t, PSs (cxOf CX0 Pr w K mg base N qual (defScope st) f cdv A outer s H E).nox (defBody st) t ∧ ∀ ss dss dss' l, R ss dss dss' → WSM K t (startM N l dss ss) i l dss') :
    FnOk Pr w K mg base CX0 (k + 1) f fd ps (spM K R) := by
  refine Fu.ok S (fun vs H Q E h => ?_) (fun cdv A outer s H vs Q E hr h => ?_)
  · obtain ⟨F, H0, l, dss, dss', ss, B, _, _, _, _, a, r, _⟩ := h
    rw [a.len]
    exact (len ss _ _ r).1
  · obtain ⟨F, H0, l, dss, dss', ss, B, fh, hh, own, nB, a, r, q⟩ := h
    obtain ⟨_, li, only⟩ := len ss _ _ r
    obtain ⟨t, ht, ws⟩ := body cdv A outer s H E hr
    have vl := a.len
    have g0 : Gr F H0 F H := ⟨Same.refl _, hh, fh, fun _ _ z _ => z⟩
    have en : En K (fun a => H0 a = none) (startM N l dss ss) (L2.start N vs) F H := by
      refine ⟨fh, by unfold startM L2.start; simp [vl], fun j a => j = i ∧ B a, fun j t hj => ?_, fun j m a p q => p.1.trans q.1.symm, fun j a p => nB a p.2⟩
      unfold startM at hj
      by_cases hl : j < ss.length
      · rw [List.getElem?_append_left (by rw [List.length_map]; exact hl), List.getElem?_map, List.getElem?_eq_getElem hl] at hj
        have st : ∀ v, vs[j]? = some v → (L2.start N vs)[j]? = some (some v) := fun v hv => by
          unfold L2.start
          rw [List.getElem?_append_left (by rw [List.length_map, vl]; exact hl), List.getElem?_map, hv]
          rfl
        cases e : ss[j] with
        | some d =>
          rw [e] at hj
          obtain ⟨v, hv, p⟩ := a.getD j d (by rw [List.getElem?_eq_getElem hl, e])
          cases hj
          exact ⟨v, st v hv, p⟩
        | none =>
          rw [e] at hj
          have get := a.getN j (by rw [List.getElem?_eq_getElem hl, e])
          have ji := only j (by rw [List.getElem?_eq_getElem hl, e])
          cases hj
          rw [st _ get]
          exact own.mono (Same.refl _) (fun _ _ _ z => z) fun a z => ⟨ji, z⟩
      · rw [List.getElem?_append_right (by rw [List.length_map]; omega), List.getElem?_replicate] at hj
        split at hj
        · cases hj; trivial
        · cases hj
    refine ⟨t, ht, ws ss dss dss' l r F H0 _ F H _ ⟨g0, en⟩ fun ρ' τ F' H' at_ es => ?_⟩
    obtain ⟨A', k1, k2, k3⟩ := es.en.en
    have o := k1 i _ at_
    rw [es.en.at_ at_] at o
    have fin := q F' H' (A' i) es.gr o fun a z => k3 i a z
    exact ⟨fin, fin⟩
end
end
end WL

namespace WL
open PySem L2
/-! ### all orders counted -/
def fct : Nat → Nat
  | 0 => 1
  | n + 1 => fct n * (n + 1)
theorem fct_pos : ∀ n, 0 < fct n
  | 0 => by decide
  | n + 1 => Nat.mul_pos (fct_pos n) (by omega)
/-- a table of counts, as rows -/
def cntT (c : Nat) (M : Nat → Nat → Nat) : List (List PyData) := (List.range c).map fun p => (List.range c).map fun t => PyData.int (M p t)
/-- in how many orders that begin with os, whose things are tk, another person p takes t behind them -/
def wayF (W : List (List Nat)) (c : Nat) : Nat → List Nat → List Nat → Nat → Nat → Nat
  | 0, _, _, _, _ => 0
  | n + 1, os, tk, p, t => ((lf c os).map fun x => (if p = x ∧ t = bst (W.getD x []) tk then fct n else 0) + wayF W c n (os ++ [x]) (tk ++ [bst (W.getD x []) tk]) p t).sum
/-- what the first i of those who wait add -/
def wayP (W : List (List Nat)) (c n : Nat) (os tk : List Nat) (i : Nat) (p t : Nat) : Nat := (((lf c os).take i).map fun x => (if p = x ∧ t = bst (W.getD x []) tk then fct n else 0) + wayF W c n (os ++ [x]) (tk ++ [bst (W.getD x []) tk]) p t).sum
theorem wayP_zero (W : List (List Nat)) (c n : Nat) (os tk : List Nat) (p t : Nat) : wayP W c n os tk 0 p t = 0 := rfl
theorem wayP_step {W : List (List Nat)} {c n : Nat} {os tk : List Nat} {i x : Nat} (h : (lf c os)[i]? = some x) (p t : Nat) : wayP W c n os tk (i + 1) p t = wayP W c n os tk i p t + ((if p = x ∧ t = bst (W.getD x []) tk then fct n else 0) + wayF W c n (os ++ [x]) (tk ++ [bst (W.getD x []) tk]) p t) := by
  unfold wayP
  rw [List.take_succ, h, Option.toList, List.map_append, List.sum_append]
  simp
theorem wayP_all (W : List (List Nat)) (c n : Nat) (os tk : List Nat) (p t : Nat) : wayP W c n os tk (lf c os).length p t = wayF W c (n + 1) os tk p t := by
  unfold wayP
  rw [List.take_length]
  rfl
/-- the orders that the law goes through -/
def ordsL (c : Nat) : Nat → List (List Nat)
  | 0 => [[]]
  | k + 1 => (ordsL c k).flatMap fun o => (lf c o).map fun x => o ++ [x]
/-- all orders that go on from one by k -/
def onL (c : Nat) : Nat → List Nat → List (List Nat)
  | 0, o => [o]
  | k + 1, o => (lf c o).flatMap fun x => onL c k (o ++ [x])
theorem ordsL_on (c : Nat) : ∀ n k, ordsL c (k + n) = (ordsL c k).flatMap (onL c n)
  | 0, k => by
    show ordsL c k = (ordsL c k).flatMap fun o => [o]
    induction ordsL c k with
    | nil => rfl
    | cons a l ih => rw [List.flatMap_cons, ← ih]; rfl
  | n + 1, k => by
    rw [show k + (n + 1) = (k + 1) + n by omega, ordsL_on c n (k + 1), ordsL, List.flatMap_assoc]
    congr 1
    funext o
    show ((lf c o).map fun x => o ++ [x]).flatMap (onL c n) = (lf c o).flatMap fun x => onL c n (o ++ [x])
    rw [List.flatMap_map]
theorem ordsL_all (c : Nat) : ordsL c c = onL c c [] := by
  have := ordsL_on c c 0
  rw [Nat.zero_add] at this
  rw [this]
  show [[]].flatMap (onL c c) = _
  simp
/-- the things taken, those who come in order -/
def tkF (W : List (List Nat)) (o : List Nat) : List Nat := o.foldl (fun tk p => tk ++ [bst (W.getD p []) tk]) []
theorem tkF_snoc (W : List (List Nat)) (o : List Nat) (p : Nat) : tkF W (o ++ [p]) = tkF W o ++ [bst (W.getD p []) (tkF W o)] := by
  unfold tkF
  rw [List.foldl_append]
  rfl
theorem tkF_len (W : List (List Nat)) : ∀ (n : Nat) (o : List Nat), o.length = n → (tkF W o).length = n
  | 0, o, h => by rw [List.eq_nil_of_length_eq_zero h]; rfl
  | n + 1, o, h => by
    have hne : o ≠ [] := fun z => by rw [z] at h; cases h
    rw [← List.dropLast_concat_getLast hne, tkF_snoc, List.length_append, tkF_len W n o.dropLast (by rw [List.length_dropLast]; omega)]
    rfl
/-- whether p takes t in an order, counted by places -/
def hitF (W : List (List Nat)) (o : List Nat) (i p t : Nat) : Nat := ((List.range i).map fun j => if p = o.getD j 0 ∧ t = bst (W.getD (o.getD j 0) []) (tkF W (o.take j)) then 1 else 0).sum
theorem hitF_step (W : List (List Nat)) (o : List Nat) (i p t : Nat) : hitF W o (i + 1) p t = hitF W o i p t + if p = o.getD i 0 ∧ t = bst (W.getD (o.getD i 0) []) (tkF W (o.take i)) then 1 else 0 := by
  unfold hitF
  rw [List.range_succ, List.map_append, List.sum_append]
  simp
theorem hitF_app (W : List (List Nat)) (o : List Nat) (x p t : Nat) : ∀ i, i ≤ o.length → hitF W (o ++ [x]) i p t = hitF W o i p t
  | 0, _ => rfl
  | i + 1, h => by
    rw [hitF_step, hitF_step, hitF_app W o x p t i (by omega), List.take_append_of_le_length (by omega)]
    have : (o ++ [x]).getD i 0 = o.getD i 0 := by
      rw [List.getD_eq_getElem?_getD, List.getD_eq_getElem?_getD, List.getElem?_append_left (by omega)]
    rw [this]
theorem hitF_snoc (W : List (List Nat)) (o : List Nat) (x p t : Nat) : hitF W (o ++ [x]) (o ++ [x]).length p t = hitF W o o.length p t + if p = x ∧ t = bst (W.getD x []) (tkF W o) then 1 else 0 := by
  rw [List.length_append, List.length_singleton, hitF_step, hitF_app W o x p t _ (Nat.le_refl _)]
  have e1 : (o ++ [x]).getD o.length 0 = x := by
    rw [List.getD_eq_getElem?_getD, List.getElem?_append_right (Nat.le_refl _)]
    simp
  rw [e1, List.take_left]
theorem lf_len {c : Nat} : ∀ (n : Nat) (o : List Nat), o.length = n → o.Nodup → (∀ x ∈ o, x < c) → (lf c o).length = c - n
  | 0, o, h, _, _ => by rw [List.eq_nil_of_length_eq_zero h, lf_nil, List.length_range]; rfl
  | n + 1, o, h, nd, hc => by
    have hne : o ≠ [] := fun z => by rw [z] at h; cases h
    obtain ⟨d, x, e⟩ : ∃ d x, o = d ++ [x] := ⟨o.dropLast, o.getLast hne, (List.dropLast_concat_getLast hne).symm⟩
    subst e
    rw [List.length_append, List.length_singleton] at h
    rw [List.nodup_append] at nd
    have xd : x ∉ d := fun m => nd.2.2 x m x (List.mem_singleton_self x) rfl
    have ih := lf_len n d (by omega) nd.1 fun y m => hc y (List.mem_append_left _ m)
    rw [← lf_rem, ← (lf_nd c d).erase_eq_filter x, List.length_erase_of_mem (lf_mem.mpr ⟨hc x (by simp), xd⟩), ih]
    omega
theorem sum_map_add {α : Type} (f g : α → Nat) : ∀ l : List α, (l.map fun x => f x + g x).sum = (l.map f).sum + (l.map g).sum
  | [] => rfl
  | a :: l => by
    rw [List.map_cons, List.sum_cons, sum_map_add f g l, List.map_cons, List.sum_cons, List.map_cons, List.sum_cons]
    omega
theorem sum_map_const {α : Type} (k : Nat) : ∀ l : List α, (l.map fun _ => k).sum = l.length * k
  | [] => by simp
  | a :: l => by
    rw [List.map_cons, List.sum_cons, sum_map_const k l, List.length_cons, Nat.succ_mul]
    omega
theorem sum_flat {α β : Type} (f : α → List β) (g : β → Nat) : ∀ l : List α, ((l.flatMap f).map g).sum = (l.map fun x => ((f x).map g).sum).sum
  | [] => rfl
  | a :: l => by
    rw [List.flatMap_cons, List.map_append, List.sum_append, sum_flat f g l, List.map_cons, List.sum_cons]
theorem onL_len {c : Nat} : ∀ (n : Nat) (o : List Nat), o.Nodup → (∀ x ∈ o, x < c) → o.length + n = c → (onL c n o).length = fct n
  | 0, _, _, _, _ => rfl
  | n + 1, o, nd, hc, h => by
    have key : ∀ l : List Nat, (∀ x ∈ l, x ∈ lf c o) → (l.flatMap fun x => onL c n (o ++ [x])).length = l.length * fct n := by
      intro l
      induction l with
      | nil => intro _; simp
      | cons a l ih =>
        intro m
        have ma := lf_mem.mp (m a List.mem_cons_self)
        rw [List.flatMap_cons, List.length_append, ih fun x q => m x (List.mem_cons_of_mem _ q), onL_len n (o ++ [a]) (List.nodup_append.mpr ⟨nd, by simp, fun x q y r => by rw [List.mem_singleton.mp r]; exact fun z => ma.2 (z ▸ q)⟩) (fun x q => by
          rcases List.mem_append.mp q with q | q
          · exact hc x q
          · rw [List.mem_singleton.mp q]; exact ma.1) (by rw [List.length_append, List.length_singleton]; omega), List.length_cons, Nat.succ_mul]
        omega
    show ((lf c o).flatMap fun x => onL c n (o ++ [x])).length = _
    rw [key _ fun _ q => q, lf_len o.length o rfl nd hc, show c - o.length = n + 1 by omega, fct, Nat.mul_comm]
/-- the law's count is the program's -/
theorem count_on {W : List (List Nat)} {c : Nat} (p t : Nat) : ∀ (n : Nat) (o : List Nat), o.Nodup → (∀ x ∈ o, x < c) → o.length + n = c → ((onL c n o).map fun q => hitF W q q.length p t).sum = fct n * hitF W o o.length p t + wayF W c n o (tkF W o) p t
  | 0, o, _, _, _ => by
    show ([o].map fun q => hitF W q q.length p t).sum = 1 * _ + 0
    simp
  | n + 1, o, nd, hc, h => by
    have key : ∀ l : List Nat, (∀ x ∈ l, x ∈ lf c o) → (l.map fun x => ((onL c n (o ++ [x])).map fun q => hitF W q q.length p t).sum).sum = (l.map fun x => fct n * hitF W o o.length p t + ((if p = x ∧ t = bst (W.getD x []) (tkF W o) then fct n else 0) + wayF W c n (o ++ [x]) (tkF W o ++ [bst (W.getD x []) (tkF W o)]) p t)).sum := by
      intro l m
      congr 1
      refine List.map_congr_left fun a q => ?_
      have ma := lf_mem.mp (m a q)
      rw [count_on p t n (o ++ [a]) (List.nodup_append.mpr ⟨nd, by simp, fun x q y r => by rw [List.mem_singleton.mp r]; exact fun z => ma.2 (z ▸ q)⟩) (fun x q => by
          rcases List.mem_append.mp q with q | q
          · exact hc x q
          · rw [List.mem_singleton.mp q]; exact ma.1) (by rw [List.length_append, List.length_singleton]; omega), hitF_snoc, tkF_snoc, Nat.mul_add]
      split
      · omega
      · omega
    show (((lf c o).flatMap fun x => onL c n (o ++ [x])).map fun q => hitF W q q.length p t).sum = _
    rw [sum_flat, key _ fun _ q => q, sum_map_add, sum_map_const, lf_len o.length o rfl nd hc, show c - o.length = n + 1 by omega]
    have e : (n + 1) * (fct n * hitF W o o.length p t) = fct (n + 1) * hitF W o o.length p t := by
      rw [fct, ← Nat.mul_assoc, Nat.mul_comm (n + 1)]
    rw [e]
    rfl
theorem count_all (W : List (List Nat)) (c p t : Nat) : ((ordsL c c).map fun q => hitF W q q.length p t).sum = wayF W c c [] [] p t ∧ (ordsL c c).length = fct c := by
  rw [ordsL_all]
  refine ⟨?_, onL_len c [] List.nodup_nil (fun _ h => nomatch h) (by simp)⟩
  have := count_on (W := W) (c := c) p t c [] List.nodup_nil (fun _ h => nomatch h) (by simp)
  rw [this, show hitF W [] [].length p t = 0 from rfl]
  simp
  rfl
theorem ordsL_mem {c : Nat} : ∀ (k : Nat) (o : List Nat), o ∈ ordsL c k → o.length = k ∧ o.Nodup ∧ ∀ x ∈ o, x < c
  | 0, o, h => by
    rw [List.mem_singleton.mp (show o ∈ [[]] from h)]
    exact ⟨rfl, List.nodup_nil, fun _ h => nomatch h⟩
  | k + 1, o, h => by
    obtain ⟨d, hd, q⟩ := List.mem_flatMap.mp h
    obtain ⟨x, hx, e⟩ := List.mem_map.mp q
    obtain ⟨h1, h2, h3⟩ := ordsL_mem k d hd
    have mx := lf_mem.mp hx
    subst e
    refine ⟨by rw [List.length_append, h1]; rfl, List.nodup_append.mpr ⟨h2, by simp, fun y q z r => by rw [List.mem_singleton.mp r]; exact fun w => mx.2 (w ▸ q)⟩, fun y q => ?_⟩
    rcases List.mem_append.mp q with q | q
    · exact h3 y q
    · rw [List.mem_singleton.mp q]; exact mx.1
theorem cntT_congr {c : Nat} {M M' : Nat → Nat → Nat} (h : ∀ p t, p < c → t < c → M p t = M' p t) : cntT c M = cntT c M' :=
  range_map_congr fun p hp => range_map_congr fun t ht => by rw [h p t hp ht]
theorem cntT_set (c x b k : Nat) (M : Nat → Nat → Nat) : (cntT c M).set x (((List.range c).map fun t => PyData.int (M x t)).set b (.int ((M x b : Int) + (k : Int)))) = cntT c fun p t => M p t + if p = x ∧ t = b then k else 0 := by
  unfold cntT
  rw [range_map_set, range_map_set]
  refine range_map_congr fun p _ => ?_
  by_cases hp : p = x
  · subst hp
    rw [if_pos rfl]
    refine range_map_congr fun t _ => ?_
    by_cases ht : t = b
    · subst ht
      simp
    · simp [ht]
  · rw [if_neg hp]
    refine range_map_congr fun t _ => ?_
    simp [hp]
theorem filt_ne (c x : Nat) (o : List Nat) : (lf c o).filter (fun y : Nat => !decide ((y : Int) = (x : Int))) = lf c (o ++ [x]) := by
  rw [← lf_rem]
  refine List.filter_congr fun y _ => ?_
  by_cases h : y = x
  · subst h; simp
  · have : ¬ (y : Int) = (x : Int) := by omega
    simp [h, this]
theorem filt_in {c : Nat} {r tk : List Nat} (hr : r.Perm (List.range c)) : r.filter (fun t => decide (t ∈ lf c tk)) = r.filter fun t => !decide (t ∈ tk) := by
  refine List.filter_congr fun t m => ?_
  have := List.mem_range.mp (hr.mem_iff.mp m)
  by_cases h : t ∈ tk
  · simp [lf_mem, h]
  · simp [lf_mem, h, this]
end WL

namespace WL
open PySem L2
section
variable {K : PySem.W.Frag} {N : Addr → Prop} {ρ : List Sl} {σ : L2.St} {F H F' H' F0 H0 : Hp} {ta : TA} {te tb tc : TE} {P : Post} {t u : TS}
theorem xps_nil' : XPs K tNil ρ [] := fun N σ F H e Q q => q [] F H (.refl e.fh) .nil
theorem xps_cons' {d : PyData} {ds : List PyData} (h : XP K te ρ d) (k : XPs K ta ρ ds) : XPs K (tCons te ta) ρ (d :: ds) := fun N σ F H e Q q => h N σ F H e _ fun v F1 H1 g1 p1 => k N σ F1 H1 (e.gr g1) _ fun vs F2 H2 g2 p2 => q _ F2 H2 (g1.trans g2) (.cons (dp_mono g2.hh _ _ p1) p2)
/-- own lists lent to a def that tells a truth -/
theorem x_callP {R : List PyData → Sl → Prop} {E : L2.XK} {ds : List PyData} {b : Bool} (ha : XPs K ta ρ ds) (hp : R ds (.da (.bool b))) : XE K (tCall (spF K R) [] E ta) ρ (.bool b) := xe_intro fun N σ F H e Q q =>
  ha N σ F H e _ fun vs F1 H1 g1 p1 => ⟨H1, ds, _, Same.refl _, by rw [List.append_nil]; exact p1, hp, fun v F' H' g r => by
    rw [dp_bool (of_ret_da r)]
    exact q _ F1 H' ⟨g1.ff, g1.hh.trans g.hh, g1.fh.trans g.hh, g1.ap⟩ (.bl _)⟩
theorem s_clear {i : Nat} {ds : List PyData} (hi : ρ[i]? = some (.ow ds)) (k : P.nx (ρ.set i (.ow []))) : WS K (tDrop (tBM K "list" rClear (tVar i) tNil)) ρ P := fun F0 H0 σ F H D e f => by
  obtain ⟨l, xs, es, hl, dl, fl, nl, k'⟩ := e.mut hi
  exact ⟨_, es, .inl ⟨rfl, xs, SqL.of hl⟩, l, xs, rfl, rfl, hl, f.nx _ _ _ _ k (k' _ _ .nil)⟩
end
theorem fct_le {c : Nat} (h : c ≤ 6) : fct c ≤ 720 := by
  match c, h with
  | 0, _ => decide
  | 1, _ => decide
  | 2, _ => decide
  | 3, _ => decide
  | 4, _ => decide
  | 5, _ => decide
  | 6, _ => decide
theorem flat_le {α β : Type} (f : α → List β) (k : Nat) : ∀ l : List α, (∀ x ∈ l, (f x).length ≤ k) → (l.flatMap f).length ≤ l.length * k
  | [], _ => by simp
  | a :: l, h => by
    have h1 := flat_le f k l fun x m => h x (List.mem_cons_of_mem _ m)
    have h2 := h a List.mem_cons_self
    rw [List.flatMap_cons, List.length_append, List.length_cons, Nat.succ_mul]
    omega
theorem lf_le (c : Nat) (o : List Nat) : (lf c o).length ≤ c := by
  have := List.length_filter_le (fun t => !decide (t ∈ o)) (List.range c)
  rw [List.length_range] at this
  exact this
theorem ordsL_le {c : Nat} (h : c ≤ 6) : ∀ k, k ≤ 6 → (ordsL c k).length ≤ 6 ^ k
  | 0, _ => by show 1 ≤ 1; omega
  | k + 1, hk => by
    have ih := ordsL_le h k (by omega)
    have := flat_le (fun o => (lf c o).map fun x => o ++ [x]) 6 (ordsL c k) fun o _ => by rw [List.length_map]; have := lf_le c o; omega
    rw [Nat.pow_succ]
    show ((ordsL c k).flatMap _).length ≤ _
    omega
/-- the table by turns -/
def tabW (W : List (List Nat)) (c : Nat) : List PyData := (List.range c).map fun p => PyData.tuple ((List.range c).map fun t => fr (Rat.divInt (wayF W c c [] [] p t) (fct c)))
theorem tabW_ds (W : List (List Nat)) {c : Nat} (h : c ≤ 6) : Ds 4 (.list (tabW W c)) := ⟨by simp [tabW]; omega, Ds_map fun p _ => ⟨by simp; omega, Ds_map fun t _ => Ds_fr 0 _⟩⟩
end WL

namespace WL
open PySem L2
/-! ### orders gone through: who takes what, and other wishes told -/
/-- what a person takes in an order -/
def pick (W : List (List Nat)) (o : List Nat) (p : Nat) : Nat := bst (W.getD p []) (tkF W (o.take (o.idxOf p)))
theorem idx_iff {o : List Nat} (nd : o.Nodup) {p i : Nat} (hi : i < o.length) : o[i] = p ↔ o.idxOf p = i := by
  constructor
  · rintro rfl
    exact nd.idxOf_getElem i hi
  · rintro rfl
    exact List.getElem_idxOf hi
theorem hit_part {W : List (List Nat)} {o : List Nat} (nd : o.Nodup) (p t : Nat) : ∀ i, i ≤ o.length → hitF W o i p t = if o.idxOf p < i ∧ t = pick W o p then 1 else 0
  | 0, _ => by rw [if_neg (by omega)]; rfl
  | i + 1, h => by
    rw [hitF_step, hit_part nd p t i (by omega)]
    have hg : o.getD i 0 = o[i] := by rw [List.getD_eq_getElem?_getD, List.getElem?_eq_getElem (by omega)]; rfl
    have iff_ := idx_iff nd (p := p) (show i < o.length by omega)
    rw [hg]
    by_cases z : o.idxOf p = i
    · have e := iff_.mpr z
      rw [e, if_neg (by omega)]
      by_cases q : t = pick W o p
      · rw [if_pos ⟨rfl, by rw [q]; unfold pick; rw [z]⟩, if_pos ⟨by omega, q⟩]
      · rw [if_neg (fun w => q (by rw [w.2]; unfold pick; rw [z])), if_neg fun w => q w.2]
    · have e0 : (if p = o[i] ∧ t = bst (W.getD o[i] []) (tkF W (o.take i)) then 1 else 0) = 0 := if_neg fun w => z (iff_.mp w.1.symm)
      rw [e0]
      by_cases q : o.idxOf p < i ∧ t = pick W o p
      · rw [if_pos q, if_pos ⟨by omega, q.2⟩]
      · rw [if_neg q, if_neg fun w => q ⟨by omega, w.2⟩]
theorem hit_all {W : List (List Nat)} {o : List Nat} (nd : o.Nodup) {p : Nat} (hp : p ∈ o) (t : Nat) : hitF W o o.length p t = if t = pick W o p then 1 else 0 := by
  rw [hit_part nd p t _ (Nat.le_refl _)]
  have := List.idxOf_lt_length_of_mem hp
  by_cases q : t = pick W o p
  · rw [if_pos ⟨this, q⟩, if_pos q]
  · rw [if_neg (fun w => q w.2), if_neg q]
theorem sum_one {S : List Nat} (nd : S.Nodup) (b : Nat) : (S.map fun t => if t = b then 1 else 0).sum = if b ∈ S then 1 else 0 := by
  induction S with
  | nil => rfl
  | cons a S ih =>
    have n := List.nodup_cons.mp nd
    rw [List.map_cons, List.sum_cons, ih n.2]
    by_cases h : a = b
    · subst h
      simp [n.1]
    · have h' : ¬ b = a := fun z => h z.symm
      simp [h, h']
theorem sum_swap {α β : Type} (f : α → β → Nat) (l : List α) : ∀ m : List β, (m.map fun y => (l.map fun x => f x y).sum).sum = (l.map fun x => (m.map fun y => f x y).sum).sum
  | [] => by simp [sum_map_const]
  | y :: m => by
    rw [List.map_cons, List.sum_cons, sum_swap f l m, ← sum_map_add]
    simp
theorem sum_le {α : Type} (f g : α → Nat) : ∀ l : List α, (∀ x ∈ l, f x ≤ g x) → (l.map f).sum ≤ (l.map g).sum
  | [], _ => Nat.le_refl _
  | a :: l, h => by
    have h1 := sum_le f g l fun x m => h x (List.mem_cons_of_mem _ m)
    have h2 := h a List.mem_cons_self
    rw [List.map_cons, List.sum_cons, List.map_cons, List.sum_cons]
    omega
/-- the orders are orders -/
theorem ords_perm {c : Nat} {o : List Nat} (h : o ∈ ordsL c c) : o.Perm (List.range c) := by
  obtain ⟨h1, h2, h3⟩ := ordsL_mem c o h
  refine List.perm_iff_count.mpr fun x => ?_
  rw [h2.count, List.nodup_range.count]
  have : x ∈ o ↔ x ∈ List.range c := by
    refine ⟨fun m => List.mem_range.mpr (h3 x m), fun m => Classical.byContradiction fun no => ?_⟩
    have l := (List.nodup_append.mpr ⟨h2, by simp, fun y q z r => by rw [List.mem_singleton.mp r]; exact fun w => no (w ▸ q)⟩ : (o ++ [x]).Nodup).length_le_of_subset (l₂ := List.range c) fun y q => by
      rcases List.mem_append.mp q with q | q
      · exact List.mem_range.mpr (h3 y q)
      · rw [List.mem_singleton.mp q]; exact m
    rw [List.length_append, List.length_singleton, List.length_range] at l
    omega
  simp only [this]
theorem way_sum {W : List (List Nat)} {c p : Nat} (hp : p < c) {S : List Nat} (nd : S.Nodup) : (S.map fun t => wayF W c c [] [] p t).sum = ((ordsL c c).map fun o => if pick W o p ∈ S then 1 else 0).sum := by
  have e : ∀ t, wayF W c c [] [] p t = ((ordsL c c).map fun o => hitF W o o.length p t).sum := fun t => (count_all W c p t).1.symm
  rw [List.map_congr_left fun t _ => e t, sum_swap]
  congr 1
  refine List.map_congr_left fun o m => ?_
  obtain ⟨h1, h2, h3⟩ := ordsL_mem c o m
  have hm := (ords_perm m).mem_iff.mpr (List.mem_range.mpr hp)
  rw [List.map_congr_left fun t _ => hit_all h2 hm t, sum_one nd]
/-- things taken: none twice, all below c -/
theorem tkF_ok {W : List (List Nat)} {c : Nat} (hW : Wi W c) : ∀ (n : Nat) (o : List Nat), o.length = n → n ≤ c → (∀ x ∈ o, x < c) → (tkF W o).Nodup ∧ ∀ t ∈ tkF W o, t < c
  | 0, o, h, _, _ => by rw [List.eq_nil_of_length_eq_zero h]; exact ⟨List.nodup_nil, fun _ h => nomatch h⟩
  | n + 1, o, h, hn, hc => by
    have hne : o ≠ [] := fun z => by rw [z] at h; cases h
    obtain ⟨d, x, e⟩ : ∃ d x, o = d ++ [x] := ⟨o.dropLast, o.getLast hne, (List.dropLast_concat_getLast hne).symm⟩
    subst e
    rw [List.length_append, List.length_singleton] at h
    obtain ⟨i1, i2⟩ := tkF_ok hW n d (by omega) (by omega) fun y m => hc y (List.mem_append_left _ m)
    have hx := hc x (by simp)
    obtain ⟨b1, b2, b3⟩ := bst_mem (tk := tkF W d) (hW.row hx).2 (by rw [tkF_len W n d (by omega)]; omega)
    rw [tkF_snoc]
    refine ⟨List.nodup_append.mpr ⟨i1, by simp, fun y q z r => by rw [List.mem_singleton.mp r]; exact fun w => b2 (w ▸ q)⟩, fun t m => ?_⟩
    rcases List.mem_append.mp m with m | m
    · exact i2 t m
    · rw [List.mem_singleton.mp m]; exact b3
/-! other wishes told -/
theorem bst_pre {r tk : List Nat} {b k : Nat} (no : b ∉ tk) (m : b ∈ r.take k) : bst r tk ∈ r.take k := by
  have hm : b ∈ (r.take k).filter fun t => !decide (t ∈ tk) := List.mem_filter.mpr ⟨m, by simpa using no⟩
  cases e : (r.take k).filter fun t => !decide (t ∈ tk) with
  | nil => rw [e] at hm; cases hm
  | cons a l =>
    have e2 : bst r tk = a := by
      unfold bst
      have z : (r.filter fun t => !decide (t ∈ tk)) = (a :: l) ++ (r.drop k).filter fun t => !decide (t ∈ tk) := by rw [← e, ← List.filter_append, List.take_append_drop]
      rw [z]
      rfl
    rw [e2]
    have : a ∈ (r.take k).filter fun t => !decide (t ∈ tk) := by rw [e]; exact List.mem_cons_self
    exact (List.mem_filter.mp this).1
theorem tkF_same {W W' : List (List Nat)} : ∀ (n : Nat) (o : List Nat), o.length = n → (∀ x ∈ o, W.getD x [] = W'.getD x []) → tkF W o = tkF W' o
  | 0, o, h, _ => by rw [List.eq_nil_of_length_eq_zero h]; rfl
  | n + 1, o, h, hs => by
    have hne : o ≠ [] := fun z => by rw [z] at h; cases h
    obtain ⟨d, x, e⟩ : ∃ d x, o = d ++ [x] := ⟨o.dropLast, o.getLast hne, (List.dropLast_concat_getLast hne).symm⟩
    subst e
    rw [List.length_append, List.length_singleton] at h
    rw [tkF_snoc, tkF_snoc, tkF_same n d (by omega) fun y m => hs y (List.mem_append_left _ m), hs x (by simp)]
theorem take_idx {o : List Nat} (nd : o.Nodup) {p x : Nat} (h : x ∈ o.take (o.idxOf p)) : x ≠ p := by
  rintro rfl
  obtain ⟨j, hj, e⟩ := List.getElem_of_mem h
  rw [List.getElem_take] at e
  rw [List.length_take] at hj
  have := (idx_iff nd (show j < o.length by omega)).mp e
  omega
/-- the truth is no worse: in an order, at every place of the true row -/
theorem truth_pick {W : List (List Nat)} {c p : Nat} {r' o : List Nat} (hW : Wi W c) (hp : p < c) (hr : r'.Perm (List.range c)) (ho : o.Perm (List.range c)) {k : Nat} (h : pick (W.set p r') o p ∈ (W.getD p []).take k) : pick W o p ∈ (W.getD p []).take k := by
  have hpl : p < W.length := by rw [hW.len]; exact hp
  have tk : tkF (W.set p r') (o.take (o.idxOf p)) = tkF W (o.take (o.idxOf p)) := tkF_same _ _ rfl fun x m => by
    rw [List.getD_eq_getElem?_getD, List.getD_eq_getElem?_getD, List.getElem?_set_ne (take_idx (ho.nodup_iff.mpr List.nodup_range) m).symm]
  have hm := ho.mem_iff.mpr (List.mem_range.mpr hp)
  have hi := List.idxOf_lt_length_of_mem hm
  have hl : o.length = c := by rw [ho.length_eq, List.length_range]
  have row : (W.set p r').getD p [] = r' := by rw [List.getD_eq_getElem?_getD, List.getElem?_set_self hpl]; rfl
  unfold pick at h ⊢
  rw [tk, row] at h
  have len : (tkF W (o.take (o.idxOf p))).length < c := by
    rw [tkF_len W (o.idxOf p) _ (by rw [List.length_take]; omega)]
    omega
  exact bst_pre (bst_mem hr len).2.1 h
theorem truth_sum {W : List (List Nat)} {c p : Nat} {r' : List Nat} (hW : Wi W c) (hp : p < c) (hr : r'.Perm (List.range c)) (k : Nat) :
    (((W.getD p []).take k).map fun t => wayF (W.set p r') c c [] [] p t).sum ≤ (((W.getD p []).take k).map fun t => wayF W c c [] [] p t).sum := by
  have nd : ((W.getD p []).take k).Nodup := ((hW.row hp).2.nodup_iff.mpr List.nodup_range).sublist (List.take_sublist _ _)
  rw [way_sum hp nd, way_sum hp nd]
  refine sum_le _ _ _ fun o m => ?_
  by_cases q : pick (W.set p r') o p ∈ (W.getD p []).take k
  · rw [if_pos q, if_pos (truth_pick hW hp hr (ords_perm m) q)]
    exact Nat.le_refl _
  · rw [if_neg q]
    exact Nat.zero_le _
theorem bst_idx {r tk : List Nat} {b : Nat} (no : b ∉ tk) (m : b ∈ r) (nd : r.Nodup) : r.idxOf (bst r tk) ≤ r.idxOf b := by
  have hb := List.idxOf_lt_length_of_mem m
  have mt : b ∈ r.take (r.idxOf b + 1) := by
    rw [List.mem_iff_getElem?]
    refine ⟨r.idxOf b, ?_⟩
    rw [List.getElem?_take_of_lt (by omega), List.getElem?_eq_getElem hb, List.getElem_idxOf]
  have mb := bst_pre no mt
  obtain ⟨j, hj, e⟩ := List.getElem_of_mem mb
  rw [List.getElem_take] at e
  rw [List.length_take] at hj
  have := (idx_iff nd (show j < r.length by omega)).mp e
  omega
/-- in an order what they take is liked no less -/
theorem truth_idx {W : List (List Nat)} {c p : Nat} {r' o : List Nat} (hW : Wi W c) (hp : p < c) (hr : r'.Perm (List.range c)) (ho : o.Perm (List.range c)) : (W.getD p []).idxOf (pick W o p) ≤ (W.getD p []).idxOf (pick (W.set p r') o p) ∧ pick W o p ∈ W.getD p [] ∧ pick (W.set p r') o p ∈ W.getD p [] := by
  have hpl : p < W.length := by rw [hW.len]; exact hp
  have hrow := (hW.row hp).2
  have nd := hrow.nodup_iff.mpr List.nodup_range
  have tk : tkF (W.set p r') (o.take (o.idxOf p)) = tkF W (o.take (o.idxOf p)) := tkF_same _ _ rfl fun x m => by
    rw [List.getD_eq_getElem?_getD, List.getD_eq_getElem?_getD, List.getElem?_set_ne (take_idx (ho.nodup_iff.mpr List.nodup_range) m).symm]
  have hm := ho.mem_iff.mpr (List.mem_range.mpr hp)
  have hi := List.idxOf_lt_length_of_mem hm
  have hl : o.length = c := by rw [ho.length_eq, List.length_range]
  have row : (W.set p r').getD p [] = r' := by rw [List.getD_eq_getElem?_getD, List.getElem?_set_self hpl]; rfl
  have len : (tkF W (o.take (o.idxOf p))).length < c := by
    rw [tkF_len W (o.idxOf p) _ (by rw [List.length_take]; omega)]
    omega
  have b1 := bst_mem hr len
  have b2 := bst_mem hrow len
  unfold pick
  rw [tk, row]
  have m : bst r' (tkF W (o.take (o.idxOf p))) ∈ W.getD p [] := hrow.mem_iff.mpr (List.mem_range.mpr b1.2.2)
  exact ⟨bst_idx b1.2.1 m nd, b2.1, m⟩
/-- the deal of an order tells each one's thing -/
theorem dlF_eq (W : List (List Nat)) (c : Nat) : ∀ (n : Nat) (o : List Nat), o.length = n → (dlF W c o).1 = tkF W o
  | 0, o, h => by rw [List.eq_nil_of_length_eq_zero h]; rfl
  | n + 1, o, h => by
    have hne : o ≠ [] := fun z => by rw [z] at h; cases h
    obtain ⟨d, x, e⟩ : ∃ d x, o = d ++ [x] := ⟨o.dropLast, o.getLast hne, (List.dropLast_concat_getLast hne).symm⟩
    subst e
    rw [List.length_append, List.length_singleton] at h
    have ih := dlF_eq W c n d (by omega)
    rw [tkF_snoc, ← ih]
    unfold dlF
    rw [List.foldl_append]
    rfl
theorem dlF_pick {W : List (List Nat)} {c : Nat} {o : List Nat} (nd : o.Nodup) {p : Nat} (hp : p < c) : ∀ i, i ≤ o.length → o.idxOf p < i → (dlF W c (o.take i)).2[p]? = some (pick W o p)
  | 0, _, h => absurd h (by omega)
  | i + 1, hl, h => by
    have hi : o[i]? = some o[i] := List.getElem?_eq_getElem (by omega)
    rw [dlF_step hi]
    have l2 := (dlF_len W c (o.take i)).2
    have iff_ := idx_iff nd (p := p) (show i < o.length by omega)
    show ((dlF W c (o.take i)).2.set o[i] _)[p]? = _
    by_cases z : o.idxOf p = i
    · have e := iff_.mpr z
      rw [e, List.getElem?_set_self (by omega), dlF_eq W c i _ (by rw [List.length_take]; omega)]
      unfold pick
      rw [z]
    · rw [List.getElem?_set_ne (fun w => z (iff_.mp w)), dlF_pick nd hp i (by omega) (by omega)]
/-! the table is one of shares -/
theorem way_row {W : List (List Nat)} {c p : Nat} (hW : Wi W c) (hp : p < c) : ((List.range c).map fun t => wayF W c c [] [] p t).sum = fct c := by
  rw [way_sum hp List.nodup_range, ← (count_all W c 0 0).2, List.map_congr_left (g := fun _ => 1) fun o m => ?_, sum_map_const, Nat.mul_one]
  have ho := ords_perm m
  have hm := ho.mem_iff.mpr (List.mem_range.mpr hp)
  have hi := List.idxOf_lt_length_of_mem hm
  have hl : o.length = c := by rw [ho.length_eq, List.length_range]
  rw [if_pos]
  refine List.mem_range.mpr (bst_mem (hW.row hp).2 ?_).2.2
  rw [tkF_len W (o.idxOf p) _ (by rw [List.length_take]; omega)]
  omega
theorem map_pick {W : List (List Nat)} : ∀ (n : Nat) (o : List Nat), o.length = n → o.Nodup → o.map (pick W o) = tkF W o
  | 0, o, h, _ => by rw [List.eq_nil_of_length_eq_zero h]; rfl
  | n + 1, o, h, nd => by
    have hne : o ≠ [] := fun z => by rw [z] at h; cases h
    obtain ⟨d, x, e⟩ : ∃ d x, o = d ++ [x] := ⟨o.dropLast, o.getLast hne, (List.dropLast_concat_getLast hne).symm⟩
    subst e
    rw [List.length_append, List.length_singleton] at h
    have nd' := List.nodup_append.mp nd
    have xd : x ∉ d := fun m => nd'.2.2 x m x (List.mem_singleton_self x) rfl
    have ih := map_pick (W := W) n d (by omega) nd'.1
    rw [tkF_snoc, List.map_append]
    congr 1
    · refine Eq.trans (List.map_congr_left fun y m => ?_) ih
      have hy := List.idxOf_lt_length_of_mem m
      unfold pick
      rw [List.idxOf_append, if_pos m, List.take_append_of_le_length (by omega)]
    · show [pick W (d ++ [x]) x] = _
      unfold pick
      rw [List.idxOf_append, if_neg xd]
      simp
theorem way_col {W : List (List Nat)} {c t : Nat} (hW : Wi W c) (ht : t < c) : ((List.range c).map fun p => wayF W c c [] [] p t).sum = fct c := by
  have e : ∀ p, wayF W c c [] [] p t = ((ordsL c c).map fun o => hitF W o o.length p t).sum := fun p => (count_all W c p t).1.symm
  rw [List.map_congr_left fun p _ => e p, sum_swap (fun o p => hitF W o o.length p t) (ordsL c c) (List.range c), ← (count_all W c 0 0).2, List.map_congr_left (g := fun _ => 1) fun o m => ?_, sum_map_const, Nat.mul_one]
  obtain ⟨h1, h2, h3⟩ := ordsL_mem c o m
  have ho := ords_perm m
  have k1 : ((List.range c).map fun p => hitF W o o.length p t).sum = (o.map fun p => hitF W o o.length p t).sum := (ho.symm.map _).sum_nat
  rw [k1, List.map_congr_left fun p q => hit_all h2 q t]
  have k2 : (o.map fun p => if t = pick W o p then 1 else 0) = (o.map (pick W o)).map fun z => if z = t then 1 else 0 := by
    rw [List.map_map]
    refine List.map_congr_left fun p _ => ?_
    by_cases z : t = pick W o p
    · simp [← z]
    · have : ¬ pick W o p = t := fun w => z w.symm
      simp [z, this]
  obtain ⟨t1, t2⟩ := tkF_ok hW c o h1 (Nat.le_refl _) h3
  rw [k2, map_pick c o h1 h2, sum_one t1, if_pos]
  refine Classical.byContradiction fun no => ?_
  have l := (List.nodup_append.mpr ⟨t1, by simp, fun y q z r => by rw [List.mem_singleton.mp r]; exact fun w => no (w ▸ q)⟩ : (tkF W o ++ [t]).Nodup).length_le_of_subset (l₂ := List.range c) fun y q => by
    rcases List.mem_append.mp q with q | q
    · exact List.mem_range.mpr (t2 y q)
    · rw [List.mem_singleton.mp q]; exact List.mem_range.mpr ht
  rw [List.length_append, List.length_singleton, List.length_range, tkF_len W c o h1] at l
  omega
theorem upto_sum (g : Nat → Nat) : ∀ n, upto (fun t => (g t : Int)) n = (((List.range n).map g).sum : Nat)
  | 0 => rfl
  | n + 1 => by
    rw [List.range_succ, List.map_append, List.sum_append]
    show upto (fun t => (g t : Int)) n + (g n : Int) = _
    rw [upto_sum g n]
    simp
theorem way_Tab {W : List (List Nat)} {c : Nat} (hW : Wi W c) (hc : c ≤ 6) : Tab c (fct c) fun p t => (wayF W c c [] [] p t : Int) where
  pos := by have := fct_pos c; omega
  big := by
    have h := fct_le hc
    have : (720 : Int) < 2 ^ 3999 := by decide +kernel
    omega
  nn := fun _ _ _ _ => Int.natCast_nonneg _
  row := fun p hp => by rw [upto_sum, way_row hW hp]
  col := fun t ht => by rw [upto_sum fun p => wayF W c c [] [] p t, way_col hW ht]
theorem tabW_eq (W : List (List Nat)) (c : Nat) : tabW W c = (tabT c (fct c) fun p t => (wayF W c c [] [] p t : Int)).map frT := by
  unfold tabW tabT rowQ frT
  rw [List.map_map]
  refine List.map_congr_left fun p _ => ?_
  show PyData.tuple _ = PyData.tuple _
  rw [List.map_map]
  rfl
end WL

namespace WL
open PySem L2
section
variable {K : PySem.W.Frag} {N : Addr → Prop} {ρ : List Sl} {σ : L2.St} {F H F' H' F0 H0 : Hp} {ta : TA} {te tb tc : TE} {P : Post} {t u : TS}
/-! ### for x, y in zip(a, b) -/
theorem s_zip {α : Type} {g : TG} (xs : List α) (ea eb : α → PyData) (js : List Nat) (I : Nat → List Sl → Prop) (hl : XA K ta ρ [.list (xs.map ea), .list (xs.map eb)]) (h0 : I 0 (wipeR ρ js))
    (hs : ∀ (i : Nat) x r, xs[i]? = some x → I i r → WG K g (.tuple [ea x, eb x]) r fun r' => WS K t r' { nx := fun z => I (i + 1) (wipeR z js), rt := P.rt, bk := P.nx, ct := fun z => I (i + 1) (wipeR z js), ex := P.ex, rtE := P.rtE, exE := P.exE, E := P.E })
    (hd : ∀ r, I xs.length r → P.nx r) : WS K (tFor (iZip K ta) g t) ρ P := fun F0 H0 σ F H D e f => by
  refine hl _ σ F H e.en _ fun vs F1 H1 g1 p1 => ?_
  cases p1 with
  | cons pa p1 =>
    cases p1 with
    | cons pb p1 =>
      cases p1
      obtain ⟨a, ya, rfl, sa, da⟩ := dp_list pa
      obtain ⟨b, yb, rfl, sb, db⟩ := dp_list pb
      obtain ⟨G, b1, b2, b3, b4⟩ := (e.go g1).base
      have la : ya.length = xs.length := by rw [dpa_len da, List.length_map]
      have lb : yb.length = xs.length := by rw [dpa_len db, List.length_map]
      have fh1 := (e.go g1).gr.fh
      refine ⟨a, b, ya, yb, rfl, fh1.seq sa, fh1.seq sb, fun i m τ H2 => m + i = xs.length ∧ ∃ r F2, I i r ∧ Es K F1 G r τ F2 H2, ⟨xs.length, by omega, _, F1, h0, b1.drops js⟩, ?_⟩
      rintro i m τ H2 ⟨hm, r, F2, hI, e2⟩
      have at2 : Same F1 H2 := e2.gr.ff.trans e2.gr.fh
      by_cases z : i < xs.length
      · have gx : xs[i]? = some xs[i] := List.getElem?_eq_getElem z
        obtain ⟨x, hx, px⟩ := dpa_get da (i := i) (d := ea xs[i]) (by rw [List.getElem?_map, gx]; rfl)
        obtain ⟨y, hy, py⟩ := dpa_get db (i := i) (d := eb xs[i]) (by rw [List.getElem?_map, gx]; rfl)
        refine .inr ⟨⟨ya, yb, x, y, at2.seq sa, at2.seq sb, hx, hy⟩, fun τ H2 => ∃ r F2, I (i + 1) r ∧ Es K F1 G r τ F2 H2, fun τ' H' w => ⟨m - 1, by omega, by omega, w⟩, ?_⟩
        rintro v H3 ⟨T, x', y', rfl, free, rfl, ux, uy⟩
        have ex : x = x' := Option.some.inj (hx.symm.trans (ux _ (at2.seq sa)))
        have ey : y = y' := Option.some.inj (hy.symm.trans (uy _ (at2.seq sb)))
        subst ex ey
        have gn := Gr.new (o := .tup [x, y]) e2.en.fh free
        have up := e2.gr.ff.trans gn.ff
        refine hs i _ r gx hI F1 G τ _ _ _ (e2.go gn) (.tup (SqT.of upd_same) (.cons (dp_mono up _ _ px) (.cons (dp_mono up _ _ py) .nil))) _ fun r' τ' hw e3 => ?_
        exact hw F1 G τ' _ _ _ e3 ⟨fun r τ F H p e => ⟨_, F, p, e.drops js⟩, fun s v F H p g q => f.rt s v F H p (b3 _ _ g) (q.imp b4), fun r τ F H p e => f.nx r τ F H p (b2 _ _ _ _ e), fun r τ F H p e => ⟨_, F, p, e.drops js⟩, fun C F H p g => f.ex C F H p (b3 _ _ g), fun s r τ v F H p e => f.rtE s r τ v F H p (b2 _ _ _ _ e), fun C r τ F H p e => f.exE C r τ F H p (b2 _ _ _ _ e)⟩
      · have zi : i = xs.length := by omega
        subst zi
        exact .inl ⟨⟨ya, yb, at2.seq sa, at2.seq sb, .inl (by omega)⟩, f.nx r τ F2 H2 (hd r hI) (b2 _ _ _ _ e2)⟩
end
end WL

namespace WL
open PySem L2
/-! ### tuples whose record is known to have no dict, and their methods -/
/-- a tuple's record, no dict -/
def PlainO (ob : Obj) : Prop := ob.cls = .type "tuple" ∧ ob.dict = none
/-- tuple(x), x a list: the new tuple's record is told -/
def rTupP (K : PySem.W.Frag) : List V → Hp → VK → Prop := fun xs H Q => ∃ p ys, xs = [V.ref p] ∧ SqL K H p ys ∧ ∀ (l : Addr) (ob : Obj), H l = none → PlainO ob → Q (.ref l) (upd H l (.frz ob (.tup ys)))
theorem tupleP_K {X : Cx} {K : PySem.W.Frag} (hK : X.K = K := by rfl) : CallR X (.type "tuple") (rTupP K) := by
  subst hK
  intro pins s σ H xs us Q I rel ⟨p, ys, e, known, q⟩
  subst e
  obtain ⟨u, rfl, ru⟩ := vals1 rel
  cases ru
  obtain ⟨its, rv, plain, small⟩ := I.list known
  have len := rv.length
  refine call_tuple_list plain.isList (fun h' keep => ?_) (by rw [List.size_toArray, ← len]; exact small)
  have J : Inv X pins σ H { s with heap := h' } := I.kept (t' := s.toks) keep
  have new : (h'.push { cls := .type "tuple", data := .seq its.toArray }).get? h'.objs.size = some { cls := .type "tuple", data := .seq its.toArray } := Heap.get?_push_size _ rfl
  exact ⟨.ref h'.objs.size, _, J.laid (t' := s.toks) (o := .frz { cls := .type "tuple", data := .seq its.toArray } (.tup ys)) (fun _ _ old => Heap.get?_push_of_some _ old) (Nat.le_refl _) ⟨new, small, its, rv, ⟨_, new, rfl, _, rfl⟩⟩, rfl, q _ _ (J.hok.fresh (Nat.le_refl _)) ⟨rfl, rfl⟩⟩
/-- t.m(..), t such a tuple -/
def tBMT (r : V → List V → Hp → VK → Prop) (to : TE) (t : TA) : TE := fun σ H Q => to σ H fun x H1 => (∃ p ob xs, x = V.ref p ∧ H1 p = some (.frz ob (.tup xs)) ∧ PlainO ob) ∧ t σ H1 fun xs H2 => r x xs H2 Q
section
variable {X : Cx} {o e : Expr} {es : List Expr} {to : TE} {t : TA} {name : Str} {apos cpos : Pos} {id : String} {r : V → List V → Hp → VK → Prop}
theorem pe_bmT (pa : PlainAttrs "tuple") (slot : Slot "tuple" name id) (hty : typeOf (.builtin id) = pure (.type "method_descriptor")) (hm : MtR X id r) (ho : PE X o to) (ha : PA X (e :: es) t)
    (base : attributeBase o name X.env (eval o X.env) = eval o X.env := by rfl)
    (few : ((backTo cpos (starEach (e :: es) X.env)).all (fun x => !x.1) && (backToKw cpos (keywordEach [] X.env)).all (fun x => x.1.isSome)
      && decide ((e :: es).length + ([] : List Keyword).length + (if ([] : List Keyword).isEmpty then 0 else 1) < 30)) = true := by rfl)
    (line : (apos.endLine == cpos.line) = true := by rfl) (star : starEach (e :: es) X.env = (false, eval e X.env) :: starEach es X.env := by rfl) (noStar : (backTo cpos (starEach es X.env)).any (·.1) = false := by rfl) :
    PE X (.Call (.Attribute o name apos) (e :: es) [] cpos) (tBMT r to t) := by
  constructor
  intro pins s σ H Q I ask
  refine wpAny_Call_method_late base few line rfl (thn (ho.run pins s σ H _ I ask) fun v s1 got => ?_)
  obtain ⟨x, H1, I1, rx, ⟨p, ob, xs, rfl, known, kind, bare⟩, rest⟩ := got
  cases rx
  have there : s1.heap.get? p = some ob := (I1.hok p _ known).1
  refine ⟨"tuple", id, pa, slot, hty, ⟨ob, there, kind⟩, fun a same => ?_, ?_⟩
  · cases same
    exact ⟨ob, there, bare⟩
  · have args := ha.run cpos pins s1 σ H1 _ I1 rest
    rw [star] at args ⊢
    refine Calls.callWith_builtin (by show (false || (backTo cpos (starEach es X.env)).any (·.1)) = false; rw [noStar] <;> rfl) (Calls.evalArgs_plain ?_)
    exact thn args fun us s2 ⟨vs, H2, I2, r2, q2⟩ => hm pins s2 σ H2 (V.ref p) vs (Value.ref p) us Q I2 (show RelV (V.ref p) (Value.ref p) from rfl) r2 q2
end
/-! ### t.index(k), whole numbers -/
def rIdxT (K : PySem.W.Frag) : V → List V → Hp → VK → Prop := fun x xs H Q => ∃ (a : Addr) (ns : List Int) (k : Int) (j : Nat), x = V.ref a ∧ xs = [.int k] ∧ SqT K H a (ns.map V.int) ∧ ns[j]? = some k ∧ (∀ m : Nat, m < j → ns[m]? ≠ some k) ∧ Q (.int (j : Nat)) H
theorem mt_idxT {X : Cx} : MtR X "tuple.index" (rIdxT X.K) := by
  intro pins s σ H x xs v us Q I rx rxs h
  obtain ⟨a, ns, k, j, rfl, rfl, known, hj, no, q⟩ := h
  cases rx
  obtain ⟨u, rfl, ru⟩ := rxs.one
  obtain ⟨t, rfl⟩ := ru
  obtain ⟨its, rv, ⟨⟨cls, dd, data, sl⟩, there, kind, n, rec_⟩, small⟩ := I.tuple known
  simp only at kind rec_
  subst kind rec_
  have whole := ints_of_vals rv
  have len := rv.length
  rw [List.length_map] at len
  have jn : j < ns.length := (List.getElem?_eq_some_iff.mp hj).1
  refine call_meets PySem.F.slot_tuple_index ⟨_, there, rfl⟩ PySem.F.entry_tuple_index (PySem.F.args_tuple_index_2 _ _)
    (TI.tuple_indexAt a its.toArray n dd sl (.int k t) (eqk k) j (by rw [List.size_toArray]; omega) ?_ fun m hm before => ?_) ⟨there, fun y hy => (eqk_gives whole y (by simpa using hy)).at _ _, ⟨.int (j : Nat), H, I.tok _, ⟨_, rfl⟩, q⟩⟩
  · obtain ⟨tj, at_⟩ := whole.get j k hj
    obtain ⟨_, e⟩ := List.getElem?_eq_some_iff.mp at_
    rw [show its.toArray[j] = .int k tj by simpa using e]
    exact beq_self_eq_true k
  · have mn : m < ns.length := by rw [List.size_toArray] at hm; omega
    obtain ⟨tm, at_⟩ := whole.get m _ (List.getElem?_eq_getElem mn)
    obtain ⟨_, e⟩ := List.getElem?_eq_some_iff.mp at_
    rw [show its.toArray[m] = .int ns[m] tm by simpa using e]
    exact beq_eq_false_iff_ne.mpr fun same => no m before (by rw [List.getElem?_eq_getElem mn, same])
end WL

namespace WL
open PySem L2
/-! ### rows of numbers whose records are known -/
section
variable {K : PySem.W.Frag} {N : Addr → Prop} {ρ : List Sl} {σ : L2.St} {F H F' H' F0 H0 : Hp} {ta tA : TA} {te tb tc : TE} {P : Post} {t u : TS}
theorem nats_dpa {H : Hp} : ∀ r : List Nat, DpAll K H (r.map fun i : Nat => V.int i) (r.map nat_)
  | [] => .nil
  | i :: r => .cons (.int _) (nats_dpa r)
theorem PlT.dp {v : V} {r : List Nat} (h : PlT F v r) : Dp K F v (rowT r) := by
  obtain ⟨a, ob, rfl, p, _⟩ := h
  exact .tup (.inl (.inr ⟨ob, p⟩)) (nats_dpa r)
theorem PlAll.dp : ∀ {xs : List V} {W : List (List Nat)}, PlAll F xs W → DpAll K F xs (W.map rowT)
  | [], [], _ => .nil
  | [], _ :: _, h => by have := h.1; simp at this
  | _ :: _, [], h => by have := h.1; simp at this
  | x :: xs, r :: W, h => .cons (h.2 0 x r rfl rfl).dp (PlAll.dp (xs := xs) (W := W) ⟨by have := h.1; simpa using this, fun i v s p q => h.2 (i + 1) v s p q⟩)
/-- a row, a list of rows, read as data -/
theorem x_rowD {r : List Nat} (h : XR K te ρ (.row r)) : XE K te ρ (rowT r) := fun N σ F H e Q q => h N σ F H e Q fun v F' H' g ⟨A, ⟨v', e1, p⟩, _⟩ => by
  cases e1
  exact q _ F' H' g (ret_da p.dp)
theorem x_rowsD {W : List (List Nat)} (h : XR K te ρ (.rows W)) : XE K te ρ (.list (W.map rowT)) := fun N σ F H e Q q => h N σ F H e Q fun v F' H' g ⟨A, ⟨a, xs, e1, p, pl⟩, _⟩ => by
  cases e1
  exact q _ F' H' g (ret_da (.lst (.inl (.inl p)) pl.dp))
theorem x_varRow {i : Nat} {r : List Nat} (h : ρ[i]? = some (.row r)) : XR K (tVar i) ρ (.row r) := fun N σ F H e Q q => by
  obtain ⟨A, h1, _, _⟩ := e.en
  obtain ⟨v, ea, p⟩ := h1 i _ h
  exact ⟨_, ea, q _ F H (.refl e.fh) ⟨fun _ => False, ⟨v, rfl, p⟩, fun _ z => z.elim⟩⟩
theorem x_varRows {i : Nat} {W : List (List Nat)} (h : ρ[i]? = some (.rows W)) : XR K (tVar i) ρ (.rows W) := fun N σ F H e Q q => by
  obtain ⟨A, h1, _, _⟩ := e.en
  obtain ⟨a, xs, ea, p, pl⟩ := h1 i _ h
  exact ⟨_, ea, q _ F H (.refl e.fh) ⟨fun _ => False, ⟨a, xs, rfl, p, pl⟩, fun _ z => z.elim⟩⟩
/-- tuple(own list of numbers) -/
theorem x_tupP {r : List Nat} (h : XS K te ρ false (r.map nat_)) : XR K (tCB (rTupP K) (tCons te tNil)) ρ (.row r) := fun N σ F H e Q q => h N σ F H e _ fun p xs F1 H1 g1 s px => by
  rw [nats_dp px] at s
  exact ⟨p, _, rfl, s, fun l ob free ⟨k1, k2⟩ => q (.ref l) (upd F1 l (.frz ob (.tup (r.map fun i : Nat => V.int i)))) _ (g1.trans (.new g1.fh free)) ⟨fun _ => False, ⟨.ref l, rfl, l, ob, rfl, upd_same, k1, k2⟩, fun _ z => z.elim⟩⟩
theorem x_orows0 : XR K (tLst tNil) ρ (.orows []) := fun N σ F H e Q q => ⟨by decide, fun a free => q (.ref a) F _ (.own e.fh free) ⟨fun b => b = a, ⟨a, [], rfl, upd_same, rfl, rfl, fun i v r p _ => by simp at p⟩, fun b z => by rw [z]; exact ⟨e.fh.free free, free, _, upd_same⟩⟩⟩
/-- a row of an own list of rows, or of a known one -/
theorem x_ixO {i : Nat} {W : List (List Nat)} {k : Int} {r : List Nat} (h : ρ[i]? = some (.orows W)) (hk : XE K tb ρ (.int k)) (ha : atI W k = some r) : XR K (tOp (rIx K) (tVar i) tb) ρ (.row r) := fun N σ F H e Q q => by
  obtain ⟨A, h1, _, _⟩ := e.en
  obtain ⟨l, xs, ea, hl, al, pl⟩ := h1 i _ h
  refine ⟨_, ea, hk.e e fun y F2 H2 g2 py => ?_⟩
  have known := g2.hh _ _ hl
  unfold atI at ha
  cases z : ixN W.length k with
  | none => rw [z] at ha; cases ha
  | some j =>
    rw [z] at ha
    have hj : j < xs.length := by rw [pl.1]; exact (List.getElem?_eq_some_iff.mp (show W[j]? = some r from ha)).1
    have hx : xs[j]? = some xs[j] := List.getElem?_eq_getElem hj
    refine .inl ⟨l, xs, k, xs[j], rfl, dp_int py, SqL.of known, ?_, q _ F2 H2 g2 ⟨fun _ => False, ⟨_, rfl, (pl.2 j _ r hx ha).mono g2.ff⟩, fun _ z => z.elim⟩⟩
    unfold atI
    rw [pl.1, z]
    exact hx
theorem x_ixR {i : Nat} {W : List (List Nat)} {k : Int} {r : List Nat} (h : ρ[i]? = some (.rows W)) (hk : XE K tb ρ (.int k)) (ha : atI W k = some r) : XR K (tOp (rIx K) (tVar i) tb) ρ (.row r) := fun N σ F H e Q q => by
  obtain ⟨A, h1, _, _⟩ := e.en
  obtain ⟨l, xs, ea, hl, pl⟩ := h1 i _ h
  refine ⟨_, ea, hk.e e fun y F2 H2 g2 py => ?_⟩
  have known := g2.hh _ _ (e.fh _ _ hl)
  unfold atI at ha
  cases z : ixN W.length k with
  | none => rw [z] at ha; cases ha
  | some j =>
    rw [z] at ha
    have hj : j < xs.length := by rw [pl.1]; exact (List.getElem?_eq_some_iff.mp (show W[j]? = some r from ha)).1
    have hx : xs[j]? = some xs[j] := List.getElem?_eq_getElem hj
    refine .inl ⟨l, xs, k, xs[j], rfl, dp_int py, SqL.of known, ?_, q _ F2 H2 g2 ⟨fun _ => False, ⟨_, rfl, (pl.2 j _ r hx ha).mono g2.ff⟩, fun _ z => z.elim⟩⟩
    unfold atI
    rw [pl.1, z]
    exact hx
/-- row.index(k) -/
theorem x_idxP {r : List Nat} {k : Nat} (h : XR K te ρ (.row r)) (hk : XE K tb ρ (.int k)) (m : k ∈ r) (nd : r.Nodup) : XE K (tBMT (rIdxT K) te (tCons tb tNil)) ρ (.int (r.idxOf k)) := xe_intro fun N σ F H e Q q => h N σ F H e _ fun v F1 H1 g1 ⟨A, ⟨v', e1, a, ob, ea, p, pl⟩, _⟩ => by
  cases e1
  subst ea
  refine ⟨⟨a, ob, _, rfl, g1.fh _ _ p, pl⟩, hk.e (e.gr g1) fun y F2 H2 g2 p2 => ?_⟩
  have hj := List.idxOf_lt_length_of_mem m
  have em : (r.map fun i : Nat => V.int i) = (r.map fun i : Nat => (i : Int)).map V.int := by rw [List.map_map]; rfl
  refine ⟨a, r.map fun i : Nat => (i : Int), k, r.idxOf k, rfl, by rw [dp_int p2], ?_, ?_, fun j hm z => ?_, q _ F2 H2 (g1.trans g2) (.int _)⟩
  · rw [← em]
    exact .inl (.inr ⟨ob, g2.hh _ _ (g1.fh _ _ p)⟩)
  · rw [List.getElem?_map, List.getElem?_eq_getElem hj, List.getElem_idxOf]
    rfl
  · rw [List.getElem?_map, List.getElem?_eq_getElem (by omega)] at z
    have e : r[j] = k := by
      have : ((r[j] : Nat) : Int) = (k : Int) := Option.some.inj z
      omega
    have := (idx_iff nd (show j < r.length by omega)).mp e
    omega
theorem En.mutR (e : En K N ρ σ F H) {i : Nat} {W : List (List Nat)} (h : ρ[i]? = some (.orows W)) : ∃ l xs, σ[i]? = some (some (.ref l)) ∧ H l = some (.lst xs) ∧ PlAll F xs W ∧ N l ∧ F l = none ∧
    ∀ ys V', PlAll F ys V' → En K N (ρ.set i (.orows V')) σ F (upd H l (.lst ys)) := by
  obtain ⟨A, h1, h2, h3⟩ := e.en
  obtain ⟨l, xs, es, hl, al, dl⟩ := h1 i _ h
  obtain ⟨fl, nl, _⟩ := h3 i l al
  refine ⟨l, xs, es, hl, dl, nl, fl, fun ys zs dz => ⟨fun a u q => ?_, by rw [List.length_set]; exact e.len, A, fun j t ht => ?_, h2, fun j a p => ?_⟩⟩
  · rw [upd_ne (ne_of_none q fl)]; exact e.fh a u q
  · by_cases z : j = i
    · subst z
      rw [set_self h] at ht
      cases ht
      exact ⟨l, ys, es, upd_same, al, dz⟩
    · rw [List.getElem?_set_ne (Ne.symm z)] at ht
      refine (h1 j t ht).mono (Same.refl _) (fun a u p q => ?_) fun a q => q
      rw [upd_ne (fun y => z (h2 j i l (by rw [← y]; exact p) al))]
      exact q
  · obtain ⟨f, n, o, ho⟩ := h3 j a p
    by_cases z : a = l
    · rw [z]; exact ⟨fl, nl, _, upd_same⟩
    · exact ⟨f, n, o, by rw [upd_ne z]; exact ho⟩
theorem plAll_app {xs : List V} {W : List (List Nat)} {v : V} {r : List Nat} (h : PlAll F xs W) (p : PlT F v r) : PlAll F (xs ++ [v]) (W ++ [r]) := by
  refine ⟨by rw [List.length_append, List.length_append, h.1]; rfl, fun i u s q1 q2 => ?_⟩
  by_cases z : i < xs.length
  · rw [List.getElem?_append_left z] at q1
    rw [List.getElem?_append_left (by rw [← h.1]; exact z)] at q2
    exact h.2 i u s q1 q2
  · rw [List.getElem?_append_right (by omega)] at q1
    rw [List.getElem?_append_right (by rw [← h.1]; omega), ← h.1] at q2
    cases y : i - xs.length with
    | zero =>
      rw [y] at q1 q2
      cases q1
      cases q2
      exact p
    | succ n =>
      rw [y] at q1
      simp at q1
/-- rows.append(row) -/
theorem s_appRow {i : Nat} {W : List (List Nat)} {r : List Nat} (hi : ρ[i]? = some (.orows W)) (h : XR K te ρ (.row r)) (hz : W.length ≤ 100000) (k : P.nx (ρ.set i (.orows (W ++ [r])))) : WS K (tDrop (tBM K "list" rAppend (tVar i) (tCons te tNil))) ρ P := fun F0 H0 σ F H D e f => by
  obtain ⟨l, xs, es, hl, _⟩ := e.en.mutR hi
  refine ⟨_, es, .inl ⟨rfl, xs, SqL.of hl⟩, h _ σ F H e.en _ fun v F1 H1 g ⟨A, ⟨v', e1, p⟩, _⟩ => ?_⟩
  cases e1
  have e2 := e.go g
  obtain ⟨l', xs', es', hl', dl', nl', fl', k'⟩ := e2.en.mutR hi
  rw [es] at es'
  cases es'
  have en := k' _ _ (plAll_app dl' p)
  refine ⟨l, xs', v, rfl, rfl, hl', by rw [dl'.1]; exact Nat.lt_of_le_of_lt hz (by decide), f.nx _ _ _ _ k ⟨⟨e2.gr.ff, fun a u q => ?_, en.fh, e2.gr.ap⟩, en⟩⟩
  rw [upd_ne (ne_of_none q nl')]
  exact e2.gr.hh a u q
/-- one's own list of rows is known from now on -/
theorem s_frzR (i : Nat) {W : List (List Nat)} (h : ρ[i]? = some (.orows W)) (k : WS K t (ρ.set i (.rows W)) P) : WS K t ρ P := fun F0 H0 σ F H D e f => by
  obtain ⟨A, h1, h2, h3⟩ := e.en.en
  obtain ⟨l, xs, es, hl, al, dl⟩ := h1 i _ h
  obtain ⟨fl, nl, _⟩ := h3 i l al
  have g := e.gr.frz nl fl hl
  refine k F0 H0 σ (upd F l (.lst xs)) H D ⟨g, g.fh, by rw [List.length_set]; exact e.en.len, fun j a => j ≠ i ∧ A j a, fun j s hs => ?_, fun j k a p q => h2 j k a p.2 q.2, fun j a p => ?_⟩ f
  · by_cases z : j = i
    · subst z
      rw [set_self h] at hs
      cases hs
      exact ⟨_, xs, es, upd_same, dl.mono (same_new fl)⟩
    · rw [List.getElem?_set_ne (Ne.symm z)] at hs
      exact (h1 j s hs).mono (same_new fl) (fun _ _ _ q => q) fun a q => ⟨z, q⟩
  · obtain ⟨f1, n1, o1⟩ := h3 j a p.2
    exact ⟨by rw [upd_ne fun y => p.1 (h2 j i l (by rw [← y]; exact p.2) al)]; exact f1, n1, o1⟩
end
end WL

namespace WL
open PySem L2
/-! ### what is one's own, by paths -/
def Ot.kids : Ot → List Ot
  | .li ts => ts
  | .tu ts => ts
  | .di _ ts => ts
  | .ob _ _ ts => ts
  | _ => []
def Ot.putK : Ot → Nat → Ot → Ot
  | .li ts, k, u => .li (ts.set k u)
  | .tu ts, k, u => .tu (ts.set k u)
  | .di ks ts, k, u => .di ks (ts.set k u)
  | .ob C ns ts, k, u => .ob C ns (ts.set k u)
  | t, _, _ => t
def Ot.sub : Ot → List Nat → Option Ot
  | t, [] => some t
  | t, k :: p => match t.kids[k]? with
    | some u => u.sub p
    | none => none
def Ot.put : Ot → List Nat → Ot → Ot
  | _, [], u => u
  | t, k :: p, u => match t.kids[k]? with
    | some s => t.putK k (s.put p u)
    | none => t
theorem put_nil (t u : Ot) : t.put [] u = u := by cases t <;> rfl
theorem put_cons {t s u : Ot} {k : Nat} {p : List Nat} (e : t.kids[k]? = some s) : t.put (k :: p) u = t.putK k (s.put p u) := by
  rw [Ot.put]
  simp only [e]
def kidsV : HO → List V
  | .lst vs => vs
  | .tup vs => vs
  | .dK kvs => kvs.map (·.2)
  | .ins _ _ fs => fs.map (·.2)
  | _ => []
def walkH (H : Hp) : V → List Nat → Option V
  | v, [] => some v
  | .ref l, k :: p => match H l with
    | some o => match (kidsV o)[k]? with
      | some v => walkH H v p
      | none => none
    | none => none
  | _, _ :: _ => none
theorem sub_app : ∀ (p : List Nat) {t s : Ot} (q : List Nat), t.sub p = some s → t.sub (p ++ q) = s.sub q
  | [], t, s, q, h => by cases h; rfl
  | k :: p, t, s, q, h => by
    show (match t.kids[k]? with | some u => u.sub (p ++ q) | none => none) = _
    unfold Ot.sub at h
    cases e : t.kids[k]? with
    | none => rw [e] at h; cases h
    | some u => rw [e] at h; exact sub_app p q h
theorem walk_cons {H : Hp} {l : Addr} {k : Nat} {p : List Nat} : walkH H (.ref l) (k :: p) = match H l with
    | some o => match (kidsV o)[k]? with
      | some v => walkH H v p
      | none => none
    | none => none := rfl
theorem walk_app {H : Hp} : ∀ (p : List Nat) {v w : V} (q : List Nat), walkH H v p = some w → walkH H v (p ++ q) = walkH H w q
  | [], v, w, q, h => by cases h; rfl
  | k :: p, v, w, q, h => by
    cases v <;> try (cases h)
    rename_i l
    show walkH H (.ref l) (k :: (p ++ q)) = _
    rw [walk_cons] at h ⊢
    cases e : H l with
    | none => rw [e] at h; cases h
    | some o =>
      simp only [e] at h ⊢
      cases e2 : (kidsV o)[k]? with
      | none => simp only [e2] at h; cases h
      | some u =>
        simp only [e2] at h ⊢
        exact walk_app p q h
section
variable {K : PySem.W.Frag} {F H F' H' : Hp}
theorem ots_len : ∀ {ts : List Ot} {vs : List V} {as : List Addr}, OtsOk K F H ts vs as → ts.length = vs.length
  | _, _, _, .nil => rfl
  | _, _, _, .cons _ q => congrArg (· + 1) (ots_len q)
theorem ots_foc : ∀ {ts : List Ot} {vs : List V} {as : List Addr}, OtsOk K F H ts vs as → ∀ {k : Nat} {s : Ot}, ts[k]? = some s → ∃ (w : V) (xs bs ys : List Addr), vs[k]? = some w ∧ as = xs ++ (bs ++ ys) ∧ OtOk K F H s w bs ∧
    ∀ (F' H' : Hp) (u : Ot) (w' : V) (cs : List Addr), Same F F' → (∀ a ∈ xs ++ ys, ∀ o, H a = some o → H' a = some o) → OtOk K F' H' u w' cs → OtsOk K F' H' (ts.set k u) (vs.set k w') (xs ++ (cs ++ ys))
  | _, _, _, .nil, k, s, h => by simp at h
  | _, _, _, .cons (as := as) (bs := bs) p q, 0, s, h => by
    cases h
    exact ⟨_, [], as, bs, rfl, rfl, p, fun F' H' u w' cs ff m hu => by
      show OtsOk K F' H' _ _ (cs ++ bs)
      exact .cons hu (q.mono ff fun a z => m a z)⟩
  | _, _, _, .cons (as := as) p q, k + 1, s, h => by
    obtain ⟨w, xs, bs, ys, h1, h2, h3, h4⟩ := ots_foc q (k := k) (s := s) (by simpa using h)
    refine ⟨w, as ++ xs, bs, ys, by simpa using h1, by rw [h2, List.append_assoc], h3, fun F' H' u w' cs ff m hu => ?_⟩
    rw [List.append_assoc]
    exact .cons (p.mono ff fun a z => m a (List.mem_append_left _ (List.mem_append_left _ z))) (h4 F' H' u w' cs ff (fun a z => m a (by
      rcases List.mem_append.mp z with z | z
      · exact List.mem_append_left _ (List.mem_append_right _ z)
      · exact List.mem_append_right _ z)) hu)
theorem zip_snd {α β : Type} {ks : List α} {vs : List β} (h : vs.length ≤ ks.length) : (ks.zip vs).map (·.2) = vs := List.map_snd_zip h
theorem ot_open {t : Ot} {v : V} {as : List Addr} {k : Nat} {s : Ot} (h : OtOk K F H t v as) (hk : t.kids[k]? = some s) : ∃ (l : Addr) (o : HO) (hd as' : List Addr), v = .ref l ∧ H l = some o ∧ as = hd ++ as' ∧ OtsOk K F H t.kids (kidsV o) as' ∧
    ∀ (F' H' : Hp) (k : Nat) (u : Ot) (bs : List Addr), (∀ a ∈ hd, ∀ o, H a = some o → H' a = some o) → OtsOk K F' H' (t.kids.set k u) (kidsV o) bs → OtOk K F' H' (t.putK k u) v (hd ++ bs) := by
  cases h with
  | da p => simp [Ot.kids] at hk
  | at_ => simp [Ot.kids] at hk
  | li g p => exact ⟨_, _, [_], _, rfl, g, rfl, p, fun F' H' k u bs m q => .li (m _ List.mem_cons_self _ g) q⟩
  | tu g p => exact ⟨_, _, [_], _, rfl, g, rfl, p, fun F' H' k u bs m q => .tu (m _ List.mem_cons_self _ g) q⟩
  | @di l ks vs ts as g e p =>
    have z : (ks.zip vs).map (·.2) = vs := zip_snd (Nat.le_of_eq (by rw [← ots_len p, e]))
    refine ⟨_, _, [_], _, rfl, g, rfl, ?_, fun F' H' k u bs m q => .di (m _ List.mem_cons_self _ g) (by rw [List.length_set]; exact e) ?_⟩
    · show OtsOk K F H _ ((ks.zip vs).map (·.2)) _
      rw [z]; exact p
    · rw [show kidsV (.dK (ks.zip vs)) = (ks.zip vs).map (·.2) from rfl, z] at q; exact q
  | @ob l dx C ns vs ts as g g2 e p =>
    have z : (ns.zip vs).map (·.2) = vs := zip_snd (Nat.le_of_eq (by rw [← ots_len p, e]))
    refine ⟨_, _, [_, _], _, rfl, g, rfl, ?_, fun F' H' k u bs m q => .ob (m _ List.mem_cons_self _ g) (m _ (List.mem_cons_of_mem _ List.mem_cons_self) _ g2) (by rw [List.length_set]; exact e) ?_⟩
    · show OtsOk K F H _ ((ns.zip vs).map (·.2)) _
      rw [z]; exact p
    · rw [show kidsV (.ins C dx (ns.zip vs)) = (ns.zip vs).map (·.2) from rfl, z] at q; exact q
theorem set_same {α : Type} {l : List α} {k : Nat} {w : α} (h : l[k]? = some w) : l.set k w = l := by
  refine List.ext_getElem? fun i => ?_
  by_cases z : i = k
  · subst z; rw [List.getElem?_set_self (List.getElem?_eq_some_iff.mp h).1, h]
  · rw [List.getElem?_set_ne (Ne.symm z)]
theorem ot_foc : ∀ (p : List Nat) {t : Ot} {v : V} {as : List Addr} {s : Ot}, OtOk K F H t v as → t.sub p = some s → ∃ (w : V) (xs bs ys : List Addr), walkH H v p = some w ∧ as = xs ++ (bs ++ ys) ∧ OtOk K F H s w bs ∧
    ∀ (F' H' : Hp) (u : Ot) (cs : List Addr), Same F F' → (∀ a ∈ xs ++ ys, ∀ o, H a = some o → H' a = some o) → OtOk K F' H' u w cs → OtOk K F' H' (t.put p u) v (xs ++ (cs ++ ys))
  | [], t, v, as, s, h, hs => by
    cases hs
    exact ⟨v, [], as, [], rfl, by simp, h, fun F' H' u cs _ _ hu => by rw [put_nil]; simpa using hu⟩
  | k :: p, t, v, as, s, h, hs => by
    unfold Ot.sub at hs
    cases e : t.kids[k]? with
    | none => rw [e] at hs; cases hs
    | some r =>
      rw [e] at hs
      obtain ⟨l, o, hd, as', rfl, hl, rfl, hk, back⟩ := ot_open h e
      obtain ⟨w0, xs0, bs0, ys0, h1, rfl, h3, h4⟩ := ots_foc hk e
      obtain ⟨w, xs, bs, ys, g1, rfl, g3, g4⟩ := ot_foc p h3 hs
      refine ⟨w, hd ++ (xs0 ++ xs), bs, ys ++ ys0, ?_, by simp only [List.append_assoc], g3, fun F' H' u cs ff m hu => ?_⟩
      · rw [walk_cons]
        simp only [hl, h1]
        exact g1
      · have r1 := g4 F' H' u cs ff (fun a z => m a (by
          rcases List.mem_append.mp z with z | z
          · exact List.mem_append_left _ (List.mem_append_right _ (List.mem_append_right _ z))
          · exact List.mem_append_right _ (List.mem_append_left _ z))) hu
        have r2 := h4 F' H' _ w0 _ ff (fun a z => m a (by
          rcases List.mem_append.mp z with z | z
          · exact List.mem_append_left _ (List.mem_append_right _ (List.mem_append_left _ z))
          · exact List.mem_append_right _ (List.mem_append_right _ z))) r1
        rw [set_same h1] at r2
        have r3 := back F' H' k _ _ (fun a z => m a (List.mem_append_left _ (List.mem_append_left _ z))) r2
        rw [put_cons e]
        simpa only [List.append_assoc] using r3
mutual
theorem ot_here : ∀ {t : Ot} {v : V} {as : List Addr}, OtOk K F H t v as → ∀ a ∈ as, ∃ o, H a = some o
  | _, _, _, .da _, a, h => by cases h
  | _, _, _, .at_, a, h => by cases h
  | _, _, _, .li g p, a, h => by
    rcases List.mem_cons.mp h with rfl | h
    · exact ⟨_, g⟩
    · exact ots_here p a h
  | _, _, _, .tu g p, a, h => by
    rcases List.mem_cons.mp h with rfl | h
    · exact ⟨_, g⟩
    · exact ots_here p a h
  | _, _, _, .di g _ p, a, h => by
    rcases List.mem_cons.mp h with rfl | h
    · exact ⟨_, g⟩
    · exact ots_here p a h
  | _, _, _, .ob g g2 _ p, a, h => by
    rcases List.mem_cons.mp h with rfl | h
    · exact ⟨_, g⟩
    · rcases List.mem_cons.mp h with rfl | h
      · exact ⟨_, g2⟩
      · exact ots_here p a h
theorem ots_here : ∀ {ts : List Ot} {vs : List V} {as : List Addr}, OtsOk K F H ts vs as → ∀ a ∈ as, ∃ o, H a = some o
  | _, _, _, .nil, a, h => by cases h
  | _, _, _, .cons p q, a, h => by
    rcases List.mem_append.mp h with h | h
    · exact ot_here p a h
    · exact ots_here q a h
end
end
end WL

namespace WL
open PySem L2
section
variable {K : PySem.W.Frag} {N : Addr → Prop} {ρ : List Sl} {σ : L2.St} {F H F' H' F0 H0 : Hp} {ta tA : TA} {te tb tc : TE} {tt tu : TT} {P : Post} {t u : TS}
/-! ### environments with one slot more -/
theorem app_at {α : Type} {ρ : List α} {s : α} {i : Nat} {x : α} (h : (ρ ++ [s])[i]? = some x) : (i < ρ.length ∧ ρ[i]? = some x) ∨ (i = ρ.length ∧ x = s) := by
  by_cases z : i < ρ.length
  · rw [List.getElem?_append_left z] at h; exact .inl ⟨z, h⟩
  · rw [List.getElem?_append_right (by omega)] at h
    cases y : i - ρ.length with
    | zero => rw [y] at h; cases h; exact .inr ⟨by omega, rfl⟩
    | succ n => rw [y] at h; simp at h
theorem En.ext (e : En K N ρ σ F H) (g : Gr F H F' H') {s : Sl} {v : V} (r : RetOk K (fun a => H a = none) F' H' s v) (n : ∀ a, H a = none → N a) : En K N (ρ ++ [s]) (σ ++ [some v]) F' H' := by
  obtain ⟨A, h1, h2, h3⟩ := e.en
  obtain ⟨B, b1, b2⟩ := r
  have nb : ∀ j a, A j a → B a → False := fun j a p q => by
    obtain ⟨_, _, o, ho⟩ := h3 j a p
    have z : H a = none := (b2 a q).2.1
    rw [ho] at z; cases z
  refine ⟨g.fh, by simp [e.len], fun j a => (j = ρ.length ∧ B a) ∨ (j < ρ.length ∧ A j a), fun j t ht => ?_, fun j k a p q => ?_, fun j a p => ?_⟩
  · rcases app_at ht with ⟨z, ht⟩ | ⟨z, rfl⟩
    · rw [List.getElem?_append_left (by rw [← e.len]; exact z)]
      exact ((h1 j t ht).mono g.ff (fun a u _ q => g.hh a u q) fun a q => .inr ⟨z, q⟩)
    · subst z
      rw [List.getElem?_append_right (by rw [e.len]; omega), e.len, Nat.sub_self]
      exact b1.mono (Same.refl _) (fun a u _ q => q) fun a q => .inl ⟨by rw [← e.len], q⟩
  · rcases p with ⟨p1, p2⟩ | ⟨p1, p2⟩ <;> rcases q with ⟨q1, q2⟩ | ⟨q1, q2⟩
    · omega
    · exact (nb _ _ q2 p2).elim
    · exact (nb _ _ p2 q2).elim
    · exact h2 j k a p2 q2
  · rcases p with ⟨p1, p2⟩ | ⟨p1, p2⟩
    · obtain ⟨z1, z2, z3⟩ := b2 a p2
      exact ⟨z1, n a z2, z3⟩
    · obtain ⟨f, n, o, ho⟩ := h3 j a p2
      exact ⟨g.ap a o f ho, n, o, g.hh a o ho⟩
theorem En.lenE {s : Sl} {x : Option V} (e : En K N (ρ ++ [s]) (σ ++ [x]) F H) : ρ.length = σ.length := by have := e.len; simp at this; exact this
theorem En.pop {s : Sl} {x : Option V} (e : En K N (ρ ++ [s]) (σ ++ [x]) F H) : En K N ρ σ F H := by
  have len := e.lenE
  obtain ⟨A, h1, h2, h3⟩ := e.en
  refine ⟨e.fh, len, A, fun j t ht => ?_, h2, h3⟩
  have hj := (List.getElem?_eq_some_iff.mp ht).1
  have := h1 j t (by rw [List.getElem?_append_left hj]; exact ht)
  rw [List.getElem?_append_left (by rw [← len]; exact hj)] at this
  exact this
/-- the last slot goes to slot i -/
theorem En.popSet {s : Sl} {x : Option V} (e : En K N (ρ ++ [s]) (σ ++ [x]) F H) (i : Nat) : En K N (ρ.set i s) (σ.set i x) F H := by
  have len := e.lenE
  obtain ⟨A, h1, h2, h3⟩ := e.en
  have hs : SlOk K F H s (some x) (A ρ.length) := by
    have := h1 ρ.length s (by rw [List.getElem?_append_right (Nat.le_refl _), Nat.sub_self]; rfl)
    rw [List.getElem?_append_right (by omega), show ρ.length - σ.length = 0 by omega] at this
    exact this
  refine ⟨e.fh, by rw [List.length_set, List.length_set]; exact len, fun j a => if j = i then A ρ.length a else j < ρ.length ∧ A j a, fun j t ht => ?_, fun j k a p q => ?_, fun j a p => ?_⟩
  · by_cases z : j = i
    · subst z
      have hj : j < ρ.length := by have := (List.getElem?_eq_some_iff.mp ht).1; simpa using this
      rw [List.getElem?_set_self hj] at ht
      cases ht
      rw [List.getElem?_set_self (by rw [← len]; exact hj)]
      exact hs.mono (Same.refl _) (fun _ _ _ q => q) fun a q => (if_pos rfl).mpr q
    · rw [List.getElem?_set_ne (Ne.symm z)] at ht ⊢
      have hj := (List.getElem?_eq_some_iff.mp ht).1
      have := h1 j t (by rw [List.getElem?_append_left hj]; exact ht)
      rw [List.getElem?_append_left (by rw [← len]; exact hj)] at this
      exact this.mono (Same.refl _) (fun _ _ _ q => q) fun a q => (if_neg z).mpr ⟨hj, q⟩
  · by_cases z : j = i <;> by_cases y : k = i
    · rw [z, y]
    · have p' := (if_pos z).mp p
      have q' := (if_neg y).mp q
      have := h2 _ _ a p' q'.2
      omega
    · have p' := (if_neg z).mp p
      have q' := (if_pos y).mp q
      have := h2 _ _ a p'.2 q'
      omega
    · exact h2 _ _ a ((if_neg z).mp p).2 ((if_neg y).mp q).2
  · by_cases z : j = i
    · exact h3 _ a ((if_pos z).mp p)
    · exact h3 _ a ((if_neg z).mp p).2
/-- slot i is moved to the end -/
theorem En.mv (e : En K N ρ σ F H) {i : Nat} {s : Sl} (h : ρ[i]? = some s) : ∃ x, σ[i]? = some x ∧ En K N (ρ.set i .un ++ [s]) (σ ++ [x]) F H := by
  have hi := (List.getElem?_eq_some_iff.mp h).1
  have hil : i < σ.length := by rw [← e.len]; exact hi
  have hx : σ[i]? = some (σ[i]'hil) := List.getElem?_eq_getElem hil
  obtain ⟨A, h1, h2, h3⟩ := e.en
  refine ⟨_, hx, e.fh, by simp [e.len], fun j a => if j = ρ.length then A i a else j ≠ i ∧ j < ρ.length ∧ A j a, fun j t ht => ?_, fun j k a p q => ?_, fun j a p => ?_⟩
  · rcases app_at ht with ⟨z, ht⟩ | ⟨z, rfl⟩
    · rw [List.length_set] at z
      rw [List.getElem?_append_left (by rw [← e.len]; exact z)]
      by_cases y : j = i
      · subst y
        rw [List.getElem?_set_self z] at ht
        cases ht
        trivial
      · rw [List.getElem?_set_ne (Ne.symm y)] at ht
        exact (h1 j t ht).mono (Same.refl _) (fun _ _ _ q => q) fun a q => (if_neg (by omega)).mpr ⟨y, z, q⟩
    · rw [List.length_set] at z
      subst z
      rw [List.getElem?_append_right (by rw [e.len]; omega), show ρ.length - σ.length = 0 by rw [e.len]; omega]
      have := h1 i _ h
      rw [hx] at this
      exact this.mono (Same.refl _) (fun _ _ _ q => q) fun a q => (if_pos rfl).mpr q
  · by_cases z : j = ρ.length <;> by_cases y : k = ρ.length
    · rw [z, y]
    · exact ((if_neg y).mp q).1.elim (h2 _ _ a ((if_neg y).mp q).2.2 ((if_pos z).mp p))
    · exact ((if_neg z).mp p).1.elim (h2 _ _ a ((if_neg z).mp p).2.2 ((if_pos y).mp q))
    · exact h2 _ _ a ((if_neg z).mp p).2.2 ((if_neg y).mp q).2.2
  · by_cases z : j = ρ.length
    · exact h3 _ a ((if_pos z).mp p)
    · exact h3 _ a ((if_neg z).mp p).2.2
/-! ### one's own, changed at a path; the last slot may go into it -/
/-- what a change at a path asks of the heaps -/
structure Chg (F H F' H' : Hp) (bs : List Addr) : Prop where
  ff : Same F F'
  fh : Same F' H'
  hh : ∀ a o, a ∉ bs → H a = some o → H' a = some o
  ap : ∀ a o, a ∉ bs → F a = none → H a = some o → F' a = none
theorem En.foc (e : En K N (ρ ++ [.ot none u']) (σ ++ [some z]) F H) {i : Nat} {o : Option V} {t s : Ot} {p : List Nat} (hi : ρ[i]? = some (.ot o t)) (hs : t.sub p = some s) : ∃ v w bs cs, σ[i]? = some (some v) ∧ walkH H v p = some w ∧ OtOk K F H s w bs ∧ OtOk K F H u' z cs ∧ (bs ++ cs).Nodup ∧ (∀ a ∈ bs ++ cs, F a = none ∧ N a) ∧
    ∀ F' H' s' ds, Chg F H F' H' (bs ++ cs) → OtOk K F' H' s' w ds → ds.Nodup → (∀ a ∈ ds, (a ∈ bs ++ cs ∨ (H a = none ∧ N a)) ∧ F' a = none) → En K N (ρ.set i (.ot o (t.put p s'))) σ F' H' := by
  have len := e.lenE
  have hil := (List.getElem?_eq_some_iff.mp hi).1
  obtain ⟨A, h1, h2, h3⟩ := e.en
  have k1 := h1 i _ (by rw [List.getElem?_append_left hil]; exact hi)
  rw [List.getElem?_append_left (by rw [← len]; exact hil)] at k1
  obtain ⟨v, as, ev, kn, ok, nd, own⟩ := k1
  have k2 := h1 ρ.length (.ot none u') (by rw [List.getElem?_append_right (Nat.le_refl _), Nat.sub_self]; rfl)
  rw [List.getElem?_append_right (by omega), show ρ.length - σ.length = 0 by omega] at k2
  obtain ⟨z', cs, ez, _, okc, ndc, ownc⟩ := k2
  cases ez
  obtain ⟨w, xs, bs, ys, hw, rfl, okb, back⟩ := ot_foc p ok hs
  have inb : ∀ a ∈ bs, a ∈ xs ++ (bs ++ ys) := fun a m => List.mem_append_right _ (List.mem_append_left _ m)
  have dis : ∀ a ∈ xs ++ (bs ++ ys), a ∉ cs := fun a m m' => by
    have := h2 _ _ a (own a m) (ownc a m')
    omega
  have nd1 := List.nodup_append.mp nd
  have nd2 := List.nodup_append.mp nd1.2.1
  refine ⟨v, w, bs, cs, ev, hw, okb, okc, List.nodup_append.mpr ⟨nd2.1, ndc, fun a m b m' => fun y => dis a (inb a m) (by rw [y]; exact m')⟩, fun a m => ?_, fun F' H' s' ds c okd ndd hd => ?_⟩
  · rcases List.mem_append.mp m with m | m
    · exact ⟨(h3 i a (own a (inb a m))).1, (h3 i a (own a (inb a m))).2.1⟩
    · exact ⟨(h3 _ a (ownc a m)).1, (h3 _ a (ownc a m)).2.1⟩
  · have outs : ∀ a ∈ xs ++ ys, a ∉ bs ++ cs := fun a m m' => by
      rcases List.mem_append.mp m' with m' | m'
      · rcases List.mem_append.mp m with m | m
        · exact nd1.2.2 a m a (List.mem_append_left _ m') rfl
        · exact nd2.2.2 a m' a m rfl
      · exact dis a (by
          rcases List.mem_append.mp m with m | m
          · exact List.mem_append_left _ m
          · exact List.mem_append_right _ (List.mem_append_right _ m)) m'
    have inx : ∀ a ∈ xs ++ ys, a ∈ xs ++ (bs ++ ys) := fun a m => by
      rcases List.mem_append.mp m with m | m
      · exact List.mem_append_left _ m
      · exact List.mem_append_right _ (List.mem_append_right _ m)
    have ok2 := back F' H' s' ds c.ff (fun a m o q => c.hh a o (outs a m) q) okd
    have outd : ∀ a ∈ xs ++ ys, a ∉ ds := fun a m m' => by
      rcases (hd a m').1 with q | q
      · exact outs a m q
      · obtain ⟨_, _, o, ho⟩ := h3 i a (own a (inx a m))
        rw [q.1] at ho; cases ho
    have nd3 : (xs ++ (ds ++ ys)).Nodup := List.nodup_append.mpr ⟨nd1.1, List.nodup_append.mpr ⟨ndd, nd2.2.1, fun a m b m' y => outd b (List.mem_append_right _ m') (by rw [← y]; exact m)⟩, fun a m b m' y => by
      rcases List.mem_append.mp m' with m' | m'
      · exact outd a (List.mem_append_left _ m) (by rw [y]; exact m')
      · exact nd1.2.2 a m b (List.mem_append_right _ m') y⟩
    have other : ∀ j, j < ρ.length → j ≠ i → ∀ a, A j a → a ∉ bs ++ cs := fun j hj ne a q m => by
      rcases List.mem_append.mp m with m | m
      · exact ne (h2 j i a q (own a (inb a m)))
      · have := h2 j _ a q (ownc a m)
        omega
    refine ⟨c.fh, by rw [List.length_set]; exact len, fun j a => j < ρ.length ∧ if j = i then a ∈ xs ++ (ds ++ ys) else A j a, fun j t' ht => ?_, fun j k a p q => ?_, fun j a p => ?_⟩
    · by_cases y : j = i
      · subst y
        rw [List.getElem?_set_self hil] at ht
        cases ht
        exact ⟨v, _, ev, kn, ok2, nd3, fun a m => ⟨hil, (if_pos rfl).mpr m⟩⟩
      · rw [List.getElem?_set_ne (Ne.symm y)] at ht
        have hj := (List.getElem?_eq_some_iff.mp ht).1
        have k := h1 j t' (by rw [List.getElem?_append_left hj]; exact ht)
        rw [List.getElem?_append_left (by rw [← len]; exact hj)] at k
        exact k.mono c.ff (fun a o q r => c.hh a o (other j hj y a q) r) fun a q => ⟨hj, (if_neg y).mpr q⟩
    · have key : ∀ j, j < ρ.length → j ≠ i → A j a → a ∈ xs ++ (ds ++ ys) → False := fun j hj ne q m => by
        rcases List.mem_append.mp m with m | m
        · exact ne (h2 j i a q (own a (List.mem_append_left _ m)))
        · rcases List.mem_append.mp m with m | m
          · rcases (hd a m).1 with r | r
            · exact other j hj ne a q r
            · obtain ⟨_, _, o, ho⟩ := h3 j a q
              rw [r.1] at ho; cases ho
          · exact ne (h2 j i a q (own a (List.mem_append_right _ (List.mem_append_right _ m))))
      by_cases y : j = i <;> by_cases x : k = i
      · rw [y, x]
      · exact (key k q.1 x ((if_neg x).mp q.2) ((if_pos y).mp p.2)).elim
      · exact (key j p.1 y ((if_neg y).mp p.2) ((if_pos x).mp q.2)).elim
      · exact h2 j k a ((if_neg y).mp p.2) ((if_neg x).mp q.2)
    · by_cases y : j = i
      · have m := (if_pos y).mp p.2
        have ex := ot_here ok2 a m
        rcases List.mem_append.mp m with m' | m'
        · obtain ⟨f, n, o, ho⟩ := h3 i a (own a (List.mem_append_left _ m'))
          exact ⟨c.ap a o (outs a (List.mem_append_left _ m')) f ho, n, ex⟩
        · rcases List.mem_append.mp m' with m' | m'
          · obtain ⟨q, f⟩ := hd a m'
            refine ⟨f, ?_, ex⟩
            rcases q with q | q
            · rcases List.mem_append.mp q with q | q
              · exact (h3 i a (own a (inb a q))).2.1
              · exact (h3 _ a (ownc a q)).2.1
            · exact q.2
          · obtain ⟨f, n, o, ho⟩ := h3 i a (own a (List.mem_append_right _ (List.mem_append_right _ m')))
            exact ⟨c.ap a o (outs a (List.mem_append_right _ m')) f ho, n, ex⟩
      · have q := (if_neg y).mp p.2
        obtain ⟨f, n, o, ho⟩ := h3 j a q
        have no := other j p.1 y a q
        exact ⟨c.ap a o no f ho, n, o, c.hh a o no ho⟩
theorem Es.foc {u' : Ot} {z : V} (e : Es K F0 H0 (ρ ++ [.ot none u']) (σ ++ [some z]) F H) {i : Nat} {o : Option V} {t s : Ot} {p : List Nat} (hi : ρ[i]? = some (.ot o t)) (hs : t.sub p = some s) : ∃ v w bs cs, σ[i]? = some (some v) ∧ walkH H v p = some w ∧ OtOk K F H s w bs ∧ OtOk K F H u' z cs ∧ (bs ++ cs).Nodup ∧ (∀ a ∈ bs ++ cs, F a = none ∧ H0 a = none) ∧
    ∀ F' H' s' ds, Chg F H F' H' (bs ++ cs) → OtOk K F' H' s' w ds → ds.Nodup → (∀ a ∈ ds, (a ∈ bs ++ cs ∨ H a = none) ∧ F' a = none) → Es K F0 H0 (ρ.set i (.ot o (t.put p s'))) σ F' H' := by
  obtain ⟨v, w, bs, cs, h1, h2, h3, h4, h5, h6, back⟩ := e.en.foc hi hs
  refine ⟨v, w, bs, cs, h1, h2, h3, h4, h5, h6, fun F' H' s' ds c ok nd hd => ⟨⟨e.gr.ff.trans c.ff, fun a o q => ?_, c.fh, fun a o q r => ?_⟩, back F' H' s' ds c ok nd fun a m => ⟨(hd a m).1.imp id fun q => ⟨q, e.gr.hh.free q⟩, (hd a m).2⟩⟩⟩
  · exact c.hh a o (fun m => by have := (h6 a m).2; rw [q] at this; cases this) (e.gr.hh a o q)
  · exact c.ap a o (fun m => by have := (h6 a m).2; rw [r] at this; cases this) (e.gr.ap a o q r) (e.gr.hh a o r)
theorem Es.ext (e : Es K F0 H0 ρ σ F H) (g : Gr F H F' H') {s : Sl} {v : V} (r : RetOk K (fun a => H a = none) F' H' s v) : Es K F0 H0 (ρ ++ [s]) (σ ++ [some v]) F' H' := ⟨e.gr.trans g, e.en.ext g r fun a h => e.gr.hh.free h⟩
theorem Es.pop {s : Sl} {x : Option V} (e : Es K F0 H0 (ρ ++ [s]) (σ ++ [x]) F H) : Es K F0 H0 ρ σ F H := ⟨e.gr, e.en.pop⟩
theorem Es.popSet {s : Sl} {x : Option V} (e : Es K F0 H0 (ρ ++ [s]) (σ ++ [x]) F H) (i : Nat) : Es K F0 H0 (ρ.set i s) (σ.set i x) F H := ⟨e.gr, e.en.popSet i⟩
theorem Es.mv (e : Es K F0 H0 ρ σ F H) {i : Nat} {s : Sl} (h : ρ[i]? = some s) : ∃ x, σ[i]? = some x ∧ Es K F0 H0 (ρ.set i .un ++ [s]) (σ ++ [x]) F H := by
  obtain ⟨x, h1, h2⟩ := e.en.mv h
  exact ⟨x, h1, e.gr, h2⟩
/-- without a last slot -/
theorem Es.foc0 (e : Es K F0 H0 ρ σ F H) {i : Nat} {o : Option V} {t s : Ot} {p : List Nat} (hi : ρ[i]? = some (.ot o t)) (hs : t.sub p = some s) : ∃ v w bs, σ[i]? = some (some v) ∧ walkH H v p = some w ∧ OtOk K F H s w bs ∧ bs.Nodup ∧ (∀ a ∈ bs, F a = none ∧ H0 a = none) ∧
    ∀ F' H' s' ds, Chg F H F' H' bs → OtOk K F' H' s' w ds → ds.Nodup → (∀ a ∈ ds, (a ∈ bs ∨ H a = none) ∧ F' a = none) → Es K F0 H0 (ρ.set i (.ot o (t.put p s'))) σ F' H' := by
  obtain ⟨v, w, bs, cs, h1, h2, h3, h4, h5, h6, back⟩ := (e.ext (.refl e.en.fh) (s := .ot none (.da .none)) (v := .non) ⟨fun _ => False, ⟨_, [], rfl, (fun _ z => nomatch z), .da .non, List.nodup_nil, fun _ z => nomatch z⟩, fun _ z => z.elim⟩).foc hi hs
  cases h4
  simp only [List.append_nil] at h5 h6 back
  exact ⟨v, w, bs, h1, h2, h3, h5, h6, back⟩
theorem En.peek (e : En K N ρ σ F H) {i : Nat} {o : Option V} {t s : Ot} {p : List Nat} (hi : ρ[i]? = some (.ot o t)) (hs : t.sub p = some s) : ∃ v w bs, σ[i]? = some (some v) ∧ walkH H v p = some w ∧ OtOk K F H s w bs := by
  obtain ⟨A, h1, h2, h3⟩ := e.en
  obtain ⟨v, as, ev, kn, ok, nd, own⟩ := h1 i _ hi
  obtain ⟨w, xs, bs, ys, hw, rfl, okb, back⟩ := ot_foc p ok hs
  exact ⟨v, w, bs, ev, hw, okb⟩
end
end WL

namespace WL
open PySem L2
section
variable {K : PySem.W.Frag} {N : Addr → Prop} {ρ ρ' : List Sl} {σ : L2.St} {F H F' H' F0 H0 : Hp} {ta tA : TA} {te tb tc tv : TE} {tt tu : TT} {P : Post} {t u : TS}
/-! ### the kinds of slots, one told as another -/
def SlImp (K : PySem.W.Frag) (s s' : Sl) : Prop := ∀ F H o A, SlOk K F H s o A → SlOk K F H s' o A
theorem SlImp.refl (s : Sl) : SlImp K s s := fun _ _ _ _ h => h
theorem x_as {s s' : Sl} (h : XR K te ρ s) (m : SlImp K s s') : XR K te ρ s' := fun N σ F H e Q q => h N σ F H e Q fun v F' H' g ⟨A, p, k⟩ => q v F' H' g ⟨A, m _ _ _ _ p, k⟩
theorem En.as (e : En K N ρ σ F H) {i : Nat} {s s' : Sl} (h : ρ[i]? = some s) (m : SlImp K s s') : En K N (ρ.set i s') σ F H := e.swap h fun A => m F H _ A
theorem Es.as (e : Es K F0 H0 ρ σ F H) {i : Nat} {s s' : Sl} (h : ρ[i]? = some s) (m : SlImp K s s') : Es K F0 H0 (ρ.set i s') σ F H := ⟨e.gr, e.en.as h m⟩
theorem s_as (i : Nat) {s s' : Sl} (h : ρ[i]? = some s) (m : SlImp K s s') (k : WS K t (ρ.set i s') P) : WS K t ρ P := fun F0 H0 σ F H D e f => k F0 H0 σ F H D (e.as h m) f
theorem ots_das : ∀ {ds : List PyData} {vs : List V}, DpAll K F vs ds → OtsOk K F H (ds.map .da) vs []
  | [], _, .nil => .nil
  | d :: ds, _ :: _, .cons p a => by
    show OtsOk K F H _ _ ([] ++ [])
    exact .cons (.da p) (ots_das a)
theorem das_ots : ∀ {ds : List PyData} {vs : List V} {as : List Addr}, OtsOk K F H (ds.map .da) vs as → DpAll K F vs ds ∧ as = []
  | [], _, _, .nil => ⟨.nil, rfl⟩
  | d :: ds, _, _, .cons (.da p) q => by
    obtain ⟨a, rfl⟩ := das_ots q
    exact ⟨.cons p a, rfl⟩
/-- a list of data -/
def lD (ds : List PyData) : Ot := .li (ds.map .da)
def lDD (dss : List (List PyData)) : Ot := .li (dss.map lD)
theorem im_ow {ds : List PyData} : SlImp K (.ow ds) (.ot none (lD ds)) := fun F H o A ⟨l, xs, e, p, a, q⟩ => ⟨.ref l, [l], e, (fun _ z => nomatch z), .li p (ots_das q), by simp, fun b m => by rw [List.mem_singleton.mp m]; exact a⟩
theorem im_wo {q : Option V} {ds : List PyData} : SlImp K (.ot q (lD ds)) (.ow ds) := fun F H o A ⟨v, as, e, _, p, nd, own⟩ => by
  cases p with
  | li h p =>
    obtain ⟨d, rfl⟩ := das_ots p
    exact ⟨_, _, e, h, own _ List.mem_cons_self, d⟩
theorem im_da {q : Option V} {d : PyData} : SlImp K (.ot q (.da d)) (.da d) := fun F H o A ⟨v, as, e, _, p, nd, own⟩ => by
  cases p with
  | da p => exact ⟨v, e, p⟩
theorem im_ad {d : PyData} : SlImp K (.da d) (.ot none (.da d)) := fun F H o A ⟨v, e, p⟩ => ⟨v, [], e, (fun _ z => nomatch z), .da p, List.nodup_nil, fun _ m => nomatch m⟩
theorem im_fg {q : Option V} {t : Ot} : SlImp K (.ot q t) (.ot none t) := fun F H o A ⟨v, as, e, _, p⟩ => ⟨v, as, e, (fun _ z => nomatch z), p⟩
theorem ots_rows : ∀ {dss : List (List PyData)} {ls : List Addr}, ls.length = dss.length → (∀ (i : Nat) r ds, ls[i]? = some r → dss[i]? = some ds → ∃ xs, H r = some (.lst xs) ∧ DpAll K F xs ds) → OtsOk K F H (dss.map lD) (ls.map V.ref) ls
  | [], [], _, _ => .nil
  | [], _ :: _, h, _ => by simp at h
  | _ :: _, [], h, _ => by simp at h
  | d :: dss, l :: ls, h, k => by
    obtain ⟨xs, h1, h2⟩ := k 0 l d rfl rfl
    show OtsOk K F H _ _ ([l] ++ ls)
    exact .cons (.li h1 (ots_das h2)) (ots_rows (by simpa using h) fun i r ds a b => k (i + 1) r ds (by simpa using a) (by simpa using b))
theorem rows_ots : ∀ {dss : List (List PyData)} {vs : List V} {as : List Addr}, OtsOk K F H (dss.map lD) vs as → vs = as.map V.ref ∧ as.length = dss.length ∧ ∀ (i : Nat) r ds, as[i]? = some r → dss[i]? = some ds → ∃ xs, H r = some (.lst xs) ∧ DpAll K F xs ds
  | [], _, _, .nil => ⟨rfl, rfl, fun i r ds h _ => by simp at h⟩
  | d :: dss, _, _, .cons (.li h p) q => by
    obtain ⟨dp, rfl⟩ := das_ots p
    obtain ⟨h1, h2, h3⟩ := rows_ots q
    refine ⟨by rw [h1]; rfl, by simp [h2], fun i r ds a b => ?_⟩
    cases i with
    | zero => cases a; cases b; exact ⟨_, h, dp⟩
    | succ i => exact h3 i r ds (by simpa using a) (by simpa using b)
theorem im_ow2 {dss : List (List PyData)} : SlImp K (.ow2 dss) (.ot none (lDD dss)) := fun F H o A ⟨l, ls, e, p, a, nd, len, q⟩ =>
  ⟨.ref l, l :: ls, e, (fun _ z => nomatch z), .li p (ots_rows len fun i r ds h1 h2 => (q i r ds h1 h2).2), nd, fun b m => by
    rcases List.mem_cons.mp m with rfl | m
    · exact a
    · obtain ⟨n, hn⟩ := List.getElem?_of_mem m
      have h2 : n < dss.length := by rw [← len]; exact (List.getElem?_eq_some_iff.mp hn).1
      exact (q n b _ hn (List.getElem?_eq_getElem h2)).1⟩
theorem im_2wo {q : Option V} {dss : List (List PyData)} : SlImp K (.ot q (lDD dss)) (.ow2 dss) := fun F H o A ⟨v, as, e, _, p, nd, own⟩ => by
  cases p with
  | li h p =>
    obtain ⟨rfl, len, k⟩ := rows_ots p
    exact ⟨_, _, e, h, own _ List.mem_cons_self, nd, len, fun i r ds h1 h2 => ⟨own r (List.mem_cons_of_mem _ (List.mem_of_getElem? h1)), k i r ds h1 h2⟩⟩
/-- the value is told, from now on -/
theorem s_knowO {i : Nat} {t' : Ot} (hi : ρ[i]? = some (.ot none t')) (k : ∀ v, WS K t (ρ.set i (.ot (some v) t')) P) : WS K t ρ P := fun F0 H0 σ F H D e f => by
  obtain ⟨A, h1, _⟩ := e.en.en
  obtain ⟨v, as, ev, _, ok, _⟩ := h1 i _ hi
  refine k v F0 H0 σ F H D ⟨e.gr, e.en.swap hi fun A ⟨v', as', e', _, p⟩ => ?_⟩ f
  rw [ev] at e'
  cases e'
  exact ⟨_, as', ev, (fun _ z => by cases z; rfl), p⟩
/-! ### what stands at a path -/
theorem walk_mono (m : Same H H') : ∀ (p : List Nat) {v w : V}, walkH H v p = some w → walkH H' v p = some w
  | [], v, w, h => h
  | k :: p, v, w, h => by
    cases v <;> try (cases h)
    rename_i l
    rw [walk_cons] at h ⊢
    cases e : H l with
    | none => rw [e] at h; cases h
    | some o =>
      rw [m _ _ e]
      simp only [e] at h ⊢
      cases e2 : (kidsV o)[k]? with
      | none => simp only [e2] at h; cases h
      | some u =>
        simp only [e2] at h ⊢
        exact walk_mono m p h
/-- te tells what stands at the path p in slot i -/
def XF (K : PySem.W.Frag) (te : TE) (ρ : List Sl) (i : Nat) (p : List Nat) : Prop := ∀ (N : Addr → Prop) (σ : L2.St) (F H : Hp), En K N ρ σ F H → ∀ Q : VK, (∀ w F' H', Gr F H F' H' → (∃ v, σ[i]? = some (some v) ∧ walkH H' v p = some w) → Q w H') → te σ H Q
theorem xf_var {i : Nat} {o : Option V} {r : Ot} (hi : ρ[i]? = some (.ot o r)) : XF K (tVar i) ρ i [] := fun N σ F H e Q q => by
  obtain ⟨v, w, bs, ev, hw, _⟩ := e.peek hi (p := []) rfl
  exact ⟨v, ev, q v F H (.refl e.fh) ⟨v, ev, rfl⟩⟩
/-- the tree there, at any later heap -/
theorem En.see (e : En K N ρ σ F H) {i : Nat} {o : Option V} {r s : Ot} {p : List Nat} {v w : V} (hi : ρ[i]? = some (.ot o r)) (hs : r.sub p = some s) (hv : σ[i]? = some (some v)) (hw : walkH H v p = some w) : ∃ bs, OtOk K F H s w bs := by
  obtain ⟨v', w', bs, ev, hw', ok⟩ := e.peek hi hs
  rw [hv] at ev
  cases ev
  rw [hw] at hw'
  cases hw'
  exact ⟨bs, ok⟩
theorem xf_ix {i j : Nat} {o : Option V} {r : Ot} {ts : List Ot} {p : List Nat} {k : Int} (h : XF K te ρ i p) (hi : ρ[i]? = some (.ot o r)) (hs : r.sub p = some (.li ts)) (hk : XE K tb ρ (.int k)) (hj : ixN ts.length k = some j) : XF K (tOp (rIx K) te tb) ρ i (p ++ [j]) := fun N σ F H e Q q =>
  h N σ F H e _ fun w F1 H1 g1 ⟨v, hv, hw⟩ => hk.e (e.gr g1) fun y F2 H2 g2 py => by
    have hw2 := walk_mono g2.hh p hw
    obtain ⟨bs, ok⟩ := ((e.gr g1).gr g2).see hi hs hv hw2
    cases ok with
    | @li l vs ts as hl pk =>
      have len := ots_len pk
      have jl : j < vs.length := by rw [← len]; exact (ixN_seq hj).2.1
      have hx : vs[j]? = some vs[j] := List.getElem?_eq_getElem jl
      refine .inl ⟨l, vs, k, vs[j], rfl, dp_int py, SqL.of hl, ?_, q _ F2 H2 (g1.trans g2) ⟨v, hv, ?_⟩⟩
      · unfold atI
        rw [← len, hj]
        exact hx
      · rw [walk_app p [j] hw2, walk_cons]
        simp only [hl, kidsV, hx]
        rfl
theorem x_pathD {i : Nat} {o : Option V} {r : Ot} {p : List Nat} {d : PyData} (h : XF K te ρ i p) (hi : ρ[i]? = some (.ot o r)) (hs : r.sub p = some (.da d)) : XE K te ρ d := xe_intro fun N σ F H e Q q => h N σ F H e _ fun w F1 H1 g1 ⟨v, hv, hw⟩ => by
  obtain ⟨bs, ok⟩ := (e.gr g1).see hi hs hv hw
  cases ok with
  | da p => exact q w F1 H1 g1 p
theorem xs_pathL {i : Nat} {o : Option V} {r : Ot} {p : List Nat} {ds : List PyData} (h : XF K te ρ i p) (hi : ρ[i]? = some (.ot o r)) (hs : r.sub p = some (lD ds)) : XS K te ρ false ds := fun N σ F H e Q q => h N σ F H e _ fun w F1 H1 g1 ⟨v, hv, hw⟩ => by
  obtain ⟨bs, ok⟩ := (e.gr g1).see hi hs hv hw
  cases ok with
  | li hl pk => exact q _ _ F1 H1 g1 (SqL.of hl) (das_ots pk).1
theorem x_pathLen {i : Nat} {o : Option V} {r : Ot} {p : List Nat} {ts : List Ot} (h : XF K te ρ i p) (hi : ρ[i]? = some (.ot o r)) (hs : r.sub p = some (.li ts)) : XE K (tCB (fun xs H Q => ∃ p ys, xs = [.ref p] ∧ (SqL K H p ys ∨ SqT K H p ys) ∧ Q (.int ys.length) H) (tCons te tNil)) ρ (.int ts.length) := xe_intro fun N σ F H e Q q => h N σ F H e _ fun w F1 H1 g1 ⟨v, hv, hw⟩ => by
  obtain ⟨bs, ok⟩ := (e.gr g1).see hi hs hv hw
  cases ok with
  | li hl pk =>
    refine ⟨_, _, rfl, .inl (SqL.of hl), ?_⟩
    rw [← ots_len pk]
    exact q _ F1 H1 g1 (.int _)
mutual
def Ot.pd : Ot → PyData
  | .da d => d
  | .li ts => .list (pds ts)
  | .tu ts => .tuple (pds ts)
  | _ => .none
def pds : List Ot → List PyData
  | [] => []
  | t :: ts => t.pd :: pds ts
end
mutual
def Ot.flat : Ot → Prop
  | .da d => True
  | .li ts => flats ts
  | .tu ts => flats ts
  | _ => False
def flats : List Ot → Prop
  | [] => True
  | t :: ts => t.flat ∧ flats ts
end
mutual
theorem ot_dp (fh : Same F H) : ∀ {t : Ot} {v : V} {as : List Addr}, OtOk K F H t v as → t.flat → Dp K H v t.pd
  | _, _, _, .da p, _ => dp_mono fh _ _ p
  | _, _, _, .li h p, z => .lst (SqL.of h) (ots_dp fh p z)
  | _, _, _, .tu h p, z => .tup (SqT.of h) (ots_dp fh p z)
  | _, _, _, .di _ _ _, z => z.elim
  | _, _, _, .ob _ _ _ _, z => z.elim
  | _, _, _, .at_, z => z.elim
theorem ots_dp (fh : Same F H) : ∀ {ts : List Ot} {vs : List V} {as : List Addr}, OtsOk K F H ts vs as → flats ts → DpAll K H vs (pds ts)
  | _, _, _, .nil, _ => .nil
  | _, _, _, .cons p q, z => .cons (ot_dp fh p z.1) (ots_dp fh q z.2)
end
theorem pds_map (ts : List Ot) : pds ts = ts.map Ot.pd := by
  induction ts with
  | nil => rfl
  | cons t ts ih => rw [pds, ih]; rfl
theorem flats_iff (ts : List Ot) : flats ts ↔ ∀ t ∈ ts, t.flat := by
  induction ts with
  | nil => simp [flats]
  | cons t ts ih => simp [flats, ih]
theorem xp_path {i : Nat} {o : Option V} {r s : Ot} {p : List Nat} (h : XF K te ρ i p) (hi : ρ[i]? = some (.ot o r)) (hs : r.sub p = some s) (fl : s.flat) : XP K te ρ s.pd := fun N σ F H e Q q => h N σ F H e _ fun w F1 H1 g1 ⟨v, hv, hw⟩ => by
  obtain ⟨bs, ok⟩ := (e.gr g1).see hi hs hv hw
  exact q w F1 H1 g1 (ot_dp (e.gr g1).fh ok fl)
theorem flat_lD (ds : List PyData) : (lD ds).flat := (flats_iff _).mpr fun t h => by obtain ⟨d, _, rfl⟩ := List.mem_map.mp h; trivial
theorem pd_lD (ds : List PyData) : (lD ds).pd = .list ds := by
  show PyData.list (pds _) = _
  rw [pds_map, List.map_map]
  congr 1
  exact List.map_id'' (fun _ => rfl) ds
theorem flat_lDD (dss : List (List PyData)) : (lDD dss).flat := (flats_iff _).mpr fun t h => by obtain ⟨d, _, rfl⟩ := List.mem_map.mp h; exact flat_lD d
theorem pd_lDD (dss : List (List PyData)) : (lDD dss).pd = .list (dss.map PyData.list) := by
  show PyData.list (pds _) = _
  rw [pds_map, List.map_map]
  congr 1
  exact List.map_congr_left fun d _ => pd_lD d
/-! ### environments told anew -/
theorem En.re (e : En K N ρ σ F H) {ρ2 : List Sl} {σ2 : L2.St} (len : ρ2.length = σ2.length) (f : Nat → Nat) (inj : ∀ (i j : Nat) s t, ρ2[i]? = some s → ρ2[j]? = some t → s ≠ .un → t ≠ .un → f i = f j → i = j)
    (h : ∀ (j : Nat) s, ρ2[j]? = some s → s = .un ∨ (ρ[f j]? = some s ∧ σ2[j]? = σ[f j]?)) : En K N ρ2 σ2 F H := by
  obtain ⟨A, h1, h2, h3⟩ := e.en
  refine ⟨e.fh, len, fun j a => (∃ s, ρ2[j]? = some s ∧ s ≠ .un) ∧ A (f j) a, fun j s hs => ?_, fun i j a p q => ?_, fun j a p => h3 _ a p.2⟩
  · rcases h j s hs with rfl | ⟨k1, k2⟩
    · trivial
    · by_cases z : s = .un
      · rw [z]; trivial
      · rw [k2]
        exact (h1 _ s k1).mono (Same.refl _) (fun _ _ _ q => q) fun a q => ⟨⟨s, hs, z⟩, q⟩
  · obtain ⟨⟨s, hs, ns⟩, p⟩ := p
    obtain ⟨⟨t, ht, nt⟩, q⟩ := q
    exact inj i j s t hs ht ns nt (h2 _ _ a p q)
/-- without the frame -/
theorem En.unfr {fr : List Sl} {φ : L2.St} (e : En K N (ρ ++ fr) (σ ++ φ) F H) (len : ρ.length = σ.length) : En K N ρ σ F H := e.re len id (fun _ _ _ _ _ _ _ _ z => z) fun j s hs => by
  have hj := (List.getElem?_eq_some_iff.mp hs).1
  refine .inr ⟨?_, ?_⟩
  · rw [id, List.getElem?_append_left hj]; exact hs
  · rw [id, List.getElem?_append_left (by rw [← len]; exact hj)]
/-- the slot behind goes to slot i -/
theorem En.home {b : Sl} {x : Option V} {fr : List Sl} {φ : L2.St} (e : En K N (ρ ++ b :: fr) (σ ++ x :: φ) F H) (len : ρ.length = σ.length) (i : Nat) : En K N (ρ.set i b ++ fr) (σ.set i x ++ φ) F H := by
  have lf : fr.length = φ.length := by have := e.len; simp at this; omega
  refine e.re (by simp [len, lf]) (fun j => if j < ρ.length then if j = i then ρ.length else j else j + 1) (fun k j s t _ _ _ _ z => ?_) fun j s hs => .inr ⟨?_, ?_⟩
  · split at z <;> split at z <;> (try split at z) <;> (try split at z) <;> omega
  · by_cases z : j < ρ.length
    · rw [List.getElem?_append_left (by simpa using z)] at hs
      by_cases y : j = i
      · subst y
        rw [List.getElem?_set_self z] at hs
        simp only [z, if_true]
        rw [List.getElem?_append_right (Nat.le_refl _), Nat.sub_self]
        exact hs
      · rw [List.getElem?_set_ne (Ne.symm y)] at hs
        simp only [z, y, if_true, if_false]
        rw [List.getElem?_append_left z]
        exact hs
    · rw [List.getElem?_append_right (by simp; omega), List.length_set] at hs
      simp only [z, if_false]
      rw [List.getElem?_append_right (by omega), show j + 1 - ρ.length = (j - ρ.length) + 1 by omega, List.getElem?_cons_succ]
      exact hs
  · by_cases z : j < ρ.length
    · rw [List.getElem?_append_left (by rw [List.length_set, ← len]; exact z)]
      by_cases y : j = i
      · subst y
        simp only [z, if_true]
        rw [List.getElem?_set_self (by rw [← len]; exact z), List.getElem?_append_right (by omega), show ρ.length - σ.length = 0 by omega]
        rfl
      · simp only [z, y, if_true, if_false]
        rw [List.getElem?_set_ne (Ne.symm y), List.getElem?_append_left (by rw [← len]; exact z)]
    · simp only [z, if_false]
      rw [List.getElem?_append_right (by rw [List.length_set]; omega), List.length_set, List.getElem?_append_right (by omega), show j + 1 - σ.length = (j - σ.length) + 1 by omega, List.getElem?_cons_succ]
/-- the slot behind is forgotten -/
theorem En.skip {b : Sl} {x : Option V} {fr : List Sl} {φ : L2.St} (e : En K N (ρ ++ b :: fr) (σ ++ x :: φ) F H) (len : ρ.length = σ.length) : En K N (ρ ++ fr) (σ ++ φ) F H := by
  have := e.home len ρ.length
  rw [List.set_eq_of_length_le (Nat.le_refl _), List.set_eq_of_length_le (by omega)] at this
  exact this
theorem Es.unfr {fr : List Sl} {φ : L2.St} (e : Es K F0 H0 (ρ ++ fr) (σ ++ φ) F H) (len : ρ.length = σ.length) : Es K F0 H0 ρ σ F H := ⟨e.gr, e.en.unfr len⟩
/-! ### values that go into one's own -/
/-- where a value stood -/
def Was (al : Option (Nat × Option V)) (σ : L2.St) (v : V) : Prop := ∀ i o, al = some (i, o) → σ[i]? = some (some v) ∧ ∀ w, o = some w → v = w
def XV (K : PySem.W.Frag) (te : TE) (ρ : List Sl) (u : Ot) (al : Option (Nat × Option V)) (ρ' : List Sl) : Prop := ∀ (F0 H0 : Hp) (fr : List Sl) (φ σ : L2.St) (F H : Hp), ρ.length = σ.length → Es K F0 H0 (ρ ++ fr) (σ ++ φ) F H → ∀ Q : VK, (∀ v F' H', Gr F H F' H' → Was al σ v → Es K F0 H0 (ρ' ++ fr ++ [.ot none u]) (σ ++ φ ++ [some v]) F' H' → Q v H') → te σ H Q
theorem xv_n {r : Ot} (h : XR K te ρ (.ot none r)) : XV K te ρ r none ρ := fun F0 H0 fr φ σ F H len e Q q => h _ σ F H (e.unfr len).en Q fun v F' H' g r => q v F' H' g (fun _ _ z => nomatch z) (e.ext g r)
theorem xv_d {d : PyData} (h : XE K te ρ d) : XV K te ρ (.da d) none ρ := xv_n (x_as h im_ad)
theorem xv_m {j : Nat} {o : Option V} {r : Ot} (hj : ρ[j]? = some (.ot o r)) : XV K (tVar j) ρ r (some (j, o)) (ρ.set j .un) := fun F0 H0 fr φ σ F H len e Q q => by
  have hjl := (List.getElem?_eq_some_iff.mp hj).1
  have hj' : (ρ ++ fr)[j]? = some (.ot o r) := by rw [List.getElem?_append_left hjl]; exact hj
  obtain ⟨x, hx, e2⟩ := e.mv hj'
  obtain ⟨A, h1, _⟩ := e.en.en
  obtain ⟨v, as, ev, kn, _⟩ := h1 j _ hj'
  rw [hx] at ev
  cases ev
  rw [List.getElem?_append_left (by rw [← len]; exact hjl)] at hx
  rw [List.set_append_left _ _ hjl] at e2
  have e3 := e2.as (i := (ρ.set j .un ++ fr).length) (by rw [List.getElem?_append_right (Nat.le_refl _), Nat.sub_self]; rfl) (im_fg (K := K))
  rw [List.set_append_right _ _ (Nat.le_refl _), Nat.sub_self] at e3
  exact ⟨v, hx, q v F H (.refl e.en.fh) (fun i o' z => by cases z; exact ⟨hx, kn⟩) e3⟩
/-! ### lists of one's own, changed -/
theorem ots_app : ∀ {ts us : List Ot} {vs ws : List V} {as bs : List Addr}, OtsOk K F H ts vs as → OtsOk K F H us ws bs → OtsOk K F H (ts ++ us) (vs ++ ws) (as ++ bs)
  | _, _, _, _, _, _, .nil, q => q
  | _, _, _, _, _, _, .cons p a, q => by
    rw [List.append_assoc]
    exact .cons p (ots_app a q)
theorem ots_one {r : Ot} {v : V} {as : List Addr} (h : OtOk K F H r v as) : OtsOk K F H [r] [v] as := by
  have := OtsOk.cons h .nil
  rw [List.append_nil] at this
  exact this
theorem ots_cut : ∀ (n : Nat) {ts : List Ot} {vs : List V} {as : List Addr}, OtsOk K F H ts vs as → ∃ bs cs, as = bs ++ cs ∧ OtsOk K F H (ts.take n) (vs.take n) bs ∧ OtsOk K F H (ts.drop n) (vs.drop n) cs
  | 0, _, _, as, h => ⟨[], as, rfl, .nil, h⟩
  | n + 1, _, _, _, .nil => ⟨[], [], rfl, .nil, .nil⟩
  | n + 1, _, _, _, .cons p a => by
    obtain ⟨bs, cs, rfl, h1, h2⟩ := ots_cut n a
    exact ⟨_, cs, (List.append_assoc _ _ _).symm, .cons p h1, h2⟩
theorem Es.li {u' : Ot} {z : V} (e : Es K F0 H0 (ρ ++ [.ot none u']) (σ ++ [some z]) F H) {i : Nat} {o : Option V} {r : Ot} {ts : List Ot} {p : List Nat} (hi : ρ[i]? = some (.ot o r)) (hs : r.sub p = some (.li ts)) : ∃ v l vs as cs, σ[i]? = some (some v) ∧ walkH H v p = some (.ref l) ∧ H l = some (.lst vs) ∧ OtsOk K F H ts vs as ∧ OtOk K F H u' z cs ∧ (as ++ cs).Nodup ∧
    ∀ vs' ts' as', OtsOk K F H ts' vs' as' → as'.Nodup → (∀ a ∈ as', a ∈ as ++ cs) → Es K F0 H0 (ρ.set i (.ot o (r.put p (.li ts')))) σ F (upd H l (.lst vs')) := by
  obtain ⟨v, w, bs, cs, h1, h2, h3, h4, h5, h6, back⟩ := e.foc hi hs
  cases h3 with
  | @li l vs ts as hl pk =>
    have nl : l ∉ as ++ cs := by
      rw [List.cons_append] at h5
      exact (List.nodup_cons.mp h5).1
    refine ⟨v, l, vs, as, cs, h1, h2, hl, pk, h4, by rw [List.cons_append] at h5; exact (List.nodup_cons.mp h5).2, fun vs' ts' as' ok nd sub => ?_⟩
    have nla : l ∉ as' := fun m => nl (sub l m)
    refine back F _ (.li ts') (l :: as') ⟨Same.refl _, fun a u q => ?_, fun a o no q => ?_, fun a o _ q _ => q⟩ (.li upd_same (ok.mono (Same.refl _) fun a m o q => ?_)) (List.nodup_cons.mpr ⟨nla, nd⟩) fun a m => ?_
    · rw [upd_ne (ne_of_none q (h6 l List.mem_cons_self).1)]; exact e.en.fh a u q
    · rw [upd_ne fun y => no (by rw [y]; exact List.mem_cons_self)]; exact q
    · rw [upd_ne fun y => nla (by rw [← y]; exact m)]; exact q
    · rcases List.mem_cons.mp m with rfl | m
      · exact ⟨.inl List.mem_cons_self, (h6 _ List.mem_cons_self).1⟩
      · have := sub a m
        exact ⟨.inl (List.mem_cons_of_mem _ this), (h6 a (List.mem_cons_of_mem _ this)).1⟩
theorem Es.non (e : Es K F0 H0 ρ σ F H) : Es K F0 H0 (ρ ++ [.ot none (.da .none)]) (σ ++ [some .non]) F H := e.ext (.refl e.en.fh) ⟨fun _ => False, ⟨_, [], rfl, (fun _ z => nomatch z), .da .non, List.nodup_nil, fun _ z => nomatch z⟩, fun _ z => z.elim⟩
/-- path.append(value) -/
theorem s_appP {i : Nat} {o : Option V} {r u' : Ot} {ts : List Ot} {p : List Nat} (h : XF K te ρ i p) (hi : ρ[i]? = some (.ot o r)) (hs : r.sub p = some (.li ts)) {al : Option (Nat × Option V)} (hv : XV K tv ρ u' al ρ') (hi' : ρ'[i]? = some (.ot o r)) (hz : ts.length ≤ 100000) (k : P.nx (ρ'.set i (.ot o (r.put p (.li (ts ++ [u'])))))) :
    WS K (tDrop (tBM K "list" rAppend te (tCons tv tNil))) ρ P := fun F0 H0 σ F H D e f => h _ σ F H e.en _ fun w F1 H1 g1 ⟨v, ev, hw⟩ => by
  obtain ⟨bs, ok⟩ := (e.go g1).en.see hi hs ev hw
  cases ok with
  | @li l vs ts as hl pk =>
    refine ⟨.inl ⟨rfl, vs, SqL.of hl⟩, hv F0 H0 [] [] σ F1 H1 (e.go g1).en.len (by rw [List.append_nil, List.append_nil]; exact e.go g1) _ fun z F2 H2 g2 _ e2 => ?_⟩
    rw [List.append_nil, List.append_nil] at e2
    obtain ⟨v', l', vs', as', cs, ev', hw', hl', pk', okz, nd, back⟩ := e2.li hi' hs
    rw [ev] at ev'
    cases ev'
    rw [walk_mono g2.hh p hw] at hw'
    cases hw'
    exact ⟨l, vs', z, rfl, rfl, hl', by rw [← ots_len pk']; exact Nat.lt_of_le_of_lt hz (by decide), f.nx _ _ _ _ k (back _ _ _ (ots_app pk' (ots_one okz)) nd fun a m => m)⟩
theorem seq_ix {n j : Nat} {k : Int} (h : ixN n k = some j) (hn : n ≤ 100000) : seqIndex? k n = some j ∧ j < n ∧ -(2 ^ 63) ≤ k ∧ k < 2 ^ 63 := by
  obtain ⟨h1, h2, h3, h4⟩ := ixN_seq h
  exact ⟨h1, h2, by omega, by omega⟩
/-- path.pop(k), told to nobody -/
theorem s_popP {i j : Nat} {o : Option V} {r : Ot} {ts : List Ot} {p : List Nat} {k : Int} (h : XF K te ρ i p) (hi : ρ[i]? = some (.ot o r)) (hs : r.sub p = some (.li ts)) (hk : XE K tb ρ (.int k)) (hj : ixN ts.length k = some j) (hz : ts.length ≤ 100000) (kk : P.nx (ρ.set i (.ot o (r.put p (.li (ts.eraseIdx j)))))) :
    WS K (tDrop (tBM K "list" rPopAt te (tCons tb tNil))) ρ P := fun F0 H0 σ F H D e f => h _ σ F H e.en _ fun w F1 H1 g1 ⟨v, ev, hw⟩ => by
  obtain ⟨bs, ok⟩ := (e.go g1).en.see hi hs ev hw
  cases ok with
  | @li l vs ts as hl pk =>
    refine ⟨.inl ⟨rfl, vs, SqL.of hl⟩, hk.e (e.go g1).en fun y F2 H2 g2 py => ?_⟩
    obtain ⟨v', l', vs', as', cs, ev', hw', hl', pk', okz, nd, back⟩ := ((e.go g1).go g2).non.li hi hs
    rw [ev] at ev'
    cases ev'
    rw [walk_mono g2.hh p hw] at hw'
    cases hw'
    cases okz
    rw [List.append_nil] at nd back
    have len := ots_len pk'
    obtain ⟨s1, s2, s3, s4⟩ := seq_ix hj hz
    have jl : j < vs'.length := by rw [← len]; exact s2
    refine ⟨l, vs', k, j, vs'[j], rfl, by rw [dp_int py], hl', s3, s4, by rw [← len]; exact s1, List.getElem?_eq_getElem jl, f.nx _ _ F2 _ kk ?_⟩
    obtain ⟨b1, c1, e1, k1, k2⟩ := ots_cut j pk'
    obtain ⟨b2, c2, e2, k3, k4⟩ := ots_cut 1 k2
    rw [List.drop_drop] at k4
    rw [List.drop_drop] at k4
    rw [List.eraseIdx_eq_take_drop_succ, List.eraseIdx_eq_take_drop_succ]
    have sub : ∀ a ∈ b1 ++ c2, a ∈ as' := fun a m => by
      rw [e1, e2]
      rcases List.mem_append.mp m with m | m
      · exact List.mem_append_left _ m
      · exact List.mem_append_right _ (List.mem_append_right _ m)
    refine back _ _ (b1 ++ c2) (ots_app k1 k4) ?_ sub
    rw [e1, e2] at nd
    exact nd.sublist (List.Sublist.append (List.Sublist.refl _) (List.sublist_append_right _ _))
/-- path.insert(k, value) -/
theorem s_insP {i : Nat} {o : Option V} {r : Ot} {ts : List Ot} {p : List Nat} {k : Int} {d : PyData} (h : XF K te ρ i p) (hi : ρ[i]? = some (.ot o r)) (hs : r.sub p = some (.li ts)) (hk : XE K tb ρ (.int k)) (hv : XE K tv ρ d) (h0 : 0 ≤ k ∧ k < 2 ^ 63) (hz : ts.length ≤ 100000) (kk : P.nx (ρ.set i (.ot o (r.put p (.li (ts.take k.toNat ++ [.da d] ++ ts.drop k.toNat)))))) :
    WS K (tDrop (tBM K "list" rInsert te (tCons tb (tCons tv tNil)))) ρ P := fun F0 H0 σ F H D e f => h _ σ F H e.en _ fun w F1 H1 g1 ⟨v, ev, hw⟩ => by
  obtain ⟨bs, ok⟩ := (e.go g1).en.see hi hs ev hw
  cases ok with
  | @li l vs ts as hl pk =>
    refine ⟨.inl ⟨rfl, vs, SqL.of hl⟩, hk.e (e.go g1).en fun y F2 H2 g2 py => hv.e ((e.go g1).go g2).en fun z F3 H3 g3 pz => ?_⟩
    obtain ⟨v', l', vs', as', cs, ev', hw', hl', pk', okz, nd, back⟩ := (((e.go g1).go g2).go g3).non.li hi hs
    rw [ev] at ev'
    cases ev'
    rw [walk_mono (g2.hh.trans g3.hh) p hw] at hw'
    cases hw'
    cases okz
    rw [List.append_nil] at nd back
    refine ⟨l, vs', k, z, rfl, by rw [dp_int py], hl', by rw [← ots_len pk']; exact Nat.lt_of_le_of_lt hz (by decide), h0.1, h0.2, f.nx _ _ F3 _ kk ?_⟩
    obtain ⟨b1, c1, e1, k1, k2⟩ := ots_cut k.toNat pk'
    have e3 : b1 ++ [] ++ c1 = as' := by rw [List.append_nil]; exact e1.symm
    exact back _ _ (b1 ++ [] ++ c1) (ots_app (ots_app k1 (ots_one (.da pz))) k2) (by rw [e3]; exact nd) fun a m => by rw [e3] at m; exact m
/-- path[k] = value -/
theorem s_setP {i j : Nat} {o : Option V} {r : Ot} {ts : List Ot} {p : List Nat} {k : Int} {d : PyData} (hv : XE K tv ρ d) (h : XF K te ρ i p) (hi : ρ[i]? = some (.ot o r)) (hs : r.sub p = some (.li ts)) (hk : XE K tb ρ (.int k)) (hj : ixN ts.length k = some j) (kk : P.nx (ρ.set i (.ot o (r.put p (.li (ts.set j (.da d))))))) :
    WS K (tAsg tv (gSub te tb rSetL)) ρ P := fun F0 H0 σ F H D e f => hv.e e.en fun z F1 H1 g1 pz => h _ σ F1 H1 (e.go g1).en _ fun w F2 H2 g2 ⟨v, ev, hw⟩ => hk.e ((e.go g1).go g2).en fun y F3 H3 g3 py => by
  obtain ⟨v', l', vs', as', cs, ev', hw', hl', pk', okz, nd, back⟩ := (((e.go g1).go g2).go g3).non.li hi hs
  rw [ev] at ev'
  cases ev'
  rw [walk_mono g3.hh p hw] at hw'
  cases hw'
  cases okz
  rw [List.append_nil] at nd back
  have len := ots_len pk'
  have jl := (ixN_seq hj).2.1
  refine ⟨l', vs', k, j, rfl, dp_int py, hl', by rw [← len]; exact hj, f.nx _ _ F3 _ kk ?_⟩
  obtain ⟨b1, c1, e1, k1, k2⟩ := ots_cut j pk'
  obtain ⟨b2, c2, e2, k3, k4⟩ := ots_cut 1 k2
  rw [List.drop_drop] at k4
  rw [List.drop_drop] at k4
  have s1 : ts.set j (.da d) = ts.take j ++ .da d :: ts.drop (j + 1) := by rw [List.set_eq_take_append_cons_drop, if_pos jl]
  have s2 : vs'.set j z = vs'.take j ++ z :: vs'.drop (j + 1) := by rw [List.set_eq_take_append_cons_drop, if_pos (by rw [← len]; exact jl)]
  rw [s1, s2]
  have sub : ∀ a ∈ b1 ++ c2, a ∈ as' := fun a m => by
    rw [e1, e2]
    rcases List.mem_append.mp m with m | m
    · exact List.mem_append_left _ m
    · exact List.mem_append_right _ (List.mem_append_right _ m)
  refine back _ _ (b1 ++ c2) (ots_app k1 (.cons (.da (dp_mono (g2.ff.trans g3.ff) _ _ pz)) k4)) ?_ sub
  rw [e1, e2] at nd
  exact nd.sublist (List.Sublist.append (List.Sublist.refl _) (List.sublist_append_right _ _))
theorem ots_rev : ∀ {ts : List Ot} {vs : List V} {as : List Addr}, OtsOk K F H ts vs as → ∃ bs, bs.Perm as ∧ OtsOk K F H ts.reverse vs.reverse bs
  | _, _, _, .nil => ⟨[], .nil, .nil⟩
  | _, _, _, .cons (as := as) p a => by
    obtain ⟨bs, h1, h2⟩ := ots_rev a
    refine ⟨bs ++ as, List.perm_append_comm.trans (List.Perm.append_left as h1), ?_⟩
    rw [List.reverse_cons, List.reverse_cons]
    exact ots_app h2 (ots_one p)
/-- path.reverse() -/
theorem s_revP {i : Nat} {o : Option V} {r : Ot} {ts : List Ot} {p : List Nat} (h : XF K te ρ i p) (hi : ρ[i]? = some (.ot o r)) (hs : r.sub p = some (.li ts)) (kk : P.nx (ρ.set i (.ot o (r.put p (.li ts.reverse))))) :
    WS K (tDrop (tBM K "list" rReverse te tNil)) ρ P := fun F0 H0 σ F H D e f => h _ σ F H e.en _ fun w F1 H1 g1 ⟨v, ev, hw⟩ => by
  obtain ⟨v', l', vs', as', cs, ev', hw', hl', pk', okz, nd, back⟩ := (e.go g1).non.li hi hs
  rw [ev] at ev'
  cases ev'
  rw [hw] at hw'
  cases hw'
  cases okz
  rw [List.append_nil] at nd back
  obtain ⟨bs, pm, k⟩ := ots_rev pk'
  exact ⟨.inl ⟨rfl, vs', SqL.of hl'⟩, l', vs', rfl, rfl, hl', f.nx _ _ _ _ kk (back _ _ bs k (pm.nodup_iff.mpr nd) fun a m => pm.mem_iff.mp m)⟩
/-- path.clear() -/
theorem s_clearP {i : Nat} {o : Option V} {r : Ot} {ts : List Ot} {p : List Nat} (h : XF K te ρ i p) (hi : ρ[i]? = some (.ot o r)) (hs : r.sub p = some (.li ts)) (kk : P.nx (ρ.set i (.ot o (r.put p (.li []))))) :
    WS K (tDrop (tBM K "list" rClear te tNil)) ρ P := fun F0 H0 σ F H D e f => h _ σ F H e.en _ fun w F1 H1 g1 ⟨v, ev, hw⟩ => by
  obtain ⟨v', l', vs', as', cs, ev', hw', hl', pk', okz, nd, back⟩ := (e.go g1).non.li hi hs
  rw [ev] at ev'
  cases ev'
  rw [hw] at hw'
  cases hw'
  exact ⟨.inl ⟨rfl, vs', SqL.of hl'⟩, l', vs', rfl, rfl, hl', f.nx _ _ _ _ kk (back _ _ [] .nil List.nodup_nil fun a m => nomatch m)⟩
end
end WL

namespace WL
open PySem L2
section
variable {K : PySem.W.Frag} {N : Addr → Prop} {ρ ρ' : List Sl} {σ : L2.St} {F H F' H' F0 H0 : Hp} {ta tA : TA} {te tb tc tv : TE} {tt tu : TT} {P : Post} {t u : TS}
/-! ### expressions that change one's own -/
def XW (K : PySem.W.Frag) (te : TE) (ρ : List Sl) (P : Sl → List Sl → Prop) : Prop := ∀ (F0 H0 : Hp) (σ : L2.St) (F H : Hp), Es K F0 H0 ρ σ F H → ∀ Q : VK, (∀ s r v F' H', P s r → Es K F0 H0 (r ++ [s]) (σ ++ [some v]) F' H' → Q v H') → te σ H Q
def XTW (K : PySem.W.Frag) (tt : TT) (ρ : List Sl) (P : Bool → List Sl → Prop) : Prop := ∀ (F0 H0 : Hp) (σ : L2.St) (F H : Hp), Es K F0 H0 ρ σ F H → ∀ Q : Bool → Hp → Prop, (∀ b r F' H', P b r → Es K F0 H0 r σ F' H' → Q b H') → tt σ H Q
theorem xw_of {s : Sl} {R : Sl → List Sl → Prop} (h : XR K te ρ s) (k : R s ρ) : XW K te ρ R := fun F0 H0 σ F H e Q q => h _ σ F H e.en Q fun v F' H' g r => q s ρ v F' H' k (e.ext g r)
theorem xw_mv {i : Nat} {s : Sl} {R : Sl → List Sl → Prop} (hs : ρ[i]? = some s) (hn : s ≠ .un) (k : R s (ρ.set i .un)) : XW K (tVar i) ρ R := fun F0 H0 σ F H e Q q => by
  obtain ⟨x, hx, e2⟩ := e.mv hs
  obtain ⟨A, h1, h2, h3⟩ := e.en.en
  have z := h1 i s hs
  have fin : ∀ v, σ[i]? = some (some v) → tVar i σ H Q := fun v hv => by
    rw [hx] at hv
    cases hv
    exact ⟨v, hx, q s _ v F H k e2⟩
  cases s with
  | un => exact (hn rfl).elim
  | ex C => obtain ⟨a, e1, _⟩ := z; exact fin _ e1
  | da d => obtain ⟨v, e1, _⟩ := z; exact fin v e1
  | ow ds => obtain ⟨l, _, e1, _⟩ := z; exact fin _ e1
  | ow2 ds => obtain ⟨l, _, e1, _⟩ := z; exact fin _ e1
  | ow2a l ds => obtain ⟨_, e1, _⟩ := z; exact fin _ e1
  | row r => obtain ⟨_, e1, _⟩ := z; exact fin _ e1
  | rows W => obtain ⟨_, _, e1, _⟩ := z; exact fin _ e1
  | orows W => obtain ⟨_, _, e1, _⟩ := z; exact fin _ e1
  | ot q t => obtain ⟨_, _, e1, _⟩ := z; exact fin _ e1
  | fd kvs => obtain ⟨_, _, e1, _⟩ := z; exact fin _ e1
theorem xw_imp {R R' : Sl → List Sl → Prop} (h : XW K te ρ R) (k : ∀ s r, R s r → R' s r) : XW K te ρ R' := fun F0 H0 σ F H e Q q => h F0 H0 σ F H e Q fun s r v F' H' p => q s r v F' H' (k s r p)
/-- the slot told is told as another -/
theorem xw_as {R : Sl → List Sl → Prop} {s s' : Sl} {r : List Sl} (h : XW K te ρ fun a b => a = s ∧ b = r) (m : SlImp K s s') (k : R s' r) : XW K te ρ R := fun F0 H0 σ F H e Q q => h F0 H0 σ F H e Q fun a b v F' H' ⟨p1, p2⟩ e1 => by
  subst p1 p2
  have e2 := e1.as (i := b.length) (by rw [List.getElem?_append_right (Nat.le_refl _), Nat.sub_self]; rfl) m
  rw [List.set_append_right _ _ (Nat.le_refl _), Nat.sub_self] at e2
  exact q s' b v F' H' k e2
theorem s_asgW {i : Nat} (h : XW K te ρ fun s r => P.nx (r.set i s)) : WS K (tAsg te (gName i)) ρ P := fun F0 H0 σ F H D e f => h F0 H0 σ F H e _ fun s r v F' H' p e1 => f.nx _ _ _ _ p (e1.popSet i)
theorem s_dropW (h : XW K te ρ fun _ r => P.nx r) : WS K (tDrop te) ρ P := fun F0 H0 σ F H D e f => h F0 H0 σ F H e _ fun s r v F' H' p e1 => f.nx _ _ _ _ p e1.pop
theorem s_retE (h : XW K te ρ P.rtE) : WS K (tRet te) ρ P := fun F0 H0 σ F H D e f => h F0 H0 σ F H e _ fun s r v F' H' p e1 => f.rtE s r σ v F' H' p e1
theorem s_retNE (h : P.rtE (.da .none) ρ) : WS K tRetN ρ P := fun F0 H0 σ F H D e f => f.rtE _ _ σ _ F H h (e.ext (.refl e.en.fh) (ret_da .non))
theorem s_ifW (h : XTW K tt ρ fun b r => (b = true → WS K t r P) ∧ (b = false → WS K u r P)) : WS K (tIfS tt t u) ρ P := fun F0 H0 σ F H D e f => h F0 H0 σ F H e _ fun b r F' H' p e1 => by
  cases b with
  | true => exact p.1 rfl F0 H0 σ F' H' D e1 f
  | false => exact p.2 rfl F0 H0 σ F' H' D e1 f
theorem xtw_of {b : Bool} {R : Bool → List Sl → Prop} (h : XT K tt ρ b) (k : R b ρ) : XTW K tt ρ R := fun F0 H0 σ F H e Q q => h _ σ F H e.en Q fun F' H' g => q b ρ F' H' k (e.go g)
theorem xtw_test {R : Bool → List Sl → Prop} (h : XW K te ρ fun s r => ∃ b, s = .da (.bool b) ∧ R b r) : XTW K (tTest te) ρ R := fun F0 H0 σ F H e Q q => h F0 H0 σ F H e _ fun s r v F' H' ⟨b, hs, p⟩ e1 => by
  subst hs
  obtain ⟨A, h1, _⟩ := e1.en.en
  have k := h1 r.length (.da (.bool b)) (by rw [List.getElem?_append_right (Nat.le_refl _), Nat.sub_self]; rfl)
  rw [List.getElem?_append_right (by rw [e1.en.lenE]; exact Nat.le_refl _), show r.length - σ.length = 0 by rw [e1.en.lenE]; omega] at k
  obtain ⟨v', ev, pv⟩ := k
  cases ev
  exact ⟨b, dp_bool pv, q b r F' H' p e1.pop⟩
theorem xtw_B {R : Bool → List Sl → Prop} (h : XW K te ρ fun s r => ∃ b, s = .da (.bool b) ∧ R b r) : XTW K (tB te) ρ R := fun F0 H0 σ F H e Q q => h F0 H0 σ F H e _ fun s r v F' H' ⟨b, hs, p⟩ e1 => by
  subst hs
  obtain ⟨A, h1, _⟩ := e1.en.en
  have k := h1 r.length (.da (.bool b)) (by rw [List.getElem?_append_right (Nat.le_refl _), Nat.sub_self]; rfl)
  rw [List.getElem?_append_right (by rw [e1.en.lenE]; exact Nat.le_refl _), show r.length - σ.length = 0 by rw [e1.en.lenE]; omega] at k
  obtain ⟨v', ev, pv⟩ := k
  cases ev
  exact ⟨b, dp_bool pv, q b r F' H' p e1.pop⟩
theorem xtw_or {R : Bool → List Sl → Prop} (h : XTW K tt ρ fun b r => (b = true → R true r) ∧ (b = false → XTW K tu r R)) : XTW K (tOr tt tu) ρ R := fun F0 H0 σ F H e Q q => h F0 H0 σ F H e _ fun b r F' H' p e1 => by
  cases b with
  | true => exact q true r F' H' (p.1 rfl) e1
  | false => exact p.2 rfl F0 H0 σ F' H' e1 Q q
theorem xtw_and {R : Bool → List Sl → Prop} (h : XTW K tt ρ fun b r => (b = false → R false r) ∧ (b = true → XTW K tu r R)) : XTW K (tAnd tt tu) ρ R := fun F0 H0 σ F H e Q q => h F0 H0 σ F H e _ fun b r F' H' p e1 => by
  cases b with
  | false => exact q false r F' H' (p.1 rfl) e1
  | true => exact p.2 rfl F0 H0 σ F' H' e1 Q q
theorem xtw_not {R : Bool → List Sl → Prop} (h : XTW K tt ρ fun b r => R (!b) r) : XTW K (tNot tt) ρ R := fun F0 H0 σ F H e Q q => h F0 H0 σ F H e _ fun b r F' H' p e1 => q (!b) r F' H' p e1
/-! ### arguments, some of them one's own -/
def ots (us : List Ot) : List Sl := us.map (Sl.ot none)
def Alias : List (Option (Nat × Option V)) → L2.St → List V → Prop
  | [], _, [] => True
  | a :: al, σ, v :: vs => Was a σ v ∧ Alias al σ vs
  | _, _, _ => False
def XAE (K : PySem.W.Frag) (ta : TA) (ρ : List Sl) (us : List Ot) (al : List (Option (Nat × Option V))) (ρ' : List Sl) : Prop := ∀ (F0 H0 : Hp) (fr : List Sl) (φ σ : L2.St) (F H : Hp), ρ.length = σ.length → Es K F0 H0 (ρ ++ fr) (σ ++ φ) F H → ∀ Q : List V → Hp → Prop, (∀ vs F' H', Gr F H F' H' → Alias al σ vs → Es K F0 H0 (ρ' ++ fr ++ ots us) (σ ++ φ ++ vs.map some) F' H' → Q vs H') → ta σ H Q
theorem xae_nil : XAE K tNil ρ [] [] ρ := fun F0 H0 fr φ σ F H len e Q q => q [] F H (.refl e.en.fh) trivial (by simpa [ots] using e)
theorem XV.len {u' : Ot} {al : Option (Nat × Option V)} (h : XV K te ρ u' al ρ') : True := trivial
theorem xae_cons {u' : Ot} {us : List Ot} {a : Option (Nat × Option V)} {al : List (Option (Nat × Option V))} {ρ1 : List Sl} (h : XV K te ρ u' a ρ1) (hl : ρ1.length = ρ.length) (k : XAE K ta ρ1 us al ρ') : XAE K (tCons te ta) ρ (u' :: us) (a :: al) ρ' := fun F0 H0 fr φ σ F H len e Q q =>
  h F0 H0 fr φ σ F H len e _ fun v F1 H1 g1 w e1 => k F0 H0 (fr ++ [.ot none u']) (φ ++ [some v]) σ F1 H1 (by rw [hl]; exact len) (by rw [← List.append_assoc, ← List.append_assoc]; exact e1) _ fun vs F2 H2 g2 al e2 => q (v :: vs) F2 H2 (g1.trans g2) ⟨w, al⟩ (by simpa [ots, List.append_assoc] using e2)
/-- what is given back -/
inductive BkOk (K : PySem.W.Frag) (F H : Hp) : List V → List (Option Ot) → List Addr → Prop
  | nil : BkOk K F H [] [] []
  | non {v : V} {vs : List V} {bs : List (Option Ot)} {xs : List Addr} : BkOk K F H vs bs xs → BkOk K F H (v :: vs) (none :: bs) xs
  | own {v : V} {vs : List V} {r : Ot} {bs : List (Option Ot)} {ys xs : List Addr} : OtOk K F H r v ys → BkOk K F H vs bs xs → BkOk K F H (v :: vs) (some r :: bs) (ys ++ xs)
/-- a def that takes things of its caller, and gives some of them back; ret none: it raises C -/
def spO (K : PySem.W.Frag) (C : Addr) (R : List Ot → Option Ot → List (Option Ot) → Prop) : Sp := fun vs H Q E => ∃ (F H0 : Hp) (us : List Ot) (ret : Option Ot) (back : List (Option Ot)) (as : List Addr),
  Same F H ∧ Same H0 H ∧ OtsOk K F H us vs as ∧ as.Nodup ∧ (∀ a ∈ as, F a = none ∧ H0 a = none) ∧ (∀ a o, a ∉ as → H a = some o → H0 a = some o) ∧ R us ret back ∧
  (∀ r, ret = some r → ∀ v F' H' rs xs, Gr F H0 F' H' → OtOk K F' H' r v rs → BkOk K F' H' vs back xs → (rs ++ xs).Nodup → (∀ a ∈ rs ++ xs, F' a = none ∧ H0 a = none) → Q v H') ∧
  (ret = none → ∀ F' H' xs, Gr F H0 F' H' → BkOk K F' H' vs back xs → xs.Nodup → (∀ a ∈ xs, F' a = none ∧ H0 a = none) → E (.ref C) none H')
def bkS : List (Option Ot) → List Sl
  | [] => []
  | none :: bs => .un :: bkS bs
  | some r :: bs => .ot none r :: bkS bs
/-- the slots after a call -/
def backR (ρ : List Sl) : List (Option (Nat × Option V)) → List (Option Ot) → List Sl
  | some (i, o) :: al, some r :: bs => backR (ρ.set i (.ot o r)) al bs
  | _ :: al, _ :: bs => backR ρ al bs
  | _, _ => ρ
theorem backR_len : ∀ (al : List (Option (Nat × Option V))) (bs : List (Option Ot)) (ρ : List Sl), (backR ρ al bs).length = ρ.length
  | [], _, _ => by simp [backR]
  | some (i, o) :: al, some r :: bs, ρ => by show (backR (ρ.set i _) al bs).length = _; rw [backR_len, List.length_set]
  | some (i, o) :: al, none :: bs, ρ => by show (backR ρ al bs).length = _; rw [backR_len]
  | some (i, o) :: al, [], ρ => rfl
  | none :: al, [], ρ => rfl
  | none :: al, b :: bs, ρ => by show (backR ρ al bs).length = _; rw [backR_len]
theorem En.backs : ∀ (al : List (Option (Nat × Option V))) (bs : List (Option Ot)) (vs : List V) {ρ : List Sl} {σ : L2.St} {s : List Sl} {x : L2.St}, En K N (ρ ++ bkS bs ++ s) (σ ++ vs.map some ++ x) F H → ρ.length = σ.length → bs.length = vs.length → Alias al σ vs → En K N (backR ρ al bs ++ s) (σ ++ x) F H
  | [], [], [], ρ, σ, s, x, e, len, _, _ => by simpa [bkS, backR] using e
  | [], b :: bs, v :: vs, ρ, σ, s, x, e, len, _, al => al.elim
  | a :: al, b :: bs, [], ρ, σ, s, x, e, len, _, al' => by cases a <;> exact al'.elim
  | [], [], v :: vs, _, _, _, _, _, _, h, _ => by simp at h
  | [], b :: bs, [], _, _, _, _, _, _, h, _ => by simp at h
  | a :: al, [], v :: vs, _, _, _, _, _, _, h, _ => by simp at h
  | a :: al, [], [], _, _, _, _, _, _, _, h => by cases a <;> exact h.elim
  | none :: al, some r :: bs, v :: vs, ρ, σ, s, x, e, len, h, w => by
    have e1 := En.skip (b := .ot none r) (x := some v) (fr := bkS bs ++ s) (φ := vs.map some ++ x) (by simpa [bkS, List.append_assoc] using e) len
    rw [← List.append_assoc, ← List.append_assoc] at e1
    exact e1.backs al bs vs len (by simpa using h) w.2
  | none :: al, none :: bs, v :: vs, ρ, σ, s, x, e, len, h, w => by
    have e1 := En.skip (b := .un) (x := some v) (fr := bkS bs ++ s) (φ := vs.map some ++ x) (by simpa [bkS, List.append_assoc] using e) len
    rw [← List.append_assoc, ← List.append_assoc] at e1
    exact e1.backs al bs vs len (by simpa using h) w.2
  | some (i, o) :: al, none :: bs, v :: vs, ρ, σ, s, x, e, len, h, w => by
    have e1 := En.skip (b := .un) (x := some v) (fr := bkS bs ++ s) (φ := vs.map some ++ x) (by simpa [bkS, List.append_assoc] using e) len
    rw [← List.append_assoc, ← List.append_assoc] at e1
    exact e1.backs al bs vs len (by simpa using h) w.2
  | some (i, o) :: al, some r :: bs, v :: vs, ρ, σ, s, x, e, len, h, w => by
    obtain ⟨w1, w2⟩ := w.1 i o rfl
    have hi : i < ρ.length := by rw [len]; exact (List.getElem?_eq_some_iff.mp w1).1
    have e0 : En K N (ρ ++ .ot o r :: (bkS bs ++ s)) (σ ++ some v :: (vs.map some ++ x)) F H := by
      have e0 : En K N (ρ ++ .ot none r :: (bkS bs ++ s)) (σ ++ some v :: (vs.map some ++ x)) F H := by simpa [bkS, List.append_assoc] using e
      have e2 := e0.swap (i := ρ.length) (s := .ot none r) (s' := .ot o r) (by rw [List.getElem?_append_right (Nat.le_refl _), Nat.sub_self]; rfl) fun A ⟨v', as, ev, _, p⟩ => by
        rw [List.getElem?_append_right (by omega), show ρ.length - σ.length = 0 by omega] at ev ⊢
        cases ev
        exact ⟨_, as, rfl, w2, p⟩
      rw [List.set_append_right _ _ (Nat.le_refl _), Nat.sub_self] at e2
      exact e2
    have e1 := e0.home len i
    rw [set_same w1, ← List.append_assoc, ← List.append_assoc] at e1
    exact e1.backs al bs vs (by rw [List.length_set]; exact len) (by simpa using h) w.2
/-- own things of slots that stand at the end, collected -/
theorem slots_ots {A : Nat → Addr → Prop} : ∀ {us : List Ot} {vs : List V} {n : Nat}, us.length = vs.length → (∀ (i : Nat) s, (ots us)[i]? = some s → SlOk K F H s ((vs.map some)[i]?) (A (n + i))) → (∀ i j a, A i a → A j a → i = j) →
    ∃ as, OtsOk K F H us vs as ∧ as.Nodup ∧ ∀ a ∈ as, ∃ i, n ≤ i ∧ i < n + us.length ∧ A i a
  | [], [], n, _, _, _ => ⟨[], .nil, List.nodup_nil, fun a m => nomatch m⟩
  | [], _ :: _, _, h, _, _ => by simp at h
  | _ :: _, [], _, h, _, _ => by simp at h
  | u :: us, v :: vs, n, h, k, d => by
    obtain ⟨v', as, ev, _, ok, nd, own⟩ := k 0 (.ot none u) rfl
    cases ev
    obtain ⟨bs, h1, h2, h3⟩ := slots_ots (us := us) (vs := vs) (n := n + 1) (by simpa using h) (fun i s hs => by
      have := k (i + 1) s (by simpa [ots] using hs)
      rw [show n + (i + 1) = n + 1 + i by omega] at this
      simpa using this) d
    refine ⟨as ++ bs, .cons ok h1, List.nodup_append.mpr ⟨nd, h2, fun a m b m' y => ?_⟩, fun a m => ?_⟩
    · subst y
      obtain ⟨i, i1, i2, q⟩ := h3 a m'
      have := d _ _ a (own a m) q
      omega
    · rcases List.mem_append.mp m with m | m
      · exact ⟨n, Nat.le_refl _, by simp, own a m⟩
      · obtain ⟨i, i1, i2, q⟩ := h3 a m
        exact ⟨i, by omega, by simp; omega, q⟩
theorem bks_slots : ∀ {vs : List V} {bs : List (Option Ot)} {xs : List Addr}, BkOk K F H vs bs xs → xs.Nodup → ∃ B : Nat → Addr → Prop, (∀ (i : Nat) s, (bkS bs)[i]? = some s → SlOk K F H s ((vs.map some)[i]?) (B i)) ∧ (∀ i j a, B i a → B j a → i = j) ∧ (∀ i a, B i a → a ∈ xs ∧ i < bs.length) ∧ bs.length = vs.length
  | _, _, _, .nil, _ => ⟨fun _ _ => False, fun i s h => by simp [bkS] at h, fun _ _ _ z => z.elim, fun _ _ z => z.elim, rfl⟩
  | _, _, _, .non p, nd => by
    obtain ⟨B, h1, h2, h3, h4⟩ := bks_slots p nd
    refine ⟨fun i a => ∃ j, i = j + 1 ∧ B j a, fun i s h => ?_, fun i j a p q => ?_, fun i a p => ?_, by simp [h4]⟩
    · cases i with
      | zero => cases h; trivial
      | succ i => exact (h1 i s (by simpa [bkS] using h)).mono (Same.refl _) (fun _ _ _ q => q) fun a q => ⟨i, rfl, q⟩
    · obtain ⟨i', rfl, p⟩ := p
      obtain ⟨j', rfl, q⟩ := q
      rw [h2 i' j' a p q]
    · obtain ⟨i', rfl, p⟩ := p
      exact ⟨(h3 i' a p).1, by simp; exact (h3 i' a p).2⟩
  | _, _, _, .own (ys := ys) p q, nd => by
    have n1 := List.nodup_append.mp nd
    obtain ⟨B, h1, h2, h3, h4⟩ := bks_slots q n1.2.1
    refine ⟨fun i a => (i = 0 ∧ a ∈ ys) ∨ ∃ j, i = j + 1 ∧ B j a, fun i s h => ?_, fun i j a p q => ?_, fun i a p => ?_, by simp [h4]⟩
    · cases i with
      | zero => cases h; exact ⟨_, ys, rfl, (fun _ z => nomatch z), p, n1.1, fun a m => .inl ⟨rfl, m⟩⟩
      | succ i => exact (h1 i s (by simpa [bkS] using h)).mono (Same.refl _) (fun _ _ _ q => q) fun a q => .inr ⟨i, rfl, q⟩
    · rcases p with ⟨rfl, p⟩ | ⟨i', rfl, p⟩ <;> rcases q with ⟨rfl, q⟩ | ⟨j', rfl, q⟩
      · rfl
      · exact (n1.2.2 a p a (h3 _ a q).1 rfl).elim
      · exact (n1.2.2 a q a (h3 _ a p).1 rfl).elim
      · rw [h2 i' j' a p q]
    · rcases p with ⟨rfl, p⟩ | ⟨i', rfl, p⟩
      · exact ⟨List.mem_append_left _ p, by simp⟩
      · exact ⟨List.mem_append_right _ (h3 i' a p).1, by simp; exact (h3 i' a p).2⟩
end
end WL

namespace WL
open PySem L2
section
variable {K : PySem.W.Frag} {N : Addr → Prop} {ρ ρ' : List Sl} {σ : L2.St} {F H F' H' F0 H0 : Hp} {ta tA : TA} {te tb tc tv : TE} {tt tu : TT} {P : Post} {t u : TS}
theorem BkOk.len {vs : List V} {bs : List (Option Ot)} {xs : List Addr} (h : BkOk K F H vs bs xs) : bs.length = vs.length := by
  induction h with
  | nil => rfl
  | non _ ih => simp [ih]
  | own _ _ ih => simp [ih]
theorem BkOk.here {vs : List V} {bs : List (Option Ot)} {xs : List Addr} (h : BkOk K F H vs bs xs) : ∀ a ∈ xs, ∃ o, H a = some o := by
  induction h with
  | nil => intro a m; cases m
  | non _ ih => exact ih
  | own p _ ih =>
    intro a m
    rcases List.mem_append.mp m with m | m
    · exact ot_here p a m
    · exact ih a m
theorem BkOk.snoc {vs : List V} {bs : List (Option Ot)} {xs rs : List Addr} {v : V} {r : Ot} (h : BkOk K F H vs bs xs) (p : OtOk K F H r v rs) : BkOk K F H (vs ++ [v]) (bs ++ [some r]) (xs ++ rs) := by
  induction h with
  | nil => have := BkOk.own p (.nil (K := K) (F := F) (H := H)); rw [List.append_nil] at this; exact this
  | non _ ih => exact .non ih
  | own q _ ih => rw [List.append_assoc]; exact .own q ih
theorem bkS_app : ∀ (a b : List (Option Ot)), bkS (a ++ b) = bkS a ++ bkS b
  | [], b => rfl
  | none :: a, b => by show .un :: bkS (a ++ b) = _; rw [bkS_app a b]; rfl
  | some r :: a, b => by show .ot none r :: bkS (a ++ b) = _; rw [bkS_app a b]; rfl
/-- the heaps of a call that takes the things at the end -/
theorem Es.call_go {us : List Ot} {vs : List V} (e : Es K F0 H0 (ρ ++ ots us) (σ ++ vs.map some) F H) (len : ρ.length = σ.length) : ∃ (Hc : Hp) (as : List Addr), Same Hc H ∧ OtsOk K F H us vs as ∧ as.Nodup ∧ (∀ a ∈ as, F a = none ∧ Hc a = none) ∧ (∀ a o, a ∉ as → H a = some o → Hc a = some o) ∧
    ∀ (F2 H2 : Hp) (ws : List V) (bs : List (Option Ot)) (xs : List Addr), Gr F Hc F2 H2 → BkOk K F2 H2 ws bs xs → xs.Nodup → (∀ a ∈ xs, F2 a = none ∧ Hc a = none) → Es K F0 H0 (ρ ++ bkS bs) (σ ++ ws.map some) F2 H2 := by
  obtain ⟨A, h1, h2, h3⟩ := e.en.en
  have luv : us.length = vs.length := by have := e.en.len; simp [ots] at this; omega
  obtain ⟨as, ok, nd, own⟩ := slots_ots (K := K) (F := F) (H := H) (A := A) (n := ρ.length) luv (fun i s hs => by
    have := h1 (ρ.length + i) s (by rw [List.getElem?_append_right (by omega), show ρ.length + i - ρ.length = i by omega]; exact hs)
    rw [List.getElem?_append_right (by omega), show ρ.length + i - σ.length = i by omega] at this
    exact this) h2
  classical
  obtain ⟨Hc, c1, c2⟩ : ∃ Hc : Hp, (∀ a, a ∈ as → Hc a = none) ∧ (∀ a, a ∉ as → Hc a = H a) := ⟨fun a => if a ∈ as then none else H a, fun a q => if_pos q, fun a q => if_neg q⟩
  have hc : Same Hc H := fun a o q => by
    by_cases z : a ∈ as
    · rw [c1 a z] at q; cases q
    · rw [c2 a z] at q; exact q
  have inA : ∀ a ∈ as, F a = none ∧ H0 a = none := fun a m => by
    obtain ⟨i, _, _, q⟩ := own a m
    exact ⟨(h3 i a q).1, (h3 i a q).2.1⟩
  have was : ∀ a o, H0 a = some o → Hc a = some o := fun a o q => by
    rw [c2 a fun m => by rw [(inA a m).2] at q; cases q]
    exact e.gr.hh a o q
  refine ⟨Hc, as, hc, ok, nd, fun a m => ⟨(inA a m).1, c1 a m⟩, fun a o no q => by rw [c2 a no]; exact q, fun F2 H2 ws bs xs g bk ndx fr => ?_⟩
  obtain ⟨B, b1, b2, b3, b4⟩ := bks_slots bk ndx
  have out : ∀ j, j < ρ.length → ∀ a, A j a → a ∉ as := fun j hj a q m => by
    obtain ⟨i, i1, _, q'⟩ := own a m
    have := h2 _ _ a q q'
    omega
  have bl : (bkS bs).length = bs.length := by
    clear b1 b3 b4 bk
    induction bs with
    | nil => rfl
    | cons b bs ih => cases b <;> simp [bkS, ih]
  refine ⟨⟨e.gr.ff.trans g.ff, fun a o q => g.hh a o (was a o q), g.fh, fun a o q r => g.ap a o (e.gr.ap a o q r) (was a o r)⟩, g.fh, by simp [bl, b4, len], fun j a => if j < ρ.length then A j a else B (j - ρ.length) a, fun j s hs => ?_, fun j k a p q => ?_, fun j a p => ?_⟩
  · by_cases z : j < ρ.length
    · rw [List.getElem?_append_left z] at hs
      rw [List.getElem?_append_left (by omega)]
      have := h1 j s (by rw [List.getElem?_append_left z]; exact hs)
      rw [List.getElem?_append_left (by omega)] at this
      exact this.mono g.ff (fun a o q r => g.hh a o (by rw [c2 a (out j z a q)]; exact r)) fun a q => (if_pos z).mpr q
    · rw [List.getElem?_append_right (by omega)] at hs
      rw [List.getElem?_append_right (by omega), ← len]
      exact (b1 _ s hs).mono (Same.refl _) (fun _ _ _ q => q) fun a q => (if_neg z).mpr q
  · have key : ∀ j, j < ρ.length → A j a → a ∈ xs → False := fun j hj p m => by
      obtain ⟨_, _, o, ho⟩ := h3 j a p
      have := (fr a m).2
      rw [c2 a (out j hj a p), ho] at this
      cases this
    by_cases z : j < ρ.length <;> by_cases y : k < ρ.length
    · exact h2 j k a ((if_pos z).mp p) ((if_pos y).mp q)
    · exact (key j z ((if_pos z).mp p) (b3 _ a ((if_neg y).mp q)).1).elim
    · exact (key k y ((if_pos y).mp q) (b3 _ a ((if_neg z).mp p)).1).elim
    · have := b2 _ _ a ((if_neg z).mp p) ((if_neg y).mp q)
      omega
  · by_cases z : j < ρ.length
    · have p' := (if_pos z).mp p
      obtain ⟨f, n, o, ho⟩ := h3 j a p'
      have h : Hc a = some o := by rw [c2 a (out j z a p')]; exact ho
      exact ⟨g.ap a o f h, n, o, g.hh a o h⟩
    · have m := (b3 _ a ((if_neg z).mp p)).1
      refine ⟨(fr a m).1, ?_, bk.here a m⟩
      cases q : H0 a with
      | none => rfl
      | some o =>
        have := (fr a m).2
        rw [was a o q] at this
        cases this
theorem Es.backs {al : List (Option (Nat × Option V))} {bs : List (Option Ot)} {vs : List V} {s : List Sl} {x : L2.St} (e : Es K F0 H0 (ρ ++ bkS bs ++ s) (σ ++ vs.map some ++ x) F H) (len : ρ.length = σ.length) (l : bs.length = vs.length) (w : Alias al σ vs) : Es K F0 H0 (backR ρ al bs ++ s) (σ ++ x) F H := ⟨e.gr, e.en.backs al bs vs len l w⟩
/-- a call that takes things of one's own and gives some back -/
theorem xw_call {C : Addr} {E : L2.XK} {R : List Ot → Option Ot → List (Option Ot) → Prop} {us : List Ot} {al : List (Option (Nat × Option V))} {r : Ot} {back : List (Option Ot)} {PP : Sl → List Sl → Prop} (ha : XAE K ta ρ us al ρ') (hl : ρ'.length = ρ.length) (hR : R us (some r) back) (k : PP (.ot none r) (backR ρ' al back)) : XW K (tCall (spO K C R) [] E ta) ρ PP := fun F0 H0 σ F H e Q q =>
  ha F0 H0 [] [] σ F H e.en.len (by simpa using e) _ fun vs F1 H1 g1 w e1 => by
    rw [List.append_nil, List.append_nil] at e1
    have len : ρ'.length = σ.length := by rw [hl]; exact e.en.len
    obtain ⟨Hc, as, c1, c2, c3, c4, c5, go⟩ := e1.call_go len
    show spO K C R (vs ++ []) H1 Q E
    rw [List.append_nil]
    refine ⟨F1, Hc, us, some r, back, as, e1.en.fh, c1, c2, c3, c4, c5, hR, fun r' hr v F2 H2 rs xs g ok bk nd fr => ?_, fun z => nomatch z⟩
    cases hr
    have e2 := go F2 H2 (vs ++ [v]) (back ++ [some r]) (xs ++ rs) g (bk.snoc ok) (List.perm_append_comm.nodup_iff.mp nd) fun a m => fr a (List.mem_append.mpr (List.mem_append.mp m).symm)
    rw [bkS_app, List.map_append, ← List.append_assoc, ← List.append_assoc] at e2
    exact q _ _ v F2 H2 k (e2.backs len bk.len w)
/-! ### defs that take things of their caller -/
def parS : Ot → V → Sl
  | .da d, _ => .da d
  | t, v => .ot (some v) t
def startO (N : List Str) (us : List Ot) (vs : List V) : List Sl := List.zipWith parS us vs ++ List.replicate (N.length - us.length) Sl.un
def BkS : List V → List (Option Ot) → List Sl → Prop
  | [], [], _ => True
  | _ :: vs, none :: bs, _ :: r => BkS vs bs r
  | v :: vs, some t :: bs, s :: r => s = .ot (some v) t ∧ BkS vs bs r
  | _, _, _ => False
theorem par_ok {r : Ot} {v : V} {as : List Addr} {A : Addr → Prop} (h : OtOk K F H r v as) (nd : as.Nodup) (own : ∀ a ∈ as, A a) : SlOk K F H (parS r v) (some (some v)) A := by
  cases r with
  | da d => cases h with | da p => exact ⟨v, rfl, p⟩
  | _ => exact ⟨v, as, rfl, (fun w z => by cases z; rfl), h, nd, own⟩
theorem ots_start : ∀ {us : List Ot} {vs : List V} {as : List Addr}, OtsOk K F H us vs as → as.Nodup → ∃ B : Nat → Addr → Prop, (∀ (i : Nat) s, (List.zipWith parS us vs)[i]? = some s → SlOk K F H s ((vs.map some)[i]?) (B i)) ∧ (∀ i j a, B i a → B j a → i = j) ∧ (∀ i a, B i a → a ∈ as)
  | _, _, _, .nil, _ => ⟨fun _ _ => False, fun i s h => by simp at h, fun _ _ _ z => z.elim, fun _ _ z => z.elim⟩
  | _, _, _, .cons (as := as) p q, nd => by
    have n1 := List.nodup_append.mp nd
    obtain ⟨B, h1, h2, h3⟩ := ots_start q n1.2.1
    refine ⟨fun i a => (i = 0 ∧ a ∈ as) ∨ ∃ j, i = j + 1 ∧ B j a, fun i s h => ?_, fun i j a p q => ?_, fun i a p => ?_⟩
    · cases i with
      | zero => cases h; exact par_ok p n1.1 fun a m => .inl ⟨rfl, m⟩
      | succ i => exact (h1 i s (by simpa using h)).mono (Same.refl _) (fun _ _ _ q => q) fun a q => .inr ⟨i, rfl, q⟩
    · rcases p with ⟨rfl, p⟩ | ⟨i', rfl, p⟩ <;> rcases q with ⟨rfl, q⟩ | ⟨j', rfl, q⟩
      · rfl
      · exact (n1.2.2 a p a (h3 _ a q) rfl).elim
      · exact (n1.2.2 a q a (h3 _ a p) rfl).elim
      · rw [h2 i' j' a p q]
    · rcases p with ⟨rfl, p⟩ | ⟨i', rfl, p⟩
      · exact List.mem_append_left _ p
      · exact List.mem_append_right _ (h3 i' a p)
theorem startO_en {Nm : List Str} {us : List Ot} {vs : List V} {as : List Addr} (fh : Same F H) (ok : OtsOk K F H us vs as) (nd : as.Nodup) (fr : ∀ a ∈ as, F a = none ∧ H0 a = none) : En K (fun a => H0 a = none) (startO Nm us vs) (L2.start Nm vs) F H := by
  have l := ots_len ok
  obtain ⟨B, b1, b2, b3⟩ := ots_start ok nd
  refine ⟨fh, by unfold startO L2.start; simp [l], B, fun i s hs => ?_, b2, fun i a p => ⟨(fr a (b3 i a p)).1, (fr a (b3 i a p)).2, ot_heres ok a (b3 i a p)⟩⟩
  unfold startO at hs
  have lz : (List.zipWith parS us vs).length = vs.length := by simp [l]
  by_cases z : i < vs.length
  · rw [List.getElem?_append_left (by omega)] at hs
    have := b1 i s hs
    unfold L2.start
    rw [List.getElem?_append_left (by rw [List.length_map]; exact z)]
    exact this
  · rw [List.getElem?_append_right (by omega), List.getElem?_replicate] at hs
    split at hs
    · cases hs; trivial
    · cases hs
where
  ot_heres {us : List Ot} {vs : List V} {as : List Addr} (h : OtsOk K F H us vs as) := ots_here h
theorem bk_collect {A : Nat → Addr → Prop} {σ : L2.St} (d : ∀ i j a, A i a → A j a → i = j) : ∀ {vs : List V} {bs : List (Option Ot)} {r : List Sl} {n : Nat}, BkS vs bs r → (∀ (i : Nat) s, r[i]? = some s → SlOk K F H s σ[n + i]? (A (n + i))) → ∃ xs, BkOk K F H vs bs xs ∧ xs.Nodup ∧ ∀ a ∈ xs, ∃ i, n ≤ i ∧ i < n + r.length ∧ A i a
  | [], [], r, n, _, _ => ⟨[], .nil, List.nodup_nil, fun a m => nomatch m⟩
  | [], _ :: _, _, _, h, _ => h.elim
  | _ :: _, [], _, _, h, _ => h.elim
  | _ :: _, none :: _, [], _, h, _ => h.elim
  | _ :: _, some _ :: _, [], _, h, _ => h.elim
  | v :: vs, none :: bs, s :: r, n, h, k => by
    obtain ⟨xs, h1, h2, h3⟩ := bk_collect d (vs := vs) (bs := bs) (r := r) (n := n + 1) h fun i s hs => by
      have := k (i + 1) s (by simpa using hs)
      rw [show n + (i + 1) = n + 1 + i by omega] at this
      exact this
    exact ⟨xs, .non h1, h2, fun a m => by obtain ⟨i, i1, i2, q⟩ := h3 a m; exact ⟨i, by omega, by simp; omega, q⟩⟩
  | v :: vs, some r' :: bs, s :: r, n, h, k => by
    obtain ⟨rfl, h⟩ := h
    obtain ⟨xs, h1, h2, h3⟩ := bk_collect d (vs := vs) (bs := bs) (r := r) (n := n + 1) h fun i s hs => by
      have := k (i + 1) s (by simpa using hs)
      rw [show n + (i + 1) = n + 1 + i by omega] at this
      exact this
    obtain ⟨v', as, ev, kn, ok, nd, own⟩ := k 0 _ rfl
    cases kn v rfl
    refine ⟨as ++ xs, .own ok h1, List.nodup_append.mpr ⟨nd, h2, fun a m b m' y => ?_⟩, fun a m => ?_⟩
    · subst y
      obtain ⟨i, i1, i2, q⟩ := h3 a m'
      have := d _ _ a (own a m) q
      omega
    · rcases List.mem_append.mp m with m | m
      · exact ⟨n, Nat.le_refl _, by simp, own a m⟩
      · obtain ⟨i, i1, i2, q⟩ := h3 a m
        exact ⟨i, by omega, by simp; omega, q⟩
/-- what a body of such a def is to end with -/
def postO (K : PySem.W.Frag) (C : Addr) (E : L2.XK) (ret : Option Ot) (back : List (Option Ot)) (vs : List V) : Post :=
  { nx := fun r => ret = some (.da .none) ∧ BkS vs back r, rt := fun _ => False, bk := fun _ => False, ct := fun _ => False, ex := fun _ => False,
    rtE := fun s r => (∃ u, ret = some u ∧ SlImp K s (.ot none u)) ∧ BkS vs back r, exE := fun D r => (D = C ∧ ret = none) ∧ BkS vs back r, E := E }
theorem postO_fi {C : Addr} {E : L2.XK} {Q : VK} {ret : Option Ot} {back : List (Option Ot)} {vs : List V} {nx bk ct : L2.St → Hp → Prop} (hn : nx = fun _ H => Q .non H)
    (k1 : ∀ r, ret = some r → ∀ v F' H' rs xs, Gr F H0 F' H' → OtOk K F' H' r v rs → BkOk K F' H' vs back xs → (rs ++ xs).Nodup → (∀ a ∈ rs ++ xs, F' a = none ∧ H0 a = none) → Q v H')
    (k2 : ret = none → ∀ F' H' xs, Gr F H0 F' H' → BkOk K F' H' vs back xs → xs.Nodup → (∀ a ∈ xs, F' a = none ∧ H0 a = none) → E (.ref C) none H') : Fi K F H0 (postO K C E ret back vs) { nx := nx, rt := Q, bk := bk, ct := ct } := by
  have fin : ∀ s ρ (σ : L2.St) v F' H', (∃ u, ret = some u ∧ SlImp K s (.ot none u)) ∧ BkS vs back ρ → Es K F H0 (ρ ++ [s]) (σ ++ [some v]) F' H' → Q v H' := fun s ρ σ v F' H' ⟨⟨u, hu, m⟩, b⟩ e => by
    have len := e.en.lenE
    obtain ⟨A, h1, h2, h3⟩ := e.en.en
    have last := h1 ρ.length s (by rw [List.getElem?_append_right (Nat.le_refl _), Nat.sub_self]; rfl)
    rw [List.getElem?_append_right (by omega), show ρ.length - σ.length = 0 by omega] at last
    obtain ⟨v', rs, ev, _, ok, nd, own⟩ := m _ _ _ _ last
    cases ev
    obtain ⟨xs, bk, ndx, ox⟩ := bk_collect (K := K) (F := F') (H := H') (σ := σ) (n := 0) h2 b fun i s' hs => by
      have hi := (List.getElem?_eq_some_iff.mp hs).1
      rw [Nat.zero_add]
      have := h1 i s' (by rw [List.getElem?_append_left hi]; exact hs)
      rw [List.getElem?_append_left (by omega)] at this
      exact this
    refine k1 u hu v F' H' rs xs e.gr ok bk (List.nodup_append.mpr ⟨nd, ndx, fun a p b q y => ?_⟩) fun a p => ?_
    · subst y
      obtain ⟨i, _, i2, q'⟩ := ox a q
      have := h2 _ _ a (own a p) q'
      omega
    · rcases List.mem_append.mp p with p | p
      · exact ⟨(h3 _ a (own a p)).1, (h3 _ a (own a p)).2.1⟩
      · obtain ⟨i, _, _, q'⟩ := ox a p
        exact ⟨(h3 i a q').1, (h3 i a q').2.1⟩
  refine ⟨fun ρ σ F' H' p e => ?_, fun _ _ _ _ z => z.elim, fun _ _ _ _ z => z.elim, fun _ _ _ _ z => z.elim, fun _ _ _ z => z.elim, fun s ρ σ v F' H' p e => fin s ρ σ v F' H' p e, fun D ρ σ F' H' p e => ?_⟩
  · subst hn
    exact fin (.da .none) ρ σ .non F' H' ⟨⟨_, p.1, im_ad⟩, p.2⟩ (e.ext (.refl e.en.fh) (ret_da .non))
  · obtain ⟨⟨rfl, hr⟩, b⟩ := p
    obtain ⟨A, h1, h2, h3⟩ := e.en.en
    obtain ⟨xs, bk, ndx, ox⟩ := bk_collect (K := K) (F := F') (H := H') (σ := σ) (n := 0) h2 b fun i s' hs => by rw [Nat.zero_add]; exact h1 i s' hs
    exact k2 hr F' H' xs e.gr bk ndx fun a p => by
      obtain ⟨i, _, _, q'⟩ := ox a p
      exact ⟨(h3 i a q').1, (h3 i a q').2.1⟩
section
variable {Pr : Program} {w : World} {mg : Str → Option Value} {base : Heap}
theorem fnO_ok {x qual : Str} {st : Stmt} {f : Addr} {fd : FuncData} {N ps : List Str} {k : Nat} {C : Addr} {R : List Ot → Option Ot → List (Option Ot) → Prop} (Fu : Fun K x qual st f fd) (S : FnScope N ps (defScope st)) (len : ∀ us r b, R us r b → us.length = ps.length)
    (body : ∀ (cdv : Value) (A : Around) (outer : List Env) (s : Shared) (H : Hp) (E : L2.XK), Room k (A.deeper (PyProof.Rows.envOfC qual (defScope st) s.heap.objs.size f cdv)) →
      ∃ t, PSs (cxOf CX0 Pr w K mg base N qual (defScope st) f cdv A outer s H E).nox (defBody st) t ∧ ∀ us ret back vs, R us ret back → us.length = vs.length → ∀ E, WS K t (startO N us vs) (postO K C E ret back vs)) :
    FnOk Pr w K mg base CX0 (k + 1) f fd ps (spO K C R) := by
  refine Fu.ok S (fun vs H Q E h => ?_) (fun cdv A outer s H vs Q E hr h => ?_)
  · obtain ⟨F, H0, us, ret, back, as, _, _, ok, _, _, _, r, _⟩ := h
    rw [← ots_len ok]
    exact len us _ _ r
  · obtain ⟨F, H0, us, ret, back, as, fh, hh, ok, nd, fr, _, r, k1, k2⟩ := h
    obtain ⟨t, ht, ws⟩ := body cdv A outer s H E hr
    exact ⟨t, ht, ws us ret back vs r (ots_len ok) E F H0 _ F H _ ⟨⟨Same.refl _, hh, fh, fun _ _ z _ => z⟩, startO_en fh ok nd fr⟩ (postO_fi rfl k1 k2)⟩
theorem fnOR_ok {x qual : Str} {st : Stmt} {f : Addr} {fd : FuncData} {N ps : List Str} {k : Nat} {C : Addr} {R : List Ot → Option Ot → List (Option Ot) → Prop} (Fu : Fun K x qual st f fd) (S : FnScope N ps (defScope st)) (len : ∀ us r b, R us r b → us.length = ps.length)
    (body : ∀ (cdv : Value) (A : Around) (outer : List Env) (s : Shared) (H : Hp) (E : L2.XK), Room k (A.deeper (PyProof.Rows.envOfC qual (defScope st) s.heap.objs.size f cdv)) →
      ∃ t, PSs (cxOf (L2.CX Pr w) Pr w K mg base N qual (defScope st) f cdv A outer s H E) (defBody st) t ∧ ∀ us ret back vs, R us ret back → us.length = vs.length → WS K t (startO N us vs) (postO K C E ret back vs)) :
    FnOk Pr w K mg base (L2.CX Pr w) (k + 1) f fd ps (spO K C R) := by
  refine Fu.okX S (fun vs H Q E h => ?_) (fun cdv A outer s H vs Q E hr h => ?_)
  · obtain ⟨F, H0, us, ret, back, as, _, _, ok, _, _, _, r, _⟩ := h
    rw [← ots_len ok]
    exact len us _ _ r
  · obtain ⟨F, H0, us, ret, back, as, fh, hh, ok, nd, fr, _, r, k1, k2⟩ := h
    obtain ⟨t, ht, ws⟩ := body cdv A outer s H E hr
    exact ⟨t, ht, ws us ret back vs r (ots_len ok) F H0 _ F H _ ⟨⟨Same.refl _, hh, fh, fun _ _ z _ => z⟩, startO_en fh ok nd fr⟩ (postO_fi rfl k1 k2)⟩
end
end
end WL

namespace WL
open PySem L2
section
variable {K : PySem.W.Frag} {N : Addr → Prop} {ρ ρ' : List Sl} {σ : L2.St} {F H F' H' F0 H0 : Hp} {ta tA : TA} {te tb tc tv : TE} {tt tu : TT} {P : Post} {t u : TS}
/-! ### a part of one's own, taken out; frames -/
theorem En.take (e : En K N ρ σ F H) {i : Nat} {o : Option V} {r s : Ot} {p : List Nat} (hi : ρ[i]? = some (.ot o r)) (hs : r.sub p = some s) : ∃ v w, σ[i]? = some (some v) ∧ walkH H v p = some w ∧ (∀ x, o = some x → v = x) ∧ En K N (ρ.set i (.ot (some v) (r.put p (.at_ w))) ++ [.ot (some w) s]) (σ ++ [some w]) F H := by
  have hil := (List.getElem?_eq_some_iff.mp hi).1
  obtain ⟨A, h1, h2, h3⟩ := e.en
  obtain ⟨v, as, ev, kn, ok, nd, own⟩ := h1 i _ hi
  obtain ⟨w, xs, bs, ys, hw, rfl, okb, back⟩ := ot_foc p ok hs
  have ok2 := back F H (.at_ w) [] (Same.refl _) (fun _ _ _ q => q) .at_
  rw [List.nil_append] at ok2
  have n1 := List.nodup_append.mp nd
  have n2 := List.nodup_append.mp n1.2.1
  have ndr : (xs ++ ys).Nodup := List.nodup_append.mpr ⟨n1.1, n2.2.1, fun a m b m' y => n1.2.2 a m b (List.mem_append_right _ m') y⟩
  have dis : ∀ a ∈ xs ++ ys, a ∉ bs := fun a m m' => by
    rcases List.mem_append.mp m with m | m
    · exact n1.2.2 a m a (List.mem_append_left _ m') rfl
    · exact n2.2.2 a m' a m rfl
  have inr : ∀ a ∈ xs ++ ys, A i a := fun a m => own a (by
    rcases List.mem_append.mp m with m | m
    · exact List.mem_append_left _ m
    · exact List.mem_append_right _ (List.mem_append_right _ m))
  have inb : ∀ a ∈ bs, A i a := fun a m => own a (List.mem_append_right _ (List.mem_append_left _ m))
  refine ⟨v, w, ev, hw, kn, e.fh, by simp [e.len], fun j a => if j = ρ.length then a ∈ bs else if j = i then a ∈ xs ++ ys else j < ρ.length ∧ A j a, fun j s' ht => ?_, fun j k a p q => ?_, fun j a p => ?_⟩
  · rcases app_at ht with ⟨z, ht⟩ | ⟨z, rfl⟩
    · rw [List.length_set] at z
      have z' : j ≠ ρ.length := by omega
      rw [List.getElem?_append_left (by rw [← e.len]; exact z)]
      by_cases y : j = i
      · subst y
        rw [List.getElem?_set_self z] at ht
        cases ht
        exact ⟨v, _, ev, (fun w z => by cases z; rfl), ok2, ndr, fun a m => by simp only [z', if_false, if_true]; exact m⟩
      · rw [List.getElem?_set_ne (Ne.symm y)] at ht
        exact (h1 j s' ht).mono (Same.refl _) (fun _ _ _ q => q) fun a q => by simp only [z', y, if_false]; exact ⟨z, q⟩
    · rw [List.length_set] at z
      subst z
      rw [List.getElem?_append_right (by rw [e.len]; exact Nat.le_refl _), show ρ.length - σ.length = 0 by rw [e.len]; omega]
      exact ⟨w, bs, rfl, (fun w z => by cases z; rfl), okb, n2.1, fun a m => by simp only [if_true]; exact m⟩
  · have side : ∀ j, (if j = ρ.length then a ∈ bs else if j = i then a ∈ xs ++ ys else j < ρ.length ∧ A j a) → (j = ρ.length ∧ a ∈ bs) ∨ (j = i ∧ j ≠ ρ.length ∧ a ∈ xs ++ ys) ∨ (j ≠ i ∧ j < ρ.length ∧ A j a) := fun j p => by
      split at p
      · rename_i z; exact .inl ⟨z, p⟩
      · rename_i z
        split at p
        · rename_i y; exact .inr (.inl ⟨y, z, p⟩)
        · rename_i y; exact .inr (.inr ⟨y, p⟩)
    rcases side j p with ⟨a1, a2⟩ | ⟨a1, a2, a3⟩ | ⟨a1, a2, a3⟩ <;> rcases side k q with ⟨b1, b2⟩ | ⟨b1, b2, b3⟩ | ⟨b1, b2, b3⟩
    · omega
    · exact (dis a b3 a2).elim
    · exact (b1 (h2 k i a b3 (inb a a2))).elim
    · exact (dis a a3 b2).elim
    · omega
    · exact (b1 (h2 k i a b3 (inr a a3))).elim
    · exact (a1 (h2 j i a a3 (inb a b2))).elim
    · exact (a1 (h2 j i a a3 (inr a b3))).elim
    · exact h2 j k a a3 b3
  · dsimp only at p
    split at p
    · exact h3 i a (inb a p)
    · split at p
      · exact h3 i a (inr a p)
      · exact h3 j a p.2
theorem Es.take (e : Es K F0 H0 ρ σ F H) {i : Nat} {o : Option V} {r s : Ot} {p : List Nat} (hi : ρ[i]? = some (.ot o r)) (hs : r.sub p = some s) : ∃ v w, σ[i]? = some (some v) ∧ walkH H v p = some w ∧ (∀ x, o = some x → v = x) ∧ Es K F0 H0 (ρ.set i (.ot (some v) (r.put p (.at_ w))) ++ [.ot (some w) s]) (σ ++ [some w]) F H := by
  obtain ⟨v, w, h1, h2, h3, h4⟩ := e.en.take hi hs
  exact ⟨v, w, h1, h2, h3, e.gr, h4⟩
/-- what stands behind stays as it is while the rest goes on -/
theorem Es.frame {fr : List Sl} {φ : L2.St} (e : Es K F0 H0 (ρ ++ fr) (σ ++ φ) F H) (len : ρ.length = σ.length) : ∃ G : Hp, Es K F G ρ σ F H ∧ (∀ r τ F2 H2, Es K F G r τ F2 H2 → Es K F0 H0 (r ++ fr) (τ ++ φ) F2 H2) ∧ (∀ F2 H2, Gr F G F2 H2 → Gr F0 H0 F2 H2) ∧ (∀ a, G a = none → H0 a = none) ∧ Same G H ∧ (∀ (k : Nat) o' t' v, fr[k]? = some (.ot o' t') → φ[k]? = some (some v) → ∃ bs, OtOk K F G t' v bs) := by
  obtain ⟨A, h1, h2, h3⟩ := e.en.en
  have lf : fr.length = φ.length := by have := e.en.len; simp at this; omega
  classical
  obtain ⟨G, g1, g2⟩ : ∃ G : Hp, (∀ a, (∃ j, j < ρ.length ∧ A j a) → G a = none) ∧ (∀ a, ¬ (∃ j, j < ρ.length ∧ A j a) → G a = H a) := ⟨fun a => if ∃ j, j < ρ.length ∧ A j a then none else H a, fun a q => if_pos q, fun a q => if_neg q⟩
  have gh : Same G H := fun a o q => by
    by_cases z : ∃ j, j < ρ.length ∧ A j a
    · rw [g1 a z] at q; cases q
    · rw [g2 a z] at q; exact q
  have was : ∀ a o, H0 a = some o → G a = some o := fun a o q => by
    rw [g2 a fun ⟨j, _, m⟩ => by rw [(h3 j a m).2.1] at q; cases q]
    exact e.gr.hh a o q
  have gg : ∀ F2 H2, Gr F G F2 H2 → Gr F0 H0 F2 H2 := fun F2 H2 g => ⟨e.gr.ff.trans g.ff, fun a o q => g.hh a o (was a o q), g.fh, fun a o q r => g.ap a o (e.gr.ap a o q r) (was a o r)⟩
  have gn : ∀ a, G a = none → H0 a = none := fun a q => by
    cases z : H0 a with
    | none => rfl
    | some o => rw [was a o z] at q; cases q
  refine ⟨G, ⟨⟨Same.refl _, gh, e.en.fh, fun _ _ q _ => q⟩, e.en.fh, len, fun j a => j < ρ.length ∧ A j a, fun j s hs => ?_, fun j k a p q => h2 j k a p.2 q.2, fun j a p => ⟨(h3 j a p.2).1, g1 a ⟨j, p⟩, (h3 j a p.2).2.2⟩⟩, fun r τ F2 H2 e2 => ⟨gg _ _ e2.gr, ?_⟩, gg, gn, gh, fun k o' t' v hk hv => ?_⟩
  · have hj := (List.getElem?_eq_some_iff.mp hs).1
    have := h1 j s (by rw [List.getElem?_append_left hj]; exact hs)
    rw [List.getElem?_append_left (by omega)] at this
    exact this.mono (Same.refl _) (fun _ _ _ q => q) fun a q => ⟨hj, q⟩
  · obtain ⟨B, b1, b2, b3⟩ := e2.en.en
    have lr := e2.en.len
    have far : ∀ k a, ρ.length ≤ k → A k a → G a = H a := fun k a hk q => g2 a fun ⟨j, hj, m⟩ => by
      have := h2 j k a m q
      omega
    refine ⟨e2.en.fh, by simp [lr, lf], fun j a => if j < r.length then B j a else A (ρ.length + (j - r.length)) a, fun j s hs => ?_, fun j k a p q => ?_, fun j a p => ?_⟩
    · by_cases z : j < r.length
      · rw [List.getElem?_append_left z] at hs
        rw [List.getElem?_append_left (by omega)]
        exact (b1 j s hs).mono (Same.refl _) (fun _ _ _ q => q) fun a q => (if_pos z).mpr q
      · rw [List.getElem?_append_right (by omega)] at hs
        rw [List.getElem?_append_right (by omega), ← lr]
        have := h1 (ρ.length + (j - r.length)) s (by rw [List.getElem?_append_right (by omega), show ρ.length + (j - r.length) - ρ.length = j - r.length by omega]; exact hs)
        rw [List.getElem?_append_right (by omega), show ρ.length + (j - r.length) - σ.length = j - r.length by omega] at this
        exact this.mono e2.gr.ff (fun a o q w => e2.gr.hh a o (by rw [far _ a (by omega) q]; exact w)) fun a q => (if_neg z).mpr q
    · have key : ∀ j k, B j a → A (ρ.length + k) a → False := fun j k p q => by
        have n1 := (b3 j a p).2.1
        obtain ⟨_, _, o, ho⟩ := h3 _ a q
        rw [far _ a (by omega) q, ho] at n1
        cases n1
      by_cases z : j < r.length <;> by_cases y : k < r.length
      · exact b2 j k a ((if_pos z).mp p) ((if_pos y).mp q)
      · exact (key _ _ ((if_pos z).mp p) ((if_neg y).mp q)).elim
      · exact (key _ _ ((if_pos y).mp q) ((if_neg z).mp p)).elim
      · have := h2 _ _ a ((if_neg z).mp p) ((if_neg y).mp q)
        omega
    · by_cases z : j < r.length
      · obtain ⟨q1, q2, q3⟩ := b3 j a ((if_pos z).mp p)
        exact ⟨q1, gn a q2, q3⟩
      · have q := (if_neg z).mp p
        obtain ⟨f, n, o, ho⟩ := h3 _ a q
        have ga : G a = some o := by rw [far _ a (by omega) q]; exact ho
        exact ⟨e2.gr.ap a o f ga, n, o, e2.gr.hh a o ga⟩
  · have := h1 (ρ.length + k) _ (by rw [List.getElem?_append_right (by omega), show ρ.length + k - ρ.length = k by omega]; exact hk)
    rw [List.getElem?_append_right (by omega), show ρ.length + k - σ.length = k by omega, hv] at this
    obtain ⟨v', as, ev, _, ok, _, own⟩ := this
    cases ev
    refine ⟨as, ok.mono (Same.refl _) fun a m o q => ?_⟩
    rw [g2 a fun ⟨j, hj, m'⟩ => by have := h2 _ _ a (own a m) m'; omega]
    exact q
/-! ### for x in one's own list: each item is lent to the loop's name -/
theorem s_forB {i j : Nat} {o : Option V} {ts : List Ot} (f : Nat → Ot → Ot) (hi : ρ[i]? = some (.ot o (.li ts))) (hij : i ≠ j) (hj : ρ[j]? = some .un)
    (body : ∀ (k : Nat) (x : Ot) (l v : V), ts[k]? = some x → WS K t ((ρ.set i (.ot (some l) (.at_ l))).set j (.ot (some v) x)) { nx := fun r => r = (ρ.set i (.ot (some l) (.at_ l))).set j (.ot (some v) (f k x)) })
    (kk : P.nx (ρ.set i (.ot o (.li (ts.mapIdx f))))) : WS K (tFor (iSeq K (tVar i)) (gName j) t) ρ P := fun F0 H0 σ F H D e fi => by
  have hil := (List.getElem?_eq_some_iff.mp hi).1
  have hjl := (List.getElem?_eq_some_iff.mp hj).1
  obtain ⟨v, w, bs, ev, hw, ok⟩ := e.en.peek hi (p := []) rfl
  cases hw
  have kn : ∀ x, o = some x → v = x := by
    obtain ⟨A, h1, _⟩ := e.en.en
    obtain ⟨v', _, ev', kn, _⟩ := h1 i _ hi
    rw [ev] at ev'
    cases ev'
    exact kn
  cases ok with
  | @li l vs ts as hl pk =>
    have len := ots_len pk
    obtain ⟨g, hg⟩ : ∃ g : Nat → List Ot, g = fun n => ts.mapIdx fun m x => if m < n then f m x else x := ⟨_, rfl⟩
    have gl : ∀ n, (g n).length = ts.length := fun n => by rw [hg]; simp
    have gat : ∀ n m, (g n)[m]? = ts[m]?.map fun x => if m < n then f m x else x := fun n m => by rw [hg]; simp
    refine ⟨_, ev, l, rfl, .inl ⟨⟨vs, SqL.of hl⟩, for_list (K := K) (a := l) (xs := vs) (fun n τ H2 => ∃ F2, Es K F0 H0 (ρ.set i (.ot (some (.ref l)) (.li (g n)))) τ F2 H2 ∧ H2 l = some (.lst vs)) ⟨F, ?_, hl⟩ (fun n τ H2 _ ⟨F2, _, q⟩ => SqL.of q) (fun n y τ H2 hy ⟨F2, e2, hl2⟩ => ?_) fun τ H2 ⟨F2, e2, hl2⟩ => ?_⟩⟩
    · have : g 0 = ts := by
        refine List.ext_getElem? fun m => ?_
        rw [gat]
        cases ts[m]? <;> simp
      rw [this]
      refine ⟨e.gr, e.en.swap hi fun A ⟨v', as', e', _, p⟩ => ?_⟩
      rw [ev] at e'
      cases e'
      exact ⟨_, as', ev, (fun _ z => by cases z; rfl), p⟩
    · have hn : n < ts.length := by rw [len]; exact (List.getElem?_eq_some_iff.mp hy).1
      have hx : ts[n]? = some ts[n] := List.getElem?_eq_getElem hn
      have hgx : (g n)[n]? = some ts[n] := by rw [gat, hx]; simp
      have hs : (Ot.li (g n)).sub [n] = some ts[n] := by
        show (match (g n)[n]? with | some u => u.sub [] | none => none) = _
        rw [hgx]
        rfl
      -- the item, then the list
      obtain ⟨v1, w1, ev1, hw1, kn1, e3⟩ := e2.take (set_self hi) hs
      cases kn1 _ rfl
      have ew : w1 = y := by
        rw [walk_cons, hl2] at hw1
        simp only [kidsV, hy] at hw1
        cases hw1
        rfl
      subst ew
      have e4 := e3.popSet j
      rw [List.set_set] at e4
      have at4 : ((ρ.set i (.ot (some (.ref l)) ((Ot.li (g n)).put [n] (.at_ w1)))).set j (.ot (some w1) ts[n]))[i]? = some (.ot (some (.ref l)) ((Ot.li (g n)).put [n] (.at_ w1))) := by
        rw [List.getElem?_set_ne (Ne.symm hij), List.getElem?_set_self hil]
      obtain ⟨v2, w2, ev2, hw2, kn2, e5⟩ := e4.take at4 (p := []) rfl
      cases kn2 _ rfl
      cases hw2
      rw [put_nil, List.set_comm _ _ (Ne.symm hij), List.set_set] at e5
      have pe : (Ot.li (g n)).put [n] (.at_ w1) = .li ((g n).set n (.at_ w1)) := by rw [put_cons (show (Ot.li (g n)).kids[n]? = some ts[n] from hgx), put_nil]; rfl
      obtain ⟨G, go, back, _, _, gh, gfr⟩ := e5.frame (by have := e4.en.len; simp at this ⊢; exact this)
      have hGl : G l = some (.lst vs) := by
        obtain ⟨bs, ok⟩ := gfr 0 _ _ _ rfl rfl
        rw [pe] at ok
        cases ok with
        | li q _ =>
          have := gh _ _ q
          rw [hl2] at this
          cases this
          exact q
      refine body n ts[n] (.ref l) w1 hx F2 G _ F2 H2 _ go ⟨fun r τ' F3 H3 hr es => ?_, fun _ _ _ _ z => z.elim, fun _ _ _ _ z => z.elim, fun _ _ _ _ z => z.elim, fun _ _ _ z => z.elim, fun _ _ _ _ _ _ z => z.elim, fun _ _ _ _ _ z => z.elim⟩
      subst hr
      have e6 := back _ _ _ _ es
      have lτ := es.en.len
      -- the list comes home
      have tv : τ'[i]? = some (some (.ref l)) := by
        obtain ⟨A, h1, _⟩ := es.en.en
        obtain ⟨v', as', e', kn', _⟩ := h1 i (.ot (some (.ref l)) (.at_ (.ref l))) (by rw [List.getElem?_set_ne (Ne.symm hij), List.getElem?_set_self hil])
        rw [e', kn' _ rfl]
      have e7 := e6.popSet i
      rw [set_same tv, List.set_comm _ _ (Ne.symm hij), List.set_set] at e7
      have at7 : ((ρ.set i (.ot (some (.ref l)) ((Ot.li (g n)).put [n] (.at_ w1)))).set j (.ot (some w1) (f n ts[n])))[j]? = some (.ot (some w1) (f n ts[n])) := List.getElem?_set_self (by rw [List.length_set]; exact hjl)
      have tj : τ'[j]? = some (some w1) := by
        obtain ⟨A, h1, _⟩ := es.en.en
        obtain ⟨v', as', e', kn', _⟩ := h1 j (.ot (some w1) (f n ts[n])) (List.getElem?_set_self (by rw [List.length_set]; exact hjl))
        rw [e', kn' _ rfl]
      obtain ⟨x, hx8, e8⟩ := e7.mv at7
      rw [tj] at hx8
      cases hx8
      rw [List.set_set] at e8
      have e9 := e8.as (i := ((ρ.set i (.ot (some (.ref l)) ((Ot.li (g n)).put [n] (.at_ w1)))).set j .un).length) (by rw [List.getElem?_append_right (Nat.le_refl _), Nat.sub_self]; rfl) (im_fg (K := K))
      rw [List.set_append_right _ _ (Nat.le_refl _), Nat.sub_self] at e9
      have unj : (ρ.set i (.ot (some (.ref l)) ((Ot.li (g n)).put [n] (.at_ w1)))).set j .un = ρ.set i (.ot (some (.ref l)) ((Ot.li (g n)).put [n] (.at_ w1))) := set_same (by rw [List.getElem?_set_ne hij]; exact hj)
      rw [unj] at e9
      have hs9 : ((Ot.li (g n)).put [n] (.at_ w1)).sub [n] = some (.at_ w1) := by
        rw [pe]
        show (match ((g n).set n (Ot.at_ w1))[n]? with | some u => u.sub [] | none => none) = _
        rw [List.getElem?_set_self (by rw [gl]; exact hn)]
        rfl
      obtain ⟨v3, w3, b3, c3, ev3, hw3, ok3, okc, nd3, fr3, fin⟩ := e9.foc (set_self hi) hs9
      cases ok3
      rw [List.nil_append] at nd3 fr3 fin
      have e10 := fin F3 H3 (f n ts[n]) c3 ⟨Same.refl _, e9.en.fh, fun _ _ _ q => q, fun _ _ _ q _ => q⟩ okc nd3 fun a m => ⟨.inl m, (fr3 a m).1⟩
      rw [List.set_set] at e10
      have pe2 : ((Ot.li (g n)).put [n] (.at_ w1)).put [n] (f n ts[n]) = .li (g (n + 1)) := by
        rw [pe, put_cons (s := .at_ w1) (List.getElem?_set_self (by rw [gl]; exact hn)), put_nil]
        show Ot.li (((g n).set n (.at_ w1)).set n (f n ts[n])) = _
        rw [List.set_set]
        congr 1
        refine List.ext_getElem? fun m => ?_
        by_cases y : m = n
        · subst y
          rw [List.getElem?_set_self (by rw [gl]; exact hn), gat, hx]
          simp
        · rw [List.getElem?_set_ne (Ne.symm y), gat, gat]
          cases ts[m]? with
          | none => rfl
          | some x =>
            have : (m < n) = (m < n + 1) := propext ⟨fun h => by omega, fun h => by omega⟩
            simp [this]
      rw [pe2] at e10
      refine ⟨F3, e10, ?_⟩
      exact es.gr.hh l _ hGl
    · have : g vs.length = ts.mapIdx f := by
        refine List.ext_getElem? fun m => ?_
        rw [gat, List.getElem?_mapIdx]
        cases z : ts[m]? with
        | none => rfl
        | some x =>
          have : m < vs.length := by rw [← len]; exact (List.getElem?_eq_some_iff.mp z).1
          simp [this]
      rw [this] at e2
      refine fi.nx _ _ F2 _ kk ⟨e2.gr, ?_⟩
      have e3 := e2.en.swap (set_self hi) (s' := .ot o (.li (ts.mapIdx f))) fun A ⟨v', as', e', k', p⟩ => ⟨v', as', e', fun w z => by rw [k' _ rfl]; exact kn w z, p⟩
      rw [List.set_set] at e3
      exact e3
end
end WL

namespace WL
open PySem L2
section
variable {K : PySem.W.Frag} {N : Addr → Prop} {ρ ρ' : List Sl} {σ : L2.St} {F H F' H' F0 H0 : Hp} {ta tA : TA} {te tb tc tv : TE} {tt tu : TT} {P : Post} {t u : TS}
/-! ### one's own lists, lent as data -/
mutual
def lfD : PyData → Prop
  | .list _ => False
  | .dict _ => False
  | .tuple ds => lfDs ds
  | _ => True
def lfDs : List PyData → Prop
  | [] => True
  | d :: ds => lfD d ∧ lfDs ds
end
theorem lfDs_iff : ∀ ds : List PyData, lfDs ds ↔ ∀ d ∈ ds, lfD d
  | [] => by simp [lfDs]
  | d :: ds => by simp [lfDs, lfDs_iff ds]
theorem lf_tup {ds : List PyData} (h : ∀ d ∈ ds, lfD d) : lfD (.tuple ds) := (lfDs_iff ds).mpr h
theorem lf_fr (q : Rat) : lfD (fr q) := ⟨trivial, trivial, trivial⟩
theorem lf_row (r : List Nat) : lfD (rowT r) := lf_tup fun d h => by obtain ⟨x, _, rfl⟩ := List.mem_map.mp h; trivial
theorem lf_frT (r : List Rat) : lfD (frT r) := lf_tup fun d h => by obtain ⟨x, _, rfl⟩ := List.mem_map.mp h; exact lf_fr x
theorem lf_strs (ws : List Str) : lfD (.tuple (ws.map .str)) := lf_tup fun d h => by obtain ⟨x, _, rfl⟩ := List.mem_map.mp h; trivial
/-- G is F but for some lists -/
def ButL (F G : Hp) : Prop := ∀ a o, F a = some o → (∃ xs, o = .lst xs) ∨ G a = some o
mutual
theorem lf_dp {F G : Hp} (b : ButL F G) : ∀ (d : PyData) (v : V), lfD d → Dp K F v d → Dp K G v d
  | _, _, _, .non => .non
  | _, _, _, .bl b => .bl b
  | _, _, _, .int i => .int i
  | _, _, _, .str x => .str x
  | .list _, _, h, _ => h.elim
  | .tuple ds, _, h, .tup (a := a) (xs := xs) s p => .tup (by
    obtain (held | ⟨o, locked⟩) | written := s
    · rcases b a _ held with ⟨ys, z⟩ | z
      · cases z
      · exact .inl (.inl z)
    · rcases b a _ locked with ⟨ys, z⟩ | z
      · cases z
      · exact .inl (.inr ⟨o, z⟩)
    · exact .inr written) (lf_dps b ds xs h p)
theorem lf_dps {F G : Hp} (b : ButL F G) : ∀ (ds : List PyData) (xs : List V), lfDs ds → DpAll K F xs ds → DpAll K G xs ds
  | _, _, _, .nil => .nil
  | d :: ds, v :: vs, h, .cons p a => .cons (lf_dp b d v h.1 p) (lf_dps b ds vs h.2 a)
end
mutual
def lfO : Ot → Prop
  | .da d => lfD d
  | .li ts => lfOs ts
  | .tu ts => lfOs ts
  | .di _ ts => lfOs ts
  | .ob _ _ ts => lfOs ts
  | .at_ _ => True
def lfOs : List Ot → Prop
  | [] => True
  | t :: ts => lfO t ∧ lfOs ts
end
theorem lfOs_iff : ∀ ts : List Ot, lfOs ts ↔ ∀ t ∈ ts, lfO t
  | [] => by simp [lfOs]
  | d :: ds => by simp [lfOs, lfOs_iff ds]
mutual
theorem lf_ot {F G H : Hp} (b : ButL F G) : ∀ {t : Ot} {v : V} {as : List Addr}, lfO t → OtOk K F H t v as → OtOk K G H t v as
  | _, _, _, h, .da p => .da (lf_dp b _ _ h p)
  | _, _, _, h, .li g p => .li g (lf_ots b h p)
  | _, _, _, h, .tu g p => .tu g (lf_ots b h p)
  | _, _, _, h, .di g e p => .di g e (lf_ots b h p)
  | _, _, _, h, .ob g g2 e p => .ob g g2 e (lf_ots b h p)
  | _, _, _, _, .at_ => .at_
theorem lf_ots {F G H : Hp} (b : ButL F G) : ∀ {ts : List Ot} {vs : List V} {as : List Addr}, lfOs ts → OtsOk K F H ts vs as → OtsOk K G H ts vs as
  | _, _, _, _, .nil => .nil
  | _, _, _, h, .cons p q => .cons (lf_ot b h.1 p) (lf_ots b h.2 q)
end
def lfS : Sl → Prop
  | .un => True
  | .da d => lfD d
  | .ow ds => lfDs ds
  | .ow2 dss => ∀ ds ∈ dss, lfDs ds
  | .ot _ t => lfO t
  | _ => False
theorem lf_sl {F G H : Hp} {s : Sl} {o : Option (Option V)} {A : Addr → Prop} (b : ButL F G) (h : lfS s) (p : SlOk K F H s o A) : SlOk K G H s o A := by
  cases s with
  | un => trivial
  | da d => obtain ⟨v, e, q⟩ := p; exact ⟨v, e, lf_dp b _ _ h q⟩
  | ow ds => obtain ⟨l, xs, e, k, a, q⟩ := p; exact ⟨l, xs, e, k, a, lf_dps b _ _ h q⟩
  | ow2 dss =>
    obtain ⟨l, ls, e, k, a, nd, len, q⟩ := p
    refine ⟨l, ls, e, k, a, nd, len, fun i r ds h1 h2 => ?_⟩
    obtain ⟨ar, xs, hx, dx⟩ := q i r ds h1 h2
    exact ⟨ar, xs, hx, lf_dps b _ _ (h ds (List.mem_of_getElem? h2)) dx⟩
  | ot q t => obtain ⟨v, as, e, k, p, nd, own⟩ := p; exact ⟨v, as, e, k, lf_ot b h p, nd, own⟩
  | _ => exact h.elim
/-- a slot that may be lent as the data d -/
def LendOk (K : PySem.W.Frag) (s : Sl) (d : PyData) : Prop := ∀ (F H : Hp) o A, Same F H → SlOk K F H s o A → ∃ (v : V) (as : List Addr), o = some (some v) ∧ (∀ a ∈ as, A a ∧ ∃ xs, H a = some (.lst xs)) ∧ ∀ F1, Same F F1 → (∀ a ∈ as, F1 a = H a) → Dp K F1 v d
theorem lend_ow {ds : List PyData} : LendOk K (.ow ds) (.list ds) := fun F H o A fh ⟨l, xs, e, p, a, q⟩ => ⟨.ref l, [l], e, fun b m => by rw [List.mem_singleton.mp m]; exact ⟨a, _, p⟩, fun F1 ff k => .lst (SqL.of (by rw [k l List.mem_cons_self]; exact p)) (dps_mono ff _ _ q)⟩
mutual
def liO : Ot → Prop
  | .da _ => True
  | .li ts => liOs ts
  | _ => False
def liOs : List Ot → Prop
  | [] => True
  | t :: ts => liO t ∧ liOs ts
end
theorem liOs_iff : ∀ ts : List Ot, liOs ts ↔ ∀ t ∈ ts, liO t
  | [] => by simp [liOs]
  | d :: ds => by simp [liOs, liOs_iff ds]
mutual
theorem li_ot {F H : Hp} : ∀ {t : Ot} {v : V} {as : List Addr}, liO t → OtOk K F H t v as → (∀ a ∈ as, ∃ xs, H a = some (.lst xs)) ∧ ∀ F1, Same F F1 → (∀ a ∈ as, F1 a = H a) → Dp K F1 v t.pd
  | _, _, _, _, .da p => ⟨fun a m => (nomatch m), fun F1 ff _ => dp_mono ff _ _ p⟩
  | _, _, _, h, .li g p => by
    obtain ⟨k1, k2⟩ := li_ots h p
    refine ⟨fun a m => ?_, fun F1 ff k => .lst (SqL.of (by rw [k _ List.mem_cons_self]; exact g)) (k2 F1 ff fun a m => k a (List.mem_cons_of_mem _ m))⟩
    rcases List.mem_cons.mp m with rfl | m
    · exact ⟨_, g⟩
    · exact k1 a m
  | _, _, _, h, .tu _ _ => h.elim
  | _, _, _, h, .di _ _ _ => h.elim
  | _, _, _, h, .ob _ _ _ _ => h.elim
  | _, _, _, h, .at_ => h.elim
theorem li_ots {F H : Hp} : ∀ {ts : List Ot} {vs : List V} {as : List Addr}, liOs ts → OtsOk K F H ts vs as → (∀ a ∈ as, ∃ xs, H a = some (.lst xs)) ∧ ∀ F1, Same F F1 → (∀ a ∈ as, F1 a = H a) → DpAll K F1 vs (pds ts)
  | _, _, _, _, .nil => ⟨fun a m => (nomatch m), fun F1 _ _ => .nil⟩
  | _, _, _, h, .cons p q => by
    obtain ⟨k1, k2⟩ := li_ot h.1 p
    obtain ⟨k3, k4⟩ := li_ots h.2 q
    refine ⟨fun a m => ?_, fun F1 ff k => .cons (k2 F1 ff fun a m => k a (List.mem_append_left _ m)) (k4 F1 ff fun a m => k a (List.mem_append_right _ m))⟩
    rcases List.mem_append.mp m with m | m
    · exact k1 a m
    · exact k3 a m
end
theorem lend_ot {o : Option V} {r : Ot} (h : liO r) : LendOk K (.ot o r) r.pd := fun F H o A fh ⟨v, as, e, _, p, _, own⟩ => by
  obtain ⟨k1, k2⟩ := li_ot h p
  exact ⟨v, as, e, fun a m => ⟨own a m, k1 a m⟩, k2⟩
theorem li_lD (ds : List PyData) : liO (lD ds) := (liOs_iff _).mpr fun t h => by obtain ⟨d, _, rfl⟩ := List.mem_map.mp h; trivial
theorem li_lDD (dss : List (List PyData)) : liO (lDD dss) := (liOs_iff _).mpr fun t h => by obtain ⟨d, _, rfl⟩ := List.mem_map.mp h; exact li_lD d
theorem lend_ow2 {dss : List (List PyData)} : LendOk K (.ow2 dss) (.list (dss.map .list)) := fun F H o A fh p => by
  have := lend_ot (K := K) (o := none) (li_lDD dss) F H o A fh (im_ow2 F H o A p)
  rw [pd_lDD] at this
  exact this
/-- the environment with a slot lent -/
theorem En.lend (e : En K N ρ σ F H) {i : Nat} {s : Sl} {d : PyData} (hi : ρ[i]? = some s) (l : LendOk K s d) : ∃ as : List Addr, (∀ a ∈ as, F a = none ∧ ∃ xs, H a = some (.lst xs)) ∧ ∀ F1, (∀ a ∈ as, F1 a = H a) → (∀ a, a ∉ as → F1 a = F a) → En K N (ρ.set i (.da d)) σ F1 H := by
  have hil := (List.getElem?_eq_some_iff.mp hi).1
  obtain ⟨A, h1, h2, h3⟩ := e.en
  obtain ⟨v, as, ev, own, k⟩ := l F H _ _ e.fh (h1 i s hi)
  have ff : ∀ F1, (∀ a ∈ as, F1 a = H a) → (∀ a, a ∉ as → F1 a = F a) → Same F F1 := fun F1 k1 k2 a o q => by
    by_cases z : a ∈ as
    · rw [(h3 i a (own a z).1).1] at q; cases q
    · rw [k2 a z]; exact q
  refine ⟨as, fun a m => ⟨(h3 i a (own a m).1).1, (own a m).2⟩, fun F1 k1 k2 => ⟨fun a o q => ?_, by rw [List.length_set]; exact e.len, fun j a => j ≠ i ∧ A j a, fun j s' hs => ?_, fun j k a p q => h2 j k a p.2 q.2, fun j a p => ⟨?_, (h3 j a p.2).2⟩⟩⟩
  · by_cases z : a ∈ as
    · rw [k1 a z] at q; exact q
    · rw [k2 a z] at q; exact e.fh a o q
  · by_cases z : j = i
    · subst z
      rw [List.getElem?_set_self hil] at hs
      cases hs
      exact ⟨v, ev, k F1 (ff F1 k1 k2) k1⟩
    · rw [List.getElem?_set_ne (Ne.symm z)] at hs
      exact (h1 j s' hs).mono (ff F1 k1 k2) (fun _ _ _ q => q) fun a q => ⟨z, q⟩
  · rw [k2 a fun m => p.1 (h2 j i a p.2 (own a m).1)]
    exact (h3 j a p.2).1
theorem lend_heap {as : List Addr} (F H : Hp) : ∃ F1 : Hp, (∀ a ∈ as, F1 a = H a) ∧ (∀ a, a ∉ as → F1 a = F a) := by
  classical
  exact ⟨fun a => if a ∈ as then H a else F a, fun a q => if_pos q, fun a q => if_neg q⟩
theorem unlend {as : List Addr} {F1 : Hp} (own : ∀ a ∈ as, F a = none ∧ ∃ xs, H a = some (.lst xs)) (k1 : ∀ a ∈ as, F1 a = H a) (k2 : ∀ a, a ∉ as → F1 a = F a) (g : Gr F1 H F' H') : ∃ F2, Gr F H F2 H' ∧ ButL F' F2 ∧ Same F2 F' := by
  classical
  obtain ⟨F2, c1, c2⟩ : ∃ F2 : Hp, (∀ a ∈ as, F2 a = none) ∧ (∀ a, a ∉ as → F2 a = F' a) := ⟨fun a => if a ∈ as then none else F' a, fun a q => if_pos q, fun a q => if_neg q⟩
  refine ⟨F2, ⟨fun a o q => ?_, g.hh, fun a o q => ?_, fun a o q r => ?_⟩, fun a o q => ?_, fun a o q => ?_⟩
  · have no : a ∉ as := fun m => by rw [(own a m).1] at q; cases q
    rw [c2 a no]
    exact g.ff a o (by rw [k2 a no]; exact q)
  · by_cases z : a ∈ as
    · rw [c1 a z] at q; cases q
    · rw [c2 a z] at q; exact g.fh a o q
  · by_cases z : a ∈ as
    · exact c1 a z
    · rw [c2 a z]; exact g.ap a o (by rw [k2 a z]; exact q) r
  · by_cases z : a ∈ as
    · obtain ⟨xs, hx⟩ := (own a z).2
      have := g.ff a _ ((k1 a z).trans hx)
      rw [q] at this
      exact .inl ⟨xs, Option.some.inj this⟩
    · exact .inr (by rw [c2 a z]; exact q)
  · by_cases z : a ∈ as
    · rw [c1 a z] at q; cases q
    · rw [c2 a z] at q; exact q
theorem x_lend (i : Nat) {s s0 : Sl} {d : PyData} (hi : ρ[i]? = some s0) (l : LendOk K s0 d) (h : XR K te (ρ.set i (.da d)) s) (lf : lfS s) : XR K te ρ s := fun N σ F H e Q q => by
  obtain ⟨as, own, k⟩ := e.lend hi l
  obtain ⟨F1, k1, k2⟩ := lend_heap (as := as) F H
  refine h N σ F1 H (k F1 k1 k2) Q fun v F' H' g ⟨A, p, r⟩ => ?_
  obtain ⟨F2, g2, b, sm⟩ := unlend own k1 k2 g
  refine q v F2 H' g2 ⟨A, lf_sl b lf p, fun a z => ⟨?_, (r a z).2⟩⟩
  cases y : F2 a with
  | none => rfl
  | some o => rw [← (r a z).1]; exact (sm a o y).symm
theorem xt_lend (i : Nat) {b : Bool} {s0 : Sl} {d : PyData} (hi : ρ[i]? = some s0) (l : LendOk K s0 d) (h : XT K tt (ρ.set i (.da d)) b) : XT K tt ρ b := fun N σ F H e Q q => by
  obtain ⟨as, own, k⟩ := e.lend hi l
  obtain ⟨F1, k1, k2⟩ := lend_heap (as := as) F H
  refine h N σ F1 H (k F1 k1 k2) Q fun F' H' g => ?_
  obtain ⟨F2, g2, b, sm⟩ := unlend own k1 k2 g
  exact q F2 H' g2
/-! ### tuples with one's own, taken apart; parts of one's own lists -/
/-- a tuple of things of one's own -/
theorem xw_tup {us : List Ot} {al : List (Option (Nat × Option V))} {PP : Sl → List Sl → Prop} (ha : XAE K ta ρ us al ρ') (hl : ρ'.length = ρ.length) (hz : us.length ≤ 100000) (k : PP (.ot none (.tu us)) ρ') : XW K (tTup ta) ρ PP := fun F0 H0 σ F H e Q q =>
  ha F0 H0 [] [] σ F H e.en.len (by simpa using e) _ fun vs F1 H1 g1 w e1 => by
    rw [List.append_nil, List.append_nil] at e1
    have len : ρ'.length = σ.length := by rw [hl]; exact e.en.len
    obtain ⟨Hc, as, c1, c2, c3, c4, c5, go⟩ := e1.call_go len
    have luv := ots_len c2
    refine ⟨by rw [← luv]; exact Nat.le_trans hz (by decide), fun p np => ?_⟩
    have np2 : Hc p = none := c1.free np
    have pas : p ∉ as := fun m => by obtain ⟨o, ho⟩ := ots_here c2 p m; rw [np] at ho; cases ho
    have fp : F1 p = none := e1.en.fh.free np
    refine q _ _ (.ref p) F1 _ k (go F1 (upd H1 p (.tup vs)) [.ref p] [some (.tu us)] (p :: as) ⟨Same.refl _, fun a o z => ?_, fun a o z => ?_, fun _ _ z _ => z⟩ ?_ (List.nodup_cons.mpr ⟨pas, c3⟩) fun a m => ?_)
    · rw [upd_ne (ne_of_none z np2)]; exact c1 a o z
    · rw [upd_ne (ne_of_none z fp)]; exact e1.en.fh a o z
    · have := BkOk.own (K := K) (F := F1) (H := upd H1 p (.tup vs)) (v := .ref p) (.tu upd_same (c2.mono (Same.refl _) fun a m o z => by rw [upd_ne fun y => pas (by rw [← y]; exact m)]; exact z)) .nil
      rw [List.append_nil] at this
      exact this
    · rcases List.mem_cons.mp m with rfl | m
      · exact ⟨fp, np2⟩
      · exact c4 a m
theorem Es.split {us : List Ot} {v : V} (e : Es K F0 H0 (ρ ++ [.ot none (.tu us)]) (σ ++ [some v]) F H) (len : ρ.length = σ.length) : ∃ (a : Addr) (vs : List V), v = .ref a ∧ H a = some (.tup vs) ∧ us.length = vs.length ∧ Es K F0 H0 (ρ ++ ots us) (σ ++ vs.map some) F H := by
  obtain ⟨Hc, as, c1, c2, c3, c4, c5, go⟩ := Es.call_go (us := [.tu us]) (vs := [v]) e len
  cases c2 with
  | cons p q =>
    cases q
    cases p with
    | @tu a vs _ bs ha pk =>
      rw [List.append_nil] at c3 c4 c5
      have nd := List.nodup_cons.mp c3
      refine ⟨a, vs, rfl, ha, ots_len pk, ?_⟩
      have bk : ∀ {ts : List Ot} {ws : List V} {xs : List Addr}, OtsOk K F H ts ws xs → BkOk K F H ws (ts.map some) xs := by
        intro ts
        induction ts with
        | nil => intro ws xs h; cases h; exact .nil
        | cons t ts ih => intro ws xs h; cases h with | cons p q => exact .own p (ih q)
      have := go F H vs (us.map some) bs ⟨Same.refl _, c1, e.en.fh, fun _ _ z _ => z⟩ (bk pk) nd.2 fun x m => c4 x (List.mem_cons_of_mem _ m)
      have eb : bkS (us.map some) = ots us := by
        clear this go bk pk e
        induction us with
        | nil => rfl
        | cons t ts ih => show .ot none t :: bkS (ts.map some) = _; rw [ih]; rfl
      rw [eb] at this
      exact this
/-- a, b = e: e tells a tuple of things of one's own -/
theorem s_asgTupW {i j : Nat} {u1 u2 : Ot} {r : List Sl} (h : XW K te ρ fun s r' => s = .ot none (.tu [u1, u2]) ∧ r' = r) (k : P.nx ((r.set i (.ot none u1)).set j (.ot none u2))) : WS K (tAsg te (gTup K 2 (gCons (gName i) (gCons (gName j) gNil)))) ρ P := fun F0 H0 σ F H D e f => h F0 H0 σ F H e _ fun s r' v F' H' ⟨hs, hr⟩ e1 => by
  subst hs hr
  have len := e1.en.lenE
  obtain ⟨a, vs, rfl, ha, luv, e2⟩ := e1.split len
  match vs, luv, ha, e2 with
  | [v1, v2], _, ha, e2 =>
    have e3 : Es K F0 H0 ((r'.set i (.ot none u1)).set j (.ot none u2) ++ []) ((σ.set i (some v1)).set j (some v2) ++ []) F' H' := by
      have e4 : Es K F0 H0 (r'.set i (.ot none u1) ++ [.ot none u2]) (σ.set i (some v1) ++ [some v2]) F' H' := ⟨e2.gr, e2.en.home (b := .ot none u1) (x := some v1) (fr := [.ot none u2]) (φ := [some v2]) len i⟩
      exact ⟨e4.gr, e4.en.home (b := .ot none u2) (x := some v2) (fr := []) (φ := []) (by rw [List.length_set, List.length_set]; exact len) j⟩
    rw [List.append_nil, List.append_nil] at e3
    exact ⟨a, [v1, v2], rfl, SqT.of ha, rfl, v1, _, rfl, v2, _, rfl, rfl, f.nx _ _ _ _ k e3⟩
/-- part of one's own list, which goes -/
theorem xw_slice {i : Nat} {o : Option V} {ts : List Ot} {lo hi : Option Int} {tl th : TO} {PP : Sl → List Sl → Prop} (hi' : ρ[i]? = some (.ot o (.li ts))) (hl : XO K tl ρ lo) (hh : XO K th ρ hi) (k : PP (.ot none (.li (cutD ts lo hi))) (ρ.set i .un)) : XW K (tSl (rSlX K) (tVar i) tl th) ρ PP := fun F0 H0 σ F H e Q q => by
  obtain ⟨v, w, bs, ev, hw, ok⟩ := e.en.peek hi' (p := []) rfl
  refine ⟨v, ev, hl _ σ F H e.en _ fun F1 H1 g1 => hh _ σ F1 H1 (e.go g1).en _ fun F2 H2 g2 => ?_⟩
  have e2 := (e.go g1).go g2
  obtain ⟨x, hx, e3⟩ := e2.mv hi'
  rw [ev] at hx
  cases hx
  have e4 := e3.as (i := (ρ.set i .un).length) (by rw [List.getElem?_append_right (Nat.le_refl _), Nat.sub_self]; rfl) (im_fg (K := K))
  rw [List.set_append_right _ _ (Nat.le_refl _), Nat.sub_self] at e4
  obtain ⟨Hc, as, c1, c2, c3, c4, c5, go⟩ := Es.call_go (us := [.li ts]) (vs := [v]) e4 e4.en.lenE
  cases c2 with
  | cons p z =>
    cases z
    cases p with
    | @li l vs _ as hl2 pk =>
      rw [List.append_nil] at c3 c4 c5
      refine .inl ⟨l, vs, rfl, SqL.of hl2, fun p np => ?_⟩
      have np2 : Hc p = none := c1.free np
      have fp : F2 p = none := e4.en.fh.free np
      have pas : p ∉ as := fun m => by obtain ⟨o, ho⟩ := ots_here pk p m; rw [np] at ho; cases ho
      obtain ⟨b1, k1, e5, k2, k3⟩ := ots_cut (HT.sIx ts.length 0 lo) pk
      obtain ⟨b2, k4, e6, k5, k6⟩ := ots_cut (HT.sIx ts.length ts.length hi - HT.sIx ts.length 0 lo) k3
      have sub : ∀ a ∈ b2, a ∈ as := fun a m => by rw [e5, e6]; exact List.mem_append_right _ (List.mem_append_left _ m)
      have nd2 : b2.Nodup := by
        have := (List.nodup_cons.mp c3).2
        rw [e5, e6] at this
        exact (List.nodup_append.mp (List.nodup_append.mp this).2.1).1
      refine q _ _ (.ref p) F2 _ k (go F2 (upd H2 p (.lst (cutV vs lo hi))) [.ref p] [some (.li (cutD ts lo hi))] (p :: b2) ⟨Same.refl _, fun a o z => ?_, fun a o z => ?_, fun _ _ z _ => z⟩ ?_ (List.nodup_cons.mpr ⟨fun m => pas (sub p m), nd2⟩) fun a m => ?_)
      · rw [upd_ne (ne_of_none z np2)]; exact c1 a o z
      · rw [upd_ne (ne_of_none z fp)]; exact e4.en.fh a o z
      · have ec : cutV vs lo hi = (vs.drop (HT.sIx ts.length 0 lo)).take (HT.sIx ts.length ts.length hi - HT.sIx ts.length 0 lo) := by unfold cutV; rw [ots_len pk]
        have := BkOk.own (K := K) (F := F2) (H := upd H2 p (.lst (cutV vs lo hi))) (v := .ref p) (.li upd_same (by
          rw [ec]
          exact k5.mono (Same.refl _) fun a m o z => by rw [upd_ne fun y => pas (sub p (by rw [← y]; exact m))]; exact z)) .nil
        rw [List.append_nil] at this
        exact this
      · rcases List.mem_cons.mp m with rfl | m
        · exact ⟨fp, np2⟩
        · exact c4 a (List.mem_cons_of_mem _ (sub a m))
/-- one's own list with a new one behind it, which both go -/
theorem xw_cat {i : Nat} {o : Option V} {ts us : List Ot} {PP : Sl → List Sl → Prop} (hi : ρ[i]? = some (.ot o (.li ts))) (hb : XR K tb ρ (.ot none (.li us))) (hz : ts.length + us.length ≤ 100000) (k : PP (.ot none (.li (ts ++ us))) (ρ.set i .un)) : XW K (tOp (rAddX K) (tVar i) tb) ρ PP := fun F0 H0 σ F H e Q q => by
  obtain ⟨v, w, bs, ev, hw, ok⟩ := e.en.peek hi (p := []) rfl
  refine ⟨v, ev, hb _ σ F H e.en _ fun y F2 H2 g2 ry => ?_⟩
  have hil := (List.getElem?_eq_some_iff.mp hi).1
  have e2 := e.ext g2 ry
  obtain ⟨x, hx, e3⟩ := e2.mv (i := i) (by rw [List.getElem?_append_left hil]; exact hi)
  rw [List.getElem?_append_left (by rw [← e.en.len]; exact hil), ev] at hx
  cases hx
  rw [List.set_append_left _ _ hil] at e3
  have e4 := e3.as (i := (ρ.set i .un ++ [Sl.ot none (.li us)]).length) (by rw [List.getElem?_append_right (Nat.le_refl _), Nat.sub_self]; rfl) (im_fg (K := K))
  rw [List.set_append_right _ _ (Nat.le_refl _), Nat.sub_self, List.append_assoc, List.append_assoc] at e4
  have len : (ρ.set i .un).length = σ.length := by rw [List.length_set]; exact e.en.len
  obtain ⟨Hc, as, c1, c2, c3, c4, c5, go⟩ := Es.call_go (us := [.li us, .li ts]) (vs := [y, v]) e4 len
  cases c2 with
  | cons p1 z =>
    cases z with
    | cons p2 z =>
      cases z
      cases p1 with
      | @li l1 vs1 _ as1 hl1 pk1 =>
        cases p2 with
        | @li l2 vs2 _ as2 hl2 pk2 =>
          simp only [List.append_nil] at c3 c4 c5
          refine .inr (.inl ⟨l2, l1, vs2, vs1, rfl, rfl, hl2, hl1, by rw [← ots_len pk1, ← ots_len pk2]; exact Nat.le_trans hz (by decide), fun p np => ?_⟩)
          have np2 : Hc p = none := c1.free np
          have fp : F2 p = none := e4.en.fh.free np
          have pas1 : p ∉ as1 := fun m => by obtain ⟨o, ho⟩ := ots_here pk1 p m; rw [np] at ho; cases ho
          have pas2 : p ∉ as2 := fun m => by obtain ⟨o, ho⟩ := ots_here pk2 p m; rw [np] at ho; cases ho
          have n1 := List.nodup_append.mp c3
          have n2 := List.nodup_cons.mp n1.1
          have n3 := List.nodup_cons.mp n1.2.1
          refine q _ _ (.ref p) F2 _ k (go F2 (upd H2 p (.lst (vs2 ++ vs1))) [.ref p] [some (.li (ts ++ us))] (p :: (as2 ++ as1)) ⟨Same.refl _, fun a o z => ?_, fun a o z => ?_, fun _ _ z _ => z⟩ ?_ (List.nodup_cons.mpr ⟨fun m => (List.mem_append.mp m).elim pas2 pas1, List.nodup_append.mpr ⟨n3.2, n2.2, fun a m b m' y => n1.2.2 b (List.mem_cons_of_mem _ m') a (List.mem_cons_of_mem _ m) y.symm⟩⟩) fun a m => ?_)
          · rw [upd_ne (ne_of_none z np2)]; exact c1 a o z
          · rw [upd_ne (ne_of_none z fp)]; exact e4.en.fh a o z
          · have := BkOk.own (K := K) (F := F2) (H := upd H2 p (.lst (vs2 ++ vs1))) (v := .ref p) (.li upd_same ((ots_app pk2 pk1).mono (Same.refl _) fun a m o z => by rw [upd_ne fun y => (List.mem_append.mp m).elim (fun m => pas2 (by rw [← y]; exact m)) fun m => pas1 (by rw [← y]; exact m)]; exact z)) .nil
            rw [List.append_nil] at this
            exact this
          · rcases List.mem_cons.mp m with rfl | m
            · exact ⟨fp, np2⟩
            · rcases List.mem_append.mp m with m | m
              · exact c4 a (List.mem_append_right _ (List.mem_cons_of_mem _ m))
              · exact c4 a (List.mem_append_left _ (List.mem_cons_of_mem _ m))
end
end WL

namespace WL
open PySem L2
section
variable {K : PySem.W.Frag} {N : Addr → Prop} {ρ ρ' : List Sl} {σ : L2.St} {F H F' H' F0 H0 : Hp} {ta tA : TA} {te tb tc tv : TE} {tt tu : TT} {P : Post} {t u : TS}
/-! ### things of one's own, known from now on -/
mutual
theorem ot_dpF : ∀ {t : Ot} {v : V} {as : List Addr}, t.flat → OtOk K F H t v as → ∀ F1, Same F F1 → (∀ a ∈ as, F1 a = H a) → Dp K F1 v t.pd
  | _, _, _, _, .da p, F1, ff, _ => dp_mono ff _ _ p
  | _, _, _, h, .li g p, F1, ff, k => .lst (SqL.of (by rw [k _ List.mem_cons_self]; exact g)) (ots_dpF h p F1 ff fun a m => k a (List.mem_cons_of_mem _ m))
  | _, _, _, h, .tu g p, F1, ff, k => .tup (SqT.of (by rw [k _ List.mem_cons_self]; exact g)) (ots_dpF h p F1 ff fun a m => k a (List.mem_cons_of_mem _ m))
  | _, _, _, h, .di _ _ _, _, _, _ => h.elim
  | _, _, _, h, .ob _ _ _ _, _, _, _ => h.elim
  | _, _, _, h, .at_, _, _, _ => h.elim
theorem ots_dpF : ∀ {ts : List Ot} {vs : List V} {as : List Addr}, flats ts → OtsOk K F H ts vs as → ∀ F1, Same F F1 → (∀ a ∈ as, F1 a = H a) → DpAll K F1 vs (pds ts)
  | _, _, _, _, .nil, _, _, _ => .nil
  | _, _, _, h, .cons p q, F1, ff, k => .cons (ot_dpF h.1 p F1 ff fun a m => k a (List.mem_append_left _ m)) (ots_dpF h.2 q F1 ff fun a m => k a (List.mem_append_right _ m))
end
theorem x_frzO {o : Option V} {r : Ot} (h : XR K te ρ (.ot o r)) (fl : r.flat) : XE K te ρ r.pd := xe_intro fun N σ F H e Q q => h N σ F H e Q fun v F' H' g ⟨A, ⟨v', as, ev, _, ok, nd, own⟩, fr⟩ => by
  cases ev
  obtain ⟨F1, k1, k2⟩ := lend_heap (as := as) F' H'
  have ff : Same F' F1 := fun a o q => by
    rw [k2 a fun m => by rw [(fr a (own a m)).1] at q; cases q]; exact q
  refine q v F1 H' ⟨g.ff.trans ff, g.hh, fun a o q => ?_, fun a o q r => ?_⟩ (ot_dpF fl ok F1 ff k1)
  · by_cases z : a ∈ as
    · rw [k1 a z] at q; exact q
    · rw [k2 a z] at q; exact g.fh a o q
  · rw [k2 a fun m => by rw [(fr a (own a m)).2.1] at r; cases r]
    exact g.ap a o q r
/-- a slot of one's own is known from now on -/
theorem s_frzO (i : Nat) {o : Option V} {r : Ot} (hi : ρ[i]? = some (.ot o r)) (fl : r.flat) (k : WS K t (ρ.set i (.da r.pd)) P) : WS K t ρ P := fun F0 H0 σ F H D e f => by
  have hil := (List.getElem?_eq_some_iff.mp hi).1
  obtain ⟨A, h1, h2, h3⟩ := e.en.en
  obtain ⟨v, as, ev, kn, ok, nd, own⟩ := h1 i _ hi
  obtain ⟨F1, k1, k2⟩ := lend_heap (as := as) F H
  have ff : Same F F1 := fun a o q => by
    rw [k2 a fun m => by rw [(h3 i a (own a m)).1] at q; cases q]; exact q
  have fh : Same F1 H := fun a o q => by
    by_cases z : a ∈ as
    · rw [k1 a z] at q; exact q
    · rw [k2 a z] at q; exact e.en.fh a o q
  refine k F0 H0 σ F1 H D ⟨⟨e.gr.ff.trans ff, e.gr.hh, fh, fun a o q r => ?_⟩, fh, by rw [List.length_set]; exact e.en.len, fun j a => j ≠ i ∧ A j a, fun j s hs => ?_, fun j k a p q => h2 j k a p.2 q.2, fun j a p => ⟨?_, (h3 j a p.2).2⟩⟩ f
  · rw [k2 a fun m => by rw [(h3 i a (own a m)).2.1] at r; cases r]
    exact e.gr.ap a o q r
  · by_cases z : j = i
    · subst z
      rw [List.getElem?_set_self hil] at hs
      cases hs
      exact ⟨v, ev, ot_dpF fl ok F1 ff k1⟩
    · rw [List.getElem?_set_ne (Ne.symm z)] at hs
      exact (h1 j s hs).mono ff (fun _ _ _ q => q) fun a q => ⟨z, q⟩
  · rw [k2 a fun m => p.1 (h2 j i a p.2 (own a m))]
    exact (h3 j a p.2).1
theorem xp_frz {o : Option V} {r : Ot} (h : XR K te ρ (.ot o r)) (fl : r.flat) : XP K te ρ r.pd := xp_e (x_frzO h fl)
theorem xp_is {a b : PyData} (h : XP K te ρ a) (e : a = b) : XP K te ρ b := e ▸ h
theorem xe_is {a b : PyData} (h : XE K te ρ a) (e : a = b) : XE K te ρ b := e ▸ h
theorem x_inti {i : Int} (h : XE K ta0 ρ (.int i)) : XE K (tCB (fun xs H Q => (∃ i, xs = [V.int i] ∧ Q (.int i) H) ∨ ∃ k, xs = [V.bl k] ∧ Q (.int (if k then 1 else 0)) H) (tCons ta0 tNil)) ρ (.int i) := xe_intro fun N σ F H e Q q => h.e e fun v F1 H1 g1 p => .inl ⟨i, by rw [dp_int p], q _ F1 H1 g1 (.int _)⟩
/-- [list(x)] -/
theorem x_lst2 {b : Bool} {ds : List PyData} (h : XS K te ρ b ds) : XR K (tLst (tCons (tCB (fun xs H Q => ∃ p ys, xs = [.ref p] ∧ (SqL K H p ys ∨ SqT K H p ys) ∧ ∀ l, H l = none → Q (.ref l) (upd H l (.lst ys))) (tCons te tNil)) tNil)) ρ (.ow2 [ds]) := fun N σ F H e Q q => by
  change tCB (rListX K) (tCons te tNil) σ H fun v H1 => [v].length ≤ sizeLine ∧ ∀ p, H1 p = none → Q (.ref p) (upd H1 p (.lst [v]))
  refine x_list h N σ F H e _ fun v F1 H1 g r => ?_
  obtain ⟨l, xs, rfl, hl, fl, nl, a⟩ := of_ret_ow r
  refine ⟨(by show 1 ≤ sizeLine; decide), fun p np => q (.ref p) F1 _ (g.trans (.own g.fh np)) ⟨fun a => a = p ∨ a = l, ⟨p, [l], rfl, upd_same, .inl rfl, ?_, rfl, fun i r ds' h1 h2 => ?_⟩, fun b z => ?_⟩⟩
  · have : p ≠ l := fun z => by rw [z, hl] at np; cases np
    simpa using this
  · cases i with
    | succ i => simp at h1
    | zero =>
      cases h1
      cases h2
      have : l ≠ p := fun z => by rw [← z, hl] at np; cases np
      exact ⟨.inr rfl, xs, by rw [upd_ne this]; exact hl, a⟩
  · rcases z with rfl | rfl
    · exact ⟨g.fh.free np, g.hh.free np, _, upd_same⟩
    · have : b ≠ p := fun z => by rw [← z, hl] at np; cases np
      exact ⟨fl, nl, _, by rw [upd_ne this]; exact hl⟩
/-! ### rows as lists or tuples, by the bits of a number -/
def kbit (b : Int) (k : Nat) : Bool := decide (Builtin.bitAnd (b / 2 ^ k) 1 = 1)
def kndO (b : Int) (k : Nat) (r : List PyData) : Ot := if kbit b k then .da (.tuple r) else lD r
def knds (rows : List (List PyData)) (b : Int) : List Ot := rows.mapIdx fun k r => kndO b k r
theorem kndO_pd (b : Int) (k : Nat) (r : List PyData) : (kndO b k r).pd = sqOf (kbit b k) r := by
  unfold kndO
  cases kbit b k with
  | true => rfl
  | false => exact pd_lD r
theorem kndO_flat (b : Int) (k : Nat) (r : List PyData) : (kndO b k r).flat := by
  unfold kndO
  cases kbit b k with
  | true => trivial
  | false => exact flat_lD r
theorem knds_flat (rows : List (List PyData)) (b : Int) : (Ot.li (knds rows b)).flat := (flats_iff _).mpr fun t h => by
  obtain ⟨k, hk, rfl⟩ := List.mem_mapIdx.mp h
  exact kndO_flat _ _ _
def kndD (rows : List (List PyData)) (b : Int) : PyData := .list (rows.mapIdx fun k r => sqOf (kbit b k) r)
theorem knds_pd (rows : List (List PyData)) (b : Int) : (Ot.li (knds rows b)).pd = kndD rows b := by
  show PyData.list (pds _) = _
  rw [pds_map]
  unfold knds kndD
  congr 1
  refine List.ext_getElem? fun i => ?_
  rw [List.getElem?_map, List.getElem?_mapIdx, List.getElem?_mapIdx]
  cases rows[i]? with
  | none => rfl
  | some r => exact congrArg some (kndO_pd b i r)
theorem kndO_lf (b : Int) (k : Nat) {r : List PyData} (h : ∀ d ∈ r, lfD d) : lfO (kndO b k r) := by
  unfold kndO
  cases kbit b k with
  | true => exact lf_tup h
  | false => exact (lfOs_iff _).mpr fun t m => by obtain ⟨d, hd, rfl⟩ := List.mem_map.mp m; exact h d hd
theorem knds_lf {rows : List (List PyData)} (b : Int) (h : ∀ r ∈ rows, ∀ d ∈ r, lfD d) : lfO (.li (knds rows b)) := (lfOs_iff _).mpr fun t m => by
  obtain ⟨k, hk, rfl⟩ := List.mem_mapIdx.mp m
  exact kndO_lf _ _ (h _ (List.getElem_mem _))
theorem x_tupQ {b : Bool} {ds : List PyData} (h : XE K te ρ (sqOf b ds)) : XE K (tCB (rTupleOf K) (tCons te tNil)) ρ (.tuple ds) := by
  cases b with
  | false => exact x_tuple (xs_l h)
  | true => exact x_tupleT h
theorem map_mapIdx_ {α β γ : Type} (f : Nat → α → β) (g : β → γ) (l : List α) : (l.mapIdx f).map g = l.mapIdx fun i x => g (f i x) := by
  refine List.ext_getElem? fun i => ?_
  rw [List.getElem?_map, List.getElem?_mapIdx, List.getElem?_mapIdx]
  cases l[i]? <;> rfl
end
end WL

namespace WL
open PySem L2
/-! ### tables of fractions over one bottom -/
def fT (T m : Int) : PyData := fr (Rat.divInt m T)
theorem fT_zero (T : Int) : fT T 0 = fr 0 := congrArg fr (divInt_zero_ T)
theorem fT_whole {T : Int} (h : 0 < T) : fT T T = fr 1 := by
  unfold fT
  congr 1
  rw [Rat.divInt_eq_div, Rat.div_def, Rat.mul_inv_cancel]
  have : (0 : Rat) < (T : Rat) := Rat.intCast_pos.mpr h
  grind
theorem eqv_fr (a b : Rat) : PyData.eqv (fr a) (fr b) = decide (a = b) := by
  have e : PyData.eqv (fr a) (fr b) = ((a.num == b.num) && ((a.den : Int) == (b.den : Int)) ) := by
    unfold fr
    simp only [PyData.eqv, PyData.eqvAll, Bool.and_true]
  rw [e]
  by_cases z : a = b
  · subst z; simp
  · rw [decide_eq_false z]
    by_cases y : a.num = b.num
    · have : ¬ ((a.den : Int) = (b.den : Int)) := fun q => z (Rat.ext y (by exact_mod_cast q))
      simp [y]
      intro q
      exact this (by exact_mod_cast q)
    · simp [y]
theorem divInt_inj {a b T : Int} (h : 0 < T) : Rat.divInt a T = Rat.divInt b T ↔ a = b := by
  constructor
  · intro e
    have h1 := (divInt_lt (a := a) (b := b) h)
    have h2 := (divInt_lt (a := b) (b := a) h)
    rw [e] at h1 h2
    have n : ¬ (Rat.divInt b T < Rat.divInt b T) := Rat.lt_irrefl
    have h3 : ¬ a < b := fun q => n (h1.mpr q)
    have h4 : ¬ b < a := fun q => n (h2.mpr q)
    omega
  · intro e; rw [e]
theorem one_divInt {T : Int} (h : 0 < T) : (1 : Rat) = Rat.divInt T T := (fr_inj (fT_whole h)).symm
theorem zero_divInt_ (T : Int) : (0 : Rat) = Rat.divInt 0 T := (divInt_zero_ T).symm
theorem sum_bd {B : Nat} : ∀ {l : List Int}, (∀ m ∈ l, m.natAbs ≤ B) → l.sum.natAbs ≤ l.length * B
  | [], _ => by simp
  | m :: l, h => by
    have h1 := sum_bd (l := l) fun x hx => h x (List.mem_cons_of_mem _ hx)
    have h2 := h m List.mem_cons_self
    rw [List.sum_cons, List.length_cons, Nat.succ_mul]
    omega
structure SzR (T : Int) (ms : List Int) : Prop where
  pos : 0 < T
  big : T < 2 ^ 100
  len : ms.length ≤ 100
  sm : ∀ m ∈ ms, m.natAbs < 2 ^ 100
theorem SzR.sum {T : Int} {ms : List Int} (h : SzR T ms) (i : Nat) : Sm (Rat.divInt (ms.take i).sum T) := by
  have b := sum_bd (B := 2 ^ 100) (l := ms.take i) fun m q => Nat.le_of_lt (h.sm m (List.mem_of_mem_take q))
  have l : (ms.take i).length ≤ 100 := by rw [List.length_take]; have := h.len; omega
  have : (ms.take i).sum.natAbs ≤ 100 * 2 ^ 100 := Nat.le_trans b (Nat.mul_le_mul_right _ l)
  have hp := h.pos
  have hb := h.big
  refine (Sw_divInt (by omega) (Nat.lt_of_le_of_lt this (by decide)) ?_).sm
  exact Nat.lt_trans (show T.natAbs < 2 ^ 100 by omega) (by decide)
theorem SzR.one {T m : Int} {ms : List Int} (h : SzR T ms) (hm : m ∈ ms) : Sm (Rat.divInt m T) := by
  have hp := h.pos
  have hb := h.big
  refine (Sw_divInt (by omega) (Nat.lt_trans (h.sm m hm) (by decide)) ?_).sm
  exact Nat.lt_trans (show T.natAbs < 2 ^ 100 by omega) (by decide)
theorem Sm_zero : Sm 0 := ⟨Nat.two_pow_pos _, Nat.one_lt_two_pow (by decide)⟩
theorem Sm_one : Sm 1 := ⟨Nat.one_lt_two_pow (by decide), Nat.one_lt_two_pow (by decide)⟩
/-! ### a matrix of numbers, changed -/
/-- as data, by f -/
def toX (f : Int → PyData) (R : List (List Int)) : List (List PyData) := R.map fun r => r.map f
abbrev toD (R : List (List Int)) : List (List PyData) := toX .int R
def gM (R : List (List Int)) (a b : Nat) : Int := (R.getD a []).getD b 0
def upM (R : List (List Int)) (a b : Nat) (v : Int) : List (List Int) := R.set a ((R.getD a []).set b v)
structure Sq_ (c : Nat) (R : List (List Int)) : Prop where
  len : R.length = c
  row : ∀ r ∈ R, r.length = c
theorem Sq_.at {c : Nat} {R : List (List Int)} (h : Sq_ c R) {a : Nat} (ha : a < c) : R[a]? = some (R.getD a []) ∧ (R.getD a []).length = c := by
  have e : R[a]? = some (R.getD a []) := by rw [List.getD_eq_getElem?_getD, List.getElem?_eq_getElem (by rw [h.len]; exact ha)]; rfl
  exact ⟨e, h.row _ (List.mem_of_getElem? e)⟩
theorem Sq_.up {c : Nat} {R : List (List Int)} (h : Sq_ c R) {a : Nat} (ha : a < c) (b : Nat) (v : Int) : Sq_ c (upM R a b v) := ⟨by unfold upM; rw [List.length_set, h.len], fun r m => by
  rcases List.mem_or_eq_of_mem_set m with m | rfl
  · exact h.row r m
  · rw [List.length_set]; exact (h.at ha).2⟩
theorem Sq_.cell {c : Nat} {R : List (List Int)} (h : Sq_ c R) {a b : Nat} (ha : a < c) (hb : b < c) : (R.getD a [])[b]? = some (gM R a b) := by
  have hl := (h.at ha).2
  unfold gM
  generalize R.getD a [] = r at hl ⊢
  rw [List.getD_eq_getElem?_getD, List.getElem?_eq_getElem (by omega)]
  rfl
theorem toX_at {f : Int → PyData} {c : Nat} {R : List (List Int)} (h : Sq_ c R) {a : Nat} (ha : a < c) : (toX f R)[a]? = some ((R.getD a []).map f) := by
  unfold toX
  rw [List.getElem?_map, (h.at ha).1]
  rfl
theorem toX_up (f : Int → PyData) (R : List (List Int)) (a b : Nat) (v : Int) : (toX f R).set a (((R.getD a []).map f).set b (f v)) = toX f (upM R a b v) := by
  unfold toX upM
  rw [← List.map_set, ← List.map_set (f := fun r : List Int => r.map f)]
theorem toD_at {c : Nat} {R : List (List Int)} (h : Sq_ c R) {a : Nat} (ha : a < c) : (toD R)[a]? = some ((R.getD a []).map .int) := toX_at h ha
theorem Sq_.lenX {f : Int → PyData} {c : Nat} {R : List (List Int)} (h : Sq_ c R) : (toX f R).length = c := by unfold toX; rw [List.length_map, h.len]
section
variable {K : PySem.W.Frag} {ρ : List Sl} {P : Post} {ta tb te : TE} {i c : Nat} {R : List (List Int)} {a b : Nat} {f : Int → PyData}
theorem x_cellX (h : ρ[i]? = some (.ow2 (toX f R))) (hR : Sq_ c R) (ha : XE K ta ρ (.int a)) (hb : XE K tb ρ (.int b)) (la : a < c) (lb : b < c) : XE K (tOp (rIx K) (tOp (rIx K) (tVar i) ta) tb) ρ (f (gM R a b)) :=
  x_ix (xs_row h ha (atI_nat (toX_at hR la))) hb (atI_map (f := f) (atI_nat (hR.cell la lb)))
/-- of a known matrix, rows lists -/
theorem x_cellL (h : XE K te ρ (.list ((toX f R).map .list))) (hR : Sq_ c R) (ha : XE K ta ρ (.int a)) (hb : XE K tb ρ (.int b)) (la : a < c) (lb : b < c) : XE K (tOp (rIx K) (tOp (rIx K) te ta) tb) ρ (f (gM R a b)) :=
  x_ix (xs_l (x_ix (xs_l h) ha (atI_map (f := PyData.list) (atI_nat (toX_at hR la))))) hb (atI_map (f := f) (atI_nat (hR.cell la lb)))
/-- rows tuples -/
theorem x_cellT (h : XE K te ρ (.list ((toX f R).map .tuple))) (hR : Sq_ c R) (ha : XE K ta ρ (.int a)) (hb : XE K tb ρ (.int b)) (la : a < c) (lb : b < c) : XE K (tOp (rIx K) (tOp (rIx K) te ta) tb) ρ (f (gM R a b)) :=
  x_ix (xs_t (x_ix (xs_l h) ha (atI_map (f := PyData.tuple) (atI_nat (toX_at hR la))))) hb (atI_map (f := f) (atI_nat (hR.cell la lb)))
theorem s_setX {v : Int} (h : ρ[i]? = some (.ow2 (toX f R))) (hR : Sq_ c R) (hv : XE K te ρ (f v)) (ha : XE K ta ρ (.int a)) (hb : XE K tb ρ (.int b)) (la : a < c) (lb : b < c) (k : P.nx (ρ.set i (.ow2 (toX f (upM R a b v))))) : WS K (tAsg te (gSub (tOp (rIx K) (tVar i) ta) tb rSetL)) ρ P :=
  s_set2 h hv ha hb (ixN_nat rfl (by rw [hR.lenX]; exact la)) (toX_at hR la) (ixN_nat rfl (by rw [List.length_map, (hR.at la).2]; exact lb)) (by rw [toX_up]; exact k)
theorem x_cellM (h : ρ[i]? = some (.ow2 (toD R))) (hR : Sq_ c R) (ha : XE K ta ρ (.int a)) (hb : XE K tb ρ (.int b)) (la : a < c) (lb : b < c) : XE K (tOp (rIx K) (tOp (rIx K) (tVar i) ta) tb) ρ (.int (gM R a b)) := x_cellX h hR ha hb la lb
theorem s_setM {v : Int} (h : ρ[i]? = some (.ow2 (toD R))) (hR : Sq_ c R) (hv : XE K te ρ (.int v)) (ha : XE K ta ρ (.int a)) (hb : XE K tb ρ (.int b)) (la : a < c) (lb : b < c) (k : P.nx (ρ.set i (.ow2 (toD (upM R a b v))))) : WS K (tAsg te (gSub (tOp (rIx K) (tVar i) ta) tb rSetL)) ρ P := s_setX h hR hv ha hb la lb k
theorem s_augM {n : Int} {fn : Int → Int → Int} (h : ρ[i]? = some (.ow2 (toD R))) (hR : Sq_ c R) (hc : c ≤ 1000) (ha : XE K ta ρ (.int a)) (hb : XE K tb ρ (.int b)) (hv : XE K te ρ (.int n)) (la : a < c) (lb : b < c) (k : P.nx (ρ.set i (.ow2 (toD (upM R a b (fn (gM R a b) n)))))) : WS K (tAugS (tOp (rIx K) (tVar i) ta) tb te rGetL (ipI fn) rSetL) ρ P :=
  s_aug2 h ha hb hv (ixN_nat rfl (by rw [hR.lenX]; exact la)) (toD_at hR la) (Int.natCast_nonneg _) (Int.toNat_natCast _) (by rw [List.getElem?_map, hR.cell la lb]; rfl) (by rw [List.length_map, (hR.at la).2]; omega) (by rw [toX_up]; exact k)
end
end WL

namespace WL
open PySem L2
/-! ### dicts of one's own, whose keys are numbers -/
def nK (n : Nat) : Key := Sum.inl (n : Int)
theorem nK_inj {a b : Nat} : nK a = nK b ↔ a = b := ⟨fun h => by have := Sum.inl.inj h; omega, fun h => by rw [h]⟩
def getN {α : Type} (h : List (Nat × α)) (k : Nat) : Option α := match h with
  | [] => none
  | x :: h => if x.1 = k then some x.2 else getN h k
def setN {α : Type} (h : List (Nat × α)) (k : Nat) (v : α) : List (Nat × α) := h.map fun x => if x.1 = k then (x.1, v) else x
def putN {α : Type} (h : List (Nat × α)) (k : Nat) (v : α) : List (Nat × α) := if (getN h k).isSome then setN h k v else h ++ [(k, v)]
theorem getN_map {α β : Type} (f : α → β) (k : Nat) : ∀ h : List (Nat × α), getN (h.map fun x => (x.1, f x.2)) k = (getN h k).map f
  | [] => rfl
  | x :: h => by
    show (if x.1 = k then some (f x.2) else getN (h.map fun x => (x.1, f x.2)) k) = (if x.1 = k then some x.2 else getN h k).map f
    rw [getN_map f k h]
    split <;> rfl
theorem putN_map {α β : Type} (f : α → β) (k : Nat) (v : α) (h : List (Nat × α)) : putN (h.map fun x => (x.1, f x.2)) k (f v) = (putN h k v).map fun x => (x.1, f x.2) := by
  unfold putN setN
  rw [getN_map]
  cases getN h k with
  | none => simp
  | some y =>
    simp only [Option.map_some, Option.isSome_some, if_true, List.map_map]
    refine List.map_congr_left fun x _ => ?_
    show (if x.1 = k then (x.1, f v) else (x.1, f x.2)) = _
    by_cases z : x.1 = k <;> simp [z]
def kz (h : List (Nat × PyData)) : List Key := h.map fun x => nK x.1
def dicD (h : List (Nat × PyData)) : Ot := .di (kz h) (h.map fun x => .da x.2)
theorem zip_get {h : List (Nat × PyData)} {vs : List V} {K : PySem.W.Frag} {F : Hp} (p : DpAll K F vs (h.map (·.2))) (k : Nat) : (getN h k = none → valV ((kz h).zip vs) (nK k) = none) ∧ ∀ d, getN h k = some d → ∃ v, valV ((kz h).zip vs) (nK k) = some v ∧ Dp K F v d := by
  induction h generalizing vs with
  | nil => exact ⟨fun _ => rfl, fun d z => nomatch z⟩
  | cons x h ih =>
    match vs, p with
    | v :: vs, .cons p ps =>
      obtain ⟨i1, i2⟩ := ih ps
      have e : getN (x :: h) k = if x.1 = k then some x.2 else getN h k := rfl
      have z : (kz (x :: h)).zip (v :: vs) = (nK x.1, v) :: (kz h).zip vs := rfl
      rw [e, z]
      by_cases y : x.1 = k
      · rw [if_pos y]
        refine ⟨fun q => (nomatch q), fun d q => ?_⟩
        cases q
        exact ⟨v, valV_pos (nK_inj.mpr y), p⟩
      · rw [if_neg y, valV_neg (fun q => y (nK_inj.mp q))]
        exact ⟨i1, i2⟩
theorem zip_set {h : List (Nat × PyData)} {vs : List V} {K : PySem.W.Frag} {F : Hp} (p : DpAll K F vs (h.map (·.2))) (k : Nat) {v : V} {d : PyData} (pv : Dp K F v d) : ∃ vs', ((kz h).zip vs).map (fun kv => if kv.1 = nK k then (kv.1, v) else kv) = (kz (setN h k d)).zip vs' ∧ DpAll K F vs' ((setN h k d).map (·.2)) := by
  induction h generalizing vs with
  | nil => cases p; exact ⟨[], rfl, .nil⟩
  | cons x h ih =>
    match vs, p with
    | w :: vs, .cons p ps =>
      obtain ⟨vs', e1, e2⟩ := ih ps
      have e : setN (x :: h) k d = (if x.1 = k then (x.1, d) else x) :: setN h k d := rfl
      by_cases y : x.1 = k
      · refine ⟨v :: vs', ?_, ?_⟩
        · rw [e, if_pos y]
          show (if nK x.1 = nK k then (nK x.1, v) else (nK x.1, w)) :: _ = (nK x.1, v) :: _
          rw [if_pos (nK_inj.mpr y)]
          exact congrArg _ e1
        · rw [e, if_pos y]
          exact .cons pv e2
      · refine ⟨w :: vs', ?_, ?_⟩
        · rw [e, if_neg y]
          show (if nK x.1 = nK k then (nK x.1, v) else (nK x.1, w)) :: _ = (nK x.1, w) :: _
          rw [if_neg fun q => y (nK_inj.mp q)]
          exact congrArg _ e1
        · rw [e, if_neg y]
          exact .cons p e2
theorem zip_put {h : List (Nat × PyData)} {vs : List V} {K : PySem.W.Frag} {F : Hp} (p : DpAll K F vs (h.map (·.2))) (k : Nat) {v : V} {d : PyData} (pv : Dp K F v d) : ∃ vs', putK ((kz h).zip vs) (nK k) v = (kz (putN h k d)).zip vs' ∧ DpAll K F vs' ((putN h k d).map (·.2)) := by
  obtain ⟨g1, g2⟩ := zip_get p k
  unfold putK putN
  rw [valV_any]
  cases e : getN h k with
  | none =>
    rw [g1 e]
    refine ⟨vs ++ [v], ?_, ?_⟩
    · have l : (kz h).length = vs.length := by have := dpa_len p; simp [kz] at this ⊢; omega
      simp only [Option.isSome_none, Bool.false_eq_true, if_false]
      rw [show kz (h ++ [(k, d)]) = kz h ++ [nK k] by unfold kz; rw [List.map_append]; rfl, List.zip_append l]
      rfl
    · simp only [Option.isSome_none, Bool.false_eq_true, if_false]
      rw [List.map_append]
      exact dpa_app p (dpa_one pv)
  | some d' =>
    obtain ⟨w, hw, _⟩ := g2 d' e
    rw [hw]
    simp only [Option.isSome_some, if_true]
    exact zip_set p k pv
section
variable {K : PySem.W.Frag} {N : Addr → Prop} {ρ ρ' : List Sl} {σ : L2.St} {F H F' H' F0 H0 : Hp} {ta tA : TA} {te tb tc tv td ty : TE} {tt tu : TT} {P : Post} {t u : TS}
theorem ots_dic {h : List (Nat × PyData)} {vs : List V} {as : List Addr} (p : OtsOk K F H (h.map fun x => .da x.2) vs as) : DpAll K F vs (h.map (·.2)) ∧ as = [] := by
  rw [show (h.map fun x => Ot.da x.2) = (h.map (·.2)).map .da by rw [List.map_map]; rfl] at p
  exact das_ots p
theorem dic_ots {h : List (Nat × PyData)} {vs : List V} (p : DpAll K F vs (h.map (·.2))) : OtsOk K F H (h.map fun x => .da x.2) vs [] := by
  rw [show (h.map fun x => Ot.da x.2) = (h.map (·.2)).map .da by rw [List.map_map]; rfl]
  exact ots_das p
theorem kz_len (h : List (Nat × PyData)) : (kz h).length = (h.map fun x => Ot.da x.2).length := by simp [kz]
/-- k not in d -/
theorem x_dnotin {i : Nat} {o : Option V} {r : Ot} {p : List Nat} {h : List (Nat × PyData)} {k : Nat} (hf : XF K td ρ i p) (hi : ρ[i]? = some (.ot o r)) (hs : r.sub p = some (dicD h)) (hk : XE K ty ρ (.int k)) : XE K (tDNotIn ty td) ρ (.bool (!(getN h k).isSome)) := xe_intro fun N σ F H e Q q => hk.e e fun y F1 H1 g1 py => hf _ σ F1 H1 (e.gr g1) _ fun w F2 H2 g2 ⟨v, hv, hw⟩ => by
  obtain ⟨bs, ok⟩ := ((e.gr g1).gr g2).see hi hs hv hw
  cases ok with
  | @di l ks vs ts as hl _ pk =>
    obtain ⟨dp, _⟩ := ots_dic pk
    obtain ⟨z1, z2⟩ := zip_get dp k
    have : (!(getN h k).isSome) = !(valV ((kz h).zip vs) (nK k)).isSome := by
      cases e : getN h k with
      | none => rw [z1 e]; rfl
      | some d => obtain ⟨v, hv, _⟩ := z2 d e; rw [hv]; rfl
    rw [this] at q
    exact ⟨_, _, rfl, by rw [dp_int py]; exact DGet.k (k := nK k) hl, q _ F2 H2 (g1.trans g2) (.bl _)⟩
/-- k in d -/
theorem x_din {i : Nat} {o : Option V} {r : Ot} {p : List Nat} {h : List (Nat × PyData)} {k : Nat} (hf : XF K td ρ i p) (hi : ρ[i]? = some (.ot o r)) (hs : r.sub p = some (dicD h)) (hk : XE K ty ρ (.int k)) : XE K (tDIn ty td) ρ (.bool (getN h k).isSome) := xe_intro fun N σ F H e Q q => hk.e e fun y F1 H1 g1 py => hf _ σ F1 H1 (e.gr g1) _ fun w F2 H2 g2 ⟨v, hv, hw⟩ => by
  obtain ⟨bs, ok⟩ := ((e.gr g1).gr g2).see hi hs hv hw
  cases ok with
  | @di l ks vs ts as hl _ pk =>
    obtain ⟨dp, _⟩ := ots_dic pk
    obtain ⟨z1, z2⟩ := zip_get dp k
    have : (getN h k).isSome = (valV ((kz h).zip vs) (nK k)).isSome := by
      cases e : getN h k with
      | none => rw [z1 e]; rfl
      | some d => obtain ⟨v, hv, _⟩ := z2 d e; rw [hv]; rfl
    rw [this] at q
    exact ⟨_, _, rfl, by rw [dp_int py]; exact DGet.k (k := nK k) hl, q _ F2 H2 (g1.trans g2) (.bl _)⟩
/-- d[k] -/
theorem x_dget {i : Nat} {o : Option V} {r : Ot} {p : List Nat} {h : List (Nat × PyData)} {k : Nat} {d : PyData} (hf : XF K td ρ i p) (hi : ρ[i]? = some (.ot o r)) (hs : r.sub p = some (dicD h)) (hk : XE K ty ρ (.int k)) (hg : getN h k = some d) : XE K (tDGet td ty) ρ d := xe_intro fun N σ F H e Q q => hf _ σ F H e _ fun w F1 H1 g1 ⟨v, hv, hw⟩ => hk.e (e.gr g1) fun y F2 H2 g2 py => by
  obtain ⟨bs, ok⟩ := ((e.gr g1).gr g2).see hi hs hv (walk_mono g2.hh p hw)
  cases ok with
  | @di l ks vs ts as hl _ pk =>
    obtain ⟨dp, _⟩ := ots_dic pk
    obtain ⟨u, hu, pu⟩ := (zip_get dp k).2 d hg
    exact ⟨_, u, rfl, by rw [dp_int py, ← hu]; exact DGet.k (k := nK k) hl, q _ F2 H2 (g1.trans g2) pu⟩
/-- len(d) -/
theorem x_lenDic {i : Nat} {o : Option V} {r : Ot} {p : List Nat} {h : List (Nat × PyData)} (hf : XF K td ρ i p) (hi : ρ[i]? = some (.ot o r)) (hs : r.sub p = some (dicD h)) : XE K (tCB (fun xs H Q => ∃ a kvs, xs = [V.ref a] ∧ H a = some (.dK kvs) ∧ Q (.int kvs.length) H) (tCons td tNil)) ρ (.int h.length) := xe_intro fun N σ F H e Q q => hf _ σ F H e _ fun w F1 H1 g1 ⟨v, hv, hw⟩ => by
  obtain ⟨bs, ok⟩ := (e.gr g1).see hi hs hv hw
  cases ok with
  | @di l ks vs ts as hl _ pk =>
    obtain ⟨dp, _⟩ := ots_dic pk
    refine ⟨_, _, rfl, hl, ?_⟩
    have : ((kz h).zip vs).length = h.length := by rw [List.length_zip, dpa_len dp]; simp [kz]
    rw [this]
    exact q _ F1 H1 g1 (.int _)
/-- a dict at a path, to be changed -/
theorem Es.di (e : Es K F0 H0 ρ σ F H) {i : Nat} {o : Option V} {r : Ot} {h : List (Nat × PyData)} {p : List Nat} (hi : ρ[i]? = some (.ot o r)) (hs : r.sub p = some (dicD h)) : ∃ v l vs, σ[i]? = some (some v) ∧ walkH H v p = some (.ref l) ∧ H l = some (.dK ((kz h).zip vs)) ∧ DpAll K F vs (h.map (·.2)) ∧
    ∀ vs' h', DpAll K F vs' (h'.map (·.2)) → Es K F0 H0 (ρ.set i (.ot o (r.put p (dicD h')))) σ F (upd H l (.dK ((kz h').zip vs'))) := by
  obtain ⟨v, w, bs, h1, h2, h3, h5, h6, back⟩ := e.foc0 hi hs
  cases h3 with
  | @di l ks vs ts as hl len pk =>
    obtain ⟨dp, rfl⟩ := ots_dic pk
    refine ⟨v, l, vs, h1, h2, hl, dp, fun vs' h' dp' => back F _ (dicD h') [l] ⟨Same.refl _, fun a u q => ?_, fun a o no q => ?_, fun a o _ q _ => q⟩ (.di upd_same (kz_len h') (dic_ots dp')) (by simp) fun a m => ?_⟩
    · rw [upd_ne (ne_of_none q (h6 l List.mem_cons_self).1)]; exact e.en.fh a u q
    · rw [upd_ne fun y => no (by rw [y]; exact List.mem_cons_self)]; exact q
    · rw [List.mem_singleton.mp m]
      exact ⟨.inl List.mem_cons_self, (h6 l List.mem_cons_self).1⟩
/-- d[k] = e -/
theorem s_dput {i : Nat} {o : Option V} {r : Ot} {p : List Nat} {h : List (Nat × PyData)} {k : Nat} {d : PyData} (hv : XE K tv ρ d) (hf : XF K td ρ i p) (hi : ρ[i]? = some (.ot o r)) (hs : r.sub p = some (dicD h)) (hk : XE K ty ρ (.int k)) (hz : h.length ≤ 100000) (kk : P.nx (ρ.set i (.ot o (r.put p (dicD (putN h k d)))))) : WS K (sDPut td ty tv) ρ P := fun F0 H0 σ F H D e f =>
  hv.e e.en fun z F1 H1 g1 pz => hf _ σ F1 H1 (e.go g1).en _ fun w F2 H2 g2 ⟨v, hvv, hw⟩ => hk.e ((e.go g1).go g2).en fun y F3 H3 g3 py => by
    obtain ⟨v', l, vs, ev, hw', hl, dp, back⟩ := (((e.go g1).go g2).go g3).di hi hs
    rw [hvv] at ev
    cases ev
    rw [walk_mono g3.hh p hw] at hw'
    cases hw'
    obtain ⟨vs', e1, e2⟩ := zip_put dp k (dp_mono (g2.ff.trans g3.ff) _ _ pz)
    have lz : ((kz h).zip vs).length < sizeLine := by
      rw [List.length_zip, dpa_len dp]
      simp [kz]
      exact Nat.lt_of_le_of_lt hz (by decide)
    refine ⟨l, _, rfl, by rw [dp_int py]; exact DPut.k (k := nK k) hl lz, ?_⟩
    rw [e1]
    exact f.nx _ _ _ _ kk (back _ _ e2)
/-- {} -/
theorem x_dnew : XR K tDNewK ρ (.ot none (dicD [])) := fun N σ F H e Q q p np => q (.ref p) F _ (.own e.fh np) ⟨fun a => a = p, ⟨.ref p, [p], rfl, (fun _ z => nomatch z), .di (ks := []) (vs := []) upd_same rfl .nil, by simp, fun a m => List.mem_singleton.mp m⟩, fun a z => by rw [z]; exact ⟨e.fh.free np, np, _, upd_same⟩⟩
/-! ### for a, b in d.items() -/
/-- a cell of the base that nobody's slots own, changed -/
theorem Es.poke (e : Es K F H0 ρ σ F' H) {d : Addr} {o : HO} (hF : F d = none) (hG : H0 d = some o) (u : HO) : Es K F (upd H0 d u) ρ σ F' (upd H d u) := by
  have f2 : F' d = none := e.gr.ap d o hF hG
  obtain ⟨A, h1, h2, h3⟩ := e.en.en
  have own : ∀ j a, A j a → a ≠ d := fun j a p z => by
    have := (h3 j a p).2.1
    rw [z, hG] at this
    cases this
  have fh : Same F' (upd H d u) := fun a w q => by rw [upd_ne (ne_of_none q f2)]; exact e.en.fh a w q
  refine ⟨⟨e.gr.ff, fun a w q => ?_, fh, fun a w q r => ?_⟩, fh, e.en.len, A, fun j s hs => (h1 j s hs).mono (Same.refl _) (fun a w p q => by rw [upd_ne (own j a p)]; exact q) fun _ q => q, h2, fun j a p => ?_⟩
  · by_cases z : a = d
    · rw [z, upd_same] at q ⊢; exact q
    · rw [upd_ne z] at q ⊢; exact e.gr.hh a w q
  · by_cases z : a = d
    · rw [z]; exact f2
    · rw [upd_ne z] at r; exact e.gr.ap a w q r
  · obtain ⟨f, n, w, hw⟩ := h3 j a p
    exact ⟨f, by rw [upd_ne (own j a p)]; exact n, w, by rw [upd_ne (own j a p)]; exact hw⟩
theorem upd_back {H : Hp} {d : Addr} {o u : HO} (h : H d = some o) : upd (upd H d u) d o = H := by
  rw [upd_upd]
  funext a
  by_cases z : a = d
  · rw [z, upd_same, h]
  · rw [upd_ne z]
/-- for a, b in d.items(), d in slot i; the pairs are data -/
theorem s_items {i : Nat} {o : Option V} {h : List (Nat × PyData)} {g : TG} (js : List Nat) (I : V → Nat → List Sl → Prop) (hi : ρ[i]? = some (.ot o (dicD h))) (h0 : ∀ l, I l 0 (wipeR (ρ.set i (.ot (some l) (.at_ l))) js))
    (hs : ∀ (l : V) (n : Nat) x r, h[n]? = some x → I l n r → WG K g (.tuple [.int x.1, x.2]) r fun r' => WS K t r' { nx := fun z => I l (n + 1) (wipeR z js), ct := fun z => I l (n + 1) (wipeR z js) })
    (hd : ∀ l r, I l h.length r → r[i]? = some (.ot (some l) (.at_ l)) ∧ P.nx (r.set i (.ot o (dicD h)))) : WS K (tLock (tFor (iItems (tVar i)) g t)) ρ P := fun F0 H0 σ F H D e f => by
  obtain ⟨v, w, ev, hw, kn, e1⟩ := e.take hi (p := []) rfl
  cases hw
  rw [put_nil] at e1
  obtain ⟨A, h1, h2, h3⟩ := e1.en.en
  have kk := h1 (ρ.set i (.ot (some v) (.at_ v))).length _ (by rw [List.getElem?_append_right (Nat.le_refl _), Nat.sub_self]; rfl)
  have len := e1.en.lenE
  rw [List.getElem?_append_right (by rw [len]; exact Nat.le_refl _), show (ρ.set i (.ot (some v) (.at_ v))).length - σ.length = 0 by rw [len]; omega] at kk
  obtain ⟨v', as, ev', _, ok, nd, own⟩ := kk
  cases ev'
  cases ok with
  | @di d ks vs ts as hl lk pk =>
    obtain ⟨dp, rfl⟩ := ots_dic pk
    obtain ⟨G, go, back, _, _, gh, gfr⟩ := e1.frame len
    have hGd : G d = some (.dK ((kz h).zip vs)) := by
      obtain ⟨bs, ok⟩ := gfr 0 _ _ _ rfl rfl
      cases ok with
      | di q _ _ =>
        have := gh _ _ q
        rw [hl] at this
        rw [q, ← this]
    have hFd : F d = none := (h3 _ d (own d List.mem_cons_self)).1
    have lz : ((kz h).zip vs).length = h.length := by rw [List.length_zip, dpa_len dp]; simp [kz]
    refine ⟨d, _, hl, trivial, fun od => ?_⟩
    have go1 := go.poke hFd hGd (.frz od (.dK ((kz h).zip vs)))
    have still : ∀ {r : List Sl} {τ : L2.St} {F2 H2 : Hp}, Es K F (upd G d (.frz od (.dK ((kz h).zip vs)))) r τ F2 H2 → H2 d = some (.frz od (.dK ((kz h).zip vs))) := fun es => es.gr.hh d _ upd_same
    refine ⟨.ref d, ev, d, od, _, rfl, upd_same, fun n m τ H2 => m + n = h.length ∧ ∃ r F2, I (.ref d) n r ∧ Es K F (upd G d (.frz od (.dK ((kz h).zip vs)))) r τ F2 H2, ⟨h.length, by omega, _, F, h0 _, go1.drops js⟩, ?_⟩
    rintro n m τ H2 ⟨hm, r, F2, hI, e2⟩
    by_cases z : n < h.length
    · have gx : h[n]? = some h[n] := List.getElem?_eq_getElem z
      refine .inr ⟨⟨still e2, by rw [lz]; exact z⟩, fun τ H2 => ∃ r F2, I (.ref d) (n + 1) r ∧ Es K F (upd G d (.frz od (.dK ((kz h).zip vs)))) r τ F2 H2, fun τ' H' w => ⟨m - 1, by omega, by omega, w⟩, ?_⟩
      rintro y H3 ⟨T, k, x, hk, rfl, free, rfl⟩
      obtain ⟨u, hu, pu⟩ := dpa_get dp (i := n) (d := h[n].2) (by rw [List.getElem?_map, gx]; rfl)
      have ek : ((kz h).zip vs)[n]? = some (nK h[n].1, u) := by
        rw [List.getElem?_zip_eq_some]
        exact ⟨by unfold kz; rw [List.getElem?_map, gx]; rfl, hu⟩
      rw [ek] at hk
      obtain ⟨hk1, hk2⟩ := Prod.mk.inj (Option.some.inj hk)
      rw [← hk1, ← hk2]
      have gn := Gr.new (o := .tup [kV (nK h[n].1), u]) e2.en.fh free
      have up := e2.gr.ff.trans gn.ff
      refine hs (.ref d) n _ r gx hI F _ τ _ _ _ (e2.go gn) (.tup (SqT.of upd_same) (.cons (.int _) (.cons (dp_mono up _ _ pu) .nil))) _ fun r' τ' hw e3 => ?_
      exact hw F _ τ' _ _ _ e3 ⟨fun r τ F H p e => ⟨_, F, p, e.drops js⟩, fun _ _ _ _ z => z.elim, fun _ _ _ _ z => z.elim, fun r τ F H p e => ⟨_, F, p, e.drops js⟩, fun _ _ _ z => z.elim, fun _ _ _ _ _ _ z => z.elim, fun _ _ _ _ _ z => z.elim⟩
    · have zi : n = h.length := by omega
      subst zi
      obtain ⟨hr, kx⟩ := hd (.ref d) r hI
      refine .inl ⟨⟨still e2, by rw [lz]; exact Nat.le_refl _⟩, still e2, ?_⟩
      have e3 := e2.poke hFd upd_same (.dK ((kz h).zip vs))
      rw [upd_back hGd] at e3
      have e4 := back _ _ _ _ e3
      have tv : τ[i]? = some (some (.ref d)) := by
        obtain ⟨A, h1, _⟩ := e2.en.en
        obtain ⟨v', as', e', kn', _⟩ := h1 i _ hr
        rw [e', kn' _ rfl]
      have e5 := e4.popSet i
      rw [set_same tv] at e5
      have im : SlImp K (.ot (some (.ref d)) (dicD h)) (.ot o (dicD h)) := fun _ _ _ _ ⟨v', as', e', k', p'⟩ => ⟨v', as', e', fun w z => (k' _ rfl).trans (kn w z), p'⟩
      have e6 := e5.as (set_self hr) im
      rw [List.set_set] at e6
      exact f.nx _ _ F2 _ kx e6
end
end WL

namespace WL
open PySem L2 PySem.Spec PyProof.Rows
/-! ### len(set(x)), x a list of unlike tuples of numbers -/
section
variable {X : Cx}
def tLenSetT (K : PySem.W.Frag) (ta : TE) : TE := fun σ H Q => ta σ H fun x H1 => ∃ (l : Addr) (ks : List (Addr × List Int)), x = V.ref l ∧ SqL K H1 l (ks.map fun p => V.ref p.1) ∧ (∀ p ∈ ks, SqT K H1 p.1 (p.2.map V.int)) ∧ ks.length < 64 ∧ (ks.map (·.2)).Nodup ∧ Q (.int ks.length) H1
theorem pe_lenSetT {a : Expr} {ta : TE} {p p2 q pos : Pos} (hu : X.A.units + 65 < cLine) (hc : X.calm = true) (hg : Gl X "len") (hm : X.mg "len" = none) (hg2 : Gl X "set") (hm2 : X.mg "set" = none) (ha : PE X a ta)
    (na : starEach [a] X.env = (false, eval a X.env) :: starEach [] X.env := by rfl) : PE X (.Call (.Name "len" p) [.Call (.Name "set" p2) [a] [] q] [] pos) (tLenSetT X.K ta) := by
  refine ⟨fun pins s σ H Q I h => ?_⟩
  refine Call_ (ld_blt I hg hm PySem.boot_len ?_)
  refine PyProof.Rows.callWith_builtin1 (PyProof.Rows.args_cons ?_ rfl) rfl rfl
  refine Call_ (ld_blt I hg2 hm2 PyProof.Rows.boot_set ?_)
  refine PyProof.Rows.callWith_type1 (PyProof.Rows.args_cons (thn (ha.run pins s σ H _ I h) fun v s1 ⟨x, H1, I1, r1, q1⟩ => PyProof.Rows.args_nil ?_) na) na rfl
  obtain ⟨l, ks, rfl, hl, hk, hf, hnd, q1⟩ := q1
  cases r1
  obtain ⟨its, rv, pl, hz⟩ := I1.list hl
  refine call_set_tups (P := X.prog) (w := X.w) ks (I1.ok.hd hc) pl.isList (by simpa using refs_of_vals rv) (fun p hp => I1.isT (hk p hp)) hf (by omega) fun h' tk L es ep t R g k => ?_
  have hL : L.length = ks.length := by
    have a1 := R.nd.length_le_of_subset (l₂ := ks.map (·.2)) fun y m => by
      obtain ⟨p, hp, rfl⟩ := List.mem_map.mp m
      exact List.mem_map.mpr ⟨p, List.mem_of_mem_take (g.sub p hp), rfl⟩
    have a2 := hnd.length_le_of_subset (l₂ := L.map (·.2)) fun y m => by
      obtain ⟨p, hp, rfl⟩ := List.mem_map.mp m
      exact g.all p (by rw [List.take_length]; exact hp)
    simp at a1 a2
    omega
  refine PyProof.Rows.args_nil ?_
  obtain ⟨o, ho, hex, hd⟩ := R.ob
  have I2 : Inv X pins σ H1 { s1 with heap := h', toks := tk } := I1.kept fun b o e => k b o e
  have sz := SetTR.size (s := { s1 with heap := h', toks := tk }) R
  refine call_len_set ho hex hd (SetTR.fits (s := { s1 with heap := h', toks := tk }) R) (by rw [sz, hL]; omega) ⟨.int ks.length, H1, I2.tok _, ⟨_, by rw [sz, hL]⟩, q1⟩
end
section
variable {K : PySem.W.Frag} {N : Addr → Prop} {ρ ρ' : List Sl} {σ : L2.St} {F H F' H' F0 H0 : Hp} {ta tA : TA} {te tb tc tv td ty : TE} {tt tu : TT} {P : Post} {t u : TS}
theorem dps_tups {H : Hp} : ∀ {nss : List (List Int)} {xs : List V}, DpAll K H xs (nss.map fun ns => .tuple (ns.map .int)) → ∃ ks : List (Addr × List Int), xs = ks.map (fun p => V.ref p.1) ∧ ks.map (·.2) = nss ∧ ∀ p ∈ ks, SqT K H p.1 (p.2.map V.int)
  | [], _, .nil => ⟨[], rfl, rfl, fun p m => nomatch m⟩
  | ns :: nss, _, .cons p ps => by
    obtain ⟨a, vs, rfl, s, d⟩ := dp_tuple p
    rw [dpa_ints d] at s
    obtain ⟨ks, e1, e2, e3⟩ := dps_tups ps
    refine ⟨(a, ns) :: ks, by rw [e1]; rfl, by rw [List.map_cons, e2], fun q m => ?_⟩
    rcases List.mem_cons.mp m with rfl | m
    · exact s
    · exact e3 q m
theorem x_lenSetT {nss : List (List Int)} (h : XE K te ρ (.list (nss.map fun ns => .tuple (ns.map .int)))) (nd : nss.Nodup) (hz : nss.length < 64) : XE K (tLenSetT K te) ρ (.int nss.length) := xe_intro fun N σ F H e Q q => h.e e fun v F1 H1 g p => by
  obtain ⟨a, xs, rfl, s, d⟩ := dp_list p
  obtain ⟨ks, e1, e2, e3⟩ := dps_tups d
  rw [e1] at s
  refine ⟨a, ks, rfl, g.fh.seq s, fun p m => sq_t g.fh (e3 p m), by rw [← e2] at hz; simpa using hz, by rw [e2]; exact nd, ?_⟩
  have : ks.length = nss.length := by rw [← e2]; simp
  rw [this]
  exact q _ F1 H1 g (.int _)
theorem x_lenSetI {ns : List Int} (h : XE K te ρ (.list (ns.map .int))) (nd : ns.Nodup) (hz : ns.length < 64) : XE K (tLenSetI K te) ρ (.int ns.length) := xe_intro fun N σ F H e Q q => h.e e fun v F1 H1 g p => by
  obtain ⟨a, xs, rfl, s, d⟩ := dp_list p
  rw [dpa_ints d] at s
  exact ⟨a, ns, rfl, g.fh.seq s, hz, nd, q _ F1 H1 g (.int _)⟩
/-! all([..]) -/
theorem x_all {bs : List Bool} (h : XE K te ρ (.list (bs.map .bool))) : XE K (tCB (rAll K) (tCons te tNil)) ρ (.bool (bs.all id)) := xe_intro fun N σ F H e Q q => h.e e fun v F1 H1 g p => by
  obtain ⟨a, xs, rfl, s, d⟩ := dp_list p
  rw [dpa_bools d] at s
  exact ⟨a, bs, rfl, g.fh.seq s, q _ F1 H1 g (.bl _)⟩
theorem x_allT {α : Type} {xs : List α} (h : XE K te ρ (.list (xs.map fun _ => .bool true))) : XE K (tCB (rAll K) (tCons te tNil)) ρ (.bool true) := by
  have e : (xs.map fun _ => PyData.bool true) = (xs.map fun _ => true).map .bool := by rw [List.map_map]; rfl
  rw [e] at h
  have := x_all h
  rwa [show (xs.map fun _ => true).all id = true by simp] at this
end
end WL

namespace WL
open PySem L2
/-! ### things found for people (lots.lead) -/
abbrev Hold := List (Nat × Nat)
def leadL (S : Nat → Nat → Bool) (rec : Nat → Hold → List Nat → Bool × Hold × List Nat) (p : Nat) : List Nat → Hold → List Nat → Bool × Hold × List Nat
  | [], h, s => (false, h, s)
  | t :: ts, h, s => if S p t = true ∧ t ∉ s then
      match getN h t with
      | none => (true, putN h t p, s ++ [t])
      | some q => match rec q h (s ++ [t]) with
        | (true, h2, s2) => (true, putN h2 t p, s2)
        | (false, h2, s2) => leadL S rec p ts h2 s2
    else leadL S rec p ts h s
def leadF (S : Nat → Nat → Bool) (c : Nat) : Nat → Nat → Hold → List Nat → Bool × Hold × List Nat
  | 0, _, h, s => (false, h, s)
  | n + 1, p, h, s => leadL S (leadF S c n) p (List.range c) h s
/-- holders: things and people below c, no thing twice -/
structure HolOk (c : Nat) (h : Hold) : Prop where
  nd : (h.map (·.1)).Nodup
  lt : ∀ x ∈ h, x.1 < c ∧ x.2 < c
structure SeenOk (c : Nat) (s : List Nat) : Prop where
  nd : s.Nodup
  lt : ∀ t ∈ s, t < c
theorem getN_mem {α : Type} {k : Nat} {v : α} : ∀ {h : List (Nat × α)}, getN h k = some v → (k, v) ∈ h
  | [], e => nomatch e
  | x :: h, e => by
    have e' : (if x.1 = k then some x.2 else getN h k) = some v := e
    by_cases z : x.1 = k
    · rw [if_pos z] at e'
      cases e'
      rw [← z]
      exact List.mem_cons_self
    · rw [if_neg z] at e'
      exact List.mem_cons_of_mem _ (getN_mem e')
theorem getN_none {α : Type} {k : Nat} : ∀ {h : List (Nat × α)}, getN h k = none ↔ k ∉ h.map (·.1)
  | [] => by simp [getN]
  | x :: h => by
    have e : getN (x :: h) k = (if x.1 = k then some x.2 else getN h k) := rfl
    rw [e]
    by_cases z : x.1 = k
    · rw [if_pos z]; simp [z]
    · rw [if_neg z, getN_none (h := h)]
      simp
      omega
theorem getN_of {α : Type} {k : Nat} {v : α} : ∀ {h : List (Nat × α)}, (h.map (·.1)).Nodup → (k, v) ∈ h → getN h k = some v
  | [], _, m => nomatch m
  | x :: h, nd, m => by
    have e : getN (x :: h) k = (if x.1 = k then some x.2 else getN h k) := rfl
    have n := List.nodup_cons.mp nd
    rw [e]
    rcases List.mem_cons.mp m with rfl | m
    · rw [if_pos rfl]
    · have : x.1 ≠ k := fun z => n.1 (by show x.1 ∈ _; rw [z]; exact List.mem_map.mpr ⟨_, m, rfl⟩)
      rw [if_neg this]
      exact getN_of n.2 m
theorem setN_keys {α : Type} (h : List (Nat × α)) (k : Nat) (v : α) : (setN h k v).map (·.1) = h.map (·.1) := by
  unfold setN
  rw [List.map_map]
  refine List.map_congr_left fun x _ => ?_
  show (if x.1 = k then (x.1, v) else x).1 = x.1
  split <;> rfl
theorem putN_get {α : Type} (k j : Nat) (v : α) (h : List (Nat × α)) : getN (putN h k v) j = if j = k then some v else getN h j := by
  unfold putN
  cases e : getN h k with
  | none =>
    simp only [Option.isSome_none, Bool.false_eq_true, if_false]
    have app : ∀ l : List (Nat × α), getN (l ++ [(k, v)]) j = match getN l j with | some x => some x | none => if k = j then some v else none := fun l => by
      induction l with
      | nil => rfl
      | cons x l ih =>
        show (if x.1 = j then some x.2 else getN (l ++ [(k, v)]) j) = match (if x.1 = j then some x.2 else getN l j) with | some x => some x | none => if k = j then some v else none
        rw [ih]
        by_cases z : x.1 = j <;> simp [z]
    rw [app]
    by_cases z : j = k
    · rw [z, e]
    · rw [if_neg z]
      cases getN h j with
      | none => simp; omega
      | some x => rfl
  | some y =>
    simp only [Option.isSome_some, if_true]
    have : ∀ l : List (Nat × α), (getN l k).isSome → getN (setN l k v) j = if j = k then some v else getN l j := fun l => by
      induction l with
      | nil => intro h; cases h
      | cons x l ih =>
        intro hs
        have e1 : getN (x :: l) k = (if x.1 = k then some x.2 else getN l k) := rfl
        have e2 : getN (x :: l) j = (if x.1 = j then some x.2 else getN l j) := rfl
        have e3 : getN (setN (x :: l) k v) j = (if (if x.1 = k then (x.1, v) else x).1 = j then some (if x.1 = k then (x.1, v) else x).2 else getN (setN l k v) j) := rfl
        rw [e1] at hs
        rw [e2, e3]
        by_cases z : x.1 = k
        · rw [if_pos z]
          by_cases y : j = k
          · rw [if_pos y, if_pos (by rw [z, y])]
          · have n1 : x.1 ≠ j := fun q => y (by rw [← q, z])
            rw [if_neg y, if_neg n1, if_neg n1]
            have keep : ∀ l : List (Nat × α), getN (setN l k v) j = getN l j := fun l => by
              induction l with
              | nil => rfl
              | cons x l ih =>
                show (if (if x.1 = k then (x.1, v) else x).1 = j then some (if x.1 = k then (x.1, v) else x).2 else getN (setN l k v) j) = (if x.1 = j then some x.2 else getN l j)
                rw [ih]
                by_cases w : x.1 = k
                · rw [if_pos w]
                  have : x.1 ≠ j := fun q => y (by rw [← q, w])
                  rw [if_neg this, if_neg this]
                · rw [if_neg w]
            exact keep l
        · rw [if_neg z] at hs ⊢
          rw [ih hs]
          by_cases y : j = k
          · rw [if_pos y, if_pos y, if_neg (by rw [y]; exact z)]
          · rw [if_neg y, if_neg y]
    exact this h (by rw [e]; rfl)
theorem putN_keys {α : Type} (h : List (Nat × α)) (k : Nat) (v : α) : (putN h k v).map (·.1) = if (getN h k).isSome then h.map (·.1) else h.map (·.1) ++ [k] := by
  unfold putN
  split
  · exact setN_keys h k v
  · rw [List.map_append]; rfl
theorem HolOk.put {c : Nat} {h : Hold} (o : HolOk c h) {t p : Nat} (ht : t < c) (hp : p < c) : HolOk c (putN h t p) := by
  refine ⟨?_, fun x m => ?_⟩
  · rw [putN_keys]
    split
    · exact o.nd
    · rename_i z
      refine List.nodup_append.mpr ⟨o.nd, by simp, fun a q b r => ?_⟩
      rw [List.mem_singleton.mp r]
      intro y
      have : getN h t = none := by
        cases e : getN h t with
        | none => rfl
        | some w => rw [e] at z; exact (z rfl).elim
      exact getN_none.mp this (y ▸ q)
  · unfold putN at m
    split at m
    · obtain ⟨y, hy, rfl⟩ := List.mem_map.mp m
      have w := o.lt y hy
      split
      · exact ⟨w.1, hp⟩
      · exact w
    · rcases List.mem_append.mp m with m | m
      · exact o.lt x m
      · rw [List.mem_singleton.mp m]; exact ⟨ht, hp⟩
theorem SeenOk.snoc {c : Nat} {s : List Nat} (o : SeenOk c s) {t : Nat} (ht : t < c) (no : t ∉ s) : SeenOk c (s ++ [t]) := ⟨List.nodup_append.mpr ⟨o.nd, by simp, fun a m b q => by rw [List.mem_singleton.mp q]; exact fun z => no (z ▸ m)⟩, fun x m => by
  rcases List.mem_append.mp m with m | m
  · exact o.lt x m
  · rw [List.mem_singleton.mp m]; exact ht⟩
theorem nodup_lt_len : ∀ {c : Nat} {s : List Nat}, s.Nodup → (∀ t ∈ s, t < c) → s.length ≤ c
  | 0, [], _, _ => Nat.le_refl _
  | 0, x :: s, _, h => absurd (h x List.mem_cons_self) (by omega)
  | c + 1, s, nd, h => by
    have h1 := nodup_lt_len (c := c) (s := s.filter (· != c)) (nd.filter _) fun t m => by
      have m := List.mem_filter.mp m
      have := h t m.1
      have : t ≠ c := by simpa using m.2
      omega
    have h2 : s.length ≤ (s.filter (· != c)).length + 1 := by
      clear h1 h
      induction s with
      | nil => simp
      | cons x s ih =>
        have n := List.nodup_cons.mp nd
        have := ih n.2
        by_cases z : x = c
        · have : (x :: s).filter (· != c) = s := by
            rw [List.filter_cons]
            have : ¬ ((x != c) = true) := by simp [z]
            rw [if_neg this]
            exact List.filter_eq_self.mpr fun y hy => by simp; exact fun q => n.1 (by rw [z, ← q]; exact hy)
          rw [this]; simp
        · have : (x :: s).filter (· != c) = x :: s.filter (· != c) := by
            rw [List.filter_cons, if_pos (by simp [z])]
          rw [this]; simp; omega
    omega
theorem SeenOk.len {c : Nat} {s : List Nat} (o : SeenOk c s) : s.length ≤ c := nodup_lt_len o.nd o.lt
/-- a search keeps what is well formed -/
theorem leadL_ok {S : Nat → Nat → Bool} {c p : Nat} {rec : Nat → Hold → List Nat → Bool × Hold × List Nat} (hp : p < c) (hr : ∀ q h s, q < c → HolOk c h → SeenOk c s → HolOk c (rec q h s).2.1 ∧ SeenOk c (rec q h s).2.2) : ∀ (ts : List Nat) (h : Hold) (s : List Nat), (∀ t ∈ ts, t < c) → HolOk c h → SeenOk c s → HolOk c (leadL S rec p ts h s).2.1 ∧ SeenOk c (leadL S rec p ts h s).2.2
  | [], h, s, _, a, b => ⟨a, b⟩
  | t :: ts, h, s, hl, a, b => by
    have ht := hl t List.mem_cons_self
    have hl' := fun x m => hl x (List.mem_cons_of_mem _ m)
    unfold leadL
    split
    · rename_i z
      have b' := b.snoc ht z.2
      cases e : getN h t with
      | none => exact ⟨a.put ht hp, b'⟩
      | some q =>
        have hq := (a.lt _ (getN_mem e)).2
        obtain ⟨k1, k2⟩ := hr q h (s ++ [t]) hq a b'
        simp only
        generalize rec q h (s ++ [t]) = r at k1 k2
        match r, k1, k2 with
        | (true, h2, s2), k1, k2 => exact ⟨k1.put ht hp, k2⟩
        | (false, h2, s2), k1, k2 => exact leadL_ok hp hr ts h2 s2 hl' k1 k2
    · exact leadL_ok hp hr ts h s hl' a b
theorem leadF_ok {S : Nat → Nat → Bool} {c : Nat} : ∀ (n p : Nat) (h : Hold) (s : List Nat), p < c → HolOk c h → SeenOk c s → HolOk c (leadF S c n p h s).2.1 ∧ SeenOk c (leadF S c n p h s).2.2
  | 0, _, _, _, _, a, b => ⟨a, b⟩
  | n + 1, p, h, s, hp, a, b => leadL_ok hp (fun q h s hq a b => leadF_ok n q h s hq a b) _ h s (fun t m => List.mem_range.mp m) a b
theorem leadL_ext {S : Nat → Nat → Bool} {p : Nat} {rec : Nat → Hold → List Nat → Bool × Hold × List Nat} (hr : ∀ q h s, ∃ e, (rec q h s).2.2 = s ++ e) : ∀ (ts : List Nat) (h : Hold) (s : List Nat), ∃ e, (leadL S rec p ts h s).2.2 = s ++ e
  | [], h, s => ⟨[], (List.append_nil s).symm⟩
  | t :: ts, h, s => by
    unfold leadL
    split
    · cases e : getN h t with
      | none => exact ⟨[t], rfl⟩
      | some q =>
        obtain ⟨x, hx⟩ := hr q h (s ++ [t])
        simp only
        generalize rec q h (s ++ [t]) = r at hx
        match r, hx with
        | (true, h2, s2), hx => exact ⟨[t] ++ x, by rw [← List.append_assoc]; exact hx⟩
        | (false, h2, s2), hx =>
          obtain ⟨y, hy⟩ := leadL_ext hr ts h2 s2
          have hx' : s2 = s ++ [t] ++ x := hx
          exact ⟨[t] ++ x ++ y, by show (leadL S rec p ts h2 s2).2.2 = _; rw [hy, hx']; simp⟩
    · exact leadL_ext hr ts h s
theorem leadF_ext {S : Nat → Nat → Bool} {c : Nat} : ∀ (n p : Nat) (h : Hold) (s : List Nat), ∃ e, (leadF S c n p h s).2.2 = s ++ e
  | 0, _, _, s => ⟨[], (List.append_nil s).symm⟩
  | n + 1, p, h, s => leadL_ext (fun q h s => leadF_ext n q h s) _ h s
def hAll (S : Nat → Nat → Bool) (c : Nat) : Nat → Hold
  | 0 => []
  | i + 1 => (leadF S c (c + 1) i (hAll S c i) []).2.1
theorem hAll_ok (S : Nat → Nat → Bool) (c : Nat) : ∀ i, i ≤ c → HolOk c (hAll S c i)
  | 0, _ => ⟨List.nodup_nil, fun x m => nomatch m⟩
  | i + 1, hi => (leadF_ok (c + 1) i (hAll S c i) [] (by omega) (hAll_ok S c i (by omega)) ⟨List.nodup_nil, fun x m => nomatch m⟩).1
/-- the deal that the holders tell -/
def dealH (c : Nat) (h : Hold) : List Nat := h.foldl (fun f x => f.set x.2 x.1) (List.replicate c 0)
def dealL (S : Nat → Nat → Bool) (c : Nat) : List Nat := dealH c (hAll S c c)
theorem dealH_len (c : Nat) (h : Hold) : (dealH c h).length = c := by
  have : ∀ (l : Hold) (f : List Nat), (l.foldl (fun f x => f.set x.2 x.1) f).length = f.length := fun l => by
    induction l with
    | nil => intro f; rfl
    | cons x l ih => intro f; rw [List.foldl_cons, ih, List.length_set]
  unfold dealH
  rw [this, List.length_replicate]
end WL

namespace WL
open PySem L2
/-! ### the search finds a deal (Hall) -/
def cnt (h : Hold) (r : Nat) : Nat := (h.filter fun x => x.2 == r).length
theorem cnt_snoc (h : Hold) (t p r : Nat) : cnt (h ++ [(t, p)]) r = cnt h r + if r = p then 1 else 0 := by
  unfold cnt
  rw [List.filter_append, List.length_append]
  congr 1
  by_cases z : r = p
  · rw [if_pos z, z]; simp
  · rw [if_neg z]
    have : (p == r) = false := by simp; exact fun q => z q.symm
    simp [List.filter_cons, this]
theorem setN_same {α : Type} {h : List (Nat × α)} {t : Nat} {p : α} (no : t ∉ h.map (·.1)) : setN h t p = h := by
  unfold setN
  refine (List.map_congr_left fun x m => ?_).trans (List.map_id h)
  have : x.1 ≠ t := fun z => no (by rw [← z]; exact List.mem_map.mpr ⟨x, m, rfl⟩)
  rw [if_neg this]
  rfl
theorem cnt_set {t p q : Nat} (r : Nat) : ∀ {h : Hold}, (h.map (·.1)).Nodup → getN h t = some q → cnt (setN h t p) r + (if r = q then 1 else 0) = cnt h r + if r = p then 1 else 0
  | [], _, e => nomatch e
  | x :: h, nd, e => by
    have n := List.nodup_cons.mp nd
    have e' : (if x.1 = t then some x.2 else getN h t) = some q := e
    have e1 : setN (x :: h) t p = (if x.1 = t then (x.1, p) else x) :: setN h t p := rfl
    have c1 : ∀ (y : Nat × Nat) (l : Hold), cnt (y :: l) r = (if r = y.2 then 1 else 0) + cnt l r := fun y l => by
      unfold cnt
      rw [List.filter_cons]
      by_cases z : r = y.2
      · rw [if_pos z, if_pos (by simp [z])]; simp; omega
      · rw [if_neg z, if_neg (by simp; exact fun w => z w.symm)]; omega
    rw [e1]
    by_cases z : x.1 = t
    · rw [if_pos z] at e' ⊢
      cases e'
      rw [c1, c1, setN_same (fun m => n.1 (by show x.1 ∈ _; rw [z]; exact m))]
      show (if r = p then 1 else 0) + _ + _ = _
      omega
    · rw [if_neg z] at e' ⊢
      have := cnt_set r n.2 e' (p := p)
      rw [c1, c1]
      omega
theorem cnt_pos {h : Hold} {t q : Nat} (m : (t, q) ∈ h) : 0 < cnt h q := List.length_pos_of_mem (List.mem_filter.mpr ⟨m, by simp⟩)
theorem cnt_two {h : Hold} {t t' q : Nat} (m : (t, q) ∈ h) (m' : (t', q) ∈ h) (ne : t ≠ t') : 2 ≤ cnt h q := by
  have h1 : ([(t, q), (t', q)] : Hold).Nodup := by simp [ne]
  have := h1.length_le_of_subset (l₂ := h.filter fun x => x.2 == q) fun x z => by
    simp at z
    rcases z with rfl | rfl
    · exact List.mem_filter.mpr ⟨m, by simp⟩
    · exact List.mem_filter.mpr ⟨m', by simp⟩
  exact this
structure LSpec (S : Nat → Nat → Bool) (c p : Nat) (h : Hold) (s ts : List Nat) (r : Bool × Hold × List Nat) : Prop where
  ok : r.1 = true → (∀ t ∈ s, getN r.2.1 t = getN h t) ∧ (∀ q, cnt r.2.1 q = cnt h q + if q = p then 1 else 0) ∧ ((∀ x ∈ h, S x.2 x.1 = true) → ∀ x ∈ r.2.1, S x.2 x.1 = true)
  no : r.1 = false → r.2.1 = h ∧ ∃ e, r.2.2 = s ++ e ∧ (∀ t ∈ e, ∃ q, getN h t = some q ∧ ∀ t2, t2 < c → S q t2 = true → t2 ∈ r.2.2) ∧ ∀ t2 ∈ ts, S p t2 = true → t2 ∈ r.2.2
theorem putN_mem {h : Hold} {t p : Nat} {x : Nat × Nat} (m : x ∈ putN h t p) : x ∈ h ∨ x = (t, p) := by
  unfold putN at m
  split at m
  · obtain ⟨y, hy, rfl⟩ := List.mem_map.mp m
    split
    · rename_i z; exact .inr (by rw [z])
    · exact .inl hy
  · rcases List.mem_append.mp m with m | m
    · exact .inl m
    · exact .inr (List.mem_singleton.mp m)
theorem leadL_spec {S : Nat → Nat → Bool} {c p n : Nat} {rec : Nat → Hold → List Nat → Bool × Hold × List Nat} (hp : p < c) (hr : ∀ q h s, q < c → HolOk c h → SeenOk c s → c < s.length + n → LSpec S c q h s (List.range c) (rec q h s))
    (hk : ∀ q h s, q < c → HolOk c h → SeenOk c s → HolOk c (rec q h s).2.1 ∧ SeenOk c (rec q h s).2.2) (hx : ∀ q h s, ∃ e, (rec q h s).2.2 = s ++ e) :
    ∀ (ts : List Nat) (h : Hold) (s : List Nat), (∀ t ∈ ts, t < c) → HolOk c h → SeenOk c s → c < s.length + (n + 1) → LSpec S c p h s ts (leadL S rec p ts h s)
  | [], h, s, _, _, _, _ => ⟨fun z => (nomatch z), fun _ => ⟨rfl, [], (List.append_nil s).symm, fun t m => (nomatch m), fun t m => (nomatch m)⟩⟩
  | t :: ts, h, s, hl, a, b, f => by
    have ht := hl t List.mem_cons_self
    have hl' := fun x m => hl x (List.mem_cons_of_mem _ m)
    unfold leadL
    split
    · rename_i z
      have b' := b.snoc ht z.2
      have nes : ∀ t' ∈ s, t' ≠ t := fun t' m y => z.2 (y ▸ m)
      cases e : getN h t with
      | none =>
        refine ⟨fun _ => ⟨fun t' m => ?_, fun q => ?_, fun k x m => ?_⟩, fun z => (nomatch z)⟩
        · show getN (putN h t p) t' = _
          rw [putN_get, if_neg (nes t' m)]
        · show cnt (putN h t p) q = _
          unfold putN
          rw [e]
          exact cnt_snoc h t p q
        · rcases putN_mem m with m | rfl
          · exact k x m
          · exact z.1
      | some q =>
        have hq := (a.lt _ (getN_mem e)).2
        have sp := hr q h (s ++ [t]) hq a b' (by simp; omega)
        obtain ⟨k1, k2⟩ := hk q h (s ++ [t]) hq a b'
        obtain ⟨x, hx'⟩ := hx q h (s ++ [t])
        simp only
        generalize rec q h (s ++ [t]) = r at sp k1 k2 hx'
        match r, sp, k1, k2, hx' with
        | (true, h2, s2), sp, k1, k2, hx' =>
          obtain ⟨o1, o2, o3⟩ := sp.ok rfl
          have o1 : ∀ t' ∈ s ++ [t], getN h2 t' = getN h t' := o1
          have o2 : ∀ r, cnt h2 r = cnt h r + if r = q then 1 else 0 := o2
          have e2 : getN h2 t = some q := (o1 t (by simp)).trans e
          refine ⟨fun _ => ⟨fun t' m => ?_, fun r => ?_, fun k x m => ?_⟩, fun z => (nomatch z)⟩
          · show getN (putN h2 t p) t' = _
            rw [putN_get, if_neg (nes t' m)]
            exact o1 t' (List.mem_append_left _ m)
          · show cnt (putN h2 t p) r = _
            have e3 : putN h2 t p = setN h2 t p := by unfold putN; rw [e2]; rfl
            rw [e3]
            have c1 := cnt_set (p := p) r k1.nd e2
            have c2 := o2 r
            by_cases z1 : r = q <;> by_cases z2 : r = p <;> simp [z1, z2] at c1 c2 ⊢ <;> omega
          · rcases putN_mem (show x ∈ putN h2 t p from m) with m | rfl
            · exact o3 k x m
            · exact z.1
        | (false, h2, s2), sp, k1, k2, hx' =>
          obtain ⟨n1, ex, n2, n3, n4⟩ := sp.no rfl
          have n1 : h2 = h := n1
          have n2 : s2 = s ++ [t] ++ ex := n2
          subst n1
          have ih := leadL_spec hp hr hk hx ts h2 s2 hl' a k2 (by rw [n2]; simp; omega)
          refine ⟨fun y => ?_, fun y => ?_⟩
          · obtain ⟨o1, o2, o3⟩ := ih.ok y
            exact ⟨fun t' m => o1 t' (by rw [n2]; simp [m]), o2, o3⟩
          · obtain ⟨m1, ex2, m2, m3, m4⟩ := ih.no y
            have sub : ∀ x ∈ s2, x ∈ (leadL S rec p ts h2 s2).2.2 := fun x m => by rw [m2]; exact List.mem_append_left _ m
            refine ⟨m1, [t] ++ ex ++ ex2, by show (leadL S rec p ts h2 s2).2.2 = _; rw [m2, n2]; simp, fun t' m => ?_, fun t2 m st => ?_⟩
            · rcases List.mem_append.mp m with m | m
              · rcases List.mem_append.mp m with m | m
                · rw [List.mem_singleton.mp m]
                  exact ⟨q, e, fun t2 h2' st => sub t2 (n4 t2 (List.mem_range.mpr h2') st)⟩
                · obtain ⟨q', a1, a2⟩ := n3 t' m
                  exact ⟨q', a1, fun t2 h2' st => sub t2 (a2 t2 h2' st)⟩
              · exact m3 t' m
            · rcases List.mem_cons.mp m with rfl | m
              · exact sub _ (by rw [n2]; simp)
              · exact m4 t2 m st
    · rename_i z
      have ih := leadL_spec hp hr hk hx ts h s hl' a b f
      refine ⟨ih.ok, fun y => ?_⟩
      obtain ⟨m1, ex2, m2, m3, m4⟩ := ih.no y
      refine ⟨m1, ex2, m2, m3, fun t2 m st => ?_⟩
      rcases List.mem_cons.mp m with rfl | m
      · have : t2 ∈ s := Classical.byContradiction fun no => z ⟨st, no⟩
        rw [m2]
        exact List.mem_append_left _ this
      · exact m4 t2 m st
theorem leadF_spec {S : Nat → Nat → Bool} {c : Nat} : ∀ (n p : Nat) (h : Hold) (s : List Nat), p < c → HolOk c h → SeenOk c s → c < s.length + n → LSpec S c p h s (List.range c) (leadF S c n p h s)
  | 0, p, h, s, _, _, b, f => absurd b.len (by omega)
  | n + 1, p, h, s, hp, a, b, f => leadL_spec hp (fun q h s hq a b f => leadF_spec n q h s hq a b f) (fun q h s hq a b => leadF_ok n q h s hq a b) (fun q h s => leadF_ext n q h s) _ h s (fun t m => List.mem_range.mp m) a b f
/-! sums of whole numbers -/
theorem isum_swap {α β : Type} (f : α → β → Int) (l : List α) : ∀ m : List β, (m.map fun y => (l.map fun x => f x y).sum).sum = (l.map fun x => (m.map fun y => f x y).sum).sum
  | [] => by
    have : (l.map fun _ : α => ([] : List Int).sum) = l.map fun _ => 0 := rfl
    show (0 : Int) = (l.map fun x => ([] : List Int).sum).sum
    rw [this]
    clear this
    induction l with
    | nil => rfl
    | cons x l ih => rw [List.map_cons, List.sum_cons, ← ih]; rfl
  | y :: m => by
    have ih := isum_swap f l m
    rw [List.map_cons, List.sum_cons, ih]
    clear ih
    induction l with
    | nil => rfl
    | cons x l ih =>
      rw [List.map_cons, List.sum_cons, List.map_cons, List.sum_cons, List.map_cons, List.sum_cons, ← ih, List.map_cons, List.sum_cons]
      omega
theorem isum_le {α : Type} {f g : α → Int} : ∀ {l : List α}, (∀ x ∈ l, f x ≤ g x) → (l.map f).sum ≤ (l.map g).sum
  | [], _ => by simp
  | x :: l, h => by
    have := isum_le (l := l) fun y m => h y (List.mem_cons_of_mem _ m)
    have := h x List.mem_cons_self
    rw [List.map_cons, List.sum_cons, List.map_cons, List.sum_cons]
    omega
theorem isum_const {α : Type} (k : Int) : ∀ l : List α, (l.map fun _ => k).sum = l.length * k
  | [] => by simp
  | x :: l => by
    rw [List.map_cons, List.sum_cons, isum_const k l, List.length_cons, Int.natCast_add, Int.add_mul]
    omega
theorem isum_nn {α : Type} {f : α → Int} : ∀ {l : List α}, (∀ x ∈ l, 0 ≤ f x) → 0 ≤ (l.map f).sum
  | [], _ => by simp
  | x :: l, h => by
    have := isum_nn (l := l) fun y m => h y (List.mem_cons_of_mem _ m)
    have := h x List.mem_cons_self
    rw [List.map_cons, List.sum_cons]
    omega
theorem isum_zero {α : Type} {f : α → Int} : ∀ {l : List α}, (∀ x ∈ l, f x = 0) → (l.map f).sum = 0
  | [], _ => by simp
  | x :: l, h => by
    rw [List.map_cons, List.sum_cons, isum_zero (l := l) fun y m => h y (List.mem_cons_of_mem _ m), h x List.mem_cons_self]
    rfl
/-- a part of 0 .. c - 1 and the rest -/
theorem range_split {c : Nat} {s : List Nat} (nd : s.Nodup) (lt : ∀ t ∈ s, t < c) : (s ++ (List.range c).filter fun t => !decide (t ∈ s)).Perm (List.range c) := by
  refine (List.perm_ext_iff_of_nodup (List.nodup_append.mpr ⟨nd, List.nodup_range.filter _, fun a m b q z => ?_⟩) List.nodup_range).mpr fun x => ?_
  · have := (List.mem_filter.mp q).2
    rw [← z] at this
    simp [m] at this
  · rw [List.mem_append, List.mem_filter, List.mem_range]
    constructor
    · rintro (m | m)
      · exact lt x m
      · exact m.1
    · intro h
      by_cases m : x ∈ s
      · exact .inl m
      · exact .inr ⟨h, by simp [m]⟩
theorem upto_split {c : Nat} {s : List Nat} (nd : s.Nodup) (lt : ∀ t ∈ s, t < c) (f : Nat → Int) : upto f c = (s.map f).sum + (((List.range c).filter fun t => !decide (t ∈ s)).map f).sum := by
  rw [← sum_perm (range_split nd lt), List.map_append, List.sum_append]
theorem upto_on {c : Nat} {s : List Nat} (nd : s.Nodup) (lt : ∀ t ∈ s, t < c) {f : Nat → Int} (z : ∀ t, t < c → t ∉ s → f t = 0) : upto f c = (s.map f).sum := by
  have e := isum_zero (l := (List.range c).filter fun t => !decide (t ∈ s)) (f := f) fun x m => by
    obtain ⟨m1, m2⟩ := List.mem_filter.mp m
    exact z x (List.mem_range.mp m1) (by simpa using m2)
  rw [upto_split nd lt f, e, Int.add_zero]
theorem upto_part {c : Nat} {s : List Nat} (nd : s.Nodup) (lt : ∀ t ∈ s, t < c) {f : Nat → Int} (nn : ∀ t, t < c → 0 ≤ f t) : (s.map f).sum ≤ upto f c := by
  rw [upto_split nd lt f]
  have := isum_nn (l := (List.range c).filter fun t => !decide (t ∈ s)) (f := f) fun x m => nn x (List.mem_range.mp (List.mem_filter.mp m).1)
  omega
/-- rows and columns that come to the same -/
structure Bal (c : Nat) (R : List (List Int)) (L : Int) : Prop where
  sq : Sq_ c R
  nn : ∀ p t, p < c → t < c → 0 ≤ gM R p t
  row : ∀ p, p < c → upto (fun t => gM R p t) c = L
  col : ∀ t, t < c → upto (fun p => gM R p t) c = L
def supF (R : List (List Int)) (p t : Nat) : Bool := decide (gM R p t ≠ 0)
/-- people who can be held to things that are too few -/
theorem hall {c : Nat} {R : List (List Int)} {L : Int} (b : Bal c R L) (hL : 0 < L) {A e : List Nat} (nA : A.Nodup) (lA : ∀ q ∈ A, q < c) (ne : e.Nodup) (le : ∀ t ∈ e, t < c) (cl : ∀ q ∈ A, ∀ t, t < c → supF R q t = true → t ∈ e) : A.length ≤ e.length := by
  have h1 : (A.map fun q => (e.map fun t => gM R q t).sum).sum = A.length * L := by
    rw [← isum_const]
    congr 1
    refine List.map_congr_left fun q m => ?_
    rw [← b.row q (lA q m)]
    refine (upto_on ne le fun t ht no => ?_).symm
    exact Classical.byContradiction fun z => no (cl q m t ht (by unfold supF; exact decide_eq_true z))
  have h2 : (e.map fun t => (A.map fun q => gM R q t).sum).sum ≤ e.length * L := by
    rw [← isum_const]
    refine isum_le fun t m => ?_
    rw [← b.col t (le t m)]
    exact upto_part nA lA fun q hq => b.nn q t hq (le t m)
  rw [isum_swap, h1] at h2
  have : (A.length : Int) ≤ e.length := Int.le_of_mul_le_mul_right h2 hL
  omega
theorem hAll_spec {c : Nat} {R : List (List Int)} {L : Int} (b : Bal c R L) (hL : 0 < L) : ∀ i, i ≤ c → (∀ r, cnt (hAll (supF R) c i) r = if r < i then 1 else 0) ∧ ∀ x ∈ hAll (supF R) c i, supF R x.2 x.1 = true
  | 0, _ => ⟨fun r => by simp [hAll, cnt], fun x m => nomatch m⟩
  | i + 1, hi => by
    obtain ⟨ih1, ih2⟩ := hAll_spec b hL i (by omega)
    have ho := hAll_ok (supF R) c i (by omega)
    have hs : SeenOk c [] := ⟨List.nodup_nil, fun x m => nomatch m⟩
    have sp := leadF_spec (S := supF R) (c + 1) i (hAll (supF R) c i) [] (by omega) ho hs (by simp)
    have so := (leadF_ok (S := supF R) (c + 1) i (hAll (supF R) c i) [] (by omega) ho hs).2
    show (∀ r, cnt (leadF (supF R) c (c + 1) i (hAll (supF R) c i) []).2.1 r = _) ∧ ∀ x ∈ (leadF (supF R) c (c + 1) i (hAll (supF R) c i) []).2.1, _
    generalize leadF (supF R) c (c + 1) i (hAll (supF R) c i) [] = r at sp so
    cases e : r.1 with
    | true =>
      obtain ⟨_, o2, o3⟩ := sp.ok e
      refine ⟨fun q => ?_, o3 ih2⟩
      rw [o2, ih1]
      by_cases z : q = i
      · rw [if_pos z, if_neg (by omega), if_pos (by omega)]
      · rw [if_neg z]
        by_cases y : q < i
        · rw [if_pos y, if_pos (by omega)]
        · rw [if_neg y, if_neg (by omega)]
    | false =>
      obtain ⟨_, ex, n2, n3, n4⟩ := sp.no e
      rw [List.nil_append] at n2
      rw [n2] at so n3 n4
      obtain ⟨g, hg⟩ : ∃ g : Nat → Nat, ∀ t ∈ ex, getN (hAll (supF R) c i) t = some (g t) := ⟨fun t => (getN (hAll (supF R) c i) t).getD 0, fun t m => by
        obtain ⟨q, hq, _⟩ := n3 t m
        show _ = some ((getN (hAll (supF R) c i) t).getD 0)
        rw [hq]
        rfl⟩
      have mem : ∀ t ∈ ex, (t, g t) ∈ hAll (supF R) c i := fun t m => getN_mem (hg t m)
      have ni : ∀ t ∈ ex, g t ≠ i := fun t m z => by
        have := cnt_pos (mem t m)
        rw [z, ih1, if_neg (by omega)] at this
        omega
      have inj : ∀ t ∈ ex, ∀ t' ∈ ex, g t = g t' → t = t' := fun t m t' m' z => Classical.byContradiction fun ne => by
        have m2 := mem t' m'
        rw [← z] at m2
        have := cnt_two (mem t m) m2 ne
        rw [ih1] at this
        split at this <;> omega
      have nd : (i :: ex.map g).Nodup := by
        refine List.nodup_cons.mpr ⟨fun m => ?_, ?_⟩
        · obtain ⟨t, ht, z⟩ := List.mem_map.mp m
          exact ni t ht z
        · have : ∀ l : List Nat, l.Nodup → (∀ t ∈ l, t ∈ ex) → (l.map g).Nodup := fun l => by
            induction l with
            | nil => intro _ _; exact List.nodup_nil
            | cons x l ihl =>
              intro nd sub
              have n := List.nodup_cons.mp nd
              rw [List.map_cons]
              refine List.nodup_cons.mpr ⟨fun m => ?_, ihl n.2 fun t m => sub t (List.mem_cons_of_mem _ m)⟩
              obtain ⟨t, ht, z⟩ := List.mem_map.mp m
              exact n.1 (by rw [← inj t (sub t (List.mem_cons_of_mem _ ht)) x (sub x List.mem_cons_self) z]; exact ht)
          exact this ex so.nd fun t m => m
      have := hall b hL nd (fun q m => by
        rcases List.mem_cons.mp m with rfl | m
        · omega
        · obtain ⟨t, ht, rfl⟩ := List.mem_map.mp m
          exact (ho.lt _ (mem t ht)).2) so.nd so.lt fun q m t ht st => by
        rcases List.mem_cons.mp m with rfl | m
        · exact n4 t (List.mem_range.mpr ht) st
        · obtain ⟨t', ht', rfl⟩ := List.mem_map.mp m
          obtain ⟨q', hq', k⟩ := n3 t' ht'
          rw [hg t' ht'] at hq'
          cases hq'
          exact k t ht st
      simp at this
      omega
theorem nodup_perm {c : Nat} {o : List Nat} (h1 : o.length = c) (h2 : o.Nodup) (h3 : ∀ x ∈ o, x < c) : o.Perm (List.range c) := by
  refine (List.perm_ext_iff_of_nodup h2 List.nodup_range).mpr fun x => ⟨fun m => List.mem_range.mpr (h3 x m), fun m => Classical.byContradiction fun no => ?_⟩
  have l := (List.nodup_append.mpr ⟨h2, by simp, fun y q z r => by rw [List.mem_singleton.mp r]; exact fun w => no (w ▸ q)⟩ : (o ++ [x]).Nodup).length_le_of_subset (l₂ := List.range c) fun y q => by
    rcases List.mem_append.mp q with q | q
    · exact List.mem_range.mpr (h3 y q)
    · rw [List.mem_singleton.mp q]; exact m
  rw [List.length_append, List.length_singleton, List.length_range] at l
  omega
theorem fold_set : ∀ (h : Hold) (f : List Nat) (t r : Nat), (∀ q, cnt h q ≤ 1) → (t, r) ∈ h → r < f.length → (h.foldl (fun f x => f.set x.2 x.1) f)[r]? = some t
  | [], _, _, _, _, m, _ => nomatch m
  | x :: h, f, t, r, hc, m, hr => by
    have c1 : ∀ q, cnt (x :: h) q = (if q = x.2 then 1 else 0) + cnt h q := fun q => by
      unfold cnt
      rw [List.filter_cons]
      by_cases z : q = x.2
      · rw [if_pos z, if_pos (by simp [z])]; simp; omega
      · rw [if_neg z, if_neg (by simp; exact fun w => z w.symm)]; omega
    rw [List.foldl_cons]
    rcases List.mem_cons.mp m with rfl | m
    · have no : ∀ y ∈ h, y.2 ≠ r := fun y hy z => by
        have := cnt_pos (t := y.1) (q := r) (by rw [← z]; exact hy)
        have h2 := hc r
        rw [c1, if_pos rfl] at h2
        omega
      have stay : ∀ (l : Hold) (f : List Nat), (∀ y ∈ l, y.2 ≠ r) → (l.foldl (fun f x => f.set x.2 x.1) f)[r]? = f[r]? := fun l => by
        induction l with
        | nil => intro f _; rfl
        | cons y l ih =>
          intro f hn
          rw [List.foldl_cons, ih _ fun z hz => hn z (List.mem_cons_of_mem _ hz), List.getElem?_set_ne (hn y List.mem_cons_self)]
      rw [stay h _ no]
      exact List.getElem?_set_self hr
    · exact fold_set h _ t r (fun q => by have := hc q; rw [c1] at this; omega) m (by rw [List.length_set]; exact hr)
/-- the deal within a table -/
theorem deal_ok {c : Nat} {R : List (List Int)} {L : Int} (b : Bal c R L) (hL : 0 < L) : (dealL (supF R) c).Perm (List.range c) ∧ ∀ p, p < c → gM R p ((dealL (supF R) c).getD p 0) ≠ 0 := by
  obtain ⟨s1, s2⟩ := hAll_spec b hL c (Nat.le_refl _)
  have ho := hAll_ok (supF R) c c (Nat.le_refl _)
  have at_ : ∀ p, p < c → ∃ t, (t, p) ∈ hAll (supF R) c c ∧ (dealL (supF R) c)[p]? = some t := fun p hp => by
    have := s1 p
    rw [if_pos hp] at this
    obtain ⟨x, hx⟩ := List.exists_mem_of_length_pos (l := (hAll (supF R) c c).filter fun x => x.2 == p) (by unfold cnt at this; omega)
    obtain ⟨m1, m2⟩ := List.mem_filter.mp hx
    have e : x.2 = p := by simpa using m2
    have m3 : (x.1, p) ∈ hAll (supF R) c c := by rw [← e]; exact m1
    exact ⟨x.1, m3, fold_set _ _ _ _ (fun q => by rw [s1]; split <;> omega) m3 (by rw [List.length_replicate]; exact hp)⟩
  have len : (dealL (supF R) c).length = c := dealH_len _ _
  constructor
  · refine nodup_perm len ?_ fun x m => ?_
    · refine List.pairwise_iff_getElem.mpr fun i j hi hj hij z => ?_
      obtain ⟨t, m, e⟩ := at_ i (by omega)
      obtain ⟨t', m', e'⟩ := at_ j (by omega)
      rw [List.getElem?_eq_getElem hi] at e
      rw [List.getElem?_eq_getElem hj] at e'
      have e1 := Option.some.inj e
      have e2 := Option.some.inj e'
      have : t = t' := by rw [← e1, ← e2]; exact z
      subst this
      have g1 := getN_of ho.nd m
      have g2 := getN_of ho.nd m'
      rw [g1] at g2
      cases g2
      omega
    · obtain ⟨i, hi⟩ := List.getElem?_of_mem m
      have hic : i < c := by rw [← len]; exact (List.getElem?_eq_some_iff.mp hi).1
      obtain ⟨t, m', e⟩ := at_ i hic
      rw [hi] at e
      cases e
      exact (ho.lt _ m').1
  · intro p hp
    obtain ⟨t, m, e⟩ := at_ p hp
    have := s2 _ m
    rw [List.getD_eq_getElem?_getD, e]
    exact of_decide_eq_true this
end WL

namespace WL
open PySem L2
/-! ### lots of a table -/
def dAt (d : List Nat) (p : Nat) : Nat := d.getD p 0
def wtF (R : List (List Int)) (d : List Nat) : Nat → Int
  | 0 => gM R 0 (dAt d 0)
  | i + 1 => if gM R i (dAt d i) < wtF R d i then gM R i (dAt d i) else wtF R d i
def subM (R : List (List Int)) (d : List Nat) (w : Int) : Nat → List (List Int)
  | 0 => R
  | i + 1 => upM (subM R d w i) i (dAt d i) (gM (subM R d w i) i (dAt d i) - w)
def lotsL (c : Nat) : Nat → List (List Int) → Int → List (Int × List Nat)
  | 0, _, _ => []
  | n + 1, R, L => if L = 0 then [] else
      (wtF R (dealL (supF R) c) c, dealL (supF R) c) :: lotsL c n (subM R (dealL (supF R) c) (wtF R (dealL (supF R) c) c) c) (L - wtF R (dealL (supF R) c) c)
theorem gM_up {c : Nat} {R : List (List Int)} (h : Sq_ c R) {a b : Nat} (ha : a < c) (hb : b < c) (v : Int) {p t : Nat} (hp : p < c) (ht : t < c) : gM (upM R a b v) p t = if p = a ∧ t = b then v else gM R p t := by
  have l := (h.at ha).2
  unfold gM upM
  by_cases z : p = a
  · subst z
    have e1 : (R.set p ((R.getD p []).set b v)).getD p [] = (R.getD p []).set b v := by
      rw [List.getD_eq_getElem?_getD, List.getElem?_set_self (by rw [h.len]; exact hp)]
      rfl
    rw [e1]
    generalize R.getD p [] = r at l ⊢
    by_cases y : t = b
    · subst y
      rw [if_pos ⟨rfl, rfl⟩, List.getD_eq_getElem?_getD, List.getElem?_set_self (by omega)]
      rfl
    · rw [if_neg fun q => y q.2, List.getD_eq_getElem?_getD, List.getElem?_set_ne (fun q => y q.symm), List.getD_eq_getElem?_getD]
  · rw [if_neg fun q => z q.1]
    have e1 : (R.set a ((R.getD a []).set b v)).getD p [] = R.getD p [] := by
      rw [List.getD_eq_getElem?_getD, List.getElem?_set_ne (fun q => z q.symm), List.getD_eq_getElem?_getD]
    rw [e1]
theorem perm_at {c : Nat} {d : List Nat} (h : d.Perm (List.range c)) {p : Nat} (hp : p < c) : dAt d p < c ∧ d[p]? = some (dAt d p) := by
  have l : p < d.length := by rw [h.length_eq, List.length_range]; exact hp
  have e : d[p]? = some (dAt d p) := by unfold dAt; rw [List.getD_eq_getElem?_getD, List.getElem?_eq_getElem l]; rfl
  exact ⟨List.mem_range.mp (h.mem_iff.mp (List.mem_of_getElem? e)), e⟩
theorem perm_map {c : Nat} {d : List Nat} (h : d.Perm (List.range c)) : (List.range c).map (dAt d) = d := by
  refine List.ext_getElem? fun i => ?_
  by_cases z : i < c
  · rw [range_map_get _ z, (perm_at h z).2]
  · rw [List.getElem?_eq_none (by simp; omega), List.getElem?_eq_none (by rw [h.length_eq, List.length_range]; omega)]
theorem upto_list (f : Nat → Int) (n : Nat) : upto f n = ((List.range n).map f).sum := (sum_perm (List.Perm.refl _)).symm
theorem upto_perm {c : Nat} {d : List Nat} (h : d.Perm (List.range c)) (g : Nat → Int) : upto (fun p => g (dAt d p)) c = upto g c := by
  have e := congrArg (List.map g) (perm_map h)
  rw [List.map_map] at e
  rw [upto_list]
  exact (congrArg List.sum e).trans (sum_perm h)
section
variable {c : Nat} {R : List (List Int)} {d : List Nat} {w : Int}
theorem sub_sq (h : Sq_ c R) : ∀ i, i ≤ c → Sq_ c (subM R d w i)
  | 0, _ => h
  | i + 1, hi => (sub_sq h i (by omega)).up (by omega) _ _
theorem sub_get (h : Sq_ c R) (hd : d.Perm (List.range c)) : ∀ i, i ≤ c → ∀ p t, p < c → t < c → gM (subM R d w i) p t = gM R p t - if p < i ∧ dAt d p = t then w else 0
  | 0, _, p, t, _, _ => by rw [if_neg (by omega)]; show gM R p t = _; omega
  | i + 1, hi, p, t, hp, ht => by
    have ih := sub_get h hd i (by omega)
    have di := (perm_at hd (show i < c by omega)).1
    show gM (upM (subM R d w i) i (dAt d i) _) p t = _
    rw [gM_up (sub_sq h i (by omega)) (by omega) di _ hp ht]
    by_cases z : p = i ∧ t = dAt d i
    · rw [if_pos z, z.1, z.2, ih i (dAt d i) (by omega) di, if_neg (by omega), if_pos ⟨by omega, rfl⟩]
      omega
    · rw [if_neg z, ih p t hp ht]
      by_cases y : p < i ∧ dAt d p = t
      · rw [if_pos y, if_pos ⟨by omega, y.2⟩]
      · rw [if_neg y, if_neg]
        rintro ⟨a, b⟩
        by_cases x : p = i
        · exact z ⟨x, by rw [← x]; exact b.symm⟩
        · exact y ⟨by omega, b⟩
theorem wt_le : ∀ i p, p < i → wtF R d i ≤ gM R p (dAt d p)
  | i + 1, p, h => by
    show (if gM R i (dAt d i) < wtF R d i then gM R i (dAt d i) else wtF R d i) ≤ _
    by_cases z : p = i
    · rw [z]; split <;> omega
    · have := wt_le i p (by omega)
      split <;> omega
theorem wt_at : ∀ i, 1 ≤ c → i ≤ c → ∃ p, p < c ∧ wtF R d i = gM R p (dAt d p)
  | 0, h, _ => ⟨0, by omega, rfl⟩
  | i + 1, h, hi => by
    obtain ⟨p, hp, e⟩ := wt_at i h (by omega)
    show ∃ p, p < c ∧ (if gM R i (dAt d i) < wtF R d i then gM R i (dAt d i) else wtF R d i) = _
    split
    · exact ⟨i, by omega, rfl⟩
    · exact ⟨p, hp, e⟩
theorem upto_sub (f g : Nat → Int) : ∀ n, upto (fun i => f i - g i) n = upto f n - upto g n
  | 0 => rfl
  | n + 1 => by
    show upto _ n + (f n - g n) = (upto f n + f n) - (upto g n + g n)
    rw [upto_sub f g n]
    omega
theorem Bal.sub {L : Int} (b : Bal c R L) (hd : d.Perm (List.range c)) (hw : ∀ p, p < c → w ≤ gM R p (dAt d p)) : Bal c (subM R d w c) (L - w) := by
  have get := sub_get (w := w) b.sq hd c (Nat.le_refl _)
  refine ⟨sub_sq b.sq c (Nat.le_refl _), fun p t hp ht => ?_, fun p hp => ?_, fun t ht => ?_⟩
  · rw [get p t hp ht]
    have := b.nn p t hp ht
    split
    · rename_i z
      have := hw p hp
      rw [z.2] at this
      omega
    · omega
  · rw [upto_congr (g := fun t => gM R p t - if dAt d p = t then w else 0) fun t ht => by
      rw [get p t hp ht]
      by_cases z : dAt d p = t
      · rw [if_pos z, if_pos ⟨hp, z⟩]
      · rw [if_neg z, if_neg fun q => z q.2], upto_sub, b.row p hp, upto_one w (perm_at hd hp).1]
  · rw [upto_congr (g := fun p => gM R p t - if dAt d p = t then w else 0) fun p hp => by
      rw [get p t hp ht]
      by_cases z : dAt d p = t
      · rw [if_pos z, if_pos ⟨hp, z⟩]
      · rw [if_neg z, if_neg fun q => z q.2], upto_sub, b.col t ht]
    congr 1
    rw [upto_perm hd (fun x => if x = t then w else 0)]
    rw [upto_congr (g := fun x => if t = x then w else 0) fun x _ => by
      by_cases z : x = t
      · simp [z]
      · rw [if_neg z, if_neg fun q => z q.symm]]
    exact upto_one w ht
/-- shares above nothing -/
def rowP (c : Nat) (R : List (List Int)) (p : Nat) : Nat := ((List.range c).filter fun t => decide (gM R p t ≠ 0)).length
def cntP (c : Nat) (R : List (List Int)) : Nat := ((List.range c).map (rowP c R)).sum
theorem nsum_le {f g : Nat → Nat} : ∀ {l : List Nat}, (∀ x ∈ l, f x ≤ g x) → (l.map f).sum ≤ (l.map g).sum
  | [], _ => Nat.le_refl _
  | x :: l, h => by
    have := nsum_le (l := l) fun y m => h y (List.mem_cons_of_mem _ m)
    have := h x List.mem_cons_self
    rw [List.map_cons, List.sum_cons, List.map_cons, List.sum_cons]
    omega
theorem nsum_lt {f g : Nat → Nat} {a : Nat} : ∀ {l : List Nat}, (∀ x ∈ l, f x ≤ g x) → a ∈ l → f a < g a → (l.map f).sum < (l.map g).sum
  | [], _, m, _ => nomatch m
  | x :: l, h, m, q => by
    have h' := fun y m => h y (List.mem_cons_of_mem x m)
    have h1 := nsum_le (l := l) h'
    have h2 := h x List.mem_cons_self
    rw [List.map_cons, List.sum_cons, List.map_cons, List.sum_cons]
    rcases List.mem_cons.mp m with rfl | m
    · omega
    · have := nsum_lt h' m q
      omega
theorem filt_le {p q : Nat → Bool} : ∀ {l : List Nat}, (∀ x ∈ l, p x = true → q x = true) → (l.filter p).length ≤ (l.filter q).length
  | [], _ => Nat.le_refl _
  | x :: l, h => by
    have ih := filt_le (l := l) fun y m => h y (List.mem_cons_of_mem _ m)
    have hx := h x List.mem_cons_self
    rw [List.filter_cons, List.filter_cons]
    cases e : p x with
    | true => rw [hx e, if_pos rfl, if_pos rfl, List.length_cons, List.length_cons]; omega
    | false =>
      rw [if_neg Bool.false_ne_true]
      split
      · rw [List.length_cons]; omega
      · exact ih
theorem filt_lt {p q : Nat → Bool} {a : Nat} : ∀ {l : List Nat}, (∀ x ∈ l, p x = true → q x = true) → a ∈ l → p a = false → q a = true → (l.filter p).length < (l.filter q).length
  | [], _, m, _, _ => nomatch m
  | x :: l, h, m, pa, qa => by
    have h' := fun y m => h y (List.mem_cons_of_mem x m)
    have ih := filt_le (l := l) h'
    have hx := h x List.mem_cons_self
    rw [List.filter_cons, List.filter_cons]
    rcases List.mem_cons.mp m with rfl | m
    · rw [pa, qa, if_neg Bool.false_ne_true, if_pos rfl, List.length_cons]
      omega
    · have ih2 := filt_lt h' m pa qa
      cases e : p x with
      | true => rw [hx e, if_pos rfl, if_pos rfl, List.length_cons, List.length_cons]; omega
      | false =>
        rw [if_neg Bool.false_ne_true]
        split
        · rw [List.length_cons]; omega
        · exact ih2
theorem cnt_drop {R' : List (List Int)} (h : ∀ p t, p < c → t < c → gM R' p t ≠ 0 → gM R p t ≠ 0) {a b : Nat} (ha : a < c) (hb : b < c) (z : gM R' a b = 0) (y : gM R a b ≠ 0) : cntP c R' < cntP c R := by
  refine nsum_lt (a := a) (fun p m => filt_le fun t m' q => ?_) (List.mem_range.mpr ha) (filt_lt (a := b) (fun t m' q => ?_) (List.mem_range.mpr hb) (by simp [z]) (by simp [y]))
  · exact decide_eq_true (h p t (List.mem_range.mp m) (List.mem_range.mp m') (of_decide_eq_true q))
  · exact decide_eq_true (h a t ha (List.mem_range.mp m') (of_decide_eq_true q))
theorem cnt_ge (hd : d.Perm (List.range c)) (hs : ∀ p, p < c → gM R p (dAt d p) ≠ 0) : c ≤ cntP c R := by
  have : ((List.range c).map fun _ => 1).sum ≤ ((List.range c).map (rowP c R)).sum := nsum_le fun p m => by
    have hp := List.mem_range.mp m
    exact List.length_pos_of_mem (List.mem_filter.mpr ⟨List.mem_range.mpr (perm_at hd hp).1, decide_eq_true (hs p hp)⟩)
  rw [List.map_const', List.sum_replicate_nat, List.length_range] at this
  unfold cntP
  omega
end
theorem lots_spec {c : Nat} (h1 : 1 ≤ c) : ∀ (n : Nat) (R : List (List Int)) (L : Int), Bal c R L → 0 ≤ L → cntP c R ≤ n →
    (∀ x ∈ lotsL c n R L, 0 < x.1 ∧ x.2.Perm (List.range c) ∧ ∀ p, p < c → gM R p (dAt x.2 p) ≠ 0) ∧ (∀ p t, p < c → t < c → ((lotsL c n R L).map fun x => if dAt x.2 p = t then x.1 else 0).sum = gM R p t) ∧
    ((lotsL c n R L).map (·.2)).Nodup ∧ (0 < L → (lotsL c n R L).length + c ≤ cntP c R + 1) := by
  have zero : ∀ {R : List (List Int)}, Bal c R 0 → ∀ p t, p < c → t < c → gM R p t = 0 := fun b p t hp ht => by
    have := upto_ge (f := fun t => gM _ p t) (n := c) (i := t) (fun i hi => b.nn p i hp hi) ht
    rw [b.row p hp] at this
    have := b.nn p t hp ht
    omega
  intro n
  induction n with
  | zero =>
    intro R L b hL hc
    have : ¬ 0 < L := fun q => by
      obtain ⟨d1, d2⟩ := deal_ok b q
      have := cnt_ge d1 d2
      omega
    have z : L = 0 := by omega
    subst z
    exact ⟨fun x m => (nomatch m), fun p t hp ht => (zero b p t hp ht).symm, List.nodup_nil, fun q => absurd q (by omega)⟩
  | succ n ih =>
    intro R L b hL hc
    by_cases z : L = 0
    · subst z
      have e : lotsL c (n + 1) R 0 = [] := by unfold lotsL; rw [if_pos rfl]
      rw [e]
      exact ⟨fun x m => (nomatch m), fun p t hp ht => (zero b p t hp ht).symm, List.nodup_nil, fun q => absurd q (by omega)⟩
    · have hL0 : 0 < L := by omega
      obtain ⟨d1, d2⟩ := deal_ok b hL0
      obtain ⟨d, ed⟩ : ∃ d, d = dealL (supF R) c := ⟨_, rfl⟩
      have e : lotsL c (n + 1) R L = (wtF R d c, d) :: lotsL c n (subM R d (wtF R d c) c) (L - wtF R d c) := by rw [ed]; rw [lotsL, if_neg z]
      rw [← ed] at d1 d2
      rw [e]
      obtain ⟨w, ew⟩ : ∃ w, w = wtF R d c := ⟨_, rfl⟩
      rw [← ew]
      obtain ⟨p0, hp0, e0⟩ := wt_at (R := R) (d := d) c h1 (Nat.le_refl _)
      rw [← ew] at e0
      have hd0 := (perm_at d1 hp0).1
      have w0 : 0 < w := by
        have := b.nn p0 (dAt d p0) hp0 hd0
        have := d2 p0 hp0
        unfold dAt at *
        omega
      have wle : ∀ p, p < c → w ≤ gM R p (dAt d p) := fun p hp => by rw [ew]; exact wt_le c p hp
      have b2 := b.sub d1 wle
      obtain ⟨R2, eR2⟩ : ∃ R2, R2 = subM R d w c := ⟨_, rfl⟩
      have get := sub_get (w := w) b.sq d1 c (Nat.le_refl _)
      rw [← eR2] at b2 get ⊢
      have sup : ∀ p t, p < c → t < c → gM R2 p t ≠ 0 → gM R p t ≠ 0 := fun p t hp ht q y => by
        rw [get p t hp ht, y] at q
        have := b2.nn p t hp ht
        rw [get p t hp ht, y] at this
        split at q <;> omega
      have z0 : gM R2 p0 (dAt d p0) = 0 := by rw [get p0 _ hp0 hd0, if_pos ⟨hp0, rfl⟩, ← e0]; omega
      have drop := cnt_drop sup hp0 hd0 z0 (d2 p0 hp0)
      have hLw : 0 ≤ L - w := by
        have := upto_ge (f := fun t => gM R p0 t) (n := c) (i := dAt d p0) (fun i hi => b.nn p0 i hp0 hi) hd0
        rw [b.row p0 hp0] at this
        omega
      obtain ⟨i1, i2, i3, i4⟩ := ih R2 (L - w) b2 hLw (by omega)
      refine ⟨fun x m => ?_, fun p t hp ht => ?_, ?_, fun _ => ?_⟩
      · rcases List.mem_cons.mp m with rfl | m
        · exact ⟨w0, d1, d2⟩
        · obtain ⟨a1, a2, a3⟩ := i1 x m
          exact ⟨a1, a2, fun p hp => sup p _ hp (perm_at a2 hp).1 (a3 p hp)⟩
      · rw [List.map_cons, List.sum_cons, i2 p t hp ht, get p t hp ht]
        by_cases y : dAt d p = t
        · rw [if_pos y, if_pos ⟨hp, y⟩]; omega
        · rw [if_neg y, if_neg fun q => y q.2]; omega
      · rw [List.map_cons]
        refine List.nodup_cons.mpr ⟨fun m => ?_, i3⟩
        obtain ⟨x, hx, q⟩ := List.mem_map.mp m
        have q : x.2 = d := q
        have := (i1 x hx).2.2 p0 hp0
        rw [q] at this
        exact this z0
      · rw [List.length_cons]
        by_cases y : 0 < L - w
        · have := i4 y
          omega
        · have e2 : L - w = 0 := by omega
          have : lotsL c n R2 (L - w) = [] := by
            rw [e2]
            cases n with
            | zero => rfl
            | succ n => unfold lotsL; rw [if_pos rfl]
          rw [this]
          have := cnt_ge d1 d2
          simp
          omega
end WL

namespace WL
open PySem L2
/-! ### a table as a matrix; lots put together again -/
def matL (c : Nat) (M : Nat → Nat → Int) : List (List Int) := (List.range c).map fun p => (List.range c).map fun t => M p t
theorem matL_sq (c : Nat) (M : Nat → Nat → Int) : Sq_ c (matL c M) := ⟨by simp [matL], fun r h => by obtain ⟨p, _, rfl⟩ := List.mem_map.mp h; simp⟩
theorem matL_g {c : Nat} {M : Nat → Nat → Int} {p t : Nat} (hp : p < c) (ht : t < c) : gM (matL c M) p t = M p t := by
  have e1 : (matL c M).getD p [] = (List.range c).map fun t => M p t := by
    unfold matL
    rw [List.getD_eq_getElem?_getD, range_map_get _ hp]
    rfl
  unfold gM
  rw [e1, List.getD_eq_getElem?_getD, range_map_get _ ht]
  rfl
theorem Tab.bal {c : Nat} {d : Int} {M : Nat → Nat → Int} (h : Tab c d M) : Bal c (matL c M) d := ⟨matL_sq c M, fun p t hp ht => by rw [matL_g hp ht]; exact h.nn p t hp ht, fun p hp => by rw [upto_congr fun t ht => matL_g hp ht]; exact h.row p hp, fun t ht => by rw [upto_congr fun p hp => matL_g hp ht]; exact h.col t ht⟩
theorem tabT_toX (c : Nat) (d : Int) (M : Nat → Nat → Int) : (tabT c d M).map frT = (toX (fT d) (matL c M)).map .tuple := by
  unfold tabT toX matL rowQ frT
  rw [List.map_map, List.map_map, List.map_map]
  refine range_map_congr fun p _ => ?_
  show PyData.tuple (List.map fr (List.map _ _)) = PyData.tuple (List.map (fT d) (List.map _ _))
  rw [List.map_map, List.map_map]
  rfl
theorem mat_ext {c : Nat} {R S : List (List Int)} (hR : Sq_ c R) (hS : Sq_ c S) (h : ∀ p t, p < c → t < c → gM R p t = gM S p t) : R = S := by
  refine List.ext_getElem? fun p => ?_
  by_cases z : p < c
  · rw [(hR.at z).1, (hS.at z).1]
    congr 1
    refine List.ext_getElem? fun t => ?_
    by_cases y : t < c
    · rw [hR.cell z y, hS.cell z y, h p t z y]
    · rw [List.getElem?_eq_none (by rw [(hR.at z).2]; omega), List.getElem?_eq_none (by rw [(hS.at z).2]; omega)]
  · rw [List.getElem?_eq_none (by rw [hR.len]; omega), List.getElem?_eq_none (by rw [hS.len]; omega)]
def zeroM (c : Nat) : List (List Int) := matL c fun _ _ => 0
def accM (c : Nat) (X : List (Int × List Nat)) : Nat → List (List Int)
  | 0 => zeroM c
  | i + 1 => subM (accM c X i) (X.getD i (0, [])).2 (-(X.getD i (0, [])).1) c
theorem accM_sq {c : Nat} (X : List (Int × List Nat)) : ∀ i, Sq_ c (accM c X i)
  | 0 => matL_sq _ _
  | i + 1 => sub_sq (accM_sq X i) c (Nat.le_refl _)
theorem accM_get {c : Nat} {X : List (Int × List Nat)} (hX : ∀ x ∈ X, x.2.Perm (List.range c)) : ∀ i, i ≤ X.length → ∀ p t, p < c → t < c → gM (accM c X i) p t = ((X.take i).map fun x => if dAt x.2 p = t then x.1 else 0).sum
  | 0, _, p, t, hp, ht => matL_g hp ht
  | i + 1, hi, p, t, hp, ht => by
    have hx : X[i]? = some X[i] := List.getElem?_eq_getElem (by omega)
    have eg : X.getD i (0, []) = X[i] := by rw [List.getD_eq_getElem?_getD, hx]; rfl
    show gM (subM (accM c X i) (X.getD i (0, [])).2 (-(X.getD i (0, [])).1) c) p t = _
    rw [eg, sub_get (accM_sq X i) (hX _ (List.getElem_mem _)) c (Nat.le_refl _) p t hp ht, accM_get hX i (by omega) p t hp ht, List.take_succ, hx, List.map_append, List.sum_append]
    show _ = _ + ((if dAt X[i].2 p = t then X[i].1 else 0) + 0)
    by_cases z : dAt X[i].2 p = t
    · rw [if_pos z, if_pos ⟨hp, z⟩]; omega
    · rw [if_neg z, if_neg fun q => z q.2]; omega
theorem part_sum {l : List Int} (nn : ∀ x ∈ l, 0 ≤ x) (i : Nat) : 0 ≤ (l.take i).sum ∧ (l.take i).sum ≤ l.sum := by
  have e : l.sum = (l.take i).sum + (l.drop i).sum := by rw [← List.sum_append, List.take_append_drop]
  have pos : ∀ l : List Int, (∀ x ∈ l, 0 ≤ x) → 0 ≤ l.sum := fun l => by
    induction l with
    | nil => intro _; exact Int.le_refl 0
    | cons x l ih =>
      intro h
      have := ih fun y m => h y (List.mem_cons_of_mem _ m)
      have := h x List.mem_cons_self
      rw [List.sum_cons]
      omega
  have h1 := pos (l.take i) fun x m => nn x (List.mem_of_mem_take m)
  have h2 := pos (l.drop i) fun x m => nn x (List.mem_of_mem_drop m)
  omega
/-- lots that come to a table -/
structure LotsM (c : Nat) (T : Int) (R : List (List Int)) (X : List (Int × List Nat)) : Prop where
  pos : ∀ x ∈ X, 0 < x.1 ∧ x.2.Perm (List.range c) ∧ ∀ p, p < c → gM R p (dAt x.2 p) ≠ 0
  sum : ∀ p t, p < c → t < c → (X.map fun x => if dAt x.2 p = t then x.1 else 0).sum = gM R p t
  nd : (X.map (·.2)).Nodup
  len : X.length + c ≤ cntP c R + 1
theorem lotsM_of {c : Nat} {T : Int} {R : List (List Int)} (h1 : 1 ≤ c) (b : Bal c R T) (hT : 0 < T) : LotsM c T R (lotsL c (cntP c R) R T) := by
  obtain ⟨a1, a2, a3, a4⟩ := lots_spec h1 (cntP c R) R T b (by omega) (Nat.le_refl _)
  exact ⟨a1, a2, a3, a4 hT⟩
theorem cntP_le {c : Nat} (R : List (List Int)) (h6 : c ≤ 6) : cntP c R ≤ 36 := by
  have : cntP c R ≤ ((List.range c).map fun _ => c).sum := nsum_le fun p m => by
    have := List.length_filter_le (fun t => decide (gM R p t ≠ 0)) (List.range c)
    rw [List.length_range] at this
    exact this
  rw [List.map_const', List.sum_replicate_nat, List.length_range] at this
  have : c * c ≤ 6 * 6 := Nat.mul_le_mul h6 h6
  omega
section
variable {c : Nat} {T : Int} {R : List (List Int)} {X : List (Int × List Nat)}
theorem LotsM.few (h : LotsM c T R X) (h1 : 1 ≤ c) (h6 : c ≤ 6) : X.length ≤ 36 := by
  have := h.len
  have := cntP_le R h6
  omega
theorem LotsM.acc (h : LotsM c T R X) (hR : Sq_ c R) : accM c X X.length = R := mat_ext (accM_sq X _) hR fun p t hp ht => by
  rw [accM_get (fun x m => (h.pos x m).2.1) X.length (Nat.le_refl _) p t hp ht, List.take_length, h.sum p t hp ht]
theorem LotsM.part (h : LotsM c T R X) {i : Nat} (hi : i ≤ X.length) {p t : Nat} (hp : p < c) (ht : t < c) : 0 ≤ gM (accM c X i) p t ∧ gM (accM c X i) p t ≤ gM R p t := by
  rw [accM_get (fun x m => (h.pos x m).2.1) i hi p t hp ht, ← h.sum p t hp ht, List.map_take]
  refine part_sum (fun v m => ?_) i
  obtain ⟨x, hx, rfl⟩ := List.mem_map.mp m
  have := (h.pos x hx).1
  split <;> omega
theorem Bal.le {L : Int} (b : Bal c R L) {p t : Nat} (hp : p < c) (ht : t < c) : gM R p t ≤ L := by
  have := upto_ge (f := fun t => gM R p t) (n := c) (i := t) (fun i hi => b.nn p i hp hi) ht
  rw [b.row p hp] at this
  exact this
/-- a lot's weight is no more than the whole -/
theorem LotsM.wt (h : LotsM c T R X) (b : Bal c R T) (h1 : 1 ≤ c) {x : Int × List Nat} (m : x ∈ X) : x.1 ≤ T := by
  obtain ⟨i, hi⟩ := List.getElem?_of_mem m
  obtain ⟨a1, a2, a3⟩ := h.pos x m
  have d0 := (perm_at a2 (show 0 < c by omega)).1
  have il := (List.getElem?_eq_some_iff.mp hi).1
  have p1 := h.part (i := i + 1) (by omega) (show 0 < c by omega) d0
  have p0 := h.part (i := i) (by omega) (show 0 < c by omega) d0
  have e : gM (accM c X (i + 1)) 0 (dAt x.2 0) = gM (accM c X i) 0 (dAt x.2 0) + x.1 := by
    rw [accM_get (fun x m => (h.pos x m).2.1) (i + 1) (by omega) _ _ (by omega) d0, accM_get (fun x m => (h.pos x m).2.1) i (by omega) _ _ (by omega) d0, List.take_succ, hi, List.map_append, List.sum_append]
    simp
  have := b.le (show 0 < c by omega) d0
  omega
end
/-- how many shares are above nothing, as the laws count them -/
theorem rowP_eq {c : Nat} {R : List (List Int)} (hR : Sq_ c R) {p : Nat} (hp : p < c) : ((R.getD p []).filter fun m => decide (m ≠ 0)).length = rowP c R p := by
  have l := (hR.at hp).2
  have e : R.getD p [] = (List.range c).map fun t => gM R p t := by
    refine List.ext_getElem? fun t => ?_
    by_cases y : t < c
    · rw [hR.cell hp y, range_map_get _ y]
    · rw [List.getElem?_eq_none (by omega), List.getElem?_eq_none (by simp; omega)]
  rw [e, List.filter_map, List.length_map]
  rfl
theorem cntP_eq {c : Nat} {R : List (List Int)} (hR : Sq_ c R) : (R.map fun r => (r.filter fun m => decide (m ≠ 0)).length).sum = cntP c R := by
  unfold cntP
  congr 1
  refine List.ext_getElem? fun p => ?_
  by_cases z : p < c
  · rw [List.getElem?_map, (hR.at z).1, range_map_get _ z, Option.map_some, rowP_eq hR z]
  · rw [List.getElem?_eq_none (by rw [List.length_map, hR.len]; omega), List.getElem?_eq_none (by simp; omega)]
theorem num_pos_iff {T m : Int} (hT : 0 < T) : decide (0 < (Rat.divInt m T).num) = decide (0 < m) := by
  rw [decide_eq_decide]
  have h1 : (0 : Rat) < Rat.divInt m T ↔ 0 < m := by
    rw [zero_divInt_ T]
    exact divInt_lt hT
  rw [← h1, Rat.lt_iff]
  simp
end WL

namespace WL
open PySem L2
/-! ### rings: who would give what for what -/
abbrev Tri := Nat × Nat × Nat
abbrev Ways := List (Nat × Tri)
/-- a walk: each thing given for the next -/
inductive Wk (E : Nat → List (Nat × Nat)) : Nat → Nat → Nat → Prop
  | nil (a : Nat) : Wk E 0 a a
  | cons {m a b : Nat} {e : Nat × Nat} : e ∈ E a → Wk E m e.2 b → Wk E (m + 1) a b
theorem Wk.app {E : Nat → List (Nat × Nat)} {m n a b d : Nat} (h : Wk E m a b) (k : Wk E n b d) : Wk E (m + n) a d := by
  induction h with
  | nil => rw [Nat.zero_add]; exact k
  | @cons m a b e he _ ih => rw [Nat.add_right_comm]; exact .cons he (ih k)
def bfsE (g : Nat) : List (Nat × Nat) → Ways → Ways
  | [], w => w
  | e :: es, w => bfsE g es (if (getN w e.2).isSome then w else w ++ [(e.2, (e.1, g, e.2))])
def rowW (start : Nat) (w : Ways) : List Nat := start :: w.map (·.1)
def bfs (E : Nat → List (Nat × Nat)) (start : Nat) : Nat → Nat → Ways → Option Ways
  | 0, _, _ => none
  | n + 1, i, w => match (rowW start w)[i]? with
    | none => none
    | some g => if (getN (bfsE g (E g) w) start).isSome then some (bfsE g (E g) w) else bfs E start n (i + 1) (bfsE g (E g) w)
structure BInv (E : Nat → List (Nat × Nat)) (c start hi : Nat) (w : Ways) (D : List Nat) : Prop where
  len : D.length = w.length + 1
  d0 : D.getD 0 0 = 0
  nd : (w.map (·.1)).Nodup
  lt : ∀ x ∈ w, x.1 < c
  srt : ∀ i j, i ≤ j → j < D.length → D.getD i 0 ≤ D.getD j 0
  par : ∀ (k : Nat) x, w[k]? = some x → ∃ p g j, x.2 = (p, g, x.1) ∧ (p, x.1) ∈ E g ∧ j < hi ∧ j ≤ k ∧ (rowW start w)[j]? = some g ∧ D.getD (k + 1) 0 = D.getD j 0 + 1
  top : ∀ j, j < D.length → D.getD j 0 ≤ D.getD (hi - 1) 0 + 1
  hiL : hi ≤ D.length
  ns : ∀ (k : Nat) x, k + 1 < hi → w[k]? = some x → x.1 ≠ start
/-- all that is given for what stands ahead of place n is found -/
def Pro (E : Nat → List (Nat × Nat)) (start n : Nat) (w : Ways) (D : List Nat) : Prop := ∀ j g, j < n → (rowW start w)[j]? = some g → ∀ e ∈ E g, ∃ (k : Nat) (x : Nat × Tri), w[k]? = some x ∧ x.1 = e.2 ∧ D.getD (k + 1) 0 ≤ D.getD j 0 + 1
theorem row_app {start : Nat} {w u : Ways} {j g : Nat} (h : (rowW start w)[j]? = some g) : (rowW start (w ++ u))[j]? = some g := by
  have hl := (List.getElem?_eq_some_iff.mp h).1
  have e : rowW start (w ++ u) = rowW start w ++ u.map (·.1) := by unfold rowW; rw [List.map_append]; rfl
  rw [e, List.getElem?_append_left hl]
  exact h
theorem getD_app {D : List Nat} {j : Nat} (h : j < D.length) (v : Nat) : (D ++ [v]).getD j 0 = D.getD j 0 := by
  rw [List.getD_eq_getElem?_getD, List.getElem?_append_left h, List.getD_eq_getElem?_getD]
theorem getD_last (D : List Nat) (v : Nat) : (D ++ [v]).getD D.length 0 = v := by
  rw [List.getD_eq_getElem?_getD, List.getElem?_append_right (Nat.le_refl _), Nat.sub_self]
  rfl
/-- the things given for what stands at place i, one after another -/
theorem bfsE_ok {E : Nat → List (Nat × Nat)} {c start i g : Nat} : ∀ (es : List (Nat × Nat)) (w : Ways) (D : List Nat), (∀ e ∈ es, e ∈ E g ∧ e.2 < c) → BInv E c start (i + 1) w D → Pro E start i w D → (rowW start w)[i]? = some g →
    ∃ u D', bfsE g es w = w ++ u ∧ BInv E c start (i + 1) (w ++ u) (D ++ D') ∧ D'.length = u.length ∧ Pro E start i (w ++ u) (D ++ D') ∧ (∀ e ∈ es, ∃ (k : Nat) (x : Nat × Tri), (w ++ u)[k]? = some x ∧ x.1 = e.2 ∧ (D ++ D').getD (k + 1) 0 ≤ (D ++ D').getD i 0 + 1) ∧ ∀ x ∈ u, x.2.2.1 = g
  | [], w, D, _, b, p, hg => ⟨[], [], by simp [bfsE], by simpa using b, rfl, by simpa using p, fun e m => (nomatch m), fun x m => nomatch m⟩
  | e :: es, w, D, he, b, p, hg => by
    have hil : i < D.length := by have := b.hiL; omega
    cases q : getN w e.2 with
    | some y =>
      have e1 : bfsE g (e :: es) w = bfsE g es w := by show bfsE g es (if (getN w e.2).isSome then w else _) = _; rw [q]; rfl
      rw [e1]
      obtain ⟨u, D', h1, h2, h3, h4, h5, h6⟩ := bfsE_ok es w D (fun e m => he e (List.mem_cons_of_mem _ m)) b p hg
      refine ⟨u, D', h1, h2, h3, h4, fun f m => ?_, h6⟩
      rcases List.mem_cons.mp m with rfl | m
      · obtain ⟨k, hk⟩ := List.getElem?_of_mem (getN_mem q)
        have kl := (List.getElem?_eq_some_iff.mp hk).1
        refine ⟨k, _, by rw [List.getElem?_append_left kl]; exact hk, rfl, ?_⟩
        have := h2.top (k + 1) (by have := h2.len; rw [this, List.length_append]; omega)
        exact this
      · exact h5 f m
    | none =>
      have e1 : bfsE g (e :: es) w = bfsE g es (w ++ [(e.2, (e.1, g, e.2))]) := by show bfsE g es (if (getN w e.2).isSome then w else _) = _; rw [q]; rfl
      rw [e1]
      have no := getN_none.mp q
      obtain ⟨he1, he2⟩ := he e List.mem_cons_self
      obtain ⟨v, ev⟩ : ∃ v, v = D.getD i 0 + 1 := ⟨_, rfl⟩
      have gi : (D ++ [v]).getD i 0 = D.getD i 0 := getD_app hil v
      have b2 : BInv E c start (i + 1) (w ++ [(e.2, (e.1, g, e.2))]) (D ++ [v]) := by
        refine ⟨by simp [b.len], by rw [getD_app (by omega)]; exact b.d0, ?_, fun x m => ?_, fun a d had hd => ?_, fun k x hk => ?_, fun j hj => ?_, by simp; have := b.hiL; omega, fun k x hk hx => ?_⟩
        · rw [List.map_append]
          exact List.nodup_append.mpr ⟨b.nd, by simp, fun a m d m' => by rw [List.mem_singleton.mp m']; exact fun z => no (by have z' : a = e.2 := z; rw [← z']; exact m)⟩
        · rcases List.mem_append.mp m with m | m
          · exact b.lt x m
          · rw [List.mem_singleton.mp m]; exact he2
        · rw [List.length_append, List.length_singleton] at hd
          by_cases z : d < D.length
          · rw [getD_app z, getD_app (by omega)]
            exact b.srt a d had z
          · have : d = D.length := by omega
            subst this
            rw [getD_last]
            by_cases y : a < D.length
            · rw [getD_app y, ev]
              exact b.top a y
            · have : a = D.length := by omega
              rw [this, getD_last]
              exact Nat.le_refl _
        · by_cases z : k < w.length
          · rw [List.getElem?_append_left z] at hk
            obtain ⟨p', g', j, a1, a2, a3, a4, a5, a6⟩ := b.par k x hk
            refine ⟨p', g', j, a1, a2, a3, a4, row_app a5, ?_⟩
            rw [getD_app (by rw [b.len]; omega), getD_app (by rw [b.len]; omega)]
            exact a6
          · have hk2 : k = w.length := by
              have := (List.getElem?_eq_some_iff.mp hk).1
              simp at this
              omega
            subst hk2
            rw [List.getElem?_append_right (Nat.le_refl _), Nat.sub_self] at hk
            cases hk
            have il : i ≤ w.length := by have := b.len; omega
            refine ⟨e.1, g, i, rfl, he1, Nat.lt_succ_self _, il, row_app hg, ?_⟩
            rw [gi, ← b.len, getD_last, ev]
        · show (D ++ [v]).getD j 0 ≤ (D ++ [v]).getD i 0 + 1
          rw [List.length_append, List.length_singleton] at hj
          rw [gi]
          by_cases z : j < D.length
          · rw [getD_app z]; exact b.top j z
          · have : j = D.length := by omega
            rw [this, getD_last, ev]
            exact Nat.le_refl _
        · have : k < w.length := by have := b.len; omega
          rw [List.getElem?_append_left this] at hx
          exact b.ns k x hk hx
      have p2 : Pro E start i (w ++ [(e.2, (e.1, g, e.2))]) (D ++ [v]) := fun j g' hj hg' f hf => by
        have jl : j < (rowW start w).length := by unfold rowW; rw [List.length_cons, List.length_map]; have := b.len; omega
        have hg2 : (rowW start w)[j]? = some g' := by
          have e2 : rowW start (w ++ [(e.2, (e.1, g, e.2))]) = rowW start w ++ [e.2] := by unfold rowW; rw [List.map_append]; rfl
          rw [e2, List.getElem?_append_left jl] at hg'
          exact hg'
        obtain ⟨k, x, hx, hx1, hx2⟩ := p j g' hj hg2 f hf
        have kl := (List.getElem?_eq_some_iff.mp hx).1
        exact ⟨k, x, by rw [List.getElem?_append_left kl]; exact hx, hx1, by rw [getD_app (by rw [b.len]; omega), getD_app (by omega)]; exact hx2⟩
      obtain ⟨u, D', h1, h2, h3, h4, h5, h6⟩ := bfsE_ok es (w ++ [(e.2, (e.1, g, e.2))]) (D ++ [v]) (fun e m => he e (List.mem_cons_of_mem _ m)) b2 p2 (row_app hg)
      rw [List.append_assoc] at h1 h2 h4 h5
      rw [List.append_assoc] at h2 h4 h5
      refine ⟨_, _, h1, h2, by simp [h3], h4, fun f m => ?_, fun x m => ?_⟩
      · rcases List.mem_cons.mp m with rfl | m
        · refine ⟨w.length, (f.2, (f.1, g, f.2)), by rw [List.getElem?_append_right (Nat.le_refl _), Nat.sub_self]; rfl, rfl, ?_⟩
          refine h2.top _ ?_
          rw [h2.len]
          simp
        · obtain ⟨k, x, a1, a2, a3⟩ := h5 f m
          exact ⟨k, x, a1, a2, by simpa using a3⟩
      · rcases List.mem_append.mp m with m | m
        · rw [List.mem_singleton.mp m]
        · exact h6 x m
/-- what the search finds -/
structure Found (E : Nat → List (Nat × Nat)) (c start : Nat) (w : Ways) : Prop where
  inv : ∃ (i : Nat) (D : List Nat) (k : Nat) (x : Nat × Tri), BInv E c start (i + 1) w D ∧ Pro E start i w D ∧ w[k]? = some x ∧ x.1 = start
theorem bfs_ok {E : Nat → List (Nat × Nat)} {c start : Nat} (hE : ∀ g, ∀ e ∈ E g, e.2 < c) : ∀ (n i : Nat) (w : Ways) (D : List Nat), BInv E c start i w D → (∀ (k : Nat) (x : Nat × Tri), w[k]? = some x → x.1 ≠ start) → Pro E start i w D → c + 2 ≤ n + i →
    (∀ w', bfs E start n i w = some w' → Found E c start w') ∧ (bfs E start n i w = none → ∃ w' D', (∀ (k : Nat) (x : Nat × Tri), w'[k]? = some x → x.1 ≠ start) ∧ BInv E c start (w'.length + 1) w' D' ∧ Pro E start (w'.length + 1) w' D')
  | 0, i, w, D, b, hs, p, hn => by
    have l1 := b.hiL
    have l2 := b.len
    have l3 := nodup_lt_len b.nd fun t m => by
      obtain ⟨x, hx, rfl⟩ := List.mem_map.mp m
      exact b.lt x hx
    rw [List.length_map] at l3
    omega
  | n + 1, i, w, D, b, hs, p, hn => by
    have l1 := b.hiL
    have l2 := b.len
    have lr : (rowW start w).length = w.length + 1 := by unfold rowW; rw [List.length_cons, List.length_map]
    cases hg : (rowW start w)[i]? with
    | none =>
      have : w.length + 1 ≤ i := by rw [← lr]; exact List.getElem?_eq_none_iff.mp hg
      have ei : i = w.length + 1 := by omega
      have e1 : bfs E start (n + 1) i w = none := by unfold bfs; rw [hg]
      rw [e1]
      refine ⟨fun w' q => (nomatch q), fun _ => ⟨w, D, hs, by rw [← ei]; exact b, by rw [← ei]; exact p⟩⟩
    | some g =>
      have hil : i < D.length := by have := (List.getElem?_eq_some_iff.mp hg).1; omega
      have b1 : BInv E c start (i + 1) w D := by
        refine ⟨b.len, b.d0, b.nd, b.lt, b.srt, fun k x hk => ?_, fun j hj => ?_, by omega, fun k x _ hx => hs k x hx⟩
        · obtain ⟨p', g', j, a1, a2, a3, a⟩ := b.par k x hk
          exact ⟨p', g', j, a1, a2, by omega, a⟩
        · have h1 := b.top j hj
          have h2 := b.srt (i - 1) i (by omega) hil
          show D.getD j 0 ≤ D.getD i 0 + 1
          omega
      obtain ⟨u, D', h1, h2, h3, h4, h5, h6⟩ := bfsE_ok (E g) w D (fun e m => ⟨m, hE g e m⟩) b1 p hg
      have e1 : bfs E start (n + 1) i w = if (getN (w ++ u) start).isSome then some (w ++ u) else bfs E start n (i + 1) (w ++ u) := by
        rw [bfs, hg]
        show (if (getN (bfsE g (E g) w) start).isSome then some (bfsE g (E g) w) else bfs E start n (i + 1) (bfsE g (E g) w)) = _
        rw [h1]
      rw [e1]
      cases q : getN (w ++ u) start with
      | some y =>
        rw [Option.isSome_some, if_pos rfl]
        refine ⟨fun w' z => ?_, fun z => (nomatch z)⟩
        cases z
        obtain ⟨k, hk⟩ := List.getElem?_of_mem (getN_mem q)
        exact ⟨i, _, k, _, h2, h4, hk, rfl⟩
      | none =>
        rw [Option.isSome_none, if_neg Bool.false_ne_true]
        have no := getN_none.mp q
        have full : Pro E start (i + 1) (w ++ u) (D ++ D') := fun j g' hj hg' e he => by
          by_cases z : j < i
          · exact h4 j g' z hg' e he
          · have : j = i := by omega
            subst this
            rw [row_app hg] at hg'
            cases hg'
            exact h5 e he
        exact bfs_ok hE n (i + 1) (w ++ u) _ h2 (fun k x hx z => no (by rw [← z]; exact List.mem_map.mpr ⟨x, List.mem_of_getElem? hx, rfl⟩)) full (by omega)
theorem bfs_start (E : Nat → List (Nat × Nat)) (c start : Nat) : BInv E c start 0 [] [0] ∧ Pro E start 0 [] [0] := ⟨⟨rfl, rfl, List.nodup_nil, fun x m => (nomatch m), fun i j h1 h2 => by
  have : j = 0 := by simpa using h2
  have : i = 0 := by omega
  subst this
  subst j
  exact Nat.le_refl _, fun k x h => by simp at h, fun j h => by
  have : j = 0 := by simpa using h
  rw [this]
  decide, by simp, fun k x h => by omega⟩, fun j g h => by omega⟩
/-- no ring through start, if the search finds none -/
theorem bfs_none {E : Nat → List (Nat × Nat)} {c start : Nat} (hE : ∀ g, ∀ e ∈ E g, e.2 < c) (h : bfs E start (c + 2) 0 [] = none) : ∀ m, ¬ Wk E (m + 1) start start := by
  obtain ⟨b, p⟩ := bfs_start E c start
  obtain ⟨w, D, hs, bw, pw⟩ := (bfs_ok hE (c + 2) 0 [] [0] b (fun k x h => by simp at h) p (by omega)).2 h
  have step : ∀ m a d, Wk E m a d → (∃ j : Nat, (rowW start w)[j]? = some a) → m ≠ 0 → ∃ (k : Nat) (x : Nat × Tri), w[k]? = some x ∧ x.1 = d := by
    intro m a d hw
    induction hw with
    | nil => intro _ h; exact (h rfl).elim
    | @cons m a d e he hw ih =>
      rintro ⟨j, hj⟩ _
      have jl : j < w.length + 1 := by have := (List.getElem?_eq_some_iff.mp hj).1; unfold rowW at this; simpa using this
      obtain ⟨k, x, hx, hx1, _⟩ := pw j a jl hj e he
      cases m with
      | zero =>
        cases hw
        exact ⟨k, x, hx, hx1⟩
      | succ m => exact ih ⟨k + 1, by unfold rowW; rw [List.getElem?_cons_succ, List.getElem?_map, hx, ← hx1]; rfl⟩ (by omega)
  intro m hm
  obtain ⟨k, x, hx, hx1⟩ := step _ _ _ hm ⟨0, rfl⟩ (by omega)
  exact hs k x hx hx1
end WL

namespace WL
open PySem L2
/-! ### rings: the way back, the shortest one, the order -/
abbrev EdF := Nat → List (Nat × Nat)
/-- from `t` back to `s`, the last change first -/
def Ch (E : EdF) (s : Nat) : Nat → List Tri → Prop
  | t, [] => t = s
  | t, x :: r => x.2.2 = t ∧ (x.1, t) ∈ E x.2.1 ∧ Ch E s x.2.1 r
theorem Ch.wk {E : EdF} {s : Nat} : ∀ {L : List Tri} {t : Nat}, Ch E s t L → Wk E L.length s t
  | [], t, h => by rw [show t = s from h]; exact .nil s
  | x :: r, t, h => by
    obtain ⟨h1, h2, h3⟩ := h
    exact (Ch.wk h3).app (.cons h2 (.nil t))
theorem Ch.split {E : EdF} {s : Nat} : ∀ {A : List Tri} {X : Tri} {B : List Tri} {t : Nat}, Ch E s t (A ++ X :: B) → Wk E A.length X.2.2 t ∧ (X.1, X.2.2) ∈ E X.2.1 ∧ Ch E s X.2.1 B
  | [], X, B, t, h => by
    obtain ⟨h1, h2, h3⟩ := h
    subst h1
    exact ⟨.nil _, h2, h3⟩
  | a :: A, X, B, t, h => by
    obtain ⟨h1, h2, h3⟩ := h
    obtain ⟨k1, k2, k3⟩ := Ch.split (A := A) h3
    exact ⟨k1.app (.cons h2 (.nil t)), k2, k3⟩
theorem Ch.at {E : EdF} {s : Nat} : ∀ {L : List Tri} {t k : Nat} {X : Tri}, Ch E s t L → L[k]? = some X → (X.1, X.2.2) ∈ E X.2.1 ∧ (k = 0 → X.2.2 = t) ∧ (∀ Y, L[k + 1]? = some Y → Y.2.2 = X.2.1) ∧ (k + 1 = L.length → X.2.1 = s)
  | [], t, k, X, _, h => by simp at h
  | x :: r, t, 0, X, h, hk => by
    obtain ⟨h1, h2, h3⟩ := h
    cases hk
    refine ⟨h1 ▸ h2, fun _ => h1, fun Y hY => ?_, fun hl => ?_⟩
    · rw [List.getElem?_cons_succ] at hY
      cases r with
      | nil => simp at hY
      | cons y r => cases hY; exact h3.1
    · cases r with
      | nil => exact h3
      | cons y r => simp at hl
  | x :: r, t, k + 1, X, h, hk => by
    obtain ⟨h1, h2, h3⟩ := h
    rw [List.getElem?_cons_succ] at hk
    obtain ⟨k1, k2, k3, k4⟩ := Ch.at h3 hk
    exact ⟨k1, fun z => by omega, fun Y hY => k3 Y (by rw [List.getElem?_cons_succ] at hY; exact hY), fun z => k4 (by rw [List.length_cons] at z; omega)⟩
def backL (w : Ways) (s : Nat) : Nat → Tri → List Tri
  | 0, x => [x]
  | n + 1, x => if x.2.1 = s then [x] else x :: backL w s n ((getN w x.2.1).getD (0, 0, 0))
theorem getN_at {w : Ways} {k : Nat} {x : Nat × Tri} (nd : (w.map (·.1)).Nodup) (h : w[k]? = some x) : getN w x.1 = some x.2 := by
  cases q : getN w x.1 with
  | none => exact (getN_none.mp q (List.mem_map.mpr ⟨x, List.mem_of_getElem? h, rfl⟩)).elim
  | some y =>
    obtain ⟨j, hj⟩ := List.getElem?_of_mem (getN_mem q)
    have h1 : (w.map (·.1))[j]? = some x.1 := by rw [List.getElem?_map, hj]; rfl
    have h2 : (w.map (·.1))[k]? = some x.1 := by rw [List.getElem?_map, h]; rfl
    have l1 := (List.getElem?_eq_some_iff.mp h1).1
    have := (List.getElem?_inj l1 nd).mp (h1.trans h2.symm)
    subst this
    rw [hj] at h
    rw [← Option.some.inj h]
/-- the way back from an entry: as long as the entry lies deep -/
theorem backL_ok {E : EdF} {c s hi : Nat} {w : Ways} {D : List Nat} (b : BInv E c s hi w D) : ∀ (n k : Nat) (x : Nat × Tri), w[k]? = some x → D.getD (k + 1) 0 ≤ n + 1 → Ch E s x.1 (backL w s n x.2) ∧ (backL w s n x.2).length = D.getD (k + 1) 0 ∧ ∀ y ∈ backL w s n x.2, y.2.1 ≠ s → ∃ z, getN w y.2.1 = some z := by
  intro n
  induction n with
  | zero =>
    intro k x hk hd
    obtain ⟨p, g, j, a1, a2, a3, a4, a5, a6⟩ := b.par k x hk
    have j0 : D.getD j 0 = 0 := by omega
    have jz : j = 0 := by
      cases j with
      | zero => rfl
      | succ j =>
        have : ∃ y, w[j]? = some y := by
          have h1 : (w.map (·.1))[j]? = some g := a5
          rw [List.getElem?_map] at h1
          cases q : w[j]? with
          | none => rw [q] at h1; simp at h1
          | some y => exact ⟨y, rfl⟩
        obtain ⟨y, hy⟩ := this
        obtain ⟨_, _, _, _, _, _, _, _, h6⟩ := b.par j y hy
        omega
    subst jz
    have : g = s := by unfold rowW at a5; simpa using a5.symm
    subst this
    unfold backL
    rw [a1]
    refine ⟨⟨rfl, a2, rfl⟩, by rw [a6, j0]; rfl, fun y m => ?_⟩
    rw [List.mem_singleton.mp m]
    exact fun z => (z rfl).elim
  | succ n ih =>
    intro k x hk hd
    obtain ⟨p, g, j, a1, a2, a3, a4, a5, a6⟩ := b.par k x hk
    unfold backL
    rw [a1]
    cases j with
    | zero =>
      have : g = s := by unfold rowW at a5; simpa using a5.symm
      subst this
      rw [if_pos rfl]
      refine ⟨⟨rfl, a2, rfl⟩, by rw [a6, b.d0]; rfl, fun y m => ?_⟩
      rw [List.mem_singleton.mp m]
      exact fun z => (z rfl).elim
    | succ j =>
      have : ∃ y, w[j]? = some y ∧ y.1 = g := by
        have h1 : (w.map (·.1))[j]? = some g := a5
        rw [List.getElem?_map] at h1
        cases q : w[j]? with
        | none => rw [q] at h1; simp at h1
        | some y => rw [q] at h1; exact ⟨y, rfl, Option.some.inj h1⟩
      obtain ⟨y, hy, yg⟩ := this
      have hgs : g ≠ s := by rw [← yg]; exact b.ns j y a3 hy
      have hg : getN w g = some y.2 := by rw [← yg]; exact getN_at b.nd hy
      rw [if_neg hgs, hg]
      obtain ⟨r1, r2, r3⟩ := ih j y hy (by omega)
      rw [yg] at r1
      refine ⟨⟨rfl, a2, r1⟩, by rw [List.length_cons]; show (backL w s n y.2).length + 1 = _; rw [r2, a6], fun z m hz => ?_⟩
      rcases List.mem_cons.mp m with rfl | m
      · exact ⟨_, hg⟩
      · exact r3 z m hz
theorem BInv.deep {E : EdF} {c s hi : Nat} {w : Ways} {D : List Nat} (b : BInv E c s hi w D) : ∀ k, k < D.length → D.getD k 0 ≤ k
  | 0, _ => by rw [b.d0]; exact Nat.le_refl _
  | k + 1, hk => by
    have : k < w.length := by have := b.len; omega
    obtain ⟨p, g, j, a1, a2, a3, a4, a5, a6⟩ := b.par k _ (List.getElem?_eq_getElem this)
    have := BInv.deep b j (by omega)
    omega
/-- the shortest way round from a thing -/
def rnd (E : EdF) (c s : Nat) : Option (List Tri) := (bfs E s (c + 2) 0 []).map fun w => backL w s (c + 1) ((getN w s).getD (0, 0, 0))
theorem rnd_ok {E : EdF} {c s : Nat} (hE : ∀ g, ∀ e ∈ E g, e.2 < c) : match rnd E c s with
    | none => ∀ m, ¬ Wk E (m + 1) s s
    | some L => L ≠ [] ∧ Ch E s s L ∧ (∀ m, Wk E (m + 1) s s → L.length ≤ m + 1) ∧ L.length ≤ c := by
  unfold rnd
  cases q : bfs E s (c + 2) 0 [] with
  | none => exact bfs_none hE q
  | some w =>
    obtain ⟨b0, p0⟩ := bfs_start E c s
    obtain ⟨i, D, k, x, b, p, hk, hx⟩ := ((bfs_ok hE (c + 2) 0 [] [0] b0 (fun k x h => by simp at h) p0 (by omega)).1 w q).inv
    have hg : getN w s = some x.2 := by rw [← hx]; exact getN_at b.nd hk
    have kl : k < w.length := (List.getElem?_eq_some_iff.mp hk).1
    have wl : w.length ≤ c := by
      have := nodup_lt_len b.nd fun t m => by
        obtain ⟨x, hx, rfl⟩ := List.mem_map.mp m
        exact b.lt x hx
      rwa [List.length_map] at this
    have dk := b.deep (k + 1) (by rw [b.len]; omega)
    obtain ⟨r1, r2, r3⟩ := backL_ok b (c + 1) k x hk (by omega)
    rw [Option.map_some]
    simp only [hg]
    show backL w s (c + 1) x.2 ≠ [] ∧ Ch E s s (backL w s (c + 1) x.2) ∧ (∀ m, Wk E (m + 1) s s → (backL w s (c + 1) x.2).length ≤ m + 1) ∧ (backL w s (c + 1) x.2).length ≤ c
    rw [hx] at r1
    refine ⟨fun z => ?_, r1, fun m hm => ?_, by omega⟩
    · rw [z] at r2
      obtain ⟨_, _, _, _, _, _, _, _, h6⟩ := b.par k x hk
      rw [h6] at r2
      simp at r2
    · rw [r2]
      obtain ⟨p', g', j', a1, a2, a3, a4, a5, a6⟩ := b.par k x hk
      have hil : i < D.length := by have := b.hiL; omega
      have hji := b.srt j' i (by omega) hil
      have step : ∀ m a d, Wk E m a d → ∀ j r, (rowW s w)[j]? = some a → D.getD j 0 ≤ r → m ≠ 0 → r + m < D.getD (k + 1) 0 → ∃ (k : Nat) (x : Nat × Tri), w[k]? = some x ∧ x.1 = d ∧ D.getD (k + 1) 0 ≤ r + m := by
        intro m a d hw
        induction hw with
        | nil => intro _ _ _ _ h; exact (h rfl).elim
        | @cons m a d e he hw ih =>
          intro j r hj hd _ hr
          have jl : j < w.length + 1 := by have := (List.getElem?_eq_some_iff.mp hj).1; unfold rowW at this; simpa using this
          have ji : j < i := by
            apply Nat.lt_of_not_le
            intro z
            have := b.srt i j z (by rw [b.len]; exact jl)
            omega
          obtain ⟨k1, x1, hx1, hx2, hx3⟩ := p j a ji hj e he
          cases m with
          | zero =>
            cases hw
            exact ⟨k1, x1, hx1, hx2, by omega⟩
          | succ m =>
            obtain ⟨k2, x2, y1, y2, y3⟩ := ih (k1 + 1) (r + 1) (by unfold rowW; rw [List.getElem?_cons_succ, List.getElem?_map, hx1, ← hx2]; rfl) (by omega) (by omega) (by omega)
            exact ⟨k2, x2, y1, y2, by omega⟩
      apply Nat.le_of_not_lt
      intro z
      obtain ⟨k2, x2, y1, y2, y3⟩ := step _ _ _ hm 0 0 rfl (by rw [b.d0]; exact Nat.le_refl _) (by omega) (by omega)
      have h1 := getN_at b.nd y1
      have : k2 = k := by
        have e1 : (w.map (·.1))[k2]? = some s := by rw [List.getElem?_map, y1, ← y2]; rfl
        have e2 : (w.map (·.1))[k]? = some s := by rw [List.getElem?_map, hk, ← hx]; rfl
        exact (List.getElem?_inj (List.getElem?_eq_some_iff.mp e1).1 b.nd).mp (e1.trans e2.symm)
      subst this
      omega
/-- the best of two -/
def better (a b : Option (List Tri)) : Option (List Tri) := match b, a with
  | none, a => a
  | some L, none => some L
  | some L, some M => if L.length < M.length then some L else some M
def ringF (E : EdF) (c : Nat) : Nat → Option (List Tri)
  | 0 => none
  | n + 1 => better (ringF E c n) (rnd E c n)
/-- a ring, and none is shorter -/
structure Best (E : EdF) (c n : Nat) (L : List Tri) : Prop where
  ne : L ≠ []
  ch : ∃ s, Ch E s s L
  le : L.length ≤ c
  min : ∀ a, a < n → ∀ m, Wk E (m + 1) a a → L.length ≤ m + 1
theorem ringF_ok {E : EdF} {c : Nat} (hE : ∀ g, ∀ e ∈ E g, e.2 < c) : ∀ n, match ringF E c n with
    | none => ∀ a, a < n → ∀ m, ¬ Wk E (m + 1) a a
    | some L => Best E c n L
  | 0 => fun a h => by omega
  | n + 1 => by
    have ih := ringF_ok hE n
    have hr := rnd_ok (s := n) hE
    rw [ringF]
    cases q : rnd E c n with
    | none =>
      rw [q] at hr
      cases q2 : ringF E c n with
      | none =>
        rw [q2] at ih
        intro a ha m
        by_cases z : a = n
        · rw [z]; exact hr m
        · exact ih a (by omega) m
      | some M =>
        rw [q2] at ih
        exact ⟨ih.ne, ih.ch, ih.le, fun a ha m hm => by
          by_cases z : a = n
          · rw [z] at hm; exact (hr m hm).elim
          · exact ih.min a (by omega) m hm⟩
    | some L =>
      rw [q] at hr
      obtain ⟨h1, h2, h3, h4⟩ := hr
      cases q2 : ringF E c n with
      | none =>
        rw [q2] at ih
        exact ⟨h1, ⟨n, h2⟩, h4, fun a ha m hm => by
          by_cases z : a = n
          · rw [z] at hm; exact h3 m hm
          · exact (ih a (by omega) m hm).elim⟩
      | some M =>
        rw [q2] at ih
        by_cases y : L.length < M.length
        · have e : better (some M) (some L) = some L := if_pos y
          show match better (some M) (some L) with | none => _ | some L => Best E c (n + 1) L
          rw [e]
          exact ⟨h1, ⟨n, h2⟩, h4, fun a ha m hm => by
            by_cases z : a = n
            · rw [z] at hm; exact h3 m hm
            · have := ih.min a (by omega) m hm
              omega⟩
        · have e : better (some M) (some L) = some M := if_neg y
          show match better (some M) (some L) with | none => _ | some L => Best E c (n + 1) L
          rw [e]
          exact ⟨ih.ne, ih.ch, ih.le, fun a ha m hm => by
            by_cases z : a = n
            · rw [z] at hm; have := h3 m hm; omega
            · exact ih.min a (by omega) m hm⟩
end WL

namespace WL
open PySem L2
/-! ### changes; nobody twice in the shortest ring; the order -/
def ixW (W : List (List Nat)) (p x : Nat) : Nat := (W.getD p []).idxOf x
theorem mem_tw (b g : Nat) : ∀ l : List Nat, b ∈ l.takeWhile (fun x => decide (x ≠ g)) ↔ l.idxOf b < l.idxOf g
  | [] => by simp
  | x :: l => by
    have ih := mem_tw b g l
    rw [List.idxOf_cons, List.idxOf_cons, List.takeWhile_cons]
    by_cases z : x = g
    · subst z
      simp
    · rw [if_pos (by simpa using z)]
      rw [show (x == g) = false by simpa using z]
      rw [List.mem_cons, ih]
      by_cases y : x = b
      · subst y; simp
      · rw [show (x == b) = false by simpa using y]
        have : b ≠ x := fun q => y q.symm
        simp [this]
def chgP (R : List (List Int)) (W : List (List Nat)) (g p : Nat) : List (Nat × Nat) := if gM R p g ≠ 0 then ((W.getD p []).takeWhile fun x => decide (x ≠ g)).map fun b => (p, b) else []
def chgR (c : Nat) (R : List (List Int)) (W : List (List Nat)) (g : Nat) : List (Nat × Nat) := (List.range c).flatMap (chgP R W g)
def chgs (c : Nat) (R : List (List Int)) (W : List (List Nat)) : List (List (Nat × Nat)) := (List.range c).map (chgR c R W)
def chgE (c : Nat) (R : List (List Int)) (W : List (List Nat)) : EdF := fun g => (chgs c R W).getD g []
theorem chgs_at {c : Nat} (R : List (List Int)) (W : List (List Nat)) {g : Nat} (h : g < c) : (chgs c R W)[g]? = some (chgE c R W g) := by
  have : g < (chgs c R W).length := by unfold chgs; simpa using h
  unfold chgE
  rw [List.getD_eq_getElem?_getD, List.getElem?_eq_getElem this]
  rfl
theorem chgE_eq {c : Nat} (R : List (List Int)) (W : List (List Nat)) {g : Nat} (h : g < c) : chgE c R W g = chgR c R W g := by
  unfold chgE chgs
  rw [List.getD_eq_getElem?_getD, List.getElem?_map, List.getElem?_range h]
  rfl
theorem mem_chg {c : Nat} {R : List (List Int)} {W : List (List Nat)} {g : Nat} {e : Nat × Nat} : e ∈ chgE c R W g ↔ g < c ∧ e.1 < c ∧ gM R e.1 g ≠ 0 ∧ ixW W e.1 e.2 < ixW W e.1 g := by
  by_cases h : g < c
  · rw [chgE_eq R W h]
    unfold chgR
    rw [List.mem_flatMap]
    constructor
    · rintro ⟨p, hp, he⟩
      unfold chgP at he
      by_cases z : gM R p g ≠ 0
      · rw [if_pos z] at he
        obtain ⟨b, hb, rfl⟩ := List.mem_map.mp he
        exact ⟨h, List.mem_range.mp hp, z, (mem_tw b g _).mp hb⟩
      · rw [if_neg z] at he; cases he
    · rintro ⟨_, hp, z, hi⟩
      refine ⟨e.1, List.mem_range.mpr hp, ?_⟩
      unfold chgP
      rw [if_pos z]
      exact List.mem_map.mpr ⟨e.2, (mem_tw e.2 g _).mpr hi, rfl⟩
  · have : chgE c R W g = [] := by
      unfold chgE
      rw [List.getD_eq_getElem?_getD, List.getElem?_eq_none (by unfold chgs; simp; omega)]
      rfl
    rw [this]
    exact ⟨fun m => (nomatch m), fun m => absurd m.1 h⟩
/-- rows of wishes of c things -/
structure WsOk (c : Nat) (W : List (List Nat)) : Prop where
  len : W.length = c
  row : ∀ w ∈ W, w.Perm (List.range c)
theorem WsOk.at {c : Nat} {W : List (List Nat)} (h : WsOk c W) {p : Nat} (hp : p < c) : W[p]? = some (W.getD p []) ∧ (W.getD p []).Perm (List.range c) := by
  have : p < W.length := by rw [h.len]; exact hp
  have e : W[p]? = some (W.getD p []) := by rw [List.getD_eq_getElem?_getD, List.getElem?_eq_getElem this]; rfl
  exact ⟨e, h.row _ (List.mem_of_getElem? e)⟩
theorem WsOk.lt {c : Nat} {W : List (List Nat)} (h : WsOk c W) {p x y : Nat} (hp : p < c) (hx : ixW W p x < ixW W p y) : x < c := by
  have h2 := (h.at hp).2
  have l := h2.length_eq
  rw [List.length_range] at l
  have : ixW W p y ≤ c := by unfold ixW; rw [← l]; exact List.idxOf_le_length
  have : x ∈ W.getD p [] := List.idxOf_lt_length_iff.mp (by rw [l]; unfold ixW at *; omega)
  exact List.mem_range.mp (h2.mem_iff.mp this)
theorem chg_lt {c : Nat} {R : List (List Int)} {W : List (List Nat)} (h : WsOk c W) : ∀ g, ∀ e ∈ chgE c R W g, e.2 < c := fun g e m => by
  obtain ⟨_, h2, _, h4⟩ := mem_chg.mp m
  exact h.lt h2 h4
theorem nodup_split {α β : Type} (f : α → β) : ∀ {L : List α}, (∀ A X B Y C, L = A ++ X :: (B ++ Y :: C) → f X ≠ f Y) → (L.map f).Nodup
  | [], _ => List.nodup_nil
  | x :: l, h => by
    rw [List.map_cons, List.nodup_cons]
    refine ⟨fun m => ?_, nodup_split f fun A X B Y C e => h (x :: A) X B Y C (by rw [e]; rfl)⟩
    obtain ⟨y, hy, e⟩ := List.mem_map.mp m
    obtain ⟨B, C, rfl⟩ := List.append_of_mem hy
    exact h [] x B y C rfl e.symm
theorem ring_nd {c : Nat} {R : List (List Int)} {W : List (List Nat)} {L : List Tri} (b : Best (chgE c R W) c c L) : (L.map (·.1)).Nodup ∧ 2 ≤ L.length := by
  obtain ⟨s, hs⟩ := b.ch
  have hmin : ∀ a m, Wk (chgE c R W) (m + 1) a a → L.length ≤ m + 1 := fun a m h => by
    refine b.min a ?_ m h
    cases h with
    | cons he _ => exact (mem_chg.mp he).1
  constructor
  · refine nodup_split _ fun A X B Y C e => ?_
    subst e
    intro q
    obtain ⟨w1, e1, r1⟩ := hs.split
    obtain ⟨w2, e2, r2⟩ := r1.split
    have w3 := r2.wk
    have m1 := mem_chg.mp e1
    have m2 := mem_chg.mp e2
    by_cases z : ixW W X.1 X.2.1 ≤ ixW W X.1 Y.2.1
    · have e3 : (X.1, X.2.2) ∈ chgE c R W Y.2.1 := mem_chg.mpr ⟨m2.1, m1.2.1, by rw [show (X.1, X.2.2).1 = Y.1 from q]; exact m2.2.2.1, Nat.lt_of_lt_of_le m1.2.2.2 z⟩
      have := w3.app (Wk.cons e3 w1)
      have := hmin _ _ (show Wk _ (C.length + A.length + 1) s s from by rw [show C.length + A.length + 1 = C.length + (A.length + 1) by omega]; exact this)
      simp at this
      omega
    · have e3 : (X.1, Y.2.2) ∈ chgE c R W X.2.1 := mem_chg.mpr ⟨m1.1, m1.2.1, m1.2.2.1, by
        have h1 : ixW W Y.1 Y.2.2 < ixW W Y.1 Y.2.1 := m2.2.2.2
        have q' : X.1 = Y.1 := q
        rw [← q'] at h1
        show ixW W X.1 Y.2.2 < ixW W X.1 X.2.1
        omega⟩
      have := hmin _ _ (Wk.cons e3 w2)
      simp at this
      omega
  · match L, b.ne, hs with
    | [x], _, hs =>
      obtain ⟨h1, h2, h3⟩ := hs
      have h3 : x.2.1 = s := h3
      have := (mem_chg.mp h2).2.2.2
      rw [h3] at this
      exact absurd this (Nat.lt_irrefl _)
    | _ :: _ :: _, _, _ => simp
/-! ### the order -/
def rdy (E : EdF) (o : List Nat) (t : Nat) : Bool := (E t).all fun e => decide (e.2 ∈ o)
def ordSt (E : EdF) (o : List Nat) (t : Nat) : List Nat := if t ∉ o ∧ rdy E o t = true then o ++ [t] else o
def ordP (E : EdF) (o : List Nat) : Nat → List Nat
  | 0 => o
  | n + 1 => ordSt E (ordP E o n) n
structure OOk (E : EdF) (c : Nat) (o : List Nat) : Prop where
  nd : o.Nodup
  lt : ∀ x ∈ o, x < c
  up : ∀ (k x : Nat), o[k]? = some x → ∀ e ∈ E x, ∃ j, j < k ∧ o[j]? = some e.2
theorem OOk.step {E : EdF} {c : Nat} {o : List Nat} (h : OOk E c o) {t : Nat} (ht : t < c) : OOk E c (ordSt E o t) := by
  unfold ordSt
  by_cases z : t ∉ o ∧ rdy E o t = true
  · rw [if_pos z]
    refine ⟨List.nodup_append.mpr ⟨h.nd, by simp, fun a m b m' => by rw [List.mem_singleton.mp m']; intro q; exact z.1 (q ▸ m)⟩, fun x m => ?_, fun k x hk e he => ?_⟩
    · rcases List.mem_append.mp m with m | m
      · exact h.lt x m
      · rw [List.mem_singleton.mp m]; exact ht
    · by_cases y : k < o.length
      · rw [List.getElem?_append_left y] at hk
        obtain ⟨j, hj, hj2⟩ := h.up k x hk e he
        exact ⟨j, hj, by rw [List.getElem?_append_left (by omega)]; exact hj2⟩
      · have hk2 : k = o.length := by
          have := (List.getElem?_eq_some_iff.mp hk).1
          simp at this
          omega
        subst hk2
        rw [List.getElem?_append_right (Nat.le_refl _), Nat.sub_self] at hk
        cases hk
        have := (List.all_eq_true.mp z.2) e he
        obtain ⟨j, hj⟩ := List.getElem?_of_mem (of_decide_eq_true this)
        have jl := (List.getElem?_eq_some_iff.mp hj).1
        exact ⟨j, jl, by rw [List.getElem?_append_left jl]; exact hj⟩
  · rw [if_neg z]; exact h
theorem OOk.pass {E : EdF} {c : Nat} {o : List Nat} (h : OOk E c o) : ∀ n, n ≤ c → OOk E c (ordP E o n)
  | 0, _ => h
  | n + 1, hn => (OOk.pass h n (by omega)).step (by omega)
theorem ordSt_len {E : EdF} (o : List Nat) (t : Nat) : o.length ≤ (ordSt E o t).length ∧ ((ordSt E o t).length = o.length → ordSt E o t = o ∧ (t ∈ o ∨ rdy E o t = false)) := by
  unfold ordSt
  by_cases z : t ∉ o ∧ rdy E o t = true
  · rw [if_pos z]; simp
  · rw [if_neg z]
    refine ⟨Nat.le_refl _, fun _ => ⟨rfl, ?_⟩⟩
    by_cases y : t ∈ o
    · exact .inl y
    · right
      cases q : rdy E o t with
      | false => rfl
      | true => exact (z ⟨y, q⟩).elim
theorem ordP_len {E : EdF} (o : List Nat) : ∀ n, o.length ≤ (ordP E o n).length ∧ ((ordP E o n).length = o.length → ordP E o n = o ∧ ∀ t, t < n → t ∈ o ∨ rdy E o t = false)
  | 0 => ⟨Nat.le_refl _, fun _ => ⟨rfl, fun t h => by omega⟩⟩
  | n + 1 => by
    obtain ⟨h1, h2⟩ := ordP_len (E := E) o n
    obtain ⟨k1, k2⟩ := ordSt_len (E := E) (ordP E o n) n
    rw [ordP]
    refine ⟨by omega, fun h => ?_⟩
    obtain ⟨a1, a2⟩ := h2 (by omega)
    rw [a1] at k1 k2 h ⊢
    obtain ⟨b1, b2⟩ := k2 h
    refine ⟨b1, fun t ht => ?_⟩
    by_cases z : t = n
    · rw [z]; exact b2
    · exact a2 t (by omega)
def iter (f : Nat → Nat) : Nat → Nat → Nat
  | 0, x => x
  | n + 1, x => f (iter f n x)
/-- where no ring is, something is ready -/
theorem OOk.more {E : EdF} {c : Nat} {o : List Nat} (h : OOk E c o) (hE : ∀ g, ∀ e ∈ E g, e.2 < c) (no : ∀ a, a < c → ∀ m, ¬ Wk E (m + 1) a a) (hl : o.length < c) : o.length < (ordP E o c).length := by
  obtain ⟨h1, h2⟩ := ordP_len (E := E) o c
  apply Nat.lt_of_le_of_ne h1
  intro q
  obtain ⟨_, h3⟩ := h2 q.symm
  have ex : ∃ x, x < c ∧ x ∉ o := by
    apply Classical.byContradiction
    intro z
    have : ∀ x ∈ List.range c, x ∈ o := fun x m => Classical.byContradiction fun y => z ⟨x, List.mem_range.mp m, y⟩
    have := ((List.perm_ext_iff_of_nodup h.nd List.nodup_range).mpr fun a => ⟨fun m => List.mem_range.mpr (h.lt a m), this a⟩).length_eq
    rw [List.length_range] at this
    omega
  obtain ⟨x, hx, hxo⟩ := ex
  have nxt : ∀ t, ∃ u, (t < c ∧ t ∉ o) → (∃ e ∈ E t, e.2 = u) ∧ u < c ∧ u ∉ o := fun t => by
    by_cases z : t < c ∧ t ∉ o
    · rcases h3 t z.1 with y | y
      · exact (z.2 y).elim
      · unfold rdy at y
        rw [List.all_eq_false] at y
        obtain ⟨e, he, ne⟩ := y
        exact ⟨e.2, fun _ => ⟨⟨e, he, rfl⟩, hE t e he, by simpa using ne⟩⟩
    · exact ⟨0, fun y => (z y).elim⟩
  obtain ⟨f, hf⟩ : ∃ f : Nat → Nat, ∀ t, (t < c ∧ t ∉ o) → (∃ e ∈ E t, e.2 = f t) ∧ f t < c ∧ f t ∉ o := ⟨fun t => Classical.choose (nxt t), fun t => Classical.choose_spec (nxt t)⟩
  have it : ∀ n, iter f n x < c ∧ iter f n x ∉ o := fun n => by
    induction n with
    | zero => exact ⟨hx, hxo⟩
    | succ n ih => exact (hf _ ih).2
  have wk : ∀ m n, Wk E m (iter f n x) (iter f (n + m) x) := fun m => by
    induction m with
    | zero => intro n; exact .nil _
    | succ m ih =>
      intro n
      obtain ⟨⟨e, he, he2⟩, _⟩ := hf _ (it n)
      have := ih (n + 1)
      rw [show n + 1 + m = n + (m + 1) by omega] at this
      exact .cons he (by rw [he2]; exact this)
  have nd : ((List.range (c + 1)).map fun n => iter f n x).Nodup := by
    rw [List.Nodup, List.pairwise_map]
    refine List.pairwise_lt_range.imp fun {a b} hab q => ?_
    have w := wk (b - a) a
    rw [show a + (b - a) = b by omega, ← q] at w
    obtain ⟨d, hd⟩ : ∃ d, b - a = d + 1 := ⟨b - a - 1, by omega⟩
    rw [hd] at w
    exact no _ (it a).1 d w
  have := nodup_lt_len nd fun t m => by
    obtain ⟨n, _, rfl⟩ := List.mem_map.mp m
    exact (it n).1
  rw [List.length_map, List.length_range] at this
  omega
theorem OOk.len {E : EdF} {c : Nat} {o : List Nat} (h : OOk E c o) : o.length ≤ c := nodup_lt_len h.nd h.lt
/-- the order that the passes come to -/
def ordF (E : EdF) (c : Nat) : Nat → List Nat → List Nat
  | 0, o => o
  | n + 1, o => if o.length < c then ordF E c n (ordP E o c) else o
theorem ordF_ok {E : EdF} {c : Nat} (hE : ∀ g, ∀ e ∈ E g, e.2 < c) (no : ∀ a, a < c → ∀ m, ¬ Wk E (m + 1) a a) : ∀ (n : Nat) (o : List Nat), OOk E c o → c ≤ o.length + n → OOk E c (ordF E c n o) ∧ (ordF E c n o).length = c
  | 0, o, h, hn => ⟨h, by have := h.len; show o.length = c; omega⟩
  | n + 1, o, h, hn => by
    rw [ordF]
    by_cases z : o.length < c
    · rw [if_pos z]
      exact ordF_ok hE no n _ (h.pass c (Nat.le_refl _)) (by have := h.more hE no z; omega)
    · rw [if_neg z]
      exact ⟨h, by have := h.len; omega⟩
/-- an order that holds: all things, and behind each nothing that stands better with one who has a share of it -/
structure OrdOk (c : Nat) (R : List (List Int)) (W : List (List Nat)) (o : List Nat) : Prop where
  perm : o.Perm (List.range c)
  up : ∀ p t b, p < c → t < c → gM R p t ≠ 0 → ixW W p b < ixW W p t → o.idxOf b < o.idxOf t
theorem ord_ok {c : Nat} {R : List (List Int)} {W : List (List Nat)} (hW : WsOk c W) (no : ∀ a, a < c → ∀ m, ¬ Wk (chgE c R W) (m + 1) a a) : OrdOk c R W (ordF (chgE c R W) c c []) := by
  obtain ⟨h1, h2⟩ := ordF_ok (E := chgE c R W) (chg_lt hW) no c [] ⟨List.nodup_nil, fun x m => (nomatch m), fun k x h => by simp at h⟩ (by simp)
  have pm := nodup_perm h2 h1.nd h1.lt
  refine ⟨pm, fun p t b hp ht h0 hb => ?_⟩
  have mt : t ∈ ordF (chgE c R W) c c [] := pm.mem_iff.mpr (List.mem_range.mpr ht)
  have tl := List.idxOf_lt_length_iff.mpr mt
  obtain ⟨j, hj, hj2⟩ := h1.up _ t (by rw [List.getElem?_eq_getElem tl, List.getElem_idxOf]) (p, b) (mem_chg.mpr ⟨ht, hp, h0, hb⟩)
  have jl := (List.getElem?_eq_some_iff.mp hj2).1
  have mb : b ∈ ordF (chgE c R W) c c [] := List.mem_of_getElem? hj2
  have bl := List.idxOf_lt_length_iff.mpr mb
  have : List.idxOf b (ordF (chgE c R W) c c []) = j := (List.getElem?_inj bl h1.nd).mp (by rw [hj2, List.getElem?_eq_getElem bl, List.getElem_idxOf])
  omega
end WL

namespace WL
open PySem L2
section
variable {K : PySem.W.Frag} {N : Addr → Prop} {ρ ρ' : List Sl} {σ : L2.St} {F H F' H' F0 H0 : Hp} {ta tA : TA} {te tb tc tv : TE} {tt tu : TT} {P : Post} {t u : TS}
/-- return of what an expression tells that changes one's own -/
theorem s_retW (h : XW K te ρ fun s _ => P.rt s) : WS K (tRet te) ρ P := fun F0 H0 σ F H D e f => h F0 H0 σ F H e _ fun s r v F' H' p e1 => by
  obtain ⟨A, h1, h2, h3⟩ := e1.en.en
  have k := h1 r.length s (by rw [List.getElem?_append_right (Nat.le_refl _), Nat.sub_self]; rfl)
  rw [List.getElem?_append_right (by rw [e1.en.lenE]; exact Nat.le_refl _), show r.length - σ.length = 0 by rw [e1.en.lenE]; omega] at k
  exact f.rt s v F' H' p e1.gr ⟨A r.length, k, fun a z => h3 _ a z⟩
/-! ### tuples in tuples -/
theorem xv_tup {us : List Ot} {al : List (Option (Nat × Option V))} (ha : XAE K ta ρ us al ρ') (hl : ρ'.length = ρ.length) (hz : us.length ≤ 100000) : XV K (tTup ta) ρ (.tu us) none ρ' := fun F0 H0 fr φ σ F H len e Q q =>
  ha F0 H0 fr φ σ F H len e _ fun vs F1 H1 g1 w e1 => by
    have len2 : (ρ' ++ fr).length = (σ ++ φ).length := by
      have := e.en.len
      rw [List.length_append, List.length_append] at this ⊢
      omega
    obtain ⟨Hc, as, c1, c2, c3, c4, c5, go⟩ := e1.call_go len2
    have luv := ots_len c2
    refine ⟨by rw [← luv]; exact Nat.le_trans hz (by decide), fun p np => ?_⟩
    have np2 : Hc p = none := c1.free np
    have pas : p ∉ as := fun m => by obtain ⟨o, ho⟩ := ots_here c2 p m; rw [np] at ho; cases ho
    have fp : F1 p = none := e1.en.fh.free np
    refine q (.ref p) F1 _ (g1.trans (Gr.own e1.en.fh np)) (fun _ _ z => nomatch z) (go F1 (upd H1 p (.tup vs)) [.ref p] [some (.tu us)] (p :: as) ⟨Same.refl _, fun a o z => ?_, fun a o z => ?_, fun _ _ z _ => z⟩ ?_ (List.nodup_cons.mpr ⟨pas, c3⟩) fun a m => ?_)
    · rw [upd_ne (ne_of_none z np2)]; exact c1 a o z
    · rw [upd_ne (ne_of_none z fp)]; exact e1.en.fh a o z
    · have := BkOk.own (K := K) (F := F1) (H := upd H1 p (.tup vs)) (v := .ref p) (.tu upd_same (c2.mono (Same.refl _) fun a m o z => by rw [upd_ne fun y => pas (by rw [← y]; exact m)]; exact z)) .nil
      rw [List.append_nil] at this
      exact this
    · rcases List.mem_cons.mp m with rfl | m
      · exact ⟨fp, np2⟩
      · exact c4 a m
/-- a name that is given away only behind the next one's reading -/
theorem xae_late {i : Nat} {s0 : Sl} {u0 u1 : Ot} (hi : ρ[i]? = some s0) (m : SlImp K s0 (.ot none u0)) (h : XR K te ρ (.ot none u1)) : XAE K (tCons (tVar i) (tCons te tNil)) ρ [u0, u1] [none, none] (ρ.set i .un) := fun F0 H0 fr φ σ F H len e Q q => by
  have hil := (List.getElem?_eq_some_iff.mp hi).1
  have hi' : (ρ ++ fr)[i]? = some s0 := by rw [List.getElem?_append_left hil]; exact hi
  obtain ⟨x, hx, e2⟩ := e.mv hi'
  rw [List.getElem?_append_left (by rw [← len]; exact hil)] at hx
  rw [List.set_append_left _ _ hil] at e2
  have e3 := e2.as (i := (ρ.set i .un ++ fr).length) (by rw [List.getElem?_append_right (Nat.le_refl _), Nat.sub_self]; rfl) m
  rw [List.set_append_right _ _ (Nat.le_refl _), Nat.sub_self] at e3
  obtain ⟨A, h1, _⟩ := e3.en.en
  have k := h1 (ρ.set i .un ++ fr).length (.ot none u0) (by rw [List.getElem?_append_right (Nat.le_refl _), Nat.sub_self]; rfl)
  have l2 := e3.en.lenE
  rw [List.getElem?_append_right (by rw [l2]; exact Nat.le_refl _), l2, Nat.sub_self] at k
  obtain ⟨v, as, ev, _⟩ := k
  cases ev
  refine ⟨v, hx, h _ σ F H (e.unfr len).en _ fun w F1 H1 g r => ?_⟩
  have e4 := e3.ext g r
  refine q [v, w] F1 H1 g ⟨fun _ _ z => (nomatch z), fun _ _ z => (nomatch z), trivial⟩ ?_
  simpa [ots, List.append_assoc] using e4
theorem xf_ixT {i j : Nat} {o : Option V} {r : Ot} {ts : List Ot} {p : List Nat} {k : Int} (h : XF K te ρ i p) (hi : ρ[i]? = some (.ot o r)) (hs : r.sub p = some (.tu ts)) (hk : XE K tb ρ (.int k)) (hj : ixN ts.length k = some j) : XF K (tOp (rIx K) te tb) ρ i (p ++ [j]) := fun N σ F H e Q q =>
  h N σ F H e _ fun w F1 H1 g1 ⟨v, hv, hw⟩ => hk.e (e.gr g1) fun y F2 H2 g2 py => by
    have hw2 := walk_mono g2.hh p hw
    obtain ⟨bs, ok⟩ := ((e.gr g1).gr g2).see hi hs hv hw2
    cases ok with
    | @tu l vs ts as hl pk =>
      have len := ots_len pk
      have jl : j < vs.length := by rw [← len]; exact (ixN_seq hj).2.1
      have hx : vs[j]? = some vs[j] := List.getElem?_eq_getElem jl
      refine .inr (.inl ⟨l, vs, k, vs[j], rfl, dp_int py, SqT.of hl, ?_, q _ F2 H2 (g1.trans g2) ⟨v, hv, ?_⟩⟩)
      · unfold atI
        rw [← len, hj]
        exact hx
      · rw [walk_app p [j] hw2, walk_cons]
        simp only [hl, kidsV, hx]
        rfl
/-! ### any own thing without dicts, read as data while a truth is told -/
theorem unlendG {as : List Addr} {F1 : Hp} (own : ∀ a ∈ as, F a = none) (k2 : ∀ a, a ∉ as → F1 a = F a) (g : Gr F1 H F' H') : ∃ F2, Gr F H F2 H' := by
  classical
  obtain ⟨F2, c1, c2⟩ : ∃ F2 : Hp, (∀ a ∈ as, F2 a = none) ∧ (∀ a, a ∉ as → F2 a = F' a) := ⟨fun a => if a ∈ as then none else F' a, fun a q => if_pos q, fun a q => if_neg q⟩
  refine ⟨F2, fun a o q => ?_, g.hh, fun a o q => ?_, fun a o q r => ?_⟩
  · have no : a ∉ as := fun m => by rw [own a m] at q; cases q
    rw [c2 a no]
    exact g.ff a o (by rw [k2 a no]; exact q)
  · by_cases z : a ∈ as
    · rw [c1 a z] at q; cases q
    · rw [c2 a z] at q; exact g.fh a o q
  · by_cases z : a ∈ as
    · exact c1 a z
    · rw [c2 a z]; exact g.ap a o (by rw [k2 a z]; exact q) r
theorem x_lendB (i : Nat) {o : Option V} {r : Ot} {b : Bool} (hi : ρ[i]? = some (.ot o r)) (fl : r.flat) (h : XE K te (ρ.set i (.da r.pd)) (.bool b)) : XE K te ρ (.bool b) := xe_intro fun N σ F H e Q q => by
  have hil := (List.getElem?_eq_some_iff.mp hi).1
  obtain ⟨A, h1, h2, h3⟩ := e.en
  obtain ⟨v, as, ev, kn, ok, nd, own⟩ := h1 i _ hi
  obtain ⟨F1, k1, k2⟩ := lend_heap (as := as) F H
  have ff : Same F F1 := fun a o q => by
    rw [k2 a fun m => by rw [(h3 i a (own a m)).1] at q; cases q]; exact q
  have fh : Same F1 H := fun a o q => by
    by_cases z : a ∈ as
    · rw [k1 a z] at q; exact q
    · rw [k2 a z] at q; exact e.fh a o q
  refine h.e (N := N) (σ := σ) (F := F1) (H := H) ⟨fh, by rw [List.length_set]; exact e.len, fun j a => j ≠ i ∧ A j a, fun j s hs => ?_, fun j k a p q => h2 j k a p.2 q.2, fun j a p => ⟨?_, (h3 j a p.2).2⟩⟩ fun w F' H' g p => ?_
  · by_cases z : j = i
    · subst z
      rw [List.getElem?_set_self hil] at hs
      cases hs
      exact ⟨v, ev, ot_dpF fl ok F1 ff k1⟩
    · rw [List.getElem?_set_ne (Ne.symm z)] at hs
      exact (h1 j s hs).mono ff (fun _ _ _ q => q) fun a q => ⟨z, q⟩
  · rw [k2 a fun m => p.1 (h2 j i a p.2 (own a m))]
    exact (h3 j a p.2).1
  · obtain ⟨F2, g2⟩ := unlendG (fun a m => (h3 i a (own a m)).1) k2 g
    rw [dp_bool p]
    exact q _ F2 H' g2 (.bl b)
/-! ### is True -/
theorem x_isB {a b : Bool} (ha : XE K te ρ (.bool a)) (hb : XE K tb ρ (.bool b)) : XE K (tOp rIsB te tb) ρ (.bool (decide (a = b))) := xe_intro fun N σ F H e Q q => ha.e e fun v F1 H1 g1 p1 => hb.e (e.gr g1) fun w F2 H2 g2 p2 => ⟨a, b, dp_bool p1, dp_bool p2, q _ F2 H2 (g1.trans g2) (.bl _)⟩
theorem x_notB {a b : Bool} (ha : XE K te ρ (.bool a)) (hb : XE K tb ρ (.bool b)) : XE K (tOp rNotB te tb) ρ (.bool (!decide (a = b))) := xe_intro fun N σ F H e Q q => ha.e e fun v F1 H1 g1 p1 => hb.e (e.gr g1) fun w F2 H2 g2 p2 => ⟨a, b, dp_bool p1, dp_bool p2, q _ F2 H2 (g1.trans g2) (.bl _)⟩
/-! ### index in a list of numbers -/
section
variable {X : Cx} {o e : Expr} {es : List Expr} {to : TE} {t : TA} {name : Str} {apos cpos : Pos} {T id : String} {r : V → List V → Hp → VK → Prop} {K : PySem.W.Frag}
theorem mt_indexK (hK : X.K = K := by rfl) : MtR X "list.index" (rIndex K) := by
  subst hK
  exact mt_index
theorem pe_bmK (K : PySem.W.Frag) (pa : PlainAttrs T) (slot : Slot T name id) (hty : typeOf (.builtin id) = pure (.type "method_descriptor")) (hm : MtR X id r) (ho : PE X o to) (ha : PA X (e :: es) t)
    (hK : X.K = K := by rfl)
    (hbase : attributeBase o name X.env (eval o X.env) = eval o X.env := by rfl)
    (hfew : ((backTo cpos (starEach (e :: es) X.env)).all (fun x => !x.1) && (backToKw cpos (keywordEach [] X.env)).all (fun x => x.1.isSome)
      && decide ((e :: es).length + ([] : List Keyword).length + (if ([] : List Keyword).isEmpty then 0 else 1) < 30)) = true := by rfl)
    (hline : (apos.endLine == cpos.line) = true := by rfl) (hs : starEach (e :: es) X.env = (false, eval e X.env) :: starEach es X.env := by rfl) (hplain : (backTo cpos (starEach es X.env)).any (·.1) = false := by rfl) :
    PE X (.Call (.Attribute o name apos) (e :: es) [] cpos) (tBM K T r to t) := by
  subst hK
  exact pe_bm pa slot hty hm ho ha hbase hfew hline hs hplain
end
theorem x_idxL {l : List Nat} {k : Nat} (h : XE K te ρ (.list (l.map nat_))) (hk : XE K tb ρ (.int k)) (m : k ∈ l) : XE K (tBM K "list" (rIndex K) te (tCons tb tNil)) ρ (.int (l.idxOf k)) := xe_intro fun N σ F H e Q q => h.e e fun v F1 H1 g1 p1 => by
  obtain ⟨a, xs, rfl, s, d⟩ := dp_list p1
  rw [nats_dp d] at s
  refine ⟨.inl ⟨rfl, _, g1.fh.seq s⟩, hk.e (e.gr g1) fun y F2 H2 g2 p2 => ?_⟩
  have hj := List.idxOf_lt_length_of_mem m
  refine ⟨a, _, y, l.idxOf k, .int k, rfl, rfl, g2.hh.seq (g1.fh.seq s), by rw [dp_int p2]; rfl, flat_nat l, ?_, by rw [dp_int p2]; simp [eqV], fun j z hm hz => ?_, q _ F2 H2 (g1.trans g2) (.int _)⟩
  · rw [List.getElem?_map, List.getElem?_eq_getElem hj, List.getElem_idxOf]
    rfl
  · rw [List.getElem?_map, List.getElem?_eq_getElem (by omega)] at hz
    cases hz
    rw [dp_int p2]
    have ne : l[j] ≠ k := fun z => by
      have hm2 : j < l.findIdx (· == k) := hm
      have := List.not_of_lt_findIdx hm2
      simp [z] at this
    simp only [eqV]
    simpa using fun z : (l[j] : Int) = k => ne (by omega)
/-! ### min, max of a tuple of numbers -/
end
section
open PyProof.Rows
variable {prog : Program} {w : World} {A : Around} {E : Value → Shared → Prop} {s : Shared}
theorem ints_at {its : List Value} {ns : List Int} (h : IntsAre its ns) : ∀ (i : Nat) v, its[i]? = some v → ∃ t, v = .int (ns.getD i 0) t := by
  induction h with
  | nil => intro i v h; simp at h
  | cons n t r ih =>
    intro i v h
    cases i with
    | zero => cases h; exact ⟨t, rfl⟩
    | succ i => rw [List.getElem?_cons_succ] at h; exact ih i v h
theorem ints_len {its : List Value} {ns : List Int} (h : IntsAre its ns) : its.length = ns.length := by
  induction h with
  | nil => rfl
  | cons n t r ih => simp [ih]
theorem getD_memI {ns : List Int} {i : Nat} (h : i < ns.length) : ns.getD i 0 ∈ ns := by
  rw [List.getD_eq_getElem?_getD, List.getElem?_eq_getElem h]
  exact List.getElem_mem h
theorem mem_getDI {ns : List Int} {a : Int} (h : a ∈ ns) : ∃ i, i < ns.length ∧ ns.getD i 0 = a := by
  obtain ⟨i, hi⟩ := List.getElem?_of_mem h
  exact ⟨i, (List.getElem?_eq_some_iff.mp hi).1, by rw [List.getD_eq_getElem?_getD, hi]; rfl⟩
theorem min_tupI {l : Addr} {its : List Value} {ns : List Int} {Q : Value → Shared → Prop} (hh : A.handled = none) (hl : s.heap.IsTuple l its.toArray) (hi : IntsAre its ns) (hne : 0 < ns.length)
    (h : ∀ h' tk M t', (∀ b o, s.heap.get? b = some o → h'.get? b = some o) → M ∈ ns → (∀ a, a ∈ ns → M ≤ a) → Q (.int M t') { s with heap := h', toks := tk }) : wpAny (model prog w) A (call (.builtin "min") [.ref l]) Q E s := by
  have ln := ints_len hi
  refine call_min_walkH (PySem.W.iter_tupleW (A := A.in1) hh hl fun s₂ e W st hfp hw hk => ?_)
  refine ⟨_, _, _, _, _, _, _, s.heap, _, rfl, W, st, hfp, by rw [List.size_toArray]; omega, hw, hk, fun i j vi vj s' Q E _ => CmpOf.ints_lt (P := fun i v => its.toArray[i]? = some v) (fun i => ns.getD i 0) (fun i v q => ints_at hi i v (by simpa using q)) i j vi vj s' Q E, fun v s' hP m => ?_⟩
  obtain ⟨h', tk, rfl, hk'⟩ := PySem.W.moved_old e rfl m
  obtain ⟨t, rfl⟩ := ints_at hi (argBest (fun i j => decide (ns.getD i 0 < ns.getD j 0)) (its.toArray.size - 1)) v (by rw [← List.getElem?_toArray]; exact hP)
  obtain ⟨h1, h2⟩ := argBest_lt (fun i => ns.getD i 0) (its.toArray.size - 1)
  rw [List.size_toArray] at h1 h2 ⊢
  exact h h' tk _ t hk' (getD_memI (by omega)) fun a ha => by
    obtain ⟨j, hj, rfl⟩ := mem_getDI ha
    exact h2 j (by omega)
theorem max_tupI {l : Addr} {its : List Value} {ns : List Int} {Q : Value → Shared → Prop} (hh : A.handled = none) (hl : s.heap.IsTuple l its.toArray) (hi : IntsAre its ns) (hne : 0 < ns.length)
    (h : ∀ h' tk M t', (∀ b o, s.heap.get? b = some o → h'.get? b = some o) → M ∈ ns → (∀ a, a ∈ ns → a ≤ M) → Q (.int M t') { s with heap := h', toks := tk }) : wpAny (model prog w) A (call (.builtin "max") [.ref l]) Q E s := by
  have ln := ints_len hi
  refine call_max_walkH (PySem.W.iter_tupleW (A := A.in1) hh hl fun s₂ e W st hfp hw hk => ?_)
  refine ⟨_, _, _, _, _, _, _, s.heap, _, rfl, W, st, hfp, by rw [List.size_toArray]; omega, hw, hk, fun i j vi vj s' Q E _ => CmpOf.ints_gt (P := fun i v => its.toArray[i]? = some v) (fun i => ns.getD i 0) (fun i v q => ints_at hi i v (by simpa using q)) i j vi vj s' Q E, fun v s' hP m => ?_⟩
  obtain ⟨h', tk, rfl, hk'⟩ := PySem.W.moved_old e rfl m
  obtain ⟨t, rfl⟩ := ints_at hi (argBest (fun i j => decide (ns.getD i 0 > ns.getD j 0)) (its.toArray.size - 1)) v (by rw [← List.getElem?_toArray]; exact hP)
  obtain ⟨h1, h2⟩ := argBest_gt (fun i => ns.getD i 0) (its.toArray.size - 1)
  rw [List.size_toArray] at h1 h2 ⊢
  exact h h' tk _ t hk' (getD_memI (by omega)) fun a ha => by
    obtain ⟨j, hj, rfl⟩ := mem_getDI ha
    exact h2 j (by omega)
end
def rMinT (K : PySem.W.Frag) : List V → Hp → VK → Prop := fun vs H Q => ∃ (a : Addr) (ns : List Int), vs = [V.ref a] ∧ SqT K H a (ns.map V.int) ∧ 0 < ns.length ∧ ∀ m, m ∈ ns → (∀ y, y ∈ ns → m ≤ y) → Q (.int m) H
def rMaxT (K : PySem.W.Frag) : List V → Hp → VK → Prop := fun vs H Q => ∃ (a : Addr) (ns : List Int), vs = [V.ref a] ∧ SqT K H a (ns.map V.int) ∧ 0 < ns.length ∧ ∀ m, m ∈ ns → (∀ y, y ∈ ns → y ≤ m) → Q (.int m) H
theorem minT_K {X : Cx} {K : PySem.W.Frag} (hc : X.calm = true) (hK : X.K = K := by rfl) : CallR X (.builtin "min") (rMinT K) := by
  subst hK
  intro pins s σ H vs us Q I r h
  obtain ⟨a, ns, rfl, hs, hne, q⟩ := h
  obtain ⟨its, rv, hl, _⟩ := I.tuple hs
  obtain ⟨u, rfl, ru⟩ := vals1 r
  cases ru
  exact min_tupI (I.ok.hd hc) hl (ints_of_vals rv) hne fun h' tk m t' hk h1 h2 => ⟨.int _, H, I.kept hk, ⟨_, rfl⟩, q m h1 h2⟩
theorem maxT_K {X : Cx} {K : PySem.W.Frag} (hc : X.calm = true) (hK : X.K = K := by rfl) : CallR X (.builtin "max") (rMaxT K) := by
  subst hK
  intro pins s σ H vs us Q I r h
  obtain ⟨a, ns, rfl, hs, hne, q⟩ := h
  obtain ⟨its, rv, hl, _⟩ := I.tuple hs
  obtain ⟨u, rfl, ru⟩ := vals1 r
  cases ru
  exact max_tupI (I.ok.hd hc) hl (ints_of_vals rv) hne fun h' tk m t' hk h1 h2 => ⟨.int _, H, I.kept hk, ⟨_, rfl⟩, q m h1 h2⟩
section
variable {K : PySem.W.Frag} {N : Addr → Prop} {ρ ρ' : List Sl} {σ : L2.St} {F H F' H' F0 H0 : Hp} {ta tA : TA} {te tb tc tv : TE} {tt tu : TT} {P : Post} {t u : TS}
theorem x_minT {ns : List Int} {m : Int} (h : XE K te ρ (.tuple (ns.map .int))) (hm : m ∈ ns) (hl : ∀ y ∈ ns, m ≤ y) : XE K (tCB (rMinT K) (tCons te tNil)) ρ (.int m) := xe_intro fun N σ F H e Q q => h.e e fun v F1 H1 g p => by
  obtain ⟨a, xs, rfl, s, d⟩ := dp_tuple p
  rw [dpa_ints d] at s
  refine ⟨a, ns, rfl, sq_t g.fh s, List.length_pos_of_mem hm, fun M h1 h2 => ?_⟩
  rw [Int.le_antisymm (h2 m hm) (hl M h1)]
  exact q _ F1 H1 g (.int _)
theorem x_maxT {ns : List Int} {m : Int} (h : XE K te ρ (.tuple (ns.map .int))) (hm : m ∈ ns) (hl : ∀ y ∈ ns, y ≤ m) : XE K (tCB (rMaxT K) (tCons te tNil)) ρ (.int m) := xe_intro fun N σ F H e Q q => h.e e fun v F1 H1 g p => by
  obtain ⟨a, xs, rfl, s, d⟩ := dp_tuple p
  rw [dpa_ints d] at s
  refine ⟨a, ns, rfl, sq_t g.fh s, List.length_pos_of_mem hm, fun M h1 h2 => ?_⟩
  rw [Int.le_antisymm (hl M h1) (h2 m hm)]
  exact q _ F1 H1 g (.int _)
/-! ### promises about what is only read: data, rows -/
def pureS : Sl → Prop
  | .da _ => True
  | .row _ => True
  | .rows _ => True
  | .fd _ => True
  | _ => False
def PuAll (K : PySem.W.Frag) (F : Hp) (vs : List V) (ss : List Sl) : Prop := vs.length = ss.length ∧ ∀ (i : Nat) s v, ss[i]? = some s → vs[i]? = some v → pureS s ∧ SlOk K F F s (some (some v)) fun _ => False
theorem pu_of {s : Sl} {o : Option (Option V)} {A : Addr → Prop} (h : pureS s) (p : SlOk K F H s o A) : SlOk K F F s o fun _ => False := by
  cases s with
  | da d => exact p
  | row r => exact p
  | rows W => exact p
  | fd kvs => exact p
  | _ => exact h.elim
theorem pu_to {s : Sl} {o : Option (Option V)} {A : Addr → Prop} (h : pureS s) (p : SlOk K F F s o fun _ => False) : SlOk K F H s o A := by
  cases s with
  | da d => exact p
  | row r => exact p
  | rows W => exact p
  | fd kvs => exact p
  | _ => exact h.elim
theorem PuAll.mono {vs : List V} {ss : List Sl} (h : PuAll K F vs ss) (ff : Same F F') : PuAll K F' vs ss := ⟨h.1, fun i s v a b => by
  obtain ⟨k1, k2⟩ := h.2 i s v a b
  exact ⟨k1, pu_of (H := F) k1 (k2.mono ff (fun _ _ z => z.elim) fun _ z => z)⟩⟩
def XQ (K : PySem.W.Frag) (ta : TA) (ρ : List Sl) (ss : List Sl) : Prop := ∀ (N : Addr → Prop) (σ : L2.St) (F H : Hp), En K N ρ σ F H → ∀ Q : List V → Hp → Prop, (∀ vs F' H', Gr F H F' H' → PuAll K F' vs ss → Q vs H') → ta σ H Q
theorem xq_nil : XQ K tNil ρ [] := fun N σ F H e Q q => q [] F H (.refl e.fh) ⟨rfl, fun i s v h => by simp at h⟩
theorem xq_cons {s : Sl} {ss : List Sl} (h : XR K te ρ s) (hp : pureS s) (k : XQ K ta ρ ss) : XQ K (tCons te ta) ρ (s :: ss) := fun N σ F H e Q q => h N σ F H e _ fun v F1 H1 g1 ⟨A, r, _⟩ => k N σ F1 H1 (e.gr g1) _ fun vs F2 H2 g2 p => q (v :: vs) F2 H2 (g1.trans g2) ⟨by simp [p.1], fun i s' v' a b => by
  cases i with
  | zero =>
    cases a
    cases b
    exact ⟨hp, pu_of (H := F2) hp ((pu_of hp r).mono g2.ff (fun _ _ z => z.elim) fun _ z => z)⟩
  | succ i => exact p.2 i s' v' (by simpa using a) (by simpa using b)⟩
def spQ (K : PySem.W.Frag) (R : List Sl → Sl → Prop) : Sp := fun vs H Q _ => ∃ (F : Hp) (ss : List Sl) (s : Sl), Same F H ∧ PuAll K F vs ss ∧ R ss s ∧ ∀ v F' H', Gr F H F' H' → RetOk K (fun a => H a = none) F' H' s v → Q v H'
theorem x_callQ {R : List Sl → Sl → Prop} {E : L2.XK} {ss : List Sl} {s : Sl} (ha : XQ K ta ρ ss) (hp : R ss s) : XR K (tCall (spQ K R) [] E ta) ρ s := fun N σ F H e Q q =>
  ha N σ F H e _ fun vs F1 H1 g1 p1 => ⟨F1, ss, s, g1.fh, by rw [List.append_nil]; exact p1, hp, fun v F' H' g r => q v F' H' (g1.trans g) (r.imp fun a z => g1.hh.free z)⟩
def startQ (N : List Str) (ss : List Sl) : List Sl := ss ++ List.replicate (N.length - ss.length) Sl.un
theorem start_enQ {N : List Str} {vs : List V} {ss : List Sl} {M : Addr → Prop} (e : Same F H) (p : PuAll K F vs ss) : En K M (startQ N ss) (L2.start N vs) F H := by
  have l := p.1
  refine ⟨e, ?_, fun _ _ => False, fun i s hs => ?_, fun _ _ _ z => z.elim, fun _ _ z => z.elim⟩
  · unfold startQ L2.start
    simp [l]
  · unfold startQ at hs
    by_cases hi : i < ss.length
    · rw [List.getElem?_append_left hi] at hs
      have hv : vs[i]? = some vs[i] := List.getElem?_eq_getElem (by omega)
      obtain ⟨k1, k2⟩ := p.2 i s _ hs hv
      have : (L2.start N vs)[i]? = some (some vs[i]) := by
        unfold L2.start
        rw [List.getElem?_append_left (by rw [List.length_map]; omega), List.getElem?_map, hv]
        rfl
      rw [this]
      exact pu_to k1 k2
    · rw [List.getElem?_append_right (by omega), List.getElem?_replicate] at hs
      split at hs
      · cases hs; trivial
      · cases hs
end
section
variable {K : PySem.W.Frag} {Pr : Program} {w : World} {mg : Str → Option Value} {base : Heap}
theorem fnQ_ok {x qual : Str} {st : Stmt} {f : Addr} {fd : FuncData} {N ps : List Str} {k : Nat} {R : List Sl → Sl → Prop} (Fu : Fun K x qual st f fd) (S : FnScope N ps (defScope st)) (len : ∀ ss s, R ss s → ss.length = ps.length)
    (body : ∀ (cdv : Value) (A : Around) (outer : List Env) (s : Shared) (H : Hp) (E : L2.XK), Room k (A.deeper (PyProof.Rows.envOfC qual (defScope st) s.heap.objs.size f cdv)) →
      ∃ t, PSs (cxOf CX0 Pr w K mg base N qual (defScope st) f cdv A outer s H E).nox (defBody st) t ∧ ∀ ss s, R ss s → WS K t (startQ N ss) { nx := fun _ => s = .da .none, rt := fun s' => s' = s }) :
    FnOk Pr w K mg base CX0 (k + 1) f fd ps (spQ K R) := by
  refine Fu.ok S (fun vs H Q E h => ?_) (fun cdv A outer s H vs Q E hr h => ?_)
  · obtain ⟨F, ss, z, _, p, q, _⟩ := h
    rw [p.1]
    exact len ss z q
  · obtain ⟨F, ss, z, e, p, hp, k⟩ := h
    obtain ⟨t, ht, ws⟩ := body cdv A outer s H E hr
    refine ⟨t, ht, ws ss z hp F H _ F H _ ⟨.refl e, start_enQ e p⟩ ⟨fun r σ F' H' z es => ?_, fun s v F' H' z g r => ?_, fun _ _ _ _ z => z.elim, fun _ _ _ _ z => z.elim, fun _ _ _ z => z.elim, fun _ _ _ _ _ _ z => z.elim, fun _ _ _ _ _ z => z.elim⟩⟩
    · exact k _ F' H' es.gr (by rw [z]; exact ret_da .non)
    · rw [z] at r
      exact k _ F' H' g r
theorem fnQ_never {f : Addr} {fd : FuncData} {ps : List Str} : FnOk Pr w K mg base CX0 0 f fd ps (spQ K fun _ _ => False) :=
  ⟨fun vs H Q E ⟨_, _, _, _, _, z, _⟩ => z.elim, fun A outer s H args us vs Q E _ _ _ _ ⟨_, _, _, _, _, z, _⟩ => z.elim⟩
end
end WL

namespace WL
open PySem L2
/-! ### the change of a ring -/
def rA (L : List Tri) (i : Nat) : Tri := L.getD i (0, 0, 0)
theorem rA_at {L : List Tri} {i : Nat} (h : i < L.length) : L[i]? = some (rA L i) := by
  unfold rA
  rw [List.getD_eq_getElem?_getD, List.getElem?_eq_getElem h]
  rfl
def stF (R : List (List Int)) (L : List Tri) : Nat → Int
  | 0 => gM R (rA L 0).1 (rA L 0).2.1
  | i + 1 => if gM R (rA L i).1 (rA L i).2.1 < stF R L i then gM R (rA L i).1 (rA L i).2.1 else stF R L i
def chM1 (S : List (List Int)) (x : Tri) (w : Int) : List (List Int) := upM S x.1 x.2.1 (gM S x.1 x.2.1 - w)
def chM2 (S : List (List Int)) (x : Tri) (w : Int) : List (List Int) := upM (chM1 S x w) x.1 x.2.2 (gM (chM1 S x w) x.1 x.2.2 + w)
def chM (R : List (List Int)) (L : List Tri) (w : Int) : Nat → List (List Int)
  | 0 => R
  | i + 1 => chM2 (chM R L w i) (rA L i) w
structure RingOk (c : Nat) (R : List (List Int)) (W : List (List Nat)) (L : List Tri) : Prop where
  len : 2 ≤ L.length
  le : L.length ≤ c
  nd : (L.map (·.1)).Nodup
  at_ : ∀ (k : Nat) (x : Tri), L[k]? = some x → x.1 < c ∧ x.2.1 < c ∧ x.2.2 < c ∧ gM R x.1 x.2.1 ≠ 0 ∧ ixW W x.1 x.2.2 < ixW W x.1 x.2.1
  nxt : ∀ k, k < L.length → (rA L ((k + 1) % L.length)).2.2 = (rA L k).2.1
theorem ring_ok {c : Nat} {R : List (List Int)} {W : List (List Nat)} {L : List Tri} (hW : WsOk c W) (b : Best (chgE c R W) c c L) : RingOk c R W L := by
  obtain ⟨nd, l2⟩ := ring_nd b
  obtain ⟨s, hs⟩ := b.ch
  refine ⟨l2, b.le, nd, fun k x hx => ?_, fun k hk => ?_⟩
  · obtain ⟨h1, _⟩ := hs.at hx
    obtain ⟨a1, a2, a3, a4⟩ := mem_chg.mp h1
    exact ⟨a2, a1, hW.lt a2 a4, a3, a4⟩
  · obtain ⟨_, h2, h3, h4⟩ := hs.at (rA_at hk)
    by_cases z : k + 1 < L.length
    · rw [Nat.mod_eq_of_lt z]
      exact h3 _ (rA_at z)
    · have e : k + 1 = L.length := by omega
      rw [e, Nat.mod_self, h4 e]
      exact (hs.at (rA_at (show 0 < L.length by omega))).2.1 rfl
section
variable {c : Nat} {R : List (List Int)} {W : List (List Nat)} {L : List Tri}
theorem RingOk.a (h : RingOk c R W L) {k : Nat} (hk : k < L.length) : (rA L k).1 < c ∧ (rA L k).2.1 < c ∧ (rA L k).2.2 < c ∧ gM R (rA L k).1 (rA L k).2.1 ≠ 0 ∧ (rA L k).2.1 ≠ (rA L k).2.2 := by
  obtain ⟨a1, a2, a3, a4, a5⟩ := h.at_ k _ (rA_at hk)
  exact ⟨a1, a2, a3, a4, fun z => by rw [z] at a5; omega⟩
theorem RingOk.inj (h : RingOk c R W L) {i j : Nat} (hi : i < L.length) (hj : j < L.length) (e : (rA L i).1 = (rA L j).1) : i = j := by
  have h1 : (L.map (·.1))[i]? = some (rA L i).1 := by rw [List.getElem?_map, rA_at hi]; rfl
  have h2 : (L.map (·.1))[j]? = some (rA L j).1 := by rw [List.getElem?_map, rA_at hj]; rfl
  exact (List.getElem?_inj (by rw [List.length_map]; exact hi) h.nd).mp (by rw [h1, h2, e])
theorem chM_sq (hR : Sq_ c R) (h : RingOk c R W L) (w : Int) : ∀ i, i ≤ L.length → Sq_ c (chM R L w i)
  | 0, _ => hR
  | i + 1, hi => ((chM_sq hR h w i (by omega)).up (h.a (show i < L.length by omega)).1 _ _).up (h.a (show i < L.length by omega)).1 _ _
theorem chM_get (hR : Sq_ c R) (h : RingOk c R W L) (w : Int) : ∀ i, i ≤ L.length → ∀ p t, p < c → t < c →
    ((∀ k, k < i → (rA L k).1 ≠ p) → gM (chM R L w i) p t = gM R p t) ∧ ∀ k, k < i → (rA L k).1 = p → gM (chM R L w i) p t = gM R p t - (if t = (rA L k).2.1 then w else 0) + (if t = (rA L k).2.2 then w else 0)
  | 0, _, p, t, _, _ => ⟨fun _ => rfl, fun k hk => by omega⟩
  | i + 1, hi, p, t, hp, ht => by
    have il : i < L.length := by omega
    obtain ⟨a1, a2, a3, _, a5⟩ := h.a il
    have sq := chM_sq hR h w i (by omega)
    have sq1 : Sq_ c (chM1 (chM R L w i) (rA L i) w) := sq.up a1 _ _
    have ih := chM_get hR h w i (by omega)
    have e2 : gM (chM R L w (i + 1)) p t = if p = (rA L i).1 ∧ t = (rA L i).2.2 then gM (chM1 (chM R L w i) (rA L i) w) (rA L i).1 (rA L i).2.2 + w else gM (chM1 (chM R L w i) (rA L i) w) p t := gM_up sq1 a1 a3 _ hp ht
    have e1 : ∀ q s, q < c → s < c → gM (chM1 (chM R L w i) (rA L i) w) q s = if q = (rA L i).1 ∧ s = (rA L i).2.1 then gM (chM R L w i) (rA L i).1 (rA L i).2.1 - w else gM (chM R L w i) q s := fun q s hq hs => gM_up sq a1 a2 _ hq hs
    have e3 : gM (chM1 (chM R L w i) (rA L i) w) (rA L i).1 (rA L i).2.2 = gM (chM R L w i) (rA L i).1 (rA L i).2.2 := by rw [e1 _ _ a1 a3, if_neg (fun z => a5 z.2.symm)]
    rw [e3, e1 _ _ hp ht] at e2
    refine ⟨fun no => ?_, fun k hk hkp => ?_⟩
    · have np : ¬ p = (rA L i).1 := fun z => no i (Nat.lt_succ_self _) z.symm
      rw [e2, if_neg (fun z => np z.1), if_neg (fun z => np z.1)]
      exact (ih p t hp ht).1 fun k hk => no k (by omega)
    · by_cases z : k = i
      · subst z
        have old : ∀ s, s < c → gM (chM R L w k) p s = gM R p s := fun s hs => (ih p s hp hs).1 fun j hj q => by
          have := h.inj (i := j) (j := k) (by omega) il (q.trans hkp.symm)
          omega
        rw [e2, hkp, old _ a3, old _ a2, old _ ht]
        by_cases y : t = (rA L k).2.2
        · have y2 : ¬ t = (rA L k).2.1 := fun q => a5 (by rw [← q, y])
          rw [if_pos ⟨rfl, y⟩, if_neg y2, if_pos y, y]
          omega
        · by_cases y2 : t = (rA L k).2.1
          · rw [if_neg (fun z => y z.2), if_pos ⟨rfl, y2⟩, if_pos y2, if_neg y, y2]
            omega
          · rw [if_neg (fun z => y z.2), if_neg (fun z => y2 z.2), if_neg y2, if_neg y]
            omega
      · have np : ¬ p = (rA L i).1 := fun q => by
          have := h.inj (i := k) (j := i) (by omega) il (hkp.trans q)
          exact z this
        rw [e2, if_neg (fun z => np z.1), if_neg (fun z => np z.1)]
        exact (ih p t hp ht).2 k (by omega) hkp
theorem stF_le : ∀ i j, j < i → stF R L i ≤ gM R (rA L j).1 (rA L j).2.1
  | i + 1, j, h => by
    unfold stF
    by_cases z : j = i
    · subst z
      split <;> omega
    · have := stF_le i j (by omega)
      split <;> omega
theorem stF_at : ∀ i, i ≤ L.length → 0 < L.length → ∃ j, j < L.length ∧ stF R L i = gM R (rA L j).1 (rA L j).2.1
  | 0, _, h => ⟨0, h, rfl⟩
  | i + 1, hi, h => by
    unfold stF
    split
    · exact ⟨i, by omega, rfl⟩
    · exact stF_at i (by omega) h
end
end WL

namespace WL
open PySem L2
/-! ### the table behind a ring; deals by turns -/
theorem upto_upd {f g : Nat → Int} {a : Nat} : ∀ {n : Nat}, a < n → (∀ i, i < n → i ≠ a → g i = f i) → upto g n = upto f n + (g a - f a)
  | 0, h, _ => by omega
  | n + 1, h, k => by
    show upto g n + g n = upto f n + f n + (g a - f a)
    by_cases z : a = n
    · subst z
      rw [upto_congr (f := g) (g := f) fun i hi => k i (by omega) (by omega)]
      omega
    · rw [upto_upd (f := f) (a := a) (by omega) fun i hi => k i (by omega), k n (by omega) (fun y => z y.symm)]
      omega
theorem upto_shift (F : Nat → Int) : ∀ m, upto F (m + 1) = F 0 + upto (fun k => F (k + 1)) m
  | 0 => by show upto F 0 + F 0 = F 0 + 0; show 0 + F 0 = _; omega
  | m + 1 => by
    show upto F (m + 1) + F (m + 1) = F 0 + (upto (fun k => F (k + 1)) m + F (m + 1))
    rw [upto_shift F m]
    omega
theorem upto_turn (F : Nat → Int) (n : Nat) : upto (fun k => F ((k + 1) % n)) n = upto F n := by
  cases n with
  | zero => rfl
  | succ m =>
    rw [upto_shift F m]
    show upto _ m + F ((m + 1) % (m + 1)) = _
    rw [Nat.mod_self, upto_congr (g := fun k => F (k + 1)) fun i hi => by rw [Nat.mod_eq_of_lt (by omega)]]
    omega
section
variable {c : Nat} {R : List (List Int)} {W : List (List Nat)} {L : List Tri} {T : Int}
theorem row_up {S : List (List Int)} (h : Sq_ c S) {a b : Nat} (ha : a < c) (hb : b < c) (v : Int) {p : Nat} (hp : p < c) : upto (fun t => gM (upM S a b v) p t) c = upto (fun t => gM S p t) c + (if p = a then v - gM S a b else 0) := by
  by_cases z : p = a
  · subst z
    rw [upto_upd (f := fun t => gM S p t) (a := b) hb fun i hi hne => by show gM (upM S p b v) p i = _; rw [gM_up h ha hb v hp hi, if_neg fun q => hne q.2]]
    show _ + (gM (upM S p b v) p b - _) = _
    rw [gM_up h ha hb v hp hb, if_pos ⟨rfl, rfl⟩, if_pos rfl]
  · rw [if_neg z, Int.add_zero]
    exact upto_congr fun i hi => by rw [gM_up h ha hb v hp hi, if_neg fun q => z q.1]
theorem col_up {S : List (List Int)} (h : Sq_ c S) {a b : Nat} (ha : a < c) (hb : b < c) (v : Int) {t : Nat} (ht : t < c) : upto (fun p => gM (upM S a b v) p t) c = upto (fun p => gM S p t) c + (if t = b then v - gM S a b else 0) := by
  by_cases z : t = b
  · subst z
    rw [upto_upd (f := fun p => gM S p t) (a := a) ha fun i hi hne => by show gM (upM S a t v) i t = _; rw [gM_up h ha hb v hi ht, if_neg fun q => hne q.1]]
    show _ + (gM (upM S a t v) a t - _) = _
    rw [gM_up h ha hb v ha ht, if_pos ⟨rfl, rfl⟩, if_pos rfl]
  · rw [if_neg z, Int.add_zero]
    exact upto_congr fun i hi => by rw [gM_up h ha hb v hi ht, if_neg fun q => z q.2]
theorem chM_row (hR : Sq_ c R) (h : RingOk c R W L) (w : Int) {p : Nat} (hp : p < c) : ∀ i, i ≤ L.length → upto (fun t => gM (chM R L w i) p t) c = upto (fun t => gM R p t) c
  | 0, _ => rfl
  | i + 1, hi => by
    obtain ⟨a1, a2, a3, _⟩ := h.a (show i < L.length by omega)
    have sq := chM_sq hR h w i (by omega)
    have sq1 : Sq_ c (chM1 (chM R L w i) (rA L i) w) := sq.up a1 _ _
    show upto (fun t => gM (upM (chM1 (chM R L w i) (rA L i) w) (rA L i).1 (rA L i).2.2 _) p t) c = _
    rw [row_up sq1 a1 a3 _ hp]
    show upto (fun t => gM (upM (chM R L w i) (rA L i).1 (rA L i).2.1 _) p t) c + _ = _
    rw [row_up sq a1 a2 _ hp, chM_row hR h w hp i (by omega)]
    split <;> omega
theorem chM_col (hR : Sq_ c R) (h : RingOk c R W L) (w : Int) {t : Nat} (ht : t < c) : ∀ i, i ≤ L.length → upto (fun p => gM (chM R L w i) p t) c = upto (fun p => gM R p t) c - upto (fun k => if t = (rA L k).2.1 then w else 0) i + upto (fun k => if t = (rA L k).2.2 then w else 0) i
  | 0, _ => by
    show upto (fun p => gM R p t) c = upto (fun p => gM R p t) c - 0 + 0
    omega
  | i + 1, hi => by
    obtain ⟨a1, a2, a3, _⟩ := h.a (show i < L.length by omega)
    have sq := chM_sq hR h w i (by omega)
    have sq1 : Sq_ c (chM1 (chM R L w i) (rA L i) w) := sq.up a1 _ _
    show upto (fun p => gM (upM (chM1 (chM R L w i) (rA L i) w) (rA L i).1 (rA L i).2.2 _) p t) c = _ - (upto _ i + if t = (rA L i).2.1 then w else 0) + (upto _ i + if t = (rA L i).2.2 then w else 0)
    rw [col_up sq1 a1 a3 _ ht]
    show upto (fun p => gM (upM (chM R L w i) (rA L i).1 (rA L i).2.1 _) p t) c + _ = _
    rw [col_up sq a1 a2 _ ht, chM_col hR h w ht i (by omega)]
    (split <;> split <;> omega)
theorem chM_bal (b : Bal c R T) (h : RingOk c R W L) {w : Int} (w0 : 0 ≤ w) (w1 : ∀ k, k < L.length → w ≤ gM R (rA L k).1 (rA L k).2.1) : Bal c (chM R L w L.length) T := by
  refine ⟨chM_sq b.sq h w _ (Nat.le_refl _), fun p t hp ht => ?_, fun p hp => by rw [chM_row b.sq h w hp _ (Nat.le_refl _)]; exact b.row p hp, fun t ht => ?_⟩
  · obtain ⟨g1, g2⟩ := chM_get b.sq h w L.length (Nat.le_refl _) p t hp ht
    by_cases z : ∃ k, k < L.length ∧ (rA L k).1 = p
    · obtain ⟨k, hk, e⟩ := z
      rw [g2 k hk e]
      have h1 := b.nn p t hp ht
      have h2 := w1 k hk
      rw [e] at h2
      by_cases y : t = (rA L k).2.1
      · rw [if_pos y]
        rw [← y] at h2
        split <;> omega
      · rw [if_neg y]
        split <;> omega
    · rw [g1 fun k hk e => z ⟨k, hk, e⟩]
      exact b.nn p t hp ht
  · rw [chM_col b.sq h w ht _ (Nat.le_refl _), b.col t ht]
    have : upto (fun k => if t = (rA L k).2.1 then w else 0) L.length = upto (fun k => if t = (rA L k).2.2 then w else 0) L.length := by
      rw [← upto_turn (fun k => if t = (rA L k).2.2 then w else 0)]
      exact upto_congr fun k hk => by
        show (if t = (rA L k).2.1 then w else 0) = if t = (rA L ((k + 1) % L.length)).2.2 then w else 0
        rw [h.nxt k hk]
    omega
end
end WL

namespace WL
open PySem L2
theorem sum_ind {w : Int} {a : Nat} : ∀ {l : List Nat}, l.Nodup → (l.map fun s => if s = a then w else 0).sum = if a ∈ l then w else 0
  | [], _ => rfl
  | x :: l, nd => by
    have n := List.nodup_cons.mp nd
    rw [List.map_cons, List.sum_cons, sum_ind n.2]
    by_cases z : x = a
    · subst z
      rw [if_pos rfl, if_neg n.1, if_pos List.mem_cons_self]
      omega
    · rw [if_neg z]
      have : a ∈ x :: l ↔ a ∈ l := by rw [List.mem_cons]; exact ⟨fun h => h.elim (fun e => (z e.symm).elim) id, .inr⟩
      simp only [this]
      omega
theorem sum3 {f a b d : Nat → Int} : ∀ {l : List Nat}, (∀ s ∈ l, f s = a s - b s + d s) → (l.map f).sum = (l.map a).sum - (l.map b).sum + (l.map d).sum
  | [], _ => rfl
  | x :: l, h => by
    rw [List.map_cons, List.sum_cons, List.map_cons, List.sum_cons, List.map_cons, List.sum_cons, List.map_cons, List.sum_cons, sum3 fun s m => h s (List.mem_cons_of_mem _ m), h x List.mem_cons_self]
    omega
theorem mem_take_ix {a k : Nat} : ∀ {l : List Nat}, a ∈ l → (a ∈ l.take k ↔ l.idxOf a < k) := by
  induction k with
  | zero => intro l _; simp
  | succ k ih =>
    intro l h
    cases l with
    | nil => cases h
    | cons x l =>
      rw [List.take_succ_cons, List.idxOf_cons]
      by_cases z : x = a
      · subst z; simp
      · have z' : ¬ a = x := fun q => z q.symm
        rw [show (x == a) = false by simpa using z, List.mem_cons]
        have hm : a ∈ l := (List.mem_cons.mp h).elim (fun e => (z' e).elim) id
        rw [ih hm]
        simp [z']
section
variable {c : Nat} {R : List (List Int)} {W : List (List Nat)} {L : List Tri} {T w : Int}
/-- what stands up to a place of one's row, behind the change -/
theorem pre_ring (hR : Sq_ c R) (h : RingOk c R W L) (hW : WsOk c W) (w : Int) {k : Nat} (hk : k < L.length) (j : Nat) : preI (gM (chM R L w L.length)) (W.getD (rA L k).1 []) (rA L k).1 j = preI (gM R) (W.getD (rA L k).1 []) (rA L k).1 j - (if ixW W (rA L k).1 (rA L k).2.1 < j then w else 0) + (if ixW W (rA L k).1 (rA L k).2.2 < j then w else 0) := by
  obtain ⟨a1, a2, a3, _⟩ := h.a hk
  have pm := (hW.at a1).2
  have nd := pm.nodup_iff.mpr List.nodup_range
  have ndt : ((W.getD (rA L k).1 []).take j).Nodup := nd.sublist (List.take_sublist _ _)
  unfold preI
  rw [sum3 (a := gM R (rA L k).1) (b := fun s => if s = (rA L k).2.1 then w else 0) (d := fun s => if s = (rA L k).2.2 then w else 0) fun s m => (chM_get hR h w L.length (Nat.le_refl _) _ s a1 (List.mem_range.mp (pm.mem_iff.mp (List.mem_of_mem_take m)))).2 k hk rfl, sum_ind ndt, sum_ind ndt]
  have e1 := mem_take_ix (k := j) (pm.mem_iff.mpr (List.mem_range.mpr a2))
  have e2 := mem_take_ix (k := j) (pm.mem_iff.mpr (List.mem_range.mpr a3))
  unfold ixW
  simp only [e1, e2]
theorem pre_other (hR : Sq_ c R) (h : RingOk c R W L) (w : Int) {p : Nat} (hp : p < c) (no : ∀ k, k < L.length → (rA L k).1 ≠ p) : (chM R L w L.length).getD p [] = R.getD p [] := by
  have s1 := (chM_sq hR h w L.length (Nat.le_refl _)).at hp
  have s2 := hR.at hp
  refine List.ext_getElem? fun t => ?_
  by_cases z : t < c
  · have e1 := (chM_sq hR h w L.length (Nat.le_refl _)).cell hp z
    have e2 := hR.cell hp z
    rw [e1, e2, (chM_get hR h w L.length (Nat.le_refl _) p t hp z).1 no]
  · rw [List.getElem?_eq_none (by omega), List.getElem?_eq_none (by omega)]
end
/-! ### deals of an order can be had by turns -/
def bestL (row left : List Nat) : List Nat := row.filter fun x => decide (x ∈ left)
def rdyL (W : List (List Nat)) (d P left : List Nat) : List Nat := P.filter fun one => decide ((bestL (W.getD one []) left).getD 0 0 = dAt d one)
structure TurnI (c : Nat) (d P left : List Nat) : Prop where
  nd : P.Nodup
  lt : ∀ p ∈ P, p < c
  ndl : left.Nodup
  own : ∀ t, t ∈ left ↔ ∃ p ∈ P, dAt d p = t
theorem head_ix {f : Nat → Bool} {x : Nat} : ∀ {l : List Nat}, x ∈ l → f x = true → ∃ b, (l.filter f).getD 0 0 = b ∧ b ∈ l ∧ f b = true ∧ l.idxOf b ≤ l.idxOf x
  | a :: l, hx, hf => by
    by_cases z : f a = true
    · refine ⟨a, by rw [List.filter_cons_of_pos z]; rfl, List.mem_cons_self, z, ?_⟩
      rw [List.idxOf_cons]
      simp
    · have na : a ≠ x := fun q => z (by rw [q]; exact hf)
      have hm : x ∈ l := (List.mem_cons.mp hx).elim (fun e => (na e.symm).elim) id
      obtain ⟨b, h1, h2, h3, h4⟩ := head_ix hm hf
      refine ⟨b, by rw [List.filter_cons_of_neg z]; exact h1, List.mem_cons_of_mem _ h2, h3, ?_⟩
      have nb : a ≠ b := fun q => z (by rw [q]; exact h3)
      rw [List.idxOf_cons, List.idxOf_cons, show (a == b) = false by simpa using nb, show (a == x) = false by simpa using na]
      simpa using h4
theorem least_ex {f : Nat → Nat} : ∀ {l : List Nat}, l ≠ [] → ∃ t ∈ l, ∀ s ∈ l, f t ≤ f s
  | [a], _ => ⟨a, List.mem_cons_self, fun s m => by rw [List.mem_singleton.mp m]; exact Nat.le_refl _⟩
  | a :: b :: l, _ => by
    obtain ⟨t, h1, h2⟩ := least_ex (f := f) (l := b :: l) (by simp)
    by_cases z : f a ≤ f t
    · refine ⟨a, List.mem_cons_self, fun s m => ?_⟩
      rcases List.mem_cons.mp m with rfl | m
      · exact Nat.le_refl _
      · exact Nat.le_trans z (h2 s m)
    · refine ⟨t, List.mem_cons_of_mem _ h1, fun s m => ?_⟩
      rcases List.mem_cons.mp m with rfl | m
      · omega
      · exact h2 s m
section
variable {c : Nat} {R : List (List Int)} {W : List (List Nat)} {o d P left : List Nat}
theorem TurnI.ready (h : TurnI c d P left) (hW : WsOk c W) (ho : OrdOk c R W o) (hd : d.Perm (List.range c)) (hs : ∀ p, p < c → gM R p (dAt d p) ≠ 0) (ne : P ≠ []) : rdyL W d P left ≠ [] := by
  have nel : left ≠ [] := fun z => by
    obtain ⟨p, hp⟩ := List.exists_mem_of_ne_nil P ne
    have := (h.own (dAt d p)).mpr ⟨p, hp, rfl⟩
    rw [z] at this
    cases this
  obtain ⟨t, ht, hmin⟩ := least_ex (f := fun t => o.idxOf t) nel
  obtain ⟨p, hp, e⟩ := (h.own t).mp ht
  have hpc := h.lt p hp
  have pm := (hW.at hpc).2
  have htc : t < c := by rw [← e]; exact (perm_at hd hpc).1
  obtain ⟨b, h1, h2, h3, h4⟩ := head_ix (f := fun x => decide (x ∈ left)) (pm.mem_iff.mpr (List.mem_range.mpr htc)) (decide_eq_true ht)
  have eb : b = t := by
    apply Classical.byContradiction
    intro nb
    have lt : ixW W p b < ixW W p t := by
      apply Nat.lt_of_le_of_ne h4
      intro q
      have m2 := pm.mem_iff.mpr (List.mem_range.mpr htc)
      have l1 := List.idxOf_lt_length_iff.mpr h2
      have l2 := List.idxOf_lt_length_iff.mpr m2
      have e1 := List.getElem_idxOf l1
      have e2 := List.getElem_idxOf l2
      apply nb
      rw [← e1, ← e2]
      congr 1
    have up := ho.up p t b hpc htc (by rw [← e]; exact hs p hpc) lt
    have := hmin b (of_decide_eq_true h3)
    omega
  intro z
  have : p ∈ rdyL W d P left := List.mem_filter.mpr ⟨hp, decide_eq_true (by unfold bestL; rw [h1, eb, e])⟩
  rw [z] at this
  cases this
theorem TurnI.step (h : TurnI c d P left) (hd : d.Perm (List.range c)) {p : Nat} (hp : p ∈ P) : TurnI c d (P.erase p) (left.erase (dAt d p)) := by
  have inj : ∀ a b, a ∈ P → b ∈ P → dAt d a = dAt d b → a = b := fun a b ha hb q => by
    obtain ⟨_, e1⟩ := perm_at hd (h.lt a ha)
    obtain ⟨_, e2⟩ := perm_at hd (h.lt b hb)
    exact (List.getElem?_inj (List.getElem?_eq_some_iff.mp e1).1 (hd.nodup_iff.mpr List.nodup_range)).mp (by rw [e1, e2, q])
  refine ⟨h.nd.erase p, fun q m => h.lt q (List.mem_of_mem_erase m), h.ndl.erase _, fun t => ?_⟩
  rw [h.ndl.mem_erase_iff, h.own t]
  constructor
  · rintro ⟨n, q, hq, e⟩
    exact ⟨q, (h.nd.mem_erase_iff).mpr ⟨fun z => n (by rw [← e, z]), hq⟩, e⟩
  · rintro ⟨q, hq, e⟩
    obtain ⟨n, m⟩ := (h.nd.mem_erase_iff).mp hq
    exact ⟨fun z => n (inj q p m hp (by rw [e, z])), q, m, e⟩
theorem turn_start (hd : d.Perm (List.range c)) : TurnI c d (List.range c) (List.range c) := ⟨List.nodup_range, fun p m => List.mem_range.mp m, List.nodup_range, fun t => ⟨fun m => by
  obtain ⟨p, hp⟩ := List.getElem?_of_mem (hd.mem_iff.mpr m)
  have pl : p < c := by
    have := (List.getElem?_eq_some_iff.mp hp).1
    rw [hd.length_eq, List.length_range] at this
    exact this
  refine ⟨p, List.mem_range.mpr pl, ?_⟩
  have := (perm_at hd pl).2
  rw [hp] at this
  exact (Option.some.inj this).symm, fun ⟨p, m, e⟩ => List.mem_range.mpr (by rw [← e]; exact (perm_at hd (List.mem_range.mp m)).1)⟩⟩
end
end WL

namespace WL
open PySem L2
section
variable {K : PySem.W.Frag} {N : Addr → Prop} {ρ ρ' : List Sl} {σ : L2.St} {F H F' H' F0 H0 : Hp} {ta tA : TA} {te tb tc tv td ty : TE} {tt tu : TT} {P : Post} {t u : TS}
/-! ### instances: their fields -/
def fixN : List Str → Str → Option Nat
  | [], _ => none
  | n :: ns, f => if f == n then some 0 else (fixN ns f).map (· + 1)
theorem fixN_look : ∀ {ns : List Str} {f : Str} {k : Nat} {vs : List V} {v : V}, fixN ns f = some k → vs[k]? = some v → (ns.zip vs).lookup f = some v
  | [], _, _, _, _, h, _ => nomatch h
  | n :: ns, f, k, [], v, _, h => by simp at h
  | n :: ns, f, k, w :: vs, v, h, hv => by
    unfold fixN at h
    show List.lookup f ((n, w) :: ns.zip vs) = _
    rw [List.lookup_cons]
    cases e : f == n with
    | true =>
      rw [e] at h
      cases h
      simpa using hv
    | false =>
      rw [e] at h
      simp only [Bool.false_eq_true, if_false] at h
      obtain ⟨j, hj, rfl⟩ := Option.map_eq_some_iff.mp h
      exact fixN_look hj (by simpa using hv)
theorem fixN_none : ∀ {ns : List Str} {f : Str} {vs : List V}, fixN ns f = none → (ns.zip vs).lookup f = none
  | [], _, _, _ => rfl
  | n :: ns, f, [], h => rfl
  | n :: ns, f, w :: vs, h => by
    unfold fixN at h
    show List.lookup f ((n, w) :: ns.zip vs) = _
    rw [List.lookup_cons]
    cases e : f == n with
    | true => rw [e] at h; cases h
    | false =>
      rw [e] at h
      simp only [Bool.false_eq_true, if_false, Option.map_eq_none_iff] at h
      exact fixN_none h
theorem fixN_lt : ∀ {ns : List Str} {f : Str} {k : Nat}, fixN ns f = some k → k < ns.length
  | n :: ns, f, k, h => by
    unfold fixN at h
    cases e : f == n with
    | true => rw [e] at h; cases h; simp
    | false =>
      rw [e] at h
      simp only [Bool.false_eq_true, if_false] at h
      obtain ⟨j, hj, rfl⟩ := Option.map_eq_some_iff.mp h
      have := fixN_lt hj
      simp; omega
theorem fixN_put : ∀ {ns : List Str} {f : Str} {k : Nat} {vs : List V} {y : V}, fixN ns f = some k → ns.length = vs.length → putF f y (ns.zip vs) = ns.zip (vs.set k y)
  | [], _, _, _, _, h, _ => nomatch h
  | n :: ns, f, k, [], y, _, h => by simp at h
  | n :: ns, f, k, w :: vs, y, h, l => by
    unfold fixN at h
    show putF f y ((n, w) :: ns.zip vs) = _
    unfold putF
    cases e : f == n with
    | true =>
      rw [e] at h
      cases h
      rw [if_pos (beq_iff_eq.mp e).symm]
      rfl
    | false =>
      rw [e] at h
      simp only [Bool.false_eq_true, if_false] at h
      obtain ⟨j, hj, rfl⟩ := Option.map_eq_some_iff.mp h
      rw [if_neg fun z => beq_eq_false_iff_ne.mp e z.symm, fixN_put hj (by simpa using l)]
      rfl
theorem fixN_new : ∀ {ns : List Str} {f : Str} {vs : List V} {y : V}, fixN ns f = none → ns.length = vs.length → putF f y (ns.zip vs) = (ns ++ [f]).zip (vs ++ [y])
  | [], _, [], _, _, _ => rfl
  | [], _, _ :: _, _, _, h => by simp at h
  | n :: ns, f, [], y, _, h => by simp at h
  | n :: ns, f, w :: vs, y, h, l => by
    unfold fixN at h
    show putF f y ((n, w) :: ns.zip vs) = _
    unfold putF
    cases e : f == n with
    | true => rw [e] at h; cases h
    | false =>
      rw [e] at h
      simp only [Bool.false_eq_true, if_false, Option.map_eq_none_iff] at h
      rw [if_neg fun z => beq_eq_false_iff_ne.mp e z.symm, fixN_new h (by simpa using l)]
      rfl
/-- path.f, a path -/
theorem xf_fld {i k : Nat} {o : Option V} {r : Ot} {C : Addr} {ns : List Str} {ts : List Ot} {p : List Nat} {f : Str} (h : XF K te ρ i p) (hi : ρ[i]? = some (.ot o r)) (hs : r.sub p = some (.ob C ns ts)) (hf : fixN ns f = some k) (cl : Cls K C) (na : NoAttr K C f) : XF K (tFld K te f) ρ i (p ++ [k]) := fun N σ F H e Q q =>
  h N σ F H e _ fun w F1 H1 g1 ⟨v, hv, hw⟩ => by
    obtain ⟨bs, ok⟩ := (e.gr g1).see hi hs hv hw
    cases ok with
    | @ob l dx C ns vs ts as hl hd len pk =>
      have len2 := ots_len pk
      have hk : k < vs.length := by have := fixN_lt hf; omega
      have hx : vs[k]? = some vs[k] := List.getElem?_eq_getElem hk
      refine ⟨l, C, dx, _, vs[k], rfl, hl, cl, na, fixN_look hf hx, q _ F1 H1 g1 ⟨v, hv, ?_⟩⟩
      rw [walk_app p [k] hw, walk_cons]
      simp only [hl]
      rw [show kidsV (.ins C dx (ns.zip vs)) = (ns.zip vs).map (·.2) from rfl, zip_snd (by omega), hx]
      rfl
/-- a field of a new instance -/
theorem x_fldR {k : Nat} {C : Addr} {ns : List Str} {ts : List Ot} {f : Str} {s : Ot} (h : XR K te ρ (.ot none (.ob C ns ts))) (hf : fixN ns f = some k) (hs : ts[k]? = some s) (cl : Cls K C) (na : NoAttr K C f) : XR K (tFld K te f) ρ (.ot none s) := fun N σ F H e Q q =>
  h N σ F H e _ fun w F1 H1 g1 ⟨A, ⟨v, as, ev, _, ok, nd, own⟩, fr⟩ => by
    cases ev
    cases ok with
    | @ob l dx C ns vs ts as hl hd len pk =>
      have len2 := ots_len pk
      obtain ⟨x, xs, bs, ys, hx, rfl, hok, _⟩ := ots_foc pk hs
      refine ⟨l, C, dx, _, x, rfl, hl, cl, na, fixN_look hf hx, q x F1 H1 g1 ⟨A, ⟨x, bs, rfl, (fun _ z => nomatch z), hok, ?_, fun a m => own a ?_⟩, fr⟩⟩
      · exact ((List.nodup_append.mp (List.nodup_append.mp (List.nodup_cons.mp (List.nodup_cons.mp nd).2).2).2.1).1)
      · exact List.mem_cons_of_mem _ (List.mem_cons_of_mem _ (List.mem_append_right _ (List.mem_append_left _ m)))
/-- path.f = e, there before -/
theorem s_fldSet {i k : Nat} {o : Option V} {r u' : Ot} {C : Addr} {ns : List Str} {ts : List Ot} {p : List Nat} {f : Str} (hv : XR K tv ρ (.ot none u')) (h : XF K te ρ i p) (hi : ρ[i]? = some (.ot o r)) (hs : r.sub p = some (.ob C ns ts)) (hf : fixN ns f = some k) (cl : Cls K C) (na : NoAttr K C f) (hz : ns.length < 1000) (kk : P.nx (ρ.set i (.ot o (r.put p (.ob C ns (ts.set k u')))))) : WS K (sFld K te tv f) ρ P := fun F0 H0 σ F H D e fi =>
  hv _ σ F H e.en _ fun y F1 H1 g1 ry => h _ σ F1 H1 (e.go g1).en _ fun w F2 H2 g2 ⟨v, ev, hw⟩ => by
    have e2 := (e.ext g1 ry).go g2
    obtain ⟨v', w', bs, cs, h1, h2, h3, h4, h5, h6, back⟩ := e2.foc hi hs
    rw [ev] at h1
    cases h1
    rw [hw] at h2
    cases h2
    cases h3 with
    | @ob l dx C ns vs ts as hl hd len pk =>
      have len2 := ots_len pk
      have ne : dx ≠ l := fun z => by
        have := (List.nodup_append.mp h5).1
        rw [z] at this
        exact (List.nodup_cons.mp this).1 List.mem_cons_self
      have kt : k < ts.length := by have := fixN_lt hf; omega
      obtain ⟨x, xs, b0, ys, hx, rfl, hok, put⟩ := ots_foc pk (List.getElem?_eq_getElem kt)
      have nl : l ∉ (dx :: (xs ++ (b0 ++ ys))) ++ cs := (List.nodup_cons.mp (by simpa using h5)).1
      have nda : (dx :: (xs ++ (b0 ++ ys)) ++ cs).Nodup := (List.nodup_cons.mp (by simpa using h5)).2
      have keep : ∀ a, a ≠ l → ∀ o', H2 a = some o' → upd H2 l (.ins C dx (putF f y (ns.zip vs))) a = some o' := fun a z o' q => by rw [upd_ne z]; exact q
      have pm : (xs ++ (cs ++ ys) ++ b0).Perm (xs ++ (b0 ++ ys) ++ cs) := by
        simp only [List.append_assoc]
        refine List.Perm.append_left xs ?_
        have : (cs ++ (ys ++ b0)).Perm ((ys ++ b0) ++ cs) := List.perm_append_comm
        refine this.trans ?_
        rw [List.append_assoc]
        have q : (ys ++ (b0 ++ cs)).Perm ((b0 ++ cs) ++ ys) := List.perm_append_comm
        refine q.trans ?_
        rw [List.append_assoc]
        exact List.Perm.append_left b0 List.perm_append_comm
      have inn : ∀ a, a ∈ xs ++ (cs ++ ys) → a ∈ (dx :: (xs ++ (b0 ++ ys))) ++ cs := fun a m => by
        have := pm.mem_iff.mp (List.mem_append_left b0 m)
        exact List.mem_cons_of_mem _ this
      have inx : ∀ a, a ∈ xs ++ ys → a ∈ (dx :: (xs ++ (b0 ++ ys))) ++ cs := fun a m => by
        refine List.mem_append_left _ (List.mem_cons_of_mem _ ?_)
        rcases List.mem_append.mp m with m | m
        · exact List.mem_append_left _ m
        · exact List.mem_append_right _ (List.mem_append_right _ m)
      refine ⟨l, C, dx, _, rfl, hl, cl, na, by rw [List.length_zip]; omega, fi.nx _ _ F2 _ kk (back F2 _ (.ob C ns (ts.set k u')) (l :: dx :: (xs ++ (cs ++ ys))) ⟨Same.refl _, fun a u q => ?_, fun a o' no q => ?_, fun a o' _ q _ => q⟩ (.ob (vs := vs.set k y) (by rw [upd_same, fixN_put hf (by omega)]) (keep dx ne _ hd) (by rw [List.length_set]; exact len) (put F2 _ u' y cs (Same.refl _) (fun a m o' q => keep a (fun z => nl (by rw [← z]; exact inx a m)) o' q) (h4.mono (Same.refl _) fun a m o' q => keep a (fun z => nl (by rw [← z]; exact List.mem_append_right _ m)) o' q))) ?_ fun a m => ?_)⟩
      · rw [upd_ne (ne_of_none q (h6 l (by simp)).1)]; exact e2.en.fh a u q
      · rw [upd_ne fun z => no (by rw [z]; simp)]; exact q
      · refine List.nodup_cons.mpr ⟨fun m => ?_, List.nodup_cons.mpr ⟨fun m => ?_, ?_⟩⟩
        · rcases List.mem_cons.mp m with z | m
          · exact ne z.symm
          · exact nl (inn l m)
        · have n2 : dx ∉ xs ++ (b0 ++ ys) ++ cs := (List.nodup_cons.mp (by simpa using nda)).1
          exact n2 (pm.mem_iff.mp (List.mem_append_left b0 m))
        · have n3 : (xs ++ (b0 ++ ys) ++ cs).Nodup := (List.nodup_cons.mp (by simpa using nda)).2
          exact (List.nodup_append.mp (pm.nodup_iff.mpr n3)).1
      · have : a ∈ (l :: dx :: (xs ++ (b0 ++ ys))) ++ cs := by
          rcases List.mem_cons.mp m with z | m
          · rw [z]; simp
          · rcases List.mem_cons.mp m with z | m
            · rw [z]; simp
            · exact List.mem_cons_of_mem _ (inn a m)
        exact ⟨.inl this, (h6 a this).1⟩
/-- path.f = e, new -/
theorem s_fldNew {i : Nat} {o : Option V} {r u' : Ot} {C : Addr} {ns : List Str} {ts : List Ot} {p : List Nat} {f : Str} (hv : XR K tv ρ (.ot none u')) (h : XF K te ρ i p) (hi : ρ[i]? = some (.ot o r)) (hs : r.sub p = some (.ob C ns ts)) (hf : fixN ns f = none) (cl : Cls K C) (na : NoAttr K C f) (hz : ns.length < 1000) (kk : P.nx (ρ.set i (.ot o (r.put p (.ob C (ns ++ [f]) (ts ++ [u'])))))) : WS K (sFld K te tv f) ρ P := fun F0 H0 σ F H D e fi =>
  hv _ σ F H e.en _ fun y F1 H1 g1 ry => h _ σ F1 H1 (e.go g1).en _ fun w F2 H2 g2 ⟨v, ev, hw⟩ => by
    have e2 := (e.ext g1 ry).go g2
    obtain ⟨v', w', bs, cs, h1, h2, h3, h4, h5, h6, back⟩ := e2.foc hi hs
    rw [ev] at h1
    cases h1
    rw [hw] at h2
    cases h2
    cases h3 with
    | @ob l dx C ns vs ts as hl hd len pk =>
      have len2 := ots_len pk
      have ne : dx ≠ l := fun z => by
        have := (List.nodup_append.mp h5).1
        rw [z] at this
        exact (List.nodup_cons.mp this).1 List.mem_cons_self
      have nl : l ∉ (dx :: as) ++ cs := (List.nodup_cons.mp (by simpa using h5)).1
      have keep : ∀ a, a ≠ l → ∀ o', H2 a = some o' → upd H2 l (.ins C dx (putF f y (ns.zip vs))) a = some o' := fun a z o' q => by rw [upd_ne z]; exact q
      refine ⟨l, C, dx, _, rfl, hl, cl, na, by rw [List.length_zip]; omega, fi.nx _ _ F2 _ kk (back F2 _ (.ob C (ns ++ [f]) (ts ++ [u'])) (l :: dx :: (as ++ cs)) ⟨Same.refl _, fun a u q => ?_, fun a o' no q => ?_, fun a o' _ q _ => q⟩ (.ob (vs := vs ++ [y]) (by rw [upd_same, fixN_new hf (by omega)]) (keep dx ne _ hd) (by simp [len]) ((ots_app pk (ots_one h4)).mono (Same.refl _) fun a m o' q => keep a (fun z => nl (by rw [← z]; exact List.mem_cons_of_mem _ m)) o' q)) (by simpa using h5) fun a m => ?_)⟩
      · rw [upd_ne (ne_of_none q (h6 l (by simp)).1)]; exact e2.en.fh a u q
      · rw [upd_ne fun z => no (by rw [z]; simp)]; exact q
      · have : a ∈ (l :: dx :: as) ++ cs := by simpa using m
        exact ⟨.inl this, (h6 a this).1⟩
/-! ### methods, new instances -/
theorem xw_meth {i : Nat} {o : Option V} {C D : Addr} {ns : List Str} {ts : List Ot} {m : Str} {E : L2.XK} {R : List Ot → Option Ot → List (Option Ot) → Prop} {us : List Ot} {al : List (Option (Nat × Option V))} {r : Ot} {back : List (Option Ot)} {PP : Sl → List Sl → Prop} (hi : ρ[i]? = some (.ot o (.ob C ns ts))) (hm : fixN ns m = none)
    (ha : XAE K (tCons (tVar i) ta) ρ us al ρ') (hl : ρ'.length = ρ.length) (hR : R us (some r) back) (k : PP (.ot none r) (backR ρ' al back)) : XW K (tMeth C m (spO K D R) [] E (tVar i) ta) ρ PP := fun F0 H0 σ F H e Q q => by
  obtain ⟨v, hv, rest⟩ := xw_call (E := E) (C := D) ha hl hR k F0 H0 σ F H e Q q
  obtain ⟨v', w, bs, ev, hw, ok⟩ := e.en.peek hi (p := []) rfl
  cases hw
  rw [hv] at ev
  cases ev
  cases ok with
  | @ob l dx C ns vs ts as hl hd len pk => exact ⟨_, hv, l, dx, _, rfl, hl, fixN_none hm, rest⟩
theorem xw_methX {i : Nat} {o : Option V} {C D : Addr} {ns : List Str} {ts : List Ot} {m : Str} {E : L2.XK} {R : List Ot → Option Ot → List (Option Ot) → Prop} {us : List Ot} {al : List (Option (Nat × Option V))} {r : Ot} {back : List (Option Ot)} {PP : Sl → List Sl → Prop} (hi : ρ[i]? = some (.ot o (.ob C ns ts))) (hm : fixN ns m = none)
    (ha : XAE K (tCons (tVar i) ta) ρ us al ρ') (hl : ρ'.length = ρ.length) (hR : R us (some r) back) (k : PP (.ot none r) (backR ρ' al back)) : XW K (tMeth C m (spO K D R) [] E (tVar i) ta) ρ PP := xw_meth hi hm ha hl hR k
theorem bk_nones : ∀ {vs : List V} {n : Nat} {xs : List Addr}, BkOk K F H vs (List.replicate n none) xs → xs = []
  | _, 0, _, .nil => rfl
  | _, n + 1, _, .non q => bk_nones q
theorem x_make {C D : Addr} {E : L2.XK} {R : List Ot → Option Ot → List (Option Ot) → Prop} {ds : List PyData} {r : Ot} (ha : XA K ta ρ ds) (hR : R (.ob C [] [] :: ds.map .da) (some (.da .none)) (some r :: List.replicate ds.length none)) : XR K (tMake C (spO K D R) [] E ta) ρ (.ot none r) := fun N σ F H e Q q =>
  ha N σ F H e _ fun vs F1 H1 g1 p x dx nx nd ne => by
    have fh1 : Same H1 (upd (upd H1 dx (.own x)) x (.ins C dx [])) := (same_new (o := .own x) nd).trans fun a o z => by
      have : a ≠ x := fun y => by
        rw [y, upd_ne ne.symm, nx] at z
        cases z
      rw [upd_ne this]
      exact z
    refine ⟨F1, H1, _, _, _, [x, dx], g1.fh.trans fh1, fh1, ?_, ?_, fun a m => ?_, fun a o no z => ?_, hR, fun r' hr v F2 H2 rs xs g ok bk ndx fr => ?_, fun z => nomatch z⟩
    · rw [List.append_nil]
      exact .cons (as := [x, dx]) (bs := []) (.ob (ns := []) (vs := []) (ts := []) (as := []) upd_same (by rw [upd_ne ne, upd_same]) rfl .nil) (ots_das p)
    · simpa using ne.symm
    · rcases List.mem_cons.mp m with rfl | m
      · exact ⟨g1.fh.free nx, nx⟩
      · rw [List.mem_singleton.mp m]
        exact ⟨g1.fh.free nd, nd⟩
    · have n1 : a ≠ x := fun y => no (by rw [y]; simp)
      have n2 : a ≠ dx := fun y => no (by rw [y]; simp)
      rw [upd_ne n1, upd_ne n2] at z
      exact z
    · cases hr
      cases ok with
      | da pn =>
        refine ⟨dp_none pn, ?_⟩
        rw [List.append_nil] at bk
        cases bk with
        | @own _ _ _ _ ys xs ok2 q2 =>
          have := bk_nones q2
          subst this
          simp only [List.nil_append, List.append_nil] at ndx fr
          refine q (.ref x) F2 H2 (g1.trans g) ⟨fun a => a ∈ ys, ⟨.ref x, ys, rfl, (fun _ z => nomatch z), ok2, ndx, fun _ m => m⟩, fun a m => ?_⟩
          obtain ⟨o, ho⟩ := ot_here ok2 a m
          exact ⟨(fr a m).1, g1.hh.free (fr a m).2, o, ho⟩
/-- a call of a def of own things that takes data alone -/
theorem x_callO {D : Addr} {E : L2.XK} {R : List Ot → Option Ot → List (Option Ot) → Prop} {ds : List PyData} {r : Ot} (ha : XA K ta ρ ds) (hR : R (ds.map .da) (some r) (List.replicate ds.length none)) : XR K (tCall (spO K D R) [] E ta) ρ (.ot none r) := fun N σ F H e Q q =>
  ha N σ F H e _ fun vs F1 H1 g1 p => by
    rw [List.append_nil]
    refine ⟨F1, H1, _, _, _, [], g1.fh, Same.refl _, ots_das p, List.nodup_nil, (fun a m => nomatch m), (fun a o _ z => z), hR, fun r' hr v F2 H2 rs xs g ok bk ndx fr => ?_, fun z => nomatch z⟩
    cases hr
    have := bk_nones bk
    subst this
    rw [List.append_nil] at ndx fr
    refine q v F2 H2 (g1.trans g) ⟨fun a => a ∈ rs, ⟨v, rs, rfl, (fun _ z => nomatch z), ok, ndx, fun _ m => m⟩, fun a m => ?_⟩
    obtain ⟨o, ho⟩ := ot_here ok a m
    exact ⟨(fr a m).1, g1.hh.free (fr a m).2, o, ho⟩
end
end WL

namespace WL
open PySem L2
section
variable {K : PySem.W.Frag} {N : Addr → Prop} {ρ ρ' : List Sl} {σ : L2.St} {F H F' H' F0 H0 : Hp} {ta tA : TA} {te tb tc tv td ty t1 t2 : TE} {tt tu : TT} {P : Post} {t u : TS}
/-! ### a dict lent to a def that only reads -/
def fdN (h : List (Nat × PyData)) : List (Key × PyData) := h.map fun x => (nK x.1, x.2)
theorem fdN_fst (h : List (Nat × PyData)) : (fdN h).map (·.1) = kz h := by unfold fdN kz; rw [List.map_map]; rfl
theorem fdN_snd (h : List (Nat × PyData)) : (fdN h).map (·.2) = h.map (·.2) := by unfold fdN; rw [List.map_map]; rfl
def atomD : PyData → Prop
  | .list _ => False
  | .tuple _ => False
  | _ => True
theorem dp_atom {d : PyData} {v : V} (h : atomD d) (p : Dp K F v d) : Dp K F' v d := by
  cases p with
  | non => exact .non
  | bl b => exact .bl b
  | int i => exact .int i
  | str x => exact .str x
  | lst _ _ => exact h.elim
  | tup _ _ => exact h.elim
theorem x_lendQ {i : Nat} {o : Option V} {r : Ot} {p : List Nat} {h : List (Nat × PyData)} {d res : PyData} {R : List Sl → Sl → Prop} {E : L2.XK} (h1 : XE K t1 ρ d) (h2 : XF K t2 ρ i p) (hi : ρ[i]? = some (.ot o r)) (hs : r.sub p = some (dicD h)) (hp : R [.da d, .fd (fdN h)] (.da res)) (ha : atomD res) : XE K (tCall (spQ K R) [] E (tCons t1 (tCons t2 tNil))) ρ res := xe_intro fun N σ F H e Q q =>
  h1.e e fun x F1 H1 g1 px => h2 _ σ F1 H1 (e.gr g1) _ fun w F2 H2 g2 ⟨v, hv, hw⟩ => by
    obtain ⟨v', w', bs, ev, hw', ok, _, fr, _⟩ := (((Es.mk ⟨.refl _, e.fh, e.fh, fun _ _ z _ => z⟩ ⟨e.fh, e.len, by
      obtain ⟨A, a1, a2, a3⟩ := e.en
      exact ⟨A, a1, a2, fun j a z => ⟨(a3 j a z).1, (a3 j a z).1, (a3 j a z).2.2⟩⟩⟩ : Es K F F ρ σ F H).go g1).go g2).foc0 hi hs
    rw [hv] at ev
    cases ev
    rw [hw] at hw'
    cases hw'
    cases ok with
    | @di l ks vs ts as hl len pk =>
      obtain ⟨dp, rfl⟩ := ots_dic pk
      have fl : F2 l = none := (fr l List.mem_cons_self).1
      have fh : Same (upd F2 l (.dK ((kz h).zip vs))) H2 := fun a o z => by
        by_cases y : a = l
        · rw [y, upd_same] at z
          rw [y, hl]; exact z
        · rw [upd_ne y] at z; exact g2.fh a o z
      refine ⟨upd F2 l (.dK ((kz h).zip vs)), [.da d, .fd (fdN h)], .da res, fh, ⟨rfl, fun i s v a b => ?_⟩, hp, fun v F' H' g rr => ?_⟩
      · match i, a, b with
        | 0, a, b =>
          cases a
          cases b
          exact ⟨trivial, _, rfl, dp_mono (g2.ff.trans (same_new fl)) _ _ px⟩
        | 1, a, b =>
          cases a
          cases b
          exact ⟨trivial, l, vs, rfl, by rw [fdN_fst]; exact upd_same, by rw [fdN_snd]; exact dps_mono (same_new fl) _ _ dp⟩
        | n + 2, a, b => simp at a
      · have pv : Dp K F' v res := of_ret_da rr
        exact q v F2 H' ((g1.trans g2).trans ⟨Same.refl _, g.hh, g2.fh.trans g.hh, fun _ _ z _ => z⟩) (dp_atom ha pv)
/-- k in d, of a dict that is only read -/
theorem x_dinF {i : Nat} {h : List (Nat × PyData)} {k : Nat} (hi : ρ[i]? = some (.fd (fdN h))) (hk : XE K ty ρ (.int k)) : XE K (tDIn ty (tVar i)) ρ (.bool (getN h k).isSome) := xe_intro fun N σ F H e Q q => hk.e e fun y F1 H1 g1 py => by
  obtain ⟨A, h1, _⟩ := (e.gr g1).en
  obtain ⟨a, vs, ev, ha, dp⟩ := h1 i _ hi
  rw [fdN_fst] at ha
  rw [fdN_snd] at dp
  obtain ⟨z1, z2⟩ := zip_get dp k
  have : (getN h k).isSome = (valV ((kz h).zip vs) (nK k)).isSome := by
    cases e : getN h k with
    | none => rw [z1 e]; rfl
    | some d => obtain ⟨v, hv, _⟩ := z2 d e; rw [hv]; rfl
  rw [this] at q
  exact ⟨.ref a, ev, _, _, rfl, by rw [dp_int py]; exact DGet.k (k := nK k) (g1.fh a _ ha), q _ F1 H1 g1 (.bl _)⟩
/-! ### path.pop(k) of a dict, told to nobody -/
def dropN {α : Type} (h : List (Nat × α)) (k : Nat) : List (Nat × α) := h.filter fun x => decide (x.1 ≠ k)
theorem zip_drop {h : List (Nat × PyData)} {vs : List V} (p : DpAll K F vs (h.map (·.2))) (k : Nat) : ∃ vs', dropK ((kz h).zip vs) (nK k) = (kz (dropN h k)).zip vs' ∧ DpAll K F vs' ((dropN h k).map (·.2)) := by
  induction h generalizing vs with
  | nil => cases p; exact ⟨[], rfl, .nil⟩
  | cons x h ih =>
    match vs, p with
    | w :: vs, .cons p ps =>
      obtain ⟨vs', e1, e2⟩ := ih ps
      have e0 : dropK ((kz (x :: h)).zip (w :: vs)) (nK k) = if x.1 = k then dropK ((kz h).zip vs) (nK k) else (nK x.1, w) :: dropK ((kz h).zip vs) (nK k) := by
        show List.filter _ ((nK x.1, w) :: (kz h).zip vs) = _
        rw [List.filter_cons]
        by_cases y : x.1 = k
        · rw [if_pos y, if_neg (by simp [nK_inj, y])]; rfl
        · rw [if_neg y, if_pos (by simp [nK_inj, y])]; rfl
      have e3 : dropN (x :: h) k = if x.1 = k then dropN h k else x :: dropN h k := by
        show List.filter _ (x :: h) = _
        rw [List.filter_cons]
        by_cases y : x.1 = k
        · rw [if_pos y, if_neg (by simp [y])]; rfl
        · rw [if_neg y, if_pos (by simp [y])]; rfl
      rw [e0, e3]
      by_cases y : x.1 = k
      · rw [if_pos y, if_pos y]; exact ⟨vs', e1, e2⟩
      · rw [if_neg y, if_neg y, e1]
        exact ⟨w :: vs', rfl, .cons p e2⟩
theorem s_dpopP {i : Nat} {o : Option V} {r : Ot} {p : List Nat} {h : List (Nat × PyData)} {k : Nat} {d : PyData} (hf : XF K td ρ i p) (hi : ρ[i]? = some (.ot o r)) (hs : r.sub p = some (dicD h)) (hk : XE K ty ρ (.int k)) (hg : getN h k = some d) (kk : P.nx (ρ.set i (.ot o (r.put p (dicD (dropN h k)))))) : WS K (tDrop (tDPop1 td ty)) ρ P := fun F0 H0 σ F H D e f =>
  hf _ σ F H e.en _ fun w F2 H2 g2 ⟨v, hvv, hw⟩ => by
    obtain ⟨bs, ok⟩ := (e.go g2).en.see hi hs hvv hw
    cases ok with
    | @di l0 ks vs ts as hl _ pk =>
      refine ⟨l0, rfl, .inl ⟨_, .inl hl⟩, hk.e (e.go g2).en fun y F3 H3 g3 py => ?_⟩
      obtain ⟨v', l, vs, ev, hw', hl, dp, back⟩ := ((e.go g2).go g3).di hi hs
      rw [hvv] at ev
      cases ev
      rw [walk_mono g3.hh p hw] at hw'
      cases hw'
      obtain ⟨u, hu, _⟩ := (zip_get dp k).2 d hg
      obtain ⟨vs', e1, e2⟩ := zip_drop dp k
      refine ⟨_, nK k, u, hl, by rw [dp_int py]; rfl, hu, ?_⟩
      rw [e1]
      exact f.nx _ _ _ _ kk (back _ _ e2)
/-! ### d.setdefault(k, []).append(e) -/
def dicL (h : List (Nat × List PyData)) : Ot := .di (h.map fun x => nK x.1) (h.map fun x => lD x.2)
def addL (h : List (Nat × List PyData)) (k : Nat) (d : PyData) : List (Nat × List PyData) := match getN h k with
  | some _ => h.map fun x => if x.1 = k then (x.1, x.2 ++ [d]) else x
  | none => h ++ [(k, [d])]
theorem getN_fst {α : Type} : ∀ {h : List (Nat × α)} {k : Nat} {a : α}, getN h k = some a → ∃ j : Nat, h[j]? = some (k, a) ∧ ∀ (i : Nat), i < j → ∀ (x : Nat × α), h[i]? = some x → x.1 ≠ k
  | x :: h, k, a, e => by
    unfold getN at e
    by_cases z : x.1 = k
    · rw [if_pos z] at e
      cases e
      exact ⟨0, by rw [← z]; rfl, fun i hi => by omega⟩
    · rw [if_neg z] at e
      obtain ⟨j, h1, h2⟩ := getN_fst e
      refine ⟨j + 1, by simpa using h1, fun i hi y hy => ?_⟩
      cases i with
      | zero => cases hy; exact z
      | succ i => exact h2 i (by omega) y (by simpa using hy)
theorem valV_zip {α : Type} : ∀ {h : List (Nat × α)} {k : Nat} {vs : List V}, h.length = vs.length → (getN h k = none → valV ((h.map fun x => nK x.1).zip vs) (nK k) = none) ∧ ∀ (j : Nat), (∃ a, h[j]? = some (k, a)) → (∀ (i : Nat), i < j → ∀ (x : Nat × α), h[i]? = some x → x.1 ≠ k) → valV ((h.map fun x => nK x.1).zip vs) (nK k) = vs[j]?
  | [], k, vs, l => ⟨fun _ => rfl, fun j ⟨a, h⟩ => by simp at h⟩
  | x :: h, k, [], l => by simp at l
  | x :: h, k, v :: vs, l => by
    obtain ⟨i1, i2⟩ := valV_zip (h := h) (k := k) (vs := vs) (by simpa using l)
    refine ⟨fun e => ?_, fun j ⟨a, hj⟩ hm => ?_⟩
    · unfold getN at e
      by_cases z : x.1 = k
      · rw [if_pos z] at e; cases e
      · rw [if_neg z] at e
        show valV ((nK x.1, v) :: _) _ = none
        rw [valV_neg fun q => z (nK_inj.mp q)]
        exact i1 e
    · show valV ((nK x.1, v) :: (h.map fun x => nK x.1).zip vs) _ = _
      cases j with
      | zero =>
        cases hj
        rw [valV_pos rfl]
        rfl
      | succ j =>
        have z : x.1 ≠ k := hm 0 (by omega) x rfl
        rw [valV_neg fun q => z (nK_inj.mp q), i2 j ⟨a, by simpa using hj⟩ fun i hi y hy => hm (i + 1) (by omega) y (by simpa using hy)]
        simp
theorem map_set_at {α β : Type} {f : α → β} {l : List α} {j : Nat} {b : β} {g : α → α} (h : ∀ i x, l[i]? = some x → (i = j → f (g x) = b) ∧ (i ≠ j → f (g x) = f x)) : (l.map f).set j b = (l.map g).map f := by
  refine List.ext_getElem? fun i => ?_
  rw [List.getElem?_map, List.getElem?_map]
  by_cases z : i = j
  · subst z
    cases e : l[i]? with
    | none =>
      have : (l.map f).length ≤ i := by rw [List.length_map]; exact List.getElem?_eq_none_iff.mp e
      rw [List.set_eq_of_length_le this, List.getElem?_map, e]; rfl
    | some x =>
      have hi : i < (l.map f).length := by rw [List.length_map]; exact (List.getElem?_eq_some_iff.mp e).1
      rw [List.getElem?_set_self hi]
      exact congrArg some ((h i x e).1 rfl).symm
  · rw [List.getElem?_set_ne (Ne.symm z), List.getElem?_map]
    cases e : l[i]? with
    | none => rfl
    | some x => exact congrArg some ((h i x e).2 z).symm
theorem put_app : ∀ (p : List Nat) {t s : Ot} {k : Nat} {s0 u : Ot}, t.sub p = some s → s.kids[k]? = some s0 → t.put (p ++ [k]) u = t.put p (s.putK k u)
  | [], t, s, k, s0, u, h, hk => by
    cases h
    show t.put [k] u = _
    rw [put_cons hk, put_nil, put_nil]
  | j :: p, t, s, k, s0, u, h, hk => by
    unfold Ot.sub at h
    cases e : t.kids[j]? with
    | none => rw [e] at h; cases h
    | some r =>
      rw [e] at h
      show t.put (j :: (p ++ [k])) u = _
      rw [put_cons e, put_cons e, put_app p h hk]
theorem kid_sub {s s0 : Ot} {k : Nat} (h : s.kids[k]? = some s0) : s.sub [k] = some s0 := by
  unfold Ot.sub
  rw [h]
  rfl
/-- what stands behind a change may be changed again -/
theorem sub_put : ∀ (p : List Nat) {t s u : Ot}, t.sub p = some s → (t.put p u).sub p = some u
  | [], t, s, u, h => by rw [put_nil]; rfl
  | k :: p, t, s, u, h => by
    unfold Ot.sub at h
    cases e : t.kids[k]? with
    | none => rw [e] at h; cases h
    | some r =>
      rw [e] at h
      rw [put_cons e]
      have hk : k < t.kids.length := (List.getElem?_eq_some_iff.mp e).1
      have : (t.putK k (r.put p u)).kids[k]? = some (r.put p u) := by
        cases t with
        | li ts => exact List.getElem?_set_self hk
        | tu ts => exact List.getElem?_set_self hk
        | di ks ts => exact List.getElem?_set_self hk
        | ob C ns ts => exact List.getElem?_set_self hk
        | da d => simp [Ot.kids] at hk
        | at_ v => simp [Ot.kids] at hk
      unfold Ot.sub
      rw [this]
      exact sub_put p h
theorem put_put : ∀ (p : List Nat) {t s u w : Ot}, t.sub p = some s → (t.put p u).put p w = t.put p w
  | [], t, s, u, w, h => by rw [put_nil, put_nil]
  | k :: p, t, s, u, w, h => by
    unfold Ot.sub at h
    cases e : t.kids[k]? with
    | none => rw [e] at h; cases h
    | some r =>
      rw [e] at h
      have hk : k < t.kids.length := (List.getElem?_eq_some_iff.mp e).1
      have : (t.putK k (r.put p u)).kids[k]? = some (r.put p u) := by
        cases t with
        | li ts => exact List.getElem?_set_self hk
        | tu ts => exact List.getElem?_set_self hk
        | di ks ts => exact List.getElem?_set_self hk
        | ob C ns ts => exact List.getElem?_set_self hk
        | da d => simp [Ot.kids] at hk
        | at_ v => simp [Ot.kids] at hk
      rw [put_cons e, put_cons this, put_put p h, put_cons e]
      cases t <;> simp [Ot.putK, List.set_set]
theorem s_setdApp {i : Nat} {o : Option V} {h : List (Nat × List PyData)} {k : Nat} {d : PyData} (hi : ρ[i]? = some (.ot o (dicL h))) (hk : XE K ty ρ (.int k)) (hv : ∀ t', XE K tv (ρ.set i (.ot o t')) d) (hz : h.length ≤ 1000) (hz2 : ∀ x ∈ h, x.2.length ≤ 1000) (hnd : (h.map (·.1)).Nodup) (kk : P.nx (ρ.set i (.ot o (dicL (addL h k d))))) :
    WS K (tDrop (tBM K "list" rAppend (tDSetd (tVar i) ty (tLst tNil)) (tCons tv tNil))) ρ P := fun F0 H0 σ F H D e f => by
  have hil := (List.getElem?_eq_some_iff.mp hi).1
  obtain ⟨v, w, bs, ev, hw, ok⟩ := e.en.peek hi (p := []) rfl
  cases hw
  cases ok with
  | @di l ks vs ts as hl len pk =>
    have len2 := ots_len pk
    rw [List.length_map] at len2
    refine ⟨.ref l, ev, l, rfl, .inl ⟨_, .inl hl⟩, hk.e e.en fun y F2 H2 g2 py => ⟨Nat.zero_le _, fun p np => ?_⟩⟩
    have e2 := e.go g2
    have ek : y = kV (nK k) := by rw [dp_int py]; rfl
    have hl2 : H2 l = some (.dK ((h.map fun x => nK x.1).zip vs)) := g2.hh l _ hl
    have npl : l ≠ p := fun z => by rw [z, np] at hl2; cases hl2
    have hl3 : upd H2 p (.lst []) l = some (.dK ((h.map fun x => nK x.1).zip vs)) := by rw [upd_ne npl]; exact hl2
    have gp : Gr F2 H2 F2 (upd H2 p (.lst [])) := .own e2.en.fh np
    have e3 : Es K F0 H0 (ρ ++ [.ot none (lD [])]) (σ ++ [some (.ref p)]) F2 (upd H2 p (.lst [])) := e2.ext gp ⟨fun a => a = p, ⟨.ref p, [p], rfl, (fun _ z => nomatch z), .li (vs := []) upd_same .nil, by simp, fun a m => List.mem_singleton.mp m⟩, fun a z => by rw [z]; exact ⟨e2.en.fh.free np, np, _, upd_same⟩⟩
    refine ⟨_, nK k, hl3, ek, by rw [List.length_zip, List.length_map]; exact Nat.lt_of_le_of_lt (Nat.le_trans (Nat.min_le_left _ _) hz) (by decide), fun vj hvj => ?_, fun hn => ?_⟩
    · -- the key is there
      have hg : ∃ ds, getN h k = some ds := by
        cases q : getN h k with
        | none => rw [(valV_zip (vs := vs) len2).1 q] at hvj; cases hvj
        | some ds => exact ⟨ds, rfl⟩
      obtain ⟨ds, hg⟩ := hg
      obtain ⟨j, hj, hfirst⟩ := getN_fst hg
      rw [(valV_zip (vs := vs) len2).2 j ⟨ds, hj⟩ hfirst] at hvj
      have hsub : (dicL h).sub [j] = some (lD ds) := kid_sub (by show (h.map fun x => lD x.2)[j]? = _; rw [List.getElem?_map, hj]; rfl)
      have wlk : walkH (upd H2 p (.lst [])) (.ref l) [j] = some vj := by
        rw [walk_cons]
        simp only [hl3]
        rw [show kidsV (.dK ((h.map fun x => nK x.1).zip vs)) = ((h.map fun x => nK x.1).zip vs).map (·.2) from rfl, zip_snd (by rw [List.length_map]; omega), hvj]
        rfl
      have e3' := e3.pop
      obtain ⟨bs, ok⟩ := e3'.en.see hi hsub ev wlk
      cases ok with
      | @li lj xs ts as hlj pkj =>
        refine ⟨.inl ⟨rfl, xs, SqL.of hlj⟩, (show XE K tv ρ d by have := hv (dicL h); rw [set_same hi] at this; exact this).e e3'.en fun z F4 H4 g4 pz => ?_⟩
        obtain ⟨v', l', vs', as', cs, ev', hw', hl', pk', okz, nd, back⟩ := ((e3'.go g4).non).li hi hsub
        rw [ev] at ev'
        cases ev'
        rw [walk_mono g4.hh [j] wlk] at hw'
        cases hw'
        cases okz
        have lx := ots_len pk'
        rw [List.length_map] at lx
        refine ⟨_, vs', z, rfl, rfl, hl', by rw [← lx]; exact Nat.lt_of_le_of_lt (hz2 _ (List.mem_of_getElem? hj)) (by decide), f.nx _ _ F4 _ kk ?_⟩
        have := back (vs' ++ [z]) (ds.map .da ++ [.da d]) as' (by have := ots_app pk' (ots_one (.da pz)); rw [List.append_nil] at this; exact this) (by rw [List.append_nil] at nd; exact nd) fun a m => List.mem_append_left _ m
        have et : (dicL h).put [j] (.li (ds.map .da ++ [.da d])) = dicL (addL h k d) := by
          rw [put_cons (by show (h.map fun x => lD x.2)[j]? = some (lD ds); rw [List.getElem?_map, hj]; rfl), put_nil]
          unfold addL dicL
          rw [hg]
          show Ot.di _ _ = Ot.di _ _
          refine congr (congrArg _ ?_) ?_
          · rw [List.map_map]
            refine List.map_congr_left fun x _ => ?_
            show nK x.1 = nK (if x.1 = k then (x.1, x.2 ++ [d]) else x).1
            split <;> rfl
          · refine map_set_at (f := fun (x : Nat × List PyData) => lD x.2) fun i' x hx => ⟨fun z => ?_, fun z => ?_⟩
            · rw [z, hj] at hx
              cases hx
              show lD (if k = k then (k, ds ++ [d]) else (k, ds)).2 = _
              rw [if_pos rfl]
              show Ot.li _ = Ot.li _
              rw [List.map_append]
              rfl
            · have : x.1 ≠ k := fun y => z (List.getElem?_inj (l := h.map (·.1)) (by rw [List.length_map]; exact (List.getElem?_eq_some_iff.mp hx).1) hnd |>.mp (by rw [List.getElem?_map, List.getElem?_map, hx, hj]; exact congrArg some y))
              rw [if_neg this]
        rw [et] at this
        exact this
    · -- a new key
      have hg : getN h k = none := by
        cases q : getN h k with
        | none => rfl
        | some ds =>
          obtain ⟨j, hj, hfirst⟩ := getN_fst q
          rw [(valV_zip (vs := vs) len2).2 j ⟨ds, hj⟩ hfirst] at hn
          have := List.getElem?_eq_none_iff.mp hn
          have := (List.getElem?_eq_some_iff.mp hj).1
          omega
      obtain ⟨v', w', bs, cs, h1, h2, h3, h4, h5, h6, back⟩ := e3.foc hi (p := []) rfl
      rw [ev] at h1
      cases h1
      cases h2
      cases h4 with
      | @li p' xs0 ts0 as0 hp0 pk0 =>
      cases pk0
      cases h3 with
      | @di l' ks' vs' ts' as' hl' len' pk' =>
        have lv' := ots_len pk'
        rw [List.length_map] at lv'
        have zz : (h.map fun x => nK x.1).zip vs' = (h.map fun x => nK x.1).zip vs := by
          rw [hl3] at hl'
          exact (HO.dK.inj (Option.some.inj hl')).symm
        have nl : l ∉ as' ++ [p] := (List.nodup_cons.mp (by simpa using h5)).1
        have enew : putK ((h.map fun x => nK x.1).zip vs) (nK k) (.ref p) = ((h ++ [(k, ([] : List PyData))]).map fun x => nK x.1).zip (vs' ++ [.ref p]) := by
          rw [putK_new _ hn, List.map_append, List.zip_append (by rw [List.length_map]; exact lv'), zz]
          rfl
        have keep : ∀ (o' : HO) a, a ≠ l → ∀ u', upd H2 p (.lst []) a = some u' → upd (upd H2 p (.lst [])) l o' a = some u' := fun o' a z u' q => by rw [upd_ne z]; exact q
        have e4 := back F2 (upd (upd H2 p (.lst [])) l (.dK (putK ((h.map fun x => nK x.1).zip vs) (nK k) (.ref p)))) (dicL (h ++ [(k, [])])) (l :: (as' ++ [p])) ⟨Same.refl _, fun a u q => by rw [upd_ne (ne_of_none q (h6 l (by simp)).1)]; exact e3.en.fh a u q, fun a o' no q => by rw [upd_ne fun z => no (by rw [z]; simp)]; exact q, fun a o' _ q _ => q⟩
          (.di (vs := vs' ++ [.ref p]) (by rw [upd_same, enew]) (by simp) (by
            rw [List.map_append]
            exact (ots_app pk' (ots_one (.li (vs := []) hp0 .nil))).mono (Same.refl _) fun a m u' q => keep _ a (fun z => nl (by rw [← z]; exact m)) u' q)) (by simpa using h5) fun a m => by
              have : a ∈ l :: as' ++ [p] := by simpa using m
              exact ⟨.inl this, (h6 a this).1⟩
        rw [put_nil] at e4
        have hj : (h ++ [(k, ([] : List PyData))])[h.length]? = some (k, []) := by rw [List.getElem?_append_right (Nat.le_refl _), Nat.sub_self]; rfl
        have hsub : (dicL (h ++ [(k, [])])).sub [h.length] = some (lD []) := kid_sub (by show ((h ++ [(k, ([] : List PyData))]).map fun x => lD x.2)[h.length]? = _; rw [List.getElem?_map, hj]; rfl)
        have hi4 : (ρ.set i (.ot o (dicL (h ++ [(k, [])]))))[i]? = some (.ot o (dicL (h ++ [(k, [])]))) := List.getElem?_set_self hil
        have hp4 : upd (upd H2 p (.lst [])) l (.dK (putK ((h.map fun x => nK x.1).zip vs) (nK k) (.ref p))) p = some (.lst []) := by rw [upd_ne npl.symm, upd_same]
        refine ⟨.inl ⟨rfl, _, SqL.of hp4⟩, (hv _).e e4.en fun z F5 H5 g5 pz => ?_⟩
        have wlk : walkH H5 (.ref l) [h.length] = some (.ref p) := by
          refine walk_mono g5.hh [h.length] ?_
          rw [walk_cons, upd_same, enew]
          simp only []
          rw [show ∀ kv, kidsV (.dK kv) = kv.map (·.2) from fun _ => rfl, zip_snd (by simp; omega), lv', List.getElem?_append_right (Nat.le_refl _), Nat.sub_self]
          rfl
        obtain ⟨v5, l5, vs5, as5, cs5, ev5, hw5, hl5, pk5, okz, nd5, back5⟩ := ((e4.go g5).non).li hi4 hsub
        rw [ev] at ev5
        cases ev5
        rw [wlk] at hw5
        cases hw5
        cases okz
        cases pk5
        refine ⟨p, [], z, rfl, rfl, hl5, by decide, f.nx _ _ F5 _ kk ?_⟩
        have := back5 [z] [.da d] [] (ots_one (.da pz)) List.nodup_nil fun a m => nomatch m
        rw [List.set_set] at this
        have et : (dicL (h ++ [(k, [])])).put [h.length] (.li [.da d]) = dicL (addL h k d) := by
          rw [put_cons (by show ((h ++ [(k, ([] : List PyData))]).map fun x => lD x.2)[h.length]? = some (lD []); rw [List.getElem?_map, hj]; rfl), put_nil]
          unfold addL dicL
          rw [hg]
          show Ot.di _ _ = Ot.di _ _
          refine congr (congrArg _ ?_) ?_
          · rw [List.map_append, List.map_append]; rfl
          · show ((h ++ [(k, ([] : List PyData))]).map fun x => lD x.2).set h.length _ = _
            rw [List.map_append, List.map_append, List.set_append_right _ _ (by simp)]
            simp [lD]
        rw [et] at this
        exact this
/-- a dict whose lists are known from now on -/
theorem s_frzDic (i : Nat) {o : Option V} {h : List (Nat × List PyData)} (hi : ρ[i]? = some (.ot o (dicL h))) (k : WS K t (ρ.set i (.ot o (dicD (h.map fun x => (x.1, .list x.2))))) P) : WS K t ρ P := fun F0 H0 σ F H D e f => by
  have hil := (List.getElem?_eq_some_iff.mp hi).1
  obtain ⟨A, h1, h2, h3⟩ := e.en.en
  obtain ⟨v, as, ev, kn, ok, nd, own⟩ := h1 i _ hi
  cases ok with
  | @di l ks vs ts as hl len pk =>
    obtain ⟨F1, k1, k2⟩ := lend_heap (as := as) F H
    have lv := ots_len pk
    rw [List.length_map] at lv
    have ff : Same F F1 := fun a o q => by
      rw [k2 a fun m => by rw [(h3 i a (own a (List.mem_cons_of_mem _ m))).1] at q; cases q]; exact q
    have fh : Same F1 H := fun a o q => by
      by_cases z : a ∈ as
      · rw [k1 a z] at q; exact q
      · rw [k2 a z] at q; exact e.en.fh a o q
    have lout : l ∉ as := (List.nodup_cons.mp nd).1
    have dp := ots_dpF (show flats (h.map fun x => lD x.2) from (flats_iff _).mpr fun t m => by obtain ⟨x, _, rfl⟩ := List.mem_map.mp m; exact flat_lD _) pk F1 ff k1
    have ep : pds (h.map fun x => lD x.2) = (h.map fun x => ((x.1, PyData.list x.2) : Nat × PyData)).map (·.2) := by
      rw [pds_map, List.map_map, List.map_map]
      exact List.map_congr_left fun x _ => pd_lD x.2
    rw [ep] at dp
    have ek : kz (h.map fun x => ((x.1, PyData.list x.2) : Nat × PyData)) = h.map fun x => nK x.1 := by unfold kz; rw [List.map_map]; rfl
    refine k F0 H0 σ F1 H D ⟨⟨e.gr.ff.trans ff, e.gr.hh, fh, fun a o q r => ?_⟩, fh, by rw [List.length_set]; exact e.en.len, fun j a => A j a ∧ a ∉ as, fun j s hs => ?_, fun j k a p q => h2 j k a p.1 q.1, fun j a p => ⟨by rw [k2 a p.2]; exact (h3 j a p.1).1, (h3 j a p.1).2⟩⟩ f
    · rw [k2 a fun m => by rw [(h3 i a (own a (List.mem_cons_of_mem _ m))).2.1] at r; cases r]
      exact e.gr.ap a o q r
    · by_cases z : j = i
      · subst z
        rw [List.getElem?_set_self hil] at hs
        cases hs
        refine ⟨.ref l, [l], ev, kn, .di (vs := vs) (by rw [ek]; exact hl) (kz_len _) (dic_ots dp), by simp, fun a m => ?_⟩
        rw [List.mem_singleton.mp m]
        exact ⟨own l List.mem_cons_self, lout⟩
      · rw [List.getElem?_set_ne (Ne.symm z)] at hs
        refine SlOk.mono (A' := fun a => A j a ∧ a ∉ as) (h1 j s hs) ff (fun _ _ _ q => q) fun a q => ⟨q, fun m => ?_⟩
        exact z (h2 j i a q (own a (List.mem_cons_of_mem _ m)))
end
end WL

namespace WL
open PySem L2
/-! ### eating -/
abbrev ET : Int := 46656000000
structure Ms where
  lf : Nat → Int
  tb : Nat → Nat → Int
  tm : Int
/-- the best liked thing of which something is left -/
def lkF (W : List (List Nat)) (lf : Nat → Int) (p : Nat) : Nat := ((W.getD p []).find? fun t => decide (lf t ≠ 0)).getD 0
def eatersF (lk : Nat → Nat) (j t : Nat) : List Nat := (List.range j).filter fun p => decide (lk p = t)
def keysF (lk : Nat → Nat) : Nat → List Nat
  | 0 => []
  | j + 1 => if lk j ∈ keysF lk j then keysF lk j else keysF lk j ++ [lk j]
def minO (l : List Int) : Option Int := l.foldl (fun o x => match o with | none => some x | some b => if x < b then some x else some b) none
theorem minO_snoc (l : List Int) (x : Int) : minO (l ++ [x]) = match minO l with | none => some x | some b => if x < b then some x else some b := by
  unfold minO
  rw [List.foldl_append]
  rfl
theorem minO_spec (l : List Int) : (l = [] → minO l = none) ∧ (l ≠ [] → ∃ b, minO l = some b ∧ b ∈ l ∧ ∀ x ∈ l, b ≤ x) := by
  refine ⟨fun h => by rw [h]; rfl, ?_⟩
  have key : ∀ (l : List Int), l = [] ∨ ∃ b, minO l = some b ∧ b ∈ l ∧ ∀ x ∈ l, b ≤ x := by
    intro l
    induction hl : l.length generalizing l with
    | zero => exact .inl (List.length_eq_zero_iff.mp hl)
    | succ n ih =>
      obtain ⟨m, x, rfl⟩ : ∃ m x, l = m ++ [x] := ⟨l.dropLast, l.getLast (by intro z; rw [z] at hl; cases hl), (List.dropLast_concat_getLast _).symm⟩
      right
      rw [minO_snoc]
      rcases ih m (by simpa using hl) with rfl | ⟨b, h1, h2, h3⟩
      · exact ⟨x, rfl, by simp, by simp⟩
      · rw [h1]
        by_cases z : x < b
        · refine ⟨x, if_pos z, by simp, fun y hy => ?_⟩
          rcases List.mem_append.mp hy with hy | hy
          · have := h3 y hy; omega
          · rw [List.mem_singleton.mp hy]; exact Int.le_refl _
        · refine ⟨b, if_neg z, List.mem_append_left _ h2, fun y hy => ?_⟩
          rcases List.mem_append.mp hy with hy | hy
          · exact h3 y hy
          · rw [List.mem_singleton.mp hy]; omega
  intro h
  rcases key l with z | z
  · exact (h z).elim
  · exact z
theorem keysF_mem {lk : Nat → Nat} {t : Nat} : ∀ {j : Nat}, t ∈ keysF lk j ↔ ∃ p, p < j ∧ lk p = t
  | 0 => by simp [keysF]
  | j + 1 => by
    unfold keysF
    have ih := keysF_mem (lk := lk) (t := t) (j := j)
    constructor
    · intro h
      split at h
      · obtain ⟨p, h1, h2⟩ := ih.mp h
        exact ⟨p, by omega, h2⟩
      · rcases List.mem_append.mp h with h | h
        · obtain ⟨p, h1, h2⟩ := ih.mp h
          exact ⟨p, by omega, h2⟩
        · exact ⟨j, by omega, (List.mem_singleton.mp h).symm⟩
    · rintro ⟨p, h1, h2⟩
      by_cases z : p = j
      · subst z
        rw [← h2]
        split
        · assumption
        · simp
      · have := ih.mpr ⟨p, by omega, h2⟩
        split
        · exact this
        · exact List.mem_append_left _ this
theorem keysF_nd (lk : Nat → Nat) : ∀ j, (keysF lk j).Nodup
  | 0 => List.nodup_nil
  | j + 1 => by
    unfold keysF
    split
    · exact keysF_nd lk j
    · rename_i h
      exact List.nodup_append.mpr ⟨keysF_nd lk j, by simp, fun a ha b hb z => by rw [List.mem_singleton.mp hb] at z; rw [z] at ha; exact h ha⟩
theorem eatersF_succ (lk : Nat → Nat) (j t : Nat) : eatersF lk (j + 1) t = if lk j = t then eatersF lk j t ++ [j] else eatersF lk j t := by
  unfold eatersF
  rw [List.range_succ, List.filter_append]
  by_cases z : lk j = t
  · rw [if_pos z]; simp [z]
  · rw [if_neg z]; simp [z]
theorem eatersF_mem {lk : Nat → Nat} {j t p : Nat} : p ∈ eatersF lk j t ↔ p < j ∧ lk p = t := by unfold eatersF; simp
theorem eatersF_nd (lk : Nat → Nat) (j t : Nat) : (eatersF lk j t).Nodup := List.nodup_range.filter _
theorem eatersF_none {lk : Nat → Nat} {j t : Nat} (h : t ∉ keysF lk j) : eatersF lk j t = [] := List.eq_nil_iff_forall_not_mem.mpr fun p hp => h (keysF_mem.mpr ⟨p, eatersF_mem.mp hp⟩)
theorem eatersF_len (lk : Nat → Nat) (j t : Nat) : (eatersF lk j t).length ≤ j := Nat.le_trans (List.length_filter_le _ _) (by simp)
def grpL (lk : Nat → Nat) (j : Nat) : List (Nat × List PyData) := (keysF lk j).map fun t => (t, (eatersF lk j t).map nat_)
theorem getN_mapk {α : Type} (f : Nat → α) (k : Nat) : ∀ (ks : List Nat), getN (ks.map fun t => (t, f t)) k = if k ∈ ks then some (f k) else none
  | [] => by simp [getN]
  | t :: ks => by
    show (if t = k then some (f t) else getN (ks.map fun t => (t, f t)) k) = _
    rw [getN_mapk f k ks]
    by_cases z : t = k
    · subst z; simp
    · rw [if_neg z]
      by_cases y : k ∈ ks
      · rw [if_pos y, if_pos (List.mem_cons_of_mem _ y)]
      · rw [if_neg y, if_neg]
        intro q
        rcases List.mem_cons.mp q with q | q
        · exact z q.symm
        · exact y q
theorem grpL_add (lk : Nat → Nat) (j : Nat) : addL (grpL lk j) (lk j) (nat_ j) = grpL lk (j + 1) := by
  unfold addL
  have g : getN (grpL lk j) (lk j) = if lk j ∈ keysF lk j then some ((eatersF lk j (lk j)).map nat_) else none := getN_mapk _ _ _
  rw [g]
  by_cases z : lk j ∈ keysF lk j
  · rw [if_pos z]
    show (grpL lk j).map _ = _
    unfold grpL
    rw [show keysF lk (j + 1) = keysF lk j by rw [keysF, if_pos z], List.map_map]
    refine List.map_congr_left fun t ht => ?_
    show (if t = lk j then (t, (eatersF lk j t).map nat_ ++ [nat_ j]) else (t, (eatersF lk j t).map nat_)) = _
    rw [eatersF_succ]
    by_cases y : t = lk j
    · rw [if_pos y, if_pos y.symm, List.map_append]; rfl
    · rw [if_neg y, if_neg (Ne.symm y)]
  · rw [if_neg z]
    show grpL lk j ++ [_] = _
    unfold grpL
    rw [show keysF lk (j + 1) = keysF lk j ++ [lk j] by rw [keysF, if_neg z], List.map_append]
    refine congr (congrArg _ (List.map_congr_left fun t ht => ?_)) ?_
    · have : lk j ≠ t := fun y => z (by rw [y]; exact ht)
      rw [eatersF_succ, if_neg this]
    · show [(lk j, [nat_ j])] = [(lk j, (eatersF lk (j + 1) (lk j)).map nat_)]
      rw [eatersF_succ, if_pos rfl, eatersF_none z]
      rfl
/-- how long it takes till the first thing runs out -/
def valsF (c : Nat) (lk : Nat → Nat) (lf : Nat → Int) : List Int := (keysF lk c).map fun t => lf t / ((eatersF lk c t).length : Int)
def longF (c : Nat) (lk : Nat → Nat) (lf : Nat → Int) : Int := (minO (valsF c lk lf)).getD 0
def nextF (c : Nat) (W : List (List Nat)) (S : Ms) : Ms where
  lf := fun t => S.lf t - longF c (lkF W S.lf) S.lf * ((eatersF (lkF W S.lf) c t).length : Int)
  tb := fun p t => S.tb p t + if lkF W S.lf p = t then longF c (lkF W S.lf) S.lf else 0
  tm := S.tm + longF c (lkF W S.lf) S.lf
def ms0 : Ms := ⟨fun _ => ET, fun _ _ => 0, 0⟩
def msK (c : Nat) (W : List (List Nat)) : Nat → Ms
  | 0 => ms0
  | k + 1 => nextF c W (msK c W k)
def alv (c : Nat) (lf : Nat → Int) : List Nat := (List.range c).filter fun t => decide (lf t ≠ 0)
theorem alv_mem {c : Nat} {lf : Nat → Int} {t : Nat} : t ∈ alv c lf ↔ t < c ∧ lf t ≠ 0 := by unfold alv; simp
theorem alv_nd (c : Nat) (lf : Nat → Int) : (alv c lf).Nodup := List.nodup_range.filter _
/-- what is gone by a change -/
def goneF (c : Nat) (lf lf' : Nat → Int) : List Nat := (List.range c).filter fun t => decide (lf t ≠ 0) && decide (lf' t = 0)
theorem goneF_mem {c : Nat} {lf lf' : Nat → Int} {t : Nat} : t ∈ goneF c lf lf' ↔ t < c ∧ lf t ≠ 0 ∧ lf' t = 0 := by unfold goneF; simp
/-- what holds between two steps -/
structure EatI (c : Nat) (W : List (List Nat)) (k : Nat) (S : Ms) : Prop where
  dv : ∀ t, t < c → (60 ^ (6 - k) : Int) ∣ S.lf t
  r0 : ∀ t, t < c → 0 ≤ S.lf t
  nn : ∀ p t, 0 ≤ S.tb p t
  cnt : (alv c S.lf).length + k ≤ c
  col : ∀ t, t < c → upto (fun p => S.tb p t) c + S.lf t = ET
  row : ∀ p, p < c → upto (fun t => S.tb p t) c = S.tm
section
variable {c : Nat} {W : List (List Nat)} {S : Ms} {k : Nat}
theorem EatI.hi (h : EatI c W k S) {t : Nat} (ht : t < c) : S.lf t ≤ ET := by
  have h1 := h.col t ht
  have h2 := upto_nn (f := fun p => S.tb p t) (fun i => h.nn i t) c
  omega
theorem lk_ok (hW : WsOk c W) {lf : Nat → Int} (ne : alv c lf ≠ []) {p : Nat} (hp : p < c) : lkF W lf p ∈ alv c lf ∧ ∀ j : Nat, (W.getD p [])[j]? = some (lkF W lf p) → ∀ i : Nat, i < j → ∀ t, (W.getD p [])[i]? = some t → lf t = 0 := by
  obtain ⟨_, hperm⟩ := hW.at hp
  have hex : ∃ t ∈ W.getD p [], decide (lf t ≠ 0) = true := by
    obtain ⟨t, ht⟩ := List.exists_mem_of_ne_nil _ ne
    obtain ⟨h1, h2⟩ := alv_mem.mp ht
    exact ⟨t, hperm.mem_iff.mpr (List.mem_range.mpr h1), by simpa using h2⟩
  have hs : ((W.getD p []).find? fun t => decide (lf t ≠ 0)).isSome = true := List.find?_isSome.mpr hex
  obtain ⟨t, ht⟩ := Option.isSome_iff_exists.mp hs
  have e : lkF W lf p = t := by unfold lkF; rw [ht]; rfl
  rw [e]
  have hm := List.mem_of_find?_eq_some ht
  have hp1 := List.find?_some ht
  refine ⟨alv_mem.mpr ⟨List.mem_range.mp (hperm.mem_iff.mp hm), by simpa using hp1⟩, fun j hj i hij s hs => ?_⟩
  obtain ⟨_, as, bs, hw, hb⟩ := List.find?_eq_some_iff_append.mp ht
  have nd : (W.getD p []).Nodup := hperm.nodup_iff.mpr List.nodup_range
  have ja : j = as.length := by
    have ha : (W.getD p [])[as.length]? = some t := by rw [hw, List.getElem?_append_right (Nat.le_refl _), Nat.sub_self]; rfl
    exact (List.getElem?_inj (List.getElem?_eq_some_iff.mp hj).1 nd).mp (hj.trans ha.symm)
  have : s ∈ as := by
    rw [hw, List.getElem?_append_left (by omega)] at hs
    exact List.mem_of_getElem? hs
  simpa using hb s this
theorem dvd60 : ∀ n : Nat, 1 ≤ n → n ≤ 6 → (n : Int) ∣ 60 := by
  intro n h1 h2
  have : n = 1 ∨ n = 2 ∨ n = 3 ∨ n = 4 ∨ n = 5 ∨ n = 6 := by omega
  rcases this with rfl | rfl | rfl | rfl | rfl | rfl <;> decide
theorem div_step {x : Int} {n k : Nat} (h1 : 1 ≤ n) (h2 : n ≤ 6) (hk : k + 1 ≤ 6) (hx : (60 ^ (6 - k) : Int) ∣ x) : (n : Int) ∣ x ∧ (60 ^ (6 - (k + 1)) : Int) ∣ x / (n : Int) := by
  obtain ⟨y, rfl⟩ := hx
  obtain ⟨z, hz⟩ := dvd60 n h1 h2
  have e : (60 ^ (6 - k) : Int) = 60 ^ (6 - (k + 1)) * 60 := by rw [← Int.pow_succ]; congr 1; omega
  have e2 : (60 ^ (6 - k) : Int) * y = (n : Int) * (60 ^ (6 - (k + 1)) * (z * y)) := by rw [e, hz]; ac_rfl
  rw [e2]
  refine ⟨Int.dvd_mul_right _ _, ?_⟩
  rw [Int.mul_ediv_cancel_left _ (by omega)]
  exact Int.dvd_mul_right _ _
end
end WL

namespace WL
open PySem L2
/-! ### a step of a meal -/
theorem filter_lt {α : Type} {p q : α → Bool} : ∀ {l : List α}, (∀ x ∈ l, q x = true → p x = true) → (∃ x ∈ l, p x = true ∧ q x = false) → (l.filter q).length < (l.filter p).length
  | [], _, ⟨x, h, _⟩ => nomatch h
  | a :: l, hm, ⟨x, hx, h1, h2⟩ => by
    have le : (l.filter q).length ≤ (l.filter p).length := by
      clear hx h1 h2
      have hm' : ∀ x ∈ l, q x = true → p x = true := fun x m => hm x (List.mem_cons_of_mem _ m)
      clear hm
      induction l with
      | nil => simp
      | cons b l ih =>
        have i := ih fun x m => hm' x (List.mem_cons_of_mem _ m)
        rw [List.filter_cons, List.filter_cons]
        cases e : q b with
        | true => rw [hm' b List.mem_cons_self e]; simpa using i
        | false =>
          cases p b with
          | true => simp; omega
          | false => simpa using i
    rw [List.filter_cons, List.filter_cons]
    rcases List.mem_cons.mp hx with rfl | hx
    · rw [h1, h2]
      simp
      omega
    · have i := filter_lt (p := p) (q := q) (l := l) (fun x m => hm x (List.mem_cons_of_mem _ m)) ⟨x, hx, h1, h2⟩
      cases e : q a with
      | true => rw [hm a List.mem_cons_self e]; simpa using i
      | false =>
        cases p a with
        | true => simp; omega
        | false => simpa using i
theorem upto_ite (lk : Nat → Nat) (t : Nat) (w : Int) : ∀ n, upto (fun p => if lk p = t then w else 0) n = w * ((eatersF lk n t).length : Int)
  | 0 => by simp [upto, eatersF]
  | n + 1 => by
    rw [upto, upto_ite lk t w n, eatersF_succ]
    by_cases z : lk n = t
    · rw [if_pos z, if_pos z, List.length_append, Int.natCast_add, Int.mul_add]; simp
    · rw [if_neg z, if_neg z]; simp
theorem upto_ites (lk : Nat) (w : Int) : ∀ {n}, lk < n → upto (fun t => if lk = t then w else 0) n = w := fun h => upto_one w h
theorem upto_swap (f : Nat → Nat → Int) (n m : Nat) : upto (fun p => upto (fun t => f p t) m) n = upto (fun t => upto (fun p => f p t) n) m := by
  rw [upto_list, upto_list]
  have e1 : ((List.range n).map fun p => upto (fun t => f p t) m) = (List.range n).map fun p => ((List.range m).map fun t => f p t).sum := List.map_congr_left fun p _ => upto_list _ _
  have e2 : ((List.range m).map fun t => upto (fun p => f p t) n) = (List.range m).map fun t => ((List.range n).map fun p => f p t).sum := List.map_congr_left fun p _ => upto_list _ _
  rw [e1, e2]
  exact isum_swap (fun t p => f p t) (List.range m) (List.range n)
section
variable {c : Nat} {W : List (List Nat)} {S : Ms} {k : Nat}
/-- what a step is made of -/
structure StepI (c : Nat) (W : List (List Nat)) (k : Nat) (S : Ms) (lk : Nat → Nat) (lg : Int) : Prop where
  k6 : k + 1 ≤ 6
  lk_lt : ∀ p, p < c → lk p < c
  lk_al : ∀ p, p < c → S.lf (lk p) ≠ 0
  pos : 0 < lg
  dv : (60 ^ (6 - (k + 1)) : Int) ∣ lg
  le : ∀ t, t < c → lg * ((eatersF lk c t).length : Int) ≤ S.lf t
  at_ : ∃ t, t < c ∧ S.lf t ≠ 0 ∧ lg * ((eatersF lk c t).length : Int) = S.lf t
  val : ∀ t, t ∈ keysF lk c → ((eatersF lk c t).length : Int) ∣ S.lf t ∧ 0 < ((eatersF lk c t).length : Int) ∧ (eatersF lk c t).length ≤ 6 ∧ 0 < S.lf t / ((eatersF lk c t).length : Int) ∧ S.lf t / ((eatersF lk c t).length : Int) ≤ ET
  min : minO (valsF c lk S.lf) = some lg
  hi : lg ≤ ET
theorem EatI.step (h : EatI c W k S) (hW : WsOk c W) (hc6 : c ≤ 6) (ne : alv c S.lf ≠ []) : StepI c W k S (lkF W S.lf) (longF c (lkF W S.lf) S.lf) := by
  obtain ⟨t0, ht0⟩ := List.exists_mem_of_ne_nil _ ne
  have hc1 : 1 ≤ c := by have := (alv_mem.mp ht0).1; omega
  have k6 : k + 1 ≤ 6 := by
    have := h.cnt
    have : 0 < (alv c S.lf).length := List.length_pos_iff.mpr ne
    omega
  have lkm : ∀ p, p < c → lkF W S.lf p < c ∧ S.lf (lkF W S.lf p) ≠ 0 := fun p hp => alv_mem.mp (lk_ok hW ne hp).1
  generalize hlk : lkF W S.lf = lk at lkm ⊢
  have val : ∀ t, t ∈ keysF lk c → t < c ∧ S.lf t ≠ 0 ∧ ((eatersF lk c t).length : Int) ∣ S.lf t ∧ 0 < ((eatersF lk c t).length : Int) ∧ (eatersF lk c t).length ≤ 6 ∧ 0 < S.lf t / ((eatersF lk c t).length : Int) ∧ (60 ^ (6 - (k + 1)) : Int) ∣ S.lf t / ((eatersF lk c t).length : Int) ∧ S.lf t / ((eatersF lk c t).length : Int) ≤ ET := fun t m => by
    obtain ⟨p, hp, e⟩ := keysF_mem.mp m
    obtain ⟨l1, l2⟩ := lkm p hp
    rw [e] at l1 l2
    have n1 : 1 ≤ (eatersF lk c t).length := List.length_pos_iff.mpr (List.ne_nil_of_mem (eatersF_mem.mpr ⟨hp, e⟩))
    have n2 := eatersF_len lk c t
    obtain ⟨d1, d2⟩ := div_step n1 (by omega) k6 (h.dv t l1)
    have r0 := h.r0 t l1
    have hi := h.hi l1
    have q0 : 0 < S.lf t / ((eatersF lk c t).length : Int) := by
      have := Int.ediv_mul_cancel d1
      have nn : 0 ≤ S.lf t / ((eatersF lk c t).length : Int) := Int.ediv_nonneg r0 (by omega)
      rcases Int.lt_or_eq_of_le nn with q | q
      · exact q
      · rw [← q] at this; omega
    have q1 : S.lf t / ((eatersF lk c t).length : Int) ≤ ET := Int.le_trans (Int.ediv_le_self _ r0) hi
    exact ⟨l1, l2, d1, by omega, by omega, q0, d2, q1⟩
  have vne : valsF c lk S.lf ≠ [] := by
    intro z
    have : keysF lk c = [] := List.map_eq_nil_iff.mp z
    have m : lk 0 ∈ keysF lk c := keysF_mem.mpr ⟨0, by omega, rfl⟩
    rw [this] at m
    cases m
  obtain ⟨b, b1, b2, b3⟩ := (minO_spec (valsF c lk S.lf)).2 vne
  have elg : longF c lk S.lf = b := by unfold longF; rw [b1]; rfl
  rw [elg]
  obtain ⟨tb, tm, te⟩ := List.mem_map.mp b2
  obtain ⟨v1, v2, v3, v4, v5, v6, v7, v8⟩ := val tb tm
  refine ⟨k6, fun p hp => (lkm p hp).1, fun p hp => (lkm p hp).2, by rw [← te]; exact v6, by rw [← te]; exact v7, fun t ht => ?_, ⟨tb, v1, v2, by rw [← te]; exact Int.ediv_mul_cancel v3⟩, fun t m => ⟨(val t m).2.2.1, (val t m).2.2.2.1, (val t m).2.2.2.2.1, (val t m).2.2.2.2.2.1, (val t m).2.2.2.2.2.2.2⟩, b1, by rw [← te]; exact v8⟩
  by_cases m : t ∈ keysF lk c
  · have := b3 _ (List.mem_map.mpr ⟨t, m, rfl⟩)
    obtain ⟨_, _, d, n, _⟩ := val t m
    have e := Int.ediv_mul_cancel d
    have := Int.mul_le_mul_of_nonneg_right this (Int.le_of_lt n)
    rw [e] at this
    exact this
  · rw [eatersF_none m]
    simpa using h.r0 t ht
theorem EatI.next (h : EatI c W k S) (hW : WsOk c W) (hc6 : c ≤ 6) (ne : alv c S.lf ≠ []) : EatI c W (k + 1) (nextF c W S) := by
  have st := h.step hW hc6 ne
  have low : ∀ t, t < c → S.lf t = 0 → (nextF c W S).lf t = 0 := fun t ht z => by
    have : t ∉ keysF (lkF W S.lf) c := fun m => by
      obtain ⟨p, hp, e⟩ := keysF_mem.mp m
      have := st.lk_al p hp
      rw [e] at this
      exact this z
    show S.lf t - _ * _ = 0
    rw [eatersF_none this, z]
    simp
  refine ⟨fun t ht => ?_, fun t ht => ?_, fun p t => ?_, ?_, fun t ht => ?_, fun p hp => ?_⟩
  · have d1 : (60 ^ (6 - (k + 1)) : Int) ∣ S.lf t := by
      refine Int.dvd_trans ?_ (h.dv t ht)
      exact ⟨60, by rw [← Int.pow_succ]; congr 1; have := st.k6; omega⟩
    exact Int.dvd_sub d1 (Int.dvd_mul_of_dvd_left st.dv)
  · have := st.le t ht
    show 0 ≤ S.lf t - _
    omega
  · show 0 ≤ S.tb p t + _
    have := h.nn p t
    have := st.pos
    split <;> omega
  · have lt : (alv c (nextF c W S).lf).length < (alv c S.lf).length := by
      refine filter_lt (fun t m q => ?_) ?_
      · have ht := List.mem_range.mp m
        have q' : (nextF c W S).lf t ≠ 0 := by simpa using q
        simpa using fun z => q' (low t ht z)
      · obtain ⟨t, ht, h1, h2⟩ := st.at_
        refine ⟨t, List.mem_range.mpr ht, by simpa using h1, ?_⟩
        have : (nextF c W S).lf t = 0 := by show S.lf t - _ = 0; omega
        simp [this]
    have := h.cnt
    omega
  · have e : upto (fun p => (nextF c W S).tb p t) c = upto (fun p => S.tb p t) c + upto (fun p => if lkF W S.lf p = t then longF c (lkF W S.lf) S.lf else 0) c := by rw [← upto_add]; rfl
    rw [e, upto_ite]
    have := h.col t ht
    show _ + (S.lf t - _) = _
    omega
  · have e : upto (fun t => (nextF c W S).tb p t) c = upto (fun t => S.tb p t) c + upto (fun t => if lkF W S.lf p = t then longF c (lkF W S.lf) S.lf else 0) c := by rw [← upto_add]; rfl
    rw [e, upto_one _ (st.lk_lt p hp), h.row p hp]
    rfl
theorem eat0 (hc6 : c ≤ 6) : EatI c W 0 ms0 := ⟨fun t _ => by show (60 ^ (6 - 0) : Int) ∣ ET; decide, fun t _ => by show (0 : Int) ≤ ET; decide, fun _ _ => Int.le_refl _, by have := List.length_filter_le (fun t => decide (ms0.lf t ≠ 0)) (List.range c); rw [List.length_range] at this; unfold alv; omega, fun t _ => by show upto (fun _ => 0) c + ET = ET; rw [upto_zero]; rfl, fun p _ => by show upto (fun _ => 0) c = 0; exact upto_zero c⟩
theorem eatAt (hW : WsOk c W) (hc6 : c ≤ 6) : ∀ k, (∀ j, j < k → alv c (msK c W j).lf ≠ []) → EatI c W k (msK c W k)
  | 0, _ => eat0 hc6
  | k + 1, h => (eatAt hW hc6 k fun j hj => h j (by omega)).next hW hc6 (h k (by omega))
/-- the steps of a meal -/
def eatK (c : Nat) (W : List (List Nat)) : Nat := ((List.range 7).find? fun k => (alv c (msK c W k).lf).isEmpty).getD 0
theorem eatK_ok (hW : WsOk c W) (hc6 : c ≤ 6) : eatK c W ≤ 6 ∧ alv c (msK c W (eatK c W)).lf = [] ∧ ∀ j, j < eatK c W → alv c (msK c W j).lf ≠ [] := by
  have hex : ∃ k ∈ List.range 7, (alv c (msK c W k).lf).isEmpty = true := by
    apply Classical.byContradiction
    intro no
    have all : ∀ j, j < 7 → alv c (msK c W j).lf ≠ [] := fun j hj z => no ⟨j, List.mem_range.mpr hj, by rw [z]; rfl⟩
    have := (eatAt hW hc6 6 fun j hj => all j (by omega)).cnt
    have : 0 < (alv c (msK c W 6).lf).length := List.length_pos_iff.mpr (all 6 (by omega))
    omega
  obtain ⟨k, hk⟩ := Option.isSome_iff_exists.mp (List.find?_isSome.mpr hex)
  have e : eatK c W = k := by unfold eatK; rw [hk]; rfl
  rw [e]
  have h1 := List.find?_some hk
  have h2 := List.mem_range.mp (List.mem_of_find?_eq_some hk)
  refine ⟨by omega, List.isEmpty_iff.mp h1, fun j hj z => ?_⟩
  obtain ⟨_, as, bs, hl, hb⟩ := List.find?_eq_some_iff_append.mp hk
  have ka : k = as.length := by
    have q : (List.range 7)[as.length]? = some k := by rw [hl, List.getElem?_append_right (Nat.le_refl _), Nat.sub_self]; rfl
    have := (List.getElem?_eq_some_iff.mp q)
    obtain ⟨q1, q2⟩ := this
    rw [List.getElem_range] at q2
    exact q2.symm
  have hj7 : (List.range 7)[j]? = some j := by rw [List.getElem?_eq_getElem (by simp; omega), List.getElem_range]
  rw [hl, List.getElem?_append_left (by omega)] at hj7
  have := hb j (List.mem_of_getElem? hj7)
  rw [z] at this
  simp at this
theorem eat_end (hW : WsOk c W) (hc1 : 1 ≤ c) (hc6 : c ≤ 6) : (msK c W (eatK c W)).tm = ET ∧ (∀ t, t < c → (msK c W (eatK c W)).lf t = 0) ∧ 0 < eatK c W := by
  obtain ⟨h1, h2, h3⟩ := eatK_ok hW hc6
  have I := eatAt hW hc6 _ h3
  have z : ∀ t, t < c → (msK c W (eatK c W)).lf t = 0 := fun t ht => by
    apply Classical.byContradiction
    intro y
    have : t ∈ alv c (msK c W (eatK c W)).lf := alv_mem.mpr ⟨ht, y⟩
    rw [h2] at this
    cases this
  refine ⟨?_, z, ?_⟩
  · have e1 : upto (fun p => upto (fun t => (msK c W (eatK c W)).tb p t) c) c = upto (fun _ => (msK c W (eatK c W)).tm) c := upto_congr fun p hp => I.row p hp
    have e2 : upto (fun t => upto (fun p => (msK c W (eatK c W)).tb p t) c) c = upto (fun _ => ET) c := upto_congr fun t ht => by have := I.col t ht; rw [z t ht] at this; simpa using this
    rw [upto_swap, e2] at e1
    have cst : ∀ (x : Int) (n : Nat), upto (fun _ => x) n = n * x := fun x n => by
      induction n with
      | zero => simp [upto]
      | succ n ih => rw [upto, ih, Int.natCast_add, Int.add_mul]; simp
    rw [cst, cst] at e1
    exact (Int.eq_of_mul_eq_mul_left (by omega) e1).symm
  · apply Classical.byContradiction
    intro y
    have k0 : eatK c W = 0 := by omega
    have := z 0 (by omega)
    rw [k0] at this
    exact absurd (show ET = 0 from this) (by decide)
end
/-! ### the things' dict, the table, as they are changed -/
def leftH (ks : List Nat) (lf : Nat → Int) : List (Nat × PyData) := ks.map fun t => (t, fT ET (lf t))
theorem leftH_get (ks : List Nat) (lf : Nat → Int) (k : Nat) : getN (leftH ks lf) k = if k ∈ ks then some (fT ET (lf k)) else none := getN_mapk _ k ks
theorem leftH_put {ks : List Nat} {lf : Nat → Int} {k : Nat} (h : k ∈ ks) (v : Int) : putN (leftH ks lf) k (fT ET v) = leftH ks fun t => if t = k then v else lf t := by
  unfold putN setN
  rw [leftH_get, if_pos h]
  simp only [Option.isSome_some, if_true]
  unfold leftH
  rw [List.map_map]
  refine List.map_congr_left fun t _ => ?_
  show (if t = k then (t, fT ET v) else (t, fT ET (lf t))) = _
  by_cases z : t = k
  · rw [if_pos z]
    show _ = (t, fT ET (if t = k then v else lf t))
    rw [if_pos z]
  · rw [if_neg z]
    show _ = (t, fT ET (if t = k then v else lf t))
    rw [if_neg z]
theorem leftH_drop (ks : List Nat) (lf : Nat → Int) (k : Nat) : dropN (leftH ks lf) k = leftH (ks.filter fun t => decide (t ≠ k)) lf := by
  unfold dropN leftH
  rw [List.filter_map]
  rfl
theorem leftH_congr {ks : List Nat} {lf lf' : Nat → Int} (h : ∀ t ∈ ks, lf t = lf' t) : leftH ks lf = leftH ks lf' := List.map_congr_left fun t ht => by rw [h t ht]
theorem leftH_new (n : Nat) : putN (leftH (List.range n) fun _ => ET) n (fr 1) = leftH (List.range (n + 1)) fun _ => ET := by
  unfold putN
  rw [leftH_get, if_neg (by simp)]
  unfold leftH
  rw [List.range_succ, List.map_append]
  simp only [Option.isSome_none, Bool.false_eq_true, if_false]
  rw [← fT_whole (show (0 : Int) < ET by decide)]
  rfl
theorem leftH_len (ks : List Nat) (lf : Nat → Int) : (leftH ks lf).length = ks.length := by unfold leftH; rw [List.length_map]
theorem matL_up {c : Nat} {g : Nat → Nat → Int} {p t : Nat} (hp : p < c) (ht : t < c) (v : Int) : upM (matL c g) p t v = matL c fun a b => if a = p ∧ b = t then v else g a b := by
  refine List.ext_getElem? fun a => ?_
  unfold upM
  have e : (matL c g).getD p [] = (List.range c).map fun t => g p t := by
    rw [List.getD_eq_getElem?_getD]
    unfold matL
    rw [List.getElem?_map, List.getElem?_range hp]
    rfl
  rw [e]
  by_cases ha : a < c
  · have r : (matL c fun a b => if a = p ∧ b = t then v else g a b)[a]? = some ((List.range c).map fun b => if a = p ∧ b = t then v else g a b) := by
      unfold matL
      rw [List.getElem?_map, List.getElem?_range ha]
      rfl
    rw [r]
    by_cases z : a = p
    · subst z
      rw [List.getElem?_set_self (by unfold matL; simpa using ha)]
      refine congrArg some (List.ext_getElem? fun b => ?_)
      rw [List.getElem?_map]
      by_cases hb : b < c
      · rw [List.getElem?_range hb]
        by_cases y : b = t
        · subst y
          rw [List.getElem?_set_self (by simpa using hb)]
          simp
        · rw [List.getElem?_set_ne (Ne.symm y), List.getElem?_map, List.getElem?_range hb]
          simp [y]
      · rw [List.getElem?_eq_none (by simpa using hb), List.getElem?_eq_none (by simpa using hb)]
        rfl
    · rw [List.getElem?_set_ne (Ne.symm z)]
      unfold matL
      rw [List.getElem?_map, List.getElem?_range ha]
      refine congrArg some (List.map_congr_left fun b _ => ?_)
      rw [if_neg fun y => z y.1]
  · have l1 : ((matL c g).set p (((List.range c).map fun t => g p t).set t v)).length = c := by rw [List.length_set]; unfold matL; simp
    have l2 : (matL c fun a b => if a = p ∧ b = t then v else g a b).length = c := by unfold matL; simp
    rw [List.getElem?_eq_none (by omega), List.getElem?_eq_none (by omega)]
theorem matL_congr {c : Nat} {f g : Nat → Nat → Int} (h : ∀ p t, p < c → t < c → f p t = g p t) : matL c f = matL c g := by
  unfold matL
  exact List.map_congr_left fun p hp => List.map_congr_left fun t ht => h p t (List.mem_range.mp hp) (List.mem_range.mp ht)
def mealN : List Str := ["wishes", "left", "table", "time", "stops"]
/-- a meal -/
def mealO (C : Addr) (W : List (List Nat)) (c : Nat) (ks : List Nat) (lf : Nat → Int) (tb : Nat → Nat → Int) (tm : Int) (st : List PyData) : Ot := .ob C mealN [.da (.list (W.map rowT)), dicD (leftH ks lf), lDD (toX (fT ET) (matL c tb)), .da (fT ET tm), lD st]
def mealT (C : Addr) (W : List (List Nat)) (c : Nat) (S : Ms) (st : List PyData) : Ot := mealO C W c (alv c S.lf) S.lf S.tb S.tm st
def grpD (lk : Nat → Nat) (c : Nat) : List (Nat × PyData) := (keysF lk c).map fun t => (t, .list ((eatersF lk c t).map nat_))
theorem grpD_eq (lk : Nat → Nat) (c : Nat) : ((grpL lk c).map fun x => (x.1, PyData.list x.2)) = grpD lk c := by unfold grpL grpD; rw [List.map_map]; rfl
theorem getN_left_some (ks : List Nat) (lf : Nat → Int) (t : Nat) : (getN (leftH ks lf) t).isSome = decide (t ∈ ks) := by
  rw [leftH_get]
  by_cases z : t ∈ ks
  · rw [if_pos z]; simp [z]
  · rw [if_neg z]; simp [z]
theorem lk_find {c : Nat} {W : List (List Nat)} (hW : WsOk c W) {lf : Nat → Int} {p : Nat} (hp : p < c) : (W.getD p []).find? (fun t => (getN (leftH (alv c lf) lf) t).isSome) = (W.getD p []).find? (fun t => decide (lf t ≠ 0)) := by
  obtain ⟨_, hperm⟩ := hW.at hp
  have hlt : ∀ t ∈ W.getD p [], t < c := fun t m => List.mem_range.mp (hperm.mem_iff.mp m)
  generalize W.getD p [] = w at hlt
  induction w with
  | nil => rfl
  | cons a w ih =>
    have e : (getN (leftH (alv c lf) lf) a).isSome = decide (lf a ≠ 0) := by
      rw [getN_left_some, decide_eq_decide, alv_mem]
      exact ⟨fun h => h.2, fun h => ⟨hlt a List.mem_cons_self, h⟩⟩
    rw [List.find?_cons, List.find?_cons, e, ih fun t m => hlt t (List.mem_cons_of_mem _ m)]
theorem grpL_bd (lk : Nat → Nat) {c : Nat} {j : Nat} (hj : j ≤ c) (hc6 : c ≤ 6) (hk : ∀ p, p < j → lk p < c) : (grpL lk j).length ≤ 1000 ∧ (∀ x ∈ grpL lk j, x.2.length ≤ 1000) ∧ ((grpL lk j).map (·.1)).Nodup := by
  have e : (grpL lk j).map (·.1) = keysF lk j := by unfold grpL; rw [List.map_map]; exact List.map_id _
  refine ⟨?_, fun x m => ?_, by rw [e]; exact keysF_nd _ _⟩
  · unfold grpL
    rw [List.length_map]
    have := nodup_lt_len (c := c) (keysF_nd lk j) fun t m => by obtain ⟨p, hp, rfl⟩ := keysF_mem.mp m; exact hk p hp
    omega
  · obtain ⟨t, _, rfl⟩ := List.mem_map.mp m
    rw [List.length_map]
    have := eatersF_len lk j t
    omega
end WL

namespace WL
open PySem L2
/-! ### sum(lists, []) -/
section
open PyProof.Rows
variable {prog : Program} {w : World} {A : Around} {R : Result → Shared → Prop} {I : Addr} {fp wr : List Addr} {G : Array GenState → Array GenState → Prop} {n : Nat} {P : Nat → Value → Prop} {St : Nat → Shared → Prop}
theorem args_sum2 (a b : Value) : argsOk "sum" ⟨[a, b], []⟩ := by unfold argsOk; kernel_rfl
theorem isL_keep {h h' : Heap} {a : Addr} {vs : Array Value} (k : ∀ o, h.get? a = some o → h'.get? a = some o) (x : h.IsList a vs) : h'.IsList a vs := by
  obtain ⟨o, h1, h2⟩ := x
  exact ⟨o, k o h1, h2⟩
theorem add_listsR {E : Value → Shared → Prop} {s : Shared} {l b : Addr} {vs ws : List Value} {Q : Value → Shared → Prop} (hl : s.heap.IsList l vs.toArray) (hb : s.heap.IsList b ws.toArray) (hsz : vs.length + ws.length ≤ sizeLine)
    (h : Q (.ref s.heap.objs.size) { s with heap := s.heap.push { cls := .type "list", data := .seq (vs ++ ws).toArray } }) : wpAny (model prog w) A (binaryOp .Add (.ref l) (.ref b)) Q E s := by
  obtain ⟨⟨cls, dd, data, sl⟩, ho, hc, n, hd⟩ := id hl
  obtain ⟨⟨cls2, dd2, data2, sl2⟩, ho2, hc2, n2, hd2⟩ := id hb
  simp only at hc hd hc2 hd2
  subst hc hd hc2 hd2
  have e : vs.toArray ++ ws.toArray = (vs ++ ws).toArray := by simp
  refine concat_meets ⟨_, ho, rfl⟩ ⟨_, ho2, rfl⟩ noFill_list_add seq_list_add PySem.F.slot_list_add PySem.F.entry_list_add (PySem.F.args_list_add_2 _ _) (list_addW l b vs.toArray ws.toArray n n2 dd dd2 sl sl2 (by simpa using hsz)) ⟨ho, ho2, ?_⟩
  rw [e]
  exact h
theorem sum_loopL (W : WalksS prog w A.in1 I fp wr G n P St) (S : Addr) (hSf : S ∉ fp) (xs : Nat → List Value) (acc : Nat → List Value) (acs : ∀ i, acc (i + 1) = acc i ++ xs i) (hl : ∀ i, i ≤ n → (acc i).length ≤ 1000) (hz0 : ∀ b ∈ wr, b < S) :
    ∀ (k i : Nat) (s : Shared) (r : Addr) (c : Nat), n - i = k → i ≤ n → St i s → s.heap.get? S = some { cls := .type "list", dict := none, data := .seq #[.ref r] c, slots := #[] } →
    s.heap.IsList r (acc i).toArray → r ≠ S → r ∉ wr → (0 < i → S < r ∧ s.heap.get? r = some { cls := .type "list", data := .seq (acc i).toArray }) → (∀ j v, j < n → P j v → ∃ x, v = .ref x ∧ x ≠ S ∧ x ∉ wr ∧ s.heap.IsList x (xs j).toArray) →
    (∀ s' r', Moved (S :: wr) G s s' → s'.heap.IsList r' (acc n).toArray → (0 < n → S < r' ∧ s'.heap.get? r' = some { cls := .type "list", data := .seq (acc n).toArray }) → R (.ok (.ret (.ref r'))) s') → codeAny (model prog w) A (.builtin "sum.loop" ⟨[.ref I, .ref S, rawInt 2, rawInt 0], []⟩) R s := by
  have hSw : S ∉ wr := fun h => hSf (W.sub _ h)
  have hsub : ∀ b ∈ wr, b ∈ S :: wr := fun b hb => List.mem_cons_of_mem _ hb
  intro k
  induction k with
  | zero =>
    intro i s r c hk hi hst hS hr rS rw_ rz hit hR
    have hin : i = n := by omega
    subst hin
    refine codeAny_builtin PySem.F.entry_sum_loop ?_
    rw [Around.under_plainId PySem.F.plain_sum_loop _]
    show wpAny _ A.in1 (seqItems? (.ref S) >>= _) _ _ s
    refine wpAny_bind (wpAny_seqItems hS rfl ?_)
    show wpAny _ A.in1 (tryCatch (pyNext (.ref I)) _ >>= _) _ _ s
    refine wpAny_bind (wpAny_tryCatch (W.done s _ _ hst fun s' hm => ?_))
    exact wpAny_pure (hR s' r (hm.mono hsub) (isL_keep (fun o e => hm.heap r o rw_ e) hr) fun h => ⟨(rz h).1, hm.heap r _ rw_ (rz h).2⟩)
  | succ k ih =>
    intro i s r c hk hi hst hS hr rS rw_ rz hit hR
    have hlt : i < n := by omega
    refine codeAny_builtin PySem.F.entry_sum_loop ?_
    rw [Around.under_plainId PySem.F.plain_sum_loop _]
    show wpAny _ A.in1 (seqItems? (.ref S) >>= _) _ _ s
    refine wpAny_bind (wpAny_seqItems hS rfl ?_)
    show wpAny _ A.in1 (tryCatch (pyNext (.ref I)) _ >>= _) _ _ s
    refine wpAny_bind (wpAny_tryCatch (W.item i s _ _ hlt hst fun v s' hP hst' hm => ?_))
    obtain ⟨x, rfl, xS, xw, hx⟩ := hit i v hlt hP
    have hS' := hm.heap S _ hSw hS
    have hr' : s'.heap.IsList r (acc i).toArray := isL_keep (fun o e => hm.heap r o rw_ e) hr
    have hx' : s'.heap.IsList x (xs i).toArray := isL_keep (fun o e => hm.heap x o xw e) hx
    have hSlt : S < s'.heap.objs.size := Heap.lt_size hS'
    have hnw : s'.heap.objs.size ∉ wr := fun q => Nat.lt_asymm (hz0 _ q) hSlt
    show wpAny _ A.in1 ((holding [Value.ref x] (binaryOp .Add (.ref r) (.ref x))).attempt >>= _) _ _ _
    have hlen : (acc i).length + (xs i).length ≤ sizeLine := by
      have := hl (i + 1) hlt
      rw [acs, List.length_append] at this
      exact Nat.le_trans this (by decide)
    refine wpAny_bind (wpAny_attempt (wpAny_holding (add_listsR hr' hx' hlen ?_)))
    have nS : S ≠ s'.heap.objs.size := Nat.ne_of_lt hSlt
    have hS1 : (s'.heap.push { cls := .type "list", data := .seq (acc i ++ xs i).toArray }).get? S = some _ := Heap.get?_push_of_some _ hS'
    refine wpAny_bind (wpAny_updateSeq hS1 rfl ?_)
    have hS2 := Heap.get?_update_self (Obj.mapSeq fun _ => #[Value.ref s'.heap.objs.size]) hS1 rfl
    refine wpAny_bind (wpAny_letGo ?_)
    refine wpAny_bind (wpAny_updateSeq hS2 rfl (wpAny_pure ⟨plainId_quiet PySem.F.plain_sum_loop _, ih (i + 1) _ s'.heap.objs.size _ (by omega) hlt (W.frame _ s' _ _ hst' (Nat.le_refl _) fun b hb o e => ?_) (Heap.get?_update_self _ hS2 rfl) ?_ (Ne.symm nS) hnw (fun _ => ⟨hSlt, ?_⟩) (fun j v hj hPj => ?_) fun s'' r' hm'' hr'' hz'' => ?_⟩))
    · have : b ≠ S := fun q => hSf (by rw [← q]; exact hb)
      exact (Heap.get?_update_other _ _ (Ne.symm this)).trans ((Heap.get?_update_other _ _ (Ne.symm this)).trans (Heap.get?_push_of_some _ e))
    · refine isL_keep (h := s'.heap.push { cls := .type "list", data := .seq (acc i ++ xs i).toArray }) (fun o e => (Heap.get?_update_other _ _ nS).trans ((Heap.get?_update_other _ _ nS).trans e)) ?_
      rw [acs]
      exact ⟨_, Heap.get?_push_size _ rfl, rfl, _, rfl⟩
    · refine (Heap.get?_update_other _ _ nS).trans ((Heap.get?_update_other _ _ nS).trans ?_)
      rw [acs]
      exact Heap.get?_push_size _ rfl
    · obtain ⟨y, rfl, yS, yw, hy⟩ := hit j v hj hPj
      exact ⟨y, rfl, yS, yw, isL_keep (fun o e => (Heap.get?_update_other _ _ (Ne.symm yS)).trans ((Heap.get?_update_other _ _ (Ne.symm yS)).trans (Heap.get?_push_of_some _ (hm.heap y o yw e)))) hy⟩
    · refine hR s'' r' (Moved.trans W.gtrans ((hm.mono hsub).then_heap (Nat.le_refl _) fun b o hb e => ?_) hm'') hr'' hz''
      have : S ≠ b := fun q => hb (by rw [← q]; exact List.mem_cons_self)
      exact (Heap.get?_update_other _ _ this).trans ((Heap.get?_update_other _ _ this).trans (Heap.get?_push_of_some _ e))
theorem call_sumL {E : Value → Shared → Prop} {s : Shared} {a b : Addr} {its : List Value} {xss : List (List Value)} {Q : Value → Shared → Prop} (hh : A.handled = none) (ha : s.heap.IsList a its.toArray) (hb : s.heap.IsList b ([] : List Value).toArray) (hits : its.length = xss.length) (hne : its ≠ [])
    (hx : ∀ (j : Nat) v ys, its[j]? = some v → xss[j]? = some ys → ∃ x, v = .ref x ∧ s.heap.IsList x ys.toArray) (hl : xss.flatten.length ≤ 1000)
    (h : ∀ s' r, (∀ c o, s.heap.get? c = some o → s'.heap.get? c = some o) → s'.gens = s.gens → s'.os = s.os → s.heap.objs.size ≤ r → s'.heap.get? r = some { cls := .type "list", data := .seq xss.flatten.toArray } → Q (.ref r) s') : wpAny (model prog w) A (call (.builtin "sum") [.ref a, .ref b]) Q E s := by
  refine call_function_tree PySem.F.kind_sum PySem.F.plain_sum PySem.F.entry_sum (args_sum2 _ _) ?_
  unfold Builtin.«sum»
  simp only [List.length_cons, List.length_nil]
  rw [if_neg (by decide)]
  refine wpAny_bind (wpAny_of_eq (show Builtin.Builtins.bindParams "sum" ["start"] 0 ⟨[.ref b], []⟩ = pure [some (.ref b)] from rfl) ?_)
  refine wpAny_bind (PySem.W.iter_listW (A := A.in1) hh ha fun s₂ e W st hfp hw hk => ?_)
  have hb2 : s₂.heap.IsList b ([] : List Value).toArray := isL_keep (fun o e => hk b o e) hb
  have ty : Shared.TypeIs s₂ (.ref b) "list" := let ⟨o, h1, h2, _⟩ := hb2; ⟨o, h1, h2⟩
  refine wpAny_bind (wpAny_pure ?_)
  simp only [List.forIn_cons, List.forIn_nil]
  refine wpAny_bind (wpAny_bind (wpAny_bind (wpAny_isInstance (T := "list") (b := false) ty sub_list_str ?_)))
  simp only [Bool.false_eq_true, if_false]
  refine wpAny_pure (wpAny_bind (wpAny_bind (wpAny_isInstance (T := "list") (b := false) ty PySem.F.sub_list_bytes ?_)))
  simp only [Bool.false_eq_true, if_false]
  refine wpAny_pure (wpAny_bind (wpAny_bind (wpAny_isInstance (T := "list") (b := false) ty PySem.F.sub_list_bytearray ?_)))
  simp only [Bool.false_eq_true, if_false]
  refine wpAny_pure (wpAny_pure ?_)
  refine wpAny_bind (wpAny_newObj_type ?_)
  have sz2 : s₂.heap.objs.size = s.heap.objs.size + 1 := by rw [e]; exact size_push' _ _
  have hSf : s₂.heap.objs.size ∉ [s.heap.objs.size, a] := fun hm => Nat.lt_irrefl _ (hfp _ hm)
  have hbS : b ≠ s₂.heap.objs.size := fun q => by
    obtain ⟨o, h1, _⟩ := hb2
    have := Heap.lt_size h1
    rw [q] at this
    exact Nat.lt_irrefl _ this
  have hbw : b ∉ [s.heap.objs.size] := fun q => by
    obtain ⟨o, h1, _⟩ := hb
    have l1 := Heap.lt_size h1
    rw [List.mem_singleton.mp q] at l1
    exact Nat.lt_irrefl _ l1
  have facc : ∀ i, (xss.take (i + 1)).flatten = (xss.take i).flatten ++ xss.getD i [] := fun i => by
    rw [List.take_add_one, List.flatten_append]
    cases q : xss[i]? with
    | none => simp [List.getD_eq_getElem?_getD, q]
    | some y => simp [List.getD_eq_getElem?_getD, q]
  have flen : ∀ i, (xss.take i).flatten.length ≤ 1000 := fun i => by
    refine Nat.le_trans ?_ hl
    have : xss.flatten = (xss.take i).flatten ++ (xss.drop i).flatten := by rw [← List.flatten_append, List.take_append_drop]
    rw [this, List.length_append]
    omega
  refine wpAny_pure ⟨plainId_quiet PySem.F.plain_sum_loop _, sum_loopL W s₂.heap.objs.size hSf (fun i => xss.getD i []) (fun i => (xss.take i).flatten) facc (fun i _ => flen i) (fun b' hb' => by rw [List.mem_singleton.mp hb', sz2]; exact Nat.lt_succ_self _) its.toArray.size 0 _ b 0 (Nat.sub_zero _) (Nat.zero_le _)
    (W.frame 0 s₂ _ _ st (Nat.le_refl _) fun b' _ o e => Heap.get?_push_of_some _ e) (Heap.get?_push_size _ rfl) (isL_keep (fun o e => Heap.get?_push_of_some _ e) (by simpa using hb2)) hbS hbw (fun z => absurd z (Nat.lt_irrefl _)) (fun j v hj hv => ?_) fun s' r' hm hr hz => ?_⟩
  · have hv' : its[j]? = some v := by simpa using hv
    have hj' : j < xss.length := by rw [← hits]; exact (List.getElem?_eq_some_iff.mp hv').1
    obtain ⟨x, e1, e2⟩ := hx j v xss[j] hv' (List.getElem?_eq_getElem hj')
    obtain ⟨o, ho, _⟩ := id e2
    have lt := Heap.lt_size ho
    refine ⟨x, e1, fun q => by rw [q, sz2] at lt; exact absurd (Nat.lt_of_succ_lt lt) (Nat.lt_irrefl _), fun q => by rw [List.mem_singleton.mp q] at lt; exact Nat.lt_irrefl _ lt, isL_keep (fun o e => Heap.get?_push_of_some _ (hk x o e)) ?_⟩
    rw [List.getD_eq_getElem?_getD, List.getElem?_eq_getElem hj']
    exact e2
  · obtain ⟨hz', hr2⟩ := hz (by rw [List.size_toArray]; exact List.length_pos_iff.mpr hne)
    rw [List.size_toArray, hits, List.take_length] at hr2
    refine h s' r' (fun c o ho => hm.heap c o (fun q => ?_) (Heap.get?_push_of_some _ (hk c o ho))) ?_ ?_ (Nat.le_of_lt (Nat.lt_trans (by rw [sz2]; exact Nat.lt_succ_self _) hz')) hr2
    · have lt := Heap.lt_size ho
      rcases List.mem_cons.mp q with q | q
      · rw [q, sz2] at lt; exact absurd (Nat.lt_of_succ_lt lt) (Nat.lt_irrefl _)
      · rw [List.mem_singleton.mp q] at lt; exact Nat.lt_irrefl _ lt
    · have := hm.gens
      rw [show ∀ o : Obj, ({ s₂ with heap := s₂.heap.push o } : Shared).gens = s₂.gens from fun _ => rfl, e] at this
      exact this
    · have := hm.os
      rw [show ∀ o : Obj, ({ s₂ with heap := s₂.heap.push o } : Shared).os = s₂.os from fun _ => rfl, e] at this
      exact this
end
theorem refsV : ∀ {ls : List Addr} {us : List Value}, Vals (ls.map V.ref) us → us = ls.map Value.ref
  | [], _, .nil => rfl
  | _ :: _, _, .cons r rs => by
    cases r
    rw [refsV rs]
    rfl
/-- the lists of a list put together -/
def rSumL (K : PySem.W.Frag) : List V → Hp → VK → Prop := fun vs H Q => ∃ (a b : Addr) (ls : List Addr) (xss : List (List V)), vs = [V.ref a, V.ref b] ∧ SqL K H a (ls.map V.ref) ∧ SqL K H b [] ∧ ls.length = xss.length ∧ ls ≠ [] ∧ (∀ (j : Nat) x ys, ls[j]? = some x → xss[j]? = some ys → SqL K H x ys) ∧ xss.flatten.length ≤ 1000 ∧
  ∀ p, H p = none → Q (.ref p) (upd H p (.lst xss.flatten))
theorem lists_vals {X : Cx} {pins : List (Addr × Obj)} {σ : L2.St} {H : Hp} {s : Shared} (I : Inv X pins σ H s) : ∀ {ls : List Addr} {xss : List (List V)}, ls.length = xss.length → (∀ (j : Nat) x ys, ls[j]? = some x → xss[j]? = some ys → SqL X.K H x ys) →
    ∃ vss : List (List Value), vss.length = xss.length ∧ Vals xss.flatten vss.flatten ∧ ∀ (j : Nat) x ys, ls[j]? = some x → vss[j]? = some ys → s.heap.IsList x ys.toArray
  | [], [], _, _ => ⟨[], rfl, .nil, fun j x ys h _ => by simp at h⟩
  | [], _ :: _, h, _ => by simp at h
  | _ :: _, [], h, _ => by simp at h
  | l :: ls, xs :: xss, h, k => by
    obtain ⟨its, rv, hl, _⟩ := I.list (k 0 l xs rfl rfl)
    obtain ⟨vss, h1, h2, h3⟩ := lists_vals I (ls := ls) (xss := xss) (by simpa using h) fun j x ys a b => k (j + 1) x ys (by simpa using a) (by simpa using b)
    refine ⟨its :: vss, by simp [h1], ?_, fun j x ys a b => ?_⟩
    · rw [List.flatten_cons, List.flatten_cons]
      exact rv.append h2
    · cases j with
      | zero => cases a; cases b; exact hl.isList
      | succ j => exact h3 j x ys (by simpa using a) (by simpa using b)
theorem sumL_K {X : Cx} {K : PySem.W.Frag} (hc : X.calm = true) (hK : X.K = K := by rfl) : CallR X (.builtin "sum") (rSumL K) := by
  subst hK
  intro pins s σ H vs us Q I r h
  obtain ⟨a, b, ls, xss, rfl, ha, hb, hlen, hne, hx, htot, q⟩ := h
  cases r with
  | cons r1 r =>
  cases r with
  | cons r2 r =>
  cases r
  cases r1
  cases r2
  obtain ⟨its, rv, hl, _⟩ := I.list ha
  obtain ⟨its2, rv2, hl2, _⟩ := I.list hb
  cases rv2
  obtain ⟨vss, h1, h2, h3⟩ := lists_vals I hlen hx
  have eits : its = ls.map Value.ref := refsV rv
  refine call_sumL (xss := vss) (I.ok.hd hc) hl.isList hl2.isList (by rw [eits, List.length_map, h1, hlen]) (by rw [eits]; simpa using hne) (fun j v ys hv hy => ?_) (by rw [← h2.length]; exact htot) fun s' p k g o hp hg => ?_
  · rw [eits, List.getElem?_map] at hv
    cases e : ls[j]? with
    | none => rw [e] at hv; cases hv
    | some x => rw [e] at hv; cases hv; exact ⟨x, rfl, h3 j x ys e hy⟩
  · have hz : xss.flatten.length ≤ sizeLine := Nat.le_trans htot (by decide)
    have hn : H p = none := I.hok.fresh hp
    have J : Inv X pins σ (upd H p (.lst xss.flatten)) { s with heap := s'.heap, gens := s'.gens, drawn := s'.drawn, toks := s'.toks } :=
      I.call (ch := []) (Un.laid k hp hn) (I.hok.laid k hp ⟨hz, vss.flatten, 0, h2, hg⟩) (by rw [g]; exact I.bare) (fun _ z => nomatch z)
    have e : s' = { s with heap := s'.heap, gens := s'.gens, drawn := s'.drawn, toks := s'.toks } := by
      cases s'
      cases s
      cases o
      rfl
    rw [e]
    exact ⟨.ref p, _, J, rfl, q p hn⟩
/-! ### sorted(set(tuple of numbers)) -/
def tSortSet (K : PySem.W.Frag) (ta : TE) : TE := fun σ H Q => ta σ H fun x H1 => ∃ (l : Addr) (ns : List Int), x = V.ref l ∧ SqT K H1 l (ns.map V.int) ∧ ns.length < 64 ∧ ∀ (out : List Int) (p : Addr), out.Pairwise (· < ·) → (∀ k : Int, k ∈ out ↔ k ∈ ns) → H1 p = none → Q (.ref p) (upd H1 p (.lst (out.map V.int)))
open PyProof.Rows in
theorem pe_sortSet {X : Cx} {a : Expr} {ta : TE} {p p2 q pos : Pos} (hc : X.calm = true) (hg : Gl X "sorted") (hm : X.mg "sorted" = none) (hg2 : Gl X "set") (hm2 : X.mg "set" = none) (ha : PE X a ta)
    (na : starEach [a] X.env = (false, eval a X.env) :: starEach [] X.env := by rfl) : PE X (.Call (.Name "sorted" p) [.Call (.Name "set" p2) [a] [] q] [] pos) (tSortSet X.K ta) := by
  refine ⟨fun pins s σ H Q I h => ?_⟩
  refine Call_ (ld_blt I hg hm (show bootBuiltins (Str.ofString "sorted") = some (.builtin "sorted") by kernel_rfl) ?_)
  refine PyProof.Rows.callWith_builtin1 (PyProof.Rows.args_cons ?_ rfl) rfl rfl
  refine Call_ (ld_blt I hg2 hm2 PyProof.Rows.boot_set ?_)
  refine PyProof.Rows.callWith_type1 (PyProof.Rows.args_cons (thn (ha.run pins s σ H _ I h) fun v s1 ⟨x, H1, I1, r1, q1⟩ => PyProof.Rows.args_nil ?_) na) na rfl
  obtain ⟨l, ns, rfl, hl, hz, q1⟩ := q1
  cases r1
  obtain ⟨its, rv, pt, _⟩ := I1.tuple hl
  refine call_set_tupI ns (I1.ok.hd hc) pt (by simpa using ints_of_vals rv) (by unfold scanBound; omega) fun h' tk c R1 hcn k => ?_
  refine PyProof.Rows.args_nil ?_
  refine sorted_set R1 (I1.ok.hd hc) (by omega) fun s' p out c2 ns' k2 g o hp hg' hi hs hm' hl' => ?_
  have kk : ∀ b u, s1.heap.get? b = some u → s'.heap.get? b = some u := fun b u e => k2 b u (k b u e)
  have hlt : s1.heap.objs.size ≤ p := by
    obtain ⟨o1, _, _, _, ho1, _⟩ := R1
    exact Nat.le_trans (Nat.le_of_lt (Heap.lt_size ho1)) hp
  have hlen : (ns'.map V.int).length ≤ sizeLine := by rw [List.length_map, hl', sizeLine_eq]; omega
  have hn : H1 p = none := I1.hok.fresh hlt
  have J : Inv X pins σ (upd H1 p (.lst (ns'.map V.int))) { s1 with heap := s'.heap, gens := s'.gens, drawn := s'.drawn, toks := s'.toks } :=
    I1.call (ch := []) (Un.laid kk hlt hn) (I1.hok.laid kk hlt ⟨hlen, out.toList, c2, vals_of_ints hi, hg'⟩) (by rw [g]; exact I1.bare) (fun _ z => nomatch z)
  have e : s' = { s1 with heap := s'.heap, gens := s'.gens, drawn := s'.drawn, toks := s'.toks } := by
    cases s'
    cases s1
    cases o
    rfl
  rw [e]
  exact ⟨.ref p, _, J, rfl, q1 ns' p hs (fun j => by rw [hm' j, decide_eq_true_eq]) hn⟩
section
variable {K : PySem.W.Frag} {N : Addr → Prop} {ρ ρ' : List Sl} {σ : L2.St} {F H F' H' F0 H0 : Hp} {ta tA : TA} {te tb tc tv td ty : TE} {tt tu : TT} {P : Post} {t u : TS}
theorem dps_lists {H : Hp} : ∀ {dss : List (List PyData)} {xs : List V}, DpAll K H xs (dss.map PyData.list) → ∃ (ls : List Addr) (xss : List (List V)), xs = ls.map V.ref ∧ ls.length = dss.length ∧ xss.length = dss.length ∧ (∀ (j : Nat) x ys, ls[j]? = some x → xss[j]? = some ys → SqL K H x ys) ∧ DpAll K H xss.flatten dss.flatten
  | [], _, .nil => ⟨[], [], rfl, rfl, rfl, fun j x ys h _ => by simp at h, .nil⟩
  | ds :: dss, _, .cons p ps => by
    obtain ⟨a, vs, rfl, s, d⟩ := dp_list p
    obtain ⟨ls, xss, e1, e2, e3, e4, e5⟩ := dps_lists ps
    refine ⟨a :: ls, vs :: xss, by rw [e1]; rfl, by simp [e2], by simp [e3], fun j x ys h1 h2 => ?_, ?_⟩
    · cases j with
      | zero => cases h1; cases h2; exact s
      | succ j => exact e4 j x ys (by simpa using h1) (by simpa using h2)
    · rw [List.flatten_cons, List.flatten_cons]
      exact dpa_app d e5
theorem x_sumL {dss : List (List PyData)} (h : XE K te ρ (.list (dss.map PyData.list))) (hne : dss ≠ []) (hz : dss.flatten.length ≤ 1000) : XR K (tCB (rSumL K) (tCons te (tCons (tLst tNil) tNil))) ρ (.ow dss.flatten) := fun N σ F H e Q q => h.e e fun v F1 H1 g p => by
  obtain ⟨a, xs, rfl, s, d⟩ := dp_list p
  obtain ⟨ls, xss, e1, e2, e3, e4, e5⟩ := dps_lists d
  rw [e1] at s
  refine ⟨Nat.zero_le _, fun b nb => ?_⟩
  have hh : Same H1 (upd H1 b (.lst [])) := same_new nb
  refine ⟨a, b, ls, xss, rfl, hh.seq (g.fh.seq s), SqL.of upd_same, by rw [e2, e3], fun z => hne (List.length_eq_zero_iff.mp (by rw [← e2, z]; rfl)), fun j x ys h1 h2 => hh.seq (g.fh.seq (e4 j x ys h1 h2)), by rw [dpa_len e5]; exact hz, fun p2 np => ?_⟩
  have np1 : H1 p2 = none := hh.free np
  have fp : F1 p2 = none := g.fh.free np1
  refine q (.ref p2) F1 _ ⟨g.ff, g.hh.trans (hh.trans (same_new np)), g.fh.trans (hh.trans (same_new np)), g.ap⟩ ⟨fun c => c = p2, ⟨p2, _, rfl, upd_same, rfl, e5⟩, fun c z => ?_⟩
  rw [z]
  exact ⟨fp, g.hh.free np1, _, upd_same⟩
theorem lt_same {l m : List Int} (hl : l.Pairwise (· < ·)) (hm : m.Pairwise (· < ·)) (h : ∀ k, k ∈ l ↔ k ∈ m) : l = m := by
  have nl : l.Nodup := hl.imp fun h => Int.ne_of_lt h
  have nm : m.Nodup := hm.imp fun h => Int.ne_of_lt h
  exact ((List.perm_ext_iff_of_nodup nl nm).mpr h).eq_of_pairwise (fun a b _ _ h1 h2 => by omega) (hl.imp fun h => Int.le_of_lt h) (hm.imp fun h => Int.le_of_lt h)
theorem x_sortSet {ns : List Int} (h : XE K te ρ (.tuple (ns.map .int))) (hs : ns.Pairwise (· < ·)) (hz : ns.length < 64) : XR K (tSortSet K te) ρ (.ow (ns.map .int)) := fun N σ F H e Q q => h.e e fun v F1 H1 g p => by
  obtain ⟨a, xs, rfl, s, d⟩ := dp_tuple p
  rw [dpa_ints d] at s
  refine ⟨a, ns, rfl, sq_t g.fh s, hz, fun out p2 h1 h2 np => ?_⟩
  have : out = ns := lt_same h1 hs h2
  subst this
  exact q (.ref p2) F1 _ (g.trans (.own g.fh np)) ⟨fun c => c = p2, ⟨p2, _, rfl, upd_same, rfl, ints_dpa out⟩, fun c z => by rw [z]; exact ⟨g.fh.free np, g.hh.free np, _, upd_same⟩⟩
end
end WL

namespace WL
open PySem L2
/-! ### what a meal tells, gone through again -/
section
variable {c : Nat} {W : List (List Nat)} {S : Ms} {k : Nat}
theorem EatI.low (h : EatI c W k S) (hW : WsOk c W) (hc6 : c ≤ 6) (ne : alv c S.lf ≠ []) {t : Nat} (ht : t < c) (z : S.lf t = 0) : (nextF c W S).lf t = 0 := by
  have st := h.step hW hc6 ne
  have := st.le t ht
  have h2 := (h.next hW hc6 ne).r0 t ht
  have e : (nextF c W S).lf t = S.lf t - longF c (lkF W S.lf) S.lf * ((eatersF (lkF W S.lf) c t).length : Int) := rfl
  have h3 : 0 ≤ longF c (lkF W S.lf) S.lf * ((eatersF (lkF W S.lf) c t).length : Int) := Int.mul_nonneg (Int.le_of_lt st.pos) (Int.natCast_nonneg _)
  omega
def goneA (c : Nat) (W : List (List Nat)) : Nat → List Nat
  | 0 => []
  | k + 1 => goneA c W k ++ goneF c (msK c W k).lf (msK c W (k + 1)).lf
theorem goneA_mem (hW : WsOk c W) (hc6 : c ≤ 6) : ∀ k, (∀ j, j < k → alv c (msK c W j).lf ≠ []) → ∀ t, t ∈ goneA c W k ↔ t < c ∧ (msK c W k).lf t = 0
  | 0, _, t => by
    constructor
    · intro h; cases h
    · rintro ⟨_, h⟩
      exact absurd (show ET = 0 from h) (by decide)
  | k + 1, h, t => by
    have ih := goneA_mem hW hc6 k (fun j hj => h j (by omega)) t
    have I := eatAt hW hc6 k fun j hj => h j (by omega)
    show t ∈ goneA c W k ++ goneF c (msK c W k).lf (msK c W (k + 1)).lf ↔ _
    rw [List.mem_append, ih, goneF_mem]
    constructor
    · rintro (⟨h1, h2⟩ | ⟨h1, h2, h3⟩)
      · exact ⟨h1, I.low hW hc6 (h k (by omega)) h1 h2⟩
      · exact ⟨h1, h3⟩
    · rintro ⟨h1, h2⟩
      by_cases z : (msK c W k).lf t = 0
      · exact .inl ⟨h1, z⟩
      · exact .inr ⟨h1, z, h2⟩
theorem goneA_nd (hW : WsOk c W) (hc6 : c ≤ 6) : ∀ k, (∀ j, j < k → alv c (msK c W j).lf ≠ []) → (goneA c W k).Nodup
  | 0, _ => List.nodup_nil
  | k + 1, h => List.nodup_append.mpr ⟨goneA_nd hW hc6 k fun j hj => h j (by omega), List.nodup_range.filter _, fun a ha b hb y => by
    subst y
    exact (goneF_mem.mp hb).2.1 ((goneA_mem hW hc6 k (fun j hj => h j (by omega)) a).mp ha).2⟩
theorem goneA_len (hW : WsOk c W) (hc1 : 1 ≤ c) (hc6 : c ≤ 6) : (goneA c W (eatK c W)).length = c := by
  obtain ⟨_, _, h3⟩ := eatK_ok hW hc6
  obtain ⟨_, z, _⟩ := eat_end hW hc1 hc6
  have p : (goneA c W (eatK c W)).Perm (List.range c) := (List.perm_ext_iff_of_nodup (goneA_nd hW hc6 _ h3) List.nodup_range).mpr fun t => by
    rw [goneA_mem hW hc6 _ h3 t, List.mem_range]
    exact ⟨fun h => h.1, fun h => ⟨h, z t h⟩⟩
  rw [p.length_eq, List.length_range]
theorem goneA_flat : ∀ k, goneA c W k = ((List.range k).map fun j => goneF c (msK c W j).lf (msK c W (j + 1)).lf).flatten
  | 0 => rfl
  | k + 1 => by
    rw [List.range_succ, List.map_append, List.flatten_append, ← goneA_flat k]
    simp [goneA]
theorem goneF_ok (hW : WsOk c W) (hc6 : c ≤ 6) (h : EatI c W k S) (ne : alv c S.lf ≠ []) : goneF c S.lf (nextF c W S).lf ≠ [] ∧ (goneF c S.lf (nextF c W S).lf).Pairwise (· < ·) ∧ (∀ t ∈ goneF c S.lf (nextF c W S).lf, t < c) ∧ (goneF c S.lf (nextF c W S).lf).length ≤ 6 := by
  obtain ⟨t, h1, h2, h3⟩ := (h.step hW hc6 ne).at_
  have e : (nextF c W S).lf t = S.lf t - longF c (lkF W S.lf) S.lf * ((eatersF (lkF W S.lf) c t).length : Int) := rfl
  refine ⟨List.ne_nil_of_mem (goneF_mem.mpr ⟨h1, h2, by omega⟩), List.Pairwise.filter _ List.pairwise_lt_range, fun t m => (goneF_mem.mp m).1, ?_⟩
  have := List.length_filter_le (fun t => decide (S.lf t ≠ 0) && decide ((nextF c W S).lf t = 0)) (List.range c)
  rw [List.length_range] at this
  unfold goneF
  omega
theorem left_at (hW : WsOk c W) {lf : Nat → Int} (ne : alv c lf ≠ []) {gn : List Nat} (hg : ∀ t, t ∈ gn ↔ t < c ∧ lf t = 0) {p : Nat} (hp : p < c) : ((W.getD p []).filter fun t => !decide (t ∈ gn))[0]? = some (lkF W lf p) := by
  obtain ⟨_, hperm⟩ := hW.at hp
  have e : (W.getD p []).filter (fun t => !decide (t ∈ gn)) = (W.getD p []).filter fun t => decide (lf t ≠ 0) := List.filter_congr fun t m => by
    have ht := List.mem_range.mp (hperm.mem_iff.mp m)
    by_cases z : lf t = 0
    · have : t ∈ gn := (hg t).mpr ⟨ht, z⟩
      simp [z, this]
    · have : t ∉ gn := fun q => z ((hg t).mp q).2
      simp [z, this]
  rw [e, ← List.head?_eq_getElem?, List.head?_filter]
  obtain ⟨t, ht⟩ := List.exists_mem_of_ne_nil _ ne
  obtain ⟨h1, h2⟩ := alv_mem.mp ht
  have hs : ((W.getD p []).find? fun t => decide (lf t ≠ 0)).isSome = true := List.find?_isSome.mpr ⟨t, hperm.mem_iff.mpr (List.mem_range.mpr h1), show decide (lf t ≠ 0) = true by simpa using h2⟩
  obtain ⟨u, hu⟩ := Option.isSome_iff_exists.mp hs
  unfold lkF
  rw [hu]
  rfl
end
end WL

namespace WL
open PySem L2
/-! ### the eaten table: shares, nobody would rather, no ring -/
section
variable {c : Nat} {W : List (List Nat)}
def eatM (c : Nat) (W : List (List Nat)) : Nat → Nat → Int := (msK c W (eatK c W)).tb
theorem eatTab (hW : WsOk c W) (hc1 : 1 ≤ c) (hc6 : c ≤ 6) : Tab c ET (eatM c W) := by
  obtain ⟨_, _, h3⟩ := eatK_ok hW hc6
  have I := eatAt hW hc6 _ h3
  obtain ⟨e1, e2, _⟩ := eat_end hW hc1 hc6
  refine ⟨by decide, by decide +kernel, fun p t _ _ => I.nn p t, fun p hp => (I.row p hp).trans e1, fun t ht => ?_⟩
  have := I.col t ht
  rw [e2 t ht] at this
  simpa [eatM] using this
theorem eatBal (hW : WsOk c W) (hc1 : 1 ≤ c) (hc6 : c ≤ 6) : Bal c (matL c (eatM c W)) ET := (eatTab hW hc1 hc6).bal
theorem sum_ite (x : Nat) (v : Int) : ∀ {l : List Nat}, l.Nodup → (l.map fun t => if x = t then v else 0).sum = if x ∈ l then v else 0
  | [], _ => by simp
  | a :: l, h => by
    obtain ⟨h1, h2⟩ := List.nodup_cons.mp h
    rw [List.map_cons, List.sum_cons, sum_ite x v h2]
    by_cases z : x = a
    · subst z
      rw [if_pos rfl, if_neg h1, if_pos (by simp)]
      omega
    · rw [if_neg z]
      by_cases y : x ∈ l
      · rw [if_pos y, if_pos (List.mem_cons_of_mem _ y)]; omega
      · rw [if_neg y, if_neg (by simp [z, y])]; omega
theorem sum_addf (f g : Nat → Int) : ∀ l : List Nat, (l.map fun t => f t + g t).sum = (l.map f).sum + (l.map g).sum
  | [] => rfl
  | a :: l => by
    rw [List.map_cons, List.sum_cons, sum_addf f g l, List.map_cons, List.sum_cons, List.map_cons, List.sum_cons]
    omega
/-- nobody has less at a place of the own row -/
theorem eat_envy (hW : WsOk c W) (hc6 : c ≤ 6) {p o : Nat} (hp : p < c) (ho : o < c) (n : Nat) : ∀ k, (∀ j, j < k → alv c (msK c W j).lf ≠ []) → preI (msK c W k).tb (W.getD p []) o n ≤ preI (msK c W k).tb (W.getD p []) p n
  | 0, _ => by
    unfold preI
    exact Int.le_refl _
  | k + 1, h => by
    have ih := eat_envy hW hc6 hp ho n k fun j hj => h j (by omega)
    have I := eatAt hW hc6 k fun j hj => h j (by omega)
    have ne := h k (by omega)
    have sp := I.step hW hc6 ne
    obtain ⟨_, hperm⟩ := hW.at hp
    have nd : (W.getD p []).Nodup := hperm.nodup_iff.mpr List.nodup_range
    have ndt := nd.sublist (List.take_sublist n _)
    have e : ∀ q, preI (msK c W (k + 1)).tb (W.getD p []) q n = preI (msK c W k).tb (W.getD p []) q n + if lkF W (msK c W k).lf q ∈ (W.getD p []).take n then longF c (lkF W (msK c W k).lf) (msK c W k).lf else 0 := fun q => by
      unfold preI
      rw [← sum_ite _ _ ndt, ← sum_addf]
      rfl
    rw [e o, e p]
    have key : lkF W (msK c W k).lf o ∈ (W.getD p []).take n → lkF W (msK c W k).lf p ∈ (W.getD p []).take n := fun m => by
      obtain ⟨m1, m2⟩ := lk_ok hW ne hp
      obtain ⟨m3, _⟩ := lk_ok hW ne ho
      obtain ⟨j, hj⟩ := List.getElem?_of_mem (hperm.mem_iff.mpr (List.mem_range.mpr (alv_mem.mp m1).1))
      obtain ⟨i, hi⟩ := List.getElem?_of_mem m
      have hin : i < n := by
        have := (List.getElem?_eq_some_iff.mp hi).1
        rw [List.length_take] at this
        omega
      rw [List.getElem?_take_of_lt hin] at hi
      have : ¬ i < j := fun q => (alv_mem.mp m3).2 (m2 j hj i q _ hi)
      refine List.mem_of_getElem? (i := j) ?_
      rw [List.getElem?_take_of_lt (by omega)]
      exact hj
    have := sp.pos
    by_cases z : lkF W (msK c W k).lf o ∈ (W.getD p []).take n
    · rw [if_pos z, if_pos (key z)]; omega
    · rw [if_neg z]
      split <;> omega
theorem lf_stay (hW : WsOk c W) (hc6 : c ≤ 6) {t : Nat} (ht : t < c) {j : Nat} (z : (msK c W j).lf t = 0) : ∀ k, j ≤ k → (∀ i, i < k → alv c (msK c W i).lf ≠ []) → (msK c W k).lf t = 0
  | 0, h, _ => by
    have : j = 0 := by omega
    rw [← this]; exact z
  | k + 1, h, hk => by
    by_cases y : j = k + 1
    · rw [← y]; exact z
    · exact (eatAt hW hc6 k fun i hi => hk i (by omega)).low hW hc6 (hk k (by omega)) ht (lf_stay hW hc6 ht z k (by omega) fun i hi => hk i (by omega))
/-- what one has a share of was eaten at a step -/
theorem eat_when {p t : Nat} : ∀ k, (msK c W k).tb p t ≠ 0 → ∃ j, j < k ∧ lkF W (msK c W j).lf p = t
  | 0, h => (h rfl).elim
  | k + 1, h => by
    by_cases z : lkF W (msK c W k).lf p = t
    · exact ⟨k, by omega, z⟩
    · have : (msK c W (k + 1)).tb p t = (msK c W k).tb p t + if lkF W (msK c W k).lf p = t then longF c (lkF W (msK c W k).lf) (msK c W k).lf else 0 := rfl
      rw [this, if_neg z, Int.add_zero] at h
      obtain ⟨j, h1, h2⟩ := eat_when k h
      exact ⟨j, by omega, h2⟩
def exT (c : Nat) (W : List (List Nat)) (t : Nat) : Nat := ((List.range (eatK c W)).filter fun k => decide ((msK c W k).lf t ≠ 0)).length
theorem ex_lt (hW : WsOk c W) (hc6 : c ≤ 6) {p g b : Nat} (hp : p < c) (hg : g < c) (hb : b < c) (h1 : eatM c W p g ≠ 0) (h2 : ixW W p b < ixW W p g) : exT c W b < exT c W g := by
  obtain ⟨_, _, hK⟩ := eatK_ok hW hc6
  obtain ⟨k, k1, k2⟩ := eat_when _ h1
  have kne : ∀ j, j < k → alv c (msK c W j).lf ≠ [] := fun j hj => hK j (by omega)
  have ne := hK k k1
  obtain ⟨m1, m2⟩ := lk_ok hW ne hp
  rw [k2] at m1 m2
  obtain ⟨_, hperm⟩ := hW.at hp
  have bm : b ∈ W.getD p [] := hperm.mem_iff.mpr (List.mem_range.mpr hb)
  have gm : g ∈ W.getD p [] := hperm.mem_iff.mpr (List.mem_range.mpr hg)
  have ib : (W.getD p [])[(W.getD p []).idxOf b]? = some b := by
    have := List.idxOf_lt_length_of_mem bm
    rw [List.getElem?_eq_getElem this, List.getElem_idxOf]
  have ig : (W.getD p [])[(W.getD p []).idxOf g]? = some g := by
    have := List.idxOf_lt_length_of_mem gm
    rw [List.getElem?_eq_getElem this, List.getElem_idxOf]
  have zb : (msK c W k).lf b = 0 := m2 _ ig _ h2 b ib
  have zg : (msK c W k).lf g ≠ 0 := (alv_mem.mp m1).2
  refine filter_lt (fun j hj q => ?_) ⟨k, List.mem_range.mpr k1, by simpa using zg, by simpa using zb⟩
  have hj := List.mem_range.mp hj
  have q' : (msK c W j).lf b ≠ 0 := by simpa using q
  have jk : j ≤ k := by
    rcases Nat.lt_or_ge k j with y | y
    · exact (q' (lf_stay hW hc6 hb zb j (by omega) fun i hi => hK i (by omega))).elim
    · exact y
  have : (msK c W j).lf g ≠ 0 := fun z => zg (lf_stay hW hc6 hg z k jk kne)
  simpa using this
theorem no_ring (hW : WsOk c W) (hc1 : 1 ≤ c) (hc6 : c ≤ 6) {L : List Tri} (h : RingOk c (matL c (eatM c W)) W L) : False := by
  have hl := h.len
  have up : ∀ k, k < L.length → exT c W (rA L k).2.1 < exT c W (rA L ((k + 1) % L.length)).2.1 := fun k hk => by
    have hm : (k + 1) % L.length < L.length := Nat.mod_lt _ (by omega)
    obtain ⟨a1, a2, a3, a4, a5⟩ := h.at_ _ _ (rA_at hm)
    rw [matL_g a1 a2] at a4
    have := ex_lt hW hc6 a1 a2 a3 a4 a5
    rw [h.nxt k hk] at this
    exact this
  have all : ∀ m, exT c W (rA L 0).2.1 + m ≤ exT c W (rA L (m % L.length)).2.1 := fun m => by
    induction m with
    | zero => rw [Nat.zero_mod]; exact Nat.le_refl _
    | succ m ih =>
      have := up (m % L.length) (Nat.mod_lt _ (by omega))
      rw [show (m % L.length + 1) % L.length = (m + 1) % L.length by rw [Nat.mod_add_mod]] at this
      omega
  have := all L.length
  rw [Nat.mod_self] at this
  omega
end
end WL

namespace WL
open PySem L2
/-! ### people and things with new numbers -/
def rn (l : List Nat) (x : Nat) : Nat := l.getD x 0
section
variable {c : Nat} {l : List Nat}
theorem rn_lt (h : l.Perm (List.range c)) {x : Nat} (hx : x < c) : rn l x < c := by
  have ln : l.length = c := by rw [h.length_eq, List.length_range]
  unfold rn
  rw [List.getD_eq_getElem?_getD, List.getElem?_eq_getElem (by omega)]
  exact List.mem_range.mp (h.mem_iff.mp (List.getElem_mem _))
theorem rn_at (h : l.Perm (List.range c)) {x : Nat} (hx : x < c) : l[x]? = some (rn l x) := by
  have ln : l.length = c := by rw [h.length_eq, List.length_range]
  unfold rn
  rw [List.getD_eq_getElem?_getD, List.getElem?_eq_getElem (by omega)]
  rfl
theorem rn_inj (h : l.Perm (List.range c)) {x y : Nat} (hx : x < c) (hy : y < c) (e : rn l x = rn l y) : x = y := by
  have nd : l.Nodup := h.nodup_iff.mpr List.nodup_range
  have ln : l.length = c := by rw [h.length_eq, List.length_range]
  exact (List.getElem?_inj (by omega) nd).mp (by rw [rn_at h hx, rn_at h hy, e])
theorem rn_sur (h : l.Perm (List.range c)) {y : Nat} (hy : y < c) : ∃ x, x < c ∧ rn l x = y := by
  have ln : l.length = c := by rw [h.length_eq, List.length_range]
  obtain ⟨x, hx⟩ := List.getElem?_of_mem (h.mem_iff.mpr (List.mem_range.mpr hy))
  have hc : x < c := by rw [← ln]; exact (List.getElem?_eq_some_iff.mp hx).1
  rw [rn_at h hc] at hx
  exact ⟨x, hc, Option.some.inj hx⟩
theorem rn_map (h : l.Perm (List.range c)) : (List.range c).map (rn l) = l := by
  have ln : l.length = c := by rw [h.length_eq, List.length_range]
  refine List.ext_getElem? fun i => ?_
  rw [List.getElem?_map]
  by_cases hi : i < c
  · rw [List.getElem?_range hi, rn_at h hi]; rfl
  · rw [List.getElem?_eq_none (by simpa using hi), List.getElem?_eq_none (by omega)]; rfl
theorem rn_mem (h : l.Perm (List.range c)) {s : List Nat} (hs : ∀ x ∈ s, x < c) {a : Nat} (ha : a < c) : rn l a ∈ s.map (rn l) ↔ a ∈ s := by
  constructor
  · intro m
    obtain ⟨b, hb, e⟩ := List.mem_map.mp m
    rw [← rn_inj h (hs b hb) ha e]
    exact hb
  · intro m
    exact List.mem_map.mpr ⟨a, m, rfl⟩
theorem rn_nd (h : l.Perm (List.range c)) {s : List Nat} (hs : ∀ x ∈ s, x < c) (nd : s.Nodup) : (s.map (rn l)).Nodup := by
  rw [List.nodup_iff_pairwise_ne, List.pairwise_map]
  exact List.Pairwise.imp_of_mem (R := fun a b => a ≠ b) (fun {a b} ha hb hab e => hab (rn_inj h (hs a ha) (hs b hb) e)) nd
/-- a part of the numbers, renamed -/
theorem rn_filter (h : l.Perm (List.range c)) {p q : Nat → Bool} (e : ∀ x, x < c → q (rn l x) = p x) : ((List.range c).filter q).Perm (((List.range c).filter p).map (rn l)) := by
  refine (List.perm_ext_iff_of_nodup (List.nodup_range.filter _) (rn_nd h (fun x m => List.mem_range.mp (List.mem_filter.mp m).1) (List.nodup_range.filter _))).mpr fun y => ?_
  rw [List.mem_filter, List.mem_map, List.mem_range]
  constructor
  · rintro ⟨h1, h2⟩
    obtain ⟨x, hx, rfl⟩ := rn_sur h h1
    exact ⟨x, List.mem_filter.mpr ⟨List.mem_range.mpr hx, by rw [← e x hx]; exact h2⟩, rfl⟩
  · rintro ⟨x, hx, rfl⟩
    obtain ⟨h1, h2⟩ := List.mem_filter.mp hx
    have := List.mem_range.mp h1
    exact ⟨rn_lt h this, by rw [e x this]; exact h2⟩
end
structure Ren (c : Nat) (pp tt : List Nat) (W W' : List (List Nat)) : Prop where
  hp : pp.Perm (List.range c)
  ht : tt.Perm (List.range c)
  hW : WsOk c W
  len : W'.length = c
  row : ∀ p, p < c → W'.getD (rn pp p) [] = (W.getD p []).map (rn tt)
section
variable {c : Nat} {pp tt : List Nat} {W W' : List (List Nat)}
theorem Ren.ok (r : Ren c pp tt W W') : WsOk c W' := ⟨r.len, fun w m => by
  obtain ⟨q, hq⟩ := List.getElem?_of_mem m
  have hqc : q < c := by rw [← r.len]; exact (List.getElem?_eq_some_iff.mp hq).1
  obtain ⟨p, hp, rfl⟩ := rn_sur r.hp hqc
  have e : w = W'.getD (rn pp p) [] := by rw [List.getD_eq_getElem?_getD, hq]; rfl
  rw [e, r.row p hp]
  have := ((r.hW.at hp).2).map (rn tt)
  rw [rn_map r.ht] at this
  exact this.trans r.ht⟩
theorem rowLt (hW : WsOk c W) {p : Nat} (hp : p < c) : ∀ t ∈ W.getD p [], t < c := fun t m => List.mem_range.mp ((hW.at hp).2.mem_iff.mp m)
/-! the orders -/
theorem nsum_perm {l m : List Nat} (h : l.Perm m) (f : Nat → Nat) : (l.map f).sum = (m.map f).sum := by
  induction h with
  | nil => rfl
  | cons a _ ih => rw [List.map_cons, List.map_cons, List.sum_cons, List.sum_cons, ih]
  | swap a b l => rw [List.map_cons, List.map_cons, List.map_cons, List.map_cons, List.sum_cons, List.sum_cons, List.sum_cons, List.sum_cons]; omega
  | trans _ _ ih1 ih2 => rw [ih1, ih2]
theorem ren_bst (r : Ren c pp tt W W') {x : Nat} (hx : x < c) {tk : List Nat} (hk : ∀ t ∈ tk, t < c) (hl : tk.length < c) : bst (W'.getD (rn pp x) []) (tk.map (rn tt)) = rn tt (bst (W.getD x []) tk) ∧ bst (W.getD x []) tk < c := by
  have hrow := (r.hW.at hx).2
  obtain ⟨l, hl'⟩ := bst_ok (tk := tk) hrow hl
  refine ⟨?_, (bst_mem (tk := tk) hrow hl).2.2⟩
  rw [r.row x hx]
  have e : ((W.getD x []).map (rn tt)).filter (fun t => !decide (t ∈ tk.map (rn tt))) = ((W.getD x []).filter fun t => !decide (t ∈ tk)).map (rn tt) := by
    rw [List.filter_map]
    congr 1
    refine List.filter_congr fun a ha => ?_
    show (!decide (rn tt a ∈ tk.map (rn tt))) = _
    rw [decide_eq_decide.mpr (rn_mem r.ht hk (rowLt r.hW hx a ha))]
  have b1 : bst ((W.getD x []).map (rn tt)) (tk.map (rn tt)) = ((((W.getD x []).map (rn tt)).filter fun t => !decide (t ∈ tk.map (rn tt))).head?).getD 0 := rfl
  rw [b1, e, hl']
  rfl
theorem ren_way (r : Ren c pp tt W W') : ∀ (n : Nat) (os tk : List Nat) (p t : Nat), os.length + n = c → tk.length = os.length → (∀ x ∈ os, x < c) → (∀ x ∈ tk, x < c) → p < c → t < c → wayF W' c n (os.map (rn pp)) (tk.map (rn tt)) (rn pp p) (rn tt t) = wayF W c n os tk p t
  | 0, _, _, _, _, _, _, _, _, _, _ => rfl
  | n + 1, os, tk, p, t, h1, h2, h3, h4, hp, ht => by
    show ((lf c (os.map (rn pp))).map _).sum = ((lf c os).map _).sum
    have pm : (lf c (os.map (rn pp))).Perm ((lf c os).map (rn pp)) := rn_filter r.hp fun x hx => by rw [decide_eq_decide.mpr (rn_mem r.hp h3 hx)]
    rw [nsum_perm pm, List.map_map]
    congr 1
    refine List.map_congr_left fun x hx => ?_
    obtain ⟨xc, _⟩ := lf_mem.mp hx
    obtain ⟨e1, e2⟩ := ren_bst r xc h4 (by omega)
    show (if rn pp p = rn pp x ∧ rn tt t = bst (W'.getD (rn pp x) []) (tk.map (rn tt)) then fct n else 0) + wayF W' c n (os.map (rn pp) ++ [rn pp x]) (tk.map (rn tt) ++ [bst (W'.getD (rn pp x) []) (tk.map (rn tt))]) (rn pp p) (rn tt t) = _
    rw [e1]
    have ih := ren_way r n (os ++ [x]) (tk ++ [bst (W.getD x []) tk]) p t (by simp; omega) (by simp [h2]) (fun y m => by
      rcases List.mem_append.mp m with m | m
      · exact h3 y m
      · rw [List.mem_singleton.mp m]; exact xc) (fun y m => by
      rcases List.mem_append.mp m with m | m
      · exact h4 y m
      · rw [List.mem_singleton.mp m]; exact e2) hp ht
    rw [List.map_append, List.map_append] at ih
    rw [show [rn pp x] = [x].map (rn pp) from rfl, show [rn tt (bst (W.getD x []) tk)] = [bst (W.getD x []) tk].map (rn tt) from rfl, ih]
    congr 1
    have : (rn pp p = rn pp x ∧ rn tt t = rn tt (bst (W.getD x []) tk)) ↔ (p = x ∧ t = bst (W.getD x []) tk) := ⟨fun h => ⟨rn_inj r.hp hp xc h.1, rn_inj r.ht ht e2 h.2⟩, fun h => ⟨by rw [h.1], by rw [h.2]⟩⟩
    simp only [this]
/-! the meal -/
structure RenS (c : Nat) (pp tt : List Nat) (S S' : Ms) : Prop where
  lf : ∀ t, t < c → S'.lf (rn tt t) = S.lf t
  tb : ∀ p t, p < c → t < c → S'.tb (rn pp p) (rn tt t) = S.tb p t
  tm : S'.tm = S.tm
theorem ren_alv (r : Ren c pp tt W W') {S S' : Ms} (h : RenS c pp tt S S') : (alv c S'.lf).Perm ((alv c S.lf).map (rn tt)) := rn_filter r.ht fun x hx => by rw [h.lf x hx]
theorem ren_ne (r : Ren c pp tt W W') {S S' : Ms} (h : RenS c pp tt S S') : alv c S'.lf = [] ↔ alv c S.lf = [] := by
  have := (ren_alv r h).length_eq
  rw [List.length_map] at this
  constructor
  · intro z; rw [z] at this; exact List.length_eq_zero_iff.mp this.symm
  · intro z; rw [z] at this; exact List.length_eq_zero_iff.mp this
theorem ren_lk (r : Ren c pp tt W W') {S S' : Ms} (h : RenS c pp tt S S') (ne : alv c S.lf ≠ []) {p : Nat} (hp : p < c) : lkF W' S'.lf (rn pp p) = rn tt (lkF W S.lf p) := by
  unfold lkF
  rw [r.row p hp, List.find?_map]
  have hc : ∀ t ∈ W.getD p [], t < c := rowLt r.hW hp
  have e : (W.getD p []).find? ((fun t => decide (S'.lf t ≠ 0)) ∘ rn tt) = (W.getD p []).find? fun t => decide (S.lf t ≠ 0) := by
    generalize W.getD p [] = w at hc
    induction w with
    | nil => rfl
    | cons a w ih =>
      have e1 : ((fun t => decide (S'.lf t ≠ 0)) ∘ rn tt) a = decide (S.lf a ≠ 0) := by
        show decide (S'.lf (rn tt a) ≠ 0) = _
        rw [h.lf a (hc a List.mem_cons_self)]
      rw [List.find?_cons, List.find?_cons, ih fun t m => hc t (List.mem_cons_of_mem _ m), e1]
  rw [e]
  have hm := (lk_ok r.hW ne hp).1
  cases q : (W.getD p []).find? fun t => decide (S.lf t ≠ 0) with
  | none =>
    obtain ⟨t, ht⟩ := List.exists_mem_of_ne_nil _ ne
    obtain ⟨h1, h2⟩ := alv_mem.mp ht
    have := List.find?_eq_none.mp q t ((r.hW.at hp).2.mem_iff.mpr (List.mem_range.mpr h1))
    simp at this
    exact (h2 this).elim
  | some t => rfl
theorem ren_eat {lk lk' : Nat → Nat} (r : Ren c pp tt W W') (h : ∀ p, p < c → lk' (rn pp p) = rn tt (lk p)) (hl : ∀ p, p < c → lk p < c) {t : Nat} (ht : t < c) : (eatersF lk' c (rn tt t)).length = (eatersF lk c t).length := by
  have : (eatersF lk' c (rn tt t)).Perm ((eatersF lk c t).map (rn pp)) := rn_filter r.hp fun x hx => by
    rw [h x hx, decide_eq_decide]
    exact ⟨fun e => rn_inj r.ht (hl x hx) ht e, fun e => by rw [e]⟩
  rw [this.length_eq, List.length_map]
theorem ren_long (r : Ren c pp tt W W') (hc6 : c ≤ 6) {k : Nat} {S S' : Ms} (h : RenS c pp tt S S') (hE : EatI c W k S) (hE' : EatI c W' k S') (ne : alv c S.lf ≠ []) : longF c (lkF W' S'.lf) S'.lf = longF c (lkF W S.lf) S.lf := by
  have sp := hE.step r.hW hc6 ne
  have ne' : alv c S'.lf ≠ [] := fun z => ne ((ren_ne r h).mp z)
  have sp' := hE'.step r.ok hc6 ne'
  have hlk : ∀ p, p < c → lkF W' S'.lf (rn pp p) = rn tt (lkF W S.lf p) := fun p hp => ren_lk r h ne hp
  have vals : ∀ v, v ∈ valsF c (lkF W' S'.lf) S'.lf ↔ v ∈ valsF c (lkF W S.lf) S.lf := fun v => by
    unfold valsF
    rw [List.mem_map, List.mem_map]
    constructor
    · rintro ⟨t', m, rfl⟩
      obtain ⟨q, hq, e⟩ := keysF_mem.mp m
      obtain ⟨p, hp, rfl⟩ := rn_sur r.hp hq
      rw [hlk p hp] at e
      have lt := sp.lk_lt p hp
      refine ⟨lkF W S.lf p, keysF_mem.mpr ⟨p, hp, rfl⟩, ?_⟩
      rw [← e, h.lf _ lt, ren_eat r hlk sp.lk_lt lt]
    · rintro ⟨t, m, rfl⟩
      obtain ⟨p, hp, e⟩ := keysF_mem.mp m
      have lt : t < c := by rw [← e]; exact sp.lk_lt p hp
      refine ⟨rn tt t, keysF_mem.mpr ⟨rn pp p, rn_lt r.hp hp, by rw [hlk p hp, e]⟩, ?_⟩
      rw [h.lf _ lt, ren_eat r hlk sp.lk_lt lt]
  have m1 := sp.min
  have m2 := sp'.min
  have s1 : ∀ l : List Int, ∀ b, minO l = some b → b ∈ l ∧ ∀ x ∈ l, b ≤ x := fun l b hb => by
    rcases Classical.em (l = []) with z | z
    · rw [(minO_spec l).1 z] at hb; cases hb
    · obtain ⟨b', h1, h2, h3⟩ := (minO_spec l).2 z
      rw [hb] at h1
      cases h1
      exact ⟨h2, h3⟩
  obtain ⟨a1, a2⟩ := s1 _ _ m1
  obtain ⟨b1, b2⟩ := s1 _ _ m2
  exact Int.le_antisymm (b2 _ ((vals _).mpr a1)) (a2 _ ((vals _).mp b1))
theorem ren_next (r : Ren c pp tt W W') (hc6 : c ≤ 6) {k : Nat} {S S' : Ms} (h : RenS c pp tt S S') (hE : EatI c W k S) (hE' : EatI c W' k S') (ne : alv c S.lf ≠ []) : RenS c pp tt (nextF c W S) (nextF c W' S') := by
  have sp := hE.step r.hW hc6 ne
  have hlk : ∀ p, p < c → lkF W' S'.lf (rn pp p) = rn tt (lkF W S.lf p) := fun p hp => ren_lk r h ne hp
  have hl := ren_long r hc6 h hE hE' ne
  refine ⟨fun t ht => ?_, fun p t hp ht => ?_, ?_⟩
  · show S'.lf (rn tt t) - longF c (lkF W' S'.lf) S'.lf * ((eatersF (lkF W' S'.lf) c (rn tt t)).length : Int) = S.lf t - longF c (lkF W S.lf) S.lf * ((eatersF (lkF W S.lf) c t).length : Int)
    rw [hl, h.lf t ht, ren_eat r hlk sp.lk_lt ht]
  · show S'.tb (rn pp p) (rn tt t) + (if lkF W' S'.lf (rn pp p) = rn tt t then longF c (lkF W' S'.lf) S'.lf else 0) = S.tb p t + if lkF W S.lf p = t then longF c (lkF W S.lf) S.lf else 0
    rw [hl, h.tb p t hp ht, hlk p hp]
    have : rn tt (lkF W S.lf p) = rn tt t ↔ lkF W S.lf p = t := ⟨fun e => rn_inj r.ht (sp.lk_lt p hp) ht e, fun e => by rw [e]⟩
    simp only [this]
  · show S'.tm + longF c (lkF W' S'.lf) S'.lf = S.tm + longF c (lkF W S.lf) S.lf
    rw [hl, h.tm]
theorem ren_all (r : Ren c pp tt W W') (hc6 : c ≤ 6) : ∀ k, (∀ j, j < k → alv c (msK c W j).lf ≠ []) → RenS c pp tt (msK c W k) (msK c W' k) ∧ ∀ j, j < k → alv c (msK c W' j).lf ≠ []
  | 0, _ => ⟨⟨fun _ _ => rfl, fun _ _ _ _ => rfl, rfl⟩, fun j hj => by omega⟩
  | k + 1, h => by
    obtain ⟨ih, ne'⟩ := ren_all r hc6 k fun j hj => h j (by omega)
    refine ⟨ren_next r hc6 ih (eatAt r.hW hc6 k fun j hj => h j (by omega)) (eatAt r.ok hc6 k ne') (h k (by omega)), fun j hj => ?_⟩
    by_cases z : j = k
    · rw [z]; exact fun q => h k (by omega) ((ren_ne r ih).mp q)
    · exact ne' j (by omega)
theorem ren_K (r : Ren c pp tt W W') (hc6 : c ≤ 6) : eatK c W' = eatK c W := by
  obtain ⟨_, a2, a3⟩ := eatK_ok r.hW hc6
  obtain ⟨_, b2, b3⟩ := eatK_ok r.ok hc6
  obtain ⟨ih, ne'⟩ := ren_all r hc6 _ a3
  have z := (ren_ne r ih).mpr a2
  rcases Nat.lt_trichotomy (eatK c W') (eatK c W) with q | q | q
  · exact (ne' _ q b2).elim
  · exact q
  · exact (b3 _ q z).elim
theorem ren_eatM (r : Ren c pp tt W W') (hc6 : c ≤ 6) {p t : Nat} (hp : p < c) (ht : t < c) : eatM c W' (rn pp p) (rn tt t) = eatM c W p t := by
  unfold eatM
  rw [ren_K r hc6]
  exact (ren_all r hc6 _ (eatK_ok r.hW hc6).2.2).1.tb p t hp ht
theorem ren_gone (r : Ren c pp tt W W') (hc6 : c ≤ 6) {k : Nat} (h : k < eatK c W) : (msK c W' (k + 1)).tm = (msK c W (k + 1)).tm ∧ srt (((goneF c (msK c W k).lf (msK c W (k + 1)).lf).map (rn tt)).map fun i : Nat => (i : Int)) = (goneF c (msK c W' k).lf (msK c W' (k + 1)).lf).map fun i : Nat => (i : Int) := by
  have ne := (eatK_ok r.hW hc6).2.2
  have s0 := (ren_all r hc6 k fun j hj => ne j (by omega)).1
  have s1 := (ren_all r hc6 (k + 1) fun j hj => ne j (by omega)).1
  refine ⟨s1.tm, (srt_only ?_ ?_).symm⟩
  · refine List.Perm.map _ ?_
    refine rn_filter (p := fun t => decide ((msK c W k).lf t ≠ 0) && decide ((msK c W (k + 1)).lf t = 0)) r.ht fun x hx => ?_
    rw [s0.lf x hx, s1.lf x hx]
  · rw [List.pairwise_map]
    refine List.Pairwise.imp (R := fun a b => a < b) (fun h => by omega) ?_
    exact List.Pairwise.filter _ List.pairwise_lt_range
end
end WL

open PySem L2 WL

local macro_rules | `(tactic| walk_at "side") => `(tactic| first | omega | decide | rfl | assumption | (exact mul_s (by omega)) | (exact log_lt (k := 60) (by omega) (by decide)))
local macro_rules | `(tactic| walk_at "xe") => `(tactic| first
  | exact x_int | exact x_var rfl | exact x_bl | exact x_non | exact x_str | exact xa_nil | exact xt_yes | exact xs_o rfl | exact xo_none | exact xp_o rfl
  | (refine xa_cons ?_ ?_ <;> walk_at "xe")
  | (refine xs_t ?_; walk_at "xe"; done) | (refine xs_l ?_; walk_at "xe"; done) | (refine xs_n ?_; walk_at "xe"; done)
  | (refine x_add ?_ ?_ <;> walk_at "xe") | (refine x_sub ?_ ?_ <;> walk_at "xe")
  | (refine x_mul ?_ ?_ ?_ <;> first | walk_at "xe" | walk_at "side")
  | (refine x_mod ?_ ?_ ?_ <;> first | walk_at "xe" | walk_at "side")
  | (refine x_div ?_ ?_ ?_ ?_ <;> first | walk_at "xe" | walk_at "side")
  | (refine x_lt ?_ ?_ <;> walk_at "xe") | (refine x_le ?_ ?_ <;> walk_at "xe") | (refine x_gt ?_ ?_ <;> walk_at "xe") | (refine x_ge ?_ ?_ <;> walk_at "xe")
  | (refine x_eqI ?_ ?_ <;> walk_at "xe") | (refine x_neI ?_ ?_ <;> walk_at "xe")
  | (refine x_neg ?_; walk_at "xe") | (refine x_not ?_; walk_at "xe")
  | (refine x_abs ?_; walk_at "xe") | (refine x_min2 ?_ ?_ <;> walk_at "xe") | (refine x_intb ?_; walk_at "xe")
  | (refine x_tup ?_ ?_; (walk_at "xe"); (simp; done))
  | (refine x_lst ?_ ?_; (walk_at "xe"); (simp; done))
  | (refine x_ix ?_ ?_ ?_; (walk_at "xe"); (walk_at "xe"); (first | rfl | assumption))
  | (refine x_len ?_; walk_at "xe")
  | (refine x_tuple ?_; walk_at "xe") | (refine x_tupleT ?_; walk_at "xe") | (refine x_list ?_; walk_at "xe")
  | (refine xo_some ?_; walk_at "xe")
  | (refine xt_test ?_; walk_at "xe") | (refine xt_B ?_; walk_at "xe") | (refine xt_not ?_; walk_at "xe")
  | (refine xp_e ?_; walk_at "xe"; done) | (refine xp_e (x_frz ?_); walk_at "xe"; done)
  | (refine x_frz ?_; walk_at "xe"; done))
local macro_rules | `(tactic| walk_at "start") => `(tactic| dsimp only [startR, List.map, List.length_cons, List.length_nil, List.replicate, List.cons_append, List.nil_append, Nat.reduceAdd, Nat.reduceSub])
/-- a plain store, then the rest -/
local macro_rules | `(tactic| walk_at "asg") => `(tactic| (refine s_seq (s_asg ?a ?_); (case a => walk_at "xe"); dsimp only [List.set]))


namespace WL
open PySem L2
def topS (i : Nat) : Stmt := PySem.Challenge.pw_wishlots_k64_whole_names_turned_about.main.body.getD i (.Pass ⟨0, 0, 0, 0⟩)
abbrev s_common : Stmt := topS 4
abbrev s_fraction : Stmt := topS 5
abbrev s_plus : Stmt := topS 6
abbrev s_minus : Stmt := topS 7
abbrev s_times : Stmt := topS 8
abbrev s_before : Stmt := topS 9
abbrev s_likes : Stmt := topS 13
abbrev s_Meal___init__ : Stmt := inClass (topS 14) 0
abbrev s_Meal_eaters : Stmt := inClass (topS 14) 1
abbrev s_Meal_step : Stmt := inClass (topS 14) 2
abbrev s_Meal_eat : Stmt := inClass (topS 14) 3
abbrev s_meal_of : Stmt := topS 15
abbrev s_eaten : Stmt := topS 16
abbrev s_stops : Stmt := topS 17
abbrev s_ways_on : Stmt := topS 19
abbrev s_by_turns : Stmt := topS 20
abbrev s_law_cell_at : Stmt := topS 22
abbrev s_law_mixed : Stmt := topS 23
abbrev s_law_order : Stmt := topS 24
abbrev s_law_wishes : Stmt := topS 25
abbrev s_law_renamed : Stmt := topS 26
abbrev s_law : Stmt := topS 27
set_option maxHeartbeats 0 in
structure Txt (K : PySem.W.Frag) (mg : Str → Option Value) where
  a_common : Addr
  d_common : FuncData
  F_common : Fun K "common" "common" s_common a_common d_common
  b_common : Binds K d_common ["one", "two"] []
  m_common : mg "common" = some (.ref a_common)
  a_fraction : Addr
  d_fraction : FuncData
  F_fraction : Fun K "fraction" "fraction" s_fraction a_fraction d_fraction
  b_fraction : Binds K d_fraction ["top", "bottom"] []
  m_fraction : mg "fraction" = some (.ref a_fraction)
  a_plus : Addr
  d_plus : FuncData
  F_plus : Fun K "plus" "plus" s_plus a_plus d_plus
  b_plus : Binds K d_plus ["one", "two"] []
  m_plus : mg "plus" = some (.ref a_plus)
  a_minus : Addr
  d_minus : FuncData
  F_minus : Fun K "minus" "minus" s_minus a_minus d_minus
  b_minus : Binds K d_minus ["one", "two"] []
  m_minus : mg "minus" = some (.ref a_minus)
  a_times : Addr
  d_times : FuncData
  F_times : Fun K "times" "times" s_times a_times d_times
  b_times : Binds K d_times ["one", "two"] []
  m_times : mg "times" = some (.ref a_times)
  a_before : Addr
  d_before : FuncData
  F_before : Fun K "before" "before" s_before a_before d_before
  b_before : Binds K d_before ["one", "two"] []
  m_before : mg "before" = some (.ref a_before)
  a_likes : Addr
  d_likes : FuncData
  F_likes : Fun K "likes" "likes" s_likes a_likes d_likes
  b_likes : Binds K d_likes ["wish", "left"] []
  m_likes : mg "likes" = some (.ref a_likes)
  a_Meal___init__ : Addr
  d_Meal___init__ : FuncData
  F_Meal___init__ : Fun K "__init__" "Meal.__init__" s_Meal___init__ a_Meal___init__ d_Meal___init__
  b_Meal___init__ : Binds K d_Meal___init__ ["self", "wishes"] []
  a_Meal_eaters : Addr
  d_Meal_eaters : FuncData
  F_Meal_eaters : Fun K "eaters" "Meal.eaters" s_Meal_eaters a_Meal_eaters d_Meal_eaters
  b_Meal_eaters : Binds K d_Meal_eaters ["self"] []
  a_Meal_step : Addr
  d_Meal_step : FuncData
  F_Meal_step : Fun K "step" "Meal.step" s_Meal_step a_Meal_step d_Meal_step
  b_Meal_step : Binds K d_Meal_step ["self", "found"] []
  a_Meal_eat : Addr
  d_Meal_eat : FuncData
  F_Meal_eat : Fun K "eat" "Meal.eat" s_Meal_eat a_Meal_eat d_Meal_eat
  b_Meal_eat : Binds K d_Meal_eat ["self"] []
  a_meal_of : Addr
  d_meal_of : FuncData
  F_meal_of : Fun K "meal_of" "meal_of" s_meal_of a_meal_of d_meal_of
  b_meal_of : Binds K d_meal_of ["wishes"] []
  m_meal_of : mg "meal_of" = some (.ref a_meal_of)
  a_eaten : Addr
  d_eaten : FuncData
  F_eaten : Fun K "eaten" "eaten" s_eaten a_eaten d_eaten
  b_eaten : Binds K d_eaten ["wishes"] []
  m_eaten : mg "eaten" = some (.ref a_eaten)
  a_stops : Addr
  d_stops : FuncData
  F_stops : Fun K "stops" "stops" s_stops a_stops d_stops
  b_stops : Binds K d_stops ["wishes"] []
  m_stops : mg "stops" = some (.ref a_stops)
  a_ways_on : Addr
  d_ways_on : FuncData
  F_ways_on : Fun K "ways_on" "ways_on" s_ways_on a_ways_on d_ways_on
  b_ways_on : Binds K d_ways_on ["wishes", "waiting", "left", "counts", "orders"] []
  m_ways_on : mg "ways_on" = some (.ref a_ways_on)
  a_by_turns : Addr
  d_by_turns : FuncData
  F_by_turns : Fun K "by_turns" "by_turns" s_by_turns a_by_turns d_by_turns
  b_by_turns : Binds K d_by_turns ["wishes"] []
  m_by_turns : mg "by_turns" = some (.ref a_by_turns)
  a_law_cell_at : Addr
  d_law_cell_at : FuncData
  F_law_cell_at : Fun K "_law_cell_at" "_law_cell_at" s_law_cell_at a_law_cell_at d_law_cell_at
  b_law_cell_at : Binds K d_law_cell_at ["_law_script", "_law_k"] []
  m_law_cell_at : mg "_law_cell_at" = some (.ref a_law_cell_at)
  a_law_mixed : Addr
  d_law_mixed : FuncData
  F_law_mixed : Fun K "_law_mixed" "_law_mixed" s_law_mixed a_law_mixed d_law_mixed
  b_law_mixed : Binds K d_law_mixed ["_law_cell", "_law_place"] []
  m_law_mixed : mg "_law_mixed" = some (.ref a_law_mixed)
  a_law_order : Addr
  d_law_order : FuncData
  F_law_order : Fun K "_law_order" "_law_order" s_law_order a_law_order d_law_order
  b_law_order : Binds K d_law_order ["_law_number", "_law_count"] []
  m_law_order : mg "_law_order" = some (.ref a_law_order)
  a_law_wishes : Addr
  d_law_wishes : FuncData
  F_law_wishes : Fun K "_law_wishes" "_law_wishes" s_law_wishes a_law_wishes d_law_wishes
  b_law_wishes : Binds K d_law_wishes ["_law_script", "_law_at", "_law_count"] []
  m_law_wishes : mg "_law_wishes" = some (.ref a_law_wishes)
  a_law_renamed : Addr
  d_law_renamed : FuncData
  F_law_renamed : Fun K "_law_renamed" "_law_renamed" s_law_renamed a_law_renamed d_law_renamed
  b_law_renamed : Binds K d_law_renamed ["_law_rows", "_law_people", "_law_things"] []
  m_law_renamed : mg "_law_renamed" = some (.ref a_law_renamed)
  a_law : Addr
  d_law : FuncData
  F_law : Fun K "law" "law" s_law a_law d_law
  b_law : Binds K d_law ["_law_script"] []
  m_law : mg "law" = some (.ref a_law)
  z_abs : mg "abs" = none
  z_len : mg "len" = none
  z_list : mg "list" = none
  z_range : mg "range" = none
  z_sorted : mg "sorted" = none
  z_tuple : mg "tuple" = none
  v_NOTHING : V
  u_NOTHING : Value
  m_NOTHING : mg "NOTHING" = some u_NOTHING
  r_NOTHING : RelV v_NOTHING u_NOTHING
  t_NOTHING : ∀ H : Hp, Dp K H v_NOTHING (.tuple [.int 0, .int 1])
  v_WHOLE : V
  u_WHOLE : Value
  m_WHOLE : mg "WHOLE" = some u_WHOLE
  r_WHOLE : RelV v_WHOLE u_WHOLE
  t_WHOLE : ∀ H : Hp, Dp K H v_WHOLE (.tuple [.int 1, .int 1])
  c_Meal : Addr
  g_Meal : mg "Meal" = some (.ref c_Meal)
  cl_Meal : Cls K c_Meal
  n_Meal_wishes : NoAttr K c_Meal "wishes"
  n_Meal_left : NoAttr K c_Meal "left"
  n_Meal_table : NoAttr K c_Meal "table"
  n_Meal_time : NoAttr K c_Meal "time"
  n_Meal_stops : NoAttr K c_Meal "stops"
  K_Meal : Mk K c_Meal a_Meal___init__
  t_Meal_eat : Meth K c_Meal "eat" a_Meal_eat
  t_Meal_eaters : Meth K c_Meal "eaters" a_Meal_eaters
  t_Meal_step : Meth K c_Meal "step" a_Meal_step
end WL
namespace WL
open PySem L2
def R_common (ds : List PyData) (s : Sl) : Prop := ∃ a b : Int, ds = [.int a, .int b] ∧ s = .da (.int (Int.gcd a b))
theorem sc_common : FnScope ["one", "two"] ["one", "two"] (defScope s_common) := ⟨rfl, rfl, rfl, by decide +kernel, rfl, by decide +kernel, by decide +kernel⟩
theorem ok_common {P : Program} {w : World} {K : PySem.W.Frag} {mg : Str → Option Value} {base : Heap} (T : Txt K mg) : FnOk P w K mg base CX0 1 T.a_common T.d_common ["one", "two"] (spF K R_common) := by
  refine fn_ok T.F_common sc_common (by rintro _ _ ⟨_, _, rfl, _⟩; rfl) fun cdv A outer s H E hr => ⟨_, (pss_cons (ps_while PassesOwn.never (pt_cmpR (op_neK (K := K) hr.units) (pv 1) pe_int (nomark _)) (pss_one (ps_par (i := 0) (j := 1) (by rfl) sc_common.nd rfl rfl (by decide) rfl rfl (pa_cons (pv 1) (pa_cons (pe_op op_modN (pv 0) (pv 1)) pa_nil)) (by rfl))))
      (pss_one (ps_ret (pe_callB call_abs (by rfl) T.z_abs (by decide +kernel) (pa_cons (pv 0) pa_nil))))), ?_⟩
  rintro _ _ ⟨a, b, rfl, rfl⟩
  refine s_seq (s_while [] (fun m r => ∃ x y : Int, r = [.da (.int x), .da (.int y)] ∧ Int.gcd x y = Int.gcd a b ∧ m = y.natAbs) _ ⟨a, b, rfl, rfl, rfl⟩ ?_)
  rintro m r ⟨x, y, rfl, hg, rfl⟩
  refine ⟨_, xt_test (x_neI (x_var rfl) x_int), fun hb => ?_, fun hb => ?_⟩
  · have hy : y ≠ 0 := by simpa using hb
    exact s_par (x_var rfl) (x_fmod (x_var rfl) (x_var rfl) hy) ⟨_, fmod_lt hy, y, x.fmod y, rfl, by rw [gcd_fmod]; exact hg, rfl⟩
  · have hy : y = 0 := by simpa using hb
    subst hy
    refine s_ret (x_abs (x_var rfl)) ?_
    rw [← hg, Int.gcd_zero_right]
def R_fraction (ds : List PyData) (s : Sl) : Prop := ∃ a b : Int, ds = [.int a, .int b] ∧ b ≠ 0 ∧ b.natAbs.log2 < 9000 ∧ s = .da (fr (Rat.divInt a b))
theorem sc_fraction : FnScope ["top", "bottom", "by"] ["top", "bottom"] (defScope s_fraction) := ⟨rfl, rfl, rfl, by decide +kernel, rfl, by decide +kernel, by decide +kernel⟩
theorem ok_fraction {P : Program} {w : World} {K : PySem.W.Frag} {mg : Str → Option Value} {base : Heap} (T : Txt K mg) : FnOk P w K mg base CX0 2 T.a_fraction T.d_fraction ["top", "bottom"] (spF K R_fraction) := by
  have G_common := ok_common (P := P) (w := w) (base := base) T
  refine fn_ok T.F_fraction sc_fraction (by rintro _ _ ⟨_, _, rfl, _⟩; rfl) fun cdv A outer s H E hr => ⟨_, (pss_cons (ps_if (pt_cmpR (op_eqK (K := K) hr.units) (pv 1) pe_int (nomark _)) (pss_one ps_never) pss_nil)
      (pss_cons (ps_set (i := 2) sc_fraction.nd rfl (Or.inl rfl) (pe_call G_common (hr.mono (by decide)) (by rfl) T.m_common T.F_common.kp T.b_common .nil pass0 (pa_cons (pv 0) (pa_cons (pv 1) pa_nil))))
      (pss_cons (ps_if (pt_cmpR op_lt (pv 1) pe_int (nomark _)) (pss_one (ps_set (i := 2) sc_fraction.nd rfl (Or.inl rfl) (pe_op op_sub pe_int (pv 2)))) pss_nil)
      (pss_one (ps_ret (pe_tup (pa_cons (pe_op op_fdivG (pv 0) (pv 2)) (pa_cons (pe_op op_fdivG (pv 1) (pv 2)) pa_nil)))))))), ?_⟩
  rintro _ _ ⟨a, b, rfl, hb, hl, rfl⟩
  dsimp only [startR, List.map, List.length_cons, List.length_nil, List.replicate, List.cons_append, List.nil_append, Nat.reduceAdd, Nat.reduceSub]
  refine s_seq (s_if (xt_test (x_eqI (x_var rfl) x_int)) (fun h => absurd (of_decide_eq_true h) hb) fun _ => s_next ?_)
  refine s_seq (s_asg (x_call (ds := [.int a, .int b]) (by walk_at "xe") ⟨a, b, rfl, rfl⟩) ?_)
  have g0 := gcd_pos (a := a) hb
  have gl : (Int.gcd a b).log2 < 9000 := Nat.lt_of_le_of_lt (log_mono (gcd_le hb)) hl
  refine s_seqM (fun r => r = [.da (.int a), .da (.int b), .da (.int (if b < 0 then 0 - (Int.gcd a b : Int) else (Int.gcd a b : Int)))]) (s_if (xt_test (x_lt (x_var rfl) x_int)) (fun h => ?_) fun h => s_next ?_) ?_
  · refine s_asg (x_sub x_int (x_var rfl)) ?_
    rw [if_pos (of_decide_eq_true h)]
    rfl
  · rw [if_neg (of_decide_eq_false h)]
    rfl
  · rintro r rfl
    have e1 : (if b < 0 then 0 - (Int.gcd a b : Int) else (Int.gcd a b : Int)) ≠ 0 ∧ (if b < 0 then 0 - (Int.gcd a b : Int) else (Int.gcd a b : Int)).natAbs = Int.gcd a b := by split <;> omega
    refine s_ret (x_tup (xa_cons (x_fdiv (x_var rfl) (x_var rfl) ⟨e1.1, by rw [e1.2]; exact gl⟩) (xa_cons (x_fdiv (x_var rfl) (x_var rfl) ⟨e1.1, by rw [e1.2]; exact gl⟩) xa_nil)) (by simp)) ?_
    rw [frac_num hb, frac_den hb]
    rfl
theorem xnum {K : PySem.W.Frag} {ρ : List Sl} {i : Nat} {q : Rat} (h : ρ[i]? = some (.da (fr q))) : XE K (tOp (rIx K) (tVar i) (tC (.int 0))) ρ (.int q.num) := x_ix (ds := [.int q.num, .int q.den]) (xs_t (x_var h)) x_int rfl
theorem xden {K : PySem.W.Frag} {ρ : List Sl} {i : Nat} {q : Rat} (h : ρ[i]? = some (.da (fr q))) : XE K (tOp (rIx K) (tVar i) (tC (.int 1))) ρ (.int q.den) := x_ix (ds := [.int q.num, .int q.den]) (xs_t (x_var h)) x_int rfl
def R_plus (ds : List PyData) (s : Sl) : Prop := ∃ a b : Rat, ds = [fr a, fr b] ∧ Sm a ∧ Sm b ∧ s = .da (fr (a + b))
theorem sc_plus : FnScope ["one", "two"] ["one", "two"] (defScope s_plus) := ⟨rfl, rfl, rfl, by decide +kernel, rfl, by decide +kernel, by decide +kernel⟩
theorem ok_plus {P : Program} {w : World} {K : PySem.W.Frag} {mg : Str → Option Value} {base : Heap} (T : Txt K mg) : FnOk P w K mg base CX0 3 T.a_plus T.d_plus ["one", "two"] (spF K R_plus) := by
  have G_fraction := ok_fraction (P := P) (w := w) (base := base) T
  refine fn_ok T.F_plus sc_plus (by rintro _ _ ⟨_, _, rfl, _⟩; rfl) fun cdv A outer s H E hr => ⟨_, (pss_one (ps_ret (pe_call G_fraction (hr.mono (by decide)) (by rfl) T.m_fraction T.F_fraction.kp T.b_fraction .nil pass0 (pa_cons (pe_op (op_addK (K := K)) (pe_op op_mulX (pe_ix (ix_seqK (K := K)) (pv 0) pe_int (fun _ _ => rfl)) (pe_ix (ix_seqK (K := K)) (pv 1) pe_int (fun _ _ => rfl))) (pe_op op_mulX (pe_ix (ix_seqK (K := K)) (pv 1) pe_int (fun _ _ => rfl)) (pe_ix (ix_seqK (K := K)) (pv 0) pe_int (fun _ _ => rfl)))) (pa_cons (pe_op op_mulX (pe_ix (ix_seqK (K := K)) (pv 0) pe_int (fun _ _ => rfl)) (pe_ix (ix_seqK (K := K)) (pv 1) pe_int (fun _ _ => rfl))) pa_nil))))), ?_⟩
  rintro _ _ ⟨a, b, rfl, ha, hb, rfl⟩
  refine s_ret (x_call (R := R_fraction) (xa_cons (x_add (x_mul (xnum rfl) (xden rfl) (mul_w 4000 4000 ha.1 hb.2 (by decide))) (x_mul (xnum rfl) (xden rfl) (mul_w 4000 4000 hb.1 ha.2 (by decide)))) (xa_cons (x_mul (xden rfl) (xden rfl) (mul_w 4000 4000 ha.2 hb.2 (by decide))) xa_nil)) ⟨_, _, rfl, ?_, den_mul_log ha.2 hb.2, rfl⟩) ?_
  · have := den_mul_pos a b; omega
  · rw [plus_eq]
end WL

namespace WL
open PySem L2
def R_minus (ds : List PyData) (s : Sl) : Prop := ∃ a b : Rat, ds = [fr a, fr b] ∧ Sm a ∧ Sm b ∧ s = .da (fr (a - b))
theorem sc_minus : FnScope ["one", "two"] ["one", "two"] (defScope s_minus) := ⟨rfl, rfl, rfl, by decide +kernel, rfl, by decide +kernel, by decide +kernel⟩
theorem ok_minus {P : Program} {w : World} {K : PySem.W.Frag} {mg : Str → Option Value} {base : Heap} (T : Txt K mg) : FnOk P w K mg base CX0 3 T.a_minus T.d_minus ["one", "two"] (spF K R_minus) := by
  have G_fraction := ok_fraction (P := P) (w := w) (base := base) T
  refine fn_ok T.F_minus sc_minus (by rintro _ _ ⟨_, _, rfl, _⟩; rfl) fun cdv A outer s H E hr => ⟨_, (pss_one (ps_ret (pe_call G_fraction (hr.mono (by decide)) (by rfl) T.m_fraction T.F_fraction.kp T.b_fraction .nil pass0 (pa_cons (pe_op op_sub (pe_op op_mulX (pe_ix (ix_seqK (K := K)) (pv 0) pe_int (fun _ _ => rfl)) (pe_ix (ix_seqK (K := K)) (pv 1) pe_int (fun _ _ => rfl))) (pe_op op_mulX (pe_ix (ix_seqK (K := K)) (pv 1) pe_int (fun _ _ => rfl)) (pe_ix (ix_seqK (K := K)) (pv 0) pe_int (fun _ _ => rfl)))) (pa_cons (pe_op op_mulX (pe_ix (ix_seqK (K := K)) (pv 0) pe_int (fun _ _ => rfl)) (pe_ix (ix_seqK (K := K)) (pv 1) pe_int (fun _ _ => rfl))) pa_nil))))), ?_⟩
  rintro _ _ ⟨a, b, rfl, ha, hb, rfl⟩
  refine s_ret (x_call (R := R_fraction) (xa_cons (x_sub (x_mul (xnum rfl) (xden rfl) (mul_w 4000 4000 ha.1 hb.2 (by decide))) (x_mul (xnum rfl) (xden rfl) (mul_w 4000 4000 hb.1 ha.2 (by decide)))) (xa_cons (x_mul (xden rfl) (xden rfl) (mul_w 4000 4000 ha.2 hb.2 (by decide))) xa_nil)) ⟨_, _, rfl, ?_, den_mul_log ha.2 hb.2, rfl⟩) ?_
  · have := den_mul_pos a b; omega
  · rw [minus_eq]
end WL

namespace WL
open PySem L2
def R_times (ds : List PyData) (s : Sl) : Prop := ∃ a b : Rat, ds = [fr a, fr b] ∧ Sm a ∧ Sm b ∧ s = .da (fr (a * b))
theorem sc_times : FnScope ["one", "two"] ["one", "two"] (defScope s_times) := ⟨rfl, rfl, rfl, by decide +kernel, rfl, by decide +kernel, by decide +kernel⟩
theorem ok_times {P : Program} {w : World} {K : PySem.W.Frag} {mg : Str → Option Value} {base : Heap} (T : Txt K mg) : FnOk P w K mg base CX0 3 T.a_times T.d_times ["one", "two"] (spF K R_times) := by
  have G_fraction := ok_fraction (P := P) (w := w) (base := base) T
  refine fn_ok T.F_times sc_times (by rintro _ _ ⟨_, _, rfl, _⟩; rfl) fun cdv A outer s H E hr => ⟨_, (pss_one (ps_ret (pe_call G_fraction (hr.mono (by decide)) (by rfl) T.m_fraction T.F_fraction.kp T.b_fraction .nil pass0 (pa_cons (pe_op op_mulX (pe_ix (ix_seqK (K := K)) (pv 0) pe_int (fun _ _ => rfl)) (pe_ix (ix_seqK (K := K)) (pv 1) pe_int (fun _ _ => rfl))) (pa_cons (pe_op op_mulX (pe_ix (ix_seqK (K := K)) (pv 0) pe_int (fun _ _ => rfl)) (pe_ix (ix_seqK (K := K)) (pv 1) pe_int (fun _ _ => rfl))) pa_nil))))), ?_⟩
  rintro _ _ ⟨a, b, rfl, ha, hb, rfl⟩
  refine s_ret (x_call (R := R_fraction) (xa_cons (x_mul (xnum rfl) (xnum rfl) (mul_w 4000 4000 ha.1 hb.1 (by decide))) (xa_cons (x_mul (xden rfl) (xden rfl) (mul_w 4000 4000 ha.2 hb.2 (by decide))) xa_nil)) ⟨_, _, rfl, ?_, den_mul_log ha.2 hb.2, rfl⟩) ?_
  · have := den_mul_pos a b; omega
  · rw [times_eq]
end WL

namespace WL
open PySem L2
def R_before (ds : List PyData) (s : Sl) : Prop := ∃ a b : Rat, ds = [fr a, fr b] ∧ Sm a ∧ Sm b ∧ s = .da (.bool (decide (a < b)))
theorem sc_before : FnScope ["one", "two"] ["one", "two"] (defScope s_before) := ⟨rfl, rfl, rfl, by decide +kernel, rfl, by decide +kernel, by decide +kernel⟩
theorem ok_before {P : Program} {w : World} {K : PySem.W.Frag} {mg : Str → Option Value} {base : Heap} (T : Txt K mg) : FnOk P w K mg base CX0 1 T.a_before T.d_before ["one", "two"] (spF K R_before) := by
  refine fn_ok T.F_before sc_before (by rintro _ _ ⟨_, _, rfl, _⟩; rfl) fun cdv A outer s H E hr => ⟨_, (pss_one (ps_ret (pe_cmpR op_lt (pe_op op_mulX (pe_ix (ix_seqK (K := K)) (pv 0) pe_int (fun _ _ => rfl)) (pe_ix (ix_seqK (K := K)) (pv 1) pe_int (fun _ _ => rfl))) (pe_op op_mulX (pe_ix (ix_seqK (K := K)) (pv 1) pe_int (fun _ _ => rfl)) (pe_ix (ix_seqK (K := K)) (pv 0) pe_int (fun _ _ => rfl))) (nomark _)))), ?_⟩
  rintro _ _ ⟨a, b, rfl, ha, hb, rfl⟩
  refine s_ret (x_lt (x_mul (xnum rfl) (xden rfl) (mul_w 4000 4000 ha.1 hb.2 (by decide))) (x_mul (xnum rfl) (xden rfl) (mul_w 4000 4000 hb.1 ha.2 (by decide)))) ?_
  rw [before_iff]
end WL

namespace WL
open PySem L2
def R_likes (ss : List Sl) (s : Sl) : Prop := ∃ (w : List Nat) (h : List (Nat × PyData)), w.length ≤ 1000 ∧ ss = [.da (rowT w), .fd (fdN h)] ∧ s = .da (match w.find? fun t => (getN h t).isSome with | some t => nat_ t | none => .none)
theorem sc_likes : FnScope ["wish", "left", "thing"] ["wish", "left"] (defScope s_likes) := ⟨rfl, rfl, rfl, by decide +kernel, rfl, by decide +kernel, by decide +kernel⟩
theorem ok_likes {P : Program} {w : World} {K : PySem.W.Frag} {mg : Str → Option Value} {base : Heap} (T : Txt K mg) : FnOk P w K mg base CX0 1 T.a_likes T.d_likes ["wish", "left"] (spQ K R_likes) := by
  refine fnQ_ok T.F_likes sc_likes (by rintro _ _ ⟨_, _, _, rfl, _⟩; rfl) fun cdv A outer s H E hr => ⟨_, (pss_cons (ps_for PassesOwn.never rfl (pi_seqK (K := K) (pv 0)) (pg_name (i := 2) sc_likes.nd rfl (Or.inl rfl)) (pss_one (ps_if (pt_cmp (pc_din (hu_of hr) (pv 2) (pv 1))) (pss_one (ps_ret (pv 2))) pss_nil)))
      (pss_one (ps_ret pe_non))), ?_⟩
  rintro _ _ ⟨w, h, hw, rfl, rfl⟩
  dsimp only [startQ, List.length_cons, List.length_nil, List.replicate, List.cons_append, List.nil_append, Nat.reduceAdd, Nat.reduceSub]
  refine s_seq (s_for w nat_ [2] (fun i r => (∀ t ∈ w.take i, (getN h t).isSome = false) ∧ r = [.da (rowT w), .fd (fdN h), .un]) (x_var rfl) trivial rfl ⟨by simp, rfl⟩ (fun i x r hi hr => ?_) fun r hr => ?_)
  · obtain ⟨no, hr⟩ := hr
    subst hr
    have hw2 : w = w.take i ++ x :: w.drop (i + 1) := by
      have hl := (List.getElem?_eq_some_iff.mp hi).1
      have hx := (List.getElem?_eq_some_iff.mp hi).2
      have := List.drop_eq_getElem_cons hl
      rw [hx] at this
      rw [← this, List.take_append_drop]
    refine wg_name ?_
    refine s_if (xt_B (x_dinF rfl (x_var rfl))) (fun z => ?_) fun z => s_next ⟨?_, rfl⟩
    · refine s_ret (x_var rfl) ?_
      have : (w.find? fun t => (getN h t).isSome) = some x := List.find?_eq_some_iff_append.mpr ⟨z, w.take i, w.drop (i + 1), hw2, fun a m => by rw [no a m]; rfl⟩
      rw [this]
    · rw [List.take_add_one, hi]
      intro t m
      rcases List.mem_append.mp m with m | m
      · exact no t m
      · simp at m
        rw [m]
        exact z
  · obtain ⟨no, hr⟩ := hr
    subst hr
    refine s_ret x_non ?_
    have : (w.find? fun t => (getN h t).isSome) = none := List.find?_eq_none.mpr fun t m => by
      rw [List.take_length] at no
      rw [no t m]
      simp
    rw [this]
def R_Meal___init__ (C : Addr) (us : List Ot) (ret : Option Ot) (back : List (Option Ot)) : Prop := ∃ (W : List (List Nat)) (c : Nat), WsOk c W ∧ 1 ≤ c ∧ c ≤ 6 ∧ us = [.ob C [] [], .da (.list (W.map rowT))] ∧ ret = some (.da .none) ∧ back = [some (mealT C W c ms0 []), none]
theorem len_init {C : Addr} {us : List Ot} {r : Option Ot} {b : List (Option Ot)} (h : R_Meal___init__ C us r b) : us.length = 2 := by obtain ⟨_, _, _, _, _, rfl, _⟩ := h; rfl
theorem sc_Meal___init__ : FnScope ["self", "wishes", "thing", "wish"] ["self", "wishes"] (defScope s_Meal___init__) := ⟨rfl, rfl, rfl, by decide +kernel, rfl, by decide +kernel, by decide +kernel⟩
theorem ok_Meal___init__ {P : Program} {w : World} {K : PySem.W.Frag} {mg : Str → Option Value} {base : Heap} (T : Txt K mg) : FnOk P w K mg base CX0 1 T.a_Meal___init__ T.d_Meal___init__ ["self", "wishes"] (spO K 0 (R_Meal___init__ T.c_Meal)) := by
  refine fnO_ok T.F_Meal___init__ sc_Meal___init__ (fun us r b h => len_init h) fun cdv A outer s H E hr => ⟨_, (pss_cons (ps_fld (pv 0) (pv 1) rfl)
      (pss_cons (ps_fld (pv 0) pe_dnewK rfl)
      (pss_cons (ps_for PassesOwn.never rfl (pi_range1 (by rfl) T.z_range (pa_cons (pe_callB (len_K (K := K)) (by rfl) T.z_len (by decide +kernel) (pa_cons (pv 1) pa_nil)) pa_nil)) (pg_name (i := 2) sc_Meal___init__.nd rfl (Or.inl rfl)) (pss_one (ps_dput (hu_of hr) (pe_fld (pv 0) rfl) (pv 2) (pe_glob (by rfl) T.m_WHOLE (v := T.v_WHOLE) T.r_WHOLE) rfl)))
      (pss_cons (ps_fld (pv 0) (by exact (pe_lc (own := [("wish", 3)]) (g := (gName 3)) (by rfl) sc_Meal___init__.nd (pi_seqK (K := K) (pv 1)) (blkOk_by (by kernel_rfl)) (fun _ _ _ _ _ => (pg_name (i := 3) sc_Meal___init__.nd rfl (Or.inl rfl))) (fun _ _ _ _ _ => by exact pts_nil) (fun _ _ _ _ _ => by exact (by exact (pe_lc (own := [("thing", 2)]) (g := (gName 2)) (by rfl) sc_Meal___init__.nd (pi_seqK (K := K) (pv 1)) (blkOk_by (by kernel_rfl)) (fun _ _ _ _ _ => (pg_name (i := 2) sc_Meal___init__.nd rfl (Or.inl rfl))) (fun _ _ _ _ _ => by exact pts_nil) (fun _ _ _ _ _ => by exact (pe_glob (by rfl) T.m_NOTHING (v := T.v_NOTHING) T.r_NOTHING))))))) rfl)
      (pss_cons (ps_fld (pv 0) (pe_glob (by rfl) T.m_NOTHING (v := T.v_NOTHING) T.r_NOTHING) rfl)
      (pss_one (ps_fld (pv 0) (pe_lst pa_nil) rfl))))))), ?_⟩
  rintro _ _ _ vs ⟨W, c, hW, hc1, hc6, rfl, rfl, rfl⟩ hv E
  match vs, hv with
  | [v0, v1], _ =>
  show WS K _ [.ot (some v0) (.ob T.c_Meal [] []), .da (.list (W.map rowT)), .un, .un] _
  have ll : ((W.map rowT).length : Int) = (c : Int) := by rw [List.length_map, hW.len]
  refine s_seq (s_fldNew (x_as (x_var rfl) im_ad) (xf_var rfl) rfl rfl rfl T.cl_Meal T.n_Meal_wishes (by decide) ?_)
  refine s_seq (s_fldNew x_dnew (xf_var rfl) rfl rfl (by decide +kernel) T.cl_Meal T.n_Meal_left (by decide) ?_)
  refine s_seq (s_range (n := (c : Nat)) [2] (fun i r => r = [.ot (some v0) (.ob T.c_Meal ["wishes", "left"] [.da (.list (W.map rowT)), dicD (leftH (List.range i) fun _ => ET)]), .da (.list (W.map rowT)), .un, .un]) (xa_cons (xe_is (x_len (xs_l (x_var rfl))) (by rw [ll])) xa_nil) (by omega) rfl (fun i r hi hr => ?_) fun r hr => ?_)
  · subst hr
    refine wg_name ?_
    refine s_dput (k := i) (x_c T.t_WHOLE) (xf_fld (k := 1) (xf_var rfl) rfl rfl (by decide +kernel) T.cl_Meal T.n_Meal_left) rfl rfl (x_var rfl) (by rw [leftH_len, List.length_range]; omega) ?_
    show [Sl.ot (some v0) (.ob T.c_Meal ["wishes", "left"] [.da (.list (W.map rowT)), dicD (putN (leftH (List.range i) fun _ => ET) i (fr 1))]), .da (.list (W.map rowT)), .un, .un] = _
    rw [leftH_new]
  · subst hr
    rw [Int.toNat_natCast]
    refine s_seq (s_fldNew (u' := lDD (toX (fT ET) (matL c fun _ _ => 0))) (x_as (xr_is (x_lc2 W rowT (fun _ => List.replicate c (fr 0)) (x_var rfl) trivial rfl (by rw [hW.len]; omega) (by simp) fun w hw => xr_is (x_lc W rowT (fun _ => true) (fun _ => fr 0) (x_var rfl) trivial rfl (by rw [hW.len]; omega) (by simp) (fun _ _ => xt_yes) fun _ _ _ => x_c T.t_NOTHING) (by rw [List.filter_eq_self.mpr (fun _ _ => rfl), List.map_const', hW.len])) (by
      congr 1
      rw [List.map_const', hW.len]
      unfold toX matL
      rw [List.map_map, show ((fun r : List Int => r.map (fT ET)) ∘ fun _ : Nat => (List.range c).map fun _ => (0 : Int)) = fun _ => List.replicate c (fr 0) by
        funext p
        show ((List.range c).map fun _ => (0 : Int)).map (fT ET) = _
        rw [List.map_const', List.map_replicate, List.length_range, fT_zero], List.map_const', List.length_range])) im_ow2) (xf_var rfl) rfl rfl (by decide +kernel) T.cl_Meal T.n_Meal_table (by decide) ?_)
    refine s_seq (s_fldNew (u' := .da (fT ET 0)) (x_as (xr_is (x_c T.t_NOTHING) (by rw [fT_zero]; rfl)) im_ad) (xf_var rfl) rfl rfl (by decide +kernel) T.cl_Meal T.n_Meal_time (by decide) ?_)
    refine s_fldNew (u' := lD []) (x_as (x_lst xa_nil (by simp)) im_ow) (xf_var rfl) rfl rfl (by decide +kernel) T.cl_Meal T.n_Meal_stops (by decide) ?_
    refine ⟨rfl, ?_, trivial⟩
    have : alv c ms0.lf = List.range c := List.filter_eq_self.mpr fun t _ => by show decide (ET ≠ 0) = true; decide
    unfold mealT
    rw [this]
    rfl
def R_Meal_eaters (C : Addr) (us : List Ot) (ret : Option Ot) (back : List (Option Ot)) : Prop := ∃ (W : List (List Nat)) (c : Nat) (S : Ms) (st : List PyData), WsOk c W ∧ 1 ≤ c ∧ c ≤ 6 ∧ alv c S.lf ≠ [] ∧ us = [mealT C W c S st] ∧ ret = some (dicD (grpD (lkF W S.lf) c)) ∧ back = [some (mealT C W c S st)]
theorem len_eaters {C : Addr} {us : List Ot} {r : Option Ot} {b : List (Option Ot)} (h : R_Meal_eaters C us r b) : us.length = 1 := by obtain ⟨_, _, _, _, _, _, _, _, rfl, _⟩ := h; rfl
theorem sc_Meal_eaters : FnScope ["self", "found", "person", "thing"] ["self"] (defScope s_Meal_eaters) := ⟨rfl, rfl, rfl, by decide +kernel, rfl, by decide +kernel, by decide +kernel⟩
theorem ok_Meal_eaters {P : Program} {w : World} {K : PySem.W.Frag} {mg : Str → Option Value} {base : Heap} (T : Txt K mg) : FnOk P w K mg base CX0 2 T.a_Meal_eaters T.d_Meal_eaters ["self"] (spO K 0 (R_Meal_eaters T.c_Meal)) := by
  have G_likes := ok_likes (P := P) (w := w) (base := base) T
  refine fnO_ok T.F_Meal_eaters sc_Meal_eaters (fun us r b h => len_eaters h) fun cdv A outer s H E hr => ⟨_, (pss_cons (ps_set (i := 1) sc_Meal_eaters.nd rfl (Or.inl rfl) pe_dnewK)
      (pss_cons (ps_for PassesOwn.never rfl (pi_range1 (by rfl) T.z_range (pa_cons (pe_callB (len_K (K := K)) (by rfl) T.z_len (by decide +kernel) (pa_cons (pe_fld (pv 0) rfl) pa_nil)) pa_nil)) (pg_name (i := 2) sc_Meal_eaters.nd rfl (Or.inl rfl)) (pss_cons (ps_set (i := 3) sc_Meal_eaters.nd rfl (Or.inl rfl) (pe_call G_likes (hr.mono (by decide)) (by rfl) T.m_likes T.F_likes.kp T.b_likes .nil pass0 (pa_cons (pe_ix (ix_seqK (K := K)) (pe_fld (pv 0) rfl) (pv 2) (fun _ _ => rfl)) (pa_cons (pe_fld (pv 0) rfl) pa_nil))))
      (pss_one (ps_expr (pe_bm PySem.F.plainAttrs_list PySem.F.slot_list_append PySem.F.type_list_append mt_append (pe_dsetd (pv 1) (pv 3) (pe_lst pa_nil) ⟨by rfl, by rfl, by rfl, by rfl⟩) (pa_cons (pv 2) pa_nil))))))
      (pss_one (ps_ret (pv 1))))), ?_⟩
  rintro _ _ _ vs ⟨W, c, S, st, hW, hc1, hc6, ne, rfl, rfl, rfl⟩ hv E
  match vs, hv with
  | [v0], _ =>
  show WS K _ [.ot (some v0) (mealT T.c_Meal W c S st), .un, .un, .un] _
  have ll : ((W.map rowT).length : Int) = (c : Int) := by rw [List.length_map, hW.len]
  have wish : ∀ {ρ : List Sl}, ρ[0]? = some (.ot (some v0) (mealT T.c_Meal W c S st)) → XE K (tFld K (tVar 0) "wishes") ρ (.list (W.map rowT)) := fun h => x_pathD (xf_fld (k := 0) (xf_var h) h rfl (by decide +kernel) T.cl_Meal T.n_Meal_wishes) h rfl
  refine s_seq (s_asg x_dnew ?_)
  refine s_seq (s_range (n := (c : Nat)) [2, 3] (fun i r => r = [.ot (some v0) (mealT T.c_Meal W c S st), .ot none (dicL (grpL (lkF W S.lf) i)), .un, .un]) (xa_cons (xe_is (x_len (xs_l (wish rfl))) (by rw [ll])) xa_nil) (by omega) rfl (fun i r hi hr => ?_) fun r hr => ?_)
  · subst hr
    have hic : i < c := by omega
    obtain ⟨hat, hperm⟩ := hW.at hic
    refine wg_name ?_
    refine s_seq (s_asg (s := .da (nat_ (lkF W S.lf i))) (x_lendQ (h := leftH (alv c S.lf) S.lf) (x_ix (xs_l (wish rfl)) (x_var rfl) (atI_map (f := rowT) (atI_nat hat))) (xf_fld (k := 1) (xf_var rfl) rfl rfl (by decide +kernel) T.cl_Meal T.n_Meal_left) rfl rfl ⟨W.getD i [], leftH (alv c S.lf) S.lf, by rw [hperm.length_eq, List.length_range]; omega, rfl, ?_⟩ trivial) ?_)
    · rw [lk_find hW hic]
      unfold lkF
      obtain ⟨t, ht⟩ : ∃ t, (W.getD i []).find? (fun t => decide (S.lf t ≠ 0)) = some t := by
        obtain ⟨t, ht⟩ := List.exists_mem_of_ne_nil _ ne
        obtain ⟨h1, h2⟩ := alv_mem.mp ht
        exact Option.isSome_iff_exists.mp (List.find?_isSome.mpr ⟨t, hperm.mem_iff.mpr (List.mem_range.mpr h1), by simpa using h2⟩)
      rw [ht]
      rfl
    obtain ⟨b1, b2, b3⟩ := grpL_bd (lkF W S.lf) (c := c) (j := i) (by omega) hc6 fun p hp => (alv_mem.mp (lk_ok hW ne (p := p) (by omega)).1).1
    refine s_setdApp rfl (x_var rfl) (fun t' => x_var rfl) b1 b2 b3 ?_
    have ga := grpL_add (lkF W S.lf) i
    rw [← ga]
    rfl
  · subst hr
    rw [Int.toNat_natCast]
    refine s_frzDic 1 rfl ?_
    rw [grpD_eq]
    exact s_retE (xw_mv (i := 1) rfl (by intro z; cases z) ⟨⟨_, rfl, im_fg⟩, rfl, trivial⟩)
theorem share_eq {x n T : Int} (hn : 0 < n) (hd : n ∣ x) : Rat.divInt x T * Rat.divInt 1 n = Rat.divInt (x / n) T := by
  rw [Rat.divInt_mul_divInt, Int.mul_one]
  have e := Int.ediv_mul_cancel hd
  have := Rat.divInt_mul_right (n := x / n) (d := T) (a := n) (by omega)
  rw [e] at this
  exact this
theorem ET_big : ET < 2 ^ 3999 := by decide +kernel
theorem ET_pos : 0 < ET := by decide
theorem Sm_ET {x : Int} (h0 : 0 ≤ x) (h1 : x ≤ ET) : Sm (Rat.divInt x ET) := Sm_divInt h0 h1 ET_pos ET_big
def optE : Option Int → PyData
  | none => .none
  | some x => fT ET x
theorem optE_none (o : Option Int) : isNone (optE o) = o.isNone := by cases o <;> rfl
theorem Sm_small {n : Int} (h0 : 0 ≤ n) (h1 : n ≤ 6) : Sm (Rat.divInt n 1) ∧ (0 < n → Sm (Rat.divInt 1 n)) := by
  have b1 := divInt_bd (a := n) (b := 1) (by decide)
  refine ⟨⟨Nat.lt_of_le_of_lt b1.1 (Nat.lt_of_le_of_lt (show n.natAbs ≤ 6 by omega) (by decide +kernel)), Nat.lt_of_le_of_lt b1.2 (by decide +kernel)⟩, fun hn => ?_⟩
  have b2 := divInt_bd (a := 1) (b := n) (by omega)
  exact ⟨Nat.lt_of_le_of_lt b2.1 (by decide +kernel), Nat.lt_of_le_of_lt b2.2 (Nat.lt_of_le_of_lt (show n.natAbs ≤ 6 by omega) (by decide +kernel))⟩
theorem grpD_at {lk : Nat → Nat} {c n : Nat} {x : Nat × PyData} (h : (grpD lk c)[n]? = some x) : ∃ t, (keysF lk c)[n]? = some t ∧ x = (t, .list ((eatersF lk c t).map nat_)) := by
  unfold grpD at h
  rw [List.getElem?_map] at h
  cases e : (keysF lk c)[n]? with
  | none => rw [e] at h; cases h
  | some t => rw [e] at h; cases h; exact ⟨t, rfl, rfl⟩
def R_Meal_step (C : Addr) (us : List Ot) (ret : Option Ot) (back : List (Option Ot)) : Prop := ∃ (W : List (List Nat)) (c k : Nat) (S : Ms) (st : List PyData), WsOk c W ∧ c ≤ 6 ∧ alv c S.lf ≠ [] ∧ EatI c W k S ∧ us = [mealT C W c S st, dicD (grpD (lkF W S.lf) c)] ∧ ret = some (.da (fT ET (longF c (lkF W S.lf) S.lf))) ∧ back = [some (mealT C W c S st), some (dicD (grpD (lkF W S.lf) c))]
theorem len_step {C : Addr} {us : List Ot} {r : Option Ot} {b : List (Option Ot)} (h : R_Meal_step C us r b) : us.length = 2 := by obtain ⟨_, _, _, _, _, _, _, _, _, rfl, _⟩ := h; rfl
theorem sc_Meal_step : FnScope ["self", "found", "best", "thing", "people", "long"] ["self", "found"] (defScope s_Meal_step) := ⟨rfl, rfl, rfl, by decide +kernel, rfl, by decide +kernel, by decide +kernel⟩
theorem ok_Meal_step {P : Program} {w : World} {K : PySem.W.Frag} {mg : Str → Option Value} {base : Heap} (T : Txt K mg) : FnOk P w K mg base CX0 4 T.a_Meal_step T.d_Meal_step ["self", "found"] (spO K 0 (R_Meal_step T.c_Meal)) := by
  have G_before := ok_before (P := P) (w := w) (base := base) T
  have G_fraction := ok_fraction (P := P) (w := w) (base := base) T
  have G_times := ok_times (P := P) (w := w) (base := base) T
  refine fnO_ok T.F_Meal_step sc_Meal_step (fun us r b h => len_step h) fun cdv A outer s H E hr => ⟨_, (pss_cons (ps_set (i := 2) sc_Meal_step.nd rfl (Or.inl rfl) pe_non)
      (pss_cons (ps_lock (ps_for PassesOwn.never rfl (pi_items (pv 1)) (pg_tupK (K := K) (by rfl) (pgs_cons (pg_name (i := 3) sc_Meal_step.nd rfl (Or.inl rfl)) (pgs_cons (pg_name (i := 4) sc_Meal_step.nd rfl (Or.inl rfl)) pgs_nil))) (pss_cons (ps_set (i := 5) sc_Meal_step.nd rfl (Or.inl rfl) (pe_call G_times (hr.mono (by decide)) (by rfl) T.m_times T.F_times.kp T.b_times .nil pass0 (pa_cons (pe_dget (hu_of hr) (pe_fld (pv 0) rfl) (pv 3) (fun _ _ => rfl)) (pa_cons (pe_call G_fraction (hr.mono (by decide)) (by rfl) T.m_fraction T.F_fraction.kp T.b_fraction .nil pass0 (pa_cons pe_int (pa_cons (pe_callB (len_K (K := K)) (by rfl) T.z_len (by decide +kernel) (pa_cons (pv 4) pa_nil)) pa_nil))) pa_nil))))
      (pss_one (ps_if (PW.pt (pw_or (pt_cmpR op_isN (pv 2) pe_non (nomark _)) (pw_or1 (pt_val (pe_call G_before (hr.mono (by decide)) (by rfl) T.m_before T.F_before.kp T.b_before .nil pass0 (pa_cons (pv 5) (pa_cons (pv 2) pa_nil))))))) (pss_one (ps_set (i := 2) sc_Meal_step.nd rfl (Or.inl rfl) (pv 5))) pss_nil)))))
      (pss_one (ps_ret (pv 2))))), ?_⟩
  rintro _ _ _ vs ⟨W, c, k, S, st, hW, hc6, ne, hE, rfl, rfl, rfl⟩ hv E
  match vs, hv with
  | [v0, v1], _ =>
  have sp := hE.step hW hc6 ne
  obtain ⟨lk, elk⟩ : ∃ lk, lk = lkF W S.lf := ⟨_, rfl⟩
  rw [← elk] at sp ⊢
  obtain ⟨lg, elg⟩ : ∃ lg, lg = longF c lk S.lf := ⟨_, rfl⟩
  rw [← elg] at sp ⊢
  show WS K _ [.ot (some v0) (mealT T.c_Meal W c S st), .ot (some v1) (dicD (grpD lk c)), .un, .un, .un, .un] _
  refine s_seq (s_asg x_non ?_)
  refine s_seq (s_items (i := 1) (h := grpD lk c) [3, 4, 5] (fun l n r => r = [.ot (some v0) (mealT T.c_Meal W c S st), .ot (some l) (.at_ l), .da (optE (minO ((valsF c lk S.lf).take n))), .un, .un, .un]) rfl (fun l => rfl) (fun l n x r hi hr => ?_) fun l r hr => ?_)
  · subst hr
    obtain ⟨t, ht, rfl⟩ := grpD_at hi
    have tk := List.mem_of_getElem? ht
    obtain ⟨d1, d2, d3, d4, d5⟩ := sp.val t tk
    have tc : t < c := by obtain ⟨p, hp, e⟩ := keysF_mem.mp tk; rw [← e]; exact sp.lk_lt p hp
    have ta : t ∈ alv c S.lf := by obtain ⟨p, hp, e⟩ := keysF_mem.mp tk; rw [← e]; exact alv_mem.mpr ⟨sp.lk_lt p hp, sp.lk_al p hp⟩
    have tv : (valsF c lk S.lf)[n]? = some (S.lf t / ((eatersF lk c t).length : Int)) := by unfold valsF; rw [List.getElem?_map, ht]; rfl
    refine wg_tup (wgs_cons (wg_name (wgs_cons (wg_name (wgs_nil ?_))))) rfl
    refine s_seq (s_asg (s := .da (fT ET (S.lf t / ((eatersF lk c t).length : Int)))) (xr_is (x_call (R := R_times) (xa_cons (x_dget (h := leftH (alv c S.lf) S.lf) (k := t) (xf_fld (k := 1) (xf_var rfl) rfl rfl (by decide +kernel) T.cl_Meal T.n_Meal_left) rfl rfl (x_var rfl) (by rw [leftH_get, if_pos ta]; rfl)) (xa_cons (x_call (R := R_fraction) (xa_cons x_int (xa_cons (x_len (xs_l (x_var rfl))) xa_nil)) ⟨1, ((eatersF lk c t).length : Int), by rw [List.length_map], by omega, Nat.lt_of_le_of_lt (log_mono (show ((eatersF lk c t).length : Int).natAbs ≤ 6 by omega)) (by decide +kernel), rfl⟩) xa_nil)) ⟨Rat.divInt (S.lf t) ET, Rat.divInt 1 ((eatersF lk c t).length : Int), rfl, Sm_ET (hE.r0 t tc) (hE.hi tc), (Sm_small (by omega) (by omega)).2 d2, rfl⟩) (by unfold fT; rw [share_eq d2 d1])) ?_)
    have tn : (valsF c lk S.lf).take (n + 1) = (valsF c lk S.lf).take n ++ [S.lf t / ((eatersF lk c t).length : Int)] := by rw [List.take_add_one, tv]; rfl
    have key := minO_snoc ((valsF c lk S.lf).take n) (S.lf t / ((eatersF lk c t).length : Int))
    rw [← tn] at key
    obtain ⟨val, eval⟩ : ∃ val, val = S.lf t / ((eatersF lk c t).length : Int) := ⟨_, rfl⟩
    rw [← eval] at key d4 d5 ⊢
    cases ob : minO ((valsF c lk S.lf).take n) with
    | none =>
      rw [ob] at key
      refine s_if (b := true) (xt_or (a := true) (b := false) (xt_test (x_isN (xp_e (d := optE none) (x_var rfl)))) fun h => nomatch h) (fun _ => s_asg (x_var rfl) ?_) fun h => nomatch h
      rw [key]
      rfl
    | some b =>
      rw [ob] at key
      have hb : 0 ≤ b ∧ b ≤ ET := by
        have hm : b ∈ (valsF c lk S.lf).take n := by
          rcases Classical.em ((valsF c lk S.lf).take n = []) with z | z
          · rw [(minO_spec _).1 z] at ob; cases ob
          · obtain ⟨b', h1, h2, _⟩ := (minO_spec _).2 z
            rw [ob] at h1
            cases h1
            exact h2
        obtain ⟨t', ht', e'⟩ := List.mem_map.mp (List.mem_of_mem_take hm)
        obtain ⟨_, _, _, q4, q5⟩ := sp.val t' ht'
        rw [← e']
        exact ⟨Int.le_of_lt q4, q5⟩
      refine s_if (b := decide (val < b)) (xt_is (xt_or (xt_test (x_isN (xp_e (d := optE (some b)) (x_var rfl)))) fun _ => xt_B (x_call (R := R_before) (xa_cons (x_var rfl) (xa_cons (x_var rfl) xa_nil)) ⟨Rat.divInt val ET, Rat.divInt b ET, rfl, Sm_ET (Int.le_of_lt d4) d5, Sm_ET hb.1 hb.2, rfl⟩)) (by
        rw [show isNone (optE (some b)) = false from rfl, Bool.false_or, decide_eq_decide]
        exact divInt_lt ET_pos)) (fun h => s_asg (x_var rfl) ?_) fun h => s_next ?_
      · rw [key]
        simp only []
        rw [if_pos (of_decide_eq_true h)]
        rfl
      · rw [key]
        simp only []
        rw [if_neg (of_decide_eq_false h)]
        rfl
  · subst hr
    refine ⟨rfl, ?_⟩
    have lv : (grpD lk c).length = (valsF c lk S.lf).length := by unfold grpD valsF; simp
    rw [lv, List.take_length, sp.min]
    exact s_retE (xw_of (s := .da (fT ET lg)) (x_var rfl) ⟨⟨_, rfl, im_ad⟩, rfl, rfl, trivial⟩)
theorem meal_tab {C : Addr} {W : List (List Nat)} {c : Nat} {ks : List Nat} {lf : Nat → Int} {tb : Nat → Nat → Int} {tm : Int} {st : List PyData} : (mealO C W c ks lf tb tm st).sub [2] = some (.li ((toX (fT ET) (matL c tb)).map lD)) := rfl
theorem mat_row {c : Nat} {tb : Nat → Nat → Int} {p : Nat} (hp : p < c) : (toX (fT ET) (matL c tb))[p]? = some (((List.range c).map fun t => tb p t).map (fT ET)) := by
  unfold toX matL
  rw [List.getElem?_map, List.getElem?_map, List.getElem?_range hp]
  rfl
theorem meal_row {C : Addr} {W : List (List Nat)} {c : Nat} {ks : List Nat} {lf : Nat → Int} {tb : Nat → Nat → Int} {tm : Int} {st : List PyData} {p : Nat} (hp : p < c) : (mealO C W c ks lf tb tm st).sub [2, p] = some (lD (((List.range c).map fun t => tb p t).map (fT ET))) := by
  have e : ((toX (fT ET) (matL c tb)).map lD)[p]? = some (lD (((List.range c).map fun t => tb p t).map (fT ET))) := by rw [List.getElem?_map, mat_row hp]; rfl
  show (match ((toX (fT ET) (matL c tb)).map lD)[p]? with | some u => u.sub [] | none => none) = _
  rw [e]
  rfl
theorem meal_rowput {C : Addr} {W : List (List Nat)} {c : Nat} {ks : List Nat} {lf : Nat → Int} {tb tb' : Nat → Nat → Int} {tm : Int} {st : List PyData} {p t : Nat} (hp : p < c) (ht : t < c) (v : Int) (h : ∀ a b, a < c → b < c → tb' a b = if a = p ∧ b = t then v else tb a b) : (mealO C W c ks lf tb tm st).put [2, p] (.li (((((List.range c).map fun t => tb p t).map (fT ET)).map .da).set t (.da (fT ET v)))) = mealO C W c ks lf tb' tm st := by
  have e : ((toX (fT ET) (matL c tb)).map lD)[p]? = some (lD (((List.range c).map fun t => tb p t).map (fT ET))) := by rw [List.getElem?_map, mat_row hp]; rfl
  have e1 : (lDD (toX (fT ET) (matL c tb))).put [p] (.li (((((List.range c).map fun t => tb p t).map (fT ET)).map .da).set t (.da (fT ET v)))) = lDD (toX (fT ET) (matL c tb')) := by
    rw [put_cons (show (lDD (toX (fT ET) (matL c tb))).kids[p]? = _ from e), put_nil]
    show Ot.li (((toX (fT ET) (matL c tb)).map lD).set p _) = Ot.li _
    congr 1
    rw [matL_congr h, ← matL_up hp ht, ← toX_up]
    have r : (matL c tb).getD p [] = (List.range c).map fun t => tb p t := by
      rw [List.getD_eq_getElem?_getD]
      unfold matL
      rw [List.getElem?_map, List.getElem?_range hp]
      rfl
    rw [r, List.map_set]
    congr 1
    show Ot.li _ = Ot.li _
    rw [List.map_set]
  rw [put_cons (show (mealO C W c ks lf tb tm st).kids[2]? = some (lDD (toX (fT ET) (matL c tb))) from rfl), e1]
  rfl
def stopD (c : Nat) (lf lf' : Nat → Int) (tm : Int) : PyData := .tuple [fT ET tm, .tuple ((goneF c lf lf').map nat_)]
end WL
namespace WL
open PySem L2
def lfI (c : Nat) (lk : Nat → Nat) (lg : Int) (S : Ms) (l : List Nat) (t : Nat) : Int := if t ∈ l then S.lf t - lg * ((eatersF lk c t).length : Int) else S.lf t
def tbI (lk : Nat → Nat) (lg : Int) (S : Ms) (l : List Nat) (p t : Nat) : Int := S.tb p t + if lk p = t ∧ t ∈ l then lg else 0
def tbJ (lk : Nat → Nat) (lg : Int) (S : Ms) (l : List Nat) (t0 : Nat) (es : List Nat) (p t : Nat) : Int := tbI lk lg S l p t + if t = t0 ∧ p ∈ es then lg else 0
def gnI (c : Nat) (lk : Nat → Nat) (lg : Int) (S : Ms) (l : List Nat) : List Nat := l.filter fun t => decide (S.lf t - lg * ((eatersF lk c t).length : Int) = 0)
theorem tbJ_nil (lk : Nat → Nat) (lg : Int) (S : Ms) (l : List Nat) (t : Nat) : tbJ lk lg S l t [] = tbI lk lg S l := by
  funext a b
  unfold tbJ
  rw [if_neg (by simp)]
  simp
theorem tbJ_step (lk : Nat → Nat) (lg : Int) (S : Ms) (l : List Nat) (t : Nat) {es : List Nat} {p : Nat} (h : p ∉ es) (a b : Nat) : tbJ lk lg S l t (es ++ [p]) a b = if a = p ∧ b = t then tbJ lk lg S l t es p t + lg else tbJ lk lg S l t es a b := by
  unfold tbJ
  by_cases z : a = p ∧ b = t
  · rw [if_pos z, z.1, z.2, if_pos ⟨rfl, by simp⟩, if_neg fun y => h y.2]
    omega
  · rw [if_neg z]
    have : (b = t ∧ a ∈ es ++ [p]) ↔ (b = t ∧ a ∈ es) := by
      constructor
      · rintro ⟨y1, y2⟩
        refine ⟨y1, ?_⟩
        rcases List.mem_append.mp y2 with y | y
        · exact y
        · exact (z ⟨List.mem_singleton.mp y, y1⟩).elim
      · rintro ⟨y1, y2⟩
        exact ⟨y1, List.mem_append_left _ y2⟩
    simp only [this]
theorem tbJ_all (c : Nat) (lk : Nat → Nat) (lg : Int) (S : Ms) (l : List Nat) {t : Nat} (h : t ∉ l) {a : Nat} (ha : a < c) (b : Nat) : tbJ lk lg S l t (eatersF lk c t) a b = tbI lk lg S (l ++ [t]) a b := by
  unfold tbJ tbI
  by_cases z : b = t
  · subst z
    have e : (lk a = b ∧ b ∈ l ++ [b]) ↔ lk a = b := ⟨fun y => y.1, fun y => ⟨y, by simp⟩⟩
    rw [if_neg (c := lk a = b ∧ b ∈ l) fun y => h y.2]
    by_cases y : lk a = b
    · rw [if_pos ⟨rfl, eatersF_mem.mpr ⟨ha, y⟩⟩, if_pos (e.mpr y)]; omega
    · rw [if_neg fun q => y (eatersF_mem.mp q.2).2, if_neg fun q => y q.1]; omega
  · rw [if_neg (c := b = t ∧ _) fun y => z y.1]
    have e : (lk a = b ∧ b ∈ l ++ [t]) ↔ (lk a = b ∧ b ∈ l) := by
      simp [z]
    simp only [e]
    omega
theorem lfI_step (c : Nat) (lk : Nat → Nat) (lg : Int) (S : Ms) (l : List Nat) (t : Nat) : (fun s => if s = t then S.lf t - lg * ((eatersF lk c t).length : Int) else lfI c lk lg S l s) = lfI c lk lg S (l ++ [t]) := by
  funext s
  unfold lfI
  by_cases z : s = t
  · subst z
    simp
  · have : s ∈ l ++ [t] ↔ s ∈ l := by simp [z]
    rw [if_neg z]
    simp only [this]
theorem mealO_congr {C : Addr} {W : List (List Nat)} {c : Nat} {ks ks' : List Nat} {lf lf' : Nat → Int} {tb tb' : Nat → Nat → Int} {tm : Int} {st : List PyData} (hk : ks = ks') (h1 : ∀ t ∈ ks, lf t = lf' t) (h2 : ∀ p t, p < c → t < c → tb p t = tb' p t) : mealO C W c ks lf tb tm st = mealO C W c ks' lf' tb' tm st := by
  subst hk
  unfold mealO
  rw [leftH_congr h1, matL_congr h2]
theorem prod_eq (x n T : Int) : Rat.divInt x T * Rat.divInt n 1 = Rat.divInt (x * n) T := by rw [Rat.divInt_mul_divInt, Int.mul_one]
theorem diff_eq (x y : Int) {T : Int} (hT : 0 < T) : Rat.divInt x T - Rat.divInt y T = Rat.divInt (x - y) T := by
  have h := divInt_add_same (x - y) y (d := T) (by omega)
  rw [show x - y + y = x by omega] at h
  rw [← h, Rat.add_sub_cancel]
theorem fT_eq0 {T v : Int} (hT : 0 < T) : PyData.eqv (fT T v) (fr 0) = decide (v = 0) := by
  rw [← fT_zero T]
  unfold fT
  rw [eqv_fr, decide_eq_decide]
  exact divInt_inj hT
theorem gn_gone {c : Nat} {W : List (List Nat)} {k : Nat} {S : Ms} {lk : Nat → Nat} {lg : Int} (sp : StepI c W k S lk lg) {lf' : Nat → Int} (h : ∀ t, lf' t = S.lf t - lg * ((eatersF lk c t).length : Int)) : (gnI c lk lg S (keysF lk c)).Nodup ∧ (∀ t, t ∈ gnI c lk lg S (keysF lk c) ↔ t ∈ goneF c S.lf lf') ∧ goneF c S.lf lf' = goneF c S.lf lf' := by
  refine ⟨(keysF_nd lk c).filter _, fun t => ?_, rfl⟩
  unfold gnI
  rw [List.mem_filter, goneF_mem, h t]
  constructor
  · rintro ⟨h1, h2⟩
    obtain ⟨p, hp, e⟩ := keysF_mem.mp h1
    exact ⟨by rw [← e]; exact sp.lk_lt p hp, by rw [← e]; exact sp.lk_al p hp, by simpa using h2⟩
  · rintro ⟨h1, h2, h3⟩
    refine ⟨?_, by simpa using h3⟩
    apply Classical.byContradiction
    intro no
    rw [eatersF_none no] at h3
    simp at h3
    exact h2 h3
theorem srt_gone {c : Nat} {lf lf' : Nat → Int} {l : List Nat} (nd : l.Nodup) (h : ∀ t, t ∈ l ↔ t ∈ goneF c lf lf') : srt (l.map fun i : Nat => (i : Int)) = (goneF c lf lf').map fun i : Nat => (i : Int) := by
  refine (srt_only ?_ ?_).symm
  · exact (List.Perm.map _ ((List.perm_ext_iff_of_nodup nd (List.nodup_range.filter _)).mpr h)).symm
  · rw [List.pairwise_map]
    refine List.Pairwise.imp (R := fun a b => a < b) (fun h => by omega) ?_
    exact List.Pairwise.filter _ List.pairwise_lt_range
end WL

namespace WL
open PySem L2
def R_Meal_eat (C : Addr) (us : List Ot) (ret : Option Ot) (back : List (Option Ot)) : Prop := ∃ (W : List (List Nat)) (c k : Nat) (S : Ms) (st : List PyData), WsOk c W ∧ 1 ≤ c ∧ c ≤ 6 ∧ alv c S.lf ≠ [] ∧ EatI c W k S ∧ 0 ≤ S.tm ∧ S.tm ≤ ET ∧ st.length ≤ 100 ∧ us = [mealT C W c S st] ∧ ret = some (.da .none) ∧ back = [some (mealT C W c (nextF c W S) (st ++ [stopD c S.lf (nextF c W S).lf (nextF c W S).tm]))]
theorem len_eat {C : Addr} {us : List Ot} {r : Option Ot} {b : List (Option Ot)} (h : R_Meal_eat C us r b) : us.length = 1 := by obtain ⟨_, _, _, _, _, _, _, _, _, _, _, _, _, rfl, _⟩ := h; rfl
theorem sc_Meal_eat : FnScope ["self", "found", "long", "gone", "thing", "people", "person"] ["self"] (defScope s_Meal_eat) := ⟨rfl, rfl, rfl, by decide +kernel, rfl, by decide +kernel, by decide +kernel⟩
theorem ok_Meal_eat {P : Program} {w : World} {K : PySem.W.Frag} {mg : Str → Option Value} {base : Heap} (T : Txt K mg) : FnOk P w K mg base CX0 5 T.a_Meal_eat T.d_Meal_eat ["self"] (spO K 0 (R_Meal_eat T.c_Meal)) := by
  have G_Meal_eaters := ok_Meal_eaters (P := P) (w := w) (base := base) T
  have G_Meal_step := ok_Meal_step (P := P) (w := w) (base := base) T
  have G_minus := ok_minus (P := P) (w := w) (base := base) T
  have G_plus := ok_plus (P := P) (w := w) (base := base) T
  have G_times := ok_times (P := P) (w := w) (base := base) T
  refine fnO_ok T.F_Meal_eat sc_Meal_eat (fun us r b h => len_eat h) fun cdv A outer s H E hr => ⟨_, (pss_cons (ps_set (i := 1) sc_Meal_eat.nd rfl (Or.inl rfl) (pe_meth0 (pv 0) T.cl_Meal T.t_Meal_eaters G_Meal_eaters (hr.mono (by decide)) T.b_Meal_eaters .nil pass0))
      (pss_cons (ps_set (i := 2) sc_Meal_eat.nd rfl (Or.inl rfl) (pe_meth (pv 0) T.cl_Meal T.t_Meal_step G_Meal_step (hr.mono (by decide)) T.b_Meal_step .nil pass0 (by exact (pa_cons (pv 1) pa_nil))))
      (pss_cons (ps_set (i := 3) sc_Meal_eat.nd rfl (Or.inl rfl) (pe_lst pa_nil))
      (pss_cons (ps_lock (ps_for PassesOwn.never rfl (pi_items (pv 1)) (pg_tupK (K := K) (by rfl) (pgs_cons (pg_name (i := 4) sc_Meal_eat.nd rfl (Or.inl rfl)) (pgs_cons (pg_name (i := 5) sc_Meal_eat.nd rfl (Or.inl rfl)) pgs_nil))) (pss_cons (ps_for PassesOwn.never rfl (pi_seqK (K := K) (pv 5)) (pg_name (i := 6) sc_Meal_eat.nd rfl (Or.inl rfl)) (pss_one (ps_asg (pe_call G_plus (hr.mono (by decide)) (by rfl) T.m_plus T.F_plus.kp T.b_plus .nil pass0 (pa_cons (pe_ix (ix_seqK (K := K)) (pe_ix (ix_seqK (K := K)) (pe_fld (pv 0) rfl) (pv 6) (fun _ _ => rfl)) (pv 4) (fun _ _ => rfl)) (pa_cons (pv 2) pa_nil))) (pg_sub (pe_ix (ix_seqK (K := K)) (pe_fld (pv 0) rfl) (pv 6) (fun _ _ => rfl)) (pv 4) set_list))))
      (pss_cons (ps_dput (hu_of hr) (pe_fld (pv 0) rfl) (pv 4) (pe_call G_minus (hr.mono (by decide)) (by rfl) T.m_minus T.F_minus.kp T.b_minus .nil pass0 (pa_cons (pe_dget (hu_of hr) (pe_fld (pv 0) rfl) (pv 4) (fun _ _ => rfl)) (pa_cons (pe_call G_times (hr.mono (by decide)) (by rfl) T.m_times T.F_times.kp T.b_times .nil pass0 (pa_cons (pv 2) (pa_cons (pe_tup (pa_cons (pe_callB (len_K (K := K)) (by rfl) T.z_len (by decide +kernel) (pa_cons (pv 5) pa_nil)) (pa_cons pe_int pa_nil))) pa_nil))) pa_nil))) rfl)
      (pss_one (ps_if (pt_cmpR (op_eqK (K := K) hr.units) (pe_dget (hu_of hr) (pe_fld (pv 0) rfl) (pv 4) (fun _ _ => rfl)) (pe_glob (by rfl) T.m_NOTHING (v := T.v_NOTHING) T.r_NOTHING) (nomark _)) (pss_one (ps_expr (pe_bm PySem.F.plainAttrs_list PySem.F.slot_list_append PySem.F.type_list_append mt_append (pv 3) (pa_cons (pv 4) pa_nil)))) pss_nil))))))
      (pss_cons (ps_for PassesOwn.never rfl (pi_seqK (K := K) (pv 3)) (pg_name (i := 4) sc_Meal_eat.nd rfl (Or.inl rfl)) (pss_one (ps_expr (pe_dpop1 (pe_fld (pv 0) rfl) (pv 4) ⟨by rfl, by rfl, by rfl, by rfl⟩))))
      (pss_cons (ps_fld (pv 0) (pe_call G_plus (hr.mono (by decide)) (by rfl) T.m_plus T.F_plus.kp T.b_plus .nil pass0 (pa_cons (pe_fld (pv 0) rfl) (pa_cons (pv 2) pa_nil))) rfl)
      (pss_one (ps_expr (pe_bm PySem.F.plainAttrs_list PySem.F.slot_list_append PySem.F.type_list_append mt_append (pe_fld (pv 0) rfl) (pa_cons (pe_tup (pa_cons (pe_fld (pv 0) rfl) (pa_cons (pe_callTy (T := "tuple") (tuple_K (K := K)) (by rfl) T.z_tuple (by decide +kernel) (pa_cons (pe_callB (sorted_K (K := K)) (by rfl) T.z_sorted (by decide +kernel) (pa_cons (pv 3) pa_nil)) pa_nil)) pa_nil))) pa_nil)))))))))), ?_⟩
  rintro _ _ _ vs ⟨W, c, k, S, st, hW, hc1, hc6, ne, hE, tm0, tm1, hst, rfl, rfl, rfl⟩ hv E
  match vs, hv with
  | [v0], _ =>
  have sp := hE.step hW hc6 ne
  have nlf : ∀ t, (nextF c W S).lf t = S.lf t - longF c (lkF W S.lf) S.lf * ((eatersF (lkF W S.lf) c t).length : Int) := fun _ => rfl
  have ntb : ∀ p t, (nextF c W S).tb p t = S.tb p t + if lkF W S.lf p = t then longF c (lkF W S.lf) S.lf else 0 := fun _ _ => rfl
  have ntm : (nextF c W S).tm = S.tm + longF c (lkF W S.lf) S.lf := rfl
  have hE' := hE.next hW hc6 ne
  obtain ⟨S', eS'⟩ : ∃ S', S' = nextF c W S := ⟨_, rfl⟩
  rw [← eS'] at nlf ntb ntm hE' ⊢
  show WS K _ [.ot (some v0) (mealT T.c_Meal W c S st), .un, .un, .un, .un, .un, .un] _
  refine s_seq (s_asgW (xw_meth rfl (by decide +kernel) (xae_cons (xv_m (j := 0) rfl) rfl xae_nil) rfl ⟨W, c, S, st, hW, hc1, hc6, ne, rfl, rfl, rfl⟩ ?_))
  show WS K _ [.ot (some v0) (mealT T.c_Meal W c S st), .ot none (dicD (grpD (lkF W S.lf) c)), .un, .un, .un, .un, .un] _
  refine s_seq (s_asgW (xw_meth rfl (by decide +kernel) (xae_cons (xv_m (j := 0) rfl) rfl (xae_cons (xv_m (j := 1) rfl) rfl xae_nil)) rfl ⟨W, c, k, S, st, hW, hc6, ne, hE, rfl, rfl, rfl⟩ ?_))
  show WS K _ [.ot (some v0) (mealT T.c_Meal W c S st), .ot none (dicD (grpD (lkF W S.lf) c)), .ot none (.da (fT ET (longF c (lkF W S.lf) S.lf))), .un, .un, .un, .un] _
  refine s_as 2 rfl im_da ?_
  obtain ⟨lk, elk⟩ : ∃ lk, lk = lkF W S.lf := ⟨_, rfl⟩
  rw [← elk] at sp nlf ntb ntm ⊢
  obtain ⟨lg, elg⟩ : ∃ lg, lg = longF c lk S.lf := ⟨_, rfl⟩
  rw [← elg] at sp nlf ntb ntm ⊢
  refine s_seq (s_asg (x_lst xa_nil (by simp)) ?_)
  obtain ⟨ks, eks⟩ : ∃ ks, ks = keysF lk c := ⟨_, rfl⟩
  have ksn : ks.Nodup := by rw [eks]; exact keysF_nd lk c
  have ksm : ∀ t ∈ ks, t < c ∧ S.lf t ≠ 0 := fun t m => by
    rw [eks] at m
    obtain ⟨p, hp, e⟩ := keysF_mem.mp m
    rw [← e]
    exact ⟨sp.lk_lt p hp, sp.lk_al p hp⟩
  have ksl : ks.length ≤ 6 := Nat.le_trans (nodup_lt_len ksn fun t m => (ksm t m).1) hc6
  have sl : Sm (Rat.divInt lg ET) := Sm_ET (Int.le_of_lt sp.pos) sp.hi
  have m0 : mealT T.c_Meal W c S st = mealO T.c_Meal W c (alv c S.lf) (lfI c lk lg S (ks.take 0)) (tbI lk lg S (ks.take 0)) S.tm st := mealO_congr rfl (fun t _ => by unfold lfI; rw [if_neg (by simp)]) fun p t _ _ => by unfold tbI; rw [if_neg (by simp)]; omega
  refine s_seq (s_items (i := 1) (h := grpD lk c) [4, 5, 6] (fun l n r => r = [.ot (some v0) (mealO T.c_Meal W c (alv c S.lf) (lfI c lk lg S (ks.take n)) (tbI lk lg S (ks.take n)) S.tm st), .ot (some l) (.at_ l), .da (fT ET lg), .ow ((gnI c lk lg S (ks.take n)).map nat_), .un, .un, .un]) rfl (fun l => ?_) (fun fl n x r hi hr => ?_) fun l r hr => ?_)
  · rw [m0]; rfl
  · subst hr
    obtain ⟨t, ht, rfl⟩ := grpD_at hi
    rw [← eks] at ht
    have tk := List.mem_of_getElem? ht
    have hn := (List.getElem?_eq_some_iff.mp ht).1
    obtain ⟨tc, tz⟩ := ksm t tk
    have ta : t ∈ alv c S.lf := alv_mem.mpr ⟨tc, tz⟩
    obtain ⟨d1, d2, d3, d4, d5⟩ := sp.val t (by rw [← eks]; exact tk)
    obtain ⟨l, el⟩ : ∃ l, l = ks.take n := ⟨_, rfl⟩
    have el1 : ks.take (n + 1) = l ++ [t] := by rw [List.take_add_one, ht, el]; rfl
    rw [el1, ← el]
    have tl : t ∉ l := fun m => by
      have nd := ksn.sublist (List.take_sublist (n + 1) ks)
      rw [el1] at nd
      exact (List.nodup_append.mp nd).2.2 t m t (by simp) rfl
    have tb1 : ∀ p, p < c → 0 ≤ S.tb p t ∧ S.tb p t ≤ ET := fun p hp => by
      have h1 := hE.col t tc
      have h2 : S.tb p t ≤ upto (fun p => S.tb p t) c := upto_ge (f := fun p => S.tb p t) (fun i _ => hE.nn i t) hp
      have h3 := hE.r0 t tc
      exact ⟨hE.nn p t, by omega⟩
    refine wg_tup (wgs_cons (wg_name (wgs_cons (wg_name (wgs_nil ?_))))) rfl
    obtain ⟨es, ees⟩ : ∃ es, es = eatersF lk c t := ⟨_, rfl⟩
    have esn : es.Nodup := by rw [ees]; exact eatersF_nd lk c t
    have esl : es.length ≤ 6 := by rw [ees]; exact d3
    show WS K _ [.ot (some v0) (mealO T.c_Meal W c (alv c S.lf) (lfI c lk lg S l) (tbI lk lg S l) S.tm st), .ot (some fl) (.at_ fl), .da (fT ET lg), .ow ((gnI c lk lg S l).map nat_), .da (nat_ t), .da (.list ((eatersF lk c t).map nat_)), .un] _
    rw [← ees] at d1 d2 d3 d4 d5 ⊢
    refine s_seq (s_for es nat_ [6] (fun j r => r = [.ot (some v0) (mealO T.c_Meal W c (alv c S.lf) (lfI c lk lg S l) (tbJ lk lg S l t (es.take j)) S.tm st), .ot (some fl) (.at_ fl), .da (fT ET lg), .ow ((gnI c lk lg S l).map nat_), .da (nat_ t), .da (.list (es.map nat_)), .un]) (x_var rfl) trivial rfl (by rw [List.take_zero, tbJ_nil]; rfl) (fun j p r hp hr => ?_) fun r hr => ?_)
    · subst hr
      have hpm := List.mem_of_getElem? hp
      have hpm2 := hpm
      rw [ees] at hpm2
      obtain ⟨pc, pe⟩ := eatersF_mem.mp hpm2
      have ej : es.take (j + 1) = es.take j ++ [p] := by rw [List.take_add_one, hp]; rfl
      have pj : p ∉ es.take j := fun m => by
        have nd := esn.sublist (List.take_sublist (j + 1) es)
        rw [ej] at nd
        exact (List.nodup_append.mp nd).2.2 p m p (by simp) rfl
      obtain ⟨q, eq⟩ : ∃ q, q = es.take j := ⟨_, rfl⟩
      rw [ej, ← eq]
      rw [← eq] at pj
      have cv : tbJ lk lg S l t q p t = S.tb p t := by
        unfold tbJ tbI
        rw [if_neg fun y : lk p = t ∧ t ∈ l => tl y.2, if_neg fun y : t = t ∧ p ∈ q => pj y.2]
        omega
      obtain ⟨t0, t1⟩ := tb1 p pc
      refine wg_name ?_
      have pth : ∀ {ρ : List Sl}, ρ[0]? = some (.ot (some v0) (mealO T.c_Meal W c (alv c S.lf) (lfI c lk lg S l) (tbJ lk lg S l t q) S.tm st)) → ρ[6]? = some (.da (nat_ p)) → XF K (tOp (rIx K) (tFld K (tVar 0) "table") (tVar 6)) ρ 0 [2, p] := fun h1 h2 => xf_ix (xf_fld (k := 2) (xf_var h1) h1 rfl (by decide +kernel) T.cl_Meal T.n_Meal_table) h1 meal_tab (x_var h2) (ixN_nat rfl (by rw [List.length_map, (matL_sq c _).lenX]; exact pc))
      have row := meal_row (C := T.c_Meal) (W := W) (ks := alv c S.lf) (lf := lfI c lk lg S l) (tb := tbJ lk lg S l t q) (tm := S.tm) (st := st) pc
      have cell : (((List.range c).map fun t' => tbJ lk lg S l t q p t').map (fT ET))[t]? = some (fT ET (S.tb p t)) := by
        rw [List.getElem?_map, List.getElem?_map, List.getElem?_range tc]
        show some (fT ET (tbJ lk lg S l t q p t)) = _
        rw [cv]
      refine s_setP (d := fT ET (S.tb p t + lg)) (j := t) (xe_is (x_call (R := R_plus) (xa_cons (x_ix (xs_pathL (pth rfl rfl) rfl row) (x_var rfl) (atI_nat cell)) (xa_cons (x_var rfl) xa_nil)) ⟨Rat.divInt (S.tb p t) ET, Rat.divInt lg ET, rfl, Sm_ET t0 t1, sl, rfl⟩) (by rw [divInt_add_same _ _ (by decide)]; rfl)) (pth rfl rfl) rfl row (x_var rfl) (ixN_nat rfl (by rw [List.length_map, List.length_map, List.length_map, List.length_range]; exact tc)) ?_
      rw [meal_rowput (tb' := tbJ lk lg S l t (q ++ [p])) pc tc _ fun a b _ _ => by rw [tbJ_step lk lg S l t pj, cv]]
      rfl
    · subst hr
      rw [List.take_length, ees]
      have me : mealO T.c_Meal W c (alv c S.lf) (lfI c lk lg S l) (tbJ lk lg S l t (eatersF lk c t)) S.tm st = mealO T.c_Meal W c (alv c S.lf) (lfI c lk lg S l) (tbI lk lg S (l ++ [t])) S.tm st := mealO_congr rfl (fun _ _ => rfl) fun a b ha _ => tbJ_all c lk lg S l tl ha b
      rw [me, ← ees]
      have lt : lfI c lk lg S l t = S.lf t := by unfold lfI; rw [if_neg tl]
      have le := sp.le t tc
      rw [← ees] at le
      have r0 := hE.r0 t tc
      have hi2 := hE.hi tc
      have mul0 : 0 ≤ lg * (es.length : Int) := Int.mul_nonneg (Int.le_of_lt sp.pos) (Int.natCast_nonneg _)
      refine s_seq (s_dput (h := leftH (alv c S.lf) (lfI c lk lg S l)) (d := fT ET (S.lf t - lg * (es.length : Int))) (k := t) (xe_is (x_call (R := R_minus) (xa_cons (x_dget (h := leftH (alv c S.lf) (lfI c lk lg S l)) (k := t) (xf_fld (k := 1) (xf_var rfl) rfl rfl (by decide +kernel) T.cl_Meal T.n_Meal_left) rfl rfl (x_var rfl) (by rw [leftH_get, if_pos ta, lt]; rfl)) (xa_cons (xe_is (x_call (R := R_times) (xa_cons (x_var rfl) (xa_cons (xe_is (x_tup (xa_cons (x_len (xs_l (x_var rfl))) (xa_cons x_int xa_nil)) (by simp)) (by rw [List.length_map]; exact fr_whole _)) xa_nil)) ⟨Rat.divInt lg ET, Rat.divInt (es.length : Int) 1, rfl, sl, (Sm_small (by omega) (by omega)).1, rfl⟩) (by rw [prod_eq])) xa_nil)) ⟨Rat.divInt (S.lf t) ET, Rat.divInt (lg * (es.length : Int)) ET, rfl, Sm_ET r0 hi2, Sm_ET mul0 (by omega), rfl⟩) (by rw [diff_eq _ _ ET_pos]; rfl)) (xf_fld (k := 1) (xf_var rfl) rfl rfl (by decide +kernel) T.cl_Meal T.n_Meal_left) rfl rfl (x_var rfl) (by rw [leftH_len]; have := nodup_lt_len (alv_nd c S.lf) fun t m => (alv_mem.mp m).1; omega) ?_)
      rw [leftH_put ta]
      have ls := lfI_step c lk lg S l t
      rw [← ees] at ls
      have ls2 : (fun s => if s = t then S.lf t - lg * (es.length : Int) else lfI c lk lg S l s) = lfI c lk lg S (l ++ [t]) := ls
      rw [ls2]
      show WS K _ [.ot (some v0) (mealO T.c_Meal W c (alv c S.lf) (lfI c lk lg S (l ++ [t])) (tbI lk lg S (l ++ [t])) S.tm st), .ot (some fl) (.at_ fl), .da (fT ET lg), .ow ((gnI c lk lg S l).map nat_), .da (nat_ t), .da (.list (es.map nat_)), .un] _
      have lt2 : lfI c lk lg S (l ++ [t]) t = S.lf t - lg * (es.length : Int) := by unfold lfI; rw [if_pos (by simp), ees]
      have g1 : gnI c lk lg S (l ++ [t]) = gnI c lk lg S l ++ if S.lf t - lg * (es.length : Int) = 0 then [t] else [] := by
        unfold gnI
        rw [List.filter_append, ees]
        congr 1
        by_cases z : S.lf t - lg * ((eatersF lk c t).length : Int) = 0
        · rw [if_pos z]; simp [z]
        · rw [if_neg z]; simp [z]
      have gl : (gnI c lk lg S l).length ≤ 6 := by
        have h1 : (gnI c lk lg S l).length ≤ l.length := List.length_filter_le _ _
        have h2 : l.length ≤ ks.length := by rw [el, List.length_take]; omega
        omega
      refine s_if (xt_is (xt_test (x_eq (xp_e (x_dget (h := leftH (alv c S.lf) (lfI c lk lg S (l ++ [t]))) (k := t) (d := fT ET (S.lf t - lg * (es.length : Int))) (xf_fld (k := 1) (xf_var rfl) rfl rfl (by decide +kernel) T.cl_Meal T.n_Meal_left) rfl rfl (x_var rfl) (by rw [leftH_get, if_pos ta, lt2]))) (xp_e (x_c T.t_NOTHING)) (fr_shaped _) (by rfl))) (fT_eq0 ET_pos)) (fun z => ?_) fun z => s_next ?_
      · refine s_append (i := 3) rfl (x_var rfl) (by rw [List.length_map]; omega) ?_
        rw [g1, if_pos (of_decide_eq_true z), List.map_append]
        rfl
      · rw [g1, if_neg (of_decide_eq_false z), List.append_nil]
        rfl
  · subst hr
    refine ⟨rfl, ?_⟩
    have lv : (grpD lk c).length = ks.length := by unfold grpD; rw [List.length_map, eks]
    rw [lv, List.take_length]
    show WS K _ [.ot (some v0) (mealO T.c_Meal W c (alv c S.lf) (lfI c lk lg S ks) (tbI lk lg S ks) S.tm st), .ot none (dicD (grpD lk c)), .da (fT ET lg), .ow ((gnI c lk lg S ks).map nat_), .un, .un, .un] _
    obtain ⟨gnd, gm, _⟩ := gn_gone sp nlf
    rw [← eks] at gnd gm
    obtain ⟨gn, egn⟩ : ∃ gn, gn = gnI c lk lg S ks := ⟨_, rfl⟩
    rw [← egn] at gnd gm ⊢
    have lfk : ∀ t, t < c → lfI c lk lg S ks t = S'.lf t := fun t ht => by
      rw [nlf]
      unfold lfI
      by_cases z : t ∈ ks
      · rw [if_pos z]
      · rw [if_neg z, eatersF_none (by rw [← eks]; exact z)]
        simp
    have gnl : gn.length ≤ 6 := Nat.le_trans (nodup_lt_len gnd fun t m => (goneF_mem.mp ((gm t).mp m)).1) hc6
    refine s_frz 3 rfl ?_
    refine s_seq (s_for gn nat_ [4] (fun i r => r = [.ot (some v0) (mealO T.c_Meal W c ((alv c S.lf).filter fun t => !decide (t ∈ gn.take i)) (lfI c lk lg S ks) (tbI lk lg S ks) S.tm st), .ot none (dicD (grpD lk c)), .da (fT ET lg), .da (.list (gn.map nat_)), .un, .un, .un]) (x_var rfl) trivial rfl ?_ (fun i t r hi hr => ?_) fun r hr => ?_)
    · rw [List.take_zero, List.filter_eq_self.mpr (fun t _ => by simp)]
      rfl
    · subst hr
      have tm := List.mem_of_getElem? hi
      obtain ⟨g1, g2, g3⟩ := goneF_mem.mp ((gm t).mp tm)
      have ei : gn.take (i + 1) = gn.take i ++ [t] := by rw [List.take_add_one, hi]; rfl
      have ti : t ∉ gn.take i := fun m => by
        have nd := gnd.sublist (List.take_sublist (i + 1) gn)
        rw [ei] at nd
        exact (List.nodup_append.mp nd).2.2 t m t (by simp) rfl
      refine wg_name ?_
      refine s_dpopP (h := leftH ((alv c S.lf).filter fun t => !decide (t ∈ gn.take i)) (lfI c lk lg S ks)) (k := t) (xf_fld (k := 1) (xf_var rfl) rfl rfl (by decide +kernel) T.cl_Meal T.n_Meal_left) rfl rfl (x_var rfl) (by rw [leftH_get, if_pos (List.mem_filter.mpr ⟨alv_mem.mpr ⟨g1, g2⟩, by simpa using ti⟩)]) ?_
      rw [leftH_drop, List.filter_filter, ei]
      have fe : ((alv c S.lf).filter fun a => decide (a ≠ t) && !decide (a ∈ gn.take i)) = (alv c S.lf).filter fun a => !decide (a ∈ gn.take i ++ [t]) := List.filter_congr fun a _ => by
        by_cases z : a = t
        · subst z; simp
        · simp [z]
      rw [fe]
      rfl
    · subst hr
      rw [List.take_length]
      have al : ((alv c S.lf).filter fun t => !decide (t ∈ gn)) = alv c S'.lf := by
        unfold alv
        rw [List.filter_filter]
        refine List.filter_congr fun t ht => ?_
        have htc := List.mem_range.mp ht
        have e1 : t ∈ gn ↔ S.lf t ≠ 0 ∧ S'.lf t = 0 := by rw [gm t, goneF_mem]; exact ⟨fun h => h.2, fun h => ⟨htc, h⟩⟩
        by_cases z : S.lf t = 0
        · have : S'.lf t = 0 := by
            have h1 := sp.le t htc
            have h2 : 0 ≤ lg * ((eatersF lk c t).length : Int) := Int.mul_nonneg (Int.le_of_lt sp.pos) (Int.natCast_nonneg _)
            rw [nlf]
            omega
          simp [z, this]
        · by_cases y : S'.lf t = 0
          · simp [e1, z, y]
          · simp [e1, z, y]
      rw [al]
      have me : mealO T.c_Meal W c (alv c S'.lf) (lfI c lk lg S ks) (tbI lk lg S ks) S.tm st = mealO T.c_Meal W c (alv c S'.lf) S'.lf S'.tb S.tm st := mealO_congr rfl (fun t m => lfk t (alv_mem.mp m).1) fun p t hp ht => by
        rw [ntb]
        unfold tbI
        congr 1
        have : (lk p = t ∧ t ∈ ks) ↔ lk p = t := ⟨fun h => h.1, fun h => ⟨h, by rw [eks]; exact keysF_mem.mpr ⟨p, hp, h⟩⟩⟩
        simp only [this]
      rw [me]
      have tms : Sm (Rat.divInt S.tm ET) := Sm_ET tm0 tm1
      refine s_seq (s_fldSet (k := 3) (u' := .da (fT ET S'.tm)) (x_as (xr_is (x_call (R := R_plus) (xa_cons (x_pathD (d := fT ET S.tm) (xf_fld (k := 3) (xf_var rfl) rfl rfl (by decide +kernel) T.cl_Meal T.n_Meal_time) rfl rfl) (xa_cons (x_var rfl) xa_nil)) ⟨Rat.divInt S.tm ET, Rat.divInt lg ET, rfl, tms, sl, rfl⟩) (by rw [divInt_add_same _ _ (by decide), ntm]; rfl)) im_ad) (xf_var rfl) rfl rfl (by decide +kernel) T.cl_Meal T.n_Meal_time (by decide) ?_)
      show WS K _ [.ot (some v0) (mealO T.c_Meal W c (alv c S'.lf) S'.lf S'.tb S'.tm st), .ot none (dicD (grpD lk c)), .da (fT ET lg), .da (.list (gn.map nat_)), .un, .un, .un] _
      have gd : XE K (tCB (rTupleOf K) (tCons (tCB (rSortX K) (tCons (tVar 3) tNil)) tNil)) [.ot (some v0) (mealO T.c_Meal W c (alv c S'.lf) S'.lf S'.tb S'.tm st), .ot none (dicD (grpD lk c)), .da (fT ET lg), .da (.list (gn.map nat_)), .un, .un, .un] (.tuple ((goneF c S.lf S'.lf).map nat_)) := xe_is (x_tuple (xs_l (x_frz (x_sortedQ (b := false) (ns := gn.map fun i : Nat => (i : Int)) (by rw [← nat_ints]; exact x_var rfl))))) (by rw [srt_gone gnd gm, ← nat_ints])
      refine s_appP (u' := .da (stopD c S.lf S'.lf S'.tm)) (ts := st.map .da) (xf_fld (k := 4) (xf_var rfl) rfl rfl (by decide +kernel) T.cl_Meal T.n_Meal_stops) rfl rfl (xv_d (x_tup (xa_cons (x_pathD (d := fT ET S'.tm) (xf_fld (k := 3) (xf_var rfl) rfl rfl (by decide +kernel) T.cl_Meal T.n_Meal_time) rfl rfl) (xa_cons gd xa_nil)) (by simp))) rfl (by rw [List.length_map]; omega) ?_
      refine ⟨rfl, ?_, trivial⟩
      unfold mealT mealO lD
      rw [List.map_append]
      rfl
end WL

namespace WL
open PySem L2
def stopK (c : Nat) (W : List (List Nat)) (k : Nat) : PyData := stopD c (msK c W k).lf (msK c W (k + 1)).lf (msK c W (k + 1)).tm
def stopsF (c : Nat) (W : List (List Nat)) (k : Nat) : List PyData := (List.range k).map (stopK c W)
theorem tm_bd {c : Nat} {W : List (List Nat)} {k : Nat} {S : Ms} (h : EatI c W k S) (hc1 : 1 ≤ c) : 0 ≤ S.tm ∧ S.tm ≤ ET := by
  have h1 := h.row 0 (by omega)
  have h2 := upto_nn (f := fun t => S.tb 0 t) (fun i => h.nn 0 i) c
  refine ⟨by omega, ?_⟩
  have e1 : upto (fun p => upto (fun t => S.tb p t) c) c = upto (fun _ => S.tm) c := upto_congr fun p hp => h.row p hp
  have e2 : upto (fun t => upto (fun p => S.tb p t) c) c = upto (fun t => ET - S.lf t) c := upto_congr fun t ht => by have := h.col t ht; omega
  rw [upto_swap, e2, upto_sub] at e1
  have cst : ∀ (x : Int) (n : Nat), upto (fun _ => x) n = n * x := fun x n => by
    induction n with
    | zero => simp [upto]
    | succ n ih => rw [upto, ih, Int.natCast_add, Int.add_mul]; simp
  rw [cst, cst] at e1
  have l0 : 0 ≤ upto S.lf c := by
    have g : ∀ n, n ≤ c → 0 ≤ upto S.lf n := fun n => by
      induction n with
      | zero => intro _; exact Int.le_refl _
      | succ n ih => intro hn; rw [upto]; have := ih (by omega); have := h.r0 n (by omega); omega
    exact g c (Nat.le_refl _)
  have : (c : Int) * S.tm ≤ (c : Int) * ET := by omega
  exact Int.le_of_mul_le_mul_left this (by omega)
def R_meal_of (C : Addr) (us : List Ot) (ret : Option Ot) (back : List (Option Ot)) : Prop := ∃ (W : List (List Nat)) (c : Nat), WsOk c W ∧ 1 ≤ c ∧ c ≤ 6 ∧ us = [.da (.list (W.map rowT))] ∧ ret = some (mealT C W c (msK c W (eatK c W)) (stopsF c W (eatK c W))) ∧ back = [none]
theorem len_meal_of {C : Addr} {us : List Ot} {r : Option Ot} {b : List (Option Ot)} (h : R_meal_of C us r b) : us.length = 1 := by obtain ⟨_, _, _, _, _, rfl, _⟩ := h; rfl
theorem sc_meal_of : FnScope ["wishes", "meal"] ["wishes"] (defScope s_meal_of) := ⟨rfl, rfl, rfl, by decide +kernel, rfl, by decide +kernel, by decide +kernel⟩
theorem ok_meal_of {P : Program} {w : World} {K : PySem.W.Frag} {mg : Str → Option Value} {base : Heap} (T : Txt K mg) : FnOk P w K mg base CX0 6 T.a_meal_of T.d_meal_of ["wishes"] (spO K 0 (R_meal_of T.c_Meal)) := by
  have G_Meal___init__ := ok_Meal___init__ (P := P) (w := w) (base := base) T
  have G_Meal_eat := ok_Meal_eat (P := P) (w := w) (base := base) T
  refine fnO_ok T.F_meal_of sc_meal_of (fun us r b h => len_meal_of h) fun cdv A outer s H E hr => ⟨_, (pss_cons (ps_set (i := 1) sc_meal_of.nd rfl (Or.inl rfl) (pe_make T.K_Meal G_Meal___init__ (hr.mono (by decide)) (by rfl) T.g_Meal T.b_Meal___init__ .nil pass0 (by exact (pa_cons (pv 0) pa_nil))))
      (pss_cons (ps_while PassesOwn.never (pt_cmpR op_gt (pe_callB call_lenD (by rfl) T.z_len (by decide +kernel) (pa_cons (pe_fld (pv 1) rfl) pa_nil)) pe_int (nomark _)) (pss_one (ps_expr (pe_meth0 (pv 1) T.cl_Meal T.t_Meal_eat G_Meal_eat (hr.mono (by decide)) T.b_Meal_eat .nil pass0))))
      (pss_one (ps_ret (pv 1))))), ?_⟩
  rintro _ _ _ vs ⟨W, c, hW, hc1, hc6, rfl, rfl, rfl⟩ hv E
  match vs, hv with
  | [v0], _ =>
  obtain ⟨k6, kz, kne⟩ := eatK_ok hW hc6
  obtain ⟨Kn, eKn⟩ : ∃ Kn, Kn = eatK c W := ⟨_, rfl⟩
  rw [← eKn] at k6 kz kne ⊢
  show WS K _ [.da (.list (W.map rowT)), .un] _
  refine s_seq (s_asg (s := .ot none (mealT T.c_Meal W c ms0 [])) (x_make (xa_cons (x_var rfl) xa_nil) ⟨W, c, hW, hc1, hc6, rfl, rfl, rfl⟩) ?_)
  refine s_seq (s_while [] (fun m r => ∃ k, k ≤ Kn ∧ m = Kn - k ∧ r = [.da (.list (W.map rowT)), .ot none (mealT T.c_Meal W c (msK c W k) (stopsF c W k))]) _ ⟨0, Nat.zero_le _, rfl, rfl⟩ ?_)
  rintro m r ⟨k, hk, rfl, rfl⟩
  refine ⟨_, xt_test (x_gt (x_lenDic (h := leftH (alv c (msK c W k).lf) (msK c W k).lf) (xf_fld (k := 1) (xf_var rfl) rfl rfl (by decide +kernel) T.cl_Meal T.n_Meal_left) rfl rfl) x_int), fun hb => ?_, fun hb => ?_⟩
  · have hb := of_decide_eq_true hb
    rw [leftH_len] at hb
    have ne : alv c (msK c W k).lf ≠ [] := fun z => by rw [z] at hb; simp at hb
    have hlt : k < Kn := by
      rcases Nat.lt_or_ge k Kn with q | q
      · exact q
      · have : k = Kn := by omega
        rw [this] at ne
        exact (ne kz).elim
    have hE := eatAt hW hc6 k fun j hj => kne j (by omega)
    obtain ⟨t0, t1⟩ := tm_bd hE hc1
    refine s_dropW (xw_meth rfl (by decide +kernel) (xae_cons (xv_m (j := 1) rfl) rfl xae_nil) rfl ⟨W, c, k, msK c W k, stopsF c W k, hW, hc1, hc6, ne, hE, t0, t1, by unfold stopsF; simp; omega, rfl, rfl, rfl⟩ ?_)
    refine ⟨Kn - (k + 1), by omega, k + 1, by omega, rfl, ?_⟩
    show [Sl.da (.list (W.map rowT)), .ot none (mealT T.c_Meal W c (nextF c W (msK c W k)) (stopsF c W k ++ [stopK c W k]))] = _
    rw [show stopsF c W (k + 1) = stopsF c W k ++ [stopK c W k] by unfold stopsF; rw [List.range_succ, List.map_append]; rfl]
    rfl
  · have hb := of_decide_eq_false hb
    rw [leftH_len] at hb
    have e : alv c (msK c W k).lf = [] := List.length_eq_zero_iff.mp (by omega)
    have : k = Kn := by
      rcases Nat.lt_or_ge k Kn with q | q
      · exact (kne k q e).elim
      · omega
    subst this
    exact s_retE (xw_mv (i := 1) rfl (by intro z; cases z) ⟨⟨_, rfl, im_fg⟩, trivial⟩)
/-- the eaten table, in whole numbers over ET -/
def eatT (c : Nat) (W : List (List Nat)) : List (List Int) := matL c (msK c W (eatK c W)).tb
def R_eaten (ds : List PyData) (s : Sl) : Prop := ∃ (W : List (List Nat)) (c : Nat), WsOk c W ∧ 1 ≤ c ∧ c ≤ 6 ∧ ds = [.list (W.map rowT)] ∧ s = .ow ((toX (fT ET) (eatT c W)).map .tuple)
theorem sc_eaten : FnScope ["wishes", "row"] ["wishes"] (defScope s_eaten) := ⟨rfl, rfl, rfl, by decide +kernel, rfl, by decide +kernel, by decide +kernel⟩
theorem ok_eaten {P : Program} {w : World} {K : PySem.W.Frag} {mg : Str → Option Value} {base : Heap} (T : Txt K mg) : FnOk P w K mg base CX0 7 T.a_eaten T.d_eaten ["wishes"] (spF K R_eaten) := by
  have G_meal_of := ok_meal_of (P := P) (w := w) (base := base) T
  refine fn_ok T.F_eaten sc_eaten (by rintro _ _ ⟨_, _, _, _, _, rfl, _⟩; rfl) fun cdv A outer s H E hr => ⟨_, (pss_one (ps_ret (by exact (pe_lc (own := [("row", 1)]) (g := (gName 1)) (by rfl) sc_eaten.nd (pi_seqK (K := K) (pe_fld (pe_call G_meal_of (hr.mono (by decide)) (by rfl) T.m_meal_of T.F_meal_of.kp T.b_meal_of .nil pass0 (pa_cons (pv 0) pa_nil)) rfl)) (blkOk_by (by kernel_rfl)) (fun _ _ _ _ _ => (pg_name (i := 1) sc_eaten.nd rfl (Or.inl rfl))) (fun _ _ _ _ _ => by exact pts_nil) (fun _ _ _ _ _ => by exact (pe_callTy (T := "tuple") (tuple_K (K := K)) (by rfl) T.z_tuple (by decide +kernel) (pa_cons (pv 1) pa_nil))))))), ?_⟩
  rintro _ _ ⟨W, c, hW, hc1, hc6, rfl, rfl⟩
  dsimp only [startR, List.map, List.length_cons, List.length_nil, List.replicate, List.cons_append, List.nil_append, Nat.reduceAdd, Nat.reduceSub]
  have ft : (lDD (toX (fT ET) (eatT c W))).flat := (flats_iff _).mpr fun t h => by obtain ⟨d, _, rfl⟩ := List.mem_map.mp h; exact flat_lD d
  have pt : (lDD (toX (fT ET) (eatT c W))).pd = .list ((toX (fT ET) (eatT c W)).map .list) := by
    show PyData.list (pds _) = _
    rw [pds_map, List.map_map]
    congr 1
    exact List.map_congr_left fun d _ => pd_lD d
  refine s_ret (x_lc (toX (fT ET) (eatT c W)) PyData.list (fun _ => true) PyData.tuple (xe_is (x_frzO (x_fldR (k := 2) (x_callO (xa_cons (x_var rfl) xa_nil) ⟨W, c, hW, hc1, hc6, rfl, rfl, rfl⟩) (by decide +kernel) rfl T.cl_Meal T.n_Meal_table) ft) pt) trivial rfl (by unfold eatT; rw [(matL_sq c _).lenX]; omega) (by simp) (fun _ _ => xt_yes) fun r _ _ => x_tuple (xs_l (x_var rfl))) ?_
  rw [List.filter_eq_self.mpr (fun _ _ => rfl)]
end WL

namespace WL
open PySem L2
def R_stops (ds : List PyData) (s : Sl) : Prop := ∃ (W : List (List Nat)) (c : Nat), WsOk c W ∧ 1 ≤ c ∧ c ≤ 6 ∧ ds = [.list (W.map rowT)] ∧ s = .ow (stopsF c W (eatK c W))
theorem sc_stops : FnScope ["wishes"] ["wishes"] (defScope s_stops) := ⟨rfl, rfl, rfl, by decide +kernel, rfl, by decide +kernel, by decide +kernel⟩
theorem ok_stops {P : Program} {w : World} {K : PySem.W.Frag} {mg : Str → Option Value} {base : Heap} (T : Txt K mg) : FnOk P w K mg base CX0 7 T.a_stops T.d_stops ["wishes"] (spF K R_stops) := by
  have G_meal_of := ok_meal_of (P := P) (w := w) (base := base) T
  refine fn_ok T.F_stops sc_stops (by rintro _ _ ⟨_, _, _, _, _, rfl, _⟩; rfl) fun cdv A outer s H E hr => ⟨_, (pss_one (ps_ret (pe_callTy (T := "list") (list_K (K := K)) (by rfl) T.z_list (by decide +kernel) (pa_cons (pe_fld (pe_call G_meal_of (hr.mono (by decide)) (by rfl) T.m_meal_of T.F_meal_of.kp T.b_meal_of .nil pass0 (pa_cons (pv 0) pa_nil)) rfl) pa_nil)))), ?_⟩
  rintro _ _ ⟨W, c, hW, hc1, hc6, rfl, rfl⟩
  dsimp only [startR, List.map, List.length_cons, List.length_nil, List.replicate, List.cons_append, List.nil_append, Nat.reduceAdd, Nat.reduceSub]
  exact s_ret (x_list (xs_l (xe_is (x_frzO (x_fldR (k := 4) (x_callO (xa_cons (x_var rfl) xa_nil) ⟨W, c, hW, hc1, hc6, rfl, rfl, rfl⟩) (by decide +kernel) rfl T.cl_Meal T.n_Meal_stops) (flat_lD _)) (pd_lD _)))) rfl
end WL

namespace WL
open PySem L2
def R_ways (k : Nat) (ss : List (Option PyData)) (dss dss' : List (List PyData)) : Prop := ∃ (n : Nat) (W : List (List Nat)) (c : Nat) (os tk : List Nat) (M : Nat → Nat → Nat), n < k ∧ Wi W c ∧ c ≤ 6 ∧ tk.length = os.length ∧ os.length + n = c ∧ os.Nodup ∧ (∀ x ∈ os, x < c) ∧
  ss = [some (.list (W.map rowT)), some (.list ((lf c os).map nat_)), some (.list ((lf c tk).map nat_)), none, some (.int (fct n))] ∧ dss = cntT c M ∧ dss' = cntT c fun p t => M p t + wayF W c n os tk p t
theorem len_ways {k : Nat} : ∀ ss a b, R_ways k ss a b → ss.length = 5 ∧ ss[3]? = some none ∧ ∀ j : Nat, ss[j]? = some none → j = 3 := by
  rintro _ _ _ ⟨n, W, c, os, tk, M, _, _, _, _, _, _, _, rfl, _, _⟩
  refine ⟨rfl, rfl, fun j h => ?_⟩
  match j, h with
  | 0, h => cases h
  | 1, h => cases h
  | 2, h => cases h
  | 3, _ => rfl
  | 4, h => cases h
  | j + 5, h => simp at h
theorem sc_ways_on : FnScope ["wishes", "waiting", "left", "counts", "orders", "rest", "person", "thing", "some", "one"] ["wishes", "waiting", "left", "counts", "orders"] (defScope s_ways_on) := ⟨rfl, rfl, rfl, by decide +kernel, rfl, by decide +kernel, by decide +kernel⟩
theorem ways_step {P : Program} {w : World} {K : PySem.W.Frag} {mg : Str → Option Value} {base : Heap} (T : Txt K mg) {k : Nat} (G_ways_on : FnOk P w K mg base CX0 k T.a_ways_on T.d_ways_on ["wishes", "waiting", "left", "counts", "orders"] (spM K (R_ways k))) : FnOk P w K mg base CX0 (k + 1) T.a_ways_on T.d_ways_on ["wishes", "waiting", "left", "counts", "orders"] (spM K (R_ways (k + 1))) := by
  refine fnM_ok 3 T.F_ways_on sc_ways_on (len_ways) fun cdv A outer s H E hr => ⟨_, (pss_cons (ps_if (pt_cmpR (op_eqK (K := K) hr.units) (pv 1) (pe_lst pa_nil) (nomark _)) (pss_one ps_retN) pss_nil)
      (pss_cons (ps_set (i := 5) sc_ways_on.nd rfl (Or.inl rfl) (pe_op op_fdivG (pv 4) (pe_callB (len_K (K := K)) (by rfl) T.z_len (by decide +kernel) (pa_cons (pv 1) pa_nil))))
      (pss_one (ps_for PassesOwn.never rfl (pi_seqK (K := K) (pv 1)) (pg_name (i := 6) sc_ways_on.nd rfl (Or.inr rfl)) (pss_cons (ps_set (i := 7) sc_ways_on.nd rfl (Or.inr rfl) (pe_ix (ix_seqK (K := K)) (by exact (pe_lc (own := [("some", 8)]) (g := (gName 8)) (by rfl) sc_ways_on.nd (pi_seqK (K := K) (pe_ix (ix_seqK (K := K)) (pv 0) (pv 6) (fun _ _ => rfl))) (blkOk_by (by kernel_rfl)) (fun _ _ _ _ _ => (pg_name (i := 8) sc_ways_on.nd rfl (Or.inl rfl))) (fun _ _ _ _ _ => by exact pts_one (pt_cmpR (op_inK (K := K)) (pv 8) (pv 2) (by rfl))) (fun _ _ _ _ _ => by exact (pv 8)))) pe_int (fun _ _ => rfl)))
      (pss_cons (ps_augS (pe_ix (ix_seqK (K := K)) (pv 3) (pv 6) (fun _ _ => rfl)) (pv 7) get_list (pv 5) ip_add set_list)
      (pss_one (ps_expr (pe_call G_ways_on (hr.mono (Nat.le_refl _)) (by rfl) T.m_ways_on T.F_ways_on.kp T.b_ways_on .nil pass0 (pa_cons (pv 0) (pa_cons (by exact (pe_lc (own := [("one", 9)]) (g := (gName 9)) (by rfl) sc_ways_on.nd (pi_seqK (K := K) (pv 1)) (blkOk_by (by kernel_rfl)) (fun _ _ _ _ _ => (pg_name (i := 9) sc_ways_on.nd rfl (Or.inl rfl))) (fun _ _ _ _ _ => by exact pts_one (pt_cmpR (op_neK (K := K) hr.units) (pv 9) (pv 6) (nomark _))) (fun _ _ _ _ _ => by exact (pv 9)))) (pa_cons (by exact (pe_lc (own := [("one", 9)]) (g := (gName 9)) (by rfl) sc_ways_on.nd (pi_seqK (K := K) (pv 2)) (blkOk_by (by kernel_rfl)) (fun _ _ _ _ _ => (pg_name (i := 9) sc_ways_on.nd rfl (Or.inl rfl))) (fun _ _ _ _ _ => by exact pts_one (pt_cmpR (op_neK (K := K) hr.units) (pv 9) (pv 7) (nomark _))) (fun _ _ _ _ _ => by exact (pv 9)))) (pa_cons (pv 3) (pa_cons (pv 5) pa_nil)))))))))))))), ?_⟩
  rintro _ _ _ l ⟨n, W, c, os, tk, M, hn, hW, hc, hlen, hoc, nd, hlt, rfl, rfl, rfl⟩
  dsimp only [startM, slA, List.map, List.length_cons, List.length_nil, List.replicate, List.cons_append, List.nil_append, Nat.reduceAdd, Nat.reduceSub]
  have hl := lf_len os.length os rfl nd hlt
  have dO : Ds 2 (.list ((lf c os).map nat_)) := ⟨by rw [List.length_map, hl]; omega, Ds_map fun _ _ => trivial⟩
  have dN : Ds 2 (.list []) := ⟨by simp, fun _ h => nomatch h⟩
  have ev : PyData.eqv (.list ((lf c os).map nat_)) (.list []) = decide (n = 0) := by
    have z : (lf c os).length = n := by omega
    cases e : lf c os with
    | nil => rw [e] at z; rw [← z]; rfl
    | cons a r => rw [e] at z; rw [← z]; rfl
  cases n with
  | zero =>
    have e : (cntT c fun p t => M p t + wayF W c 0 os tk p t) = cntT c M := rfl
    rw [e]
    exact wsm_ret (xt_test (xr_is (x_eq (xp_e (x_var rfl)) (xp_e (x_frz (x_lst xa_nil (by simp)))) (Ds_shaped dO (by decide)) (Ds_shaped dN (by decide))) (by rw [ev]; rfl))) rfl
  | succ n =>
    refine wsm_of ?_
    refine s_seq (s_if (xt_test (x_eq (xp_e (x_var rfl)) (xp_e (x_frz (x_lst xa_nil (by simp)))) (Ds_shaped dO (by decide)) (Ds_shaped dN (by decide)))) (fun h => ?_) fun _ => s_next ?_)
    · rw [ev] at h
      exact absurd (of_decide_eq_true h) (by omega)
    have hn1 : (((lf c os).map nat_).length : Int) = (n : Int) + 1 := by rw [List.length_map, hl]; omega
    have hf : (fct (n + 1) : Int) / ((n : Int) + 1) = (fct n : Int) := by
      rw [fct, Int.natCast_mul, Int.natCast_add]
      exact Int.mul_ediv_cancel _ (by omega)
    refine s_seq (s_asg (xr_is (x_div (x_var rfl) (x_len (xs_l (x_var rfl))) (by rw [hn1]; omega) (by rw [hn1]; exact Nat.lt_trans (log_lt (k := 60) (by omega) (by decide)) (by decide))) (by rw [hn1, hf])) ?_)
    refine s_for (lf c os) nat_ [6, 7] (fun i r => r = [.da (.list (W.map rowT)), .da (.list ((lf c os).map nat_)), .da (.list ((lf c tk).map nat_)), .ow2a l (cntT c fun p t => M p t + wayP W c n os tk i p t), .da (.int (fct (n + 1))), .da (.int (fct n)), .un, .un, .un, .un]) (x_var rfl) trivial rfl rfl (fun i x r hi hr => ?_) fun r hr => ?_
    · subst hr
      have mx := lf_mem.mp (List.mem_of_getElem? hi)
      obtain ⟨hat, hrow⟩ := hW.row mx.1
      obtain ⟨b, eb⟩ : ∃ b, b = bst (W.getD x []) tk := ⟨_, rfl⟩
      obtain ⟨rest, er⟩ := bst_ok (tk := tk) hrow (by omega)
      obtain ⟨b1, b2, b3⟩ := bst_mem (tk := tk) hrow (by omega)
      rw [← eb] at er b1 b2 b3
      have st := fun p t => wayP_step (W := W) (n := n) (tk := tk) hi p t
      refine wg_name ?_
      refine s_seq (s_asg (x_ix (d := nat_ b) (xs_n (x_lc (W.getD x []) nat_ (fun t => decide (t ∈ lf c tk)) nat_ (x_ix (xs_l (x_var rfl)) (x_var rfl) (atI_map (f := rowT) (atI_nat hat))) trivial rfl (by rw [hrow.length_eq, List.length_range]; omega) (by simp) (fun t _ => xt_test (x_in (x_var rfl) (xs_l (x_var rfl)))) fun t _ _ => x_var rfl)) x_int (by rw [filt_in hrow, er]; exact atI_nat (j := 0) rfl)) ?_)
      refine s_seq (s_aug2a (ja := x) (jb := b) (m := ((M x b + wayP W c n os tk i x b : Nat) : Int)) rfl (x_var rfl) (x_var rfl) (x_var rfl) (ixN_nat rfl (by simp [cntT]; exact mx.1)) (range_map_get _ mx.1) (Int.natCast_nonneg _) (Int.toNat_natCast _) (range_map_get _ b3) (by simp; omega) ?_)
      have es := cntT_set c x b (fct n) fun p t => M p t + wayP W c n os tk i p t
      refine s_callM (i := 3) (dss := cntT c fun p t => (M p t + wayP W c n os tk i p t) + if p = x ∧ t = b then fct n else 0) (congrArg (fun z => some (Sl.ow2a l z)) es) (xm_cons (x_var rfl) (xm_cons (xr_is (x_frz (x_lc (lf c os) nat_ (fun y : Nat => !decide ((y : Int) = (x : Int))) nat_ (x_var rfl) trivial rfl (by omega) (by simp) (fun y _ => xt_test (x_neI (x_var rfl) (x_var rfl))) fun _ _ _ => x_var rfl)) (by rw [filt_ne])) (xm_cons (xr_is (x_frz (x_lc (lf c tk) nat_ (fun y : Nat => !decide ((y : Int) = (b : Int))) nat_ (x_var rfl) trivial rfl (Nat.le_trans (List.length_filter_le _ _) (by simp; omega)) (by simp) (fun y _ => xt_test (x_neI (x_var rfl) (x_var rfl))) fun _ _ _ => x_var rfl)) (by rw [filt_ne])) (xm_own (i := 3) (congrArg (fun z => some (Sl.ow2a l z)) es) (xm_cons (x_var rfl) xm_nil)))))
        ⟨n, W, c, os ++ [x], tk ++ [b], _, by omega, hW, hc, by simp [hlen], by simp; omega, List.nodup_append.mpr ⟨nd, by simp, fun y q z r => by rw [List.mem_singleton.mp r]; exact fun w => mx.2 (w ▸ q)⟩, fun y q => by
          rcases List.mem_append.mp q with q | q
          · exact hlt y q
          · rw [List.mem_singleton.mp q]; exact mx.1, rfl, rfl, rfl⟩ ?_
      have ec : (cntT c fun p t => M p t + wayP W c n os tk i p t + (if p = x ∧ t = b then fct n else 0) + wayF W c n (os ++ [x]) (tk ++ [b]) p t) = cntT c fun p t => M p t + wayP W c n os tk (i + 1) p t := by
        refine cntT_congr fun p t _ _ => ?_
        rw [st, ← eb]
        omega
      rw [ec]
      rfl
    · subst hr
      show some (Sl.ow2a l _) = some (Sl.ow2a l _)
      congr 2
      exact cntT_congr fun p t _ _ => by rw [wayP_all]
theorem ok_ways_on {P : Program} {w : World} {K : PySem.W.Frag} {mg : Str → Option Value} {base : Heap} (T : Txt K mg) : ∀ k : Nat, FnOk P w K mg base CX0 k T.a_ways_on T.d_ways_on ["wishes", "waiting", "left", "counts", "orders"] (spM K (R_ways k))
  | 0 => fn_never.imp fun vs H Q E ⟨_, _, _, _, _, _, _, _, _, _, _, _, ⟨n, _, _, _, _, _, z, _⟩, _⟩ => absurd z (by omega)
  | k + 1 => ways_step T (ok_ways_on T k)
end WL

namespace WL
open PySem L2
theorem map_const_range {α β : Type} {c : Nat} {W : List α} (h : W.length = c) (d : β) : W.map (fun _ => d) = (List.range c).map fun _ => d := by
  rw [List.map_const', List.map_const', h, List.length_range]
def R_by_turns (ds : List PyData) (s : Sl) : Prop := ∃ (W : List (List Nat)) (c : Nat), ds = [.list (W.map rowT)] ∧ Wi W c ∧ c ≤ 6 ∧ s = .ow (tabW W c)
theorem sc_by_turns : FnScope ["wishes", "people", "orders", "person", "counts", "thing", "wish", "many", "row"] ["wishes"] (defScope s_by_turns) := ⟨rfl, rfl, rfl, by decide +kernel, rfl, by decide +kernel, by decide +kernel⟩
theorem ok_by_turns {P : Program} {w : World} {K : PySem.W.Frag} {mg : Str → Option Value} {base : Heap} (T : Txt K mg) : FnOk P w K mg base CX0 8 T.a_by_turns T.d_by_turns ["wishes"] (spF K R_by_turns) := by
  have G_fraction := ok_fraction (P := P) (w := w) (base := base) T
  have G_ways_on := ok_ways_on (P := P) (w := w) (base := base) T 7
  refine fn_ok T.F_by_turns sc_by_turns (by rintro _ _ ⟨_, _, rfl, _⟩; rfl) fun cdv A outer s H E hr => ⟨_, (pss_cons (ps_set (i := 1) sc_by_turns.nd rfl (Or.inl rfl) (pe_listRg rfl (by rfl) T.z_list (prg_1 (by rfl) T.z_range (pe_callB (len_K (K := K)) (by rfl) T.z_len (by decide +kernel) (pa_cons (pv 0) pa_nil)))))
      (pss_cons (ps_set (i := 2) sc_by_turns.nd rfl (Or.inr rfl) pe_int)
      (pss_cons (ps_for PassesOwn.never rfl (pi_seqK (K := K) (pv 1)) (pg_name (i := 3) sc_by_turns.nd rfl (Or.inl rfl)) (pss_one (ps_set (i := 2) sc_by_turns.nd rfl (Or.inr rfl) (pe_op op_mulX (pv 2) (pe_op (op_addK (K := K)) (pv 3) pe_int)))))
      (pss_cons (ps_setLc (i := 4) (own := [("wish", 6)]) (g := (gName 6)) (by rfl) sc_by_turns.nd rfl rfl (sw_true rfl rfl rfl (by decide +kernel)) (pi_seqK (K := K) (pv 0)) (blkOk_by (by kernel_rfl)) (fun _ _ _ _ _ => (pg_name (i := 6) sc_by_turns.nd rfl (Or.inl rfl))) (fun _ _ _ _ _ => by exact pts_nil) (fun _ _ _ _ _ => by exact (by exact (pe_lc (own := [("thing", 5)]) (g := (gName 5)) (by rfl) sc_by_turns.nd (pi_seqK (K := K) (pv 0)) (blkOk_by (by kernel_rfl)) (fun _ _ _ _ _ => (pg_name (i := 5) sc_by_turns.nd rfl (Or.inl rfl))) (fun _ _ _ _ _ => by exact pts_nil) (fun _ _ _ _ _ => by exact pe_int)))))
      (pss_cons (ps_expr (pe_call G_ways_on (hr.mono (by decide)) (by rfl) T.m_ways_on T.F_ways_on.kp T.b_ways_on .nil pass0 (pa_cons (pv 0) (pa_cons (pv 1) (pa_cons (pv 1) (pa_cons (pv 4) (pa_cons (pv 2) pa_nil)))))))
      (pss_one (ps_ret (by exact (pe_lc (own := [("row", 8)]) (g := (gName 8)) (by rfl) sc_by_turns.nd (pi_seqK (K := K) (pv 4)) (blkOk_by (by kernel_rfl)) (fun _ _ _ _ _ => (pg_name (i := 8) sc_by_turns.nd rfl (Or.inl rfl))) (fun _ _ _ _ _ => by exact pts_nil) (fun _ _ _ _ _ => by exact (pe_callTy (T := "tuple") (tuple_K (K := K)) (by rfl) T.z_tuple (by decide +kernel) (pa_cons (by exact (pe_lc (own := [("many", 7)]) (g := (gName 7)) (by rfl) sc_by_turns.nd (pi_seqK (K := K) (pv 8)) (blkOk_by (by kernel_rfl)) (fun _ _ _ _ _ => (pg_name (i := 7) sc_by_turns.nd rfl (Or.inl rfl))) (fun _ _ _ _ _ => by exact pts_nil) (fun _ _ _ _ _ => by exact (pe_call G_fraction (hr.mono (by decide)) (by rfl) T.m_fraction T.F_fraction.kp T.b_fraction .nil pass0 (pa_cons (pv 7) (pa_cons (pv 2) pa_nil)))))) pa_nil)))))))))))), ?_⟩
  rintro _ _ ⟨W, c, rfl, hW, hc, rfl⟩
  dsimp only [startR, List.map, List.length_cons, List.length_nil, List.replicate, List.cons_append, List.nil_append, Nat.reduceAdd, Nat.reduceSub]
  have hWl : ((W.map rowT).length : Int) = (c : Int) := by rw [List.length_map, hW.len]
  refine s_seq (s_asg (xr_is (x_listRg (xr_is (x_len (xs_l (x_var rfl))) (by rw [hWl])) (by omega)) (show _ = Sl.ow ((List.range c).map nat_) by rw [Int.toNat_natCast]; rfl)) ?_)
  refine s_frz 1 rfl ?_
  refine s_seq (s_asg x_int ?_)
  refine s_seq (s_for (List.range c) nat_ [3] (fun i r => r = [.da (.list (W.map rowT)), .da (.list ((List.range c).map nat_)), .da (.int (fct i)), .un, .un, .un, .un, .un, .un]) (x_var rfl) trivial rfl rfl (fun i x r hi hr => ?_) fun r hr => ?_)
  · subst hr
    have hx : x = i := by
      obtain ⟨h1, h2⟩ := List.getElem?_eq_some_iff.mp hi
      rw [List.getElem_range] at h2
      exact h2.symm
    have hic : i < c := by have := (List.getElem?_eq_some_iff.mp hi).1; simpa using this
    subst hx
    refine wg_name ?_
    refine s_asg (xr_is (x_mul (x_var rfl) (x_add (x_var rfl) x_int) (mul_s (.inr (by omega)))) (show Sl.da (.int ((fct x : Int) * ((x : Int) + 1))) = Sl.da (.int ((fct (x + 1) : Nat) : Int)) by rw [fct, Int.natCast_mul]; rfl)) ?_
    rfl
  · subst hr
    rw [List.length_range]
    refine s_seq (s_asg (x_lc2 W rowT (fun _ => (List.range c).map fun _ => PyData.int 0) (x_var rfl) trivial rfl (by rw [hW.len]; omega) (by simp) fun x _ => xr_is (x_lc W rowT (fun _ => true) (fun _ => PyData.int 0) (x_var rfl) trivial rfl (by rw [hW.len]; omega) (by simp) (fun _ _ => xt_yes) fun _ _ _ => x_int) (by rw [List.filter_eq_self.mpr (fun _ _ => rfl), map_const_range hW.len])) ?_)
    have e0 : (W.map fun _ => (List.range c).map fun _ => PyData.int 0) = cntT c fun _ _ => 0 := by
      exact (map_const_range hW.len ((List.range c).map fun _ => PyData.int 0)).trans rfl
    rw [e0]
    refine s_know2 (i := 4) rfl fun l => ?_
    refine s_seq (s_callM (i := 4) rfl (xm_cons (x_var rfl) (xm_cons (x_var rfl) (xm_cons (x_var rfl) (xm_own (i := 4) rfl (xm_cons (x_var rfl) xm_nil))))) ⟨c, W, c, [], [], fun _ _ => 0, by omega, hW, hc, rfl, by simp, List.nodup_nil, (fun _ h => nomatch h), by rw [lf_nil], rfl, rfl⟩ ?_)
    refine s_forget2 (i := 4) rfl ?_
    refine s_frz2 4 rfl ?_
    have f0 := fct_pos c
    have f7 := fct_le hc
    have hlog : ((fct c : Nat) : Int).natAbs.log2 < 9000 := Nat.lt_trans (log_lt (k := 60) (by omega) (by decide)) (by decide)
    refine s_ret (x_lc (List.range c) (fun p => PyData.list ((List.range c).map fun t => PyData.int (0 + wayF W c c [] [] p t : Nat))) (fun _ => true) (fun p => PyData.tuple ((List.range c).map fun t => fr (Rat.divInt (wayF W c c [] [] p t) (fct c)))) (x_var rfl) trivial (by show (cntT c _).map _ = _; unfold cntT; rw [List.map_map]; rfl) (by simp; omega) (by simp) (fun _ _ => xt_yes) fun p hp _ => ?_) ?_
    · refine xr_is (x_tuple (xs_n (x_lc (List.range c) (fun t => PyData.int (0 + wayF W c c [] [] p t : Nat)) (fun _ => true) (fun t => fr (Rat.divInt (wayF W c c [] [] p t) (fct c))) (x_var rfl) trivial rfl (by simp; omega) (by simp) (fun _ _ => xt_yes) fun t ht _ => x_call (xa_cons (x_var rfl) (xa_cons (x_var rfl) xa_nil)) ⟨_, (fct c : Int), rfl, by omega, hlog, by rw [Nat.zero_add]⟩))) ?_
      rw [List.filter_eq_self.mpr (fun _ _ => rfl)]
    · rw [List.filter_eq_self.mpr (fun _ _ => rfl)]
      rfl
end WL

namespace WL
open PySem L2
/-! ### helpers of the laws -/
def cell (ns : List Int) (k : Nat) : Int := ns.getD k 0
def R_law_cell_at (ds : List PyData) (s : Sl) : Prop := ∃ (ns : List Int) (k : Nat), ds = [.list (ns.map .int), .int k] ∧ s = .da (.int (cell ns k))
theorem sc_law_cell_at : FnScope ["_law_script", "_law_k"] ["_law_script", "_law_k"] (defScope s_law_cell_at) := ⟨rfl, rfl, rfl, by decide +kernel, rfl, by decide +kernel, by decide +kernel⟩
theorem ok_law_cell_at {P : Program} {w : World} {K : PySem.W.Frag} {mg : Str → Option Value} {base : Heap} (T : Txt K mg) : FnOk P w K mg base CX0 1 T.a_law_cell_at T.d_law_cell_at ["_law_script", "_law_k"] (spF K R_law_cell_at) := by
  refine fn_ok T.F_law_cell_at sc_law_cell_at (by rintro _ _ ⟨_, _, rfl, _⟩; rfl) fun cdv A outer s H E hr => ⟨_, (pss_cons (ps_if (pt_cmpR op_lt (pv 1) (pe_callB (len_K (K := K)) (by rfl) T.z_len (by decide +kernel) (pa_cons (pv 0) pa_nil)) (nomark _)) (pss_one (ps_ret (pe_ix (ix_seqK (K := K)) (pv 0) (pv 1) (fun _ _ => rfl)))) pss_nil)
      (pss_one (ps_ret pe_int))), ?_⟩
  rintro _ _ ⟨ns, k, rfl, rfl⟩
  dsimp only [startR, List.map, List.length_cons, List.length_nil, List.replicate, List.cons_append, List.nil_append, Nat.reduceAdd, Nat.reduceSub]
  refine s_seq (s_if (xt_test (x_lt (x_var rfl) (x_len (xs_l (x_var rfl))))) (fun h => ?_) fun h => s_next ?_)
  · have h1 := of_decide_eq_true h
    rw [List.length_map] at h1
    have h2 : k < ns.length := by omega
    refine s_ret (x_ix (xs_l (x_var rfl)) (x_var rfl) (atI_map (atI_get' h2))) ?_
    unfold cell
    rw [List.getD_eq_getElem?_getD, List.getElem?_eq_getElem h2]
    rfl
  · have h1 := of_decide_eq_false h
    rw [List.length_map] at h1
    refine s_ret x_int ?_
    unfold cell
    rw [List.getD_eq_getElem?_getD, List.getElem?_eq_none (by omega)]
    rfl
end WL

namespace WL
open PySem L2
/-- the number drawn of a cell at a place -/
def mix2 (c : Int) (p : Nat) : Int :=
  let a := (c % 2147483629 * 16807 + 69621 * p + 11) % 2147483629
  let b := (a * a + 48271 * p + 7) % 2147483629
  (b * b + 69621) % 2147483587
theorem mix2_nn (c : Int) (p : Nat) : 0 ≤ mix2 c p := Int.emod_nonneg _ (by decide)
def R_law_mixed (ds : List PyData) (s : Sl) : Prop := ∃ (c : Int) (p : Nat), ds = [.int c, .int p] ∧ p ≤ 1000 ∧ s = .da (.int (mix2 c p))
theorem sc_law_mixed : FnScope ["_law_cell", "_law_place", "_law_number"] ["_law_cell", "_law_place"] (defScope s_law_mixed) := ⟨rfl, rfl, rfl, by decide +kernel, rfl, by decide +kernel, by decide +kernel⟩
theorem ok_law_mixed {P : Program} {w : World} {K : PySem.W.Frag} {mg : Str → Option Value} {base : Heap} (T : Txt K mg) : FnOk P w K mg base CX0 1 T.a_law_mixed T.d_law_mixed ["_law_cell", "_law_place"] (spF K R_law_mixed) := by
  refine fn_ok T.F_law_mixed sc_law_mixed (by rintro _ _ ⟨_, _, rfl, _⟩; rfl) fun cdv A outer s H E hr => ⟨_, (pss_cons (ps_set (i := 2) sc_law_mixed.nd rfl (Or.inl rfl) (pe_op op_modN (pe_op (op_addK (K := K)) (pe_op (op_addK (K := K)) (pe_op op_mulX (pe_op op_modN (pv 0) pe_int) pe_int) (pe_op op_mulX pe_int (pv 1))) pe_int) pe_int))
      (pss_cons (ps_set (i := 2) sc_law_mixed.nd rfl (Or.inl rfl) (pe_op op_modN (pe_op (op_addK (K := K)) (pe_op (op_addK (K := K)) (pe_op op_mulX (pv 2) (pv 2)) (pe_op op_mulX pe_int (pv 1))) pe_int) pe_int))
      (pss_one (ps_ret (pe_op op_modN (pe_op (op_addK (K := K)) (pe_op op_mulX (pv 2) (pv 2)) pe_int) pe_int))))), ?_⟩
  rintro _ _ ⟨c, p, rfl, hp, rfl⟩
  dsimp only [startR, List.map, List.length_cons, List.length_nil, List.replicate, List.cons_append, List.nil_append, Nat.reduceAdd, Nat.reduceSub]
  refine s_seq (s_asg (x_mod (x_add (x_add (x_mul (x_mod (x_var rfl) x_int (by decide)) x_int (mul_s (.inr (by decide)))) (x_mul x_int (x_var rfl) (mul_s (.inl (by decide))))) x_int) x_int (by decide)) ?_)
  refine s_seq (s_asg (x_mod (x_add (x_add (x_mul (x_var rfl) (x_var rfl) (mul_s (.inl (by omega)))) (x_mul x_int (x_var rfl) (mul_s (.inl (by decide))))) x_int) x_int (by decide)) ?_)
  exact s_ret (x_mod (x_add (x_mul (x_var rfl) (x_var rfl) (mul_s (.inl (by omega)))) x_int) x_int (by decide)) rfl
end WL

namespace WL
open PySem L2
/-- an order drawn of a number: what is left, what was taken, the number -/
def ordS (n : Int) (c : Nat) : Nat → List Nat × List Nat × Int
  | 0 => (List.range c, [], n)
  | i + 1 => ((ordS n c i).1.eraseIdx ((ordS n c i).2.2 % ((ordS n c i).1.length : Int)).toNat, (ordS n c i).2.1 ++ [(ordS n c i).1.getD ((ordS n c i).2.2 % ((ordS n c i).1.length : Int)).toNat 0], (ordS n c i).2.2 / 6)
def ord2 (n : Int) (c : Nat) : List Nat := (ordS n c c).2.1
theorem erase_perm {α : Type} : ∀ {l : List α} {j : Nat} {x : α}, l[j]? = some x → (l.eraseIdx j ++ [x]).Perm l
  | [], j, x, h => by simp at h
  | a :: l, 0, x, h => by
    cases (show some a = some x from h)
    exact List.perm_append_comm (l₂ := [a])
  | a :: l, j + 1, x, h => (erase_perm (l := l) (j := j) (x := x) h).cons a
theorem ordS_ok (n : Int) (c : Nat) : ∀ i, i ≤ c → ((ordS n c i).1 ++ (ordS n c i).2.1).Perm (List.range c) ∧ (ordS n c i).1.length = c - i ∧ (ordS n c i).2.1.length = i
  | 0, _ => ⟨by show (List.range c ++ []).Perm _; rw [List.append_nil], by show (List.range c).length = _; simp, rfl⟩
  | i + 1, h => by
    obtain ⟨h1, h2, h3⟩ := ordS_ok n c i (by omega)
    have hj0 : 0 ≤ (ordS n c i).2.2 % ((ordS n c i).1.length : Int) := Int.emod_nonneg _ (by omega)
    have hj1 : (ordS n c i).2.2 % ((ordS n c i).1.length : Int) < ((ordS n c i).1.length : Int) := Int.emod_lt_of_pos _ (by omega)
    have hj : ((ordS n c i).2.2 % ((ordS n c i).1.length : Int)).toNat < (ordS n c i).1.length := by omega
    have hx := List.getElem?_eq_getElem hj
    have hg : (ordS n c i).1.getD ((ordS n c i).2.2 % ((ordS n c i).1.length : Int)).toNat 0 = (ordS n c i).1[((ordS n c i).2.2 % ((ordS n c i).1.length : Int)).toNat] := by rw [List.getD_eq_getElem?_getD, hx]; rfl
    refine ⟨?_, ?_, ?_⟩
    · refine List.Perm.trans ?_ h1
      show (_ ++ (_ ++ [_])).Perm _
      rw [hg]
      refine List.Perm.trans (List.Perm.append_left _ List.perm_append_comm) ?_
      rw [← List.append_assoc]
      exact (erase_perm hx).append_right _
    · show ((ordS n c i).1.eraseIdx _).length = _
      rw [List.length_eraseIdx_of_lt hj, h2]
      omega
    · show ((ordS n c i).2.1 ++ [_]).length = _
      rw [List.length_append, h3]
      rfl
theorem ord2_perm (n : Int) (c : Nat) : (ord2 n c).Perm (List.range c) := by
  obtain ⟨h1, h2, h3⟩ := ordS_ok n c c (Nat.le_refl _)
  have e : (ordS n c c).1 = [] := List.eq_nil_of_length_eq_zero (by omega)
  rw [e] at h1
  exact h1
def R_law_order (ds : List PyData) (s : Sl) : Prop := ∃ (n : Int) (c : Nat), ds = [.int n, .int c] ∧ c ≤ 100 ∧ s = .da (.tuple ((ord2 n c).map nat_))
theorem sc_law_order : FnScope ["_law_number", "_law_count", "_law_left", "_law_found", "_law_k"] ["_law_number", "_law_count"] (defScope s_law_order) := ⟨rfl, rfl, rfl, by decide +kernel, rfl, by decide +kernel, by decide +kernel⟩
theorem ok_law_order {P : Program} {w : World} {K : PySem.W.Frag} {mg : Str → Option Value} {base : Heap} (T : Txt K mg) : FnOk P w K mg base CX0 1 T.a_law_order T.d_law_order ["_law_number", "_law_count"] (spF K R_law_order) := by
  refine fn_ok T.F_law_order sc_law_order (by rintro _ _ ⟨_, _, rfl, _⟩; rfl) fun cdv A outer s H E hr => ⟨_, (pss_cons (ps_set (i := 2) sc_law_order.nd rfl (Or.inl rfl) (pe_listRg rfl (by rfl) T.z_list (prg_1 (by rfl) T.z_range (pv 1))))
      (pss_cons (ps_set (i := 3) sc_law_order.nd rfl (Or.inl rfl) (pe_lst pa_nil))
      (pss_cons (ps_for PassesOwn.never rfl (pi_range1 (by rfl) T.z_range (pa_cons (pv 1) pa_nil)) (pg_name (i := 4) sc_law_order.nd rfl (Or.inl rfl)) (pss_cons (ps_expr (pe_bm PySem.F.plainAttrs_list PySem.F.slot_list_append PySem.F.type_list_append mt_append (pv 3) (pa_cons (pe_bm PySem.F.plainAttrs_list PySem.F.slot_list_pop PySem.F.type_list_pop mt_popAt (pv 2) (pa_cons (pe_op op_modN (pv 0) (pe_callB (len_K (K := K)) (by rfl) T.z_len (by decide +kernel) (pa_cons (pv 2) pa_nil))) pa_nil)) pa_nil)))
      (pss_one (ps_set (i := 0) sc_law_order.nd rfl (Or.inl rfl) (pe_op op_fdivG (pv 0) pe_int)))))
      (pss_one (ps_ret (pe_callTy (T := "tuple") (tuple_K (K := K)) (by rfl) T.z_tuple (by decide +kernel) (pa_cons (pv 3) pa_nil))))))), ?_⟩
  rintro _ _ ⟨n, c, rfl, hc, rfl⟩
  dsimp only [startR, List.map, List.length_cons, List.length_nil, List.replicate, List.cons_append, List.nil_append, Nat.reduceAdd, Nat.reduceSub]
  refine s_seq (s_asg (x_listRg (x_var rfl) (by omega)) ?_)
  refine s_seq (s_asg (x_lst xa_nil (by simp)) ?_)
  refine s_seq (s_range (n := c) [4] (fun i r => r = [.da (.int (ordS n c i).2.2), .da (.int c), .ow ((ordS n c i).1.map nat_), .ow ((ordS n c i).2.1.map nat_), .un]) (xa_cons (x_var rfl) xa_nil) (by omega) rfl (fun i r hi hr => ?_) fun r hr => ?_)
  · subst hr
    obtain ⟨h1, h2, h3⟩ := ordS_ok n c i (by omega)
    have hj0 : 0 ≤ (ordS n c i).2.2 % ((ordS n c i).1.length : Int) := Int.emod_nonneg _ (by omega)
    have hj1 : (ordS n c i).2.2 % ((ordS n c i).1.length : Int) < ((ordS n c i).1.length : Int) := Int.emod_lt_of_pos _ (by omega)
    have hj : ((ordS n c i).2.2 % ((ordS n c i).1.length : Int)).toNat < (ordS n c i).1.length := by omega
    have hx := List.getElem?_eq_getElem hj
    refine wg_name ?_
    have hlen : (((ordS n c i).1.map nat_).length : Int) = ((ordS n c i).1.length : Int) := by rw [List.length_map]
    refine s_seq (s_appPop (i := 3) (j := 2) (m := ((ordS n c i).2.2 % ((ordS n c i).1.length : Int)).toNat) (d := nat_ ((ordS n c i).1.getD ((ordS n c i).2.2 % ((ordS n c i).1.length : Int)).toNat 0)) (by rfl) (by rfl) (by decide) (x_mod (x_var rfl) (x_len (xs_o rfl)) (by rw [hlen]; omega)) (by rw [hlen]; omega) (by rw [hlen]; exact seqIndex_nat (by omega) (by rw [List.length_map]; exact hj)) ?_ (by rw [List.length_map]; omega) ?_)
    · rw [List.getElem?_map, List.getD_eq_getElem?_getD, hx]
      rfl
    · refine s_asg (x_div (x_var rfl) x_int (by decide) (by decide)) ?_
      have e1 : ((ordS n c i).1.map nat_).eraseIdx ((ordS n c i).2.2 % ((ordS n c i).1.length : Int)).toNat = ((ordS n c (i + 1)).1).map nat_ := by
        show _ = ((ordS n c i).1.eraseIdx _).map nat_
        rw [erase_map]
      have e2 : (ordS n c i).2.1.map nat_ ++ [nat_ ((ordS n c i).1.getD ((ordS n c i).2.2 % ((ordS n c i).1.length : Int)).toNat 0)] = (ordS n c (i + 1)).2.1.map nat_ := by
        show _ = ((ordS n c i).2.1 ++ [_]).map nat_
        rw [List.map_append]
        rfl
      rw [e1, e2]
      rfl
  · subst hr
    exact s_ret (x_tuple (xs_o rfl)) rfl
end WL

namespace WL
open PySem L2
/-- the rows of wishes drawn of a script -/
def wshL (ns : List Int) (a c : Nat) : Nat → List (List Nat)
  | 0 => []
  | p + 1 => wshL ns a c p ++ [if 0 < p ∧ cell ns (a + p) % 4 = 1 then (wshL ns a c p).getD (cell ns (a + p) / 4 % (p : Int)).toNat [] else ord2 (mix2 (cell ns (a + p)) p) c]
theorem wshL_len (ns : List Int) (a c : Nat) : ∀ p, (wshL ns a c p).length = p
  | 0 => rfl
  | p + 1 => by show (wshL ns a c p ++ [_]).length = _; rw [List.length_append, wshL_len ns a c p]; rfl
theorem wshL_ok (ns : List Int) (a c : Nat) : ∀ p, ∀ r ∈ wshL ns a c p, r.Perm (List.range c)
  | 0, r, h => by cases h
  | p + 1, r, h => by
    rcases List.mem_append.mp (show r ∈ wshL ns a c p ++ [_] from h) with h | h
    · exact wshL_ok ns a c p r h
    · rw [List.mem_singleton.mp h]
      split
      · rename_i z
        have h1 := Int.emod_nonneg (cell ns (a + p) / 4) (by omega : (p : Int) ≠ 0)
        have h2 := Int.emod_lt_of_pos (cell ns (a + p) / 4) (by omega : (0 : Int) < p)
        have hl := wshL_len ns a c p
        rw [List.getD_eq_getElem?_getD, List.getElem?_eq_getElem (by omega)]
        exact wshL_ok ns a c p _ (List.getElem_mem (by omega))
      · exact ord2_perm _ _
theorem wsh_Wi (ns : List Int) (a c : Nat) : Wi (wshL ns a c c) c := ⟨wshL_len ns a c c, wshL_ok ns a c c⟩
def R_law_wishes (ds : List PyData) (s : Sl) : Prop := ∃ (ns : List Int) (a c : Nat), ds = [.list (ns.map .int), .int a, .int c] ∧ c ≤ 100 ∧ s = .ow ((wshL ns a c c).map rowT)
theorem sc_law_wishes : FnScope ["_law_script", "_law_at", "_law_count", "_law_found", "_law_person", "_law_cell"] ["_law_script", "_law_at", "_law_count"] (defScope s_law_wishes) := ⟨rfl, rfl, rfl, by decide +kernel, rfl, by decide +kernel, by decide +kernel⟩
theorem ok_law_wishes {P : Program} {w : World} {K : PySem.W.Frag} {mg : Str → Option Value} {base : Heap} (T : Txt K mg) : FnOk P w K mg base CX0 2 T.a_law_wishes T.d_law_wishes ["_law_script", "_law_at", "_law_count"] (spF K R_law_wishes) := by
  have G_law_cell_at := ok_law_cell_at (P := P) (w := w) (base := base) T
  have G_law_mixed := ok_law_mixed (P := P) (w := w) (base := base) T
  have G_law_order := ok_law_order (P := P) (w := w) (base := base) T
  refine fn_ok T.F_law_wishes sc_law_wishes (by rintro _ _ ⟨_, _, _, rfl, _⟩; rfl) fun cdv A outer s H E hr => ⟨_, (pss_cons (ps_set (i := 3) sc_law_wishes.nd rfl (Or.inl rfl) (pe_lst pa_nil))
      (pss_cons (ps_for PassesOwn.never rfl (pi_range1 (by rfl) T.z_range (pa_cons (pv 2) pa_nil)) (pg_name (i := 4) sc_law_wishes.nd rfl (Or.inl rfl)) (pss_cons (ps_set (i := 5) sc_law_wishes.nd rfl (Or.inl rfl) (pe_call G_law_cell_at (hr.mono (by decide)) (by rfl) T.m_law_cell_at T.F_law_cell_at.kp T.b_law_cell_at .nil pass0 (pa_cons (pv 0) (pa_cons (pe_op (op_addK (K := K)) (pv 1) (pv 4)) pa_nil))))
      (pss_one (ps_if (PW.pt (pw_and (pt_cmpR op_gt (pv 4) pe_int (nomark _)) (pw_and1 (pt_cmpR (op_eqK (K := K) hr.units) (pe_op op_modN (pv 5) pe_int) pe_int (nomark _))))) (pss_one (ps_expr (pe_bm PySem.F.plainAttrs_list PySem.F.slot_list_append PySem.F.type_list_append mt_append (pv 3) (pa_cons (pe_ix (ix_seqK (K := K)) (pv 3) (pe_op op_modN (pe_op op_fdivG (pv 5) pe_int) (pv 4)) (fun _ _ => rfl)) pa_nil)))) (pss_one (ps_expr (pe_bm PySem.F.plainAttrs_list PySem.F.slot_list_append PySem.F.type_list_append mt_append (pv 3) (pa_cons (pe_call G_law_order (hr.mono (by decide)) (by rfl) T.m_law_order T.F_law_order.kp T.b_law_order .nil pass0 (pa_cons (pe_call G_law_mixed (hr.mono (by decide)) (by rfl) T.m_law_mixed T.F_law_mixed.kp T.b_law_mixed .nil pass0 (pa_cons (pv 5) (pa_cons (pv 4) pa_nil))) (pa_cons (pv 2) pa_nil))) pa_nil))))))))
      (pss_one (ps_ret (pv 3))))), ?_⟩
  rintro _ _ ⟨ns, a, c, rfl, hc, rfl⟩
  dsimp only [startR, List.map, List.length_cons, List.length_nil, List.replicate, List.cons_append, List.nil_append, Nat.reduceAdd, Nat.reduceSub]
  refine s_seq (s_asg (x_lst xa_nil (by simp)) ?_)
  refine s_seq (s_range (n := c) [4, 5] (fun p r => r = [.da (.list (ns.map .int)), .da (.int a), .da (.int c), .ow ((wshL ns a c p).map rowT), .un, .un]) (xa_cons (x_var rfl) xa_nil) (by omega) rfl (fun p r hp hr => ?_) fun r hr => ?_)
  · subst hr
    have hl := wshL_len ns a c p
    refine wg_name ?_
    refine s_seq (s_asg (x_call (xa_cons (x_var rfl) (xa_cons (x_add (x_var rfl) (x_var rfl)) xa_nil)) ⟨ns, a + p, rfl, rfl⟩) ?_)
    refine s_if (xt_and (xt_test (x_gt (x_var rfl) x_int)) fun _ => xt_test (x_eqI (x_mod (x_var rfl) x_int (by decide)) x_int)) (fun h => ?_) fun h => ?_
    · have z : 0 < p ∧ cell ns (a + p) % 4 = 1 := by
        rw [Bool.and_eq_true] at h
        have z1 := of_decide_eq_true h.1
        exact ⟨by omega, of_decide_eq_true h.2⟩
      have h1 := Int.emod_nonneg (cell ns (a + p) / 4) (by omega : (p : Int) ≠ 0)
      have h2 := Int.emod_lt_of_pos (cell ns (a + p) / 4) (by omega : (0 : Int) < p)
      have hj : (cell ns (a + p) / 4 % (p : Int)).toNat < (wshL ns a c p).length := by omega
      refine s_append (by rfl) (x_ix (xs_o rfl) (x_mod (x_div (x_var rfl) x_int (by decide) (by decide)) (x_var rfl) (by omega)) (atI_map (f := rowT) (atI_ok (j := (cell ns (a + p) / 4 % (p : Int)).toNat) (by omega) (List.getElem?_eq_getElem hj)))) (by rw [List.length_map]; omega) ?_
      have e : wshL ns a c (p + 1) = wshL ns a c p ++ [(wshL ns a c p)[(cell ns (a + p) / 4 % (p : Int)).toNat]] := by
        show _ ++ [ite _ _ _] = _
        rw [if_pos z, List.getD_eq_getElem?_getD, List.getElem?_eq_getElem hj]
        rfl
      rw [e, List.map_append]
      rfl
    · have z : ¬ (0 < p ∧ cell ns (a + p) % 4 = 1) := fun z => by
        rw [decide_eq_true (show (0 : Int) < (p : Int) by omega), decide_eq_true z.2] at h
        cases h
      refine s_append (by rfl) (x_call (xa_cons (x_call (xa_cons (x_var rfl) (xa_cons (x_var rfl) xa_nil)) ⟨_, p, rfl, by omega, rfl⟩) (xa_cons (x_var rfl) xa_nil)) ⟨_, c, rfl, hc, rfl⟩) (by rw [List.length_map]; omega) ?_
      have e : wshL ns a c (p + 1) = wshL ns a c p ++ [ord2 (mix2 (cell ns (a + p)) p) c] := by
        show _ ++ [ite _ _ _] = _
        rw [if_neg z]
      rw [e, List.map_append]
      rfl
  · subst hr
    rw [Int.toNat_natCast]
    exact s_retv (i := 3) rfl (by intro z; cases z) rfl
end WL

namespace WL
open PySem L2
def R_law (ds : List PyData) (s : Sl) : Prop := ∃ ns : List Int, ds = [.list (ns.map .int)] ∧ ns.length ≤ 63 ∧ s = .da (.bool true)
theorem law_of {K : PySem.W.Frag} {H : Hp} (a : Addr) (ns : List Int) (hl : ns.length ≤ 63) (hS : SqL K H a (ns.map V.int)) : spF K R_law [.ref a] H (fun v _ => v = .bl true) (fun _ _ _ => False) :=
  ⟨H, _, _, Same.refl _, .cons (.lst hS (ints_dpa ns)) .nil, ⟨ns, rfl, hl, rfl⟩, fun v F' H' g r => dp_bool (of_ret_da r)⟩
end WL

namespace WL
open PySem L2
theorem idx_rn {c : Nat} {l : List Nat} (h : l.Perm (List.range c)) {x : Nat} (hx : x < c) : l.idxOf (rn l x) = x := by
  have nd : l.Nodup := h.nodup_iff.mpr List.nodup_range
  have ln : l.length = c := by rw [h.length_eq, List.length_range]
  have e := rn_at h hx
  obtain ⟨h1, h2⟩ := List.getElem?_eq_some_iff.mp e
  have := (idx_iff nd (p := rn l x) h1).mp h2
  exact this
/-- a row, a table, filled by new numbers -/
def halfL (c : Nat) (l : List Nat) (f : Nat → PyData) (j : Nat) : List PyData := (List.range c).map fun q => if l.idxOf q < j then f q else .none
theorem halfL_zero (c : Nat) (l : List Nat) (f : Nat → PyData) : halfL c l f 0 = List.replicate c .none := by
  unfold halfL
  simp [List.map_const']
theorem halfL_step {c : Nat} {l : List Nat} (h : l.Perm (List.range c)) (f : Nat → PyData) {j : Nat} (hj : j < c) : (halfL c l f j).set (rn l j) (f (rn l j)) = halfL c l f (j + 1) := by
  refine List.ext_getElem? fun q => ?_
  unfold halfL
  by_cases hq : q < c
  · rw [List.getElem?_map, List.getElem?_range hq]
    obtain ⟨x, hx, rfl⟩ := rn_sur h hq
    show _ = some (if l.idxOf (rn l x) < j + 1 then f (rn l x) else .none)
    rw [idx_rn h hx]
    by_cases z : x = j
    · subst z
      rw [List.getElem?_set_self (by simpa using hq), if_pos (by omega)]
    · have : rn l j ≠ rn l x := fun e => z (rn_inj h hx hj e.symm)
      rw [List.getElem?_set_ne this, List.getElem?_map, List.getElem?_range hq]
      show some (if l.idxOf (rn l x) < j then f (rn l x) else .none) = _
      rw [idx_rn h hx]
      by_cases y : x < j
      · rw [if_pos y, if_pos (by omega)]
      · rw [if_neg y, if_neg (by omega)]
  · rw [List.getElem?_eq_none (by simpa using hq), List.getElem?_eq_none (by simpa using hq)]
theorem halfL_all {c : Nat} {l : List Nat} (h : l.Perm (List.range c)) (f : Nat → PyData) : halfL c l f c = (List.range c).map f := by
  unfold halfL
  refine List.map_congr_left fun q hq => ?_
  obtain ⟨x, hx, rfl⟩ := rn_sur h (List.mem_range.mp hq)
  rw [idx_rn h hx, if_pos hx]
theorem halfL_len (c : Nat) (l : List Nat) (f : Nat → PyData) (j : Nat) : (halfL c l f j).length = c := by unfold halfL; simp
theorem perm_len {c : Nat} {l : List Nat} (h : l.Perm (List.range c)) : l.length = c := by rw [h.length_eq, List.length_range]
def R_law_renamed (ds : List PyData) (s : Sl) : Prop := ∃ (f : Int → PyData) (M M' : Nat → Nat → Int) (c : Nat) (pp tt : List Nat), c ≤ 6 ∧ pp.Perm (List.range c) ∧ tt.Perm (List.range c) ∧ (∀ p t, p < c → t < c → M' (rn pp p) (rn tt t) = M p t) ∧ ds = [.list ((toX f (matL c M)).map .tuple), .tuple (pp.map nat_), .tuple (tt.map nat_)] ∧ s = .ow ((toX f (matL c M')).map .tuple)
theorem sc_law_renamed : FnScope ["_law_rows", "_law_people", "_law_things", "_law_found", "_law_person", "_law_row", "_law_thing"] ["_law_rows", "_law_people", "_law_things"] (defScope s_law_renamed) := ⟨rfl, rfl, rfl, by decide +kernel, rfl, by decide +kernel, by decide +kernel⟩
theorem ok_law_renamed {P : Program} {w : World} {K : PySem.W.Frag} {mg : Str → Option Value} {base : Heap} (T : Txt K mg) : FnOk P w K mg base CX0 1 T.a_law_renamed T.d_law_renamed ["_law_rows", "_law_people", "_law_things"] (spF K R_law_renamed) := by
  refine fn_ok T.F_law_renamed sc_law_renamed (by rintro _ _ ⟨_, _, _, _, _, _, _, _, _, _, rfl, _⟩; rfl) fun cdv A outer s H E hr => ⟨_, (pss_cons (ps_setLc (i := 3) (own := [("_law_row", 5)]) (g := (gName 5)) (by rfl) sc_law_renamed.nd rfl rfl (sw_true rfl rfl rfl (by decide +kernel)) (pi_seqK (K := K) (pv 0)) (blkOk_by (by kernel_rfl)) (fun _ _ _ _ _ => (pg_name (i := 5) sc_law_renamed.nd rfl (Or.inl rfl))) (fun _ _ _ _ _ => by exact pts_nil) (fun _ _ _ _ _ => by exact pe_non))
      (pss_cons (ps_for PassesOwn.never rfl (pi_range1 (by rfl) T.z_range (pa_cons (pe_callB (len_K (K := K)) (by rfl) T.z_len (by decide +kernel) (pa_cons (pv 0) pa_nil)) pa_nil)) (pg_name (i := 4) sc_law_renamed.nd rfl (Or.inl rfl)) (pss_cons (ps_setLc (i := 5) (own := [("_law_thing", 6)]) (g := (gName 6)) (by rfl) sc_law_renamed.nd rfl rfl (sw_true rfl rfl rfl (by decide +kernel)) (pi_seqK (K := K) (pv 2)) (blkOk_by (by kernel_rfl)) (fun _ _ _ _ _ => (pg_name (i := 6) sc_law_renamed.nd rfl (Or.inl rfl))) (fun _ _ _ _ _ => by exact pts_nil) (fun _ _ _ _ _ => by exact pe_non))
      (pss_cons (ps_for PassesOwn.never rfl (pi_range1 (by rfl) T.z_range (pa_cons (pe_callB (len_K (K := K)) (by rfl) T.z_len (by decide +kernel) (pa_cons (pv 2) pa_nil)) pa_nil)) (pg_name (i := 6) sc_law_renamed.nd rfl (Or.inl rfl)) (pss_one (ps_asg (pe_ix (ix_seqK (K := K)) (pe_ix (ix_seqK (K := K)) (pv 0) (pv 4) (fun _ _ => rfl)) (pv 6) (fun _ _ => rfl)) (pg_sub (pv 5) (pe_ix (ix_seqK (K := K)) (pv 2) (pv 6) (fun _ _ => rfl)) set_list))))
      (pss_one (ps_asg (pe_callTy (T := "tuple") (tuple_K (K := K)) (by rfl) T.z_tuple (by decide +kernel) (pa_cons (pv 5) pa_nil)) (pg_sub (pv 3) (pe_ix (ix_seqK (K := K)) (pv 1) (pv 4) (fun _ _ => rfl)) set_list))))))
      (pss_one (ps_ret (pv 3))))), ?_⟩
  rintro _ _ ⟨f, M, M', c, pp, tt, hc6, hp, ht, hM, rfl, rfl⟩
  dsimp only [startR, List.map, List.length_cons, List.length_nil, List.replicate, List.cons_append, List.nil_append, Nat.reduceAdd, Nat.reduceSub]
  have sq := matL_sq c M
  have ll : (((toX f (matL c M)).map PyData.tuple).length : Int) = (c : Int) := by rw [List.length_map, sq.lenX]
  have tl : ((tt.map nat_).length : Int) = (c : Int) := by rw [List.length_map, perm_len ht]
  obtain ⟨g, eg⟩ : ∃ g : Nat → PyData, g = fun q => .tuple ((List.range c).map fun t => f (M' q t)) := ⟨_, rfl⟩
  refine s_seq (s_asg (xr_is (x_lc (toX f (matL c M)) PyData.tuple (fun _ => true) (fun _ => .none) (x_var rfl) trivial rfl (by rw [sq.lenX]; omega) (by simp) (fun _ _ => xt_yes) fun _ _ _ => x_non) (show _ = Sl.ow (halfL c pp g 0) by rw [halfL_zero, List.filter_eq_self.mpr (fun _ _ => rfl), List.map_const', sq.lenX])) ?_)
  refine s_seq (s_range (n := (c : Nat)) [4, 5, 6] (fun j r => r = [.da (.list ((toX f (matL c M)).map .tuple)), .da (.tuple (pp.map nat_)), .da (.tuple (tt.map nat_)), .ow (halfL c pp g j), .un, .un, .un]) (xa_cons (xe_is (x_len (xs_l (x_var rfl))) (by rw [ll])) xa_nil) (by omega) rfl (fun j r hj hr => ?_) fun r hr => ?_)
  · subst hr
    have hjc : j < c := by omega
    refine wg_name ?_
    refine s_seq (s_asg (xr_is (x_lc tt nat_ (fun _ => true) (fun _ => .none) (x_var rfl) trivial rfl (by rw [perm_len ht]; omega) (by simp) (fun _ _ => xt_yes) fun _ _ _ => x_non) (show _ = Sl.ow (halfL c tt (fun t => f (M' (rn pp j) t)) 0) by rw [halfL_zero, List.filter_eq_self.mpr (fun _ _ => rfl), List.map_const', perm_len ht])) ?_)
    refine s_seq (s_range (n := (c : Nat)) [6] (fun i r => r = [.da (.list ((toX f (matL c M)).map .tuple)), .da (.tuple (pp.map nat_)), .da (.tuple (tt.map nat_)), .ow (halfL c pp g j), .da (nat_ j), .ow (halfL c tt (fun t => f (M' (rn pp j) t)) i), .un]) (xa_cons (xe_is (x_len (xs_t (x_var rfl))) (by rw [tl])) xa_nil) (by omega) rfl (fun i r hi hr => ?_) fun r hr => ?_)
    · subst hr
      have hic : i < c := by omega
      refine wg_name ?_
      refine s_seti (i := 5) (j := rn tt i) rfl (xe_is (x_cellT (f := f) (x_var rfl) sq (x_var rfl) (x_var rfl) hjc hic) (show _ = f (M' (rn pp j) (rn tt i)) by rw [matL_g hjc hic, hM j i hjc hic])) (x_ix (xs_t (x_var rfl)) (x_var rfl) (d := nat_ (rn tt i)) (atI_map (f := nat_) (atI_nat (rn_at ht hic)))) (ixN_nat rfl (by rw [halfL_len]; exact rn_lt ht hic)) ?_
      have := halfL_step ht (fun t => f (M' (rn pp j) t)) hic
      rw [← this]
      rfl
    · subst hr
      rw [Int.toNat_natCast, halfL_all ht]
      refine s_seti (i := 3) (j := rn pp j) rfl (xe_is (x_tuple (xs_o rfl)) (show _ = g (rn pp j) by rw [eg])) (x_ix (xs_t (x_var rfl)) (x_var rfl) (d := nat_ (rn pp j)) (atI_map (f := nat_) (atI_nat (rn_at hp hjc)))) (ixN_nat rfl (by rw [halfL_len]; exact rn_lt hp hjc)) ?_
      have := halfL_step hp g hjc
      rw [← this]
      rfl
  · subst hr
    rw [Int.toNat_natCast, halfL_all hp]
    refine s_retv (i := 3) rfl (by intro z; cases z) ?_
    congr 1
    rw [eg]
    unfold toX matL
    rw [List.map_map, List.map_map]
    refine List.map_congr_left fun q _ => ?_
    show PyData.tuple _ = PyData.tuple (((List.range c).map fun t => M' q t).map f)
    rw [List.map_map]
    rfl
def othL (W : List (List Nat)) (pp tt : List Nat) (c : Nat) : Nat → List (List Nat)
  | 0 => List.replicate c []
  | j + 1 => (othL W pp tt c j).set (rn pp j) ((W.getD j []).map (rn tt))
theorem othL_len (W : List (List Nat)) (pp tt : List Nat) (c : Nat) : ∀ j, (othL W pp tt c j).length = c
  | 0 => by simp [othL]
  | j + 1 => by rw [othL, List.length_set, othL_len W pp tt c j]
theorem othL_at {W : List (List Nat)} {pp tt : List Nat} {c : Nat} (hp : pp.Perm (List.range c)) : ∀ j, j ≤ c → ∀ p, p < j → (othL W pp tt c j)[rn pp p]? = some ((W.getD p []).map (rn tt))
  | 0, _, p, h => by omega
  | j + 1, hj, p, h => by
    rw [othL]
    by_cases z : p = j
    · subst z
      rw [List.getElem?_set_self (by rw [othL_len]; exact rn_lt hp (by omega))]
    · rw [List.getElem?_set_ne fun e => z (rn_inj hp (by omega) (by omega) e.symm)]
      exact othL_at hp j (by omega) p (by omega)
theorem oth_ren {W : List (List Nat)} {pp tt : List Nat} {c : Nat} (hp : pp.Perm (List.range c)) (ht : tt.Perm (List.range c)) (hW : WsOk c W) : Ren c pp tt W (othL W pp tt c c) := ⟨hp, ht, hW, othL_len _ _ _ _ _, fun p h => by rw [List.getD_eq_getElem?_getD, othL_at hp c (Nat.le_refl _) p h]; rfl⟩
theorem sc_law : FnScope ["_law_script", "_law_count", "_law_wishes_here", "_law_people", "_law_things", "_law_others", "_law_person", "_law_due", "_law_time", "_law_gone", "_law_wish", "_law_thing"] ["_law_script"] (defScope s_law) := ⟨rfl, rfl, rfl, by decide +kernel, rfl, by decide +kernel, by decide +kernel⟩
theorem ok_law {P : Program} {w : World} {K : PySem.W.Frag} {mg : Str → Option Value} {base : Heap} (T : Txt K mg) : FnOk P w K mg base CX0 9 T.a_law T.d_law ["_law_script"] (spF K R_law) := by
  have G_law_cell_at := ok_law_cell_at (P := P) (w := w) (base := base) T
  have G_law_mixed := ok_law_mixed (P := P) (w := w) (base := base) T
  have G_law_order := ok_law_order (P := P) (w := w) (base := base) T
  have G_law_renamed := ok_law_renamed (P := P) (w := w) (base := base) T
  have G_law_wishes := ok_law_wishes (P := P) (w := w) (base := base) T
  have G_by_turns := ok_by_turns (P := P) (w := w) (base := base) T
  have G_eaten := ok_eaten (P := P) (w := w) (base := base) T
  have G_stops := ok_stops (P := P) (w := w) (base := base) T
  refine fn_ok T.F_law sc_law (by rintro _ _ ⟨_, rfl, _⟩; rfl) fun cdv A outer s H E hr => ⟨_, (pss_cons (ps_set (i := 1) sc_law.nd rfl (Or.inl rfl) (pe_op (op_addK (K := K)) pe_int (pe_op op_modN (pe_call G_law_cell_at (hr.mono (by decide)) (by rfl) T.m_law_cell_at T.F_law_cell_at.kp T.b_law_cell_at .nil pass0 (pa_cons (pv 0) (pa_cons pe_int pa_nil))) pe_int)))
      (pss_cons (ps_set (i := 2) sc_law.nd rfl (Or.inl rfl) (pe_call G_law_wishes (hr.mono (by decide)) (by rfl) T.m_law_wishes T.F_law_wishes.kp T.b_law_wishes .nil pass0 (pa_cons (pv 0) (pa_cons pe_int (pa_cons (pv 1) pa_nil)))))
      (pss_cons (ps_set (i := 3) sc_law.nd rfl (Or.inl rfl) (pe_call G_law_order (hr.mono (by decide)) (by rfl) T.m_law_order T.F_law_order.kp T.b_law_order .nil pass0 (pa_cons (pe_call G_law_mixed (hr.mono (by decide)) (by rfl) T.m_law_mixed T.F_law_mixed.kp T.b_law_mixed .nil pass0 (pa_cons (pe_call G_law_cell_at (hr.mono (by decide)) (by rfl) T.m_law_cell_at T.F_law_cell_at.kp T.b_law_cell_at .nil pass0 (pa_cons (pv 0) (pa_cons pe_int pa_nil))) (pa_cons pe_int pa_nil))) (pa_cons (pv 1) pa_nil))))
      (pss_cons (ps_set (i := 4) sc_law.nd rfl (Or.inr rfl) (pe_call G_law_order (hr.mono (by decide)) (by rfl) T.m_law_order T.F_law_order.kp T.b_law_order .nil pass0 (pa_cons (pe_call G_law_mixed (hr.mono (by decide)) (by rfl) T.m_law_mixed T.F_law_mixed.kp T.b_law_mixed .nil pass0 (pa_cons (pe_call G_law_cell_at (hr.mono (by decide)) (by rfl) T.m_law_cell_at T.F_law_cell_at.kp T.b_law_cell_at .nil pass0 (pa_cons (pv 0) (pa_cons pe_int pa_nil))) (pa_cons pe_int pa_nil))) (pa_cons (pv 1) pa_nil))))
      (pss_cons (ps_setLc (i := 5) (own := [("_law_wish", 10)]) (g := (gName 10)) (by rfl) sc_law.nd rfl rfl (sw_true rfl rfl rfl (by decide +kernel)) (pi_seqK (K := K) (pv 2)) (blkOk_by (by kernel_rfl)) (fun _ _ _ _ _ => (pg_name (i := 10) sc_law.nd rfl (Or.inl rfl))) (fun _ _ _ _ _ => by exact pts_nil) (fun _ _ _ _ _ => by exact (pe_tup pa_nil)))
      (pss_cons (ps_for PassesOwn.never rfl (pi_range1 (by rfl) T.z_range (pa_cons (pv 1) pa_nil)) (pg_name (i := 6) sc_law.nd rfl (Or.inl rfl)) (pss_one (ps_asg (pe_callTy (T := "tuple") (tuple_K (K := K)) (by rfl) T.z_tuple (by decide +kernel) (pa_cons (by exact (pe_lc (own := [("_law_thing", 11)]) (g := (gName 11)) (by rfl) sc_law.nd (pi_seqK (K := K) (pe_ix (ix_seqK (K := K)) (pv 2) (pv 6) (fun _ _ => rfl))) (blkOk_by (by kernel_rfl)) (fun _ _ _ _ _ => (pg_name (i := 11) sc_law.nd rfl (Or.inl rfl))) (fun _ _ _ _ _ => by exact pts_nil) (fun _ _ _ _ _ => by exact (pe_ix (ix_seqK (K := K)) (pv 4) (pv 11) (fun _ _ => rfl))))) pa_nil)) (pg_sub (pv 5) (pe_ix (ix_seqK (K := K)) (pv 3) (pv 6) (fun _ _ => rfl)) set_list))))
      (pss_cons (ps_if (pt_cmpR (op_neK (K := K) hr.units) (pe_call G_eaten (hr.mono (by decide)) (by rfl) T.m_eaten T.F_eaten.kp T.b_eaten .nil pass0 (pa_cons (pe_callTy (T := "list") (list_K (K := K)) (by rfl) T.z_list (by decide +kernel) (pa_cons (pv 5) pa_nil)) pa_nil)) (pe_call G_law_renamed (hr.mono (by decide)) (by rfl) T.m_law_renamed T.F_law_renamed.kp T.b_law_renamed .nil pass0 (pa_cons (pe_call G_eaten (hr.mono (by decide)) (by rfl) T.m_eaten T.F_eaten.kp T.b_eaten .nil pass0 (pa_cons (pe_callTy (T := "list") (list_K (K := K)) (by rfl) T.z_list (by decide +kernel) (pa_cons (pv 2) pa_nil)) pa_nil)) (pa_cons (pv 3) (pa_cons (pv 4) pa_nil)))) (nomark _)) (pss_one (ps_ret pe_bl)) pss_nil)
      (pss_cons (ps_set (i := 7) sc_law.nd rfl (Or.inl rfl) (pe_lst pa_nil))
      (pss_cons (ps_for PassesOwn.never rfl (pi_seqK (K := K) (pe_call G_stops (hr.mono (by decide)) (by rfl) T.m_stops T.F_stops.kp T.b_stops .nil pass0 (pa_cons (pe_callTy (T := "list") (list_K (K := K)) (by rfl) T.z_list (by decide +kernel) (pa_cons (pv 2) pa_nil)) pa_nil))) (pg_tupK (K := K) (by rfl) (pgs_cons (pg_name (i := 8) sc_law.nd rfl (Or.inl rfl)) (pgs_cons (pg_name (i := 9) sc_law.nd rfl (Or.inl rfl)) pgs_nil))) (pss_one (ps_expr (pe_bm PySem.F.plainAttrs_list PySem.F.slot_list_append PySem.F.type_list_append mt_append (pv 7) (pa_cons (pe_tup (pa_cons (pv 8) (pa_cons (pe_callTy (T := "tuple") (tuple_K (K := K)) (by rfl) T.z_tuple (by decide +kernel) (pa_cons (pe_callB (sorted_K (K := K)) (by rfl) T.z_sorted (by decide +kernel) (pa_cons (by exact (pe_lc (own := [("_law_thing", 11)]) (g := (gName 11)) (by rfl) sc_law.nd (pi_seqK (K := K) (pv 9)) (blkOk_by (by kernel_rfl)) (fun _ _ _ _ _ => (pg_name (i := 11) sc_law.nd rfl (Or.inl rfl))) (fun _ _ _ _ _ => by exact pts_nil) (fun _ _ _ _ _ => by exact (pe_ix (ix_seqK (K := K)) (pv 4) (pv 11) (fun _ _ => rfl))))) pa_nil)) pa_nil)) pa_nil))) pa_nil)))))
      (pss_cons (ps_if (pt_cmpR (op_neK (K := K) hr.units) (pe_call G_stops (hr.mono (by decide)) (by rfl) T.m_stops T.F_stops.kp T.b_stops .nil pass0 (pa_cons (pe_callTy (T := "list") (list_K (K := K)) (by rfl) T.z_list (by decide +kernel) (pa_cons (pv 5) pa_nil)) pa_nil)) (pv 7) (nomark _)) (pss_one (ps_ret pe_bl)) pss_nil)
      (pss_one (ps_ret (pe_cmpR (op_eqK (K := K) hr.units) (pe_call G_by_turns (hr.mono (by decide)) (by rfl) T.m_by_turns T.F_by_turns.kp T.b_by_turns .nil pass0 (pa_cons (pe_callTy (T := "list") (list_K (K := K)) (by rfl) T.z_list (by decide +kernel) (pa_cons (pv 5) pa_nil)) pa_nil)) (pe_call G_law_renamed (hr.mono (by decide)) (by rfl) T.m_law_renamed T.F_law_renamed.kp T.b_law_renamed .nil pass0 (pa_cons (pe_call G_by_turns (hr.mono (by decide)) (by rfl) T.m_by_turns T.F_by_turns.kp T.b_by_turns .nil pass0 (pa_cons (pe_callTy (T := "list") (list_K (K := K)) (by rfl) T.z_list (by decide +kernel) (pa_cons (pv 2) pa_nil)) pa_nil)) (pa_cons (pv 3) (pa_cons (pv 4) pa_nil)))) (nomark _)))))))))))))), ?_⟩
  rintro _ _ ⟨ns, rfl, hn, rfl⟩
  dsimp only [startR, List.map, List.length_cons, List.length_nil, List.replicate, List.cons_append, List.nil_append, Nat.reduceAdd, Nat.reduceSub]
  obtain ⟨c, hc, hc1, hc6⟩ : ∃ c : Nat, 1 + cell ns 0 % 6 = (c : Int) ∧ 1 ≤ c ∧ c ≤ 6 := ⟨(1 + cell ns 0 % 6).toNat, by omega, by omega, by omega⟩
  have hWi := wsh_Wi ns 3 c
  obtain ⟨W, eW⟩ : ∃ W, W = wshL ns 3 c c := ⟨_, rfl⟩
  rw [← eW] at hWi
  have hW : WsOk c W := ⟨hWi.len, hWi.perm⟩
  obtain ⟨pp, epp⟩ : ∃ pp, pp = ord2 (mix2 (cell ns 1) 70) c := ⟨_, rfl⟩
  obtain ⟨tt, ett⟩ : ∃ tt, tt = ord2 (mix2 (cell ns 2) 71) c := ⟨_, rfl⟩
  have hp : pp.Perm (List.range c) := by rw [epp]; exact ord2_perm _ _
  have ht : tt.Perm (List.range c) := by rw [ett]; exact ord2_perm _ _
  have rn_ := oth_ren hp ht hW
  obtain ⟨W', eW'⟩ : ∃ W', W' = othL W pp tt c c := ⟨_, rfl⟩
  rw [← eW'] at rn_
  have hW' := rn_.ok
  have hWi' : Wi W' c := ⟨hW'.len, hW'.row⟩
  have eK := ren_K rn_ hc6
  refine s_seq (s_asg (xr_is (x_add x_int (x_mod (x_call (xa_cons (x_var rfl) (xa_cons x_int xa_nil)) ⟨ns, 0, rfl, rfl⟩) x_int (by decide))) (by rw [hc])) ?_)
  refine s_seq (s_asg (xr_is (x_call (xa_cons (x_var rfl) (xa_cons x_int (xa_cons (x_var rfl) xa_nil))) ⟨ns, 3, c, rfl, by omega, rfl⟩) (by rw [← eW])) ?_)
  refine s_frz 2 rfl ?_
  refine s_seq (s_asg (s := .da (.tuple (pp.map nat_))) (xr_is (x_call (xa_cons (x_call (xa_cons (x_call (xa_cons (x_var rfl) (xa_cons x_int xa_nil)) ⟨ns, 1, rfl, rfl⟩) (xa_cons x_int xa_nil)) ⟨_, 70, rfl, by omega, rfl⟩) (xa_cons (x_var rfl) xa_nil)) ⟨_, c, rfl, by omega, rfl⟩) (by rw [epp])) ?_)
  refine s_seq (s_asg (s := .da (.tuple (tt.map nat_))) (xr_is (x_call (xa_cons (x_call (xa_cons (x_call (xa_cons (x_var rfl) (xa_cons x_int xa_nil)) ⟨ns, 2, rfl, rfl⟩) (xa_cons x_int xa_nil)) ⟨_, 71, rfl, by omega, rfl⟩) (xa_cons (x_var rfl) xa_nil)) ⟨_, c, rfl, by omega, rfl⟩) (by rw [ett])) ?_)
  refine s_seq (s_asg (s := .ow ((othL W pp tt c 0).map rowT)) (xr_is (x_lc W rowT (fun _ => true) (fun _ => rowT []) (x_var rfl) trivial rfl (by rw [hW.len]; omega) (by simp) (fun _ _ => xt_yes) fun _ _ _ => x_tup xa_nil (by simp)) (by rw [List.filter_eq_self.mpr (fun _ _ => rfl), List.map_const', hW.len, othL, List.map_replicate])) ?_)
  refine s_seq (s_range (n := (c : Nat)) [6, 10, 11] (fun j r => r = [.da (.list (ns.map .int)), .da (.int c), .da (.list (W.map rowT)), .da (.tuple (pp.map nat_)), .da (.tuple (tt.map nat_)), .ow ((othL W pp tt c j).map rowT), .un, .un, .un, .un, .un, .un]) (xa_cons (x_var rfl) xa_nil) (by omega) rfl (fun j r hj hr => ?_) fun r hr => ?_)
  · subst hr
    have hjc : j < c := by omega
    obtain ⟨hat, hperm⟩ := hW.at hjc
    refine wg_name ?_
    refine s_seti (i := 5) (j := rn pp j) (d := rowT ((W.getD j []).map (rn tt))) rfl (xe_is (x_tuple (xs_n (x_lc (W.getD j []) nat_ (fun _ => true) (fun t => nat_ (rn tt t)) (x_ix (xs_l (x_var rfl)) (x_var rfl) (atI_map (f := rowT) (atI_nat hat))) trivial rfl (by rw [hperm.length_eq, List.length_range]; omega) (by simp) (fun _ _ => xt_yes) fun t m _ => x_ix (xs_t (x_var rfl)) (x_var rfl) (d := nat_ (rn tt t)) (atI_map (f := nat_) (atI_nat (rn_at ht (rowLt hW hjc t m))))))) (by
        rw [List.filter_eq_self.mpr (fun _ _ => rfl)]
        unfold rowT
        rw [List.map_map]
        rfl)) (x_ix (xs_t (x_var rfl)) (x_var rfl) (d := nat_ (rn pp j)) (atI_map (f := nat_) (atI_nat (rn_at hp hjc)))) (ixN_nat rfl (by rw [List.length_map, othL_len]; exact rn_lt hp hjc)) ?_
    have : ((othL W pp tt c j).map rowT).set (rn pp j) (rowT ((W.getD j []).map (rn tt))) = (othL W pp tt c (j + 1)).map rowT := by rw [othL, ← List.map_set]
    rw [← this]
    rfl
  · subst hr
    rw [Int.toNat_natCast, ← eW']
    refine s_frz 5 rfl ?_
    have sqE := matL_sq c (eatM c W')
    have Dt : ∀ (f : Int → PyData) (M : Nat → Nat → Int), (∀ x, Ds 2 (f x)) → Ds 4 (.list ((toX f (matL c M)).map .tuple)) := fun f M hf => by
      have : (toX f (matL c M)).map PyData.tuple = (matL c M).map fun r => .tuple (r.map f) := by show List.map _ (List.map _ _) = _; rw [List.map_map]; rfl
      rw [this]
      exact ⟨by rw [List.length_map, (matL_sq c M).len]; omega, Ds_map fun r m => ⟨by rw [List.length_map, (matL_sq c M).row r m]; omega, Ds_map fun _ _ => hf _⟩⟩
    have eatO : ∀ {ρ : List Sl} {E : L2.XK}, ρ[5]? = some (.da (.list (W'.map rowT))) → XR K (tCall (spF K R_eaten) [] E (tCons (tCB (rListX K) (tCons (tVar 5) tNil)) tNil)) ρ (.ow ((toX (fT ET) (matL c (eatM c W'))).map .tuple)) := fun h => x_call (xa_cons (x_frz (x_list (xs_l (x_var h)))) xa_nil) ⟨W', c, hW', hc1, hc6, rfl, rfl⟩
    have eatH : ∀ {ρ : List Sl} {E : L2.XK}, ρ[2]? = some (.da (.list (W.map rowT))) → XR K (tCall (spF K R_eaten) [] E (tCons (tCB (rListX K) (tCons (tVar 2) tNil)) tNil)) ρ (.ow ((toX (fT ET) (matL c (eatM c W))).map .tuple)) := fun h => x_call (xa_cons (x_frz (x_list (xs_l (x_var h)))) xa_nil) ⟨W, c, hW, hc1, hc6, rfl, rfl⟩
    have De := Dt (fT ET) (eatM c W') fun x => Ds_fr 0 _
    refine s_seq (s_if (b := false) (xt_is (xt_test (x_ne (xp_e (x_frz (eatO rfl))) (xp_e (x_frz (x_call (R := R_law_renamed) (xa_cons (x_frz (eatH rfl)) (xa_cons (x_var rfl) (xa_cons (x_var rfl) xa_nil))) ⟨fT ET, eatM c W, eatM c W', c, pp, tt, hc6, hp, ht, fun p t h1 h2 => ren_eatM rn_ hc6 h1 h2, rfl, rfl⟩))) (Ds_shaped De (by decide)) (Ds_shaped De (by decide)))) (by rw [Ds_eqv De]; rfl)) (fun h => nomatch h) fun _ => s_next ?_)
    refine s_seq (s_asg (x_lst xa_nil (by simp)) ?_)
    obtain ⟨Kn, eKn⟩ : ∃ Kn, Kn = eatK c W := ⟨_, rfl⟩
    have k6 : Kn ≤ 6 := by rw [eKn]; exact (eatK_ok hW hc6).1
    refine s_seq (s_for (List.range Kn) (stopK c W) [8, 9, 10, 11] (fun k r => k ≤ Kn ∧ r = [.da (.list (ns.map .int)), .da (.int c), .da (.list (W.map rowT)), .da (.tuple (pp.map nat_)), .da (.tuple (tt.map nat_)), .da (.list (W'.map rowT)), .un, .ow (stopsF c W' k), .un, .un, .un, .un]) (x_frz (x_call (R := R_stops) (xa_cons (x_frz (x_list (xs_l (x_var rfl)))) xa_nil) ⟨W, c, hW, hc1, hc6, rfl, rfl⟩)) trivial (by rw [← eKn]; rfl) ⟨Nat.zero_le _, rfl⟩ (fun k k' r hk hr => ?_) fun r hr => ?_)
    · obtain ⟨_, hr⟩ := hr
      subst hr
      have hk1 := (List.getElem?_eq_some_iff.mp hk).1
      have hk2 := (List.getElem?_eq_some_iff.mp hk).2
      rw [List.getElem_range] at hk2
      subst hk2
      rw [List.length_range] at hk1
      obtain ⟨g1, g2⟩ := ren_gone rn_ hc6 (k := k) (by rw [← eKn]; exact hk1)
      have stk : stopK c W k = .tuple [fT ET (msK c W (k + 1)).tm, .tuple ((goneF c (msK c W k).lf (msK c W (k + 1)).lf).map nat_)] := rfl
      rw [stk]
      refine wg_tup (wgs_cons (wg_name (wgs_cons (wg_name (wgs_nil ?_))))) rfl
      have gl : (goneF c (msK c W k).lf (msK c W (k + 1)).lf).length ≤ 6 := by
        have := List.length_filter_le (fun t => decide ((msK c W k).lf t ≠ 0) && decide ((msK c W (k + 1)).lf t = 0)) (List.range c)
        rw [List.length_range] at this
        unfold goneF
        omega
      refine s_append (i := 7) (d := stopK c W' k) rfl (xe_is (x_tup (xa_cons (x_var rfl) (xa_cons (xe_is (x_tuple (xs_l (x_frz (x_sortedQ (b := false) (ns := ((goneF c (msK c W k).lf (msK c W (k + 1)).lf).map (rn tt)).map fun i : Nat => (i : Int)) (xe_is (x_frz (x_lc (goneF c (msK c W k).lf (msK c W (k + 1)).lf) nat_ (fun _ => true) (fun t => nat_ (rn tt t)) (x_var rfl) trivial rfl (by omega) (by simp) (fun _ _ => xt_yes) fun t m _ => x_ix (xs_t (x_var rfl)) (x_var rfl) (d := nat_ (rn tt t)) (atI_map (f := nat_) (atI_nat (rn_at ht (goneF_mem.mp m).1))))) (by
        rw [List.filter_eq_self.mpr (fun _ _ => rfl), ← nat_ints, List.map_map]
        rfl)))))) (show _ = PyData.tuple ((goneF c (msK c W' k).lf (msK c W' (k + 1)).lf).map nat_) by rw [g2, ← nat_ints])) xa_nil)) (by simp)) (by
        rw [← g1]
        rfl)) (by unfold stopsF; simp; omega) ⟨by omega, ?_⟩
      rw [show stopsF c W' (k + 1) = stopsF c W' k ++ [stopK c W' k] by unfold stopsF; rw [List.range_succ, List.map_append]; rfl]
      rfl
    · obtain ⟨_, hr⟩ := hr
      subst hr
      rw [List.length_range]
      have Ds_ : Ds 5 (.list (stopsF c W' Kn)) := ⟨by unfold stopsF; simp; omega, fun d hd => by
        obtain ⟨j, hj, rfl⟩ := List.mem_map.mp hd
        refine ⟨by simp, fun d hd => ?_⟩
        simp at hd
        rcases hd with rfl | rfl
        · exact Ds_fr 1 _
        · have := List.length_filter_le (fun t => decide ((msK c W' j).lf t ≠ 0) && decide ((msK c W' (j + 1)).lf t = 0)) (List.range c)
          rw [List.length_range] at this
          exact ⟨by rw [List.length_map]; unfold goneF; omega, Ds_map fun _ _ => trivial⟩⟩
      refine s_seq (s_if (b := false) (xt_is (xt_test (x_ne (xp_e (x_frz (xr_is (x_call (R := R_stops) (xa_cons (x_frz (x_list (xs_l (x_var rfl)))) xa_nil) ⟨W', c, hW', hc1, hc6, rfl, rfl⟩) (by rw [eK, ← eKn])))) (xp_o rfl) (Ds_shaped Ds_ (by decide)) (Ds_shaped Ds_ (by decide)))) (by rw [Ds_eqv Ds_]; rfl)) (fun h => nomatch h) fun _ => s_next ?_)
      obtain ⟨F, eF⟩ : ∃ F : Int, F = (fct c : Int) := ⟨_, rfl⟩
      have tw : ∀ V : List (List Nat), tabW V c = (toX (fT F) (matL c fun p t => (wayF V c c [] [] p t : Int))).map .tuple := fun V => by rw [tabW_eq, tabT_toX, eF]
      have Dw := Dt (fT F) (fun p t => (wayF W' c c [] [] p t : Int)) fun x => Ds_fr 0 _
      refine s_ret (x_eq (xp_e (xe_is (x_frz (x_call (R := R_by_turns) (xa_cons (x_frz (x_list (xs_l (x_var rfl)))) xa_nil) ⟨W', c, rfl, hWi', hc6, rfl⟩)) (by rw [tw]))) (xp_e (x_frz (x_call (R := R_law_renamed) (xa_cons (xe_is (x_frz (x_call (R := R_by_turns) (xa_cons (x_frz (x_list (xs_l (x_var rfl)))) xa_nil) ⟨W, c, rfl, hWi, hc6, rfl⟩)) (by rw [tw])) (xa_cons (x_var rfl) (xa_cons (x_var rfl) xa_nil))) ⟨fT F, fun p t => (wayF W c c [] [] p t : Int), fun p t => (wayF W' c c [] [] p t : Int), c, pp, tt, hc6, hp, ht, fun p t h1 h2 => congrArg (fun n : Nat => (n : Int)) (ren_way rn_ c [] [] p t (by simp) rfl (fun _ m => nomatch m) (fun _ m => nomatch m) h1 h2), rfl, rfl⟩))) (Ds_shaped Dw (by decide)) (Ds_shaped Dw (by decide))) ?_
      rw [Ds_eqv Dw]
end WL

namespace WL
open PySem L2
set_option maxHeartbeats 0 in
theorem all_mk {l : PySem.W.OpenLaw} {w : World} {K : PySem.W.Frag} {h : Heap} {mg : Str → Option Value} {fa : Addr} (X : K.In h) (G : h.Ns mainGlobals mg) (hfa : mg "law" = some (.ref fa))
    {k_Meal : Addr}
    {f0 : Addr} {od0 an0 : Option Addr} {sl0 : Array (Option Value)} {oc0 kV0 dc0 pm0 cd0 ct0 : Value}
    {f1 : Addr} {od1 an1 : Option Addr} {sl1 : Array (Option Value)} {oc1 kV1 dc1 pm1 cd1 ct1 : Value}
    {f2 : Addr} {od2 an2 : Option Addr} {sl2 : Array (Option Value)} {oc2 kV2 dc2 pm2 cd2 ct2 : Value}
    {f3 : Addr} {od3 an3 : Option Addr} {sl3 : Array (Option Value)} {oc3 kV3 dc3 pm3 cd3 ct3 : Value}
    {f4 : Addr} {od4 an4 : Option Addr} {sl4 : Array (Option Value)} {oc4 kV4 dc4 pm4 cd4 ct4 : Value}
    {f5 : Addr} {od5 an5 : Option Addr} {sl5 : Array (Option Value)} {oc5 kV5 dc5 pm5 cd5 ct5 : Value}
    {f6 : Addr} {od6 an6 : Option Addr} {sl6 : Array (Option Value)} {oc6 kV6 dc6 pm6 cd6 ct6 : Value}
    {f7 : Addr} {od7 an7 : Option Addr} {sl7 : Array (Option Value)} {oc7 kV7 dc7 pm7 cd7 ct7 : Value}
    {f8 : Addr} {od8 an8 : Option Addr} {sl8 : Array (Option Value)} {oc8 kV8 dc8 pm8 cd8 ct8 : Value}
    {f9 : Addr} {od9 an9 : Option Addr} {sl9 : Array (Option Value)} {oc9 kV9 dc9 pm9 cd9 ct9 : Value}
    {f10 : Addr} {od10 an10 : Option Addr} {sl10 : Array (Option Value)} {oc10 kV10 dc10 pm10 cd10 ct10 : Value}
    {f11 : Addr} {od11 an11 : Option Addr} {sl11 : Array (Option Value)} {oc11 kV11 dc11 pm11 cd11 ct11 : Value}
    {f12 : Addr} {od12 an12 : Option Addr} {sl12 : Array (Option Value)} {oc12 kV12 dc12 pm12 cd12 ct12 : Value}
    {f13 : Addr} {od13 an13 : Option Addr} {sl13 : Array (Option Value)} {oc13 kV13 dc13 pm13 cd13 ct13 : Value}
    {f14 : Addr} {od14 an14 : Option Addr} {sl14 : Array (Option Value)} {oc14 kV14 dc14 pm14 cd14 ct14 : Value}
    {f15 : Addr} {od15 an15 : Option Addr} {sl15 : Array (Option Value)} {oc15 kV15 dc15 pm15 cd15 ct15 : Value}
    {f16 : Addr} {od16 an16 : Option Addr} {sl16 : Array (Option Value)} {oc16 kV16 dc16 pm16 cd16 ct16 : Value}
    {f17 : Addr} {od17 an17 : Option Addr} {sl17 : Array (Option Value)} {oc17 kV17 dc17 pm17 cd17 ct17 : Value}
    {f18 : Addr} {od18 an18 : Option Addr} {sl18 : Array (Option Value)} {oc18 kV18 dc18 pm18 cd18 ct18 : Value}
    {f19 : Addr} {od19 an19 : Option Addr} {sl19 : Array (Option Value)} {oc19 kV19 dc19 pm19 cd19 ct19 : Value}
    {f20 : Addr} {od20 an20 : Option Addr} {sl20 : Array (Option Value)} {oc20 kV20 dc20 pm20 cd20 ct20 : Value}
    {f21 : Addr} {od21 an21 : Option Addr} {sl21 : Array (Option Value)} {oc21 kV21 dc21 pm21 cd21 ct21 : Value}
    {tNOTHING : Addr} {tdNOTHING : Option Addr} {tnNOTHING : Nat} {tslNOTHING : Array (Option Value)} {tkNOTHING0 tkNOTHING1 : Tok}
    {tWHOLE : Addr} {tdWHOLE : Option Addr} {tnWHOLE : Nat} {tslWHOLE : Array (Option Value)} {tkWHOLE0 tkWHOLE1 : Tok}
    (agMeal : PySem.W.nsIn K mainGlobals "Meal" = some (some (.ref k_Meal)))
    (a0 : PySem.W.nsIn K mainGlobals "common" = some (some (.ref f0)))
    (l0 : K.lookup f0 = some ⟨oc0, od0, .func (PySem.W.fnOf "common" "common" (defArgs s_common) (defBody s_common) (defScope s_common) .none kV0 dc0 pm0 an0 cd0 ct0), sl0⟩)
    (c0 : PySem.W.codeIn K cd0 "common" = true) (k0 : PySem.W.keepIn K (.ref f0) = true)
    (a1 : PySem.W.nsIn K mainGlobals "fraction" = some (some (.ref f1)))
    (l1 : K.lookup f1 = some ⟨oc1, od1, .func (PySem.W.fnOf "fraction" "fraction" (defArgs s_fraction) (defBody s_fraction) (defScope s_fraction) .none kV1 dc1 pm1 an1 cd1 ct1), sl1⟩)
    (c1 : PySem.W.codeIn K cd1 "fraction" = true) (k1 : PySem.W.keepIn K (.ref f1) = true)
    (a2 : PySem.W.nsIn K mainGlobals "plus" = some (some (.ref f2)))
    (l2 : K.lookup f2 = some ⟨oc2, od2, .func (PySem.W.fnOf "plus" "plus" (defArgs s_plus) (defBody s_plus) (defScope s_plus) .none kV2 dc2 pm2 an2 cd2 ct2), sl2⟩)
    (c2 : PySem.W.codeIn K cd2 "plus" = true) (k2 : PySem.W.keepIn K (.ref f2) = true)
    (a3 : PySem.W.nsIn K mainGlobals "minus" = some (some (.ref f3)))
    (l3 : K.lookup f3 = some ⟨oc3, od3, .func (PySem.W.fnOf "minus" "minus" (defArgs s_minus) (defBody s_minus) (defScope s_minus) .none kV3 dc3 pm3 an3 cd3 ct3), sl3⟩)
    (c3 : PySem.W.codeIn K cd3 "minus" = true) (k3 : PySem.W.keepIn K (.ref f3) = true)
    (a4 : PySem.W.nsIn K mainGlobals "times" = some (some (.ref f4)))
    (l4 : K.lookup f4 = some ⟨oc4, od4, .func (PySem.W.fnOf "times" "times" (defArgs s_times) (defBody s_times) (defScope s_times) .none kV4 dc4 pm4 an4 cd4 ct4), sl4⟩)
    (c4 : PySem.W.codeIn K cd4 "times" = true) (k4 : PySem.W.keepIn K (.ref f4) = true)
    (a5 : PySem.W.nsIn K mainGlobals "before" = some (some (.ref f5)))
    (l5 : K.lookup f5 = some ⟨oc5, od5, .func (PySem.W.fnOf "before" "before" (defArgs s_before) (defBody s_before) (defScope s_before) .none kV5 dc5 pm5 an5 cd5 ct5), sl5⟩)
    (c5 : PySem.W.codeIn K cd5 "before" = true) (k5 : PySem.W.keepIn K (.ref f5) = true)
    (a6 : PySem.W.nsIn K mainGlobals "likes" = some (some (.ref f6)))
    (l6 : K.lookup f6 = some ⟨oc6, od6, .func (PySem.W.fnOf "likes" "likes" (defArgs s_likes) (defBody s_likes) (defScope s_likes) .none kV6 dc6 pm6 an6 cd6 ct6), sl6⟩)
    (c6 : PySem.W.codeIn K cd6 "likes" = true) (k6 : PySem.W.keepIn K (.ref f6) = true)
    (a7 : PySem.W.findIn K (.ref k_Meal) "__init__" = some (some (.ref f7))) (if7 : PySem.W.isFn K (.ref f7) = true)
    (l7 : K.lookup f7 = some ⟨oc7, od7, .func (PySem.W.fnOf "__init__" "Meal.__init__" (defArgs s_Meal___init__) (defBody s_Meal___init__) (defScope s_Meal___init__) .none kV7 dc7 pm7 an7 cd7 ct7), sl7⟩)
    (c7 : PySem.W.codeIn K cd7 "Meal.__init__" = true) (k7 : PySem.W.keepIn K (.ref f7) = true)
    (a8 : PySem.W.findIn K (.ref k_Meal) "eaters" = some (some (.ref f8))) (if8 : PySem.W.isFn K (.ref f8) = true)
    (l8 : K.lookup f8 = some ⟨oc8, od8, .func (PySem.W.fnOf "eaters" "Meal.eaters" (defArgs s_Meal_eaters) (defBody s_Meal_eaters) (defScope s_Meal_eaters) .none kV8 dc8 pm8 an8 cd8 ct8), sl8⟩)
    (c8 : PySem.W.codeIn K cd8 "Meal.eaters" = true) (k8 : PySem.W.keepIn K (.ref f8) = true)
    (a9 : PySem.W.findIn K (.ref k_Meal) "step" = some (some (.ref f9))) (if9 : PySem.W.isFn K (.ref f9) = true)
    (l9 : K.lookup f9 = some ⟨oc9, od9, .func (PySem.W.fnOf "step" "Meal.step" (defArgs s_Meal_step) (defBody s_Meal_step) (defScope s_Meal_step) .none kV9 dc9 pm9 an9 cd9 ct9), sl9⟩)
    (c9 : PySem.W.codeIn K cd9 "Meal.step" = true) (k9 : PySem.W.keepIn K (.ref f9) = true)
    (a10 : PySem.W.findIn K (.ref k_Meal) "eat" = some (some (.ref f10))) (if10 : PySem.W.isFn K (.ref f10) = true)
    (l10 : K.lookup f10 = some ⟨oc10, od10, .func (PySem.W.fnOf "eat" "Meal.eat" (defArgs s_Meal_eat) (defBody s_Meal_eat) (defScope s_Meal_eat) .none kV10 dc10 pm10 an10 cd10 ct10), sl10⟩)
    (c10 : PySem.W.codeIn K cd10 "Meal.eat" = true) (k10 : PySem.W.keepIn K (.ref f10) = true)
    (a11 : PySem.W.nsIn K mainGlobals "meal_of" = some (some (.ref f11)))
    (l11 : K.lookup f11 = some ⟨oc11, od11, .func (PySem.W.fnOf "meal_of" "meal_of" (defArgs s_meal_of) (defBody s_meal_of) (defScope s_meal_of) .none kV11 dc11 pm11 an11 cd11 ct11), sl11⟩)
    (c11 : PySem.W.codeIn K cd11 "meal_of" = true) (k11 : PySem.W.keepIn K (.ref f11) = true)
    (a12 : PySem.W.nsIn K mainGlobals "eaten" = some (some (.ref f12)))
    (l12 : K.lookup f12 = some ⟨oc12, od12, .func (PySem.W.fnOf "eaten" "eaten" (defArgs s_eaten) (defBody s_eaten) (defScope s_eaten) .none kV12 dc12 pm12 an12 cd12 ct12), sl12⟩)
    (c12 : PySem.W.codeIn K cd12 "eaten" = true) (k12 : PySem.W.keepIn K (.ref f12) = true)
    (a13 : PySem.W.nsIn K mainGlobals "stops" = some (some (.ref f13)))
    (l13 : K.lookup f13 = some ⟨oc13, od13, .func (PySem.W.fnOf "stops" "stops" (defArgs s_stops) (defBody s_stops) (defScope s_stops) .none kV13 dc13 pm13 an13 cd13 ct13), sl13⟩)
    (c13 : PySem.W.codeIn K cd13 "stops" = true) (k13 : PySem.W.keepIn K (.ref f13) = true)
    (a14 : PySem.W.nsIn K mainGlobals "ways_on" = some (some (.ref f14)))
    (l14 : K.lookup f14 = some ⟨oc14, od14, .func (PySem.W.fnOf "ways_on" "ways_on" (defArgs s_ways_on) (defBody s_ways_on) (defScope s_ways_on) .none kV14 dc14 pm14 an14 cd14 ct14), sl14⟩)
    (c14 : PySem.W.codeIn K cd14 "ways_on" = true) (k14 : PySem.W.keepIn K (.ref f14) = true)
    (a15 : PySem.W.nsIn K mainGlobals "by_turns" = some (some (.ref f15)))
    (l15 : K.lookup f15 = some ⟨oc15, od15, .func (PySem.W.fnOf "by_turns" "by_turns" (defArgs s_by_turns) (defBody s_by_turns) (defScope s_by_turns) .none kV15 dc15 pm15 an15 cd15 ct15), sl15⟩)
    (c15 : PySem.W.codeIn K cd15 "by_turns" = true) (k15 : PySem.W.keepIn K (.ref f15) = true)
    (a16 : PySem.W.nsIn K mainGlobals "_law_cell_at" = some (some (.ref f16)))
    (l16 : K.lookup f16 = some ⟨oc16, od16, .func (PySem.W.fnOf "_law_cell_at" "_law_cell_at" (defArgs s_law_cell_at) (defBody s_law_cell_at) (defScope s_law_cell_at) .none kV16 dc16 pm16 an16 cd16 ct16), sl16⟩)
    (c16 : PySem.W.codeIn K cd16 "_law_cell_at" = true) (k16 : PySem.W.keepIn K (.ref f16) = true)
    (a17 : PySem.W.nsIn K mainGlobals "_law_mixed" = some (some (.ref f17)))
    (l17 : K.lookup f17 = some ⟨oc17, od17, .func (PySem.W.fnOf "_law_mixed" "_law_mixed" (defArgs s_law_mixed) (defBody s_law_mixed) (defScope s_law_mixed) .none kV17 dc17 pm17 an17 cd17 ct17), sl17⟩)
    (c17 : PySem.W.codeIn K cd17 "_law_mixed" = true) (k17 : PySem.W.keepIn K (.ref f17) = true)
    (a18 : PySem.W.nsIn K mainGlobals "_law_order" = some (some (.ref f18)))
    (l18 : K.lookup f18 = some ⟨oc18, od18, .func (PySem.W.fnOf "_law_order" "_law_order" (defArgs s_law_order) (defBody s_law_order) (defScope s_law_order) .none kV18 dc18 pm18 an18 cd18 ct18), sl18⟩)
    (c18 : PySem.W.codeIn K cd18 "_law_order" = true) (k18 : PySem.W.keepIn K (.ref f18) = true)
    (a19 : PySem.W.nsIn K mainGlobals "_law_wishes" = some (some (.ref f19)))
    (l19 : K.lookup f19 = some ⟨oc19, od19, .func (PySem.W.fnOf "_law_wishes" "_law_wishes" (defArgs s_law_wishes) (defBody s_law_wishes) (defScope s_law_wishes) .none kV19 dc19 pm19 an19 cd19 ct19), sl19⟩)
    (c19 : PySem.W.codeIn K cd19 "_law_wishes" = true) (k19 : PySem.W.keepIn K (.ref f19) = true)
    (a20 : PySem.W.nsIn K mainGlobals "_law_renamed" = some (some (.ref f20)))
    (l20 : K.lookup f20 = some ⟨oc20, od20, .func (PySem.W.fnOf "_law_renamed" "_law_renamed" (defArgs s_law_renamed) (defBody s_law_renamed) (defScope s_law_renamed) .none kV20 dc20 pm20 an20 cd20 ct20), sl20⟩)
    (c20 : PySem.W.codeIn K cd20 "_law_renamed" = true) (k20 : PySem.W.keepIn K (.ref f20) = true)
    (a21 : PySem.W.nsIn K mainGlobals "law" = some (some (.ref f21)))
    (l21 : K.lookup f21 = some ⟨oc21, od21, .func (PySem.W.fnOf "law" "law" (defArgs s_law) (defBody s_law) (defScope s_law) .none kV21 dc21 pm21 an21 cd21 ct21), sl21⟩)
    (c21 : PySem.W.codeIn K cd21 "law" = true) (k21 : PySem.W.keepIn K (.ref f21) = true)
    (z_abs : PySem.W.nsIn K mainGlobals "abs" = some none)
    (z_len : PySem.W.nsIn K mainGlobals "len" = some none)
    (z_list : PySem.W.nsIn K mainGlobals "list" = some none)
    (z_range : PySem.W.nsIn K mainGlobals "range" = some none)
    (z_sorted : PySem.W.nsIn K mainGlobals "sorted" = some none)
    (z_tuple : PySem.W.nsIn K mainGlobals "tuple" = some none)
    (acNOTHING : PySem.W.nsIn K mainGlobals "NOTHING" = some (some (.ref tNOTHING)))
    (lcNOTHING : K.lookup tNOTHING = some ⟨.type "tuple", tdNOTHING, .seq #[.int 0 tkNOTHING0, .int 1 tkNOTHING1] tnNOTHING, tslNOTHING⟩)
    (acWHOLE : PySem.W.nsIn K mainGlobals "WHOLE" = some (some (.ref tWHOLE)))
    (lcWHOLE : K.lookup tWHOLE = some ⟨.type "tuple", tdWHOLE, .seq #[.int 1 tkWHOLE0, .int 1 tkWHOLE1] tnWHOLE, tslWHOLE⟩)
    (pg_Meal : PySem.W.plainGet K k_Meal Str.empty = true)
    (hdi_Meal : PySem.W.hasDictIn K k_Meal = true)
    (po_Meal : PySem.W.plainOver K k_Meal = true)
    (sa_Meal : PySem.W.findIn K (.ref k_Meal) "__setattr__" = some (some (.builtin "object.__setattr__")))
    (mk_Meal : PySem.W.makesIn K k_Meal = true)
    (kc_Meal : PySem.W.keepIn K (.ref k_Meal) = true)
    (n_Meal_wishes : PySem.W.findIn K (.ref k_Meal) "wishes" = some none)
    (n_Meal_left : PySem.W.findIn K (.ref k_Meal) "left" = some none)
    (n_Meal_table : PySem.W.findIn K (.ref k_Meal) "table" = some none)
    (n_Meal_time : PySem.W.findIn K (.ref k_Meal) "time" = some none)
    (n_Meal_stops : PySem.W.findIn K (.ref k_Meal) "stops" = some none) :
    ∃ fd : FuncData, (∀ (s : Shared) (v : Value), BindsTo s fd ⟨[v], []⟩ [("_law_script", v)]) ∧ ∀ base : Heap, K.In base → base.Ns mainGlobals mg → FnOk l.prog w K mg base CX0 9 fa fd ["_law_script"] (spF K R_law) := by
  have e2 : fa = f21 := Value.ref.inj (Option.some.inj (hfa.symm.trans (PySem.W.mg_of X G a21)))
  rw [e2]
  have F0 := fun_mk (st := s_common) l0 c0 k0
  have b0 := F0.binds (ps := ["one", "two"]) fun _ _ _ _ _ _ us hl => match us, hl with | [_, _], _ => rfl
  have F1 := fun_mk (st := s_fraction) l1 c1 k1
  have b1 := F1.binds (ps := ["top", "bottom"]) fun _ _ _ _ _ _ us hl => match us, hl with | [_, _], _ => rfl
  have F2 := fun_mk (st := s_plus) l2 c2 k2
  have b2 := F2.binds (ps := ["one", "two"]) fun _ _ _ _ _ _ us hl => match us, hl with | [_, _], _ => rfl
  have F3 := fun_mk (st := s_minus) l3 c3 k3
  have b3 := F3.binds (ps := ["one", "two"]) fun _ _ _ _ _ _ us hl => match us, hl with | [_, _], _ => rfl
  have F4 := fun_mk (st := s_times) l4 c4 k4
  have b4 := F4.binds (ps := ["one", "two"]) fun _ _ _ _ _ _ us hl => match us, hl with | [_, _], _ => rfl
  have F5 := fun_mk (st := s_before) l5 c5 k5
  have b5 := F5.binds (ps := ["one", "two"]) fun _ _ _ _ _ _ us hl => match us, hl with | [_, _], _ => rfl
  have F6 := fun_mk (st := s_likes) l6 c6 k6
  have b6 := F6.binds (ps := ["wish", "left"]) fun _ _ _ _ _ _ us hl => match us, hl with | [_, _], _ => rfl
  have F7 := fun_mk (st := s_Meal___init__) l7 c7 k7
  have b7 := F7.binds (ps := ["self", "wishes"]) fun _ _ _ _ _ _ us hl => match us, hl with | [_, _], _ => rfl
  have F8 := fun_mk (st := s_Meal_eaters) l8 c8 k8
  have b8 := F8.binds (ps := ["self"]) fun _ _ _ _ _ _ us hl => match us, hl with | [_], _ => rfl
  have F9 := fun_mk (st := s_Meal_step) l9 c9 k9
  have b9 := F9.binds (ps := ["self", "found"]) fun _ _ _ _ _ _ us hl => match us, hl with | [_, _], _ => rfl
  have F10 := fun_mk (st := s_Meal_eat) l10 c10 k10
  have b10 := F10.binds (ps := ["self"]) fun _ _ _ _ _ _ us hl => match us, hl with | [_], _ => rfl
  have F11 := fun_mk (st := s_meal_of) l11 c11 k11
  have b11 := F11.binds (ps := ["wishes"]) fun _ _ _ _ _ _ us hl => match us, hl with | [_], _ => rfl
  have F12 := fun_mk (st := s_eaten) l12 c12 k12
  have b12 := F12.binds (ps := ["wishes"]) fun _ _ _ _ _ _ us hl => match us, hl with | [_], _ => rfl
  have F13 := fun_mk (st := s_stops) l13 c13 k13
  have b13 := F13.binds (ps := ["wishes"]) fun _ _ _ _ _ _ us hl => match us, hl with | [_], _ => rfl
  have F14 := fun_mk (st := s_ways_on) l14 c14 k14
  have b14 := F14.binds (ps := ["wishes", "waiting", "left", "counts", "orders"]) fun _ _ _ _ _ _ us hl => match us, hl with | [_, _, _, _, _], _ => rfl
  have F15 := fun_mk (st := s_by_turns) l15 c15 k15
  have b15 := F15.binds (ps := ["wishes"]) fun _ _ _ _ _ _ us hl => match us, hl with | [_], _ => rfl
  have F16 := fun_mk (st := s_law_cell_at) l16 c16 k16
  have b16 := F16.binds (ps := ["_law_script", "_law_k"]) fun _ _ _ _ _ _ us hl => match us, hl with | [_, _], _ => rfl
  have F17 := fun_mk (st := s_law_mixed) l17 c17 k17
  have b17 := F17.binds (ps := ["_law_cell", "_law_place"]) fun _ _ _ _ _ _ us hl => match us, hl with | [_, _], _ => rfl
  have F18 := fun_mk (st := s_law_order) l18 c18 k18
  have b18 := F18.binds (ps := ["_law_number", "_law_count"]) fun _ _ _ _ _ _ us hl => match us, hl with | [_, _], _ => rfl
  have F19 := fun_mk (st := s_law_wishes) l19 c19 k19
  have b19 := F19.binds (ps := ["_law_script", "_law_at", "_law_count"]) fun _ _ _ _ _ _ us hl => match us, hl with | [_, _, _], _ => rfl
  have F20 := fun_mk (st := s_law_renamed) l20 c20 k20
  have b20 := F20.binds (ps := ["_law_rows", "_law_people", "_law_things"]) fun _ _ _ _ _ _ us hl => match us, hl with | [_, _, _], _ => rfl
  have F21 := fun_mk (st := s_law) l21 c21 k21
  have b21 := F21.binds (ps := ["_law_script"]) fun _ _ _ _ _ _ us hl => match us, hl with | [_], _ => rfl
  let T : Txt K mg := { a_common := f0, d_common := _, F_common := F0, b_common := b0, m_common := PySem.W.mg_of X G a0, a_fraction := f1, d_fraction := _, F_fraction := F1, b_fraction := b1, m_fraction := PySem.W.mg_of X G a1, a_plus := f2, d_plus := _, F_plus := F2, b_plus := b2, m_plus := PySem.W.mg_of X G a2, a_minus := f3, d_minus := _, F_minus := F3, b_minus := b3, m_minus := PySem.W.mg_of X G a3, a_times := f4, d_times := _, F_times := F4, b_times := b4, m_times := PySem.W.mg_of X G a4, a_before := f5, d_before := _, F_before := F5, b_before := b5, m_before := PySem.W.mg_of X G a5, a_likes := f6, d_likes := _, F_likes := F6, b_likes := b6, m_likes := PySem.W.mg_of X G a6, a_Meal___init__ := f7, d_Meal___init__ := _, F_Meal___init__ := F7, b_Meal___init__ := b7, K_Meal := ⟨mk_Meal, a7, if7, kc_Meal⟩, a_Meal_eaters := f8, d_Meal_eaters := _, F_Meal_eaters := F8, b_Meal_eaters := b8, t_Meal_eaters := ⟨a8, if8, k8⟩, a_Meal_step := f9, d_Meal_step := _, F_Meal_step := F9, b_Meal_step := b9, t_Meal_step := ⟨a9, if9, k9⟩, a_Meal_eat := f10, d_Meal_eat := _, F_Meal_eat := F10, b_Meal_eat := b10, t_Meal_eat := ⟨a10, if10, k10⟩, a_meal_of := f11, d_meal_of := _, F_meal_of := F11, b_meal_of := b11, m_meal_of := PySem.W.mg_of X G a11, a_eaten := f12, d_eaten := _, F_eaten := F12, b_eaten := b12, m_eaten := PySem.W.mg_of X G a12, a_stops := f13, d_stops := _, F_stops := F13, b_stops := b13, m_stops := PySem.W.mg_of X G a13, a_ways_on := f14, d_ways_on := _, F_ways_on := F14, b_ways_on := b14, m_ways_on := PySem.W.mg_of X G a14, a_by_turns := f15, d_by_turns := _, F_by_turns := F15, b_by_turns := b15, m_by_turns := PySem.W.mg_of X G a15, a_law_cell_at := f16, d_law_cell_at := _, F_law_cell_at := F16, b_law_cell_at := b16, m_law_cell_at := PySem.W.mg_of X G a16, a_law_mixed := f17, d_law_mixed := _, F_law_mixed := F17, b_law_mixed := b17, m_law_mixed := PySem.W.mg_of X G a17, a_law_order := f18, d_law_order := _, F_law_order := F18, b_law_order := b18, m_law_order := PySem.W.mg_of X G a18, a_law_wishes := f19, d_law_wishes := _, F_law_wishes := F19, b_law_wishes := b19, m_law_wishes := PySem.W.mg_of X G a19, a_law_renamed := f20, d_law_renamed := _, F_law_renamed := F20, b_law_renamed := b20, m_law_renamed := PySem.W.mg_of X G a20, a_law := f21, d_law := _, F_law := F21, b_law := b21, m_law := PySem.W.mg_of X G a21, z_abs := PySem.W.mg_none_of X G z_abs, z_len := PySem.W.mg_none_of X G z_len, z_list := PySem.W.mg_none_of X G z_list, z_range := PySem.W.mg_none_of X G z_range, z_sorted := PySem.W.mg_none_of X G z_sorted, z_tuple := PySem.W.mg_none_of X G z_tuple, v_NOTHING := .ref tNOTHING, u_NOTHING := .ref tNOTHING, m_NOTHING := PySem.W.mg_of X G acNOTHING, r_NOTHING := rfl, t_NOTHING := fun H => .tup (xs := [V.int 0, V.int 1]) (.inr ⟨_, _, _, lcNOTHING, rfl, rfl, (by show 2 ≤ sizeLine; decide), .cons ⟨_, rfl⟩ (.cons ⟨_, rfl⟩ (.nil))⟩) (.cons (.int _) (.cons (.int _) (.nil))), v_WHOLE := .ref tWHOLE, u_WHOLE := .ref tWHOLE, m_WHOLE := PySem.W.mg_of X G acWHOLE, r_WHOLE := rfl, t_WHOLE := fun H => .tup (xs := [V.int 1, V.int 1]) (.inr ⟨_, _, _, lcWHOLE, rfl, rfl, (by show 2 ≤ sizeLine; decide), .cons ⟨_, rfl⟩ (.cons ⟨_, rfl⟩ (.nil))⟩) (.cons (.int _) (.cons (.int _) (.nil))), c_Meal := k_Meal, g_Meal := PySem.W.mg_of X G agMeal, cl_Meal := ⟨pg_Meal, hdi_Meal, po_Meal, sa_Meal⟩, n_Meal_wishes := n_Meal_wishes, n_Meal_left := n_Meal_left, n_Meal_table := n_Meal_table, n_Meal_time := n_Meal_time, n_Meal_stops := n_Meal_stops }
  exact ⟨PySem.W.fnOf "law" "law" (defArgs s_law) (defBody s_law) (defScope s_law) .none kV21 dc21 pm21 an21 cd21 ct21, fun s v => .of_eq rfl, fun base _ _ => ok_law (P := l.prog) (w := w) (base := base) T⟩
theorem walk {l : PySem.W.OpenLaw} {q : Program} {loose : List Str} {XP : (Str → Option Value) → Heap → Prop} {YP : World → Heap → Prop} {d : DefRec} {K : Params → PySem.W.Frag} (hn : l.most = some 63) (hdf : d.params.defaults = [])
    (hY : ∀ (w : World) (h : Heap), YP w h → (K w.params).In h)
    (F : ∀ (w : World) (mg : Str → Option Value) (fa : Addr) (h : Heap), (K w.params).In h → h.Ns mainGlobals mg → mg d.name = some (.ref fa) →
      ∃ fd : FuncData, (∀ (s : Shared) (u : Value), BindsTo s fd ⟨[u], []⟩ [("_law_script", u)]) ∧ ∀ base : Heap, (K w.params).In base → base.Ns mainGlobals mg → FnOk l.prog w (K w.params) mg base CX0 9 fa fd ["_law_script"] (spF (K w.params) R_law)) :
    PySem.W.WalkO q loose XP YP l.row.toRowW d [] (fun f vs => PySem.call f vs) :=
  L2.walk_of (n := 63) (k := 9) (x := "_law_script") (CX := fun _ => CX0) (sp := fun w => spF (K w.params) R_law) hn (by decide) hdf ⟨rfl, by decide, by decide⟩ hY F (fun _ _ a ns hl hb hS => law_of a ns hl hS) fun _ _ _ _ _ z => z
end WL
open PySem PySem.W PyProof.Rows
set_option maxRecDepth 100000 in
set_option maxHeartbeats 0 in
theorem PySem.Challenge.cw_wishlots_k64_whole_names_turned_about_holds : PySem.Challenge.rw_wishlots_k64_whole_names_turned_about.Holds := by
  w_on; o_law; k_head; (case hw => w_witness2)
  k_fill
  refine WL.walk (l := PySem.Challenge.rw_wishlots_k64_whole_names_turned_about) rfl rfl (fun w h Y => PySem.W.kIn_of Y) ?F
  case F =>
    intro w mg fa h KX G hmg
    refine' WL.all_mk KX G hmg ?agMeal ?a0 ?l0 ?c0 ?k0 ?a1 ?l1 ?c1 ?k1 ?a2 ?l2 ?c2 ?k2 ?a3 ?l3 ?c3 ?k3 ?a4 ?l4 ?c4 ?k4 ?a5 ?l5 ?c5 ?k5 ?a6 ?l6 ?c6 ?k6 ?a7 ?if7 ?l7 ?c7 ?k7 ?a8 ?if8 ?l8 ?c8 ?k8 ?a9 ?if9 ?l9 ?c9 ?k9 ?a10 ?if10 ?l10 ?c10 ?k10 ?a11 ?l11 ?c11 ?k11 ?a12 ?l12 ?c12 ?k12 ?a13 ?l13 ?c13 ?k13 ?a14 ?l14 ?c14 ?k14 ?a15 ?l15 ?c15 ?k15 ?a16 ?l16 ?c16 ?k16 ?a17 ?l17 ?c17 ?k17 ?a18 ?l18 ?c18 ?k18 ?a19 ?l19 ?c19 ?k19 ?a20 ?l20 ?c20 ?k20 ?a21 ?l21 ?c21 ?k21 ?z_abs ?z_len ?z_list ?z_range ?z_sorted ?z_tuple ?acNOTHING ?lcNOTHING ?acWHOLE ?lcWHOLE ?pg_Meal ?hdi_Meal ?po_Meal ?sa_Meal ?mk_Meal ?kc_Meal ?n_Meal_wishes ?n_Meal_left ?n_Meal_table ?n_Meal_time ?n_Meal_stops
    (case agMeal => k_is)
    (case a0 => k_is)
    (case l0 => k_is)
    (case c0 => k_is)
    (case k0 => k_is)
    (case a1 => k_is)
    (case l1 => k_is)
    (case c1 => k_is)
    (case k1 => k_is)
    (case a2 => k_is)
    (case l2 => k_is)
    (case c2 => k_is)
    (case k2 => k_is)
    (case a3 => k_is)
    (case l3 => k_is)
    (case c3 => k_is)
    (case k3 => k_is)
    (case a4 => k_is)
    (case l4 => k_is)
    (case c4 => k_is)
    (case k4 => k_is)
    (case a5 => k_is)
    (case l5 => k_is)
    (case c5 => k_is)
    (case k5 => k_is)
    (case a6 => k_is)
    (case l6 => k_is)
    (case c6 => k_is)
    (case k6 => k_is)
    (case a7 => k_is)
    (case if7 => k_is)
    (case l7 => k_is)
    (case c7 => k_is)
    (case k7 => k_is)
    (case a8 => k_is)
    (case if8 => k_is)
    (case l8 => k_is)
    (case c8 => k_is)
    (case k8 => k_is)
    (case a9 => k_is)
    (case if9 => k_is)
    (case l9 => k_is)
    (case c9 => k_is)
    (case k9 => k_is)
    (case a10 => k_is)
    (case if10 => k_is)
    (case l10 => k_is)
    (case c10 => k_is)
    (case k10 => k_is)
    (case a11 => k_is)
    (case l11 => k_is)
    (case c11 => k_is)
    (case k11 => k_is)
    (case a12 => k_is)
    (case l12 => k_is)
    (case c12 => k_is)
    (case k12 => k_is)
    (case a13 => k_is)
    (case l13 => k_is)
    (case c13 => k_is)
    (case k13 => k_is)
    (case a14 => k_is)
    (case l14 => k_is)
    (case c14 => k_is)
    (case k14 => k_is)
    (case a15 => k_is)
    (case l15 => k_is)
    (case c15 => k_is)
    (case k15 => k_is)
    (case a16 => k_is)
    (case l16 => k_is)
    (case c16 => k_is)
    (case k16 => k_is)
    (case a17 => k_is)
    (case l17 => k_is)
    (case c17 => k_is)
    (case k17 => k_is)
    (case a18 => k_is)
    (case l18 => k_is)
    (case c18 => k_is)
    (case k18 => k_is)
    (case a19 => k_is)
    (case l19 => k_is)
    (case c19 => k_is)
    (case k19 => k_is)
    (case a20 => k_is)
    (case l20 => k_is)
    (case c20 => k_is)
    (case k20 => k_is)
    (case a21 => k_is)
    (case l21 => k_is)
    (case c21 => k_is)
    (case k21 => k_is)
    (case z_abs => k_is)
    (case z_len => k_is)
    (case z_list => k_is)
    (case z_range => k_is)
    (case z_sorted => k_is)
    (case z_tuple => k_is)
    (case acNOTHING => k_is)
    (case lcNOTHING => k_is)
    (case acWHOLE => k_is)
    (case lcWHOLE => k_is)
    (case pg_Meal => k_is)
    (case hdi_Meal => k_is)
    (case po_Meal => k_is)
    (case sa_Meal => k_is)
    (case mk_Meal => k_is)
    (case kc_Meal => k_is)
    (case n_Meal_wishes => k_is)
    (case n_Meal_left => k_is)
    (case n_Meal_table => k_is)
    (case n_Meal_time => k_is)
    (case n_Meal_stops => k_is)
#print axioms PySem.Challenge.cw_wishlots_k64_whole_names_turned_about_holds

