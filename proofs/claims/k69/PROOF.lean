import PyProof.Rows.All
import HandS.ForMost
import HandS.Walk
import HandS.IsInst
import HandS.StrMore
import HandS.TupAny
import HandS.ForExc
import HandS.NoneIn
import HandS.Lambda
import HandS.TupMul
import HandS.Style
import HandS.Wide
import HandS.WideBits
import PyProof.StrBlock2
import KE.KNest
import HandS.Conv
import HandS.Zip
import KE.GoesMore
import HandS.Text
import HandS.ExcOwn
import HandS.Small
import KE.GoesZip
import HandS.SetFor
import HandS.Strs
import HandS.Iter
import HandS.ExcIs
import HandS.Replace
import HandS.ReplaceLit
import HandS.ReplaceDef
import HandS.More
import HandS.Star
import PyProof.StrLawsFrom
import PySem.Challenge.RW_leastmakers_k69_rounds_and_reads
set_option Elab.async false
set_option linter.all false
set_option maxRecDepth 100000
/-! The pure layer: data by value, lists frozen once they are shared, draws as an effect. -/
namespace Q
open PySem PySem.Spec PyProof.Rows L2

abbrev D := PyData
structure Exn where
  cls : Str
/-- what a piece of code comes to -/
inductive M (α : Type) : Type where
  | ret (a : α)
  | draw (n : Int) (k : Int → M α)
  | raise (e : Exn)
  | fail
def M.bind {α β : Type} : M α → (α → M β) → M β
  | .ret a, f => f a
  | .draw n k, f => .draw n fun r => (k r).bind f
  | .raise e, _ => .raise e
  | .fail, _ => .fail
instance : Monad M where
  pure := M.ret
  bind := M.bind
/-- no error leaves it -/
def M.calm {α : Type} : M α → M α
  | .ret a => .ret a
  | .draw n k => .draw n fun r => (k r).calm
  | .raise _ => .fail
  | .fail => .fail
def wp {α : Type} : M α → (α → Prop) → (Exn → Prop) → Prop
  | .ret a, Q, _ => Q a
  | .draw n k, Q, R => (0 < n ∧ n < 1073741824) ∧ ∀ r, 0 ≤ r → r < n → wp (k r) Q R
  | .raise e, _, R => R e
  | .fail, _, _ => False
theorem wp_mono {α : Type} {Q Q' : α → Prop} {R R' : Exn → Prop} : ∀ {m : M α}, wp m Q R → (∀ a, Q a → Q' a) → (∀ e, R e → R' e) → wp m Q' R'
  | .ret _, h, q, _ => q _ h
  | .draw _ _, h, q, r => ⟨h.1, fun x h0 h1 => wp_mono (h.2 x h0 h1) q r⟩
  | .raise _, h, _, r => r _ h
  | .fail, h, _, _ => h.elim
theorem wp_bind {α β : Type} {f : α → M β} {Q : β → Prop} {R : Exn → Prop} : ∀ {m : M α}, wp (m.bind f) Q R ↔ wp m (fun a => wp (f a) Q R) R
  | .ret _ => Iff.rfl
  | .draw _ _ => ⟨fun h => ⟨h.1, fun x h0 h1 => wp_bind.mp (h.2 x h0 h1)⟩, fun h => ⟨h.1, fun x h0 h1 => wp_bind.mpr (h.2 x h0 h1)⟩⟩
  | .raise _ => Iff.rfl
  | .fail => Iff.rfl
theorem wp_calm {α : Type} {Q : α → Prop} {R : Exn → Prop} : ∀ {m : M α}, wp m.calm Q R → wp m Q (fun _ => False)
  | .ret _, h => h
  | .draw _ _, h => ⟨h.1, fun x h0 h1 => wp_calm (h.2 x h0 h1)⟩
  | .raise _, h => h
  | .fail, h => h

/-! ### the well -/
structure WA where
  a : Addr
  g : Addr
  c : Addr
/-- what a law's well is: by the objects at its three addresses -/
class WellKind where
  P : Addr → Addr → HO → HO → HO → Prop
  /-- the tables of code objects that are written on -/
  T : List (Addr × Str)
  nt : ∀ g c oa og oc, P g c oa og oc → (∀ ps, oa ≠ .tbl ps) ∧ (∀ ps, og ≠ .tbl ps) ∧ ∀ ps, oc ≠ .tbl ps
variable [WellKind]
structure WellOk (H : Hp) (x : WA) : Prop where
  ex : ∃ oa og oc, H x.a = some oa ∧ H x.g = some og ∧ H x.c = some oc ∧ WellKind.P x.g x.c oa og oc
  ag : x.a ≠ x.g
  ac : x.a ≠ x.c
  gc : x.g ≠ x.c
/-- the tables stand -/
def Tbs (H : Hp) : Prop := LamX.Tabs WellKind.T H
/-- what may have happened to the heap -/
structure Grow (w : Option WA) (H H' : Hp) : Prop where
  tups : ∀ b xs, H b = some (.tup xs) → H' b = some (.tup xs)
  frzs : ∀ b o u, H b = some (.frz o u) → H' b = some (.frz o u)
  keep : ∀ b o, H b = some o → (∀ ps, o ≠ .tbl ps) → (∀ x, w = some x → b ≠ x.a ∧ b ≠ x.g) → H' b = some o
  well : ∀ x, w = some x → WellOk H' x
  tabs : Tbs H → Tbs H'
section
variable {w : Option WA} {H H1 H2 : Hp}
/-- nothing is known there, or a table -/
def Nn (H : Hp) (p : Addr) : Prop := ∀ o, H p = some o → ∃ ps, o = .tbl ps
omit [WellKind] in
theorem Nn.ne {p b : Addr} {o : HO} (h : Nn H p) (e : H b = some o) (t : ∀ ps, o ≠ .tbl ps) : b ≠ p := fun z => by
  subst z
  obtain ⟨ps, q⟩ := h o e
  exact t ps q
theorem Grow.nnOf {p : Addr} (g : Grow w H H1) (e : H1 p = none) (n : ∀ x, w = some x → p ≠ x.a ∧ p ≠ x.g) : Nn H p := fun o q => Classical.byContradiction fun z => by
  rw [g.keep p o q (fun ps y => z ⟨ps, y⟩) n] at e; cases e
theorem Tbs.stay (t : Tbs H) (k1 : ∀ b ps, H b = some (.tbl ps) → H1 b = some (.tbl ps)) (k2 : ∀ c q, H c = some (LamX.CodeO c q) → H1 c = some (LamX.CodeO c q)) : Tbs H1 := fun p hp => by
  obtain ⟨ps, a1, a2, a3⟩ := t p hp
  refine ⟨ps, k1 _ _ a1, a2, fun pos cv hc => ?_⟩
  obtain ⟨c, e1, e2⟩ := a3 pos cv hc
  exact ⟨c, e1, k2 _ _ e2⟩
theorem Tbs.ext (t : Tbs H) (k : ∀ b o, H b = some o → H1 b = some o) : Tbs H1 := t.stay (fun b ps e => k b _ e) fun c q e => k c _ e
/-- a list is written on -/
theorem Tbs.lst {p : Addr} {vs : List V} {o : HO} (t : Tbs H) (h : H p = some (.lst vs)) : Tbs (upd H p o) :=
  t.stay (fun b ps e => by rw [upd_ne (fun z => by (rw [z, h] at e; cases e))]; exact e) fun c q e => by rw [upd_ne (fun z => by (rw [z, h] at e; cases e))]; exact e
theorem Grow.refl (h : ∀ x, w = some x → WellOk H x) : Grow w H H := ⟨fun _ _ e => e, fun _ _ _ e => e, fun _ _ e _ _ => e, h, fun t => t⟩
theorem Grow.trans (a : Grow w H H1) (b : Grow w H1 H2) : Grow w H H2 :=
  ⟨fun c xs e => b.tups c xs (a.tups c xs e), fun c o u e => b.frzs c o u (a.frzs c o u e), fun c o e t n => b.keep c o (a.keep c o e t n) t n, b.well, fun t => b.tabs (a.tabs t)⟩
theorem WellOk.none_ne {x : WA} {p : Addr} (h : WellOk H x) (e : H p = none) : p ≠ x.a ∧ p ≠ x.g ∧ p ≠ x.c := by
  obtain ⟨oa, og, oc, h1, h2, h3, _⟩ := h.ex
  exact ⟨fun z => by (rw [z, h1] at e; cases e), fun z => by (rw [z, h2] at e; cases e), fun z => by (rw [z, h3] at e; cases e)⟩
theorem WellOk.at_ne {x : WA} {p : Addr} {o : HO} (h : WellOk H x) (hp : p ≠ x.a ∧ p ≠ x.g ∧ p ≠ x.c) : WellOk (upd H p o) x := by
  obtain ⟨oa, og, oc, h1, h2, h3, r⟩ := h.ex
  exact ⟨⟨oa, og, oc, by rw [upd_ne hp.1.symm]; exact h1, by rw [upd_ne hp.2.1.symm]; exact h2, by rw [upd_ne hp.2.2.symm]; exact h3, r⟩, h.ag, h.ac, h.gc⟩
/-- the tables alone are written on -/
theorem Grow.ofExtN (h : ∀ x, w = some x → WellOk H x) (k : LamX.ExtN H H1) (t : Tbs H1) : Grow w H H1 :=
  ⟨fun b xs e => k b _ e (fun _ z => (nomatch z)), fun b o u e => k b _ e (fun _ z => (nomatch z)), fun b o e n _ => k b o e n, (fun x hx => by
    obtain ⟨oa, og, oc, h1, h2, h3, hP⟩ := (h x hx).ex
    obtain ⟨n1, n2, n3⟩ := WellKind.nt _ _ _ _ _ hP
    exact ⟨⟨oa, og, oc, k _ _ h1 n1, k _ _ h2 n2, k _ _ h3 n3, hP⟩, (h x hx).ag, (h x hx).ac, (h x hx).gc⟩), fun _ => t⟩
/-- a new object -/
theorem Grow.new {p : Addr} {o : HO} (h : ∀ x, w = some x → WellOk H x) (e : H p = none) : Grow w H (upd H p o) :=
  ⟨fun c xs q => by rw [upd_ne (ne_of_none q e)]; exact q, fun c ob u q => by rw [upd_ne (ne_of_none q e)]; exact q, fun c ob q _ _ => by rw [upd_ne (ne_of_none q e)]; exact q,
    fun x hx => (h x hx).at_ne ((h x hx).none_ne e), fun t => t.ext fun b ob q => by rw [upd_ne (ne_of_none q e)]; exact q⟩
/-- a new object, put in another way -/
theorem Grow.new2 {p : Addr} {o u : HO} (h : ∀ x, w = some x → WellOk H x) (e : H p = none) : Grow w H (upd (upd H p o) p u) := by
  rw [upd_upd]; exact Grow.new h e
end

/-! ### data -/
/-- a list that nobody writes any more -/
def FzL (H : Hp) (a : Addr) (xs : List V) : Prop := ∃ o, H a = some (.frz o (.lst xs))
theorem FzL.sq {K : PySem.W.Frag} {H : Hp} {a : Addr} {xs : List V} (h : FzL H a xs) : SqL K H a xs := .inl (.inr h)
theorem FzL.grow {w : Option WA} {H H' : Hp} {a : Addr} {xs : List V} (h : FzL H a xs) (g : Grow w H H') : FzL H' a xs := by
  obtain ⟨o, h⟩ := h
  exact ⟨o, g.frzs _ _ _ h⟩
theorem sqT_grow {K : PySem.W.Frag} {w : Option WA} {H H' : Hp} {a : Addr} {xs : List V} (h : SqT K H a xs) (g : Grow w H H') : SqT K H' a xs := by
  rcases h with (h | ⟨o, h⟩) | h
  · exact .inl (.inl (g.tups _ _ h))
  · exact .inl (.inr ⟨o, g.frzs _ _ _ h⟩)
  · exact .inr h
/-- a dict that nobody writes any more -/
def FzD (H : Hp) (a : Addr) (kvs : List (Key × V)) : Prop := ∃ o, H a = some (.frz o (.dK kvs))
def kD : Key → D
  | .inl i => .int i
  | .inr x => .str x
mutual
inductive Den (K : PySem.W.Frag) (H : Hp) : V → D → Prop
  | non : Den K H .non .none
  | bl (b : Bool) : Den K H (.bl b) (.bool b)
  | int (i : Int) : Den K H (.int i) (.int i)
  | str (x : Str) : Den K H (.str x) (.str x)
  | lst {a : Addr} {xs : List V} {ds : List D} : FzL H a xs → DenAll K H xs ds → Den K H (.ref a) (.list ds)
  | tup {a : Addr} {xs : List V} {ds : List D} : SqT K H a xs → DenAll K H xs ds → Den K H (.ref a) (.tuple ds)
  | dct {a : Addr} {kvs : List (Key × V)} {ds : List D} : FzD H a kvs → DenAll K H (kvs.map (·.2)) ds → Den K H (.ref a) (.dict ((kvs.map fun kv => kD kv.1).zip ds))
inductive DenAll (K : PySem.W.Frag) (H : Hp) : List V → List D → Prop
  | nil : DenAll K H [] []
  | cons {v : V} {vs : List V} {d : D} {ds : List D} : Den K H v d → DenAll K H vs ds → DenAll K H (v :: vs) (d :: ds)
end
section
variable {K : PySem.W.Frag} {w : Option WA} {H H' : Hp}
mutual
theorem Den.grow (g : Grow w H H') : ∀ {v : V} {d : D}, Den K H v d → Den K H' v d
  | _, _, .non => .non
  | _, _, .bl b => .bl b
  | _, _, .int i => .int i
  | _, _, .str x => .str x
  | _, _, .lst h a => .lst (h.grow g) (DenAll.grow g a)
  | _, _, .tup h a => .tup (sqT_grow h g) (DenAll.grow g a)
  | _, _, .dct ⟨o, h⟩ a => .dct ⟨o, g.frzs _ _ _ h⟩ (DenAll.grow g a)
theorem DenAll.grow (g : Grow w H H') : ∀ {vs : List V} {ds : List D}, DenAll K H vs ds → DenAll K H' vs ds
  | _, _, .nil => .nil
  | _, _, .cons a b => .cons (Den.grow g a) (DenAll.grow g b)
end
theorem DenAll.length : ∀ {vs : List V} {ds : List D}, DenAll K H vs ds → vs.length = ds.length
  | _, _, .nil => rfl
  | _, _, .cons _ b => by rw [List.length_cons, List.length_cons, b.length]
theorem DenAll.get : ∀ {vs : List V} {ds : List D} {i : Nat} {v : V}, DenAll K H vs ds → vs[i]? = some v → ∃ d, ds[i]? = some d ∧ Den K H v d
  | _, _, _, _, .nil, e => by simp at e
  | _, _, 0, _, .cons a _, e => by simp at e; subst e; exact ⟨_, rfl, a⟩
  | _, _, i + 1, v, .cons _ b, e => by
    obtain ⟨d, h1, h2⟩ := DenAll.get (i := i) (v := v) b (by simpa using e)
    exact ⟨d, by simpa using h1, h2⟩
theorem DenAll.getD : ∀ {vs : List V} {ds : List D} {i : Nat} {d : D}, DenAll K H vs ds → ds[i]? = some d → ∃ v, vs[i]? = some v ∧ Den K H v d
  | _, _, _, _, .nil, e => by simp at e
  | _, _, 0, _, .cons a _, e => by simp at e; subst e; exact ⟨_, rfl, a⟩
  | _, _, i + 1, v, .cons _ b, e => by
    obtain ⟨d, h1, h2⟩ := DenAll.getD (i := i) (d := v) b (by simpa using e)
    exact ⟨d, by simpa using h1, h2⟩
theorem DenAll.append : ∀ {vs ws : List V} {ds es : List D}, DenAll K H vs ds → DenAll K H ws es → DenAll K H (vs ++ ws) (ds ++ es)
  | _, _, _, _, .nil, b => b
  | _, _, _, _, .cons a r, b => .cons a (DenAll.append r b)
theorem DenAll.take : ∀ {vs : List V} {ds : List D} (n : Nat), DenAll K H vs ds → DenAll K H (vs.take n) (ds.take n)
  | _, _, 0, _ => by simp; exact .nil
  | _, _, _ + 1, .nil => .nil
  | _, _, n + 1, .cons a r => .cons a (DenAll.take n r)
theorem DenAll.drop : ∀ {vs : List V} {ds : List D} (n : Nat), DenAll K H vs ds → DenAll K H (vs.drop n) (ds.drop n)
  | _, _, 0, r => r
  | _, _, _ + 1, .nil => .nil
  | _, _, n + 1, .cons _ r => DenAll.drop n r
theorem DenAll.reverse {vs : List V} {ds : List D} (h : DenAll K H vs ds) : DenAll K H vs.reverse ds.reverse := by
  induction h using DenAll.rec (motive_1 := fun _ _ _ => True) with
  | nil => exact .nil
  | cons a r _ ih => rw [List.reverse_cons, List.reverse_cons]; exact ih.append (.cons a .nil)
  | _ => trivial
theorem DenAll.set : ∀ {vs : List V} {ds : List D} {v : V} {d : D} (i : Nat), DenAll K H vs ds → Den K H v d → DenAll K H (vs.set i v) (ds.set i d)
  | _, _, _, _, _, .nil, _ => .nil
  | _, _, _, _, 0, .cons _ r, h => .cons h r
  | _, _, _, _, i + 1, .cons a r, h => .cons a (DenAll.set i r h)
theorem DenAll.eraseIdx : ∀ {vs : List V} {ds : List D} (i : Nat), DenAll K H vs ds → DenAll K H (vs.eraseIdx i) (ds.eraseIdx i)
  | _, _, _, .nil => .nil
  | _, _, 0, .cons _ r => r
  | _, _, i + 1, .cons a r => .cons a (DenAll.eraseIdx i r)
theorem DenAll.rep {vs : List V} {ds : List D} (h : DenAll K H vs ds) : ∀ k : Nat, DenAll K H (List.replicate k vs).flatten (List.replicate k ds).flatten
  | 0 => .nil
  | k + 1 => by rw [List.replicate_succ, List.replicate_succ, List.flatten_cons, List.flatten_cons]; exact h.append (h.rep k)
/-- a value that may be read here and now: data, or a list of the def's own -/
inductive BDen (K : PySem.W.Frag) (w : Option WA) (H : Hp) : V → D → Prop
  | den {v : V} {d : D} : Den K H v d → BDen K w H v d
  | own {p : Addr} {vs : List V} {ds : List D} : H p = some (.lst vs) → DenAll K H vs ds → (∀ x, w = some x → p ≠ x.a ∧ p ≠ x.g) → BDen K w H (.ref p) (.list ds)
theorem BDen.grow {v : V} {d : D} (g : Grow w H H') (h : BDen K w H v d) : BDen K w H' v d := by
  cases h with
  | den h => exact .den (h.grow g)
  | own h a n => exact .own (g.keep _ _ h (fun _ z => nomatch z) n) (a.grow g) n
inductive BDenAll (K : PySem.W.Frag) (w : Option WA) (H : Hp) : List V → List D → Prop
  | nil : BDenAll K w H [] []
  | cons {v : V} {vs : List V} {d : D} {ds : List D} : BDen K w H v d → BDenAll K w H vs ds → BDenAll K w H (v :: vs) (d :: ds)
/-- a list to be read -/
theorem BDen.list {v : V} {ds : List D} (h : BDen K w H v (.list ds)) : ∃ a xs, v = .ref a ∧ Rd H a (.lst xs) ∧ DenAll K H xs ds := by
  cases h with
  | den h => cases h with
    | lst h a => exact ⟨_, _, rfl, .inr h, a⟩
  | own h a _ => exact ⟨_, _, rfl, .of h, a⟩
theorem BDen.tuple {v : V} {ds : List D} (h : BDen K w H v (.tuple ds)) : ∃ a xs, v = .ref a ∧ SqT K H a xs ∧ DenAll K H xs ds := by
  cases h with
  | den h => cases h with
    | tup h a => exact ⟨_, _, rfl, h, a⟩
theorem BDen.int {v : V} {i : Int} (h : BDen K w H v (.int i)) : v = .int i := by
  cases h with
  | den h => cases h; rfl
theorem BDen.bool {v : V} {i : Bool} (h : BDen K w H v (.bool i)) : v = .bl i := by
  cases h with
  | den h => cases h; rfl
theorem BDen.str {v : V} {i : Str} (h : BDen K w H v (.str i)) : v = .str i := by
  cases h with
  | den h => cases h; rfl
theorem BDen.non {v : V} (h : BDen K w H v .none) : v = .non := by
  cases h with
  | den h => cases h; rfl
/-- into the layer's own word for data (no dicts) -/
theorem canLayAll_iff (xs : List D) : PyData.canLayAll0 xs = true ↔ ∀ x ∈ xs, PyData.canLay0 x = true := by
  induction xs with
  | nil => simp [PyData.canLayAll0]
  | cons x r ih => simp [PyData.canLayAll0, ih]
mutual
theorem Den.dp : ∀ {v : V} {d : D}, Den K H v d → PyData.canLay0 d = true → Dp K H v d
  | _, _, .non, _ => .non
  | _, _, .bl b, _ => .bl b
  | _, _, .int i, _ => .int i
  | _, _, .str x, _ => .str x
  | _, _, .lst h a, e => .lst h.sq (DenAll.dp a (by simpa [PyData.canLay0] using e))
  | _, _, .tup h a, e => .tup h (DenAll.dp a (by simpa [PyData.canLay0] using e))
  | _, _, .dct _ _, e => by simp [PyData.canLay0] at e
theorem DenAll.dp : ∀ {vs : List V} {ds : List D}, DenAll K H vs ds → PyData.canLayAll0 ds = true → DpAll K H vs ds
  | _, _, .nil, _ => .nil
  | _, _, .cons a b, e => by
    have e' := (canLayAll_iff _).mp e
    exact .cons (Den.dp a (e' _ List.mem_cons_self)) (DenAll.dp b ((canLayAll_iff _).mpr fun x hx => e' x (List.mem_cons_of_mem _ hx)))
end
theorem BDen.dp {v : V} {d : D} (h : BDen K w H v d) (e : PyData.canLay0 d = true) : Dp K H v d := by
  cases h with
  | den h => exact h.dp e
  | own h a _ => exact .lst (.of h) (a.dp (by simpa [PyData.canLay0] using e))
end

/-! ### slots -/
inductive Slot where
  | emp
  | dat (d : D)
  | own (ds : List D)
  | well
abbrev Env := List Slot
def SlotOk (K : PySem.W.Frag) (w : Option WA) (H : Hp) (ov : Option (Option V)) : Slot → Prop
  | .emp => True
  | .dat d => ∃ v, ov = some (some v) ∧ Den K H v d
  | .own ds => ∃ p vs, ov = some (some (.ref p)) ∧ H p = some (.lst vs) ∧ DenAll K H vs ds ∧ ∀ x, w = some x → p ≠ x.a ∧ p ≠ x.g ∧ p ≠ x.c
  | .well => ∃ x, w = some x ∧ ov = some (some (.ref x.a))
structure RD (K : PySem.W.Frag) (w : Option WA) (H : Hp) (σ : L2.St) (δ : Env) : Prop where
  slot : ∀ (i : Nat) (s : Slot), δ[i]? = some s → SlotOk K w H σ[i]? s
  well : ∀ x, w = some x → WellOk H x
  len : σ.length = δ.length
  tabs : Tbs H
section
variable {K : PySem.W.Frag} {w : Option WA} {H H' : Hp} {σ : L2.St} {δ : Env}
theorem SlotOk.grow {ov : Option (Option V)} {s : Slot} (g : Grow w H H') (h : SlotOk K w H ov s) : SlotOk K w H' ov s := by
  cases s with
  | emp => trivial
  | dat d => obtain ⟨v, e, h⟩ := h; exact ⟨v, e, h.grow g⟩
  | own ds => obtain ⟨p, vs, e, h1, h2, h3⟩ := h; exact ⟨p, vs, e, g.keep _ _ h1 (fun _ z => nomatch z) (fun x hx => ⟨(h3 x hx).1, (h3 x hx).2.1⟩), h2.grow g, h3⟩
  | well => exact h
theorem RD.grow (g : Grow w H H') (r : RD K w H σ δ) : RD K w H' σ δ := ⟨fun i s e => (r.slot i s e).grow g, g.well, r.len, g.tabs r.tabs⟩
end

/-! ### what is wanted of an error -/
def Raised (mg : Str → Option Value) (E : XK) (ex : Exn) (H : Hp) : Prop := ∃ C, mg ex.cls = some (.ref C) ∧ E (.ref C) none H
def XP (mg : Str → Option Value) (E : XK) (w : Option WA) (H : Hp) (ex : Exn) : Prop := ∀ H', Grow w H H' → Raised mg E ex H'
theorem XP.grow {mg : Str → Option Value} {E : XK} {w : Option WA} {H H' : Hp} {ex : Exn} (g : Grow w H H') (h : XP mg E w H ex) : XP mg E w H' ex := fun H2 g2 => h H2 (g.trans g2)

/-! ### expressions -/
/-- e gives data -/
def QE (X : Cx) (E : XK) (e : Expr) (m : Env → M D) : Prop :=
  ∃ t, PE X e t ∧ ∀ w σ H δ Q, RD X.K w H σ δ → wp (m δ) (fun d => ∀ v H', Grow w H H' → Den X.K H' v d → Q v H') (XP X.mg E w H) → t σ H Q
/-- e gives something to be read at once -/
def QB (X : Cx) (E : XK) (e : Expr) (m : Env → M D) : Prop :=
  ∃ t, PE X e t ∧ ∀ w σ H δ Q, RD X.K w H σ δ → wp (m δ) (fun d => ∀ v H', Grow w H H' → BDen X.K w H' v d → Q v H') (XP X.mg E w H) → t σ H Q
/-- e gives a new list -/
def QF (X : Cx) (E : XK) (e : Expr) (m : Env → M (List D)) : Prop :=
  ∃ t, PE X e t ∧ ∀ w σ H δ Q, RD X.K w H σ δ → wp (m δ) (fun ds => ∀ p vs H', Grow w H H' → Nn H p → H' p = some (.lst vs) → (∀ x, w = some x → p ≠ x.a ∧ p ≠ x.g ∧ p ≠ x.c) → DenAll X.K H' vs ds → Q (.ref p) H') (XP X.mg E w H) → t σ H Q
/-- e as a test -/
def QT (X : Cx) (E : XK) (e : Expr) (m : Env → M Bool) : Prop :=
  ∃ t, PT X e t ∧ ∀ w σ H δ Q, RD X.K w H σ δ → wp (m δ) (fun b => ∀ H', Grow w H H' → Q b H') (XP X.mg E w H) → t σ H Q
/-- arguments for a built-in -/
def QA (X : Cx) (E : XK) (es : List Expr) (m : Env → M (List D)) : Prop :=
  ∃ t, PA X es t ∧ ∀ w σ H δ Q, RD X.K w H σ δ → wp (m δ) (fun ds => ∀ vs H', Grow w H H' → BDenAll X.K w H' vs ds → Q vs H') (XP X.mg E w H) → t σ H Q
/-- items of a display -/
def QI (X : Cx) (E : XK) (es : List Expr) (m : Env → M (List D)) : Prop :=
  ∃ t, PA X es t ∧ ∀ w σ H δ Q, RD X.K w H σ δ → wp (m δ) (fun ds => ∀ vs H', Grow w H H' → DenAll X.K H' vs ds → Q vs H') (XP X.mg E w H) → t σ H Q
section
variable {X : Cx} {E : XK} {e a b c : Expr} {ma mb mc : Env → M D} {pos : Pos}
theorem QE.bb (h : QE X E e ma) : QB X E e ma := by
  obtain ⟨t, h1, h2⟩ := h
  exact ⟨t, h1, fun w σ H δ Q r q => h2 w σ H δ Q r (wp_mono q (fun d k v H' g n => k v H' g (.den n)) fun _ z => z)⟩
/-- reading one after another -/
theorem wp_then {α : Type} {m : M α} {w : Option WA} {H : Hp} {mg : Str → Option Value} {E : XK} {P P' : α → Prop} (h : wp m P (XP mg E w H)) (k : ∀ a, P a → P' a) : wp m P' (XP mg E w H) := wp_mono h k fun _ z => z
/-! names and constants -/
def eC (d : D) (_ : Env) : M D := .ret d
def eVar (i : Nat) (δ : Env) : M D := match δ[i]? with
  | some (.dat d) => .ret d
  | _ => .fail
def eOwn (i : Nat) (δ : Env) : M D := match δ[i]? with
  | some (.dat d) => .ret d
  | some (.own ds) => .ret (.list ds)
  | _ => .fail
theorem qe_var (i : Nat) {x : Str} (hN : X.N[i]? = some x := by rfl) (hv : Vis X.env.scope x := by first | exact Or.inl rfl | exact Or.inr (Or.inl rfl) | exact Or.inr (Or.inr rfl))
    (hd : (x == ("__debug__" : Str)) = false := by decide) (hcd : (x == ("__classdict__" : Str)) = false := by decide) : QE X E (.Name x pos) (eVar i) := by
  refine ⟨_, pe_var hN hv hd hcd, fun w σ H δ Q r q => ?_⟩
  unfold eVar at q
  split at q
  · rename_i d e
    obtain ⟨v, e1, n⟩ := r.slot i _ e
    exact ⟨v, e1, q v H (.refl r.well) n⟩
  · exact q.elim
theorem qb_var (i : Nat) {x : Str} (hN : X.N[i]? = some x := by rfl) (hv : Vis X.env.scope x := by first | exact Or.inl rfl | exact Or.inr (Or.inl rfl) | exact Or.inr (Or.inr rfl))
    (hd : (x == ("__debug__" : Str)) = false := by decide) (hcd : (x == ("__classdict__" : Str)) = false := by decide) : QB X E (.Name x pos) (eOwn i) := by
  refine ⟨_, pe_var hN hv hd hcd, fun w σ H δ Q r q => ?_⟩
  unfold eOwn at q
  split at q
  · rename_i d e
    obtain ⟨v, e1, n⟩ := r.slot i _ e
    exact ⟨v, e1, q v H (.refl r.well) (.den n)⟩
  · rename_i d e
    obtain ⟨p, vs, e1, h1, h2, h3⟩ := r.slot i _ e
    exact ⟨_, e1, q _ H (.refl r.well) (.own h1 h2 fun x hx => ⟨(h3 x hx).1, (h3 x hx).2.1⟩)⟩
  · exact q.elim
theorem qe_c {d : D} {v : V} (h : PE X e (tC v)) (n : ∀ H, Den X.K H v d) : QE X E e (eC d) :=
  ⟨_, h, fun w σ H δ Q r q => q v H (.refl r.well) (n H)⟩
theorem qe_int {i : Int} {j : Nat} : QE X E (.Constant (.int i) j pos) (eC (.int i)) := qe_c pe_int fun _ => .int i
theorem qe_bl {i : Bool} {j : Nat} : QE X E (.Constant (.bool i) j pos) (eC (.bool i)) := qe_c pe_bl fun _ => .bl i
theorem qe_non {j : Nat} : QE X E (.Constant .none j pos) (eC .none) := qe_c pe_non fun _ => .non
theorem qe_str {i : Str} {j : Nat} : QE X E (.Constant (.str i) j pos) (eC (.str i)) := qe_c pe_str fun _ => .str i
/-- a number of the module -/
theorem qe_gint {x : Str} {i : Int} {u : Value} (hg : Gl X x) (hm : X.mg x = some u) (hr : ∃ t, u = .int i t) (hd : (x == ("__debug__" : Str)) = false := by decide) : QE X E (.Name x pos) (eC (.int i)) :=
  qe_c (pe_glob (v := .int i) hg hm hr hd) fun _ => .int i
/-! operators by value -/
def eBin (f : D → D → M D) (ma mb : Env → M D) (δ : Env) : M D := (ma δ).bind fun x => (mb δ).bind fun y => f x y

def QOp (X : Cx) (E : XK) (F : Value → Value → Sem Value) (f : D → D → M D) : Prop :=
  ∃ r, OpR X F r ∧ ∀ w H x y dx dy Q, (∀ z, w = some z → WellOk H z) → BDen X.K w H x dx → BDen X.K w H y dy → wp (f dx dy) (fun d => ∀ v H', Grow w H H' → Den X.K H' v d → Q v H') (XP X.mg E w H) → r x y H Q
theorem qe_bin {op : Operator} {f : D → D → M D} (ho : QOp X E (binaryOp op) f) (ha : QB X E a ma) (hb : QB X E b mb) : QE X E (.BinOp a op b pos) (eBin f ma mb) := by
  obtain ⟨r, h1, h2⟩ := ho
  obtain ⟨ta, a1, a2⟩ := ha
  obtain ⟨tb, b1, b2⟩ := hb
  refine ⟨_, pe_op h1 a1 b1, fun w σ H δ Q rl q => a2 w σ H δ _ rl (wp_then (wp_bind.mp q) fun x q1 v1 H1 g1 n1 => ?_)⟩
  refine b2 w σ H1 δ _ (rl.grow g1) (wp_mono (wp_bind.mp q1) (fun y q2 v2 H2 g2 n2 => ?_) fun _ z => z.grow g1)
  exact h2 w H2 v1 v2 x y Q g2.well (n1.grow g2) n2 (wp_mono q2 (fun d k v H' g n => k v H' ((g1.trans g2).trans g) n) fun _ z => z.grow (g1.trans g2))
theorem qe_cmp {op : CmpOp} {f : D → D → M D} (ho : QOp X E (compareOp op) f) (ha : QB X E a ma) (hb : QB X E b mb) (hm : behindInMarks op b = false) : QE X E (.Compare a [op] [b] pos) (eBin f ma mb) := by
  obtain ⟨r, h1, h2⟩ := ho
  obtain ⟨ta, a1, a2⟩ := ha
  obtain ⟨tb, b1, b2⟩ := hb
  refine ⟨_, pe_cmpR h1 a1 b1 hm, fun w σ H δ Q rl q => a2 w σ H δ _ rl (wp_then (wp_bind.mp q) fun x q1 v1 H1 g1 n1 => ?_)⟩
  refine b2 w σ H1 δ _ (rl.grow g1) (wp_mono (wp_bind.mp q1) (fun y q2 v2 H2 g2 n2 => ?_) fun _ z => z.grow g1)
  exact h2 w H2 v1 v2 x y Q g2.well (n1.grow g2) n2 (wp_mono q2 (fun d k v H' g n => k v H' ((g1.trans g2).trans g) n) fun _ z => z.grow (g1.trans g2))
/-- the truth that a test found -/
def asB : D → M Bool
  | .bool b => .ret b
  | _ => .fail
def tBin (f : D → D → M D) (ma mb : Env → M D) (δ : Env) : M Bool := (ma δ).bind fun x => (mb δ).bind fun y => (f x y).bind asB
theorem qt_cmp {op : CmpOp} {f : D → D → M D} (ho : QOp X E (compareOp op) f) (ha : QB X E a ma) (hb : QB X E b mb) (hm : behindInMarks op b = false) : QT X E (.Compare a [op] [b] pos) (tBin f ma mb) := by
  obtain ⟨r, h1, h2⟩ := ho
  obtain ⟨ta, a1, a2⟩ := ha
  obtain ⟨tb, b1, b2⟩ := hb
  refine ⟨_, pt_cmpR h1 a1 b1 hm, fun w σ H δ Q rl q => a2 w σ H δ _ rl (wp_then (wp_bind.mp q) fun x q1 v1 H1 g1 n1 => ?_)⟩
  refine b2 w σ H1 δ _ (rl.grow g1) (wp_mono (wp_bind.mp q1) (fun y q2 v2 H2 g2 n2 => ?_) fun _ z => z.grow g1)
  refine h2 w H2 v1 v2 x y _ g2.well (n1.grow g2) n2 (wp_mono (wp_bind.mp q2) (fun d k v H' g n => ?_) fun _ z => z.grow (g1.trans g2))
  cases d <;> first | exact k.elim | skip
  cases n
  exact ⟨_, rfl, k H' ((g1.trans g2).trans g)⟩
end
end Q

set_option Elab.async false
set_option linter.all false
set_option maxRecDepth 100000
namespace Q
open PySem PySem.Spec PyProof.Rows L2
variable [WellKind]

mutual
theorem den_upd {K : PySem.W.Frag} {H H' : Hp} (tk : ∀ b xs, H b = some (.tup xs) → H' b = some (.tup xs)) (fk : ∀ b o u, H b = some (.frz o u) → H' b = some (.frz o u)) : ∀ {v : V} {d : D}, Den K H v d → Den K H' v d
  | _, _, .non => .non
  | _, _, .bl b => .bl b
  | _, _, .int i => .int i
  | _, _, .str x => .str x
  | _, _, .lst h a => .lst (match h with | ⟨o, e⟩ => ⟨o, fk _ _ _ e⟩) (denAll_upd tk fk a)
  | _, _, .tup h a => .tup (h.elim (fun z => .inl (z.elim (fun e => .inl (tk _ _ e)) fun ⟨o, e⟩ => .inr ⟨o, fk _ _ _ e⟩)) .inr) (denAll_upd tk fk a)
  | _, _, .dct ⟨o, h⟩ a => .dct ⟨o, fk _ _ _ h⟩ (denAll_upd tk fk a)
theorem denAll_upd {K : PySem.W.Frag} {H H' : Hp} (tk : ∀ b xs, H b = some (.tup xs) → H' b = some (.tup xs)) (fk : ∀ b o u, H b = some (.frz o u) → H' b = some (.frz o u)) : ∀ {vs : List V} {ds : List D}, DenAll K H vs ds → DenAll K H' vs ds
  | _, _, .nil => .nil
  | _, _, .cons a b => .cons (den_upd tk fk a) (denAll_upd tk fk b)
end
/-! ### states of a def -/
structure Fr1 where
  F : Hp
  w0 : Option WA
  Z : Hp
/-- what never changes is kept -/
structure Fz (H H' : Hp) : Prop where
  tups : ∀ b xs, H b = some (.tup xs) → H' b = some (.tup xs)
  frzs : ∀ b o u, H b = some (.frz o u) → H' b = some (.frz o u)
theorem Fz.refl (H : Hp) : Fz H H := ⟨fun _ _ e => e, fun _ _ _ e => e⟩
theorem Fz.trans {H H1 H2 : Hp} (a : Fz H H1) (b : Fz H1 H2) : Fz H H2 := ⟨fun c xs e => b.tups c xs (a.tups c xs e), fun c o u e => b.frzs c o u (a.frzs c o u e)⟩
theorem Grow.fz {w : Option WA} {H H' : Hp} (g : Grow w H H') : Fz H H' := ⟨g.tups, g.frzs⟩
structure RS (K : PySem.W.Frag) (fr : Fr1) (w : Option WA) (H : Hp) (σ : L2.St) (δ : Env) : Prop where
  rd : RD K w H σ δ
  len : σ.length = δ.length
  grow : Grow fr.w0 fr.F H
  own : ∀ (i : Nat) (ds : List D) (p : Addr), δ[i]? = some (.own ds) → σ[i]? = some (some (.ref p)) → Nn fr.F p
  sep : ∀ (i j : Nat) (ds es : List D) (p q : Addr), i ≠ j → δ[i]? = some (.own ds) → δ[j]? = some (.own es) → σ[i]? = some (some (.ref p)) → σ[j]? = some (some (.ref q)) → p ≠ q
  w0 : fr.w0 = none ∨ w = fr.w0
  wf : ∀ x, w = some x → fr.w0 = none → fr.F x.a = none ∧ fr.F x.g = none ∧ fr.F x.c = none
  fz : Fz fr.Z H
section
variable {K : PySem.W.Frag} {fr : Fr1} {w : Option WA} {H H' : Hp} {σ : L2.St} {δ : Env}
theorem RS.far (r : RS K fr w H σ δ) (g : Grow w H H') : Grow fr.w0 fr.F H' := by
  refine ⟨fun b xs e => g.tups b xs (r.grow.tups b xs e), fun b o u e => g.frzs b o u (r.grow.frzs b o u e), fun b o e t n => ?_, fun x hx => ?_, fun t => g.tabs (r.grow.tabs t)⟩
  · refine g.keep b o (r.grow.keep b o e t n) t fun x hx => ?_
    rcases r.w0 with z | z
    · have := r.wf x hx z
      exact ⟨fun q => by (rw [q, this.1] at e; cases e), fun q => by (rw [q, this.2.1] at e; cases e)⟩
    · exact n x (z ▸ hx)
  · rcases r.w0 with z | z
    · rw [z] at hx; cases hx
    · exact g.well x (z.trans hx)
theorem RS.step (r : RS K fr w H σ δ) (g : Grow w H H') : RS K fr w H' σ δ := ⟨r.rd.grow g, r.len, r.far g, r.own, r.sep, r.w0, r.wf, r.fz.trans g.fz⟩
theorem RS.fresh (r : RS K fr w H σ δ) {p : Addr} (e : Nn H p) (hw : ∀ x, w = some x → p ≠ x.a ∧ p ≠ x.g ∧ p ≠ x.c) : Nn fr.F p := fun o q => Classical.byContradiction fun z => by
  refine z (e o (r.grow.keep p o q (fun ps y => z ⟨ps, y⟩) fun x hx => ?_))
  rcases r.w0 with k | k
  · rw [k] at hx; cases hx
  · have := hw x (k.trans hx)
    exact ⟨this.1, this.2.1⟩
theorem get_set {α : Type} {l : List α} {i j : Nat} {x s : α} (h : (l.set i x)[j]? = some s) : (j = i ∧ s = x ∧ i < l.length) ∨ (j ≠ i ∧ l[j]? = some s) := by
  by_cases e : i = j
  · subst e
    by_cases hl : i < l.length
    · rw [List.getElem?_set_self hl] at h
      exact .inl ⟨rfl, (Option.some.inj h).symm, hl⟩
    · rw [List.getElem?_eq_none (by simpa using hl)] at h; cases h
  · rw [List.getElem?_set_ne e] at h
    exact .inr ⟨Ne.symm e, h⟩
theorem RD.setD {i : Nat} {v : V} {d : D} (r : RD K w H σ δ) (n : Den K H v d) : RD K w H (σ.set i (some v)) (δ.set i (.dat d)) := by
  refine ⟨fun j s e => ?_, r.well, by simpa using r.len, r.tabs⟩
  rcases get_set e with ⟨rfl, rfl, hi⟩ | ⟨hj, e'⟩
  · exact ⟨v, List.getElem?_set_self (by rw [r.len]; exact hi), n⟩
  · rw [List.getElem?_set_ne (Ne.symm hj)]; exact r.slot j s e'
/-- an own slot is in nobody else's way -/
theorem RS.setD {i : Nat} {v : V} {d : D} (r : RS K fr w H σ δ) (n : Den K H v d) : RS K fr w H (σ.set i (some v)) (δ.set i (.dat d)) := by
  refine ⟨r.rd.setD n, by simpa using r.len, r.grow, fun j ds p e1 e2 => ?_, fun j k ds es p q hjk e1 e2 e3 e4 => ?_, r.w0, r.wf, r.fz⟩
  · rcases get_set e1 with ⟨rfl, z, _⟩ | ⟨hj, e'⟩
    · cases z
    · rw [List.getElem?_set_ne (Ne.symm hj)] at e2; exact r.own j ds p e' e2
  · rcases get_set e1 with ⟨rfl, z, _⟩ | ⟨hj, e1'⟩
    · cases z
    · rcases get_set e2 with ⟨rfl, z, _⟩ | ⟨hk, e2'⟩
      · cases z
      · rw [List.getElem?_set_ne (Ne.symm hj)] at e3; rw [List.getElem?_set_ne (Ne.symm hk)] at e4
        exact r.sep j k ds es p q hjk e1' e2' e3 e4
/-- a slot takes a list that is its own -/
theorem RS.setOwn {i : Nat} {p : Addr} {vs : List V} {ds : List D} (r : RS K fr w H σ δ) (hF : Nn fr.F p) (hp : H p = some (.lst vs)) (n : DenAll K H vs ds) (hw : ∀ x, w = some x → p ≠ x.a ∧ p ≠ x.g ∧ p ≠ x.c)
    (hs : ∀ (j : Nat) (es : List D) (q : Addr), j ≠ i → δ[j]? = some (.own es) → σ[j]? = some (some (.ref q)) → p ≠ q) : RS K fr w H (σ.set i (some (.ref p))) (δ.set i (.own ds)) := by
  have sl : ∀ {j : Nat} {q : Addr}, (σ.set i (some (V.ref p)))[j]? = some (some (.ref q)) → (j = i ∧ q = p) ∨ (j ≠ i ∧ σ[j]? = some (some (.ref q))) := fun {j q} e => by
    rcases get_set e with ⟨a, b, _⟩ | z
    · injection b with b; injection b with b; exact .inl ⟨a, b⟩
    · exact .inr z
  refine ⟨⟨fun j s e => ?_, r.rd.well, by simpa using r.len, r.rd.tabs⟩, by simpa using r.len, r.grow, fun j es q e1 e2 => ?_, fun j k es gs q q' hjk e1 e2 e3 e4 => ?_, r.w0, r.wf, r.fz⟩
  · rcases get_set e with ⟨rfl, rfl, hi⟩ | ⟨hj, e'⟩
    · exact ⟨p, vs, List.getElem?_set_self (by rw [r.len]; exact hi), hp, n, hw⟩
    · rw [List.getElem?_set_ne (Ne.symm hj)]; exact r.rd.slot j s e'
  · rcases sl e2 with ⟨_, rfl⟩ | ⟨hj, e2'⟩
    · exact hF
    · rcases get_set e1 with ⟨z, _, _⟩ | ⟨_, e1'⟩
      · exact absurd z hj
      · exact r.own j es q e1' e2'
  · rcases get_set e1 with ⟨rfl, _, _⟩ | ⟨hj, e1'⟩
    · rcases get_set e2 with ⟨z, _, _⟩ | ⟨hk, e2'⟩
      · exact absurd z.symm hjk
      · rcases sl e3 with ⟨_, rfl⟩ | ⟨z, _⟩
        · rw [List.getElem?_set_ne (Ne.symm hk)] at e4; exact hs k gs q' hk e2' e4
        · exact absurd rfl z
    · rw [List.getElem?_set_ne (Ne.symm hj)] at e3
      rcases get_set e2 with ⟨rfl, _, _⟩ | ⟨hk, e2'⟩
      · rcases sl e4 with ⟨_, rfl⟩ | ⟨z, _⟩
        · exact (hs j es q hj e1' e3).symm
        · exact absurd rfl z
      · rw [List.getElem?_set_ne (Ne.symm hk)] at e4
        exact r.sep j k es gs q q' hjk e1' e2' e3 e4
/-- a new list goes to a slot -/
theorem RS.setNew {H0 : Hp} {i : Nat} {p : Addr} {vs : List V} {ds : List D} (r0 : RS K fr w H0 σ δ) (g : Grow w H0 H) (e : Nn H0 p) (hp : H p = some (.lst vs)) (n : DenAll K H vs ds) (hw : ∀ x, w = some x → p ≠ x.a ∧ p ≠ x.g ∧ p ≠ x.c) :
    RS K fr w H (σ.set i (some (.ref p))) (δ.set i (.own ds)) := by
  refine (r0.step g).setOwn (r0.fresh e hw) hp n hw fun j es q hj e1 e2 z => ?_
  obtain ⟨p', vs', e3, h1, _⟩ := r0.rd.slot j _ e1
  rw [e2] at e3; injection e3 with e3; injection e3 with e3; injection e3 with e3
  obtain ⟨ps, y⟩ := e _ (by rw [z, e3]; exact h1)
  cases y
/-- the own list at a slot becomes something else -/
theorem RS.write {i : Nat} {p : Addr} {vs : List V} {ds : List D} {o' : HO} {s' : Slot} (r : RS K fr w H σ δ) (hi : δ[i]? = some (.own ds)) (hv : σ[i]? = some (some (.ref p))) (hp : H p = some (.lst vs))
    (hw : ∀ x, w = some x → p ≠ x.a ∧ p ≠ x.g ∧ p ≠ x.c)
    (hs : Fz H (upd H p o') → SlotOk K w (upd H p o') σ[i]? s') : RS K fr w (upd H p o') σ (δ.set i s') := by
  have hF := r.own i ds p hi hv
  have tk : ∀ b xs, H b = some (.tup xs) → upd H p o' b = some (.tup xs) := fun b xs e => by rw [upd_ne (fun z => by (rw [z, hp] at e; cases e))]; exact e
  have fk : ∀ b o u, H b = some (.frz o u) → upd H p o' b = some (.frz o u) := fun b o u e => by rw [upd_ne (fun z => by (rw [z, hp] at e; cases e))]; exact e
  have wk : ∀ x, w = some x → WellOk (upd H p o') x := fun x hx => (r.rd.well x hx).at_ne (hw x hx)
  have rd' : RD K w (upd H p o') σ (δ.set i s') := by
    refine ⟨fun j s e => ?_, wk, by simpa using r.len, r.rd.tabs.lst hp⟩
    rcases get_set e with ⟨rfl, rfl, _⟩ | ⟨hj, e'⟩
    · exact hs ⟨tk, fk⟩
    · have q := r.rd.slot j s e'
      cases s with
      | emp => trivial
      | dat d => obtain ⟨v, e1, h⟩ := q; exact ⟨v, e1, den_upd tk fk h⟩
      | own es =>
        obtain ⟨q', us, e1, h1, h2, h3⟩ := q
        have hne := r.sep j i es ds q' p hj e' hi e1 hv
        exact ⟨q', us, e1, by rw [upd_ne hne]; exact h1, denAll_upd tk fk h2, h3⟩
      | well => exact q
  have ow : ∀ (j : Nat) (es : List D), (δ.set i s')[j]? = some (.own es) → ∃ es', δ[j]? = some (.own es') := fun j es e => by
    rcases get_set e with ⟨rfl, _, _⟩ | ⟨_, e'⟩
    · exact ⟨ds, hi⟩
    · exact ⟨es, e'⟩
  refine ⟨rd', by simpa using r.len, ⟨fun b xs e => tk b xs (r.grow.tups b xs e), fun b o u e => fk b o u (r.grow.frzs b o u e), fun b o e ht hn => ?_, fun x hx => ?_, fun t => (r.grow.tabs t).lst hp⟩, fun j es q e1 e2 => ?_, fun j k es gs q q' hjk e1 e2 e3 e4 => ?_, r.w0, r.wf, r.fz.trans ⟨tk, fk⟩⟩
  · rw [upd_ne (hF.ne e ht)]; exact r.grow.keep b o e ht hn
  · rcases r.w0 with z | z
    · rw [z] at hx; cases hx
    · exact wk x (z.trans hx)
  · obtain ⟨es', e1'⟩ := ow j es e1; exact r.own j es' q e1' e2
  · obtain ⟨es', e1'⟩ := ow j es e1; obtain ⟨gs', e2'⟩ := ow k gs e2
    exact r.sep j k es' gs' q q' hjk e1' e2' e3 e4
theorem RS.writeOwn {i : Nat} {p : Addr} {vs vs' : List V} {ds ds' : List D} (r : RS K fr w H σ δ) (hi : δ[i]? = some (.own ds)) (hv : σ[i]? = some (some (.ref p))) (hp : H p = some (.lst vs)) (n : DenAll K H vs' ds')
    (hw : ∀ x, w = some x → p ≠ x.a ∧ p ≠ x.g ∧ p ≠ x.c) : RS K fr w (upd H p (.lst vs')) σ (δ.set i (.own ds')) :=
  r.write hi hv hp hw fun f => ⟨p, vs', hv, upd_same, denAll_upd f.tups f.frzs n, hw⟩
theorem RS.freeze {i : Nat} {p : Addr} {vs : List V} {ds : List D} (o : Obj) (r : RS K fr w H σ δ) (hi : δ[i]? = some (.own ds)) (hv : σ[i]? = some (some (.ref p))) (hp : H p = some (.lst vs)) (n : DenAll K H vs ds)
    (hw : ∀ x, w = some x → p ≠ x.a ∧ p ≠ x.g ∧ p ≠ x.c) : RS K fr w (upd H p (.frz o (.lst vs))) σ (δ.set i (.dat (.list ds))) :=
  r.write hi hv hp hw fun f => ⟨_, hv, .lst ⟨o, upd_same⟩ (denAll_upd f.tups f.frzs n)⟩
end

/-! ### statements -/
inductive Flow where
  | next (δ : Env)
  | retn (d : D)
  | brk (δ : Env)
  | cont (δ : Env)
def FlowP (K : PySem.W.Frag) (fr : Fr1) (Dn : Ends) : Flow → Prop
  | .next δ => ∀ w σ H, RS K fr w H σ δ → Dn.nx σ H
  | .retn d => ∀ v H, Grow fr.w0 fr.F H → Den K H v d → Dn.rt v H
  | .brk δ => ∀ w σ H, RS K fr w H σ δ → Dn.bk σ H
  | .cont δ => ∀ w σ H, RS K fr w H σ δ → Dn.ct σ H
def XS (mg : Str → Option Value) (E : XK) (fr : Fr1) (ex : Exn) : Prop := ∀ H, Grow fr.w0 fr.F H → Raised mg E ex H
theorem XS.xp {mg : Str → Option Value} {E : XK} {K : PySem.W.Frag} {fr : Fr1} {w : Option WA} {H : Hp} {σ : L2.St} {δ : Env} (r : RS K fr w H σ δ) (ex : Exn) (h : XS mg E fr ex) : XP mg E w H ex := fun H' g => h H' (r.far g)
def QS (X : Cx) (E : XK) (st : Stmt) (m : Env → M Flow) : Prop :=
  ∃ t, PS X st t ∧ ∀ fr w σ H δ Dn, RS X.K fr w H σ δ → wp (m δ) (FlowP X.K fr Dn) (XS X.mg E fr) → t Dn σ H
def QSs (X : Cx) (E : XK) (st : List Stmt) (m : Env → M Flow) : Prop :=
  ∃ t, PSs X st t ∧ ∀ fr w σ H δ Dn, RS X.K fr w H σ δ → wp (m δ) (FlowP X.K fr Dn) (XS X.mg E fr) → t Dn σ H
section
variable {X : Cx} {E : XK} {st : Stmt} {rest : List Stmt} {m1 m2 : Env → M Flow} {pos : Pos} {e : Expr} {me : Env → M D}
def andThen (m2 : Env → M Flow) : Flow → M Flow
  | .next δ => m2 δ
  | f => .ret f
def sNil (δ : Env) : M Flow := .ret (.next δ)
def sSeq (m1 m2 : Env → M Flow) (δ : Env) : M Flow := (m1 δ).bind (andThen m2)
def sBrk (δ : Env) : M Flow := .ret (.brk δ)
def sCont (δ : Env) : M Flow := .ret (.cont δ)
def sExpr (me : Env → M D) (δ : Env) : M Flow := (me δ).bind fun _ => .ret (.next δ)
def sRet (me : Env → M D) (δ : Env) : M Flow := (me δ).bind fun d => .ret (.retn d)
def sRetN (_ : Env) : M Flow := .ret (.retn .none)
def sIf (mc : Env → M Bool) (m1 m2 : Env → M Flow) (δ : Env) : M Flow := (mc δ).bind fun k => if k = true then m1 δ else m2 δ
def sSet (i : Nat) (me : Env → M D) (δ : Env) : M Flow := (me δ).bind fun d => .ret (.next (δ.set i (.dat d)))
def sSetF (i : Nat) (mf : Env → M (List D)) (δ : Env) : M Flow := (mf δ).bind fun ds => .ret (.next (δ.set i (.own ds)))
def sFz (i : Nat) (m1 : Env → M Flow) (δ : Env) : M Flow := match δ[i]? with
  | some (.own ds) => m1 (δ.set i (.dat (.list ds)))
  | _ => .fail
def sAsg (g : D → Env → Option Env) (me : Env → M D) (δ : Env) : M Flow := (me δ).bind fun d => match g d δ with
  | some δ' => .ret (.next δ')
  | none => .fail
def sPar (i j : Nat) (ms : Env → M (List D)) (δ : Env) : M Flow := (ms δ).bind fun ds => match ds with
  | [d1, d2] => .ret (.next ((δ.set i (.dat d1)).set j (.dat d2)))
  | _ => .fail
theorem qss_nil : QSs X E [] sNil := ⟨_, pss_nil, fun fr w σ H δ Dn r q => q w σ H r⟩
theorem qss_one (h : QS X E st m1) : QSs X E [st] m1 := by
  obtain ⟨t, a, b⟩ := h
  exact ⟨_, pss_one a, b⟩
theorem qss_cons (h : QS X E st m1) (h2 : QSs X E rest m2) : QSs X E (st :: rest) (sSeq m1 m2) := by
  obtain ⟨t, a, b⟩ := h
  obtain ⟨t2, a2, b2⟩ := h2
  refine ⟨_, pss_cons a a2, fun fr w σ H δ Dn r q => b fr w σ H δ _ r (wp_mono (wp_bind.mp q) (fun f k => ?_) fun _ z => z)⟩
  cases f with
  | next δ' => exact fun w' σ' H' r' => b2 fr w' σ' H' δ' Dn r' k
  | retn d => exact k
  | brk δ' => exact k
  | cont δ' => exact k
/-- an expression in a statement -/
theorem wp_in {α : Type} {m : M α} {K : PySem.W.Frag} {fr : Fr1} {w : Option WA} {H : Hp} {σ : L2.St} {δ : Env} {mg : Str → Option Value} {P P' : α → Prop} (r : RS K fr w H σ δ) (h : wp m P (XS mg E fr)) (k : ∀ a, P a → P' a) : wp m P' (XP mg E w H) :=
  wp_mono h k fun ex z => XS.xp r ex z
theorem qs_pass : QS X E (.Pass pos) sNil := ⟨_, ps_pass, fun fr w σ H δ Dn r q => q w σ H r⟩
theorem qs_break : QS X E (.Break pos) sBrk := ⟨_, ps_break, fun fr w σ H δ Dn r q => q w σ H r⟩
theorem qs_continue : QS X E (.Continue pos) sCont := ⟨_, ps_continue, fun fr w σ H δ Dn r q => q w σ H r⟩
theorem qs_expr (h : QB X E e me) (hs : swapsWith e none pos.line X.env = pure false := by rfl) : QS X E (.Expr e pos) (sExpr me) := by
  obtain ⟨t, a, b⟩ := h
  exact ⟨_, ps_expr a hs, fun fr w σ H δ Dn r q => b w σ H δ _ r.rd (wp_in r (wp_bind.mp q) fun d k v H' g _ => k w σ H' (r.step g))⟩
theorem qs_ret (h : QE X E e me) : QS X E (.Return (some e) pos) (sRet me) := by
  obtain ⟨t, a, b⟩ := h
  exact ⟨_, ps_ret a, fun fr w σ H δ Dn r q => b w σ H δ _ r.rd (wp_in r (wp_bind.mp q) fun d k v H' g n => k v H' (r.far g) n)⟩
theorem qs_retN : QS X E (.Return none pos) sRetN := ⟨_, ps_retN, fun fr w σ H δ Dn r q => q .non H r.grow .non⟩
theorem qs_if {c : Expr} {a b : List Stmt} {mc : Env → M Bool} (hc : QT X E c mc) (ha : QSs X E a m1) (hb : QSs X E b m2) : QS X E (.If c a b pos) (sIf mc m1 m2) := by
  obtain ⟨tc, c1, c2⟩ := hc
  obtain ⟨ta, a1, a2⟩ := ha
  obtain ⟨tb, b1, b2⟩ := hb
  refine ⟨_, ps_if c1 a1 b1, fun fr w σ H δ Dn r q => c2 w σ H δ _ r.rd (wp_in r (wp_bind.mp q) fun k q1 H' g => ?_)⟩
  cases k with
  | true => exact a2 fr w σ H' δ Dn (r.step g) q1
  | false => exact b2 fr w σ H' δ Dn (r.step g) q1
/-- x = e -/
theorem qs_set (i : Nat) {x : Str} {pos' : Pos} (hN : X.N.Nodup) (h : QE X E e me) (hi : X.N[i]? = some x := by rfl) (hx : Loc X.env.scope x := by first | exact Or.inl rfl | exact Or.inr rfl) (hs : swapsWith e (some (.Name x pos')) pos.line X.env = pure false := by rfl)
    (hf : X.fn x = true ∨ X.env.scope.names.lookup x = some .local := by first | exact .inl rfl | exact .inr rfl) : QS X E (.Assign [.Name x pos'] e pos) (sSet i me) := by
  obtain ⟨t, a, b⟩ := h
  exact ⟨_, ps_set hN hi hx a hs hf, fun fr w σ H δ Dn r q => b w σ H δ _ r.rd (wp_in r (wp_bind.mp q) fun d k v H' g n => k w _ H' ((r.step g).setD n))⟩
/-- x = a new list, to be written on -/
theorem qs_setF (i : Nat) {x : Str} {pos' : Pos} {mf : Env → M (List D)} (hN : X.N.Nodup) (h : QF X E e mf) (hi : X.N[i]? = some x := by rfl) (hx : Loc X.env.scope x := by first | exact Or.inl rfl | exact Or.inr rfl) (hs : swapsWith e (some (.Name x pos')) pos.line X.env = pure false := by rfl)
    (hf : X.fn x = true ∨ X.env.scope.names.lookup x = some .local := by first | exact .inl rfl | exact .inr rfl) : QS X E (.Assign [.Name x pos'] e pos) (sSetF i mf) := by
  obtain ⟨t, a, b⟩ := h
  exact ⟨_, ps_set hN hi hx a hs hf, fun fr w σ H δ Dn r q => b w σ H δ _ r.rd (wp_in r (wp_bind.mp q) fun ds k p vs H' g e1 e2 e3 n => k w _ H' (r.setNew g e1 e2 n e3))⟩
/-- a list that was written on is read from here on -/
def tFzS (i : Nat) (t : TS) : TS := fun Dn σ H => ∃ p vs, σ[i]? = some (some (.ref p)) ∧ H p = some (.lst vs) ∧ ∀ o, t Dn σ (upd H p (.frz o (.lst vs)))
theorem ps_fz {i : Nat} {t : TS} (h : PS X st t) : PS X st (tFzS i t) := by
  refine ⟨fun pins s σ H Dn I q => ?_⟩
  obtain ⟨p, vs, _, h2, h3⟩ := q
  obtain ⟨o, I'⟩ := I.lock h2 trivial
  exact h.run pins s σ _ Dn I' (h3 o)
theorem qs_fz (i : Nat) (h : QS X E st m1) : QS X E st (sFz i m1) := by
  obtain ⟨t, a, b⟩ := h
  refine ⟨_, ps_fz (i := i) a, fun fr w σ H δ Dn r q => ?_⟩
  unfold sFz at q
  split at q
  · rename_i ds e
    obtain ⟨p, vs, e1, h1, h2, h3⟩ := r.rd.slot i _ e
    exact ⟨p, vs, e1, h1, fun o => b fr w σ _ _ Dn (r.freeze o e e1 h1 h2 h3) q⟩
  · exact q.elim
end
/-! ### targets -/
def QG (X : Cx) (tg : Expr) (is : List Nat) (g : D → Env → Option Env) : Prop :=
  ∃ t, PG X tg t ∧ ∀ H σ δ d v δ' (R : L2.St → Env → Prop) (Q : L2.St → Hp → Prop), Den X.K H v d → g d δ = some δ' → R σ δ →
    (∀ σ δ i d v, i ∈ is → R σ δ → Den X.K H v d → R (σ.set i (some v)) (δ.set i (.dat d))) → (∀ σ', R σ' δ' → Q σ' H) → t v σ H Q
def QGs (X : Cx) (tg : List Expr) (is : List Nat) (g : List D → Env → Option Env) : Prop :=
  ∃ t, PGs X tg t ∧ ∀ H σ δ ds vs δ' (R : L2.St → Env → Prop) (Q : L2.St → Hp → Prop), DenAll X.K H vs ds → g ds δ = some δ' → R σ δ →
    (∀ σ δ i d v, i ∈ is → R σ δ → Den X.K H v d → R (σ.set i (some v)) (δ.set i (.dat d))) → (∀ σ', R σ' δ' → Q σ' H) → t vs σ H Q
section
variable {X : Cx} {E : XK} {pos : Pos}
def gSet (i : Nat) (d : D) (δ : Env) : Option Env := some (δ.set i (.dat d))
def gsNil (ds : List D) (δ : Env) : Option Env := match ds with
  | [] => some δ
  | _ => none
def gsCons (g : D → Env → Option Env) (gs : List D → Env → Option Env) (ds : List D) (δ : Env) : Option Env := match ds with
  | d :: r => (g d δ).bind (gs r)
  | _ => none
def gTupE (n : Nat) (gs : List D → Env → Option Env) (d : D) (δ : Env) : Option Env := match d with
  | .tuple ds => if ds.length = n then gs ds δ else none
  | .list ds => if ds.length = n then gs ds δ else none
  | _ => none
theorem pg_both {X : Cx} {e : Expr} {t1 t2 : TG} (h1 : PG X e t1) (h2 : PG X e t2) : PG X e (fun v σ H Q => t1 v σ H Q ∨ t2 v σ H Q) :=
  ⟨fun pins s σ H v u Q I r hw => hw.elim (h1.run pins s σ H v u Q I r) (h2.run pins s σ H v u Q I r)⟩
theorem qg_name (i : Nat) {x : Str} (hN : X.N.Nodup) (hi : X.N[i]? = some x := by rfl) (hx : Loc X.env.scope x := by first | exact Or.inl rfl | exact Or.inr rfl)
    (hf : X.fn x = true ∨ X.env.scope.names.lookup x = some .local := by first | exact .inl rfl | exact .inr rfl) : QG X (.Name x pos) [i] (gSet i) := by
  refine ⟨_, pg_name hN hi hx hf, fun H σ δ d v δ' R Q n e r c k => ?_⟩
  cases e
  exact k _ (c σ δ i d v (by simp) r n)
theorem qgs_nil : QGs X [] [] gsNil := by
  refine ⟨_, pgs_nil, fun H σ δ ds vs δ' R Q n e r c k => ?_⟩
  cases n with
  | nil => cases e; exact ⟨rfl, k _ r⟩
  | cons a b => cases e
theorem qgs_cons {e : Expr} {es : List Expr} {is js : List Nat} {g : D → Env → Option Env} {gs : List D → Env → Option Env} (h : QG X e is g) (h2 : QGs X es js gs)
    (hs : (assignEach (e :: es) X.env).map (·.2) = assign e X.env :: (assignEach es X.env).map (·.2) := by rfl) : QGs X (e :: es) (is ++ js) (gsCons g gs) := by
  obtain ⟨t, a, b⟩ := h
  obtain ⟨t2, a2, b2⟩ := h2
  refine ⟨_, pgs_cons a a2 hs, fun H σ δ ds vs δ' R Q n e r c k => ?_⟩
  cases n with
  | nil => cases e
  | cons n1 n2 =>
    obtain ⟨δ1, e1, e2⟩ := Option.bind_eq_some_iff.mp e
    exact ⟨_, _, rfl, b H σ δ _ _ δ1 R _ n1 e1 r (fun σ δ i d v hi => c σ δ i d v (List.mem_append_left _ hi)) fun σ' r' => b2 H σ' δ1 _ _ δ' R Q n2 e2 r' (fun σ δ i d v hi => c σ δ i d v (List.mem_append_right _ hi)) k⟩
theorem qg_tup {es : List Expr} {k : Nat} {is : List Nat} {gs : List D → Env → Option Env} {n : Nat} (hc : X.calm = true) (h : QGs X es is gs)
    (hn : (assignEach es X.env).length = n := by rfl) (hst : (assignEach es X.env).findIdx? (·.1) = none := by rfl) : QG X (.Tuple es k pos) is (gTupE n gs) := by
  obtain ⟨t, a, b⟩ := h
  refine ⟨_, pg_both (pg_tup hc a hn hst) (pg_unl hc a hn hst), fun H σ δ d v δ' R Q nn e r c k => ?_⟩
  cases d <;> first | (cases e; done) | skip
  · rename_i ds
    unfold gTupE at e
    dsimp only at e
    split at e
    · rename_i hl
      cases nn with
      | lst h1 h2 => exact .inr ⟨_, _, rfl, h1.sq, by rw [h2.length]; exact hl, b H σ δ ds _ δ' R Q h2 e r c k⟩
    · cases e
  · rename_i ds
    unfold gTupE at e
    dsimp only at e
    split at e
    · rename_i hl
      cases nn with
      | tup h1 h2 => exact .inl ⟨_, _, rfl, h1, by rw [h2.length]; exact hl, b H σ δ ds _ δ' R Q h2 e r c k⟩
    · cases e
/-- target = value -/
theorem qs_asg {tg e : Expr} {is : List Nat} {g : D → Env → Option Env} {me : Env → M D} (hg : QG X tg is g) (h : QE X E e me) (hs : swapsWithSole [tg] e pos.line X.env = pure false := by rfl) (hw : swappedStores [tg] e X.env = pure none := by rfl)
    (h1 : (assignEach [tg] X.env).map (·.2) = [assign tg X.env] := by rfl) : QS X E (.Assign [tg] e pos) (sAsg g me) := by
  obtain ⟨t, a, b⟩ := h
  obtain ⟨tg', c, k⟩ := hg
  refine ⟨_, ps_asg a c hs hw h1, fun fr w σ H δ Dn r q => b w σ H δ _ r.rd (wp_in r (wp_bind.mp q) fun d q1 v H' g1 n => ?_)⟩
  split at q1
  · rename_i δ' e1
    exact k H' σ δ d v δ' (fun σ δ => RS X.K fr w H' σ δ) _ n e1 (r.step g1) (fun σ δ i d v _ r n => r.setD n) fun σ' r' => q1 w σ' H' r'
  · exact q1.elim
/-- a, b = x, y -/
theorem qs_par (i j : Nat) {x y : Str} {a b : Expr} {ms : Env → M (List D)} {px py pt : Pos} {kt k2 pt2} (hc : X.calm = true) (hN : X.N.Nodup) (ha : QI X E [a, b] ms) (hi : X.N[i]? = some x := by rfl) (hj : X.N[j]? = some y := by rfl) (hij : i ≠ j := by decide)
    (hx : X.env.scope.names.lookup x = some .local := by rfl) (hy : X.env.scope.names.lookup y = some .local := by rfl)
    (hps : ∀ ta, PA X [a, b] ta → PS X (.Assign [.Tuple [.Name x px, .Name y py] kt pt] (.Tuple [a, b] k2 pt2) pos) (tPar i j ta)) :
    QS X E (.Assign [.Tuple [.Name x px, .Name y py] kt pt] (.Tuple [a, b] k2 pt2) pos) (sPar i j ms) := by
  obtain ⟨t, a1, b1⟩ := ha
  refine ⟨_, hps _ a1, fun fr w σ H δ Dn r q => b1 w σ H δ _ r.rd (wp_in r (wp_bind.mp q) fun ds q1 vs H' g n => ?_)⟩
  split at q1
  · cases n with
    | cons n1 n => cases n with
      | cons n2 n => cases n with
        | nil => exact ⟨_, _, rfl, q1 w _ H' (((r.step g).setD n1).setD n2)⟩
  · exact q1.elim
end
end Q

set_option Elab.async false
set_option linter.all false
set_option maxRecDepth 100000
namespace Q
open PySem PySem.Spec PyProof.Rows L2
variable [WellKind]
/-! ### what is walked -/
/-- the walk J tells the items ds -/
structure Tells (K : PySem.W.Frag) (ds : List D) (J : It) (H1 : Hp) : Prop where
  ex : ∃ (G : Hp → Prop) (Y : Nat → Hp → V → Hp → Prop), Walk J ds.length G Y ∧ G H1 ∧ (∀ Ha Hb, G Ha → Fz Ha Hb → G Hb) ∧
    ∀ i Ha x Hb, i < ds.length → G Ha → Y i Ha x Hb → ∀ w : Option WA, (∀ z, w = some z → WellOk Ha z) → Grow w Ha Hb ∧ ∃ d, ds[i]? = some d ∧ Den K Hb x d
def QIt (X : Cx) (E : XK) (tg iter : Expr) (m : Env → M (List D)) : Prop :=
  ∃ wi, PI X tg iter wi ∧ ∀ w σ H δ R, RD X.K w H σ δ → wp (m δ) (fun ds => ∀ J H1, Grow w H H1 → Tells X.K ds J H1 → R J H1) (XP X.mg E w H) → wi σ H R
section
variable {X : Cx} {E : XK} {tg e a b c : Expr} {me : Env → M D} {pos : Pos}
def asL : D → M (List D)
  | .list ds => .ret ds
  | _ => .fail
def asT : D → M (List D)
  | .tuple ds => .ret ds
  | _ => .fail
/-- the signs of a text -/
def chars (x : Str) : List D := x.cps.toList.map fun c => .str ⟨#[c]⟩
def asS : D → M (List D)
  | .str x => .ret (chars x)
  | _ => .fail
def iL (me : Env → M D) (δ : Env) : M (List D) := (me δ).bind asL
def iT (me : Env → M D) (δ : Env) : M (List D) := (me δ).bind asT
def iS (me : Env → M D) (δ : Env) : M (List D) := (me δ).bind asS
theorem FzL.fz {H H' : Hp} {a : Addr} {xs : List V} (h : FzL H a xs) (f : Fz H H') : FzL H' a xs := by
  obtain ⟨o, h⟩ := h
  exact ⟨o, f.frzs _ _ _ h⟩
theorem sqT_fz {K : PySem.W.Frag} {H H' : Hp} {a : Addr} {xs : List V} (h : SqT K H a xs) (f : Fz H H') : SqT K H' a xs := by
  rcases h with (h | ⟨o, h⟩) | h
  · exact .inl (.inl (f.tups _ _ h))
  · exact .inl (.inr ⟨o, f.frzs _ _ _ h⟩)
  · exact .inr h
theorem Den.fz {K : PySem.W.Frag} {H H' : Hp} {v : V} {d : D} (f : Fz H H') (h : Den K H v d) : Den K H' v d := den_upd f.tups f.frzs h
theorem DenAll.fz {K : PySem.W.Frag} {H H' : Hp} {v : List V} {d : List D} (f : Fz H H') (h : DenAll K H v d) : DenAll K H' v d := denAll_upd f.tups f.frzs h
theorem tells_list {K : PySem.W.Frag} {H : Hp} {a : Addr} {xs : List V} {ds : List D} (h : FzL H a xs) (n : DenAll K H xs ds) : Tells K ds (Itl K a) H := by
  refine ⟨fun H => FzL H a xs ∧ DenAll K H xs ds, YAt xs, ?_, ⟨h, n⟩, fun Ha Hb z f => ⟨z.1.fz f, z.2.fz f⟩, fun i Ha x Hb hi hG hY w hw => ?_⟩
  · rw [← n.length]
    exact walk_list.mono (fun H z => z.1.sq) fun i H x H' _ _ y => y
  · obtain ⟨rfl, e⟩ := hY
    exact ⟨.refl hw, hG.2.get e⟩
theorem tells_tup {K : PySem.W.Frag} {H : Hp} {a : Addr} {xs : List V} {ds : List D} (h : SqT K H a xs) (n : DenAll K H xs ds) : Tells K ds (Itt K a) H := by
  refine ⟨fun H => SqT K H a xs ∧ DenAll K H xs ds, YAt xs, ?_, ⟨h, n⟩, fun Ha Hb z f => ⟨sqT_fz z.1 f, z.2.fz f⟩, fun i Ha x Hb hi hG hY w hw => ?_⟩
  · rw [← n.length]
    exact walk_tup.mono (fun H z => z.1) fun i H x H' _ _ y => y
  · obtain ⟨rfl, e⟩ := hY
    exact ⟨.refl hw, hG.2.get e⟩
theorem qi_list (h : QE X E e me) : QIt X E tg e (iL me) := by
  obtain ⟨t, h1, h2⟩ := h
  refine ⟨_, pi_list h1, fun w σ H δ R r q => h2 w σ H δ _ r (wp_then (wp_bind.mp q) fun d q1 v H' g n => ?_)⟩
  cases d <;> first | exact q1.elim | skip
  cases n with
  | lst hl ha => exact ⟨_, rfl, ⟨_, hl.sq⟩, q1 _ H' g (tells_list hl ha)⟩
theorem qi_tup (h : QE X E e me) : QIt X E tg e (iT me) := by
  obtain ⟨t, h1, h2⟩ := h
  refine ⟨_, pi_tup h1, fun w σ H δ R r q => h2 w σ H δ _ r (wp_then (wp_bind.mp q) fun d q1 v H' g n => ?_)⟩
  cases d <;> first | exact q1.elim | skip
  cases n with
  | tup hl ha => exact ⟨_, rfl, ⟨_, hl⟩, q1 _ H' g (tells_tup hl ha)⟩
theorem qi_str (h : QE X E e me) : QIt X E tg e (iS me) := by
  obtain ⟨t, h1, h2⟩ := h
  refine ⟨_, pi_str h1, fun w σ H δ R r q => h2 w σ H δ _ r (wp_then (wp_bind.mp q) fun d q1 v H' g n => ?_)⟩
  cases d <;> first | exact q1.elim | skip
  rename_i x
  cases n
  refine ⟨x, rfl, q1 _ H' g ⟨fun _ => True, fun i H v H' => H' = H ∧ ∃ c, x.cps[i]? = some c ∧ v = .str ⟨#[c]⟩, ?_, trivial, fun _ _ _ _ => trivial, fun i Ha y Hb hi hG hY w hw => ?_⟩⟩
  · have wk := walk_str (z := x)
    unfold chars
    rw [List.length_map, Array.length_toList]
    exact wk
  · obtain ⟨rfl, c, e, rfl⟩ := hY
    refine ⟨.refl hw, .str ⟨#[c]⟩, ?_, .str _⟩
    unfold chars
    rw [List.getElem?_map, Array.getElem?_toList, e]; rfl
/-- the rng from lo on -/
def rng (lo : Int) (n : Nat) : List D := (List.range n).map fun (i : Nat) => .int (lo + i)
theorem tells_range {K : PySem.W.Frag} {H : Hp} (lo : Int) (n : Nat) : Tells K (rng lo n) (Itr lo n) H := by
  have hn : (rng lo n).length = n := by unfold rng; rw [List.length_map, List.length_range]
  refine ⟨fun _ => True, YFn fun i => .int (lo + i), ?_, trivial, fun _ _ _ _ => trivial, fun i Ha y Hb hi hG hY w hw => ?_⟩
  · rw [hn]; exact walk_range
  · obtain ⟨rfl, rfl⟩ := hY
    rw [hn] at hi
    refine ⟨.refl hw, .int (lo + i), ?_, .int _⟩
    unfold rng
    rw [List.getElem?_map, List.getElem?_range hi]; rfl
def iR1 (ms : Env → M (List D)) (δ : Env) : M (List D) := (ms δ).bind fun ds => match ds with
  | [.int j] => if -(2 ^ 62) ≤ j ∧ j < 2 ^ 62 then .ret (rng 0 j.toNat) else .fail
  | _ => .fail
def iR2 (ms : Env → M (List D)) (δ : Env) : M (List D) := (ms δ).bind fun ds => match ds with
  | [.int i, .int j] => if -(2 ^ 62) ≤ i ∧ i < 2 ^ 62 ∧ -(2 ^ 62) ≤ j ∧ j < 2 ^ 62 then .ret (rng i (j - i).toNat) else .fail
  | _ => .fail
theorem qi_range1 {ms : Env → M (List D)} {p : Pos} (hm : X.mg "range" = none) (h : QA X E [a] ms) (hg : Gl X "range" := by rfl) (hs : starEach [a] X.env = [(false, eval a X.env)] := by rfl) : QIt X E tg (.Call (.Name "range" p) [a] [] pos) (iR1 ms) := by
  obtain ⟨t, h1, h2⟩ := h
  refine ⟨_, pi_range1 hg hm h1 hs, fun w σ H δ R r q => h2 w σ H δ _ r (wp_then (wp_bind.mp q) fun ds q1 vs H' g n => ?_)⟩
  split at q1
  · cases n with
    | cons n1 n2 =>
      cases n2
      split at q1
      · rename_i hj
        exact ⟨_, by rw [n1.int], hj.1, hj.2, q1 _ H' g (tells_range _ _)⟩
      · exact q1.elim
  · exact q1.elim
theorem qi_range2 {ms : Env → M (List D)} {p : Pos} (hm : X.mg "range" = none) (h : QA X E [a, b] ms) (hg : Gl X "range" := by rfl) (hs : starEach [a, b] X.env = [(false, eval a X.env), (false, eval b X.env)] := by rfl)
    (hs2 : starEach [b] X.env = [(false, eval b X.env)] := by rfl) : QIt X E tg (.Call (.Name "range" p) [a, b] [] pos) (iR2 ms) := by
  obtain ⟨t, h1, h2⟩ := h
  refine ⟨_, pi_range2 hg hm h1 hs hs2, fun w σ H δ R r q => h2 w σ H δ _ r (wp_then (wp_bind.mp q) fun ds q1 vs H' g n => ?_)⟩
  split at q1
  · cases n with
    | cons n1 n2 =>
      cases n2 with
      | cons n2 n3 =>
        cases n3
        split at q1
        · rename_i hj
          exact ⟨_, _, by rw [n1.int, n2.int], hj, q1 _ H' g (tells_range _ _)⟩
        · exact q1.elim
  · exact q1.elim
end

/-! ### for -/
def loopL (f : D → Env → M Flow) : List D → Env → M Flow
  | [], δ => .ret (.next δ)
  | x :: xs, δ => (f x δ).bind fun fl => match fl with
    | .next δ' => loopL f xs δ'
    | .cont δ' => loopL f xs δ'
    | .brk δ' => .ret (.next δ')
    | .retn d => .ret (.retn d)
def turn (g : D → Env → Option Env) (mb : Env → M Flow) (d : D) (δ : Env) : M Flow := match g d δ with
  | some δ' => mb δ'
  | none => .fail
def sFor (mi : Env → M (List D)) (g : D → Env → Option Env) (mb : Env → M Flow) (δ : Env) : M Flow := (mi δ).bind fun ds => loopL (turn g mb) ds δ
def whileF (mt : Env → M Bool) (mb : Env → M Flow) : Nat → Env → M Flow
  | 0, _ => .fail
  | n + 1, δ => (mt δ).bind fun k => if k = true then (mb δ).bind fun fl => match fl with
      | .next δ' => whileF mt mb n δ'
      | .cont δ' => whileF mt mb n δ'
      | .brk δ' => .ret (.next δ')
      | .retn d => .ret (.retn d)
    else .ret (.next δ)
def sWhile (fuel : Nat) (mt : Env → M Bool) (mb : Env → M Flow) (δ : Env) : M Flow := whileF mt mb fuel δ
section
variable {X : Cx} {E : XK} {pos : Pos} {K : PySem.W.Frag} {fr : Fr1} {w : Option WA} {H : Hp} {σ : L2.St} {δ : Env}
theorem RS.pin (r : RS K fr w H σ δ) : RS K { fr with Z := H } w H σ δ := ⟨r.rd, r.len, r.grow, r.own, r.sep, r.w0, r.wf, .refl H⟩
theorem RS.unpin {H0 : Hp} (f : Fz fr.Z H0) (r : RS K { fr with Z := H0 } w H σ δ) : RS K fr w H σ δ := ⟨r.rd, r.len, r.grow, r.own, r.sep, r.w0, r.wf, f.trans r.fz⟩
theorem FlowP.pin {H0 : Hp} {Dn Dn' : Ends} {f : Flow} (z : Fz fr.Z H0) (h : FlowP K fr Dn f) (h1 : Dn'.nx = Dn.nx) (h2 : Dn'.rt = Dn.rt) (h3 : Dn'.bk = Dn.bk) (h4 : Dn'.ct = Dn.ct) : FlowP K { fr with Z := H0 } Dn' f := by
  cases f with
  | next δ => exact fun w σ H r => h1 ▸ h w σ H (r.unpin z)
  | retn d => exact fun v H g n => h2 ▸ h v H g n
  | brk δ => exact fun w σ H r => h3 ▸ h w σ H (r.unpin z)
  | cont δ => exact fun w σ H r => h4 ▸ h w σ H (r.unpin z)
theorem qs_for {tg iter : Expr} {body : List Stmt} {is : List Nat} {g : D → Env → Option Env} {mi : Env → M (List D)} {mb : Env → M Flow} (hp : PassesOwn (model X.prog X.w) X.A X.env X.xe) (hc : X.calm = true) (hi : QIt X E tg iter mi) (hg : QG X tg is g) (hb : QSs X E body mb)
    (hs : ∀ x, foldedSetIterable iter X.env x = pure x := by intro _; rfl) : QS X E (.For tg iter body [] pos) (sFor mi g mb) := by
  obtain ⟨wi, i1, i2⟩ := hi
  obtain ⟨tg', g1, g2⟩ := hg
  obtain ⟨tb, b1, b2⟩ := hb
  refine ⟨_, ps_for hp hc i1 g1 b1 hs, fun fr w σ H δ Dn r q => i2 w σ H δ _ r.rd (wp_in r (wp_bind.mp q) fun ds q1 J H1 gr T => ?_)⟩
  obtain ⟨G, Y, wk, hG, hst, hY⟩ := T.ex
  have r1 := (r.step gr).pin
  have z1 : Fz fr.Z H1 := (r.step gr).fz
  refine for_it wk (fun i σ' H' => ∃ w' δ', RS X.K { fr with Z := H1 } w' H' σ' δ' ∧ wp (loopL (turn g mb) (ds.drop i) δ') (FlowP X.K fr Dn) (XS X.mg E fr)) ⟨w, δ, r1, by simpa using q1⟩ (fun i σ' H' _ ⟨w', δ', r', _⟩ => hst H1 H' hG r'.fz) (fun i x σ' H' H'' hi ⟨w', δ', r', q'⟩ y => ?_) (fun σ' H' ⟨w', δ', r', q'⟩ => ?_)
  · obtain ⟨gr', d, hd, n⟩ := hY i H' x H'' hi (hst H1 H' hG r'.fz) y w' r'.rd.well
    have hdr : ds.drop i = d :: ds.drop (i + 1) := by
      rw [List.drop_eq_getElem_cons hi]
      rw [List.getElem?_eq_getElem hi] at hd
      rw [Option.some.inj hd]
    rw [hdr] at q'
    have q2 := wp_bind.mp q'
    unfold turn at q2
    cases hgd : g d δ' with
    | none => rw [hgd] at q2; exact q2.elim
    | some δ2 =>
      rw [hgd] at q2
      refine g2 H'' σ' δ' d x δ2 (fun σ δ => RS X.K { fr with Z := H1 } w' H'' σ δ) _ n hgd (r'.step gr') (fun σ δ j d v _ r n => r.setD n) fun σ2 r2 => ?_
      refine b2 { fr with Z := H1 } w' σ2 H'' δ2 _ r2 (wp_mono q2 (fun f k => ?_) fun _ z => z)
      cases f with
      | next δ3 => exact fun w3 σ3 H3 r3 => ⟨w3, δ3, r3, k⟩
      | cont δ3 => exact fun w3 σ3 H3 r3 => ⟨w3, δ3, r3, k⟩
      | brk δ3 => exact fun w3 σ3 H3 r3 => k w3 σ3 H3 (r3.unpin z1)
      | retn d => exact fun v H3 g3 n3 => k v H3 g3 n3
  · rw [List.drop_length] at q'
    exact q' w' σ' H' (r'.unpin z1)
theorem qs_while (fuel : Nat) {c : Expr} {body : List Stmt} {mt : Env → M Bool} {mb : Env → M Flow} (hp : PassesOwn (model X.prog X.w) X.A X.env X.xe) (hc : QT X E c mt) (hb : QSs X E body mb) : QS X E (.While c body [] pos) (sWhile fuel mt mb) := by
  obtain ⟨tc, c1, c2⟩ := hc
  obtain ⟨tb, b1, b2⟩ := hb
  refine ⟨_, ps_while hp c1 b1, fun fr w σ H δ Dn r q => ?_⟩
  refine ⟨fun n σ' H' => ∃ w' δ', RS X.K fr w' H' σ' δ' ∧ wp (whileF mt mb n δ') (FlowP X.K fr Dn) (XS X.mg E fr), ⟨fuel, w, δ, r, q⟩, fun n σ' H' ⟨w', δ', r', q'⟩ => ?_⟩
  cases n with
  | zero => exact q'.elim
  | succ n =>
    refine c2 w' σ' H' δ' _ r'.rd (wp_in r' (wp_bind.mp q') fun k q1 H1 g => ?_)
    cases k with
    | false => exact q1 w' σ' H1 (r'.step g)
    | true =>
      refine iteT ⟨fun σ2 H2 => ∃ w' δ', RS X.K fr w' H2 σ2 δ' ∧ wp (whileF mt mb n δ') (FlowP X.K fr Dn) (XS X.mg E fr), fun σ2 H2 z => ⟨n, Nat.lt_succ_self n, z⟩, ?_⟩
      refine b2 fr w' σ' H1 δ' _ (r'.step g) (wp_mono (wp_bind.mp q1) (fun f k => ?_) fun _ z => z)
      cases f with
      | next δ3 => exact fun w3 σ3 H3 r3 => ⟨w3, δ3, r3, k⟩
      | cont δ3 => exact fun w3 σ3 H3 r3 => ⟨w3, δ3, r3, k⟩
      | brk δ3 => exact fun w3 σ3 H3 r3 => k w3 σ3 H3 r3
      | retn d => exact fun v H3 g3 n3 => k v H3 g3 n3
end
end Q

set_option Elab.async false
set_option linter.all false
set_option maxRecDepth 100000
namespace Q
open PySem PySem.Spec PyProof.Rows L2
variable [WellKind] {u : Bool}
/-! ### defs -/
/-- a def keeps a promise, called where no repr is under way -/
structure GOk (u : Bool) (P : Program) (w : World) (K : PySem.W.Frag) (mg : Str → Option Value) (base : Heap) (k : Nat) (f : Addr) (fd : FuncData) (ps : List Str) (sp : Sp) : Prop where
  ar : ∀ vs H Q E, sp vs H Q E → vs.length = ps.length
  go : ∀ (A : Around) (outer : List PySem.Env) (s : Shared) (H : Hp) (args : Args) (us : List Value) (vs : List V) (Q : VK) (E : XK), Room k A → (u = true → A.guards = some []) → Env0 P w K mg base A outer s H →
    BindsTo s fd args (ps.zip us) → Vals vs us → sp vs H Q E → codeAny (model P w) A (.call (.ref f) args) (CR (L2.CX P w) outer P w H s Q E) s
section
variable {P : Program} {w : World} {K : PySem.W.Frag} {mg : Str → Option Value} {base : Heap}
theorem GOk.lift {j k : Nat} {f : Addr} {fd : FuncData} {ps : List Str} {sp : Sp} {v : Bool} (F : GOk u P w K mg base j f fd ps sp) (h : j ≤ k) (hv : u = true → v = true := by first | exact _root_.id | decide) : GOk v P w K mg base k f fd ps sp :=
  ⟨F.ar, fun A outer s H args us vs Q E hr hg => F.go A outer s H args us vs Q E (hr.mono h) fun z => hg (hv z)⟩
theorem GOk.of {x qual : Str} {st : Stmt} {f : Addr} {fd : FuncData} {N ps : List Str} {k : Nat} {sp : Sp} (F : Fun K x qual st f fd) (S : FnScope N ps (defScope st)) (ar : ∀ vs H Q E, sp vs H Q E → vs.length = ps.length)
    (hb : ∀ (cdv : Value), fd.code = cdv → ∀ (A : Around) (outer : List PySem.Env) (s : Shared) (H : Hp) (vs : List V) (Q : VK) (E : XK), Room k (A.deeper (envOfC qual (defScope st) s.heap.objs.size f cdv)) → (u = true → A.guards = some []) → sp vs H Q E →
      ∃ t, PSs (cxOf (L2.CX P w) P w K mg base N qual (defScope st) f cdv A outer s H E) (defBody st) t ∧ t { nx := fun _ H' => Q .non H', rt := Q } (start N vs) H) : GOk u P w K mg base (k + 1) f fd ps sp := by
  obtain ⟨oc, od, kV, doc, pm, an, cdv, ct, osl, rfl, lk, hcd⟩ := F.ex
  refine ⟨ar, fun A outer s H args us vs Q E hr hgd e0 hbd rv hsp => ?_⟩
  have kin : K.In s.heap := e0.mod.kin.keeps fun b o e => (e0.bs b o e).1
  refine codeAny_call_function hr.depth (kin _ _ lk) rfl S.co S.gen rfl (PySem.W.codeRec_of kin hcd) (hbd _ _ _ _ ?_)
  refine wpAny_newFunctionEnv_cells S.kind (fun ⟨n, v⟩ hy => (S.par n (List.of_mem_zip hy).1).imp id fun q => ⟨q, PySem.W.cellsFrom_some _ _ _ (.inl q)⟩) fun env he s1 ic => ?_
  subst he
  refine ⟨(e0.mod.nolimit.keeps fun b o e => (e0.bs b o e).1).keeps ic.toInCall.keep, codeAny_func ?_⟩
  obtain ⟨t, ht, hq⟩ := hb cdv rfl A outer s H vs Q E (hr.deeper _) hgd hsp
  refine wpAny_mono (ht.run [] s1 (start N vs) H _ (inv_start S hr.hd e0 (ar _ _ _ _ hsp) rv ic) hq) (fun fl s2 hs => ?_) fun _ _ z => z
  cases fl with
  | next =>
    obtain ⟨σ2, H2, J, q⟩ := hs
    exact ⟨V.non, H2, J.os, J.bare, J.base, J.hok, rfl, q⟩
  | ret u =>
    obtain ⟨v, σ2, H2, J, rv, q⟩ := hs
    exact ⟨v, H2, J.os, J.bare, J.base, J.hok, rv, q⟩
  | brk => obtain ⟨_, _, _, q⟩ := hs; exact q.elim
  | cont => obtain ⟨_, _, _, q⟩ := hs; exact q.elim
end
/-- where one stands -/
structure Good (u : Bool) (X : Cx) (E : XK) (k : Nat) : Prop where
  calm : X.calm = true
  room : Room k X.A
  grd : u = true → X.A.guards = some []
  pown : PassesOwn (model X.prog X.w) X.A X.env X.xe
  pass : Passes (L2.CX X.prog X.w) X E
  tk : Takes X fun cls d _ H => E cls d H
theorem Good.blk {X : Cx} {E : XK} {k : Nat} (g : Good u X E k) (s : Shared) (H : Hp) (scope : Scope) (cenv : PySem.Env) (fp : List Addr) : Good u (X.blk s H scope cenv fp) E0 k :=
  ⟨g.calm, g.room, g.grd, PassesOwn.never, passL, LamX.takes0⟩
theorem Good.mono {X : Cx} {E : XK} {j k : Nat} {v : Bool} (g : Good u X E k) (h : j ≤ k) (hv : v = true → u = true := by decide) : Good v X E j := ⟨g.calm, g.room.mono h, fun z => g.grd (hv z), g.pown, g.pass, g.tk⟩

/-! ### the mirror's promise -/
inductive ArgsOk (K : PySem.W.Frag) (w : Option WA) (H : Hp) : List V → List Slot → Prop
  | nil : ArgsOk K w H [] []
  | dat {v : V} {d : D} {vs : List V} {ss : List Slot} : Den K H v d → ArgsOk K w H vs ss → ArgsOk K w H (v :: vs) (.dat d :: ss)
  | well {x : WA} {vs : List V} {ss : List Slot} : w = some x → ArgsOk K w H vs ss → ArgsOk K w H (.ref x.a :: vs) (.well :: ss)
section
variable {K : PySem.W.Frag} {w : Option WA} {H H' : Hp}
theorem ArgsOk.grow (g : Grow w H H') : ∀ {vs : List V} {ss : List Slot}, ArgsOk K w H vs ss → ArgsOk K w H' vs ss
  | _, _, .nil => .nil
  | _, _, .dat n r => .dat (n.grow g) (r.grow g)
  | _, _, .well e r => .well e (r.grow g)
theorem ArgsOk.len : ∀ {vs : List V} {ss : List Slot}, ArgsOk K w H vs ss → vs.length = ss.length
  | _, _, .nil => rfl
  | _, _, .dat _ r => by rw [List.length_cons, List.length_cons, r.len]
  | _, _, .well _ r => by rw [List.length_cons, List.length_cons, r.len]
theorem ArgsOk.slot : ∀ {vs : List V} {ss : List Slot} {i : Nat} {s : Slot}, ArgsOk K w H vs ss → ss[i]? = some s → (∀ ds, s ≠ .own ds) ∧ SlotOk K w H ((vs.map some)[i]?) s
  | _, _, _, _, .nil, e => by simp at e
  | _, _, 0, _, .dat n _, e => by simp at e; subst e; exact ⟨fun _ z => (by cases z), _, rfl, n⟩
  | _, _, 0, _, .well h _, e => by simp at e; subst e; exact ⟨fun _ z => (by cases z), _, h, rfl⟩
  | _, _, i + 1, _, .dat _ r, e => by simpa using r.slot (i := i) (by simpa using e)
  | _, _, i + 1, _, .well _ r, e => by simpa using r.slot (i := i) (by simpa using e)
end
def pad (n : Nat) (ss : List Slot) : Env := ss ++ List.replicate (n - ss.length) .emp
def ends : Flow → M D
  | .retn d => .ret d
  | .next _ => .ret .none
  | _ => .fail
/-- what a def comes to -/
def fnM (n : Nat) (body : Env → M Flow) (ss : List Slot) : M D := (body (pad n ss)).bind ends
def spM (K : PySem.W.Frag) (mg : Str → Option Value) (ar : Nat) (f : List Slot → M D) : Sp := fun vs H Q E => ∃ w ss, ss.length = ar ∧ ArgsOk K w H vs ss ∧ (∀ x, w = some x → WellOk H x) ∧ Tbs H ∧
  wp (f ss) (fun d => ∀ v H', Grow w H H' → Den K H' v d → Q v H') (XP mg E w H)
theorem spM_len {K : PySem.W.Frag} {mg : Str → Option Value} {ar : Nat} {f : List Slot → M D} {vs : List V} {H : Hp} {Q : VK} {E : XK} (h : spM K mg ar f vs H Q E) : vs.length = ar := by
  obtain ⟨w, ss, h1, h2, _⟩ := h
  rw [h2.len, h1]
theorem rs_start {K : PySem.W.Frag} {w : Option WA} {H : Hp} {vs : List V} {ss : List Slot} {N : List Str} (h : ArgsOk K w H vs ss) (hw : ∀ x, w = some x → WellOk H x) (ht : Tbs H) : RS K ⟨H, w, H⟩ w H (L2.start N vs) (pad N.length ss) := by
  have hl := h.len
  have no : ∀ (i : Nat) (ds : List D), (pad N.length ss)[i]? ≠ some (.own ds) := fun i ds e => by
    unfold pad at e
    by_cases hi : i < ss.length
    · rw [List.getElem?_append_left hi] at e
      exact (h.slot e).1 ds rfl
    · rw [List.getElem?_append_right (by omega), List.getElem?_replicate] at e
      split at e <;> cases e
  have hlen : (L2.start N vs).length = (pad N.length ss).length := by
    unfold L2.start pad
    rw [List.length_append, List.length_append, List.length_map, List.length_replicate, List.length_replicate, hl]
  refine ⟨⟨fun i s e => ?_, hw, hlen, ht⟩, hlen, .refl hw, fun i ds p e _ => absurd e (no i ds), fun i j ds es p q _ e _ _ _ => absurd e (no i ds), .inr rfl, fun x hx z => (by rw [hx] at z; cases z), .refl H⟩
  · unfold pad at e
    by_cases hi : i < ss.length
    · rw [List.getElem?_append_left hi] at e
      have q := (h.slot e).2
      unfold L2.start
      rw [List.getElem?_append_left (by rw [List.length_map, hl]; exact hi)]
      exact q
    · rw [List.getElem?_append_right (by omega), List.getElem?_replicate] at e
      split at e
      · cases e; trivial
      · cases e
/-- a def by its mirror -/
theorem fn_pure {P : Program} {w : World} {K : PySem.W.Frag} {mg : Str → Option Value} {base : Heap} {x qual : Str} {st : Stmt} {f : Addr} {fd : FuncData} {N ps : List Str} {k : Nat} {mb : Env → M Flow} {n : Nat} (F : Fun K x qual st f fd) (S : FnScope N ps (defScope st)) (hn : N.length = n)
    (hb : ∀ (X : Cx) (E : XK), X.prog = P → X.w = w → X.K = K → X.mg = mg → X.base = base → X.N = N → X.env.scope = defScope st → (∀ x, X.fn x = true) → (∃ cdv A outer s H, fd.code = cdv ∧ X = cxOf (L2.CX P w) P w K mg base N qual (defScope st) f cdv A outer s H E) → Good u X E k → QSs X E (defBody st) mb) :
    GOk u P w K mg base (k + 1) f fd ps (spM K mg ps.length (fnM n mb)) := by
  refine GOk.of F S (fun vs H Q E h => spM_len h) fun cdv hcv A outer s H vs Q E hr hg h => ?_
  obtain ⟨wa, ss, h1, h2, h3, ht, h4⟩ := h
  have gd : Good u (cxOf (L2.CX P w) P w K mg base N qual (defScope st) f cdv A outer s H E) E k :=
    ⟨rfl, hr, hg, L2.passes_of rfl, L2.passes_call (L2.takes_of rfl rfl rfl rfl) fun _ _ _ _ z => z, L2.takes_of rfl rfl rfl rfl⟩
  obtain ⟨t, a, b⟩ := hb _ E rfl rfl rfl rfl rfl rfl rfl (fun _ => rfl) ⟨cdv, A, outer, s, H, hcv, rfl⟩ gd
  refine ⟨t, a, b ⟨H, wa, H⟩ wa (start N vs) H (pad N.length ss) _ (rs_start h2 h3 ht) ?_⟩
  unfold fnM at h4
  rw [hn]
  refine wp_mono (wp_bind.mp h4) (fun fl q => ?_) fun _ z => z
  cases fl with
  | next δ => exact fun w' σ' H' r' => q .non H' r'.grow .non
  | retn d => exact fun v H' g n => q v H' g n
  | brk δ => exact q.elim
  | cont δ => exact q.elim
/-! ### an order of their own -/
def permL {α : Type} (is : List Nat) (l : List α) : List α := is.filterMap fun i => l[i]?
theorem permL_len {α : Type} {l : List α} : ∀ {is : List Nat}, (∀ i ∈ is, i < l.length) → (permL is l).length = is.length
  | [], _ => rfl
  | i :: is, h => by
    have hi := h i List.mem_cons_self
    unfold permL
    rw [List.filterMap_cons, List.getElem?_eq_getElem hi]
    show ((permL is l).length + 1) = _
    rw [permL_len fun j hj => h j (List.mem_cons_of_mem _ hj)]; rfl
theorem vals_perm {vs : List V} {us : List Value} (r : Vals vs us) : ∀ is : List Nat, Vals (permL is vs) (permL is us)
  | [] => .nil
  | i :: is => by
    unfold permL
    rw [List.filterMap_cons, List.filterMap_cons]
    cases e : vs[i]? with
    | none => rw [r.none_of e]; exact vals_perm r is
    | some v =>
      obtain ⟨u, e2, r2⟩ := r.get e
      rw [e2]
      exact .cons r2 (vals_perm r is)
theorem ArgsOk.get {K : PySem.W.Frag} {w : Option WA} {H : Hp} : ∀ {vs : List V} {ss : List Slot} {i : Nat} {v : V}, ArgsOk K w H vs ss → vs[i]? = some v → ∃ s, ss[i]? = some s ∧ ∀ {vs' : List V} {ss' : List Slot}, ArgsOk K w H vs' ss' → ArgsOk K w H (v :: vs') (s :: ss')
  | _, _, _, _, .nil, e => by simp at e
  | _, _, 0, _, .dat n _, e => by simp at e; subst e; exact ⟨_, rfl, fun r => .dat n r⟩
  | _, _, 0, _, .well h _, e => by simp at e; subst e; exact ⟨_, rfl, fun r => .well h r⟩
  | _, _, i + 1, _, .dat _ r, e => by
    obtain ⟨s, h1, h2⟩ := r.get (i := i) (by simpa using e)
    exact ⟨s, by simpa using h1, h2⟩
  | _, _, i + 1, _, .well _ r, e => by
    obtain ⟨s, h1, h2⟩ := r.get (i := i) (by simpa using e)
    exact ⟨s, by simpa using h1, h2⟩
theorem ArgsOk.perm {K : PySem.W.Frag} {w : Option WA} {H : Hp} {vs : List V} {ss : List Slot} (r : ArgsOk K w H vs ss) : ∀ is : List Nat, ArgsOk K w H (permL is vs) (permL is ss)
  | [] => .nil
  | i :: is => by
    unfold permL
    rw [List.filterMap_cons, List.filterMap_cons]
    cases e : vs[i]? with
    | none =>
      have e2 : ss[i]? = none := by
        rw [List.getElem?_eq_none_iff] at e ⊢
        rw [← r.len]; exact e
      rw [e2]; exact r.perm is
    | some v =>
      obtain ⟨s, e2, k⟩ := r.get e
      rw [e2]
      exact k (r.perm is)
/-! ### calls of defs -/
/-- whatever it gives is so -/
def M.all {α : Type} (P : α → Prop) : M α → Prop
  | .ret a => P a
  | .draw _ k => ∀ r, (k r).all P
  | .raise _ => True
  | .fail => True
theorem M.all_bind {α β : Type} {P : β → Prop} {f : α → M β} : ∀ {m : M α}, (∀ a, (f a).all P) → (m.bind f).all P
  | .ret a, h => h a
  | .draw _ k, h => fun r => M.all_bind (m := k r) h
  | .raise _, _ => trivial
  | .fail, _ => trivial
theorem M.all_bind2 {α β : Type} {P : β → Prop} {P0 : α → Prop} {f : α → M β} : ∀ {m : M α}, m.all P0 → (∀ a, P0 a → (f a).all P) → (m.bind f).all P
  | .ret a, h0, h => h a h0
  | .draw _ k, h0, h => fun r => M.all_bind2 (m := k r) (h0 r) h
  | .raise _, _, _ => trivial
  | .fail, _, _ => trivial
theorem wp_all {α : Type} {P Q : α → Prop} {R : Exn → Prop} : ∀ {m : M α}, wp m Q R → m.all P → wp m (fun a => P a ∧ Q a) R
  | .ret _, h, a => ⟨a, h⟩
  | .draw _ _, h, a => ⟨h.1, fun x h0 h1 => wp_all (h.2 x h0 h1) (a x)⟩
  | .raise _, h, _ => h
  | .fail, h, _ => h
def QArgs (X : Cx) (E : XK) (es : List Expr) (m : Env → M (List Slot)) : Prop :=
  (∀ δ, (m δ).all fun ss => ss.length = es.length) ∧ ∃ t, PA X es t ∧ ∀ w σ H δ Q, RD X.K w H σ δ → wp (m δ) (fun ss => ∀ vs H', Grow w H H' → ArgsOk X.K w H' vs ss → Q vs H') (XP X.mg E w H) → t σ H Q
def QKw (X : Cx) (E : XK) (kws : List Keyword) (m : Env → M (List Slot)) : Prop :=
  (∀ δ, (m δ).all fun ss => ss.length = kws.length) ∧ ∃ t, PK X kws t ∧ ∀ w σ H δ Q, RD X.K w H σ δ → wp (m δ) (fun ss => ∀ vs H', Grow w H H' → ArgsOk X.K w H' vs ss → Q vs H') (XP X.mg E w H) → t σ H Q
def aNil (_ : Env) : M (List Slot) := .ret []
def aCons (me : Env → M D) (ms : Env → M (List Slot)) (δ : Env) : M (List Slot) := (me δ).bind fun d => (ms δ).bind fun ss => .ret (.dat d :: ss)
/-- the well itself is handed on -/
def aWell (i : Nat) (ms : Env → M (List Slot)) (δ : Env) : M (List Slot) := match δ[i]? with
  | some .well => (ms δ).bind fun ss => .ret (.well :: ss)
  | _ => .fail
def eCall (f : List Slot → M D) (ms : Env → M (List Slot)) (δ : Env) : M D := (ms δ).bind f
def eCallK (g : List Slot → List Slot) (f : List Slot → M D) (ms : Env → M (List Slot)) (δ : Env) : M D := (ms δ).bind fun ss => f (g ss)
section
variable {X : Cx} {E : XK} {e : Expr} {es : List Expr} {me : Env → M D} {ms : Env → M (List Slot)} {pos p kpos : Pos} {kws : List Keyword} {nm : Option Str}
theorem qa_nil : QArgs X E [] aNil := ⟨fun _ => rfl, _, pa_nil, fun w σ H δ Q r q => q [] H (.refl r.well) .nil⟩
theorem qa_cons (h : QE X E e me) (h2 : QArgs X E es ms) (hs : starEach (e :: es) X.env = (false, eval e X.env) :: starEach es X.env := by rfl) : QArgs X E (e :: es) (aCons me ms) := by
  obtain ⟨t, a, b⟩ := h
  obtain ⟨l2, t2, a2, b2⟩ := h2
  refine ⟨fun δ => M.all_bind fun d => M.all_bind2 (l2 δ) fun ss e => congrArg Nat.succ e, _, pa_cons a a2 hs, fun w σ H δ Q r q => b w σ H δ _ r (wp_then (wp_bind.mp q) fun d q1 v H1 g1 n1 => ?_)⟩
  refine b2 w σ H1 δ _ (r.grow g1) (wp_mono (wp_bind.mp q1) (fun ss q2 vs H2 g2 n2 => ?_) fun _ z => z.grow g1)
  exact q2 (v :: vs) H2 (g1.trans g2) (.dat (n1.grow g2) n2)
theorem qa_well (i : Nat) {x : Str} (h2 : QArgs X E es ms) (hN : X.N[i]? = some x := by rfl) (hv : Vis X.env.scope x := by first | exact Or.inl rfl | exact Or.inr (Or.inl rfl) | exact Or.inr (Or.inr rfl))
    (hs : starEach (.Name x pos :: es) X.env = (false, eval (.Name x pos) X.env) :: starEach es X.env := by rfl) (hd : (x == ("__debug__" : Str)) = false := by decide) (hcd : (x == ("__classdict__" : Str)) = false := by decide) : QArgs X E (.Name x pos :: es) (aWell i ms) := by
  obtain ⟨l2, t2, a2, b2⟩ := h2
  refine ⟨fun δ => ?_, _, pa_cons (pe_var hN hv hd hcd) a2 hs, fun w σ H δ Q r q => ?_⟩
  · unfold aWell
    split
    · exact M.all_bind2 (l2 δ) fun ss e => congrArg Nat.succ e
    · trivial
  unfold aWell at q
  split at q
  · rename_i e
    obtain ⟨x, hx, e1⟩ := r.slot i _ e
    exact ⟨_, e1, b2 w σ H δ _ r (wp_then (wp_bind.mp q) fun ss q2 vs H2 g2 n2 => q2 _ H2 g2 (.well hx n2))⟩
  · exact q.elim
theorem qk_nil : QKw X E [] aNil := ⟨fun _ => rfl, _, pk_nil, fun w σ H δ Q r q => q [] H (.refl r.well) .nil⟩
theorem qk_cons (h : QE X E e me) (h2 : QKw X E kws ms) : QKw X E (⟨nm, e, kpos⟩ :: kws) (aCons me ms) := by
  obtain ⟨t, a, b⟩ := h
  obtain ⟨l2, t2, a2, b2⟩ := h2
  refine ⟨fun δ => M.all_bind fun d => M.all_bind2 (l2 δ) fun ss e => congrArg Nat.succ e, _, pk_cons a a2, fun w σ H δ Q r q => b w σ H δ _ r (wp_then (wp_bind.mp q) fun d q1 v H1 g1 n1 => ?_)⟩
  refine b2 w σ H1 δ _ (r.grow g1) (wp_mono (wp_bind.mp q1) (fun ss q2 vs H2 g2 n2 => ?_) fun _ z => z.grow g1)
  exact q2 (v :: vs) H2 (g1.trans g2) (.dat (n1.grow g2) n2)
/-- the callee runs -/
theorem run_g {k : Nat} {f : Addr} {fd : FuncData} {ps : List Str} {sp : Sp} {pins : List (Addr × Obj)} {σ : L2.St} {H : Hp} {s : Shared} {Q : VK} {us us' : List Value} {kw : List (Str × Value)} {vs : List V} (F : GOk u X.prog X.w X.K X.mg X.base k f fd ps sp) (gd : Good u X E k) (I : Inv X pins σ H s)
    (hb : BindsTo s fd ⟨us, kw⟩ (ps.zip us')) (r : Vals vs us') (h : sp vs H Q E) : wpAny (model X.prog X.w) X.A (call (.ref f) us kw) (EP X pins σ Q) X.xe s := by
  refine wpAny_call (codeAny_mono (F.go X.A X.stack s H ⟨us, kw⟩ us' vs Q E gd.room gd.grd I.env0 hb r h) fun res s2 hq => ?_)
  cases res with
  | ok fl =>
    cases fl with
    | ret u => exact I.after hq
    | next => exact hq.elim
    | brk => exact hq.elim
    | cont => exact hq.elim
  | error u => exact gd.pass pins σ H s u s2 I hq
theorem pe_g {k : Nat} {f : Addr} {fd : FuncData} {ps : List Str} {sp : Sp} {t : TA} {x : Str} (F : GOk u X.prog X.w X.K X.mg X.base k f fd ps sp) (gd : Good u X E k) (hm : X.mg x = some (.ref f)) (hk : PySem.W.keepIn X.K (.ref f) = true) (hb : Binds X.K fd ps []) (ha : PA X (e :: es) t) (hg : Gl X x)
    (hdb : (x == ("__debug__" : Str)) = false) (he : starEach (e :: es) X.env = (false, eval e X.env) :: starEach es X.env) (hpl : (backTo pos (starEach es X.env)).any (·.1) = false) :
    PE X (.Call (.Name x p) (e :: es) [] pos) (tCB (fun vs H Q => sp vs H Q E) t) := by
  refine ⟨fun pins s σ H Q I h => wpAny_Call_Name_kw (ld_glob I hg hm ?_ hdb)⟩
  refine PySem.W.callWith_K (h₀ := X.base) I.ok.mod.kin hk (thn (ha.run pos pins s σ H _ I h) fun us s1 ⟨vs, H1, I1, r, q⟩ => ⟨I1.kIn, ?_⟩) he hpl
  have hb' := hb s1 us I1.kIn (by rw [List.append_nil, ← r.length]; exact F.ar _ _ _ _ q)
  rw [List.append_nil] at hb'
  exact run_g F gd I1 hb' r q
theorem pe_g0 {k : Nat} {f : Addr} {fd : FuncData} {sp : Sp} {x : Str} (F : GOk u X.prog X.w X.K X.mg X.base k f fd [] sp) (gd : Good u X E k) (hm : X.mg x = some (.ref f)) (hk : PySem.W.keepIn X.K (.ref f) = true) (hb : Binds X.K fd [] []) (hg : Gl X x)
    (hdb : (x == ("__debug__" : Str)) = false) : PE X (.Call (.Name x p) [] [] pos) (tCB (fun vs H Q => sp vs H Q E) tNil) := by
  refine ⟨fun pins s σ H Q I h => wpAny_Call_Name_kw (ld_glob I hg hm ?_ hdb)⟩
  exact PySem.W.callWith_K0 I.kIn hk (run_g (us := []) (us' := []) F gd I (hb s [] I.kIn rfl) .nil h)
/-- f(e, ..) -/
theorem qe_call {k : Nat} {f : Addr} {fd : FuncData} {ps : List Str} {fm : List Slot → M D} {x : Str} (F : GOk u X.prog X.w X.K X.mg X.base k f fd ps (spM X.K X.mg ps.length fm)) (gd : Good u X E k) (hm : X.mg x = some (.ref f)) (hk : PySem.W.keepIn X.K (.ref f) = true) (hb : Binds X.K fd ps [])
    (h : QArgs X E (e :: es) ms) (hg : Gl X x := by rfl) (hdb : (x == ("__debug__" : Str)) = false := by decide) (he : starEach (e :: es) X.env = (false, eval e X.env) :: starEach es X.env := by rfl) (hpl : (backTo pos (starEach es X.env)).any (·.1) = false := by rfl) 
    (hl : (e :: es).length = ps.length := by rfl) : QE X E (.Call (.Name x p) (e :: es) [] pos) (eCall fm ms) := by
  obtain ⟨l, t, a, b⟩ := h
  refine ⟨_, pe_g F gd hm hk hb a hg hdb he hpl, fun w σ H δ Q r q => b w σ H δ _ r (wp_then (wp_all (wp_bind.mp q) (l δ)) fun ss q1 vs H1 g1 n1 => ?_)⟩
  exact ⟨w, ss, q1.1.trans hl, n1, g1.well, g1.tabs r.tabs, wp_mono q1.2 (fun d k v H' g n => k v H' (g1.trans g) n) fun _ z => z.grow g1⟩
/-- f(k = e, ..): the keywords in an order of their own -/
theorem qe_callK (is : List Nat) {k : Nat} {f : Addr} {fd : FuncData} {ps ks : List Str} {fm : List Slot → M D} {x : Str} (F : GOk u X.prog X.w X.K X.mg X.base k f fd ps (spM X.K X.mg ps.length fm)) (gd : Good u X E k) (hm : X.mg x = some (.ref f)) (hk : PySem.W.keepIn X.K (.ref f) = true)
    (hb : ∀ (s : Shared) (ws : List Value), ws.length = ps.length → BindsTo s fd ⟨[], ks.zip ws⟩ (ps.zip (permL is ws)))
    (h : QKw X E kws ms) (hg : Gl X x := by rfl) (hall : (backToKw pos (keywordEach kws X.env)).all (·.1.isSome) = true := by rfl) (hks : (backToKw pos (keywordEach kws X.env)).filterMap (·.1) = ks := by rfl) (hdb : (x == ("__debug__" : Str)) = false := by decide)
    (hpl : ((backTo pos (starEach [] X.env)).any (·.1) || (backToKw pos (keywordEach kws X.env)).any (·.1.isNone)) = false := by rfl) (hl : kws.length = ps.length := by rfl) (hi : is.length = ps.length := by rfl) (hi2 : ∀ i ∈ is, i < ps.length := by decide) :
    QE X E (.Call (.Name x p) [] kws pos) (eCallK (permL is) fm ms) := by
  obtain ⟨l, t, a, b⟩ := h
  refine ⟨fun σ H Q => t σ H fun vs H1 => spM X.K X.mg ps.length fm (permL is vs) H1 Q E ∧ vs.length = ps.length, ⟨fun pins s σ H Q I h => wpAny_Call_Name_kw (ld_glob I hg hm ?_ hdb)⟩, fun w σ H δ Q r q => b w σ H δ _ r (wp_then (wp_all (wp_bind.mp q) (l δ)) fun ss q1 vs H1 g1 n1 => ?_)⟩
  · refine PySem.W.callWith_KW0 (h₀ := X.base) I.ok.mod.kin hk hall (thn (a.run pos pins s σ H _ I h) fun ws s2 ⟨zs, H2, I2, rz, q2, q3⟩ => ⟨I2.kIn, ?_⟩) hpl
    rw [hks]
    exact run_g (us := []) F gd I2 (hb s2 ws (by rw [← rz.length]; exact q3)) (vals_perm rz is) q2
  · have hs := q1.1.trans hl
    exact ⟨⟨w, permL is ss, by rw [permL_len (fun i hi => by rw [hs]; exact hi2 i hi), hi], n1.perm is, g1.well, g1.tabs r.tabs, wp_mono q1.2 (fun d k v H' g n => k v H' (g1.trans g) n) fun _ z => z.grow g1⟩, by rw [n1.len, hs]⟩
theorem qe_call0 {k : Nat} {f : Addr} {fd : FuncData} {fm : List Slot → M D} {x : Str} (F : GOk u X.prog X.w X.K X.mg X.base k f fd [] (spM X.K X.mg 0 fm)) (gd : Good u X E k) (hm : X.mg x = some (.ref f)) (hk : PySem.W.keepIn X.K (.ref f) = true) (hb : Binds X.K fd [] [])
    (hg : Gl X x := by rfl) (hdb : (x == ("__debug__" : Str)) = false := by decide) : QE X E (.Call (.Name x p) [] [] pos) (eCall fm aNil) := by
  refine ⟨_, pe_g0 F gd hm hk hb hg hdb, fun w σ H δ Q r q => ⟨w, [], rfl, .nil, r.well, r.tabs, ?_⟩⟩
  exact q
end
end Q

set_option Elab.async false
set_option linter.all false
set_option maxRecDepth 100000
namespace Q
open PySem PySem.Spec PyProof.Rows L2
variable [WellKind]
/-! ### a new list is frozen where it is made -/
def fzK (Q : VK) : VK := fun v H => Q v H ∨ ∃ p vs, v = .ref p ∧ H p = some (.lst vs) ∧ ∀ o, Q v (upd H p (.frz o (.lst vs)))
section
variable {X : Cx}
theorem EP.fz {pins : List (Addr × Obj)} {σ : L2.St} {Q : VK} {u : Value} {s : Shared} (h : EP X pins σ (fzK Q) u s) : EP X pins σ Q u s := by
  obtain ⟨v, H, I, r, h | ⟨p, vs, e, h1, h2⟩⟩ := h
  · exact ⟨v, H, I, r, h⟩
  · obtain ⟨o, I'⟩ := I.lock h1 trivial
    exact ⟨v, _, I', r, h2 o⟩
theorem OpR.fz {f : Value → Value → Sem Value} {r : R2} (h : OpR X f r) : OpR X f (fun x y H Q => r x y H (fzK Q)) := fun pins s σ H x y v u Q I rx ry q => thn (h pins s σ H x y v u (fzK Q) I rx ry q) fun _ _ z => EP.fz z
theorem CallR.fz {f : Value} {r : List V → Hp → VK → Prop} (h : CallR X f r) : CallR X f (fun xs H Q => r xs H (fzK Q)) := fun pins s σ H xs us Q I rx q => thn (h pins s σ H xs us (fzK Q) I rx q) fun _ _ z => EP.fz z
theorem PE.fz {e : Expr} {t : TE} (h : PE X e t) : PE X e (fun σ H Q => t σ H (fzK Q)) := ⟨fun pins s σ H Q I q => thn (h.run pins s σ H (fzK Q) I q) fun _ _ z => EP.fz z⟩
end
section
variable {K : PySem.W.Frag} {w : Option WA} {H H' : Hp}
/-- a new list of data, as data -/
theorem fz_new {Q : VK} {p : Addr} {vs : List V} {ds : List D} (hw : ∀ x, w = some x → WellOk H x) (e : H p = none) (n : DenAll K H vs ds) (k : ∀ v H', Grow w H H' → Den K H' v (.list ds) → Q v H') : fzK Q (.ref p) (upd H p (.lst vs)) := by
  refine .inr ⟨p, vs, rfl, upd_same, fun o => ?_⟩
  have g : Grow w H (upd (upd H p (.lst vs)) p (.frz o (.lst vs))) := Grow.new2 hw e
  exact k _ _ g (.lst ⟨o, upd_same⟩ (n.grow g))
theorem tup_new {Q : VK} {p : Addr} {vs : List V} {ds : List D} (hw : ∀ x, w = some x → WellOk H x) (e : H p = none) (n : DenAll K H vs ds) (k : ∀ v H', Grow w H H' → Den K H' v (.tuple ds) → Q v H') : Q (.ref p) (upd H p (.tup vs)) := by
  have g : Grow w H (upd H p (.tup vs)) := Grow.new hw e
  exact k _ _ g (.tup (.of upd_same) (n.grow g))
theorem DenAll.nil_iff {vs : List V} {ds : List D} (h : DenAll K H vs ds) : vs = [] ↔ ds = [] := by
  cases h <;> simp
end
/-! ### operators -/
def okL (n : Nat) (m : M D) : M D := if n ≤ sizeLine then m else .fail
def dAdd : D → D → M D
  | .int a, .int b => .ret (.int (a + b))
  | .str a, .str b => okL (a.length + b.length) (.ret (.str (a ++ b)))
  | .list a, .list b => okL (a.length + b.length) (.ret (.list (a ++ b)))
  | .tuple a, .tuple b => okL (a.length + b.length) (.ret (.tuple (a ++ b)))
  | _, _ => .fail
def dSub : D → D → M D
  | .int a, .int b => .ret (.int (a - b))
  | _, _ => .fail
def mulS (x : Str) (n : Int) : Str := ⟨(List.replicate n.toNat x.cps.toList).flatten.toArray⟩
def dMul : D → D → M D
  | .int a, .int b => if ((-(2 ^ 64) < a ∧ a < 2 ^ 64) ∨ (-(2 ^ 64) < b ∧ b < 2 ^ 64)) ∨ a.natAbs.log2 + b.natAbs.log2 < 1000000 then .ret (.int (a * b)) else .fail
  | .str a, .int n => if -(2 ^ 63) ≤ n ∧ n < 2 ^ 63 ∧ a.length * n.toNat ≤ sizeLine then .ret (.str (mulS a n)) else .fail
  | .list a, .int n => if -(2 ^ 63) ≤ n ∧ n < 2 ^ 63 ∧ a.length * n.toNat ≤ sizeLine then .ret (.list (List.replicate n.toNat a).flatten) else .fail
  | .tuple a, .int n => if a ≠ [] ∧ 2 ≤ n ∧ n ≤ 1000 ∧ a.length ≤ 1000 then .ret (.tuple (List.replicate n.toNat a).flatten) else .fail
  | _, _ => .fail
def dFdiv : D → D → M D
  | .int a, .int b => if 0 < b ∧ b < 1073741824 then .ret (.int (a / b)) else .fail
  | _, _ => .fail
def dMod : D → D → M D
  | .int a, .int b => if 0 < b then .ret (.int (a % b)) else .fail
  | _, _ => .fail
def dPow : D → D → M D
  | .int a, .int b => if 0 ≤ b ∧ b ≤ 1000000 ∧ a.natAbs < 2 ^ 64 then .ret (.int (a ^ b.toNat)) else .fail
  | _, _ => .fail
def dShr : D → D → M D
  | .int a, .int b => if 0 ≤ b then .ret (.int (a / 2 ^ b.toNat)) else .fail
  | _, _ => .fail
def dLt : D → D → M D
  | .int a, .int b => .ret (.bool (decide (a < b)))
  | _, _ => .fail
def dLe : D → D → M D
  | .int a, .int b => .ret (.bool (decide (a ≤ b)))
  | _, _ => .fail
def dGt : D → D → M D
  | .int a, .int b => .ret (.bool (decide (b < a)))
  | _, _ => .fail
def dGe : D → D → M D
  | .int a, .int b => .ret (.bool (decide (b ≤ a)))
  | _, _ => .fail
/-- plain values that are compared as they are -/
def scalD : D → D → Bool
  | .none, .none => true | .none, .int _ => true | .int _, .none => true | .none, .bool _ => true | .bool _, .none => true | .none, .str _ => true | .str _, .none => true
  | .int _, .int _ => true | .bool _, .bool _ => true | .str _, .str _ => true
  | .int _, .str _ => true | .str _, .int _ => true | .bool _, .str _ => true | .str _, .bool _ => true
  | _, _ => false
def cmpOk (a b : D) : Bool := scalD a b || (SeqAt.shaped a && SeqAt.shaped b)
def dEq (a b : D) : M D := if cmpOk a b = true then .ret (.bool (PyData.eqv a b)) else .fail
def dNe (a b : D) : M D := if cmpOk a b = true then .ret (.bool (!PyData.eqv a b)) else .fail
def isNon : D → Bool
  | .none => true
  | _ => false
def dIsN (a b : D) : M D := match b with
  | .none => .ret (.bool (isNon a))
  | _ => .fail
def dNotN (a b : D) : M D := match b with
  | .none => .ret (.bool (!isNon a))
  | _ => .fail
theorem okL_wp {n : Nat} {m : M D} {Q : D → Prop} {R : Exn → Prop} (h : wp (okL n m) Q R) : n ≤ sizeLine ∧ wp m Q R := by
  unfold okL at h
  split at h
  · exact ⟨by assumption, h⟩
  · exact h.elim
theorem ite_wp {α : Type} {c : Prop} [Decidable c] {m : M α} {Q : α → Prop} {R : Exn → Prop} (h : wp (if c then m else .fail) Q R) : c ∧ wp m Q R := by
  split at h
  · exact ⟨by assumption, h⟩
  · exact h.elim
section
variable {X : Cx} {E : XK}
theorem rd_lst {pins : List (Addr × Obj)} {σ : L2.St} {H : Hp} {s : Shared} {l : Addr} {xs : List V} (I : Inv X pins σ H s) (h : Rd H l (.lst xs)) :
    xs.length ≤ sizeLine ∧ ∃ (its : List Value) (n : Nat), Vals xs its ∧ xs.length = its.length ∧ s.heap.get? l = some { cls := .type "list", data := .seq its.toArray n } := by
  obtain ⟨z, its, n, r, e⟩ := h.ok I.hok
  exact ⟨z, its, n, r, r.length, e⟩
/-- two lists joined: lists to be read -/
theorem op_catQ : OpR X (binaryOp .Add) (fun x y H Q => ∃ l b xs zs, x = .ref l ∧ y = .ref b ∧ Rd H l (.lst xs) ∧ Rd H b (.lst zs) ∧ xs.length + zs.length ≤ sizeLine ∧ ∀ p, H p = none → Q (.ref p) (upd H p (.lst (xs ++ zs)))) := by
  rintro pins s σ H x y v u Q I rx ry ⟨l, b, xs, zs, rfl, rfl, h1, h2, hz, q⟩
  cases rx
  cases ry
  obtain ⟨_, i1, n1, r1, l1, e1⟩ := rd_lst I h1
  obtain ⟨_, i2, n2, r2, l2, e2⟩ := rd_lst I h2
  refine PySem.P.add_list e1 e2 ?_ (by simp only [List.size_toArray]; omega)
  rw [show i1.toArray ++ i2.toArray = (i1 ++ i2).toArray by simp]
  exact ⟨.ref _, _, I.lnew (r1.append r2) (by simp only [List.length_append]; omega), rfl, q _ I.fresh⟩
theorem op_repQ : OpR X (binaryOp .Mult) (fun x y H Q => ∃ l k xs, x = .ref l ∧ y = .int k ∧ Rd H l (.lst xs) ∧ -(2 ^ 63) ≤ k ∧ k < 2 ^ 63 ∧ xs.length * k.toNat ≤ sizeLine ∧ ∀ p, H p = none → Q (.ref p) (upd H p (.lst (List.replicate k.toNat xs).flatten))) := by
  rintro pins s σ H x y v u Q I rx ry ⟨l, k, xs, rfl, rfl, h1, k1, k2, hz, q⟩
  cases rx
  obtain ⟨t, rfl⟩ := ry
  obtain ⟨_, i1, n1, r1, l1, e1⟩ := rd_lst I h1
  have hsz : i1.toArray.size * k.toNat ≤ sizeLine := by simp only [List.size_toArray, ← l1]; exact hz
  have same : List.foldl (fun x1 x2 => x1 ++ x2) #[] (List.replicate (if i1.toArray.isEmpty = true then 0 else k.toNat) i1.toArray) = (List.replicate k.toNat i1).flatten.toArray := by
    cases i1 with
    | nil => simp
    | cons a r' =>
      rw [if_neg (by simp)]
      simpa using foldl_rep (a :: r') k.toNat []
  have ok1 : ¬ (!Builtin.List.listFitsIndex k) = true := by (rw [fitsIndex_both k1 k2]; simp)
  have ok2 : ¬ i1.toArray.size * k.toNat > (2 ^ 63 - 1) / 8 := by
    have hh : (sizeLine : Nat) ≤ (2 ^ 63 - 1) / 8 := by decide
    omega
  have ok3 : ¬ Builtin.List.listTooLong (i1.toArray.size * k.toNat) = true := by (rw [notLongL hsz]; simp)
  have fin : EP X pins σ Q (.ref s.heap.objs.size) { s with heap := s.heap.push { cls := .type "list", data := .seq (List.replicate k.toNat i1).flatten.toArray 0 }, toks := s.toks } := by
    exact ⟨.ref _, _, I.lnew (r1.rep k.toNat) (by rw [PyProof.Rows.lm_len_rep_flat, Nat.mul_comm]; exact hz), rfl, q _ I.fresh⟩
  have tl : s.TypeIs (.ref l) "list" := ⟨_, e1, rfl⟩
  have ti := typeIs_int s k t
  refine wpAny_binaryOp_repeat_ref (T := "list") (U := "int") (by decide) tl (fun s' => typeIs_int s' k t) noFill_list_mul F.fills_int_mul F.slot_int_rmul repeat_list F.slot_int_index.lookup ?_
  refine call_meets F.slot_int_rmul ti F.entry_int_rmul (F.args_int_rmul_2 _ _) (int___rmul___int_list k t l i1.toArray n1) ⟨e1, rfl, tl, ?_⟩
  refine call_meets F.slot_list_mul tl F.entry_list_mul (F.args_list_mul_2 _ _) (AutoListH.list___mul___list_int_3 l i1.toArray n1 k t ok1 ok2 ok3) ⟨e1, ?_⟩
  rw [same]
  exact fin

/-! text times a number -/
theorem mulS_eq (x : Str) (n : Int) : Txt.mul x n = mulS x n := by
  unfold Txt.mul mulS
  split
  · rename_i h
    have e : n.toNat = 0 := by omega
    rw [e]; rfl
  · split
    · rename_i h1 h2
      simp only [Bool.or_eq_true, beq_iff_eq] at h2
      rcases h2 with rfl | h2
      · simp
      · have hx : x.cps = #[] := by
          have : x.cps.size = 0 := h2
          exact Array.eq_empty_of_size_eq_zero this
        obtain ⟨c⟩ := x
        subst hx
        simp
    · congr 1
      have f : ∀ (m : Nat) (acc : Array Nat), List.foldl (fun x1 x2 => x1 ++ x2) acc (List.replicate m x.cps) = acc ++ (List.replicate m x.cps.toList).flatten.toArray := by
        intro m
        induction m with
        | zero => intro acc; simp
        | succ m ih => intro acc; rw [List.replicate_succ, List.foldl_cons, ih, List.replicate_succ, List.flatten_cons]; apply Array.ext'; simp
      rw [f]; simp
theorem op_mulS : OpR X (binaryOp .Mult) (fun x y H Q => ∃ a n, x = .str a ∧ y = .int n ∧ (-(2 ^ 63) ≤ n ∧ n < 2 ^ 63 ∧ a.length * n.toNat ≤ sizeLine) ∧ Q (.str (mulS a n)) H) := by
  rintro pins s σ H x y v u Q I rx ry ⟨a, n, rfl, rfl, ⟨h1, h2, h3⟩, q⟩
  obtain ⟨t, rfl⟩ := rx
  obtain ⟨t', rfl⟩ := ry
  refine SB.mul ⟨?_, fun hn hc hz => ?_, fun hn hc => ?_⟩ fun t2 k2 => ?_
  · simp only [Bool.or_eq_false_iff, decide_eq_false_iff_not]; omega
  · have p1 : 0 < n := by omega
    have p2 := (Int.ediv_lt_iff_lt_mul p1).mp hz
    have p3 : (a.length : Int) * n = ((a.length * n.toNat : Nat) : Int) := by rw [Int.natCast_mul, Int.toNat_of_nonneg (by omega)]
    have p4 : sizeLine < 2 ^ 62 := by decide
    have p5 : (((a.length * n.toNat : Nat)) : Int) < 2 ^ 62 := by exact_mod_cast Nat.lt_of_le_of_lt h3 p4
    omega
  · unfold Builtin.Str.tooLong
    simp only [decide_eq_false_iff_not, Nat.not_lt]
    exact h3
  · exact ⟨.str (mulS a n), H, I.tok _, ⟨_, by rw [mulS_eq]⟩, q⟩
/-! the operators on data -/
theorem qo_add : QOp X E (binaryOp .Add) dAdd := by
  refine ⟨_, (op_add.or (op_add_str.or (OpR.or (OpR.fz op_catQ) op_catA))), fun w H x y dx dy Q hw n1 n2 q => ?_⟩
  unfold dAdd at q
  split at q
  · exact .inl ⟨_, _, n1.int, n2.int, q _ H (.refl hw) (.int _)⟩
  · obtain ⟨hz, q⟩ := okL_wp q
    exact .inr (.inl ⟨_, _, n1.str, n2.str, hz, q _ H (.refl hw) (.str _)⟩)
  · obtain ⟨hz, q⟩ := okL_wp q
    obtain ⟨a, xs, rfl, r1, d1⟩ := n1.list
    obtain ⟨b, ys, rfl, r2, d2⟩ := n2.list
    exact .inr (.inr (.inl ⟨a, b, xs, ys, rfl, rfl, r1, r2, by rw [d1.length, d2.length]; exact hz, fun p e => fz_new hw e (d1.append d2) q⟩))
  · obtain ⟨hz, q⟩ := okL_wp q
    obtain ⟨a, xs, rfl, r1, d1⟩ := n1.tuple
    obtain ⟨b, ys, rfl, r2, d2⟩ := n2.tuple
    refine .inr (.inr (.inr ⟨a, b, xs, ys, rfl, rfl, r1, r2, by rw [d1.length, d2.length]; exact hz, fun e => ?_, fun _ e => ?_, fun _ _ p e => tup_new hw e (d1.append d2) q⟩))
    · have := d1.nil_iff.mp e
      subst this
      exact q _ H (.refl hw) (.tup r2 d2)
    · have := d2.nil_iff.mp e
      subst this
      rw [List.append_nil] at q
      exact q _ H (.refl hw) (.tup r1 d1)
  · exact q.elim
theorem qo_sub : QOp X E (binaryOp .Sub) dSub := by
  refine ⟨_, op_sub, fun w H x y dx dy Q hw n1 n2 q => ?_⟩
  unfold dSub at q
  split at q
  · exact ⟨_, _, n1.int, n2.int, q _ H (.refl hw) (.int _)⟩
  · exact q.elim
theorem qo_mul : QOp X E (binaryOp .Mult) dMul := by
  refine ⟨_, ((op_mul.or op_mulW).or (op_mulS.or (OpR.or (OpR.fz op_repQ) op_repT))), fun w H x y dx dy Q hw n1 n2 q => ?_⟩
  unfold dMul at q
  split at q
  · obtain ⟨hz, q⟩ := ite_wp q
    rcases hz with hz | hz
    · exact .inl (.inl ⟨_, _, n1.int, n2.int, hz, q _ H (.refl hw) (.int _)⟩)
    · exact .inl (.inr ⟨_, _, n1.int, n2.int, hz, q _ H (.refl hw) (.int _)⟩)
  · obtain ⟨hz, q⟩ := ite_wp q
    exact .inr (.inl ⟨_, _, n1.str, n2.int, hz, q _ H (.refl hw) (.str _)⟩)
  · obtain ⟨hz, q⟩ := ite_wp q
    obtain ⟨a, xs, rfl, r1, d1⟩ := n1.list
    exact .inr (.inr (.inl ⟨a, _, xs, rfl, n2.int, r1, hz.1, hz.2.1, by rw [d1.length]; exact hz.2.2, fun p e => fz_new hw e (d1.rep _) q⟩))
  · obtain ⟨hz, q⟩ := ite_wp q
    obtain ⟨a, xs, rfl, r1, d1⟩ := n1.tuple
    exact .inr (.inr (.inr ⟨a, _, xs, rfl, n2.int, r1, fun e => hz.1 (d1.nil_iff.mp e), hz.2.1, hz.2.2.1, by rw [d1.length]; exact hz.2.2.2, fun p e => tup_new hw e (d1.rep _) q⟩))
  · exact q.elim
theorem qo_fdiv : QOp X E (binaryOp .FloorDiv) dFdiv := by
  refine ⟨_, op_fdiv, fun w H x y dx dy Q hw n1 n2 q => ?_⟩
  unfold dFdiv at q
  split at q
  · obtain ⟨hz, q⟩ := ite_wp q
    exact ⟨_, _, n1.int, n2.int, hz, q _ H (.refl hw) (.int _)⟩
  · exact q.elim
theorem qo_mod : QOp X E (binaryOp .Mod) dMod := by
  refine ⟨_, op_mod, fun w H x y dx dy Q hw n1 n2 q => ?_⟩
  unfold dMod at q
  split at q
  · obtain ⟨hz, q⟩ := ite_wp q
    exact ⟨_, _, n1.int, n2.int, hz, q _ H (.refl hw) (.int _)⟩
  · exact q.elim
theorem qo_pow : QOp X E (binaryOp .Pow) dPow := by
  refine ⟨_, op_pow, fun w H x y dx dy Q hw n1 n2 q => ?_⟩
  unfold dPow at q
  split at q
  · obtain ⟨hz, q⟩ := ite_wp q
    exact ⟨_, _, n1.int, n2.int, hz, q _ H (.refl hw) (.int _)⟩
  · exact q.elim
theorem qo_shr : QOp X E (binaryOp .RShift) dShr := by
  refine ⟨_, op_shr, fun w H x y dx dy Q hw n1 n2 q => ?_⟩
  unfold dShr at q
  split at q
  · obtain ⟨hz, q⟩ := ite_wp q
    exact ⟨_, _, n1.int, n2.int, hz, q _ H (.refl hw) (.int _)⟩
  · exact q.elim
theorem qo_lt : QOp X E (compareOp .Lt) dLt := by
  refine ⟨_, op_lt, fun w H x y dx dy Q hw n1 n2 q => ?_⟩
  unfold dLt at q
  split at q
  · exact ⟨_, _, n1.int, n2.int, q _ H (.refl hw) (.bl _)⟩
  · exact q.elim
theorem qo_le : QOp X E (compareOp .LtE) dLe := by
  refine ⟨_, op_le, fun w H x y dx dy Q hw n1 n2 q => ?_⟩
  unfold dLe at q
  split at q
  · exact ⟨_, _, n1.int, n2.int, q _ H (.refl hw) (.bl _)⟩
  · exact q.elim
theorem qo_gt : QOp X E (compareOp .Gt) dGt := by
  refine ⟨_, op_gt, fun w H x y dx dy Q hw n1 n2 q => ?_⟩
  unfold dGt at q
  split at q
  · exact ⟨_, _, n1.int, n2.int, q _ H (.refl hw) (.bl _)⟩
  · exact q.elim
theorem qo_ge : QOp X E (compareOp .GtE) dGe := by
  refine ⟨_, op_ge, fun w H x y dx dy Q hw n1 n2 q => ?_⟩
  unfold dGe at q
  split at q
  · exact ⟨_, _, n1.int, n2.int, q _ H (.refl hw) (.bl _)⟩
  · exact q.elim
theorem scal_den {w : Option WA} {H : Hp} {x y : V} {a b : D} (n1 : BDen X.K w H x a) (n2 : BDen X.K w H y b) (h : scalD a b = true) : scal x y = true ∧ decide (x = y) = PyData.eqv a b := by
  have k : ∀ {v : V} {d : D}, BDen X.K w H v d → (d = .none ∧ v = .non) ∨ (∃ i, d = .int i ∧ v = .int i) ∨ (∃ i, d = .bool i ∧ v = .bl i) ∨ (∃ i, d = .str i ∧ v = .str i) ∨ ((∃ l, d = .list l) ∨ (∃ l, d = .tuple l) ∨ (∃ l, d = .dict l)) := fun {v d} n => by
    cases d with
    | none => exact .inl ⟨rfl, n.non⟩
    | int i => exact .inr (.inl ⟨i, rfl, n.int⟩)
    | bool i => exact .inr (.inr (.inl ⟨i, rfl, n.bool⟩))
    | str i => exact .inr (.inr (.inr (.inl ⟨i, rfl, n.str⟩)))
    | list l => exact .inr (.inr (.inr (.inr (.inl ⟨l, rfl⟩))))
    | tuple l => exact .inr (.inr (.inr (.inr (.inr (.inl ⟨l, rfl⟩)))))
    | dict l => exact .inr (.inr (.inr (.inr (.inr (.inr ⟨l, rfl⟩)))))
  rcases k n1 with ⟨rfl, rfl⟩ | ⟨i, rfl, rfl⟩ | ⟨i, rfl, rfl⟩ | ⟨i, rfl, rfl⟩ | (⟨l, rfl⟩ | ⟨l, rfl⟩ | ⟨l, rfl⟩) <;>
  rcases k n2 with ⟨rfl, rfl⟩ | ⟨j, rfl, rfl⟩ | ⟨j, rfl, rfl⟩ | ⟨j, rfl, rfl⟩ | (⟨l', rfl⟩ | ⟨l', rfl⟩ | ⟨l', rfl⟩) <;>
  first | (cases h; done) | (refine ⟨rfl, ?_⟩; simp [PyData.eqv, Bool.beq_eq_decide_eq]) | (refine ⟨rfl, ?_⟩; simp [PyData.eqv]; done)
theorem qo_eq (hu : X.A.units + 64 < cLine) : QOp X E (compareOp .Eq) dEq := by
  refine ⟨_, OpR.or op_eq (op_eqD hu), fun w H x y dx dy Q hw n1 n2 q => ?_⟩
  obtain ⟨hz, q⟩ := ite_wp q
  unfold cmpOk at hz
  simp only [Bool.or_eq_true, Bool.and_eq_true] at hz
  rcases hz with hz | hz
  · obtain ⟨z1, z2⟩ := scal_den n1 n2 hz
    exact .inl ⟨z1, by rw [z2]; exact q _ H (.refl hw) (.bl _)⟩
  · exact .inr ⟨dx, dy, n1.dp (SeqAt.canLay_of_shaped hz.1), n2.dp (SeqAt.canLay_of_shaped hz.2), hz.1, hz.2, q _ H (.refl hw) (.bl _)⟩
theorem qo_ne (hu : X.A.units + 64 < cLine) : QOp X E (compareOp .NotEq) dNe := by
  refine ⟨_, OpR.or op_ne (op_neD hu), fun w H x y dx dy Q hw n1 n2 q => ?_⟩
  obtain ⟨hz, q⟩ := ite_wp q
  unfold cmpOk at hz
  simp only [Bool.or_eq_true, Bool.and_eq_true] at hz
  rcases hz with hz | hz
  · obtain ⟨z1, z2⟩ := scal_den n1 n2 hz
    exact .inl ⟨z1, by rw [z2]; exact q _ H (.refl hw) (.bl _)⟩
  · exact .inr ⟨dx, dy, n1.dp (SeqAt.canLay_of_shaped hz.1), n2.dp (SeqAt.canLay_of_shaped hz.2), hz.1, hz.2, q _ H (.refl hw) (.bl _)⟩
theorem isNon_eq {w : Option WA} {H : Hp} {x : V} {d : D} (n : BDen X.K w H x d) : decide (x = .non) = isNon d := by
  cases n with
  | own h a _ => rfl
  | den h => cases h <;> rfl
theorem qo_isN : QOp X E (compareOp .Is) dIsN := by
  refine ⟨_, op_isN, fun w H x y dx dy Q hw n1 n2 q => ?_⟩
  unfold dIsN at q
  split at q
  · exact ⟨n2.non, by rw [isNon_eq n1]; exact q _ H (.refl hw) (.bl _)⟩
  · exact q.elim
theorem qo_notN : QOp X E (compareOp .IsNot) dNotN := by
  refine ⟨_, op_notN, fun w H x y dx dy Q hw n1 n2 q => ?_⟩
  unfold dNotN at q
  split at q
  · exact ⟨n2.non, by rw [isNon_eq n1]; exact q _ H (.refl hw) (.bl _)⟩
  · exact q.elim
end
end Q

set_option Elab.async false
set_option linter.all false
set_option maxRecDepth 100000
namespace Q
open PySem PySem.Spec PyProof.Rows L2
variable [WellKind]
/-! ### displays -/
def lNil (_ : Env) : M (List D) := .ret []
def lCons (me : Env → M D) (ms : Env → M (List D)) (δ : Env) : M (List D) := (me δ).bind fun d => (ms δ).bind fun ds => .ret (d :: ds)
def mkT (ds : List D) : M D := if ds.length ≤ sizeLine then .ret (.tuple ds) else .fail
def mkL (ds : List D) : M (List D) := if ds.length ≤ sizeLine then .ret ds else .fail
def eTup (ms : Env → M (List D)) (δ : Env) : M D := (ms δ).bind mkT
def fLst (ms : Env → M (List D)) (δ : Env) : M (List D) := (ms δ).bind mkL
/-- a new list as data -/
def eFz (mf : Env → M (List D)) (δ : Env) : M D := (mf δ).bind fun ds => .ret (.list ds)
section
variable {X : Cx} {E : XK} {e a b c : Expr} {es : List Expr} {me ma mb mc : Env → M D} {ms mf : Env → M (List D)} {pos p : Pos}
theorem ql_nil : QI X E [] lNil := ⟨_, pa_nil, fun w σ H δ Q r q => q [] H (.refl r.well) .nil⟩
theorem ql_cons (h : QE X E e me) (h2 : QI X E es ms) (hs : starEach (e :: es) X.env = (false, eval e X.env) :: starEach es X.env := by rfl) : QI X E (e :: es) (lCons me ms) := by
  obtain ⟨t, a, b⟩ := h
  obtain ⟨t2, a2, b2⟩ := h2
  refine ⟨_, pa_cons a a2 hs, fun w σ H δ Q r q => b w σ H δ _ r (wp_then (wp_bind.mp q) fun d q1 v H1 g1 n1 => ?_)⟩
  refine b2 w σ H1 δ _ (r.grow g1) (wp_mono (wp_bind.mp q1) (fun ss q2 vs H2 g2 n2 => ?_) fun _ z => z.grow g1)
  exact q2 (v :: vs) H2 (g1.trans g2) (.cons (n1.grow g2) n2)
/-- arguments of a built-in -/
theorem qb_nil : QA X E [] lNil := ⟨_, pa_nil, fun w σ H δ Q r q => q [] H (.refl r.well) .nil⟩
theorem qb_cons (h : QB X E e me) (h2 : QA X E es ms) (hs : starEach (e :: es) X.env = (false, eval e X.env) :: starEach es X.env := by rfl) : QA X E (e :: es) (lCons me ms) := by
  obtain ⟨t, a, b⟩ := h
  obtain ⟨t2, a2, b2⟩ := h2
  refine ⟨_, pa_cons a a2 hs, fun w σ H δ Q r q => b w σ H δ _ r (wp_then (wp_bind.mp q) fun d q1 v H1 g1 n1 => ?_)⟩
  refine b2 w σ H1 δ _ (r.grow g1) (wp_mono (wp_bind.mp q1) (fun ss q2 vs H2 g2 n2 => ?_) fun _ z => z.grow g1)
  exact q2 (v :: vs) H2 (g1.trans g2) (.cons (n1.grow g2) n2)
theorem qe_tup {k : Nat} (h : QI X E es ms) : QE X E (.Tuple es k pos) (eTup ms) := by
  obtain ⟨t, a, b⟩ := h
  refine ⟨_, pe_tup a, fun w σ H δ Q r q => b w σ H δ _ r (wp_then (wp_bind.mp q) fun ds q1 vs H1 g1 n1 => ?_)⟩
  obtain ⟨hz, q1⟩ := ite_wp q1
  exact ⟨by rw [n1.length]; exact hz, fun p e => tup_new g1.well e n1 fun v H' g n => q1 v H' (g1.trans g) n⟩
theorem qf_lst (h : QI X E es ms) : QF X E (.List es pos) (fLst ms) := by
  obtain ⟨t, a, b⟩ := h
  refine ⟨_, pe_lst a, fun w σ H δ Q r q => b w σ H δ _ r (wp_then (wp_bind.mp q) fun ds q1 vs H1 g1 n1 => ?_)⟩
  obtain ⟨hz, q1⟩ := ite_wp q1
  refine ⟨by rw [n1.length]; exact hz, fun p e => ?_⟩
  have g := Grow.new (o := .lst vs) g1.well e
  have e0 : Nn H p := g1.nnOf e fun x hx => ⟨((g1.well x hx).none_ne e).1, ((g1.well x hx).none_ne e).2.1⟩
  exact q1 p vs _ (g1.trans g) e0 upd_same (fun x hx => (g1.well x hx).none_ne e) (n1.grow g)
theorem fz_grow {K : PySem.W.Frag} {w : Option WA} {H H1 : Hp} {p : Addr} {vs : List V} {ds : List D} (g1 : Grow w H H1) (e0 : Nn H p) (e1 : H1 p = some (.lst vs)) (hw : ∀ x, w = some x → p ≠ x.a ∧ p ≠ x.g ∧ p ≠ x.c) (n1 : DenAll K H1 vs ds) (o : Obj) :
    Grow w H (upd H1 p (.frz o (.lst vs))) ∧ Den K (upd H1 p (.frz o (.lst vs))) (.ref p) (.list ds) := by
  have f : Fz H1 (upd H1 p (.frz o (.lst vs))) := ⟨fun b xs e => by rw [upd_ne (fun z => by (rw [z, e1] at e; cases e))]; exact e, fun b ob u e => by rw [upd_ne (fun z => by (rw [z, e1] at e; cases e))]; exact e⟩
  refine ⟨⟨fun b xs e => f.tups b xs (g1.tups b xs e), fun b ob u e => f.frzs b ob u (g1.frzs b ob u e), fun b ob e t n => ?_, fun x hx => (g1.well x hx).at_ne (hw x hx), fun t => (g1.tabs t).lst e1⟩, .lst ⟨o, upd_same⟩ (n1.fz f)⟩
  rw [upd_ne (e0.ne e t)]
  exact g1.keep b ob e t n
theorem qf_e (h : QF X E e mf) : QE X E e (eFz mf) := by
  obtain ⟨t, a, b⟩ := h
  refine ⟨_, PE.fz a, fun w σ H δ Q r q => b w σ H δ _ r (wp_then (wp_bind.mp q) fun ds q1 p vs H1 g1 e0 e1 hw n1 => ?_)⟩
  refine .inr ⟨p, vs, rfl, e1, fun o => ?_⟩
  obtain ⟨g, n⟩ := fz_grow g1 e0 e1 hw n1 o
  exact q1 _ _ g n
/-! ### tests and truths -/
def tVal (me : Env → M D) (δ : Env) : M Bool := (me δ).bind asB
theorem qt_val (h : QE X E e me) (he : ∀ whole, isTrue e X.env whole = (do let v ← whole; standAt e.pos; holding [v] (truthy v)) := by intro _; rfl) : QT X E e (tVal me) := by
  obtain ⟨t, a, b⟩ := h
  refine ⟨_, pt_val a he, fun w σ H δ Q r q => b w σ H δ _ r (wp_then (wp_bind.mp q) fun d q1 v H1 g1 n1 => ?_)⟩
  cases d <;> first | exact q1.elim | skip
  cases n1
  exact ⟨_, rfl, q1 H1 g1⟩
def tAndM (m1 m2 : Env → M Bool) (δ : Env) : M Bool := (m1 δ).bind fun k => if k = true then m2 δ else .ret false
def tOrM (m1 m2 : Env → M Bool) (δ : Env) : M Bool := (m1 δ).bind fun k => if k = true then .ret true else m2 δ
def tNotM (m1 : Env → M Bool) (δ : Env) : M Bool := (m1 δ).bind fun k => .ret (!k)
def QW (X : Cx) (E : XK) (e : Expr) (m : Env → M Bool) : Prop :=
  ∃ t, PW X e t ∧ ∀ w σ H δ Q, RD X.K w H σ δ → wp (m δ) (fun b => ∀ H', Grow w H H' → Q b H') (XP X.mg E w H) → t σ H Q
variable {rest : List Expr} {m1 m2 : Env → M Bool}
theorem qw_and1 (h : QT X E a m1) : QW X E (.BoolOp .And [a] pos) m1 := by
  obtain ⟨t, h1, h2⟩ := h
  exact ⟨_, pw_and1 h1, h2⟩
theorem qw_or1 (h : QT X E a m1) : QW X E (.BoolOp .Or [a] pos) m1 := by
  obtain ⟨t, h1, h2⟩ := h
  exact ⟨_, pw_or1 h1, h2⟩
theorem qw_and (h : QT X E a m1) (h2 : QW X E (.BoolOp .And (b :: rest) pos) m2) : QW X E (.BoolOp .And (a :: b :: rest) pos) (tAndM m1 m2) := by
  obtain ⟨t, a1, a2⟩ := h
  obtain ⟨t2, b1, b2⟩ := h2
  refine ⟨_, pw_and a1 b1, fun w σ H δ Q r q => a2 w σ H δ _ r (wp_then (wp_bind.mp q) fun k q1 H1 g1 => ?_)⟩
  cases k with
  | true => exact b2 w σ H1 δ _ (r.grow g1) (wp_mono q1 (fun k z H' g => z H' (g1.trans g)) fun _ z => z.grow g1)
  | false => exact q1 H1 g1
theorem qw_or (h : QT X E a m1) (h2 : QW X E (.BoolOp .Or (b :: rest) pos) m2) : QW X E (.BoolOp .Or (a :: b :: rest) pos) (tOrM m1 m2) := by
  obtain ⟨t, a1, a2⟩ := h
  obtain ⟨t2, b1, b2⟩ := h2
  refine ⟨_, pw_or a1 b1, fun w σ H δ Q r q => a2 w σ H δ _ r (wp_then (wp_bind.mp q) fun k q1 H1 g1 => ?_)⟩
  cases k with
  | true => exact q1 H1 g1
  | false => exact b2 w σ H1 δ _ (r.grow g1) (wp_mono q1 (fun k z H' g => z H' (g1.trans g)) fun _ z => z.grow g1)
theorem qt_w (h : QW X E e m1) : QT X E e m1 := by
  obtain ⟨t, h1, h2⟩ := h
  exact ⟨_, h1.pt, h2⟩
theorem qt_not (h : QT X E a m1) : QT X E (.UnaryOp .Not a pos) (tNotM m1) := by
  obtain ⟨t, a1, a2⟩ := h
  exact ⟨_, pt_not a1, fun w σ H δ Q r q => a2 w σ H δ _ r (wp_then (wp_bind.mp q) fun k q1 H1 g1 => q1 H1 g1)⟩
/-- as values -/
def eAnd (ma mb : Env → M D) (δ : Env) : M D := (ma δ).bind fun d => (asB d).bind fun k => if k = true then mb δ else .ret (.bool false)
def eOr (ma mb : Env → M D) (δ : Env) : M D := (ma δ).bind fun d => (asB d).bind fun k => if k = true then .ret (.bool true) else mb δ
def eNot (ma : Env → M D) (δ : Env) : M D := (ma δ).bind fun d => (asB d).bind fun k => .ret (.bool (!k))
theorem qe_one {op} (h : QE X E a ma) : QE X E (.BoolOp op [a] pos) ma := by
  obtain ⟨t, h1, h2⟩ := h
  exact ⟨_, pe_one h1, h2⟩
theorem qe_and (h : QE X E a ma) (h2 : QE X E (.BoolOp .And (b :: rest) pos) mb) : QE X E (.BoolOp .And (a :: b :: rest) pos) (eAnd ma mb) := by
  obtain ⟨t, a1, a2⟩ := h
  obtain ⟨t2, b1, b2⟩ := h2
  refine ⟨_, pe_and a1 b1, fun w σ H δ Q r q => a2 w σ H δ _ r (wp_then (wp_bind.mp q) fun d q1 v H1 g1 n => ?_)⟩
  cases d <;> first | exact q1.elim | skip
  rename_i k
  cases n
  refine ⟨k, rfl, ?_⟩
  cases k with
  | true => exact iteT (b2 w σ H1 δ _ (r.grow g1) (wp_mono q1 (fun d z v H' g n => z v H' (g1.trans g) n) fun _ z => z.grow g1))
  | false => exact iteF (q1 _ H1 g1 (.bl _))
theorem qe_or (h : QE X E a ma) (h2 : QE X E (.BoolOp .Or (b :: rest) pos) mb) : QE X E (.BoolOp .Or (a :: b :: rest) pos) (eOr ma mb) := by
  obtain ⟨t, a1, a2⟩ := h
  obtain ⟨t2, b1, b2⟩ := h2
  refine ⟨_, pe_or a1 b1, fun w σ H δ Q r q => a2 w σ H δ _ r (wp_then (wp_bind.mp q) fun d q1 v H1 g1 n => ?_)⟩
  cases d <;> first | exact q1.elim | skip
  rename_i k
  cases n
  refine ⟨k, rfl, ?_⟩
  cases k with
  | true => exact iteT (q1 _ H1 g1 (.bl _))
  | false => exact iteF (b2 w σ H1 δ _ (r.grow g1) (wp_mono q1 (fun d z v H' g n => z v H' (g1.trans g) n) fun _ z => z.grow g1))
theorem qe_not (h : QE X E a ma) : QE X E (.UnaryOp .Not a pos) (eNot ma) := by
  obtain ⟨t, a1, a2⟩ := h
  refine ⟨_, pe_not a1, fun w σ H δ Q r q => a2 w σ H δ _ r (wp_then (wp_bind.mp q) fun d q1 v H1 g1 n => ?_)⟩
  cases d <;> first | exact q1.elim | skip
  cases n
  exact ⟨_, rfl, q1 _ H1 g1 (.bl _)⟩
def eIf (mt : Env → M Bool) (ma mb : Env → M D) (δ : Env) : M D := (mt δ).bind fun k => if k = true then ma δ else mb δ
theorem qe_if (h : QT X E c m1) (h1 : QE X E a ma) (h2 : QE X E b mb) : QE X E (.IfExp c a b pos) (eIf m1 ma mb) := by
  obtain ⟨t, c1, c2⟩ := h
  obtain ⟨ta, a1, a2⟩ := h1
  obtain ⟨tb, b1, b2⟩ := h2
  refine ⟨_, pe_ifExp c1 a1 b1, fun w σ H δ Q r q => c2 w σ H δ _ r (wp_then (wp_bind.mp q) fun k q1 H1 g1 => ?_)⟩
  cases k with
  | true => exact iteT (a2 w σ H1 δ _ (r.grow g1) (wp_mono q1 (fun d z v H' g n => z v H' (g1.trans g) n) fun _ z => z.grow g1))
  | false => exact iteF (b2 w σ H1 δ _ (r.grow g1) (wp_mono q1 (fun d z v H' g n => z v H' (g1.trans g) n) fun _ z => z.grow g1))
/-- a < b < c -/
def eChain (f f' : D → D → M D) (ma mb mc : Env → M D) (δ : Env) : M D := (ma δ).bind fun x => (mb δ).bind fun y => (f x y).bind fun d => (asB d).bind fun k => if k = true then (mc δ).bind fun z => f' y z else .ret (.bool false)
theorem qe_chain {op op' : CmpOp} {f f' : D → D → M D} (ho : QOp X E (compareOp op) f) (ho' : QOp X E (compareOp op') f') (ha : QB X E a ma) (hb : QB X E b mb) (hc : QB X E c mc)
    (hm : lastMarks [op, op'] [b, c] = false := by with_unfolding_all rfl) : QE X E (.Compare a [op, op'] [b, c] pos) (eChain f f' ma mb mc) := by
  obtain ⟨r, h1, h2⟩ := ho
  obtain ⟨r', h1', h2'⟩ := ho'
  obtain ⟨ta, a1, a2⟩ := ha
  obtain ⟨tb, b1, b2⟩ := hb
  obtain ⟨tc, c1, c2⟩ := hc
  refine ⟨_, pe_chain h1 h1' a1 b1 c1 hm, fun w σ H δ Q rl q => a2 w σ H δ _ rl (wp_then (wp_bind.mp q) fun x q1 v1 H1 g1 n1 => ?_)⟩
  refine b2 w σ H1 δ _ (rl.grow g1) (wp_mono (wp_bind.mp q1) (fun y q2 v2 H2 g2 n2 => ?_) fun _ z => z.grow g1)
  have g12 := g1.trans g2
  refine h2 w H2 v1 v2 x y _ g2.well (n1.grow g2) n2 (wp_mono (wp_bind.mp q2) (fun d q3 v H3 g3 n3 => ?_) fun _ z => z.grow g12)
  cases d <;> first | exact q3.elim | skip
  rename_i k
  cases n3
  refine ⟨k, rfl, ?_⟩
  have g13 := g12.trans g3
  cases k with
  | false => exact iteF (q3 _ H3 g13 (.bl _))
  | true =>
    refine iteT (c2 w σ H3 δ _ (rl.grow g13) (wp_mono (wp_bind.mp q3) (fun z q4 v4 H4 g4 n4 => ?_) fun _ z => z.grow g13))
    have g14 := g13.trans g4
    exact h2' w H4 v2 v4 y z Q g4.well ((n2.grow g3).grow g4) n4 (wp_mono q4 (fun d k v H' g n => k v H' (g14.trans g) n) fun _ z => z.grow g14)
/-! ### items and slices -/
def dIx : D → D → M D
  | .list ds, .int i => match atI ds i with
    | some d => .ret d
    | none => .fail
  | .tuple ds, .int i => match atI ds i with
    | some d => .ret d
    | none => .fail
  | .str z, .int i => match atI z.cps.toList i with
    | some c => okL z.length (.ret (.str ⟨#[c]⟩))
    | none => .fail
  | _, _ => .fail
theorem DenAll.atI {K : PySem.W.Frag} {H : Hp} {vs : List V} {ds : List D} {i : Int} {d : D} (n : DenAll K H vs ds) (h : L2.atI ds i = some d) : ∃ v, L2.atI vs i = some v ∧ Den K H v d := by
  unfold L2.atI at h ⊢
  rw [n.length]
  cases e : ixN ds.length i with
  | none => rw [e] at h; cases h
  | some j =>
    rw [e] at h
    obtain ⟨v, h1, h2⟩ := n.getD (i := j) (d := d) (by simpa using h)
    exact ⟨v, by simpa using h1, h2⟩
theorem qe_ix (ha : QB X E a ma) (hb : QB X E b mb) (hs : PlainIx b := by exact fun _ _ => rfl) : QE X E (.Subscript a b pos) (eBin dIx ma mb) := by
  obtain ⟨ta, a1, a2⟩ := ha
  obtain ⟨tb, b1, b2⟩ := hb
  refine ⟨_, pe_ix ix_seq a1 b1 hs, fun w σ H δ Q rl q => a2 w σ H δ _ rl (wp_then (wp_bind.mp q) fun x q1 v1 H1 g1 n1 => ?_)⟩
  refine b2 w σ H1 δ _ (rl.grow g1) (wp_mono (wp_bind.mp q1) (fun y q2 v2 H2 g2 n2 => ?_) fun _ z => z.grow g1)
  have g12 := g1.trans g2
  have n1 := n1.grow g2
  unfold dIx at q2
  split at q2
  · split at q2
    · rename_i d e
      obtain ⟨p, vs, rfl, h1, h2⟩ := n1.list
      obtain ⟨v, e1, n⟩ := h2.atI e
      exact .inl ⟨p, vs, _, v, rfl, n2.int, .inl h1, e1, q2 v H2 g12 n⟩
    · exact q2.elim
  · split at q2
    · rename_i d e
      obtain ⟨p, vs, rfl, h1, h2⟩ := n1.tuple
      obtain ⟨v, e1, n⟩ := h2.atI e
      exact .inr (.inl ⟨p, vs, _, v, rfl, n2.int, h1, e1, q2 v H2 g12 n⟩)
    · exact q2.elim
  · split at q2
    · rename_i c e
      obtain ⟨hz, q2⟩ := okL_wp q2
      exact .inr (.inr ⟨_, _, c, n1.str, n2.int, hz, e, q2 _ H2 g12 (.str _)⟩)
    · exact q2.elim
  · exact q2.elim
/-- a part of a slice -/
def QO (X : Cx) (E : XK) (e : Option Expr) (m : Env → M (Option Int)) : Prop :=
  ∃ t, PO X e t ∧ ∀ w σ H δ Q, RD X.K w H σ δ → wp (m δ) (fun o => ∀ H', Grow w H H' → Q o H') (XP X.mg E w H) → t σ H Q
def asI : D → M (Option Int)
  | .int i => .ret (some i)
  | _ => .fail
def oNone (_ : Env) : M (Option Int) := .ret none
def oSome (me : Env → M D) (δ : Env) : M (Option Int) := (me δ).bind asI
theorem qo_none : QO X E none oNone := ⟨_, po_none, fun w σ H δ Q r q => q H (.refl r.well)⟩
theorem qo_some (h : QE X E e me) : QO X E (some e) (oSome me) := by
  obtain ⟨t, a, b⟩ := h
  refine ⟨_, po_some a, fun w σ H δ Q r q => b w σ H δ _ r (wp_then (wp_bind.mp q) fun d q1 v H1 g1 n => ?_)⟩
  cases d <;> first | exact q1.elim | skip
  cases n
  exact ⟨_, rfl, q1 H1 g1⟩
def cutL {α : Type} (xs : List α) (lo hi : Option Int) : List α := (xs.drop (HT.sIx xs.length 0 lo)).take (HT.sIx xs.length xs.length hi - HT.sIx xs.length 0 lo)
def dSl (d : D) (lo hi : Option Int) : M D := match d with
  | .list ds => .ret (.list (cutL ds lo hi))
  | .tuple ds => .ret (.tuple (cutL ds lo hi))
  | .str z => okL z.length (.ret (.str ⟨(cutL z.cps.toList lo hi).toArray⟩))
  | _ => .fail
def eSl (me : Env → M D) (ml mh : Env → M (Option Int)) (δ : Env) : M D := (me δ).bind fun d => (ml δ).bind fun lo => (mh δ).bind fun hi => dSl d lo hi
theorem SlR.fz {r : V → Option Int → Option Int → Hp → VK → Prop} (h : SlR X r) : SlR X (fun x lo hi H Q => r x lo hi H (fzK Q)) := fun pins s σ H x v vl vu lo hi sl Q I rx hs pl pu q => by
  obtain ⟨T, id, h1, h2, h3⟩ := h pins s σ H x v vl vu lo hi sl (fzK Q) I rx hs pl pu q
  exact ⟨T, id, h1, h2, thn h3 fun _ _ z => EP.fz z⟩
theorem qe_sl {lo hi : Option Expr} {ml mh : Env → M (Option Int)} {p2 : Pos} (h : QB X E e me) (hl : QO X E lo ml) (hh : QO X E hi mh) : QE X E (.Subscript e (.Slice lo hi none p2) pos) (eSl me ml mh) := by
  obtain ⟨t, a1, a2⟩ := h
  obtain ⟨tl, b1, b2⟩ := hl
  obtain ⟨th, c1, c2⟩ := hh
  refine ⟨_, pe_slice (SlR.or (SlR.fz sl_list) (SlR.or sl_tupA sl_str)) a1 b1 c1, fun w σ H δ Q rl q => a2 w σ H δ _ rl (wp_then (wp_bind.mp q) fun d q1 v1 H1 g1 n1 => ?_)⟩
  refine b2 w σ H1 δ _ (rl.grow g1) (wp_mono (wp_bind.mp q1) (fun y q2 H2 g2 => ?_) fun _ z => z.grow g1)
  have g12 := g1.trans g2
  refine c2 w σ H2 δ _ (rl.grow g12) (wp_mono (wp_bind.mp q2) (fun z q3 H3 g3 => ?_) fun _ z => z.grow g12)
  have g13 := g12.trans g3
  replace n1 := (n1.grow g2).grow g3
  unfold dSl at q3
  split at q3
  · rename_i ds
    obtain ⟨p, vs, rfl, h1, h2⟩ := n1.list
    have dd : DenAll X.K H3 (cutV vs y z) (cutL ds y z) := by unfold cutV cutL; rw [h2.length]; exact (h2.drop _).take _
    exact .inl ⟨p, vs, rfl, .inl h1, fun p' e' => fz_new g3.well e' dd fun v H' g n => q3 v H' (g13.trans g) n⟩
  · rename_i ds
    obtain ⟨p, vs, rfl, h1, h2⟩ := n1.tuple
    have dd : DenAll X.K H3 (cutV vs y z) (cutL ds y z) := by unfold cutV cutL; rw [h2.length]; exact (h2.drop _).take _
    refine .inr (.inl ⟨p, vs, rfl, h1, fun hw => ?_, fun _ p' e' => tup_new g3.well e' dd fun v H' g n => q3 v H' (g13.trans g) n⟩)
    have ec : cutL ds y z = ds := by
      unfold cutL
      rw [← h2.length, hw.1, hw.2, List.drop_zero, Nat.sub_zero, h2.length, List.take_length]
    rw [ec] at q3
    exact q3 _ H3 g13 (.tup h1 h2)
  · obtain ⟨hz, q3⟩ := okL_wp q3
    have e := n1.str
    exact .inr (.inr ⟨_, e, hz, q3 _ H3 g13 (.str _)⟩)
  · exact q3.elim
end
end Q

set_option Elab.async false
set_option linter.all false
set_option maxRecDepth 100000
namespace Q
open PySem PySem.Spec PyProof.Rows L2
variable [WellKind]
/-! ### readings in one form -/
def tE (K : PySem.W.Frag) (mg : Str → Option Value) (E : XK) (m : Env → M D) : TE := fun σ H Q => ∃ w δ, RD K w H σ δ ∧ wp (m δ) (fun d => ∀ v H', Grow w H H' → Den K H' v d → Q v H') (XP mg E w H)
def tTs (K : PySem.W.Frag) (mg : Str → Option Value) (E : XK) (m : Env → M Bool) : TT := fun σ H Q => ∃ w δ, RD K w H σ δ ∧ wp (m δ) (fun b => ∀ H', Grow w H H' → Q b H') (XP mg E w H)
def tG (K : PySem.W.Frag) (is : List Nat) (g : D → Env → Option Env) : TG := fun v σ H Q => ∃ (d : D) (δ δ' : Env) (R : L2.St → Env → Prop), Den K H v d ∧ g d δ = some δ' ∧ R σ δ ∧ (∀ (σ : L2.St) (δ : Env) (i : Nat) (d : D) (v : V), i ∈ is → R σ δ → Den K H v d → R (σ.set i (some v)) (δ.set i (.dat d))) ∧ ∀ σ', R σ' δ' → Q σ' H
section
variable {X : Cx} {E : XK} {e : Expr}
theorem QE.pe {m : Env → M D} (h : QE X E e m) : PE X e (tE X.K X.mg E m) := by
  obtain ⟨t, a, b⟩ := h
  exact ⟨fun pins s σ H Q I ⟨w, δ, r, q⟩ => a.run pins s σ H Q I (b w σ H δ Q r q)⟩
theorem QT.pt {m : Env → M Bool} (h : QT X E e m) : PT X e (tTs X.K X.mg E m) := by
  obtain ⟨t, a, b⟩ := h
  exact ⟨fun pins s σ H Q I ⟨w, δ, r, q⟩ => a.run pins s σ H Q I (b w σ H δ Q r q)⟩
theorem QG.pg {is : List Nat} {g : D → Env → Option Env} (h : QG X e is g) : PG X e (tG X.K is g) := by
  obtain ⟨t, a, b⟩ := h
  exact ⟨fun pins s σ H v u Q I rv ⟨d, δ, δ', R, n, e1, r, c, k⟩ => a.run pins s σ H v u Q I rv (b H σ δ d v δ' R Q n e1 r c k)⟩
end
/-! ### list comprehensions -/
theorem wipe_at (σ : L2.St) (i : Nat) : ∀ vs : List Nat, (L2.wipe σ vs)[i]? = if i ∈ vs then (if i < σ.length then some none else none) else σ[i]?
  | [] => by simp [L2.wipe]
  | v :: vs => by
    unfold L2.wipe
    by_cases h : v = i
    · subst h
      rw [if_pos List.mem_cons_self]
      by_cases hl : v < σ.length
      · rw [if_pos hl, List.getElem?_set_self (by rw [wipe_length]; exact hl)]
      · rw [if_neg hl, List.getElem?_eq_none (by rw [List.length_set, wipe_length]; omega)]
    · rw [List.getElem?_set_ne h, wipe_at σ i vs]
      by_cases hm : i ∈ vs
      · rw [if_pos hm, if_pos (List.mem_cons_of_mem _ hm)]
      · rw [if_neg hm, if_neg (fun z => (List.mem_cons.mp z).elim (fun q => h q.symm) hm)]
theorem wipe_wipe (σ : L2.St) (vs : List Nat) : L2.wipe (L2.wipe σ vs) vs = L2.wipe σ vs := by
  refine List.ext_getElem? fun i => ?_
  rw [wipe_at, wipe_length, wipe_at]
  split <;> simp_all
theorem wipe_set {σ : L2.St} {vs : List Nat} {i : Nat} {x : Option V} (h : i ∈ vs) : L2.wipe (σ.set i x) vs = L2.wipe σ vs := by
  refine List.ext_getElem? fun j => ?_
  rw [wipe_at, wipe_at, List.length_set]
  by_cases hj : j ∈ vs
  · rw [if_pos hj, if_pos hj]
  · rw [if_neg hj, if_neg hj, List.getElem?_set_ne (fun z => hj (by rw [← z]; exact h))]
def wipeE (δ : Env) : List Nat → Env
  | [] => δ
  | v :: vs => (wipeE δ vs).set v .emp
theorem wipe_len (δ : Env) : ∀ vs : List Nat, (wipeE δ vs).length = δ.length
  | [] => rfl
  | v :: vs => by unfold wipeE; rw [List.length_set, wipe_len δ vs]
theorem RD.wipe {K : PySem.W.Frag} {w : Option WA} {H : Hp} {σ : L2.St} {δ : Env} (r : RD K w H σ δ) : ∀ vs : List Nat, RD K w H (L2.wipe σ vs) (wipeE δ vs)
  | [] => r
  | v :: vs => by
    have ih := r.wipe vs
    refine ⟨fun i s e => ?_, ih.well, by rw [wipe_length, wipe_len, r.len], r.tabs⟩
    unfold wipeE at e
    unfold L2.wipe
    rcases get_set e with ⟨rfl, rfl, _⟩ | ⟨hi, e'⟩
    · trivial
    · rw [List.getElem?_set_ne (Ne.symm hi)]; exact ih.slot i s e'
def compL (f : D → M (Option D)) : List D → M (List D)
  | [] => .ret []
  | x :: xs => (f x).bind fun o => (compL f xs).bind fun r => .ret (o.toList ++ r)
def compStep (vs : List Nat) (g : D → Env → Option Env) (mt : Env → M Bool) (me : Env → M D) (δ : Env) (d : D) : M (Option D) := match g d (wipeE δ vs) with
  | some δ2 => (mt δ2).bind fun k => if k = true then (me δ2).bind fun y => .ret (some y) else .ret none
  | none => .fail
def fComp (vs : List Nat) (mi : Env → M (List D)) (g : D → Env → Option Env) (mt : Env → M Bool) (me : Env → M D) (δ : Env) : M (List D) := (mi δ).bind fun ds => if ds.length ≤ sizeLine then (compL (compStep vs g mt me δ) ds).calm else .fail
/-- the tests behind a for -/
def QTs (X : Cx) (E : XK) (es : List Expr) (m : Env → M Bool) : Prop := PTs X es (tTs X.K X.mg E m)
def tTrue (_ : Env) : M Bool := .ret true
theorem qts_nil {X : Cx} {E : XK} : QTs X E [] tTrue := ⟨fun pins s σ H Q I ⟨w, δ, r, q⟩ => (pts_nil (X := X)).run pins s σ H Q I (q H (.refl r.well))⟩
theorem qts_one {X : Cx} {E : XK} {c : Expr} {m : Env → M Bool} (h : QT X E c m) : QTs X E [c] m := pts_one h.pt
section
variable {X : Cx} {E : XK} {elt tg iter : Expr} {ifs : List Expr} {scope : Scope} {own : List (Str × Nat)} {pos spos : Pos} {mi : Env → M (List D)} {is : List Nat} {g : D → Env → Option Env} {mt : Env → M Bool} {me : Env → M D}
theorem comp_read {wi : TI} {vs : List Nat} (i2 : ∀ w σ H δ R, RD X.K w H σ δ → wp (mi δ) (fun ds => ∀ J H1, Grow w H H1 → Tells X.K ds J H1 → R J H1) (XP X.mg E w H) → wi σ H R) (hiv : ∀ i ∈ is, i ∈ vs)
    {w : Option WA} {σ : L2.St} {H : Hp} {δ : Env} {Q : VK} (r : RD X.K w H σ δ)
    (q : wp (fComp vs mi g mt me δ) (fun ds => ∀ p vs H', Grow w H H' → Nn H p → H' p = some (.lst vs) → (∀ x, w = some x → p ≠ x.a ∧ p ≠ x.g ∧ p ≠ x.c) → DenAll X.K H' vs ds → Q (.ref p) H') (XP X.mg E w H)) :
    tLc wi (tG X.K is g) (tTs X.K X.mg E0 mt) (tE X.K X.mg E0 me) vs σ H Q := by
  refine i2 w σ H δ _ r (wp_then (wp_bind.mp q) fun ds q1 J H1 gr T Dd e => ?_)
  obtain ⟨hz, q1⟩ := ite_wp q1
  replace q1 := wp_calm q1
  obtain ⟨G, Y, wk, hG, hst, hY⟩ := T.ex
  have hD : ∀ x, w = some x → Dd ≠ x.a ∧ Dd ≠ x.g ∧ Dd ≠ x.c := fun x hx => (gr.well x hx).none_ne e
  have e0 : Nn H Dd := gr.nnOf e fun x hx => ⟨(hD x hx).1, (hD x hx).2.1⟩
  have g0 : Grow w H1 (upd H1 Dd (.lst [])) := Grow.new gr.well e
  refine lc_it wk (fun i H' => ∃ acc da, H' Dd = some (.lst acc) ∧ DenAll X.K H' acc da ∧ acc.length ≤ i ∧ Grow w H1 H' ∧
      wp (compL (compStep vs g mt me δ) (ds.drop i)) (fun rs => ∀ p vs H', Grow w H H' → Nn H p → H' p = some (.lst vs) → (∀ x, w = some x → p ≠ x.a ∧ p ≠ x.g ∧ p ≠ x.c) → DenAll X.K H' vs (da ++ rs) → Q (.ref p) H') (fun _ => False))
    ⟨[], [], upd_same, .nil, Nat.le_refl _, g0, by simpa using q1⟩ (fun i H' _ ⟨acc, da, _, _, _, g1, _⟩ => hst H1 H' hG g1.fz) (fun i x H' H'' hi ⟨acc, da, a1, a2, a3, g1, q2⟩ y => ?_) (fun H' ⟨acc, da, a1, a2, a3, g1, q2⟩ => ?_)
  · obtain ⟨g2, d, hd, n⟩ := hY i H' x H'' hi (hst H1 H' hG g1.fz) y w g1.well
    have hdr : ds.drop i = d :: ds.drop (i + 1) := by
      rw [List.drop_eq_getElem_cons hi]
      rw [List.getElem?_eq_getElem hi] at hd
      rw [Option.some.inj hd]
    rw [hdr] at q2
    have q3 := wp_bind.mp q2
    have g12 := g1.trans g2
    have k1 : ∀ {Ha Hb : Hp}, Grow w Ha Hb → Ha Dd = some (.lst acc) → Hb Dd = some (.lst acc) := fun gg ee => gg.keep Dd _ ee (fun _ z => nomatch z) fun x hx => ⟨(hD x hx).1, (hD x hx).2.1⟩
    cases hgd : g d (wipeE δ vs) with
    | none =>
      have ec : compStep vs g mt me δ d = .fail := by unfold compStep; rw [hgd]
      rw [ec] at q3; exact q3.elim
    | some δ2 =>
      have ec : compStep vs g mt me δ d = (mt δ2).bind fun k => if k = true then (me δ2).bind fun y => .ret (some y) else .ret none := by unfold compStep; rw [hgd]
      rw [ec] at q3
      have r2 : RD X.K w H'' (L2.wipe σ vs) (wipeE δ vs) := (r.grow (gr.trans g12)).wipe vs
      refine ⟨d, wipeE δ vs, δ2, fun σ2 δ2 => RD X.K w H'' σ2 δ2 ∧ L2.wipe σ2 vs = L2.wipe σ vs, n, hgd, ⟨r2, wipe_wipe _ _⟩, fun σ2 δ3 j d' v' hj ⟨z1, z3⟩ n' => ⟨z1.setD n', ?_⟩, fun σ2 ⟨z1, z3⟩ => ⟨z3, w, δ2, z1, ?_⟩⟩
      · rw [wipe_set (hiv j hj)]; exact z3
      · refine wp_mono (wp_bind.mp q3) (fun k q4 H3 g3 => ?_) fun _ z => False.elim z
        have g13 := g12.trans g3
        cases k with
        | false =>
          refine iteF ⟨acc, da, k1 g3 (k1 g2 a1), (a2.grow g2).grow g3, Nat.le_succ_of_le a3, g13, ?_⟩
          exact wp_mono (wp_bind.mp q4) (fun rs z => z) fun _ z => z
        | true =>
          refine iteT ⟨w, δ2, z1.grow g3, wp_mono (wp_bind.mp q4) (fun yv q5 v H4 g4 n4 => ⟨acc, k1 g4 (k1 g3 (k1 g2 a1)), ?_, ?_⟩) fun _ z => z.elim⟩
          · exact Nat.lt_of_le_of_lt a3 (Nat.lt_of_lt_of_le hi hz)
          · have eD := k1 g4 (k1 g3 (k1 g2 a1))
            have f5 : Fz H4 (upd H4 Dd (.lst (acc ++ [v]))) := ⟨fun b xs e => by rw [upd_ne (fun z => by (rw [z, eD] at e; cases e))]; exact e, fun b ob u e => by rw [upd_ne (fun z => by (rw [z, eD] at e; cases e))]; exact e⟩
            have g14 := g13.trans g4
            refine ⟨acc ++ [v], da ++ [yv], upd_same, ((((a2.grow g2).grow g3).grow g4).append (.cons n4 .nil)).fz f5, by simpa using a3, ⟨fun b xs z => f5.tups b xs (g14.tups b xs z), fun b o u z => f5.frzs b o u (g14.frzs b o u z), fun b o z tt nn => ?_, fun x hx => (g14.well x hx).at_ne (hD x hx), fun t => (g14.tabs t).lst eD⟩, ?_⟩
            · rw [upd_ne (fun zz => by (rw [zz, e] at z; cases z))]; exact g14.keep b o z tt nn
            · refine wp_mono (wp_bind.mp q5) (fun rs z p vs' Hx gx ex1 ex2 ex3 ex4 => z p vs' Hx gx ex1 ex2 ex3 ?_) fun _ z => z
              simpa using ex4
  · rw [List.drop_length] at q2
    exact q2 Dd acc H' (gr.trans g1) e0 a1 hD (by simpa using a2)
theorem qf_comp {own : List (Str × Nat)} (hc : X.calm = true) (hN : X.N.Nodup) (hi : QIt X E tg iter mi) (ok : BlkOk X.N X.env.scope scope own)
    (hg : ∀ (s : Shared) (H : Hp) (C : Addr) (cl : List (Str × Addr)) (fp : List Addr), QG (X.blk s H scope (compEnvC scope cl C X.env) fp) tg is g) (ht : ∀ (s : Shared) (H : Hp) (C : Addr) (cl : List (Str × Addr)) (fp : List Addr), QTs (X.blk s H scope (compEnvC scope cl C X.env) fp) E0 ifs mt)
    (he : ∀ (s : Shared) (H : Hp) (C : Addr) (cl : List (Str × Addr)) (fp : List Addr), QE (X.blk s H scope (compEnvC scope cl C X.env) fp) E0 elt me) (hiv : ∀ i ∈ is, i ∈ own.map (·.2) := by decide) (hs : ∀ x, foldedSetIterable iter X.env x = pure x := by intro _; rfl) :
    QF X E (.ListComp elt [⟨tg, iter, ifs, 0⟩] scope pos) (fComp (own.map (·.2)) mi g mt me) := by
  obtain ⟨wi, i1, i2⟩ := hi
  exact ⟨_, pe_lc (g := tG X.K is g) (tt := tTs X.K X.mg E0 mt) (te := tE X.K X.mg E0 me) hc hN i1 ok (fun s H C cl fp => (hg s H C cl fp).pg) (fun s H C cl fp => ht s H C cl fp) (fun s H C cl fp => (he s H C cl fp).pe) hs, fun w σ H δ Q r q => comp_read i2 hiv r q⟩
/-- y = [..], to be written on -/
theorem qs_setLcF (i : Nat) {y : Str} {py : Pos} {own : List (Str × Nat)} (hc : X.calm = true) (hN : X.N.Nodup) (hi : QIt X E tg iter mi) (ok : BlkOk X.N X.env.scope scope own)
    (hg : ∀ (s : Shared) (H : Hp) (C : Addr) (cl : List (Str × Addr)) (fp : List Addr), QG (X.blk s H scope (compEnvC scope cl C X.env) fp) tg is g) (ht : ∀ (s : Shared) (H : Hp) (C : Addr) (cl : List (Str × Addr)) (fp : List Addr), QTs (X.blk s H scope (compEnvC scope cl C X.env) fp) E0 ifs mt)
    (he : ∀ (s : Shared) (H : Hp) (C : Addr) (cl : List (Str × Addr)) (fp : List Addr), QE (X.blk s H scope (compEnvC scope cl C X.env) fp) E0 elt me)
    (hsw : swapsWith (.ListComp elt [⟨tg, iter, ifs, 0⟩] scope pos) (some (.Name y py)) spos.line X.env = pure true) (hy : X.N[i]? = some y := by rfl) (hyl : X.env.scope.names.lookup y = some .local := by rfl)
    (hiv : ∀ i ∈ is, i ∈ own.map (·.2) := by decide) (hs : ∀ x, foldedSetIterable iter X.env x = pure x := by intro _; rfl) :
    QS X E (.Assign [.Name y py] (.ListComp elt [⟨tg, iter, ifs, 0⟩] scope pos) spos) (sSetF i (fComp (own.map (·.2)) mi g mt me)) := by
  obtain ⟨wi, i1, i2⟩ := hi
  refine ⟨_, ps_setLc (g := tG X.K is g) (tt := tTs X.K X.mg E0 mt) (te := tE X.K X.mg E0 me) hc hN hy hyl hsw i1 ok (fun s H C cl fp => (hg s H C cl fp).pg) (fun s H C cl fp => ht s H C cl fp) (fun s H C cl fp => (he s H C cl fp).pe) hs, fun fr w σ H δ Dn r q => ?_⟩
  exact comp_read i2 hiv r.rd (wp_in r (wp_bind.mp q) fun ds k p vs H' g e1 e2 e3 n => k w _ H' (r.setNew g e1 e2 n e3))
/-- a statement whose list is frozen behind it -/
theorem ps_fzN {st : Stmt} {t : TS} (h : PS X st t) : PS X st (fun Dn σ H => t { Dn with nx := fun σ H => ∃ p vs, H p = some (.lst vs) ∧ ∀ o, Dn.nx σ (upd H p (.frz o (.lst vs))) } σ H) := by
  refine ⟨fun pins s σ H Dn I q => thn (h.run pins s σ H _ I q) fun f s1 z => ?_⟩
  cases f with
  | next =>
    obtain ⟨σ', H', I', p, vs, h1, h2⟩ := z
    obtain ⟨o, I2⟩ := I'.lock h1 trivial
    exact ⟨σ', _, I2, h2 o⟩
  | ret v => exact z
  | brk => exact z
  | cont => exact z
def sSetZ (i : Nat) (mf : Env → M (List D)) (δ : Env) : M Flow := (mf δ).bind fun ds => .ret (.next (δ.set i (.dat (.list ds))))
/-- y = [..], to be read -/
theorem qs_setLc (i : Nat) {y : Str} {py : Pos} {own : List (Str × Nat)} (hc : X.calm = true) (hN : X.N.Nodup) (hi : QIt X E tg iter mi) (ok : BlkOk X.N X.env.scope scope own)
    (hg : ∀ (s : Shared) (H : Hp) (C : Addr) (cl : List (Str × Addr)) (fp : List Addr), QG (X.blk s H scope (compEnvC scope cl C X.env) fp) tg is g) (ht : ∀ (s : Shared) (H : Hp) (C : Addr) (cl : List (Str × Addr)) (fp : List Addr), QTs (X.blk s H scope (compEnvC scope cl C X.env) fp) E0 ifs mt)
    (he : ∀ (s : Shared) (H : Hp) (C : Addr) (cl : List (Str × Addr)) (fp : List Addr), QE (X.blk s H scope (compEnvC scope cl C X.env) fp) E0 elt me)
    (hsw : swapsWith (.ListComp elt [⟨tg, iter, ifs, 0⟩] scope pos) (some (.Name y py)) spos.line X.env = pure true) (hy : X.N[i]? = some y := by rfl) (hyl : X.env.scope.names.lookup y = some .local := by rfl)
    (hiv : ∀ i ∈ is, i ∈ own.map (·.2) := by decide) (hs : ∀ x, foldedSetIterable iter X.env x = pure x := by intro _; rfl) :
    QS X E (.Assign [.Name y py] (.ListComp elt [⟨tg, iter, ifs, 0⟩] scope pos) spos) (sSetZ i (fComp (own.map (·.2)) mi g mt me)) := by
  obtain ⟨wi, i1, i2⟩ := hi
  refine ⟨_, ps_fzN (ps_setLc (g := tG X.K is g) (tt := tTs X.K X.mg E0 mt) (te := tE X.K X.mg E0 me) hc hN hy hyl hsw i1 ok (fun s H C cl fp => (hg s H C cl fp).pg) (fun s H C cl fp => ht s H C cl fp) (fun s H C cl fp => (he s H C cl fp).pe) hs), fun fr w σ H δ Dn r q => ?_⟩
  refine comp_read i2 hiv r.rd (wp_in r (wp_bind.mp q) fun ds k p vs H' g e1 e2 e3 n => ⟨p, vs, e2, fun o => ?_⟩)
  obtain ⟨g', n'⟩ := fz_grow g e1 e2 e3 n o
  exact k w _ _ ((r.step g').setD n')
end
end Q

set_option Elab.async false
set_option linter.all false
set_option maxRecDepth 100000
namespace Q
open PySem PySem.Spec PyProof.Rows L2
variable [WellKind]
/-! ### built-ins by values -/
def QC (X : Cx) (E : XK) (f : Value) (g : List D → M D) : Prop :=
  ∃ r, CallR X f r ∧ ∀ w H vs ds Q, (∀ z, w = some z → WellOk H z) → BDenAll X.K w H vs ds → wp (g ds) (fun d => ∀ v H', Grow w H H' → Den X.K H' v d → Q v H') (XP X.mg E w H) → r vs H Q
def eB (g : List D → M D) (ms : Env → M (List D)) (δ : Env) : M D := (ms δ).bind g
section
variable {X : Cx} {E : XK} {e a b o : Expr} {es : List Expr} {me mo : Env → M D} {ms : Env → M (List D)} {pos p apos cpos : Pos} {x : Str} {id T : String} {g : List D → M D}
theorem qe_callB (hc : QC X E (.builtin id) g) (hm : X.mg x = none) (hv : bootBuiltins x = some (.builtin id)) (h : QA X E (e :: es) ms) (hg : Gl X x := by rfl) (hn : x ≠ "__name__" := by decide) (hdb : (x == ("__debug__" : Str)) = false := by decide)
    (he : starEach (e :: es) X.env = (false, eval e X.env) :: starEach es X.env := by rfl) (hpl : (backTo pos (starEach es X.env)).any (·.1) = false := by rfl) : QE X E (.Call (.Name x p) (e :: es) [] pos) (eB g ms) := by
  obtain ⟨r, r1, r2⟩ := hc
  obtain ⟨t, a1, a2⟩ := h
  refine ⟨_, pe_callB r1 hg hm hv a1 hn hdb he hpl, fun w σ H δ Q rl q => a2 w σ H δ _ rl (wp_then (wp_bind.mp q) fun ds q1 vs H1 g1 n1 => ?_)⟩
  exact r2 w H1 vs ds Q g1.well n1 (wp_mono q1 (fun d k v H' g n => k v H' (g1.trans g) n) fun _ z => z.grow g1)
theorem qe_callTy (hc : QC X E (.type T) g) (hm : X.mg x = none) (hv : bootBuiltins x = some (.type T)) (h : QA X E (e :: es) ms) (hg : Gl X x := by rfl) (hn : x ≠ "__name__" := by decide) (hdb : (x == ("__debug__" : Str)) = false := by decide)
    (he : starEach (e :: es) X.env = (false, eval e X.env) :: starEach es X.env := by rfl) (hpl : (backTo pos (starEach es X.env)).any (·.1) = false := by rfl) : QE X E (.Call (.Name x p) (e :: es) [] pos) (eB g ms) := by
  obtain ⟨r, r1, r2⟩ := hc
  obtain ⟨t, a1, a2⟩ := h
  refine ⟨_, pe_callTy r1 hg hm hv a1 hn hdb he hpl, fun w σ H δ Q rl q => a2 w σ H δ _ rl (wp_then (wp_bind.mp q) fun ds q1 vs H1 g1 n1 => ?_)⟩
  exact r2 w H1 vs ds Q g1.well n1 (wp_mono q1 (fun d k v H' g n => k v H' (g1.trans g) n) fun _ z => z.grow g1)
theorem bd1 {K : PySem.W.Frag} {w : Option WA} {H : Hp} {vs : List V} {d : D} (n : BDenAll K w H vs [d]) : ∃ v, vs = [v] ∧ BDen K w H v d := by
  cases n with
  | cons a b => cases b; exact ⟨_, rfl, a⟩
theorem bd2 {K : PySem.W.Frag} {w : Option WA} {H : Hp} {vs : List V} {d d' : D} (n : BDenAll K w H vs [d, d']) : ∃ v v', vs = [v, v'] ∧ BDen K w H v d ∧ BDen K w H v' d' := by
  cases n with
  | cons a b =>
    obtain ⟨v, rfl, q⟩ := bd1 b
    exact ⟨_, _, rfl, a, q⟩
def dLen : List D → M D
  | [.list ds] => .ret (.int ds.length)
  | [.tuple ds] => .ret (.int ds.length)
  | [.str x] => okL x.length (.ret (.int x.length))
  | _ => .fail
theorem qc_len : QC X E (.builtin "len") dLen := by
  refine ⟨_, CallR.or call_len_seq call_len_str, fun w H vs ds Q hw n q => ?_⟩
  unfold dLen at q
  split at q
  · obtain ⟨v, rfl, nn⟩ := bd1 n
    obtain ⟨a, xs, rfl, h1, h2⟩ := nn.list
    exact .inl ⟨a, xs, rfl, .inl (.inl h1), by rw [h2.length]; exact q _ H (.refl hw) (.int _)⟩
  · obtain ⟨v, rfl, nn⟩ := bd1 n
    obtain ⟨a, xs, rfl, h1, h2⟩ := nn.tuple
    exact .inl ⟨a, xs, rfl, .inr h1, by rw [h2.length]; exact q _ H (.refl hw) (.int _)⟩
  · obtain ⟨v, rfl, nn⟩ := bd1 n
    obtain ⟨hz, q⟩ := okL_wp q
    exact .inr ⟨_, by rw [nn.str], hz, q _ H (.refl hw) (.int _)⟩
  · exact q.elim
def dAbs : List D → M D
  | [.int i] => .ret (.int (if i < 0 then -i else i))
  | _ => .fail
theorem qc_abs : QC X E (.builtin "abs") dAbs := by
  refine ⟨_, call_abs, fun w H vs ds Q hw n q => ?_⟩
  unfold dAbs at q
  split at q
  · obtain ⟨v, rfl, nn⟩ := bd1 n
    exact ⟨_, by rw [nn.int], q _ H (.refl hw) (.int _)⟩
  · exact q.elim
/-- the ints of a list -/
def intsOf : List D → Option (List Int)
  | [] => some []
  | .int i :: r => (intsOf r).map (i :: ·)
  | _ :: _ => none
theorem intsOf_eq : ∀ {ds : List D} {ns : List Int}, intsOf ds = some ns → ds = ns.map PyData.int
  | [], ns, h => by cases h; rfl
  | d :: r, ns, h => by
    cases d <;> first | (cases h; done) | skip
    unfold intsOf at h
    obtain ⟨l, e1, e2⟩ := Option.map_eq_some_iff.mp h
    rw [← e2, intsOf_eq e1]; rfl
theorem denAll_ints {K : PySem.W.Frag} {H : Hp} : ∀ {vs : List V} {ns : List Int}, DenAll K H vs (ns.map PyData.int) → vs = ns.map V.int
  | _, [], .nil => rfl
  | _, n :: ns, .cons a b => by cases a; rw [denAll_ints b]; rfl
def maxL (m : Int) (ns : List Int) : Int := ns.foldl (fun a b => if b > a then b else a) m
def minL (m : Int) (ns : List Int) : Int := ns.foldl (fun a b => if b < a then b else a) m
theorem maxL_spec : ∀ (ns : List Int) (m : Int), (maxL m ns = m ∨ maxL m ns ∈ ns) ∧ m ≤ maxL m ns ∧ ∀ y ∈ ns, y ≤ maxL m ns
  | [], m => ⟨.inl rfl, Int.le_refl _, fun _ h => nomatch h⟩
  | n :: ns, m => by
    have ec : maxL m (n :: ns) = maxL (if n > m then n else m) ns := rfl
    rw [ec]
    by_cases hn : n > m
    · rw [if_pos hn]
      obtain ⟨h1, h2, h3⟩ := maxL_spec ns n
      refine ⟨.inr (h1.elim (fun z => by rw [z]; exact List.mem_cons_self) fun z => List.mem_cons_of_mem _ z), by omega, fun y hy => ?_⟩
      rcases List.mem_cons.mp hy with rfl | hy
      · exact h2
      · exact h3 y hy
    · rw [if_neg hn]
      obtain ⟨h1, h2, h3⟩ := maxL_spec ns m
      refine ⟨h1.imp id fun z => List.mem_cons_of_mem _ z, h2, fun y hy => ?_⟩
      rcases List.mem_cons.mp hy with rfl | hy
      · omega
      · exact h3 y hy
theorem minL_spec : ∀ (ns : List Int) (m : Int), (minL m ns = m ∨ minL m ns ∈ ns) ∧ minL m ns ≤ m ∧ ∀ y ∈ ns, minL m ns ≤ y
  | [], m => ⟨.inl rfl, Int.le_refl _, fun _ h => nomatch h⟩
  | n :: ns, m => by
    have ec : minL m (n :: ns) = minL (if n < m then n else m) ns := rfl
    rw [ec]
    by_cases hn : n < m
    · rw [if_pos hn]
      obtain ⟨h1, h2, h3⟩ := minL_spec ns n
      refine ⟨.inr (h1.elim (fun z => by rw [z]; exact List.mem_cons_self) fun z => List.mem_cons_of_mem _ z), by omega, fun y hy => ?_⟩
      rcases List.mem_cons.mp hy with rfl | hy
      · exact h2
      · exact h3 y hy
    · rw [if_neg hn]
      obtain ⟨h1, h2, h3⟩ := minL_spec ns m
      refine ⟨h1.imp id fun z => List.mem_cons_of_mem _ z, h2, fun y hy => ?_⟩
      rcases List.mem_cons.mp hy with rfl | hy
      · omega
      · exact h3 y hy
def dMax : List D → M D
  | [.int i, .int j] => .ret (.int (if j > i then j else i))
  | [.list ds] => match intsOf ds with
    | some (n :: ns) => .ret (.int (maxL n ns))
    | _ => .fail
  | _ => .fail
def dMin : List D → M D
  | [.int i, .int j] => .ret (.int (if j < i then j else i))
  | [.list ds] => match intsOf ds with
    | some (n :: ns) => .ret (.int (minL n ns))
    | _ => .fail
  | _ => .fail
theorem qc_max (hc : X.calm = true) : QC X E (.builtin "max") dMax := by
  refine ⟨_, CallR.or (call_max2 hc) (cr_max hc), fun w H vs ds Q hw n q => ?_⟩
  unfold dMax at q
  split at q
  · obtain ⟨v, v', rfl, n1, n2⟩ := bd2 n
    exact .inl ⟨_, _, by rw [n1.int, n2.int], q _ H (.refl hw) (.int _)⟩
  · obtain ⟨v, rfl, nn⟩ := bd1 n
    obtain ⟨a, xs, rfl, h1, h2⟩ := nn.list
    split at q
    · rename_i m ns e
      have ed := intsOf_eq e
      subst ed
      have ev := denAll_ints h2
      subst ev
      refine .inr ⟨a, m :: ns, rfl, .inl h1, Nat.succ_pos _, fun k hk hle => ?_⟩
      obtain ⟨s1, s2, s3⟩ := maxL_spec ns m
      have : k = maxL m ns := by
        have a1 : maxL m ns ≤ k := by
          rcases s1 with z | z
          · rw [z]; exact hle m List.mem_cons_self
          · exact hle _ (List.mem_cons_of_mem _ z)
        have a2 : k ≤ maxL m ns := by
          rcases List.mem_cons.mp hk with rfl | z
          · exact s2
          · exact s3 k z
        omega
      rw [this]
      exact q _ H (.refl hw) (.int _)
    · exact q.elim
  · exact q.elim
theorem qc_min (hc : X.calm = true) : QC X E (.builtin "min") dMin := by
  refine ⟨_, CallR.or (call_min2 hc) (cr_min hc), fun w H vs ds Q hw n q => ?_⟩
  unfold dMin at q
  split at q
  · obtain ⟨v, v', rfl, n1, n2⟩ := bd2 n
    exact .inl ⟨_, _, by rw [n1.int, n2.int], q _ H (.refl hw) (.int _)⟩
  · obtain ⟨v, rfl, nn⟩ := bd1 n
    obtain ⟨a, xs, rfl, h1, h2⟩ := nn.list
    split at q
    · rename_i m ns e
      have ed := intsOf_eq e
      subst ed
      have ev := denAll_ints h2
      subst ev
      refine .inr ⟨a, m :: ns, rfl, .inl h1, Nat.succ_pos _, fun k hk hle => ?_⟩
      obtain ⟨s1, s2, s3⟩ := minL_spec ns m
      have : k = minL m ns := by
        have a1 : k ≤ minL m ns := by
          rcases s1 with z | z
          · rw [z]; exact hle m List.mem_cons_self
          · exact hle _ (List.mem_cons_of_mem _ z)
        have a2 : minL m ns ≤ k := by
          rcases List.mem_cons.mp hk with rfl | z
          · exact s2
          · exact s3 k z
        omega
      rw [this]
      exact q _ H (.refl hw) (.int _)
    · exact q.elim
  · exact q.elim
def dSum : List D → M D
  | [.list ds] => match intsOf ds with
    | some ns => .ret (.int ns.sum)
    | _ => .fail
  | _ => .fail
theorem qc_sum (hc : X.calm = true) : QC X E (.builtin "sum") dSum := by
  refine ⟨_, cr_sum hc, fun w H vs ds Q hw n q => ?_⟩
  unfold dSum at q
  split at q
  · obtain ⟨v, rfl, nn⟩ := bd1 n
    obtain ⟨a, xs, rfl, h1, h2⟩ := nn.list
    split at q
    · rename_i ns e
      have ed := intsOf_eq e
      subst ed
      have ev := denAll_ints h2
      subst ev
      exact ⟨a, ns, rfl, .inl h1, q _ H (.refl hw) (.int _)⟩
    · exact q.elim
  · exact q.elim
def dInt : List D → M D
  | [.int i] => .ret (.int i)
  | [.bool b] => .ret (.int (if b then 1 else 0))
  | [.str x] => match PySem.intText? x with
    | some n => if x.length ≤ 640 then .ret (.int n) else .fail
    | none => .fail
  | _ => .fail
theorem qc_int : QC X E (.type "int") dInt := by
  refine ⟨_, CallR.or call_int1 call_int_str, fun w H vs ds Q hw n q => ?_⟩
  unfold dInt at q
  split at q
  · obtain ⟨v, rfl, nn⟩ := bd1 n
    exact .inl (.inl ⟨_, by rw [nn.int], q _ H (.refl hw) (.int _)⟩)
  · obtain ⟨v, rfl, nn⟩ := bd1 n
    exact .inl (.inr ⟨_, by rw [nn.bool], q _ H (.refl hw) (.int _)⟩)
  · obtain ⟨v, rfl, nn⟩ := bd1 n
    split at q
    · rename_i k e
      obtain ⟨hz, q⟩ := ite_wp q
      exact .inr ⟨_, k, by rw [nn.str], e, hz, q _ H (.refl hw) (.int _)⟩
    · exact q.elim
  · exact q.elim
def dStr : List D → M D
  | [.int i] => if i.natAbs.log2 < 1920 then .ret (.str (toString i)) else .fail
  | _ => .fail
theorem qc_str : QC X E (.type "str") dStr := by
  refine ⟨_, call_str_int, fun w H vs ds Q hw n q => ?_⟩
  unfold dStr at q
  split at q
  · obtain ⟨v, rfl, nn⟩ := bd1 n
    obtain ⟨hz, q⟩ := ite_wp q
    exact ⟨_, by rw [nn.int], hz, q _ H (.refl hw) (.str _)⟩
  · exact q.elim
def dTuple : List D → M D
  | [.list ds] => .ret (.tuple ds)
  | [.tuple ds] => .ret (.tuple ds)
  | _ => .fail
theorem qc_tuple : QC X E (.type "tuple") dTuple := by
  refine ⟨_, call_tuple_of, fun w H vs ds Q hw n q => ?_⟩
  unfold dTuple at q
  split at q
  · obtain ⟨v, rfl, nn⟩ := bd1 n
    obtain ⟨a, xs, rfl, h1, h2⟩ := nn.list
    exact ⟨a, xs, rfl, .inl ⟨.inl h1, fun l e => tup_new hw e h2 q⟩⟩
  · obtain ⟨v, rfl, nn⟩ := bd1 n
    obtain ⟨a, xs, rfl, h1, h2⟩ := nn.tuple
    exact ⟨a, xs, rfl, .inr ⟨h1, q _ H (.refl hw) (.tup h1 h2)⟩⟩
  · exact q.elim
/-- list(x), to be read -/
def dList : List D → M D
  | [.list ds] => .ret (.list ds)
  | [.tuple ds] => .ret (.list ds)
  | _ => .fail
theorem qc_list : QC X E (.type "list") dList := by
  refine ⟨_, CallR.fz call_list_of, fun w H vs ds Q hw n q => ?_⟩
  unfold dList at q
  split at q
  · obtain ⟨v, rfl, nn⟩ := bd1 n
    obtain ⟨a, xs, rfl, h1, h2⟩ := nn.list
    exact ⟨a, xs, rfl, .inl (.inl h1), fun l e => fz_new hw e h2 q⟩
  · obtain ⟨v, rfl, nn⟩ := bd1 n
    obtain ⟨a, xs, rfl, h1, h2⟩ := nn.tuple
    exact ⟨a, xs, rfl, .inr h1, fun l e => fz_new hw e h2 q⟩
  · exact q.elim
/-! ### repr -/
def okR (d : D) : Bool := PyData.showable d && PyData.canLay0 d && decide (d.depth ≤ 64) && decide (d.shown.length ≤ sizeLine)
def dRepr : List D → M D
  | [d] => if okR d = true then .ret (.str d.shown) else .fail
  | _ => .fail
theorem cr_repr (hg : X.A.guards = some []) (hu : X.A.units + 100 < cLine) : CallR X (.builtin "repr") (fun xs H Q => ∃ x d, xs = [x] ∧ Dp X.K H x d ∧ d.showable = true ∧ d.canLay0 = true ∧ d.depth ≤ 64 ∧ d.shown.length ≤ sizeLine ∧ Q (.str d.shown) H) := by
  rintro pins s σ H xs us Q I r ⟨x, d, rfl, hd, h1, h2, h3, h4, q⟩
  obtain ⟨u, rfl, ru⟩ := vals1 r
  obtain ⟨as, hr⟩ := Dp.reads I d x u hd ru
  have fin : ∀ (h' : Heap) (u' : Tok) (tk : Nat), (∀ b o, s.heap.get? b = some o → h'.get? b = some o) → EP X pins σ Q (.str d.shown u') { s with heap := h', toks := tk } := fun h' u' tk k => ⟨.str d.shown, H, I.kept k, ⟨_, rfl⟩, q⟩
  cases hd with
  | non => cases ru; exact P.repr_of_none (fin s.heap _ _ fun _ _ z => z)
  | bl b => cases ru; exact P.repr_of_bool (fin s.heap _ _ fun _ _ z => z)
  | int i => obtain ⟨t, rfl⟩ := ru; exact P.repr_of_int (by simpa [PyData.showable] using h1) (fin s.heap _ _ fun _ _ z => z)
  | str x => obtain ⟨t, rfl⟩ := ru; exact P.repr_of_str (fin s.heap _ _ fun _ _ z => z) h4
  | lst ha hb =>
    cases ru
    exact repr_of_reads' hr h1 (PyData.noDict_hsm (PyData.hasDict_of_canLay _ h2)) hg (by omega) (fun _ _ z => z) fin h4
  | tup ha hb =>
    cases ru
    exact repr_of_reads' hr h1 (PyData.noDict_hsm (PyData.hasDict_of_canLay _ h2)) hg (by omega) (fun _ _ z => z) fin h4
theorem qc_repr {k : Nat} (gd : Good true X E k) : QC X E (.builtin "repr") dRepr := by
  refine ⟨_, cr_repr (gd.grd rfl) (by have := gd.room.un; omega), fun w H vs ds Q hw n q => ?_⟩
  unfold dRepr at q
  split at q
  · obtain ⟨v, rfl, nn⟩ := bd1 n
    obtain ⟨hz, q⟩ := ite_wp q
    unfold okR at hz
    simp only [Bool.and_eq_true, decide_eq_true_eq] at hz
    exact ⟨v, _, rfl, nn.dp hz.1.1.2, hz.1.1.1, hz.1.1.2, hz.1.2, hz.2, q _ H (.refl hw) (.str _)⟩
  · exact q.elim
/-! ### methods of texts -/
def QM (X : Cx) (E : XK) (id : String) (g : Str → List D → M D) : Prop :=
  ∃ r, MtR X id r ∧ ∀ w H x vs ds Q, (∀ z, w = some z → WellOk H z) → BDenAll X.K w H vs ds → wp (g x ds) (fun d => ∀ v H', Grow w H H' → Den X.K H' v d → Q v H') (XP X.mg E w H) → r (.str x) vs H Q
def eM (g : Str → List D → M D) (mo : Env → M D) (ms : Env → M (List D)) (δ : Env) : M D := (mo δ).bind fun d => match d with
  | .str x => (ms δ).bind fun ds => g x ds
  | _ => .fail
variable {name : Str} {gm : Str → List D → M D}
theorem qe_m (slot : PySem.Slot "str" name id) (hty : typeOf (.builtin id) = pure (.type "method_descriptor")) (hm : QM X E id gm) (ho : QE X E o mo) (ha : QA X E (e :: es) ms)
    (hbase : attributeBase o name X.env (eval o X.env) = eval o X.env := by rfl)
    (hfew : ((backTo cpos (starEach (e :: es) X.env)).all (fun x => !x.1) && (backToKw cpos (keywordEach [] X.env)).all (fun x => x.1.isSome)
      && decide ((e :: es).length + ([] : List Keyword).length + (if ([] : List Keyword).isEmpty then 0 else 1) < 30)) = true := by rfl)
    (hline : (apos.endLine == cpos.line) = true := by rfl) (hs : starEach (e :: es) X.env = (false, eval e X.env) :: starEach es X.env := by rfl) (hplain : (backTo cpos (starEach es X.env)).any (·.1) = false := by rfl) :
    QE X E (.Call (.Attribute o name apos) (e :: es) [] cpos) (eM gm mo ms) := by
  obtain ⟨r, r1, r2⟩ := hm
  obtain ⟨to, o1, o2⟩ := ho
  obtain ⟨t, a1, a2⟩ := ha
  refine ⟨_, pe_bm PySem.F.plainAttrs_str slot hty r1 o1 a1 hbase hfew hline hs hplain, fun w σ H δ Q rl q => o2 w σ H δ _ rl (wp_then (wp_bind.mp q) fun d q1 v H1 g1 n1 => ?_)⟩
  cases d <;> first | exact q1.elim | skip
  cases n1
  refine ⟨rfl, a2 w σ H1 δ _ (rl.grow g1) (wp_mono (wp_bind.mp q1) (fun ds q2 vs H2 g2 n2 => ?_) fun _ z => z.grow g1)⟩
  have g12 := g1.trans g2
  exact r2 w H2 _ vs ds Q g2.well n2 (wp_mono q2 (fun d k v H' g n => k v H' (g12.trans g) n) fun _ z => z.grow g12)
/-- the texts of a list -/
def strsOf : List D → Option (List Str)
  | [] => some []
  | .str i :: r => (strsOf r).map (i :: ·)
  | _ :: _ => none
theorem strsOf_eq : ∀ {ds : List D} {ns : List Str}, strsOf ds = some ns → ds = ns.map PyData.str
  | [], ns, h => by cases h; rfl
  | d :: r, ns, h => by
    cases d <;> first | (cases h; done) | skip
    unfold strsOf at h
    obtain ⟨l, e1, e2⟩ := Option.map_eq_some_iff.mp h
    rw [← e2, strsOf_eq e1]; rfl
theorem denAll_strs {K : PySem.W.Frag} {H : Hp} : ∀ {vs : List V} {ns : List Str}, DenAll K H vs (ns.map PyData.str) → vs = ns.map V.str
  | _, [], .nil => rfl
  | _, n :: ns, .cons a b => by cases a; rw [denAll_strs b]; rfl
def mJoin (a : Str) : List D → M D
  | [.list ds] => match strsOf ds with
    | some ys => if (ys.map (·.length)).sum + ys.length * a.length ≤ 16777216 then .ret (.str (Txt.join a ys)) else .fail
    | none => .fail
  | [.tuple ds] => match strsOf ds with
    | some ys => if (ys.map (·.length)).sum + ys.length * a.length ≤ 16777216 then .ret (.str (Txt.join a ys)) else .fail
    | none => .fail
  | _ => .fail
theorem qm_join : QM X E "str.join" mJoin := by
  refine ⟨_, mt_join, fun w H x vs ds Q hw n q => ?_⟩
  unfold mJoin at q
  split at q
  · obtain ⟨v, rfl, nn⟩ := bd1 n
    obtain ⟨a, xs, rfl, h1, h2⟩ := nn.list
    split at q
    · rename_i ys e
      have ed := strsOf_eq e
      subst ed
      have ev := denAll_strs h2
      subst ev
      obtain ⟨hz, q⟩ := ite_wp q
      exact ⟨x, a, ys, rfl, rfl, .inl (.inl h1), hz, q _ H (.refl hw) (.str _)⟩
    · exact q.elim
  · obtain ⟨v, rfl, nn⟩ := bd1 n
    obtain ⟨a, xs, rfl, h1, h2⟩ := nn.tuple
    split at q
    · rename_i ys e
      have ed := strsOf_eq e
      subst ed
      have ev := denAll_strs h2
      subst ev
      obtain ⟨hz, q⟩ := ite_wp q
      exact ⟨x, a, ys, rfl, rfl, .inr h1, hz, q _ H (.refl hw) (.str _)⟩
    · exact q.elim
  · exact q.elim
def mFind (a : Str) : List D → M D
  | [.str b] => .ret (.int (Txt.find a b))
  | [.str b, .int i] => .ret (.int (Txt.find3 a b i))
  | _ => .fail
theorem qm_find : QM X E "str.find" mFind := by
  refine ⟨_, MtR.or mt_find mt_find3, fun w H x vs ds Q hw n q => ?_⟩
  unfold mFind at q
  split at q
  · obtain ⟨v, rfl, nn⟩ := bd1 n
    exact .inl ⟨x, _, rfl, by rw [nn.str], q _ H (.refl hw) (.int _)⟩
  · obtain ⟨v, v', rfl, n1, n2⟩ := bd2 n
    exact .inr ⟨x, _, _, rfl, by rw [n1.str, n2.int], q _ H (.refl hw) (.int _)⟩
  · exact q.elim
def mStrip (a : Str) : List D → M D
  | [.str b] => okL a.length (.ret (.str (Txt.stripChars a b)))
  | _ => .fail
theorem qm_strip : QM X E "str.strip" mStrip := by
  refine ⟨_, mt_stripChars, fun w H x vs ds Q hw n q => ?_⟩
  unfold mStrip at q
  split at q
  · obtain ⟨v, rfl, nn⟩ := bd1 n
    obtain ⟨hz, q⟩ := okL_wp q
    exact ⟨x, _, rfl, by rw [nn.str], hz, q _ H (.refl hw) (.str _)⟩
  · exact q.elim
def mCount (a : Str) : List D → M D
  | [.str b] => .ret (.int (Txt.count a b))
  | _ => .fail
theorem qm_count : QM X E "str.count" mCount := by
  refine ⟨_, mt_count, fun w H x vs ds Q hw n q => ?_⟩
  unfold mCount at q
  split at q
  · obtain ⟨v, rfl, nn⟩ := bd1 n
    exact ⟨x, _, rfl, by rw [nn.str], q _ H (.refl hw) (.int _)⟩
  · exact q.elim
/-! ### a list of one's own -/
def sApp (i : Nat) (me : Env → M D) (δ : Env) : M Flow := match δ[i]? with
  | some (.own ds) => (me δ).bind fun d => if ds.length < sizeLine then .ret (.next (δ.set i (.own (ds ++ [d])))) else .fail
  | _ => .fail
theorem qs_app (i : Nat) {x : Str} {xpos : Pos} (h : QE X E e me) (hN : X.N[i]? = some x := by rfl) (hv : Vis X.env.scope x := by first | exact Or.inl rfl | exact Or.inr (Or.inl rfl) | exact Or.inr (Or.inr rfl))
    (hd : (x == ("__debug__" : Str)) = false := by decide) (hcd : (x == ("__classdict__" : Str)) = false := by decide)
    (hbase : attributeBase (.Name x xpos) "append" X.env (eval (.Name x xpos) X.env) = eval (.Name x xpos) X.env := by rfl)
    (hfew : ((backTo cpos (starEach [e] X.env)).all (fun x => !x.1) && (backToKw cpos (keywordEach [] X.env)).all (fun x => x.1.isSome)
      && decide ([e].length + ([] : List Keyword).length + (if ([] : List Keyword).isEmpty then 0 else 1) < 30)) = true := by rfl)
    (hline : (apos.endLine == cpos.line) = true := by rfl) (hs : starEach [e] X.env = (false, eval e X.env) :: starEach [] X.env := by rfl) (hplain : (backTo cpos (starEach [] X.env)).any (·.1) = false := by rfl)
    (hsw : swapsWith (.Call (.Attribute (.Name x xpos) "append" apos) [e] [] cpos) none pos.line X.env = pure false := by rfl) :
    QS X E (.Expr (.Call (.Attribute (.Name x xpos) "append" apos) [e] [] cpos) pos) (sApp i me) := by
  obtain ⟨t, a1, a2⟩ := h
  refine ⟨_, ps_expr (pe_bm PySem.F.plainAttrs_list PySem.F.slot_list_append PySem.F.type_list_append mt_append (pe_var hN hv hd hcd) (pa_cons a1 pa_nil hs) hbase hfew hline hs hplain) hsw, fun fr w σ H δ Dn r q => ?_⟩
  unfold sApp at q
  split at q
  · rename_i ds e1
    obtain ⟨p, vs, e2, h1, h2, h3⟩ := r.rd.slot i _ e1
    refine ⟨.ref p, e2, .inl ⟨rfl, vs, .of h1⟩, a2 w σ H δ _ r.rd (wp_in r (wp_bind.mp q) fun d q1 v H1 g1 n1 => ?_)⟩
    obtain ⟨hz, q1⟩ := ite_wp q1
    have r1 := r.step g1
    obtain ⟨p', vs', e2', h1', h2', h3'⟩ := r1.rd.slot i _ e1
    rw [e2] at e2'
    have ep : p = p' := by injection e2' with z; injection z with z; injection z
    subst ep
    refine ⟨p, vs', v, rfl, rfl, h1', by rw [h2'.length]; exact hz, ?_⟩
    exact q1 w σ _ (r1.writeOwn e1 e2 h1' (h2'.append (.cons n1 .nil)) h3')
  · exact q.elim
/-- xs[k] = e -/
def sPut (i : Nat) (mk me : Env → M D) (δ : Env) : M Flow := match δ[i]? with
  | some (.own ds) => (me δ).bind fun d => (mk δ).bind fun kd => match kd with
    | .int k => match ixN ds.length k with
      | some j => .ret (.next (δ.set i (.own (ds.set j d))))
      | none => .fail
    | _ => .fail
  | _ => .fail
theorem qs_put (i : Nat) {x : Str} {xpos spos : Pos} {k : Expr} {mk : Env → M D} (h : QE X E e me) (hk : QE X E k mk) (hN : X.N[i]? = some x := by rfl) (hv : Vis X.env.scope x := by first | exact Or.inl rfl | exact Or.inr (Or.inl rfl) | exact Or.inr (Or.inr rfl))
    (hd : (x == ("__debug__" : Str)) = false := by decide) (hcd : (x == ("__classdict__" : Str)) = false := by decide)
    (ha : ∀ v, assign (.Subscript (.Name x xpos) k spos) X.env v = (do
      let ov ← holding [v] (eval (.Name x xpos) X.env)
      let iv ← holding [v, ov] (eval k X.env)
      standAt spos
      holding [v, ov, iv] (setItem ov iv v)
      release [v, ov, iv] []) := by intro _; rfl) (hs : swapsWithSole [.Subscript (.Name x xpos) k spos] e pos.line X.env = pure false := by rfl) (hw : swappedStores [.Subscript (.Name x xpos) k spos] e X.env = pure none := by rfl)
    (h1 : (assignEach [.Subscript (.Name x xpos) k spos] X.env).map (·.2) = [assign (.Subscript (.Name x xpos) k spos) X.env] := by rfl) :
    QS X E (.Assign [.Subscript (.Name x xpos) k spos] e pos) (sPut i mk me) := by
  obtain ⟨t, a1, a2⟩ := h
  obtain ⟨tk, k1, k2⟩ := hk
  refine ⟨_, ps_asg a1 (pg_sub (pe_var hN hv hd hcd) k1 set_list ha) hs hw h1, fun fr w σ H δ Dn r q => ?_⟩
  unfold sPut at q
  split at q
  · rename_i ds e1
    refine a2 w σ H δ _ r.rd (wp_in r (wp_bind.mp q) fun d q1 v H1 g1 n1 => ?_)
    have r1 := r.step g1
    obtain ⟨p, vs, e2, _, _, _⟩ := r1.rd.slot i _ e1
    refine ⟨.ref p, e2, k2 w σ H1 δ _ r1.rd (wp_in r1 (wp_bind.mp q1) fun kd q2 kv H2 g2 n2 => ?_)⟩
    have r2 := r1.step g2
    obtain ⟨p', vs', e2', h1', h2', h3'⟩ := r2.rd.slot i _ e1
    rw [e2] at e2'
    have ep : p = p' := by injection e2' with z; injection z with z; injection z
    subst ep
    split at q2
    · cases n2
      split at q2
      · rename_i j ej
        refine ⟨p, vs', _, j, rfl, rfl, h1', by rw [h2'.length]; exact ej, ?_⟩
        exact q2 w σ _ (r2.writeOwn e1 e2 h1' (h2'.set j (n1.grow g2)) h3')
      · exact q2.elim
    · exact q2.elim
  · exact q.elim
end
end Q

set_option Elab.async false
set_option linter.all false
set_option maxRecDepth 100000
namespace Q
open PySem PySem.Spec PyProof.Rows L2
variable [WellKind]
/-! ### the law's own def -/
/-- the def that makes the well -/
def spWell (K : PySem.W.Frag) : Sp := fun vs H Q _ => ∃ (a : Addr) (ns : List Int), vs = [.ref a] ∧ SqL K H a (ns.map V.int) ∧ ns.length ≤ 63 ∧ ∀ (x : WA) (H' : Hp), WellOk H' x → (Tbs H → Tbs H') → Q (.ref x.a) H'
def spLaw (K : PySem.W.Frag) : Sp := fun vs H Q _ => ∃ (a : Addr) (ns : List Int), vs = [.ref a] ∧ SqL K H a (ns.map V.int) ∧ ns.length ≤ 63 ∧ Tbs H ∧ ∀ H', Q (.bl true) H'
/-- the slots behind the first statement -/
def lawEnv (n iw : Nat) : Env := (List.replicate n Slot.emp).set iw .well
theorem rs_law {K : PySem.W.Frag} {x : WA} {H : Hp} {a : Addr} {N : List Str} {iw : Nat} (hw : WellOk H x) (ht : Tbs H) (h1 : iw < N.length) (h0 : 0 < N.length) : RS K ⟨H, some x, H⟩ (some x) H ((L2.start N [.ref a]).set iw (some (.ref x.a))) (lawEnv N.length iw) := by
  have wk : ∀ y, some x = some y → WellOk H y := fun y e => by cases e; exact hw
  have hl : (L2.start N [.ref a]).length = N.length := by
    unfold L2.start
    rw [List.length_append, List.length_map, List.length_replicate]
    show 1 + (N.length - 1) = _
    omega
  have no : ∀ (i : Nat) (ds : List D), (lawEnv N.length iw)[i]? ≠ some (.own ds) := fun i ds e => by
    unfold lawEnv at e
    rcases get_set e with ⟨_, z, _⟩ | ⟨_, z⟩
    · cases z
    · rw [List.getElem?_replicate] at z
      split at z <;> cases z
  have hlen : ((L2.start N [.ref a]).set iw (some (.ref x.a))).length = (lawEnv N.length iw).length := by
    unfold lawEnv
    rw [List.length_set, hl, List.length_set, List.length_replicate]
  refine ⟨⟨fun i s e => ?_, wk, hlen, ht⟩, hlen, .refl wk, fun i ds p e _ => absurd e (no i ds), fun i j ds es p q _ e _ _ _ => absurd e (no i ds), .inr rfl, fun y hy z => (by cases z), .refl H⟩
  unfold lawEnv at e
  rcases get_set e with ⟨rfl, rfl, _⟩ | ⟨_, z⟩
  · exact ⟨x, rfl, List.getElem?_set_self (by rw [hl]; exact h1)⟩
  · rw [List.getElem?_replicate] at z
    split at z
    · cases z; trivial
    · cases z
/-- what is to be shown of a law, behind a wall -/
structure LawOk (m : M Flow) : Prop where
  is : wp m (fun fl => fl = .retn (.bool true)) fun _ => False
theorem law_main {P : Program} {w : World} {K : PySem.W.Frag} {mg : Str → Option Value} {base : Heap} {x qual xw xf xs : Str} {st : Stmt} {f fW : Addr} {fd fdW : FuncData} {N : List Str} {pW : Str} {k iw n : Nat} {rest : List Stmt} {p1 p2 p3 p4 p5 : Pos} {m : Env → M Flow}
    (F : Fun K x qual st f fd) (S : FnScope N [xs] (defScope st)) (hn : N.length = n) (hbody : defBody st = .Assign [.Name xw p1] (.Call (.Name xf p2) [.Name xs p3] [] p4) p5 :: rest)
    (GW : GOk true P w K mg base k fW fdW [pW] (spWell K)) (hmW : mg xf = some (.ref fW)) (hkW : PySem.W.keepIn K (.ref fW) = true) (hbW : Binds K fdW [pW] []) (h0 : N[0]? = some xs) (hiw : N[iw]? = some xw)
    (hv0 : Vis (defScope st) xs) (hlw : Loc (defScope st) xw) (hgf : (defScope st).names.lookup xf = some .globalImplicit)
    (hd1 : (xs == ("__debug__" : Str)) = false) (hd2 : (xs == ("__classdict__" : Str)) = false) (hd3 : (xf == ("__debug__" : Str)) = false)
    (hb : ∀ (X : Cx) (E : XK), X.prog = P → X.w = w → X.K = K → X.mg = mg → X.base = base → X.N = N → X.env.scope = defScope st → (∀ x, X.fn x = true) → (∃ cdv A outer s H, fd.code = cdv ∧ X = cxOf (L2.CX P w) P w K mg base N qual (defScope st) f cdv A outer s H E) → Good true X E k →
      swapsWith (.Call (.Name xf p2) [.Name xs p3] [] p4) (some (.Name xw p1)) p5.line X.env = pure false ∧ QSs X E rest m)
    (hm : LawOk (m (lawEnv n iw))) : GOk true P w K mg base (k + 1) f fd [xs] (spLaw K) := by
  refine GOk.of F S (fun vs H Q E h => by obtain ⟨a, ns, rfl, _⟩ := h; rfl) fun cdv hcv A outer s H vs Q E hr hg h => ?_
  obtain ⟨a, ns, rfl, hS, hl, ht, q⟩ := h
  have gd : Good true (cxOf (L2.CX P w) P w K mg base N qual (defScope st) f cdv A outer s H E) E k :=
    ⟨rfl, hr, hg, L2.passes_of rfl, L2.passes_call (L2.takes_of rfl rfl rfl rfl) fun _ _ _ _ z => z, L2.takes_of rfl rfl rfl rfl⟩
  obtain ⟨hsw, t, a1, b1⟩ := hb _ E rfl rfl rfl rfl rfl rfl rfl (fun _ => rfl) ⟨cdv, A, outer, s, H, hcv, rfl⟩ gd
  have pe : PE (cxOf (L2.CX P w) P w K mg base N qual (defScope st) f cdv A outer s H E) (.Call (.Name xf p2) [.Name xs p3] [] p4) _ :=
    pe_g (pos := p4) (p := p2) GW gd hmW hkW hbW (pa_cons (pe_var (i := 0) h0 hv0 hd1 hd2) pa_nil (by rfl)) hgf hd3 (by rfl) (by rfl)
  have ps := ps_set (i := iw) (pos := p5) (pos' := p1) S.nd hiw hlw pe hsw (.inl rfl)
  rw [hbody]
  refine ⟨_, pss_cons ps a1, ?_⟩
  refine ⟨.ref a, rfl, a, ns, rfl, hS, hl, fun wx H' hwx htw => ?_⟩
  have hiN : iw < N.length := (List.getElem?_eq_some_iff.mp hiw).1
  refine b1 ⟨H', some wx, H'⟩ (some wx) _ H' (lawEnv n iw) _ (hn ▸ rs_law hwx (htw ht) hiN (Nat.lt_of_le_of_lt (Nat.zero_le _) hiN)) (wp_mono hm.is (fun fl e => ?_) fun _ z => z.elim)
  subst e
  intro v H2 _ nd
  cases nd
  exact q H2
/-! ### the end -/
/-- a table of code objects at the start: empty, beside the written part, its code object told -/
structure Tab0 (K : PySem.W.Frag) (h : Heap) (cp : Addr × Addr) : Prop where
  nil : h.get? cp.2 = some { cls := .none, data := .fields #[] }
  out : K.lookup cp.2 = none
  hd : PySem.W.CodeHd h cp.1 cp.2
/-- the module of the built-ins, as the making of functions asks for it -/
def BltMod (h : Heap) (mg : Str → Option Value) : Prop := ∃ (m : Addr) (o : Obj), mg "__builtins__" = some (.ref m) ∧ m ≠ builtinsNs ∧ h.get? m = some o ∧ o.cls = .type "module" ∧ o.dict = some builtinsNs ∧ o.data = .plain
theorem law_end {P : Program} {w : World} {K : PySem.W.Frag} {mg mb : Str → Option Value} {k : Nat} {fa a : Addr} {fd : FuncData} {x : Str} {s₁ : Shared} {vs : List Value} {ns : List Int} {cs : List (Addr × Addr)}
    (kin : K.In s₁.heap) (gl : s₁.heap.Ns mainGlobals mg) (bl : s₁.heap.Ns builtinsNs mb) (blt : ∀ x : Str, x ≠ "__name__" → mb x = bootBuiltins x) (lim : s₁.heap.NoLimit) (gens : s₁.gens = #[])
    (obj : s₁.heap.get? a = some { cls := .type "list", data := .seq vs.toArray }) (are : IntsAre vs ns) (few : ns.length ≤ 63) (room : Room k callerA)
    (tab : ∀ cp ∈ cs, Tab0 K s₁.heap cp) (bmod : BltMod s₁.heap mg) (told : ∀ pq ∈ WellKind.T, ∃ c, (c, pq.1) ∈ cs)
    (F : ∀ base : Heap, (∀ cp ∈ cs, LamX.TabB base mg cp.1 cp.2) → GOk true P w K mg base k fa fd [x] (spLaw K)) (binds : ∀ (s : Shared) (u : Value), BindsTo s fd ⟨[u], []⟩ [(x, u)]) :
    codeAny (model P w) callerA (.call (.ref fa) ⟨[.ref a], []⟩) (fun r s' => r = .ok (.ret (.bool true)) ∧ OldK s₁.heap s'.heap ∧ s'.os = s₁.os ∧ AllBare s'.gens) s₁ := by
  have rel := vals_ints are
  have small : ns.length ≤ sizeLine := Nat.le_trans few (by decide)
  have scr : ∀ cp ∈ cs, cp.2 ≠ a := fun cp hcp z => by
    have q := (tab cp hcp).nil
    rw [z, obj] at q
    exact nomatch congrArg Obj.data (Option.some.inj q)
  -- it is enough to say what is tracked: the tables, and perhaps the script
  suffices hs : ∃ H : Hp, (∀ b, H b = none ∨ (b = a ∧ K.lookup a = none ∧ H b = some (.frz { cls := .type "list", data := .seq vs.toArray } (.lst (ns.map V.int)))) ∨ ∃ cp ∈ cs, cp.2 = b ∧ H b = some (.tbl #[])) ∧ SqL K H a (ns.map V.int) ∧ ∀ cp ∈ cs, H cp.2 = some (.tbl #[]) by
    obtain ⟨H, only, sq, tH⟩ := hs
    have out : ∀ {b : Addr} {o : Obj}, s₁.heap.get? b = some o → ((b = a → K.lookup a ≠ none) ∨ o.cls ≠ .type "list") → o ≠ { cls := .none, data := .fields #[] } → H b = none := fun {b o} e h h' => by
      rcases only b with z | ⟨z1, z2, z3⟩ | ⟨cp, hcp, z1, _⟩
      · exact z
      · rcases h with h | h
        · exact absurd z2 (h z1)
        · subst z1; rw [obj] at e; cases e; exact absurd rfl h
      · subst z1; rw [(tab cp hcp).nil] at e; exact absurd (Option.some.inj e).symm h'
    have hok : HOk P w H s₁.heap := fun b u e => by
      rcases only b with z | ⟨z1, z2, z3⟩ | ⟨cp, hcp, z1, z3⟩
      · rw [z] at e; cases e
      · rw [z3] at e; cases e
        subst z1
        exact ⟨obj, by rw [List.length_map]; exact small, vs, _, rel, obj⟩
      · rw [z3] at e; cases e
        subst z1
        exact (tab cp hcp).nil
    have kb : K.In (hidT s₁.heap H) := fun b o e => hidT_get (kin b o e) (by
      rcases only b with z | ⟨z1, z2, _⟩ | ⟨cp, hcp, z1, _⟩
      · exact z
      · subst z1; rw [z2] at e; cases e
      · subst z1; rw [(tab cp hcp).out] at e; cases e)
    have nsb : ∀ {b : Addr} {m : Str → Option Value}, s₁.heap.Ns b m → (hidT s₁.heap H).Ns b m := fun {b m} ⟨o, es, ep, e, d, r⟩ => by
      refine ⟨o, es, ep, hidT_get e ?_, d, r⟩
      rcases only b with z | ⟨z1, _, _⟩ | ⟨cp, hcp, z1, _⟩
      · exact z
      · subst z1; rw [obj] at e; cases e; cases d
      · subst z1; rw [(tab cp hcp).nil] at e; cases e; cases d
    have md : Mod K mg (hidT s₁.heap H) := ⟨kb, nsb gl, ⟨mb, nsb bl, blt⟩, let ⟨mc, h1, h2⟩ := lim; ⟨mc, nsb h1, h2⟩⟩
    have tb : ∀ cp ∈ cs, LamX.TabB (hidT s₁.heap H) mg cp.1 cp.2 := fun cp hcp => by
      have t0 := tab cp hcp
      constructor
      · obtain ⟨o, us, f1, f2, f3, f4, f5, f6, f7, e1, g1, g2, g3, rest⟩ := t0.hd
        refine ⟨o, us, f1, f2, f3, f4, f5, f6, f7, hidT_get e1 ?_, g1, g2, g3, rest⟩
        rcases only cp.1 with q | ⟨q, _⟩ | ⟨cp', hcp', q, _⟩
        · exact q
        · rw [q, obj] at e1; cases e1; cases g2
        · rw [← q, (tab cp' hcp').nil] at e1; cases e1; cases g2; simp at g3
      · obtain ⟨m, ob, b1, b2, b3, b4, b5, b6⟩ := bmod
        have m1 : m ≠ mainGlobals := fun q => by
          obtain ⟨o, es, ep, e, d, _⟩ := gl
          rw [← q, b3] at e; cases e
          rw [b6] at d; cases d
        have m2 : m ≠ cp.2 := fun q => by
          rw [q, t0.nil] at b3; cases b3; cases b6
        exact ⟨m, ob, b1, b2, m1, m2, hidT_get b3 (out b3 (.inr (by rw [b4]; simp)) (fun z => by rw [z] at b6; cases b6)), b4, b5, b6⟩
      · intro q
        obtain ⟨o, es, ep, e, d, _⟩ := gl
        rw [q, t0.nil] at e; cases e; cases d
    have tbs : Tbs H := fun pq hpq => by
      obtain ⟨c, hc⟩ := told pq hpq
      exact LamX.TabS.nil (tH _ hc)
    have e0 : Env0 P w K mg (hidT s₁.heap H) callerA [] s₁ H := ⟨rfl, md, fun b o e => of_hidT e, Nat.le_of_eq (hidT_size _ _), trivial, fun b z => absurd (show b ∈ ([] : List Addr) from z) (by simp), hok, .of_eq gens⟩
    refine codeAny_mono ((F (hidT s₁.heap H) tb).go callerA [] s₁ H ⟨[.ref a], []⟩ [.ref a] [.ref a] (fun v _ => v = .bl true) (fun _ _ _ => False) room (fun _ => rfl) e0 (binds s₁ (.ref a)) (.cons rfl .nil) ⟨a, ns, rfl, sq, few, tbs, fun _ => rfl⟩) fun r s2 hr => ?_
    cases r with
    | error e =>
      obtain ⟨_, _, _, _, _, _, _, _, _, _, _, _, z⟩ := hr
      exact z.elim
    | ok fl =>
      cases fl with
      | ret u =>
        obtain ⟨v, H2, os, bare, un, hok2, rv, qv⟩ := hr
        subst qv
        obtain rfl : u = Value.bool true := rv
        have kept : ∀ b o, s₁.heap.get? b = some o → s2.heap.get? b = some o ∨ ∃ cp ∈ cs, cp.2 = b ∧ ∃ more, s2.heap.get? b = some { cls := .none, data := .fields more } := fun b o e => by
          rcases only b with z | ⟨z1, z2, z3⟩ | ⟨cp, hcp, z1, z3⟩
          · exact .inl (un.keep b o e z (fun zz => absurd (show b ∈ ([] : List Addr) from zz) (by simp)) (by simp))
          · have z4 := un.frzs b _ _ z3
            obtain ⟨e2, _⟩ := hok2 b _ z4
            subst z1; rw [obj] at e; cases e
            exact .inl e2
          · obtain ⟨more, z4⟩ := un.tbls b #[] z3
            exact .inr ⟨cp, hcp, z1, _, hok2 b _ z4⟩
        refine ⟨rfl, ⟨fun b o e => ?_, fun b o e => ?_⟩, os, bare⟩
        · rcases kept b o e with z | ⟨cp, hcp, z, more, z2⟩
          · exact .inl z
          · subst z
            rw [(tab cp hcp).nil] at e; cases e
            refine .inr (.inl ⟨((tab cp hcp).hd.tab (tab cp hcp).nil).isCodeTable, rfl, #[], more, rfl, ?_⟩)
            rw [Array.empty_append]; exact z2
        · rcases kept b o e with z | ⟨cp, hcp, z, more, z2⟩
          · exact ⟨o, z⟩
          · exact ⟨_, z2⟩
      | next => exact hr.elim
      | brk => exact hr.elim
      | cont => exact hr.elim
  have dec : ∀ b : Addr, (∃ cp ∈ cs, cp.2 = b) ∨ ¬ ∃ cp ∈ cs, cp.2 = b := fun b => Classical.em _
  cases hk : K.lookup a with
  | some o =>
    have e := kin a o hk
    rw [obj] at e
    cases e
    refine ⟨fun b => if b ∈ cs.map (·.2) then some (.tbl #[]) else none, fun b => ?_, .inr ⟨_, vs.toArray, _, hk, rfl, rfl, rfl, by rw [List.size_toArray, are.length]; exact small, by simpa using rel⟩, fun cp hcp => if_pos (List.mem_map_of_mem hcp)⟩
    by_cases hb : b ∈ cs.map (·.2)
    · obtain ⟨cp, hcp, ecp⟩ := List.mem_map.mp hb
      exact .inr (.inr ⟨cp, hcp, ecp, if_pos hb⟩)
    · exact .inl (if_neg hb)
  | none =>
    refine ⟨fun b => if b = a then some (.frz { cls := .type "list", data := .seq vs.toArray } (.lst (ns.map V.int))) else if b ∈ cs.map (·.2) then some (.tbl #[]) else none, fun b => ?_, .inl (.inr ⟨_, if_pos rfl⟩), fun cp hcp => ?_⟩
    · by_cases hb : b = a
      · exact .inr (.inl ⟨hb, rfl, if_pos hb⟩)
      · by_cases hb2 : b ∈ cs.map (·.2)
        · obtain ⟨cp, hcp, ecp⟩ := List.mem_map.mp hb2
          exact .inr (.inr ⟨cp, hcp, ecp, by dsimp only; rw [if_neg hb, if_pos hb2]⟩)
        · exact .inl (by dsimp only; rw [if_neg hb, if_neg hb2])
    · dsimp only
      rw [if_neg (scr cp hcp), if_pos (List.mem_map_of_mem hcp)]
/-- the tables of the defs, as the head tells them -/
def TabsTold (q : Program) (K : PySem.W.Frag) (h : Heap) : Prop := ∀ (x : Str) (d : DefRec) (c P : Addr), (recsOf q).find? (fun e => e.name == x) = some d → PySem.W.tabIn K x = some (c, P) → PySem.W.CodeHd h c P ∧ h.get? P = some { cls := .none, data := .fields #[] }
omit [WellKind] in
theorem law_walk {l : PySem.W.OpenLaw} {k : Nat} {q : Program} {loose : List Str} {XP : (Str → Option Value) → Heap → Prop} {YP : World → Heap → Prop} {d : DefRec} {K : Params → PySem.W.Frag} {x : Str}
    (hn : l.most = some 63) (hdf : d.params.defaults = []) (room : Room k callerA) (hY : ∀ (w : World) (h : Heap), YP w h → (K w.params).In h)
    (F : ∀ (w : World) (mg : Str → Option Value) (fa : Addr) (h : Heap), TabsTold q (K w.params) h → (K w.params).In h → h.Ns mainGlobals mg → mg d.name = some (.ref fa) →
      ∃ (W : WellKind) (fd : FuncData) (cs : List (Addr × Addr)), (∀ cp ∈ cs, Tab0 (K w.params) h cp) ∧ (∀ pq ∈ W.T, ∃ c, (c, pq.1) ∈ cs) ∧ (∀ (s : Shared) (u : Value), BindsTo s fd ⟨[u], []⟩ [(x, u)]) ∧
        ∀ base : Heap, (∀ cp ∈ cs, LamX.TabB base mg cp.1 cp.2) → @GOk true l.prog w (K w.params) mg base k fa fd [x] (@spLaw W (K w.params))) :
    PySem.W.WalkO q loose XP YP l.row.toRowW d [] (fun f vs => PySem.call f vs) := by
  refine Att.attach_call hn hdf fun w s₀ s₁ mg mb fa o pm cd doc a vs ns G Y ho hd hcd hmg hobj hints hlen hg => ?_
  obtain ⟨W, fd, cs, ht, hT, hb, hF⟩ := F w mg fa _ (fun x d c P h1 h2 => PySem.W.tab_of G.T (hY w _ Y) h1 h2) (hY w _ Y) G.T.g hmg
  exact @law_end W _ _ _ _ _ _ _ _ _ _ _ _ _ _ (hY w _ Y) G.T.g G.T.b G.T.builtins G.T.nolimit hg hobj hints hlen room ht G.T.bmain hT hF hb
end Q

set_option Elab.async false
set_option linter.all false
set_option maxRecDepth 100000
namespace Q
open PySem PySem.Spec PyProof.Rows L2
variable [WellKind]
section
variable {X : Cx} {E : XK} {e a b c : Expr} {me ma mb : Env → M D} {pos : Pos}
/-! ### two and three names at once -/
theorem qs_par2 (i j : Nat) {x y : Str} {ms : Env → M (List D)} {px py pt : Pos} {kt k2 pt2} (hc : X.calm = true) (hN : X.N.Nodup) (ha : QI X E [a, b] ms) (hi : X.N[i]? = some x := by rfl) (hj : X.N[j]? = some y := by rfl) (hij : i ≠ j := by decide)
    (hx : X.env.scope.names.lookup x = some .local := by rfl) (hy : X.env.scope.names.lookup y = some .local := by rfl)
    (hw : swappedStores [.Tuple [.Name x px, .Name y py] kt pt] (.Tuple [a, b] k2 pt2) X.env = pure (some [x, y]) := by rfl)
    (hs : swapsWithSole [.Tuple [.Name x px, .Name y py] kt pt] (.Tuple [a, b] k2 pt2) pos.line X.env = pure false := by rfl) :
    QS X E (.Assign [.Tuple [.Name x px, .Name y py] kt pt] (.Tuple [a, b] k2 pt2) pos) (sPar i j ms) :=
  qs_par i j hc hN ha hi hj hij hx hy fun ta h => ps_par hc hN hi hj hij hx hy h hw hs
def sPar3 (i j k : Nat) (ms : Env → M (List D)) (δ : Env) : M Flow := (ms δ).bind fun ds => match ds with
  | [d1, d2, d3] => .ret (.next (((δ.set i (.dat d1)).set j (.dat d2)).set k (.dat d3)))
  | _ => .fail
theorem qs_par3 (i j l : Nat) {x y z : Str} {ms : Env → M (List D)} {px py pz pt : Pos} {kt k2 pt2} (hc : X.calm = true) (hN : X.N.Nodup) (ha : QI X E [a, b, c] ms) (hi : X.N[i]? = some x := by rfl) (hj : X.N[j]? = some y := by rfl) (hl : X.N[l]? = some z := by rfl)
    (hij : i ≠ j := by decide) (hil : i ≠ l := by decide) (hjl : j ≠ l := by decide)
    (hx : X.env.scope.names.lookup x = some .local := by rfl) (hy : X.env.scope.names.lookup y = some .local := by rfl) (hz : X.env.scope.names.lookup z = some .local := by rfl)
    (hw : swappedStores [.Tuple [.Name x px, .Name y py, .Name z pz] kt pt] (.Tuple [a, b, c] k2 pt2) X.env = pure (some [x, y, z]) := by rfl)
    (hs : swapsWithSole [.Tuple [.Name x px, .Name y py, .Name z pz] kt pt] (.Tuple [a, b, c] k2 pt2) pos.line X.env = pure false := by rfl) :
    QS X E (.Assign [.Tuple [.Name x px, .Name y py, .Name z pz] kt pt] (.Tuple [a, b, c] k2 pt2) pos) (sPar3 i j l ms) := by
  obtain ⟨t, a1, b1⟩ := ha
  refine ⟨_, ps_par3 hc hN hi hj hl hij hil hjl hx hy hz a1 hw hs, fun fr w σ H δ Dn r q => b1 w σ H δ _ r.rd (wp_in r (wp_bind.mp q) fun ds q1 vs H' g n => ?_)⟩
  split at q1
  · cases n with
    | cons n1 n => cases n with
      | cons n2 n => cases n with
        | cons n3 n => cases n with
          | nil => exact ⟨_, _, _, rfl, q1 w _ H' ((((r.step g).setD n1).setD n2).setD n3)⟩
  · exact q1.elim
/-! ### signs, membership -/
def eNeg (ma : Env → M D) (δ : Env) : M D := (ma δ).bind fun d => match d with
  | .int i => .ret (.int (-i))
  | _ => .fail
theorem qe_neg (h : QE X E a ma) : QE X E (.UnaryOp .USub a pos) (eNeg ma) := by
  obtain ⟨t, a1, a2⟩ := h
  refine ⟨_, pe_un un_neg a1, fun w σ H δ Q r q => a2 w σ H δ _ r (wp_then (wp_bind.mp q) fun d q1 v H1 g1 n => ?_)⟩
  split at q1
  · cases n; exact ⟨_, rfl, q1 _ H1 g1 (.int _)⟩
  · exact q1.elim
def flatD : D → Bool
  | .none => true
  | .bool _ => true
  | .int _ => true
  | .str _ => true
  | _ => false
def inD (x : D) (ds : List D) : Bool := ds.any fun y => PyData.eqv y x
def dIn : D → D → M D
  | x, .list ds => if (flatD x && ds.all flatD) = true then .ret (.bool (inD x ds)) else .fail
  | x, .tuple ds => if (flatD x && ds.all flatD) = true then .ret (.bool (inD x ds)) else .fail
  | .str x, .str y => .ret (.bool (!(Builtin.Str.occurrences y x 0 y.length 1).isEmpty))
  | _, _ => .fail
def dNotIn : D → D → M D
  | x, .list ds => if (flatD x && ds.all flatD) = true then .ret (.bool (!inD x ds)) else .fail
  | x, .tuple ds => if (flatD x && ds.all flatD) = true then .ret (.bool (!inD x ds)) else .fail
  | .str x, .str y => .ret (.bool (!(!(Builtin.Str.occurrences y x 0 y.length 1).isEmpty)))
  | _, _ => .fail
theorem flat_den {K : PySem.W.Frag} {w : Option WA} {H : Hp} {v : V} {d : D} (n : BDen K w H v d) (f : flatD d = true) : flatV v = true := by
  cases n with
  | own h a _ => cases f
  | den h => cases h <;> first | rfl | cases f
theorem eq_den {K : PySem.W.Frag} {w : Option WA} {H : Hp} {v u : V} {d e : D} (n : BDen K w H v d) (m : BDen K w H u e) (f : flatD d = true) (g : flatD e = true) : eqV v u = PyData.eqv d e := by
  cases n with
  | own h a _ => cases f
  | den h =>
    cases m with
    | own h a _ => cases g
    | den k => cases h <;> first | (cases f; done) | (cases k <;> first | (cases g; done) | rfl | simp [eqV, PyData.eqv])
theorem inV_den {K : PySem.W.Frag} {w : Option WA} {H : Hp} {u : V} {e : D} (m : BDen K w H u e) (g : flatD e = true) : ∀ {vs : List V} {ds : List D}, DenAll K H vs ds → ds.all flatD = true → vs.all flatV = true ∧ inV u vs = inD e ds
  | _, _, .nil, _ => ⟨rfl, rfl⟩
  | _, _, .cons n r, f => by
    simp only [List.all_cons, Bool.and_eq_true] at f
    have ih := inV_den m g r f.2
    refine ⟨by simp only [List.all_cons, Bool.and_eq_true]; exact ⟨flat_den (w := w) (.den n) f.1, ih.1⟩, ?_⟩
    unfold inV inD at ih ⊢
    rw [List.any_cons, List.any_cons, ih.2, eq_den (.den n) m f.1 g]
theorem qo_in : QOp X E (compareOp .In) dIn := by
  refine ⟨_, OpR.or op_in_seq op_in_str, fun w H x y dx dy Q hw n1 n2 q => ?_⟩
  unfold dIn at q
  split at q
  · obtain ⟨hz, q⟩ := ite_wp q
    simp only [Bool.and_eq_true] at hz
    obtain ⟨p, vs, rfl, h1, h2⟩ := n2.list
    obtain ⟨z1, z2⟩ := inV_den n1 hz.1 h2 hz.2
    exact .inl ⟨p, vs, rfl, .inl (.inl h1), flat_den n1 hz.1, z1, by simp only [z2]; exact q _ H (.refl hw) (.bl _)⟩
  · obtain ⟨hz, q⟩ := ite_wp q
    simp only [Bool.and_eq_true] at hz
    obtain ⟨p, vs, rfl, h1, h2⟩ := n2.tuple
    obtain ⟨z1, z2⟩ := inV_den n1 hz.1 h2 hz.2
    exact .inl ⟨p, vs, rfl, .inr h1, flat_den n1 hz.1, z1, by simp only [z2]; exact q _ H (.refl hw) (.bl _)⟩
  · exact .inr ⟨_, _, n1.str, n2.str, q _ H (.refl hw) (.bl _)⟩
  · exact q.elim
theorem qo_notin : QOp X E (compareOp .NotIn) dNotIn := by
  refine ⟨_, OpR.or op_notIn_seq op_notIn_str, fun w H x y dx dy Q hw n1 n2 q => ?_⟩
  unfold dNotIn at q
  split at q
  · obtain ⟨hz, q⟩ := ite_wp q
    simp only [Bool.and_eq_true] at hz
    obtain ⟨p, vs, rfl, h1, h2⟩ := n2.list
    obtain ⟨z1, z2⟩ := inV_den n1 hz.1 h2 hz.2
    exact .inl ⟨p, vs, rfl, .inl (.inl h1), flat_den n1 hz.1, z1, by simp only [z2]; exact q _ H (.refl hw) (.bl _)⟩
  · obtain ⟨hz, q⟩ := ite_wp q
    simp only [Bool.and_eq_true] at hz
    obtain ⟨p, vs, rfl, h1, h2⟩ := n2.tuple
    obtain ⟨z1, z2⟩ := inV_den n1 hz.1 h2 hz.2
    exact .inl ⟨p, vs, rfl, .inr h1, flat_den n1 hz.1, z1, by simp only [z2]; exact q _ H (.refl hw) (.bl _)⟩
  · exact .inr ⟨_, _, n1.str, n2.str, q _ H (.refl hw) (.bl _)⟩
  · exact q.elim
end
/-! ### keywords -/
theorem fun_kb {K : PySem.W.Frag} {x qual : Str} {st : Stmt} {f : Addr} {fd : FuncData} {ps ks : List Str} {is : List Nat} (F : Fun K x qual st f fd)
    (h : ∀ (kV doc pm : Value) (an : Option Addr) (cdv ct : Value) (ws : List Value), ws.length = ps.length → bindArgs (PySem.W.fnOf x qual (defArgs st) (defBody st) (defScope st) .none kV doc pm an cdv ct) ⟨[], ks.zip ws⟩ = pure (ps.zip (permL is ws))) :
    ∀ (s : Shared) (ws : List Value), ws.length = ps.length → BindsTo s fd ⟨[], ks.zip ws⟩ (ps.zip (permL is ws)) := by
  obtain ⟨oc, od, kV, doc, pm, an, cdv, ct, osl, rfl, lk, hcd⟩ := F.ex
  exact fun s ws hl => .of_eq (h kV doc pm an cdv ct ws hl)
/-! ### draws -/
def drawM : List Slot → M D
  | [.well, .dat (.int n)] => .draw n fun r => .ret (.int r)
  | _ => .fail
theorem spM_draw {K : PySem.W.Frag} {mg : Str → Option Value} {vs : List V} {H : Hp} {Q : VK} {E : XK} (h : spM K mg 2 drawM vs H Q E) :
    ∃ x n, vs = [.ref x.a, .int n] ∧ WellOk H x ∧ (0 < n ∧ n < 1073741824) ∧ ∀ r H', 0 ≤ r → r < n → Grow (some x) H H' → Q (.int r) H' := by
  obtain ⟨w, ss, _, h2, h3, _, h4⟩ := h
  unfold drawM at h4
  split at h4
  · cases h2 with
    | well e r =>
      cases r with
      | dat n r =>
        cases r
        cases n
        subst e
        exact ⟨_, _, rfl, h3 _ rfl, h4.1, fun r H' r0 r1 g => h4.2 r r0 r1 _ H' g (.int r)⟩
  · exact h4.elim
/-! ### the names of built-ins -/
theorem bt_len : bootBuiltins "len" = some (.builtin "len") := by first | exact PySem.boot_len | exact PyProof.Rows.boot_len | decide +kernel
theorem bt_abs : bootBuiltins "abs" = some (.builtin "abs") := by first | exact PySem.boot_abs | exact PyProof.Rows.boot_abs | decide +kernel
theorem bt_max : bootBuiltins "max" = some (.builtin "max") := by first | exact PySem.boot_max | exact PyProof.Rows.boot_max | decide +kernel
theorem bt_min : bootBuiltins "min" = some (.builtin "min") := by first | exact PySem.boot_min | exact PyProof.Rows.boot_min | decide +kernel
theorem bt_sum : bootBuiltins "sum" = some (.builtin "sum") := by first | exact PySem.boot_sum | exact PyProof.Rows.boot_sum | decide +kernel
theorem bt_repr : bootBuiltins "repr" = some (.builtin "repr") := by first | exact PySem.boot_repr | exact PyProof.Rows.boot_repr | decide +kernel
theorem bt_isinstance : bootBuiltins "isinstance" = some (.builtin "isinstance") := by first | exact PySem.boot_isinstance | exact PyProof.Rows.boot_isinstance | decide +kernel
theorem bt_sorted : bootBuiltins "sorted" = some (.builtin "sorted") := by first | exact PySem.boot_sorted | exact PyProof.Rows.boot_sorted | decide +kernel
theorem bt_any : bootBuiltins "any" = some (.builtin "any") := by first | exact PySem.boot_any | exact PyProof.Rows.boot_any | decide +kernel
theorem bt_all : bootBuiltins "all" = some (.builtin "all") := by first | exact PySem.boot_all | exact PyProof.Rows.boot_all | decide +kernel
theorem bt_divmod : bootBuiltins "divmod" = some (.builtin "divmod") := by first | exact PySem.boot_divmod | exact PyProof.Rows.boot_divmod | decide +kernel
theorem bt_int : bootBuiltins "int" = some (.type "int") := by first | exact PySem.boot_int | exact PyProof.Rows.boot_int | decide +kernel
theorem bt_str : bootBuiltins "str" = some (.type "str") := by first | exact PySem.boot_str | exact PyProof.Rows.boot_str | decide +kernel
theorem bt_tuple : bootBuiltins "tuple" = some (.type "tuple") := by first | exact PySem.boot_tuple | exact PyProof.Rows.boot_tuple | decide +kernel
theorem bt_list : bootBuiltins "list" = some (.type "list") := by first | exact PySem.boot_list | exact PyProof.Rows.boot_list | decide +kernel
theorem bt_bool : bootBuiltins "bool" = some (.type "bool") := by first | exact PySem.boot_bool | exact PyProof.Rows.boot_bool | decide +kernel
theorem bt_dict : bootBuiltins "dict" = some (.type "dict") := by first | exact PySem.boot_dict | exact PyProof.Rows.boot_dict | decide +kernel
theorem bt_range : bootBuiltins "range" = some (.type "range") := by first | exact PySem.boot_range | exact PyProof.Rows.boot_range | decide +kernel
theorem bt_enumerate : bootBuiltins "enumerate" = some (.type "enumerate") := by first | exact PySem.boot_enumerate | exact PyProof.Rows.boot_enumerate | decide +kernel
theorem bt_zip : bootBuiltins "zip" = some (.type "zip") := by first | exact PySem.boot_zip | exact PyProof.Rows.boot_zip | decide +kernel
theorem bt_set : bootBuiltins "set" = some (.type "set") := by first | exact PySem.boot_set | exact PyProof.Rows.boot_set | decide +kernel
end Q

set_option Elab.async false
set_option linter.all false
set_option maxRecDepth 100000
namespace Q
open PySem PySem.Spec PyProof.Rows L2
variable [WellKind]
/-! ### more new lists -/
section
variable {K : PySem.W.Frag} {w : Option WA} {H H1 : Hp} {p : Addr} {vs : List V} {ds : List D}
theorem none_back (g1 : Grow w H H1) (e : H1 p = none) : Nn H p := g1.nnOf e fun x hx => ⟨((g1.well x hx).none_ne e).1, ((g1.well x hx).none_ne e).2.1⟩
theorem lst_new {Q : VK} (g1 : Grow w H H1) (e : H1 p = none) (n1 : DenAll K H1 vs ds)
    (k : ∀ p vs H', Grow w H H' → Nn H p → H' p = some (.lst vs) → (∀ x, w = some x → p ≠ x.a ∧ p ≠ x.g ∧ p ≠ x.c) → DenAll K H' vs ds → Q (.ref p) H') : Q (.ref p) (upd H1 p (.lst vs)) := by
  have g := Grow.new (o := .lst vs) g1.well e
  exact k p vs _ (g1.trans g) (none_back g1 e) upd_same (fun x hx => (g1.well x hx).none_ne e) (n1.grow g)
theorem denAll_ofInts : ∀ ns : List Int, DenAll K H (ns.map V.int) (ns.map PyData.int)
  | [] => .nil
  | n :: ns => .cons (.int n) (denAll_ofInts ns)
theorem denAll_rg (a b : Int) : DenAll K H (rgV a b) (rng a (b - a).toNat) := by
  have := denAll_ofInts (K := K) (H := H) ((List.range (b - a).toNat).map fun (i : Nat) => a + (i : Int))
  rw [List.map_map, List.map_map] at this
  exact this
end
def rgL : D → D → M (List D)
  | .int a, .int b => if (-(2 ^ 62) ≤ a ∧ a < 2 ^ 62 ∧ -(2 ^ 62) ≤ b ∧ b < 2 ^ 62) ∧ (b - a).toNat ≤ 16777216 then .ret (rng a (b - a).toNat) else .fail
  | _, _ => .fail
def fRg1 (ma : Env → M D) (δ : Env) : M (List D) := (ma δ).bind fun b => rgL (.int 0) b
def fRg2 (ma mb : Env → M D) (δ : Env) : M (List D) := (ma δ).bind fun a => (mb δ).bind fun b => rgL a b
def catL : D → D → M (List D)
  | .list a, .list b => mkL (a ++ b)
  | _, _ => .fail
def fCat (ma mb : Env → M D) (δ : Env) : M (List D) := (ma δ).bind fun a => (mb δ).bind fun b => catL a b
def listOf : List D → M (List D)
  | [.list ds] => .ret ds
  | [.tuple ds] => .ret ds
  | _ => .fail
def fList (ms : Env → M (List D)) (δ : Env) : M (List D) := (ms δ).bind listOf
section
variable {X : Cx} {E : XK} {a b : Expr} {ma mb : Env → M D} {pos p p1 pos1 : Pos}
theorem qf_rg1 (hc : X.calm = true) (hm : X.mg "list" = none) (hm2 : X.mg "range" = none) (h : QE X E a ma) (hg : Gl X "list" := by rfl) (hg2 : Gl X "range" := by rfl)
    (na : starEach [.Call (.Name "range" p1) [a] [] pos1] X.env = (false, eval (.Call (.Name "range" p1) [a] [] pos1) X.env) :: starEach [] X.env := by rfl) (nb : starEach [a] X.env = (false, eval a X.env) :: starEach [] X.env := by rfl) :
    QF X E (.Call (.Name "list" p) [.Call (.Name "range" p1) [a] [] pos1] [] pos) (fRg1 ma) := by
  obtain ⟨ta, a1, a2⟩ := h
  refine ⟨_, pe_listRg hc hg hm (prg_1 hg2 hm2 a1 nb) na, fun w σ H δ Q rl q => a2 w σ H δ _ rl (wp_then (wp_bind.mp q) fun x q1 v1 H1 g1 n1 => ?_)⟩
  cases x <;> first | exact q1.elim | skip
  cases n1
  rename_i n
  obtain ⟨hz, q1⟩ := ite_wp q1
  exact ⟨n, rfl, ⟨hz.1.1, hz.1.2.1, hz.1.2.2.1, hz.1.2.2.2, hz.2⟩, fun p e => lst_new g1 e (denAll_rg 0 n) q1⟩
theorem qf_rg2 (hc : X.calm = true) (hm : X.mg "list" = none) (hm2 : X.mg "range" = none) (h : QE X E a ma) (h2 : QE X E b mb) (hg : Gl X "list" := by rfl) (hg2 : Gl X "range" := by rfl)
    (na : starEach [.Call (.Name "range" p1) [a, b] [] pos1] X.env = (false, eval (.Call (.Name "range" p1) [a, b] [] pos1) X.env) :: starEach [] X.env := by rfl) (nb : starEach [a, b] X.env = (false, eval a X.env) :: starEach [b] X.env := by rfl)
    (nc : starEach [b] X.env = (false, eval b X.env) :: starEach [] X.env := by rfl) (hp : (backTo pos1 (starEach [b] X.env)).any (·.1) = false := by rfl) :
    QF X E (.Call (.Name "list" p) [.Call (.Name "range" p1) [a, b] [] pos1] [] pos) (fRg2 ma mb) := by
  obtain ⟨ta, a1, a2⟩ := h
  obtain ⟨tb, b1, b2⟩ := h2
  refine ⟨_, pe_listRg hc hg hm (prg_2 hg2 hm2 a1 b1 nb nc hp) na, fun w σ H δ Q rl q => a2 w σ H δ _ rl (wp_then (wp_bind.mp q) fun x q1 v1 H1 g1 n1 => ?_)⟩
  refine b2 w σ H1 δ _ (rl.grow g1) (wp_mono (wp_bind.mp q1) (fun y q2 v2 H2 g2 n2 => ?_) fun _ z => z.grow g1)
  cases x <;> first | exact q2.elim | skip
  cases y <;> first | exact q2.elim | skip
  cases n1
  cases n2
  rename_i n m
  obtain ⟨hz, q2⟩ := ite_wp q2
  exact ⟨n, m, rfl, rfl, ⟨hz.1.1, hz.1.2.1, hz.1.2.2.1, hz.1.2.2.2, hz.2⟩, fun p e => lst_new (g1.trans g2) e (denAll_rg n m) q2⟩
theorem qf_cat (ha : QB X E a ma) (hb : QB X E b mb) : QF X E (.BinOp a .Add b pos) (fCat ma mb) := by
  obtain ⟨ta, a1, a2⟩ := ha
  obtain ⟨tb, b1, b2⟩ := hb
  refine ⟨_, pe_op op_catQ a1 b1, fun w σ H δ Q rl q => a2 w σ H δ _ rl (wp_then (wp_bind.mp q) fun x q1 v1 H1 g1 n1 => ?_)⟩
  refine b2 w σ H1 δ _ (rl.grow g1) (wp_mono (wp_bind.mp q1) (fun y q2 v2 H2 g2 n2 => ?_) fun _ z => z.grow g1)
  cases x <;> first | exact q2.elim | skip
  cases y <;> first | exact q2.elim | skip
  rename_i xs ys
  obtain ⟨hz, q2⟩ := ite_wp q2
  obtain ⟨l1, vs1, rfl, r1, d1⟩ := (n1.grow g2).list
  obtain ⟨l2, vs2, rfl, r2, d2⟩ := n2.list
  exact ⟨l1, l2, vs1, vs2, rfl, rfl, r1, r2, by rw [d1.length, d2.length, ← List.length_append]; exact hz, fun p e => lst_new (g1.trans g2) e (d1.append d2) q2⟩
theorem qf_listOf {ms : Env → M (List D)} (hm : X.mg "list" = none) (h : QA X E [a] ms) (hg : Gl X "list" := by rfl)
    (he : starEach [a] X.env = (false, eval a X.env) :: starEach [] X.env := by rfl) (hpl : (backTo pos (starEach [] X.env)).any (·.1) = false := by rfl) : QF X E (.Call (.Name "list" p) [a] [] pos) (fList ms) := by
  obtain ⟨t, a1, a2⟩ := h
  refine ⟨_, pe_callTy call_list_of hg hm bt_list a1 (by decide) (by decide) he hpl, fun w σ H δ Q rl q => a2 w σ H δ _ rl (wp_then (wp_bind.mp q) fun ds q1 vs H1 g1 n1 => ?_)⟩
  unfold listOf at q1
  split at q1
  · obtain ⟨v, rfl, nn⟩ := bd1 n1
    obtain ⟨l, xs, rfl, h1, h2⟩ := nn.list
    exact ⟨l, xs, rfl, .inl (.inl h1), fun p e => lst_new g1 e h2 q1⟩
  · obtain ⟨v, rfl, nn⟩ := bd1 n1
    obtain ⟨l, xs, rfl, h1, h2⟩ := nn.tuple
    exact ⟨l, xs, rfl, .inr h1, fun p e => lst_new g1 e h2 q1⟩
  · exact q1.elim
end
end Q

set_option Elab.async false
set_option linter.all false
set_option maxRecDepth 100000
/-! what is walked, of any kind; enumerate; divmod; isinstance -/
namespace Q
open PySem PySem.Spec PyProof.Rows L2
variable [WellKind]
/-! ### enumerate(v) begins -/
set_option maxHeartbeats 1000000 in
theorem enum_new1 {v : Value} {o : Obj} {H : Heap → Prop} (B : Begins v o H) :
    Meets (Builtin.«enumerate.__new__» ⟨[.type "enumerate", v], []⟩) (fun _ R s => H s.heap ∧
      R (.ok (.ret (.ref (s.heap.push o).objs.size))) { s with heap := (s.heap.push o).push { cls := .type "enumerate", data := .fields #[.none, .bool false, .ref s.heap.objs.size, rawInt 0, .none, .none] } }) :=
  .of_wp fun prog w A R s h => by
    obtain ⟨hp, g, d, tk, os⟩ := s; obtain ⟨h1, h⟩ := h
    have hsub := sub_enumerate
    have q1 : ∀ {A' : Around} {E : Value → Shared → Prop} {Q : Value → Shared → Prop}, Q (.ref hp.objs.size) ⟨hp.push o, g, d, tk, os⟩ → wpAny (model prog w) A' (pyIter v) Q E ⟨hp, g, d, tk, os⟩ :=
      fun q => B.iter prog w _ _ ⟨hp, g, d, tk, os⟩ _ h1 q
    wp_walk using q1
    refine wpAny_stack_any fun st => wpAny_pure ?_
    split
    · rename_i c _ _ _ _ _
      cases (c == Value.type "enumerate")
      · wp_walk using q1
        exact ⟨_, rfl, h⟩
      · wp_walk using q1
        exact ⟨_, rfl, h⟩
    · wp_walk using q1
      exact ⟨_, rfl, h⟩
theorem enum_begin1 {prog : Program} {w : World} {A : Around} {E : Value → Shared → Prop} {s : Shared} {v : Value} {o : Obj} {H : Heap → Prop} {Q : Value → Shared → Prop} (B : Begins v o H) (h1 : H s.heap)
    (h : ∀ h', IsEnum h' (s.heap.objs.size + 1) s.heap.objs.size 0 .none → h'.get? s.heap.objs.size = some o →
      (∀ b o, s.heap.get? b = some o → h'.get? b = some o) → Q (.ref (s.heap.objs.size + 1)) { s with heap := h' }) :
    wpAny (model prog w) A (call (.type "enumerate") [v]) Q E s := by
  refine callType_new F.called_enumerate (by decide) (F.typeCall_enumerate_1 _) (F.newCall_enumerate_1 _) (fun obj => F.args_object_init_2 obj _) F.entry_enumerate_new
    (enum_new1 B) ⟨h1, ?_⟩
  have hz : (s.heap.push o).objs.size = s.heap.objs.size + 1 := Heap.size_push ..
  show _ ∧ _
  rw [hz]
  have he : IsEnum ((s.heap.push o).push { cls := .type "enumerate", data := .fields #[.none, .bool false, .ref s.heap.objs.size, rawInt 0, .none, .none] }) (s.heap.objs.size + 1) s.heap.objs.size 0 .none := by
    have := Heap.get?_push_size (s.heap.push o) (o := { cls := .type "enumerate", data := .fields #[.none, .bool false, .ref s.heap.objs.size, rawInt 0, .none, .none] }) rfl
    rw [hz] at this; exact this
  refine ⟨⟨_, he, rfl⟩, h _ he (Heap.get?_push_of_some _ (Heap.get?_push_size _ B.free)) fun b o x => Heap.get?_push_of_some _ (Heap.get?_push_of_some _ x)⟩
/-! ### the turns -/
def ItES (x : Str) : It := ⟨fun i _ => i < x.cps.size, fun i H v H' => ∃ T c, v = .ref T ∧ H T = none ∧ H' = upd H T (.tup [.int (i : Nat), .str ⟨#[c]⟩]) ∧ x.cps[i]? = some c, fun i _ => x.cps.size ≤ i⟩
theorem turn_enumS {P : Program} {w : World} {K : PySem.W.Frag} {elts : List Expr} {kk : Nat} {tpos : Pos} (x : Str) (t : Tok) (e it : Addr) :
    Turn P w K (.Tuple elts kk tpos) (ItES x) [e, it] e (fun i h => (∃ old, IsEnum h e it ((i : Nat) : Int) old) ∧ h.IsStrIter it (strIterType x) x t i ∧ e ≠ it ∧ i ≤ x.cps.size) where
  mem := by simp
  obj := fun i h st b hb => by
    obtain ⟨⟨old, he⟩, ⟨o, ho, hc, hd⟩, _⟩ := st
    have e' : b = e ∨ b = it := by simpa using hb
    rcases e' with z | z
    · rw [z]; exact ⟨_, he, fun v q => nomatch q⟩
    · rw [z]; exact ⟨o, ho, fun v q => by rw [hd] at q; cases q⟩
  keep := fun i h h' st k => let ⟨⟨old, he⟩, ⟨o, ho, r⟩, hne⟩ := st; ⟨⟨old, k e (by simp) _ he⟩, ⟨o, k it (by simp) o ho, r⟩, hne⟩
  item := by
    intro X hP hw hK hc i pins s σ H E I hf st hg
    subst hP hw hK
    obtain ⟨⟨old, he⟩, hit, hne, hle⟩ := st
    have hel : e < s.heap.objs.size := Heap.lt_size he
    have hil : it < s.heap.objs.size := by obtain ⟨_, q, _⟩ := hit; exact Heap.lt_size q
    have D : Draws X.prog X.w X.A.in1 it [it] x.cps.size (fun i v => ∃ c u, x.cps[i]? = some c ∧ v = .str ⟨#[c]⟩ u) (fun i h => h.IsStrIter it (strIterType x) x t i) := Draws.text (A := X.A.in1) (I.ok.hd hc) it x t
    refine wpAny_pyNext_enum_itemD D he hit hg hne (by simpa using hne) fun u h' tk hP ho hit' hT hsz hk => ?_
    obtain ⟨c, tu, hcx, rfl⟩ := hP
    refine ⟨_, rfl, wpAny_letOwnedTupleGo_enum (s := { s with heap := h', toks := tk + 1 }) ho fun h'' he' sb => ?_⟩
    have hT2 : h''.get? s.heap.objs.size = some { cls := .type "tuple", data := .seq #[.int i tk, .str ⟨#[c]⟩ tu] } := (sb.2 _ (Nat.ne_of_gt hel)).trans hT
    have new : ObjOk X.prog X.w (upd H s.heap.objs.size (.tup [.int (i : Nat), .str ⟨#[c]⟩])) h'' s.heap.objs.size (.tup [.int (i : Nat), .str ⟨#[c]⟩]) :=
      ⟨by show 2 ≤ sizeLine; decide, [.int i tk, .str ⟨#[c]⟩ tu], .cons ⟨_, rfl⟩ (.cons ⟨_, rfl⟩ .nil), ⟨_, hT2, rfl, _, rfl⟩⟩
    have I1 : Inv X pins σ (upd H s.heap.objs.size (.tup [.int (i : Nat), .str ⟨#[c]⟩])) { s with heap := h'', toks := tk + 1 } :=
      I.turnedNew (ch := [e, it]) (fun b ob hb q => (sb.2 b (fun z => hb (by simp [z]))).trans (hk b ob (fun z => hb (by simp [z])) (fun z => hb (by simp [z])) q)) hf (Nat.le_refl _) new
    refine ⟨.ref s.heap.objs.size, _, I1, rfl, ⟨_, c, rfl, I.hok.fresh (Nat.le_refl _), rfl, hcx⟩, ⟨⟨.str ⟨#[c]⟩ tu, ?_⟩, ?_, hne, hg⟩, fun b hb => ?_⟩
    · have e1 : ((i + 1 : Nat) : Int) = (i : Int) + 1 := by omega
      rw [e1]; exact he'
    · obtain ⟨o, q, r⟩ := hit'
      exact ⟨o, (sb.2 it (Ne.symm hne)).trans q, r⟩
    · have hb' : b < s.heap.objs.size := by
        have e' : b = e ∨ b = it := by simpa using hb
        rcases e' with z | z
        · rw [z]; exact hel
        · rw [z]; exact hil
      rw [upd_ne (Nat.ne_of_lt hb')]
      exact (hf b hb).1
  done := by
    intro X hP hw hK hc i pins s σ H E I hf st hg
    subst hP hw hK
    obtain ⟨⟨old, he⟩, hit, hne, hle⟩ := st
    have ei : i = x.cps.size := Nat.le_antisymm hle hg
    subst ei
    obtain ⟨f0, f1, f2, f3, f4, f5⟩ := hf it (by simp)
    have D : Draws X.prog X.w X.A.in1 it [it] x.cps.size (fun i v => ∃ c u, x.cps[i]? = some c ∧ v = .str ⟨#[c]⟩ u) (fun i h => h.IsStrIter it (strIterType x) x t i) := Draws.text (A := X.A.in1) (I.ok.hd hc) it x t
    exact wpAny_pyNext_enum_endD D he hit fun h' eb => ⟨rfl, I.turned (t' := s.toks) (fun b o hb q => eb b o hb q) f0 f1 f3 f4 f5⟩
  self := fun A i s Q E st h => let ⟨⟨_, he⟩, _⟩ := st; wpAny_pyIter_enum he h
def ItET (K : PySem.W.Frag) (a : Addr) (xs : List V) : It :=
  ⟨fun i H => SqT K H a xs ∧ i < xs.length, fun i H v H' => ∃ T x, v = .ref T ∧ H T = none ∧ H' = upd H T (.tup [.int (i : Nat), x]) ∧ xs[i]? = some x, fun i H => SqT K H a xs ∧ xs.length ≤ i⟩
theorem turn_enumT {P : Program} {w : World} {K : PySem.W.Frag} {elts : List Expr} {kk : Nat} {tpos : Pos} (a : Addr) (xs : List V) (e it : Addr) :
    Turn P w K (.Tuple elts kk tpos) (ItET K a xs) [e, it] e (fun i h => (∃ old, IsEnum h e it ((i : Nat) : Int) old) ∧ h.IsTupleIter it a i ∧ e ≠ it ∧ i ≤ xs.length) where
  mem := by simp
  obj := fun i h st b hb => by
    obtain ⟨⟨old, he⟩, ⟨o, ho, hc, hd⟩, _⟩ := st
    have e' : b = e ∨ b = it := by simpa using hb
    rcases e' with z | z
    · rw [z]; exact ⟨_, he, fun v q => nomatch q⟩
    · rw [z]; exact ⟨o, ho, fun v q => by rw [hd] at q; cases q⟩
  keep := fun i h h' st k => let ⟨⟨old, he⟩, hi, hne⟩ := st; ⟨⟨old, k e (by simp) _ he⟩, hi.at fun o q => k it (by simp) o q, hne⟩
  item := by
    intro X hP hw hK hc i pins s σ H E I hf st hg
    subst hP hw hK
    obtain ⟨⟨old, he⟩, hit, hne, hle⟩ := st
    obtain ⟨hq, hlt⟩ := hg
    obtain ⟨its, rv, p, hz⟩ := I.tuple hq
    have hl := rv.length
    have hel : e < s.heap.objs.size := Heap.lt_size he
    have hil : it < s.heap.objs.size := by obtain ⟨_, q, _⟩ := hit; exact Heap.lt_size q
    have tab : ∀ b ∈ [e, it], a ≠ b := fun b hb z => by
      have e' : b = e ∨ b = it := by simpa using hb
      rcases e' with q | q
      · subst q; subst z; obtain ⟨o, ho, hcl, _⟩ := id p; rw [he] at ho; cases ho; simp at hcl
      · subst q; subst z; obtain ⟨o, ho, hcl, _⟩ := id p; obtain ⟨o2, ho2, hcl2, _⟩ := id hit; rw [ho] at ho2; cases ho2; rw [hcl] at hcl2; simp at hcl2
    have D : Draws X.prog X.w X.A.in1 it [it, a] its.toArray.size (fun i v => its.toArray[i]? = some v) (fun i h => h.IsTupleIter it a i ∧ h.IsTuple a its.toArray) := Draws.tuple (A := X.A.in1) (I.ok.hd hc) it a (tab it (by simp)) its.toArray
    refine wpAny_pyNext_enum_itemD D he ⟨hit, p⟩ (by simp; omega) hne (by simp; exact ⟨hne, fun z => tab e (by simp) z.symm⟩) fun u h' tk hP ho hit' hT hsz hk => ?_
    have hx : xs[i]? = some xs[i] := List.getElem?_eq_getElem hlt
    obtain ⟨u', hu, ru⟩ := rv.get hx
    have eu : u' = u := by
      have : its[i]? = some u := by simpa using hP
      rw [hu] at this; exact Option.some.inj this
    subst eu
    refine ⟨_, rfl, wpAny_letOwnedTupleGo_enum (s := { s with heap := h', toks := tk + 1 }) ho fun h'' he' sb => ?_⟩
    have hT2 : h''.get? s.heap.objs.size = some { cls := .type "tuple", data := .seq #[.int i tk, u'] } := (sb.2 _ (Nat.ne_of_gt hel)).trans hT
    have new : ObjOk X.prog X.w (upd H s.heap.objs.size (.tup [.int (i : Nat), xs[i]])) h'' s.heap.objs.size (.tup [.int (i : Nat), xs[i]]) :=
      ⟨by show 2 ≤ sizeLine; decide, [.int i tk, u'], .cons ⟨_, rfl⟩ (.cons ru .nil), ⟨_, hT2, rfl, _, rfl⟩⟩
    have I1 : Inv X pins σ (upd H s.heap.objs.size (.tup [.int (i : Nat), xs[i]])) { s with heap := h'', toks := tk + 1 } :=
      I.turnedNew (ch := [e, it]) (fun b ob hb q => (sb.2 b (fun z => hb (by simp [z]))).trans (hk b ob (fun z => hb (by simp [z])) (fun z => hb (by simp [z])) q)) hf (Nat.le_refl _) new
    refine ⟨.ref s.heap.objs.size, _, I1, rfl, ⟨_, xs[i], rfl, I.hok.fresh (Nat.le_refl _), rfl, hx⟩, ⟨⟨u', ?_⟩, hit'.1.at fun o q => (sb.2 it (Ne.symm hne)).trans q, hne, hlt⟩, fun b hb => ?_⟩
    · have e1 : ((i + 1 : Nat) : Int) = (i : Int) + 1 := by omega
      rw [e1]; exact he'
    · have hb' : b < s.heap.objs.size := by
        have e' : b = e ∨ b = it := by simpa using hb
        rcases e' with z | z
        · rw [z]; exact hel
        · rw [z]; exact hil
      rw [upd_ne (Nat.ne_of_lt hb')]
      exact (hf b hb).1
  done := by
    intro X hP hw hK hc i pins s σ H E I hf st hg
    subst hP hw hK
    obtain ⟨⟨old, he⟩, hit, hne, hle⟩ := st
    obtain ⟨hq, hx⟩ := hg
    have ei : i = xs.length := Nat.le_antisymm hle hx
    obtain ⟨its, rv, p, hz⟩ := I.tuple hq
    have hl := rv.length
    obtain ⟨f0, f1, f2, f3, f4, f5⟩ := hf it (by simp)
    have tab : a ≠ it := fun z => by
      subst z; obtain ⟨o, ho, hcl, _⟩ := id p; obtain ⟨o2, ho2, hcl2, _⟩ := id hit; rw [ho] at ho2; cases ho2; rw [hcl] at hcl2; simp at hcl2
    have D : Draws X.prog X.w X.A.in1 it [it, a] its.toArray.size (fun i v => its.toArray[i]? = some v) (fun i h => h.IsTupleIter it a i ∧ h.IsTuple a its.toArray) := Draws.tuple (A := X.A.in1) (I.ok.hd hc) it a tab its.toArray
    have e2 : its.toArray.size = i := by simp; omega
    exact wpAny_pyNext_enum_endD D he (by rw [e2]; exact ⟨hit, p⟩) fun h' eb => ⟨rfl, I.turned (t' := s.toks) (fun b o hb q => eb b o hb q) f0 f1 f3 f4 f5⟩
  self := fun A i s Q E st h => let ⟨⟨_, he⟩, _⟩ := st; wpAny_pyIter_enum he h
def iEnumA (K : PySem.W.Frag) (ta : TA) : TI := fun σ H R => ta σ H fun vs H1 => (∃ a xs, vs = [.ref a] ∧ SqL K H1 a xs ∧ R (Ite K a) H1) ∨ (∃ a xs, vs = [.ref a] ∧ SqT K H1 a xs ∧ R (ItET K a xs) H1) ∨ ∃ x, vs = [.str x] ∧ R (ItES x) H1
theorem pi_enumA {X : Cx} {e : Expr} {ta : TA} {p pos tpos : Pos} {elts : List Expr} {kk : Nat} (hg : Gl X "enumerate") (hm : X.mg "enumerate" = none) (ha : PA X [e] ta) (hs : starEach [e] X.env = [(false, eval e X.env)] := by rfl) :
    PI X (.Tuple elts kk tpos) (.Call (.Name "enumerate" p) [e] [] pos) (iEnumA X.K ta) := by
  refine ⟨fun pins s σ H R I h => ?_⟩
  refine Call_ (ld_blt I hg hm boot_enumerate (PyProof.Rows.callWith_type1 (thn (ha.run pos pins s σ H _ I h) fun us s1 ⟨vs, H1, I1, r1, q1⟩ => ?_) hs rfl))
  have fr : ∀ b ∈ [s1.heap.objs.size + 1, s1.heap.objs.size], FpOk X pins H1 b := fun b hb => by
    have e' : b = s1.heap.objs.size + 1 ∨ b = s1.heap.objs.size := by simpa using hb
    have hle : s1.heap.objs.size ≤ b := by
      rcases e' with z | z
      · rw [z]; exact Nat.le_add_right _ _
      · rw [z]; exact Nat.le_refl _
    exact I1.fpOk hle (I1.hok.fresh hle)
  rcases q1 with ⟨a, xs, ex, hq, q⟩ | ⟨a, xs, ex, hq, q⟩ | ⟨x, ex, q⟩
  · subst ex
    cases r1 with
    | cons r rr =>
      cases rr
      cases r
      obtain ⟨its, rv, p', hz⟩ := I1.list hq
      refine call_enumerate_list p'.isList fun h' he hit hsz hk => wpAny_pyIter_enum he ?_
      have I2 : Inv X pins σ H1 { s1 with heap := h' } := I1.kept (t' := s1.toks) hk
      exact ⟨s1.heap.objs.size + 1, [s1.heap.objs.size + 1, s1.heap.objs.size], _, _, H1, rfl, I2, turn_enum a (s1.heap.objs.size + 1) s1.heap.objs.size, ⟨⟨.none, he⟩, hit, Nat.succ_ne_self _⟩, fr, q⟩
  · subst ex
    cases r1 with
    | cons r rr =>
      cases rr
      cases r
      obtain ⟨its, rv, p', hz⟩ := I1.tuple hq
      refine enum_begin1 (begins_tuple a its.toArray) p' fun h' he hit hk => wpAny_pyIter_enum he ?_
      have I2 : Inv X pins σ H1 { s1 with heap := h' } := I1.kept (t' := s1.toks) hk
      exact ⟨s1.heap.objs.size + 1, [s1.heap.objs.size + 1, s1.heap.objs.size], _, _, H1, rfl, I2, turn_enumT a xs (s1.heap.objs.size + 1) s1.heap.objs.size, ⟨⟨.none, he⟩, ⟨_, hit, rfl, rfl⟩, Nat.succ_ne_self _, Nat.zero_le _⟩, fr, q⟩
  · subst ex
    cases r1 with
    | cons r rr =>
      cases rr
      obtain ⟨t, rfl⟩ := r
      refine enum_begin1 (begins_text x t) trivial fun h' he hit hk => wpAny_pyIter_enum he ?_
      have I2 : Inv X pins σ H1 { s1 with heap := h' } := I1.kept (t' := s1.toks) hk
      exact ⟨s1.heap.objs.size + 1, [s1.heap.objs.size + 1, s1.heap.objs.size], _, _, H1, rfl, I2, turn_enumS x t (s1.heap.objs.size + 1) s1.heap.objs.size, ⟨⟨.none, he⟩, ⟨_, hit, rfl, rfl⟩, Nat.succ_ne_self _, Nat.zero_le _⟩, fr, q⟩
/-! ### pairs that are walked -/
theorem tells_pair {K : PySem.W.Frag} {ps : List D} {J : It} {H1 : Hp} {G : Hp → Prop} {xs ys : Nat → Option V} (wk : Walk J ps.length G (YPair xs ys)) (h1 : G H1) (hG : ∀ Ha Hb, G Ha → Fz Ha Hb → G Hb)
    (hd : ∀ i Ha x y, i < ps.length → G Ha → xs i = some x → ys i = some y → ∃ d e, ps[i]? = some (.tuple [d, e]) ∧ Den K Ha x d ∧ Den K Ha y e) : Tells K ps J H1 := by
  refine ⟨G, YPair xs ys, wk, h1, hG, fun i Ha v Hb hi hGa hY w hw => ?_⟩
  obtain ⟨T, x, y, rfl, hT, rfl, ex, ey⟩ := hY
  obtain ⟨d, e, hp, d1, d2⟩ := hd i Ha x y hi hGa ex ey
  have gr : Grow w Ha (upd Ha T (.tup [x, y])) := Grow.new hw hT
  exact ⟨gr, _, hp, .tup (.inl (.inl upd_same)) (.cons (d1.grow gr) (.cons (d2.grow gr) .nil))⟩
def enumL (ds : List D) : List D := ds.zipIdx.map fun p => .tuple [.int (p.2 : Nat), p.1]
omit [WellKind] in
theorem enumL_len (ds : List D) : (enumL ds).length = ds.length := by unfold enumL; rw [List.length_map, List.length_zipIdx]
omit [WellKind] in
theorem enumL_get (ds : List D) (i : Nat) : (enumL ds)[i]? = ds[i]?.map fun d => .tuple [.int (i : Nat), d] := by
  unfold enumL
  rw [List.getElem?_map, List.getElem?_zipIdx]
  cases ds[i]? <;> simp
def enD : D → M (List D)
  | .list ds => .ret (enumL ds)
  | .tuple ds => .ret (enumL ds)
  | .str x => .ret (enumL (chars x))
  | _ => .fail
def iEn (me : Env → M D) (δ : Env) : M (List D) := (me δ).bind enD
theorem qi_enum {X : Cx} {E : XK} {a : Expr} {me : Env → M D} {pos p tpos : Pos} {elts : List Expr} {kk : Nat} (hm : X.mg "enumerate" = none) (h : QE X E a me) (hg : Gl X "enumerate" := by rfl) (hs : starEach [a] X.env = [(false, eval a X.env)] := by rfl) :
    QIt X E (.Tuple elts kk tpos) (.Call (.Name "enumerate" p) [a] [] pos) (iEn me) := by
  obtain ⟨t, h1, h2⟩ := h
  refine ⟨_, pi_enumA hg hm (pa_cons h1 pa_nil (by first | rfl | exact hs)) hs, fun w σ H δ R r q => h2 w σ H δ _ r (wp_then (wp_bind.mp q) fun d q1 v H' g n => ?_)⟩
  unfold enD at q1
  split at q1
  · rename_i ds
    cases n with
    | @lst a xs _ hl ha =>
      refine .inl ⟨a, xs, rfl, hl.sq, q1 _ H' g (tells_pair (G := fun H => FzL H a xs ∧ DenAll X.K H xs ds) (xs := fun i => some (.int (i : Nat))) (ys := fun i => xs[i]?) ?_ ⟨hl, ha⟩ (fun Ha Hb z f => ⟨z.1.fz f, z.2.fz f⟩) fun i Ha x y hi hG ex ey => ?_)⟩
      · rw [enumL_len, ← ha.length]; exact walk_enum.mono (fun H z => z.1.sq) fun i H x H' _ _ y => y
      · obtain ⟨d, e1, n1⟩ := hG.2.get ey
        cases ex
        exact ⟨_, d, by rw [enumL_get, e1]; rfl, .int _, n1⟩
  · rename_i ds
    cases n with
    | @tup a xs _ hl ha =>
      refine .inr (.inl ⟨a, xs, rfl, hl, q1 _ H' g (tells_pair (G := fun H => SqT X.K H a xs ∧ DenAll X.K H xs ds) (xs := fun i => some (.int (i : Nat))) (ys := fun i => xs[i]?) ?_ ⟨hl, ha⟩ (fun Ha Hb z f => ⟨sqT_fz z.1 f, z.2.fz f⟩) fun i Ha x y hi hG ex ey => ?_)⟩)
      · rw [enumL_len, ← ha.length]
        refine ⟨fun i _ hi q => ⟨q.1, hi⟩, fun _ q => ⟨q.1, Nat.le_refl _⟩, fun i H v H' _ q y => ?_⟩
        obtain ⟨T, x, h1, h2, h3, h4⟩ := y
        exact ⟨T, .int (i : Nat), x, h1, h2, h3, rfl, h4⟩
      · obtain ⟨d, e1, n1⟩ := hG.2.get ey
        cases ex
        exact ⟨_, d, by rw [enumL_get, e1]; rfl, .int _, n1⟩
  · rename_i x
    cases n
    refine .inr (.inr ⟨x, rfl, q1 _ H' g (tells_pair (G := fun _ => True) (xs := fun i => some (.int (i : Nat))) (ys := fun i => x.cps[i]?.map fun c => .str ⟨#[c]⟩) ?_ trivial (fun _ _ _ _ => trivial) fun i Ha x' y hi hG ex ey => ?_)⟩)
    · rw [enumL_len]
      unfold chars
      rw [List.length_map, Array.length_toList]
      refine ⟨fun i _ hi q => hi, fun _ q => Nat.le_refl _, fun i H v H' _ q y => ?_⟩
      obtain ⟨T, c, h1, h2, h3, h4⟩ := y
      exact ⟨T, .int (i : Nat), .str ⟨#[c]⟩, h1, h2, h3, rfl, by simp [h4]⟩
    · cases ex
      cases hc : x.cps[i]? with
      | none => simp [hc] at ey
      | some c =>
        rw [hc] at ey
        cases ey
        refine ⟨_, .str ⟨#[c]⟩, ?_, .int _, .str _⟩
        rw [enumL_get]
        unfold chars
        rw [List.getElem?_map, Array.getElem?_toList, hc]; rfl
  · exact q1.elim
/-! ### what is walked, of any kind -/
def iAnyT (K : PySem.W.Frag) (te : TE) : TI := fun σ H R => te σ H fun v H1 => (∃ a, v = .ref a ∧ (∃ xs, SqL K H1 a xs) ∧ R (Itl K a) H1) ∨ (∃ a, v = .ref a ∧ (∃ xs, SqT K H1 a xs) ∧ R (Itt K a) H1) ∨ ∃ x, v = .str x ∧ R (Its x) H1
theorem pi_any {X : Cx} {tg e : Expr} {te : TE} (he : PE X e te) : PI X tg e (iAnyT X.K te) := by
  refine ⟨fun pins s σ H R I h => ?_⟩
  refine thn (he.run pins s σ H _ I h) fun v s1 ⟨y, H1, I1, r1, q1⟩ => ?_
  rcases q1 with ⟨a, e, ⟨xs, hq⟩, q⟩ | ⟨a, e, ⟨xs, hq⟩, q⟩ | ⟨x, ex, q⟩
  · subst e
    cases r1
    obtain ⟨its, rv, p, hz⟩ := I1.list hq
    exact wpAny_pyIter_list p.isList (pi_one (tk := s1.toks) I1 _ (turn_list a _) ⟨_, Heap.get?_push_size _ rfl, rfl, rfl⟩ q)
  · subst e
    cases r1
    obtain ⟨its, rv, p, hz⟩ := I1.tuple hq
    exact wpAny_pyIter_tuple (show s1.heap.IsTuple a its.toArray from p) (pi_one (tk := s1.toks) I1 _ (turn_tuple a _) ⟨_, Heap.get?_push_size _ rfl, rfl, rfl⟩ q)
  · subst ex
    obtain ⟨t, rfl⟩ := r1
    cases ha : x.cps.all (· < 128)
    · exact wpAny_pyIter_wide ha (pi_one (tk := s1.toks) I1 _ (turn_str _ x t "str_iterator" (.inr rfl)) ⟨_, Heap.get?_push_size _ rfl, rfl, rfl⟩ q)
    · exact wpAny_pyIter_ascii ha (pi_one (tk := s1.toks) I1 _ (turn_str _ x t "str_ascii_iterator" (.inl rfl)) ⟨_, Heap.get?_push_size _ rfl, rfl, rfl⟩ q)
def asA : D → M (List D)
  | .list ds => .ret ds
  | .tuple ds => .ret ds
  | .str x => .ret (chars x)
  | _ => .fail
def iA (me : Env → M D) (δ : Env) : M (List D) := (me δ).bind asA
theorem tells_str {K : PySem.W.Frag} {H : Hp} (x : Str) : Tells K (chars x) (Its x) H := by
  refine ⟨fun _ => True, fun i H v H' => H' = H ∧ ∃ c, x.cps[i]? = some c ∧ v = .str ⟨#[c]⟩, ?_, trivial, fun _ _ _ _ => trivial, fun i Ha y Hb hi hG hY w hw => ?_⟩
  · have wk := walk_str (z := x)
    unfold chars
    rw [List.length_map, Array.length_toList]
    exact wk
  · obtain ⟨rfl, c, e, rfl⟩ := hY
    refine ⟨.refl hw, .str ⟨#[c]⟩, ?_, .str _⟩
    unfold chars
    rw [List.getElem?_map, Array.getElem?_toList, e]; rfl
theorem qi_any {X : Cx} {E : XK} {tg e : Expr} {me : Env → M D} (h : QE X E e me) : QIt X E tg e (iA me) := by
  obtain ⟨t, h1, h2⟩ := h
  refine ⟨_, pi_any h1, fun w σ H δ R r q => h2 w σ H δ _ r (wp_then (wp_bind.mp q) fun d q1 v H' g n => ?_)⟩
  unfold asA at q1
  split at q1
  · cases n with
    | lst hl ha => exact .inl ⟨_, rfl, ⟨_, hl.sq⟩, q1 _ H' g (tells_list hl ha)⟩
  · cases n with
    | tup hl ha => exact .inr (.inl ⟨_, rfl, ⟨_, hl⟩, q1 _ H' g (tells_tup hl ha)⟩)
  · cases n
    exact .inr (.inr ⟨_, rfl, q1 _ H' g (tells_str _)⟩)
  · exact q1.elim
/-! ### zip -/
def zipL (xs ys : List D) : List D := List.zipWith (fun a b => PyData.tuple [a, b]) xs ys
def zpD : List D → M (List D)
  | [.list xs, .list ys] => .ret (zipL xs ys)
  | [.tuple xs, .tuple ys] => .ret (zipL xs ys)
  | _ => .fail
def iZp (ms : Env → M (List D)) (δ : Env) : M (List D) := (ms δ).bind zpD
omit [WellKind] in
theorem zipL_len (xs ys : List D) : (zipL xs ys).length = min xs.length ys.length := by unfold zipL; rw [List.length_zipWith]
omit [WellKind] in
theorem zipL_get {xs ys : List D} {i : Nat} {d e : D} (h1 : xs[i]? = some d) (h2 : ys[i]? = some e) : (zipL xs ys)[i]? = some (.tuple [d, e]) := by
  unfold zipL
  rw [List.getElem?_zipWith, h1, h2]
theorem qi_zip {X : Cx} {E : XK} {a b : Expr} {ms : Env → M (List D)} {pos p tpos : Pos} {elts : List Expr} {kk : Nat} (hm : X.mg "zip" = none) (h : QI X E [a, b] ms) (hg : Gl X "zip" := by rfl)
    (hs : starEach [a, b] X.env = (false, eval a X.env) :: starEach [b] X.env := by rfl) (hpl : (backTo pos (starEach [b] X.env)).any (·.1) = false := by rfl) :
    QIt X E (.Tuple elts kk tpos) (.Call (.Name "zip" p) [a, b] [] pos) (iZp ms) := by
  obtain ⟨t, h1, h2⟩ := h
  refine ⟨_, RZ.pi_zipA hg hm h1 hs hpl, fun w σ H δ R r q => h2 w σ H δ _ r (wp_then (wp_bind.mp q) fun d q1 v H' g n => ?_)⟩
  unfold zpD at q1
  split at q1
  · rename_i ds es
    cases n with
    | cons n1 n2 =>
      cases n2 with
      | cons n2 n3 =>
        cases n3
        cases n1 with
        | @lst a xs _ hl ha =>
          cases n2 with
          | @lst b ys _ hl2 hb =>
            refine ⟨a, b, xs, ys, rfl, .inl ⟨hl.sq, hl2.sq, q1 _ H' g (tells_pair (G := fun H => (FzL H a xs ∧ DenAll X.K H xs ds) ∧ FzL H b ys ∧ DenAll X.K H ys es) (xs := fun i => xs[i]?) (ys := fun i => ys[i]?) ?_ ⟨⟨hl, ha⟩, hl2, hb⟩ (fun Ha Hb z f => ⟨⟨z.1.1.fz f, z.1.2.fz f⟩, z.2.1.fz f, z.2.2.fz f⟩) fun i Ha x y hi hG ex ey => ?_)⟩⟩
            · rw [zipL_len, ← ha.length, ← hb.length]; exact (walk_zip rfl).mono (fun H z => ⟨z.1.1.sq, z.2.1.sq⟩) fun i H x H' _ _ y => y
            · obtain ⟨d, e1, n1⟩ := hG.1.2.get ex
              obtain ⟨e, e2, n2⟩ := hG.2.2.get ey
              exact ⟨d, e, zipL_get e1 e2, n1, n2⟩
  · rename_i ds es
    cases n with
    | cons n1 n2 =>
      cases n2 with
      | cons n2 n3 =>
        cases n3
        cases n1 with
        | @tup a xs _ hl ha =>
          cases n2 with
          | @tup b ys _ hl2 hb =>
            refine ⟨a, b, xs, ys, rfl, .inr ⟨hl, hl2, q1 _ H' g (tells_pair (G := fun H => (SqT X.K H a xs ∧ DenAll X.K H xs ds) ∧ SqT X.K H b ys ∧ DenAll X.K H ys es) (xs := fun i => xs[i]?) (ys := fun i => ys[i]?) ?_ ⟨⟨hl, ha⟩, hl2, hb⟩ (fun Ha Hb z f => ⟨⟨sqT_fz z.1.1 f, z.1.2.fz f⟩, sqT_fz z.2.1 f, z.2.2.fz f⟩) fun i Ha x y hi hG ex ey => ?_)⟩⟩
            · rw [zipL_len, ← ha.length, ← hb.length]
              refine ⟨fun i _ hi q => ?_, fun _ q => ⟨xs, ys, q.1.1, q.2.1, by omega⟩, fun i H v H' _ q y => ?_⟩
              · have h1 : i < xs.length := by omega
                have h2 : i < ys.length := by omega
                exact ⟨xs, ys, xs[i], ys[i], q.1.1, q.2.1, List.getElem?_eq_getElem h1, List.getElem?_eq_getElem h2⟩
              · obtain ⟨T, x, y', h1, h2, h3, h4, h5⟩ := y
                exact ⟨T, x, y', h1, h2, h3, h4 _ q.1.1, h5 _ q.2.1⟩
            · obtain ⟨d, e1, n1⟩ := hG.1.2.get ex
              obtain ⟨e, e2, n2⟩ := hG.2.2.get ey
              exact ⟨d, e, zipL_get e1 e2, n1, n2⟩
  · exact q1.elim
/-! ### divmod -/
section
variable {X : Cx} {E : XK} {e a b o : Expr} {ma : Env → M D} {pos p p2 : Pos}
def dDivmod : List D → M D
  | [.int a, .int b] => if 0 < b ∧ b < 1073741824 then .ret (.tuple [.int (a / b), .int (a % b)]) else .fail
  | _ => .fail
theorem qc_divmod : QC X E (.builtin "divmod") dDivmod := by
  refine ⟨_, call_divmod, fun w H vs ds Q hw n q => ?_⟩
  unfold dDivmod at q
  split at q
  · obtain ⟨v, v', rfl, n1, n2⟩ := bd2 n
    split at q
    · rename_i hj
      exact ⟨_, _, by rw [n1.int, n2.int], hj, fun p e => tup_new hw e (.cons (.int _) (.cons (.int _) .nil)) q⟩
    · exact q.elim
  · exact q.elim
/-! ### isinstance -/
def tyN : D → String
  | .none => "NoneType"
  | .bool _ => "bool"
  | .int _ => "int"
  | .str _ => "str"
  | .list _ => "list"
  | .tuple _ => "tuple"
  | .dict _ => "dict"
def isTy (T : String) (d : D) : Bool := tyN d == T || (T == "int" && tyN d == "bool")
def eIsi (T : String) (ma : Env → M D) (δ : Env) : M D := (ma δ).bind fun d => .ret (.bool (isTy T d))
def KitT (T : String) : Prop := ∀ n ∈ (["NoneType", "bool", "int", "str", "list", "tuple", "dict"] : List String), kitB n T = some (n == T || (T == "int" && n == "bool"))
instance (T : String) : Decidable (KitT T) := by unfold KitT; infer_instance
theorem kit_int : KitT "int" := by decide +kernel
theorem kit_bool : KitT "bool" := by decide +kernel
theorem kit_str : KitT "str" := by decide +kernel
theorem kit_list : KitT "list" := by decide +kernel
theorem kit_tuple : KitT "tuple" := by decide +kernel
theorem kit_dict : KitT "dict" := by decide +kernel
theorem KitT.at {T : String} (h : KitT T) (d : D) : kitB (tyN d) T = some (isTy T d) := h (tyN d) (by cases d <;> simp [tyN])
theorem BDen.tyx {K : PySem.W.Frag} {w : Option WA} {H : Hp} {v : V} {d : D} (n : BDen K w H v d) : TyX K H v (.type (tyN d)) := by
  cases n with
  | own h _ _ => exact .base (.lst h)
  | den h =>
    cases h with
    | non => exact .base .non
    | bl b => exact .base (.bl b)
    | int i => exact .base (.int i)
    | str x => exact .base (.str x)
    | lst h _ => obtain ⟨o, h⟩ := h; exact .base (.frz h)
    | tup h _ =>
      rcases h with (h | ⟨o, h⟩) | ⟨o, its, m, h1, h2, _⟩
      · exact .base (.tup h)
      · exact .fTuple h
      · exact .kTuple h1 h2
    | dct h _ => obtain ⟨o, h⟩ := h; exact .fDict h
theorem qe_isi {T : Str} {t : String} (kt : KitT t) (hm : X.mg "isinstance" = none) (hm2 : X.mg T = none) (hb : bootBuiltins T = some (.type t)) (ha : QB X E a ma) (hg : Gl X "isinstance" := by rfl) (hg2 : Gl X T := by rfl)
    (hn2 : T ≠ "__name__" := by decide) (hd2 : (T == ("__debug__" : Str)) = false := by decide)
    (he : starEach [a, .Name T p2] X.env = (false, eval a X.env) :: starEach [.Name T p2] X.env := by rfl) (he2 : starEach [.Name T p2] X.env = [(false, eval (.Name T p2) X.env)] := by rfl) (hpl : (backTo pos (starEach [.Name T p2] X.env)).any (·.1) = false := by rfl) :
    QE X E (.Call (.Name "isinstance" p) [a, .Name T p2] [] pos) (eIsi t ma) := by
  obtain ⟨ta, a1, a2⟩ := ha
  refine ⟨_, pe_callB call_isi hg hm bt_isinstance (pa_cons a1 (pa_cons (pe_bltn (v := .ty t) hg2 hm2 hb rfl hn2 hd2) pa_nil (by first | rfl | exact he2)) he) (by decide) (by decide) he hpl, fun w σ H δ Q rl q => a2 w σ H δ _ rl (wp_then (wp_bind.mp q) fun d q1 v H1 g1 n1 => ?_)⟩
  exact ⟨v, .ty t, _, _, isTy t d, rfl, .ty t, n1.tyx, kit_ty (kt.at d), q1 _ H1 g1 (.bl _)⟩
end
end Q

set_option Elab.async false
set_option linter.all false
set_option maxRecDepth 100000
/-! more methods of texts -/
namespace Q
open PySem PySem.Spec PyProof.Rows L2
variable [WellKind]
section
variable {X : Cx} {E : XK}
def mRstrip (a : Str) : List D → M D
  | [.str b] => okL a.length (.ret (.str (Txt.rstripChars a b)))
  | _ => .fail
theorem qm_rstrip : QM X E "str.rstrip" mRstrip := by
  refine ⟨_, mt_rstripChars, fun w H x vs ds Q hw n q => ?_⟩
  unfold mRstrip at q
  split at q
  · obtain ⟨v, rfl, nn⟩ := bd1 n
    obtain ⟨hz, q⟩ := okL_wp q
    exact ⟨x, _, rfl, by rw [nn.str], hz, q _ H (.refl hw) (.str _)⟩
  · exact q.elim
def mRfind (a : Str) : List D → M D
  | [.str b] => .ret (.int (Txt.rfind a b))
  | _ => .fail
theorem qm_rfind : QM X E "str.rfind" mRfind := by
  refine ⟨_, mt_rfind, fun w H x vs ds Q hw n q => ?_⟩
  unfold mRfind at q
  split at q
  · obtain ⟨v, rfl, nn⟩ := bd1 n
    exact ⟨x, _, rfl, by rw [nn.str], q _ H (.refl hw) (.int _)⟩
  · exact q.elim
end
end Q

set_option Elab.async false
set_option linter.all false
set_option maxRecDepth 100000
/-! errors: raise, and a lambda that is tried -/
namespace Q
open PySem PySem.Spec PyProof.Rows L2
variable [WellKind] {u : Bool}
/-- what is known of an error's class -/
structure ErrC (K : PySem.W.Frag) (mg : Str → Option Value) (x : Str) (C : Addr) : Prop where
  at_ : mg x = some (.ref C)
  make : PySem.W.excIn K C [.type "ValueError", .type "Exception", .type "BaseException", .type "object"] "ValueError.__new__" = true
  keep : PySem.W.keepIn K (.ref C) = true
  sub : PySem.W.subIn K (.ref C) (.type "BaseException") = some true
  ty : PySem.W.typeIn K (.ref C) = some (.type "type")
  self : PySem.W.exmOne K (.ref C) (.ref C) = some true
section
variable {X : Cx} {E : XK} {x : Str} {C : Addr} {p pos pos' : Pos}
theorem mk_bare (ec : ErrC X.K X.mg x C) (hg : Gl X x) (hdb : (x == ("__debug__" : Str)) = false) : PMk X (.Call (.Name x p) [] [] pos) (fun _ H Q => Q (.ref C) none H) := by
  intro pins s σ H Q I h
  refine wpAny_Call_Name_kw (ld_glob I hg ec.at_ (PySem.W.callWith_K0 I.kIn ec.keep ?_) hdb)
  obtain ⟨z0, z1, z2, z3, z4, z5, z6, z7, z8, z9, y0, y1, y2, y3, y4, y5, y6, hC, hN, hI, T⟩ := exc_obj I.kIn ec.make
  refine wpAny_call_exc_subT PySem.F.excBase_ValueError T hC hN hI (fun h' e made => ?_) (Nat.zero_le _)
  exact mk_of I made (raises_own ec.sub ec.ty) h (I.hok.gone made.new)
def sRaise (c : Str) (_ : Env) : M Flow := .raise ⟨c⟩
theorem qs_raise {k : Nat} (gd : Good u X E k) (ec : ErrC X.K X.mg x C) (hg : Gl X x := by rfl) (hdb : (x == ("__debug__" : Str)) = false := by decide) : QS X E (.Raise (some (.Call (.Name x p) [] [] pos')) none pos) (sRaise x) := by
  refine ⟨_, ps_raise gd.calm gd.tk (mk_bare ec hg hdb), fun fr w σ H δ Dn r q => ?_⟩
  obtain ⟨C', e1, e2⟩ := q H r.grow
  rw [ec.at_] at e1
  cases e1
  exact e2
end
omit [WellKind] in
theorem tab_mk {K : PySem.W.Frag} {x : Str} {f c P : Addr} {o1 lo : Value} {o2 ld : Option Addr} {o3 ls : Array (Option Value)} {fd : FuncData} {vs : Array Value} (a : PySem.W.nsIn K mainGlobals x = some (some (.ref f))) (l : K.lookup f = some ⟨o1, o2, .func fd, o3⟩) (hc : fd.code = .ref c)
    (lc : K.lookup c = some ⟨lo, ld, .fields vs, ls⟩) (hp : vs[11]? = some (.ref P)) : PySem.W.tabIn K x = some (c, P) := by
  unfold PySem.W.tabIn
  simp only [a, l, hc, lc, hp]
/-! ### a block within a block -/
def relab (sc sc1 : Scope) : Scope := { sc with names := sc.names.map fun (n, k) => if (k == .free && sc1.kind == .function && (sc1.names.lookup n) == some .cell) = true then (n, .cell) else (n, k) }
omit [WellKind] in
theorem blkOk_in {N : List Str} {sc0 sc1 scope : Scope} {own : List (Str × Nat)} {env : PySem.Env} (he : env.scope = sc1) (h : blkC N (relab sc0 sc1) scope own = true) : BlkOk N (relabel sc0 env) scope own := by
  have e : relabel sc0 env = relab sc0 sc1 := by rw [← he]; rfl
  rw [e]
  exact blkOk_by h
/-! ### a lambda that is tried -/
def tryT (c t1 t2 : Str) : M D → M D
  | .ret d => .ret (.list [.str t1, d])
  | .draw n k => .draw n fun r => tryT c t1 t2 (k r)
  | .raise e => if e.cls = c then .ret (.list [.str t2]) else .fail
  | .fail => .fail
def eTold (c t1 t2 : Str) (m : Env → M D) (δ : Env) : M D := tryT c t1 t2 (m δ)
omit [WellKind] in
theorem wp_tryT {c t1 t2 : Str} {Q : D → Prop} {R : Exn → Prop} : ∀ {m : M D}, wp (tryT c t1 t2 m) Q R → wp m (fun d => Q (.list [.str t1, d])) (fun e => e.cls = c ∧ Q (.list [.str t2]))
  | .ret _, h => h
  | .draw _ _, h => ⟨h.1, fun x h0 h1 => wp_tryT (h.2 x h0 h1)⟩
  | .raise e, h => by
    unfold tryT at h
    by_cases z : e.cls = c
    · rw [if_pos z] at h; exact ⟨z, h⟩
    · rw [if_neg z] at h; exact h.elim
  | .fail, h => h.elim
omit [WellKind] in
theorem tryT_wp {c t1 t2 : Str} {Q : D → Prop} {R : Exn → Prop} : ∀ {m : M D}, wp m (fun d => Q (.list [.str t1, d])) (fun e => e.cls = c ∧ Q (.list [.str t2])) → wp (tryT c t1 t2 m) Q R
  | .ret _, h => h
  | .draw _ _, h => ⟨h.1, fun x h0 h1 => tryT_wp (h.2 x h0 h1)⟩
  | .raise e, h => by
    unfold tryT
    rw [if_pos h.1]; exact h.2
  | .fail, h => h.elim
/-- what the trying def makes of what it is handed -/
def TLst (C : Addr) (t1 t2 : Str) : (XK → Hp → VK → Prop) → Hp → VK → Prop := fun tl H Q =>
  tl (fun cls _ H' => cls = .ref C ∧ ∀ p, H' p = none → Q (.ref p) (upd H' p (.lst [.str t2]))) H fun v H' => [V.str t1, v].length ≤ sizeLine ∧ ∀ p, H' p = none → Q (.ref p) (upd H' p (.lst [.str t1, v]))
section
variable {X : Cx}
theorem tells_list2 {Ng : List Str} {x a e q t1 t2 : Str} {sg : Scope} {g C : Addr} {cdg : Value} {j1 j2 : Nat} {p1 p2 p3 p4 p5 p6 p7 p8 p9 q1 q2 : Pos} (ec : ErrC X.K X.mg e C) (hge : sg.names.lookup e = some .globalImplicit) (hde : (e == ("__debug__" : Str)) = false)
    (h0 : ∀ f : Addr, (L2.start Ng [V.ref f])[0]? = some (some (V.ref f))) :
    LamX.GivesTo X Ng x sg g cdg [.Try [.Return (some (.List [.Constant (.str t1) j1 p1, .Call (.Name a p2) [] [] p3] p4)) p5] [.ExceptHandler (some (.Name e p6)) none [.Return (some (.List [.Constant (.str t2) j2 p7] p8)) p9] q1] [] [] q2] a q (TLst C t1 t2) := by
  intro f c' s H Q tl act hc h
  have gl : Gl (cxOf C8.CX0 X.prog X.w X.K X.mg X.base Ng x sg g cdg X.A X.stack s H C8.E0).nox e := hge
  refine ⟨_, pss_one (ps_try_only (c := .ref C) (tb := fun W D σ H => ∃ E1 : XK, (∀ cls d σ' H', E1 cls d H' → W cls d σ' H') ∧ (σ[0]? = some (some (.ref f)) ∧ H c' = some (LamX.CodeO c' q)) ∧ tl E1 H fun v H' => [V.str t1, v].length ≤ sizeLine ∧ ∀ p, H' p = none → D.rt (.ref p) (upd H' p (.lst [.str t1, v]))) rfl rfl ⟨gl, hde, .inl ec.at_⟩ LamX.takes0 (fun W pn xe tk _ => ?_)
      (fun a oe cls d pn _ _ => pss_one (ps_ret (pe_lst (pa_cons pe_str pa_nil))))), ?_⟩
  · refine ⟨fun pins s' σ H' D I h' => ?_⟩
    obtain ⟨E1, hW, ⟨h1, h2⟩, h3⟩ := h'
    refine (pss_one (ps_ret (pos := p5) (pe_lst (pos := p4) (pa_cons pe_str (pa_cons (act W pn xe E1 p2 p3 tk hW) pa_nil))))).run pins s' σ H' D I ?_
    exact ⟨h1, h2, h3⟩
  · exact ⟨fun cls _ H' => cls = .ref C ∧ ∀ p, H' p = none → Q (.ref p) (upd H' p (.lst [.str t2])), fun cls d σ' H' ⟨e1, e2⟩ => ⟨true, by rw [e1]; exact ec.self, fun _ a _ => ⟨by show 1 ≤ sizeLine; decide, e2⟩, fun z => nomatch z⟩, ⟨h0 f, hc⟩, h⟩
theorem good_lam {A : Around} {outer : List PySem.Env} {s : Shared} {H : Hp} {E1 : XK} {scope : Scope} {f c' : Addr} {k : Nat} (hr : Room k (A.deeper (LamX.lamEnv X scope s.heap.objs.size f c'))) : Good false (LamX.lamCx X A outer s H E1 scope f c') E1 k :=
  ⟨rfl, hr, fun z => (nomatch z), L2.passes_of rfl, L2.passes_call (L2.takes_of rfl rfl rfl rfl) fun _ _ _ _ z => z, L2.takes_of rfl rfl rfl rfl⟩
theorem qe_told {E : XK} {k : Nat} {x a e t1 t2 : Str} {g C c P : Addr} {st : Stmt} {fd : FuncData} {Ng : List Str} {params : Arguments} {body : Expr} {scope : Scope} {m : Env → M D} {p lpos pos : Pos} {j1 j2 : Nat} {p1 p2 p3 p4 p5 p6 p7 p8 p9 q1 q2 : Pos}
    (Fg : Fun X.K x x st g fd) (Sg : FnScope Ng [a] (defScope st)) (hN0 : Ng[0]? = some a) (hva : Vis (defScope st) a)
    (hst : defBody st = [.Try [.Return (some (.List [.Constant (.str t1) j1 p1, .Call (.Name a p2) [] [] p3] p4)) p5] [.ExceptHandler (some (.Name e p6)) none [.Return (some (.List [.Constant (.str t2) j2 p7] p8)) p9] q1] [] [] q2])
    (ec : ErrC X.K X.mg e C) (hge : (defScope st).names.lookup e = some .globalImplicit) (h0 : ∀ f : Addr, (L2.start Ng [V.ref f])[0]? = some (some (V.ref f))) (hm : X.mg x = some (.ref g)) (hb : Binds X.K fd [a] [])
    (gd : Good u X E (k + 2)) (TB : LamX.TabB X.base X.mg c P) (hcode : X.env.code = .ref c) {qn : Str} (hqn : X.env.qual = qn) (hT : (P, qn ++ "<lambda>") ∈ WellKind.T) (hu : ∀ p ∈ WellKind.T, p.1 = P → p.2 = qn ++ "<lambda>") (L : LamX.LamS X.env.scope scope)
    (hq : ∀ (A : Around) (outer : List PySem.Env) (s : Shared) (H : Hp) (E1 : XK) (f c' : Addr), Good false (LamX.lamCx X A outer s H E1 scope f c') E1 k → QE (LamX.lamCx X A outer s H E1 scope f c') E1 body m)
    (hg : Gl X x := by rfl) (hdef : defaultsOf params X.env = ([], []) := by rfl)
    (hbind : ∀ (q : Str) (cl : List (Str × Addr)) (pm cv ctv : Value), bindArgs (PySem.W.kla_fn "<lambda>" q params body scope cl pm cv ctv) ⟨[], []⟩ = pure [] := by intros; rfl)
    (hdx : (x == ("__debug__" : Str)) = false := by decide) (hde : (e == ("__debug__" : Str)) = false := by decide) (hda : (a == ("__debug__" : Str)) = false := by decide) (hca : (a == ("__classdict__" : Str)) = false := by decide) :
    QE X E (.Call (.Name x p) [.Lambda params body scope lpos] [] pos) (eTold e t1 t2 m) := by
  subst hqn
  obtain ⟨oc, od, kV, doc, pm, an, cdv, ct, osl, rfl, lk, hcd⟩ := Fg.ex
  have hG := tells_list2 (X := X) (Ng := Ng) (x := x) (a := a) (q := X.env.qual ++ "<lambda>") (t1 := t1) (t2 := t2) (g := g) (cdg := cdv) (j1 := j1) (j2 := j2) (p1 := p1) (p2 := p2) (p3 := p3) (p4 := p4) (p5 := p5) (p6 := p6) (p7 := p7) (p8 := p8) (p9 := p9) (q1 := q1) (q2 := q2) ec hge hde h0
  rw [← hst] at hG
  have pl := LamX.pe_lamcall (X := X) (T := WellKind.T) (t := fun E1 => tE X.K X.mg E1 m) (p := p) (lpos := lpos) (pos := pos) hg hm Fg.kp lk hcd hb Sg hN0 hva hG TB hcode hT hu gd.room L hdef hbind (fun A outer s H E1 f c' hr => (hq A outer s H E1 f c' (good_lam hr)).pe) hdx hda hca
  refine ⟨_, PE.fz pl, fun w σ H δ Q r q => ⟨r.tabs, fun H1 hx ht => ?_⟩⟩
  have g1 : Grow w H H1 := .ofExtN r.well hx ht
  refine ⟨w, δ, r.grow g1, wp_mono (wp_tryT q) (fun d k v H' g n => ⟨by show 2 ≤ sizeLine; decide, fun pp e0 => ?_⟩) fun ex ⟨ze, k⟩ H' g => ⟨C, by rw [ze]; exact ec.at_, rfl, fun pp e0 => ?_⟩⟩
  · exact fz_new g.well e0 (.cons (.str _) (.cons n .nil)) fun v' H2 g2 n2 => k v' H2 ((g1.trans g).trans g2) n2
  · exact fz_new g.well e0 (.cons (.str _) .nil) fun v' H2 g2 n2 => k v' H2 ((g1.trans g).trans g2) n2
end
end Q

set_option Elab.async false
set_option linter.all false
set_option maxRecDepth 100000
/-! two names at once, the first a list of one's own; a text cut up -/
namespace Q
open PySem PySem.Spec PyProof.Rows L2
variable [WellKind]
section
variable {X : Cx} {E : XK} {a b o e : Expr} {es : List Expr} {me mo : Env → M D} {mf : Env → M (List D)} {ms : Env → M (List D)} {pos p apos cpos : Pos} {name : Str} {id : String}
def sParF (i j : Nat) (mf : Env → M (List D)) (me : Env → M D) (δ : Env) : M Flow := (mf δ).bind fun ds => (me δ).bind fun d => .ret (.next ((δ.set i (.own ds)).set j (.dat d)))
theorem qs_parF (i j : Nat) {x y : Str} {px py pt : Pos} {kt k2 pt2} (hc : X.calm = true) (hN : X.N.Nodup) (ha : QF X E a mf) (hb : QE X E b me) (hi : X.N[i]? = some x := by rfl) (hj : X.N[j]? = some y := by rfl) (hij : i ≠ j := by decide)
    (hx : X.env.scope.names.lookup x = some .local := by rfl) (hy : X.env.scope.names.lookup y = some .local := by rfl)
    (hs1 : starEach [a, b] X.env = (false, eval a X.env) :: starEach [b] X.env := by rfl) (hs2 : starEach [b] X.env = (false, eval b X.env) :: starEach [] X.env := by rfl)
    (hw : swappedStores [.Tuple [.Name x px, .Name y py] kt pt] (.Tuple [a, b] k2 pt2) X.env = pure (some [x, y]) := by rfl)
    (hs : swapsWithSole [.Tuple [.Name x px, .Name y py] kt pt] (.Tuple [a, b] k2 pt2) pos.line X.env = pure false := by rfl) :
    QS X E (.Assign [.Tuple [.Name x px, .Name y py] kt pt] (.Tuple [a, b] k2 pt2) pos) (sParF i j mf me) := by
  obtain ⟨ta, a1, a2⟩ := ha
  obtain ⟨tb, b1, b2⟩ := hb
  refine ⟨_, ps_par hc hN hi hj hij hx hy (pa_cons a1 (pa_cons b1 pa_nil hs2) hs1) hw hs, fun fr w σ H δ Dn r q => ?_⟩
  refine a2 w σ H δ _ r.rd (wp_in r (wp_bind.mp q) fun ds q1 p vs H1 g1 e1 e2 e3 n1 => ?_)
  have r1 := r.step g1
  refine b2 w σ H1 δ _ r1.rd (wp_in r1 (wp_bind.mp q1) fun d q2 v H2 g2 n2 => ?_)
  refine ⟨.ref p, v, rfl, q2 w _ H2 ?_⟩
  have e2' : H2 p = some (.lst vs) := g2.keep p _ e2 (fun _ z => nomatch z) fun x hx => ⟨(e3 x hx).1, (e3 x hx).2.1⟩
  exact (r.setNew (g1.trans g2) e1 e2' (n1.grow g2) e3).setD n2
/-- a method that tells a new list -/
def QN (X : Cx) (E : XK) (id : String) (g : Str → List D → M (List D)) : Prop :=
  ∃ r, MtR X id r ∧ ∀ w H x vs ds Q, (∀ z, w = some z → WellOk H z) → BDenAll X.K w H vs ds →
    wp (g x ds) (fun ds' => ∀ p vs' H', Grow w H H' → Nn H p → H' p = some (.lst vs') → (∀ x, w = some x → p ≠ x.a ∧ p ≠ x.g ∧ p ≠ x.c) → DenAll X.K H' vs' ds' → Q (.ref p) H') (XP X.mg E w H) → r (.str x) vs H Q
def fM (g : Str → List D → M (List D)) (mo : Env → M D) (ms : Env → M (List D)) (δ : Env) : M (List D) := (mo δ).bind fun d => match d with
  | .str x => (ms δ).bind fun ds => g x ds
  | _ => .fail
theorem nn_back {w : Option WA} {H H1 : Hp} {p : Addr} (g1 : Grow w H H1) (e : Nn H1 p) (n : ∀ x, w = some x → p ≠ x.a ∧ p ≠ x.g) : Nn H p := fun o q => Classical.byContradiction fun z => by
  have hk := g1.keep p o q (fun ps y => z ⟨ps, y⟩) n
  exact z (e o hk)
theorem qf_m {gm : Str → List D → M (List D)} (slot : PySem.Slot "str" name id) (hty : typeOf (.builtin id) = pure (.type "method_descriptor")) (hm : QN X E id gm) (ho : QE X E o mo) (ha : QA X E (e :: es) ms)
    (hbase : attributeBase o name X.env (eval o X.env) = eval o X.env := by rfl)
    (hfew : ((backTo cpos (starEach (e :: es) X.env)).all (fun x => !x.1) && (backToKw cpos (keywordEach [] X.env)).all (fun x => x.1.isSome)
      && decide ((e :: es).length + ([] : List Keyword).length + (if ([] : List Keyword).isEmpty then 0 else 1) < 30)) = true := by rfl)
    (hline : (apos.endLine == cpos.line) = true := by rfl) (hs : starEach (e :: es) X.env = (false, eval e X.env) :: starEach es X.env := by rfl) (hplain : (backTo cpos (starEach es X.env)).any (·.1) = false := by rfl) :
    QF X E (.Call (.Attribute o name apos) (e :: es) [] cpos) (fM gm mo ms) := by
  obtain ⟨r, r1, r2⟩ := hm
  obtain ⟨to, o1, o2⟩ := ho
  obtain ⟨t, a1, a2⟩ := ha
  refine ⟨_, pe_bm PySem.F.plainAttrs_str slot hty r1 o1 a1 hbase hfew hline hs hplain, fun w σ H δ Q rl q => o2 w σ H δ _ rl (wp_then (wp_bind.mp q) fun d q1 v H1 g1 n1 => ?_)⟩
  cases d <;> first | exact q1.elim | skip
  cases n1
  refine ⟨rfl, a2 w σ H1 δ _ (rl.grow g1) (wp_mono (wp_bind.mp q1) (fun ds q2 vs H2 g2 n2 => ?_) fun _ z => z.grow g1)⟩
  have g12 := g1.trans g2
  exact r2 w H2 _ vs ds Q g2.well n2 (wp_mono q2 (fun ds' k p vs' H' g e1 e2 e3 n => k p vs' H' (g12.trans g) (nn_back g12 e1 fun x hx => ⟨(e3 x hx).1, (e3 x hx).2.1⟩) e2 e3 n) fun _ z => z.grow g12)
def mSplit (a : Str) : List D → M (List D)
  | [.str b] => if (b.length == 0) = false ∧ a.length + 2 ≤ sizeLine then .ret ((Txt.split a b).map .str) else .fail
  | _ => .fail
theorem denAll_ofStrs {K : PySem.W.Frag} {H : Hp} : ∀ ns : List Str, DenAll K H (ns.map V.str) (ns.map PyData.str)
  | [] => .nil
  | n :: ns => .cons (.str n) (denAll_ofStrs ns)
theorem qn_split : QN X E "str.split" mSplit := by
  refine ⟨_, mt_split, fun w H x vs ds Q hw n q => ?_⟩
  unfold mSplit at q
  split at q
  · obtain ⟨v, rfl, nn⟩ := bd1 n
    obtain ⟨⟨hb, hz⟩, q⟩ := ite_wp q
    refine ⟨x, _, rfl, by rw [nn.str], hb, hz, fun p e => ?_⟩
    exact lst_new (.refl hw) e (denAll_ofStrs _) q
  · exact q.elim
end
end Q

set_option Elab.async false
set_option linter.all false
set_option maxRecDepth 100000
/-! zip of lists and of texts -/
namespace Q
open PySem PySem.Spec PyProof.Rows L2
/-- one side of a zip -/
inductive Side where
  | lst (a : Addr) (xs : List V)
  | txt (x : Str)
  | tup (a : Addr) (xs : List V)
def Side.n : Side → Nat
  | .lst _ xs => xs.length
  | .txt x => x.cps.size
  | .tup _ xs => xs.length
def Side.at : Side → Nat → Option V
  | .lst _ xs, i => xs[i]?
  | .tup _ xs, i => xs[i]?
  | .txt x, i => x.cps[i]?.map fun c => .str ⟨#[c]⟩
def Side.G (K : PySem.W.Frag) (H : Hp) : Side → Prop
  | .lst a xs => SqL K H a xs
  | .txt _ => True
  | .tup a xs => SqT K H a xs
def Side.St (it : Addr) (i : Nat) (h : Heap) : Side → Prop
  | .lst a _ => h.IsListIter it a i
  | .txt x => ∃ t, h.IsStrIter it (strIterType x) x t i
  | .tup a _ => h.IsTupleIter it a i
def Side.fp (it : Addr) : Side → List Addr
  | .lst a _ => [it, a]
  | .txt _ => [it]
  | .tup a _ => [it, a]
def Side.off (it : Addr) : Side → Prop
  | .lst a _ => a ≠ it
  | .txt _ => True
  | .tup a _ => a ≠ it
theorem side_draws {X : Cx} {pins : List (Addr × Obj)} {σ : L2.St} {H : Hp} {s : Shared} {it : Addr} {i : Nat} (I : Inv X pins σ H s) (hh : X.A.in1.handled = none) (S : Side) (hG : S.G X.K H) (ho : S.off it) (st : S.St it i s.heap) :
    ∃ P St, Draws X.prog X.w X.A.in1 it (S.fp it) S.n P St ∧ St i s.heap ∧ (∀ h', St (i + 1) h' → S.St it (i + 1) h') ∧ ∀ v, P i v → ∃ x, S.at i = some x ∧ RelV x v := by
  cases S with
  | lst a xs =>
    obtain ⟨its, rv, p, hz⟩ := I.list hG
    have hl := rv.length
    refine ⟨fun i v => its.toArray[i]? = some v, fun i h => h.IsListIter it a i ∧ h.IsList a its.toArray, ?_, ⟨st, p.isList⟩, fun h' q => q.1, fun v q => ?_⟩
    · have D := Draws.list (prog := X.prog) (w := X.w) (A := X.A.in1) hh it a ho its.toArray
      have e : its.toArray.size = (Side.lst a xs).n := by simp [Side.n]; omega
      rw [e] at D
      exact D
    · have q' : its[i]? = some v := by simpa using q
      have hi : i < xs.length := by
        have := (List.getElem?_eq_some_iff.mp q').1
        omega
      obtain ⟨u, hu, ru⟩ := rv.get (List.getElem?_eq_getElem hi)
      rw [q'] at hu
      cases hu
      exact ⟨_, List.getElem?_eq_getElem hi, ru⟩
  | txt x =>
    obtain ⟨t, st⟩ := st
    refine ⟨_, _, Draws.text (prog := X.prog) (w := X.w) (A := X.A.in1) hh it x t, st, fun h' q => ⟨t, q⟩, fun v q => ?_⟩
    obtain ⟨c, u, hc, rfl⟩ := q
    exact ⟨.str ⟨#[c]⟩, by simp [Side.at, hc], ⟨u, rfl⟩⟩
  | tup a xs =>
    obtain ⟨its, rv, p, hz⟩ := I.tuple hG
    have hl := rv.length
    refine ⟨fun i v => its.toArray[i]? = some v, fun i h => h.IsTupleIter it a i ∧ h.IsTuple a its.toArray, ?_, ⟨st, p⟩, fun h' q => q.1, fun v q => ?_⟩
    · have D := Draws.tuple (prog := X.prog) (w := X.w) (A := X.A.in1) hh it a ho its.toArray
      have e : its.toArray.size = (Side.tup a xs).n := by simp [Side.n]; omega
      rw [e] at D
      exact D
    · have q' : its[i]? = some v := by simpa using q
      have hi : i < xs.length := by
        have := (List.getElem?_eq_some_iff.mp q').1
        omega
      obtain ⟨u, hu, ru⟩ := rv.get (List.getElem?_eq_getElem hi)
      rw [q'] at hu
      cases hu
      exact ⟨_, List.getElem?_eq_getElem hi, ru⟩
theorem Side.obj {it : Addr} {i : Nat} {h : Heap} {S : Side} (st : S.St it i h) : ∃ o, h.get? it = some o ∧ ∀ v n, o.data ≠ .seq v n := by
  cases S with
  | lst a xs => obtain ⟨o, ho, hc, hd⟩ := st; exact ⟨o, ho, fun v n q => by rw [hd] at q; cases q⟩
  | txt x => obtain ⟨t, o, ho, hc, hd⟩ := st; exact ⟨o, ho, fun v n q => by rw [hd] at q; cases q⟩
  | tup a xs => obtain ⟨o, ho, hc, hd⟩ := st; exact ⟨o, ho, fun v n q => by rw [hd] at q; cases q⟩
theorem Side.keep {it : Addr} {i : Nat} {h h' : Heap} {S : Side} (st : S.St it i h) (k : ∀ o, h.get? it = some o → h'.get? it = some o) : S.St it i h' := by
  cases S with
  | lst a xs => exact Heap.IsListIter.at st fun o q => k o q
  | txt x => obtain ⟨t, o, ho, r⟩ := st; exact ⟨t, o, k o ho, r⟩
  | tup a xs => obtain ⟨o, ho, r⟩ := st; exact ⟨o, k o ho, r⟩
def ItZ (K : PySem.W.Frag) (S1 S2 : Side) : It :=
  ⟨fun i H => S1.G K H ∧ S2.G K H ∧ i < S1.n ∧ i < S2.n, fun i H v H' => ∃ T x y, v = .ref T ∧ H T = none ∧ H' = upd H T (.tup [x, y]) ∧ S1.at i = some x ∧ S2.at i = some y,
    fun i H => S1.G K H ∧ S2.G K H ∧ (S1.n ≤ i ∨ S2.n ≤ i)⟩
theorem turn_zipX {P : Program} {w : World} {K : PySem.W.Frag} {elts : List Expr} {kk : Nat} {tpos : Pos} {S1 S2 : Side} {z TI TO i1 i2 : Addr} (D : ZipSep2 z TI TO i1 i2 (S1.fp i1) (S2.fp i2)) (o1 : S1.off i1) (o2 : S2.off i2) :
    Turn P w K (.Tuple elts kk tpos) (ItZ K S1 S2) [z, TI, TO, i1, i2] z (fun i h => IsZip h z TI TO .none ∧ IsTupOf2 h TI (.ref i1) (.ref i2) ∧ (∃ x y, IsTupOf2 h TO x y) ∧ S1.St i1 i h ∧ S2.St i2 i h ∧ i ≤ S1.n ∧ i ≤ S2.n) where
  mem := by simp
  obj := fun i h st c hc => by
    obtain ⟨hz, hTI, ⟨x, y, hTO⟩, h1, h2, _⟩ := st
    have e' : c = z ∨ c = TI ∨ c = TO ∨ c = i1 ∨ c = i2 := by simpa using hc
    rcases e' with q | q | q | q | q
    · rw [q]; exact ⟨_, hz, fun v q => nomatch q⟩
    · rw [q]; exact ⟨_, hTI, fun v q => nomatch q⟩
    · rw [q]; exact ⟨_, hTO, fun v q => nomatch q⟩
    · rw [q]
      cases S1 with
      | lst a xs => obtain ⟨o, ho, hc, hd⟩ := h1; exact ⟨o, ho, fun v q => by rw [hd] at q; cases q⟩
      | txt x => obtain ⟨t, o, ho, hc, hd⟩ := h1; exact ⟨o, ho, fun v q => by rw [hd] at q; cases q⟩
      | tup a xs => obtain ⟨o, ho, hc, hd⟩ := h1; exact ⟨o, ho, fun v q => by rw [hd] at q; cases q⟩
    · rw [q]
      cases S2 with
      | lst a xs => obtain ⟨o, ho, hc, hd⟩ := h2; exact ⟨o, ho, fun v q => by rw [hd] at q; cases q⟩
      | txt x => obtain ⟨t, o, ho, hc, hd⟩ := h2; exact ⟨o, ho, fun v q => by rw [hd] at q; cases q⟩
      | tup a xs => obtain ⟨o, ho, hc, hd⟩ := h2; exact ⟨o, ho, fun v q => by rw [hd] at q; cases q⟩
  keep := fun i h h' st k => by
    obtain ⟨hz, hTI, ⟨x, y, hTO⟩, h1, h2, r⟩ := st
    exact ⟨k z (by simp) _ hz, k TI (by simp) _ hTI, ⟨x, y, k TO (by simp) _ hTO⟩, Side.keep h1 fun o q => k i1 (by simp) o q, Side.keep h2 fun o q => k i2 (by simp) o q, r⟩
  item := by
    intro X hP hw hK hc i pins s σ H E I hf st hg
    subst hP hw hK
    obtain ⟨hz, hTI, ⟨x0, y0, hTO⟩, h1, h2, hle1, hle2⟩ := st
    obtain ⟨hG1, hG2, hn1, hn2⟩ := hg
    obtain ⟨P1, St1, D1, d1, k1, r1⟩ := side_draws I (I.ok.hd hc) S1 hG1 o1 h1
    obtain ⟨P2, St2, D2, d2, k2, r2⟩ := side_draws I (I.ok.hd hc) S2 hG2 o2 h2
    have hzl : z < s.heap.objs.size := Heap.lt_size hz
    refine wpAny_pyNext_zipD2_item D D1 D2 hz hTI hTO d1 d2 hn1 hn2 fun u u2 h' tk hp1 hp2 z' TO' h1' h2' hT hsz hk => ?_
    obtain ⟨x, hx, ru⟩ := r1 u hp1
    obtain ⟨y, hy, ru2⟩ := r2 u2 hp2
    refine ⟨_, rfl, wpAny_letOwnedTupleGo_zip (s := { s with heap := h', toks := tk }) z' fun h'' z'' sb => ?_⟩
    have hT2 : h''.get? s.heap.objs.size = some { cls := .type "tuple", data := .seq #[u, u2] } := (sb.2 _ (Nat.ne_of_gt hzl)).trans hT
    have new : ObjOk X.prog X.w (upd H s.heap.objs.size (.tup [x, y])) h'' s.heap.objs.size (.tup [x, y]) :=
      ⟨by show 2 ≤ sizeLine; decide, [u, u2], .cons ru (.cons ru2 .nil), ⟨_, hT2, rfl, _, rfl⟩⟩
    have I1 : Inv X pins σ (upd H s.heap.objs.size (.tup [x, y])) { s with heap := h'', toks := tk } :=
      I.turnedNew (t' := tk) (ch := [z, TI, TO, i1, i2]) (fun c o hb q => (sb.2 c (fun q' => hb (by simp [q']))).trans (hk c o (fun q' => hb (by simp [q'])) (fun q' => hb (by simp [q'])) (fun q' => hb (by simp [q'])) (fun q' => hb (by simp [q'])) q)) hf (Nat.le_refl _) new
    refine ⟨.ref s.heap.objs.size, _, I1, rfl, ⟨_, x, y, rfl, I.hok.fresh (Nat.le_refl _), rfl, hx, hy⟩, ⟨z'', ?_, ⟨u, u2, ?_⟩, ?_, ?_, hn1, hn2⟩, fun c hcm => ?_⟩
    · exact (sb.2 _ D.TIz).trans (hk _ _ D.TIz D.TITO D.TIi1 D.TIi2 hTI)
    · exact (sb.2 _ D.TOz).trans TO'
    · exact Side.keep (k1 _ h1') fun o q => (sb.2 _ (Ne.symm D.zi1)).trans q
    · exact Side.keep (k2 _ h2') fun o q => (sb.2 _ (Ne.symm D.zi2)).trans q
    · have hlt : c < s.heap.objs.size := by
        have e' : c = z ∨ c = TI ∨ c = TO ∨ c = i1 ∨ c = i2 := by simpa using hcm
        rcases e' with q | q | q | q | q
        · rw [q]; exact hzl
        · rw [q]; exact Heap.lt_size hTI
        · rw [q]; exact Heap.lt_size hTO
        · rw [q]; obtain ⟨o, e1, _⟩ := Side.obj (S := S1) h1; exact Heap.lt_size e1
        · rw [q]; obtain ⟨o, e1, _⟩ := Side.obj (S := S2) h2; exact Heap.lt_size e1
      rw [upd_ne (Nat.ne_of_lt hlt)]
      exact (hf c hcm).1
  done := by
    intro X hP hw hK hc i pins s σ H E I hf st hg
    subst hP hw hK
    obtain ⟨hz, hTI, ⟨x0, y0, hTO⟩, h1, h2, hle1, hle2⟩ := st
    obtain ⟨hG1, hG2, hend⟩ := hg
    obtain ⟨P1, St1, D1, d1, k1, r1⟩ := side_draws I (I.ok.hd hc) S1 hG1 o1 h1
    obtain ⟨P2, St2, D2, d2, k2, r2⟩ := side_draws I (I.ok.hd hc) S2 hG2 o2 h2
    exact wpAny_pyNext_zipD2_end D D1 D2 hz hTI hTO d1 d2 hle1 hle2 (by omega) fun h' tk hk => ⟨rfl, I.turnedL (t' := tk) (ch := [z, TI, TO, i1, i2]) (fun c o hb q =>
      hk c o (fun q' => hb (by simp [q'])) (fun q' => hb (by simp [q'])) (fun q' => hb (by simp [q'])) (fun q' => hb (by simp [q'])) q) hf⟩
  self := fun A i s Q E st h => wpAny_pyIter_zip st.1 h
def Side.v : Side → V
  | .lst a _ => .ref a
  | .txt x => .str x
  | .tup a _ => .ref a
theorem side_begins {X : Cx} {pins : List (Addr × Obj)} {σ : L2.St} {H : Hp} {s : Shared} {u : Value} (I : Inv X pins σ H s) (S : Side) (hG : S.G X.K H) (r : RelV S.v u) :
    ∃ o Hq, Begins u o Hq ∧ Hq s.heap ∧ (∀ h' it, h'.get? it = some o → S.St it 0 h') ∧ (∀ it, s.heap.objs.size ≤ it → S.off it) ∧ (∀ it b, s.heap.objs.size ≤ b → b ∈ S.fp it → b = it) := by
  cases S with
  | lst a xs =>
    obtain ⟨its, rv, p, hz⟩ := I.list hG
    cases r
    refine ⟨_, _, begins_list a its.toArray, p.isList, fun h' it q => ⟨_, q, rfl, rfl⟩, fun it hit z => ?_, fun it b hb hm => ?_⟩
    · subst z; exact absurd p.lt (Nat.not_lt.mpr hit)
    · have hm' : b = it ∨ b = a := by simpa [Side.fp] using hm
      rcases hm' with z | z
      · exact z
      · subst z; exact absurd p.lt (Nat.not_lt.mpr hb)
  | txt x =>
    obtain ⟨t, rfl⟩ := r
    exact ⟨_, _, begins_text x t, trivial, fun h' it q => ⟨t, _, q, rfl, rfl⟩, fun it hit => trivial, fun it b hb hm => by simpa [Side.fp] using hm⟩
  | tup a xs =>
    obtain ⟨its, rv, p, hz⟩ := I.tuple hG
    cases r
    have plt : a < s.heap.objs.size := by obtain ⟨o, e, _⟩ := p; exact Heap.lt_size e
    refine ⟨_, _, begins_tuple a its.toArray, p, fun h' it q => ⟨_, q, rfl, rfl⟩, fun it hit z => ?_, fun it b hb hm => ?_⟩
    · subst z; exact absurd plt (Nat.not_lt.mpr hit)
    · have hm' : b = it ∨ b = a := by simpa [Side.fp] using hm
      rcases hm' with z | z
      · exact z
      · subst z; exact absurd plt (Nat.not_lt.mpr hb)
theorem Side.mem (S : Side) (it : Addr) : it ∈ S.fp it := by cases S <;> simp [Side.fp]
def iZipX (K : PySem.W.Frag) (ta : TA) : TI := fun σ H R => ta σ H fun vs H1 => ∃ S1 S2 : Side, vs = [S1.v, S2.v] ∧ S1.G K H1 ∧ S2.G K H1 ∧ R (ItZ K S1 S2) H1
theorem pi_zipX {X : Cx} {e e2 : Expr} {ta : TA} {p pos tpos : Pos} {elts : List Expr} {kk : Nat} (hg : Gl X "zip") (hm : X.mg "zip" = none) (ha : PA X [e, e2] ta)
    (hs : starEach [e, e2] X.env = (false, eval e X.env) :: starEach [e2] X.env := by rfl) (hpl : (backTo pos (starEach [e2] X.env)).any (·.1) = false := by rfl) :
    PI X (.Tuple elts kk tpos) (.Call (.Name "zip" p) [e, e2] [] pos) (iZipX X.K ta) := by
  refine ⟨fun pins s σ H R I h => ?_⟩
  refine Call_ (ld_blt I hg hm PyProof.Rows.boot_zip (PyProof.Rows.callWith_type1 (thn (ha.run pos pins s σ H _ I h) fun us s1 ⟨vs, H1, I1, r1, q1⟩ => ?_) hs hpl))
  obtain ⟨S1, S2, ex, hG1, hG2, q⟩ := q1
  subst ex
  cases r1 with
  | cons r rr =>
    cases rr with
    | cons r' rr =>
      cases rr
      have fresh5 : ∀ c, c ∈ [s1.heap.objs.size + 4, s1.heap.objs.size + 2, s1.heap.objs.size + 3, s1.heap.objs.size, s1.heap.objs.size + 1] → FpOk X pins H1 c := fun c hcm => by
        have e' : c = s1.heap.objs.size + 4 ∨ c = s1.heap.objs.size + 2 ∨ c = s1.heap.objs.size + 3 ∨ c = s1.heap.objs.size ∨ c = s1.heap.objs.size + 1 := by simpa using hcm
        have hle : s1.heap.objs.size ≤ c := by
          rcases e' with z | z | z | z | z
          · rw [z]; exact Nat.le_add_right _ _
          · rw [z]; exact Nat.le_add_right _ _
          · rw [z]; exact Nat.le_add_right _ _
          · rw [z]; exact Nat.le_refl _
          · rw [z]; exact Nat.le_add_right _ _
        exact I1.fpOk hle (I1.hok.fresh hle)
      obtain ⟨o1, Hq1, B1, b1, t1, f1, g1⟩ := side_begins I1 S1 hG1 r
      obtain ⟨o2, Hq2, B2, b2, t2, f2, g2⟩ := side_begins I1 S2 hG2 r'
      refine zip_begins2 B1 B2 b1 b2 fun h' hz hTI hTO h1 h2 hsz hk => wpAny_pyIter_zip hz ?_
      have I2 : Inv X pins σ H1 { s1 with heap := h' } := I1.kept (t' := s1.toks) hk
      have n1 : ∀ b, s1.heap.objs.size ≤ b → b ≠ s1.heap.objs.size → b ∉ S1.fp s1.heap.objs.size := fun b hb hn hm => hn (g1 _ b hb hm)
      have n2 : ∀ b, s1.heap.objs.size ≤ b → b ≠ s1.heap.objs.size + 1 → b ∉ S2.fp (s1.heap.objs.size + 1) := fun b hb hn hm => hn (g2 _ b hb hm)
      have D : ZipSep2 (s1.heap.objs.size + 4) (s1.heap.objs.size + 2) (s1.heap.objs.size + 3) s1.heap.objs.size (s1.heap.objs.size + 1) (S1.fp s1.heap.objs.size) (S2.fp (s1.heap.objs.size + 1)) :=
        ⟨Nat.ne_of_lt (by omega), Nat.ne_of_lt (by omega), Nat.ne_of_lt (by omega), Nat.ne_of_gt (by omega), S1.mem _, n1 _ (by omega) (by omega), n1 _ (by omega) (by omega), Nat.ne_of_gt (by omega), S2.mem _, n2 _ (by omega) (by omega), n2 _ (by omega) (by omega), n2 _ (by omega) (by omega), n1 _ (by omega) (by omega)⟩
      exact ⟨s1.heap.objs.size + 4, [s1.heap.objs.size + 4, s1.heap.objs.size + 2, s1.heap.objs.size + 3, s1.heap.objs.size, s1.heap.objs.size + 1], _, _, H1, rfl, I2, turn_zipX D (f1 _ (Nat.le_refl _)) (f2 _ (by omega)), ⟨hz, hTI, ⟨_, _, hTO⟩, t1 _ _ h1, t2 _ _ h2, Nat.zero_le _, Nat.zero_le _⟩, fresh5, q⟩
variable [WellKind]
/-! ### the mirror -/
def zside : D → Option (List D)
  | .list xs => some xs
  | .tuple xs => some xs
  | .str x => some (chars x)
  | _ => none
def zpX : List D → M (List D)
  | [a, b] => match zside a, zside b with
    | some xs, some ys => .ret (zipL xs ys)
    | _, _ => .fail
  | _ => .fail
def iZx (ms : Env → M (List D)) (δ : Env) : M (List D) := (ms δ).bind zpX
def SideD (K : PySem.W.Frag) (H : Hp) (S : Side) (ds : List D) : Prop := match S with
  | .lst a xs => FzL H a xs ∧ DenAll K H xs ds
  | .txt x => ds = chars x
  | .tup a xs => SqT K H a xs ∧ DenAll K H xs ds
theorem side_of {K : PySem.W.Frag} {H : Hp} {v : V} {d : D} {ds : List D} (n : Den K H v d) (e : zside d = some ds) : ∃ S : Side, v = S.v ∧ SideD K H S ds := by
  cases n with
  | lst hl ha => cases e; exact ⟨.lst _ _, rfl, hl, ha⟩
  | str x => cases e; exact ⟨.txt x, rfl, rfl⟩
  | tup hl ha => cases e; exact ⟨.tup _ _, rfl, hl, ha⟩
  | _ => cases e
theorem SideD.g {K : PySem.W.Frag} {H : Hp} {S : Side} {ds : List D} (h : SideD K H S ds) : S.G K H := by
  cases S with
  | lst a xs => exact h.1.sq
  | txt x => trivial
  | tup a xs => exact h.1
theorem SideD.n {K : PySem.W.Frag} {H : Hp} {S : Side} {ds : List D} (h : SideD K H S ds) : ds.length = S.n := by
  cases S with
  | lst a xs => exact h.2.length.symm
  | tup a xs => exact h.2.length.symm
  | txt x =>
    have h' : ds = chars x := h
    rw [h']
    unfold chars
    rw [List.length_map, Array.length_toList]; rfl
theorem SideD.fz {K : PySem.W.Frag} {H H' : Hp} {S : Side} {ds : List D} (h : SideD K H S ds) (f : Fz H H') : SideD K H' S ds := by
  cases S with
  | lst a xs => exact ⟨h.1.fz f, h.2.fz f⟩
  | txt x => exact h
  | tup a xs => exact ⟨sqT_fz h.1 f, h.2.fz f⟩
theorem SideD.get {K : PySem.W.Frag} {H : Hp} {S : Side} {ds : List D} {i : Nat} {x : V} (h : SideD K H S ds) (e : S.at i = some x) : ∃ d, ds[i]? = some d ∧ Den K H x d := by
  cases S with
  | lst a xs => exact h.2.get e
  | tup a xs => exact h.2.get e
  | txt y =>
    have h' : ds = chars y := h
    rw [h']
    have e' : (y.cps[i]?.map fun c => V.str ⟨#[c]⟩) = some x := e
    obtain ⟨c, hc, rfl⟩ := Option.map_eq_some_iff.mp e'
    refine ⟨.str ⟨#[c]⟩, ?_, .str _⟩
    unfold chars
    rw [List.getElem?_map, Array.getElem?_toList, hc]; rfl
theorem qi_zipX {X : Cx} {E : XK} {a b : Expr} {ms : Env → M (List D)} {pos p tpos : Pos} {elts : List Expr} {kk : Nat} (hm : X.mg "zip" = none) (h : QI X E [a, b] ms) (hg : Gl X "zip" := by rfl)
    (hs : starEach [a, b] X.env = (false, eval a X.env) :: starEach [b] X.env := by rfl) (hpl : (backTo pos (starEach [b] X.env)).any (·.1) = false := by rfl) :
    QIt X E (.Tuple elts kk tpos) (.Call (.Name "zip" p) [a, b] [] pos) (iZx ms) := by
  obtain ⟨t, h1, h2⟩ := h
  refine ⟨_, pi_zipX hg hm h1 hs hpl, fun w σ H δ R r q => h2 w σ H δ _ r (wp_then (wp_bind.mp q) fun d q1 v H' g n => ?_)⟩
  unfold zpX at q1
  split at q1
  · rename_i da db
    split at q1
    · rename_i xs ys ea eb
      cases n with
      | cons n1 n2 =>
        cases n2 with
        | cons n2 n3 =>
          cases n3
          obtain ⟨S1, rfl, s1⟩ := side_of n1 ea
          obtain ⟨S2, rfl, s2⟩ := side_of n2 eb
          refine ⟨S1, S2, rfl, s1.g, s2.g, q1 _ H' g (tells_pair (G := fun H => SideD X.K H S1 xs ∧ SideD X.K H S2 ys) (xs := S1.at) (ys := S2.at) ?_ ⟨s1, s2⟩ (fun Ha Hb z f => ⟨z.1.fz f, z.2.fz f⟩) fun i Ha x y hi hG ex ey => ?_)⟩
          · rw [zipL_len]
            refine ⟨fun i _ hi q => ⟨q.1.g, q.2.g, by have := q.1.n; omega, by have := q.2.n; omega⟩, fun _ q => ⟨q.1.g, q.2.g, by have := q.1.n; have := q.2.n; omega⟩, fun i H v H' _ q y => ?_⟩
            obtain ⟨T, x, y', e1, e2, e3, e4, e5⟩ := y
            exact ⟨T, x, y', e1, e2, e3, e4, e5⟩
          · obtain ⟨d, e1, n1⟩ := hG.1.get ex
            obtain ⟨e, e2, n2⟩ := hG.2.get ey
            exact ⟨d, e, zipL_get e1 e2, n1, n2⟩
    · exact q1.elim
  · exact q1.elim
/-! ### // by greater ones -/
def dFdivL : D → D → M D
  | .int a, .int b => if 0 < b ∧ b < 1208925819614629174706176 then .ret (.int (a / b)) else .fail
  | _, _ => .fail
theorem op_fdivL {X : Cx} : OpR X (binaryOp .FloorDiv) (rI (fun _ j => 0 < j ∧ j < 1208925819614629174706176) fun i j => .int (i / j)) := opI fun i j _ _ _ _ _ hc q => by
  have h1 : (0 : Int) < j := hc.1
  have h2 : j < 1208925819614629174706176 := hc.2
  refine floordiv_int (by omega) (by rw [Int.fdiv_eq_ediv_of_nonneg i (by omega)]; exact q) (.inl (PyProof.noPylong_of_log2 ?_))
  have hj : j.natAbs ≠ 0 := by omega
  exact Nat.lt_of_lt_of_le ((Nat.log2_lt hj).mpr (show j.natAbs < 2 ^ 80 by have : (2 : Nat) ^ 80 = 1208925819614629174706176 := by decide
                                                                            omega)) (by decide)
theorem qo_fdivL {X : Cx} {E : XK} : QOp X E (binaryOp .FloorDiv) dFdivL := by
  refine ⟨_, op_fdivL, fun w H x y dx dy Q hw n1 n2 q => ?_⟩
  unfold dFdivL at q
  split at q
  · obtain ⟨hz, q⟩ := ite_wp q
    exact ⟨_, _, n1.int, n2.int, hz, q _ H (.refl hw) (.int _)⟩
  · exact q.elim
end Q

set_option Elab.async false
set_option linter.all false
set_option maxRecDepth 100000
namespace Q
open PySem PySem.Spec PyProof.Rows L2
/-! ### min of a list of numbers, with a default -/
section
variable {prog : Program} {w : World} {A : Around} {R : Result → Shared → Prop} {I S : Addr} {fp wr : List Addr} {n : Nat} {P : Nat → Value → Prop} {St : Nat → Heap → Prop} {d : Value}
/-- what the loop begins to look at -/
def dKw (d : Value) : List (Str × Value) := [("default", d)]
theorem minD_more (W : Walks prog w A.in1 I fp wr n P St) (bt : Nat → Nat → Bool) (hcmp : CmpOf prog w A.in1 .Lt P bt) (hSf : S ∉ fp) :
    ∀ (k j : Nat) (s : Shared) (vb : Value) (c : Nat), n - (j + 1) = k → j + 1 ≤ n → St (j + 1) s.heap → P (argBest bt j) vb →
    s.heap.get? S = some { cls := .type "list", dict := none, data := .seq #[vb, vb] c, slots := #[] } →
    (∀ v h' tk, P (argBest bt (n - 1)) v → (∀ b o, b ∉ wr → b ≠ S → s.heap.get? b = some o → h'.get? b = some o) → R (.ok (.ret v)) { s with heap := h', toks := tk }) →
    codeAny (model prog w) A (.builtin "min.loop" ⟨[.ref I, .none, .ref S], dKw d⟩) R s := by
  have hSw : S ∉ wr := fun h => hSf (W.sub _ h)
  have hname : (toString "min" ++ toString ".loop" : String) = "min.loop" := by decide
  intro k
  induction k with
  | zero =>
    intro j s vb c hk hj hst hPb hS hR
    have hin : j + 1 = n := by omega
    refine codeAny_builtin F.entry_min_loop ?_
    rw [Around.under_plainId F.plain_min_loop _]
    show wpAny _ A.in1 (seqItems? (.ref S) >>= _) _ _ s
    refine wpAny_bind (wpAny_seqItems hS rfl ?_)
    show wpAny _ A.in1 (tryCatch (pyNext (.ref I)) _ >>= _) _ _ s
    refine wpAny_bind (wpAny_tryCatch (W.done s _ _ (hin ▸ hst) fun h' tk hk' => ?_))
    have hS' := hk' S _ hSw hS
    show wpAny _ A.in1 (updateSeq S (fun _ => #[]) >>= _) _ _ _
    refine wpAny_bind ?_
    refine wpAny_updateSeq hS' rfl (wpAny_bind (wpAny_letGo (wpAny_pure ?_)))
    exact hR vb _ tk (by rw [← hin]; exact hPb) fun b o hbw hbS e => (Heap.get?_update_other _ _ (Ne.symm hbS)).trans (hk' b o hbw e)
  | succ k ih =>
    intro j s vb c hk hj hst hPb hS hR
    have hlt : j + 1 < n := by omega
    refine codeAny_builtin F.entry_min_loop ?_
    rw [Around.under_plainId F.plain_min_loop _]
    show wpAny _ A.in1 (seqItems? (.ref S) >>= _) _ _ s
    refine wpAny_bind (wpAny_seqItems hS rfl ?_)
    show wpAny _ A.in1 (tryCatch (pyNext (.ref I)) _ >>= _) _ _ s
    refine wpAny_bind (wpAny_tryCatch (W.item (j + 1) s _ _ hlt hst fun v h' tk hP hst' hk' => ?_))
    have hS' := hk' S _ hSw hS
    show wpAny _ A.in1 (tryCatch (holding [v, v] (richCompare .Lt v vb >>= _)) _ >>= _) _ _ _
    refine wpAny_bind (wpAny_tryCatch (wpAny_holding (wpAny_bind (hcmp (j + 1) (argBest bt j) v vb _ _ _ hP hPb ?_))))
    refine wpAny_bind (wpAny_holding (wpAny_truthy_bool ?_))
    refine wpAny_bind (wpAny_letGo (wpAny_pure ?_))
    cases hb : bt (j + 1) (argBest bt j) with
    | true =>
      simp only [if_true]
      refine wpAny_bind ?_
      refine wpAny_updateSeq hS' rfl (wpAny_bind (wpAny_letGo ?_))
      rw [hname]
      refine wpAny_pure ⟨plainId_quiet F.plain_min_loop _, ih (j + 1) _ v _ (by omega) hlt (W.frame _ _ _ hst' fun b hbf o e => ?_) (by simp only [argBest, hb, if_true]; exact hP) (Heap.get?_update_self _ hS' rfl)
        fun v' h'' tk'' hP' hk'' => ?_⟩
      · exact (Heap.get?_update_other _ _ (fun h : S = b => hSf (by rw [h]; exact hbf))).trans e
      · exact hR v' h'' tk'' hP' fun b o hbw hbS e => hk'' b o hbw hbS ((Heap.get?_update_other _ _ (Ne.symm hbS)).trans (hk' b o hbw e))
    | false =>
      simp only [Bool.false_eq_true, if_false]
      refine wpAny_bind (wpAny_letGo ?_)
      rw [hname]
      refine wpAny_pure ⟨plainId_quiet F.plain_min_loop _, ih (j + 1) _ vb c (by omega) hlt hst' (by simp only [argBest, hb, Bool.false_eq_true, if_false]; exact hPb) hS' fun v' h'' tk'' hP' hk'' => ?_⟩
      exact hR v' h'' tk'' hP' fun b o hbw hbS e => hk'' b o hbw hbS (hk' b o hbw e)
/-- from the first item on -/
theorem minD_some (W : Walks prog w A.in1 I fp wr n P St) (bt : Nat → Nat → Bool) (hcmp : CmpOf prog w A.in1 .Lt P bt) (hSf : S ∉ fp) (hn : 0 < n) {s : Shared} {c : Nat} (hst : St 0 s.heap)
    (hS : s.heap.get? S = some { cls := .type "list", dict := none, data := .seq #[] c, slots := #[] })
    (hR : ∀ v h' tk, P (argBest bt (n - 1)) v → (∀ b o, b ∉ wr → b ≠ S → s.heap.get? b = some o → h'.get? b = some o) → R (.ok (.ret v)) { s with heap := h', toks := tk }) :
    codeAny (model prog w) A (.builtin "min.loop" ⟨[.ref I, .none, .ref S], dKw d⟩) R s := by
  have hSw : S ∉ wr := fun h => hSf (W.sub _ h)
  have hname : (toString "min" ++ toString ".loop" : String) = "min.loop" := by decide
  refine codeAny_builtin F.entry_min_loop ?_
  rw [Around.under_plainId F.plain_min_loop _]
  show wpAny _ A.in1 (seqItems? (.ref S) >>= _) _ _ s
  refine wpAny_bind (wpAny_seqItems hS rfl ?_)
  show wpAny _ A.in1 (tryCatch (pyNext (.ref I)) _ >>= _) _ _ s
  refine wpAny_bind (wpAny_tryCatch (W.item 0 s _ _ hn hst fun v h' tk hP hst' hk' => ?_))
  have hS' := hk' S _ hSw hS
  show wpAny _ A.in1 (updateSeq S (fun _ => #[v, v]) >>= _) _ _ _
  refine wpAny_bind ?_
  refine wpAny_updateSeq hS' rfl ?_
  rw [hname]
  refine wpAny_pure ⟨plainId_quiet F.plain_min_loop _, minD_more W bt hcmp hSf _ 0 _ v _ rfl hn (W.frame _ _ _ hst' fun b hbf o e => ?_) hP (Heap.get?_update_self _ hS' rfl) fun v' h'' tk'' hP' hk'' => ?_⟩
  · exact (Heap.get?_update_other _ _ (fun h : S = b => hSf (by rw [h]; exact hbf))).trans e
  · exact hR v' h'' tk'' hP' fun b o hbw hbS e => hk'' b o hbw hbS ((Heap.get?_update_other _ _ (Ne.symm hbS)).trans (hk' b o hbw e))
/-- no item at all: the default -/
theorem minD_nil (W : Walks prog w A.in1 I fp wr 0 P St) (hSf : S ∉ fp) {s : Shared} {c : Nat} (hst : St 0 s.heap)
    (hS : s.heap.get? S = some { cls := .type "list", dict := none, data := .seq #[] c, slots := #[] })
    (hR : ∀ h' tk, (∀ b o, b ∉ wr → b ≠ S → s.heap.get? b = some o → h'.get? b = some o) → R (.ok (.ret d)) { s with heap := h', toks := tk }) :
    codeAny (model prog w) A (.builtin "min.loop" ⟨[.ref I, .none, .ref S], dKw d⟩) R s := by
  have hSw : S ∉ wr := fun h => hSf (W.sub _ h)
  refine codeAny_builtin F.entry_min_loop ?_
  rw [Around.under_plainId F.plain_min_loop _]
  show wpAny _ A.in1 (seqItems? (.ref S) >>= _) _ _ s
  refine wpAny_bind (wpAny_seqItems hS rfl ?_)
  show wpAny _ A.in1 (tryCatch (pyNext (.ref I)) _ >>= _) _ _ s
  refine wpAny_bind (wpAny_tryCatch (W.done s _ _ hst fun h' tk hk' => ?_))
  refine wpAny_bind (wpAny_rule (wpAny_pure ?_))
  exact hR h' tk fun b o hbw _ e => hk' b o hbw e
end
section
variable {prog : Program} {w : World} {A : Around} {E : Value → Shared → Prop} {s : Shared} {l : Addr} {its : List Value} {ns : List Int} {Q : Value → Shared → Prop} {d : Value}
theorem minD_args (a v : Value) : argsOk "min" ⟨[a], dKw v⟩ := by unfold argsOk; kernel_rfl
theorem minD_raw (hh : A.handled = none) (hl : s.heap.IsList l its.toArray) (hi : IntsAre its ns)
    (h0 : ns = [] → ∀ h' tk, (∀ b o, s.heap.get? b = some o → h'.get? b = some o) → Q d { s with heap := h', toks := tk })
    (h : ∀ h' tk M t', (∀ b o, s.heap.get? b = some o → h'.get? b = some o) → M ∈ ns → (∀ a, a ∈ ns → M ≤ a) → Q (.int M t') { s with heap := h', toks := tk }) : wpAny (model prog w) A (call (.builtin "min") [.ref l] (dKw d)) Q E s := by
  have hname : (toString "min" ++ toString ".loop" : String) = "min.loop" := by decide
  obtain ⟨xs, e⟩ := hi.allInts.items
  have hn : numsOf (intItems xs).toList = ns := by rw [← e]; exact hi.numsOf
  rw [nums_intItems] at hn
  subst hn
  rw [e] at hl
  refine kmb_tree F.kind_min F.plain_min F.entry_min (minD_args _ _) ?_
  show wpAny _ A.in1 (Builtin.Builtins.bindParams "min" ["key", "default"] 0 ⟨[], dKw d⟩ >>= _) _ _ s
  refine wpAny_bind (wpAny_of_eq (show Builtin.Builtins.bindParams "min" ["key", "default"] 0 ⟨[], dKw d⟩ = pure [none, some d] from rfl) ?_)
  refine wpAny_bind (wpAny_pure ?_)
  refine wpAny_bind (iter_intList hl fun s₂ e2 st hfp hlI => ?_)
  subst e2
  refine wpAny_bind (wpAny_newObj_type ?_)
  rw [hname]
  have W := Walks.list (prog := prog) (w := w) (A := A.in1) hh s.heap.objs.size l hlI (intItems xs)
  have hsz := Heap.size_push (h := s.heap) (o := { cls := .type "list_iterator", data := .fields #[.ref l, .int 0 0] })
  have hSf : (s.heap.push { cls := .type "list_iterator", data := .fields #[.ref l, .int 0 0] }).objs.size ∉ [s.heap.objs.size, l] := fun hm => Nat.lt_irrefl _ (hfp _ hm)
  have hst' := W.frame 0 _ ((s.heap.push { cls := .type "list_iterator", data := .fields #[.ref l, .int 0 0] }).push { cls := .type "list", dict := none, data := .seq #[] 0, slots := #[] }) st fun b _ o e => Heap.get?_push_of_some _ e
  have kept : ∀ {h' : Heap}, (∀ b o, b ∉ [s.heap.objs.size] → b ≠ (s.heap.push { cls := .type "list_iterator", data := .fields #[.ref l, .int 0 0] }).objs.size → ((s.heap.push { cls := .type "list_iterator", data := .fields #[.ref l, .int 0 0] }).push { cls := .type "list", dict := none, data := .seq #[] 0, slots := #[] }).get? b = some o → h'.get? b = some o) →
      ∀ b o, s.heap.get? b = some o → h'.get? b = some o := fun hk b o e => by
    have h1 := Heap.lt_size e
    have h2 := Heap.get?_push_of_some { cls := .type "list_iterator", data := .fields #[.ref l, .int 0 0] } e
    exact hk b o (fun hm => Nat.ne_of_lt h1 (List.mem_singleton.mp hm)) (Nat.ne_of_lt (Heap.lt_size h2)) (Heap.get?_push_of_some _ h2)
  by_cases hz : xs.size = 0
  · have hnil : xs.toList.map (·.1) = [] := by
      have : xs = #[] := Array.eq_empty_of_size_eq_zero hz
      rw [this]; rfl
    have hz' : (intItems xs).size = 0 := by simp [intItems, hz]
    rw [hz'] at W
    exact wpAny_pure ⟨plainId_quiet F.plain_min_loop _, minD_nil W hSf hst' (Heap.get?_push_size _ rfl) fun h' tk hk => h0 hnil h' tk (kept hk)⟩
  · have hsz' : (intItems xs).size = xs.size := by simp [intItems]
    rw [hsz'] at W
    refine wpAny_pure ⟨plainId_quiet F.plain_min_loop _, minD_some W (fun i j => decide (numAt xs i < numAt xs j)) (CmpOf.ints_lt (numAt xs) (fun _ _ => intItems_at)) hSf (by omega) hst' (Heap.get?_push_size _ rfl) fun v h' tk hv hk => ?_⟩
    obtain ⟨t, rfl⟩ := intItems_at hv
    obtain ⟨b1, b2⟩ := argBest_lt (numAt xs) (xs.size - 1)
    refine h h' tk _ t (kept hk) ?_ fun a ha => ?_
    · rw [numAt_eq]; exact PySem.getD_mem (by rw [List.length_map, Array.length_toList]; omega)
    · obtain ⟨j, hj, rfl⟩ := mem_getD ha
      rw [List.length_map, Array.length_toList] at hj
      rw [← numAt_eq]; exact b2 j (by omega)
end
/-! ### the rule -/
variable [WellKind]
def dMinD : List D → M D
  | [.list ds] => match intsOf ds with
    | some [] => .ret .none
    | some (n :: ns) => .ret (.int (minL n ns))
    | none => .fail
  | _ => .fail
section
variable {X : Cx} {E : XK} {e : Expr} {ms : Env → M (List D)} {pos p cpos kpos : Pos} {j : Nat}
theorem qe_minD (hc : X.calm = true) (hm : X.mg "min" = none) (h : QA X E [e] ms) (hg : Gl X "min" := by rfl) (he : backTo pos (starEach [e] X.env) = (false, eval e X.env) :: backTo pos (starEach [] X.env) := by rfl) (hpl : (backTo pos (starEach [e] X.env)).any (·.1) = false := by rfl) :
    QE X E (.Call (.Name "min" p) [e] [⟨some "default", .Constant .none j cpos, kpos⟩] pos) (eB dMinD ms) := by
  obtain ⟨t, a1, a2⟩ := h
  refine ⟨fun σ H Q => t σ H fun vs H1 => ∃ (a : Addr) (ns : List Int), vs = [V.ref a] ∧ SqL X.K H1 a (ns.map V.int) ∧ (ns = [] → Q .non H1) ∧ ∀ m, m ∈ ns → (∀ y, y ∈ ns → m ≤ y) → Q (.int m) H1, ⟨fun pins s σ H Q I h => ?_⟩, fun w σ H δ Q rl q => a2 w σ H δ _ rl (wp_then (wp_bind.mp q) fun ds q1 vs H1 g1 n1 => ?_)⟩
  · refine wpAny_Call_Name_kw (ld_blt I hg hm (u := .builtin "min") (by first | rfl | decide +kernel) ?_ (by first | decide +kernel | decide) (by first | decide +kernel | decide))
    refine callWith_kw (thn (a1.run pos pins s σ H _ I h) fun us s1 ⟨vs, H1, I1, r, a, ns, ev, hs, q0, q1⟩ => ?_) he hpl
    refine kws_cons (wpAny_Constant_none (kws_nil ?_))
    subst ev
    obtain ⟨its, rv, hl, _⟩ := I1.list hs
    rw [Vals.ref1 r]
    refine minD_raw (d := .none) (I1.ok.hd hc) hl.isList rv.ints (fun hz h' tk hk => ⟨.non, H1, I1.kept hk, rfl, q0 hz⟩) fun h' tk m t' hk h1 h2 => ⟨.int _, H1, I1.kept hk, ⟨_, rfl⟩, q1 m h1 h2⟩
  · unfold dMinD at q1
    split at q1
    · obtain ⟨v, rfl, nn⟩ := bd1 n1
      obtain ⟨a, xs, rfl, h1, h2⟩ := nn.list
      split at q1
      · rename_i e
        have ed := intsOf_eq e
        subst ed
        have ev := denAll_ints h2
        subst ev
        exact ⟨a, [], rfl, .inl h1, fun _ => q1 _ H1 g1 .non, fun m hm => (nomatch hm)⟩
      · rename_i m ns e
        have ed := intsOf_eq e
        subst ed
        have ev := denAll_ints h2
        subst ev
        refine ⟨a, m :: ns, rfl, .inl h1, fun z => (nomatch z), fun k hk hle => ?_⟩
        obtain ⟨s1, s2, s3⟩ := minL_spec ns m
        have : k = minL m ns := by
          have a1 : k ≤ minL m ns := by
            rcases s1 with z | z
            · rw [z]; exact hle m List.mem_cons_self
            · exact hle _ (List.mem_cons_of_mem _ z)
          have a2 : minL m ns ≤ k := by
            rcases List.mem_cons.mp hk with rfl | z
            · exact s2
            · exact s3 k z
          omega
        rw [this]
        exact q1 _ H1 g1 (.int _)
      · exact q1.elim
    · exact q1.elim
end
end Q

set_option Elab.async false
set_option linter.all false
set_option maxRecDepth 100000
namespace Q
open PySem PySem.Spec PyProof.Rows L2
variable [WellKind]
/-! ### f(well, own): a list of one's own is lent to a def for the time of a call; the answer holds no list -/
mutual
def plain : D → Bool
  | .list _ => false
  | .dict _ => false
  | .tuple xs => plainAll xs
  | _ => true
def plainAll : List D → Bool
  | [] => true
  | d :: ds => plain d && plainAll ds
end
section
variable {K : PySem.W.Frag} {H : Hp} {p : Addr} {o : Obj} {us : List V}
theorem sqT_unlock {a : Addr} {xs : List V} (e : H p = some (.frz o (.lst us))) (h : SqT K H a xs) : SqT K (upd H p (.lst us)) a xs := by
  unfold SqT at h ⊢
  rcases h with h | h
  · left
    rcases h with h | ⟨o', h⟩
    · exact .inl (by rw [upd_ne (fun z => by rw [z, e] at h; cases h)]; exact h)
    · exact .inr ⟨o', by rw [upd_ne (fun z => by rw [z, e] at h; cases h)]; exact h⟩
  · exact .inr h
mutual
theorem den_unlock (e : H p = some (.frz o (.lst us))) : ∀ {v : V} {d : D}, Den K H v d → plain d = true → Den K (upd H p (.lst us)) v d
  | _, _, .non, _ => .non
  | _, _, .bl b, _ => .bl b
  | _, _, .int i, _ => .int i
  | _, _, .str x, _ => .str x
  | _, _, .lst _ _, z => by unfold plain at z; cases z
  | _, _, .dct _ _, z => by unfold plain at z; cases z
  | _, _, .tup h a, z => .tup (sqT_unlock e h) (denAll_unlock e a (by unfold plain at z; exact z))
theorem denAll_unlock (e : H p = some (.frz o (.lst us))) : ∀ {vs : List V} {ds : List D}, DenAll K H vs ds → plainAll ds = true → DenAll K (upd H p (.lst us)) vs ds
  | _, _, .nil, _ => .nil
  | _, _, .cons a b, z => by
    unfold plainAll at z
    rw [Bool.and_eq_true] at z
    exact .cons (den_unlock e a z.1) (denAll_unlock e b z.2)
end
end
def kLent (d : D) : M D := if plain d = true then .ret d else .fail
def eLent (fm : List Slot → M D) (i j : Nat) (δ : Env) : M D := match δ[i]?, δ[j]? with
  | some .well, some (.own ds) => ((fm [.well, .dat (.list ds)]).calm).bind kLent
  | _, _ => .fail
section
variable {u : Bool} {X : Cx} {E : XK} {pos p p1 p2 : Pos}
theorem qe_lent (i j : Nat) {k : Nat} {f : Addr} {fd : FuncData} {ps : List Str} {fm : List Slot → M D} {x y z : Str} (F : GOk u X.prog X.w X.K X.mg X.base k f fd ps (spM X.K X.mg ps.length fm)) (gd : Good u X E k) (hm : X.mg x = some (.ref f)) (hk : PySem.W.keepIn X.K (.ref f) = true) (hb : Binds X.K fd ps [])
    (hl : ps.length = 2 := by rfl) (hg : Gl X x := by rfl) (hdb : (x == ("__debug__" : Str)) = false := by decide)
    (hNy : X.N[i]? = some y := by rfl) (hvy : Vis X.env.scope y := by first | exact Or.inl rfl | exact Or.inr (Or.inl rfl) | exact Or.inr (Or.inr rfl)) (hdy : (y == ("__debug__" : Str)) = false := by decide) (hcy : (y == ("__classdict__" : Str)) = false := by decide)
    (hNz : X.N[j]? = some z := by rfl) (hvz : Vis X.env.scope z := by first | exact Or.inl rfl | exact Or.inr (Or.inl rfl) | exact Or.inr (Or.inr rfl)) (hdz : (z == ("__debug__" : Str)) = false := by decide) (hcz : (z == ("__classdict__" : Str)) = false := by decide)
    (he1 : starEach [.Name y p1, .Name z p2] X.env = (false, eval (.Name y p1) X.env) :: starEach [.Name z p2] X.env := by rfl) (he2 : starEach [.Name z p2] X.env = (false, eval (.Name z p2) X.env) :: starEach [] X.env := by rfl)
    (hpl : (backTo pos (starEach [.Name z p2] X.env)).any (·.1) = false := by rfl) :
    QE X E (.Call (.Name x p) [.Name y p1, .Name z p2] [] pos) (eLent fm i j) := by
  have a : PA X [.Name y p1, .Name z p2] (tCons (tVar i) (tCons (tVar j) tNil)) := pa_cons (pe_var hNy hvy hdy hcy) (pa_cons (pe_var hNz hvz hdz hcz) pa_nil he2) he1
  refine ⟨fun σ H Q => tCons (tVar i) (tCons (tVar j) tNil) σ H fun vs H1 => ∃ q xs, H1 q = some (.lst xs) ∧ ∀ o, spM X.K X.mg ps.length fm vs (upd H1 q (.frz o (.lst xs))) (fun v H2 => H2 q = some (.frz o (.lst xs)) ∧ Q v (upd H2 q (.lst xs))) E,
    ⟨fun pins s σ H Q I h => wpAny_Call_Name_kw (ld_glob I hg hm ?_ hdb)⟩, fun w σ H δ Q r q => ?_⟩
  · refine PySem.W.callWith_K (h₀ := X.base) I.ok.mod.kin hk (thn (a.run pos pins s σ H _ I h) fun us s1 ⟨vs, H1, I1, r, q, xs, e, g⟩ => ⟨I1.kIn, ?_⟩) he1 hpl
    obtain ⟨o, I2⟩ := I1.lock e trivial
    have g := g o
    have hb' := hb s1 us I1.kIn (by rw [List.append_nil, ← r.length]; exact F.ar _ _ _ _ g)
    rw [List.append_nil] at hb'
    refine thn (run_g F gd I2 hb' r g) fun v s2 ⟨v', H2, I3, rv, e2, k⟩ => ⟨v', _, I3.unlock e2 (I1.nofrz e trivial), rv, k⟩
  · unfold eLent at q
    split at q
    · rename_i ds ew eo
      obtain ⟨wx, hw, e1⟩ := r.slot i _ ew
      obtain ⟨pp, vs, e2, h1, h2, h3⟩ := r.slot j _ eo
      refine ⟨_, e1, _, e2, pp, vs, h1, fun o => ?_⟩
      have np := h3 wx hw
      have ne1 : ∀ {b : Addr} {ob : HO}, H b = some ob → (∀ xs, ob ≠ .lst xs) → b ≠ pp := fun e n z => by
        rw [z, h1] at e
        cases e
        exact n _ rfl
      have t1 : ∀ b xs, H b = some (.tup xs) → upd H pp (.frz o (.lst vs)) b = some (.tup xs) := fun b xs e => by rw [upd_ne (ne1 e fun _ z => nomatch z)]; exact e
      have t2 : ∀ b ob xs, H b = some (.frz ob xs) → upd H pp (.frz o (.lst vs)) b = some (.frz ob xs) := fun b ob xs e => by rw [upd_ne (ne1 e fun _ z => nomatch z)]; exact e
      have hwk := r.well wx hw
      have upw : ∀ {Ha : Hp} {u : HO}, WellOk Ha wx → WellOk (upd Ha pp u) wx := fun {Ha u} W => by
        obtain ⟨⟨oa, og, oc, wa, wg, wc, P⟩, n1, n2, n3⟩ := W
        exact ⟨⟨oa, og, oc, by rw [upd_ne (Ne.symm np.1)]; exact wa, by rw [upd_ne (Ne.symm np.2.1)]; exact wg, by rw [upd_ne (Ne.symm np.2.2)]; exact wc, P⟩, n1, n2, n3⟩
      refine ⟨w, [.well, .dat (.list ds)], by rw [hl]; rfl, .well hw (.dat (.lst ⟨o, upd_same⟩ (denAll_upd t1 t2 h2)) .nil), fun x hx => ?_, ?_, ?_⟩
      · rw [hw] at hx
        cases hx
        exact upw hwk
      · exact r.tabs.stay (fun b ps e => by rw [upd_ne (fun z => by (rw [z, h1] at e; cases e))]; exact e) fun c q e => by rw [upd_ne (fun z => by (rw [z, h1] at e; cases e))]; exact e
      · refine wp_mono (wp_calm (wp_bind.mp q)) (fun d k v H2 g n => ?_) fun _ z => z.elim
        have e5 := g.frzs pp o (.lst vs) upd_same
        refine ⟨e5, ?_⟩
        unfold kLent at k
        split at k
        · rename_i hp
          refine k v _ ⟨fun b xs e => ?_, fun b ob xs e => ?_, fun b ob e nt nw => ?_, fun x hx => ?_, fun t => ?_⟩ (den_unlock e5 n hp)
          · rw [upd_ne (ne1 e fun _ z => nomatch z)]; exact g.tups b xs (t1 b xs e)
          · rw [upd_ne (ne1 e fun _ z => nomatch z)]; exact g.frzs b ob xs (t2 b ob xs e)
          · by_cases hb : b = pp
            · rw [hb] at e ⊢
              rw [upd_same, ← h1, e]
            · rw [upd_ne hb]
              exact g.keep b ob (by rw [upd_ne hb]; exact e) nt nw
          · rw [hw] at hx
            cases hx
            exact upw (g.well wx hw)
          · have T1 : Tbs (upd H pp (.frz o (.lst vs))) := t.stay (fun b ps e => by rw [upd_ne (fun z => by (rw [z, h1] at e; cases e))]; exact e) fun c q e => by rw [upd_ne (fun z => by (rw [z, h1] at e; cases e))]; exact e
            exact (g.tabs T1).stay (fun b ps e => by rw [upd_ne (fun z => by (rw [z, e5] at e; cases e))]; exact e) fun c q e => by rw [upd_ne (fun z => by (rw [z, e5] at e; cases e))]; exact e
        · exact k.elim
    · exact q.elim
end
end Q

set_option Elab.async false
set_option linter.all false
set_option maxRecDepth 100000
set_option maxHeartbeats 3200000
namespace Q
open PySem PySem.Spec PyProof.Rows L2
/-! ### set(list of ints) as a set with its order: for sorted(set(..)) -/
section
variable {P : Program} {w : World} {A : Around} {E : Value → Shared → Prop} {s : Shared}
/-- the empty set as it is made -/
abbrev set0 (w : World) : Obj := { cls := .type "set", dict := none, data := .set #[] 0 (.fresh 0 0 (!w.params.followText "set-order")) }
/-- what a set that holds the ints of ns at a is to the state before -/
def SetFrom (w : World) (s : Shared) (ns : List Int) (s₂ : Shared) : Prop :=
  ∃ h' tk c, s₂ = { s with heap := h', toks := tk } ∧ SetR w h' s.heap.objs.size (fun j => decide (j ∈ ns)) c ∧ c ≤ ns.length ∧ ∀ b o, s.heap.get? b = some o → h'.get? b = some o
theorem set_init_list {l : Addr} {items : Array Value} {ns : List Int} (hh : A.handled = none) (hl : s.heap.IsList l items) (hit : IntsAre items.toList ns) (hb : ns.length + 1 < scanBound) :
    codeAny (model P w) A (.call (.builtin "set.__init__") ⟨[.ref s.heap.objs.size, .ref l], []⟩) (wants (fun r s₂ => r = .none ∧ SetFrom w s ns s₂) E) { s with heap := s.heap.push (set0 w) } := by
  have hsz : items.size = ns.length := by
    have q := IntsAre.length hit
    rwa [Array.length_toList] at q
  have hS : (s.heap.push (set0 w)).get? s.heap.objs.size = some (set0 w) := Heap.get?_push_size _ rfl
  have hT : Shared.TypeIs { s with heap := s.heap.push (set0 w) } (.ref s.heap.objs.size) "set" := ⟨_, hS, rfl⟩
  refine codeAny_call_builtin F.called_set.init.plain F.entry_set_init (check_set_init_1 hT ?_)
  obtain ⟨ol, hol, hcl, nl, hdl⟩ := hl
  obtain ⟨ocls, odict, odata, oslots⟩ := ol
  simp only at hcl hdl
  subst hcl; subst hdl
  have hol' := Heap.get?_push_of_some (set0 w) hol
  have hsls := F.sub_list_set
  have hslf := F.sub_list_frozenset
  have hne : (Value.type "list" == Value.type "dict") = false := by decide
  have hl1 : (s.heap.push (set0 w)).IsList l items := ⟨_, hol', rfl, nl, rfl⟩
  unfold Builtin.«set.__init__» noKeywords Builtin.Frozenset.updateFrom
  generalize hPI : pyIter = PI
  wp_walk
  subst hPI
  refine wpAny_pyIter_list hl1 (wpAny_bind (wpAny_runValue ?_))
  have hlS : l < s.heap.objs.size := Heap.lt_size hol
  have hneI : l ≠ (s.heap.push (set0 w)).objs.size := by
    rw [Heap.size_push]; exact Nat.ne_of_lt (Nat.lt_succ_of_lt hlS)
  have hSf : s.heap.objs.size ∉ [(s.heap.push (set0 w)).objs.size, l] := by
    rw [Heap.size_push]
    simp only [List.mem_cons, List.not_mem_nil, or_false, not_or]
    exact ⟨Nat.ne_of_lt (Nat.lt_succ_self _), Nat.ne_of_gt hlS⟩
  refine set_update_ints (Walks.list (by simp [hh]) _ l hneI items).toS s.heap.objs.size hSf ns hsz hb (fun i v hv => ?_) (items.size - 0) 0 _ (by omega) (Nat.zero_le _)
    ⟨⟨_, Heap.get?_push_size _ rfl, rfl, rfl⟩, hl1.push _⟩ ⟨0, Nat.le_refl 0, setR_new_at (Heap.get?_push_of_some _ hS)⟩ fun s' c' hm hc' hS' => ?_
  · have hi : i < ns.length := by rw [← hsz]; exact (Array.getElem?_eq_some_iff.mp hv).1
    obtain ⟨t, e⟩ := PyProof.Rows.IntsAre.int_at hit i v (by rw [Array.getElem?_toList]; exact hv)
    refine ⟨ns[i], t, List.getElem?_eq_getElem hi, ?_⟩
    rw [e, List.getD_eq_getElem?_getD, List.getElem?_eq_getElem hi]
    rfl
  · obtain ⟨h', g2, d', tk', os'⟩ := s'
    have eg : g2 = s.gens := hm.gens
    have ed : d' = s.drawn := hm.drawn
    have eo : os' = s.os := hm.os
    subst eg; subst ed; subst eo
    show wpAny _ _ _ _ _ _
    refine wpAny_pure ?_
    show wpAny _ _ (ret Value.none) _ _ _
    refine wpAny_pure ⟨rfl, h', tk', c', rfl, hS', by rw [← hsz]; exact hc', fun b o e => ?_⟩
    have hb0 : b < s.heap.objs.size := Heap.lt_size e
    refine hm.heap b o ?_ (Heap.get?_push_of_some _ (Heap.get?_push_of_some _ e))
    rw [Heap.size_push]
    simp only [List.mem_cons, List.not_mem_nil, or_false, not_or]
    exact ⟨Nat.ne_of_lt hb0, Nat.ne_of_lt (Nat.lt_succ_of_lt hb0)⟩
theorem call_set_listI {l : Addr} {items : Array Value} (ns : List Int) {Q : Value → Shared → Prop} (hh : A.handled = none) (hl : s.heap.IsList l items) (hit : IntsAre items.toList ns) (hb : ns.length + 1 < scanBound)
    (h : ∀ s₂, SetFrom w s ns s₂ → Q (.ref s.heap.objs.size) s₂) : wpAny (model P w) A (call (.type "set") [.ref l]) Q E s := by
  obtain ⟨c, tl, hmro⟩ := F.called_set.mro
  have hmade := F.called_set.made
  have hsub := F.called_set.sub
  refine wpAny_call (codeAny_of_tree ?_)
  show wpAny _ _ (callAny (.type "set") _) _ _ _
  refine wpAny_pure ⟨Code.quiet_builtin _ (by decide +kernel), codeAny_builtin F.entry_type_call ?_⟩
  rw [Around.under_plain (weight_type_call_type "set" [.ref l] []) rfl]
  have h1 := F.called_set.notType
  have h2 := F.called_set.canCreate
  have hct := F.typeCall_set_1 (.ref l)
  repeat (any_goals (first | assumption | wp_step))
  refine codeAny_mono (code_set_led1 (.ref l) (E := E) (Q₁ := fun obj s₁ => obj = .ref s.heap.objs.size ∧ s₁ = { s with heap := s.heap.push (set0 w) }) ⟨rfl, rfl⟩) fun r s₁ hr => ?_
  match r, hr with
  | .error e, hr => exact hr
  | .ok (.ret obj), ⟨e1, e2⟩ =>
    subst e1; subst e2
    have hS : (s.heap.push (set0 w)).get? s.heap.objs.size = some (set0 w) := Heap.get?_push_size _ rfl
    have hT : Shared.TypeIs { s with heap := s.heap.push (set0 w) } (.ref s.heap.objs.size) "set" := ⟨_, hS, rfl⟩
    have hli := F.called_set.init.lookup
    have hbi := F.called_set.init.bind (.ref s.heap.objs.size)
    repeat (any_goals (first | assumption | wp_step))
    refine codeAny_mono (set_init_list (s := s) (E := E) (by simpa using hh) hl hit hb) fun r₂ s₂ hr₂ => ?_
    match r₂, hr₂ with
    | .error e, hr₂ => exact hr₂
    | .ok (.ret r), ⟨e, hf⟩ =>
      subst e
      repeat (any_goals (first | assumption | wp_step))
      exact h _ hf
end
end Q

set_option Elab.async false
set_option linter.all false
set_option maxRecDepth 100000
namespace Q
open PySem PySem.Spec PyProof.Rows L2
/-! ### sorted(set(e)) of ints -/
def tSrtSet (K : PySem.W.Frag) (ta : TE) : TE := fun σ H Q => ta σ H fun x H1 => ∃ (l : Addr) (ns : List Int), x = V.ref l ∧ (SqL K H1 l (ns.map V.int) ∨ SqT K H1 l (ns.map V.int)) ∧ ns.length < 63 ∧
  ∀ (ms : List Int) (p : Addr), ms.Pairwise (· < ·) → (∀ k, k ∈ ms ↔ k ∈ ns) → H1 p = none → Q (.ref p) (upd H1 p (.lst (ms.map V.int)))
section
variable {X : Cx} {a : Expr} {ta : TE} {p p2 q pos : Pos}
theorem srt_one {pins : List (Addr × Obj)} {σ : L2.St} {H1 : Hp} {s0 : Shared} {ns : List Int} {S : Addr} {c : Nat} {Q : VK} (hc : X.calm = true) (I : Inv X pins σ H1 s0) (R : SetR X.w s0.heap S (fun j => decide (j ∈ ns)) c) (h64 : c < 64)
    (q1 : ∀ (ms : List Int) (p : Addr), ms.Pairwise (· < ·) → (∀ k, k ∈ ms ↔ k ∈ ns) → H1 p = none → Q (.ref p) (upd H1 p (.lst (ms.map V.int)))) :
    wpAny (model X.prog X.w) X.A (call (.builtin "sorted") [.ref S]) (fun v s' => ∃ x H', Inv X pins σ H' s' ∧ RelV x v ∧ Q x H') X.xe s0 := by
  refine sorted_set R (I.ok.hd hc) h64 fun s' r out cc ms kk g o hp hg hi hs hm hlen => ?_
  have hn : H1 r = none := I.hok.fresh hp
  have hz : (ms.map V.int).length ≤ sizeLine := by rw [List.length_map, hlen, sizeLine_eq]; omega
  have J : Inv X pins σ (upd H1 r (.lst (ms.map V.int))) { s0 with heap := s'.heap, gens := s'.gens, drawn := s'.drawn, toks := s'.toks } :=
    I.call (ch := []) (Un.laid kk hp hn) (I.hok.laid kk hp ⟨hz, out.toList, cc, vals_of_ints hi, hg⟩) (by rw [g]; exact I.bare) (fun _ z => nomatch z)
  have e : s' = { s0 with heap := s'.heap, gens := s'.gens, drawn := s'.drawn, toks := s'.toks } := by
    cases s'
    cases s0
    cases o
    rfl
  rw [e]
  exact ⟨.ref r, _, J, rfl, q1 ms r hs (fun j => by rw [hm j, decide_eq_true_eq]) hn⟩
theorem srt_end {pins : List (Addr × Obj)} {σ : L2.St} {H1 : Hp} {s1 : Shared} {ns : List Int} {Q : VK} (hc : X.calm = true) (I1 : Inv X pins σ H1 s1) (hl : ns.length < 63) {s2 : Shared} (hf : SetFrom X.w s1 ns s2)
    (q1 : ∀ (ms : List Int) (p : Addr), ms.Pairwise (· < ·) → (∀ k, k ∈ ms ↔ k ∈ ns) → H1 p = none → Q (.ref p) (upd H1 p (.lst (ms.map V.int)))) :
    wpAny (model X.prog X.w) X.A (call (.builtin "sorted") [.ref s1.heap.objs.size]) (fun v s' => ∃ x H', Inv X pins σ H' s' ∧ RelV x v ∧ Q x H') X.xe s2 := by
  obtain ⟨h', tk, c, rfl, R, hcn, k⟩ := hf
  exact srt_one hc (I1.kept fun b o e => k b o e) R (by omega) q1
theorem pe_srtSet (hc : X.calm = true) (hg : Gl X "sorted") (hm : X.mg "sorted" = none) (hg2 : Gl X "set") (hm2 : X.mg "set" = none) (ha : PE X a ta)
    (na : starEach [a] X.env = (false, eval a X.env) :: starEach [] X.env := by rfl) : PE X (.Call (.Name "sorted" p) [.Call (.Name "set" p2) [a] [] q] [] pos) (tSrtSet X.K ta) := by
  refine ⟨fun pins s σ H Q I h => ?_⟩
  refine Call_ (ld_blt I hg hm boot_sorted ?_)
  refine PyProof.Rows.callWith_builtin1 (PyProof.Rows.args_cons ?_ rfl) rfl rfl
  refine Call_ (ld_blt I hg2 hm2 PyProof.Rows.boot_set ?_)
  refine PyProof.Rows.callWith_type1 (PyProof.Rows.args_cons (thn (ha.run pins s σ H _ I h) fun v s1 ⟨x, H1, I1, r1, q1⟩ => PyProof.Rows.args_nil ?_) na) na rfl
  obtain ⟨l, ns, rfl, hq, hl, q1⟩ := q1
  cases r1
  rcases hq with hq | hq
  · obtain ⟨its, r, pl, hz⟩ := I1.list hq
    refine call_set_listI ns (I1.ok.hd hc) pl.isList (ints_of_vals r) (by unfold scanBound; omega) fun s2 hf => PyProof.Rows.args_nil ?_
    exact srt_end hc I1 hl hf q1
  · obtain ⟨its, r, pt, hz⟩ := I1.tuple hq
    refine call_set_tupI ns (I1.ok.hd hc) (show s1.heap.IsTuple l its.toArray from pt) (ints_of_vals r) (by unfold scanBound; omega) fun h' tk c R hcn k => PyProof.Rows.args_nil ?_
    exact srt_end hc I1 hl ⟨h', tk, c, rfl, R, hcn, k⟩ q1
end
theorem intsOf_map : ∀ ns : List Int, intsOf (ns.map PyData.int) = some ns
  | [] => rfl
  | n :: ns => by show (intsOf (ns.map PyData.int)).map (n :: ·) = _; rw [intsOf_map ns]; rfl
/-- put into a rising list, once -/
def ins (k : Int) : List Int → List Int
  | [] => [k]
  | j :: l => if k < j then k :: j :: l else if k = j then j :: l else j :: ins k l
def srt (ns : List Int) : List Int := ns.foldr ins []
theorem mem_ins {k : Int} : ∀ {l : List Int} {x : Int}, x ∈ ins k l ↔ x = k ∨ x ∈ l
  | [], x => by simp [ins]
  | j :: l, x => by
    unfold ins
    by_cases h1 : k < j
    · rw [if_pos h1]; simp
    · rw [if_neg h1]
      by_cases h2 : k = j
      · rw [if_pos h2]; subst h2; simp
      · rw [if_neg h2]
        simp only [List.mem_cons, mem_ins (l := l)]
        constructor
        · rintro (h | h | h) <;> simp [h]
        · rintro (h | h | h) <;> simp [h]
theorem ins_up {k : Int} : ∀ {l : List Int}, l.Pairwise (· < ·) → (ins k l).Pairwise (· < ·)
  | [], _ => by simp [ins]
  | j :: l, h => by
    obtain ⟨h1, h2⟩ := List.pairwise_cons.mp h
    unfold ins
    by_cases c1 : k < j
    · rw [if_pos c1]
      refine List.pairwise_cons.mpr ⟨fun x hx => ?_, h⟩
      rcases List.mem_cons.mp hx with rfl | hx
      · exact c1
      · have := h1 x hx; omega
    · rw [if_neg c1]
      by_cases c2 : k = j
      · rw [if_pos c2]; exact h
      · rw [if_neg c2]
        refine List.pairwise_cons.mpr ⟨fun x hx => ?_, ins_up h2⟩
        rcases mem_ins.mp hx with rfl | hx
        · omega
        · exact h1 x hx
theorem mem_srt : ∀ {ns : List Int} {x : Int}, x ∈ srt ns ↔ x ∈ ns
  | [], x => by simp [srt]
  | n :: ns, x => by
    show x ∈ ins n (srt ns) ↔ _
    rw [mem_ins, mem_srt (ns := ns), List.mem_cons]
theorem srt_up : ∀ ns : List Int, (srt ns).Pairwise (· < ·)
  | [] => by simp [srt]
  | n :: ns => ins_up (srt_up ns)
theorem up_uniq : ∀ {l m : List Int}, l.Pairwise (· < ·) → m.Pairwise (· < ·) → (∀ x, x ∈ l ↔ x ∈ m) → l = m
  | [], [], _, _, _ => rfl
  | [], y :: m, _, _, h => absurd ((h y).mpr List.mem_cons_self) (by simp)
  | x :: l, [], _, _, h => absurd ((h x).mp List.mem_cons_self) (by simp)
  | x :: l, y :: m, h1, h2, h => by
    obtain ⟨a1, a2⟩ := List.pairwise_cons.mp h1
    obtain ⟨b1, b2⟩ := List.pairwise_cons.mp h2
    have e : x = y := by
      rcases List.mem_cons.mp ((h x).mp List.mem_cons_self) with e | e
      · exact e
      · rcases List.mem_cons.mp ((h y).mpr List.mem_cons_self) with e' | e'
        · exact e'.symm
        · have := b1 x e; have := a1 y e'; omega
    subst e
    rw [up_uniq a2 b2 fun z => ?_]
    constructor
    · intro hz
      rcases List.mem_cons.mp ((h z).mp (List.mem_cons_of_mem _ hz)) with e | e
      · have := a1 z hz; omega
      · exact e
    · intro hz
      rcases List.mem_cons.mp ((h z).mpr (List.mem_cons_of_mem _ hz)) with e | e
      · have := b1 z hz; omega
      · exact e
variable [WellKind]
def srtL (ds : List D) : M (List D) := match intsOf ds with
  | some ns => if ns.length < 63 then .ret ((srt ns).map PyData.int) else .fail
  | none => .fail
def srtD : D → M (List D)
  | .list ds => srtL ds
  | .tuple ds => srtL ds
  | _ => .fail
def fSrt (ma : Env → M D) (δ : Env) : M (List D) := (ma δ).bind srtD
theorem qf_srt {X : Cx} {E : XK} {a : Expr} {ma : Env → M D} {p p2 q pos : Pos} (hc : X.calm = true) (hm : X.mg "sorted" = none) (hm2 : X.mg "set" = none) (h : QB X E a ma) (hg : Gl X "sorted" := by rfl) (hg2 : Gl X "set" := by rfl)
    (na : starEach [a] X.env = (false, eval a X.env) :: starEach [] X.env := by rfl) : QF X E (.Call (.Name "sorted" p) [.Call (.Name "set" p2) [a] [] q] [] pos) (fSrt ma) := by
  obtain ⟨t, a1, a2⟩ := h
  refine ⟨_, pe_srtSet hc hg hm hg2 hm2 a1 na, fun w σ H δ Q rl qq => a2 w σ H δ _ rl (wp_then (wp_bind.mp qq) fun d q1 v H1 g1 n1 => ?_)⟩
  have key : ∀ ds vs, DenAll X.K H1 vs ds → wp (srtL ds) (fun ds => ∀ p vs H', Grow w H H' → Nn H p → H' p = some (.lst vs) → (∀ x, w = some x → p ≠ x.a ∧ p ≠ x.g ∧ p ≠ x.c) → DenAll X.K H' vs ds → Q (.ref p) H') (XP X.mg E w H) → ∃ ns : List Int, vs = ns.map V.int ∧ ns.length < 63 ∧ ∀ (ms : List Int) (p : Addr), ms.Pairwise (· < ·) → (∀ k, k ∈ ms ↔ k ∈ ns) → H1 p = none → Q (.ref p) (upd H1 p (.lst (ms.map V.int))) := fun ds vs hd hw => by
    unfold srtL at hw
    split at hw
    · rename_i ns e
      obtain ⟨hl, hw⟩ := ite_wp hw
      rw [intsOf_eq e] at hd
      refine ⟨ns, denAll_ints hd, hl, fun ms p up mem e => ?_⟩
      have : ms = srt ns := up_uniq up (srt_up ns) fun x => by rw [mem x, mem_srt]
      subst this
      exact lst_new g1 e (denAll_ofInts _) hw
    · exact hw.elim
  cases d <;> first | exact q1.elim | skip
  · obtain ⟨l, xs, rfl, h1, h2⟩ := n1.list
    obtain ⟨ns, e, hl, k⟩ := key _ _ h2 q1
    subst e
    exact ⟨l, ns, rfl, .inl (.inl h1), hl, k⟩
  · obtain ⟨l, xs, rfl, h1, h2⟩ := n1.tuple
    obtain ⟨ns, e, hl, k⟩ := key _ _ h2 q1
    subst e
    exact ⟨l, ns, rfl, .inr h1, hl, k⟩
end Q

set_option Elab.async false
set_option linter.all false
set_option maxRecDepth 100000
namespace Q
open PySem PySem.Spec PyProof.Rows L2
/-! ### range(a, b, c) with a step upwards -/
/-- how many -/
def cntC (i j c : Int) : Nat := if i < j then ((j - i - 1) / c + 1).toNat else 0
theorem size_up {i j c : Int} (hc : 1 ≤ c) : Builtin.Range.rangeSize i j c = (cntC i j c : Nat) := by
  unfold Builtin.Range.rangeSize cntC
  rw [if_pos (by omega)]
  by_cases h : i < j
  · rw [if_pos h, if_pos h]
    have := Int.ediv_nonneg (show 0 ≤ j - i - 1 by omega) (show 0 ≤ c by omega)
    omega
  · rw [if_neg h, if_neg h]; rfl
theorem last_up {i j c : Int} (hc : 1 ≤ c) (h : i < j) : i + ((j - i - 1) / c) * c < j := by
  have := Int.ediv_mul_le (j - i - 1) (show c ≠ 0 by omega)
  omega
theorem cntC_le {i j c : Int} (hc : 1 ≤ c) : (cntC i j c : Int) ≤ max 0 (j - i) := by
  unfold cntC
  by_cases h : i < j
  · rw [if_pos h]
    have h0 := Int.ediv_nonneg (show 0 ≤ j - i - 1 by omega) (show 0 ≤ c by omega)
    have h1 := Int.ediv_le_self c (show 0 ≤ j - i - 1 by omega)
    omega
  · rw [if_neg h]; omega
theorem small_up {i j c : Int} (ha : -(2 ^ 61) ≤ i) (ha' : i < 2 ^ 61) (hb : -(2 ^ 61) ≤ j) (hb' : j < 2 ^ 61) (hc : 1 ≤ c) (hc' : c < 1073741824) : Builtin.Range.small i j c = true := by
  unfold Builtin.Range.small
  rw [size_up hc]
  have h1 := cntC_le (i := i) (j := j) hc
  simp only [Builtin.Range.rangeFitsLong, Bool.and_eq_true, Bool.or_eq_true, decide_eq_true_eq, beq_iff_eq]
  rw [if_pos (by omega)]
  simp only [Bool.and_eq_true, decide_eq_true_eq]
  omega
def rngC (lo c : Int) (n : Nat) : List D := (List.range n).map fun (i : Nat) => .int (lo + i * c)
/-- the bounds of a range that goes up -/
def RgUp (i j c : Int) : Prop := ((-(2 ^ 61) ≤ i ∧ i < 2 ^ 61) ∧ -(2 ^ 61) ≤ j ∧ j < 2 ^ 61) ∧ 1 ≤ c ∧ c < 1073741824
instance (i j c : Int) : Decidable (RgUp i j c) := inferInstanceAs (Decidable (_ ∧ _))
theorem RgUp.rgC {i j c : Int} (h : RgUp i j c) : RgC i j c (cntC i j c) := ⟨by have := h.2; omega, by have := h.2; omega, small_up h.1.1.1 h.1.1.2 h.1.2.1 h.1.2.2 h.2.1 h.2.2, size_up h.2.1⟩
variable [WellKind]
def kR3 (ds : List D) : M (List D) := match ds with
  | [.int i, .int j, .int c] => if RgUp i j c then .ret (rngC i c (cntC i j c)) else .fail
  | _ => .fail
def iR3 (ms : Env → M (List D)) (δ : Env) : M (List D) := (ms δ).bind kR3
theorem tells_rangeC {K : PySem.W.Frag} {H : Hp} (lo c : Int) (n : Nat) : Tells K (rngC lo c n) (Itc lo c n) H := by
  have hn : (rngC lo c n).length = n := by unfold rngC; rw [List.length_map, List.length_range]
  refine ⟨fun _ => True, YFn fun i => .int (lo + (i : Nat) * c), ?_, trivial, fun _ _ _ _ => trivial, fun i Ha y Hb hi hG hY w hw => ?_⟩
  · rw [hn]; exact walk_rangeC
  · obtain ⟨rfl, rfl⟩ := hY
    rw [hn] at hi
    refine ⟨.refl hw, .int (lo + i * c), ?_, .int _⟩
    unfold rngC
    rw [List.getElem?_map, List.getElem?_range hi]; rfl
section
variable {X : Cx} {E : XK} {tg a b c : Expr}
theorem qi_range3 {ms : Env → M (List D)} {p pos : Pos} (hm : X.mg "range" = none) (h : QA X E [a, b, c] ms) (hg : Gl X "range" := by rfl)
    (hs : starEach [a, b, c] X.env = (false, eval a X.env) :: starEach [b, c] X.env := by rfl) (hpl : (backTo pos (starEach [b, c] X.env)).any (·.1) = false := by rfl) : QIt X E tg (.Call (.Name "range" p) [a, b, c] [] pos) (iR3 ms) := by
  obtain ⟨t, h1, h2⟩ := h
  refine ⟨_, pi_range3 hg hm h1 hs hpl, fun w σ H δ R r q => h2 w σ H δ _ r (wp_then (wp_bind.mp q) fun ds q1 vs H' g n => ?_)⟩
  unfold kR3 at q1
  split at q1
  · cases n with
    | cons n1 n2 =>
      cases n2 with
      | cons n2 n3 =>
        cases n3 with
        | cons n3 n4 =>
          cases n4
          obtain ⟨hj, q1⟩ := ite_wp q1
          exact ⟨_, _, _, _, by rw [n1.int, n2.int, n3.int], hj.rgC, q1 _ H' g (tells_rangeC _ _ _)⟩
  · exact q1.elim
/-! list(range(a, b, c)) -/
def rgVC (a c : Int) (n : Nat) : List V := (List.range n).map fun i => V.int (a + (i : Nat) * c)
theorem vals_rgC {a c : Int} {n : Nat} {acc : Array Value} (h : ItemsOf (fun i v => ∃ t, v = .int (a + i * c) t) acc n) : Vals (rgVC a c n) acc.toList := by
  have e : acc.toList.length = n := by rw [Array.length_toList]; exact h.1
  unfold rgVC
  rw [← e]
  refine vals_of_get acc.toList _ fun j u hj => ?_
  obtain ⟨t, rfl⟩ := h.2 j u (by rw [← hj, Array.getElem?_toList])
  exact ⟨t, rfl⟩
def tLstRgC (ta tb tc : TE) : TE := fun σ H Q => ta σ H fun x H1 => tb σ H1 fun y H2 => tc σ H2 fun z H3 => ∃ i j k : Int, x = .int i ∧ y = .int j ∧ z = .int k ∧ RgUp i j k ∧ cntC i j k ≤ 16777216 ∧ ∀ q, H3 q = none → Q (.ref q) (upd H3 q (.lst (rgVC i k (cntC i j k))))
theorem pe_listRgC {ta tb tc : TE} {p p1 pos pos1 : Pos} (hc : X.calm = true) (hg : Gl X "list") (hm : X.mg "list" = none) (hg2 : Gl X "range") (hm2 : X.mg "range" = none) (ha : PE X a ta) (hb : PE X b tb) (hcc : PE X c tc)
    (na : starEach [.Call (.Name "range" p1) [a, b, c] [] pos1] X.env = (false, eval (.Call (.Name "range" p1) [a, b, c] [] pos1) X.env) :: starEach [] X.env := by rfl)
    (nb : starEach [a, b, c] X.env = (false, eval a X.env) :: starEach [b, c] X.env := by rfl) (nc : starEach [b, c] X.env = (false, eval b X.env) :: starEach [c] X.env := by rfl) (nd : starEach [c] X.env = (false, eval c X.env) :: starEach [] X.env := by rfl)
    (hp : (backTo pos1 (starEach [b, c] X.env)).any (·.1) = false := by rfl) :
    PE X (.Call (.Name "list" p) [.Call (.Name "range" p1) [a, b, c] [] pos1] [] pos) (tLstRgC ta tb tc) := by
  refine ⟨fun pins s σ H Q I h => ?_⟩
  refine Call_ (ld_blt I hg hm boot_list (PyProof.Rows.callWith_type1 (args_cons (Call_ (ld_blt I hg2 hm2 boot_range (PyProof.Rows.callWith_type1 (args_cons (thn (ha.run pins s σ H _ I h) fun v s1 ⟨x, H1, I1, r1, q1⟩ => ?_) nb) nb hp))) na) na rfl))
  refine args_cons (thn (hb.run pins s1 σ H1 _ I1 q1) fun v2 s2 ⟨y, H2, I2, r2, q2⟩ => ?_) nc
  refine one_arg hcc I2 q2 (fun u s3 z H3 I3 r3 q3 => ?_) nd
  obtain ⟨i, j, k, rfl, rfl, rfl, hr, hn, q⟩ := q3
  obtain ⟨t, rfl⟩ := r1
  obtain ⟨t', rfl⟩ := r2
  obtain ⟨t'', rfl⟩ := r3
  have rc := hr.rgC
  refine call_range_3 rc.1 ?_ (.inl (PyProof.noPylong_small rc.2.1))
  have I4 : Inv X pins σ H3 { s3 with heap := s3.heap.push { cls := .type "range", data := .fields #[.int i t, .int j t', .int k t''] } } := I3.kept (t' := s3.toks) fun b o e => Heap.get?_push_of_some _ e
  refine args_nil ?_
  refine call_list_range (n := cntC i j k) (I4.ok.hd hc) (IsRange.new _ _ _ _ _ _ _) rc.2.2.1 rc.2.2.2 (by omega) fun h' tk acc c' hk e' hi => ?_
  refine ⟨.ref _, upd H3 _ (.lst (rgVC i k (cntC i j k))), I4.laid hk (Nat.le_refl _) (show ObjOk X.prog X.w _ _ _ (.lst (rgVC i k (cntC i j k))) from ⟨?_, acc.toList, c', vals_rgC hi, ?_⟩), rfl, q _ (I4.hok.fresh (Nat.le_refl _))⟩
  · unfold rgVC; rw [List.length_map, List.length_range, sizeLine_eq]; omega
  · rw [Array.toArray_toList]; exact e'
theorem denAll_rgC {K : PySem.W.Frag} {H : Hp} (a c : Int) (n : Nat) : DenAll K H (rgVC a c n) (rngC a c n) := by
  have := denAll_ofInts (K := K) (H := H) ((List.range n).map fun (i : Nat) => a + (i : Int) * c)
  rw [List.map_map, List.map_map] at this
  exact this
def rgL3 (x y z : D) : M (List D) := match x, y, z with
  | .int i, .int j, .int k => if RgUp i j k ∧ cntC i j k ≤ 16777216 then .ret (rngC i k (cntC i j k)) else .fail
  | _, _, _ => .fail
def fRg3 (ma mb mc : Env → M D) (δ : Env) : M (List D) := (ma δ).bind fun a => (mb δ).bind fun b => (mc δ).bind fun c => rgL3 a b c
theorem qf_rg3 {ma mb mc : Env → M D} {p p1 pos pos1 : Pos} (hc : X.calm = true) (hm : X.mg "list" = none) (hm2 : X.mg "range" = none) (h : QE X E a ma) (h2 : QE X E b mb) (h3 : QE X E c mc) (hg : Gl X "list" := by rfl) (hg2 : Gl X "range" := by rfl)
    (na : starEach [.Call (.Name "range" p1) [a, b, c] [] pos1] X.env = (false, eval (.Call (.Name "range" p1) [a, b, c] [] pos1) X.env) :: starEach [] X.env := by rfl)
    (nb : starEach [a, b, c] X.env = (false, eval a X.env) :: starEach [b, c] X.env := by rfl) (nc : starEach [b, c] X.env = (false, eval b X.env) :: starEach [c] X.env := by rfl) (nd : starEach [c] X.env = (false, eval c X.env) :: starEach [] X.env := by rfl)
    (hp : (backTo pos1 (starEach [b, c] X.env)).any (·.1) = false := by rfl) : QF X E (.Call (.Name "list" p) [.Call (.Name "range" p1) [a, b, c] [] pos1] [] pos) (fRg3 ma mb mc) := by
  obtain ⟨ta, a1, a2⟩ := h
  obtain ⟨tb, b1, b2⟩ := h2
  obtain ⟨tc, c1, c2⟩ := h3
  refine ⟨_, pe_listRgC hc hg hm hg2 hm2 a1 b1 c1 na nb nc nd hp, fun w σ H δ Q rl q => a2 w σ H δ _ rl (wp_then (wp_bind.mp q) fun x q1 v1 H1 g1 n1 => ?_)⟩
  refine b2 w σ H1 δ _ (rl.grow g1) (wp_mono (wp_bind.mp q1) (fun y q2 v2 H2 g2 n2 => ?_) fun _ z => z.grow g1)
  refine c2 w σ H2 δ _ (rl.grow (g1.trans g2)) (wp_mono (wp_bind.mp q2) (fun z q3 v3 H3 g3 n3 => ?_) fun _ z => z.grow (g1.trans g2))
  cases x <;> first | exact q3.elim | skip
  cases y <;> first | exact q3.elim | skip
  cases z <;> first | exact q3.elim | skip
  cases n1
  cases n2
  cases n3
  obtain ⟨hz, q3⟩ := ite_wp q3
  exact ⟨_, _, _, rfl, rfl, rfl, hz.1, hz.2, fun p e => lst_new ((g1.trans g2).trans g3) e (denAll_rgC _ _ _) q3⟩
end
end Q

set_option Elab.async false
set_option linter.all false
set_option maxRecDepth 100000
namespace Q
open PySem PySem.Spec PyProof.Rows L2
/-! ### t[::-1] of a tuple, xs[::-1] of a list -/
section
variable {prog : Program} {w : World} {A : Around} {E : Value → Shared → Prop} {s : Shared}
theorem adjust_rev (n : Nat) : Builtin.Slice.sliceAdjust none none (-1) (n : Int) = ((n : Int) - 1, -1) := rfl
theorem places_rev (n : Nat) : Builtin.Slice.slicePlaces ((n : Int) - 1) (-1) (-1) = n := by
  unfold Builtin.Slice.slicePlaces
  rw [if_neg (by omega)]
  have e : (-(-1) : Int) = 1 := rfl
  rw [e, Int.ediv_one]
  split <;> omega
theorem sliceApplied_rev {sl : Addr} {vs : Value} {n : Nat} {Q : Int × Int × Nat → Shared → Prop} (hs : s.heap.IsSliceOf sl .none .none vs) (ps : IsPart vs (some (-1)))
    (h : Q ((n : Int) - 1, -1, n) s) : wpAny (model prog w) A (Builtin.Slice.sliceApplied (.ref sl) (pure (n : Int))) Q E s := by
  obtain ⟨os, hos, hcs, hds⟩ := id hs
  unfold Builtin.Slice.sliceApplied Builtin.Slice.sliceFields
  refine wpAny_bind (wpAny_bind (wpAny_field hos hds (x := .none) rfl (wpAny_bind (wpAny_field hos hds (x := .none) rfl (wpAny_bind (wpAny_field hos hds (x := vs) rfl (wpAny_pure ?_)))))))
  refine wpAny_bind (HT.slicePart_ ps ?_)
  show wpAny _ _ (if ((-1 : Int) == 0) = true then _ else _) _ _ s
  rw [if_neg (by decide)]
  refine wpAny_bind (slicePart_none (wpAny_bind (slicePart_none (wpAny_bind (wpAny_pure ?_)))))
  show wpAny _ _ (match Builtin.Slice.sliceAdjust none none (-1) (n : Int) with | (lo, hi) => pure (lo, (-1 : Int), Builtin.Slice.slicePlaces lo hi (-1))) _ _ s
  rw [adjust_rev n]
  show wpAny _ _ (pure ((n : Int) - 1, (-1 : Int), Builtin.Slice.slicePlaces ((n : Int) - 1) (-1) (-1))) _ _ s
  rw [places_rev]
  exact wpAny_pure h
theorem filterMap_same {α β : Type} {f g : α → Option β} : ∀ (l : List α), (∀ x ∈ l, f x = g x) → l.filterMap f = l.filterMap g
  | [], _ => rfl
  | x :: l, h => by
    rw [List.filterMap_cons, List.filterMap_cons, h x List.mem_cons_self, filterMap_same l fun y hy => h y (List.mem_cons_of_mem _ hy)]
theorem pick_rev (xs : Array Value) : ((List.range xs.size).filterMap fun (m : Nat) => xs[(((xs.size : Int) - 1) + (m : Int) * -1).toNat]?).toArray = xs.toList.reverse.toArray := by
  congr 1
  refine List.ext_getElem? fun i => ?_
  have e : ∀ m ∈ List.range xs.size, xs[(((xs.size : Int) - 1) + (m : Int) * -1).toNat]? = some (xs.toList.reverse.getD m Value.none) := fun m hm => by
    have hm' := List.mem_range.mp hm
    have : (((xs.size : Int) - 1) + (m : Int) * -1).toNat = xs.size - 1 - m := by omega
    rw [this, List.getD_eq_getElem?_getD, List.getElem?_reverse (by rw [Array.length_toList]; exact hm'), Array.length_toList, Array.getElem?_toList]
    rw [Array.getElem?_eq_getElem (by omega)]
    rfl
  have e2 : (List.range xs.size).filterMap (fun (m : Nat) => xs[(((xs.size : Int) - 1) + (m : Int) * -1).toNat]?) = (List.range xs.size).map fun m => xs.toList.reverse.getD m Value.none := by
    rw [← List.filterMap_eq_map]
    exact filterMap_same _ e
  rw [e2, List.getElem?_map]
  by_cases hi : i < xs.size
  · rw [List.getElem?_range hi]
    show some (xs.toList.reverse.getD i Value.none) = _
    rw [List.getD_eq_getElem?_getD, List.getElem?_eq_getElem (show i < xs.toList.reverse.length by rw [List.length_reverse, Array.length_toList]; exact hi)]
    rfl
  · rw [List.getElem?_eq_none (by rw [List.length_range]; omega), List.getElem?_eq_none (by rw [List.length_reverse, Array.length_toList]; omega)]
    rfl
theorem getItem_tuple_rev {t sl : Addr} {items : Array Value} {vs : Value} {Q : Value → Shared → Prop} (ht : IsTup s.heap t items) (hs : s.heap.IsSliceOf sl .none .none vs) (ps : IsPart vs (some (-1)))
    (h : Q (.ref s.heap.objs.size) { s with heap := s.heap.push { cls := .type "tuple", data := .seq items.toList.reverse.toArray } })
    (hsz : items.size ≤ sizeLine) : wpAny (model prog w) A (getItem (.ref t) (.ref sl)) Q E s := by
  have htake : sizeOk (.seq items.toList.reverse.toArray) := by
    show items.toList.reverse.toArray.size ≤ sizeLine
    rw [List.size_toArray, List.length_reverse, Array.length_toList]
    exact hsz
  obtain ⟨os, hos, hcs, hds⟩ := id hs
  have hTs : s.TypeIs (.ref sl) "slice" := ⟨os, hos, hcs⟩
  unfold getItem
  try with_reducible refine wpAny_holding ?_
  first | refine wpAny_bind (wpAny_pure ?_) | skip
  refine wpAny_bind (wpAny_sequenceKey ht.typeIs (by decide) ?_)
  refine wpAny_bind (wpAny_callSpecial?_slot (name := Str.ofString "__getitem__") ht.typeIs PyProof.Rows.slot_tuple_getitem
    (wpAny_call_entry PyProof.Rows.slot_tuple_getitem ht.typeIs entry_tuple_getitem ?_ (args_tuple_getitem _ _)))
  show wpAny _ _ (Builtin.Tuple.tupleItemsOf (.ref t) >>= _) _ _ s
  refine wpAny_bind (tupleItemsOf_ ht ?_)
  refine wpAny_bind (wpAny_typeOf hTs ?_)
  rw [if_pos (by decide)]
  refine wpAny_bind (sliceApplied_rev hs ps ?_)
  have hno : ¬ ((((items.size : Int) - 1) == 0 && (-1 : Int) == 1 && items.size == items.size) = true) := by
    intro q
    rw [Bool.and_eq_true, Bool.and_eq_true] at q
    exact absurd q.1.2 (by decide)
  show wpAny _ _ (if (((items.size : Int) - 1) == 0 && (-1 : Int) == 1 && items.size == items.size) = true then _ else _) _ _ s
  rw [if_neg hno, pick_rev]
  first
    | exact wpAny_bind (m := Builtin.Tuple.tupleExact _) (wpAny_newObj_type (wpAny_pure ⟨_, rfl, wpAny_pure h⟩) htake)
    | exact wpAny_bind (m := Builtin.Tuple.tupleExact _) (wpAny_newObj_type (wpAny_bind (wpAny_pure (wpAny_pure ⟨_, rfl, wpAny_pure h⟩))) htake)
    | exact wpAny_bind (wpAny_bind (m := Builtin.Tuple.tupleExact _) (wpAny_newObj_type (wpAny_pure (wpAny_pure ⟨_, rfl, wpAny_pure h⟩)) htake))
    | exact wpAny_bind (wpAny_bind (m := Builtin.Tuple.tupleExact _) (wpAny_newObj_type (wpAny_pure ⟨_, rfl, wpAny_pure h⟩) htake))
end
def tRevT (K : PySem.W.Frag) (te : TE) : TE := fun σ H Q => te σ H fun x H1 => ∃ a xs, x = V.ref a ∧ SqT K H1 a xs ∧ ∀ p, H1 p = none → Q (.ref p) (upd H1 p (.tup xs.reverse))
theorem pe_revT {X : Cx} {e : Expr} {te : TE} {k : Nat} {p1 p2 p3 pos : Pos} (he : PE X e te) : PE X (.Subscript e (.Slice none none (some (.UnaryOp .USub (.Constant (.int 1) k p1) p2)) p3) pos) (tRevT X.K te) := by
  refine ⟨fun pins s σ H Q I h => ?_⟩
  refine Subscript_ (thn (he.run pins s σ H _ I h) fun v s1 ⟨x, H1, I1, r1, q1⟩ => ?_)
  obtain ⟨a, xs, ex, hx, q⟩ := q1
  subst ex
  cases r1
  have hst : PO X (some (.UnaryOp .USub (.Constant (.int 1) k p1) p2)) (tPart (tUn (rU fun i => .int (-i)) (tC (.int 1)))) := po_some (pe_un un_neg pe_int)
  refine wpAny_Slice (thn (po_none.run pins s1 σ H1 (fun o H2 => o = none ∧ H2 = H1) I1 ⟨rfl, rfl⟩) fun vl s2 ⟨l, H2, I2, pl, el, e2⟩ => ?_)
  subst el e2
  refine thn (po_none.run pins s2 σ H2 (fun o H3 => o = none ∧ H3 = H2) I2 ⟨rfl, rfl⟩) fun vu s3 ⟨u, H3, I3, pu, eu, e3⟩ => ?_
  subst eu e3
  refine thn (hst.run pins s3 σ H3 (fun o H4 => o = some (-1) ∧ H4 = H3) I3 ⟨1, rfl, -1, rfl, rfl, rfl⟩) fun vs s4 ⟨o, H4, I4, ps, eo, e4⟩ => ?_
  subst eo e4
  have I5 : Inv X pins σ H4 { s4 with heap := s4.heap.push { cls := .type "slice", data := .fields #[vl, vu, vs] } } := I4.kept (t' := s4.toks) fun b ob q => Heap.get?_push_of_some _ q
  cases pl
  cases pu
  obtain ⟨its, r, ht, hz⟩ := I5.tuple hx
  have hlen := r.length
  show wpAny (model X.prog X.w) X.A (subscriptTail e (.Slice none none (some (.UnaryOp .USub (.Constant (.int 1) k p1) p2)) p3) (.ref a) (.ref s4.heap.objs.size)) (EP X pins σ Q) X.xe { s4 with heap := s4.heap.push { cls := .type "slice", data := .fields #[.none, .none, vs] } }
  refine tail_any (ops := [.ref a, .ref s4.heap.objs.size]) ht.typeIs (PyProof.Rows.slot_tuple_getitem.lookup) ?_ (by with_unfolding_all rfl)
  refine getItem_tuple_rev ht (Heap.IsSliceOf.new _ .none .none vs) ps ?_ (by rw [List.size_toArray]; omega)
  refine ⟨.ref _, _, I5.laid (t' := s4.toks) (o := .tup xs.reverse) (fun b ob q => Heap.get?_push_of_some _ q) (Nat.le_refl _) ?_, rfl, q _ (I5.hok.fresh (Nat.le_refl _))⟩
  exact ⟨by rw [List.length_reverse]; exact hz, _, r.reverse, IsTup.new _ _⟩
end Q
namespace Q
open PySem PySem.Spec PyProof.Rows L2
variable [WellKind]
def dRev : D → M D
  | .tuple ds => .ret (.tuple ds.reverse)
  | _ => .fail
def eRev (me : Env → M D) (δ : Env) : M D := (me δ).bind dRev
theorem denAll_rev {K : PySem.W.Frag} {H : Hp} : ∀ {vs : List V} {ds : List D}, DenAll K H vs ds → DenAll K H vs.reverse ds.reverse
  | _, _, .nil => .nil
  | _, _, .cons a b => by
    rw [List.reverse_cons, List.reverse_cons]
    exact (denAll_rev b).append (.cons a .nil)
theorem qe_rev {X : Cx} {E : XK} {e : Expr} {me : Env → M D} {k : Nat} {p1 p2 p3 pos : Pos} (h : QE X E e me) : QE X E (.Subscript e (.Slice none none (some (.UnaryOp .USub (.Constant (.int 1) k p1) p2)) p3) pos) (eRev me) := by
  obtain ⟨t, a1, a2⟩ := h
  refine ⟨_, pe_revT a1, fun w σ H δ Q rl q => a2 w σ H δ _ rl (wp_then (wp_bind.mp q) fun d q1 v H1 g1 n1 => ?_)⟩
  cases d <;> first | exact q1.elim | skip
  cases n1 with
  | tup hs hd => exact ⟨_, _, rfl, hs, fun p e0 => tup_new g1.well e0 (denAll_rev hd) fun v' H2 g2 n2 => q1 v' H2 (g1.trans g2) n2⟩
end Q

set_option Elab.async false
set_option linter.all false
set_option maxRecDepth 100000
namespace Q
open PySem PySem.Spec PyProof.Rows L2
/-! ### a lambda that is tried, the error asked of what kind it is -/
section
variable {X : Cx} {a C B : Addr} {b : Bool} {i : Nat} {n A : Str} {oe : Obj} {pn : List (Addr × Obj)} {p p2 p3 pos : Pos}
theorem is_own (EC : ExcC X.K C) (hz : Zc (.ref C) none oe) (hf : ∃ vs, oe.data = .fields vs) (hi : X.N[i]? = some n) (hv : Vis X.env.scope n) (hn : (n == ("__debug__" : Str)) = false) (hn2 : (n == ("__classdict__" : Str)) = false)
    (hg : Gl X "isinstance") (hm : X.mg "isinstance" = none) (hgA : Gl X A) (hA : X.mg A = some (.ref B)) (hdA : (A == ("__debug__" : Str)) = false) (kit : PySem.W.kitOne X.K (.ref C) (.ref B) = some b)
    (he : starEach [.Name n p2, .Name A p3] X.env = (false, eval (.Name n p2) X.env) :: starEach [.Name A p3] X.env := by rfl) (he2 : starEach [.Name A p3] X.env = (false, eval (.Name A p3) X.env) :: starEach [] X.env := by rfl) (hpl : (backTo pos (starEach [.Name A p3] X.env)).any (·.1) = false := by rfl) :
    PE (X.suite a ((a, oe) :: pn)) (.Call (.Name "isinstance" p) [.Name n p2, .Name A p3] [] pos) (fun σ H Q => σ[i]? = some (some (.ref a)) ∧ Q (.bl b) H) := by
  refine ⟨fun pins s σ H Q I h => ?_⟩
  refine (pe_callB (X := X.suite a ((a, oe) :: pn)) (call_isE EC hz hf) hg hm (by decide +kernel) (pa_cons (pe_var (i := i) hi hv hn hn2) (pa_cons (pe_glob (v := .ref B) hgA hA rfl hdA) pa_nil he2) he) (by decide) (by decide) he hpl).run pins s σ H Q I ?_
  exact ⟨_, h.1, .ref B, .ref B, b, rfl, fun u r => r, kit, h.2⟩
theorem is_own_ty {t : String} (EC : ExcC X.K C) (hz : Zc (.ref C) none oe) (hf : ∃ vs, oe.data = .fields vs) (hi : X.N[i]? = some n) (hv : Vis X.env.scope n) (hn : (n == ("__debug__" : Str)) = false) (hn2 : (n == ("__classdict__" : Str)) = false)
    (hg : Gl X "isinstance") (hm : X.mg "isinstance" = none) (hgA : Gl X A) (hA : X.mg A = none) (hB : bootBuiltins A = some (.type t)) (hdA : (A == ("__debug__" : Str)) = false) (hdn : A ≠ "__name__") (kit : PySem.W.kitOne X.K (.ref C) (.type t) = some b)
    (he : starEach [.Name n p2, .Name A p3] X.env = (false, eval (.Name n p2) X.env) :: starEach [.Name A p3] X.env := by rfl) (he2 : starEach [.Name A p3] X.env = (false, eval (.Name A p3) X.env) :: starEach [] X.env := by rfl) (hpl : (backTo pos (starEach [.Name A p3] X.env)).any (·.1) = false := by rfl) :
    PE (X.suite a ((a, oe) :: pn)) (.Call (.Name "isinstance" p) [.Name n p2, .Name A p3] [] pos) (fun σ H Q => σ[i]? = some (some (.ref a)) ∧ Q (.bl b) H) := by
  refine ⟨fun pins s σ H Q I h => ?_⟩
  refine (pe_callB (X := X.suite a ((a, oe) :: pn)) (call_isE EC hz hf) hg hm (by decide +kernel) (pa_cons (pe_var (i := i) hi hv hn hn2) (pa_cons (pe_bltn (v := .ty t) hgA hA hB rfl hdn hdA) pa_nil he2) he) (by decide) (by decide) he hpl).run pins s σ H Q I ?_
  exact ⟨_, h.1, .ty t, .type t, b, rfl, fun u r => r, kit, h.2⟩
end
end Q
namespace Q
open PySem PySem.Spec PyProof.Rows L2
/-- what is known of the class C that x names, under the class that `base` names, for a suite that asks for yes, ValueError, not no -/
structure ToldC (K : PySem.W.Frag) (mg : Str → Option Value) (base yes no : Str) (C : Addr) : Prop where
  hb : ∃ B, mg base = some (.ref B) ∧ PySem.W.exmOne K (.ref C) (.ref B) = some true
  ex : ExcC K C
  hy : ∃ B, mg yes = some (.ref B) ∧ PySem.W.kitOne K (.ref C) (.ref B) = some true
  hv : PySem.W.kitOne K (.ref C) (.type "ValueError") = some true
  hn : ∃ B, mg no = some (.ref B) ∧ PySem.W.kitOne K (.ref C) (.ref B) = some false
  ve : mg "ValueError" = none
  hi : mg "isinstance" = none
def tryV (c : Str) (v : D) : M D → M D
  | .ret d => .ret d
  | .draw n k => .draw n fun r => tryV c v (k r)
  | .raise e => if e.cls = c then .ret v else .fail
  | .fail => .fail
def eTolv (c : Str) (v : D) (m : Env → M D) (δ : Env) : M D := tryV c v (m δ)
theorem wp_tryV {c : Str} {v : D} {Q : D → Prop} {R : Exn → Prop} : ∀ {m : M D}, wp (tryV c v m) Q R → wp m Q (fun e => e.cls = c ∧ Q v)
  | .ret _, h => h
  | .draw _ _, h => ⟨h.1, fun x h0 h1 => wp_tryV (h.2 x h0 h1)⟩
  | .raise e, h => by
    unfold tryV at h
    by_cases z : e.cls = c
    · rw [if_pos z] at h; exact ⟨z, h⟩
    · rw [if_neg z] at h; exact h.elim
  | .fail, h => h.elim
theorem tryV_wp {c : Str} {v : D} {Q : D → Prop} {R : Exn → Prop} : ∀ {m : M D}, wp m Q (fun e => e.cls = c ∧ Q v) → wp (tryV c v m) Q R
  | .ret _, h => h
  | .draw _ _, h => ⟨h.1, fun x h0 h1 => tryV_wp (h.2 x h0 h1)⟩
  | .raise e, h => by
    unfold tryV
    rw [if_pos h.1]; exact h.2
  | .fail, h => h.elim
def TVal (C : Addr) (t2 : Str) : (XK → Hp → VK → Prop) → Hp → VK → Prop := fun tl H Q =>
  tl (fun cls d H' => (cls = .ref C ∧ d = none) ∧ ∀ p, H' p = none → Q (.ref p) (upd H' p (.lst [.str t2, .bl true]))) H Q
/-- the statement of the trying def -/
abbrev toldStmt (a e n yes no t2 : Str) (j2 : Nat) (p2 p3 p5 p6 p7 p8 p9 q1 q2 r1 r2 r3 r4 s1 s2 s3 s4 u1 u2 u3 u4 u5 u6 : Pos) : Stmt :=
  .Try [.Return (some (.Call (.Name a p2) [] [] p3)) p5] [.ExceptHandler (some (.Name e p6)) (some n) [.Return (some (.List [.Constant (.str t2) j2 p7, .BoolOp .And [.Call (.Name "isinstance" r1) [.Name n r2, .Name yes r3] [] r4, .Call (.Name "isinstance" s1) [.Name n s2, .Name "ValueError" s3] [] s4, .UnaryOp .Not (.Call (.Name "isinstance" u1) [.Name n u2, .Name no u3] [] u4) u5] u6] p8)) p9] q1] [] [] q2
section
variable {X : Cx}
theorem tells_val {Ng : List Str} {x a e q t2 n yes no : Str} {sg : Scope} {g C : Addr} {cdg : Value} {j2 : Nat} {p2 p3 p5 p6 p7 p8 p9 q1 q2 r1 r2 r3 r4 s1 s2 s3 s4 u1 u2 u3 u4 u5 u6 : Pos} (tc : ToldC X.K X.mg e yes no C) (hge : sg.names.lookup e = some .globalImplicit) (hde : (e == ("__debug__" : Str)) = false)
    (hN : Ng.Nodup) (hi : Ng[1]? = some n) (hln : sg.names.lookup n = some .local) (hgi : sg.names.lookup ("isinstance" : Str) = some .globalImplicit) (hgv : sg.names.lookup ("ValueError" : Str) = some .globalImplicit) (hgy : sg.names.lookup yes = some .globalImplicit) (hgn : sg.names.lookup no = some .globalImplicit)
    (hdn : (n == ("__debug__" : Str)) = false) (hdn2 : (n == ("__classdict__" : Str)) = false) (hdy : (yes == ("__debug__" : Str)) = false) (hdo : (no == ("__debug__" : Str)) = false)
    (h0 : ∀ f : Addr, (L2.start Ng [V.ref f])[0]? = some (some (V.ref f))) (hlen : 2 ≤ Ng.length) :
    LamX.GivesTo X Ng x sg g cdg [toldStmt a e n yes no t2 j2 p2 p3 p5 p6 p7 p8 p9 q1 q2 r1 r2 r3 r4 s1 s2 s3 s4 u1 u2 u3 u4 u5 u6] a q (TVal C t2) := by
  intro f c' s H Q tl act hc h
  obtain ⟨B, hb1, hb2⟩ := tc.hb
  obtain ⟨Y, hy1, hy2⟩ := tc.hy
  obtain ⟨O, hn1, hn2⟩ := tc.hn
  have gl : ∀ {z : Str}, sg.names.lookup z = some .globalImplicit → Gl (cxOf C8.CX0 X.prog X.w X.K X.mg X.base Ng x sg g cdg X.A X.stack s H C8.E0).nox z := fun hz => hz
  refine ⟨_, pss_one (ps_try_as (i := 1) (c := .ref B) (ts := fun a' cls d D σ H => (cls = .ref C ∧ d = none) ∧ (1 < σ.length → σ[1]? = some (some (.ref a'))) ∧ [V.str t2, .bl true].length ≤ sizeLine ∧ ∀ p, H p = none → D.rt (.ref p) (upd H p (.lst [.str t2, .bl true])))
      (tb := fun W D σ H => ∃ E1 : XK, (∀ cls d σ' H', E1 cls d H' → W cls d σ' H') ∧ (σ[0]? = some (some (.ref f)) ∧ H c' = some (LamX.CodeO c' q)) ∧ tl E1 H fun v H' => D.rt v H') rfl rfl hN hi hln ⟨gl hge, hde, .inl hb1⟩ LamX.takes0 (fun W pn xe tk _ => ?_)
      (fun a' oe cls d pn hz hf => ?_)), ?_⟩
  · refine ⟨fun pins s' σ H' D I h' => ?_⟩
    obtain ⟨E1, hW, ⟨h1, h2⟩, h3⟩ := h'
    refine (pss_one (ps_ret (pos := p5) (act W pn xe E1 p2 p3 tk hW))).run pins s' σ H' D I ?_
    exact ⟨h1, h2, h3⟩
  · refine ⟨fun pins s' σ H' D I h' => ?_⟩
    obtain ⟨⟨rfl, rfl⟩, hs, hl, k⟩ := h'
    have hs := hs (by rw [I.len]; exact hlen)
    refine (pss_one (ps_ret (pos := p9) (pe_lst (pos := p8) (pa_cons pe_str (pa_cons (pe_and (is_own (X := (cxOf C8.CX0 X.prog X.w X.K X.mg X.base Ng x sg g cdg X.A X.stack s H C8.E0).nox) tc.ex hz hf hi (.inl hln) hdn hdn2 (gl hgi) tc.hi (gl hgy) hy1 hdy hy2) (pe_and (is_own_ty (X := (cxOf C8.CX0 X.prog X.w X.K X.mg X.base Ng x sg g cdg X.A X.stack s H C8.E0).nox) tc.ex hz hf hi (.inl hln) hdn hdn2 (gl hgi) tc.hi (gl hgv) tc.ve (by decide +kernel) (by decide) (by decide) tc.hv)
      (pe_one (pe_not (is_own (X := (cxOf C8.CX0 X.prog X.w X.K X.mg X.base Ng x sg g cdg X.A X.stack s H C8.E0).nox) tc.ex hz hf hi (.inl hln) hdn hdn2 (gl hgi) tc.hi (gl hgn) hn1 hdo hn2))))) pa_nil))))).run pins s' σ H' D I ?_
    exact ⟨hs, true, rfl, hs, true, rfl, hs, false, rfl, hl, k⟩
  · refine ⟨fun cls d H' => (cls = .ref C ∧ d = none) ∧ ∀ p, H' p = none → Q (.ref p) (upd H' p (.lst [.str t2, .bl true])), fun cls d σ' H' ⟨⟨e1, e2⟩, e3⟩ => ⟨true, by rw [e1]; exact hb2, fun _ a' ha => ⟨⟨e1, e2⟩, fun hl => List.getElem?_set_self (by rw [List.length_set] at hl; exact hl), by show 2 ≤ sizeLine; decide, e3⟩, fun z => nomatch z⟩, ⟨h0 f, hc⟩, h⟩
end
end Q
namespace Q
open PySem PySem.Spec PyProof.Rows L2
variable [WellKind] {u : Bool}
section
variable {X : Cx}
theorem qe_tolv {E : XK} {k : Nat} {x a e n yes no cn t2 : Str} {g C c P : Addr} {st : Stmt} {fd : FuncData} {Ng : List Str} {params : Arguments} {body : Expr} {scope : Scope} {m : Env → M D} {p lpos pos : Pos} {j2 : Nat} {p2 p3 p5 p6 p7 p8 p9 q1 q2 r1 r2 r3 r4 s1 s2 s3 s4 u1 u2 u3 u4 u5 u6 : Pos}
    (Fg : Fun X.K x x st g fd) (Sg : FnScope Ng [a] (defScope st)) (hN0 : Ng[0]? = some a) (hva : Vis (defScope st) a)
    (hst : defBody st = [toldStmt a e n yes no t2 j2 p2 p3 p5 p6 p7 p8 p9 q1 q2 r1 r2 r3 r4 s1 s2 s3 s4 u1 u2 u3 u4 u5 u6])
    (ec : ErrC X.K X.mg cn C) (tc : ToldC X.K X.mg e yes no C) (hge : (defScope st).names.lookup e = some .globalImplicit) (hi : Ng[1]? = some n) (hln : (defScope st).names.lookup n = some .local) (hgi : (defScope st).names.lookup ("isinstance" : Str) = some .globalImplicit) (hgv : (defScope st).names.lookup ("ValueError" : Str) = some .globalImplicit)
    (hgy : (defScope st).names.lookup yes = some .globalImplicit) (hgn : (defScope st).names.lookup no = some .globalImplicit) (hlen : 2 ≤ Ng.length)
    (h0 : ∀ f : Addr, (L2.start Ng [V.ref f])[0]? = some (some (V.ref f))) (hm : X.mg x = some (.ref g)) (hb : Binds X.K fd [a] [])
    (gd : Good u X E (k + 2)) (TB : LamX.TabB X.base X.mg c P) (hcode : X.env.code = .ref c) {qn : Str} (hqn : X.env.qual = qn) (hT : (P, qn ++ "<lambda>") ∈ WellKind.T) (hu : ∀ p ∈ WellKind.T, p.1 = P → p.2 = qn ++ "<lambda>") (L : LamX.LamS X.env.scope scope)
    (hq : ∀ (A : Around) (outer : List PySem.Env) (s : Shared) (H : Hp) (E1 : XK) (f c' : Addr), Good false (LamX.lamCx X A outer s H E1 scope f c') E1 k → QE (LamX.lamCx X A outer s H E1 scope f c') E1 body m)
    (hg : Gl X x := by rfl) (hdef : defaultsOf params X.env = ([], []) := by rfl)
    (hbind : ∀ (q : Str) (cl : List (Str × Addr)) (pm cv ctv : Value), bindArgs (PySem.W.kla_fn "<lambda>" q params body scope cl pm cv ctv) ⟨[], []⟩ = pure [] := by intros; rfl)
    (hdx : (x == ("__debug__" : Str)) = false := by decide) (hde : (e == ("__debug__" : Str)) = false := by decide) (hda : (a == ("__debug__" : Str)) = false := by decide) (hca : (a == ("__classdict__" : Str)) = false := by decide)
    (hdn : (n == ("__debug__" : Str)) = false := by decide) (hdn2 : (n == ("__classdict__" : Str)) = false := by decide) (hdy : (yes == ("__debug__" : Str)) = false := by decide) (hdo : (no == ("__debug__" : Str)) = false := by decide) :
    QE X E (.Call (.Name x p) [.Lambda params body scope lpos] [] pos) (eTolv cn (.list [.str t2, .bool true]) m) := by
  subst hqn
  obtain ⟨oc, od, kV, doc, pm, an, cdv, ct, osl, rfl, lk, hcd⟩ := Fg.ex
  have hG := tells_val (X := X) (Ng := Ng) (x := x) (a := a) (q := X.env.qual ++ "<lambda>") (t2 := t2) (n := n) (g := g) (cdg := cdv) (j2 := j2) (p2 := p2) (p3 := p3) (p5 := p5) (p6 := p6) (p7 := p7) (p8 := p8) (p9 := p9) (q1 := q1) (q2 := q2) (r1 := r1) (r2 := r2) (r3 := r3) (r4 := r4) (s1 := s1) (s2 := s2) (s3 := s3) (s4 := s4) (u1 := u1) (u2 := u2) (u3 := u3) (u4 := u4) (u5 := u5) (u6 := u6)
    tc hge hde Sg.nd hi hln hgi hgv hgy hgn hdn hdn2 hdy hdo h0 hlen
  rw [← hst] at hG
  have pl := LamX.pe_lamcall (X := X) (T := WellKind.T) (t := fun E1 => tE X.K X.mg E1 m) (p := p) (lpos := lpos) (pos := pos) hg hm Fg.kp lk hcd hb Sg hN0 hva hG TB hcode hT hu gd.room L hdef hbind (fun A outer s H E1 f c' hr => (hq A outer s H E1 f c' (good_lam hr)).pe) hdx hda hca
  refine ⟨_, PE.fz pl, fun w σ H δ Q r q => ⟨r.tabs, fun H1 hx ht => ?_⟩⟩
  have g1 : Grow w H H1 := .ofExtN r.well hx ht
  refine ⟨w, δ, r.grow g1, wp_mono (wp_tryV q) (fun d k v H' g n => .inl (k v H' (g1.trans g) n)) fun ex ⟨ze, k⟩ H' g => ⟨C, by rw [ze]; exact ec.at_, ⟨rfl, rfl⟩, fun pp e0 => ?_⟩⟩
  exact fz_new g.well e0 (.cons (.str _) (.cons (.bl _) .nil)) fun v' H2 g2 n2 => k v' H2 ((g1.trans g).trans g2) n2
end
end Q

set_option Elab.async false
set_option linter.all false
set_option maxRecDepth 100000
namespace Q
open PySem PySem.Spec PyProof.Rows L2
/-! ### a tuple of texts that the module names -/
def ConstT (K : PySem.W.Frag) (mg : Str → Option Value) (x : Str) (ds : List Str) : Prop := ∃ a, mg x = some (.ref a) ∧ ∀ H, SqT K H a (ds.map V.str)
theorem constT_mk {K : PySem.W.Frag} {mg : Str → Option Value} {x : Str} {a : Addr} {od : Option Addr} {its : Array Value} {n : Nat} {sl : Array (Option Value)} {ds : List Str} (h : mg x = some (.ref a))
    (l : K.lookup a = some ⟨.type "tuple", od, .seq its n, sl⟩) (v : Vals (ds.map V.str) its.toList) (hs : its.size ≤ sizeLine) : ConstT K mg x ds :=
  ⟨a, h, fun H => .inr ⟨_, its, n, l, rfl, rfl, hs, v⟩⟩
theorem vals_two {x y : Str} {t u : Tok} {its : Array Value} (e : its = #[Value.str x t, Value.str y u]) : Vals ([x, y].map V.str) its.toList := by
  subst e
  exact .cons ⟨t, rfl⟩ (.cons ⟨u, rfl⟩ .nil)
variable [WellKind]
theorem qe_constT {X : Cx} {E : XK} {x : Str} {u v : Str} {pos : Pos} (c : ConstT X.K X.mg x [u, v]) (hg : Gl X x := by rfl) (hd : (x == ("__debug__" : Str)) = false := by decide) : QE X E (.Name x pos) (eC (.tuple [.str u, .str v])) := by
  obtain ⟨a, h1, h2⟩ := c
  exact ⟨_, pe_glob (v := .ref a) hg h1 rfl hd, fun w σ H δ Q rl q => q _ H (.refl rl.well) (.tup (h2 H) (denAll_ofStrs [u, v]))⟩
end Q

set_option Elab.async false
set_option linter.all false
set_option maxRecDepth 100000
namespace Q
open PySem PySem.Spec PyProof.Rows L2
variable [WellKind]
/-! ### xs * n as a list of one's own -/
def mulL : D → D → M (List D)
  | .list a, .int n => if -(2 ^ 63) ≤ n ∧ n < 2 ^ 63 ∧ a.length * n.toNat ≤ sizeLine then .ret (List.replicate n.toNat a).flatten else .fail
  | _, _ => .fail
def fMul (ma mb : Env → M D) (δ : Env) : M (List D) := (ma δ).bind fun a => (mb δ).bind fun b => mulL a b
theorem qf_mul {X : Cx} {E : XK} {a b : Expr} {ma mb : Env → M D} {pos : Pos} (ha : QB X E a ma) (hb : QB X E b mb) : QF X E (.BinOp a .Mult b pos) (fMul ma mb) := by
  obtain ⟨ta, a1, a2⟩ := ha
  obtain ⟨tb, b1, b2⟩ := hb
  refine ⟨_, pe_op op_repQ a1 b1, fun w σ H δ Q rl q => a2 w σ H δ _ rl (wp_then (wp_bind.mp q) fun x q1 v1 H1 g1 n1 => ?_)⟩
  refine b2 w σ H1 δ _ (rl.grow g1) (wp_mono (wp_bind.mp q1) (fun y q2 v2 H2 g2 n2 => ?_) fun _ z => z.grow g1)
  cases x <;> first | exact q2.elim | skip
  cases y <;> first | exact q2.elim | skip
  obtain ⟨hz, q2⟩ := ite_wp q2
  obtain ⟨l, xs, rfl, r1, d1⟩ := (n1.grow g2).list
  exact ⟨l, _, xs, rfl, n2.int, r1, hz.1, hz.2.1, by rw [d1.length]; exact hz.2.2, fun p e => lst_new (g1.trans g2) e (d1.rep _) q2⟩
end Q

set_option Elab.async false
set_option linter.all false
set_option maxRecDepth 100000
namespace Q
open PySem PySem.Spec PyProof.Rows L2
variable [WellKind]
/-! ### {k: v, ..} as data -/
def keyD : D → Option Key
  | .int i => some (.inl i)
  | .str x => some (.inr x)
  | _ => none
def keysD : List (D × D) → Option (List Key)
  | [] => some []
  | p :: r => match keyD p.1, keysD r with
    | some k, some ks => some (k :: ks)
    | _, _ => none
def mkD (ps : List (D × D)) : M D := match keysD ps with
  | some ks => if ks.Nodup ∧ ps.length ≤ 15 then .ret (.dict ps) else .fail
  | none => .fail
def dNil (_ : Env) : M (List (D × D)) := .ret []
def dCons (mk mv : Env → M D) (ms : Env → M (List (D × D))) (δ : Env) : M (List (D × D)) := (mk δ).bind fun k => (mv δ).bind fun v => (ms δ).bind fun ps => .ret ((k, v) :: ps)
def eDct (ms : Env → M (List (D × D))) (δ : Env) : M D := (ms δ).bind mkD
def DenPs (K : PySem.W.Frag) (H : Hp) (ps : List (V × V)) (ds : List (D × D)) : Prop := DenAll K H (ps.map (·.1)) (ds.map (·.1)) ∧ DenAll K H (ps.map (·.2)) (ds.map (·.2))
def QPs (X : Cx) (E : XK) (pos : Pos) (keys : List (Option Expr)) (vals : List Expr) (m : Env → M (List (D × D))) : Prop :=
  ∃ t, PPs X pos keys vals t ∧ ∀ w σ H δ (Q : List (V × V) → Hp → Prop), RD X.K w H σ δ → wp (m δ) (fun ds => ∀ ps H', Grow w H H' → DenPs X.K H' ps ds → Q ps H') (XP X.mg E w H) → tPairs t σ H Q
section
variable {X : Cx} {E : XK} {k v : Expr} {ks : List (Option Expr)} {vs : List Expr} {mk mv : Env → M D} {ms : Env → M (List (D × D))} {pos : Pos}
theorem qps_nil : QPs X E pos [] [] dNil := ⟨_, pps_nil, fun w σ H δ Q r q => q [] H (.refl r.well) ⟨.nil, .nil⟩⟩
theorem qps_cons (hk : QE X E k mk) (hv : QE X E v mv) (hr : QPs X E pos ks vs ms) : QPs X E pos (some k :: ks) (v :: vs) (dCons mk mv ms) := by
  obtain ⟨t1, a1, b1⟩ := hk
  obtain ⟨t2, a2, b2⟩ := hv
  obtain ⟨t3, a3, b3⟩ := hr
  refine ⟨_, pps_cons a1 a2 a3, fun w σ H δ Q r q => b1 w σ H δ _ r (wp_then (wp_bind.mp q) fun d q1 u H1 g1 n1 => ?_)⟩
  refine b2 w σ H1 δ _ (r.grow g1) (wp_mono (wp_bind.mp q1) (fun d2 q2 u2 H2 g2 n2 => ?_) fun _ z => z.grow g1)
  refine b3 w σ H2 δ _ ((r.grow g1).grow g2) (wp_mono (wp_bind.mp q2) (fun ds q3 ps H3 g3 n3 => ?_) fun _ z => (z.grow g1).grow g2)
  exact q3 ((u, u2) :: ps) H3 ((g1.trans g2).trans g3) ⟨.cons ((n1.grow g2).grow g3) n3.1, .cons (n2.grow g3) n3.2⟩
theorem keysD_kvs {K : PySem.W.Frag} {H : Hp} : ∀ {ps : List (V × V)} {ds : List (D × D)} {ks : List Key}, DenPs K H ps ds → keysD ds = some ks →
    ∃ kvs : List (Key × V), ps = kvs.map (fun kv => (kV kv.1, kv.2)) ∧ kvs.map (·.1) = ks ∧ ds.map (·.1) = kvs.map (fun kv => kD kv.1) ∧ kvs.length = ds.length
  | [], [], ks, _, e => by
    simp only [keysD] at e; cases e
    exact ⟨[], rfl, rfl, rfl, rfl⟩
  | [], _ :: _, _, ⟨h, _⟩, _ => by cases h
  | _ :: _, [], _, ⟨h, _⟩, _ => by cases h
  | (a, b) :: ps, (c, d) :: ds, ks, ⟨h1, h2⟩, e => by
    cases h1 with
    | cons n1 r1 =>
      cases h2 with
      | cons n2 r2 =>
        unfold keysD at e
        cases hk : keyD (c, d).1 with
        | none => rw [hk] at e; cases e
        | some k =>
          cases hr : keysD ds with
          | none => rw [hk, hr] at e; cases e
          | some ks' =>
            rw [hk, hr] at e
            cases e
            obtain ⟨kvs, e1, e2, e3, e4⟩ := keysD_kvs ⟨r1, r2⟩ hr
            have hc : a = kV k ∧ c = kD k := by
              cases c <;> simp only [keyD] at hk <;> first | (cases hk; done) | skip
              · cases hk; cases n1; exact ⟨rfl, rfl⟩
              · cases hk; cases n1; exact ⟨rfl, rfl⟩
            exact ⟨(k, b) :: kvs, by rw [List.map_cons, ← e1, hc.1], by rw [List.map_cons, e2], by rw [List.map_cons, List.map_cons, e3]; exact congrArg (· :: _) hc.2, by rw [List.length_cons, List.length_cons, e4]⟩
theorem mergeK_nodup : ∀ (more kvs : List (Key × V)), ((kvs ++ more).map (·.1)).Nodup → mergeK kvs more = kvs ++ more
  | [], kvs, _ => by rw [List.append_nil]; rfl
  | p :: r, kvs, h => by
    show mergeK (putK kvs p.1 p.2) r = _
    have hp : (kvs.any fun kv => decide (kv.1 = p.1)) = false := by
      rw [List.any_eq_false]
      intro x hx e
      rw [List.map_append, List.map_cons, List.nodup_append] at h
      exact h.2.2 x.1 (List.mem_map_of_mem hx) p.1 (List.mem_cons_self ..) (of_decide_eq_true e)
    have e : putK kvs p.1 p.2 = kvs ++ [p] := by
      unfold putK
      rw [if_neg (by rw [hp]; exact Bool.false_ne_true)]
    rw [e, mergeK_nodup r (kvs ++ [p]) (by rw [List.append_assoc]; exact h), List.append_assoc]
    rfl
/-- a new dict is frozen where it is made -/
def fzKD (Q : VK) : VK := fun v H => ∃ p kvs, v = .ref p ∧ H p = some (.dK kvs) ∧ ∀ o, Q v (upd H p (.frz o (.dK kvs)))
theorem EP.fzD {pins : List (Addr × Obj)} {σ : L2.St} {Q : VK} {u : Value} {s : Shared} (h : EP X pins σ (fzKD Q) u s) : EP X pins σ Q u s := by
  obtain ⟨v, H, I, r, p, vs, e, h1, h2⟩ := h
  obtain ⟨o, I'⟩ := I.lock h1 trivial
  exact ⟨v, _, I', r, h2 o⟩
theorem PE.fzD {e : Expr} {t : TE} (h : PE X e t) : PE X e (fun σ H Q => t σ H (fzKD Q)) := ⟨fun pins s σ H Q I q => thn (h.run pins s σ H (fzKD Q) I q) fun _ _ z => EP.fzD z⟩
theorem zip_self {ds : List (D × D)} : (ds.map (·.1)).zip (ds.map (·.2)) = ds := by
  induction ds with
  | nil => rfl
  | cons a r ih => rw [List.map_cons, List.map_cons, List.zip_cons_cons, ih]
theorem dct_new {K : PySem.W.Frag} {w : Option WA} {Q : VK} {H : Hp} {p : Addr} {kvs : List (Key × V)} {ds : List (D × D)} (hw : ∀ x, w = some x → WellOk H x) (e : H p = none)
    (n : DenAll K H (kvs.map (·.2)) (ds.map (·.2))) (hk : ds.map (·.1) = kvs.map (fun kv => kD kv.1)) (k : ∀ v H', Grow w H H' → Den K H' v (.dict ds) → Q v H') : fzKD Q (.ref p) (upd H p (.dK kvs)) := by
  refine ⟨p, kvs, rfl, upd_same, fun o => ?_⟩
  have g : Grow w H (upd (upd H p (.dK kvs)) p (.frz o (.dK kvs))) := Grow.new2 hw e
  have z := Den.dct (K := K) (a := p) (kvs := kvs) ⟨o, upd_same⟩ (n.grow g)
  rw [← hk, zip_self] at z
  exact k _ _ g z
theorem qe_dct0 : QE X E (.Dict [] [] pos) (eDct dNil) := by
  refine ⟨_, PE.fzD pe_dnewK, fun w σ H δ Q r q p e => ?_⟩
  have q1 : wp (mkD []) (fun d => ∀ (v : V) (H' : Hp), Grow w H H' → Den X.K H' v d → Q v H') (XP X.mg E w H) := q
  have e2 : mkD [] = .ret (.dict []) := by unfold mkD; simp [keysD]
  rw [e2] at q1
  exact dct_new (K := X.K) (w := w) (ds := []) r.well e .nil rfl fun v H' g n => q1 v H' g n
theorem qe_dct {keys : List (Option Expr)} {values : List Expr} (h : QPs X E pos keys values ms) (hall : keys.all (·.isSome) = true := by rfl) (hl : keys.length = values.length := by rfl) (h0 : keys ≠ [] := by exact fun z => nomatch z)
    (h15 : keys.length ≤ 15 := by decide) : QE X E (.Dict keys values pos) (eDct ms) := by
  obtain ⟨t, a, b⟩ := h
  refine ⟨_, PE.fzD (pe_disp a hall hl h0 h15), fun w σ H δ Q r q p e => ?_⟩
  have g0 : Grow w H (upd H p (.dK [])) := Grow.new r.well e
  refine b w σ _ δ _ (r.grow g0) (wp_mono (wp_bind.mp q) (fun ds q1 ps H2 g2 n2 => ?_) fun _ z => z.grow g0)
  have hw : ∀ x, w = some x → p ≠ x.a ∧ p ≠ x.g ∧ p ≠ x.c := fun x hx => (r.well x hx).none_ne e
  have hp2 : H2 p = some (.dK []) := g2.keep p _ upd_same (fun _ z => nomatch z) fun x hx => ⟨(hw x hx).1, (hw x hx).2.1⟩
  unfold mkD at q1
  cases hk : keysD ds with
  | none => rw [hk] at q1; exact q1.elim
  | some ks =>
    rw [hk] at q1
    obtain ⟨⟨hn, h15⟩, q1⟩ := ite_wp q1
    obtain ⟨kvs, e1, e2, e3, e4⟩ := keysD_kvs n2 hk
    refine ⟨hp2, kvs, e1, by rw [e4]; exact h15, ?_⟩
    rw [mergeK_nodup kvs [] (by rw [List.nil_append, e2]; exact hn), List.nil_append]
    refine ⟨p, kvs, rfl, upd_same, fun o => ?_⟩
    have fz : Fz H2 (upd (upd H2 p (.dK kvs)) p (.frz o (.dK kvs))) := ⟨fun b xs e => by rw [upd_upd, upd_ne (fun z => by (rw [z, hp2] at e; cases e))]; exact e, fun b ob u e => by rw [upd_upd, upd_ne (fun z => by (rw [z, hp2] at e; cases e))]; exact e⟩
    have g02 := g0.trans g2
    have g : Grow w H (upd (upd H2 p (.dK kvs)) p (.frz o (.dK kvs))) := by
      refine ⟨fun b xs e => fz.tups b xs (g02.tups b xs e), fun b ob u e => fz.frzs b ob u (g02.frzs b ob u e), fun b ob eb t nn => ?_, fun x hx => ?_, fun t => ?_⟩
      · rw [upd_upd, upd_ne (fun z => by (rw [z, e] at eb; cases eb))]
        exact g02.keep b ob eb t nn
      · rw [upd_upd]; exact (g02.well x hx).at_ne (hw x hx)
      · rw [upd_upd]
        exact (g02.tabs t).stay (fun b ps e => by rw [upd_ne (fun z => by (rw [z, hp2] at e; cases e))]; exact e) fun c q e => by rw [upd_ne (fun z => by (rw [z, hp2] at e; cases e))]; exact e
    have z := Den.dct (K := X.K) (a := p) (kvs := kvs) (H := upd (upd H2 p (.dK kvs)) p (.frz o (.dK kvs))) (ds := ds.map (·.2)) ⟨o, upd_same⟩ (by
      have h2 := n2.2
      rw [e1, List.map_map] at h2
      exact h2.fz fz)
    rw [← e3, zip_self] at z
    exact q1 _ _ g z
end
end Q

set_option Elab.async false
set_option linter.all false
set_option maxRecDepth 100000
namespace Q
open PySem PySem.Spec PyProof.Rows L2
/-! ### repr, dicts too -/
mutual
/-- what a value reads as; a dict stands apart from sys.modules -/
inductive RdD (h : Heap) : Value → D → Prop
  | none : RdD h .none .none
  | bool (b : Bool) : RdD h (.bool b) (.bool b)
  | int (i : Int) (t : Tok) : RdD h (.int i t) (.int i)
  | str (x : Str) (t : Tok) : RdD h (.str x t) (.str x)
  | list {a : Addr} {o : Obj} {vs : Array Value} {n : Nat} {xs : List D} : h.get? a = some o → o.cls = .type "list" → o.data = .seq vs n → RdDs h vs.toList xs → RdD h (.ref a) (.list xs)
  | tuple {a : Addr} {o : Obj} {vs : Array Value} {n : Nat} {xs : List D} : h.get? a = some o → o.cls = .type "tuple" → o.data = .seq vs n → RdDs h vs.toList xs → RdD h (.ref a) (.tuple xs)
  | dict {a : Addr} {o : Obj} {es : Array DictEntry} {n : Nat} {kvs : List (D × D)} : h.get? a = some o → o.cls = .type "dict" → o.data = .dict es n → (a == sysModules) = false →
      RdDs h (es.toList.map (·.key)) (kvs.map (·.1)) → RdDs h (es.toList.map (·.val)) (kvs.map (·.2)) → RdD h (.ref a) (.dict kvs)
inductive RdDs (h : Heap) : List Value → List D → Prop
  | nil : RdDs h [] []
  | cons {v : Value} {vs : List Value} {d : D} {ds : List D} : RdD h v d → RdDs h vs ds → RdDs h (v :: vs) (d :: ds)
end
mutual
theorem RdD.reads {h : Heap} : ∀ {v : Value} {d : D}, RdD h v d → ∃ as, Reads h v d as
  | _, _, .none => ⟨_, .none⟩
  | _, _, .bool b => ⟨_, .bool b⟩
  | _, _, .int i t => ⟨_, .int i t⟩
  | _, _, .str x t => ⟨_, .str x t⟩
  | _, _, .list h1 h2 h3 h4 => let ⟨_, r⟩ := RdDs.reads h4; ⟨_, .list h1 h2 h3 r⟩
  | _, _, .tuple h1 h2 h3 h4 => let ⟨_, r⟩ := RdDs.reads h4; ⟨_, .tuple h1 h2 h3 r⟩
  | _, _, .dict h1 h2 h3 _ h5 h6 => let ⟨_, r⟩ := RdDs.reads h5; let ⟨_, q⟩ := RdDs.reads h6; ⟨_, .dict h1 h2 h3 r q⟩
theorem RdDs.reads {h : Heap} : ∀ {v : List Value} {d : List D}, RdDs h v d → ∃ as, ReadsAll h v d as
  | _, _, .nil => ⟨_, .nil⟩
  | _, _, .cons a b => let ⟨_, r⟩ := RdD.reads a; let ⟨_, q⟩ := RdDs.reads b; ⟨_, .cons r q⟩
end
section
variable {prog : Program} {w : World} {h : Heap}
mutual
/-- its text, as it is written within another one -/
theorem RdD.shows : ∀ {v : Value} {d : D}, RdD h v d → d.showable = true → d.shown.length ≤ sizeLine → ∃ bs, ReadAtMost h d.depth bs ∧ ReprK prog w bs h d.depth v d.shown
  | _, _, .none, _, _ => ⟨[], (fun _ z => nomatch z), by simp only [PyData.shown]; exact .of_is ReprIs.none _ _ _⟩
  | _, _, .bool b, _, _ => ⟨[], (fun _ z => nomatch z), by simp only [PyData.shown]; exact .of_is (ReprIs.bool b) _ _ _⟩
  | _, _, .int i t, hs, _ => ⟨[], (fun _ z => nomatch z), by simp only [PyData.shown]; exact .of_is (ReprIs.int t (by simpa [PyData.showable] using hs)) _ _ _⟩
  | _, _, .str x t, _, hz => ⟨[], (fun _ z => nomatch z), by simp only [PyData.shown]; exact .of_is (ReprIs.str x t (by simpa only [PyData.shown] using hz)) _ _ _⟩
  | _, _, .list (a := a) (o := o) (vs := vs) (xs := xs) h1 h2 h3 h4, hs, hz => by
    obtain ⟨as, r⟩ := RdD.reads (.list h1 h2 h3 h4)
    have hz' : (listText (PyData.shownAll xs)).length ≤ sizeLine := by simpa only [PyData.shown] using hz
    obtain ⟨bs, hb, hk⟩ := RdDs.shows h4 (by simpa [PyData.showable] using hs) fun t ht => Nat.le_trans (listText_mem_le ht) hz'
    have hna : a ∉ bs := not_mem_of_deeper r (by simp only [PyData.depth]; omega) hb
    refine ⟨a :: bs, ReadAtMost.cons r (by simp only [PyData.depth]; omega) hb, ?_⟩
    simp only [PyData.depth, PyData.shown]
    obtain ⟨l⟩ := vs
    cases l with
    | nil =>
      cases h4
      simp only [PyData.shownAll, listText_nil]
      exact ReprK.listEmpty h1 h2 h3
    | cons x l => exact ReprK.list h1 h2 h3 hna (by simpa using hk.length_eq) fun i y e => hk.item i y (by simpa using e)
  | _, _, .tuple (a := a) (xs := xs) h1 h2 h3 h4, hs, hz => by
    obtain ⟨as, r⟩ := RdD.reads (.tuple h1 h2 h3 h4)
    have hz' : (tupleText (PyData.shownAll xs)).length ≤ sizeLine := by simpa only [PyData.shown] using hz
    obtain ⟨bs, hb, hk⟩ := RdDs.shows h4 (by simpa [PyData.showable] using hs) fun t ht => Nat.le_trans (tupleText_mem_le ht) hz'
    have hna : a ∉ bs := not_mem_of_deeper r (by simp only [PyData.depth]; omega) hb
    refine ⟨a :: bs, ReadAtMost.cons r (by simp only [PyData.depth]; omega) hb, ?_⟩
    simp only [PyData.depth, PyData.shown]
    exact ReprK.tuple h1 h2 h3 hna hk
  | _, _, .dict (a := a) (es := es) (kvs := kvs) h1 h2 h3 hsys h5 h6, hs, hz => by
    obtain ⟨as, r⟩ := RdD.reads (.dict h1 h2 h3 hsys h5 h6)
    have hz' : (dictText (PyData.shownKv kvs)).length ≤ sizeLine := by simpa only [PyData.shown] using hz
    obtain ⟨hs1, hs2⟩ := PyData.showableKv_split kvs (by simpa [PyData.showable] using hs)
    obtain ⟨b1, hb1, k1⟩ := RdDs.shows h5 hs1 fun t ht => let ⟨p, hp, hl⟩ := PyData.shownKv_key_le kvs t ht; Nat.le_trans hl (Nat.le_trans (dictText_mem_le hp) hz')
    obtain ⟨b2, hb2, k2⟩ := RdDs.shows h6 hs2 fun t ht => let ⟨p, hp, hl⟩ := PyData.shownKv_val_le kvs t ht; Nat.le_trans hl (Nat.le_trans (dictText_mem_le hp) hz')
    have hb : ReadAtMost h (PyData.depthKv kvs) (b1 ++ b2) := (hb1.mono (PyData.depthAll_keys_le kvs)).append (hb2.mono (PyData.depthAll_vals_le kvs))
    have hna : a ∉ b1 ++ b2 := not_mem_of_deeper r (by simp only [PyData.depth]; omega) hb
    refine ⟨a :: (b1 ++ b2), ReadAtMost.cons r (by simp only [PyData.depth]; omega) hb, ?_⟩
    simp only [PyData.depth, PyData.shown, PyData.shownKv_eq]
    exact ReprK.dict h1 h2 h3 hsys hna (ReprEntriesK.of_two es.toList _ _ (k1.more_le (fun b hb => List.mem_append_left _ hb) (PyData.depthAll_keys_le kvs)) (k2.more_le (fun b hb => List.mem_append_right _ hb) (PyData.depthAll_vals_le kvs)))
theorem RdDs.shows : ∀ {vs : List Value} {ds : List D}, RdDs h vs ds → PyData.showableAll ds = true → (∀ t ∈ PyData.shownAll ds, t.length ≤ sizeLine) → ∃ bs, ReadAtMost h (PyData.depthAll ds) bs ∧ ReprAllK prog w bs h (PyData.depthAll ds) vs (PyData.shownAll ds)
  | _, _, .nil, _, _ => ⟨[], (fun _ z => nomatch z), by simp only [PyData.shownAll]; exact .nil⟩
  | _, _, .cons (d := d) (ds := ds) a b, hs, hz => by
    have hs' : d.showable = true ∧ PyData.showableAll ds = true := by simpa [PyData.showableAll] using hs
    obtain ⟨b1, hb1, k1⟩ := RdD.shows a hs'.1 (hz _ (by simp only [PyData.shownAll]; exact List.mem_cons_self ..))
    obtain ⟨b2, hb2, k2⟩ := RdDs.shows b hs'.2 fun t ht => hz t (by simp only [PyData.shownAll]; exact List.mem_cons_of_mem _ ht)
    refine ⟨b1 ++ b2, (hb1.mono (by simp only [PyData.depthAll]; omega)).append (hb2.mono (by simp only [PyData.depthAll]; omega)), ?_⟩
    simp only [PyData.shownAll]
    exact .cons ((k1.more fun b hb => List.mem_append_left _ hb).level_le (by simp only [PyData.depthAll]; omega)) (k2.more_le (fun b hb => List.mem_append_right _ hb) (by simp only [PyData.depthAll]; omega))
end
end
section
variable [WellKind] {X : Cx} {pins : List (Addr × Obj)} {σ : L2.St} {H : Hp} {s : Shared}
theorem pairs_reads {P : Program} {w : World} {h : Heap} : ∀ {es : List DictEntry} {kvs : List (Key × V)} {vs : List (Key × Value)}, KV kvs vs → PySem.Pairs (mixKind P w) es vs → RdDs h (es.map (·.key)) (kvs.map fun kv => kD kv.1) ∧ Vals (kvs.map (·.2)) (es.map (·.val))
  | _, [], _, r, p => by cases r; cases p; exact ⟨.nil, .nil⟩
  | _, (k, v) :: kvs, _, r, p => by
    cases r with
    | cons r1 r2 =>
      cases p with
      | cons p1 p2 p3 =>
        obtain ⟨a, b⟩ := pairs_reads (P := P) (w := w) (h := h) r2 p3
        refine ⟨.cons ?_ a, .cons ?_ b⟩
        · have e1 := r1.1
          rw [← e1] at p1
          rcases keyIs_shape p1 with ⟨i, t, e, e2⟩ | ⟨x, t, e, e2⟩
          · have e' : k = Sum.inl i := e
            subst e'
            show RdD h (DictEntry.key _) (.int i)
            rw [e2]; exact .int i t
          · have e' : k = Sum.inr x := e
            subst e'
            show RdD h (DictEntry.key _) (.str x)
            rw [e2]; exact .str x t
        · show RelV _ (DictEntry.val _)
          rw [p2]; exact r1.2
mutual
theorem Den.rdD (I : Inv X pins σ H s) : ∀ {v : V} {d : D} {u : Value}, Den X.K H v d → RelV v u → RdD s.heap u d
  | _, _, _, .non, r => by cases r; exact .none
  | _, _, _, .bl b, r => by cases r; exact .bool b
  | _, _, _, .int i, r => by obtain ⟨t, rfl⟩ := r; exact .int i t
  | _, _, _, .str x, r => by obtain ⟨t, rfl⟩ := r; exact .str x t
  | _, _, _, .lst h a, r => by
    cases r
    obtain ⟨its, rv, ⟨o, n, ho, hc, _, hd⟩, _⟩ := I.list h.sq
    exact .list ho hc hd (DenAll.rdD I a rv)
  | _, _, _, .tup h a, r => by
    cases r
    obtain ⟨its, rv, ⟨o, ho, hc, n, hd⟩, _⟩ := I.tuple h
    exact .tuple ho hc hd (DenAll.rdD I a rv)
  | _, _, _, .dct (kvs := kvs) (ds := ds) ⟨o, h⟩ a, r => by
    cases r
    obtain ⟨z, hsys, vs, rk, o', es, ep, ho, hx, hd, _, hp, _⟩ := dk_rd I.hok (.inr ⟨o, h⟩)
    obtain ⟨q1, q2⟩ := pairs_reads (h := s.heap) rk hp
    have hl : (kvs.map fun kv => kD kv.1).length = ds.length := by rw [List.length_map, ← a.length, List.length_map]
    refine .dict ho hx.1 hd hsys ?_ ?_
    · rw [List.map_fst_zip (Nat.le_of_eq hl)]; exact q1
    · rw [List.map_snd_zip (Nat.le_of_eq hl.symm)]; exact DenAll.rdD I a q2
theorem DenAll.rdD (I : Inv X pins σ H s) : ∀ {vs : List V} {ds : List D} {us : List Value}, DenAll X.K H vs ds → Vals vs us → RdDs s.heap us ds
  | _, _, _, .nil, r => by cases r; exact .nil
  | _, _, _, .cons a b, r => by
    cases r with
    | cons r1 r2 => exact .cons (Den.rdD I a r1) (DenAll.rdD I b r2)
end
theorem BDen.rdD (I : Inv X pins σ H s) {w : Option WA} {v : V} {d : D} {u : Value} (n : BDen X.K w H v d) (r : RelV v u) : RdD s.heap u d := by
  cases n with
  | den n => exact n.rdD I r
  | own h a _ =>
    cases r
    obtain ⟨its, rv, ⟨o, n, ho, hc, _, hd⟩, _⟩ := I.list (.inl (.inl h))
    exact .list ho hc hd (a.rdD I rv)
end
section
variable [WellKind] {X : Cx} {E : XK}
def topR : D → Bool
  | .dict _ => false
  | _ => true
def okRD (d : D) : Bool := PyData.showable d && topR d && decide (d.depth ≤ 64) && decide (d.shown.length ≤ sizeLine)
/-- repr of data, dicts in it too -/
def dReprD : List D → M D
  | [d] => if okRD d = true then .ret (.str d.shown) else .fail
  | _ => .fail
theorem cr_reprD (hg : X.A.guards = some []) (hu : X.A.units + 100 < cLine) : CallR X (.builtin "repr") (fun xs H Q => ∃ x d w, xs = [x] ∧ BDen X.K w H x d ∧ d.showable = true ∧ topR d = true ∧ d.depth ≤ 64 ∧ d.shown.length ≤ sizeLine ∧ Q (.str d.shown) H) := by
  rintro pins s σ H xs us Q I r ⟨x, d, w, rfl, hd, h1, h2, h3, h4, q⟩
  obtain ⟨u, rfl, ru⟩ := vals1 r
  have hr := hd.rdD I ru
  have fin : ∀ (h' : Heap) (u' : Tok) (tk : Nat), (∀ b o, s.heap.get? b = some o → h'.get? b = some o) → EP X pins σ Q (.str d.shown u') { s with heap := h', toks := tk } := fun h' u' tk k => ⟨.str d.shown, H, I.kept k, ⟨_, rfl⟩, q⟩
  cases hr with
  | none => exact P.repr_of_none (fin s.heap _ _ fun _ _ z => z)
  | bool b => exact P.repr_of_bool (fin s.heap _ _ fun _ _ z => z)
  | int i t => exact P.repr_of_int (by simpa [PyData.showable] using h1) (fin s.heap _ _ fun _ _ z => z)
  | str x t => exact P.repr_of_str (fin s.heap _ _ fun _ _ z => z) h4
  | @list a o vs n xs e1 e2 e3 e4 =>
    obtain ⟨as, rr⟩ := RdD.reads (.list e1 e2 e3 e4)
    have hz' : (listText (PyData.shownAll xs)).length ≤ sizeLine := by simpa only [PyData.shown] using h4
    obtain ⟨bs, hb, hk⟩ := RdDs.shows (prog := X.prog) (w := X.w) e4 (by simpa [PyData.showable] using h1) fun t ht => Nat.le_trans (listText_mem_le ht) hz'
    have hna : a ∉ bs := not_mem_of_deeper rr (by simp only [PyData.depth]; omega) hb
    simp only [PyData.depth] at h3
    simp only [PyData.shown] at fin
    refine call_repr_slot (by omega) ⟨o, e1, e2⟩ F.slot_list_repr.toG ?_
    obtain ⟨l⟩ := vs
    cases l with
    | nil =>
      cases e4
      simp only [PyData.shownAll, listText_nil] at fin
      exact call_list_repr_empty ⟨o, e1, e2⟩ e1 e3 ⟨_, _, rfl, fin s.heap _ _ fun _ _ z => z⟩
    | cons x l =>
      exact call_list_reprK e1 e2 e3 hna (by simpa using hk.length_eq) (fun i y e => hk.item i y (by simpa using e)) hg (fun b _ => Clear.nil b) (by show X.A.units + 1 + _ < cLine; omega) (fun _ _ z => z) (fun h' u tk k => ⟨_, _, rfl, fin h' u tk k⟩) hz'
  | @tuple a o vs n xs e1 e2 e3 e4 =>
    obtain ⟨as, rr⟩ := RdD.reads (.tuple e1 e2 e3 e4)
    have hz' : (tupleText (PyData.shownAll xs)).length ≤ sizeLine := by simpa only [PyData.shown] using h4
    obtain ⟨bs, hb, hk⟩ := RdDs.shows (prog := X.prog) (w := X.w) e4 (by simpa [PyData.showable] using h1) fun t ht => Nat.le_trans (tupleText_mem_le ht) hz'
    have hna : a ∉ bs := not_mem_of_deeper rr (by simp only [PyData.depth]; omega) hb
    simp only [PyData.depth] at h3
    simp only [PyData.shown] at fin
    refine call_repr_slot (by omega) ⟨o, e1, e2⟩ F.slot_tuple_repr ?_
    exact call_tuple_reprK e1 e2 e3 hna hk hg (fun b _ => Clear.nil b) (by show X.A.units + 1 + _ < cLine; omega) (fun _ _ z => z) (fun h' u tk k => ⟨_, _, rfl, fin h' u tk k⟩) hz'
  | dict => cases h2
theorem qc_reprD {k : Nat} (gd : Good true X E k) : QC X E (.builtin "repr") dReprD := by
  refine ⟨_, cr_reprD (gd.grd rfl) (by have := gd.room.un; omega), fun w H vs ds Q hw n q => ?_⟩
  unfold dReprD at q
  split at q
  · obtain ⟨v, rfl, nn⟩ := bd1 n
    obtain ⟨hz, q⟩ := ite_wp q
    unfold okRD at hz
    simp only [Bool.and_eq_true, decide_eq_true_eq] at hz
    exact ⟨v, _, w, rfl, nn, hz.1.1.1, hz.1.1.2, hz.1.2, hz.2, q _ H (.refl hw) (.str _)⟩
  · exact q.elim
end
end Q

set_option Elab.async false
set_option linter.all false
set_option maxRecDepth 100000
namespace Q
open PySem PySem.Spec PyProof.Rows L2
variable [WellKind]
/-! ### text.replace of written texts: a token is out -/
def QET (X : Cx) (E : XK) (e : Expr) (m : Env → M D) : Prop :=
  ∃ t, PET X e t ∧ ∀ w σ H δ Q, RD X.K w H σ δ → wp (m δ) (fun d => ∀ v H', Grow w H H' → Den X.K H' v d → Q v H') (XP X.mg E w H) → t σ H Q
def QST (X : Cx) (E : XK) (st : Stmt) (m : Env → M Flow) : Prop :=
  ∃ t, PST X st t ∧ ∀ fr w σ H δ Dn, RS X.K fr w H σ δ → wp (m δ) (FlowP X.K fr Dn) (XS X.mg E fr) → t Dn σ H
def QSsT (X : Cx) (E : XK) (st : List Stmt) (m : Env → M Flow) : Prop :=
  ∃ t, PSsT X st t ∧ ∀ fr w σ H δ Dn, RS X.K fr w H σ δ → wp (m δ) (FlowP X.K fr Dn) (XS X.mg E fr) → t Dn σ H
def dRepl (y z : Str) : D → M D
  | .str x => if x.length + (x.length + 1) * z.length ≤ 16777216 then .ret (.str (Txt.replace x y z)) else .fail
  | _ => .fail
def eRepl (y z : Str) (mo : Env → M D) (δ : Env) : M D := (mo δ).bind (dRepl y z)
section
variable {X : Cx} {E : XK} {e o a b : Expr} {rest : List Expr} {me mo ma mb : Env → M D} {y z : Str} {j k : Nat} {c0 c1 apos pos : Pos} {st : Stmt} {sts : List Stmt} {m m1 m2 : Env → M Flow}
theorem qet_of (h : QE X E e me) : QET X E e me := by
  obtain ⟨t, a, b⟩ := h
  exact ⟨t, CwR.PET.of a, b⟩
theorem qet_repl (ho : QET X E o mo) (hyz : (y == z) = false := by decide)
    (hst : starEach [.Constant (.str y) j c0, .Constant (.str z) k c1] X.env = [(false, eval (.Constant (.str y) j c0) X.env), (false, eval (.Constant (.str z) k c1) X.env)] := by rfl)
    (hbase : attributeBase o "replace" X.env (eval o X.env) = eval o X.env := by rfl) (hline : (apos.endLine == pos.line) = true := by rfl) :
    QET X E (.Call (.Attribute o "replace" apos) [.Constant (.str y) j c0, .Constant (.str z) k c1] [] pos) (eRepl y z mo) := by
  obtain ⟨t, a, b⟩ := ho
  refine ⟨_, CwR.pet_replT a hyz hst hbase hline, fun w σ H δ Q r q => b w σ H δ _ r (wp_then (wp_bind.mp q) fun d q1 v H1 g1 n1 => ?_)⟩
  cases d <;> first | exact q1.elim | skip
  rename_i x
  obtain ⟨hz, q1⟩ := ite_wp q1
  cases n1
  exact ⟨x, rfl, hz, q1 _ H1 g1 (.str _)⟩
/-- a comparison whose left side wants a token -/
theorem qet_cmp {op : CmpOp} {f : D → D → M D} (ho : QOp X E (compareOp op) f) (ha : QET X E a ma) (hb : QB X E b mb) (hm : behindInMarks op b = false) : QET X E (.Compare a [op] [b] pos) (eBin f ma mb) := by
  obtain ⟨r, h1, h2⟩ := ho
  obtain ⟨ta, a1, a2⟩ := ha
  obtain ⟨tb, b1, b2⟩ := hb
  refine ⟨tOp r ta tb, fun pins s σ H Q h0 I h => wpAny_Compare1 (thn (a1 pins s σ H _ h0 I h) fun v s1 ⟨x, H1, I1, rx, q1⟩ => thn (b1.run pins s1 σ H1 _ I1 q1) fun u s2 ⟨y, H2, I2, ry, q2⟩ => h1 pins s2 σ H2 x y v u Q I2 rx ry q2) hm, fun w σ H δ Q rl q => a2 w σ H δ _ rl (wp_then (wp_bind.mp q) fun x q1 v1 H1 g1 n1 => ?_)⟩
  refine b2 w σ H1 δ _ (rl.grow g1) (wp_mono (wp_bind.mp q1) (fun y q2 v2 H2 g2 n2 => ?_) fun _ z => z.grow g1)
  exact h2 w H2 v1 v2 x y Q g2.well (BDen.den (n1.grow g2)) n2 (wp_mono q2 (fun d k v H' g n => k v H' ((g1.trans g2).trans g) n) fun _ z => z.grow (g1.trans g2))
theorem qet_one {op} (h : QET X E a ma) : QET X E (.BoolOp op [a] pos) ma := by
  obtain ⟨t, h1, h2⟩ := h
  exact ⟨t, fun pins s σ H Q h0 I hw => BoolOp_one (h1 pins s σ H Q h0 I hw), h2⟩
theorem qet_and (h : QET X E a ma) (h2 : QET X E (.BoolOp .And (b :: rest) pos) mb) : QET X E (.BoolOp .And (a :: b :: rest) pos) (eAnd ma mb) := by
  obtain ⟨t, a1, a2⟩ := h
  obtain ⟨t2, b1, b2⟩ := h2
  refine ⟨tAndV t t2, fun pins s σ H Q h0 I h => ?_, fun w σ H δ Q r q => a2 w σ H δ _ r (wp_then (wp_bind.mp q) fun d q1 v H1 g1 n => ?_)⟩
  · refine BoolOp_and (wpAny_mono (PySem.wpAny_toks (a1 pins s σ H _ h0 I h)) (fun v s1 q => ?_) fun _ _ z => z.2)
    obtain ⟨hk, x, H1, I1, r1, c, rfl, q1⟩ := q
    cases r1
    refine wpAny_truthy_bool ?_
    cases c with
    | true => exact b1 pins s1 σ H1 Q (Nat.le_trans h0 hk) I1 q1
    | false => exact ⟨.bl false, H1, I1, rfl, q1⟩
  · cases d <;> first | exact q1.elim | skip
    rename_i k
    cases n
    refine ⟨k, rfl, ?_⟩
    cases k with
    | true => exact iteT (b2 w σ H1 δ _ (r.grow g1) (wp_mono q1 (fun d z v H' g n => z v H' (g1.trans g) n) fun _ z => z.grow g1))
    | false => exact iteF (q1 _ H1 g1 (.bl _))
theorem qst_of (h : QS X E st m) : QST X E st m := by
  obtain ⟨t, a, b⟩ := h
  exact ⟨t, PST.of a, b⟩
theorem qst_ret (h : QET X E e me) : QST X E (.Return (some e) pos) (sRet me) := by
  obtain ⟨t, a, b⟩ := h
  exact ⟨_, CwR.pst_ret a, fun fr w σ H δ Dn r q => b w σ H δ _ r.rd (wp_in r (wp_bind.mp q) fun d k v H' g n => k v H' (r.far g) n)⟩
theorem qsst_of (h : QSs X E sts m) : QSsT X E sts m := by
  obtain ⟨t, a, b⟩ := h
  exact ⟨t, PSsT.of a, b⟩
theorem qsst_one (h : QST X E st m) : QSsT X E [st] m := by
  obtain ⟨t, a, b⟩ := h
  refine ⟨tSeq t tNext, CwR.psst_one a, fun fr w σ H δ Dn r q => ?_⟩
  exact b fr w σ H δ Dn r q
theorem qsst_cons (h : QST X E st m1) (h2 : QSsT X E sts m2) : QSsT X E (st :: sts) (sSeq m1 m2) := by
  obtain ⟨t, a, b⟩ := h
  obtain ⟨t2, a2, b2⟩ := h2
  refine ⟨_, psst_cons a a2, fun fr w σ H δ Dn r q => b fr w σ H δ _ r (wp_mono (wp_bind.mp q) (fun f k => ?_) fun _ z => z)⟩
  cases f with
  | next δ' => exact fun w' σ' H' r' => b2 fr w' σ' H' δ' Dn r' k
  | retn d => exact k
  | brk δ' => exact k
  | cont δ' => exact k
end
section
variable {u : Bool} {P : Program} {w : World} {K : PySem.W.Frag} {mg : Str → Option Value} {base : Heap}
/-- a def with a parameter, none of its names in a cell: a token is out when its body begins -/
theorem GOk.ofT {x qual : Str} {st : Stmt} {f : Addr} {fd : FuncData} {N ps : List Str} {k : Nat} {sp : Sp} (F : Fun K x qual st f fd) (S : FnScope N ps (defScope st)) (hnc : ∀ y ∈ (defScope st).names, y.2 ≠ .cell) (hps : 1 ≤ ps.length)
    (ar : ∀ vs H Q E, sp vs H Q E → vs.length = ps.length)
    (hb : ∀ (cdv : Value), fd.code = cdv → ∀ (A : Around) (outer : List PySem.Env) (s : Shared) (H : Hp) (vs : List V) (Q : VK) (E : XK), Room k (A.deeper (envOfC qual (defScope st) s.heap.objs.size f cdv)) → (u = true → A.guards = some []) → sp vs H Q E →
      ∃ t, PSsT (cxOf (L2.CX P w) P w K mg base N qual (defScope st) f cdv A outer s H E) (defBody st) t ∧ t { nx := fun _ H' => Q .non H', rt := Q } (start N vs) H) : GOk u P w K mg base (k + 1) f fd ps sp := by
  obtain ⟨oc, od, kV, doc, pm, an, cdv, ct, osl, rfl, lk, hcd⟩ := F.ex
  refine ⟨ar, fun A outer s H args us vs Q E hr hgd e0 hbd rv hsp => ?_⟩
  have kin : K.In s.heap := e0.mod.kin.keeps fun b o e => (e0.bs b o e).1
  have hul : us.length = ps.length := by rw [← rv.length, ar _ _ _ _ hsp]
  have hloc : ∀ y ∈ ps.zip us, (defScope st).names.lookup y.1 = some .local := fun ⟨n, v⟩ hy => by
    rcases S.par n (List.of_mem_zip hy).1 with q | q
    · exact q
    · exact absurd rfl (hnc _ (PySem.mem_of_lookup q))
  refine codeAny_call_function hr.depth (kin _ _ lk) rfl S.co S.gen rfl (PySem.W.codeRec_of kin hcd) (hbd _ _ _ _ ?_)
  refine wpAny_newFunctionEnv hnc hloc (fun h1 hns hsb => ?_) S.kind
  have keep : ∀ b o, s.heap.get? b = some o → h1.get? b = some o := fun b o e => hsb.extBut b o (Nat.ne_of_lt (Heap.lt_size e)) (Heap.get?_push_of_some _ e)
  have hcl : cellsFrom (s.heap.objs.size + 1) (defScope st).names [] = [] := cells_none _ _ _ hnc
  have hkl : ∀ y ∈ ps.zip us, (envOfC qual (defScope st) s.heap.objs.size f cdv).kindOf y.1 = some .local := fun y hy => by
    first
    | exact hloc y hy
    | (simp only [PySem.Env.kindOf]; exact hloc y hy)
    | (unfold PySem.Env.kindOf; rw [if_pos S.kind]; exact hloc y hy)
    | simpa [PySem.Env.kindOf, envOfC, newEnv, S.kind] using hloc y hy
  have hm : (bindL (envOfC qual (defScope st) s.heap.objs.size f cdv).kindOf (ps.zip us) fun _ => none) = fun x => (ps.zip us).reverse.lookup x := by
    funext y
    rw [bindL_loc _ _ hkl y]
    cases (ps.zip us).reverse.lookup y <;> rfl
  have x : InCallC s s.heap.objs.size (bindL (envOfC qual (defScope st) s.heap.objs.size f cdv).kindOf (ps.zip us) fun _ => none) (cellsFrom (s.heap.objs.size + 1) (defScope st).names [])
      (bindC (envOfC qual (defScope st) s.heap.objs.size f cdv).kindOf (ps.zip us) fun _ => none) ({ s with heap := h1, toks := s.toks + (ps.zip us).length } : Shared) := by
    rw [hm, hcl]
    exact ⟨⟨⟨_, _, rfl⟩, hns, keep, Nat.le_refl _⟩, fun n c hc => absurd hc (by simp), .nil, fun n c hc => absurd hc (by simp)⟩
  have henv : newEnv (defScope st) s.heap.objs.size mainGlobals [] (qual ++ ".<locals>.") (some f) cdv none builtinsNs = envOfC qual (defScope st) s.heap.objs.size f cdv := by
    unfold envOfC
    rw [hcl] <;> rfl
  have hz : (ps.zip us).length = ps.length := by rw [List.length_zip, hul, Nat.min_self]
  have hto : 1 ≤ ({ s with heap := h1, toks := s.toks + (ps.zip us).length } : Shared).toks := by
    show 1 ≤ s.toks + (ps.zip us).length
    omega
  show ({ s with heap := h1, toks := s.toks + (ps.zip us).length } : Shared).heap.NoLimit ∧ codeAny (model P w) A (.func (defBody st) (newEnv (defScope st) s.heap.objs.size mainGlobals [] (qual ++ ".<locals>.") (some f) cdv none builtinsNs)) _ ({ s with heap := h1, toks := s.toks + (ps.zip us).length } : Shared)
  rw [henv]
  generalize ({ s with heap := h1, toks := s.toks + (ps.zip us).length } : Shared) = s1 at x hto ⊢
  refine ⟨(e0.mod.nolimit.keeps fun b o e => (e0.bs b o e).1).keeps x.toInCall.keep, codeAny_func ?_⟩
  obtain ⟨t, ht, hq⟩ := hb cdv rfl A outer s H vs Q E (hr.deeper _) hgd hsp
  refine wpAny_mono (ht [] s1 (start N vs) H _ hto (inv_start S hr.hd e0 (ar _ _ _ _ hsp) rv x) hq) (fun fl s2 hs => ?_) fun _ _ z => z
  cases fl with
  | next =>
    obtain ⟨σ2, H2, J, q⟩ := hs
    exact ⟨V.non, H2, J.os, J.bare, J.base, J.hok, rfl, q⟩
  | ret u =>
    obtain ⟨v, σ2, H2, J, rv, q⟩ := hs
    exact ⟨v, H2, J.os, J.bare, J.base, J.hok, rv, q⟩
  | brk => obtain ⟨_, _, _, q⟩ := hs; exact q.elim
  | cont => obtain ⟨_, _, _, q⟩ := hs; exact q.elim
/-- a def by its mirror, a token out -/
theorem fn_pureT {x qual : Str} {st : Stmt} {f : Addr} {fd : FuncData} {N ps : List Str} {k : Nat} {mb : Env → M Flow} {n : Nat} (F : Fun K x qual st f fd) (S : FnScope N ps (defScope st)) (hn : N.length = n)
    (hnc : ∀ y ∈ (defScope st).names, y.2 ≠ .cell) (hps : 1 ≤ ps.length)
    (hb : ∀ (X : Cx) (E : XK), X.prog = P → X.w = w → X.K = K → X.mg = mg → X.base = base → X.N = N → X.env.scope = defScope st → (∀ x, X.fn x = true) → (∃ cdv A outer s H, fd.code = cdv ∧ X = cxOf (L2.CX P w) P w K mg base N qual (defScope st) f cdv A outer s H E) → Good u X E k → QSsT X E (defBody st) mb) :
    GOk u P w K mg base (k + 1) f fd ps (spM K mg ps.length (fnM n mb)) := by
  refine GOk.ofT F S hnc hps (fun vs H Q E h => spM_len h) fun cdv hcv A outer s H vs Q E hr hg h => ?_
  obtain ⟨wa, ss, h1, h2, h3, ht, h4⟩ := h
  have gd : Good u (cxOf (L2.CX P w) P w K mg base N qual (defScope st) f cdv A outer s H E) E k :=
    ⟨rfl, hr, hg, L2.passes_of rfl, L2.passes_call (L2.takes_of rfl rfl rfl rfl) fun _ _ _ _ z => z, L2.takes_of rfl rfl rfl rfl⟩
  obtain ⟨t, a, b⟩ := hb _ E rfl rfl rfl rfl rfl rfl rfl (fun _ => rfl) ⟨cdv, A, outer, s, H, hcv, rfl⟩ gd
  refine ⟨t, a, b ⟨H, wa, H⟩ wa (start N vs) H (pad N.length ss) _ (rs_start h2 h3 ht) ?_⟩
  unfold fnM at h4
  rw [hn]
  refine wp_mono (wp_bind.mp h4) (fun fl q => ?_) fun _ z => z
  cases fl with
  | next δ => exact fun w' σ' H' r' => q .non H' r'.grow .non
  | retn d => exact fun v H' g n => q v H' g n
  | brk δ => exact q.elim
  | cont δ => exact q.elim
end
end Q

set_option Elab.async false
set_option linter.all false
set_option maxRecDepth 100000
set_option maxHeartbeats 3200000
namespace Q
open PySem PySem.Spec PyProof.Rows L2
/-! ### list(text): the list of its signs -/
section
variable {prog : Program} {w : World} {A : Around} {E : Value → Shared → Prop} {s : Shared}
theorem hint_str {x : Str} {t : Tok} {Q : Bool → Shared → Prop} (h : Q false s) : wpAny (model prog w) A (Builtin.List.listLengthHint (.str x t)) Q E s := by
  have hT : s.TypeIs (.str x t) "str" := typeIs_str s x t
  unfold Builtin.List.listLengthHint
  refine wpAny_bind (wpAny_specialOf hT F.slot_str_len.lookup ?_)
  generalize hid : ("str.__len__" : String) = id0
  wp_delta
  rw [show splitId id0 = some ("str", "__len__") from by subst hid; decide +kernel]
  subst hid
  refine wpAny_bind (wpAny_isInstance (T := "str") (b := true) hT (by rw [isSubtype_type]; kernel_rfl) ?_)
  refine wpAny_ite_split (fun hab => absurd hab (by decide)) (fun _ => ?_)
  refine wpAny_ite_split (fun _ => ?_) (fun hab => absurd (by decide +kernel) hab)
  refine wpAny_bind (wpAny_typeOf hT ?_)
  exact wpAny_pure h
theorem extend_str {R : Result → Shared → Prop} (hh : A.handled = none) (x : Str) (t : Tok) (S : Addr) (res : Value) (c₀ : Nat) (hS : s.heap.get? S = some { cls := .type "list", data := .seq #[] c₀ })
    (hR : ∀ h' tk acc' c', (∀ b o, b ≠ S → s.heap.get? b = some o → h'.get? b = some o) → h'.get? S = some { cls := .type "list", dict := none, data := .seq acc' c', slots := #[] } →
      ItemsOf (SignAt x) acc' x.cps.size → R (.ok (.ret res)) { s with heap := h', toks := tk }) (hn : x.cps.size ≤ sizeLine) :
    wpAny (model prog w) A.in1 (Builtin.List.listExtendWith (.ref S) (.str x t) res)
      (fun fin s' => match fin with | .done f => R (.ok f) s' | .again c' => c'.quiet = true ∧ codeAny (model prog w) A c' R s') (fun e s' => R (.error e) s') s := by
  have hSI : S ≠ s.heap.objs.size := Nat.ne_of_lt (Heap.lt_size hS)
  have hSf : S ∉ [s.heap.objs.size] := fun hm => hSI (List.mem_singleton.mp hm)
  unfold Builtin.List.listExtendWith
  refine wpAny_bind (wpAny_typeOf (T := "str") (v := .str x t) (typeIs_str s x t) ?_)
  have h1 : Builtin.List.listSameRef (.ref S) (.str x t) = false := rfl
  have h2 : (Value.type "str" == Value.type "list") = false := by decide
  have h3 : (Value.type "str" == Value.type "tuple") = false := by decide
  simp only [h1, h2, h3, Bool.or_false, Bool.false_eq_true, if_false]
  refine wpAny_bind (wpAny_pyIter_str fun o St hW hst => ?_)
  refine wpAny_bind (wpAny_holding (hint_str ?_))
  rw [if_neg (by first | decide | decide +kernel)]
  have W := hW A.in1 hh
  refine wpAny_pure ⟨plainId_quiet PySem.F.plain_extend_loop _, codeAny_extend_loopS W.toS hn _ hSf _ x.cps.size 0 _ _ _ rfl (Nat.zero_le _) hst (Heap.get?_push_of_some _ hS) (ItemsOf.nil _) fun s' acc' c' hm hS' hacc => ?_⟩
  rw [Moved.eq_with hm]
  refine hR s'.heap s'.toks acc' c' (fun b ob hb e => hm.heap b ob (fun hmem => ?_) (Heap.get?_push_of_some _ e)) hS' hacc
  rcases List.mem_cons.mp hmem with e' | hmem
  · exact hb e'
  · exact absurd (Heap.lt_size e) (by rw [List.mem_singleton.mp hmem]; exact Nat.lt_irrefl _)
theorem list_init_str {R : Result → Shared → Prop} (hh : A.handled = none) (x : Str) (t : Tok) (S : Addr) (hS : s.heap.get? S = some { cls := .type "list", data := .seq #[] })
    (hR : ∀ h' tk acc' c', (∀ b o, b ≠ S → s.heap.get? b = some o → h'.get? b = some o) → h'.get? S = some { cls := .type "list", dict := none, data := .seq acc' c', slots := #[] } →
      ItemsOf (SignAt x) acc' x.cps.size → R (.ok (.ret .none)) { s with heap := h', toks := tk }) (hn : x.cps.size ≤ sizeLine) :
    wpAny (model prog w) A.in1 (Builtin.«list.__init__» ⟨[.ref S, .str x t], []⟩)
      (fun fin s' => match fin with | .done f => R (.ok f) s' | .again c' => c'.quiet = true ∧ codeAny (model prog w) A c' R s') (fun e s' => R (.error e) s') s := by
  show wpAny _ _ (do let old ← Builtin.List.listItems (.ref S); Builtin.List.listUpdate (.ref S) (fun _ => #[]); letGo old.toList.reverse; Builtin.List.listExtendWith (.ref S) (.str x t) .none) _ _ s
  refine wpAny_bind ?_
  unfold Builtin.List.listItems
  refine wpAny_bind (wpAny_seqItems hS rfl (wpAny_pure ?_))
  show wpAny _ _ (updateSeq S (fun _ => #[]) >>= fun _ => letGo (#[] : Array Value).toList.reverse >>= fun _ => Builtin.List.listExtendWith (.ref S) (.str x t) .none) _ _ s
  refine wpAny_bind (wpAny_updateSeq hS rfl ?_)
  have hS₂ := Heap.get?_update_self (Obj.mapSeq (fun _ => (#[] : Array Value))) hS rfl
  have oth : ∀ b o, b ≠ S → s.heap.get? b = some o → (s.heap.update S (Obj.mapSeq (fun _ => (#[] : Array Value)))).get? b = some o :=
    fun b o hb e => (Heap.get?_update_other _ _ (Ne.symm hb)).trans e
  refine wpAny_bind (wpAny_letGo ?_)
  refine extend_str hh x t S .none _ hS₂ (fun h' tk acc' c' hk hS' hacc => ?_) hn
  exact hR h' tk acc' c' (fun b o hb e => hk b o hb (oth b o hb e)) hS' hacc
theorem call_list_strR {x : Str} {t : Tok} {Q : Value → Shared → Prop} (hh : A.handled = none) (hn : x.cps.size ≤ sizeLine)
    (hQ : ∀ h' tk acc' c', (∀ b o, s.heap.get? b = some o → h'.get? b = some o) →
      h'.get? s.heap.objs.size = some { cls := .type "list", dict := none, data := .seq acc' c', slots := #[] } → ItemsOf (SignAt x) acc' x.cps.size → Q (.ref s.heap.objs.size) { s with heap := h', toks := tk }) :
    wpAny (model prog w) A (call (.type "list") [.str x t]) Q E s := by
  refine callType_codes (Q₁ := fun obj s₁ => obj = .ref s.heap.objs.size ∧ s₁ = { s with heap := s.heap.push { cls := .type "list", data := .seq #[] } }) PySem.F.called_list (PySem.F.typeCall_list_1 _) PySem.F.entry_list_init
    (code_list_new _ ⟨rfl, rfl⟩) fun obj s₁ h₁ => ?_
  obtain ⟨rfl, rfl⟩ := h₁
  have hS : (s.heap.push { cls := .type "list", data := .seq #[] }).get? s.heap.objs.size = some { cls := .type "list", data := .seq #[] } := Heap.get?_push_size _ rfl
  refine ⟨⟨_, hS, rfl⟩, PySem.F.args_list_init_2 _ _, list_init_str (A := A.in1) hh x t _ hS (fun h' tk acc' c' hk hS' hacc => ?_) hn⟩
  exact ⟨rfl, hQ h' tk acc' c' (fun b o e => hk b o (Nat.ne_of_lt (Heap.lt_size e)) (Heap.get?_push_of_some _ e)) hS' hacc⟩
end
section
variable [WellKind] {X : Cx} {E : XK}
def signV (x : Str) : List V := x.cps.toList.map fun c => V.str ⟨#[c]⟩
theorem call_list_str (hcalm : X.calm = true) : CallR X (.type "list") (fun xs H Q => ∃ x, xs = [.str x] ∧ x.cps.size ≤ sizeLine ∧ ∀ p, H p = none → Q (.ref p) (upd H p (.lst (signV x)))) := by
  intro pins s σ H xs us Q I r q
  obtain ⟨x, ex, hz, q⟩ := q
  subst ex
  obtain ⟨u, eu, rx⟩ := vals1 r
  subst eu
  obtain ⟨t, rfl⟩ := rx
  refine call_list_strR (I.ok.hd hcalm) hz fun h' tk acc c' hk hD hacc => ?_
  have hl : (signV x).length = x.cps.size := by unfold signV; rw [List.length_map, Array.length_toList]
  have hv : Vals (signV x) acc.toList := vals_of_idx _ _ (by rw [Array.length_toList, hacc.1, hl]) fun j u e => by
    obtain ⟨c, tk, e1, e2⟩ := hacc.2 j u (by rw [← Array.getElem?_toList]; exact e)
    refine ⟨.str ⟨#[c]⟩, ?_, tk, e2⟩
    unfold signV
    rw [List.getElem?_map, Array.getElem?_toList, e1]
    rfl
  exact ⟨.ref s.heap.objs.size, upd H s.heap.objs.size (.lst (signV x)), I.laid (t' := tk) hk (Nat.le_refl _)
    (show ObjOk X.prog X.w _ _ _ (.lst (signV x)) from ⟨by rw [hl]; exact hz, acc.toList, c', hv, by rw [Array.toArray_toList]; exact hD⟩), rfl, q _ (I.hok.fresh (Nat.le_refl _))⟩
theorem den_signs {K : PySem.W.Frag} {H : Hp} (x : Str) : DenAll K H (signV x) (chars x) := by
  unfold signV chars
  induction x.cps.toList with
  | nil => exact .nil
  | cons c l ih => exact .cons (.str _) ih
/-- list(x), of a list, a tuple or a text -/
def dListS : List D → M D
  | [.list ds] => .ret (.list ds)
  | [.tuple ds] => .ret (.list ds)
  | [.str x] => if (chars x).length ≤ sizeLine then .ret (.list (chars x)) else .fail
  | _ => .fail
theorem qc_listS (hcalm : X.calm = true) : QC X E (.type "list") dListS := by
  refine ⟨_, (CallR.fz call_list_of).or (CallR.fz (call_list_str hcalm)), fun w H vs ds Q hw n q => ?_⟩
  unfold dListS at q
  split at q
  · obtain ⟨v, rfl, nn⟩ := bd1 n
    obtain ⟨a, xs, rfl, h1, h2⟩ := nn.list
    exact .inl ⟨a, xs, rfl, .inl (.inl h1), fun l e => fz_new hw e h2 q⟩
  · obtain ⟨v, rfl, nn⟩ := bd1 n
    obtain ⟨a, xs, rfl, h1, h2⟩ := nn.tuple
    exact .inl ⟨a, xs, rfl, .inr h1, fun l e => fz_new hw e h2 q⟩
  · rename_i x
    obtain ⟨v, rfl, nn⟩ := bd1 n
    obtain ⟨hz, q⟩ := ite_wp q
    refine .inr ⟨x, by rw [nn.str], ?_, fun p e => fz_new hw e (den_signs x) q⟩
    unfold chars at hz
    rw [List.length_map, Array.length_toList] at hz
    exact hz
  · exact q.elim
end
end Q

set_option Elab.async false
set_option linter.all false
set_option maxRecDepth 100000
set_option maxHeartbeats 1000000
namespace Q
open PySem PySem.Spec PyProof.Rows L2
/-! ### y = [e for ..], a token out while e is evaluated -/
theorem thnT {α : Type} {t : Sem α} {Q Q' : α → Shared → Prop} {M : Model} {A : Around} {E : Value → Shared → Prop} {s : Shared} (h0 : 1 ≤ s.toks) (h : wpAny M A t Q (fun _ _ => False) s) (hQ : ∀ a s', 1 ≤ s'.toks → Q a s' → Q' a s') : wpAny M A t Q' E s :=
  wpAny_mono (PySem.wpAny_toks h) (fun a s' q => hQ a s' (Nat.le_trans h0 q.1) q.2) fun _ _ z => False.elim z.2
theorem thnE {α : Type} {t : Sem α} {Q Q' : α → Shared → Prop} {M : Model} {A : Around} {E : Value → Shared → Prop} {s : Shared} (h0 : 1 ≤ s.toks) (h : wpAny M A t Q E s) (hQ : ∀ a s', 1 ≤ s'.toks → Q a s' → Q' a s') : wpAny M A t Q' E s :=
  wpAny_mono (PySem.wpAny_toks h) (fun a s' q => hQ a s' (Nat.le_trans h0 q.1) q.2) fun _ _ z => z.2
section
variable {X : Cx}
theorem lcT {pins : List (Addr × Obj)} {s : Shared} {σ : L2.St} {H : Hp} {Q : VK} {elt tg iter : Expr} {scope : Scope} {own : List (Str × Nat)} {pos pos' : Pos} {wi : TI} {g : TG} {tt : TT} {te : TE} {use : Option (Value → Sem Unit)} {Qf : Value → Shared → Prop}
    (h0 : 1 ≤ s.toks) (hc : X.calm = true) (hN : X.N.Nodup) (I : Inv X pins σ H s) (hi : PI X tg iter wi) (ok : BlkOk X.N X.env.scope scope own)
    (hg : ∀ (s : Shared) (H : Hp) (C : Addr) (cl : List (Str × Addr)) (fp : List Addr), PG (X.blk s H scope (compEnvC scope cl C X.env) fp) tg g) (ht : ∀ (s : Shared) (H : Hp) (C : Addr) (cl : List (Str × Addr)) (fp : List Addr), PTs (X.blk s H scope (compEnvC scope cl C X.env) fp) [] tt)
    (he : ∀ (s : Shared) (H : Hp) (C : Addr) (cl : List (Str × Addr)) (fp : List Addr), PET (X.blk s H scope (compEnvC scope cl C X.env) fp) elt te) (hs : ∀ x, foldedSetIterable iter X.env x = pure x)
    (h : tLc wi g tt te (own.map (·.2)) σ H Q)
    (hRR : ∀ D C s' m H', Inv X pins σ H' s' → Q (.ref D) H' → s'.heap.Ns C m → FpOk X pins H' C → compPost (model X.prog X.w) X.A X.xe use Qf (.ref D) C (.ok .next) s') :
    wpAny (model X.prog X.w) X.A (comprehension (.ListComp elt [⟨tg, iter, [], 0⟩] scope pos) scope X.env pos' (newList []) false (eval iter X.env) use) Qf X.xe s := by
  have hfree : ∀ y ∈ scope.names, y.2 = .free → ∃ c, X.env.cells.lookup y.1 = some c := fun y hy e => (ok.free y hy e).elim (fun k => I.ok.has _ (.inl k)) fun k => I.ok.has _ (.inr k)
  refine wpAny_comprehension_free (use := use) rfl hs (closure_ok hfree) ok.kind (fun y hy e => by rw [ok.uniq y hy, e])
    (thnE h0 (hi.run pins s σ H _ I h) fun xv s1 t1 hx => thnE t1 hx fun itv s2 t2 h2 => ?_)
  obtain ⟨it, fp, tn, J, H2, e, I2, T, st2, f2, q⟩ := h2
  subst e
  refine wpAny_newObj_type (newEnv_comp ?_) (by show 0 ≤ sizeLine; decide)
  generalize hD : s2.heap.objs.size = D
  obtain ⟨W, ⟨m0, w0⟩, turn⟩ := q D (I2.hok.fresh (Nat.le_of_eq hD))
  generalize hs3 : ({ s2 with heap := s2.heap.push { cls := .type "list", data := .seq ([] : List Value).toArray } } : Shared) = s3
  have t3 : 1 ≤ s3.toks := by rw [← hs3]; exact t2
  have h3 : s3.heap = s2.heap.push { cls := .type "list", data := .seq ([] : List Value).toArray } := by rw [← hs3]
  have I3 : Inv X pins σ (upd H2 D (.lst [])) s3 := by
    rw [← hs3]
    refine I2.laid (t' := s2.toks) (fun b o e => Heap.get?_push_of_some _ e) (Nat.le_of_eq hD) ⟨Nat.zero_le _, [], 0, .nil, ?_⟩
    rw [← hD]
    exact Heap.get?_push_size _ rfl
  have f3 : ∀ b ∈ fp, FpOk X pins (upd H2 D (.lst [])) b ∧ b < s3.heap.objs.size := fun b hb => by
    have hlt : b < s2.heap.objs.size := by
      obtain ⟨o, e, _⟩ := T.obj _ _ st2 b hb
      exact Heap.lt_size e
    refine ⟨⟨?_, (f2 b hb).2⟩, by rw [h3, Heap.size_push]; exact Nat.lt_succ_of_lt hlt⟩
    rw [upd_ne (by rw [← hD]; exact Nat.ne_of_lt hlt)]
    exact (f2 b hb).1
  have st3 : tn 0 s3.heap := T.keep _ _ _ st2 fun b _ o e => by rw [h3]; exact Heap.get?_push_of_some _ e
  have I4 := block_start I3 ok hN f3
  have pg := hg s3 (upd H2 D (.lst [])) s3.heap.objs.size (cellsFrom (s3.heap.objs.size + 1) scope.names (cloFrom X.env.cells scope.names [])) fp
  have pt := ht s3 (upd H2 D (.lst [])) s3.heap.objs.size (cellsFrom (s3.heap.objs.size + 1) scope.names (cloFrom X.env.cells scope.names [])) fp
  have pe := he s3 (upd H2 D (.lst [])) s3.heap.objs.size (cellsFrom (s3.heap.objs.size + 1) scope.names (cloFrom X.env.cells scope.names [])) fp
  show codeAny _ _ (.compStart (.ListComp elt [⟨tg, iter, [], 0⟩] scope pos) 0 (.ref it) (.ref D) (compEnvC scope (cellsFrom (s3.heap.objs.size + 1) scope.names (cloFrom X.env.cells scope.names [])) s3.heap.objs.size X.env)) (compPost (model X.prog X.w) X.A X.xe use Qf (.ref D) s3.heap.objs.size) { s3 with heap := pushCells (s3.heap.push { cls := .type "dict", data := .dict #[] }) scope.names }
  have nfp : ∀ b ∈ fp, (upd H2 D (.lst [])) b = none := fun b hb => (f3 b hb).1.1
  generalize hce : compEnvC scope (cellsFrom (s3.heap.objs.size + 1) scope.names (cloFrom X.env.cells scope.names [])) s3.heap.objs.size X.env = ce at I4 pg pt pe ⊢
  have cL : ce.locals = s3.heap.objs.size := by subst hce; rfl
  generalize hH3 : upd H2 D (.lst []) = H3 at I3 I4 pg pt pe w0 nfp f3
  generalize hs4 : ({ s3 with heap := pushCells (s3.heap.push { cls := .type "dict", data := .dict #[] }) scope.names } : Shared) = s4 at I4 ⊢
  have t4 : 1 ≤ s4.toks := by rw [← hs4]; exact t3
  have st4 : tn 0 s4.heap := T.keep _ _ _ st3 fun b _ o e => by rw [← hs4]; exact pushCells_keeps _ _ _ _ (Heap.get?_push_of_some _ e)
  have stat : ∀ {σ' : L2.St} {H' : Hp} {s' : Shared}, Inv (X.blk s3 H3 scope ce fp) [] σ' H' s' → (∀ b ∈ fp, H' b = none) → ∀ b ∈ fp, FpOk (X.blk s3 H3 scope ce fp) [] H' b := fun {σ' H' s'} I' hn b hb =>
    ⟨hn b hb, (I'.ok.exf b hb).1, I'.ok.exfs b hb, .inl hb, fun x c e => (I'.ok.exf b hb).2 x c e, fun p hp => absurd (show p ∈ ([] : List (Addr × Obj)) ++ [] from hp) (by simp)⟩
  have loop : codeAny (model X.prog X.w) X.A (.compLoop (.ListComp elt [⟨tg, iter, [], 0⟩] scope pos) 0 (.ref it) (.ref D) ce) (compPost (model X.prog X.w) X.A X.xe use Qf (.ref D) s3.heap.objs.size) s4 := by
    refine compLoop_any (fun n s' => 1 ≤ s'.toks ∧ ∃ i H', Inv (X.blk s3 H3 scope ce fp) [] (L2.wipe σ (own.map (·.2))) H' s' ∧ tn i s'.heap ∧ (∀ b ∈ fp, H' b = none) ∧ W i n H') ?_ m0 ⟨t4, 0, H3, I4, st4, nfp, w0⟩
    rintro n s5 ⟨t5, i, H5, I5, st5, n5, w5⟩
    rcases turn i n H5 w5 with ⟨stop, qq⟩ | ⟨go, Nx, hNx, step⟩
    · refine thnF (T.done (X.blk s3 H3 scope ce fp) rfl rfl rfl hc i [] s5 _ H5 (fun _ _ => False) I5 (stat I5 n5) st5 stop) fun r s6 ⟨hr, I6⟩ => ?_
      subst hr
      have I7 : Inv X pins σ H5 s6 := I3.call' (ch := fp) I6.os I6.base I6.hok I6.bare fun b hb => ⟨(f3 b hb).1.2.2.2.1, (f3 b hb).1.2.1, (f3 b hb).1.2.2.2.2.1, (f3 b hb).1.2.2.2.2.2⟩
      have nC : H5 s3.heap.objs.size = none := by
        have z : H5 ce.locals = none := I6.free
        rw [cL] at z
        exact z
      obtain ⟨m, hn, _⟩ := I6.loc
      have hn : s6.heap.Ns ce.locals m := hn
      rw [cL] at hn
      exact hRR D s3.heap.objs.size s6 m H5 I7 qq hn (I3.fpOk (Nat.le_refl _) nC)
    · refine thnT t5 (T.item (X.blk s3 H3 scope ce fp) rfl rfl rfl hc i [] s5 _ H5 (fun _ _ => False) I5 (stat I5 n5) st5 go) fun r s6 t6 ⟨u, hr, h6⟩ => ?_
      subst hr
      refine thnT t6 h6 fun _ s7 t7 ⟨x, H7, I7, r7, y7, st7, n7⟩ => ?_
      have I7' := I7.pinned (stat I7 n7) (T.obj _ _ st7)
      refine thnT t7 (pg.run _ s7 _ H7 x u _ I7' r7 (step x H7 y7)) fun _ s8 t8 ⟨σ8, H8, I8, hw8, q8⟩ => ?_
      refine thnT t8 (pt.run _ s8 σ8 H8 _ I8 q8) fun b s9 t9 ⟨H9, I9, q9⟩ => ?_
      have fin : ∀ {s' : Shared} {H' : Hp}, 1 ≤ s'.toks → Inv (X.blk s3 H3 scope ce fp) ([] ++ pinsAt fp s7.heap) σ8 H' s' → Nx H' → ∃ m, m < n ∧ 1 ≤ s'.toks ∧ ∃ i H', Inv (X.blk s3 H3 scope ce fp) [] (L2.wipe σ (own.map (·.2))) H' s' ∧ tn i s'.heap ∧ (∀ b ∈ fp, H' b = none) ∧ W i m H' := fun {s' H'} t11 I11 nx => by
        obtain ⟨m', hm, w'⟩ := hNx _ nx
        have pin' : ∀ b ∈ fp, ∀ o, s7.heap.get? b = some o → s'.heap.get? b = some o ∧ H' b = none := fun b hb o e =>
          let z := I11.pin (b, o) (List.mem_append_right _ (List.mem_append_right _ (mem_pinsAt hb e)))
          ⟨z.1, z.2.1⟩
        have hl : (L2.wipe σ (own.map (·.2))).length = σ8.length := by rw [← hw8, wipe_length]
        refine ⟨m', hm, t11, i + 1, _, (I11.unpinned (pins := [])).weak hl (fun j v e => ?_), T.keep _ _ _ st7 fun b hb o e => (pin' b hb o e).1, fun b hb => ?_, w'⟩
        · rw [← hw8] at e
          exact (wipe_some e).1
        · obtain ⟨o, e, _⟩ := T.obj _ _ st7 b hb
          exact (pin' b hb o e).2
      cases b with
      | false =>
        simp only [Bool.false_eq_true, if_false] at q9 ⊢
        exact fin t9 I9 q9
      | true =>
        simp only [if_true] at q9 ⊢
        refine thnT t9 (pe _ s9 σ8 H9 _ t9 I9 q9) fun z s10 t10 ⟨yv, H10, I10, r10, acc, hD10, hz10, nx⟩ => ?_
        exact thnE t10 (app_ok (X := X.blk s3 H3 scope ce fp) (Q := fun _ s' => Inv (X.blk s3 H3 scope ce fp) ([] ++ pinsAt fp s7.heap) σ8 (upd H10 D (.lst (acc ++ [yv]))) s') I10 hD10 hz10 r10 fun s11 I11 => I11) fun _ s11 t11 I11 => fin t11 I11 nx
  exact codeAny_compStart_list loop (T.self X.A 0 _ _ _ st4 loop)
/-- name = [..] on one line, the name a local -/
theorem pst_setLc {i : Nat} {y : Str} {py : Pos} {elt tg iter : Expr} {scope : Scope} {own : List (Str × Nat)} {pos spos : Pos} {wi : TI} {g : TG} {tt : TT} {te : TE} (hc : X.calm = true) (hN : X.N.Nodup) (hy : X.N[i]? = some y) (hyl : X.env.scope.names.lookup y = some .local)
    (hsw : swapsWith (.ListComp elt [⟨tg, iter, [], 0⟩] scope pos) (some (.Name y py)) spos.line X.env = pure true) (hi : PI X tg iter wi) (ok : BlkOk X.N X.env.scope scope own)
    (hg : ∀ (s : Shared) (H : Hp) (C : Addr) (cl : List (Str × Addr)) (fp : List Addr), PG (X.blk s H scope (compEnvC scope cl C X.env) fp) tg g) (ht : ∀ (s : Shared) (H : Hp) (C : Addr) (cl : List (Str × Addr)) (fp : List Addr), PTs (X.blk s H scope (compEnvC scope cl C X.env) fp) [] tt)
    (he : ∀ (s : Shared) (H : Hp) (C : Addr) (cl : List (Str × Addr)) (fp : List Addr), PET (X.blk s H scope (compEnvC scope cl C X.env) fp) elt te) (hs : ∀ x, foldedSetIterable iter X.env x = pure x := by intro _; rfl) :
    PST X (.Assign [.Name y py] (.ListComp elt [⟨tg, iter, [], 0⟩] scope pos) spos) (tAsg (tLc wi g tt te (own.map (·.2))) (gName i)) := by
  intro pins s σ H D h0 I h
  rw [exec_Assign_Name_used _ _ _ _ hsw]
  refine wpAny_bind (wpAny_standAt (wpAny_bind ?_))
  show wpAny _ X.A (do let _ ← comprehension (.ListComp elt [⟨tg, iter, [], 0⟩] scope pos) scope X.env (firstIterPos [⟨tg, iter, [], 0⟩] pos) (newList []) false (eval iter X.env) (some (assign (.Name y py) X.env))) _ _ s
  have h : tLc wi g tt te (own.map (·.2)) σ H (fun x H1 => gName i x σ H1 D.nx) := h
  refine wpAny_bind (thn (lcT (Qf := fun _ s' => SP X pins D .next s') h0 hc hN I hi ok hg ht he hs h fun L C s' m H' I' q hn f => ?_) fun _ s' hq => wpAny_pure (wpAny_pure hq))
  show wpAny _ _ (assign (.Name y py) X.env (.ref L)) _ _ _
  refine wpAny_assign_Name (store_ok2 (v := V.ref L) I' hN hy (.inl hyl) rfl (fun s2 I2 ⟨a, sb, ha⟩ => ?_) (.inr hyl))
  obtain ⟨f0, f1, f2, f3, f4, f5⟩ := f
  have haC : C ≠ a := by
    rcases ha with z | z
    · rw [z]; exact f1
    · exact fun e => f4 y a z e.symm
  refine ⟨m, hn.sameBut sb haC, fun h3 sb3 => ?_⟩
  exact ⟨_, H', I2.turned (t' := s2.toks) (fun b o hb e => (sb3.2 b hb).trans e) f0 f1 f3 f4 f5, q⟩
theorem pst_fzN {st : Stmt} {t : TS} (h : PST X st t) : PST X st (fun Dn σ H => t { Dn with nx := fun σ H => ∃ p vs, H p = some (.lst vs) ∧ ∀ o, Dn.nx σ (upd H p (.frz o (.lst vs))) } σ H) := by
  intro pins s σ H Dn h0 I q
  refine thn (h pins s σ H _ h0 I q) fun f s1 z => ?_
  cases f with
  | next =>
    obtain ⟨σ', H', I', p, vs, h1, h2⟩ := z
    obtain ⟨o, I2⟩ := I'.lock h1 trivial
    exact ⟨σ', _, I2, h2 o⟩
  | ret v => exact z
  | brk => exact z
  | cont => exact z
variable [WellKind] {E : XK} {elt tg iter : Expr} {scope : Scope} {pos spos : Pos} {mi : Env → M (List D)} {is : List Nat} {g : D → Env → Option Env} {me : Env → M D}
theorem QET.pet {e : Expr} {m : Env → M D} (h : QET X E e m) : PET X e (tE X.K X.mg E m) := by
  obtain ⟨t, a, b⟩ := h
  exact fun pins s σ H Q h0 I ⟨w, δ, r, q⟩ => a pins s σ H Q h0 I (b w σ H δ Q r q)
/-- y = [..], to be read; the items want a token -/
theorem qst_setLc (i : Nat) {y : Str} {py : Pos} {own : List (Str × Nat)} (hc : X.calm = true) (hN : X.N.Nodup) (hi : QIt X E tg iter mi) (ok : BlkOk X.N X.env.scope scope own)
    (hg : ∀ (s : Shared) (H : Hp) (C : Addr) (cl : List (Str × Addr)) (fp : List Addr), QG (X.blk s H scope (compEnvC scope cl C X.env) fp) tg is g)
    (he : ∀ (s : Shared) (H : Hp) (C : Addr) (cl : List (Str × Addr)) (fp : List Addr), QET (X.blk s H scope (compEnvC scope cl C X.env) fp) E0 elt me)
    (hsw : swapsWith (.ListComp elt [⟨tg, iter, [], 0⟩] scope pos) (some (.Name y py)) spos.line X.env = pure true) (hy : X.N[i]? = some y := by rfl) (hyl : X.env.scope.names.lookup y = some .local := by rfl)
    (hiv : ∀ i ∈ is, i ∈ own.map (·.2) := by decide) (hs : ∀ x, foldedSetIterable iter X.env x = pure x := by intro _; rfl) :
    QST X E (.Assign [.Name y py] (.ListComp elt [⟨tg, iter, [], 0⟩] scope pos) spos) (sSetZ i (fComp (own.map (·.2)) mi g tTrue me)) := by
  obtain ⟨wi, i1, i2⟩ := hi
  refine ⟨_, pst_fzN (pst_setLc (g := tG X.K is g) (tt := tTs X.K X.mg E0 tTrue) (te := tE X.K X.mg E0 me) hc hN hy hyl hsw i1 ok (fun s H C cl fp => (hg s H C cl fp).pg) (fun s H C cl fp => qts_nil) (fun s H C cl fp => (he s H C cl fp).pet) hs), fun fr w σ H δ Dn r q => ?_⟩
  refine comp_read i2 hiv r.rd (wp_in r (wp_bind.mp q) fun ds k p vs H' g e1 e2 e3 n => ⟨p, vs, e2, fun o => ?_⟩)
  obtain ⟨g', n'⟩ := fz_grow g e1 e2 e3 n o
  exact k w _ _ ((r.step g').setD n')
end
end Q

set_option Elab.async false
set_option linter.all false
set_option maxRecDepth 100000
set_option maxHeartbeats 1000000
namespace Q
open PySem PySem.Spec PyProof.Rows L2
/-! ### max(texts, key=len): the first of the longest -/
section
variable {prog : Program} {w : World} {A : Around} {R : Result → Shared → Prop} {I S : Addr} {fp wr : List Addr} {n : Nat} {P : Nat → Value → Prop} {St : Nat → Heap → Prop} {kf : Nat → Int}
def keyL : Value := .builtin "len"
abbrev btK (kf : Nat → Int) : Nat → Nat → Bool := fun i j => decide (kf i > kf j)
abbrev PK (kf : Nat → Int) (i : Nat) (v : Value) : Prop := ∃ t, v = .int (kf i) t
theorem maxK_more (W : Walks prog w A.in1 I fp wr n P St) (hkey : ∀ i v (s : Shared) (Q E : Value → Shared → Prop), P i v → (∀ t tk, Q (.int (kf i) t) { s with toks := tk }) → wpAny (model prog w) A.in1 (call keyL [v]) Q E s) (hSf : S ∉ fp) :
    ∀ (k j : Nat) (s : Shared) (vb kb : Value) (c : Nat), n - (j + 1) = k → j + 1 ≤ n → St (j + 1) s.heap → P (argBest (btK kf) j) vb → PK kf (argBest (btK kf) j) kb →
    s.heap.get? S = some { cls := .type "list", dict := none, data := .seq #[vb, kb] c, slots := #[] } →
    (∀ v h' tk, P (argBest (btK kf) (n - 1)) v → (∀ b o, b ∉ wr → b ≠ S → s.heap.get? b = some o → h'.get? b = some o) → R (.ok (.ret v)) { s with heap := h', toks := tk }) →
    codeAny (model prog w) A (.builtin "max.loop" ⟨[.ref I, keyL, .ref S], []⟩) R s := by
  have hSw : S ∉ wr := fun h => hSf (W.sub _ h)
  have hname : (toString "max" ++ toString ".loop" : String) = "max.loop" := by decide
  have hcmp := CmpOf.ints_gt (prog := prog) (w := w) (A := A.in1) (P := PK kf) kf (fun i v h => h)
  intro k
  induction k with
  | zero =>
    intro j s vb kb c hk hj hst hPb hKb hS hR
    have hin : j + 1 = n := by omega
    refine codeAny_builtin F.entry_max_loop ?_
    rw [Around.under_plainId F.plain_max_loop _]
    show wpAny _ A.in1 (seqItems? (.ref S) >>= _) _ _ s
    refine wpAny_bind (wpAny_seqItems hS rfl ?_)
    show wpAny _ A.in1 (tryCatch (pyNext (.ref I)) _ >>= _) _ _ s
    refine wpAny_bind (wpAny_tryCatch (W.done s _ _ (hin ▸ hst) fun h' tk hk' => ?_))
    have hS' := hk' S _ hSw hS
    show wpAny _ A.in1 (updateSeq S (fun _ => #[]) >>= _) _ _ _
    refine wpAny_bind ?_
    refine wpAny_updateSeq hS' rfl (wpAny_bind (wpAny_letGo (wpAny_pure ?_)))
    exact hR vb _ tk (by rw [← hin]; exact hPb) fun b o hbw hbS e => (Heap.get?_update_other _ _ (Ne.symm hbS)).trans (hk' b o hbw e)
  | succ k ih =>
    intro j s vb kb c hk hj hst hPb hKb hS hR
    have hlt : j + 1 < n := by omega
    refine codeAny_builtin F.entry_max_loop ?_
    rw [Around.under_plainId F.plain_max_loop _]
    show wpAny _ A.in1 (seqItems? (.ref S) >>= _) _ _ s
    refine wpAny_bind (wpAny_seqItems hS rfl ?_)
    show wpAny _ A.in1 (tryCatch (pyNext (.ref I)) _ >>= _) _ _ s
    refine wpAny_bind (wpAny_tryCatch (W.item (j + 1) s _ _ hlt hst fun v h' tk hP hst' hk' => ?_))
    have hS' := hk' S _ hSw hS
    show wpAny _ A.in1 (tryCatch (holding [v] (call keyL [v])) _ >>= _) _ _ _
    refine wpAny_bind (wpAny_tryCatch (wpAny_holding (hkey (j + 1) v _ _ _ hP fun t1 tk1 => ?_)))
    show wpAny _ A.in1 (tryCatch (holding [v, .int (kf (j + 1)) t1] (richCompare .Gt (.int (kf (j + 1)) t1) kb >>= _)) _ >>= _) _ _ _
    refine wpAny_bind (wpAny_tryCatch (wpAny_holding (wpAny_bind (hcmp (j + 1) (argBest (btK kf) j) _ kb _ _ _ ⟨t1, rfl⟩ hKb ?_))))
    refine wpAny_bind (wpAny_holding (wpAny_truthy_bool ?_))
    refine wpAny_bind (wpAny_letGo (wpAny_pure ?_))
    cases hb : btK kf (j + 1) (argBest (btK kf) j) with
    | true =>
      have hb' : decide (kf (j + 1) > kf (argBest (btK kf) j)) = true := hb
      simp only [hb', if_true]
      refine wpAny_bind ?_
      refine wpAny_updateSeq hS' rfl (wpAny_bind (wpAny_letGo ?_))
      rw [hname]
      have eb : argBest (btK kf) (j + 1) = j + 1 := by show (if btK kf (j + 1) (argBest (btK kf) j) = true then _ else _) = _; rw [if_pos hb]
      refine wpAny_pure ⟨plainId_quiet F.plain_max_loop _, ih (j + 1) _ v (.int (kf (j + 1)) t1) _ (by omega) hlt (W.frame _ _ _ hst' fun b hbf o e => ?_) (by rw [eb]; exact hP) (by rw [eb]; exact ⟨t1, rfl⟩) (Heap.get?_update_self _ hS' rfl)
        fun v' h'' tk'' hP' hk'' => ?_⟩
      · exact (Heap.get?_update_other _ _ (fun h : S = b => hSf (by rw [h]; exact hbf))).trans e
      · exact hR v' h'' tk'' hP' fun b o hbw hbS e => hk'' b o hbw hbS ((Heap.get?_update_other _ _ (Ne.symm hbS)).trans (hk' b o hbw e))
    | false =>
      have hb' : decide (kf (j + 1) > kf (argBest (btK kf) j)) = false := hb
      simp only [hb', Bool.false_eq_true, if_false]
      refine wpAny_bind (wpAny_letGo ?_)
      rw [hname]
      have eb : argBest (btK kf) (j + 1) = argBest (btK kf) j := by show (if btK kf (j + 1) (argBest (btK kf) j) = true then _ else _) = _; rw [if_neg (by rw [hb]; decide)]
      refine wpAny_pure ⟨plainId_quiet F.plain_max_loop _, ih (j + 1) _ vb kb c (by omega) hlt hst' (by rw [eb]; exact hPb) (by rw [eb]; exact hKb) hS' fun v' h'' tk'' hP' hk'' => ?_⟩
      exact hR v' h'' tk'' hP' fun b o hbw hbS e => hk'' b o hbw hbS (hk' b o hbw e)
theorem maxK_some (W : Walks prog w A.in1 I fp wr n P St) (hkey : ∀ i v (s : Shared) (Q E : Value → Shared → Prop), P i v → (∀ t tk, Q (.int (kf i) t) { s with toks := tk }) → wpAny (model prog w) A.in1 (call keyL [v]) Q E s) (hSf : S ∉ fp) (hn : 0 < n) {s : Shared} {c : Nat} (hst : St 0 s.heap)
    (hS : s.heap.get? S = some { cls := .type "list", dict := none, data := .seq #[] c, slots := #[] })
    (hR : ∀ v h' tk, P (argBest (btK kf) (n - 1)) v → (∀ b o, b ∉ wr → b ≠ S → s.heap.get? b = some o → h'.get? b = some o) → R (.ok (.ret v)) { s with heap := h', toks := tk }) :
    codeAny (model prog w) A (.builtin "max.loop" ⟨[.ref I, keyL, .ref S], []⟩) R s := by
  have hSw : S ∉ wr := fun h => hSf (W.sub _ h)
  have hname : (toString "max" ++ toString ".loop" : String) = "max.loop" := by decide
  refine codeAny_builtin F.entry_max_loop ?_
  rw [Around.under_plainId F.plain_max_loop _]
  show wpAny _ A.in1 (seqItems? (.ref S) >>= _) _ _ s
  refine wpAny_bind (wpAny_seqItems hS rfl ?_)
  show wpAny _ A.in1 (tryCatch (pyNext (.ref I)) _ >>= _) _ _ s
  refine wpAny_bind (wpAny_tryCatch (W.item 0 s _ _ hn hst fun v h' tk hP hst' hk' => ?_))
  have hS' := hk' S _ hSw hS
  show wpAny _ A.in1 (tryCatch (holding [v] (call keyL [v])) _ >>= _) _ _ _
  refine wpAny_bind (wpAny_tryCatch (wpAny_holding (hkey 0 v _ _ _ hP fun t1 tk1 => ?_)))
  show wpAny _ A.in1 (updateSeq S (fun _ => #[v, .int (kf 0) t1]) >>= _) _ _ _
  refine wpAny_bind ?_
  refine wpAny_updateSeq hS' rfl ?_
  rw [hname]
  refine wpAny_pure ⟨plainId_quiet F.plain_max_loop _, maxK_more W hkey hSf _ 0 _ v (.int (kf 0) t1) _ rfl hn (W.frame _ _ _ hst' fun b hbf o e => ?_) hP ⟨t1, rfl⟩ (Heap.get?_update_self _ hS' rfl) fun v' h'' tk'' hP' hk'' => ?_⟩
  · exact (Heap.get?_update_other _ _ (fun h : S = b => hSf (by rw [h]; exact hbf))).trans e
  · exact hR v' h'' tk'' hP' fun b o hbw hbS e => hk'' b o hbw hbS ((Heap.get?_update_other _ _ (Ne.symm hbS)).trans (hk' b o hbw e))
end
section
variable {prog : Program} {w : World} {A : Around} {E : Value → Shared → Prop} {s : Shared} {l : Addr} {its : List Value} {xs : List Str} {Q : Value → Shared → Prop}
theorem maxK_args (a v : Value) : argsOk "max" ⟨[a], [("key", v)]⟩ := by unfold argsOk; kernel_rfl
abbrev kLen (xs : List Str) : Nat → Int := fun i => ((xs.getD i (⟨#[]⟩ : Str)).length : Nat)
theorem maxK_raw (hh : A.handled = none) (hl : s.heap.IsList l its.toArray) (hi : Vals (xs.map V.str) its) (h0 : xs ≠ []) (hx : ∀ x ∈ xs, x.length ≤ 16777216)
    (h : ∀ h' tk t', (∀ b o, s.heap.get? b = some o → h'.get? b = some o) → Q (.str (xs.getD (argBest (btK (kLen xs)) (xs.length - 1)) ⟨#[]⟩) t') { s with heap := h', toks := tk }) :
    wpAny (model prog w) A (call (.builtin "max") [.ref l] [("key", keyL)]) Q E s := by
  have hname : (toString "max" ++ toString ".loop" : String) = "max.loop" := by decide
  have hlen : its.length = xs.length := by rw [← hi.length, List.length_map]
  have hat : ∀ i v, its.toArray[i]? = some v → ∃ t, v = .str (xs.getD i ⟨#[]⟩) t ∧ i < xs.length := fun i v e => by
    have e' : its[i]? = some v := by simpa using e
    have hlt : i < its.length := by
      rcases Nat.lt_or_ge i its.length with c | c
      · exact c
      · rw [List.getElem?_eq_none c] at e'; cases e'
    obtain ⟨u, e2, r⟩ := hi.get (i := i) (x := .str (xs.getD i ⟨#[]⟩)) (by
      rw [List.getElem?_map, List.getD_eq_getElem?_getD, List.getElem?_eq_getElem (by omega)]; rfl)
    rw [e'] at e2
    cases e2
    obtain ⟨t, rfl⟩ := r
    exact ⟨t, rfl, by omega⟩
  refine kmb_tree F.kind_max F.plain_max F.entry_max (maxK_args _ _) ?_
  show wpAny _ A.in1 (Builtin.Builtins.bindParams "max" ["key", "default"] 0 ⟨[], [("key", keyL)]⟩ >>= _) _ _ s
  refine wpAny_bind (wpAny_of_eq (show Builtin.Builtins.bindParams "max" ["key", "default"] 0 ⟨[], [("key", keyL)]⟩ = pure [some keyL, none] from rfl) ?_)
  refine wpAny_bind (wpAny_pure ?_)
  refine wpAny_bind (wpAny_pyIter_list hl ?_)
  refine wpAny_bind (wpAny_newObj_type ?_)
  rw [hname]
  have hlt : l < s.heap.objs.size := by obtain ⟨_, e, _⟩ := hl; exact Heap.lt_size e
  have W := Walks.list (prog := prog) (w := w) (A := A.in1) hh s.heap.objs.size l (Nat.ne_of_lt hlt) its.toArray
  have hsf : (s.heap.push { cls := .type "list_iterator", data := .fields #[.ref l, .int 0 0] }).objs.size ∉ [s.heap.objs.size, l] := by
    rw [Heap.size_push]
    simp only [List.mem_cons, List.not_mem_nil, or_false, not_or]
    exact ⟨Nat.ne_of_gt (Nat.lt_succ_self _), Nat.ne_of_gt (Nat.lt_succ_of_lt hlt)⟩
  have kept : ∀ {h' : Heap}, (∀ b o, b ∉ [s.heap.objs.size] → b ≠ (s.heap.push { cls := .type "list_iterator", data := .fields #[.ref l, .int 0 0] }).objs.size → ((s.heap.push { cls := .type "list_iterator", data := .fields #[.ref l, .int 0 0] }).push { cls := .type "list", dict := none, data := .seq #[] 0, slots := #[] }).get? b = some o → h'.get? b = some o) →
      ∀ b o, s.heap.get? b = some o → h'.get? b = some o := fun hk b o e => by
    have h1 := Heap.lt_size e
    have h2 := Heap.get?_push_of_some { cls := .type "list_iterator", data := .fields #[.ref l, .int 0 0] } e
    exact hk b o (fun hm => Nat.ne_of_lt h1 (List.mem_singleton.mp hm)) (Nat.ne_of_lt (Heap.lt_size h2)) (Heap.get?_push_of_some _ h2)
  have hsz : its.toArray.size = xs.length := by rw [List.size_toArray]; exact hlen
  have hpos : 0 < its.toArray.size := by rw [hsz]; exact List.length_pos_iff.mpr h0
  refine wpAny_pure ⟨plainId_quiet F.plain_max_loop _, maxK_some (kf := kLen xs) W (fun i v s Q E hP hq => ?_) hsf hpos ?_ (Heap.get?_push_size _ rfl) fun v h' tk hv hk => ?_⟩
  · obtain ⟨t, rfl, hi⟩ := hat i v hP
    have hx' := hx (xs.getD i ⟨#[]⟩) (by rw [List.getD_eq_getElem?_getD, List.getElem?_eq_getElem hi]; exact List.getElem_mem _)
    exact len_str (by omega) (hq _ _)
  · exact ⟨⟨_, Heap.get?_push_of_some _ (Heap.get?_push_size _ rfl), rfl, rfl⟩, (hl.push _).push _⟩
  · rw [hsz] at hv
    obtain ⟨t, rfl, _⟩ := hat _ v hv
    exact h h' tk t (kept hk)
end
end Q

set_option Elab.async false
set_option linter.all false
set_option maxRecDepth 100000
namespace Q
open PySem PySem.Spec PyProof.Rows L2
variable [WellKind]
/-- the first of the longest -/
def longest (xs : List Str) : Str := xs.getD (argBest (btK (kLen xs)) (xs.length - 1)) ⟨#[]⟩
def dMaxK : List D → M D
  | [.list ds] => match strsOf ds with
    | some [] => .fail
    | some (x :: xs) => if ((x :: xs).all fun z => decide (z.length ≤ 16777216)) = true then .ret (.str (longest (x :: xs))) else .fail
    | none => .fail
  | _ => .fail
def idxS (y : Str) : List Str → Nat
  | [] => 0
  | x :: xs => if x = y then 0 else idxS y xs + 1
theorem idxS_at (y : Str) : ∀ {xs : List Str}, y ∈ xs → xs[idxS y xs]? = some y ∧ ∀ m, m < idxS y xs → ∀ z, xs[m]? = some z → z ≠ y
  | [], h => nomatch h
  | x :: xs, h => by
    unfold idxS
    by_cases e : x = y
    · rw [if_pos e]
      exact ⟨by rw [← e]; rfl, fun m hm => absurd hm (Nat.not_lt_zero m)⟩
    · rw [if_neg e]
      obtain ⟨h1, h2⟩ := idxS_at y ((List.mem_cons.mp h).resolve_left fun z => e z.symm)
      refine ⟨h1, fun m hm z hz => ?_⟩
      cases m with
      | zero => cases hz; exact e
      | succ m => exact h2 m (by omega) z hz
def dLix (ds : List D) : List D → M D
  | [.str y] => match strsOf ds with
    | some xs => if y ∈ xs then .ret (.int (idxS y xs : Nat)) else .fail
    | none => .fail
  | _ => .fail
def eLix (mo : Env → M D) (ms : Env → M (List D)) (δ : Env) : M D := (mo δ).bind fun d => match d with
  | .list ds => (ms δ).bind (dLix ds)
  | _ => .fail
section
variable {X : Cx} {E : XK} {e o : Expr} {mo : Env → M D} {ms : Env → M (List D)} {pos p p2 cpos kpos apos : Pos}
theorem qe_maxK (hc : X.calm = true) (hm : X.mg "max" = none) (hm2 : X.mg "len" = none) (h : QA X E [e] ms) (hg : Gl X "max" := by rfl) (hg2 : Gl X "len" := by rfl) (he : backTo pos (starEach [e] X.env) = (false, eval e X.env) :: backTo pos (starEach [] X.env) := by rfl) (hpl : (backTo pos (starEach [e] X.env)).any (·.1) = false := by rfl) :
    QE X E (.Call (.Name "max" p) [e] [⟨some "key", .Name "len" p2, kpos⟩] pos) (eB dMaxK ms) := by
  obtain ⟨t, a1, a2⟩ := h
  refine ⟨fun σ H Q => t σ H fun vs H1 => ∃ (a : Addr) (ns : List Str), vs = [V.ref a] ∧ SqL X.K H1 a (ns.map V.str) ∧ ns ≠ [] ∧ (∀ x ∈ ns, x.length ≤ 16777216) ∧ Q (.str (longest ns)) H1, ⟨fun pins s σ H Q I h => ?_⟩, fun w σ H δ Q rl q => a2 w σ H δ _ rl (wp_then (wp_bind.mp q) fun ds q1 vs H1 g1 n1 => ?_)⟩
  · refine wpAny_Call_Name_kw (ld_blt I hg hm (u := .builtin "max") (by first | rfl | decide +kernel) ?_ (by first | decide +kernel | decide) (by first | decide +kernel | decide))
    refine callWith_kw (thn (a1.run pos pins s σ H _ I h) fun us s1 ⟨vs, H1, I1, r, a, ns, ev, hs, q0, q1, q2⟩ => ?_) he hpl
    refine kws_cons (ld_blt I1 hg2 hm2 (u := .builtin "len") (by first | rfl | decide +kernel) (kws_nil ?_) (by first | decide +kernel | decide) (by first | decide +kernel | decide))
    subst ev
    obtain ⟨its, rv, hl, _⟩ := I1.list hs
    rw [Vals.ref1 r]
    exact maxK_raw (I1.ok.hd hc) hl.isList rv q0 q1 fun h' tk t' hk => ⟨.str _, H1, I1.kept hk, ⟨_, rfl⟩, q2⟩
  · unfold dMaxK at q1
    split at q1
    · obtain ⟨v, rfl, nn⟩ := bd1 n1
      obtain ⟨a, xs, rfl, h1, h2⟩ := nn.list
      split at q1
      · exact q1.elim
      · rename_i x ns e
        obtain ⟨hz, q1⟩ := ite_wp q1
        have ed := strsOf_eq e
        subst ed
        have ev := denAll_strs h2
        subst ev
        exact ⟨a, x :: ns, rfl, .inl h1, fun z => (nomatch z), fun y hy => of_decide_eq_true (List.all_eq_true.mp hz y hy), q1 _ H1 g1 (.str _)⟩
      · exact q1.elim
    · exact q1.elim
theorem qe_lix (ho : QB X E o mo) (ha : QA X E [e] ms)
    (hbase : attributeBase o "index" X.env (eval o X.env) = eval o X.env := by rfl)
    (hfew : ((backTo cpos (starEach [e] X.env)).all (fun x => !x.1) && (backToKw cpos (keywordEach [] X.env)).all (fun x => x.1.isSome)
      && decide (([e] : List Expr).length + ([] : List Keyword).length + (if ([] : List Keyword).isEmpty then 0 else 1) < 30)) = true := by rfl)
    (hline : (apos.endLine == cpos.line) = true := by rfl) (hs : starEach [e] X.env = (false, eval e X.env) :: starEach [] X.env := by rfl) (hplain : (backTo cpos (starEach [] X.env)).any (·.1) = false := by rfl) :
    QE X E (.Call (.Attribute o "index" apos) [e] [] cpos) (eLix mo ms) := by
  obtain ⟨to, o1, o2⟩ := ho
  obtain ⟨t, a1, a2⟩ := ha
  refine ⟨_, pe_bm PySem.F.plainAttrs_list PySem.F.slot_list_index PySem.F.type_list_index mt_index o1 a1 hbase hfew hline hs hplain, fun w σ H δ Q rl q => o2 w σ H δ _ rl (wp_then (wp_bind.mp q) fun d q1 v H1 g1 n1 => ?_)⟩
  cases d <;> first | exact q1.elim | skip
  rename_i xs0
  obtain ⟨a, ys, rfl, hl1, hl2⟩ := n1.list
  refine ⟨.inl ⟨rfl, ys, .inl hl1⟩, a2 w σ H1 δ _ (rl.grow g1) (wp_mono (wp_bind.mp q1) (fun ds q2 vs H2 g2 n2 => ?_) fun _ z => z.grow g1)⟩
  unfold dLix at q2
  split at q2
  · split at q2
    · rename_i y _ xs e
      obtain ⟨hz, q2⟩ := ite_wp q2
      have ed := strsOf_eq e
      subst ed
      obtain ⟨a', ys', ea, h1, h2⟩ := (n1.grow g2).list
      cases ea
      have ev := denAll_strs h2
      subst ev
      obtain ⟨v, rfl, nn⟩ := bd1 n2
      have ey := nn.str
      subst ey
      obtain ⟨i1, i2⟩ := idxS_at y hz
      refine ⟨a, xs.map V.str, .str y, idxS y xs, .str y, rfl, rfl, .inl h1, rfl, ?_, by rw [List.getElem?_map, i1]; rfl, by simp [eqV], fun m z' hm hz' => ?_, q2 _ H2 (g1.trans g2) (.int _)⟩
      · rw [List.all_eq_true]
        intro v hv
        obtain ⟨x, _, rfl⟩ := List.mem_map.mp hv
        rfl
      · rw [List.getElem?_map] at hz'
        cases hx : xs[m]? with
        | none => rw [hx] at hz'; cases hz'
        | some x =>
          rw [hx] at hz'
          cases hz'
          have := i2 m hm x hx
          simp [eqV, this]
    · exact q2.elim
  · exact q2.elim
end
end Q

set_option Elab.async false
set_option linter.all false
set_option maxRecDepth 100000
set_option maxHeartbeats 1000000
namespace Q
open PySem PySem.Spec PyProof.Rows L2
/-! ### a dict of one's own whose keys are tuples of numbers, its values numbers -/
abbrev PsX := List (List Int × Addr × Int)
def kI (k : List Int) : List Key := k.map Sum.inl
def DxRel : PsX → List (List Key × Addr × Value) → Prop := Paired fun (p : List Int × Addr × Int) (x : List Key × Addr × Value) => kI p.1 = x.1 ∧ p.2.1 = x.2.1 ∧ ∃ t, x.2.2 = Value.int p.2.2 t
def DxP (P : Program) (w : World) (a : Addr) (ps : PsX) (h : Heap) : Prop := (a == sysModules) = false ∧ ps.length ≤ sizeLine ∧ ∃ xs, DxRel ps xs ∧ (xs.map (·.1)).Nodup ∧ ∃ o es ep, h.get? a = some o ∧ o.ExactDict ∧ o.data = .dict es ep ∧ es.toList = xs.map (entryOfKey (tupleKind (mixKind P w)))
def DxO (P : Program) (w : World) (a : Addr) (ps : PsX) : HO := .ext (DxP P w a ps)
def KeysOk (K : PySem.W.Frag) (H : Hp) (ps : PsX) : Prop := ∀ p ∈ ps, SqT K H p.2.1 (p.1.map V.int)
def vX (ps : PsX) (k : List Int) : Option Int := (ps.find? fun p => decide (p.1 = k)).map (·.2.2)
theorem kI_inj {a b : List Int} (h : kI a = kI b) : a = b := by
  unfold kI at h
  exact (List.map_inj_right (fun _ _ z => Sum.inl.inj z)).mp h
theorem dx_ok {P : Program} {w : World} {H : Hp} {h : Heap} {a : Addr} {ps : PsX} (x : DxP P w a ps h) : ObjOk P w H h a (DxO P w a ps) := by
  refine ⟨x, ?_, fun h1 h2 y k => ?_⟩
  · obtain ⟨_, _, _, _, _, o, _, _, e, _⟩ := x
    exact ⟨o, e⟩
  · obtain ⟨y1, y2, xs, y3, y4, o, es, ep, e, r⟩ := y
    exact ⟨y1, y2, xs, y3, y4, o, es, ep, k o e, r⟩
section
variable {X : Cx} {pins : List (Addr × Obj)} {σ : L2.St} {H : Hp} {s : Shared} {a b : Addr} {ps : PsX} {k : List Int}
theorem sqt_is (I : Inv X pins σ H s) (h : SqT X.K H b (k.map V.int)) : (tupleKind (mixKind X.prog X.w)).is s.heap (kI k) b := by
  obtain ⟨its, rv, ⟨o, ho, hc, n, hd⟩, _⟩ := I.tuple h
  have e : (kI k).map kV = k.map V.int := by
    unfold kI
    rw [List.map_map]
    rfl
  rw [← e] at rv
  exact ⟨o, its.toArray, n, ho, hc, hd, by simpa using items_are rv⟩
theorem dx_heap (I : Inv X pins σ H s) (e : H a = some (DxO X.prog X.w a ps)) (hk : KeysOk X.K H ps) : (a == sysModules) = false ∧ ps.length ≤ sizeLine ∧ ∃ xs, DxRel ps xs ∧ s.heap.DictOfH (tupleKind (mixKind X.prog X.w)) a xs := by
  obtain ⟨⟨y1, y2, xs, y3, y4, o, es, ep, e1, e2, e3, e4⟩, -⟩ := (show ObjOk X.prog X.w H s.heap a (DxO X.prog X.w a ps) from I.hok a _ e)
  refine ⟨y1, y2, xs, y3, o, es, ep, e1, e2, e3, e4, fun x hx => ?_, y4⟩
  clear y2 y4 e1 e2 e3 e4 e
  induction y3 with
  | nil => exact nomatch hx
  | @cons p x' ps' xs' hp _ ih =>
    rcases List.mem_cons.mp hx with rfl | hx
    · obtain ⟨q1, q2, _⟩ := hp
      rw [← q1, ← q2]
      exact sqt_is I (hk p List.mem_cons_self)
    · exact ih (fun p hp => hk p (List.mem_cons_of_mem _ hp)) hx
theorem dx_at {xs : List (List Key × Addr × Value)} (r : DxRel ps xs) (k : List Int) : (vX ps k = none ∧ atKey xs (kI k) = none) ∨ ∃ n b t, vX ps k = some n ∧ atKey xs (kI k) = some (b, .int n t) := by
  unfold vX atKey
  induction r with
  | nil => exact .inl ⟨rfl, rfl⟩
  | @cons p x ps xs hp _ ih =>
    obtain ⟨q1, q2, t, q3⟩ := hp
    by_cases c : p.1 = k
    · have c2 : x.1 = kI k := by rw [← q1, c]
      rw [List.find?_cons_of_pos (by simpa using c), List.find?_cons_of_pos (by simpa using c2)]
      refine .inr ⟨p.2.2, x.2.1, t, rfl, ?_⟩
      show some (x.2.1, x.2.2) = _
      rw [q3]
    · have c2 : ¬ x.1 = kI k := fun z => c (kI_inj (q1.trans z))
      rw [List.find?_cons_of_neg (by simpa using c), List.find?_cons_of_neg (by simpa using c2)]
      exact ih
theorem dx_len {xs : List (List Key × Addr × Value)} (r : DxRel ps xs) : ps.length = xs.length := Paired.length r
theorem DxRel.snoc {xs : List (List Key × Addr × Value)} {n : Int} {t : Tok} (r : DxRel ps xs) : DxRel (ps ++ [(k, b, n)]) (xs ++ [(kI k, b, .int n t)]) := by
  unfold DxRel at *
  induction r with
  | nil => exact .cons ⟨rfl, rfl, t, rfl⟩ .nil
  | cons h _ ih => exact .cons h ih
/-- k not in d -/
theorem op_dxNotIn (hu : X.A.units + 1 < cLine) : OpR X (compareOp .NotIn) (fun x y H Q => ∃ a b ps k, x = .ref b ∧ y = .ref a ∧ H a = some (DxO X.prog X.w a ps) ∧ KeysOk X.K H ps ∧ SqT X.K H b (k.map V.int) ∧ Q (.bl (!(vX ps k).isSome)) H) := by
  intro pins s σ H x y v u Q I rx ry ⟨a, b, ps, k, ex, ey, e, hk, hb, q⟩
  subst ex ey
  cases rx
  cases ry
  obtain ⟨h1, h2, xs, r, dd⟩ := dx_heap I e hk
  refine wpAny_notIn_heap (tupleKind_room_in1 hu) (sqt_is I hb) h1 dd ?_
  have e2 : (atKey xs (kI k)).isSome = (vX ps k).isSome := by
    rcases dx_at r k with ⟨z1, z2⟩ | ⟨n, b', t, z1, z2⟩
    · rw [z1, z2]; rfl
    · rw [z1, z2]; rfl
  rw [e2]
  exact ⟨.bl _, H, I.tok _, rfl, q⟩
/-- d[k], there -/
def tDxGet (P : Program) (w : World) (K : PySem.W.Frag) (td ty : TE) : TE := fun σ H Q => td σ H fun x H1 => ty σ H1 fun y H2 => ∃ a b ps k n, x = V.ref a ∧ y = V.ref b ∧ H2 a = some (DxO P w a ps) ∧ KeysOk K H2 ps ∧ SqT K H2 b (k.map V.int) ∧ vX ps k = some n ∧ Q (.int n) H2
theorem pe_dxget {o i : Expr} {td ty : TE} {pos : Pos} (hu : X.A.units + 1 < cLine) (ho : PE X o td) (hi : PE X i ty) (hs : NoSl i) : PE X (.Subscript o i pos) (tDxGet X.prog X.w X.K td ty) := by
  refine ⟨fun pins s σ H Q I h => ?_⟩
  refine subD_of PySem.F.slot_dict_getitem.lookup hs (thn (ho.run pins s σ H _ I h) fun u s1 ⟨x, H1, I1, rx, q1⟩ => thn (hi.run pins s1 σ H1 _ I1 q1) fun iv s2 ⟨y, H2, I2, ry, a, b, ps, k, n, ex, ey, e, hk, hb, hv, q⟩ => ?_)
  subst ex ey
  obtain rfl : u = Value.ref a := rx
  obtain rfl : iv = Value.ref b := ry
  obtain ⟨h1, h2, xs, r, dd⟩ := dx_heap I2 e hk
  have e2 : ∃ b' t, atKey xs (kI k) = some (b', .int n t) := by
    rcases dx_at r k with ⟨z1, z2⟩ | ⟨n', b', t, z1, z2⟩
    · rw [z1] at hv; cases hv
    · rw [z1] at hv; cases hv; exact ⟨b', t, z2⟩
  obtain ⟨b', t, e2⟩ := e2
  exact ⟨dd.typeIs, wpAny_getItem_heap (tupleKind_room_in1 hu) (sqt_is I2 hb) dd e2 ⟨.int n, H2, I2.tok _, ⟨t, rfl⟩, q⟩⟩
/-- d[k] = n, k not there yet -/
def rSetX (P : Program) (w : World) (K : PySem.W.Frag) : TSet := fun o i v H Q => ∃ a b ps k n, o = V.ref a ∧ i = V.ref b ∧ v = V.int n ∧ H a = some (DxO P w a ps) ∧ KeysOk K H ps ∧ SqT K H b (k.map V.int) ∧ vX ps k = none ∧ ps.length < sizeLine ∧ Q (upd H a (DxO P w a (ps ++ [(k, b, n)])))
theorem set_dx (hu : X.A.units + 1 < cLine) : PSet X (rSetX X.prog X.w X.K) := by
  intro pins s σ H o i v ov iv u Q I ro ri rv ⟨a, b, ps, k, n, eo, ei, ev, e, hk, hb, hv, hl, q⟩
  subst eo ei ev
  cases ro
  cases ri
  obtain ⟨t, rfl⟩ := rv
  obtain ⟨h1, h2, xs, r, dd⟩ := dx_heap I e hk
  have e2 : atKey xs (kI k) = none := by
    rcases dx_at r k with ⟨z1, z2⟩ | ⟨n', b', t, z1, z2⟩
    · exact z2
    · rw [z1] at hv; cases hv
  refine wpAny_setItem_heap (hsz := by rw [← dx_len r]; exact h2) (tupleKind_room_in1 hu) (sqt_is I hb) dd fun h' dd' hs => ?_
  rw [storedH_new e2] at dd'
  obtain ⟨q1, es, ep, hq, h2', h3, h4, _, h5⟩ := dd'
  have new : DxP X.prog X.w a (ps ++ [(k, b, n)]) h' := ⟨h1, by rw [List.length_append, List.length_singleton]; omega, _, r.snoc (t := t), h5, q1, es, ep, hq, h2', h3, h4⟩
  exact ⟨_, d_write I (by rw [e]; exact True.intro) hs ⟨q1, hq⟩ (dx_ok new), q⟩
/-- {} -/
def tDxNew (P : Program) (w : World) : TE := fun _ H Q => ∀ p, H p = none → Q (.ref p) (upd H p (DxO P w p []))
theorem pe_dxnew {pos : Pos} : PE X (.Dict [] [] pos) (tDxNew X.prog X.w) := ⟨fun pins s σ H Q I h =>
  wpAny_Dict_empty ⟨.ref s.heap.objs.size, _, I.laid (a := s.heap.objs.size) (o := DxO X.prog X.w s.heap.objs.size []) (t' := s.toks) (fun _ _ q => Heap.get?_push_of_some _ q) (Nat.le_refl _)
    (dx_ok ⟨beq_eq_false_iff_ne.mpr (Nat.ne_of_gt I.big), Nat.zero_le _, [], .nil, .nil, _, #[], 0, Heap.get?_push_size _ rfl, ⟨rfl, rfl, rfl⟩, rfl, rfl⟩), rfl, h _ (I.hok.fresh (Nat.le_refl _))⟩⟩
end
end Q

set_option Elab.async false
set_option linter.all false
set_option maxRecDepth 100000
namespace Q
open PySem PySem.Spec PyProof.Rows L2
variable [WellKind]
/-! ### (*xs, ..) -/
def seqD : D → Option (List D)
  | .tuple xs => some xs
  | .list xs => some xs
  | _ => none
def lStar (me : Env → M D) (ms : Env → M (List D)) (δ : Env) : M (List D) := (me δ).bind fun d => match seqD d with
  | some xs => (ms δ).bind fun ds => .ret (xs ++ ds)
  | none => .fail
/-! ### d.get(k, x) of data -/
def lookD (k : Key) : List (D × D) → Option D
  | [] => none
  | p :: r => if keyD p.1 = some k then some p.2 else lookD k r
def dGet2 (ps : List (D × D)) (k x : D) : M D := match keyD k with
  | some key => .ret ((lookD key ps).getD x)
  | none => .fail
def eGet2 (mo mk mx : Env → M D) (δ : Env) : M D := (mo δ).bind fun o => match o with
  | .dict ps => (mk δ).bind fun k => (mx δ).bind fun x => dGet2 ps k x
  | _ => .fail
section
variable {X : Cx} {E : XK} {e o f : Expr} {es : List Expr} {me mo mk mx : Env → M D} {ms : Env → M (List D)} {p pos apos cpos : Pos}
theorem ql_star (h : QE X E e me) (h2 : QI X E es ms) (hs : starEach (.Starred e p :: es) X.env = (true, eval e X.env) :: starEach es X.env := by rfl) : QI X E (.Starred e p :: es) (lStar me ms) := by
  obtain ⟨t, a, b⟩ := h
  obtain ⟨t2, a2, b2⟩ := h2
  refine ⟨_, StX.pa_star a a2 hs, fun w σ H δ Q r q => b w σ H δ _ r (wp_then (wp_bind.mp q) fun d q1 v H1 g1 n1 => ?_)⟩
  cases hd : seqD d with
  | none => rw [hd] at q1; exact q1.elim
  | some xs =>
    rw [hd] at q1
    have hv : ∃ a ys, v = V.ref a ∧ (SqT X.K H1 a ys ∨ SqL X.K H1 a ys) ∧ DenAll X.K H1 ys xs := by
      cases d <;> simp only [seqD] at hd <;> first | (cases hd; done) | skip
      · cases hd
        cases n1 with
        | lst h1 h2 => exact ⟨_, _, rfl, .inr h1.sq, h2⟩
      · cases hd
        cases n1 with
        | tup h1 h2 => exact ⟨_, _, rfl, .inl h1, h2⟩
    obtain ⟨a', ys, rfl, hx, hn⟩ := hv
    refine ⟨a', ys, rfl, hx, b2 w σ H1 δ _ (r.grow g1) (wp_mono (wp_bind.mp q1) (fun ds q2 vs H2 g2 n2 => ?_) fun _ z => z.grow g1)⟩
    exact q2 _ H2 (g1.trans g2) ((hn.grow g2).append n2)
theorem keyD_kD (k : Key) : keyD (kD k) = some k := by cases k <;> rfl
theorem den_look {K : PySem.W.Frag} {H : Hp} (k : Key) : ∀ {kvs : List (Key × V)} {ds : List D}, DenAll K H (kvs.map (·.2)) ds →
    (valV kvs k = none ∧ lookD k ((kvs.map fun kv => kD kv.1).zip ds) = none) ∨ ∃ v d, valV kvs k = some v ∧ lookD k ((kvs.map fun kv => kD kv.1).zip ds) = some d ∧ Den K H v d
  | [], _, h => by cases h; exact .inl ⟨rfl, rfl⟩
  | (k', v) :: kvs, _, h => by
    cases h with
    | @cons _ _ d ds n r =>
      rw [List.map_cons, List.zip_cons_cons]
      unfold lookD
      by_cases c : k' = k
      · rw [if_pos (show keyD (kD k', d).1 = some k by show keyD (kD k') = _; rw [keyD_kD, c])]
        exact .inr ⟨v, d, valV_pos c, rfl, n⟩
      · rw [if_neg (show ¬ keyD (kD k', d).1 = some k from fun z => c (by have z : keyD (kD k') = some k := z; rw [keyD_kD] at z; exact Option.some.inj z))]
        have e : valV ((k', v) :: kvs) k = valV kvs k := by
          unfold valV
          rw [List.find?_cons_of_neg (by simpa using c)]
        rw [e]
        exact den_look k r
theorem qe_dget2 {kk : Nat} (gd : Good false X E kk) (ho : QE X E o mo) (he : QE X E e mk) (hf : QE X E f mx) (m : M2 X o "get" apos e f cpos) : QE X E (.Call (.Attribute o "get" apos) [e, f] [] cpos) (eGet2 mo mk mx) := by
  obtain ⟨t1, a1, b1⟩ := ho
  obtain ⟨t2, a2, b2⟩ := he
  obtain ⟨t3, a3, b3⟩ := hf
  have hu : X.A.units + 1 < cLine := by have := gd.room.un; omega
  refine ⟨_, pe_dget2 hu a1 a2 a3 m, fun w σ H δ Q r q => b1 w σ H δ _ r (wp_then (wp_bind.mp q) fun d q1 v H1 g1 n1 => ?_)⟩
  cases d <;> first | exact q1.elim | skip
  cases n1 with
  | @dct a kvs ds hf ha =>
    obtain ⟨ob, hf⟩ := hf
    refine ⟨a, rfl, .inl ⟨kvs, .inr ⟨ob, hf⟩⟩, b2 w σ H1 δ _ (r.grow g1) (wp_mono (wp_bind.mp q1) (fun kd q2 u H2 g2 n2 => ?_) fun _ z => z.grow g1)⟩
    refine b3 w σ H2 δ _ ((r.grow g1).grow g2) (wp_mono (wp_bind.mp q2) (fun xd q3 z H3 g3 n3 => ?_) fun _ z => (z.grow g1).grow g2)
    unfold dGet2 at q3
    have g13 := (g1.trans g2).trans g3
    cases hk : keyD kd with
    | none => rw [hk] at q3; exact q3.elim
    | some key =>
      rw [hk] at q3
      replace q3 : wp (M.ret ((lookD key ((List.map (fun kv => kD kv.1) kvs).zip ds)).getD xd)) (fun d => ∀ (v : V) (H' : Hp), Grow w H H' → Den X.K H' v d → Q v H') (XP X.mg E w H) := q3
      have hu2 : u = kV key := by
        cases kd <;> simp only [keyD] at hk <;> first | (cases hk; done) | skip
        · cases hk; cases n2; rfl
        · cases hk; cases n2; rfl
      refine ⟨valV kvs key, .inl ⟨kvs, key, .inr ⟨ob, g3.frzs _ _ _ (g2.frzs _ _ _ hf)⟩, hu2, rfl⟩, ?_⟩
      rcases den_look key ((ha.grow g2).grow g3) with ⟨e1, e2⟩ | ⟨v', d', e1, e2, n'⟩
      · rw [e1]
        rw [e2] at q3
        exact q3 _ H3 g13 n3
      · rw [e1]
        rw [e2] at q3
        exact q3 _ H3 g13 n'
end
/-! ### a row that is walked until its neighbours come again -/
def idxI (k : List Int) : List (List Int) → Nat
  | [] => 0
  | x :: xs => if x = k then 0 else idxI k xs + 1
def walkF (nx : List Slot → M D) (m fs : D) : Nat → List Int → List (List Int) → M D
  | 0, _, _ => .fail
  | n + 1, st, seen => if st ∈ seen then .ret (.tuple [.list (seen.map fun k => .int (k.headD 0)), .int (idxI st seen : Nat)]) else
      if st = [] then .fail else (nx [.dat m, .dat fs, .dat (.tuple (st.map .int))]).bind fun d => match d with
        | .int x => walkF nx m fs n (st.tail ++ [x]) (seen ++ [st])
        | _ => .fail
def walkM (nx : List Slot → M D) : List Slot → M D
  | [.dat (.tuple [.int m, fs, .tuple bs])] => match intsOf bs with
    | some st => if st.length ≤ 100 then walkF nx (.int m) fs 1000000 st [] else .fail
    | none => .fail
  | _ => .fail
theorem vX_snoc (ps : PsX) (k k' : List Int) (b : Addr) (n : Int) (h : vX ps k' = none) : vX (ps ++ [(k', b, n)]) k = if k' = k then some n else vX ps k := by
  unfold vX at *
  rw [List.find?_append]
  by_cases c : k' = k
  · subst c
    rw [if_pos rfl]
    have : ps.find? (fun p => decide (p.1 = k')) = none := by
      cases e : ps.find? (fun p => decide (p.1 = k')) with
      | none => rfl
      | some x => rw [e] at h; cases h
    rw [this]
    simp
  · rw [if_neg c]
    have : [(k', b, n)].find? (fun p => decide (p.1 = k)) = none := by simp [c]
    rw [this]
    simp
theorem idxI_at {k : List Int} : ∀ {l : List (List Int)} (x : List Int), k ∈ l → idxI k (l ++ [x]) = idxI k l
  | [], _, h => nomatch h
  | y :: l, x, h => by
    show (if y = k then 0 else idxI k (l ++ [x]) + 1) = (if y = k then 0 else idxI k l + 1)
    by_cases c : y = k
    · rw [if_pos c, if_pos c]
    · rw [if_neg c, if_neg c, idxI_at x ((List.mem_cons.mp h).resolve_left fun z => c z.symm)]
theorem idxI_new {k : List Int} : ∀ {l : List (List Int)}, k ∉ l → idxI k (l ++ [k]) = l.length
  | [], _ => by show (if k = k then 0 else _) = _; rw [if_pos rfl]; rfl
  | y :: l, h => by
    show (if y = k then 0 else idxI k (l ++ [k]) + 1) = l.length + 1
    have c : ¬ y = k := fun z => h (by rw [z]; exact List.mem_cons_self)
    rw [if_neg c, idxI_new fun z => h (List.mem_cons_of_mem _ z)]
def IxOk (ps : PsX) (seen : List (List Int)) : Prop := ∀ k, vX ps k = if k ∈ seen then some (idxI k seen : Int) else none
theorem IxOk.snoc {ps : PsX} {seen : List (List Int)} {k : List Int} {b : Addr} (h : IxOk ps seen) (hk : k ∉ seen) : IxOk (ps ++ [(k, b, (seen.length : Int))]) (seen ++ [k]) := fun k' => by
  rw [vX_snoc _ _ _ _ _ (by rw [h k, if_neg hk])]
  by_cases c : k = k'
  · subst c
    rw [if_pos rfl, if_pos (by simp), idxI_new hk]
  · rw [if_neg c, h k']
    by_cases c2 : k' ∈ seen
    · rw [if_pos c2, if_pos (by simp [c2]), idxI_at _ c2]
    · rw [if_neg c2, if_neg (by simp [c2, Ne.symm c])]
theorem grow_upd {wa : Option WA} {H0 H1 : Hp} {p : Addr} {o : HO} (hT : WellKind.T = []) (g : Grow wa H0 H1) (n : H0 p = none) (hw : ∀ x, wa = some x → p ≠ x.a ∧ p ≠ x.g ∧ p ≠ x.c) : Grow wa H0 (upd H1 p o) :=
  ⟨fun b xs e => by rw [upd_ne (ne_of_none e n)]; exact g.tups b xs e, fun b ob u e => by rw [upd_ne (ne_of_none e n)]; exact g.frzs b ob u e, fun b ob e t nn => by rw [upd_ne (ne_of_none e n)]; exact g.keep b ob e t nn,
    fun x hx => (g.well x hx).at_ne (hw x hx), fun _ p hp => by rw [hT] at hp; exact nomatch hp⟩
theorem fz_upd {H : Hp} {p : Addr} {u o : HO} (h : H p = some u) (h1 : ∀ xs, u ≠ .tup xs) (h2 : ∀ ob v, u ≠ .frz ob v) : Fz H (upd H p o) :=
  ⟨fun b xs e => by rw [upd_ne (fun z => by (rw [z, h] at e; exact h1 xs (Option.some.inj e)))]; exact e, fun b ob v e => by rw [upd_ne (fun z => by (rw [z, h] at e; exact h2 ob v (Option.some.inj e)))]; exact e⟩
theorem fz_new' {H : Hp} {p : Addr} {o : HO} (h : H p = none) : Fz H (upd H p o) := ⟨fun b xs e => by rw [upd_ne (ne_of_none e h)]; exact e, fun b ob v e => by rw [upd_ne (ne_of_none e h)]; exact e⟩
theorem denAll_ofI {K : PySem.W.Frag} {H : Hp} : ∀ ns : List Int, DenAll K H (ns.map V.int) (ns.map PyData.int)
  | [] => .nil
  | n :: ns => .cons (.int n) (denAll_ofI ns)
end Q

set_option Elab.async false
set_option linter.all false
set_option maxRecDepth 100000
namespace Q
open PySem PySem.Spec PyProof.Rows L2
/-! ### xs[::-1] of a list or a tuple -/
theorem bounds_rev (n : Nat) : sliceBounds none none (some (-1)) n = ((n : Int) - 1, -1, -1) := rfl
theorem slicePick_rev (its : List Value) : slicePick its.toArray none none (some (-1)) = its.reverse.toArray := by
  unfold slicePick
  rw [bounds_rev]
  dsimp only
  have e := pick_rev its.toArray
  rw [List.toList_toArray] at e
  rw [← e]
  congr 1
  unfold sliceRange
  rw [if_neg (by decide)]
  have hc : (if (((its.toArray.size : Nat) : Int) - 1 > -1) then (((its.toArray.size : Nat) : Int) - 1 - -1 - -1 - 1) / (- -1) else 0).toNat = its.toArray.size := by
    split
    · rw [show (- -1 : Int) = 1 from rfl, Int.ediv_one]; omega
    · omega
  dsimp only
  rw [hc, List.filterMap_map]
  refine filterMap_same _ fun m _ => ?_
  show its.toArray[((its.toArray.size : Int) - 1 + -1 * (m : Int)).toNat]? = its.toArray[((its.toArray.size : Int) - 1 + (m : Int) * -1).toNat]?
  rw [Int.mul_comm]
def tRevX (K : PySem.W.Frag) (te : TE) : TE := fun σ H Q => te σ H fun x H1 => (∃ a xs, x = V.ref a ∧ SqT K H1 a xs ∧ ∀ p, H1 p = none → Q (.ref p) (upd H1 p (.tup xs.reverse))) ∨ ∃ a xs, x = V.ref a ∧ SqL K H1 a xs ∧ ∀ p, H1 p = none → Q (.ref p) (upd H1 p (.lst xs.reverse))
theorem pe_revX {X : Cx} {e : Expr} {te : TE} {k : Nat} {p1 p2 p3 pos : Pos} (he : PE X e te) : PE X (.Subscript e (.Slice none none (some (.UnaryOp .USub (.Constant (.int 1) k p1) p2)) p3) pos) (tRevX X.K te) := by
  refine ⟨fun pins s σ H Q I h => ?_⟩
  have hst : PO X (some (.UnaryOp .USub (.Constant (.int 1) k p1) p2)) (tPart (tUn (rU fun i => .int (-i)) (tC (.int 1)))) := po_some (pe_un un_neg pe_int)
  refine Subscript_ (thn (he.run pins s σ H _ I h) fun v s1 ⟨x, H1, I1, r1, q1⟩ => ?_)
  refine wpAny_Slice (thn (po_none.run pins s1 σ H1 (fun o H2 => o = none ∧ H2 = H1) I1 ⟨rfl, rfl⟩) fun vl s2 ⟨l, H2, I2, pl, el, e2⟩ => ?_)
  subst el e2
  refine thn (po_none.run pins s2 σ H2 (fun o H3 => o = none ∧ H3 = H2) I2 ⟨rfl, rfl⟩) fun vu s3 ⟨u, H3, I3, pu, eu, e3⟩ => ?_
  subst eu e3
  refine thn (hst.run pins s3 σ H3 (fun o H4 => o = some (-1) ∧ H4 = H3) I3 ⟨1, rfl, -1, rfl, rfl, rfl⟩) fun vs s4 ⟨o, H4, I4, ps, eo, e4⟩ => ?_
  subst eo e4
  have I5 : Inv X pins σ H4 { s4 with heap := s4.heap.push { cls := .type "slice", data := .fields #[vl, vu, vs] } } := I4.kept (t' := s4.toks) fun b ob q => Heap.get?_push_of_some _ q
  rcases q1 with ⟨a, xs, ex, hx, q⟩ | ⟨a, xs, ex, hx, q⟩
  · subst ex
    cases r1
    cases pl
    cases pu
    obtain ⟨its, r, ht, hz⟩ := I5.tuple hx
    have hlen := r.length
    show wpAny (model X.prog X.w) X.A (subscriptTail e (.Slice none none (some (.UnaryOp .USub (.Constant (.int 1) k p1) p2)) p3) (.ref a) (.ref s4.heap.objs.size)) (EP X pins σ Q) X.xe { s4 with heap := s4.heap.push { cls := .type "slice", data := .fields #[.none, .none, vs] } }
    refine tail_any (ops := [.ref a, .ref s4.heap.objs.size]) ht.typeIs (PyProof.Rows.slot_tuple_getitem.lookup) ?_ (by with_unfolding_all rfl)
    refine getItem_tuple_rev ht (Heap.IsSliceOf.new _ .none .none vs) ps ?_ (by rw [List.size_toArray]; omega)
    refine ⟨.ref _, _, I5.laid (t' := s4.toks) (o := .tup xs.reverse) (fun b ob q => Heap.get?_push_of_some _ q) (Nat.le_refl _) ?_, rfl, q _ (I5.hok.fresh (Nat.le_refl _))⟩
    exact ⟨by rw [List.length_reverse]; exact hz, _, r.reverse, IsTup.new _ _⟩
  · subst ex
    cases r1
    obtain ⟨its, r, ht, hz⟩ := I5.list hx
    have hlen := r.length
    show wpAny (model X.prog X.w) X.A (subscriptTail e (.Slice none none (some (.UnaryOp .USub (.Constant (.int 1) k p1) p2)) p3) (.ref a) (.ref s4.heap.objs.size)) (EP X pins σ Q) X.xe { s4 with heap := s4.heap.push { cls := .type "slice", data := .fields #[vl, vu, vs] } }
    refine tail_any (ops := [.ref a, .ref s4.heap.objs.size]) ht.isList.typeIs slot_list_getitem.lookup ?_ (by with_unfolding_all rfl)
    refine wpAny_getItem_list_slice ht.isList (Heap.IsSliceOf.new _ vl vu vs) pl pu ps (by decide) ?_ (by rw [List.size_toArray]; omega)
    rw [slicePick_rev]
    refine ⟨.ref _, _, I5.laid (t' := s4.toks) (o := .lst xs.reverse) (fun b ob q => Heap.get?_push_of_some _ q) (Nat.le_refl _) ?_, rfl, q _ (I5.hok.fresh (Nat.le_refl _))⟩
    exact ⟨by rw [List.length_reverse]; exact hz, _, 0, r.reverse, Heap.get?_push_size _ rfl⟩
variable [WellKind]
def dRevX : D → M D
  | .tuple ds => .ret (.tuple ds.reverse)
  | .list ds => .ret (.list ds.reverse)
  | _ => .fail
def eRevX (me : Env → M D) (δ : Env) : M D := (me δ).bind dRevX
theorem qe_revX {X : Cx} {E : XK} {e : Expr} {me : Env → M D} {k : Nat} {p1 p2 p3 pos : Pos} (h : QE X E e me) : QE X E (.Subscript e (.Slice none none (some (.UnaryOp .USub (.Constant (.int 1) k p1) p2)) p3) pos) (eRevX me) := by
  obtain ⟨t, a1, a2⟩ := h
  refine ⟨_, PE.fz (pe_revX a1), fun w σ H δ Q rl q => a2 w σ H δ _ rl (wp_then (wp_bind.mp q) fun d q1 v H1 g1 n1 => ?_)⟩
  cases d <;> first | exact q1.elim | skip
  · cases n1 with
    | lst hs hd => exact .inr ⟨_, _, rfl, hs.sq, fun p e0 => fz_new g1.well e0 (denAll_rev hd) fun v' H2 g2 n2 => q1 v' H2 (g1.trans g2) n2⟩
  · cases n1 with
    | tup hs hd => exact .inl ⟨_, _, rfl, hs, fun p e0 => .inl (tup_new (Q := fun v H => Q v H) g1.well e0 (denAll_rev hd) fun v' H2 g2 n2 => q1 v' H2 (g1.trans g2) n2)⟩
end Q

set_option Elab.async false
set_option linter.all false
set_option maxRecDepth 100000
namespace Q
open PySem PySem.Spec PyProof.Rows L2
/-! ### tools for mirrors -/
/-- it gives a value for sure, without a draw -/
def Det {α : Type} (m : M α) (Q : α → Prop) : Prop := ∃ a, m = .ret a ∧ Q a
theorem Det.eq {α : Type} {m : M α} {v : α} (h : Det m (fun a => a = v)) : m = .ret v := by
  obtain ⟨a, e, rfl⟩ := h; exact e
theorem Det.of {α : Type} {m : M α} {v : α} {Q : α → Prop} (h : m = .ret v) (q : Q v) : Det m Q := ⟨v, h, q⟩
theorem det_ret {α : Type} {v : α} {Q : α → Prop} (q : Q v) : Det (.ret v) Q := ⟨v, rfl, q⟩
theorem Det.bind {α β : Type} {m : M α} {f : α → M β} {P : α → Prop} {Q : β → Prop} (h : Det m P) (k : ∀ a, P a → Det (f a) Q) : Det (m.bind f) Q := by
  obtain ⟨a, rfl, p⟩ := h; exact k a p
theorem Det.mono {α : Type} {m : M α} {P Q : α → Prop} (h : Det m P) (k : ∀ a, P a → Q a) : Det m Q := by
  obtain ⟨a, e, p⟩ := h; exact ⟨a, e, k a p⟩
theorem Det.to {α : Type} {m : M α} {P : α → Prop} {R : Exn → Prop} (h : Det m P) : wp m P R := by
  obtain ⟨a, rfl, p⟩ := h; exact p
@[simp] theorem bind_ret {α β : Type} (a : α) (f : α → M β) : (M.ret a).bind f = f a := rfl
@[simp] theorem bind_fail {α β : Type} (f : α → M β) : (M.fail : M α).bind f = .fail := rfl
@[simp] theorem bind_draw {α β : Type} (n : Int) (k : Int → M α) (f : α → M β) : (M.draw n k).bind f = .draw n fun r => (k r).bind f := rfl
theorem bind_assoc {α β γ : Type} {f : α → M β} {g : β → M γ} : ∀ m : M α, (m.bind f).bind g = m.bind fun a => (f a).bind g
  | .ret _ => rfl
  | .draw _ k => by
    show M.draw _ _ = M.draw _ _
    congr 1; funext r; exact bind_assoc (k r)
  | .raise _ => rfl
  | .fail => rfl
@[simp] theorem wp_ret {α : Type} {a : α} {Q : α → Prop} {R : Exn → Prop} : wp (.ret a) Q R ↔ Q a := Iff.rfl
theorem wp_drawI {α : Type} {n : Int} {k : Int → M α} {Q : α → Prop} {R : Exn → Prop} (h0 : 0 < n) (h1 : n < 1073741824) (h : ∀ r, 0 ≤ r → r < n → wp (k r) Q R) : wp (.draw n k) Q R := ⟨⟨h0, h1⟩, h⟩
theorem wp_bindI {α β : Type} {m : M α} {f : α → M β} {Q : β → Prop} {R : Exn → Prop} {P : α → Prop} (h : wp m P (fun _ => False)) (k : ∀ a, P a → wp (f a) Q R) : wp (m.bind f) Q R :=
  wp_bind.mpr (wp_mono h k fun _ z => z.elim)
theorem wp_use {α : Type} {m : M α} {P Q : α → Prop} {R : Exn → Prop} (h : wp m P (fun _ => False)) (k : ∀ a, P a → Q a) : wp m Q R := wp_mono h k fun _ z => z.elim
/-! loops -/
def LoopQ (I : Env → Prop) (Q : Flow → Prop) : Flow → Prop
  | .next δ => I δ
  | .cont δ => I δ
  | .brk δ => Q (.next δ)
  | .retn d => Q (.retn d)
theorem wp_loop {f : D → Env → M Flow} {Q : Flow → Prop} {R : Exn → Prop} (I : List D → Env → Prop) (hs : ∀ x xs δ, I (x :: xs) δ → wp (f x δ) (LoopQ (I xs) Q) R) (hd : ∀ δ, I [] δ → Q (.next δ)) : ∀ (xs : List D) (δ : Env), I xs δ → wp (loopL f xs δ) Q R
  | [], δ, h => hd δ h
  | x :: xs, δ, h => by
    unfold loopL
    refine wp_bind.mpr (wp_mono (hs x xs δ h) (fun fl q => ?_) fun _ z => z)
    cases fl with
    | next δ' => exact wp_loop I hs hd xs δ' q
    | cont δ' => exact wp_loop I hs hd xs δ' q
    | brk δ' => exact q
    | retn d => exact q
theorem det_loop {f : D → Env → M Flow} {Q : Flow → Prop} (I : List D → Env → Prop) (hs : ∀ x xs δ, I (x :: xs) δ → Det (f x δ) (LoopQ (I xs) Q)) (hd : ∀ δ, I [] δ → Q (.next δ)) : ∀ (xs : List D) (δ : Env), I xs δ → Det (loopL f xs δ) Q
  | [], δ, h => det_ret (hd δ h)
  | x :: xs, δ, h => by
    unfold loopL
    refine (hs x xs δ h).bind fun fl q => ?_
    cases fl with
    | next δ' => exact det_loop I hs hd xs δ' q
    | cont δ' => exact det_loop I hs hd xs δ' q
    | brk δ' => exact det_ret q
    | retn d => exact det_ret q
/-- over a range -/
theorem rng_zero (lo : Int) : rng lo 0 = [] := rfl
theorem rng_succ (lo : Int) (n : Nat) : rng lo (n + 1) = .int lo :: rng (lo + 1) n := by
  unfold rng
  rw [List.range_succ_eq_map, List.map_cons, List.map_map]
  congr 1
  · simp
  · apply List.map_congr_left
    intro i _
    simp only [Function.comp, Nat.succ_eq_add_one, PyData.int.injEq]
    push_cast
    omega
theorem det_range {f : D → Env → M Flow} {Q : Flow → Prop} (hi : Int) (I : Int → Env → Prop) (hs : ∀ k δ, k < hi → I k δ → Det (f (.int k) δ) (LoopQ (I (k + 1)) Q)) (hd : ∀ δ k, hi ≤ k → I k δ → Q (.next δ)) : ∀ (n : Nat) (lo : Int) (δ : Env), n = (hi - lo).toNat → I lo δ → Det (loopL f (rng lo n) δ) Q
  | 0, lo, δ, e, h => det_ret (hd δ lo (by omega) h)
  | n + 1, lo, δ, e, h => by
    rw [rng_succ]
    unfold loopL
    refine (hs lo δ (by omega) h).bind fun fl q => ?_
    cases fl with
    | next δ' => exact det_range hi I hs hd n (lo + 1) δ' (by omega) q
    | cont δ' => exact det_range hi I hs hd n (lo + 1) δ' (by omega) q
    | brk δ' => exact det_ret q
    | retn d => exact det_ret q
theorem wp_range {f : D → Env → M Flow} {Q : Flow → Prop} {R : Exn → Prop} (hi : Int) (I : Int → Env → Prop) (hs : ∀ k δ, k < hi → I k δ → wp (f (.int k) δ) (LoopQ (I (k + 1)) Q) R) (hd : ∀ δ k, hi ≤ k → I k δ → Q (.next δ)) : ∀ (n : Nat) (lo : Int) (δ : Env), n = (hi - lo).toNat → I lo δ → wp (loopL f (rng lo n) δ) Q R
  | 0, lo, δ, e, h => hd δ lo (by omega) h
  | n + 1, lo, δ, e, h => by
    rw [rng_succ]
    unfold loopL
    refine wp_bind.mpr (wp_mono (hs lo δ (by omega) h) (fun fl q => ?_) fun _ z => z)
    cases fl with
    | next δ' => exact wp_range hi I hs hd n (lo + 1) δ' (by omega) q
    | cont δ' => exact wp_range hi I hs hd n (lo + 1) δ' (by omega) q
    | brk δ' => exact q
    | retn d => exact q
theorem det_while {mt : Env → M Bool} {mb : Env → M Flow} {Q : Flow → Prop} (I : Nat → Env → Prop) (hs : ∀ m δ, I m δ → Det (mt δ) (fun k => if k = true then 0 < m ∧ Det (mb δ) (LoopQ (I (m - 1)) Q) else Q (.next δ))) : ∀ (n m : Nat) (δ : Env), m < n → I m δ → Det (whileF mt mb n δ) Q
  | 0, m, δ, e, h => absurd e (Nat.not_lt_zero _)
  | n + 1, m, δ, e, h => by
    unfold whileF
    refine (hs m δ h).bind fun k q => ?_
    cases k with
    | false => exact det_ret q
    | true =>
      rw [if_pos rfl] at q ⊢
      refine q.2.bind fun fl z => ?_
      cases fl with
      | next δ' => exact det_while I hs n (m - 1) δ' (by omega) z
      | cont δ' => exact det_while I hs n (m - 1) δ' (by omega) z
      | brk δ' => exact det_ret z
      | retn d => exact det_ret z
/-! comprehensions -/
theorem det_comp {f : D → M (Option D)} {g : D → Option D} : ∀ (xs : List D), (∀ x ∈ xs, f x = .ret (g x)) → compL f xs = .ret (xs.filterMap g)
  | [], _ => rfl
  | x :: xs, h => by
    unfold compL
    rw [h x List.mem_cons_self, bind_ret, det_comp xs fun y hy => h y (List.mem_cons_of_mem _ hy), bind_ret, List.filterMap_cons]
    cases g x <;> rfl
@[simp] theorem calm_ret {α : Type} (a : α) : (M.ret a).calm = .ret a := rfl
/-! texts as lists of signs -/
def S (l : List Nat) : Str := ⟨l.toArray⟩
@[simp] theorem S_toList (l : List Nat) : (S l).cps.toList = l := by simp [S]
@[simp] theorem S_length (l : List Nat) : (S l).length = l.length := by show l.toArray.size = _; simp
theorem S_inj {a b : List Nat} (h : S a = S b) : a = b := by
  have := congrArg (fun x => x.cps.toList) h; simpa using this
theorem str_S (x : Str) : x = S x.cps.toList := by cases x; simp [S]
theorem S_append (a b : List Nat) : S a ++ S b = S (a ++ b) := by
  show (⟨a.toArray ++ b.toArray⟩ : Str) = ⟨(a ++ b).toArray⟩
  simp
theorem mulS_S (a : List Nat) (n : Int) : mulS (S a) n = S (List.replicate n.toNat a).flatten := by unfold mulS; simp [S]
@[simp] theorem eqv_str (a b : List Nat) : PyData.eqv (.str (S a)) (.str (S b)) = decide (a = b) := by
  simp only [PyData.eqv]
  by_cases h : a = b
  · subst h; simp
  · simp only [h, decide_false]
    exact beq_eq_false_iff_ne.mpr fun e => h (S_inj e)
/-! values -/
theorem okL_ok {n : Nat} {m : M D} (h : n ≤ sizeLine) : okL n m = m := if_pos h
@[simp] theorem dEq_int (a b : Int) : dEq (.int a) (.int b) = .ret (.bool (decide (a = b))) := by
  simp only [dEq, cmpOk, scalD, Bool.true_or, if_true, PyData.eqv, Bool.beq_eq_decide_eq]
@[simp] theorem dEq_S (a b : List Nat) : dEq (.str (S a)) (.str (S b)) = .ret (.bool (decide (a = b))) := by
  simp only [dEq, cmpOk, scalD, Bool.true_or, if_true, eqv_str]
@[simp] theorem dNe_int (a b : Int) : dNe (.int a) (.int b) = .ret (.bool (!decide (a = b))) := by
  simp only [dNe, cmpOk, scalD, Bool.true_or, if_true, PyData.eqv, Bool.beq_eq_decide_eq]
@[simp] theorem dNe_S (a b : List Nat) : dNe (.str (S a)) (.str (S b)) = .ret (.bool (!decide (a = b))) := by
  simp only [dNe, cmpOk, scalD, Bool.true_or, if_true, eqv_str]
@[simp] theorem dNe_same (a : Str) : dNe (.str a) (.str a) = .ret (.bool false) := by
  simp only [dNe, cmpOk, scalD, Bool.true_or, if_true, PyData.eqv, beq_self_eq_true, Bool.not_true]
@[simp] theorem dEq_same (a : Str) : dEq (.str a) (.str a) = .ret (.bool true) := by
  simp only [dEq, cmpOk, scalD, Bool.true_or, if_true, PyData.eqv, beq_self_eq_true]
/-! what may be shown -/
theorem sizeLine_val' : sizeLine = 16777216 := by decide
structure Sm (p w : Nat) (d : D) : Prop where
  lay : PyData.canLay0 d = true
  can : PyData.showable d = true
  its : PyData.intsShort 40 d = true
  dep : d.depth ≤ p
  wt : d.weight ≤ w
structure SmL (p w : Nat) (ds : List D) : Prop where
  lay : PyData.canLayAll0 ds = true
  can : PyData.showableAll ds = true
  its : PyData.intsShortAll 40 ds = true
  dep : PyData.depthAll ds ≤ p
  wt : PyData.weightAll ds ≤ w
theorem SmL.nil {p : Nat} : SmL p 0 [] := ⟨rfl, rfl, rfl, Nat.zero_le _, Nat.le_refl _⟩
theorem SmL.cons {p w w' : Nat} {d : D} {ds : List D} (h : Sm p w d) (r : SmL p w' ds) : SmL p (w + 1 + w') (d :: ds) := by
  refine ⟨?_, ?_, ?_, ?_, ?_⟩
  · simp [PyData.canLayAll0, h.lay, r.lay]
  · simp [PyData.showableAll, h.can, r.can]
  · simp [PyData.intsShortAll, h.its, r.its]
  · have := h.dep; have := r.dep; simp only [PyData.depthAll]; omega
  · have := h.wt; have := r.wt; simp only [PyData.weightAll]; omega
theorem SmL.list {p w : Nat} {ds : List D} (r : SmL p w ds) : Sm (p + 1) w (.list ds) := by
  refine ⟨?_, ?_, ?_, ?_, ?_⟩
  · simp [PyData.canLay0, r.lay]
  · simp [PyData.showable, r.can]
  · simp [PyData.intsShort, r.its]
  · have := r.dep; rw [PyData.depth]; omega
  · have := r.wt; rw [PyData.weight]; omega
theorem SmL.tuple {p w : Nat} {ds : List D} (r : SmL p w ds) : Sm (p + 1) w (.tuple ds) := by
  refine ⟨?_, ?_, ?_, ?_, ?_⟩
  · simp [PyData.canLay0, r.lay]
  · simp [PyData.showable, r.can]
  · simp [PyData.intsShort, r.its]
  · have := r.dep; rw [PyData.depth]; omega
  · have := r.wt; rw [PyData.weight]; omega
theorem Sm.bool {p : Nat} (b : Bool) : Sm p 0 (.bool b) := ⟨rfl, rfl, rfl, Nat.zero_le _, Nat.le_refl _⟩
theorem Sm.none {p : Nat} : Sm p 0 .none := ⟨rfl, rfl, rfl, Nat.zero_le _, Nat.le_refl _⟩
theorem Sm.mono {p p' w w' : Nat} {d : D} (h : Sm p w d) (h1 : p ≤ p') (h2 : w ≤ w') : Sm p' w' d := ⟨h.lay, h.can, h.its, Nat.le_trans h.dep h1, Nat.le_trans h.wt h2⟩
theorem Sm.str {p : Nat} {l : List Nat} (h : ∀ c ∈ l, c < 1114112) : Sm p l.length (.str (S l)) := by
  refine ⟨?_, rfl, rfl, Nat.zero_le _, ?_⟩
  · rw [PyData.canLay0, PyData.strOk]
    simp only [S, List.all_toArray]
    exact List.all_eq_true.mpr fun c hc => decide_eq_true (h c hc)
  · rw [PyData.weight]; show l.toArray.size ≤ _; simp
theorem Sm.shaped {w : Nat} {d : D} (h : Sm 64 w d) : SeqAt.shaped d = true := by
  unfold SeqAt.shaped
  simp [h.lay, h.dep]
theorem Sm.okR {d : D} (h : Sm 64 390000 d) : okR d = true := by
  have h1 := PyData.shown_le 40 (by decide) d (PyData.leavesShort_of_canLay0 40 d h.lay h.its)
  have h2 : d.shown.length ≤ sizeLine := by
    have := h.wt
    rw [sizeLine_val']
    omega
  unfold Q.okR
  simp [h.lay, h.can, h.dep, h2]
theorem dRepr_ok {d : D} (h : Sm 64 390000 d) : dRepr [d] = .ret (.str d.shown) := by
  show (if okR d = true then _ else _) = _
  rw [if_pos h.okR]
theorem cut_take {α : Type} (l : List α) {k : Int} (h : 0 ≤ k) : cutL l none (some k) = l.take k.toNat := by
  obtain ⟨n, rfl⟩ := Int.eq_ofNat_of_zero_le h
  unfold cutL
  rw [HT.sIx_none, show HT.sIx l.length l.length (some ((n : Nat) : Int)) = min n l.length from HT.sIx_nat _ _ _, List.drop_zero, Nat.sub_zero, Int.toNat_natCast]
  by_cases hn : n ≤ l.length
  · rw [Nat.min_eq_left hn]
  · rw [Nat.min_eq_right (by omega), List.take_length, List.take_of_length_le (by omega)]
theorem cut_drop {α : Type} (l : List α) {k : Int} (h : 0 ≤ k) : cutL l (some k) none = l.drop k.toNat := by
  obtain ⟨n, rfl⟩ := Int.eq_ofNat_of_zero_le h
  unfold cutL
  rw [HT.sIx_none, show HT.sIx l.length 0 (some ((n : Nat) : Int)) = min n l.length from HT.sIx_nat _ _ _, Int.toNat_natCast]
  by_cases hn : n ≤ l.length
  · rw [Nat.min_eq_left hn, List.take_of_length_le (by simp)]
  · rw [Nat.min_eq_right (by omega), List.drop_eq_nil_of_le (by omega), List.drop_eq_nil_of_le (by omega), List.take_nil]
theorem cut_mid {α : Type} (l : List α) {i j : Int} (h : 0 ≤ i) (h' : 0 ≤ j) : cutL l (some i) (some j) = (l.drop i.toNat).take (j.toNat - i.toNat) := by
  obtain ⟨m, rfl⟩ := Int.eq_ofNat_of_zero_le h
  obtain ⟨n, rfl⟩ := Int.eq_ofNat_of_zero_le h'
  unfold cutL
  rw [show HT.sIx l.length 0 (some ((m : Nat) : Int)) = min m l.length from HT.sIx_nat _ _ _, show HT.sIx l.length l.length (some ((n : Nat) : Int)) = min n l.length from HT.sIx_nat _ _ _, Int.toNat_natCast, Int.toNat_natCast]
  by_cases hm : m ≤ l.length
  · rw [Nat.min_eq_left hm]
    by_cases hn : n ≤ l.length
    · rw [Nat.min_eq_left hn]
    · rw [Nat.min_eq_right (by omega), List.take_of_length_le (by simp), List.take_of_length_le (by rw [List.length_drop]; omega)]
  · rw [show min m l.length = l.length by omega, List.drop_eq_nil_of_le (Nat.le_refl _), List.drop_eq_nil_of_le (by omega), List.take_nil, List.take_nil]
theorem atI_nn {α : Type} (l : List α) {i : Int} (h : 0 ≤ i) : atI l i = l[i.toNat]? := by
  unfold atI ixN
  rw [if_pos h]
  by_cases hl : i < l.length
  · rw [if_pos hl]; rfl
  · rw [if_neg hl, List.getElem?_eq_none (by omega)]; rfl
theorem atI_neg1 {α : Type} (l : List α) : atI l (-1) = l[l.length - 1]? := by
  unfold atI ixN
  rw [if_neg (by decide)]
  by_cases hl : l = []
  · subst hl; rfl
  · have hp : 0 < l.length := List.length_pos_iff.mpr hl
    rw [if_pos (by omega)]
    show l[((-1 : Int) + l.length).toNat]? = _
    congr 1; omega
theorem dIx_S (l : List Nat) (i : Int) (hl : l.length ≤ sizeLine) {c : Nat} (h : atI l i = some c) : dIx (.str (S l)) (.int i) = .ret (.str (S [c])) := by
  unfold dIx
  simp only [S_toList, h, S_length, okL_ok hl]
  rfl
theorem dAdd_S (a b : List Nat) (h : a.length + b.length ≤ sizeLine) : dAdd (.str (S a)) (.str (S b)) = .ret (.str (S (a ++ b))) := by
  simp only [dAdd, S_length, okL_ok h, S_append]
theorem dSl_S (a : List Nat) (lo hi : Option Int) (h : a.length ≤ sizeLine) : dSl (.str (S a)) lo hi = .ret (.str (S (cutL a lo hi))) := by
  simp only [dSl, S_length, okL_ok h, S_toList]; rfl
theorem dMul_S (a : List Nat) (n : Int) (h0 : -(2 ^ 63) ≤ n) (h1 : n < 2 ^ 63) (h : a.length * n.toNat ≤ sizeLine) : dMul (.str (S a)) (.int n) = .ret (.str (S (List.replicate n.toNat a).flatten)) := by
  simp only [dMul, S_length, mulS_S]
  rw [if_pos ⟨h0, h1, h⟩]
theorem dLen_S (a : List Nat) (h : a.length ≤ sizeLine) : dLen [.str (S a)] = .ret (.int a.length) := by
  simp only [dLen, S_length, okL_ok h]
theorem sizeLine_val : sizeLine = 16777216 := by decide
end Q

set_option Elab.async false
set_option linter.all false
set_option maxRecDepth 100000
namespace Q
open PySem PySem.Spec PyProof.Rows L2
/-! ### taking the wp of a mirror apart -/
theorem ite_false_and {c p : Prop} [Decidable c] : (if c then p else False) = (c ∧ p) := by
  by_cases h : c <;> simp [h]
theorem r_ite {α : Type} {c : Prop} [Decidable c] {a b : M α} {Q : α → Prop} {R : Exn → Prop} : wp (if c then a else b) Q R = if c then wp a Q R else wp b Q R := by
  by_cases h : c <;> simp [h]
theorem wp_okL {n : Nat} {d : D} {Q : D → Prop} {R : Exn → Prop} : wp (okL n (.ret d)) Q R = (n ≤ 16777216 ∧ Q d) := by
  unfold okL
  rw [r_ite, sizeLine_val]
  exact ite_false_and
def rep (n : Nat) (a : List Nat) : List Nat := (List.replicate n a).flatten
def kPar (i j : Nat) (ds : List D) (δ : Env) : M Flow := match ds with
  | [d1, d2] => .ret (.next ((δ.set i (.dat d1)).set j (.dat d2)))
  | _ => .fail
def kPar3 (i j k : Nat) (ds : List D) (δ : Env) : M Flow := match ds with
  | [d1, d2, d3] => .ret (.next (((δ.set i (.dat d1)).set j (.dat d2)).set k (.dat d3)))
  | _ => .fail
def kAsg (g : D → Env → Option Env) (d : D) (δ : Env) : M Flow := match g d δ with
  | some δ' => .ret (.next δ')
  | none => .fail
def kAsgs (g : List D → Env → Option Env) (d : List D) (δ : Env) : M Flow := match g d δ with
  | some δ' => .ret (.next δ')
  | none => .fail
def kR1 (ds : List D) : M (List D) := iR1 (fun _ => .ret ds) []
def kR2 (ds : List D) : M (List D) := iR2 (fun _ => .ret ds) []
def kNeg (d : D) : M D := eNeg (fun _ => .ret d) []
def kM (g : Str → List D → M D) (ms : Env → M (List D)) (δ : Env) (d : D) : M D := eM g (fun _ => .ret d) ms δ
theorem wp_fn {n : Nat} {body : Env → M Flow} {ss : List Slot} {Q : D → Prop} {R : Exn → Prop} {δ : Env} (e : pad n ss = δ) (h : wp (body δ) (fun fl => wp (ends fl) Q R) R) : wp (fnM n body ss) Q R := by
  unfold fnM; rw [e]; exact wp_bind.mpr h
theorem wp_calmI {α : Type} {Q : α → Prop} {R : Exn → Prop} : ∀ {m : M α}, wp m Q (fun _ => False) → wp m.calm Q R
  | .ret _, h => h
  | .draw _ _, h => ⟨h.1, fun x h0 h1 => wp_calmI (h.2 x h0 h1)⟩
  | .raise _, h => h.elim
  | .fail, h => h.elim
theorem wp_comp {f : D → M (Option D)} {g : D → Option D} : ∀ (xs : List D), (∀ x ∈ xs, wp (f x) (fun o => o = g x) fun _ => False) → wp (compL f xs) (fun r => r = xs.filterMap g) fun _ => False
  | [], _ => rfl
  | x :: xs, h => by
    unfold compL
    refine wp_bindI (h x List.mem_cons_self) fun o e => wp_bindI (wp_comp xs fun y hy => h y (List.mem_cons_of_mem _ hy)) fun r e2 => ?_
    subst e e2
    show _ = _
    rw [List.filterMap_cons]
    cases g x <;> rfl
theorem r_ret {α : Type} {a : α} {Q : α → Prop} {R : Exn → Prop} : wp (.ret a) Q R = Q a := rfl
theorem r_draw {α : Type} {n : Int} {k : Int → M α} {Q : α → Prop} {R : Exn → Prop} : wp (.draw n k) Q R = ((0 < n ∧ n < 1073741824) ∧ ∀ r, 0 ≤ r → r < n → wp (k r) Q R) := rfl
theorem r_bind {α β : Type} {m : M α} {f : α → M β} {Q : β → Prop} {R : Exn → Prop} : wp (m.bind f) Q R = wp m (fun a => wp (f a) Q R) R := propext wp_bind
theorem r_eC {d : D} {δ : Env} {Q : D → Prop} {R : Exn → Prop} : wp (eC d δ) Q R = Q d := rfl
theorem r_var0 {d : D} {δ : Env} {Q : D → Prop} {R : Exn → Prop} : wp (eVar 0 (.dat d :: δ)) Q R = Q d := rfl
theorem r_own0 {d : List D} {δ : Env} {Q : D → Prop} {R : Exn → Prop} : wp (eOwn 0 (.own d :: δ)) Q R = Q (.list d) := rfl
theorem r_ownd0 {d : D} {δ : Env} {Q : D → Prop} {R : Exn → Prop} : wp (eOwn 0 (.dat d :: δ)) Q R = Q d := rfl
theorem r_set0 {x0 : Slot} {me : Env → M D} {δ : Env} {Q : Flow → Prop} {R : Exn → Prop} : wp (sSet 0 me (x0 :: δ)) Q R = wp (me (x0 :: δ)) (fun d => Q (.next (.dat d :: δ))) R := propext wp_bind
theorem r_setF0 {x0 : Slot} {me : Env → M (List D)} {δ : Env} {Q : Flow → Prop} {R : Exn → Prop} : wp (sSetF 0 me (x0 :: δ)) Q R = wp (me (x0 :: δ)) (fun d => Q (.next (.own d :: δ))) R := propext wp_bind
theorem r_turn0 {x0 : Slot} {mb : Env → M Flow} {d : D} {δ : Env} {Q : Flow → Prop} {R : Exn → Prop} : wp (turn (gSet 0) mb d (x0 :: δ)) Q R = wp (mb (.dat d :: δ)) Q R := rfl
theorem r_well0 {ms : Env → M (List Slot)} {δ : Env} {Q : List Slot → Prop} {R : Exn → Prop} : wp (aWell 0 ms (.well :: δ)) Q R = wp (ms (.well :: δ)) (fun ss => Q (.well :: ss)) R := propext wp_bind
theorem r_fz0 {ds : List D} {m1 : Env → M Flow} {δ : Env} {Q : Flow → Prop} {R : Exn → Prop} : wp (sFz 0 m1 (.own ds :: δ)) Q R = wp (m1 (.dat (.list ds) :: δ)) Q R := rfl
theorem r_var1 {x0 : Slot} {d : D} {δ : Env} {Q : D → Prop} {R : Exn → Prop} : wp (eVar 1 (x0 :: .dat d :: δ)) Q R = Q d := rfl
theorem r_own1 {x0 : Slot} {d : List D} {δ : Env} {Q : D → Prop} {R : Exn → Prop} : wp (eOwn 1 (x0 :: .own d :: δ)) Q R = Q (.list d) := rfl
theorem r_ownd1 {x0 : Slot} {d : D} {δ : Env} {Q : D → Prop} {R : Exn → Prop} : wp (eOwn 1 (x0 :: .dat d :: δ)) Q R = Q d := rfl
theorem r_set1 {x0 x1 : Slot} {me : Env → M D} {δ : Env} {Q : Flow → Prop} {R : Exn → Prop} : wp (sSet 1 me (x0 :: x1 :: δ)) Q R = wp (me (x0 :: x1 :: δ)) (fun d => Q (.next (x0 :: .dat d :: δ))) R := propext wp_bind
theorem r_setF1 {x0 x1 : Slot} {me : Env → M (List D)} {δ : Env} {Q : Flow → Prop} {R : Exn → Prop} : wp (sSetF 1 me (x0 :: x1 :: δ)) Q R = wp (me (x0 :: x1 :: δ)) (fun d => Q (.next (x0 :: .own d :: δ))) R := propext wp_bind
theorem r_turn1 {x0 x1 : Slot} {mb : Env → M Flow} {d : D} {δ : Env} {Q : Flow → Prop} {R : Exn → Prop} : wp (turn (gSet 1) mb d (x0 :: x1 :: δ)) Q R = wp (mb (x0 :: .dat d :: δ)) Q R := rfl
theorem r_well1 {x0 : Slot} {ms : Env → M (List Slot)} {δ : Env} {Q : List Slot → Prop} {R : Exn → Prop} : wp (aWell 1 ms (x0 :: .well :: δ)) Q R = wp (ms (x0 :: .well :: δ)) (fun ss => Q (.well :: ss)) R := propext wp_bind
theorem r_fz1 {x0 : Slot} {ds : List D} {m1 : Env → M Flow} {δ : Env} {Q : Flow → Prop} {R : Exn → Prop} : wp (sFz 1 m1 (x0 :: .own ds :: δ)) Q R = wp (m1 (x0 :: .dat (.list ds) :: δ)) Q R := rfl
theorem r_var2 {x0 x1 : Slot} {d : D} {δ : Env} {Q : D → Prop} {R : Exn → Prop} : wp (eVar 2 (x0 :: x1 :: .dat d :: δ)) Q R = Q d := rfl
theorem r_own2 {x0 x1 : Slot} {d : List D} {δ : Env} {Q : D → Prop} {R : Exn → Prop} : wp (eOwn 2 (x0 :: x1 :: .own d :: δ)) Q R = Q (.list d) := rfl
theorem r_ownd2 {x0 x1 : Slot} {d : D} {δ : Env} {Q : D → Prop} {R : Exn → Prop} : wp (eOwn 2 (x0 :: x1 :: .dat d :: δ)) Q R = Q d := rfl
theorem r_set2 {x0 x1 x2 : Slot} {me : Env → M D} {δ : Env} {Q : Flow → Prop} {R : Exn → Prop} : wp (sSet 2 me (x0 :: x1 :: x2 :: δ)) Q R = wp (me (x0 :: x1 :: x2 :: δ)) (fun d => Q (.next (x0 :: x1 :: .dat d :: δ))) R := propext wp_bind
theorem r_setF2 {x0 x1 x2 : Slot} {me : Env → M (List D)} {δ : Env} {Q : Flow → Prop} {R : Exn → Prop} : wp (sSetF 2 me (x0 :: x1 :: x2 :: δ)) Q R = wp (me (x0 :: x1 :: x2 :: δ)) (fun d => Q (.next (x0 :: x1 :: .own d :: δ))) R := propext wp_bind
theorem r_turn2 {x0 x1 x2 : Slot} {mb : Env → M Flow} {d : D} {δ : Env} {Q : Flow → Prop} {R : Exn → Prop} : wp (turn (gSet 2) mb d (x0 :: x1 :: x2 :: δ)) Q R = wp (mb (x0 :: x1 :: .dat d :: δ)) Q R := rfl
theorem r_well2 {x0 x1 : Slot} {ms : Env → M (List Slot)} {δ : Env} {Q : List Slot → Prop} {R : Exn → Prop} : wp (aWell 2 ms (x0 :: x1 :: .well :: δ)) Q R = wp (ms (x0 :: x1 :: .well :: δ)) (fun ss => Q (.well :: ss)) R := propext wp_bind
theorem r_fz2 {x0 x1 : Slot} {ds : List D} {m1 : Env → M Flow} {δ : Env} {Q : Flow → Prop} {R : Exn → Prop} : wp (sFz 2 m1 (x0 :: x1 :: .own ds :: δ)) Q R = wp (m1 (x0 :: x1 :: .dat (.list ds) :: δ)) Q R := rfl
theorem r_var3 {x0 x1 x2 : Slot} {d : D} {δ : Env} {Q : D → Prop} {R : Exn → Prop} : wp (eVar 3 (x0 :: x1 :: x2 :: .dat d :: δ)) Q R = Q d := rfl
theorem r_own3 {x0 x1 x2 : Slot} {d : List D} {δ : Env} {Q : D → Prop} {R : Exn → Prop} : wp (eOwn 3 (x0 :: x1 :: x2 :: .own d :: δ)) Q R = Q (.list d) := rfl
theorem r_ownd3 {x0 x1 x2 : Slot} {d : D} {δ : Env} {Q : D → Prop} {R : Exn → Prop} : wp (eOwn 3 (x0 :: x1 :: x2 :: .dat d :: δ)) Q R = Q d := rfl
theorem r_set3 {x0 x1 x2 x3 : Slot} {me : Env → M D} {δ : Env} {Q : Flow → Prop} {R : Exn → Prop} : wp (sSet 3 me (x0 :: x1 :: x2 :: x3 :: δ)) Q R = wp (me (x0 :: x1 :: x2 :: x3 :: δ)) (fun d => Q (.next (x0 :: x1 :: x2 :: .dat d :: δ))) R := propext wp_bind
theorem r_setF3 {x0 x1 x2 x3 : Slot} {me : Env → M (List D)} {δ : Env} {Q : Flow → Prop} {R : Exn → Prop} : wp (sSetF 3 me (x0 :: x1 :: x2 :: x3 :: δ)) Q R = wp (me (x0 :: x1 :: x2 :: x3 :: δ)) (fun d => Q (.next (x0 :: x1 :: x2 :: .own d :: δ))) R := propext wp_bind
theorem r_turn3 {x0 x1 x2 x3 : Slot} {mb : Env → M Flow} {d : D} {δ : Env} {Q : Flow → Prop} {R : Exn → Prop} : wp (turn (gSet 3) mb d (x0 :: x1 :: x2 :: x3 :: δ)) Q R = wp (mb (x0 :: x1 :: x2 :: .dat d :: δ)) Q R := rfl
theorem r_well3 {x0 x1 x2 : Slot} {ms : Env → M (List Slot)} {δ : Env} {Q : List Slot → Prop} {R : Exn → Prop} : wp (aWell 3 ms (x0 :: x1 :: x2 :: .well :: δ)) Q R = wp (ms (x0 :: x1 :: x2 :: .well :: δ)) (fun ss => Q (.well :: ss)) R := propext wp_bind
theorem r_fz3 {x0 x1 x2 : Slot} {ds : List D} {m1 : Env → M Flow} {δ : Env} {Q : Flow → Prop} {R : Exn → Prop} : wp (sFz 3 m1 (x0 :: x1 :: x2 :: .own ds :: δ)) Q R = wp (m1 (x0 :: x1 :: x2 :: .dat (.list ds) :: δ)) Q R := rfl
theorem r_var4 {x0 x1 x2 x3 : Slot} {d : D} {δ : Env} {Q : D → Prop} {R : Exn → Prop} : wp (eVar 4 (x0 :: x1 :: x2 :: x3 :: .dat d :: δ)) Q R = Q d := rfl
theorem r_own4 {x0 x1 x2 x3 : Slot} {d : List D} {δ : Env} {Q : D → Prop} {R : Exn → Prop} : wp (eOwn 4 (x0 :: x1 :: x2 :: x3 :: .own d :: δ)) Q R = Q (.list d) := rfl
theorem r_ownd4 {x0 x1 x2 x3 : Slot} {d : D} {δ : Env} {Q : D → Prop} {R : Exn → Prop} : wp (eOwn 4 (x0 :: x1 :: x2 :: x3 :: .dat d :: δ)) Q R = Q d := rfl
theorem r_set4 {x0 x1 x2 x3 x4 : Slot} {me : Env → M D} {δ : Env} {Q : Flow → Prop} {R : Exn → Prop} : wp (sSet 4 me (x0 :: x1 :: x2 :: x3 :: x4 :: δ)) Q R = wp (me (x0 :: x1 :: x2 :: x3 :: x4 :: δ)) (fun d => Q (.next (x0 :: x1 :: x2 :: x3 :: .dat d :: δ))) R := propext wp_bind
theorem r_setF4 {x0 x1 x2 x3 x4 : Slot} {me : Env → M (List D)} {δ : Env} {Q : Flow → Prop} {R : Exn → Prop} : wp (sSetF 4 me (x0 :: x1 :: x2 :: x3 :: x4 :: δ)) Q R = wp (me (x0 :: x1 :: x2 :: x3 :: x4 :: δ)) (fun d => Q (.next (x0 :: x1 :: x2 :: x3 :: .own d :: δ))) R := propext wp_bind
theorem r_turn4 {x0 x1 x2 x3 x4 : Slot} {mb : Env → M Flow} {d : D} {δ : Env} {Q : Flow → Prop} {R : Exn → Prop} : wp (turn (gSet 4) mb d (x0 :: x1 :: x2 :: x3 :: x4 :: δ)) Q R = wp (mb (x0 :: x1 :: x2 :: x3 :: .dat d :: δ)) Q R := rfl
theorem r_well4 {x0 x1 x2 x3 : Slot} {ms : Env → M (List Slot)} {δ : Env} {Q : List Slot → Prop} {R : Exn → Prop} : wp (aWell 4 ms (x0 :: x1 :: x2 :: x3 :: .well :: δ)) Q R = wp (ms (x0 :: x1 :: x2 :: x3 :: .well :: δ)) (fun ss => Q (.well :: ss)) R := propext wp_bind
theorem r_fz4 {x0 x1 x2 x3 : Slot} {ds : List D} {m1 : Env → M Flow} {δ : Env} {Q : Flow → Prop} {R : Exn → Prop} : wp (sFz 4 m1 (x0 :: x1 :: x2 :: x3 :: .own ds :: δ)) Q R = wp (m1 (x0 :: x1 :: x2 :: x3 :: .dat (.list ds) :: δ)) Q R := rfl
theorem r_var5 {x0 x1 x2 x3 x4 : Slot} {d : D} {δ : Env} {Q : D → Prop} {R : Exn → Prop} : wp (eVar 5 (x0 :: x1 :: x2 :: x3 :: x4 :: .dat d :: δ)) Q R = Q d := rfl
theorem r_own5 {x0 x1 x2 x3 x4 : Slot} {d : List D} {δ : Env} {Q : D → Prop} {R : Exn → Prop} : wp (eOwn 5 (x0 :: x1 :: x2 :: x3 :: x4 :: .own d :: δ)) Q R = Q (.list d) := rfl
theorem r_ownd5 {x0 x1 x2 x3 x4 : Slot} {d : D} {δ : Env} {Q : D → Prop} {R : Exn → Prop} : wp (eOwn 5 (x0 :: x1 :: x2 :: x3 :: x4 :: .dat d :: δ)) Q R = Q d := rfl
theorem r_set5 {x0 x1 x2 x3 x4 x5 : Slot} {me : Env → M D} {δ : Env} {Q : Flow → Prop} {R : Exn → Prop} : wp (sSet 5 me (x0 :: x1 :: x2 :: x3 :: x4 :: x5 :: δ)) Q R = wp (me (x0 :: x1 :: x2 :: x3 :: x4 :: x5 :: δ)) (fun d => Q (.next (x0 :: x1 :: x2 :: x3 :: x4 :: .dat d :: δ))) R := propext wp_bind
theorem r_setF5 {x0 x1 x2 x3 x4 x5 : Slot} {me : Env → M (List D)} {δ : Env} {Q : Flow → Prop} {R : Exn → Prop} : wp (sSetF 5 me (x0 :: x1 :: x2 :: x3 :: x4 :: x5 :: δ)) Q R = wp (me (x0 :: x1 :: x2 :: x3 :: x4 :: x5 :: δ)) (fun d => Q (.next (x0 :: x1 :: x2 :: x3 :: x4 :: .own d :: δ))) R := propext wp_bind
theorem r_turn5 {x0 x1 x2 x3 x4 x5 : Slot} {mb : Env → M Flow} {d : D} {δ : Env} {Q : Flow → Prop} {R : Exn → Prop} : wp (turn (gSet 5) mb d (x0 :: x1 :: x2 :: x3 :: x4 :: x5 :: δ)) Q R = wp (mb (x0 :: x1 :: x2 :: x3 :: x4 :: .dat d :: δ)) Q R := rfl
theorem r_well5 {x0 x1 x2 x3 x4 : Slot} {ms : Env → M (List Slot)} {δ : Env} {Q : List Slot → Prop} {R : Exn → Prop} : wp (aWell 5 ms (x0 :: x1 :: x2 :: x3 :: x4 :: .well :: δ)) Q R = wp (ms (x0 :: x1 :: x2 :: x3 :: x4 :: .well :: δ)) (fun ss => Q (.well :: ss)) R := propext wp_bind
theorem r_fz5 {x0 x1 x2 x3 x4 : Slot} {ds : List D} {m1 : Env → M Flow} {δ : Env} {Q : Flow → Prop} {R : Exn → Prop} : wp (sFz 5 m1 (x0 :: x1 :: x2 :: x3 :: x4 :: .own ds :: δ)) Q R = wp (m1 (x0 :: x1 :: x2 :: x3 :: x4 :: .dat (.list ds) :: δ)) Q R := rfl
theorem r_var6 {x0 x1 x2 x3 x4 x5 : Slot} {d : D} {δ : Env} {Q : D → Prop} {R : Exn → Prop} : wp (eVar 6 (x0 :: x1 :: x2 :: x3 :: x4 :: x5 :: .dat d :: δ)) Q R = Q d := rfl
theorem r_own6 {x0 x1 x2 x3 x4 x5 : Slot} {d : List D} {δ : Env} {Q : D → Prop} {R : Exn → Prop} : wp (eOwn 6 (x0 :: x1 :: x2 :: x3 :: x4 :: x5 :: .own d :: δ)) Q R = Q (.list d) := rfl
theorem r_ownd6 {x0 x1 x2 x3 x4 x5 : Slot} {d : D} {δ : Env} {Q : D → Prop} {R : Exn → Prop} : wp (eOwn 6 (x0 :: x1 :: x2 :: x3 :: x4 :: x5 :: .dat d :: δ)) Q R = Q d := rfl
theorem r_set6 {x0 x1 x2 x3 x4 x5 x6 : Slot} {me : Env → M D} {δ : Env} {Q : Flow → Prop} {R : Exn → Prop} : wp (sSet 6 me (x0 :: x1 :: x2 :: x3 :: x4 :: x5 :: x6 :: δ)) Q R = wp (me (x0 :: x1 :: x2 :: x3 :: x4 :: x5 :: x6 :: δ)) (fun d => Q (.next (x0 :: x1 :: x2 :: x3 :: x4 :: x5 :: .dat d :: δ))) R := propext wp_bind
theorem r_setF6 {x0 x1 x2 x3 x4 x5 x6 : Slot} {me : Env → M (List D)} {δ : Env} {Q : Flow → Prop} {R : Exn → Prop} : wp (sSetF 6 me (x0 :: x1 :: x2 :: x3 :: x4 :: x5 :: x6 :: δ)) Q R = wp (me (x0 :: x1 :: x2 :: x3 :: x4 :: x5 :: x6 :: δ)) (fun d => Q (.next (x0 :: x1 :: x2 :: x3 :: x4 :: x5 :: .own d :: δ))) R := propext wp_bind
theorem r_turn6 {x0 x1 x2 x3 x4 x5 x6 : Slot} {mb : Env → M Flow} {d : D} {δ : Env} {Q : Flow → Prop} {R : Exn → Prop} : wp (turn (gSet 6) mb d (x0 :: x1 :: x2 :: x3 :: x4 :: x5 :: x6 :: δ)) Q R = wp (mb (x0 :: x1 :: x2 :: x3 :: x4 :: x5 :: .dat d :: δ)) Q R := rfl
theorem r_well6 {x0 x1 x2 x3 x4 x5 : Slot} {ms : Env → M (List Slot)} {δ : Env} {Q : List Slot → Prop} {R : Exn → Prop} : wp (aWell 6 ms (x0 :: x1 :: x2 :: x3 :: x4 :: x5 :: .well :: δ)) Q R = wp (ms (x0 :: x1 :: x2 :: x3 :: x4 :: x5 :: .well :: δ)) (fun ss => Q (.well :: ss)) R := propext wp_bind
theorem r_fz6 {x0 x1 x2 x3 x4 x5 : Slot} {ds : List D} {m1 : Env → M Flow} {δ : Env} {Q : Flow → Prop} {R : Exn → Prop} : wp (sFz 6 m1 (x0 :: x1 :: x2 :: x3 :: x4 :: x5 :: .own ds :: δ)) Q R = wp (m1 (x0 :: x1 :: x2 :: x3 :: x4 :: x5 :: .dat (.list ds) :: δ)) Q R := rfl
theorem r_var7 {x0 x1 x2 x3 x4 x5 x6 : Slot} {d : D} {δ : Env} {Q : D → Prop} {R : Exn → Prop} : wp (eVar 7 (x0 :: x1 :: x2 :: x3 :: x4 :: x5 :: x6 :: .dat d :: δ)) Q R = Q d := rfl
theorem r_own7 {x0 x1 x2 x3 x4 x5 x6 : Slot} {d : List D} {δ : Env} {Q : D → Prop} {R : Exn → Prop} : wp (eOwn 7 (x0 :: x1 :: x2 :: x3 :: x4 :: x5 :: x6 :: .own d :: δ)) Q R = Q (.list d) := rfl
theorem r_ownd7 {x0 x1 x2 x3 x4 x5 x6 : Slot} {d : D} {δ : Env} {Q : D → Prop} {R : Exn → Prop} : wp (eOwn 7 (x0 :: x1 :: x2 :: x3 :: x4 :: x5 :: x6 :: .dat d :: δ)) Q R = Q d := rfl
theorem r_set7 {x0 x1 x2 x3 x4 x5 x6 x7 : Slot} {me : Env → M D} {δ : Env} {Q : Flow → Prop} {R : Exn → Prop} : wp (sSet 7 me (x0 :: x1 :: x2 :: x3 :: x4 :: x5 :: x6 :: x7 :: δ)) Q R = wp (me (x0 :: x1 :: x2 :: x3 :: x4 :: x5 :: x6 :: x7 :: δ)) (fun d => Q (.next (x0 :: x1 :: x2 :: x3 :: x4 :: x5 :: x6 :: .dat d :: δ))) R := propext wp_bind
theorem r_setF7 {x0 x1 x2 x3 x4 x5 x6 x7 : Slot} {me : Env → M (List D)} {δ : Env} {Q : Flow → Prop} {R : Exn → Prop} : wp (sSetF 7 me (x0 :: x1 :: x2 :: x3 :: x4 :: x5 :: x6 :: x7 :: δ)) Q R = wp (me (x0 :: x1 :: x2 :: x3 :: x4 :: x5 :: x6 :: x7 :: δ)) (fun d => Q (.next (x0 :: x1 :: x2 :: x3 :: x4 :: x5 :: x6 :: .own d :: δ))) R := propext wp_bind
theorem r_turn7 {x0 x1 x2 x3 x4 x5 x6 x7 : Slot} {mb : Env → M Flow} {d : D} {δ : Env} {Q : Flow → Prop} {R : Exn → Prop} : wp (turn (gSet 7) mb d (x0 :: x1 :: x2 :: x3 :: x4 :: x5 :: x6 :: x7 :: δ)) Q R = wp (mb (x0 :: x1 :: x2 :: x3 :: x4 :: x5 :: x6 :: .dat d :: δ)) Q R := rfl
theorem r_well7 {x0 x1 x2 x3 x4 x5 x6 : Slot} {ms : Env → M (List Slot)} {δ : Env} {Q : List Slot → Prop} {R : Exn → Prop} : wp (aWell 7 ms (x0 :: x1 :: x2 :: x3 :: x4 :: x5 :: x6 :: .well :: δ)) Q R = wp (ms (x0 :: x1 :: x2 :: x3 :: x4 :: x5 :: x6 :: .well :: δ)) (fun ss => Q (.well :: ss)) R := propext wp_bind
theorem r_fz7 {x0 x1 x2 x3 x4 x5 x6 : Slot} {ds : List D} {m1 : Env → M Flow} {δ : Env} {Q : Flow → Prop} {R : Exn → Prop} : wp (sFz 7 m1 (x0 :: x1 :: x2 :: x3 :: x4 :: x5 :: x6 :: .own ds :: δ)) Q R = wp (m1 (x0 :: x1 :: x2 :: x3 :: x4 :: x5 :: x6 :: .dat (.list ds) :: δ)) Q R := rfl
theorem r_var8 {x0 x1 x2 x3 x4 x5 x6 x7 : Slot} {d : D} {δ : Env} {Q : D → Prop} {R : Exn → Prop} : wp (eVar 8 (x0 :: x1 :: x2 :: x3 :: x4 :: x5 :: x6 :: x7 :: .dat d :: δ)) Q R = Q d := rfl
theorem r_own8 {x0 x1 x2 x3 x4 x5 x6 x7 : Slot} {d : List D} {δ : Env} {Q : D → Prop} {R : Exn → Prop} : wp (eOwn 8 (x0 :: x1 :: x2 :: x3 :: x4 :: x5 :: x6 :: x7 :: .own d :: δ)) Q R = Q (.list d) := rfl
theorem r_ownd8 {x0 x1 x2 x3 x4 x5 x6 x7 : Slot} {d : D} {δ : Env} {Q : D → Prop} {R : Exn → Prop} : wp (eOwn 8 (x0 :: x1 :: x2 :: x3 :: x4 :: x5 :: x6 :: x7 :: .dat d :: δ)) Q R = Q d := rfl
theorem r_set8 {x0 x1 x2 x3 x4 x5 x6 x7 x8 : Slot} {me : Env → M D} {δ : Env} {Q : Flow → Prop} {R : Exn → Prop} : wp (sSet 8 me (x0 :: x1 :: x2 :: x3 :: x4 :: x5 :: x6 :: x7 :: x8 :: δ)) Q R = wp (me (x0 :: x1 :: x2 :: x3 :: x4 :: x5 :: x6 :: x7 :: x8 :: δ)) (fun d => Q (.next (x0 :: x1 :: x2 :: x3 :: x4 :: x5 :: x6 :: x7 :: .dat d :: δ))) R := propext wp_bind
theorem r_setF8 {x0 x1 x2 x3 x4 x5 x6 x7 x8 : Slot} {me : Env → M (List D)} {δ : Env} {Q : Flow → Prop} {R : Exn → Prop} : wp (sSetF 8 me (x0 :: x1 :: x2 :: x3 :: x4 :: x5 :: x6 :: x7 :: x8 :: δ)) Q R = wp (me (x0 :: x1 :: x2 :: x3 :: x4 :: x5 :: x6 :: x7 :: x8 :: δ)) (fun d => Q (.next (x0 :: x1 :: x2 :: x3 :: x4 :: x5 :: x6 :: x7 :: .own d :: δ))) R := propext wp_bind
theorem r_turn8 {x0 x1 x2 x3 x4 x5 x6 x7 x8 : Slot} {mb : Env → M Flow} {d : D} {δ : Env} {Q : Flow → Prop} {R : Exn → Prop} : wp (turn (gSet 8) mb d (x0 :: x1 :: x2 :: x3 :: x4 :: x5 :: x6 :: x7 :: x8 :: δ)) Q R = wp (mb (x0 :: x1 :: x2 :: x3 :: x4 :: x5 :: x6 :: x7 :: .dat d :: δ)) Q R := rfl
theorem r_well8 {x0 x1 x2 x3 x4 x5 x6 x7 : Slot} {ms : Env → M (List Slot)} {δ : Env} {Q : List Slot → Prop} {R : Exn → Prop} : wp (aWell 8 ms (x0 :: x1 :: x2 :: x3 :: x4 :: x5 :: x6 :: x7 :: .well :: δ)) Q R = wp (ms (x0 :: x1 :: x2 :: x3 :: x4 :: x5 :: x6 :: x7 :: .well :: δ)) (fun ss => Q (.well :: ss)) R := propext wp_bind
theorem r_fz8 {x0 x1 x2 x3 x4 x5 x6 x7 : Slot} {ds : List D} {m1 : Env → M Flow} {δ : Env} {Q : Flow → Prop} {R : Exn → Prop} : wp (sFz 8 m1 (x0 :: x1 :: x2 :: x3 :: x4 :: x5 :: x6 :: x7 :: .own ds :: δ)) Q R = wp (m1 (x0 :: x1 :: x2 :: x3 :: x4 :: x5 :: x6 :: x7 :: .dat (.list ds) :: δ)) Q R := rfl
theorem r_var9 {x0 x1 x2 x3 x4 x5 x6 x7 x8 : Slot} {d : D} {δ : Env} {Q : D → Prop} {R : Exn → Prop} : wp (eVar 9 (x0 :: x1 :: x2 :: x3 :: x4 :: x5 :: x6 :: x7 :: x8 :: .dat d :: δ)) Q R = Q d := rfl
theorem r_own9 {x0 x1 x2 x3 x4 x5 x6 x7 x8 : Slot} {d : List D} {δ : Env} {Q : D → Prop} {R : Exn → Prop} : wp (eOwn 9 (x0 :: x1 :: x2 :: x3 :: x4 :: x5 :: x6 :: x7 :: x8 :: .own d :: δ)) Q R = Q (.list d) := rfl
theorem r_ownd9 {x0 x1 x2 x3 x4 x5 x6 x7 x8 : Slot} {d : D} {δ : Env} {Q : D → Prop} {R : Exn → Prop} : wp (eOwn 9 (x0 :: x1 :: x2 :: x3 :: x4 :: x5 :: x6 :: x7 :: x8 :: .dat d :: δ)) Q R = Q d := rfl
theorem r_set9 {x0 x1 x2 x3 x4 x5 x6 x7 x8 x9 : Slot} {me : Env → M D} {δ : Env} {Q : Flow → Prop} {R : Exn → Prop} : wp (sSet 9 me (x0 :: x1 :: x2 :: x3 :: x4 :: x5 :: x6 :: x7 :: x8 :: x9 :: δ)) Q R = wp (me (x0 :: x1 :: x2 :: x3 :: x4 :: x5 :: x6 :: x7 :: x8 :: x9 :: δ)) (fun d => Q (.next (x0 :: x1 :: x2 :: x3 :: x4 :: x5 :: x6 :: x7 :: x8 :: .dat d :: δ))) R := propext wp_bind
theorem r_setF9 {x0 x1 x2 x3 x4 x5 x6 x7 x8 x9 : Slot} {me : Env → M (List D)} {δ : Env} {Q : Flow → Prop} {R : Exn → Prop} : wp (sSetF 9 me (x0 :: x1 :: x2 :: x3 :: x4 :: x5 :: x6 :: x7 :: x8 :: x9 :: δ)) Q R = wp (me (x0 :: x1 :: x2 :: x3 :: x4 :: x5 :: x6 :: x7 :: x8 :: x9 :: δ)) (fun d => Q (.next (x0 :: x1 :: x2 :: x3 :: x4 :: x5 :: x6 :: x7 :: x8 :: .own d :: δ))) R := propext wp_bind
theorem r_turn9 {x0 x1 x2 x3 x4 x5 x6 x7 x8 x9 : Slot} {mb : Env → M Flow} {d : D} {δ : Env} {Q : Flow → Prop} {R : Exn → Prop} : wp (turn (gSet 9) mb d (x0 :: x1 :: x2 :: x3 :: x4 :: x5 :: x6 :: x7 :: x8 :: x9 :: δ)) Q R = wp (mb (x0 :: x1 :: x2 :: x3 :: x4 :: x5 :: x6 :: x7 :: x8 :: .dat d :: δ)) Q R := rfl
theorem r_well9 {x0 x1 x2 x3 x4 x5 x6 x7 x8 : Slot} {ms : Env → M (List Slot)} {δ : Env} {Q : List Slot → Prop} {R : Exn → Prop} : wp (aWell 9 ms (x0 :: x1 :: x2 :: x3 :: x4 :: x5 :: x6 :: x7 :: x8 :: .well :: δ)) Q R = wp (ms (x0 :: x1 :: x2 :: x3 :: x4 :: x5 :: x6 :: x7 :: x8 :: .well :: δ)) (fun ss => Q (.well :: ss)) R := propext wp_bind
theorem r_fz9 {x0 x1 x2 x3 x4 x5 x6 x7 x8 : Slot} {ds : List D} {m1 : Env → M Flow} {δ : Env} {Q : Flow → Prop} {R : Exn → Prop} : wp (sFz 9 m1 (x0 :: x1 :: x2 :: x3 :: x4 :: x5 :: x6 :: x7 :: x8 :: .own ds :: δ)) Q R = wp (m1 (x0 :: x1 :: x2 :: x3 :: x4 :: x5 :: x6 :: x7 :: x8 :: .dat (.list ds) :: δ)) Q R := rfl
theorem r_var10 {x0 x1 x2 x3 x4 x5 x6 x7 x8 x9 : Slot} {d : D} {δ : Env} {Q : D → Prop} {R : Exn → Prop} : wp (eVar 10 (x0 :: x1 :: x2 :: x3 :: x4 :: x5 :: x6 :: x7 :: x8 :: x9 :: .dat d :: δ)) Q R = Q d := rfl
theorem r_own10 {x0 x1 x2 x3 x4 x5 x6 x7 x8 x9 : Slot} {d : List D} {δ : Env} {Q : D → Prop} {R : Exn → Prop} : wp (eOwn 10 (x0 :: x1 :: x2 :: x3 :: x4 :: x5 :: x6 :: x7 :: x8 :: x9 :: .own d :: δ)) Q R = Q (.list d) := rfl
theorem r_ownd10 {x0 x1 x2 x3 x4 x5 x6 x7 x8 x9 : Slot} {d : D} {δ : Env} {Q : D → Prop} {R : Exn → Prop} : wp (eOwn 10 (x0 :: x1 :: x2 :: x3 :: x4 :: x5 :: x6 :: x7 :: x8 :: x9 :: .dat d :: δ)) Q R = Q d := rfl
theorem r_set10 {x0 x1 x2 x3 x4 x5 x6 x7 x8 x9 x10 : Slot} {me : Env → M D} {δ : Env} {Q : Flow → Prop} {R : Exn → Prop} : wp (sSet 10 me (x0 :: x1 :: x2 :: x3 :: x4 :: x5 :: x6 :: x7 :: x8 :: x9 :: x10 :: δ)) Q R = wp (me (x0 :: x1 :: x2 :: x3 :: x4 :: x5 :: x6 :: x7 :: x8 :: x9 :: x10 :: δ)) (fun d => Q (.next (x0 :: x1 :: x2 :: x3 :: x4 :: x5 :: x6 :: x7 :: x8 :: x9 :: .dat d :: δ))) R := propext wp_bind
theorem r_setF10 {x0 x1 x2 x3 x4 x5 x6 x7 x8 x9 x10 : Slot} {me : Env → M (List D)} {δ : Env} {Q : Flow → Prop} {R : Exn → Prop} : wp (sSetF 10 me (x0 :: x1 :: x2 :: x3 :: x4 :: x5 :: x6 :: x7 :: x8 :: x9 :: x10 :: δ)) Q R = wp (me (x0 :: x1 :: x2 :: x3 :: x4 :: x5 :: x6 :: x7 :: x8 :: x9 :: x10 :: δ)) (fun d => Q (.next (x0 :: x1 :: x2 :: x3 :: x4 :: x5 :: x6 :: x7 :: x8 :: x9 :: .own d :: δ))) R := propext wp_bind
theorem r_turn10 {x0 x1 x2 x3 x4 x5 x6 x7 x8 x9 x10 : Slot} {mb : Env → M Flow} {d : D} {δ : Env} {Q : Flow → Prop} {R : Exn → Prop} : wp (turn (gSet 10) mb d (x0 :: x1 :: x2 :: x3 :: x4 :: x5 :: x6 :: x7 :: x8 :: x9 :: x10 :: δ)) Q R = wp (mb (x0 :: x1 :: x2 :: x3 :: x4 :: x5 :: x6 :: x7 :: x8 :: x9 :: .dat d :: δ)) Q R := rfl
theorem r_well10 {x0 x1 x2 x3 x4 x5 x6 x7 x8 x9 : Slot} {ms : Env → M (List Slot)} {δ : Env} {Q : List Slot → Prop} {R : Exn → Prop} : wp (aWell 10 ms (x0 :: x1 :: x2 :: x3 :: x4 :: x5 :: x6 :: x7 :: x8 :: x9 :: .well :: δ)) Q R = wp (ms (x0 :: x1 :: x2 :: x3 :: x4 :: x5 :: x6 :: x7 :: x8 :: x9 :: .well :: δ)) (fun ss => Q (.well :: ss)) R := propext wp_bind
theorem r_fz10 {x0 x1 x2 x3 x4 x5 x6 x7 x8 x9 : Slot} {ds : List D} {m1 : Env → M Flow} {δ : Env} {Q : Flow → Prop} {R : Exn → Prop} : wp (sFz 10 m1 (x0 :: x1 :: x2 :: x3 :: x4 :: x5 :: x6 :: x7 :: x8 :: x9 :: .own ds :: δ)) Q R = wp (m1 (x0 :: x1 :: x2 :: x3 :: x4 :: x5 :: x6 :: x7 :: x8 :: x9 :: .dat (.list ds) :: δ)) Q R := rfl
theorem r_var11 {x0 x1 x2 x3 x4 x5 x6 x7 x8 x9 x10 : Slot} {d : D} {δ : Env} {Q : D → Prop} {R : Exn → Prop} : wp (eVar 11 (x0 :: x1 :: x2 :: x3 :: x4 :: x5 :: x6 :: x7 :: x8 :: x9 :: x10 :: .dat d :: δ)) Q R = Q d := rfl
theorem r_own11 {x0 x1 x2 x3 x4 x5 x6 x7 x8 x9 x10 : Slot} {d : List D} {δ : Env} {Q : D → Prop} {R : Exn → Prop} : wp (eOwn 11 (x0 :: x1 :: x2 :: x3 :: x4 :: x5 :: x6 :: x7 :: x8 :: x9 :: x10 :: .own d :: δ)) Q R = Q (.list d) := rfl
theorem r_ownd11 {x0 x1 x2 x3 x4 x5 x6 x7 x8 x9 x10 : Slot} {d : D} {δ : Env} {Q : D → Prop} {R : Exn → Prop} : wp (eOwn 11 (x0 :: x1 :: x2 :: x3 :: x4 :: x5 :: x6 :: x7 :: x8 :: x9 :: x10 :: .dat d :: δ)) Q R = Q d := rfl
theorem r_set11 {x0 x1 x2 x3 x4 x5 x6 x7 x8 x9 x10 x11 : Slot} {me : Env → M D} {δ : Env} {Q : Flow → Prop} {R : Exn → Prop} : wp (sSet 11 me (x0 :: x1 :: x2 :: x3 :: x4 :: x5 :: x6 :: x7 :: x8 :: x9 :: x10 :: x11 :: δ)) Q R = wp (me (x0 :: x1 :: x2 :: x3 :: x4 :: x5 :: x6 :: x7 :: x8 :: x9 :: x10 :: x11 :: δ)) (fun d => Q (.next (x0 :: x1 :: x2 :: x3 :: x4 :: x5 :: x6 :: x7 :: x8 :: x9 :: x10 :: .dat d :: δ))) R := propext wp_bind
theorem r_setF11 {x0 x1 x2 x3 x4 x5 x6 x7 x8 x9 x10 x11 : Slot} {me : Env → M (List D)} {δ : Env} {Q : Flow → Prop} {R : Exn → Prop} : wp (sSetF 11 me (x0 :: x1 :: x2 :: x3 :: x4 :: x5 :: x6 :: x7 :: x8 :: x9 :: x10 :: x11 :: δ)) Q R = wp (me (x0 :: x1 :: x2 :: x3 :: x4 :: x5 :: x6 :: x7 :: x8 :: x9 :: x10 :: x11 :: δ)) (fun d => Q (.next (x0 :: x1 :: x2 :: x3 :: x4 :: x5 :: x6 :: x7 :: x8 :: x9 :: x10 :: .own d :: δ))) R := propext wp_bind
theorem r_turn11 {x0 x1 x2 x3 x4 x5 x6 x7 x8 x9 x10 x11 : Slot} {mb : Env → M Flow} {d : D} {δ : Env} {Q : Flow → Prop} {R : Exn → Prop} : wp (turn (gSet 11) mb d (x0 :: x1 :: x2 :: x3 :: x4 :: x5 :: x6 :: x7 :: x8 :: x9 :: x10 :: x11 :: δ)) Q R = wp (mb (x0 :: x1 :: x2 :: x3 :: x4 :: x5 :: x6 :: x7 :: x8 :: x9 :: x10 :: .dat d :: δ)) Q R := rfl
theorem r_well11 {x0 x1 x2 x3 x4 x5 x6 x7 x8 x9 x10 : Slot} {ms : Env → M (List Slot)} {δ : Env} {Q : List Slot → Prop} {R : Exn → Prop} : wp (aWell 11 ms (x0 :: x1 :: x2 :: x3 :: x4 :: x5 :: x6 :: x7 :: x8 :: x9 :: x10 :: .well :: δ)) Q R = wp (ms (x0 :: x1 :: x2 :: x3 :: x4 :: x5 :: x6 :: x7 :: x8 :: x9 :: x10 :: .well :: δ)) (fun ss => Q (.well :: ss)) R := propext wp_bind
theorem r_fz11 {x0 x1 x2 x3 x4 x5 x6 x7 x8 x9 x10 : Slot} {ds : List D} {m1 : Env → M Flow} {δ : Env} {Q : Flow → Prop} {R : Exn → Prop} : wp (sFz 11 m1 (x0 :: x1 :: x2 :: x3 :: x4 :: x5 :: x6 :: x7 :: x8 :: x9 :: x10 :: .own ds :: δ)) Q R = wp (m1 (x0 :: x1 :: x2 :: x3 :: x4 :: x5 :: x6 :: x7 :: x8 :: x9 :: x10 :: .dat (.list ds) :: δ)) Q R := rfl
theorem r_var12 {x0 x1 x2 x3 x4 x5 x6 x7 x8 x9 x10 x11 : Slot} {d : D} {δ : Env} {Q : D → Prop} {R : Exn → Prop} : wp (eVar 12 (x0 :: x1 :: x2 :: x3 :: x4 :: x5 :: x6 :: x7 :: x8 :: x9 :: x10 :: x11 :: .dat d :: δ)) Q R = Q d := rfl
theorem r_own12 {x0 x1 x2 x3 x4 x5 x6 x7 x8 x9 x10 x11 : Slot} {d : List D} {δ : Env} {Q : D → Prop} {R : Exn → Prop} : wp (eOwn 12 (x0 :: x1 :: x2 :: x3 :: x4 :: x5 :: x6 :: x7 :: x8 :: x9 :: x10 :: x11 :: .own d :: δ)) Q R = Q (.list d) := rfl
theorem r_ownd12 {x0 x1 x2 x3 x4 x5 x6 x7 x8 x9 x10 x11 : Slot} {d : D} {δ : Env} {Q : D → Prop} {R : Exn → Prop} : wp (eOwn 12 (x0 :: x1 :: x2 :: x3 :: x4 :: x5 :: x6 :: x7 :: x8 :: x9 :: x10 :: x11 :: .dat d :: δ)) Q R = Q d := rfl
theorem r_set12 {x0 x1 x2 x3 x4 x5 x6 x7 x8 x9 x10 x11 x12 : Slot} {me : Env → M D} {δ : Env} {Q : Flow → Prop} {R : Exn → Prop} : wp (sSet 12 me (x0 :: x1 :: x2 :: x3 :: x4 :: x5 :: x6 :: x7 :: x8 :: x9 :: x10 :: x11 :: x12 :: δ)) Q R = wp (me (x0 :: x1 :: x2 :: x3 :: x4 :: x5 :: x6 :: x7 :: x8 :: x9 :: x10 :: x11 :: x12 :: δ)) (fun d => Q (.next (x0 :: x1 :: x2 :: x3 :: x4 :: x5 :: x6 :: x7 :: x8 :: x9 :: x10 :: x11 :: .dat d :: δ))) R := propext wp_bind
theorem r_setF12 {x0 x1 x2 x3 x4 x5 x6 x7 x8 x9 x10 x11 x12 : Slot} {me : Env → M (List D)} {δ : Env} {Q : Flow → Prop} {R : Exn → Prop} : wp (sSetF 12 me (x0 :: x1 :: x2 :: x3 :: x4 :: x5 :: x6 :: x7 :: x8 :: x9 :: x10 :: x11 :: x12 :: δ)) Q R = wp (me (x0 :: x1 :: x2 :: x3 :: x4 :: x5 :: x6 :: x7 :: x8 :: x9 :: x10 :: x11 :: x12 :: δ)) (fun d => Q (.next (x0 :: x1 :: x2 :: x3 :: x4 :: x5 :: x6 :: x7 :: x8 :: x9 :: x10 :: x11 :: .own d :: δ))) R := propext wp_bind
theorem r_turn12 {x0 x1 x2 x3 x4 x5 x6 x7 x8 x9 x10 x11 x12 : Slot} {mb : Env → M Flow} {d : D} {δ : Env} {Q : Flow → Prop} {R : Exn → Prop} : wp (turn (gSet 12) mb d (x0 :: x1 :: x2 :: x3 :: x4 :: x5 :: x6 :: x7 :: x8 :: x9 :: x10 :: x11 :: x12 :: δ)) Q R = wp (mb (x0 :: x1 :: x2 :: x3 :: x4 :: x5 :: x6 :: x7 :: x8 :: x9 :: x10 :: x11 :: .dat d :: δ)) Q R := rfl
theorem r_well12 {x0 x1 x2 x3 x4 x5 x6 x7 x8 x9 x10 x11 : Slot} {ms : Env → M (List Slot)} {δ : Env} {Q : List Slot → Prop} {R : Exn → Prop} : wp (aWell 12 ms (x0 :: x1 :: x2 :: x3 :: x4 :: x5 :: x6 :: x7 :: x8 :: x9 :: x10 :: x11 :: .well :: δ)) Q R = wp (ms (x0 :: x1 :: x2 :: x3 :: x4 :: x5 :: x6 :: x7 :: x8 :: x9 :: x10 :: x11 :: .well :: δ)) (fun ss => Q (.well :: ss)) R := propext wp_bind
theorem r_fz12 {x0 x1 x2 x3 x4 x5 x6 x7 x8 x9 x10 x11 : Slot} {ds : List D} {m1 : Env → M Flow} {δ : Env} {Q : Flow → Prop} {R : Exn → Prop} : wp (sFz 12 m1 (x0 :: x1 :: x2 :: x3 :: x4 :: x5 :: x6 :: x7 :: x8 :: x9 :: x10 :: x11 :: .own ds :: δ)) Q R = wp (m1 (x0 :: x1 :: x2 :: x3 :: x4 :: x5 :: x6 :: x7 :: x8 :: x9 :: x10 :: x11 :: .dat (.list ds) :: δ)) Q R := rfl
theorem r_var13 {x0 x1 x2 x3 x4 x5 x6 x7 x8 x9 x10 x11 x12 : Slot} {d : D} {δ : Env} {Q : D → Prop} {R : Exn → Prop} : wp (eVar 13 (x0 :: x1 :: x2 :: x3 :: x4 :: x5 :: x6 :: x7 :: x8 :: x9 :: x10 :: x11 :: x12 :: .dat d :: δ)) Q R = Q d := rfl
theorem r_own13 {x0 x1 x2 x3 x4 x5 x6 x7 x8 x9 x10 x11 x12 : Slot} {d : List D} {δ : Env} {Q : D → Prop} {R : Exn → Prop} : wp (eOwn 13 (x0 :: x1 :: x2 :: x3 :: x4 :: x5 :: x6 :: x7 :: x8 :: x9 :: x10 :: x11 :: x12 :: .own d :: δ)) Q R = Q (.list d) := rfl
theorem r_ownd13 {x0 x1 x2 x3 x4 x5 x6 x7 x8 x9 x10 x11 x12 : Slot} {d : D} {δ : Env} {Q : D → Prop} {R : Exn → Prop} : wp (eOwn 13 (x0 :: x1 :: x2 :: x3 :: x4 :: x5 :: x6 :: x7 :: x8 :: x9 :: x10 :: x11 :: x12 :: .dat d :: δ)) Q R = Q d := rfl
theorem r_set13 {x0 x1 x2 x3 x4 x5 x6 x7 x8 x9 x10 x11 x12 x13 : Slot} {me : Env → M D} {δ : Env} {Q : Flow → Prop} {R : Exn → Prop} : wp (sSet 13 me (x0 :: x1 :: x2 :: x3 :: x4 :: x5 :: x6 :: x7 :: x8 :: x9 :: x10 :: x11 :: x12 :: x13 :: δ)) Q R = wp (me (x0 :: x1 :: x2 :: x3 :: x4 :: x5 :: x6 :: x7 :: x8 :: x9 :: x10 :: x11 :: x12 :: x13 :: δ)) (fun d => Q (.next (x0 :: x1 :: x2 :: x3 :: x4 :: x5 :: x6 :: x7 :: x8 :: x9 :: x10 :: x11 :: x12 :: .dat d :: δ))) R := propext wp_bind
theorem r_setF13 {x0 x1 x2 x3 x4 x5 x6 x7 x8 x9 x10 x11 x12 x13 : Slot} {me : Env → M (List D)} {δ : Env} {Q : Flow → Prop} {R : Exn → Prop} : wp (sSetF 13 me (x0 :: x1 :: x2 :: x3 :: x4 :: x5 :: x6 :: x7 :: x8 :: x9 :: x10 :: x11 :: x12 :: x13 :: δ)) Q R = wp (me (x0 :: x1 :: x2 :: x3 :: x4 :: x5 :: x6 :: x7 :: x8 :: x9 :: x10 :: x11 :: x12 :: x13 :: δ)) (fun d => Q (.next (x0 :: x1 :: x2 :: x3 :: x4 :: x5 :: x6 :: x7 :: x8 :: x9 :: x10 :: x11 :: x12 :: .own d :: δ))) R := propext wp_bind
theorem r_turn13 {x0 x1 x2 x3 x4 x5 x6 x7 x8 x9 x10 x11 x12 x13 : Slot} {mb : Env → M Flow} {d : D} {δ : Env} {Q : Flow → Prop} {R : Exn → Prop} : wp (turn (gSet 13) mb d (x0 :: x1 :: x2 :: x3 :: x4 :: x5 :: x6 :: x7 :: x8 :: x9 :: x10 :: x11 :: x12 :: x13 :: δ)) Q R = wp (mb (x0 :: x1 :: x2 :: x3 :: x4 :: x5 :: x6 :: x7 :: x8 :: x9 :: x10 :: x11 :: x12 :: .dat d :: δ)) Q R := rfl
theorem r_well13 {x0 x1 x2 x3 x4 x5 x6 x7 x8 x9 x10 x11 x12 : Slot} {ms : Env → M (List Slot)} {δ : Env} {Q : List Slot → Prop} {R : Exn → Prop} : wp (aWell 13 ms (x0 :: x1 :: x2 :: x3 :: x4 :: x5 :: x6 :: x7 :: x8 :: x9 :: x10 :: x11 :: x12 :: .well :: δ)) Q R = wp (ms (x0 :: x1 :: x2 :: x3 :: x4 :: x5 :: x6 :: x7 :: x8 :: x9 :: x10 :: x11 :: x12 :: .well :: δ)) (fun ss => Q (.well :: ss)) R := propext wp_bind
theorem r_fz13 {x0 x1 x2 x3 x4 x5 x6 x7 x8 x9 x10 x11 x12 : Slot} {ds : List D} {m1 : Env → M Flow} {δ : Env} {Q : Flow → Prop} {R : Exn → Prop} : wp (sFz 13 m1 (x0 :: x1 :: x2 :: x3 :: x4 :: x5 :: x6 :: x7 :: x8 :: x9 :: x10 :: x11 :: x12 :: .own ds :: δ)) Q R = wp (m1 (x0 :: x1 :: x2 :: x3 :: x4 :: x5 :: x6 :: x7 :: x8 :: x9 :: x10 :: x11 :: x12 :: .dat (.list ds) :: δ)) Q R := rfl
theorem r_var14 {x0 x1 x2 x3 x4 x5 x6 x7 x8 x9 x10 x11 x12 x13 : Slot} {d : D} {δ : Env} {Q : D → Prop} {R : Exn → Prop} : wp (eVar 14 (x0 :: x1 :: x2 :: x3 :: x4 :: x5 :: x6 :: x7 :: x8 :: x9 :: x10 :: x11 :: x12 :: x13 :: .dat d :: δ)) Q R = Q d := rfl
theorem r_own14 {x0 x1 x2 x3 x4 x5 x6 x7 x8 x9 x10 x11 x12 x13 : Slot} {d : List D} {δ : Env} {Q : D → Prop} {R : Exn → Prop} : wp (eOwn 14 (x0 :: x1 :: x2 :: x3 :: x4 :: x5 :: x6 :: x7 :: x8 :: x9 :: x10 :: x11 :: x12 :: x13 :: .own d :: δ)) Q R = Q (.list d) := rfl
theorem r_ownd14 {x0 x1 x2 x3 x4 x5 x6 x7 x8 x9 x10 x11 x12 x13 : Slot} {d : D} {δ : Env} {Q : D → Prop} {R : Exn → Prop} : wp (eOwn 14 (x0 :: x1 :: x2 :: x3 :: x4 :: x5 :: x6 :: x7 :: x8 :: x9 :: x10 :: x11 :: x12 :: x13 :: .dat d :: δ)) Q R = Q d := rfl
theorem r_set14 {x0 x1 x2 x3 x4 x5 x6 x7 x8 x9 x10 x11 x12 x13 x14 : Slot} {me : Env → M D} {δ : Env} {Q : Flow → Prop} {R : Exn → Prop} : wp (sSet 14 me (x0 :: x1 :: x2 :: x3 :: x4 :: x5 :: x6 :: x7 :: x8 :: x9 :: x10 :: x11 :: x12 :: x13 :: x14 :: δ)) Q R = wp (me (x0 :: x1 :: x2 :: x3 :: x4 :: x5 :: x6 :: x7 :: x8 :: x9 :: x10 :: x11 :: x12 :: x13 :: x14 :: δ)) (fun d => Q (.next (x0 :: x1 :: x2 :: x3 :: x4 :: x5 :: x6 :: x7 :: x8 :: x9 :: x10 :: x11 :: x12 :: x13 :: .dat d :: δ))) R := propext wp_bind
theorem r_setF14 {x0 x1 x2 x3 x4 x5 x6 x7 x8 x9 x10 x11 x12 x13 x14 : Slot} {me : Env → M (List D)} {δ : Env} {Q : Flow → Prop} {R : Exn → Prop} : wp (sSetF 14 me (x0 :: x1 :: x2 :: x3 :: x4 :: x5 :: x6 :: x7 :: x8 :: x9 :: x10 :: x11 :: x12 :: x13 :: x14 :: δ)) Q R = wp (me (x0 :: x1 :: x2 :: x3 :: x4 :: x5 :: x6 :: x7 :: x8 :: x9 :: x10 :: x11 :: x12 :: x13 :: x14 :: δ)) (fun d => Q (.next (x0 :: x1 :: x2 :: x3 :: x4 :: x5 :: x6 :: x7 :: x8 :: x9 :: x10 :: x11 :: x12 :: x13 :: .own d :: δ))) R := propext wp_bind
theorem r_turn14 {x0 x1 x2 x3 x4 x5 x6 x7 x8 x9 x10 x11 x12 x13 x14 : Slot} {mb : Env → M Flow} {d : D} {δ : Env} {Q : Flow → Prop} {R : Exn → Prop} : wp (turn (gSet 14) mb d (x0 :: x1 :: x2 :: x3 :: x4 :: x5 :: x6 :: x7 :: x8 :: x9 :: x10 :: x11 :: x12 :: x13 :: x14 :: δ)) Q R = wp (mb (x0 :: x1 :: x2 :: x3 :: x4 :: x5 :: x6 :: x7 :: x8 :: x9 :: x10 :: x11 :: x12 :: x13 :: .dat d :: δ)) Q R := rfl
theorem r_well14 {x0 x1 x2 x3 x4 x5 x6 x7 x8 x9 x10 x11 x12 x13 : Slot} {ms : Env → M (List Slot)} {δ : Env} {Q : List Slot → Prop} {R : Exn → Prop} : wp (aWell 14 ms (x0 :: x1 :: x2 :: x3 :: x4 :: x5 :: x6 :: x7 :: x8 :: x9 :: x10 :: x11 :: x12 :: x13 :: .well :: δ)) Q R = wp (ms (x0 :: x1 :: x2 :: x3 :: x4 :: x5 :: x6 :: x7 :: x8 :: x9 :: x10 :: x11 :: x12 :: x13 :: .well :: δ)) (fun ss => Q (.well :: ss)) R := propext wp_bind
theorem r_fz14 {x0 x1 x2 x3 x4 x5 x6 x7 x8 x9 x10 x11 x12 x13 : Slot} {ds : List D} {m1 : Env → M Flow} {δ : Env} {Q : Flow → Prop} {R : Exn → Prop} : wp (sFz 14 m1 (x0 :: x1 :: x2 :: x3 :: x4 :: x5 :: x6 :: x7 :: x8 :: x9 :: x10 :: x11 :: x12 :: x13 :: .own ds :: δ)) Q R = wp (m1 (x0 :: x1 :: x2 :: x3 :: x4 :: x5 :: x6 :: x7 :: x8 :: x9 :: x10 :: x11 :: x12 :: x13 :: .dat (.list ds) :: δ)) Q R := rfl
theorem r_var15 {x0 x1 x2 x3 x4 x5 x6 x7 x8 x9 x10 x11 x12 x13 x14 : Slot} {d : D} {δ : Env} {Q : D → Prop} {R : Exn → Prop} : wp (eVar 15 (x0 :: x1 :: x2 :: x3 :: x4 :: x5 :: x6 :: x7 :: x8 :: x9 :: x10 :: x11 :: x12 :: x13 :: x14 :: .dat d :: δ)) Q R = Q d := rfl
theorem r_own15 {x0 x1 x2 x3 x4 x5 x6 x7 x8 x9 x10 x11 x12 x13 x14 : Slot} {d : List D} {δ : Env} {Q : D → Prop} {R : Exn → Prop} : wp (eOwn 15 (x0 :: x1 :: x2 :: x3 :: x4 :: x5 :: x6 :: x7 :: x8 :: x9 :: x10 :: x11 :: x12 :: x13 :: x14 :: .own d :: δ)) Q R = Q (.list d) := rfl
theorem r_ownd15 {x0 x1 x2 x3 x4 x5 x6 x7 x8 x9 x10 x11 x12 x13 x14 : Slot} {d : D} {δ : Env} {Q : D → Prop} {R : Exn → Prop} : wp (eOwn 15 (x0 :: x1 :: x2 :: x3 :: x4 :: x5 :: x6 :: x7 :: x8 :: x9 :: x10 :: x11 :: x12 :: x13 :: x14 :: .dat d :: δ)) Q R = Q d := rfl
theorem r_set15 {x0 x1 x2 x3 x4 x5 x6 x7 x8 x9 x10 x11 x12 x13 x14 x15 : Slot} {me : Env → M D} {δ : Env} {Q : Flow → Prop} {R : Exn → Prop} : wp (sSet 15 me (x0 :: x1 :: x2 :: x3 :: x4 :: x5 :: x6 :: x7 :: x8 :: x9 :: x10 :: x11 :: x12 :: x13 :: x14 :: x15 :: δ)) Q R = wp (me (x0 :: x1 :: x2 :: x3 :: x4 :: x5 :: x6 :: x7 :: x8 :: x9 :: x10 :: x11 :: x12 :: x13 :: x14 :: x15 :: δ)) (fun d => Q (.next (x0 :: x1 :: x2 :: x3 :: x4 :: x5 :: x6 :: x7 :: x8 :: x9 :: x10 :: x11 :: x12 :: x13 :: x14 :: .dat d :: δ))) R := propext wp_bind
theorem r_setF15 {x0 x1 x2 x3 x4 x5 x6 x7 x8 x9 x10 x11 x12 x13 x14 x15 : Slot} {me : Env → M (List D)} {δ : Env} {Q : Flow → Prop} {R : Exn → Prop} : wp (sSetF 15 me (x0 :: x1 :: x2 :: x3 :: x4 :: x5 :: x6 :: x7 :: x8 :: x9 :: x10 :: x11 :: x12 :: x13 :: x14 :: x15 :: δ)) Q R = wp (me (x0 :: x1 :: x2 :: x3 :: x4 :: x5 :: x6 :: x7 :: x8 :: x9 :: x10 :: x11 :: x12 :: x13 :: x14 :: x15 :: δ)) (fun d => Q (.next (x0 :: x1 :: x2 :: x3 :: x4 :: x5 :: x6 :: x7 :: x8 :: x9 :: x10 :: x11 :: x12 :: x13 :: x14 :: .own d :: δ))) R := propext wp_bind
theorem r_turn15 {x0 x1 x2 x3 x4 x5 x6 x7 x8 x9 x10 x11 x12 x13 x14 x15 : Slot} {mb : Env → M Flow} {d : D} {δ : Env} {Q : Flow → Prop} {R : Exn → Prop} : wp (turn (gSet 15) mb d (x0 :: x1 :: x2 :: x3 :: x4 :: x5 :: x6 :: x7 :: x8 :: x9 :: x10 :: x11 :: x12 :: x13 :: x14 :: x15 :: δ)) Q R = wp (mb (x0 :: x1 :: x2 :: x3 :: x4 :: x5 :: x6 :: x7 :: x8 :: x9 :: x10 :: x11 :: x12 :: x13 :: x14 :: .dat d :: δ)) Q R := rfl
theorem r_well15 {x0 x1 x2 x3 x4 x5 x6 x7 x8 x9 x10 x11 x12 x13 x14 : Slot} {ms : Env → M (List Slot)} {δ : Env} {Q : List Slot → Prop} {R : Exn → Prop} : wp (aWell 15 ms (x0 :: x1 :: x2 :: x3 :: x4 :: x5 :: x6 :: x7 :: x8 :: x9 :: x10 :: x11 :: x12 :: x13 :: x14 :: .well :: δ)) Q R = wp (ms (x0 :: x1 :: x2 :: x3 :: x4 :: x5 :: x6 :: x7 :: x8 :: x9 :: x10 :: x11 :: x12 :: x13 :: x14 :: .well :: δ)) (fun ss => Q (.well :: ss)) R := propext wp_bind
theorem r_fz15 {x0 x1 x2 x3 x4 x5 x6 x7 x8 x9 x10 x11 x12 x13 x14 : Slot} {ds : List D} {m1 : Env → M Flow} {δ : Env} {Q : Flow → Prop} {R : Exn → Prop} : wp (sFz 15 m1 (x0 :: x1 :: x2 :: x3 :: x4 :: x5 :: x6 :: x7 :: x8 :: x9 :: x10 :: x11 :: x12 :: x13 :: x14 :: .own ds :: δ)) Q R = wp (m1 (x0 :: x1 :: x2 :: x3 :: x4 :: x5 :: x6 :: x7 :: x8 :: x9 :: x10 :: x11 :: x12 :: x13 :: x14 :: .dat (.list ds) :: δ)) Q R := rfl
theorem r_bin {f : D → D → M D} {ma mb : Env → M D} {δ : Env} {Q : D → Prop} {R : Exn → Prop} : wp (eBin f ma mb δ) Q R = wp (ma δ) (fun x => wp (mb δ) (fun y => wp (f x y) Q R) R) R := by unfold eBin; rw [r_bind]; simp only [r_bind]
theorem r_tbin {f : D → D → M D} {ma mb : Env → M D} {δ : Env} {Q : Bool → Prop} {R : Exn → Prop} : wp (tBin f ma mb δ) Q R = wp (ma δ) (fun x => wp (mb δ) (fun y => wp (f x y) (fun d => wp (asB d) Q R) R) R) R := by unfold tBin; simp only [r_bind]
theorem r_asB {k : Bool} {Q : Bool → Prop} {R : Exn → Prop} : wp (asB (.bool k)) Q R = Q k := rfl
theorem r_asI {k : Int} {Q : Option Int → Prop} {R : Exn → Prop} : wp (asI (.int k)) Q R = Q (some k) := rfl
theorem r_tval {me : Env → M D} {δ : Env} {Q : Bool → Prop} {R : Exn → Prop} : wp (tVal me δ) Q R = wp (me δ) (fun d => wp (asB d) Q R) R := propext wp_bind
theorem r_tand {m1 m2 : Env → M Bool} {δ : Env} {Q : Bool → Prop} {R : Exn → Prop} : wp (tAndM m1 m2 δ) Q R = wp (m1 δ) (fun k => if k = true then wp (m2 δ) Q R else Q false) R := by unfold tAndM; simp only [r_bind, r_ite, r_ret]
theorem r_tor {m1 m2 : Env → M Bool} {δ : Env} {Q : Bool → Prop} {R : Exn → Prop} : wp (tOrM m1 m2 δ) Q R = wp (m1 δ) (fun k => if k = true then Q true else wp (m2 δ) Q R) R := by unfold tOrM; simp only [r_bind, r_ite, r_ret]
theorem r_tnot {m1 : Env → M Bool} {δ : Env} {Q : Bool → Prop} {R : Exn → Prop} : wp (tNotM m1 δ) Q R = wp (m1 δ) (fun k => Q (!k)) R := propext wp_bind
theorem r_ttrue {δ : Env} {Q : Bool → Prop} {R : Exn → Prop} : wp (tTrue δ) Q R = Q true := rfl
theorem r_eif {mt : Env → M Bool} {ma mb : Env → M D} {δ : Env} {Q : D → Prop} {R : Exn → Prop} : wp (eIf mt ma mb δ) Q R = wp (mt δ) (fun k => if k = true then wp (ma δ) Q R else wp (mb δ) Q R) R := by unfold eIf; simp only [r_bind, r_ite]
theorem r_eand {ma mb : Env → M D} {δ : Env} {Q : D → Prop} {R : Exn → Prop} : wp (eAnd ma mb δ) Q R = wp (ma δ) (fun d => wp (asB d) (fun k => if k = true then wp (mb δ) Q R else Q (.bool false)) R) R := by unfold eAnd; simp only [r_bind, r_ite, r_ret]
theorem r_eor {ma mb : Env → M D} {δ : Env} {Q : D → Prop} {R : Exn → Prop} : wp (eOr ma mb δ) Q R = wp (ma δ) (fun d => wp (asB d) (fun k => if k = true then Q (.bool true) else wp (mb δ) Q R) R) R := by unfold eOr; simp only [r_bind, r_ite, r_ret]
theorem r_enot {ma : Env → M D} {δ : Env} {Q : D → Prop} {R : Exn → Prop} : wp (eNot ma δ) Q R = wp (ma δ) (fun d => wp (asB d) (fun k => Q (.bool (!k))) R) R := by unfold eNot; simp only [r_bind, r_ret]
theorem r_raise {c : Str} {δ : Env} {Q : Flow → Prop} {R : Exn → Prop} : wp (sRaise c δ) Q R = R ⟨c⟩ := rfl
theorem r_told {c t1 t2 : Str} {m : Env → M D} {δ : Env} {Q : D → Prop} {R : Exn → Prop} : wp (eTold c t1 t2 m δ) Q R = wp (m δ) (fun d => Q (.list [.str t1, d])) (fun e => e.cls = c ∧ Q (.list [.str t2])) := propext ⟨wp_tryT, tryT_wp⟩
theorem r_nil {δ : Env} {Q : Flow → Prop} {R : Exn → Prop} : wp (sNil δ) Q R = Q (.next δ) := rfl
theorem r_seq {m1 m2 : Env → M Flow} {δ : Env} {Q : Flow → Prop} {R : Exn → Prop} : wp (sSeq m1 m2 δ) Q R = wp (m1 δ) (fun fl => wp (andThen m2 fl) Q R) R := propext wp_bind
theorem r_then1 {m2 : Env → M Flow} {δ : Env} {Q : Flow → Prop} {R : Exn → Prop} : wp (andThen m2 (.next δ)) Q R = wp (m2 δ) Q R := rfl
theorem r_then2 {m2 : Env → M Flow} {d : D} {Q : Flow → Prop} {R : Exn → Prop} : wp (andThen m2 (.retn d)) Q R = Q (.retn d) := rfl
theorem r_then3 {m2 : Env → M Flow} {δ : Env} {Q : Flow → Prop} {R : Exn → Prop} : wp (andThen m2 (.brk δ)) Q R = Q (.brk δ) := rfl
theorem r_then4 {m2 : Env → M Flow} {δ : Env} {Q : Flow → Prop} {R : Exn → Prop} : wp (andThen m2 (.cont δ)) Q R = Q (.cont δ) := rfl
theorem r_brk {δ : Env} {Q : Flow → Prop} {R : Exn → Prop} : wp (sBrk δ) Q R = Q (.brk δ) := rfl
theorem r_cont {δ : Env} {Q : Flow → Prop} {R : Exn → Prop} : wp (sCont δ) Q R = Q (.cont δ) := rfl
theorem r_sret {me : Env → M D} {δ : Env} {Q : Flow → Prop} {R : Exn → Prop} : wp (sRet me δ) Q R = wp (me δ) (fun d => Q (.retn d)) R := propext wp_bind
theorem r_sretN {δ : Env} {Q : Flow → Prop} {R : Exn → Prop} : wp (sRetN δ) Q R = Q (.retn .none) := rfl
theorem r_sexpr {me : Env → M D} {δ : Env} {Q : Flow → Prop} {R : Exn → Prop} : wp (sExpr me δ) Q R = wp (me δ) (fun _ => Q (.next δ)) R := propext wp_bind
theorem r_sif {mc : Env → M Bool} {m1 m2 : Env → M Flow} {δ : Env} {Q : Flow → Prop} {R : Exn → Prop} : wp (sIf mc m1 m2 δ) Q R = wp (mc δ) (fun k => if k = true then wp (m1 δ) Q R else wp (m2 δ) Q R) R := by unfold sIf; simp only [r_bind, r_ite]
theorem r_end1 {d : D} {Q : D → Prop} {R : Exn → Prop} : wp (ends (.retn d)) Q R = Q d := rfl
theorem r_end2 {δ : Env} {Q : D → Prop} {R : Exn → Prop} : wp (ends (.next δ)) Q R = Q .none := rfl
theorem r_par {i j : Nat} {ms : Env → M (List D)} {δ : Env} {Q : Flow → Prop} {R : Exn → Prop} : wp (sPar i j ms δ) Q R = wp (ms δ) (fun ds => wp (kPar i j ds δ) Q R) R := propext wp_bind
theorem r_kpar {i j : Nat} {d1 d2 : D} {δ : Env} {Q : Flow → Prop} {R : Exn → Prop} : wp (kPar i j [d1, d2] δ) Q R = wp (sSet i (eC d1) δ) (fun fl => wp (andThen (sSet j (eC d2)) fl) Q R) R := rfl
theorem r_par3 {i j k : Nat} {ms : Env → M (List D)} {δ : Env} {Q : Flow → Prop} {R : Exn → Prop} : wp (sPar3 i j k ms δ) Q R = wp (ms δ) (fun ds => wp (kPar3 i j k ds δ) Q R) R := propext wp_bind
theorem r_kpar3 {i j k : Nat} {d1 d2 d3 : D} {δ : Env} {Q : Flow → Prop} {R : Exn → Prop} : wp (kPar3 i j k [d1, d2, d3] δ) Q R = wp (sSet i (eC d1) δ) (fun fl => wp (andThen (sSeq (sSet j (eC d2)) (sSet k (eC d3))) fl) Q R) R := rfl
theorem r_asg {g : D → Env → Option Env} {me : Env → M D} {δ : Env} {Q : Flow → Prop} {R : Exn → Prop} : wp (sAsg g me δ) Q R = wp (me δ) (fun d => wp (kAsg g d δ) Q R) R := propext wp_bind
theorem r_kasgT {n : Nat} {gs : List D → Env → Option Env} {ds : List D} {δ : Env} {Q : Flow → Prop} {R : Exn → Prop} : wp (kAsg (gTupE n gs) (.tuple ds) δ) Q R = (ds.length = n ∧ wp (kAsgs gs ds δ) Q R) := by
  unfold kAsg kAsgs gTupE
  dsimp only
  by_cases h : ds.length = n
  · simp [h]
  · simp only [if_neg h, h, false_and]; rfl
theorem r_kasgL {n : Nat} {gs : List D → Env → Option Env} {ds : List D} {δ : Env} {Q : Flow → Prop} {R : Exn → Prop} : wp (kAsg (gTupE n gs) (.list ds) δ) Q R = (ds.length = n ∧ wp (kAsgs gs ds δ) Q R) := by
  unfold kAsg kAsgs gTupE
  dsimp only
  by_cases h : ds.length = n
  · simp [h]
  · simp only [if_neg h, h, false_and]; rfl
theorem r_kasgs0 {δ : Env} {Q : Flow → Prop} {R : Exn → Prop} : wp (kAsgs gsNil [] δ) Q R = Q (.next δ) := rfl
theorem r_kasgs1 {i : Nat} {gs : List D → Env → Option Env} {d : D} {ds : List D} {δ : Env} {Q : Flow → Prop} {R : Exn → Prop} : wp (kAsgs (gsCons (gSet i) gs) (d :: ds) δ) Q R = wp (sSet i (eC d) δ) (fun fl => wp (andThen (kAsgs gs ds) fl) Q R) R := rfl
theorem r_for {mi : Env → M (List D)} {g : D → Env → Option Env} {mb : Env → M Flow} {δ : Env} {Q : Flow → Prop} {R : Exn → Prop} : wp (sFor mi g mb δ) Q R = wp (mi δ) (fun ds => wp (loopL (turn g mb) ds δ) Q R) R := propext wp_bind
theorem r_iL {me : Env → M D} {δ : Env} {Q : List D → Prop} {R : Exn → Prop} : wp (iL me δ) Q R = wp (me δ) (fun d => wp (asL d) Q R) R := propext wp_bind
theorem r_iT {me : Env → M D} {δ : Env} {Q : List D → Prop} {R : Exn → Prop} : wp (iT me δ) Q R = wp (me δ) (fun d => wp (asT d) Q R) R := propext wp_bind
theorem r_iS {me : Env → M D} {δ : Env} {Q : List D → Prop} {R : Exn → Prop} : wp (iS me δ) Q R = wp (me δ) (fun d => wp (asS d) Q R) R := propext wp_bind
theorem r_asL {ds : List D} {Q : List D → Prop} {R : Exn → Prop} : wp (asL (.list ds)) Q R = Q ds := rfl
theorem r_asT {ds : List D} {Q : List D → Prop} {R : Exn → Prop} : wp (asT (.tuple ds)) Q R = Q ds := rfl
theorem r_iR1 {ms : Env → M (List D)} {δ : Env} {Q : List D → Prop} {R : Exn → Prop} : wp (iR1 ms δ) Q R = wp (ms δ) (fun ds => wp (kR1 ds) Q R) R := propext wp_bind
theorem r_iR2 {ms : Env → M (List D)} {δ : Env} {Q : List D → Prop} {R : Exn → Prop} : wp (iR2 ms δ) Q R = wp (ms δ) (fun ds => wp (kR2 ds) Q R) R := propext wp_bind
theorem r_kR1 {j : Int} {Q : List D → Prop} {R : Exn → Prop} : wp (kR1 [.int j]) Q R = ((-4611686018427387904 ≤ j ∧ j < 4611686018427387904) ∧ Q (rng 0 j.toNat)) := by
  show wp (if _ then _ else _) Q R = _
  rw [r_ite, r_ret, show ((2 : Int) ^ 62) = 4611686018427387904 from rfl]
  exact ite_false_and
theorem r_kR2 {i j : Int} {Q : List D → Prop} {R : Exn → Prop} : wp (kR2 [.int i, .int j]) Q R = ((-4611686018427387904 ≤ i ∧ i < 4611686018427387904 ∧ -4611686018427387904 ≤ j ∧ j < 4611686018427387904) ∧ Q (rng i (j - i).toNat)) := by
  show wp (if _ then _ else _) Q R = _
  rw [r_ite, r_ret, show ((2 : Int) ^ 62) = 4611686018427387904 from rfl]
  exact ite_false_and
theorem r_lnil {δ : Env} {Q : List D → Prop} {R : Exn → Prop} : wp (lNil δ) Q R = Q [] := rfl
theorem r_lcons {me : Env → M D} {ms : Env → M (List D)} {δ : Env} {Q : List D → Prop} {R : Exn → Prop} : wp (lCons me ms δ) Q R = wp (me δ) (fun d => wp (ms δ) (fun ds => Q (d :: ds)) R) R := by unfold lCons; simp only [r_bind, r_ret]
theorem r_anil {δ : Env} {Q : List Slot → Prop} {R : Exn → Prop} : wp (aNil δ) Q R = Q [] := rfl
theorem r_acons {me : Env → M D} {ms : Env → M (List Slot)} {δ : Env} {Q : List Slot → Prop} {R : Exn → Prop} : wp (aCons me ms δ) Q R = wp (me δ) (fun d => wp (ms δ) (fun ds => Q (.dat d :: ds)) R) R := by unfold aCons; simp only [r_bind, r_ret]
theorem r_call {f : List Slot → M D} {ms : Env → M (List Slot)} {δ : Env} {Q : D → Prop} {R : Exn → Prop} : wp (eCall f ms δ) Q R = wp (ms δ) (fun ss => wp (f ss) Q R) R := propext wp_bind
theorem r_callK {g : List Slot → List Slot} {f : List Slot → M D} {ms : Env → M (List Slot)} {δ : Env} {Q : D → Prop} {R : Exn → Prop} : wp (eCallK g f ms δ) Q R = wp (ms δ) (fun ss => wp (f (g ss)) Q R) R := propext wp_bind
theorem r_eB {g : List D → M D} {ms : Env → M (List D)} {δ : Env} {Q : D → Prop} {R : Exn → Prop} : wp (eB g ms δ) Q R = wp (ms δ) (fun ds => wp (g ds) Q R) R := propext wp_bind
theorem r_eTup {ms : Env → M (List D)} {δ : Env} {Q : D → Prop} {R : Exn → Prop} : wp (eTup ms δ) Q R = wp (ms δ) (fun ds => wp (mkT ds) Q R) R := propext wp_bind
theorem r_fLst {ms : Env → M (List D)} {δ : Env} {Q : List D → Prop} {R : Exn → Prop} : wp (fLst ms δ) Q R = wp (ms δ) (fun ds => wp (mkL ds) Q R) R := propext wp_bind
theorem r_eFz {mf : Env → M (List D)} {δ : Env} {Q : D → Prop} {R : Exn → Prop} : wp (eFz mf δ) Q R = wp (mf δ) (fun ds => Q (.list ds)) R := propext wp_bind
theorem r_mkT0 {Q : D → Prop} {R : Exn → Prop} : wp (mkT []) Q R = Q (.tuple []) := by unfold mkT; rw [if_pos (by rw [sizeLine_val]; simp only [List.length_cons, List.length_nil]; omega)]; rfl
theorem r_mkL0 {Q : List D → Prop} {R : Exn → Prop} : wp (mkL []) Q R = Q [] := by unfold mkL; rw [if_pos (by rw [sizeLine_val]; simp only [List.length_cons, List.length_nil]; omega)]; rfl
theorem r_mkT1 {x0 : D} {Q : D → Prop} {R : Exn → Prop} : wp (mkT [x0]) Q R = Q (.tuple [x0]) := by unfold mkT; rw [if_pos (by rw [sizeLine_val]; simp only [List.length_cons, List.length_nil]; omega)]; rfl
theorem r_mkL1 {x0 : D} {Q : List D → Prop} {R : Exn → Prop} : wp (mkL [x0]) Q R = Q [x0] := by unfold mkL; rw [if_pos (by rw [sizeLine_val]; simp only [List.length_cons, List.length_nil]; omega)]; rfl
theorem r_mkT2 {x0 x1 : D} {Q : D → Prop} {R : Exn → Prop} : wp (mkT [x0, x1]) Q R = Q (.tuple [x0, x1]) := by unfold mkT; rw [if_pos (by rw [sizeLine_val]; simp only [List.length_cons, List.length_nil]; omega)]; rfl
theorem r_mkL2 {x0 x1 : D} {Q : List D → Prop} {R : Exn → Prop} : wp (mkL [x0, x1]) Q R = Q [x0, x1] := by unfold mkL; rw [if_pos (by rw [sizeLine_val]; simp only [List.length_cons, List.length_nil]; omega)]; rfl
theorem r_mkT3 {x0 x1 x2 : D} {Q : D → Prop} {R : Exn → Prop} : wp (mkT [x0, x1, x2]) Q R = Q (.tuple [x0, x1, x2]) := by unfold mkT; rw [if_pos (by rw [sizeLine_val]; simp only [List.length_cons, List.length_nil]; omega)]; rfl
theorem r_mkL3 {x0 x1 x2 : D} {Q : List D → Prop} {R : Exn → Prop} : wp (mkL [x0, x1, x2]) Q R = Q [x0, x1, x2] := by unfold mkL; rw [if_pos (by rw [sizeLine_val]; simp only [List.length_cons, List.length_nil]; omega)]; rfl
theorem r_mkT4 {x0 x1 x2 x3 : D} {Q : D → Prop} {R : Exn → Prop} : wp (mkT [x0, x1, x2, x3]) Q R = Q (.tuple [x0, x1, x2, x3]) := by unfold mkT; rw [if_pos (by rw [sizeLine_val]; simp only [List.length_cons, List.length_nil]; omega)]; rfl
theorem r_mkL4 {x0 x1 x2 x3 : D} {Q : List D → Prop} {R : Exn → Prop} : wp (mkL [x0, x1, x2, x3]) Q R = Q [x0, x1, x2, x3] := by unfold mkL; rw [if_pos (by rw [sizeLine_val]; simp only [List.length_cons, List.length_nil]; omega)]; rfl
theorem r_mkT5 {x0 x1 x2 x3 x4 : D} {Q : D → Prop} {R : Exn → Prop} : wp (mkT [x0, x1, x2, x3, x4]) Q R = Q (.tuple [x0, x1, x2, x3, x4]) := by unfold mkT; rw [if_pos (by rw [sizeLine_val]; simp only [List.length_cons, List.length_nil]; omega)]; rfl
theorem r_mkL5 {x0 x1 x2 x3 x4 : D} {Q : List D → Prop} {R : Exn → Prop} : wp (mkL [x0, x1, x2, x3, x4]) Q R = Q [x0, x1, x2, x3, x4] := by unfold mkL; rw [if_pos (by rw [sizeLine_val]; simp only [List.length_cons, List.length_nil]; omega)]; rfl
theorem r_mkT6 {x0 x1 x2 x3 x4 x5 : D} {Q : D → Prop} {R : Exn → Prop} : wp (mkT [x0, x1, x2, x3, x4, x5]) Q R = Q (.tuple [x0, x1, x2, x3, x4, x5]) := by unfold mkT; rw [if_pos (by rw [sizeLine_val]; simp only [List.length_cons, List.length_nil]; omega)]; rfl
theorem r_mkL6 {x0 x1 x2 x3 x4 x5 : D} {Q : List D → Prop} {R : Exn → Prop} : wp (mkL [x0, x1, x2, x3, x4, x5]) Q R = Q [x0, x1, x2, x3, x4, x5] := by unfold mkL; rw [if_pos (by rw [sizeLine_val]; simp only [List.length_cons, List.length_nil]; omega)]; rfl
theorem r_mkT7 {x0 x1 x2 x3 x4 x5 x6 : D} {Q : D → Prop} {R : Exn → Prop} : wp (mkT [x0, x1, x2, x3, x4, x5, x6]) Q R = Q (.tuple [x0, x1, x2, x3, x4, x5, x6]) := by unfold mkT; rw [if_pos (by rw [sizeLine_val]; simp only [List.length_cons, List.length_nil]; omega)]; rfl
theorem r_mkL7 {x0 x1 x2 x3 x4 x5 x6 : D} {Q : List D → Prop} {R : Exn → Prop} : wp (mkL [x0, x1, x2, x3, x4, x5, x6]) Q R = Q [x0, x1, x2, x3, x4, x5, x6] := by unfold mkL; rw [if_pos (by rw [sizeLine_val]; simp only [List.length_cons, List.length_nil]; omega)]; rfl
theorem r_mkT8 {x0 x1 x2 x3 x4 x5 x6 x7 : D} {Q : D → Prop} {R : Exn → Prop} : wp (mkT [x0, x1, x2, x3, x4, x5, x6, x7]) Q R = Q (.tuple [x0, x1, x2, x3, x4, x5, x6, x7]) := by unfold mkT; rw [if_pos (by rw [sizeLine_val]; simp only [List.length_cons, List.length_nil]; omega)]; rfl
theorem r_mkL8 {x0 x1 x2 x3 x4 x5 x6 x7 : D} {Q : List D → Prop} {R : Exn → Prop} : wp (mkL [x0, x1, x2, x3, x4, x5, x6, x7]) Q R = Q [x0, x1, x2, x3, x4, x5, x6, x7] := by unfold mkL; rw [if_pos (by rw [sizeLine_val]; simp only [List.length_cons, List.length_nil]; omega)]; rfl
theorem r_mkT9 {x0 x1 x2 x3 x4 x5 x6 x7 x8 : D} {Q : D → Prop} {R : Exn → Prop} : wp (mkT [x0, x1, x2, x3, x4, x5, x6, x7, x8]) Q R = Q (.tuple [x0, x1, x2, x3, x4, x5, x6, x7, x8]) := by unfold mkT; rw [if_pos (by rw [sizeLine_val]; simp only [List.length_cons, List.length_nil]; omega)]; rfl
theorem r_mkL9 {x0 x1 x2 x3 x4 x5 x6 x7 x8 : D} {Q : List D → Prop} {R : Exn → Prop} : wp (mkL [x0, x1, x2, x3, x4, x5, x6, x7, x8]) Q R = Q [x0, x1, x2, x3, x4, x5, x6, x7, x8] := by unfold mkL; rw [if_pos (by rw [sizeLine_val]; simp only [List.length_cons, List.length_nil]; omega)]; rfl
theorem r_mkT10 {x0 x1 x2 x3 x4 x5 x6 x7 x8 x9 : D} {Q : D → Prop} {R : Exn → Prop} : wp (mkT [x0, x1, x2, x3, x4, x5, x6, x7, x8, x9]) Q R = Q (.tuple [x0, x1, x2, x3, x4, x5, x6, x7, x8, x9]) := by unfold mkT; rw [if_pos (by rw [sizeLine_val]; simp only [List.length_cons, List.length_nil]; omega)]; rfl
theorem r_mkL10 {x0 x1 x2 x3 x4 x5 x6 x7 x8 x9 : D} {Q : List D → Prop} {R : Exn → Prop} : wp (mkL [x0, x1, x2, x3, x4, x5, x6, x7, x8, x9]) Q R = Q [x0, x1, x2, x3, x4, x5, x6, x7, x8, x9] := by unfold mkL; rw [if_pos (by rw [sizeLine_val]; simp only [List.length_cons, List.length_nil]; omega)]; rfl
theorem r_mkT11 {x0 x1 x2 x3 x4 x5 x6 x7 x8 x9 x10 : D} {Q : D → Prop} {R : Exn → Prop} : wp (mkT [x0, x1, x2, x3, x4, x5, x6, x7, x8, x9, x10]) Q R = Q (.tuple [x0, x1, x2, x3, x4, x5, x6, x7, x8, x9, x10]) := by unfold mkT; rw [if_pos (by rw [sizeLine_val]; simp only [List.length_cons, List.length_nil]; omega)]; rfl
theorem r_mkL11 {x0 x1 x2 x3 x4 x5 x6 x7 x8 x9 x10 : D} {Q : List D → Prop} {R : Exn → Prop} : wp (mkL [x0, x1, x2, x3, x4, x5, x6, x7, x8, x9, x10]) Q R = Q [x0, x1, x2, x3, x4, x5, x6, x7, x8, x9, x10] := by unfold mkL; rw [if_pos (by rw [sizeLine_val]; simp only [List.length_cons, List.length_nil]; omega)]; rfl
theorem r_mkT12 {x0 x1 x2 x3 x4 x5 x6 x7 x8 x9 x10 x11 : D} {Q : D → Prop} {R : Exn → Prop} : wp (mkT [x0, x1, x2, x3, x4, x5, x6, x7, x8, x9, x10, x11]) Q R = Q (.tuple [x0, x1, x2, x3, x4, x5, x6, x7, x8, x9, x10, x11]) := by unfold mkT; rw [if_pos (by rw [sizeLine_val]; simp only [List.length_cons, List.length_nil]; omega)]; rfl
theorem r_mkL12 {x0 x1 x2 x3 x4 x5 x6 x7 x8 x9 x10 x11 : D} {Q : List D → Prop} {R : Exn → Prop} : wp (mkL [x0, x1, x2, x3, x4, x5, x6, x7, x8, x9, x10, x11]) Q R = Q [x0, x1, x2, x3, x4, x5, x6, x7, x8, x9, x10, x11] := by unfold mkL; rw [if_pos (by rw [sizeLine_val]; simp only [List.length_cons, List.length_nil]; omega)]; rfl
theorem r_mkT13 {x0 x1 x2 x3 x4 x5 x6 x7 x8 x9 x10 x11 x12 : D} {Q : D → Prop} {R : Exn → Prop} : wp (mkT [x0, x1, x2, x3, x4, x5, x6, x7, x8, x9, x10, x11, x12]) Q R = Q (.tuple [x0, x1, x2, x3, x4, x5, x6, x7, x8, x9, x10, x11, x12]) := by unfold mkT; rw [if_pos (by rw [sizeLine_val]; simp only [List.length_cons, List.length_nil]; omega)]; rfl
theorem r_mkL13 {x0 x1 x2 x3 x4 x5 x6 x7 x8 x9 x10 x11 x12 : D} {Q : List D → Prop} {R : Exn → Prop} : wp (mkL [x0, x1, x2, x3, x4, x5, x6, x7, x8, x9, x10, x11, x12]) Q R = Q [x0, x1, x2, x3, x4, x5, x6, x7, x8, x9, x10, x11, x12] := by unfold mkL; rw [if_pos (by rw [sizeLine_val]; simp only [List.length_cons, List.length_nil]; omega)]; rfl
theorem r_oNone {δ : Env} {Q : Option Int → Prop} {R : Exn → Prop} : wp (oNone δ) Q R = Q none := rfl
theorem r_oSome {me : Env → M D} {δ : Env} {Q : Option Int → Prop} {R : Exn → Prop} : wp (oSome me δ) Q R = wp (me δ) (fun d => wp (asI d) Q R) R := propext wp_bind
theorem r_eSl {me : Env → M D} {ml mh : Env → M (Option Int)} {δ : Env} {Q : D → Prop} {R : Exn → Prop} : wp (eSl me ml mh δ) Q R = wp (me δ) (fun d => wp (ml δ) (fun lo => wp (mh δ) (fun hi => wp (dSl d lo hi) Q R) R) R) R := by unfold eSl; simp only [r_bind]
theorem r_neg {me : Env → M D} {δ : Env} {Q : D → Prop} {R : Exn → Prop} : wp (eNeg me δ) Q R = wp (me δ) (fun d => wp (kNeg d) Q R) R := propext wp_bind
theorem r_kneg {i : Int} {Q : D → Prop} {R : Exn → Prop} : wp (kNeg (.int i)) Q R = Q (.int (-i)) := rfl
theorem r_eM {g : Str → List D → M D} {me : Env → M D} {ms : Env → M (List D)} {δ : Env} {Q : D → Prop} {R : Exn → Prop} : wp (eM g me ms δ) Q R = wp (me δ) (fun d => wp (kM g ms δ d) Q R) R := propext wp_bind
theorem r_kM {g : Str → List D → M D} {ms : Env → M (List D)} {δ : Env} {x : Str} {Q : D → Prop} {R : Exn → Prop} : wp (kM g ms δ (.str x)) Q R = wp (ms δ) (fun ds => wp (g x ds) Q R) R := by show wp ((ms δ).bind _) Q R = _; rw [r_bind]
theorem r_drawM {n : Int} {Q : D → Prop} {R : Exn → Prop} : wp (drawM [.well, .dat (.int n)]) Q R = ((0 < n ∧ n < 1073741824) ∧ ∀ r, 0 ≤ r → r < n → Q (.int r)) := rfl
theorem r_lq1 {I : Env → Prop} {Q : Flow → Prop} {δ : Env} : LoopQ I Q (.next δ) = I δ := rfl
theorem r_lq2 {I : Env → Prop} {Q : Flow → Prop} {δ : Env} : LoopQ I Q (.cont δ) = I δ := rfl
theorem r_lq3 {I : Env → Prop} {Q : Flow → Prop} {δ : Env} : LoopQ I Q (.brk δ) = Q (.next δ) := rfl
theorem r_lq4 {I : Env → Prop} {Q : Flow → Prop} {d : D} : LoopQ I Q (.retn d) = Q (.retn d) := rfl
theorem r_cst0 {x0 : Slot} {mt : Env → M Bool} {me : Env → M D} {d : D} {δ : Env} {Q : Option D → Prop} {R : Exn → Prop} : wp (compStep [0] (gSet 0) mt me (x0 :: δ) d) Q R = wp (mt (.dat d :: δ)) (fun k => if k = true then wp (me (.dat d :: δ)) (fun y => Q (some y)) R else Q none) R := by unfold compStep; rw [show gSet _ _ (wipeE _ _) = some _ from rfl]; dsimp only; simp only [r_bind, r_ite, r_ret]; rfl
theorem r_cst1 {x0 x1 : Slot} {mt : Env → M Bool} {me : Env → M D} {d : D} {δ : Env} {Q : Option D → Prop} {R : Exn → Prop} : wp (compStep [1] (gSet 1) mt me (x0 :: x1 :: δ) d) Q R = wp (mt (x0 :: .dat d :: δ)) (fun k => if k = true then wp (me (x0 :: .dat d :: δ)) (fun y => Q (some y)) R else Q none) R := by unfold compStep; rw [show gSet _ _ (wipeE _ _) = some _ from rfl]; dsimp only; simp only [r_bind, r_ite, r_ret]; rfl
theorem r_cst2 {x0 x1 x2 : Slot} {mt : Env → M Bool} {me : Env → M D} {d : D} {δ : Env} {Q : Option D → Prop} {R : Exn → Prop} : wp (compStep [2] (gSet 2) mt me (x0 :: x1 :: x2 :: δ) d) Q R = wp (mt (x0 :: x1 :: .dat d :: δ)) (fun k => if k = true then wp (me (x0 :: x1 :: .dat d :: δ)) (fun y => Q (some y)) R else Q none) R := by unfold compStep; rw [show gSet _ _ (wipeE _ _) = some _ from rfl]; dsimp only; simp only [r_bind, r_ite, r_ret]; rfl
theorem r_cst3 {x0 x1 x2 x3 : Slot} {mt : Env → M Bool} {me : Env → M D} {d : D} {δ : Env} {Q : Option D → Prop} {R : Exn → Prop} : wp (compStep [3] (gSet 3) mt me (x0 :: x1 :: x2 :: x3 :: δ) d) Q R = wp (mt (x0 :: x1 :: x2 :: .dat d :: δ)) (fun k => if k = true then wp (me (x0 :: x1 :: x2 :: .dat d :: δ)) (fun y => Q (some y)) R else Q none) R := by unfold compStep; rw [show gSet _ _ (wipeE _ _) = some _ from rfl]; dsimp only; simp only [r_bind, r_ite, r_ret]; rfl
theorem r_cst4 {x0 x1 x2 x3 x4 : Slot} {mt : Env → M Bool} {me : Env → M D} {d : D} {δ : Env} {Q : Option D → Prop} {R : Exn → Prop} : wp (compStep [4] (gSet 4) mt me (x0 :: x1 :: x2 :: x3 :: x4 :: δ) d) Q R = wp (mt (x0 :: x1 :: x2 :: x3 :: .dat d :: δ)) (fun k => if k = true then wp (me (x0 :: x1 :: x2 :: x3 :: .dat d :: δ)) (fun y => Q (some y)) R else Q none) R := by unfold compStep; rw [show gSet _ _ (wipeE _ _) = some _ from rfl]; dsimp only; simp only [r_bind, r_ite, r_ret]; rfl
theorem r_cst5 {x0 x1 x2 x3 x4 x5 : Slot} {mt : Env → M Bool} {me : Env → M D} {d : D} {δ : Env} {Q : Option D → Prop} {R : Exn → Prop} : wp (compStep [5] (gSet 5) mt me (x0 :: x1 :: x2 :: x3 :: x4 :: x5 :: δ) d) Q R = wp (mt (x0 :: x1 :: x2 :: x3 :: x4 :: .dat d :: δ)) (fun k => if k = true then wp (me (x0 :: x1 :: x2 :: x3 :: x4 :: .dat d :: δ)) (fun y => Q (some y)) R else Q none) R := by unfold compStep; rw [show gSet _ _ (wipeE _ _) = some _ from rfl]; dsimp only; simp only [r_bind, r_ite, r_ret]; rfl
theorem r_cst6 {x0 x1 x2 x3 x4 x5 x6 : Slot} {mt : Env → M Bool} {me : Env → M D} {d : D} {δ : Env} {Q : Option D → Prop} {R : Exn → Prop} : wp (compStep [6] (gSet 6) mt me (x0 :: x1 :: x2 :: x3 :: x4 :: x5 :: x6 :: δ) d) Q R = wp (mt (x0 :: x1 :: x2 :: x3 :: x4 :: x5 :: .dat d :: δ)) (fun k => if k = true then wp (me (x0 :: x1 :: x2 :: x3 :: x4 :: x5 :: .dat d :: δ)) (fun y => Q (some y)) R else Q none) R := by unfold compStep; rw [show gSet _ _ (wipeE _ _) = some _ from rfl]; dsimp only; simp only [r_bind, r_ite, r_ret]; rfl
theorem r_cst7 {x0 x1 x2 x3 x4 x5 x6 x7 : Slot} {mt : Env → M Bool} {me : Env → M D} {d : D} {δ : Env} {Q : Option D → Prop} {R : Exn → Prop} : wp (compStep [7] (gSet 7) mt me (x0 :: x1 :: x2 :: x3 :: x4 :: x5 :: x6 :: x7 :: δ) d) Q R = wp (mt (x0 :: x1 :: x2 :: x3 :: x4 :: x5 :: x6 :: .dat d :: δ)) (fun k => if k = true then wp (me (x0 :: x1 :: x2 :: x3 :: x4 :: x5 :: x6 :: .dat d :: δ)) (fun y => Q (some y)) R else Q none) R := by unfold compStep; rw [show gSet _ _ (wipeE _ _) = some _ from rfl]; dsimp only; simp only [r_bind, r_ite, r_ret]; rfl
theorem r_cst8 {x0 x1 x2 x3 x4 x5 x6 x7 x8 : Slot} {mt : Env → M Bool} {me : Env → M D} {d : D} {δ : Env} {Q : Option D → Prop} {R : Exn → Prop} : wp (compStep [8] (gSet 8) mt me (x0 :: x1 :: x2 :: x3 :: x4 :: x5 :: x6 :: x7 :: x8 :: δ) d) Q R = wp (mt (x0 :: x1 :: x2 :: x3 :: x4 :: x5 :: x6 :: x7 :: .dat d :: δ)) (fun k => if k = true then wp (me (x0 :: x1 :: x2 :: x3 :: x4 :: x5 :: x6 :: x7 :: .dat d :: δ)) (fun y => Q (some y)) R else Q none) R := by unfold compStep; rw [show gSet _ _ (wipeE _ _) = some _ from rfl]; dsimp only; simp only [r_bind, r_ite, r_ret]; rfl
theorem r_cst9 {x0 x1 x2 x3 x4 x5 x6 x7 x8 x9 : Slot} {mt : Env → M Bool} {me : Env → M D} {d : D} {δ : Env} {Q : Option D → Prop} {R : Exn → Prop} : wp (compStep [9] (gSet 9) mt me (x0 :: x1 :: x2 :: x3 :: x4 :: x5 :: x6 :: x7 :: x8 :: x9 :: δ) d) Q R = wp (mt (x0 :: x1 :: x2 :: x3 :: x4 :: x5 :: x6 :: x7 :: x8 :: .dat d :: δ)) (fun k => if k = true then wp (me (x0 :: x1 :: x2 :: x3 :: x4 :: x5 :: x6 :: x7 :: x8 :: .dat d :: δ)) (fun y => Q (some y)) R else Q none) R := by unfold compStep; rw [show gSet _ _ (wipeE _ _) = some _ from rfl]; dsimp only; simp only [r_bind, r_ite, r_ret]; rfl
theorem r_cst10 {x0 x1 x2 x3 x4 x5 x6 x7 x8 x9 x10 : Slot} {mt : Env → M Bool} {me : Env → M D} {d : D} {δ : Env} {Q : Option D → Prop} {R : Exn → Prop} : wp (compStep [10] (gSet 10) mt me (x0 :: x1 :: x2 :: x3 :: x4 :: x5 :: x6 :: x7 :: x8 :: x9 :: x10 :: δ) d) Q R = wp (mt (x0 :: x1 :: x2 :: x3 :: x4 :: x5 :: x6 :: x7 :: x8 :: x9 :: .dat d :: δ)) (fun k => if k = true then wp (me (x0 :: x1 :: x2 :: x3 :: x4 :: x5 :: x6 :: x7 :: x8 :: x9 :: .dat d :: δ)) (fun y => Q (some y)) R else Q none) R := by unfold compStep; rw [show gSet _ _ (wipeE _ _) = some _ from rfl]; dsimp only; simp only [r_bind, r_ite, r_ret]; rfl
theorem r_cst11 {x0 x1 x2 x3 x4 x5 x6 x7 x8 x9 x10 x11 : Slot} {mt : Env → M Bool} {me : Env → M D} {d : D} {δ : Env} {Q : Option D → Prop} {R : Exn → Prop} : wp (compStep [11] (gSet 11) mt me (x0 :: x1 :: x2 :: x3 :: x4 :: x5 :: x6 :: x7 :: x8 :: x9 :: x10 :: x11 :: δ) d) Q R = wp (mt (x0 :: x1 :: x2 :: x3 :: x4 :: x5 :: x6 :: x7 :: x8 :: x9 :: x10 :: .dat d :: δ)) (fun k => if k = true then wp (me (x0 :: x1 :: x2 :: x3 :: x4 :: x5 :: x6 :: x7 :: x8 :: x9 :: x10 :: .dat d :: δ)) (fun y => Q (some y)) R else Q none) R := by unfold compStep; rw [show gSet _ _ (wipeE _ _) = some _ from rfl]; dsimp only; simp only [r_bind, r_ite, r_ret]; rfl
theorem r_cst12 {x0 x1 x2 x3 x4 x5 x6 x7 x8 x9 x10 x11 x12 : Slot} {mt : Env → M Bool} {me : Env → M D} {d : D} {δ : Env} {Q : Option D → Prop} {R : Exn → Prop} : wp (compStep [12] (gSet 12) mt me (x0 :: x1 :: x2 :: x3 :: x4 :: x5 :: x6 :: x7 :: x8 :: x9 :: x10 :: x11 :: x12 :: δ) d) Q R = wp (mt (x0 :: x1 :: x2 :: x3 :: x4 :: x5 :: x6 :: x7 :: x8 :: x9 :: x10 :: x11 :: .dat d :: δ)) (fun k => if k = true then wp (me (x0 :: x1 :: x2 :: x3 :: x4 :: x5 :: x6 :: x7 :: x8 :: x9 :: x10 :: x11 :: .dat d :: δ)) (fun y => Q (some y)) R else Q none) R := by unfold compStep; rw [show gSet _ _ (wipeE _ _) = some _ from rfl]; dsimp only; simp only [r_bind, r_ite, r_ret]; rfl
theorem r_cst13 {x0 x1 x2 x3 x4 x5 x6 x7 x8 x9 x10 x11 x12 x13 : Slot} {mt : Env → M Bool} {me : Env → M D} {d : D} {δ : Env} {Q : Option D → Prop} {R : Exn → Prop} : wp (compStep [13] (gSet 13) mt me (x0 :: x1 :: x2 :: x3 :: x4 :: x5 :: x6 :: x7 :: x8 :: x9 :: x10 :: x11 :: x12 :: x13 :: δ) d) Q R = wp (mt (x0 :: x1 :: x2 :: x3 :: x4 :: x5 :: x6 :: x7 :: x8 :: x9 :: x10 :: x11 :: x12 :: .dat d :: δ)) (fun k => if k = true then wp (me (x0 :: x1 :: x2 :: x3 :: x4 :: x5 :: x6 :: x7 :: x8 :: x9 :: x10 :: x11 :: x12 :: .dat d :: δ)) (fun y => Q (some y)) R else Q none) R := by unfold compStep; rw [show gSet _ _ (wipeE _ _) = some _ from rfl]; dsimp only; simp only [r_bind, r_ite, r_ret]; rfl
theorem r_cst14 {x0 x1 x2 x3 x4 x5 x6 x7 x8 x9 x10 x11 x12 x13 x14 : Slot} {mt : Env → M Bool} {me : Env → M D} {d : D} {δ : Env} {Q : Option D → Prop} {R : Exn → Prop} : wp (compStep [14] (gSet 14) mt me (x0 :: x1 :: x2 :: x3 :: x4 :: x5 :: x6 :: x7 :: x8 :: x9 :: x10 :: x11 :: x12 :: x13 :: x14 :: δ) d) Q R = wp (mt (x0 :: x1 :: x2 :: x3 :: x4 :: x5 :: x6 :: x7 :: x8 :: x9 :: x10 :: x11 :: x12 :: x13 :: .dat d :: δ)) (fun k => if k = true then wp (me (x0 :: x1 :: x2 :: x3 :: x4 :: x5 :: x6 :: x7 :: x8 :: x9 :: x10 :: x11 :: x12 :: x13 :: .dat d :: δ)) (fun y => Q (some y)) R else Q none) R := by unfold compStep; rw [show gSet _ _ (wipeE _ _) = some _ from rfl]; dsimp only; simp only [r_bind, r_ite, r_ret]; rfl
theorem r_cst15 {x0 x1 x2 x3 x4 x5 x6 x7 x8 x9 x10 x11 x12 x13 x14 x15 : Slot} {mt : Env → M Bool} {me : Env → M D} {d : D} {δ : Env} {Q : Option D → Prop} {R : Exn → Prop} : wp (compStep [15] (gSet 15) mt me (x0 :: x1 :: x2 :: x3 :: x4 :: x5 :: x6 :: x7 :: x8 :: x9 :: x10 :: x11 :: x12 :: x13 :: x14 :: x15 :: δ) d) Q R = wp (mt (x0 :: x1 :: x2 :: x3 :: x4 :: x5 :: x6 :: x7 :: x8 :: x9 :: x10 :: x11 :: x12 :: x13 :: x14 :: .dat d :: δ)) (fun k => if k = true then wp (me (x0 :: x1 :: x2 :: x3 :: x4 :: x5 :: x6 :: x7 :: x8 :: x9 :: x10 :: x11 :: x12 :: x13 :: x14 :: .dat d :: δ)) (fun y => Q (some y)) R else Q none) R := by unfold compStep; rw [show gSet _ _ (wipeE _ _) = some _ from rfl]; dsimp only; simp only [r_bind, r_ite, r_ret]; rfl
theorem r_dStrI {a : Int} {Q : D → Prop} {R : Exn → Prop} : wp (dStr [.int a]) Q R = (a.natAbs.log2 < 1920 ∧ Q (.str (toString a))) := by unfold dStr; dsimp only; rw [r_ite, r_ret]; exact ite_false_and
theorem r_dAdd {a b : Int} {Q : D → Prop} {R : Exn → Prop} : wp (dAdd (.int a) (.int b)) Q R = Q (.int (a + b)) := rfl
theorem r_dSub {a b : Int} {Q : D → Prop} {R : Exn → Prop} : wp (dSub (.int a) (.int b)) Q R = Q (.int (a - b)) := rfl
theorem r_dMul {a b : Int} {Q : D → Prop} {R : Exn → Prop} : wp (dMul (.int a) (.int b)) Q R = ((((-18446744073709551616 < a ∧ a < 18446744073709551616) ∨ (-18446744073709551616 < b ∧ b < 18446744073709551616)) ∨ a.natAbs.log2 + b.natAbs.log2 < 1000000) ∧ Q (.int (a * b))) := by
  show wp (if _ then _ else _) Q R = _
  rw [r_ite, r_ret, show ((2 : Int) ^ 64) = 18446744073709551616 from rfl]
  exact ite_false_and
theorem r_dFdiv {a b : Int} {Q : D → Prop} {R : Exn → Prop} : wp (dFdiv (.int a) (.int b)) Q R = ((0 < b ∧ b < 1073741824) ∧ Q (.int (a / b))) := by unfold dFdiv; dsimp only; rw [r_ite, r_ret]; exact ite_false_and
theorem r_dMod {a b : Int} {Q : D → Prop} {R : Exn → Prop} : wp (dMod (.int a) (.int b)) Q R = (0 < b ∧ Q (.int (a % b))) := by unfold dMod; dsimp only; rw [r_ite, r_ret]; exact ite_false_and
theorem r_dShr {a b : Int} {Q : D → Prop} {R : Exn → Prop} : wp (dShr (.int a) (.int b)) Q R = (0 ≤ b ∧ Q (.int (a / 2 ^ b.toNat))) := by unfold dShr; dsimp only; rw [r_ite, r_ret]; exact ite_false_and
theorem r_dLt {a b : Int} {Q : D → Prop} {R : Exn → Prop} : wp (dLt (.int a) (.int b)) Q R = Q (.bool (decide (a < b))) := rfl
theorem r_dLe {a b : Int} {Q : D → Prop} {R : Exn → Prop} : wp (dLe (.int a) (.int b)) Q R = Q (.bool (decide (a ≤ b))) := rfl
theorem r_dGt {a b : Int} {Q : D → Prop} {R : Exn → Prop} : wp (dGt (.int a) (.int b)) Q R = Q (.bool (decide (b < a))) := rfl
theorem r_dGe {a b : Int} {Q : D → Prop} {R : Exn → Prop} : wp (dGe (.int a) (.int b)) Q R = Q (.bool (decide (b ≤ a))) := rfl
theorem r_dEqI {a b : Int} {Q : D → Prop} {R : Exn → Prop} : wp (dEq (.int a) (.int b)) Q R = Q (.bool (decide (a = b))) := by rw [dEq_int]; rfl
theorem r_dNeI {a b : Int} {Q : D → Prop} {R : Exn → Prop} : wp (dNe (.int a) (.int b)) Q R = Q (.bool (!decide (a = b))) := by rw [dNe_int]; rfl
theorem r_dEqS {a b : List Nat} {Q : D → Prop} {R : Exn → Prop} : wp (dEq (.str (S a)) (.str (S b))) Q R = Q (.bool (decide (a = b))) := by rw [dEq_S]; rfl
theorem r_dNeS {a b : List Nat} {Q : D → Prop} {R : Exn → Prop} : wp (dNe (.str (S a)) (.str (S b))) Q R = Q (.bool (!decide (a = b))) := by rw [dNe_S]; rfl
theorem r_dMin {a b : Int} {Q : D → Prop} {R : Exn → Prop} : wp (dMin [.int a, .int b]) Q R = Q (.int (min a b)) := by
  show Q _ = Q _
  congr 2
  split <;> omega
theorem r_dMax {a b : Int} {Q : D → Prop} {R : Exn → Prop} : wp (dMax [.int a, .int b]) Q R = Q (.int (max a b)) := by
  show Q _ = Q _
  congr 2
  split <;> omega
theorem r_dInt {a : Int} {Q : D → Prop} {R : Exn → Prop} : wp (dInt [.int a]) Q R = Q (.int a) := rfl
theorem r_dLenL {a : List D} {Q : D → Prop} {R : Exn → Prop} : wp (dLen [.list a]) Q R = Q (.int a.length) := rfl
theorem r_dLenT {a : List D} {Q : D → Prop} {R : Exn → Prop} : wp (dLen [.tuple a]) Q R = Q (.int a.length) := rfl
theorem r_dPow {a b : Int} {Q : D → Prop} {R : Exn → Prop} : wp (dPow (.int a) (.int b)) Q R = ((0 ≤ b ∧ b ≤ 1000000 ∧ a.natAbs < 18446744073709551616) ∧ Q (.int (a ^ b.toNat))) := by
  show wp (if _ then _ else _) Q R = _
  rw [r_ite, r_ret, show ((2 : Nat) ^ 64) = 18446744073709551616 from rfl]
  exact ite_false_and
theorem r_rg1 {ma : Env → M D} {δ : Env} {Q : List D → Prop} {R : Exn → Prop} : wp (fRg1 ma δ) Q R = wp (ma δ) (fun b => wp (rgL (.int 0) b) Q R) R := propext wp_bind
theorem r_rg2 {ma mb : Env → M D} {δ : Env} {Q : List D → Prop} {R : Exn → Prop} : wp (fRg2 ma mb δ) Q R = wp (ma δ) (fun a => wp (mb δ) (fun b => wp (rgL a b) Q R) R) R := by unfold fRg2; simp only [r_bind]
theorem r_rgL {a b : Int} {Q : List D → Prop} {R : Exn → Prop} : wp (rgL (.int a) (.int b)) Q R = (((-4611686018427387904 ≤ a ∧ a < 4611686018427387904 ∧ -4611686018427387904 ≤ b ∧ b < 4611686018427387904) ∧ (b - a).toNat ≤ 16777216) ∧ Q (rng a (b - a).toNat)) := by
  show wp (if _ then _ else _) Q R = _
  rw [r_ite, r_ret, show ((2 : Int) ^ 62) = 4611686018427387904 from rfl]
  exact ite_false_and
theorem r_cat {ma mb : Env → M D} {δ : Env} {Q : List D → Prop} {R : Exn → Prop} : wp (fCat ma mb δ) Q R = wp (ma δ) (fun a => wp (mb δ) (fun b => wp (catL a b) Q R) R) R := by unfold fCat; simp only [r_bind]
theorem r_catL {a b : List D} {Q : List D → Prop} {R : Exn → Prop} : wp (catL (.list a) (.list b)) Q R = wp (mkL (a ++ b)) Q R := rfl
theorem r_dAddL {a b : List D} {Q : D → Prop} {R : Exn → Prop} : wp (dAdd (.list a) (.list b)) Q R = (a.length + b.length ≤ 16777216 ∧ Q (.list (a ++ b))) := by show wp (okL _ _) Q R = _; exact wp_okL
theorem r_isN0 {Q : D → Prop} {R : Exn → Prop} : wp (dIsN .none .none) Q R = Q (.bool true) := rfl
theorem r_isN1 {i : Int} {Q : D → Prop} {R : Exn → Prop} : wp (dIsN (.int i) .none) Q R = Q (.bool false) := rfl
theorem r_notN0 {Q : D → Prop} {R : Exn → Prop} : wp (dNotN .none .none) Q R = Q (.bool false) := rfl
theorem r_notN1 {i : Int} {Q : D → Prop} {R : Exn → Prop} : wp (dNotN (.int i) .none) Q R = Q (.bool true) := rfl
theorem r_setZ {i : Nat} {mf : Env → M (List D)} {δ : Env} {Q : Flow → Prop} {R : Exn → Prop} : wp (sSetZ i mf δ) Q R = wp (mf δ) (fun ds => wp (sSet i (eC (.list ds)) δ) Q R) R := propext wp_bind
theorem r_dLenS {a : List Nat} {Q : D → Prop} {R : Exn → Prop} : wp (dLen [.str (S a)]) Q R = (a.length ≤ 16777216 ∧ Q (.int a.length)) := by show wp (okL _ _) Q R = _; rw [S_length]; exact wp_okL
theorem r_dAddS {a b : List Nat} {Q : D → Prop} {R : Exn → Prop} : wp (dAdd (.str (S a)) (.str (S b))) Q R = (a.length + b.length ≤ 16777216 ∧ Q (.str (S (a ++ b)))) := by show wp (okL _ _) Q R = _; rw [S_length, S_length, S_append]; exact wp_okL
theorem r_dSlS {a : List Nat} {lo hi : Option Int} {Q : D → Prop} {R : Exn → Prop} : wp (dSl (.str (S a)) lo hi) Q R = (a.length ≤ 16777216 ∧ Q (.str (S (cutL a lo hi)))) := by show wp (okL _ _) Q R = _; rw [S_length, S_toList]; exact wp_okL
theorem r_dMulS {a : List Nat} {n : Int} {Q : D → Prop} {R : Exn → Prop} : wp (dMul (.str (S a)) (.int n)) Q R = ((-9223372036854775808 ≤ n ∧ n < 9223372036854775808 ∧ a.length * n.toNat ≤ 16777216) ∧ Q (.str (S (rep n.toNat a)))) := by
  show wp (if _ then _ else _) Q R = _
  rw [r_ite, r_ret, S_length, mulS_S, sizeLine_val, show ((2 : Int) ^ 63) = 9223372036854775808 from rfl]
  exact ite_false_and
theorem r_dIxS {a : List Nat} {i : Int} {Q : D → Prop} {R : Exn → Prop} : wp (dIx (.str (S a)) (.int i)) Q R = (a.length ≤ 16777216 ∧ ∃ c, atI a i = some c ∧ Q (.str (S [c]))) := by
  unfold dIx
  dsimp only
  rw [S_toList]
  cases e : atI a i with
  | none => simp [wp]
  | some c => dsimp only; rw [S_length, wp_okL]; simp [S, wp]
theorem r_dIxL {a : List D} {i : Int} {Q : D → Prop} {R : Exn → Prop} : wp (dIx (.list a) (.int i)) Q R = (∃ d, atI a i = some d ∧ Q d) := by
  unfold dIx
  dsimp only
  cases e : atI a i with
  | none => simp [wp]
  | some c => simp [wp]
theorem r_dIxT0 {d : D} {a : List D} {Q : D → Prop} {R : Exn → Prop} : wp (dIx (.tuple (d :: a)) (.int 0)) Q R = Q d := by
  unfold dIx atI ixN
  dsimp only
  rw [if_pos (by decide), if_pos (by simp only [List.length_cons]; omega)]
  rfl
theorem r_dIxT1 {d d' : D} {a : List D} {Q : D → Prop} {R : Exn → Prop} : wp (dIx (.tuple (d :: d' :: a)) (.int 1)) Q R = Q d' := by
  unfold dIx atI ixN
  dsimp only
  rw [if_pos (by decide), if_pos (by simp only [List.length_cons]; omega)]
  rfl
theorem r_find3 {a b : Str} {i : Int} {Q : D → Prop} {R : Exn → Prop} : wp (mFind a [.str b, .int i]) Q R = Q (.int (Txt.find3 a b i)) := rfl
theorem r_comp {vs : List Nat} {mi : Env → M (List D)} {g : D → Env → Option Env} {mt : Env → M Bool} {me : Env → M D} {δ : Env} {Q : List D → Prop} {R : Exn → Prop} : wp (fComp vs mi g mt me δ) Q R = wp (mi δ) (fun ds => ds.length ≤ 16777216 ∧ wp ((compL (compStep vs g mt me δ) ds).calm) Q R) R := by unfold fComp; rw [r_bind]; congr 1; funext ds; rw [r_ite, sizeLine_val]; exact ite_false_and
theorem r_iA {me : Env → M D} {δ : Env} {Q : List D → Prop} {R : Exn → Prop} : wp (iA me δ) Q R = wp (me δ) (fun d => wp (asA d) Q R) R := propext wp_bind
theorem r_asAL {ds : List D} {Q : List D → Prop} {R : Exn → Prop} : wp (asA (.list ds)) Q R = Q ds := rfl
theorem r_asAT {ds : List D} {Q : List D → Prop} {R : Exn → Prop} : wp (asA (.tuple ds)) Q R = Q ds := rfl
theorem r_asAS {x : Str} {Q : List D → Prop} {R : Exn → Prop} : wp (asA (.str x)) Q R = Q (chars x) := rfl
theorem r_iEn {me : Env → M D} {δ : Env} {Q : List D → Prop} {R : Exn → Prop} : wp (iEn me δ) Q R = wp (me δ) (fun d => wp (enD d) Q R) R := propext wp_bind
theorem r_enDL {ds : List D} {Q : List D → Prop} {R : Exn → Prop} : wp (enD (.list ds)) Q R = Q (enumL ds) := rfl
theorem r_enDT {ds : List D} {Q : List D → Prop} {R : Exn → Prop} : wp (enD (.tuple ds)) Q R = Q (enumL ds) := rfl
theorem r_enDS {x : Str} {Q : List D → Prop} {R : Exn → Prop} : wp (enD (.str x)) Q R = Q (enumL (chars x)) := rfl
theorem r_iZp {ms : Env → M (List D)} {δ : Env} {Q : List D → Prop} {R : Exn → Prop} : wp (iZp ms δ) Q R = wp (ms δ) (fun ds => wp (zpD ds) Q R) R := propext wp_bind
theorem r_zpDL {xs ys : List D} {Q : List D → Prop} {R : Exn → Prop} : wp (zpD [.list xs, .list ys]) Q R = Q (zipL xs ys) := rfl
theorem r_zpDT {xs ys : List D} {Q : List D → Prop} {R : Exn → Prop} : wp (zpD [.tuple xs, .tuple ys]) Q R = Q (zipL xs ys) := rfl
theorem r_dDivmod {a b : Int} {Q : D → Prop} {R : Exn → Prop} : wp (dDivmod [.int a, .int b]) Q R = ((0 < b ∧ b < 1073741824) ∧ Q (.tuple [.int (a / b), .int (a % b)])) := by unfold dDivmod; dsimp only; rw [r_ite, r_ret]; exact ite_false_and
theorem r_isi {T : String} {ma : Env → M D} {δ : Env} {Q : D → Prop} {R : Exn → Prop} : wp (eIsi T ma δ) Q R = wp (ma δ) (fun d => Q (.bool (isTy T d))) R := propext wp_bind
theorem r_isTy_int_none  : isTy "int" (.none) = false := rfl
theorem r_isTy_int_bool {x : Bool}  : isTy "int" (.bool x) = true := rfl
theorem r_isTy_int_int {x : Int}  : isTy "int" (.int x) = true := rfl
theorem r_isTy_int_str {x : Str}  : isTy "int" (.str x) = false := rfl
theorem r_isTy_int_list {x : List D}  : isTy "int" (.list x) = false := rfl
theorem r_isTy_int_tuple {x : List D}  : isTy "int" (.tuple x) = false := rfl
theorem r_isTy_bool_none  : isTy "bool" (.none) = false := rfl
theorem r_isTy_bool_bool {x : Bool}  : isTy "bool" (.bool x) = true := rfl
theorem r_isTy_bool_int {x : Int}  : isTy "bool" (.int x) = false := rfl
theorem r_isTy_bool_str {x : Str}  : isTy "bool" (.str x) = false := rfl
theorem r_isTy_bool_list {x : List D}  : isTy "bool" (.list x) = false := rfl
theorem r_isTy_bool_tuple {x : List D}  : isTy "bool" (.tuple x) = false := rfl
theorem r_isTy_str_none  : isTy "str" (.none) = false := rfl
theorem r_isTy_str_bool {x : Bool}  : isTy "str" (.bool x) = false := rfl
theorem r_isTy_str_int {x : Int}  : isTy "str" (.int x) = false := rfl
theorem r_isTy_str_str {x : Str}  : isTy "str" (.str x) = true := rfl
theorem r_isTy_str_list {x : List D}  : isTy "str" (.list x) = false := rfl
theorem r_isTy_str_tuple {x : List D}  : isTy "str" (.tuple x) = false := rfl
theorem r_isTy_list_none  : isTy "list" (.none) = false := rfl
theorem r_isTy_list_bool {x : Bool}  : isTy "list" (.bool x) = false := rfl
theorem r_isTy_list_int {x : Int}  : isTy "list" (.int x) = false := rfl
theorem r_isTy_list_str {x : Str}  : isTy "list" (.str x) = false := rfl
theorem r_isTy_list_list {x : List D}  : isTy "list" (.list x) = true := rfl
theorem r_isTy_list_tuple {x : List D}  : isTy "list" (.tuple x) = false := rfl
theorem r_isTy_tuple_none  : isTy "tuple" (.none) = false := rfl
theorem r_isTy_tuple_bool {x : Bool}  : isTy "tuple" (.bool x) = false := rfl
theorem r_isTy_tuple_int {x : Int}  : isTy "tuple" (.int x) = false := rfl
theorem r_isTy_tuple_str {x : Str}  : isTy "tuple" (.str x) = false := rfl
theorem r_isTy_tuple_list {x : List D}  : isTy "tuple" (.list x) = false := rfl
theorem r_isTy_tuple_tuple {x : List D}  : isTy "tuple" (.tuple x) = true := rfl
theorem r_isTy_dict_none  : isTy "dict" (.none) = false := rfl
theorem r_isTy_dict_bool {x : Bool}  : isTy "dict" (.bool x) = false := rfl
theorem r_isTy_dict_int {x : Int}  : isTy "dict" (.int x) = false := rfl
theorem r_isTy_dict_str {x : Str}  : isTy "dict" (.str x) = false := rfl
theorem r_isTy_dict_list {x : List D}  : isTy "dict" (.list x) = false := rfl
theorem r_isTy_dict_tuple {x : List D}  : isTy "dict" (.tuple x) = false := rfl
theorem r_app0 {ds : List D} {me : Env → M D} {δ : Env} {Q : Flow → Prop} {R : Exn → Prop} : wp (sApp 0 me (.own ds :: δ)) Q R = wp (me (.own ds :: δ)) (fun d => ds.length + 1 ≤ 16777216 ∧ Q (.next (.own (ds ++ [d]) :: δ))) R := by
  show wp (M.bind _ _) Q R = _
  rw [r_bind]
  congr 1
  funext d
  rw [r_ite, r_ret, sizeLine_val]
  exact ite_false_and
theorem r_app1 {x0 : Slot} {ds : List D} {me : Env → M D} {δ : Env} {Q : Flow → Prop} {R : Exn → Prop} : wp (sApp 1 me (x0 :: .own ds :: δ)) Q R = wp (me (x0 :: .own ds :: δ)) (fun d => ds.length + 1 ≤ 16777216 ∧ Q (.next (x0 :: .own (ds ++ [d]) :: δ))) R := by
  show wp (M.bind _ _) Q R = _
  rw [r_bind]
  congr 1
  funext d
  rw [r_ite, r_ret, sizeLine_val]
  exact ite_false_and
theorem r_app2 {x0 x1 : Slot} {ds : List D} {me : Env → M D} {δ : Env} {Q : Flow → Prop} {R : Exn → Prop} : wp (sApp 2 me (x0 :: x1 :: .own ds :: δ)) Q R = wp (me (x0 :: x1 :: .own ds :: δ)) (fun d => ds.length + 1 ≤ 16777216 ∧ Q (.next (x0 :: x1 :: .own (ds ++ [d]) :: δ))) R := by
  show wp (M.bind _ _) Q R = _
  rw [r_bind]
  congr 1
  funext d
  rw [r_ite, r_ret, sizeLine_val]
  exact ite_false_and
theorem r_app3 {x0 x1 x2 : Slot} {ds : List D} {me : Env → M D} {δ : Env} {Q : Flow → Prop} {R : Exn → Prop} : wp (sApp 3 me (x0 :: x1 :: x2 :: .own ds :: δ)) Q R = wp (me (x0 :: x1 :: x2 :: .own ds :: δ)) (fun d => ds.length + 1 ≤ 16777216 ∧ Q (.next (x0 :: x1 :: x2 :: .own (ds ++ [d]) :: δ))) R := by
  show wp (M.bind _ _) Q R = _
  rw [r_bind]
  congr 1
  funext d
  rw [r_ite, r_ret, sizeLine_val]
  exact ite_false_and
theorem r_app4 {x0 x1 x2 x3 : Slot} {ds : List D} {me : Env → M D} {δ : Env} {Q : Flow → Prop} {R : Exn → Prop} : wp (sApp 4 me (x0 :: x1 :: x2 :: x3 :: .own ds :: δ)) Q R = wp (me (x0 :: x1 :: x2 :: x3 :: .own ds :: δ)) (fun d => ds.length + 1 ≤ 16777216 ∧ Q (.next (x0 :: x1 :: x2 :: x3 :: .own (ds ++ [d]) :: δ))) R := by
  show wp (M.bind _ _) Q R = _
  rw [r_bind]
  congr 1
  funext d
  rw [r_ite, r_ret, sizeLine_val]
  exact ite_false_and
theorem r_app5 {x0 x1 x2 x3 x4 : Slot} {ds : List D} {me : Env → M D} {δ : Env} {Q : Flow → Prop} {R : Exn → Prop} : wp (sApp 5 me (x0 :: x1 :: x2 :: x3 :: x4 :: .own ds :: δ)) Q R = wp (me (x0 :: x1 :: x2 :: x3 :: x4 :: .own ds :: δ)) (fun d => ds.length + 1 ≤ 16777216 ∧ Q (.next (x0 :: x1 :: x2 :: x3 :: x4 :: .own (ds ++ [d]) :: δ))) R := by
  show wp (M.bind _ _) Q R = _
  rw [r_bind]
  congr 1
  funext d
  rw [r_ite, r_ret, sizeLine_val]
  exact ite_false_and
theorem r_app6 {x0 x1 x2 x3 x4 x5 : Slot} {ds : List D} {me : Env → M D} {δ : Env} {Q : Flow → Prop} {R : Exn → Prop} : wp (sApp 6 me (x0 :: x1 :: x2 :: x3 :: x4 :: x5 :: .own ds :: δ)) Q R = wp (me (x0 :: x1 :: x2 :: x3 :: x4 :: x5 :: .own ds :: δ)) (fun d => ds.length + 1 ≤ 16777216 ∧ Q (.next (x0 :: x1 :: x2 :: x3 :: x4 :: x5 :: .own (ds ++ [d]) :: δ))) R := by
  show wp (M.bind _ _) Q R = _
  rw [r_bind]
  congr 1
  funext d
  rw [r_ite, r_ret, sizeLine_val]
  exact ite_false_and
theorem r_app7 {x0 x1 x2 x3 x4 x5 x6 : Slot} {ds : List D} {me : Env → M D} {δ : Env} {Q : Flow → Prop} {R : Exn → Prop} : wp (sApp 7 me (x0 :: x1 :: x2 :: x3 :: x4 :: x5 :: x6 :: .own ds :: δ)) Q R = wp (me (x0 :: x1 :: x2 :: x3 :: x4 :: x5 :: x6 :: .own ds :: δ)) (fun d => ds.length + 1 ≤ 16777216 ∧ Q (.next (x0 :: x1 :: x2 :: x3 :: x4 :: x5 :: x6 :: .own (ds ++ [d]) :: δ))) R := by
  show wp (M.bind _ _) Q R = _
  rw [r_bind]
  congr 1
  funext d
  rw [r_ite, r_ret, sizeLine_val]
  exact ite_false_and
theorem r_app8 {x0 x1 x2 x3 x4 x5 x6 x7 : Slot} {ds : List D} {me : Env → M D} {δ : Env} {Q : Flow → Prop} {R : Exn → Prop} : wp (sApp 8 me (x0 :: x1 :: x2 :: x3 :: x4 :: x5 :: x6 :: x7 :: .own ds :: δ)) Q R = wp (me (x0 :: x1 :: x2 :: x3 :: x4 :: x5 :: x6 :: x7 :: .own ds :: δ)) (fun d => ds.length + 1 ≤ 16777216 ∧ Q (.next (x0 :: x1 :: x2 :: x3 :: x4 :: x5 :: x6 :: x7 :: .own (ds ++ [d]) :: δ))) R := by
  show wp (M.bind _ _) Q R = _
  rw [r_bind]
  congr 1
  funext d
  rw [r_ite, r_ret, sizeLine_val]
  exact ite_false_and
theorem r_app9 {x0 x1 x2 x3 x4 x5 x6 x7 x8 : Slot} {ds : List D} {me : Env → M D} {δ : Env} {Q : Flow → Prop} {R : Exn → Prop} : wp (sApp 9 me (x0 :: x1 :: x2 :: x3 :: x4 :: x5 :: x6 :: x7 :: x8 :: .own ds :: δ)) Q R = wp (me (x0 :: x1 :: x2 :: x3 :: x4 :: x5 :: x6 :: x7 :: x8 :: .own ds :: δ)) (fun d => ds.length + 1 ≤ 16777216 ∧ Q (.next (x0 :: x1 :: x2 :: x3 :: x4 :: x5 :: x6 :: x7 :: x8 :: .own (ds ++ [d]) :: δ))) R := by
  show wp (M.bind _ _) Q R = _
  rw [r_bind]
  congr 1
  funext d
  rw [r_ite, r_ret, sizeLine_val]
  exact ite_false_and
theorem r_app10 {x0 x1 x2 x3 x4 x5 x6 x7 x8 x9 : Slot} {ds : List D} {me : Env → M D} {δ : Env} {Q : Flow → Prop} {R : Exn → Prop} : wp (sApp 10 me (x0 :: x1 :: x2 :: x3 :: x4 :: x5 :: x6 :: x7 :: x8 :: x9 :: .own ds :: δ)) Q R = wp (me (x0 :: x1 :: x2 :: x3 :: x4 :: x5 :: x6 :: x7 :: x8 :: x9 :: .own ds :: δ)) (fun d => ds.length + 1 ≤ 16777216 ∧ Q (.next (x0 :: x1 :: x2 :: x3 :: x4 :: x5 :: x6 :: x7 :: x8 :: x9 :: .own (ds ++ [d]) :: δ))) R := by
  show wp (M.bind _ _) Q R = _
  rw [r_bind]
  congr 1
  funext d
  rw [r_ite, r_ret, sizeLine_val]
  exact ite_false_and
theorem r_app11 {x0 x1 x2 x3 x4 x5 x6 x7 x8 x9 x10 : Slot} {ds : List D} {me : Env → M D} {δ : Env} {Q : Flow → Prop} {R : Exn → Prop} : wp (sApp 11 me (x0 :: x1 :: x2 :: x3 :: x4 :: x5 :: x6 :: x7 :: x8 :: x9 :: x10 :: .own ds :: δ)) Q R = wp (me (x0 :: x1 :: x2 :: x3 :: x4 :: x5 :: x6 :: x7 :: x8 :: x9 :: x10 :: .own ds :: δ)) (fun d => ds.length + 1 ≤ 16777216 ∧ Q (.next (x0 :: x1 :: x2 :: x3 :: x4 :: x5 :: x6 :: x7 :: x8 :: x9 :: x10 :: .own (ds ++ [d]) :: δ))) R := by
  show wp (M.bind _ _) Q R = _
  rw [r_bind]
  congr 1
  funext d
  rw [r_ite, r_ret, sizeLine_val]
  exact ite_false_and
theorem r_app12 {x0 x1 x2 x3 x4 x5 x6 x7 x8 x9 x10 x11 : Slot} {ds : List D} {me : Env → M D} {δ : Env} {Q : Flow → Prop} {R : Exn → Prop} : wp (sApp 12 me (x0 :: x1 :: x2 :: x3 :: x4 :: x5 :: x6 :: x7 :: x8 :: x9 :: x10 :: x11 :: .own ds :: δ)) Q R = wp (me (x0 :: x1 :: x2 :: x3 :: x4 :: x5 :: x6 :: x7 :: x8 :: x9 :: x10 :: x11 :: .own ds :: δ)) (fun d => ds.length + 1 ≤ 16777216 ∧ Q (.next (x0 :: x1 :: x2 :: x3 :: x4 :: x5 :: x6 :: x7 :: x8 :: x9 :: x10 :: x11 :: .own (ds ++ [d]) :: δ))) R := by
  show wp (M.bind _ _) Q R = _
  rw [r_bind]
  congr 1
  funext d
  rw [r_ite, r_ret, sizeLine_val]
  exact ite_false_and
theorem r_app13 {x0 x1 x2 x3 x4 x5 x6 x7 x8 x9 x10 x11 x12 : Slot} {ds : List D} {me : Env → M D} {δ : Env} {Q : Flow → Prop} {R : Exn → Prop} : wp (sApp 13 me (x0 :: x1 :: x2 :: x3 :: x4 :: x5 :: x6 :: x7 :: x8 :: x9 :: x10 :: x11 :: x12 :: .own ds :: δ)) Q R = wp (me (x0 :: x1 :: x2 :: x3 :: x4 :: x5 :: x6 :: x7 :: x8 :: x9 :: x10 :: x11 :: x12 :: .own ds :: δ)) (fun d => ds.length + 1 ≤ 16777216 ∧ Q (.next (x0 :: x1 :: x2 :: x3 :: x4 :: x5 :: x6 :: x7 :: x8 :: x9 :: x10 :: x11 :: x12 :: .own (ds ++ [d]) :: δ))) R := by
  show wp (M.bind _ _) Q R = _
  rw [r_bind]
  congr 1
  funext d
  rw [r_ite, r_ret, sizeLine_val]
  exact ite_false_and
theorem r_app14 {x0 x1 x2 x3 x4 x5 x6 x7 x8 x9 x10 x11 x12 x13 : Slot} {ds : List D} {me : Env → M D} {δ : Env} {Q : Flow → Prop} {R : Exn → Prop} : wp (sApp 14 me (x0 :: x1 :: x2 :: x3 :: x4 :: x5 :: x6 :: x7 :: x8 :: x9 :: x10 :: x11 :: x12 :: x13 :: .own ds :: δ)) Q R = wp (me (x0 :: x1 :: x2 :: x3 :: x4 :: x5 :: x6 :: x7 :: x8 :: x9 :: x10 :: x11 :: x12 :: x13 :: .own ds :: δ)) (fun d => ds.length + 1 ≤ 16777216 ∧ Q (.next (x0 :: x1 :: x2 :: x3 :: x4 :: x5 :: x6 :: x7 :: x8 :: x9 :: x10 :: x11 :: x12 :: x13 :: .own (ds ++ [d]) :: δ))) R := by
  show wp (M.bind _ _) Q R = _
  rw [r_bind]
  congr 1
  funext d
  rw [r_ite, r_ret, sizeLine_val]
  exact ite_false_and
theorem r_app15 {x0 x1 x2 x3 x4 x5 x6 x7 x8 x9 x10 x11 x12 x13 x14 : Slot} {ds : List D} {me : Env → M D} {δ : Env} {Q : Flow → Prop} {R : Exn → Prop} : wp (sApp 15 me (x0 :: x1 :: x2 :: x3 :: x4 :: x5 :: x6 :: x7 :: x8 :: x9 :: x10 :: x11 :: x12 :: x13 :: x14 :: .own ds :: δ)) Q R = wp (me (x0 :: x1 :: x2 :: x3 :: x4 :: x5 :: x6 :: x7 :: x8 :: x9 :: x10 :: x11 :: x12 :: x13 :: x14 :: .own ds :: δ)) (fun d => ds.length + 1 ≤ 16777216 ∧ Q (.next (x0 :: x1 :: x2 :: x3 :: x4 :: x5 :: x6 :: x7 :: x8 :: x9 :: x10 :: x11 :: x12 :: x13 :: x14 :: .own (ds ++ [d]) :: δ))) R := by
  show wp (M.bind _ _) Q R = _
  rw [r_bind]
  congr 1
  funext d
  rw [r_ite, r_ret, sizeLine_val]
  exact ite_false_and
theorem r_turnP {i j : Nat} {mb : Env → M Flow} {a b : D} {δ : Env} {Q : Flow → Prop} {R : Exn → Prop} : wp (turn (gTupE 2 (gsCons (gSet i) (gsCons (gSet j) gsNil))) mb (.tuple [a, b]) δ) Q R = wp (sPar i j (fun _ => .ret [a, b]) δ) (fun fl => wp (andThen mb fl) Q R) R := rfl
/-- wp, behind a wall -/
structure W {α : Type} (m : M α) (Q : α → Prop) (R : Exn → Prop) : Prop where
  is : wp m Q R
theorem W_eq {α : Type} {m : M α} {Q : α → Prop} {R : Exn → Prop} : W m Q R = wp m Q R := propext ⟨W.is, W.mk⟩
theorem LawOk.of {m : M Flow} (h : W m (fun fl => fl = .retn (.bool true)) fun _ => False) : LawOk m := ⟨h.is⟩
theorem x_ret {α : Type} {a : α} {Q : α → Prop} {R : Exn → Prop} : W (.ret a) Q R = Q a := by (try simp only [W_eq]); exact r_ret
theorem x_draw {α : Type} {n : Int} {k : Int → M α} {Q : α → Prop} {R : Exn → Prop} : W (.draw n k) Q R = ((0 < n ∧ n < 1073741824) ∧ ∀ r, 0 ≤ r → r < n → W (k r) Q R) := by (try simp only [W_eq]); exact r_draw
theorem x_bind {α β : Type} {m : M α} {f : α → M β} {Q : β → Prop} {R : Exn → Prop} : W (m.bind f) Q R = W m (fun a => W (f a) Q R) R := by (try simp only [W_eq]); exact r_bind
theorem x_eC {d : D} {δ : Env} {Q : D → Prop} {R : Exn → Prop} : W (eC d δ) Q R = Q d := by (try simp only [W_eq]); exact r_eC
theorem x_var0 {d : D} {δ : Env} {Q : D → Prop} {R : Exn → Prop} : W (eVar 0 (.dat d :: δ)) Q R = Q d := by (try simp only [W_eq]); exact r_var0
theorem x_own0 {d : List D} {δ : Env} {Q : D → Prop} {R : Exn → Prop} : W (eOwn 0 (.own d :: δ)) Q R = Q (.list d) := by (try simp only [W_eq]); exact r_own0
theorem x_ownd0 {d : D} {δ : Env} {Q : D → Prop} {R : Exn → Prop} : W (eOwn 0 (.dat d :: δ)) Q R = Q d := by (try simp only [W_eq]); exact r_ownd0
theorem x_set0 {x0 : Slot} {me : Env → M D} {δ : Env} {Q : Flow → Prop} {R : Exn → Prop} : W (sSet 0 me (x0 :: δ)) Q R = W (me (x0 :: δ)) (fun d => Q (.next (.dat d :: δ))) R := by (try simp only [W_eq]); exact r_set0
theorem x_setF0 {x0 : Slot} {me : Env → M (List D)} {δ : Env} {Q : Flow → Prop} {R : Exn → Prop} : W (sSetF 0 me (x0 :: δ)) Q R = W (me (x0 :: δ)) (fun d => Q (.next (.own d :: δ))) R := by (try simp only [W_eq]); exact r_setF0
theorem x_turn0 {x0 : Slot} {mb : Env → M Flow} {d : D} {δ : Env} {Q : Flow → Prop} {R : Exn → Prop} : W (turn (gSet 0) mb d (x0 :: δ)) Q R = W (mb (.dat d :: δ)) Q R := by (try simp only [W_eq]); exact r_turn0
theorem x_well0 {ms : Env → M (List Slot)} {δ : Env} {Q : List Slot → Prop} {R : Exn → Prop} : W (aWell 0 ms (.well :: δ)) Q R = W (ms (.well :: δ)) (fun ss => Q (.well :: ss)) R := by (try simp only [W_eq]); exact r_well0
theorem x_fz0 {ds : List D} {m1 : Env → M Flow} {δ : Env} {Q : Flow → Prop} {R : Exn → Prop} : W (sFz 0 m1 (.own ds :: δ)) Q R = W (m1 (.dat (.list ds) :: δ)) Q R := by (try simp only [W_eq]); exact r_fz0
theorem x_var1 {x0 : Slot} {d : D} {δ : Env} {Q : D → Prop} {R : Exn → Prop} : W (eVar 1 (x0 :: .dat d :: δ)) Q R = Q d := by (try simp only [W_eq]); exact r_var1
theorem x_own1 {x0 : Slot} {d : List D} {δ : Env} {Q : D → Prop} {R : Exn → Prop} : W (eOwn 1 (x0 :: .own d :: δ)) Q R = Q (.list d) := by (try simp only [W_eq]); exact r_own1
theorem x_ownd1 {x0 : Slot} {d : D} {δ : Env} {Q : D → Prop} {R : Exn → Prop} : W (eOwn 1 (x0 :: .dat d :: δ)) Q R = Q d := by (try simp only [W_eq]); exact r_ownd1
theorem x_set1 {x0 x1 : Slot} {me : Env → M D} {δ : Env} {Q : Flow → Prop} {R : Exn → Prop} : W (sSet 1 me (x0 :: x1 :: δ)) Q R = W (me (x0 :: x1 :: δ)) (fun d => Q (.next (x0 :: .dat d :: δ))) R := by (try simp only [W_eq]); exact r_set1
theorem x_setF1 {x0 x1 : Slot} {me : Env → M (List D)} {δ : Env} {Q : Flow → Prop} {R : Exn → Prop} : W (sSetF 1 me (x0 :: x1 :: δ)) Q R = W (me (x0 :: x1 :: δ)) (fun d => Q (.next (x0 :: .own d :: δ))) R := by (try simp only [W_eq]); exact r_setF1
theorem x_turn1 {x0 x1 : Slot} {mb : Env → M Flow} {d : D} {δ : Env} {Q : Flow → Prop} {R : Exn → Prop} : W (turn (gSet 1) mb d (x0 :: x1 :: δ)) Q R = W (mb (x0 :: .dat d :: δ)) Q R := by (try simp only [W_eq]); exact r_turn1
theorem x_well1 {x0 : Slot} {ms : Env → M (List Slot)} {δ : Env} {Q : List Slot → Prop} {R : Exn → Prop} : W (aWell 1 ms (x0 :: .well :: δ)) Q R = W (ms (x0 :: .well :: δ)) (fun ss => Q (.well :: ss)) R := by (try simp only [W_eq]); exact r_well1
theorem x_fz1 {x0 : Slot} {ds : List D} {m1 : Env → M Flow} {δ : Env} {Q : Flow → Prop} {R : Exn → Prop} : W (sFz 1 m1 (x0 :: .own ds :: δ)) Q R = W (m1 (x0 :: .dat (.list ds) :: δ)) Q R := by (try simp only [W_eq]); exact r_fz1
theorem x_var2 {x0 x1 : Slot} {d : D} {δ : Env} {Q : D → Prop} {R : Exn → Prop} : W (eVar 2 (x0 :: x1 :: .dat d :: δ)) Q R = Q d := by (try simp only [W_eq]); exact r_var2
theorem x_own2 {x0 x1 : Slot} {d : List D} {δ : Env} {Q : D → Prop} {R : Exn → Prop} : W (eOwn 2 (x0 :: x1 :: .own d :: δ)) Q R = Q (.list d) := by (try simp only [W_eq]); exact r_own2
theorem x_ownd2 {x0 x1 : Slot} {d : D} {δ : Env} {Q : D → Prop} {R : Exn → Prop} : W (eOwn 2 (x0 :: x1 :: .dat d :: δ)) Q R = Q d := by (try simp only [W_eq]); exact r_ownd2
theorem x_set2 {x0 x1 x2 : Slot} {me : Env → M D} {δ : Env} {Q : Flow → Prop} {R : Exn → Prop} : W (sSet 2 me (x0 :: x1 :: x2 :: δ)) Q R = W (me (x0 :: x1 :: x2 :: δ)) (fun d => Q (.next (x0 :: x1 :: .dat d :: δ))) R := by (try simp only [W_eq]); exact r_set2
theorem x_setF2 {x0 x1 x2 : Slot} {me : Env → M (List D)} {δ : Env} {Q : Flow → Prop} {R : Exn → Prop} : W (sSetF 2 me (x0 :: x1 :: x2 :: δ)) Q R = W (me (x0 :: x1 :: x2 :: δ)) (fun d => Q (.next (x0 :: x1 :: .own d :: δ))) R := by (try simp only [W_eq]); exact r_setF2
theorem x_turn2 {x0 x1 x2 : Slot} {mb : Env → M Flow} {d : D} {δ : Env} {Q : Flow → Prop} {R : Exn → Prop} : W (turn (gSet 2) mb d (x0 :: x1 :: x2 :: δ)) Q R = W (mb (x0 :: x1 :: .dat d :: δ)) Q R := by (try simp only [W_eq]); exact r_turn2
theorem x_well2 {x0 x1 : Slot} {ms : Env → M (List Slot)} {δ : Env} {Q : List Slot → Prop} {R : Exn → Prop} : W (aWell 2 ms (x0 :: x1 :: .well :: δ)) Q R = W (ms (x0 :: x1 :: .well :: δ)) (fun ss => Q (.well :: ss)) R := by (try simp only [W_eq]); exact r_well2
theorem x_fz2 {x0 x1 : Slot} {ds : List D} {m1 : Env → M Flow} {δ : Env} {Q : Flow → Prop} {R : Exn → Prop} : W (sFz 2 m1 (x0 :: x1 :: .own ds :: δ)) Q R = W (m1 (x0 :: x1 :: .dat (.list ds) :: δ)) Q R := by (try simp only [W_eq]); exact r_fz2
theorem x_var3 {x0 x1 x2 : Slot} {d : D} {δ : Env} {Q : D → Prop} {R : Exn → Prop} : W (eVar 3 (x0 :: x1 :: x2 :: .dat d :: δ)) Q R = Q d := by (try simp only [W_eq]); exact r_var3
theorem x_own3 {x0 x1 x2 : Slot} {d : List D} {δ : Env} {Q : D → Prop} {R : Exn → Prop} : W (eOwn 3 (x0 :: x1 :: x2 :: .own d :: δ)) Q R = Q (.list d) := by (try simp only [W_eq]); exact r_own3
theorem x_ownd3 {x0 x1 x2 : Slot} {d : D} {δ : Env} {Q : D → Prop} {R : Exn → Prop} : W (eOwn 3 (x0 :: x1 :: x2 :: .dat d :: δ)) Q R = Q d := by (try simp only [W_eq]); exact r_ownd3
theorem x_set3 {x0 x1 x2 x3 : Slot} {me : Env → M D} {δ : Env} {Q : Flow → Prop} {R : Exn → Prop} : W (sSet 3 me (x0 :: x1 :: x2 :: x3 :: δ)) Q R = W (me (x0 :: x1 :: x2 :: x3 :: δ)) (fun d => Q (.next (x0 :: x1 :: x2 :: .dat d :: δ))) R := by (try simp only [W_eq]); exact r_set3
theorem x_setF3 {x0 x1 x2 x3 : Slot} {me : Env → M (List D)} {δ : Env} {Q : Flow → Prop} {R : Exn → Prop} : W (sSetF 3 me (x0 :: x1 :: x2 :: x3 :: δ)) Q R = W (me (x0 :: x1 :: x2 :: x3 :: δ)) (fun d => Q (.next (x0 :: x1 :: x2 :: .own d :: δ))) R := by (try simp only [W_eq]); exact r_setF3
theorem x_turn3 {x0 x1 x2 x3 : Slot} {mb : Env → M Flow} {d : D} {δ : Env} {Q : Flow → Prop} {R : Exn → Prop} : W (turn (gSet 3) mb d (x0 :: x1 :: x2 :: x3 :: δ)) Q R = W (mb (x0 :: x1 :: x2 :: .dat d :: δ)) Q R := by (try simp only [W_eq]); exact r_turn3
theorem x_well3 {x0 x1 x2 : Slot} {ms : Env → M (List Slot)} {δ : Env} {Q : List Slot → Prop} {R : Exn → Prop} : W (aWell 3 ms (x0 :: x1 :: x2 :: .well :: δ)) Q R = W (ms (x0 :: x1 :: x2 :: .well :: δ)) (fun ss => Q (.well :: ss)) R := by (try simp only [W_eq]); exact r_well3
theorem x_fz3 {x0 x1 x2 : Slot} {ds : List D} {m1 : Env → M Flow} {δ : Env} {Q : Flow → Prop} {R : Exn → Prop} : W (sFz 3 m1 (x0 :: x1 :: x2 :: .own ds :: δ)) Q R = W (m1 (x0 :: x1 :: x2 :: .dat (.list ds) :: δ)) Q R := by (try simp only [W_eq]); exact r_fz3
theorem x_var4 {x0 x1 x2 x3 : Slot} {d : D} {δ : Env} {Q : D → Prop} {R : Exn → Prop} : W (eVar 4 (x0 :: x1 :: x2 :: x3 :: .dat d :: δ)) Q R = Q d := by (try simp only [W_eq]); exact r_var4
theorem x_own4 {x0 x1 x2 x3 : Slot} {d : List D} {δ : Env} {Q : D → Prop} {R : Exn → Prop} : W (eOwn 4 (x0 :: x1 :: x2 :: x3 :: .own d :: δ)) Q R = Q (.list d) := by (try simp only [W_eq]); exact r_own4
theorem x_ownd4 {x0 x1 x2 x3 : Slot} {d : D} {δ : Env} {Q : D → Prop} {R : Exn → Prop} : W (eOwn 4 (x0 :: x1 :: x2 :: x3 :: .dat d :: δ)) Q R = Q d := by (try simp only [W_eq]); exact r_ownd4
theorem x_set4 {x0 x1 x2 x3 x4 : Slot} {me : Env → M D} {δ : Env} {Q : Flow → Prop} {R : Exn → Prop} : W (sSet 4 me (x0 :: x1 :: x2 :: x3 :: x4 :: δ)) Q R = W (me (x0 :: x1 :: x2 :: x3 :: x4 :: δ)) (fun d => Q (.next (x0 :: x1 :: x2 :: x3 :: .dat d :: δ))) R := by (try simp only [W_eq]); exact r_set4
theorem x_setF4 {x0 x1 x2 x3 x4 : Slot} {me : Env → M (List D)} {δ : Env} {Q : Flow → Prop} {R : Exn → Prop} : W (sSetF 4 me (x0 :: x1 :: x2 :: x3 :: x4 :: δ)) Q R = W (me (x0 :: x1 :: x2 :: x3 :: x4 :: δ)) (fun d => Q (.next (x0 :: x1 :: x2 :: x3 :: .own d :: δ))) R := by (try simp only [W_eq]); exact r_setF4
theorem x_turn4 {x0 x1 x2 x3 x4 : Slot} {mb : Env → M Flow} {d : D} {δ : Env} {Q : Flow → Prop} {R : Exn → Prop} : W (turn (gSet 4) mb d (x0 :: x1 :: x2 :: x3 :: x4 :: δ)) Q R = W (mb (x0 :: x1 :: x2 :: x3 :: .dat d :: δ)) Q R := by (try simp only [W_eq]); exact r_turn4
theorem x_well4 {x0 x1 x2 x3 : Slot} {ms : Env → M (List Slot)} {δ : Env} {Q : List Slot → Prop} {R : Exn → Prop} : W (aWell 4 ms (x0 :: x1 :: x2 :: x3 :: .well :: δ)) Q R = W (ms (x0 :: x1 :: x2 :: x3 :: .well :: δ)) (fun ss => Q (.well :: ss)) R := by (try simp only [W_eq]); exact r_well4
theorem x_fz4 {x0 x1 x2 x3 : Slot} {ds : List D} {m1 : Env → M Flow} {δ : Env} {Q : Flow → Prop} {R : Exn → Prop} : W (sFz 4 m1 (x0 :: x1 :: x2 :: x3 :: .own ds :: δ)) Q R = W (m1 (x0 :: x1 :: x2 :: x3 :: .dat (.list ds) :: δ)) Q R := by (try simp only [W_eq]); exact r_fz4
theorem x_var5 {x0 x1 x2 x3 x4 : Slot} {d : D} {δ : Env} {Q : D → Prop} {R : Exn → Prop} : W (eVar 5 (x0 :: x1 :: x2 :: x3 :: x4 :: .dat d :: δ)) Q R = Q d := by (try simp only [W_eq]); exact r_var5
theorem x_own5 {x0 x1 x2 x3 x4 : Slot} {d : List D} {δ : Env} {Q : D → Prop} {R : Exn → Prop} : W (eOwn 5 (x0 :: x1 :: x2 :: x3 :: x4 :: .own d :: δ)) Q R = Q (.list d) := by (try simp only [W_eq]); exact r_own5
theorem x_ownd5 {x0 x1 x2 x3 x4 : Slot} {d : D} {δ : Env} {Q : D → Prop} {R : Exn → Prop} : W (eOwn 5 (x0 :: x1 :: x2 :: x3 :: x4 :: .dat d :: δ)) Q R = Q d := by (try simp only [W_eq]); exact r_ownd5
theorem x_set5 {x0 x1 x2 x3 x4 x5 : Slot} {me : Env → M D} {δ : Env} {Q : Flow → Prop} {R : Exn → Prop} : W (sSet 5 me (x0 :: x1 :: x2 :: x3 :: x4 :: x5 :: δ)) Q R = W (me (x0 :: x1 :: x2 :: x3 :: x4 :: x5 :: δ)) (fun d => Q (.next (x0 :: x1 :: x2 :: x3 :: x4 :: .dat d :: δ))) R := by (try simp only [W_eq]); exact r_set5
theorem x_setF5 {x0 x1 x2 x3 x4 x5 : Slot} {me : Env → M (List D)} {δ : Env} {Q : Flow → Prop} {R : Exn → Prop} : W (sSetF 5 me (x0 :: x1 :: x2 :: x3 :: x4 :: x5 :: δ)) Q R = W (me (x0 :: x1 :: x2 :: x3 :: x4 :: x5 :: δ)) (fun d => Q (.next (x0 :: x1 :: x2 :: x3 :: x4 :: .own d :: δ))) R := by (try simp only [W_eq]); exact r_setF5
theorem x_turn5 {x0 x1 x2 x3 x4 x5 : Slot} {mb : Env → M Flow} {d : D} {δ : Env} {Q : Flow → Prop} {R : Exn → Prop} : W (turn (gSet 5) mb d (x0 :: x1 :: x2 :: x3 :: x4 :: x5 :: δ)) Q R = W (mb (x0 :: x1 :: x2 :: x3 :: x4 :: .dat d :: δ)) Q R := by (try simp only [W_eq]); exact r_turn5
theorem x_well5 {x0 x1 x2 x3 x4 : Slot} {ms : Env → M (List Slot)} {δ : Env} {Q : List Slot → Prop} {R : Exn → Prop} : W (aWell 5 ms (x0 :: x1 :: x2 :: x3 :: x4 :: .well :: δ)) Q R = W (ms (x0 :: x1 :: x2 :: x3 :: x4 :: .well :: δ)) (fun ss => Q (.well :: ss)) R := by (try simp only [W_eq]); exact r_well5
theorem x_fz5 {x0 x1 x2 x3 x4 : Slot} {ds : List D} {m1 : Env → M Flow} {δ : Env} {Q : Flow → Prop} {R : Exn → Prop} : W (sFz 5 m1 (x0 :: x1 :: x2 :: x3 :: x4 :: .own ds :: δ)) Q R = W (m1 (x0 :: x1 :: x2 :: x3 :: x4 :: .dat (.list ds) :: δ)) Q R := by (try simp only [W_eq]); exact r_fz5
theorem x_var6 {x0 x1 x2 x3 x4 x5 : Slot} {d : D} {δ : Env} {Q : D → Prop} {R : Exn → Prop} : W (eVar 6 (x0 :: x1 :: x2 :: x3 :: x4 :: x5 :: .dat d :: δ)) Q R = Q d := by (try simp only [W_eq]); exact r_var6
theorem x_own6 {x0 x1 x2 x3 x4 x5 : Slot} {d : List D} {δ : Env} {Q : D → Prop} {R : Exn → Prop} : W (eOwn 6 (x0 :: x1 :: x2 :: x3 :: x4 :: x5 :: .own d :: δ)) Q R = Q (.list d) := by (try simp only [W_eq]); exact r_own6
theorem x_ownd6 {x0 x1 x2 x3 x4 x5 : Slot} {d : D} {δ : Env} {Q : D → Prop} {R : Exn → Prop} : W (eOwn 6 (x0 :: x1 :: x2 :: x3 :: x4 :: x5 :: .dat d :: δ)) Q R = Q d := by (try simp only [W_eq]); exact r_ownd6
theorem x_set6 {x0 x1 x2 x3 x4 x5 x6 : Slot} {me : Env → M D} {δ : Env} {Q : Flow → Prop} {R : Exn → Prop} : W (sSet 6 me (x0 :: x1 :: x2 :: x3 :: x4 :: x5 :: x6 :: δ)) Q R = W (me (x0 :: x1 :: x2 :: x3 :: x4 :: x5 :: x6 :: δ)) (fun d => Q (.next (x0 :: x1 :: x2 :: x3 :: x4 :: x5 :: .dat d :: δ))) R := by (try simp only [W_eq]); exact r_set6
theorem x_setF6 {x0 x1 x2 x3 x4 x5 x6 : Slot} {me : Env → M (List D)} {δ : Env} {Q : Flow → Prop} {R : Exn → Prop} : W (sSetF 6 me (x0 :: x1 :: x2 :: x3 :: x4 :: x5 :: x6 :: δ)) Q R = W (me (x0 :: x1 :: x2 :: x3 :: x4 :: x5 :: x6 :: δ)) (fun d => Q (.next (x0 :: x1 :: x2 :: x3 :: x4 :: x5 :: .own d :: δ))) R := by (try simp only [W_eq]); exact r_setF6
theorem x_turn6 {x0 x1 x2 x3 x4 x5 x6 : Slot} {mb : Env → M Flow} {d : D} {δ : Env} {Q : Flow → Prop} {R : Exn → Prop} : W (turn (gSet 6) mb d (x0 :: x1 :: x2 :: x3 :: x4 :: x5 :: x6 :: δ)) Q R = W (mb (x0 :: x1 :: x2 :: x3 :: x4 :: x5 :: .dat d :: δ)) Q R := by (try simp only [W_eq]); exact r_turn6
theorem x_well6 {x0 x1 x2 x3 x4 x5 : Slot} {ms : Env → M (List Slot)} {δ : Env} {Q : List Slot → Prop} {R : Exn → Prop} : W (aWell 6 ms (x0 :: x1 :: x2 :: x3 :: x4 :: x5 :: .well :: δ)) Q R = W (ms (x0 :: x1 :: x2 :: x3 :: x4 :: x5 :: .well :: δ)) (fun ss => Q (.well :: ss)) R := by (try simp only [W_eq]); exact r_well6
theorem x_fz6 {x0 x1 x2 x3 x4 x5 : Slot} {ds : List D} {m1 : Env → M Flow} {δ : Env} {Q : Flow → Prop} {R : Exn → Prop} : W (sFz 6 m1 (x0 :: x1 :: x2 :: x3 :: x4 :: x5 :: .own ds :: δ)) Q R = W (m1 (x0 :: x1 :: x2 :: x3 :: x4 :: x5 :: .dat (.list ds) :: δ)) Q R := by (try simp only [W_eq]); exact r_fz6
theorem x_var7 {x0 x1 x2 x3 x4 x5 x6 : Slot} {d : D} {δ : Env} {Q : D → Prop} {R : Exn → Prop} : W (eVar 7 (x0 :: x1 :: x2 :: x3 :: x4 :: x5 :: x6 :: .dat d :: δ)) Q R = Q d := by (try simp only [W_eq]); exact r_var7
theorem x_own7 {x0 x1 x2 x3 x4 x5 x6 : Slot} {d : List D} {δ : Env} {Q : D → Prop} {R : Exn → Prop} : W (eOwn 7 (x0 :: x1 :: x2 :: x3 :: x4 :: x5 :: x6 :: .own d :: δ)) Q R = Q (.list d) := by (try simp only [W_eq]); exact r_own7
theorem x_ownd7 {x0 x1 x2 x3 x4 x5 x6 : Slot} {d : D} {δ : Env} {Q : D → Prop} {R : Exn → Prop} : W (eOwn 7 (x0 :: x1 :: x2 :: x3 :: x4 :: x5 :: x6 :: .dat d :: δ)) Q R = Q d := by (try simp only [W_eq]); exact r_ownd7
theorem x_set7 {x0 x1 x2 x3 x4 x5 x6 x7 : Slot} {me : Env → M D} {δ : Env} {Q : Flow → Prop} {R : Exn → Prop} : W (sSet 7 me (x0 :: x1 :: x2 :: x3 :: x4 :: x5 :: x6 :: x7 :: δ)) Q R = W (me (x0 :: x1 :: x2 :: x3 :: x4 :: x5 :: x6 :: x7 :: δ)) (fun d => Q (.next (x0 :: x1 :: x2 :: x3 :: x4 :: x5 :: x6 :: .dat d :: δ))) R := by (try simp only [W_eq]); exact r_set7
theorem x_setF7 {x0 x1 x2 x3 x4 x5 x6 x7 : Slot} {me : Env → M (List D)} {δ : Env} {Q : Flow → Prop} {R : Exn → Prop} : W (sSetF 7 me (x0 :: x1 :: x2 :: x3 :: x4 :: x5 :: x6 :: x7 :: δ)) Q R = W (me (x0 :: x1 :: x2 :: x3 :: x4 :: x5 :: x6 :: x7 :: δ)) (fun d => Q (.next (x0 :: x1 :: x2 :: x3 :: x4 :: x5 :: x6 :: .own d :: δ))) R := by (try simp only [W_eq]); exact r_setF7
theorem x_turn7 {x0 x1 x2 x3 x4 x5 x6 x7 : Slot} {mb : Env → M Flow} {d : D} {δ : Env} {Q : Flow → Prop} {R : Exn → Prop} : W (turn (gSet 7) mb d (x0 :: x1 :: x2 :: x3 :: x4 :: x5 :: x6 :: x7 :: δ)) Q R = W (mb (x0 :: x1 :: x2 :: x3 :: x4 :: x5 :: x6 :: .dat d :: δ)) Q R := by (try simp only [W_eq]); exact r_turn7
theorem x_well7 {x0 x1 x2 x3 x4 x5 x6 : Slot} {ms : Env → M (List Slot)} {δ : Env} {Q : List Slot → Prop} {R : Exn → Prop} : W (aWell 7 ms (x0 :: x1 :: x2 :: x3 :: x4 :: x5 :: x6 :: .well :: δ)) Q R = W (ms (x0 :: x1 :: x2 :: x3 :: x4 :: x5 :: x6 :: .well :: δ)) (fun ss => Q (.well :: ss)) R := by (try simp only [W_eq]); exact r_well7
theorem x_fz7 {x0 x1 x2 x3 x4 x5 x6 : Slot} {ds : List D} {m1 : Env → M Flow} {δ : Env} {Q : Flow → Prop} {R : Exn → Prop} : W (sFz 7 m1 (x0 :: x1 :: x2 :: x3 :: x4 :: x5 :: x6 :: .own ds :: δ)) Q R = W (m1 (x0 :: x1 :: x2 :: x3 :: x4 :: x5 :: x6 :: .dat (.list ds) :: δ)) Q R := by (try simp only [W_eq]); exact r_fz7
theorem x_var8 {x0 x1 x2 x3 x4 x5 x6 x7 : Slot} {d : D} {δ : Env} {Q : D → Prop} {R : Exn → Prop} : W (eVar 8 (x0 :: x1 :: x2 :: x3 :: x4 :: x5 :: x6 :: x7 :: .dat d :: δ)) Q R = Q d := by (try simp only [W_eq]); exact r_var8
theorem x_own8 {x0 x1 x2 x3 x4 x5 x6 x7 : Slot} {d : List D} {δ : Env} {Q : D → Prop} {R : Exn → Prop} : W (eOwn 8 (x0 :: x1 :: x2 :: x3 :: x4 :: x5 :: x6 :: x7 :: .own d :: δ)) Q R = Q (.list d) := by (try simp only [W_eq]); exact r_own8
theorem x_ownd8 {x0 x1 x2 x3 x4 x5 x6 x7 : Slot} {d : D} {δ : Env} {Q : D → Prop} {R : Exn → Prop} : W (eOwn 8 (x0 :: x1 :: x2 :: x3 :: x4 :: x5 :: x6 :: x7 :: .dat d :: δ)) Q R = Q d := by (try simp only [W_eq]); exact r_ownd8
theorem x_set8 {x0 x1 x2 x3 x4 x5 x6 x7 x8 : Slot} {me : Env → M D} {δ : Env} {Q : Flow → Prop} {R : Exn → Prop} : W (sSet 8 me (x0 :: x1 :: x2 :: x3 :: x4 :: x5 :: x6 :: x7 :: x8 :: δ)) Q R = W (me (x0 :: x1 :: x2 :: x3 :: x4 :: x5 :: x6 :: x7 :: x8 :: δ)) (fun d => Q (.next (x0 :: x1 :: x2 :: x3 :: x4 :: x5 :: x6 :: x7 :: .dat d :: δ))) R := by (try simp only [W_eq]); exact r_set8
theorem x_setF8 {x0 x1 x2 x3 x4 x5 x6 x7 x8 : Slot} {me : Env → M (List D)} {δ : Env} {Q : Flow → Prop} {R : Exn → Prop} : W (sSetF 8 me (x0 :: x1 :: x2 :: x3 :: x4 :: x5 :: x6 :: x7 :: x8 :: δ)) Q R = W (me (x0 :: x1 :: x2 :: x3 :: x4 :: x5 :: x6 :: x7 :: x8 :: δ)) (fun d => Q (.next (x0 :: x1 :: x2 :: x3 :: x4 :: x5 :: x6 :: x7 :: .own d :: δ))) R := by (try simp only [W_eq]); exact r_setF8
theorem x_turn8 {x0 x1 x2 x3 x4 x5 x6 x7 x8 : Slot} {mb : Env → M Flow} {d : D} {δ : Env} {Q : Flow → Prop} {R : Exn → Prop} : W (turn (gSet 8) mb d (x0 :: x1 :: x2 :: x3 :: x4 :: x5 :: x6 :: x7 :: x8 :: δ)) Q R = W (mb (x0 :: x1 :: x2 :: x3 :: x4 :: x5 :: x6 :: x7 :: .dat d :: δ)) Q R := by (try simp only [W_eq]); exact r_turn8
theorem x_well8 {x0 x1 x2 x3 x4 x5 x6 x7 : Slot} {ms : Env → M (List Slot)} {δ : Env} {Q : List Slot → Prop} {R : Exn → Prop} : W (aWell 8 ms (x0 :: x1 :: x2 :: x3 :: x4 :: x5 :: x6 :: x7 :: .well :: δ)) Q R = W (ms (x0 :: x1 :: x2 :: x3 :: x4 :: x5 :: x6 :: x7 :: .well :: δ)) (fun ss => Q (.well :: ss)) R := by (try simp only [W_eq]); exact r_well8
theorem x_fz8 {x0 x1 x2 x3 x4 x5 x6 x7 : Slot} {ds : List D} {m1 : Env → M Flow} {δ : Env} {Q : Flow → Prop} {R : Exn → Prop} : W (sFz 8 m1 (x0 :: x1 :: x2 :: x3 :: x4 :: x5 :: x6 :: x7 :: .own ds :: δ)) Q R = W (m1 (x0 :: x1 :: x2 :: x3 :: x4 :: x5 :: x6 :: x7 :: .dat (.list ds) :: δ)) Q R := by (try simp only [W_eq]); exact r_fz8
theorem x_var9 {x0 x1 x2 x3 x4 x5 x6 x7 x8 : Slot} {d : D} {δ : Env} {Q : D → Prop} {R : Exn → Prop} : W (eVar 9 (x0 :: x1 :: x2 :: x3 :: x4 :: x5 :: x6 :: x7 :: x8 :: .dat d :: δ)) Q R = Q d := by (try simp only [W_eq]); exact r_var9
theorem x_own9 {x0 x1 x2 x3 x4 x5 x6 x7 x8 : Slot} {d : List D} {δ : Env} {Q : D → Prop} {R : Exn → Prop} : W (eOwn 9 (x0 :: x1 :: x2 :: x3 :: x4 :: x5 :: x6 :: x7 :: x8 :: .own d :: δ)) Q R = Q (.list d) := by (try simp only [W_eq]); exact r_own9
theorem x_ownd9 {x0 x1 x2 x3 x4 x5 x6 x7 x8 : Slot} {d : D} {δ : Env} {Q : D → Prop} {R : Exn → Prop} : W (eOwn 9 (x0 :: x1 :: x2 :: x3 :: x4 :: x5 :: x6 :: x7 :: x8 :: .dat d :: δ)) Q R = Q d := by (try simp only [W_eq]); exact r_ownd9
theorem x_set9 {x0 x1 x2 x3 x4 x5 x6 x7 x8 x9 : Slot} {me : Env → M D} {δ : Env} {Q : Flow → Prop} {R : Exn → Prop} : W (sSet 9 me (x0 :: x1 :: x2 :: x3 :: x4 :: x5 :: x6 :: x7 :: x8 :: x9 :: δ)) Q R = W (me (x0 :: x1 :: x2 :: x3 :: x4 :: x5 :: x6 :: x7 :: x8 :: x9 :: δ)) (fun d => Q (.next (x0 :: x1 :: x2 :: x3 :: x4 :: x5 :: x6 :: x7 :: x8 :: .dat d :: δ))) R := by (try simp only [W_eq]); exact r_set9
theorem x_setF9 {x0 x1 x2 x3 x4 x5 x6 x7 x8 x9 : Slot} {me : Env → M (List D)} {δ : Env} {Q : Flow → Prop} {R : Exn → Prop} : W (sSetF 9 me (x0 :: x1 :: x2 :: x3 :: x4 :: x5 :: x6 :: x7 :: x8 :: x9 :: δ)) Q R = W (me (x0 :: x1 :: x2 :: x3 :: x4 :: x5 :: x6 :: x7 :: x8 :: x9 :: δ)) (fun d => Q (.next (x0 :: x1 :: x2 :: x3 :: x4 :: x5 :: x6 :: x7 :: x8 :: .own d :: δ))) R := by (try simp only [W_eq]); exact r_setF9
theorem x_turn9 {x0 x1 x2 x3 x4 x5 x6 x7 x8 x9 : Slot} {mb : Env → M Flow} {d : D} {δ : Env} {Q : Flow → Prop} {R : Exn → Prop} : W (turn (gSet 9) mb d (x0 :: x1 :: x2 :: x3 :: x4 :: x5 :: x6 :: x7 :: x8 :: x9 :: δ)) Q R = W (mb (x0 :: x1 :: x2 :: x3 :: x4 :: x5 :: x6 :: x7 :: x8 :: .dat d :: δ)) Q R := by (try simp only [W_eq]); exact r_turn9
theorem x_well9 {x0 x1 x2 x3 x4 x5 x6 x7 x8 : Slot} {ms : Env → M (List Slot)} {δ : Env} {Q : List Slot → Prop} {R : Exn → Prop} : W (aWell 9 ms (x0 :: x1 :: x2 :: x3 :: x4 :: x5 :: x6 :: x7 :: x8 :: .well :: δ)) Q R = W (ms (x0 :: x1 :: x2 :: x3 :: x4 :: x5 :: x6 :: x7 :: x8 :: .well :: δ)) (fun ss => Q (.well :: ss)) R := by (try simp only [W_eq]); exact r_well9
theorem x_fz9 {x0 x1 x2 x3 x4 x5 x6 x7 x8 : Slot} {ds : List D} {m1 : Env → M Flow} {δ : Env} {Q : Flow → Prop} {R : Exn → Prop} : W (sFz 9 m1 (x0 :: x1 :: x2 :: x3 :: x4 :: x5 :: x6 :: x7 :: x8 :: .own ds :: δ)) Q R = W (m1 (x0 :: x1 :: x2 :: x3 :: x4 :: x5 :: x6 :: x7 :: x8 :: .dat (.list ds) :: δ)) Q R := by (try simp only [W_eq]); exact r_fz9
theorem x_var10 {x0 x1 x2 x3 x4 x5 x6 x7 x8 x9 : Slot} {d : D} {δ : Env} {Q : D → Prop} {R : Exn → Prop} : W (eVar 10 (x0 :: x1 :: x2 :: x3 :: x4 :: x5 :: x6 :: x7 :: x8 :: x9 :: .dat d :: δ)) Q R = Q d := by (try simp only [W_eq]); exact r_var10
theorem x_own10 {x0 x1 x2 x3 x4 x5 x6 x7 x8 x9 : Slot} {d : List D} {δ : Env} {Q : D → Prop} {R : Exn → Prop} : W (eOwn 10 (x0 :: x1 :: x2 :: x3 :: x4 :: x5 :: x6 :: x7 :: x8 :: x9 :: .own d :: δ)) Q R = Q (.list d) := by (try simp only [W_eq]); exact r_own10
theorem x_ownd10 {x0 x1 x2 x3 x4 x5 x6 x7 x8 x9 : Slot} {d : D} {δ : Env} {Q : D → Prop} {R : Exn → Prop} : W (eOwn 10 (x0 :: x1 :: x2 :: x3 :: x4 :: x5 :: x6 :: x7 :: x8 :: x9 :: .dat d :: δ)) Q R = Q d := by (try simp only [W_eq]); exact r_ownd10
theorem x_set10 {x0 x1 x2 x3 x4 x5 x6 x7 x8 x9 x10 : Slot} {me : Env → M D} {δ : Env} {Q : Flow → Prop} {R : Exn → Prop} : W (sSet 10 me (x0 :: x1 :: x2 :: x3 :: x4 :: x5 :: x6 :: x7 :: x8 :: x9 :: x10 :: δ)) Q R = W (me (x0 :: x1 :: x2 :: x3 :: x4 :: x5 :: x6 :: x7 :: x8 :: x9 :: x10 :: δ)) (fun d => Q (.next (x0 :: x1 :: x2 :: x3 :: x4 :: x5 :: x6 :: x7 :: x8 :: x9 :: .dat d :: δ))) R := by (try simp only [W_eq]); exact r_set10
theorem x_setF10 {x0 x1 x2 x3 x4 x5 x6 x7 x8 x9 x10 : Slot} {me : Env → M (List D)} {δ : Env} {Q : Flow → Prop} {R : Exn → Prop} : W (sSetF 10 me (x0 :: x1 :: x2 :: x3 :: x4 :: x5 :: x6 :: x7 :: x8 :: x9 :: x10 :: δ)) Q R = W (me (x0 :: x1 :: x2 :: x3 :: x4 :: x5 :: x6 :: x7 :: x8 :: x9 :: x10 :: δ)) (fun d => Q (.next (x0 :: x1 :: x2 :: x3 :: x4 :: x5 :: x6 :: x7 :: x8 :: x9 :: .own d :: δ))) R := by (try simp only [W_eq]); exact r_setF10
theorem x_turn10 {x0 x1 x2 x3 x4 x5 x6 x7 x8 x9 x10 : Slot} {mb : Env → M Flow} {d : D} {δ : Env} {Q : Flow → Prop} {R : Exn → Prop} : W (turn (gSet 10) mb d (x0 :: x1 :: x2 :: x3 :: x4 :: x5 :: x6 :: x7 :: x8 :: x9 :: x10 :: δ)) Q R = W (mb (x0 :: x1 :: x2 :: x3 :: x4 :: x5 :: x6 :: x7 :: x8 :: x9 :: .dat d :: δ)) Q R := by (try simp only [W_eq]); exact r_turn10
theorem x_well10 {x0 x1 x2 x3 x4 x5 x6 x7 x8 x9 : Slot} {ms : Env → M (List Slot)} {δ : Env} {Q : List Slot → Prop} {R : Exn → Prop} : W (aWell 10 ms (x0 :: x1 :: x2 :: x3 :: x4 :: x5 :: x6 :: x7 :: x8 :: x9 :: .well :: δ)) Q R = W (ms (x0 :: x1 :: x2 :: x3 :: x4 :: x5 :: x6 :: x7 :: x8 :: x9 :: .well :: δ)) (fun ss => Q (.well :: ss)) R := by (try simp only [W_eq]); exact r_well10
theorem x_fz10 {x0 x1 x2 x3 x4 x5 x6 x7 x8 x9 : Slot} {ds : List D} {m1 : Env → M Flow} {δ : Env} {Q : Flow → Prop} {R : Exn → Prop} : W (sFz 10 m1 (x0 :: x1 :: x2 :: x3 :: x4 :: x5 :: x6 :: x7 :: x8 :: x9 :: .own ds :: δ)) Q R = W (m1 (x0 :: x1 :: x2 :: x3 :: x4 :: x5 :: x6 :: x7 :: x8 :: x9 :: .dat (.list ds) :: δ)) Q R := by (try simp only [W_eq]); exact r_fz10
theorem x_var11 {x0 x1 x2 x3 x4 x5 x6 x7 x8 x9 x10 : Slot} {d : D} {δ : Env} {Q : D → Prop} {R : Exn → Prop} : W (eVar 11 (x0 :: x1 :: x2 :: x3 :: x4 :: x5 :: x6 :: x7 :: x8 :: x9 :: x10 :: .dat d :: δ)) Q R = Q d := by (try simp only [W_eq]); exact r_var11
theorem x_own11 {x0 x1 x2 x3 x4 x5 x6 x7 x8 x9 x10 : Slot} {d : List D} {δ : Env} {Q : D → Prop} {R : Exn → Prop} : W (eOwn 11 (x0 :: x1 :: x2 :: x3 :: x4 :: x5 :: x6 :: x7 :: x8 :: x9 :: x10 :: .own d :: δ)) Q R = Q (.list d) := by (try simp only [W_eq]); exact r_own11
theorem x_ownd11 {x0 x1 x2 x3 x4 x5 x6 x7 x8 x9 x10 : Slot} {d : D} {δ : Env} {Q : D → Prop} {R : Exn → Prop} : W (eOwn 11 (x0 :: x1 :: x2 :: x3 :: x4 :: x5 :: x6 :: x7 :: x8 :: x9 :: x10 :: .dat d :: δ)) Q R = Q d := by (try simp only [W_eq]); exact r_ownd11
theorem x_set11 {x0 x1 x2 x3 x4 x5 x6 x7 x8 x9 x10 x11 : Slot} {me : Env → M D} {δ : Env} {Q : Flow → Prop} {R : Exn → Prop} : W (sSet 11 me (x0 :: x1 :: x2 :: x3 :: x4 :: x5 :: x6 :: x7 :: x8 :: x9 :: x10 :: x11 :: δ)) Q R = W (me (x0 :: x1 :: x2 :: x3 :: x4 :: x5 :: x6 :: x7 :: x8 :: x9 :: x10 :: x11 :: δ)) (fun d => Q (.next (x0 :: x1 :: x2 :: x3 :: x4 :: x5 :: x6 :: x7 :: x8 :: x9 :: x10 :: .dat d :: δ))) R := by (try simp only [W_eq]); exact r_set11
theorem x_setF11 {x0 x1 x2 x3 x4 x5 x6 x7 x8 x9 x10 x11 : Slot} {me : Env → M (List D)} {δ : Env} {Q : Flow → Prop} {R : Exn → Prop} : W (sSetF 11 me (x0 :: x1 :: x2 :: x3 :: x4 :: x5 :: x6 :: x7 :: x8 :: x9 :: x10 :: x11 :: δ)) Q R = W (me (x0 :: x1 :: x2 :: x3 :: x4 :: x5 :: x6 :: x7 :: x8 :: x9 :: x10 :: x11 :: δ)) (fun d => Q (.next (x0 :: x1 :: x2 :: x3 :: x4 :: x5 :: x6 :: x7 :: x8 :: x9 :: x10 :: .own d :: δ))) R := by (try simp only [W_eq]); exact r_setF11
theorem x_turn11 {x0 x1 x2 x3 x4 x5 x6 x7 x8 x9 x10 x11 : Slot} {mb : Env → M Flow} {d : D} {δ : Env} {Q : Flow → Prop} {R : Exn → Prop} : W (turn (gSet 11) mb d (x0 :: x1 :: x2 :: x3 :: x4 :: x5 :: x6 :: x7 :: x8 :: x9 :: x10 :: x11 :: δ)) Q R = W (mb (x0 :: x1 :: x2 :: x3 :: x4 :: x5 :: x6 :: x7 :: x8 :: x9 :: x10 :: .dat d :: δ)) Q R := by (try simp only [W_eq]); exact r_turn11
theorem x_well11 {x0 x1 x2 x3 x4 x5 x6 x7 x8 x9 x10 : Slot} {ms : Env → M (List Slot)} {δ : Env} {Q : List Slot → Prop} {R : Exn → Prop} : W (aWell 11 ms (x0 :: x1 :: x2 :: x3 :: x4 :: x5 :: x6 :: x7 :: x8 :: x9 :: x10 :: .well :: δ)) Q R = W (ms (x0 :: x1 :: x2 :: x3 :: x4 :: x5 :: x6 :: x7 :: x8 :: x9 :: x10 :: .well :: δ)) (fun ss => Q (.well :: ss)) R := by (try simp only [W_eq]); exact r_well11
theorem x_fz11 {x0 x1 x2 x3 x4 x5 x6 x7 x8 x9 x10 : Slot} {ds : List D} {m1 : Env → M Flow} {δ : Env} {Q : Flow → Prop} {R : Exn → Prop} : W (sFz 11 m1 (x0 :: x1 :: x2 :: x3 :: x4 :: x5 :: x6 :: x7 :: x8 :: x9 :: x10 :: .own ds :: δ)) Q R = W (m1 (x0 :: x1 :: x2 :: x3 :: x4 :: x5 :: x6 :: x7 :: x8 :: x9 :: x10 :: .dat (.list ds) :: δ)) Q R := by (try simp only [W_eq]); exact r_fz11
theorem x_var12 {x0 x1 x2 x3 x4 x5 x6 x7 x8 x9 x10 x11 : Slot} {d : D} {δ : Env} {Q : D → Prop} {R : Exn → Prop} : W (eVar 12 (x0 :: x1 :: x2 :: x3 :: x4 :: x5 :: x6 :: x7 :: x8 :: x9 :: x10 :: x11 :: .dat d :: δ)) Q R = Q d := by (try simp only [W_eq]); exact r_var12
theorem x_own12 {x0 x1 x2 x3 x4 x5 x6 x7 x8 x9 x10 x11 : Slot} {d : List D} {δ : Env} {Q : D → Prop} {R : Exn → Prop} : W (eOwn 12 (x0 :: x1 :: x2 :: x3 :: x4 :: x5 :: x6 :: x7 :: x8 :: x9 :: x10 :: x11 :: .own d :: δ)) Q R = Q (.list d) := by (try simp only [W_eq]); exact r_own12
theorem x_ownd12 {x0 x1 x2 x3 x4 x5 x6 x7 x8 x9 x10 x11 : Slot} {d : D} {δ : Env} {Q : D → Prop} {R : Exn → Prop} : W (eOwn 12 (x0 :: x1 :: x2 :: x3 :: x4 :: x5 :: x6 :: x7 :: x8 :: x9 :: x10 :: x11 :: .dat d :: δ)) Q R = Q d := by (try simp only [W_eq]); exact r_ownd12
theorem x_set12 {x0 x1 x2 x3 x4 x5 x6 x7 x8 x9 x10 x11 x12 : Slot} {me : Env → M D} {δ : Env} {Q : Flow → Prop} {R : Exn → Prop} : W (sSet 12 me (x0 :: x1 :: x2 :: x3 :: x4 :: x5 :: x6 :: x7 :: x8 :: x9 :: x10 :: x11 :: x12 :: δ)) Q R = W (me (x0 :: x1 :: x2 :: x3 :: x4 :: x5 :: x6 :: x7 :: x8 :: x9 :: x10 :: x11 :: x12 :: δ)) (fun d => Q (.next (x0 :: x1 :: x2 :: x3 :: x4 :: x5 :: x6 :: x7 :: x8 :: x9 :: x10 :: x11 :: .dat d :: δ))) R := by (try simp only [W_eq]); exact r_set12
theorem x_setF12 {x0 x1 x2 x3 x4 x5 x6 x7 x8 x9 x10 x11 x12 : Slot} {me : Env → M (List D)} {δ : Env} {Q : Flow → Prop} {R : Exn → Prop} : W (sSetF 12 me (x0 :: x1 :: x2 :: x3 :: x4 :: x5 :: x6 :: x7 :: x8 :: x9 :: x10 :: x11 :: x12 :: δ)) Q R = W (me (x0 :: x1 :: x2 :: x3 :: x4 :: x5 :: x6 :: x7 :: x8 :: x9 :: x10 :: x11 :: x12 :: δ)) (fun d => Q (.next (x0 :: x1 :: x2 :: x3 :: x4 :: x5 :: x6 :: x7 :: x8 :: x9 :: x10 :: x11 :: .own d :: δ))) R := by (try simp only [W_eq]); exact r_setF12
theorem x_turn12 {x0 x1 x2 x3 x4 x5 x6 x7 x8 x9 x10 x11 x12 : Slot} {mb : Env → M Flow} {d : D} {δ : Env} {Q : Flow → Prop} {R : Exn → Prop} : W (turn (gSet 12) mb d (x0 :: x1 :: x2 :: x3 :: x4 :: x5 :: x6 :: x7 :: x8 :: x9 :: x10 :: x11 :: x12 :: δ)) Q R = W (mb (x0 :: x1 :: x2 :: x3 :: x4 :: x5 :: x6 :: x7 :: x8 :: x9 :: x10 :: x11 :: .dat d :: δ)) Q R := by (try simp only [W_eq]); exact r_turn12
theorem x_well12 {x0 x1 x2 x3 x4 x5 x6 x7 x8 x9 x10 x11 : Slot} {ms : Env → M (List Slot)} {δ : Env} {Q : List Slot → Prop} {R : Exn → Prop} : W (aWell 12 ms (x0 :: x1 :: x2 :: x3 :: x4 :: x5 :: x6 :: x7 :: x8 :: x9 :: x10 :: x11 :: .well :: δ)) Q R = W (ms (x0 :: x1 :: x2 :: x3 :: x4 :: x5 :: x6 :: x7 :: x8 :: x9 :: x10 :: x11 :: .well :: δ)) (fun ss => Q (.well :: ss)) R := by (try simp only [W_eq]); exact r_well12
theorem x_fz12 {x0 x1 x2 x3 x4 x5 x6 x7 x8 x9 x10 x11 : Slot} {ds : List D} {m1 : Env → M Flow} {δ : Env} {Q : Flow → Prop} {R : Exn → Prop} : W (sFz 12 m1 (x0 :: x1 :: x2 :: x3 :: x4 :: x5 :: x6 :: x7 :: x8 :: x9 :: x10 :: x11 :: .own ds :: δ)) Q R = W (m1 (x0 :: x1 :: x2 :: x3 :: x4 :: x5 :: x6 :: x7 :: x8 :: x9 :: x10 :: x11 :: .dat (.list ds) :: δ)) Q R := by (try simp only [W_eq]); exact r_fz12
theorem x_var13 {x0 x1 x2 x3 x4 x5 x6 x7 x8 x9 x10 x11 x12 : Slot} {d : D} {δ : Env} {Q : D → Prop} {R : Exn → Prop} : W (eVar 13 (x0 :: x1 :: x2 :: x3 :: x4 :: x5 :: x6 :: x7 :: x8 :: x9 :: x10 :: x11 :: x12 :: .dat d :: δ)) Q R = Q d := by (try simp only [W_eq]); exact r_var13
theorem x_own13 {x0 x1 x2 x3 x4 x5 x6 x7 x8 x9 x10 x11 x12 : Slot} {d : List D} {δ : Env} {Q : D → Prop} {R : Exn → Prop} : W (eOwn 13 (x0 :: x1 :: x2 :: x3 :: x4 :: x5 :: x6 :: x7 :: x8 :: x9 :: x10 :: x11 :: x12 :: .own d :: δ)) Q R = Q (.list d) := by (try simp only [W_eq]); exact r_own13
theorem x_ownd13 {x0 x1 x2 x3 x4 x5 x6 x7 x8 x9 x10 x11 x12 : Slot} {d : D} {δ : Env} {Q : D → Prop} {R : Exn → Prop} : W (eOwn 13 (x0 :: x1 :: x2 :: x3 :: x4 :: x5 :: x6 :: x7 :: x8 :: x9 :: x10 :: x11 :: x12 :: .dat d :: δ)) Q R = Q d := by (try simp only [W_eq]); exact r_ownd13
theorem x_set13 {x0 x1 x2 x3 x4 x5 x6 x7 x8 x9 x10 x11 x12 x13 : Slot} {me : Env → M D} {δ : Env} {Q : Flow → Prop} {R : Exn → Prop} : W (sSet 13 me (x0 :: x1 :: x2 :: x3 :: x4 :: x5 :: x6 :: x7 :: x8 :: x9 :: x10 :: x11 :: x12 :: x13 :: δ)) Q R = W (me (x0 :: x1 :: x2 :: x3 :: x4 :: x5 :: x6 :: x7 :: x8 :: x9 :: x10 :: x11 :: x12 :: x13 :: δ)) (fun d => Q (.next (x0 :: x1 :: x2 :: x3 :: x4 :: x5 :: x6 :: x7 :: x8 :: x9 :: x10 :: x11 :: x12 :: .dat d :: δ))) R := by (try simp only [W_eq]); exact r_set13
theorem x_setF13 {x0 x1 x2 x3 x4 x5 x6 x7 x8 x9 x10 x11 x12 x13 : Slot} {me : Env → M (List D)} {δ : Env} {Q : Flow → Prop} {R : Exn → Prop} : W (sSetF 13 me (x0 :: x1 :: x2 :: x3 :: x4 :: x5 :: x6 :: x7 :: x8 :: x9 :: x10 :: x11 :: x12 :: x13 :: δ)) Q R = W (me (x0 :: x1 :: x2 :: x3 :: x4 :: x5 :: x6 :: x7 :: x8 :: x9 :: x10 :: x11 :: x12 :: x13 :: δ)) (fun d => Q (.next (x0 :: x1 :: x2 :: x3 :: x4 :: x5 :: x6 :: x7 :: x8 :: x9 :: x10 :: x11 :: x12 :: .own d :: δ))) R := by (try simp only [W_eq]); exact r_setF13
theorem x_turn13 {x0 x1 x2 x3 x4 x5 x6 x7 x8 x9 x10 x11 x12 x13 : Slot} {mb : Env → M Flow} {d : D} {δ : Env} {Q : Flow → Prop} {R : Exn → Prop} : W (turn (gSet 13) mb d (x0 :: x1 :: x2 :: x3 :: x4 :: x5 :: x6 :: x7 :: x8 :: x9 :: x10 :: x11 :: x12 :: x13 :: δ)) Q R = W (mb (x0 :: x1 :: x2 :: x3 :: x4 :: x5 :: x6 :: x7 :: x8 :: x9 :: x10 :: x11 :: x12 :: .dat d :: δ)) Q R := by (try simp only [W_eq]); exact r_turn13
theorem x_well13 {x0 x1 x2 x3 x4 x5 x6 x7 x8 x9 x10 x11 x12 : Slot} {ms : Env → M (List Slot)} {δ : Env} {Q : List Slot → Prop} {R : Exn → Prop} : W (aWell 13 ms (x0 :: x1 :: x2 :: x3 :: x4 :: x5 :: x6 :: x7 :: x8 :: x9 :: x10 :: x11 :: x12 :: .well :: δ)) Q R = W (ms (x0 :: x1 :: x2 :: x3 :: x4 :: x5 :: x6 :: x7 :: x8 :: x9 :: x10 :: x11 :: x12 :: .well :: δ)) (fun ss => Q (.well :: ss)) R := by (try simp only [W_eq]); exact r_well13
theorem x_fz13 {x0 x1 x2 x3 x4 x5 x6 x7 x8 x9 x10 x11 x12 : Slot} {ds : List D} {m1 : Env → M Flow} {δ : Env} {Q : Flow → Prop} {R : Exn → Prop} : W (sFz 13 m1 (x0 :: x1 :: x2 :: x3 :: x4 :: x5 :: x6 :: x7 :: x8 :: x9 :: x10 :: x11 :: x12 :: .own ds :: δ)) Q R = W (m1 (x0 :: x1 :: x2 :: x3 :: x4 :: x5 :: x6 :: x7 :: x8 :: x9 :: x10 :: x11 :: x12 :: .dat (.list ds) :: δ)) Q R := by (try simp only [W_eq]); exact r_fz13
theorem x_var14 {x0 x1 x2 x3 x4 x5 x6 x7 x8 x9 x10 x11 x12 x13 : Slot} {d : D} {δ : Env} {Q : D → Prop} {R : Exn → Prop} : W (eVar 14 (x0 :: x1 :: x2 :: x3 :: x4 :: x5 :: x6 :: x7 :: x8 :: x9 :: x10 :: x11 :: x12 :: x13 :: .dat d :: δ)) Q R = Q d := by (try simp only [W_eq]); exact r_var14
theorem x_own14 {x0 x1 x2 x3 x4 x5 x6 x7 x8 x9 x10 x11 x12 x13 : Slot} {d : List D} {δ : Env} {Q : D → Prop} {R : Exn → Prop} : W (eOwn 14 (x0 :: x1 :: x2 :: x3 :: x4 :: x5 :: x6 :: x7 :: x8 :: x9 :: x10 :: x11 :: x12 :: x13 :: .own d :: δ)) Q R = Q (.list d) := by (try simp only [W_eq]); exact r_own14
theorem x_ownd14 {x0 x1 x2 x3 x4 x5 x6 x7 x8 x9 x10 x11 x12 x13 : Slot} {d : D} {δ : Env} {Q : D → Prop} {R : Exn → Prop} : W (eOwn 14 (x0 :: x1 :: x2 :: x3 :: x4 :: x5 :: x6 :: x7 :: x8 :: x9 :: x10 :: x11 :: x12 :: x13 :: .dat d :: δ)) Q R = Q d := by (try simp only [W_eq]); exact r_ownd14
theorem x_set14 {x0 x1 x2 x3 x4 x5 x6 x7 x8 x9 x10 x11 x12 x13 x14 : Slot} {me : Env → M D} {δ : Env} {Q : Flow → Prop} {R : Exn → Prop} : W (sSet 14 me (x0 :: x1 :: x2 :: x3 :: x4 :: x5 :: x6 :: x7 :: x8 :: x9 :: x10 :: x11 :: x12 :: x13 :: x14 :: δ)) Q R = W (me (x0 :: x1 :: x2 :: x3 :: x4 :: x5 :: x6 :: x7 :: x8 :: x9 :: x10 :: x11 :: x12 :: x13 :: x14 :: δ)) (fun d => Q (.next (x0 :: x1 :: x2 :: x3 :: x4 :: x5 :: x6 :: x7 :: x8 :: x9 :: x10 :: x11 :: x12 :: x13 :: .dat d :: δ))) R := by (try simp only [W_eq]); exact r_set14
theorem x_setF14 {x0 x1 x2 x3 x4 x5 x6 x7 x8 x9 x10 x11 x12 x13 x14 : Slot} {me : Env → M (List D)} {δ : Env} {Q : Flow → Prop} {R : Exn → Prop} : W (sSetF 14 me (x0 :: x1 :: x2 :: x3 :: x4 :: x5 :: x6 :: x7 :: x8 :: x9 :: x10 :: x11 :: x12 :: x13 :: x14 :: δ)) Q R = W (me (x0 :: x1 :: x2 :: x3 :: x4 :: x5 :: x6 :: x7 :: x8 :: x9 :: x10 :: x11 :: x12 :: x13 :: x14 :: δ)) (fun d => Q (.next (x0 :: x1 :: x2 :: x3 :: x4 :: x5 :: x6 :: x7 :: x8 :: x9 :: x10 :: x11 :: x12 :: x13 :: .own d :: δ))) R := by (try simp only [W_eq]); exact r_setF14
theorem x_turn14 {x0 x1 x2 x3 x4 x5 x6 x7 x8 x9 x10 x11 x12 x13 x14 : Slot} {mb : Env → M Flow} {d : D} {δ : Env} {Q : Flow → Prop} {R : Exn → Prop} : W (turn (gSet 14) mb d (x0 :: x1 :: x2 :: x3 :: x4 :: x5 :: x6 :: x7 :: x8 :: x9 :: x10 :: x11 :: x12 :: x13 :: x14 :: δ)) Q R = W (mb (x0 :: x1 :: x2 :: x3 :: x4 :: x5 :: x6 :: x7 :: x8 :: x9 :: x10 :: x11 :: x12 :: x13 :: .dat d :: δ)) Q R := by (try simp only [W_eq]); exact r_turn14
theorem x_well14 {x0 x1 x2 x3 x4 x5 x6 x7 x8 x9 x10 x11 x12 x13 : Slot} {ms : Env → M (List Slot)} {δ : Env} {Q : List Slot → Prop} {R : Exn → Prop} : W (aWell 14 ms (x0 :: x1 :: x2 :: x3 :: x4 :: x5 :: x6 :: x7 :: x8 :: x9 :: x10 :: x11 :: x12 :: x13 :: .well :: δ)) Q R = W (ms (x0 :: x1 :: x2 :: x3 :: x4 :: x5 :: x6 :: x7 :: x8 :: x9 :: x10 :: x11 :: x12 :: x13 :: .well :: δ)) (fun ss => Q (.well :: ss)) R := by (try simp only [W_eq]); exact r_well14
theorem x_fz14 {x0 x1 x2 x3 x4 x5 x6 x7 x8 x9 x10 x11 x12 x13 : Slot} {ds : List D} {m1 : Env → M Flow} {δ : Env} {Q : Flow → Prop} {R : Exn → Prop} : W (sFz 14 m1 (x0 :: x1 :: x2 :: x3 :: x4 :: x5 :: x6 :: x7 :: x8 :: x9 :: x10 :: x11 :: x12 :: x13 :: .own ds :: δ)) Q R = W (m1 (x0 :: x1 :: x2 :: x3 :: x4 :: x5 :: x6 :: x7 :: x8 :: x9 :: x10 :: x11 :: x12 :: x13 :: .dat (.list ds) :: δ)) Q R := by (try simp only [W_eq]); exact r_fz14
theorem x_var15 {x0 x1 x2 x3 x4 x5 x6 x7 x8 x9 x10 x11 x12 x13 x14 : Slot} {d : D} {δ : Env} {Q : D → Prop} {R : Exn → Prop} : W (eVar 15 (x0 :: x1 :: x2 :: x3 :: x4 :: x5 :: x6 :: x7 :: x8 :: x9 :: x10 :: x11 :: x12 :: x13 :: x14 :: .dat d :: δ)) Q R = Q d := by (try simp only [W_eq]); exact r_var15
theorem x_own15 {x0 x1 x2 x3 x4 x5 x6 x7 x8 x9 x10 x11 x12 x13 x14 : Slot} {d : List D} {δ : Env} {Q : D → Prop} {R : Exn → Prop} : W (eOwn 15 (x0 :: x1 :: x2 :: x3 :: x4 :: x5 :: x6 :: x7 :: x8 :: x9 :: x10 :: x11 :: x12 :: x13 :: x14 :: .own d :: δ)) Q R = Q (.list d) := by (try simp only [W_eq]); exact r_own15
theorem x_ownd15 {x0 x1 x2 x3 x4 x5 x6 x7 x8 x9 x10 x11 x12 x13 x14 : Slot} {d : D} {δ : Env} {Q : D → Prop} {R : Exn → Prop} : W (eOwn 15 (x0 :: x1 :: x2 :: x3 :: x4 :: x5 :: x6 :: x7 :: x8 :: x9 :: x10 :: x11 :: x12 :: x13 :: x14 :: .dat d :: δ)) Q R = Q d := by (try simp only [W_eq]); exact r_ownd15
theorem x_set15 {x0 x1 x2 x3 x4 x5 x6 x7 x8 x9 x10 x11 x12 x13 x14 x15 : Slot} {me : Env → M D} {δ : Env} {Q : Flow → Prop} {R : Exn → Prop} : W (sSet 15 me (x0 :: x1 :: x2 :: x3 :: x4 :: x5 :: x6 :: x7 :: x8 :: x9 :: x10 :: x11 :: x12 :: x13 :: x14 :: x15 :: δ)) Q R = W (me (x0 :: x1 :: x2 :: x3 :: x4 :: x5 :: x6 :: x7 :: x8 :: x9 :: x10 :: x11 :: x12 :: x13 :: x14 :: x15 :: δ)) (fun d => Q (.next (x0 :: x1 :: x2 :: x3 :: x4 :: x5 :: x6 :: x7 :: x8 :: x9 :: x10 :: x11 :: x12 :: x13 :: x14 :: .dat d :: δ))) R := by (try simp only [W_eq]); exact r_set15
theorem x_setF15 {x0 x1 x2 x3 x4 x5 x6 x7 x8 x9 x10 x11 x12 x13 x14 x15 : Slot} {me : Env → M (List D)} {δ : Env} {Q : Flow → Prop} {R : Exn → Prop} : W (sSetF 15 me (x0 :: x1 :: x2 :: x3 :: x4 :: x5 :: x6 :: x7 :: x8 :: x9 :: x10 :: x11 :: x12 :: x13 :: x14 :: x15 :: δ)) Q R = W (me (x0 :: x1 :: x2 :: x3 :: x4 :: x5 :: x6 :: x7 :: x8 :: x9 :: x10 :: x11 :: x12 :: x13 :: x14 :: x15 :: δ)) (fun d => Q (.next (x0 :: x1 :: x2 :: x3 :: x4 :: x5 :: x6 :: x7 :: x8 :: x9 :: x10 :: x11 :: x12 :: x13 :: x14 :: .own d :: δ))) R := by (try simp only [W_eq]); exact r_setF15
theorem x_turn15 {x0 x1 x2 x3 x4 x5 x6 x7 x8 x9 x10 x11 x12 x13 x14 x15 : Slot} {mb : Env → M Flow} {d : D} {δ : Env} {Q : Flow → Prop} {R : Exn → Prop} : W (turn (gSet 15) mb d (x0 :: x1 :: x2 :: x3 :: x4 :: x5 :: x6 :: x7 :: x8 :: x9 :: x10 :: x11 :: x12 :: x13 :: x14 :: x15 :: δ)) Q R = W (mb (x0 :: x1 :: x2 :: x3 :: x4 :: x5 :: x6 :: x7 :: x8 :: x9 :: x10 :: x11 :: x12 :: x13 :: x14 :: .dat d :: δ)) Q R := by (try simp only [W_eq]); exact r_turn15
theorem x_well15 {x0 x1 x2 x3 x4 x5 x6 x7 x8 x9 x10 x11 x12 x13 x14 : Slot} {ms : Env → M (List Slot)} {δ : Env} {Q : List Slot → Prop} {R : Exn → Prop} : W (aWell 15 ms (x0 :: x1 :: x2 :: x3 :: x4 :: x5 :: x6 :: x7 :: x8 :: x9 :: x10 :: x11 :: x12 :: x13 :: x14 :: .well :: δ)) Q R = W (ms (x0 :: x1 :: x2 :: x3 :: x4 :: x5 :: x6 :: x7 :: x8 :: x9 :: x10 :: x11 :: x12 :: x13 :: x14 :: .well :: δ)) (fun ss => Q (.well :: ss)) R := by (try simp only [W_eq]); exact r_well15
theorem x_fz15 {x0 x1 x2 x3 x4 x5 x6 x7 x8 x9 x10 x11 x12 x13 x14 : Slot} {ds : List D} {m1 : Env → M Flow} {δ : Env} {Q : Flow → Prop} {R : Exn → Prop} : W (sFz 15 m1 (x0 :: x1 :: x2 :: x3 :: x4 :: x5 :: x6 :: x7 :: x8 :: x9 :: x10 :: x11 :: x12 :: x13 :: x14 :: .own ds :: δ)) Q R = W (m1 (x0 :: x1 :: x2 :: x3 :: x4 :: x5 :: x6 :: x7 :: x8 :: x9 :: x10 :: x11 :: x12 :: x13 :: x14 :: .dat (.list ds) :: δ)) Q R := by (try simp only [W_eq]); exact r_fz15
theorem x_bin {f : D → D → M D} {ma mb : Env → M D} {δ : Env} {Q : D → Prop} {R : Exn → Prop} : W (eBin f ma mb δ) Q R = W (ma δ) (fun x => W (mb δ) (fun y => W (f x y) Q R) R) R := by (try simp only [W_eq]); exact r_bin
theorem x_tbin {f : D → D → M D} {ma mb : Env → M D} {δ : Env} {Q : Bool → Prop} {R : Exn → Prop} : W (tBin f ma mb δ) Q R = W (ma δ) (fun x => W (mb δ) (fun y => W (f x y) (fun d => W (asB d) Q R) R) R) R := by (try simp only [W_eq]); exact r_tbin
theorem x_asB {k : Bool} {Q : Bool → Prop} {R : Exn → Prop} : W (asB (.bool k)) Q R = Q k := by (try simp only [W_eq]); exact r_asB
theorem x_asI {k : Int} {Q : Option Int → Prop} {R : Exn → Prop} : W (asI (.int k)) Q R = Q (some k) := by (try simp only [W_eq]); exact r_asI
theorem x_tval {me : Env → M D} {δ : Env} {Q : Bool → Prop} {R : Exn → Prop} : W (tVal me δ) Q R = W (me δ) (fun d => W (asB d) Q R) R := by (try simp only [W_eq]); exact r_tval
theorem x_tand {m1 m2 : Env → M Bool} {δ : Env} {Q : Bool → Prop} {R : Exn → Prop} : W (tAndM m1 m2 δ) Q R = W (m1 δ) (fun k => if k = true then W (m2 δ) Q R else Q false) R := by (try simp only [W_eq]); exact r_tand
theorem x_tor {m1 m2 : Env → M Bool} {δ : Env} {Q : Bool → Prop} {R : Exn → Prop} : W (tOrM m1 m2 δ) Q R = W (m1 δ) (fun k => if k = true then Q true else W (m2 δ) Q R) R := by (try simp only [W_eq]); exact r_tor
theorem x_tnot {m1 : Env → M Bool} {δ : Env} {Q : Bool → Prop} {R : Exn → Prop} : W (tNotM m1 δ) Q R = W (m1 δ) (fun k => Q (!k)) R := by (try simp only [W_eq]); exact r_tnot
theorem x_ttrue {δ : Env} {Q : Bool → Prop} {R : Exn → Prop} : W (tTrue δ) Q R = Q true := by (try simp only [W_eq]); exact r_ttrue
theorem x_eif {mt : Env → M Bool} {ma mb : Env → M D} {δ : Env} {Q : D → Prop} {R : Exn → Prop} : W (eIf mt ma mb δ) Q R = W (mt δ) (fun k => if k = true then W (ma δ) Q R else W (mb δ) Q R) R := by (try simp only [W_eq]); exact r_eif
theorem x_eand {ma mb : Env → M D} {δ : Env} {Q : D → Prop} {R : Exn → Prop} : W (eAnd ma mb δ) Q R = W (ma δ) (fun d => W (asB d) (fun k => if k = true then W (mb δ) Q R else Q (.bool false)) R) R := by (try simp only [W_eq]); exact r_eand
theorem x_eor {ma mb : Env → M D} {δ : Env} {Q : D → Prop} {R : Exn → Prop} : W (eOr ma mb δ) Q R = W (ma δ) (fun d => W (asB d) (fun k => if k = true then Q (.bool true) else W (mb δ) Q R) R) R := by (try simp only [W_eq]); exact r_eor
theorem x_enot {ma : Env → M D} {δ : Env} {Q : D → Prop} {R : Exn → Prop} : W (eNot ma δ) Q R = W (ma δ) (fun d => W (asB d) (fun k => Q (.bool (!k))) R) R := by (try simp only [W_eq]); exact r_enot
theorem x_raise {c : Str} {δ : Env} {Q : Flow → Prop} {R : Exn → Prop} : W (sRaise c δ) Q R = R ⟨c⟩ := by (try simp only [W_eq]); exact r_raise
theorem x_told {c t1 t2 : Str} {m : Env → M D} {δ : Env} {Q : D → Prop} {R : Exn → Prop} : W (eTold c t1 t2 m δ) Q R = W (m δ) (fun d => Q (.list [.str t1, d])) (fun e => e.cls = c ∧ Q (.list [.str t2])) := by (try simp only [W_eq]); exact r_told
theorem x_nil {δ : Env} {Q : Flow → Prop} {R : Exn → Prop} : W (sNil δ) Q R = Q (.next δ) := by (try simp only [W_eq]); exact r_nil
theorem x_seq {m1 m2 : Env → M Flow} {δ : Env} {Q : Flow → Prop} {R : Exn → Prop} : W (sSeq m1 m2 δ) Q R = W (m1 δ) (fun fl => W (andThen m2 fl) Q R) R := by (try simp only [W_eq]); exact r_seq
theorem x_then1 {m2 : Env → M Flow} {δ : Env} {Q : Flow → Prop} {R : Exn → Prop} : W (andThen m2 (.next δ)) Q R = W (m2 δ) Q R := by (try simp only [W_eq]); exact r_then1
theorem x_then2 {m2 : Env → M Flow} {d : D} {Q : Flow → Prop} {R : Exn → Prop} : W (andThen m2 (.retn d)) Q R = Q (.retn d) := by (try simp only [W_eq]); exact r_then2
theorem x_then3 {m2 : Env → M Flow} {δ : Env} {Q : Flow → Prop} {R : Exn → Prop} : W (andThen m2 (.brk δ)) Q R = Q (.brk δ) := by (try simp only [W_eq]); exact r_then3
theorem x_then4 {m2 : Env → M Flow} {δ : Env} {Q : Flow → Prop} {R : Exn → Prop} : W (andThen m2 (.cont δ)) Q R = Q (.cont δ) := by (try simp only [W_eq]); exact r_then4
theorem x_brk {δ : Env} {Q : Flow → Prop} {R : Exn → Prop} : W (sBrk δ) Q R = Q (.brk δ) := by (try simp only [W_eq]); exact r_brk
theorem x_cont {δ : Env} {Q : Flow → Prop} {R : Exn → Prop} : W (sCont δ) Q R = Q (.cont δ) := by (try simp only [W_eq]); exact r_cont
theorem x_sret {me : Env → M D} {δ : Env} {Q : Flow → Prop} {R : Exn → Prop} : W (sRet me δ) Q R = W (me δ) (fun d => Q (.retn d)) R := by (try simp only [W_eq]); exact r_sret
theorem x_sretN {δ : Env} {Q : Flow → Prop} {R : Exn → Prop} : W (sRetN δ) Q R = Q (.retn .none) := by (try simp only [W_eq]); exact r_sretN
theorem x_sexpr {me : Env → M D} {δ : Env} {Q : Flow → Prop} {R : Exn → Prop} : W (sExpr me δ) Q R = W (me δ) (fun _ => Q (.next δ)) R := by (try simp only [W_eq]); exact r_sexpr
theorem x_sif {mc : Env → M Bool} {m1 m2 : Env → M Flow} {δ : Env} {Q : Flow → Prop} {R : Exn → Prop} : W (sIf mc m1 m2 δ) Q R = W (mc δ) (fun k => if k = true then W (m1 δ) Q R else W (m2 δ) Q R) R := by (try simp only [W_eq]); exact r_sif
theorem x_end1 {d : D} {Q : D → Prop} {R : Exn → Prop} : W (ends (.retn d)) Q R = Q d := by (try simp only [W_eq]); exact r_end1
theorem x_end2 {δ : Env} {Q : D → Prop} {R : Exn → Prop} : W (ends (.next δ)) Q R = Q .none := by (try simp only [W_eq]); exact r_end2
theorem x_par {i j : Nat} {ms : Env → M (List D)} {δ : Env} {Q : Flow → Prop} {R : Exn → Prop} : W (sPar i j ms δ) Q R = W (ms δ) (fun ds => W (kPar i j ds δ) Q R) R := by (try simp only [W_eq]); exact r_par
theorem x_kpar {i j : Nat} {d1 d2 : D} {δ : Env} {Q : Flow → Prop} {R : Exn → Prop} : W (kPar i j [d1, d2] δ) Q R = W (sSet i (eC d1) δ) (fun fl => W (andThen (sSet j (eC d2)) fl) Q R) R := by (try simp only [W_eq]); exact r_kpar
theorem x_par3 {i j k : Nat} {ms : Env → M (List D)} {δ : Env} {Q : Flow → Prop} {R : Exn → Prop} : W (sPar3 i j k ms δ) Q R = W (ms δ) (fun ds => W (kPar3 i j k ds δ) Q R) R := by (try simp only [W_eq]); exact r_par3
theorem x_kpar3 {i j k : Nat} {d1 d2 d3 : D} {δ : Env} {Q : Flow → Prop} {R : Exn → Prop} : W (kPar3 i j k [d1, d2, d3] δ) Q R = W (sSet i (eC d1) δ) (fun fl => W (andThen (sSeq (sSet j (eC d2)) (sSet k (eC d3))) fl) Q R) R := by (try simp only [W_eq]); exact r_kpar3
theorem x_asg {g : D → Env → Option Env} {me : Env → M D} {δ : Env} {Q : Flow → Prop} {R : Exn → Prop} : W (sAsg g me δ) Q R = W (me δ) (fun d => W (kAsg g d δ) Q R) R := by (try simp only [W_eq]); exact r_asg
theorem x_kasgT {n : Nat} {gs : List D → Env → Option Env} {ds : List D} {δ : Env} {Q : Flow → Prop} {R : Exn → Prop} : W (kAsg (gTupE n gs) (.tuple ds) δ) Q R = (ds.length = n ∧ W (kAsgs gs ds δ) Q R) := by (try simp only [W_eq]); exact r_kasgT
theorem x_kasgL {n : Nat} {gs : List D → Env → Option Env} {ds : List D} {δ : Env} {Q : Flow → Prop} {R : Exn → Prop} : W (kAsg (gTupE n gs) (.list ds) δ) Q R = (ds.length = n ∧ W (kAsgs gs ds δ) Q R) := by (try simp only [W_eq]); exact r_kasgL
theorem x_kasgs0 {δ : Env} {Q : Flow → Prop} {R : Exn → Prop} : W (kAsgs gsNil [] δ) Q R = Q (.next δ) := by (try simp only [W_eq]); exact r_kasgs0
theorem x_kasgs1 {i : Nat} {gs : List D → Env → Option Env} {d : D} {ds : List D} {δ : Env} {Q : Flow → Prop} {R : Exn → Prop} : W (kAsgs (gsCons (gSet i) gs) (d :: ds) δ) Q R = W (sSet i (eC d) δ) (fun fl => W (andThen (kAsgs gs ds) fl) Q R) R := by (try simp only [W_eq]); exact r_kasgs1
theorem x_for {mi : Env → M (List D)} {g : D → Env → Option Env} {mb : Env → M Flow} {δ : Env} {Q : Flow → Prop} {R : Exn → Prop} : W (sFor mi g mb δ) Q R = W (mi δ) (fun ds => W (loopL (turn g mb) ds δ) Q R) R := by (try simp only [W_eq]); exact r_for
theorem x_iL {me : Env → M D} {δ : Env} {Q : List D → Prop} {R : Exn → Prop} : W (iL me δ) Q R = W (me δ) (fun d => W (asL d) Q R) R := by (try simp only [W_eq]); exact r_iL
theorem x_iT {me : Env → M D} {δ : Env} {Q : List D → Prop} {R : Exn → Prop} : W (iT me δ) Q R = W (me δ) (fun d => W (asT d) Q R) R := by (try simp only [W_eq]); exact r_iT
theorem x_iS {me : Env → M D} {δ : Env} {Q : List D → Prop} {R : Exn → Prop} : W (iS me δ) Q R = W (me δ) (fun d => W (asS d) Q R) R := by (try simp only [W_eq]); exact r_iS
theorem x_asL {ds : List D} {Q : List D → Prop} {R : Exn → Prop} : W (asL (.list ds)) Q R = Q ds := by (try simp only [W_eq]); exact r_asL
theorem x_asT {ds : List D} {Q : List D → Prop} {R : Exn → Prop} : W (asT (.tuple ds)) Q R = Q ds := by (try simp only [W_eq]); exact r_asT
theorem x_iR1 {ms : Env → M (List D)} {δ : Env} {Q : List D → Prop} {R : Exn → Prop} : W (iR1 ms δ) Q R = W (ms δ) (fun ds => W (kR1 ds) Q R) R := by (try simp only [W_eq]); exact r_iR1
theorem x_iR2 {ms : Env → M (List D)} {δ : Env} {Q : List D → Prop} {R : Exn → Prop} : W (iR2 ms δ) Q R = W (ms δ) (fun ds => W (kR2 ds) Q R) R := by (try simp only [W_eq]); exact r_iR2
theorem x_kR1 {j : Int} {Q : List D → Prop} {R : Exn → Prop} : W (kR1 [.int j]) Q R = ((-4611686018427387904 ≤ j ∧ j < 4611686018427387904) ∧ Q (rng 0 j.toNat)) := by (try simp only [W_eq]); exact r_kR1
theorem x_kR2 {i j : Int} {Q : List D → Prop} {R : Exn → Prop} : W (kR2 [.int i, .int j]) Q R = ((-4611686018427387904 ≤ i ∧ i < 4611686018427387904 ∧ -4611686018427387904 ≤ j ∧ j < 4611686018427387904) ∧ Q (rng i (j - i).toNat)) := by (try simp only [W_eq]); exact r_kR2
theorem x_lnil {δ : Env} {Q : List D → Prop} {R : Exn → Prop} : W (lNil δ) Q R = Q [] := by (try simp only [W_eq]); exact r_lnil
theorem x_lcons {me : Env → M D} {ms : Env → M (List D)} {δ : Env} {Q : List D → Prop} {R : Exn → Prop} : W (lCons me ms δ) Q R = W (me δ) (fun d => W (ms δ) (fun ds => Q (d :: ds)) R) R := by (try simp only [W_eq]); exact r_lcons
theorem x_anil {δ : Env} {Q : List Slot → Prop} {R : Exn → Prop} : W (aNil δ) Q R = Q [] := by (try simp only [W_eq]); exact r_anil
theorem x_acons {me : Env → M D} {ms : Env → M (List Slot)} {δ : Env} {Q : List Slot → Prop} {R : Exn → Prop} : W (aCons me ms δ) Q R = W (me δ) (fun d => W (ms δ) (fun ds => Q (.dat d :: ds)) R) R := by (try simp only [W_eq]); exact r_acons
theorem x_call {f : List Slot → M D} {ms : Env → M (List Slot)} {δ : Env} {Q : D → Prop} {R : Exn → Prop} : W (eCall f ms δ) Q R = W (ms δ) (fun ss => W (f ss) Q R) R := by (try simp only [W_eq]); exact r_call
theorem x_callK {g : List Slot → List Slot} {f : List Slot → M D} {ms : Env → M (List Slot)} {δ : Env} {Q : D → Prop} {R : Exn → Prop} : W (eCallK g f ms δ) Q R = W (ms δ) (fun ss => W (f (g ss)) Q R) R := by (try simp only [W_eq]); exact r_callK
theorem x_eB {g : List D → M D} {ms : Env → M (List D)} {δ : Env} {Q : D → Prop} {R : Exn → Prop} : W (eB g ms δ) Q R = W (ms δ) (fun ds => W (g ds) Q R) R := by (try simp only [W_eq]); exact r_eB
theorem x_eTup {ms : Env → M (List D)} {δ : Env} {Q : D → Prop} {R : Exn → Prop} : W (eTup ms δ) Q R = W (ms δ) (fun ds => W (mkT ds) Q R) R := by (try simp only [W_eq]); exact r_eTup
theorem x_fLst {ms : Env → M (List D)} {δ : Env} {Q : List D → Prop} {R : Exn → Prop} : W (fLst ms δ) Q R = W (ms δ) (fun ds => W (mkL ds) Q R) R := by (try simp only [W_eq]); exact r_fLst
theorem x_eFz {mf : Env → M (List D)} {δ : Env} {Q : D → Prop} {R : Exn → Prop} : W (eFz mf δ) Q R = W (mf δ) (fun ds => Q (.list ds)) R := by (try simp only [W_eq]); exact r_eFz
theorem x_mkT0 {Q : D → Prop} {R : Exn → Prop} : W (mkT []) Q R = Q (.tuple []) := by (try simp only [W_eq]); exact r_mkT0
theorem x_mkL0 {Q : List D → Prop} {R : Exn → Prop} : W (mkL []) Q R = Q [] := by (try simp only [W_eq]); exact r_mkL0
theorem x_mkT1 {x0 : D} {Q : D → Prop} {R : Exn → Prop} : W (mkT [x0]) Q R = Q (.tuple [x0]) := by (try simp only [W_eq]); exact r_mkT1
theorem x_mkL1 {x0 : D} {Q : List D → Prop} {R : Exn → Prop} : W (mkL [x0]) Q R = Q [x0] := by (try simp only [W_eq]); exact r_mkL1
theorem x_mkT2 {x0 x1 : D} {Q : D → Prop} {R : Exn → Prop} : W (mkT [x0, x1]) Q R = Q (.tuple [x0, x1]) := by (try simp only [W_eq]); exact r_mkT2
theorem x_mkL2 {x0 x1 : D} {Q : List D → Prop} {R : Exn → Prop} : W (mkL [x0, x1]) Q R = Q [x0, x1] := by (try simp only [W_eq]); exact r_mkL2
theorem x_mkT3 {x0 x1 x2 : D} {Q : D → Prop} {R : Exn → Prop} : W (mkT [x0, x1, x2]) Q R = Q (.tuple [x0, x1, x2]) := by (try simp only [W_eq]); exact r_mkT3
theorem x_mkL3 {x0 x1 x2 : D} {Q : List D → Prop} {R : Exn → Prop} : W (mkL [x0, x1, x2]) Q R = Q [x0, x1, x2] := by (try simp only [W_eq]); exact r_mkL3
theorem x_mkT4 {x0 x1 x2 x3 : D} {Q : D → Prop} {R : Exn → Prop} : W (mkT [x0, x1, x2, x3]) Q R = Q (.tuple [x0, x1, x2, x3]) := by (try simp only [W_eq]); exact r_mkT4
theorem x_mkL4 {x0 x1 x2 x3 : D} {Q : List D → Prop} {R : Exn → Prop} : W (mkL [x0, x1, x2, x3]) Q R = Q [x0, x1, x2, x3] := by (try simp only [W_eq]); exact r_mkL4
theorem x_mkT5 {x0 x1 x2 x3 x4 : D} {Q : D → Prop} {R : Exn → Prop} : W (mkT [x0, x1, x2, x3, x4]) Q R = Q (.tuple [x0, x1, x2, x3, x4]) := by (try simp only [W_eq]); exact r_mkT5
theorem x_mkL5 {x0 x1 x2 x3 x4 : D} {Q : List D → Prop} {R : Exn → Prop} : W (mkL [x0, x1, x2, x3, x4]) Q R = Q [x0, x1, x2, x3, x4] := by (try simp only [W_eq]); exact r_mkL5
theorem x_mkT6 {x0 x1 x2 x3 x4 x5 : D} {Q : D → Prop} {R : Exn → Prop} : W (mkT [x0, x1, x2, x3, x4, x5]) Q R = Q (.tuple [x0, x1, x2, x3, x4, x5]) := by (try simp only [W_eq]); exact r_mkT6
theorem x_mkL6 {x0 x1 x2 x3 x4 x5 : D} {Q : List D → Prop} {R : Exn → Prop} : W (mkL [x0, x1, x2, x3, x4, x5]) Q R = Q [x0, x1, x2, x3, x4, x5] := by (try simp only [W_eq]); exact r_mkL6
theorem x_mkT7 {x0 x1 x2 x3 x4 x5 x6 : D} {Q : D → Prop} {R : Exn → Prop} : W (mkT [x0, x1, x2, x3, x4, x5, x6]) Q R = Q (.tuple [x0, x1, x2, x3, x4, x5, x6]) := by (try simp only [W_eq]); exact r_mkT7
theorem x_mkL7 {x0 x1 x2 x3 x4 x5 x6 : D} {Q : List D → Prop} {R : Exn → Prop} : W (mkL [x0, x1, x2, x3, x4, x5, x6]) Q R = Q [x0, x1, x2, x3, x4, x5, x6] := by (try simp only [W_eq]); exact r_mkL7
theorem x_mkT8 {x0 x1 x2 x3 x4 x5 x6 x7 : D} {Q : D → Prop} {R : Exn → Prop} : W (mkT [x0, x1, x2, x3, x4, x5, x6, x7]) Q R = Q (.tuple [x0, x1, x2, x3, x4, x5, x6, x7]) := by (try simp only [W_eq]); exact r_mkT8
theorem x_mkL8 {x0 x1 x2 x3 x4 x5 x6 x7 : D} {Q : List D → Prop} {R : Exn → Prop} : W (mkL [x0, x1, x2, x3, x4, x5, x6, x7]) Q R = Q [x0, x1, x2, x3, x4, x5, x6, x7] := by (try simp only [W_eq]); exact r_mkL8
theorem x_mkT9 {x0 x1 x2 x3 x4 x5 x6 x7 x8 : D} {Q : D → Prop} {R : Exn → Prop} : W (mkT [x0, x1, x2, x3, x4, x5, x6, x7, x8]) Q R = Q (.tuple [x0, x1, x2, x3, x4, x5, x6, x7, x8]) := by (try simp only [W_eq]); exact r_mkT9
theorem x_mkL9 {x0 x1 x2 x3 x4 x5 x6 x7 x8 : D} {Q : List D → Prop} {R : Exn → Prop} : W (mkL [x0, x1, x2, x3, x4, x5, x6, x7, x8]) Q R = Q [x0, x1, x2, x3, x4, x5, x6, x7, x8] := by (try simp only [W_eq]); exact r_mkL9
theorem x_mkT10 {x0 x1 x2 x3 x4 x5 x6 x7 x8 x9 : D} {Q : D → Prop} {R : Exn → Prop} : W (mkT [x0, x1, x2, x3, x4, x5, x6, x7, x8, x9]) Q R = Q (.tuple [x0, x1, x2, x3, x4, x5, x6, x7, x8, x9]) := by (try simp only [W_eq]); exact r_mkT10
theorem x_mkL10 {x0 x1 x2 x3 x4 x5 x6 x7 x8 x9 : D} {Q : List D → Prop} {R : Exn → Prop} : W (mkL [x0, x1, x2, x3, x4, x5, x6, x7, x8, x9]) Q R = Q [x0, x1, x2, x3, x4, x5, x6, x7, x8, x9] := by (try simp only [W_eq]); exact r_mkL10
theorem x_mkT11 {x0 x1 x2 x3 x4 x5 x6 x7 x8 x9 x10 : D} {Q : D → Prop} {R : Exn → Prop} : W (mkT [x0, x1, x2, x3, x4, x5, x6, x7, x8, x9, x10]) Q R = Q (.tuple [x0, x1, x2, x3, x4, x5, x6, x7, x8, x9, x10]) := by (try simp only [W_eq]); exact r_mkT11
theorem x_mkL11 {x0 x1 x2 x3 x4 x5 x6 x7 x8 x9 x10 : D} {Q : List D → Prop} {R : Exn → Prop} : W (mkL [x0, x1, x2, x3, x4, x5, x6, x7, x8, x9, x10]) Q R = Q [x0, x1, x2, x3, x4, x5, x6, x7, x8, x9, x10] := by (try simp only [W_eq]); exact r_mkL11
theorem x_mkT12 {x0 x1 x2 x3 x4 x5 x6 x7 x8 x9 x10 x11 : D} {Q : D → Prop} {R : Exn → Prop} : W (mkT [x0, x1, x2, x3, x4, x5, x6, x7, x8, x9, x10, x11]) Q R = Q (.tuple [x0, x1, x2, x3, x4, x5, x6, x7, x8, x9, x10, x11]) := by (try simp only [W_eq]); exact r_mkT12
theorem x_mkL12 {x0 x1 x2 x3 x4 x5 x6 x7 x8 x9 x10 x11 : D} {Q : List D → Prop} {R : Exn → Prop} : W (mkL [x0, x1, x2, x3, x4, x5, x6, x7, x8, x9, x10, x11]) Q R = Q [x0, x1, x2, x3, x4, x5, x6, x7, x8, x9, x10, x11] := by (try simp only [W_eq]); exact r_mkL12
theorem x_mkT13 {x0 x1 x2 x3 x4 x5 x6 x7 x8 x9 x10 x11 x12 : D} {Q : D → Prop} {R : Exn → Prop} : W (mkT [x0, x1, x2, x3, x4, x5, x6, x7, x8, x9, x10, x11, x12]) Q R = Q (.tuple [x0, x1, x2, x3, x4, x5, x6, x7, x8, x9, x10, x11, x12]) := by (try simp only [W_eq]); exact r_mkT13
theorem x_mkL13 {x0 x1 x2 x3 x4 x5 x6 x7 x8 x9 x10 x11 x12 : D} {Q : List D → Prop} {R : Exn → Prop} : W (mkL [x0, x1, x2, x3, x4, x5, x6, x7, x8, x9, x10, x11, x12]) Q R = Q [x0, x1, x2, x3, x4, x5, x6, x7, x8, x9, x10, x11, x12] := by (try simp only [W_eq]); exact r_mkL13
theorem x_oNone {δ : Env} {Q : Option Int → Prop} {R : Exn → Prop} : W (oNone δ) Q R = Q none := by (try simp only [W_eq]); exact r_oNone
theorem x_oSome {me : Env → M D} {δ : Env} {Q : Option Int → Prop} {R : Exn → Prop} : W (oSome me δ) Q R = W (me δ) (fun d => W (asI d) Q R) R := by (try simp only [W_eq]); exact r_oSome
theorem x_eSl {me : Env → M D} {ml mh : Env → M (Option Int)} {δ : Env} {Q : D → Prop} {R : Exn → Prop} : W (eSl me ml mh δ) Q R = W (me δ) (fun d => W (ml δ) (fun lo => W (mh δ) (fun hi => W (dSl d lo hi) Q R) R) R) R := by (try simp only [W_eq]); exact r_eSl
theorem x_neg {me : Env → M D} {δ : Env} {Q : D → Prop} {R : Exn → Prop} : W (eNeg me δ) Q R = W (me δ) (fun d => W (kNeg d) Q R) R := by (try simp only [W_eq]); exact r_neg
theorem x_kneg {i : Int} {Q : D → Prop} {R : Exn → Prop} : W (kNeg (.int i)) Q R = Q (.int (-i)) := by (try simp only [W_eq]); exact r_kneg
theorem x_eM {g : Str → List D → M D} {me : Env → M D} {ms : Env → M (List D)} {δ : Env} {Q : D → Prop} {R : Exn → Prop} : W (eM g me ms δ) Q R = W (me δ) (fun d => W (kM g ms δ d) Q R) R := by (try simp only [W_eq]); exact r_eM
theorem x_kM {g : Str → List D → M D} {ms : Env → M (List D)} {δ : Env} {x : Str} {Q : D → Prop} {R : Exn → Prop} : W (kM g ms δ (.str x)) Q R = W (ms δ) (fun ds => W (g x ds) Q R) R := by (try simp only [W_eq]); exact r_kM
theorem x_drawM {n : Int} {Q : D → Prop} {R : Exn → Prop} : W (drawM [.well, .dat (.int n)]) Q R = ((0 < n ∧ n < 1073741824) ∧ ∀ r, 0 ≤ r → r < n → Q (.int r)) := by (try simp only [W_eq]); exact r_drawM
theorem x_lq1 {I : Env → Prop} {Q : Flow → Prop} {δ : Env} : LoopQ I Q (.next δ) = I δ := by (try simp only [W_eq]); exact r_lq1
theorem x_lq2 {I : Env → Prop} {Q : Flow → Prop} {δ : Env} : LoopQ I Q (.cont δ) = I δ := by (try simp only [W_eq]); exact r_lq2
theorem x_lq3 {I : Env → Prop} {Q : Flow → Prop} {δ : Env} : LoopQ I Q (.brk δ) = Q (.next δ) := by (try simp only [W_eq]); exact r_lq3
theorem x_lq4 {I : Env → Prop} {Q : Flow → Prop} {d : D} : LoopQ I Q (.retn d) = Q (.retn d) := by (try simp only [W_eq]); exact r_lq4
theorem x_cst0 {x0 : Slot} {mt : Env → M Bool} {me : Env → M D} {d : D} {δ : Env} {Q : Option D → Prop} {R : Exn → Prop} : W (compStep [0] (gSet 0) mt me (x0 :: δ) d) Q R = W (mt (.dat d :: δ)) (fun k => if k = true then W (me (.dat d :: δ)) (fun y => Q (some y)) R else Q none) R := by (try simp only [W_eq]); exact r_cst0
theorem x_cst1 {x0 x1 : Slot} {mt : Env → M Bool} {me : Env → M D} {d : D} {δ : Env} {Q : Option D → Prop} {R : Exn → Prop} : W (compStep [1] (gSet 1) mt me (x0 :: x1 :: δ) d) Q R = W (mt (x0 :: .dat d :: δ)) (fun k => if k = true then W (me (x0 :: .dat d :: δ)) (fun y => Q (some y)) R else Q none) R := by (try simp only [W_eq]); exact r_cst1
theorem x_cst2 {x0 x1 x2 : Slot} {mt : Env → M Bool} {me : Env → M D} {d : D} {δ : Env} {Q : Option D → Prop} {R : Exn → Prop} : W (compStep [2] (gSet 2) mt me (x0 :: x1 :: x2 :: δ) d) Q R = W (mt (x0 :: x1 :: .dat d :: δ)) (fun k => if k = true then W (me (x0 :: x1 :: .dat d :: δ)) (fun y => Q (some y)) R else Q none) R := by (try simp only [W_eq]); exact r_cst2
theorem x_cst3 {x0 x1 x2 x3 : Slot} {mt : Env → M Bool} {me : Env → M D} {d : D} {δ : Env} {Q : Option D → Prop} {R : Exn → Prop} : W (compStep [3] (gSet 3) mt me (x0 :: x1 :: x2 :: x3 :: δ) d) Q R = W (mt (x0 :: x1 :: x2 :: .dat d :: δ)) (fun k => if k = true then W (me (x0 :: x1 :: x2 :: .dat d :: δ)) (fun y => Q (some y)) R else Q none) R := by (try simp only [W_eq]); exact r_cst3
theorem x_cst4 {x0 x1 x2 x3 x4 : Slot} {mt : Env → M Bool} {me : Env → M D} {d : D} {δ : Env} {Q : Option D → Prop} {R : Exn → Prop} : W (compStep [4] (gSet 4) mt me (x0 :: x1 :: x2 :: x3 :: x4 :: δ) d) Q R = W (mt (x0 :: x1 :: x2 :: x3 :: .dat d :: δ)) (fun k => if k = true then W (me (x0 :: x1 :: x2 :: x3 :: .dat d :: δ)) (fun y => Q (some y)) R else Q none) R := by (try simp only [W_eq]); exact r_cst4
theorem x_cst5 {x0 x1 x2 x3 x4 x5 : Slot} {mt : Env → M Bool} {me : Env → M D} {d : D} {δ : Env} {Q : Option D → Prop} {R : Exn → Prop} : W (compStep [5] (gSet 5) mt me (x0 :: x1 :: x2 :: x3 :: x4 :: x5 :: δ) d) Q R = W (mt (x0 :: x1 :: x2 :: x3 :: x4 :: .dat d :: δ)) (fun k => if k = true then W (me (x0 :: x1 :: x2 :: x3 :: x4 :: .dat d :: δ)) (fun y => Q (some y)) R else Q none) R := by (try simp only [W_eq]); exact r_cst5
theorem x_cst6 {x0 x1 x2 x3 x4 x5 x6 : Slot} {mt : Env → M Bool} {me : Env → M D} {d : D} {δ : Env} {Q : Option D → Prop} {R : Exn → Prop} : W (compStep [6] (gSet 6) mt me (x0 :: x1 :: x2 :: x3 :: x4 :: x5 :: x6 :: δ) d) Q R = W (mt (x0 :: x1 :: x2 :: x3 :: x4 :: x5 :: .dat d :: δ)) (fun k => if k = true then W (me (x0 :: x1 :: x2 :: x3 :: x4 :: x5 :: .dat d :: δ)) (fun y => Q (some y)) R else Q none) R := by (try simp only [W_eq]); exact r_cst6
theorem x_cst7 {x0 x1 x2 x3 x4 x5 x6 x7 : Slot} {mt : Env → M Bool} {me : Env → M D} {d : D} {δ : Env} {Q : Option D → Prop} {R : Exn → Prop} : W (compStep [7] (gSet 7) mt me (x0 :: x1 :: x2 :: x3 :: x4 :: x5 :: x6 :: x7 :: δ) d) Q R = W (mt (x0 :: x1 :: x2 :: x3 :: x4 :: x5 :: x6 :: .dat d :: δ)) (fun k => if k = true then W (me (x0 :: x1 :: x2 :: x3 :: x4 :: x5 :: x6 :: .dat d :: δ)) (fun y => Q (some y)) R else Q none) R := by (try simp only [W_eq]); exact r_cst7
theorem x_cst8 {x0 x1 x2 x3 x4 x5 x6 x7 x8 : Slot} {mt : Env → M Bool} {me : Env → M D} {d : D} {δ : Env} {Q : Option D → Prop} {R : Exn → Prop} : W (compStep [8] (gSet 8) mt me (x0 :: x1 :: x2 :: x3 :: x4 :: x5 :: x6 :: x7 :: x8 :: δ) d) Q R = W (mt (x0 :: x1 :: x2 :: x3 :: x4 :: x5 :: x6 :: x7 :: .dat d :: δ)) (fun k => if k = true then W (me (x0 :: x1 :: x2 :: x3 :: x4 :: x5 :: x6 :: x7 :: .dat d :: δ)) (fun y => Q (some y)) R else Q none) R := by (try simp only [W_eq]); exact r_cst8
theorem x_cst9 {x0 x1 x2 x3 x4 x5 x6 x7 x8 x9 : Slot} {mt : Env → M Bool} {me : Env → M D} {d : D} {δ : Env} {Q : Option D → Prop} {R : Exn → Prop} : W (compStep [9] (gSet 9) mt me (x0 :: x1 :: x2 :: x3 :: x4 :: x5 :: x6 :: x7 :: x8 :: x9 :: δ) d) Q R = W (mt (x0 :: x1 :: x2 :: x3 :: x4 :: x5 :: x6 :: x7 :: x8 :: .dat d :: δ)) (fun k => if k = true then W (me (x0 :: x1 :: x2 :: x3 :: x4 :: x5 :: x6 :: x7 :: x8 :: .dat d :: δ)) (fun y => Q (some y)) R else Q none) R := by (try simp only [W_eq]); exact r_cst9
theorem x_cst10 {x0 x1 x2 x3 x4 x5 x6 x7 x8 x9 x10 : Slot} {mt : Env → M Bool} {me : Env → M D} {d : D} {δ : Env} {Q : Option D → Prop} {R : Exn → Prop} : W (compStep [10] (gSet 10) mt me (x0 :: x1 :: x2 :: x3 :: x4 :: x5 :: x6 :: x7 :: x8 :: x9 :: x10 :: δ) d) Q R = W (mt (x0 :: x1 :: x2 :: x3 :: x4 :: x5 :: x6 :: x7 :: x8 :: x9 :: .dat d :: δ)) (fun k => if k = true then W (me (x0 :: x1 :: x2 :: x3 :: x4 :: x5 :: x6 :: x7 :: x8 :: x9 :: .dat d :: δ)) (fun y => Q (some y)) R else Q none) R := by (try simp only [W_eq]); exact r_cst10
theorem x_cst11 {x0 x1 x2 x3 x4 x5 x6 x7 x8 x9 x10 x11 : Slot} {mt : Env → M Bool} {me : Env → M D} {d : D} {δ : Env} {Q : Option D → Prop} {R : Exn → Prop} : W (compStep [11] (gSet 11) mt me (x0 :: x1 :: x2 :: x3 :: x4 :: x5 :: x6 :: x7 :: x8 :: x9 :: x10 :: x11 :: δ) d) Q R = W (mt (x0 :: x1 :: x2 :: x3 :: x4 :: x5 :: x6 :: x7 :: x8 :: x9 :: x10 :: .dat d :: δ)) (fun k => if k = true then W (me (x0 :: x1 :: x2 :: x3 :: x4 :: x5 :: x6 :: x7 :: x8 :: x9 :: x10 :: .dat d :: δ)) (fun y => Q (some y)) R else Q none) R := by (try simp only [W_eq]); exact r_cst11
theorem x_cst12 {x0 x1 x2 x3 x4 x5 x6 x7 x8 x9 x10 x11 x12 : Slot} {mt : Env → M Bool} {me : Env → M D} {d : D} {δ : Env} {Q : Option D → Prop} {R : Exn → Prop} : W (compStep [12] (gSet 12) mt me (x0 :: x1 :: x2 :: x3 :: x4 :: x5 :: x6 :: x7 :: x8 :: x9 :: x10 :: x11 :: x12 :: δ) d) Q R = W (mt (x0 :: x1 :: x2 :: x3 :: x4 :: x5 :: x6 :: x7 :: x8 :: x9 :: x10 :: x11 :: .dat d :: δ)) (fun k => if k = true then W (me (x0 :: x1 :: x2 :: x3 :: x4 :: x5 :: x6 :: x7 :: x8 :: x9 :: x10 :: x11 :: .dat d :: δ)) (fun y => Q (some y)) R else Q none) R := by (try simp only [W_eq]); exact r_cst12
theorem x_cst13 {x0 x1 x2 x3 x4 x5 x6 x7 x8 x9 x10 x11 x12 x13 : Slot} {mt : Env → M Bool} {me : Env → M D} {d : D} {δ : Env} {Q : Option D → Prop} {R : Exn → Prop} : W (compStep [13] (gSet 13) mt me (x0 :: x1 :: x2 :: x3 :: x4 :: x5 :: x6 :: x7 :: x8 :: x9 :: x10 :: x11 :: x12 :: x13 :: δ) d) Q R = W (mt (x0 :: x1 :: x2 :: x3 :: x4 :: x5 :: x6 :: x7 :: x8 :: x9 :: x10 :: x11 :: x12 :: .dat d :: δ)) (fun k => if k = true then W (me (x0 :: x1 :: x2 :: x3 :: x4 :: x5 :: x6 :: x7 :: x8 :: x9 :: x10 :: x11 :: x12 :: .dat d :: δ)) (fun y => Q (some y)) R else Q none) R := by (try simp only [W_eq]); exact r_cst13
theorem x_cst14 {x0 x1 x2 x3 x4 x5 x6 x7 x8 x9 x10 x11 x12 x13 x14 : Slot} {mt : Env → M Bool} {me : Env → M D} {d : D} {δ : Env} {Q : Option D → Prop} {R : Exn → Prop} : W (compStep [14] (gSet 14) mt me (x0 :: x1 :: x2 :: x3 :: x4 :: x5 :: x6 :: x7 :: x8 :: x9 :: x10 :: x11 :: x12 :: x13 :: x14 :: δ) d) Q R = W (mt (x0 :: x1 :: x2 :: x3 :: x4 :: x5 :: x6 :: x7 :: x8 :: x9 :: x10 :: x11 :: x12 :: x13 :: .dat d :: δ)) (fun k => if k = true then W (me (x0 :: x1 :: x2 :: x3 :: x4 :: x5 :: x6 :: x7 :: x8 :: x9 :: x10 :: x11 :: x12 :: x13 :: .dat d :: δ)) (fun y => Q (some y)) R else Q none) R := by (try simp only [W_eq]); exact r_cst14
theorem x_cst15 {x0 x1 x2 x3 x4 x5 x6 x7 x8 x9 x10 x11 x12 x13 x14 x15 : Slot} {mt : Env → M Bool} {me : Env → M D} {d : D} {δ : Env} {Q : Option D → Prop} {R : Exn → Prop} : W (compStep [15] (gSet 15) mt me (x0 :: x1 :: x2 :: x3 :: x4 :: x5 :: x6 :: x7 :: x8 :: x9 :: x10 :: x11 :: x12 :: x13 :: x14 :: x15 :: δ) d) Q R = W (mt (x0 :: x1 :: x2 :: x3 :: x4 :: x5 :: x6 :: x7 :: x8 :: x9 :: x10 :: x11 :: x12 :: x13 :: x14 :: .dat d :: δ)) (fun k => if k = true then W (me (x0 :: x1 :: x2 :: x3 :: x4 :: x5 :: x6 :: x7 :: x8 :: x9 :: x10 :: x11 :: x12 :: x13 :: x14 :: .dat d :: δ)) (fun y => Q (some y)) R else Q none) R := by (try simp only [W_eq]); exact r_cst15
theorem x_dStrI {a : Int} {Q : D → Prop} {R : Exn → Prop} : W (dStr [.int a]) Q R = (a.natAbs.log2 < 1920 ∧ Q (.str (toString a))) := by (try simp only [W_eq]); exact r_dStrI
theorem x_dAdd {a b : Int} {Q : D → Prop} {R : Exn → Prop} : W (dAdd (.int a) (.int b)) Q R = Q (.int (a + b)) := by (try simp only [W_eq]); exact r_dAdd
theorem x_dSub {a b : Int} {Q : D → Prop} {R : Exn → Prop} : W (dSub (.int a) (.int b)) Q R = Q (.int (a - b)) := by (try simp only [W_eq]); exact r_dSub
theorem x_dMul {a b : Int} {Q : D → Prop} {R : Exn → Prop} : W (dMul (.int a) (.int b)) Q R = ((((-18446744073709551616 < a ∧ a < 18446744073709551616) ∨ (-18446744073709551616 < b ∧ b < 18446744073709551616)) ∨ a.natAbs.log2 + b.natAbs.log2 < 1000000) ∧ Q (.int (a * b))) := by (try simp only [W_eq]); exact r_dMul
theorem x_dFdiv {a b : Int} {Q : D → Prop} {R : Exn → Prop} : W (dFdiv (.int a) (.int b)) Q R = ((0 < b ∧ b < 1073741824) ∧ Q (.int (a / b))) := by (try simp only [W_eq]); exact r_dFdiv
theorem x_dMod {a b : Int} {Q : D → Prop} {R : Exn → Prop} : W (dMod (.int a) (.int b)) Q R = (0 < b ∧ Q (.int (a % b))) := by (try simp only [W_eq]); exact r_dMod
theorem x_dShr {a b : Int} {Q : D → Prop} {R : Exn → Prop} : W (dShr (.int a) (.int b)) Q R = (0 ≤ b ∧ Q (.int (a / 2 ^ b.toNat))) := by (try simp only [W_eq]); exact r_dShr
theorem x_dLt {a b : Int} {Q : D → Prop} {R : Exn → Prop} : W (dLt (.int a) (.int b)) Q R = Q (.bool (decide (a < b))) := by (try simp only [W_eq]); exact r_dLt
theorem x_dLe {a b : Int} {Q : D → Prop} {R : Exn → Prop} : W (dLe (.int a) (.int b)) Q R = Q (.bool (decide (a ≤ b))) := by (try simp only [W_eq]); exact r_dLe
theorem x_dGt {a b : Int} {Q : D → Prop} {R : Exn → Prop} : W (dGt (.int a) (.int b)) Q R = Q (.bool (decide (b < a))) := by (try simp only [W_eq]); exact r_dGt
theorem x_dGe {a b : Int} {Q : D → Prop} {R : Exn → Prop} : W (dGe (.int a) (.int b)) Q R = Q (.bool (decide (b ≤ a))) := by (try simp only [W_eq]); exact r_dGe
theorem x_dEqI {a b : Int} {Q : D → Prop} {R : Exn → Prop} : W (dEq (.int a) (.int b)) Q R = Q (.bool (decide (a = b))) := by (try simp only [W_eq]); exact r_dEqI
theorem x_dNeI {a b : Int} {Q : D → Prop} {R : Exn → Prop} : W (dNe (.int a) (.int b)) Q R = Q (.bool (!decide (a = b))) := by (try simp only [W_eq]); exact r_dNeI
theorem x_dEqS {a b : List Nat} {Q : D → Prop} {R : Exn → Prop} : W (dEq (.str (S a)) (.str (S b))) Q R = Q (.bool (decide (a = b))) := by (try simp only [W_eq]); exact r_dEqS
theorem x_dNeS {a b : List Nat} {Q : D → Prop} {R : Exn → Prop} : W (dNe (.str (S a)) (.str (S b))) Q R = Q (.bool (!decide (a = b))) := by (try simp only [W_eq]); exact r_dNeS
theorem x_dMin {a b : Int} {Q : D → Prop} {R : Exn → Prop} : W (dMin [.int a, .int b]) Q R = Q (.int (min a b)) := by (try simp only [W_eq]); exact r_dMin
theorem x_dMax {a b : Int} {Q : D → Prop} {R : Exn → Prop} : W (dMax [.int a, .int b]) Q R = Q (.int (max a b)) := by (try simp only [W_eq]); exact r_dMax
theorem x_dInt {a : Int} {Q : D → Prop} {R : Exn → Prop} : W (dInt [.int a]) Q R = Q (.int a) := by (try simp only [W_eq]); exact r_dInt
theorem x_dLenL {a : List D} {Q : D → Prop} {R : Exn → Prop} : W (dLen [.list a]) Q R = Q (.int a.length) := by (try simp only [W_eq]); exact r_dLenL
theorem x_dLenT {a : List D} {Q : D → Prop} {R : Exn → Prop} : W (dLen [.tuple a]) Q R = Q (.int a.length) := by (try simp only [W_eq]); exact r_dLenT
theorem x_dPow {a b : Int} {Q : D → Prop} {R : Exn → Prop} : W (dPow (.int a) (.int b)) Q R = ((0 ≤ b ∧ b ≤ 1000000 ∧ a.natAbs < 18446744073709551616) ∧ Q (.int (a ^ b.toNat))) := by (try simp only [W_eq]); exact r_dPow
theorem x_rg1 {ma : Env → M D} {δ : Env} {Q : List D → Prop} {R : Exn → Prop} : W (fRg1 ma δ) Q R = W (ma δ) (fun b => W (rgL (.int 0) b) Q R) R := by (try simp only [W_eq]); exact r_rg1
theorem x_rg2 {ma mb : Env → M D} {δ : Env} {Q : List D → Prop} {R : Exn → Prop} : W (fRg2 ma mb δ) Q R = W (ma δ) (fun a => W (mb δ) (fun b => W (rgL a b) Q R) R) R := by (try simp only [W_eq]); exact r_rg2
theorem x_rgL {a b : Int} {Q : List D → Prop} {R : Exn → Prop} : W (rgL (.int a) (.int b)) Q R = (((-4611686018427387904 ≤ a ∧ a < 4611686018427387904 ∧ -4611686018427387904 ≤ b ∧ b < 4611686018427387904) ∧ (b - a).toNat ≤ 16777216) ∧ Q (rng a (b - a).toNat)) := by (try simp only [W_eq]); exact r_rgL
theorem x_cat {ma mb : Env → M D} {δ : Env} {Q : List D → Prop} {R : Exn → Prop} : W (fCat ma mb δ) Q R = W (ma δ) (fun a => W (mb δ) (fun b => W (catL a b) Q R) R) R := by (try simp only [W_eq]); exact r_cat
theorem x_catL {a b : List D} {Q : List D → Prop} {R : Exn → Prop} : W (catL (.list a) (.list b)) Q R = W (mkL (a ++ b)) Q R := by (try simp only [W_eq]); exact r_catL
theorem x_dAddL {a b : List D} {Q : D → Prop} {R : Exn → Prop} : W (dAdd (.list a) (.list b)) Q R = (a.length + b.length ≤ 16777216 ∧ Q (.list (a ++ b))) := by (try simp only [W_eq]); exact r_dAddL
theorem x_isN0 {Q : D → Prop} {R : Exn → Prop} : W (dIsN .none .none) Q R = Q (.bool true) := by (try simp only [W_eq]); exact r_isN0
theorem x_isN1 {i : Int} {Q : D → Prop} {R : Exn → Prop} : W (dIsN (.int i) .none) Q R = Q (.bool false) := by (try simp only [W_eq]); exact r_isN1
theorem x_notN0 {Q : D → Prop} {R : Exn → Prop} : W (dNotN .none .none) Q R = Q (.bool false) := by (try simp only [W_eq]); exact r_notN0
theorem x_notN1 {i : Int} {Q : D → Prop} {R : Exn → Prop} : W (dNotN (.int i) .none) Q R = Q (.bool true) := by (try simp only [W_eq]); exact r_notN1
theorem x_setZ {i : Nat} {mf : Env → M (List D)} {δ : Env} {Q : Flow → Prop} {R : Exn → Prop} : W (sSetZ i mf δ) Q R = W (mf δ) (fun ds => W (sSet i (eC (.list ds)) δ) Q R) R := by (try simp only [W_eq]); exact r_setZ
theorem x_dLenS {a : List Nat} {Q : D → Prop} {R : Exn → Prop} : W (dLen [.str (S a)]) Q R = (a.length ≤ 16777216 ∧ Q (.int a.length)) := by (try simp only [W_eq]); exact r_dLenS
theorem x_dAddS {a b : List Nat} {Q : D → Prop} {R : Exn → Prop} : W (dAdd (.str (S a)) (.str (S b))) Q R = (a.length + b.length ≤ 16777216 ∧ Q (.str (S (a ++ b)))) := by (try simp only [W_eq]); exact r_dAddS
theorem x_dSlS {a : List Nat} {lo hi : Option Int} {Q : D → Prop} {R : Exn → Prop} : W (dSl (.str (S a)) lo hi) Q R = (a.length ≤ 16777216 ∧ Q (.str (S (cutL a lo hi)))) := by (try simp only [W_eq]); exact r_dSlS
theorem x_dMulS {a : List Nat} {n : Int} {Q : D → Prop} {R : Exn → Prop} : W (dMul (.str (S a)) (.int n)) Q R = ((-9223372036854775808 ≤ n ∧ n < 9223372036854775808 ∧ a.length * n.toNat ≤ 16777216) ∧ Q (.str (S (rep n.toNat a)))) := by (try simp only [W_eq]); exact r_dMulS
theorem x_dIxS {a : List Nat} {i : Int} {Q : D → Prop} {R : Exn → Prop} : W (dIx (.str (S a)) (.int i)) Q R = (a.length ≤ 16777216 ∧ ∃ c, atI a i = some c ∧ Q (.str (S [c]))) := by (try simp only [W_eq]); exact r_dIxS
theorem x_dIxL {a : List D} {i : Int} {Q : D → Prop} {R : Exn → Prop} : W (dIx (.list a) (.int i)) Q R = (∃ d, atI a i = some d ∧ Q d) := by (try simp only [W_eq]); exact r_dIxL
theorem x_dIxT0 {d : D} {a : List D} {Q : D → Prop} {R : Exn → Prop} : W (dIx (.tuple (d :: a)) (.int 0)) Q R = Q d := by (try simp only [W_eq]); exact r_dIxT0
theorem x_dIxT1 {d d' : D} {a : List D} {Q : D → Prop} {R : Exn → Prop} : W (dIx (.tuple (d :: d' :: a)) (.int 1)) Q R = Q d' := by (try simp only [W_eq]); exact r_dIxT1
theorem x_find3 {a b : Str} {i : Int} {Q : D → Prop} {R : Exn → Prop} : W (mFind a [.str b, .int i]) Q R = Q (.int (Txt.find3 a b i)) := by (try simp only [W_eq]); exact r_find3
theorem x_comp {vs : List Nat} {mi : Env → M (List D)} {g : D → Env → Option Env} {mt : Env → M Bool} {me : Env → M D} {δ : Env} {Q : List D → Prop} {R : Exn → Prop} : W (fComp vs mi g mt me δ) Q R = W (mi δ) (fun ds => ds.length ≤ 16777216 ∧ W ((compL (compStep vs g mt me δ) ds).calm) Q R) R := by (try simp only [W_eq]); exact r_comp
theorem x_iA {me : Env → M D} {δ : Env} {Q : List D → Prop} {R : Exn → Prop} : W (iA me δ) Q R = W (me δ) (fun d => W (asA d) Q R) R := by (try simp only [W_eq]); exact r_iA
theorem x_asAL {ds : List D} {Q : List D → Prop} {R : Exn → Prop} : W (asA (.list ds)) Q R = Q ds := by (try simp only [W_eq]); exact r_asAL
theorem x_asAT {ds : List D} {Q : List D → Prop} {R : Exn → Prop} : W (asA (.tuple ds)) Q R = Q ds := by (try simp only [W_eq]); exact r_asAT
theorem x_asAS {x : Str} {Q : List D → Prop} {R : Exn → Prop} : W (asA (.str x)) Q R = Q (chars x) := by (try simp only [W_eq]); exact r_asAS
theorem x_iEn {me : Env → M D} {δ : Env} {Q : List D → Prop} {R : Exn → Prop} : W (iEn me δ) Q R = W (me δ) (fun d => W (enD d) Q R) R := by (try simp only [W_eq]); exact r_iEn
theorem x_enDL {ds : List D} {Q : List D → Prop} {R : Exn → Prop} : W (enD (.list ds)) Q R = Q (enumL ds) := by (try simp only [W_eq]); exact r_enDL
theorem x_enDT {ds : List D} {Q : List D → Prop} {R : Exn → Prop} : W (enD (.tuple ds)) Q R = Q (enumL ds) := by (try simp only [W_eq]); exact r_enDT
theorem x_enDS {x : Str} {Q : List D → Prop} {R : Exn → Prop} : W (enD (.str x)) Q R = Q (enumL (chars x)) := by (try simp only [W_eq]); exact r_enDS
theorem x_iZp {ms : Env → M (List D)} {δ : Env} {Q : List D → Prop} {R : Exn → Prop} : W (iZp ms δ) Q R = W (ms δ) (fun ds => W (zpD ds) Q R) R := by (try simp only [W_eq]); exact r_iZp
theorem x_zpDL {xs ys : List D} {Q : List D → Prop} {R : Exn → Prop} : W (zpD [.list xs, .list ys]) Q R = Q (zipL xs ys) := by (try simp only [W_eq]); exact r_zpDL
theorem x_zpDT {xs ys : List D} {Q : List D → Prop} {R : Exn → Prop} : W (zpD [.tuple xs, .tuple ys]) Q R = Q (zipL xs ys) := by (try simp only [W_eq]); exact r_zpDT
theorem x_dDivmod {a b : Int} {Q : D → Prop} {R : Exn → Prop} : W (dDivmod [.int a, .int b]) Q R = ((0 < b ∧ b < 1073741824) ∧ Q (.tuple [.int (a / b), .int (a % b)])) := by (try simp only [W_eq]); exact r_dDivmod
theorem x_isi {T : String} {ma : Env → M D} {δ : Env} {Q : D → Prop} {R : Exn → Prop} : W (eIsi T ma δ) Q R = W (ma δ) (fun d => Q (.bool (isTy T d))) R := by (try simp only [W_eq]); exact r_isi
theorem x_isTy_int_none  : isTy "int" (.none) = false := by (try simp only [W_eq]); exact r_isTy_int_none
theorem x_isTy_int_bool {x : Bool}  : isTy "int" (.bool x) = true := by (try simp only [W_eq]); exact r_isTy_int_bool
theorem x_isTy_int_int {x : Int}  : isTy "int" (.int x) = true := by (try simp only [W_eq]); exact r_isTy_int_int
theorem x_isTy_int_str {x : Str}  : isTy "int" (.str x) = false := by (try simp only [W_eq]); exact r_isTy_int_str
theorem x_isTy_int_list {x : List D}  : isTy "int" (.list x) = false := by (try simp only [W_eq]); exact r_isTy_int_list
theorem x_isTy_int_tuple {x : List D}  : isTy "int" (.tuple x) = false := by (try simp only [W_eq]); exact r_isTy_int_tuple
theorem x_isTy_bool_none  : isTy "bool" (.none) = false := by (try simp only [W_eq]); exact r_isTy_bool_none
theorem x_isTy_bool_bool {x : Bool}  : isTy "bool" (.bool x) = true := by (try simp only [W_eq]); exact r_isTy_bool_bool
theorem x_isTy_bool_int {x : Int}  : isTy "bool" (.int x) = false := by (try simp only [W_eq]); exact r_isTy_bool_int
theorem x_isTy_bool_str {x : Str}  : isTy "bool" (.str x) = false := by (try simp only [W_eq]); exact r_isTy_bool_str
theorem x_isTy_bool_list {x : List D}  : isTy "bool" (.list x) = false := by (try simp only [W_eq]); exact r_isTy_bool_list
theorem x_isTy_bool_tuple {x : List D}  : isTy "bool" (.tuple x) = false := by (try simp only [W_eq]); exact r_isTy_bool_tuple
theorem x_isTy_str_none  : isTy "str" (.none) = false := by (try simp only [W_eq]); exact r_isTy_str_none
theorem x_isTy_str_bool {x : Bool}  : isTy "str" (.bool x) = false := by (try simp only [W_eq]); exact r_isTy_str_bool
theorem x_isTy_str_int {x : Int}  : isTy "str" (.int x) = false := by (try simp only [W_eq]); exact r_isTy_str_int
theorem x_isTy_str_str {x : Str}  : isTy "str" (.str x) = true := by (try simp only [W_eq]); exact r_isTy_str_str
theorem x_isTy_str_list {x : List D}  : isTy "str" (.list x) = false := by (try simp only [W_eq]); exact r_isTy_str_list
theorem x_isTy_str_tuple {x : List D}  : isTy "str" (.tuple x) = false := by (try simp only [W_eq]); exact r_isTy_str_tuple
theorem x_isTy_list_none  : isTy "list" (.none) = false := by (try simp only [W_eq]); exact r_isTy_list_none
theorem x_isTy_list_bool {x : Bool}  : isTy "list" (.bool x) = false := by (try simp only [W_eq]); exact r_isTy_list_bool
theorem x_isTy_list_int {x : Int}  : isTy "list" (.int x) = false := by (try simp only [W_eq]); exact r_isTy_list_int
theorem x_isTy_list_str {x : Str}  : isTy "list" (.str x) = false := by (try simp only [W_eq]); exact r_isTy_list_str
theorem x_isTy_list_list {x : List D}  : isTy "list" (.list x) = true := by (try simp only [W_eq]); exact r_isTy_list_list
theorem x_isTy_list_tuple {x : List D}  : isTy "list" (.tuple x) = false := by (try simp only [W_eq]); exact r_isTy_list_tuple
theorem x_isTy_tuple_none  : isTy "tuple" (.none) = false := by (try simp only [W_eq]); exact r_isTy_tuple_none
theorem x_isTy_tuple_bool {x : Bool}  : isTy "tuple" (.bool x) = false := by (try simp only [W_eq]); exact r_isTy_tuple_bool
theorem x_isTy_tuple_int {x : Int}  : isTy "tuple" (.int x) = false := by (try simp only [W_eq]); exact r_isTy_tuple_int
theorem x_isTy_tuple_str {x : Str}  : isTy "tuple" (.str x) = false := by (try simp only [W_eq]); exact r_isTy_tuple_str
theorem x_isTy_tuple_list {x : List D}  : isTy "tuple" (.list x) = false := by (try simp only [W_eq]); exact r_isTy_tuple_list
theorem x_isTy_tuple_tuple {x : List D}  : isTy "tuple" (.tuple x) = true := by (try simp only [W_eq]); exact r_isTy_tuple_tuple
theorem x_isTy_dict_none  : isTy "dict" (.none) = false := by (try simp only [W_eq]); exact r_isTy_dict_none
theorem x_isTy_dict_bool {x : Bool}  : isTy "dict" (.bool x) = false := by (try simp only [W_eq]); exact r_isTy_dict_bool
theorem x_isTy_dict_int {x : Int}  : isTy "dict" (.int x) = false := by (try simp only [W_eq]); exact r_isTy_dict_int
theorem x_isTy_dict_str {x : Str}  : isTy "dict" (.str x) = false := by (try simp only [W_eq]); exact r_isTy_dict_str
theorem x_isTy_dict_list {x : List D}  : isTy "dict" (.list x) = false := by (try simp only [W_eq]); exact r_isTy_dict_list
theorem x_isTy_dict_tuple {x : List D}  : isTy "dict" (.tuple x) = false := by (try simp only [W_eq]); exact r_isTy_dict_tuple
theorem x_app0 {ds : List D} {me : Env → M D} {δ : Env} {Q : Flow → Prop} {R : Exn → Prop} : W (sApp 0 me (.own ds :: δ)) Q R = W (me (.own ds :: δ)) (fun d => ds.length + 1 ≤ 16777216 ∧ Q (.next (.own (ds ++ [d]) :: δ))) R := by (try simp only [W_eq]); exact r_app0
theorem x_app1 {x0 : Slot} {ds : List D} {me : Env → M D} {δ : Env} {Q : Flow → Prop} {R : Exn → Prop} : W (sApp 1 me (x0 :: .own ds :: δ)) Q R = W (me (x0 :: .own ds :: δ)) (fun d => ds.length + 1 ≤ 16777216 ∧ Q (.next (x0 :: .own (ds ++ [d]) :: δ))) R := by (try simp only [W_eq]); exact r_app1
theorem x_app2 {x0 x1 : Slot} {ds : List D} {me : Env → M D} {δ : Env} {Q : Flow → Prop} {R : Exn → Prop} : W (sApp 2 me (x0 :: x1 :: .own ds :: δ)) Q R = W (me (x0 :: x1 :: .own ds :: δ)) (fun d => ds.length + 1 ≤ 16777216 ∧ Q (.next (x0 :: x1 :: .own (ds ++ [d]) :: δ))) R := by (try simp only [W_eq]); exact r_app2
theorem x_app3 {x0 x1 x2 : Slot} {ds : List D} {me : Env → M D} {δ : Env} {Q : Flow → Prop} {R : Exn → Prop} : W (sApp 3 me (x0 :: x1 :: x2 :: .own ds :: δ)) Q R = W (me (x0 :: x1 :: x2 :: .own ds :: δ)) (fun d => ds.length + 1 ≤ 16777216 ∧ Q (.next (x0 :: x1 :: x2 :: .own (ds ++ [d]) :: δ))) R := by (try simp only [W_eq]); exact r_app3
theorem x_app4 {x0 x1 x2 x3 : Slot} {ds : List D} {me : Env → M D} {δ : Env} {Q : Flow → Prop} {R : Exn → Prop} : W (sApp 4 me (x0 :: x1 :: x2 :: x3 :: .own ds :: δ)) Q R = W (me (x0 :: x1 :: x2 :: x3 :: .own ds :: δ)) (fun d => ds.length + 1 ≤ 16777216 ∧ Q (.next (x0 :: x1 :: x2 :: x3 :: .own (ds ++ [d]) :: δ))) R := by (try simp only [W_eq]); exact r_app4
theorem x_app5 {x0 x1 x2 x3 x4 : Slot} {ds : List D} {me : Env → M D} {δ : Env} {Q : Flow → Prop} {R : Exn → Prop} : W (sApp 5 me (x0 :: x1 :: x2 :: x3 :: x4 :: .own ds :: δ)) Q R = W (me (x0 :: x1 :: x2 :: x3 :: x4 :: .own ds :: δ)) (fun d => ds.length + 1 ≤ 16777216 ∧ Q (.next (x0 :: x1 :: x2 :: x3 :: x4 :: .own (ds ++ [d]) :: δ))) R := by (try simp only [W_eq]); exact r_app5
theorem x_app6 {x0 x1 x2 x3 x4 x5 : Slot} {ds : List D} {me : Env → M D} {δ : Env} {Q : Flow → Prop} {R : Exn → Prop} : W (sApp 6 me (x0 :: x1 :: x2 :: x3 :: x4 :: x5 :: .own ds :: δ)) Q R = W (me (x0 :: x1 :: x2 :: x3 :: x4 :: x5 :: .own ds :: δ)) (fun d => ds.length + 1 ≤ 16777216 ∧ Q (.next (x0 :: x1 :: x2 :: x3 :: x4 :: x5 :: .own (ds ++ [d]) :: δ))) R := by (try simp only [W_eq]); exact r_app6
theorem x_app7 {x0 x1 x2 x3 x4 x5 x6 : Slot} {ds : List D} {me : Env → M D} {δ : Env} {Q : Flow → Prop} {R : Exn → Prop} : W (sApp 7 me (x0 :: x1 :: x2 :: x3 :: x4 :: x5 :: x6 :: .own ds :: δ)) Q R = W (me (x0 :: x1 :: x2 :: x3 :: x4 :: x5 :: x6 :: .own ds :: δ)) (fun d => ds.length + 1 ≤ 16777216 ∧ Q (.next (x0 :: x1 :: x2 :: x3 :: x4 :: x5 :: x6 :: .own (ds ++ [d]) :: δ))) R := by (try simp only [W_eq]); exact r_app7
theorem x_app8 {x0 x1 x2 x3 x4 x5 x6 x7 : Slot} {ds : List D} {me : Env → M D} {δ : Env} {Q : Flow → Prop} {R : Exn → Prop} : W (sApp 8 me (x0 :: x1 :: x2 :: x3 :: x4 :: x5 :: x6 :: x7 :: .own ds :: δ)) Q R = W (me (x0 :: x1 :: x2 :: x3 :: x4 :: x5 :: x6 :: x7 :: .own ds :: δ)) (fun d => ds.length + 1 ≤ 16777216 ∧ Q (.next (x0 :: x1 :: x2 :: x3 :: x4 :: x5 :: x6 :: x7 :: .own (ds ++ [d]) :: δ))) R := by (try simp only [W_eq]); exact r_app8
theorem x_app9 {x0 x1 x2 x3 x4 x5 x6 x7 x8 : Slot} {ds : List D} {me : Env → M D} {δ : Env} {Q : Flow → Prop} {R : Exn → Prop} : W (sApp 9 me (x0 :: x1 :: x2 :: x3 :: x4 :: x5 :: x6 :: x7 :: x8 :: .own ds :: δ)) Q R = W (me (x0 :: x1 :: x2 :: x3 :: x4 :: x5 :: x6 :: x7 :: x8 :: .own ds :: δ)) (fun d => ds.length + 1 ≤ 16777216 ∧ Q (.next (x0 :: x1 :: x2 :: x3 :: x4 :: x5 :: x6 :: x7 :: x8 :: .own (ds ++ [d]) :: δ))) R := by (try simp only [W_eq]); exact r_app9
theorem x_app10 {x0 x1 x2 x3 x4 x5 x6 x7 x8 x9 : Slot} {ds : List D} {me : Env → M D} {δ : Env} {Q : Flow → Prop} {R : Exn → Prop} : W (sApp 10 me (x0 :: x1 :: x2 :: x3 :: x4 :: x5 :: x6 :: x7 :: x8 :: x9 :: .own ds :: δ)) Q R = W (me (x0 :: x1 :: x2 :: x3 :: x4 :: x5 :: x6 :: x7 :: x8 :: x9 :: .own ds :: δ)) (fun d => ds.length + 1 ≤ 16777216 ∧ Q (.next (x0 :: x1 :: x2 :: x3 :: x4 :: x5 :: x6 :: x7 :: x8 :: x9 :: .own (ds ++ [d]) :: δ))) R := by (try simp only [W_eq]); exact r_app10
theorem x_app11 {x0 x1 x2 x3 x4 x5 x6 x7 x8 x9 x10 : Slot} {ds : List D} {me : Env → M D} {δ : Env} {Q : Flow → Prop} {R : Exn → Prop} : W (sApp 11 me (x0 :: x1 :: x2 :: x3 :: x4 :: x5 :: x6 :: x7 :: x8 :: x9 :: x10 :: .own ds :: δ)) Q R = W (me (x0 :: x1 :: x2 :: x3 :: x4 :: x5 :: x6 :: x7 :: x8 :: x9 :: x10 :: .own ds :: δ)) (fun d => ds.length + 1 ≤ 16777216 ∧ Q (.next (x0 :: x1 :: x2 :: x3 :: x4 :: x5 :: x6 :: x7 :: x8 :: x9 :: x10 :: .own (ds ++ [d]) :: δ))) R := by (try simp only [W_eq]); exact r_app11
theorem x_app12 {x0 x1 x2 x3 x4 x5 x6 x7 x8 x9 x10 x11 : Slot} {ds : List D} {me : Env → M D} {δ : Env} {Q : Flow → Prop} {R : Exn → Prop} : W (sApp 12 me (x0 :: x1 :: x2 :: x3 :: x4 :: x5 :: x6 :: x7 :: x8 :: x9 :: x10 :: x11 :: .own ds :: δ)) Q R = W (me (x0 :: x1 :: x2 :: x3 :: x4 :: x5 :: x6 :: x7 :: x8 :: x9 :: x10 :: x11 :: .own ds :: δ)) (fun d => ds.length + 1 ≤ 16777216 ∧ Q (.next (x0 :: x1 :: x2 :: x3 :: x4 :: x5 :: x6 :: x7 :: x8 :: x9 :: x10 :: x11 :: .own (ds ++ [d]) :: δ))) R := by (try simp only [W_eq]); exact r_app12
theorem x_app13 {x0 x1 x2 x3 x4 x5 x6 x7 x8 x9 x10 x11 x12 : Slot} {ds : List D} {me : Env → M D} {δ : Env} {Q : Flow → Prop} {R : Exn → Prop} : W (sApp 13 me (x0 :: x1 :: x2 :: x3 :: x4 :: x5 :: x6 :: x7 :: x8 :: x9 :: x10 :: x11 :: x12 :: .own ds :: δ)) Q R = W (me (x0 :: x1 :: x2 :: x3 :: x4 :: x5 :: x6 :: x7 :: x8 :: x9 :: x10 :: x11 :: x12 :: .own ds :: δ)) (fun d => ds.length + 1 ≤ 16777216 ∧ Q (.next (x0 :: x1 :: x2 :: x3 :: x4 :: x5 :: x6 :: x7 :: x8 :: x9 :: x10 :: x11 :: x12 :: .own (ds ++ [d]) :: δ))) R := by (try simp only [W_eq]); exact r_app13
theorem x_app14 {x0 x1 x2 x3 x4 x5 x6 x7 x8 x9 x10 x11 x12 x13 : Slot} {ds : List D} {me : Env → M D} {δ : Env} {Q : Flow → Prop} {R : Exn → Prop} : W (sApp 14 me (x0 :: x1 :: x2 :: x3 :: x4 :: x5 :: x6 :: x7 :: x8 :: x9 :: x10 :: x11 :: x12 :: x13 :: .own ds :: δ)) Q R = W (me (x0 :: x1 :: x2 :: x3 :: x4 :: x5 :: x6 :: x7 :: x8 :: x9 :: x10 :: x11 :: x12 :: x13 :: .own ds :: δ)) (fun d => ds.length + 1 ≤ 16777216 ∧ Q (.next (x0 :: x1 :: x2 :: x3 :: x4 :: x5 :: x6 :: x7 :: x8 :: x9 :: x10 :: x11 :: x12 :: x13 :: .own (ds ++ [d]) :: δ))) R := by (try simp only [W_eq]); exact r_app14
theorem x_app15 {x0 x1 x2 x3 x4 x5 x6 x7 x8 x9 x10 x11 x12 x13 x14 : Slot} {ds : List D} {me : Env → M D} {δ : Env} {Q : Flow → Prop} {R : Exn → Prop} : W (sApp 15 me (x0 :: x1 :: x2 :: x3 :: x4 :: x5 :: x6 :: x7 :: x8 :: x9 :: x10 :: x11 :: x12 :: x13 :: x14 :: .own ds :: δ)) Q R = W (me (x0 :: x1 :: x2 :: x3 :: x4 :: x5 :: x6 :: x7 :: x8 :: x9 :: x10 :: x11 :: x12 :: x13 :: x14 :: .own ds :: δ)) (fun d => ds.length + 1 ≤ 16777216 ∧ Q (.next (x0 :: x1 :: x2 :: x3 :: x4 :: x5 :: x6 :: x7 :: x8 :: x9 :: x10 :: x11 :: x12 :: x13 :: x14 :: .own (ds ++ [d]) :: δ))) R := by (try simp only [W_eq]); exact r_app15
theorem x_turnP {i j : Nat} {mb : Env → M Flow} {a b : D} {δ : Env} {Q : Flow → Prop} {R : Exn → Prop} : W (turn (gTupE 2 (gsCons (gSet i) (gsCons (gSet j) gsNil))) mb (.tuple [a, b]) δ) Q R = W (sPar i j (fun _ => .ret [a, b]) δ) (fun fl => W (andThen mb fl) Q R) R := by (try simp only [W_eq]); exact r_turnP
theorem x_ite {α : Type} {c : Prop} [Decidable c] {a b : M α} {Q : α → Prop} {R : Exn → Prop} : W (if c then a else b) Q R = if c then W a Q R else W b Q R := by simp only [W_eq]; exact r_ite
theorem W_mono {α : Type} {m : M α} {P Q : α → Prop} {R R' : Exn → Prop} (h : W m P R) (k : ∀ a, P a → Q a) (r : ∀ e, R e → R' e) : W m Q R' := ⟨wp_mono h.is k r⟩
theorem W_use {α : Type} {m : M α} {P Q : α → Prop} {R : Exn → Prop} (h : W m P (fun _ => False)) (k : ∀ a, P a → Q a) : W m Q R := ⟨wp_use h.is k⟩
theorem W_fn {n : Nat} {body : Env → M Flow} {ss : List Slot} {Q : D → Prop} {R : Exn → Prop} {δ : Env} (e : pad n ss = δ) (h : W (body δ) (fun fl => W (ends fl) Q R) R) : W (fnM n body ss) Q R := by
  simp only [W_eq] at h ⊢; exact wp_fn e h
theorem W_calmI {α : Type} {Q : α → Prop} {R : Exn → Prop} {m : M α} (h : W m Q (fun _ => False)) : W m.calm Q R := ⟨wp_calmI h.is⟩
theorem W_comp {f : D → M (Option D)} {g : D → Option D} (xs : List D) (h : ∀ x ∈ xs, W (f x) (fun o => o = g x) fun _ => False) : W (compL f xs) (fun r => r = xs.filterMap g) fun _ => False := ⟨wp_comp xs fun x hx => (h x hx).is⟩
theorem W_loop {f : D → Env → M Flow} {Q : Flow → Prop} {R : Exn → Prop} (I : List D → Env → Prop) (hs : ∀ x xs δ, I (x :: xs) δ → W (f x δ) (LoopQ (I xs) Q) R) (hd : ∀ δ, I [] δ → Q (.next δ)) (xs : List D) (δ : Env) (h : I xs δ) : W (loopL f xs δ) Q R := ⟨wp_loop I (fun x xs δ h => (hs x xs δ h).is) hd xs δ h⟩
theorem W_range {f : D → Env → M Flow} {Q : Flow → Prop} {R : Exn → Prop} (hi : Int) (I : Int → Env → Prop) (hs : ∀ k δ, k < hi → I k δ → W (f (.int k) δ) (LoopQ (I (k + 1)) Q) R) (hd : ∀ δ k, hi ≤ k → I k δ → Q (.next δ)) (n : Nat) (lo : Int) (δ : Env) (e : n = (hi - lo).toNat) (h : I lo δ) : W (loopL f (rng lo n) δ) Q R := ⟨wp_range hi I (fun k δ hk h => (hs k δ hk h).is) hd n lo δ e h⟩
theorem wp_while {mt : Env → M Bool} {mb : Env → M Flow} {Q : Flow → Prop} {R : Exn → Prop} (I : Nat → Env → Prop) (hs : ∀ m δ, I m δ → wp (mt δ) (fun k => if k = true then 0 < m ∧ wp (mb δ) (LoopQ (I (m - 1)) Q) R else Q (.next δ)) R) : ∀ (n m : Nat) (δ : Env), m < n → I m δ → wp (whileF mt mb n δ) Q R
  | 0, m, δ, e, h => absurd e (Nat.not_lt_zero _)
  | n + 1, m, δ, e, h => by
    unfold whileF
    refine wp_bind.mpr (wp_mono (hs m δ h) (fun k q => ?_) fun _ z => z)
    cases k with
    | false => exact q
    | true =>
      rw [if_pos rfl] at q ⊢
      refine wp_bind.mpr (wp_mono q.2 (fun fl z => ?_) fun _ z => z)
      cases fl with
      | next δ' => exact wp_while I hs n (m - 1) δ' (by omega) z
      | cont δ' => exact wp_while I hs n (m - 1) δ' (by omega) z
      | brk δ' => exact z
      | retn d => exact z
theorem W_sWhile {mt : Env → M Bool} {mb : Env → M Flow} {Q : Flow → Prop} {R : Exn → Prop} (I : Nat → Env → Prop) (hs : ∀ m δ, I m δ → W (mt δ) (fun k => if k = true then 0 < m ∧ W (mb δ) (LoopQ (I (m - 1)) Q) R else Q (.next δ)) R) (n m : Nat) (δ : Env) (h : m < n) (i : I m δ) : W (sWhile n mt mb δ) Q R := by
  simp only [W_eq] at hs ⊢; exact wp_while I hs n m δ h i

def wr := And.intro (And.intro (And.intro (And.intro (And.intro (And.intro (And.intro (And.intro (@x_ret) (@x_draw)) (And.intro (@x_bind) (And.intro (@x_eC) (@x_var0)))) (And.intro (And.intro (@x_own0) (And.intro (@x_ownd0) (@x_set0))) (And.intro (@x_setF0) (And.intro (@x_turn0) (@x_well0))))) (And.intro (And.intro (And.intro (@x_fz0) (@x_var1)) (And.intro (@x_own1) (And.intro (@x_ownd1) (@x_set1)))) (And.intro (And.intro (@x_setF1) (And.intro (@x_turn1) (@x_well1))) (And.intro (@x_fz1) (And.intro (@x_var2) (@x_own2)))))) (And.intro (And.intro (And.intro (And.intro (@x_ownd2) (@x_set2)) (And.intro (@x_setF2) (And.intro (@x_turn2) (@x_well2)))) (And.intro (And.intro (@x_fz2) (And.intro (@x_var3) (@x_own3))) (And.intro (@x_ownd3) (And.intro (@x_set3) (@x_setF3))))) (And.intro (And.intro (And.intro (@x_turn3) (@x_well3)) (And.intro (@x_fz3) (And.intro (@x_var4) (@x_own4)))) (And.intro (And.intro (@x_ownd4) (And.intro (@x_set4) (@x_setF4))) (And.intro (@x_turn4) (And.intro (@x_well4) (@x_fz4))))))) (And.intro (And.intro (And.intro (And.intro (And.intro (@x_var5) (@x_own5)) (And.intro (@x_ownd5) (And.intro (@x_set5) (@x_setF5)))) (And.intro (And.intro (@x_turn5) (And.intro (@x_well5) (@x_fz5))) (And.intro (@x_var6) (And.intro (@x_own6) (@x_ownd6))))) (And.intro (And.intro (And.intro (@x_set6) (@x_setF6)) (And.intro (@x_turn6) (And.intro (@x_well6) (@x_fz6)))) (And.intro (And.intro (@x_var7) (And.intro (@x_own7) (@x_ownd7))) (And.intro (@x_set7) (And.intro (@x_setF7) (@x_turn7)))))) (And.intro (And.intro (And.intro (And.intro (@x_well7) (@x_fz7)) (And.intro (@x_var8) (And.intro (@x_own8) (@x_ownd8)))) (And.intro (And.intro (@x_set8) (And.intro (@x_setF8) (@x_turn8))) (And.intro (@x_well8) (And.intro (@x_fz8) (@x_var9))))) (And.intro (And.intro (And.intro (@x_own9) (@x_ownd9)) (And.intro (@x_set9) (And.intro (@x_setF9) (@x_turn9)))) (And.intro (And.intro (@x_well9) (And.intro (@x_fz9) (@x_var10))) (And.intro (@x_own10) (And.intro (@x_ownd10) (@x_set10)))))))) (And.intro (And.intro (And.intro (And.intro (And.intro (And.intro (@x_setF10) (@x_turn10)) (And.intro (@x_well10) (And.intro (@x_fz10) (@x_var11)))) (And.intro (And.intro (@x_own11) (And.intro (@x_ownd11) (@x_set11))) (And.intro (@x_setF11) (And.intro (@x_turn11) (@x_well11))))) (And.intro (And.intro (And.intro (@x_fz11) (@x_var12)) (And.intro (@x_own12) (And.intro (@x_ownd12) (@x_set12)))) (And.intro (And.intro (@x_setF12) (And.intro (@x_turn12) (@x_well12))) (And.intro (@x_fz12) (And.intro (@x_var13) (@x_own13)))))) (And.intro (And.intro (And.intro (And.intro (@x_ownd13) (@x_set13)) (And.intro (@x_setF13) (And.intro (@x_turn13) (@x_well13)))) (And.intro (And.intro (@x_fz13) (And.intro (@x_var14) (@x_own14))) (And.intro (@x_ownd14) (And.intro (@x_set14) (@x_setF14))))) (And.intro (And.intro (And.intro (@x_turn14) (@x_well14)) (And.intro (@x_fz14) (And.intro (@x_var15) (@x_own15)))) (And.intro (And.intro (@x_ownd15) (And.intro (@x_set15) (@x_setF15))) (And.intro (@x_turn15) (And.intro (@x_well15) (@x_fz15))))))) (And.intro (And.intro (And.intro (And.intro (And.intro (@x_bin) (@x_tbin)) (And.intro (@x_asB) (And.intro (@x_asI) (@x_tval)))) (And.intro (And.intro (@x_tand) (And.intro (@x_tor) (@x_tnot))) (And.intro (@x_ttrue) (And.intro (@x_eif) (@x_eand))))) (And.intro (And.intro (And.intro (@x_eor) (@x_enot)) (And.intro (@x_raise) (And.intro (@x_told) (@x_nil)))) (And.intro (And.intro (@x_seq) (And.intro (@x_then1) (@x_then2))) (And.intro (@x_then3) (And.intro (@x_then4) (@x_brk)))))) (And.intro (And.intro (And.intro (And.intro (@x_cont) (@x_sret)) (And.intro (@x_sretN) (And.intro (@x_sexpr) (@x_sif)))) (And.intro (And.intro (@x_end1) (And.intro (@x_end2) (@x_par))) (And.intro (@x_kpar) (And.intro (@x_par3) (@x_kpar3))))) (And.intro (And.intro (And.intro (@x_asg) (And.intro (@x_kasgT) (@x_kasgL))) (And.intro (@x_kasgs0) (And.intro (@x_kasgs1) (@x_for)))) (And.intro (And.intro (@x_iL) (And.intro (@x_iT) (@x_iS))) (And.intro (@x_asL) (And.intro (@x_asT) (@x_iR1))))))))) (And.intro (And.intro (And.intro (And.intro (And.intro (And.intro (And.intro (@x_iR2) (@x_kR1)) (And.intro (@x_kR2) (And.intro (@x_lnil) (@x_lcons)))) (And.intro (And.intro (@x_anil) (And.intro (@x_acons) (@x_call))) (And.intro (@x_callK) (And.intro (@x_eB) (@x_eTup))))) (And.intro (And.intro (And.intro (@x_fLst) (@x_eFz)) (And.intro (@x_mkT0) (And.intro (@x_mkL0) (@x_mkT1)))) (And.intro (And.intro (@x_mkL1) (And.intro (@x_mkT2) (@x_mkL2))) (And.intro (@x_mkT3) (And.intro (@x_mkL3) (@x_mkT4)))))) (And.intro (And.intro (And.intro (And.intro (@x_mkL4) (@x_mkT5)) (And.intro (@x_mkL5) (And.intro (@x_mkT6) (@x_mkL6)))) (And.intro (And.intro (@x_mkT7) (And.intro (@x_mkL7) (@x_mkT8))) (And.intro (@x_mkL8) (And.intro (@x_mkT9) (@x_mkL9))))) (And.intro (And.intro (And.intro (@x_mkT10) (@x_mkL10)) (And.intro (@x_mkT11) (And.intro (@x_mkL11) (@x_mkT12)))) (And.intro (And.intro (@x_mkL12) (And.intro (@x_mkT13) (@x_mkL13))) (And.intro (@x_oNone) (And.intro (@x_oSome) (@x_eSl))))))) (And.intro (And.intro (And.intro (And.intro (And.intro (@x_neg) (@x_kneg)) (And.intro (@x_eM) (And.intro (@x_kM) (@x_drawM)))) (And.intro (And.intro (@x_lq1) (And.intro (@x_lq2) (@x_lq3))) (And.intro (@x_lq4) (And.intro (@x_cst0) (@x_cst1))))) (And.intro (And.intro (And.intro (@x_cst2) (@x_cst3)) (And.intro (@x_cst4) (And.intro (@x_cst5) (@x_cst6)))) (And.intro (And.intro (@x_cst7) (And.intro (@x_cst8) (@x_cst9))) (And.intro (@x_cst10) (And.intro (@x_cst11) (@x_cst12)))))) (And.intro (And.intro (And.intro (And.intro (@x_cst13) (@x_cst14)) (And.intro (@x_cst15) (And.intro (@x_dStrI) (@x_dAdd)))) (And.intro (And.intro (@x_dSub) (And.intro (@x_dMul) (@x_dFdiv))) (And.intro (@x_dMod) (And.intro (@x_dShr) (@x_dLt))))) (And.intro (And.intro (And.intro (@x_dLe) (And.intro (@x_dGt) (@x_dGe))) (And.intro (@x_dEqI) (And.intro (@x_dNeI) (@x_dEqS)))) (And.intro (And.intro (@x_dNeS) (And.intro (@x_dMin) (@x_dMax))) (And.intro (@x_dInt) (And.intro (@x_dLenL) (@x_dLenT)))))))) (And.intro (And.intro (And.intro (And.intro (And.intro (And.intro (@x_dPow) (@x_rg1)) (And.intro (@x_rg2) (And.intro (@x_rgL) (@x_cat)))) (And.intro (And.intro (@x_catL) (And.intro (@x_dAddL) (@x_isN0))) (And.intro (@x_isN1) (And.intro (@x_notN0) (@x_notN1))))) (And.intro (And.intro (And.intro (@x_setZ) (@x_dLenS)) (And.intro (@x_dAddS) (And.intro (@x_dSlS) (@x_dMulS)))) (And.intro (And.intro (@x_dIxS) (And.intro (@x_dIxL) (@x_dIxT0))) (And.intro (@x_dIxT1) (And.intro (@x_find3) (@x_comp)))))) (And.intro (And.intro (And.intro (And.intro (@x_iA) (@x_asAL)) (And.intro (@x_asAT) (And.intro (@x_asAS) (@x_iEn)))) (And.intro (And.intro (@x_enDL) (And.intro (@x_enDT) (@x_enDS))) (And.intro (@x_iZp) (And.intro (@x_zpDL) (@x_zpDT))))) (And.intro (And.intro (And.intro (@x_dDivmod) (@x_isi)) (And.intro (@x_isTy_int_none) (And.intro (@x_isTy_int_bool) (@x_isTy_int_int)))) (And.intro (And.intro (@x_isTy_int_str) (And.intro (@x_isTy_int_list) (@x_isTy_int_tuple))) (And.intro (@x_isTy_bool_none) (And.intro (@x_isTy_bool_bool) (@x_isTy_bool_int))))))) (And.intro (And.intro (And.intro (And.intro (And.intro (@x_isTy_bool_str) (@x_isTy_bool_list)) (And.intro (@x_isTy_bool_tuple) (And.intro (@x_isTy_str_none) (@x_isTy_str_bool)))) (And.intro (And.intro (@x_isTy_str_int) (And.intro (@x_isTy_str_str) (@x_isTy_str_list))) (And.intro (@x_isTy_str_tuple) (And.intro (@x_isTy_list_none) (@x_isTy_list_bool))))) (And.intro (And.intro (And.intro (@x_isTy_list_int) (@x_isTy_list_str)) (And.intro (@x_isTy_list_list) (And.intro (@x_isTy_list_tuple) (@x_isTy_tuple_none)))) (And.intro (And.intro (@x_isTy_tuple_bool) (And.intro (@x_isTy_tuple_int) (@x_isTy_tuple_str))) (And.intro (@x_isTy_tuple_list) (And.intro (@x_isTy_tuple_tuple) (@x_isTy_dict_none)))))) (And.intro (And.intro (And.intro (And.intro (@x_isTy_dict_bool) (@x_isTy_dict_int)) (And.intro (@x_isTy_dict_str) (And.intro (@x_isTy_dict_list) (@x_isTy_dict_tuple)))) (And.intro (And.intro (@x_app0) (And.intro (@x_app1) (@x_app2))) (And.intro (@x_app3) (And.intro (@x_app4) (@x_app5))))) (And.intro (And.intro (And.intro (@x_app6) (And.intro (@x_app7) (@x_app8))) (And.intro (@x_app9) (And.intro (@x_app10) (@x_app11)))) (And.intro (And.intro (@x_app12) (And.intro (@x_app13) (@x_app14))) (And.intro (@x_app15) (And.intro (@x_turnP) (@x_ite)))))))))
end Q

set_option Elab.async false
set_option linter.all false
set_option maxRecDepth 100000
namespace Q
open PySem PySem.Spec PyProof.Rows L2
/-! ### rows with a head and a turn -/
def cyc (t : List Nat) (z : Int) : Nat := t.getD (z % t.length).toNat 0
def seq (h t : List Nat) (n : Nat) : Nat := if n < h.length then h.getD n 0 else cyc t ((n : Int) - h.length)
def Per (f : Int → Nat) (k : Nat) : Prop := ∀ z, f (z + k) = f z
theorem cyc_per (t : List Nat) : Per (cyc t) t.length := fun z => by
  unfold cyc
  rw [Int.add_emod_right]
theorem Per.nat {f : Int → Nat} {k : Nat} (h : Per f k) : ∀ (m : Nat) (z : Int), f (z + m * k) = f z
  | 0, z => by rw [show z + (0 : Nat) * (k : Int) = z by simp]
  | m + 1, z => by
    rw [show z + ((m + 1 : Nat) : Int) * (k : Int) = (z + m * k) + k by push_cast; rw [Int.add_mul]; omega, h, Per.nat h m z]
theorem Per.mul {f : Int → Nat} {k : Nat} (h : Per f k) (j z : Int) : f (z + j * k) = f z := by
  rcases Int.le_total 0 j with hj | hj
  · obtain ⟨m, rfl⟩ := Int.eq_ofNat_of_zero_le hj
    exact h.nat m z
  · obtain ⟨m, hm⟩ := Int.eq_ofNat_of_zero_le (show 0 ≤ -j by omega)
    have e : j = -(m : Int) := by omega
    subst e
    have := h.nat m (z + -(m : Int) * k)
    rw [← this]
    congr 1
    rw [Int.neg_mul]; omega
theorem Per.eq {f : Int → Nat} {k : Nat} (h : Per f k) {x y : Int} (j : Int) (e : x = y + j * k) : f x = f y := by rw [e, h.mul]
theorem Per.emod {f : Int → Nat} {k : Nat} (h : Per f k) (z : Int) : f (z % k) = f z := by
  refine (h.eq (z / k) ?_).symm
  have := Int.emod_add_mul_ediv z k
  rw [Int.mul_comm] at this
  omega
theorem Per.mod {f : Int → Nat} {a b : Nat} (ha : Per f a) (hb : Per f b) : Per f (a % b) := fun z => by
  rw [← ha z]
  refine (hb.eq ((a / b : Nat) : Int) ?_).symm
  have := Nat.mod_add_div a b
  have e : ((a : Nat) : Int) = ((a % b : Nat) : Int) + ((a / b : Nat) : Int) * b := by
    rw [Int.mul_comm]; exact_mod_cast this.symm
  omega
structure IsPer (f : Int → Nat) (k : Nat) : Prop where
  pos : 1 ≤ k
  per : Per f k
  min : ∀ d, 1 ≤ d → Per f d → k ≤ d
theorem IsPer.dvd {f : Int → Nat} {k n : Nat} (h : IsPer f k) (hn : Per f n) : k ∣ n := by
  refine Nat.dvd_of_mod_eq_zero (Classical.byContradiction fun hz => ?_)
  have h1 := h.min (n % k) (by omega) (hn.mod h.per)
  have h2 := Nat.mod_lt n (show k > 0 from h.pos)
  omega
theorem least_of {P : Nat → Prop} : ∀ (n : Nat), P n → ∃ k, P k ∧ k ≤ n ∧ ∀ d, P d → k ≤ d := by
  intro n
  induction n using Nat.strongRecOn with
  | ind n ih =>
    intro h
    by_cases hs : ∃ m, m < n ∧ P m
    · obtain ⟨m, hm, hp⟩ := hs
      obtain ⟨k, k1, k2, k3⟩ := ih m hm hp
      exact ⟨k, k1, by omega, k3⟩
    · exact ⟨n, h, Nat.le_refl _, fun d hd => Classical.byContradiction fun hz => hs ⟨d, by omega, hd⟩⟩
theorem isPer_ex {t : List Nat} (ht : t ≠ []) : ∃ k, IsPer (cyc t) k ∧ k ≤ t.length := by
  obtain ⟨k, ⟨k1, k2⟩, k3, k4⟩ := least_of (P := fun d => 1 ≤ d ∧ Per (cyc t) d) t.length ⟨List.length_pos_iff.mpr ht, cyc_per t⟩
  exact ⟨k, ⟨k1, k2, fun d h1 h2 => k4 d ⟨h1, h2⟩⟩, k3⟩
theorem IsPer.le {t : List Nat} {k : Nat} (ht : t ≠ []) (h : IsPer (cyc t) k) : k ≤ t.length := h.min _ (List.length_pos_iff.mpr ht) (cyc_per t)
theorem IsPer.same {f : Int → Nat} {k k' : Nat} (h : IsPer f k) (h' : IsPer f k') : k = k' := Nat.le_antisymm (h.min _ h'.pos h'.per) (h'.min _ h.pos h.per)
theorem cyc_nat {t : List Nat} {i : Nat} (h : i < t.length) : cyc t i = t.getD i 0 := by
  unfold cyc
  rw [Int.emod_eq_of_lt (by omega) (by omega), Int.toNat_natCast]
theorem cyc_take {t : List Nat} {k : Nat} (ht : t ≠ []) (h1 : 1 ≤ k) (h2 : k ≤ t.length) (h : Per (cyc t) k) : cyc (t.take k) = cyc t := by
  funext z
  rw [← h.emod z]
  have e : (t.take k).length = k := by rw [List.length_take]; omega
  have b0 := Int.emod_nonneg z (show (k : Int) ≠ 0 by omega)
  have b1 := Int.emod_lt_of_pos z (show 0 < (k : Int) by omega)
  obtain ⟨m, hm⟩ := Int.eq_ofNat_of_zero_le b0
  unfold cyc
  rw [e, hm, Int.emod_eq_of_lt (by omega) (by omega), Int.toNat_natCast, List.getD_eq_getElem?_getD, List.getD_eq_getElem?_getD, List.getElem?_take, if_pos (by omega)]
/-- what comes back for ever -/
theorem seq_ev {h t : List Nat} (ht : t ≠ []) {d : Nat} (hd : ∃ m, ∀ n, m ≤ n → seq h t (n + d) = seq h t n) : Per (cyc t) d := by
  obtain ⟨m, hm⟩ := hd
  intro z
  have hp : 0 < t.length := List.length_pos_iff.mpr ht
  have b0 := Int.emod_nonneg z (show (t.length : Int) ≠ 0 by omega)
  obtain ⟨r, hr⟩ := Int.eq_ofNat_of_zero_le b0
  have hz := Int.emod_add_mul_ediv z t.length
  have hmp : m ≤ m * t.length := Nat.le_mul_of_pos_right _ hp
  have h1 := hm (h.length + (r + m * t.length)) (by omega)
  unfold seq at h1
  rw [if_neg (by omega), if_neg (by omega)] at h1
  have e1 : cyc t (((h.length + (r + m * t.length) + d : Nat) : Int) - h.length) = cyc t (z + d) := by
    refine (cyc_per t).eq ((m : Int) - z / t.length) ?_
    rw [Int.sub_mul, Int.mul_comm (z / _)]
    push_cast
    omega
  have e2 : cyc t (((h.length + (r + m * t.length) : Nat) : Int) - h.length) = cyc t z := by
    refine (cyc_per t).eq ((m : Int) - z / t.length) ?_
    rw [Int.sub_mul, Int.mul_comm (z / _)]
    push_cast
    omega
  rw [← e1, h1, e2]
structure Cn (a : Nat → Nat) (k p : Nat) : Prop where
  pos : 1 ≤ p
  per : ∀ n, k ≤ n → a (n + p) = a n
  low : k = 0 ∨ a (k - 1 + p) ≠ a (k - 1)
  least : ∀ d, 1 ≤ d → (∃ m, ∀ n, m ≤ n → a (n + d) = a n) → p ≤ d
theorem Cn.uniq {a : Nat → Nat} {k p k' p' : Nat} (h : Cn a k p) (h' : Cn a k' p') : k = k' ∧ p = p' := by
  have e : p = p' := Nat.le_antisymm (h.least p' h'.pos ⟨k', h'.per⟩) (h'.least p h.pos ⟨k, h.per⟩)
  subst e
  refine ⟨Classical.byContradiction fun hk => ?_, rfl⟩
  rcases Nat.lt_or_gt_of_ne hk with hl | hl
  · rcases h'.low with z | z
    · omega
    · exact z (h.per _ (by omega))
  · rcases h.low with z | z
    · omega
    · exact z (h'.per _ (by omega))
def outH (a : Nat → Nat) (k : Nat) : List Nat := (List.range k).map a
def outT (a : Nat → Nat) (k p : Nat) : List Nat := (List.range p).map fun i => a (k + i)
@[simp] theorem outH_len (a : Nat → Nat) (k : Nat) : (outH a k).length = k := by simp [outH]
@[simp] theorem outT_len (a : Nat → Nat) (k p : Nat) : (outT a k p).length = p := by simp [outT]
theorem ext_out {l : List Nat} {n : Nat} {f : Nat → Nat} (hl : l.length = n) (h : ∀ i, i < n → l.getD i 0 = f i) : l = (List.range n).map f := by
  refine List.ext_getElem (by simp [hl]) fun i h1 h2 => ?_
  have := h i (by omega)
  rw [List.getD_eq_getElem?_getD, List.getElem?_eq_getElem h1] at this
  simpa using this
theorem seq_lo {h t : List Nat} {n : Nat} (hn : n < h.length) : seq h t n = h.getD n 0 := by unfold seq; rw [if_pos hn]
theorem seq_hi {h t : List Nat} {n : Nat} (hn : h.length ≤ n) : seq h t n = cyc t ((n : Int) - h.length) := by unfold seq; rw [if_neg (by omega)]
theorem self_outH (h t : List Nat) : h = outH (seq h t) h.length := ext_out rfl fun i hi => (seq_lo hi).symm
theorem self_outT (h t : List Nat) : t = outT (seq h t) h.length t.length := ext_out rfl fun i hi => by
  rw [seq_hi (by omega), ← cyc_nat hi]
  congr 1
  push_cast
  omega
theorem take_outH {h t : List Nat} {k : Nat} (hk : k ≤ h.length) : h.take k = outH (seq h t) k := ext_out (by rw [List.length_take]; omega) fun i hi => by
  rw [seq_lo (by omega), List.getD_eq_getElem?_getD, List.getD_eq_getElem?_getD, List.getElem?_take, if_pos hi]
/-- a turn, turned -/
theorem rot_out {t : List Nat} {s : Nat} (hs : s < t.length) {f : Nat → Nat} (hf : ∀ i, i < t.length → f i = cyc t ((s : Int) + i)) : t.drop s ++ t.take s = (List.range t.length).map f := ext_out (by rw [List.length_append, List.length_drop, List.length_take]; omega) fun i hi => by
  rw [hf i hi, List.getD_eq_getElem?_getD]
  by_cases h : i < t.length - s
  · rw [List.getElem?_append_left (by rw [List.length_drop]; omega), List.getElem?_drop, ← List.getD_eq_getElem?_getD, ← cyc_nat (by omega)]
    congr 1
  · rw [List.getElem?_append_right (by rw [List.length_drop]; omega), List.length_drop, List.getElem?_take, if_pos (by omega), ← List.getD_eq_getElem?_getD, ← cyc_nat (by omega)]
    refine (cyc_per t).eq (-1) ?_
    omega
/-- what the strip comes to -/
theorem strip_cn {h t : List Nat} {p k : Nat} (ht : t ≠ []) (hp : IsPer (cyc t) p) (hk : k ≤ h.length) (hi : ∀ n, k ≤ n → seq h t n = cyc t ((n : Int) - h.length)) (hlo : k = 0 ∨ seq h t (k - 1) ≠ cyc t (((k - 1 : Nat) : Int) - h.length)) : Cn (seq h t) k p := by
  refine ⟨hp.pos, fun n hn => ?_, hlo.imp id fun z => ?_, fun d d1 d2 => hp.min d d1 (seq_ev ht d2)⟩
  · rw [hi n hn, hi _ (by omega), ← hp.per ((n : Int) - h.length)]
    congr 1; push_cast; omega
  · rw [hi (k - 1 + p) (by have := hp.pos; omega)]
    intro e
    refine z ?_
    rw [← e, ← hp.per (((k - 1 : Nat) : Int) - h.length)]
    congr 1; push_cast; omega
theorem seq_cyc {h t t' : List Nat} (e : cyc t' = cyc t) : seq h t' = seq h t := by
  funext n; unfold seq; rw [e]
end Q

set_option Elab.async false
set_option linter.all false
set_option maxRecDepth 100000
namespace Q
open PySem PySem.Spec PyProof.Rows L2
theorem rep_zero (a : List Nat) : rep 0 a = [] := rfl
theorem rep_succ (n : Nat) (a : List Nat) : rep (n + 1) a = a ++ rep n a := by unfold rep; rw [List.replicate_succ, List.flatten_cons]
@[simp] theorem rep_len (a : List Nat) : ∀ n, (rep n a).length = n * a.length
  | 0 => by simp [rep_zero]
  | n + 1 => by rw [rep_succ, List.length_append, rep_len a n, Nat.succ_mul, Nat.add_comm]
theorem getD_left {a b : List Nat} {i : Nat} (h : i < a.length) : (a ++ b).getD i 0 = a.getD i 0 := by
  rw [List.getD_eq_getElem?_getD, List.getD_eq_getElem?_getD, List.getElem?_append_left h]
theorem getD_right {a b : List Nat} {i : Nat} (h : a.length ≤ i) : (a ++ b).getD i 0 = b.getD (i - a.length) 0 := by
  rw [List.getD_eq_getElem?_getD, List.getD_eq_getElem?_getD, List.getElem?_append_right h]
theorem getD_take {a : List Nat} {i n : Nat} (h : i < n) : (a.take n).getD i 0 = a.getD i 0 := by
  rw [List.getD_eq_getElem?_getD, List.getD_eq_getElem?_getD, List.getElem?_take, if_pos h]
theorem getD_drop {a : List Nat} {i n : Nat} : (a.drop n).getD i 0 = a.getD (n + i) 0 := by
  rw [List.getD_eq_getElem?_getD, List.getD_eq_getElem?_getD, List.getElem?_drop]
theorem rep_getD (a : List Nat) : ∀ (n i : Nat), i < n * a.length → (rep n a).getD i 0 = a.getD (i % a.length) 0
  | 0, i, h => by omega
  | n + 1, i, h => by
    rw [rep_succ]
    by_cases hi : i < a.length
    · rw [getD_left hi, Nat.mod_eq_of_lt hi]
    · rw [getD_right (by omega), rep_getD a n _ (by rw [Nat.succ_mul] at h; omega), Nat.mod_eq_sub_mod (show i ≥ a.length by omega)]
theorem cyc_mod (t : List Nat) (j : Nat) : cyc t j = t.getD (j % t.length) 0 := by
  unfold cyc
  rw [← Int.natCast_emod, Int.toNat_natCast]
theorem cyc_rep {t : List Nat} (ht : t ≠ []) {m : Nat} (hm : 1 ≤ m) : cyc (rep m t) = cyc t := by
  funext z
  have hp : 0 < t.length := List.length_pos_iff.mpr ht
  have hmp : 0 < m * t.length := Nat.mul_pos hm hp
  have b0 := Int.emod_nonneg z (show ((m * t.length : Nat) : Int) ≠ 0 by omega)
  have b1 := Int.emod_lt_of_pos z (show 0 < ((m * t.length : Nat) : Int) by omega)
  have dv : ((t.length : Nat) : Int) ∣ ((m * t.length : Nat) : Int) := ⟨m, by push_cast; rw [Int.mul_comm]⟩
  have e := Int.emod_emod_of_dvd z dv
  obtain ⟨r, hr⟩ := Int.eq_ofNat_of_zero_le b0
  unfold cyc
  rw [rep_len, hr, Int.toNat_natCast, rep_getD _ _ _ (by omega), ← e, hr, ← Int.natCast_emod, Int.toNat_natCast]
theorem row_getD (h t : List Nat) (m : Nat) {i : Nat} (hi : i < h.length + m * t.length) : (h ++ rep m t).getD i 0 = seq h t i := by
  by_cases hl : i < h.length
  · rw [getD_left hl, seq_lo hl]
  · rw [getD_right (by omega), seq_hi (by omega), rep_getD _ _ _ (by omega), show ((i : Int) - h.length) = ((i - h.length : Nat) : Int) by omega, cyc_mod]
theorem rep_two (t : List Nat) : rep 2 t = t ++ t := by rw [rep_succ, rep_succ, rep_zero, List.append_nil]
theorem ext_getD {l l' : List Nat} (hl : l.length = l'.length) (h : ∀ i, i < l.length → l.getD i 0 = l'.getD i 0) : l = l' := by
  refine List.ext_getElem hl fun i h1 h2 => ?_
  have := h i h1
  rw [List.getD_eq_getElem?_getD, List.getElem?_eq_getElem h1, List.getD_eq_getElem?_getD, List.getElem?_eq_getElem h2] at this
  simpa using this
/-! the least turn, by trying -/
def okSize (t : List Nat) (k : Nat) : Bool := decide (t.length % k = 0) && decide (rep (t.length / k) (t.take k) = t)
def ltGo (t : List Nat) : Nat → Nat → Nat
  | 0, k => k
  | m + 1, k => if okSize t k = true then k else ltGo t m (k + 1)
def ltSize (t : List Nat) : Nat := ltGo t (t.length - 1) 1
theorem okSize_per {t : List Nat} {k : Nat} (ht : t ≠ []) (h1 : 1 ≤ k) (h2 : k ≤ t.length) : okSize t k = true ↔ k ∣ t.length ∧ Per (cyc t) k := by
  have hp : 0 < t.length := List.length_pos_iff.mpr ht
  have e : (t.take k).length = k := by rw [List.length_take]; omega
  unfold okSize
  rw [Bool.and_eq_true, decide_eq_true_eq, decide_eq_true_eq]
  constructor
  · rintro ⟨a, b⟩
    refine ⟨Nat.dvd_of_mod_eq_zero a, ?_⟩
    have hm : 1 ≤ t.length / k := Nat.div_pos h2 h1
    have hne : t.take k ≠ [] := fun z => by rw [z] at e; simp at e; omega
    have hc := cyc_rep hne hm
    rw [b] at hc
    rw [hc]
    have := cyc_per (t.take k)
    rw [e] at this
    exact this
  · rintro ⟨a, b⟩
    refine ⟨Nat.mod_eq_zero_of_dvd a, ext_getD (by rw [rep_len, e, Nat.div_mul_cancel a]) fun i hi => ?_⟩
    rw [rep_len, e, Nat.div_mul_cancel a] at hi
    rw [rep_getD _ _ _ (by rw [e, Nat.div_mul_cancel a]; exact hi), e, getD_take (Nat.mod_lt _ h1), ← cyc_nat hi, ← cyc_nat (Nat.lt_of_lt_of_le (Nat.mod_lt _ h1) h2), Int.natCast_emod, b.emod]
theorem ltGo_per {t : List Nat} {p : Nat} (ht : t ≠ []) (hp : IsPer (cyc t) p) : ∀ (m k : Nat), k + m = t.length → 1 ≤ k → k ≤ p → ltGo t m k = p
  | 0, k, h, h1, h2 => by
    have := hp.le ht
    unfold ltGo; omega
  | m + 1, k, h, h1, h2 => by
    have hl := hp.le ht
    unfold ltGo
    by_cases ho : okSize t k = true
    · rw [if_pos ho]
      have := hp.min k h1 ((okSize_per ht h1 (by omega)).mp ho).2
      omega
    · rw [if_neg ho]
      refine ltGo_per ht hp m (k + 1) (by omega) (by omega) ?_
      have : k ≠ p := fun e => ho ((okSize_per ht h1 (by omega)).mpr (by subst e; exact ⟨hp.dvd (cyc_per t), hp.per⟩))
      omega
theorem ltSize_per {t : List Nat} (ht : t ≠ []) : IsPer (cyc t) (ltSize t) := by
  obtain ⟨p, hp, hl⟩ := isPer_ex ht
  have h0 : 0 < t.length := List.length_pos_iff.mpr ht
  unfold ltSize
  rw [ltGo_per ht hp _ 1 (by omega) (Nat.le_refl _) hp.pos]
  exact hp
/-! the least turn, by find -/
theorem at_per {t : List Nat} (ht : t ≠ []) {i : Nat} (hi : i ≤ t.length) : ((t ++ t).drop i).take t.length = t ↔ Per (cyc t) i := by
  have hp : 0 < t.length := List.length_pos_iff.mpr ht
  have hl : (((t ++ t).drop i).take t.length).length = t.length := by rw [List.length_take, List.length_drop, List.length_append]; omega
  have hg : ∀ j, j < t.length → (((t ++ t).drop i).take t.length).getD j 0 = cyc t ((j : Int) + i) := fun j hj => by
    rw [getD_take hj, getD_drop]
    have := row_getD [] t 2 (i := i + j) (by simp; omega)
    rw [rep_two, List.nil_append, seq_hi (by simp)] at this
    rw [this]
    congr 1; simp; omega
  constructor
  · intro e z
    rw [e] at hg
    have b0 := Int.emod_nonneg z (show (t.length : Int) ≠ 0 by omega)
    have b1 := Int.emod_lt_of_pos z (show 0 < (t.length : Int) by omega)
    obtain ⟨r, hr⟩ := Int.eq_ofNat_of_zero_le b0
    have h1 := hg r (by omega)
    rw [← cyc_nat (by omega), ← hr] at h1
    rw [(cyc_per t).emod] at h1
    rw [h1]
    refine (cyc_per t).eq (z / t.length) ?_
    have := Int.emod_add_mul_ediv z t.length
    rw [Int.mul_comm] at this
    omega
  · intro h
    refine ext_getD hl fun j hj => ?_
    rw [hl] at hj
    rw [hg j hj, h, cyc_nat hj]
theorem find_per {t : List Nat} (ht : t ≠ []) : ∃ k : Nat, Txt.find3 (S (t ++ t)) (S t) 1 = (k : Int) ∧ IsPer (cyc t) k := by
  have hp : 0 < t.length := List.length_pos_iff.mpr ht
  have at_iff : ∀ i, StrLaws.At (S (t ++ t)) (S t) (S (t ++ t)).length i ↔ i ≤ t.length ∧ Per (cyc t) i := fun i => by
    unfold StrLaws.At
    rw [StrLaws.subAt_eq, S_toList, S_toList, S_length, S_length, List.length_append, beq_iff_eq]
    constructor
    · rintro ⟨a, b⟩
      exact ⟨by omega, (at_per ht (by omega)).mp b⟩
    · rintro ⟨a, b⟩
      exact ⟨by omega, (at_per ht a).mpr b⟩
  unfold Txt.find3
  have e1 : fromIndex (S (t ++ t)).length 1 = 1 := by unfold fromIndex; rfl
  rw [e1]
  rcases StrLaws.occ_head_from (S (t ++ t)) (S t) 1 1 (Nat.le_refl _) with ⟨_, hn⟩ | ⟨k, r, h0, hlo, hk, hn⟩
  · exact absurd ((at_iff t.length).mpr ⟨Nat.le_refl _, cyc_per t⟩) (hn t.length hp)
  · rw [h0]
    have hk' := (at_iff k).mp hk
    refine ⟨k, rfl, hlo, hk'.2, fun d d1 d2 => Classical.byContradiction fun hz => ?_⟩
    exact hn d d1 (by omega) ((at_iff d).mpr ⟨by omega, d2⟩)
/-! rows written out -/
theorem per_add {a : Nat → Nat} {k p : Nat} (h : ∀ n, k ≤ n → a (n + p) = a n) : ∀ (m n : Nat), k ≤ n → a (n + m * p) = a n
  | 0, n, _ => by simp
  | m + 1, n, hn => by rw [Nat.succ_mul, ← Nat.add_assoc, h _ (Nat.le_trans hn (Nat.le_add_right _ _)), per_add h m n hn]
theorem outH_getD {a : Nat → Nat} {k i : Nat} (h : i < k) : (outH a k).getD i 0 = a i := by
  unfold outH
  rw [List.getD_eq_getElem?_getD, List.getElem?_map, List.getElem?_range h]; rfl
theorem outT_getD {a : Nat → Nat} {k p i : Nat} (h : i < p) : (outT a k p).getD i 0 = a (k + i) := by
  unfold outT
  rw [List.getD_eq_getElem?_getD, List.getElem?_map, List.getElem?_range h]; rfl
theorem seq_out {a : Nat → Nat} {k p : Nat} (hp : 1 ≤ p) (h : ∀ n, k ≤ n → a (n + p) = a n) : seq (outH a k) (outT a k p) = a := by
  funext n
  by_cases hn : n < k
  · rw [seq_lo (by simpa using hn), outH_getD hn]
  · rw [seq_hi (by simp; omega), outH_len, show ((n : Int) - k) = ((n - k : Nat) : Int) by omega, cyc_mod, outT_len, outT_getD (Nat.mod_lt _ hp)]
    have e : n = k + (n - k) % p + (n - k) / p * p := by
      have := Nat.mod_add_div (n - k) p
      rw [Nat.mul_comm] at this
      omega
    rw [show a n = a (k + (n - k) % p + (n - k) / p * p) by rw [← e]]
    rw [per_add h _ _ (by omega)]
theorem seq_per (h t : List Nat) : ∀ n, h.length ≤ n → seq h t (n + t.length) = seq h t n := fun n hn => by
  rw [seq_hi hn, seq_hi (by omega), ← cyc_per t ((n : Int) - h.length)]
  congr 1; push_cast; omega
theorem row_take {h t : List Nat} {m c : Nat} (hc : c ≤ h.length + m * t.length) : (h ++ rep m t).take c = outH (seq h t) c := ext_out (by rw [List.length_take, List.length_append, rep_len]; omega) fun i hi => by
  rw [getD_take hi, row_getD _ _ _ (by omega)]
theorem row_mid {h t : List Nat} {m c p : Nat} (hc : c + p ≤ h.length + m * t.length) : ((h ++ rep m t).drop c).take p = outT (seq h t) c p := ext_out (by rw [List.length_take, List.length_drop, List.length_append, rep_len]; omega) fun i hi => by
  rw [getD_take hi, getD_drop, row_getD _ _ _ (by omega)]
theorem seq_written {h t : List Nat} (ht : t ≠ []) {c o : Nat} (hc : h.length ≤ c) (ho : 1 ≤ o) : seq (outH (seq h t) c) (rep o (outT (seq h t) c t.length)) = seq h t := by
  have hp : 0 < t.length := List.length_pos_iff.mpr ht
  rw [seq_cyc (cyc_rep (fun z => by have := congrArg List.length z; rw [outT_len] at this; simp at this; exact ht this) ho)]
  exact seq_out hp fun n hn => seq_per h t n (by omega)
theorem cn_self {h t : List Nat} (ht : t ≠ []) (hp : IsPer (cyc t) t.length) (hl : h = [] ∨ h.getD (h.length - 1) 0 ≠ t.getD (t.length - 1) 0) : Cn (seq h t) h.length t.length := by
  have h0 : 0 < t.length := List.length_pos_iff.mpr ht
  refine strip_cn ht hp (Nat.le_refl _) (fun n hn => seq_hi hn) ?_
  rcases hl with rfl | hl
  · exact .inl rfl
  · by_cases hz : h.length = 0
    · exact .inl hz
    · refine .inr ?_
      rw [seq_lo (by omega)]
      have : cyc t (((h.length - 1 : Nat) : Int) - h.length) = t.getD (t.length - 1) 0 := by
        rw [← cyc_nat (show t.length - 1 < t.length by omega)]
        refine (cyc_per t).eq (-1) ?_
        omega
      rw [this]
      exact hl
theorem isPer_take {t : List Nat} (ht : t ≠ []) {k : Nat} (h : IsPer (cyc t) k) : t.take k ≠ [] ∧ (t.take k).length = k ∧ cyc (t.take k) = cyc t ∧ IsPer (cyc (t.take k)) (t.take k).length := by
  have hl := h.le ht
  have e : (t.take k).length = k := by rw [List.length_take]; omega
  have hc := cyc_take ht h.pos hl h.per
  refine ⟨fun z => ?_, e, hc, by rw [hc, e]; exact h⟩
  rw [z] at e
  have := h.pos
  simp at e; omega
end Q

set_option Elab.async false
set_option linter.all false
set_option maxRecDepth 100000
namespace Q
open PySem PySem.Spec PyProof.Rows L2
abbrev F : Exn → Prop := fun _ => False
theorem atI_get {l : List Nat} {i : Int} (h0 : 0 ≤ i) (h1 : i < l.length) : atI l i = some (l.getD i.toNat 0) := by
  rw [atI_nn l h0, List.getD_eq_getElem?_getD, List.getElem?_eq_getElem (by omega)]; rfl
theorem atI_mem {α : Type} {l : List α} {i : Int} (h0 : 0 ≤ i) (h1 : i < l.length) : ∃ d, atI l i = some d ∧ d ∈ l := by
  rw [atI_nn l h0, List.getElem?_eq_getElem (show i.toNat < l.length by omega)]
  exact ⟨_, rfl, List.getElem_mem _⟩
abbrev Pr (h t : List Nat) : D := .tuple [.str (S h), .str (S t)]
theorem lit_ : Str.ofString "" = S [] := by rfl
theorem lit_0 : Str.ofString "0" = S [48] := by rfl
theorem lit_1 : Str.ofString "1" = S [49] := by rfl
/-- what may stand in a word -/
def Bin (l : List Nat) : Prop := ∀ c ∈ l, c = 48 ∨ c = 49
theorem Bin.lt {l : List Nat} (h : Bin l) : ∀ c ∈ l, c < 1114112 := fun c hc => by rcases h c hc with rfl | rfl <;> omega
theorem Bin.nil : Bin [] := fun _ h => nomatch h
theorem Bin.app {a b : List Nat} (h : Bin a) (h' : Bin b) : Bin (a ++ b) := fun c hc => (List.mem_append.mp hc).elim (h c) (h' c)
theorem Bin.take {a : List Nat} (h : Bin a) (n : Nat) : Bin (a.take n) := fun c hc => h c (List.mem_of_mem_take hc)
theorem Bin.drop {a : List Nat} (h : Bin a) (n : Nat) : Bin (a.drop n) := fun c hc => h c (List.mem_of_mem_drop hc)
theorem Bin.rep {a : List Nat} (h : Bin a) : ∀ n, Bin (rep n a)
  | 0 => Bin.nil
  | n + 1 => by rw [rep_succ]; exact h.app (h.rep n)
theorem Bin.b0 : Bin [48] := fun c hc => .inl (List.mem_singleton.mp hc)
theorem Bin.b1 : Bin [49] := fun c hc => .inr (List.mem_singleton.mp hc)
theorem Bin.getD {a : List Nat} (h : Bin a) {i : Nat} (hi : i < a.length) : a.getD i 0 = 48 ∨ a.getD i 0 = 49 := by
  refine h _ ?_
  rw [List.getD_eq_getElem?_getD, List.getElem?_eq_getElem hi]
  exact List.getElem_mem _
theorem Pr_sm {h t : List Nat} (hb : Bin h) (tb : Bin t) {w : Nat} (hw : h.length + t.length + 2 ≤ w) : Sm 64 w (Pr h t) := by
  have e := SmL.cons (p := 63) (Sm.str hb.lt) (SmL.cons (Sm.str tb.lt) SmL.nil)
  exact e.tuple.mono (Nat.le_refl _) (by omega)
theorem S_iff {a b : List Nat} : S a = S b ↔ a = b := ⟨S_inj, fun e => by rw [e]⟩
theorem eqv_Pr {h t h' t' : List Nat} : PyData.eqv (Pr h t) (Pr h' t') = decide (h = h' ∧ t = t') := by
  by_cases h1 : h = h' <;> by_cases h2 : t = t' <;> simp [h1, h2, PyData.eqv, PyData.eqvAll, S_iff]
theorem dEq_Pr {h t h' t' : List Nat} (hb : Bin h) (tb : Bin t) (hb' : Bin h') (tb' : Bin t') : dEq (Pr h t) (Pr h' t') = .ret (.bool (decide (h = h' ∧ t = t'))) := by
  unfold dEq cmpOk
  rw [(Pr_sm hb tb (Nat.le_refl _)).shaped, (Pr_sm hb' tb' (Nat.le_refl _)).shaped, eqv_Pr, Bool.and_self, Bool.or_true, if_pos rfl]
end Q

set_option Elab.async false
set_option linter.all false
set_option maxRecDepth 100000
namespace Q
/-! ### defs that many laws share, and what they come to -/
namespace C
open PySem PySem.Spec PyProof.Rows L2
abbrev f__law_draw := drawM
def m_least_turn : Q.Env → M Flow := sSeq (sFor (iR2 (lCons (eC (.int 1)) (lCons (eB dLen (lCons (eVar 0) (lNil))) (lNil)))) (gSet 1) (sIf (tAndM (tBin dEq (eBin dMod (eB dLen (lCons (eVar 0) (lNil))) (eVar 1)) (eC (.int 0))) (tBin dEq (eBin dMul (eSl (eVar 0) (oNone) (oSome (eVar 1))) (eBin dFdiv (eB dLen (lCons (eVar 0) (lNil))) (eVar 1))) (eVar 0))) (sRet (eSl (eVar 0) (oNone) (oSome (eVar 1)))) (sNil)))
    (sRet (eVar 0))
def f_least_turn : List Slot → M D := fnM 2 m_least_turn
def m_least : Q.Env → M Flow := sSeq (sPar 1 2 (lCons (eBin dIx (eVar 0) (eC (.int 0))) (lCons (eCall f_least_turn (aCons (eBin dIx (eVar 0) (eC (.int 1))) (aNil))) (lNil))))
    (sSeq (sSet 3 (eB dLen (lCons (eVar 1) (lNil))))
    (sSeq (sWhile 1000000000000 (tAndM (tBin dGt (eVar 3) (eC (.int 0))) (tBin dEq (eBin dIx (eVar 1) (eBin dSub (eVar 3) (eC (.int 1)))) (eBin dIx (eVar 2) (eBin dMod (eBin dSub (eBin dSub (eVar 3) (eC (.int 1))) (eB dLen (lCons (eVar 1) (lNil)))) (eB dLen (lCons (eVar 2) (lNil))))))) (sSet 3 (eBin dSub (eVar 3) (eC (.int 1)))))
    (sSeq (sSet 4 (eBin dMod (eBin dSub (eVar 3) (eB dLen (lCons (eVar 1) (lNil)))) (eB dLen (lCons (eVar 2) (lNil)))))
    (sRet (eTup (lCons (eSl (eVar 1) (oNone) (oSome (eVar 3))) (lCons (eBin dAdd (eSl (eVar 2) (oSome (eVar 4)) (oNone)) (eSl (eVar 2) (oNone) (oSome (eVar 4)))) (lNil))))))))
def f_least : List Slot → M D := fnM 5 m_least
def m_is_least : Q.Env → M Flow := sRet (eBin dEq (eCall f_least (aCons (eVar 0) (aNil))) (eVar 0))
def f_is_least : List Slot → M D := fnM 1 m_is_least
def m__law_pick : Q.Env → M Flow := sRet (eBin dIx (eVar 1) (eCall f__law_draw (aWell 0 (aCons (eB dLen (lCons (eVar 1) (lNil))) (aNil)))))
def f__law_pick : List Slot → M D := fnM 2 m__law_pick
def m__law_bits : Q.Env → M Flow := sSeq (sSet 2 (eC (.str "")))
    (sSeq (sFor (iR1 (lCons (eBin dAdd (eBin dFdiv (eVar 1) (eC (.int 16))) (eC (.int 1))) (lNil))) (gSet 3) (sSeq (sSet 4 (eCall f__law_draw (aWell 0 (aCons (eC (.int 65536)) (aNil)))))
    (sSet 2 (eBin dAdd (eVar 2) (eM mJoin (eC (.str "")) (lCons (eFz (fComp [5] (iR1 (lCons (eC (.int 16)) (lNil))) (gSet 5) (tTrue) (eB dStr (lCons (eBin dMod (eB dInt (lCons (eBin dShr (eVar 4) (eVar 5)) (lNil))) (eC (.int 2))) (lNil))))) (lNil)))))))
    (sRet (eSl (eVar 2) (oNone) (oSome (eVar 1)))))
def f__law_bits : List Slot → M D := fnM 6 m__law_bits
def m__law_word : Q.Env → M Flow := sSeq (sIf (tBin dLt (eVar 1) (eC (.int 1))) (sRet (eC (.str ""))) (sNil))
    (sSeq (sPar 2 3 (lCons (eCall f__law_draw (aWell 0 (aCons (eC (.int 8)) (aNil)))) (lCons (eCall f__law_draw (aWell 0 (aCons (eVar 1) (aNil)))) (lNil))))
    (sSeq (sIf (tBin dLt (eVar 2) (eC (.int 4))) (sSeq (sAsg (gTupE 2 (gsCons (gSet 4) (gsCons (gSet 5) (gsNil)))) (eIf (tBin dLt (eVar 2) (eC (.int 2))) (eTup (lCons (eC (.str "0")) (lCons (eC (.str "1")) (lNil)))) (eTup (lCons (eC (.str "1")) (lCons (eC (.str "0")) (lNil))))))
    (sRet (eIf (tBin dIn (eVar 2) (eTup (lCons (eC (.int 0)) (lCons (eC (.int 2)) (lNil))))) (eBin dMul (eVar 4) (eVar 1)) (eBin dAdd (eBin dAdd (eBin dMul (eVar 4) (eVar 3)) (eVar 5)) (eBin dMul (eVar 4) (eBin dSub (eBin dSub (eVar 1) (eVar 3)) (eC (.int 1)))))))) (sNil))
    (sSeq (sIf (tBin dGt (eVar 2) (eC (.int 5))) (sRet (eSl (eBin dMul (eCall f__law_bits (aWell 0 (aCons (eB dMin (lCons (eVar 1) (lCons (eC (.int 640)) (lNil)))) (aNil)))) (eBin dAdd (eBin dFdiv (eVar 1) (eC (.int 640))) (eC (.int 1)))) (oNone) (oSome (eVar 1)))) (sNil))
    (sSeq (sSet 6 (eCall f__law_bits (aWell 0 (aCons (eBin dAdd (eC (.int 1)) (eCall f__law_draw (aWell 0 (aCons (eB dMin (lCons (eVar 1) (lCons (eC (.int 6)) (lNil)))) (aNil))))) (aNil)))))
    (sSeq (sSet 7 (eSl (eBin dMul (eVar 6) (eVar 1)) (oNone) (oSome (eVar 1))))
    (sSeq (sIf (tBin dEq (eVar 2) (eC (.int 5))) (sSet 7 (eBin dAdd (eBin dAdd (eSl (eVar 7) (oNone) (oSome (eVar 3))) (eIf (tBin dEq (eBin dIx (eVar 7) (eVar 3)) (eC (.str "0"))) (eC (.str "1")) (eC (.str "0")))) (eSl (eVar 7) (oSome (eBin dAdd (eVar 3) (eC (.int 1)))) (oNone)))) (sNil))
    (sRet (eVar 7))))))))
def f__law_word : List Slot → M D := fnM 8 m__law_word
def m__law_written : Q.Env → M Flow := sSeq (sSet 3 (eCall f__law_draw (aWell 0 (aCons (eBin dAdd (eB dMin (lCons (eVar 2) (lCons (eBin dSub (eC (.int 5000)) (eB dLen (lCons (eBin dIx (eVar 1) (eC (.int 0))) (lNil)))) (lNil)))) (eC (.int 1))) (aNil)))))
    (sSeq (sSet 4 (eBin dAdd (eC (.int 1)) (eCall f__law_draw (aWell 0 (aCons (eB dMin (lCons (eVar 2) (lCons (eBin dFdiv (eC (.int 5000)) (eB dLen (lCons (eBin dIx (eVar 1) (eC (.int 1))) (lNil)))) (lNil)))) (aNil))))))
    (sSeq (sPar 5 6 (lCons (eBin dAdd (eBin dIx (eVar 1) (eC (.int 0))) (eBin dMul (eBin dIx (eVar 1) (eC (.int 1))) (eBin dAdd (eBin dFdiv (eVar 3) (eB dLen (lCons (eBin dIx (eVar 1) (eC (.int 1))) (lNil)))) (eC (.int 2))))) (lCons (eBin dAdd (eB dLen (lCons (eBin dIx (eVar 1) (eC (.int 0))) (lNil))) (eVar 3)) (lNil))))
    (sRet (eTup (lCons (eSl (eVar 5) (oNone) (oSome (eVar 6))) (lCons (eBin dMul (eSl (eVar 5) (oSome (eVar 6)) (oSome (eBin dAdd (eVar 6) (eB dLen (lCons (eBin dIx (eVar 1) (eC (.int 1))) (lNil)))))) (eVar 4)) (lNil)))))))
def f__law_written : List Slot → M D := fnM 7 m__law_written
def m__law_least : Q.Env → M Flow := sSeq (sSet 1 (eM mFind (eBin dAdd (eBin dIx (eVar 0) (eC (.int 1))) (eBin dIx (eVar 0) (eC (.int 1)))) (lCons (eBin dIx (eVar 0) (eC (.int 1))) (lCons (eC (.int 1)) (lNil)))))
    (sSeq (sPar3 2 3 4 (lCons (eBin dAdd (eBin dAdd (eBin dIx (eVar 0) (eC (.int 0))) (eBin dIx (eVar 0) (eC (.int 1)))) (eBin dIx (eVar 0) (eC (.int 1)))) (lCons (eC (.int 0)) (lCons (eB dLen (lCons (eBin dIx (eVar 0) (eC (.int 0))) (lNil))) (lNil)))))
    (sSeq (sFor (iR1 (lCons (eC (.int 14)) (lNil))) (gSet 5) (sSeq (sSet 6 (eBin dFdiv (eBin dAdd (eVar 3) (eVar 4)) (eC (.int 2))))
    (sIf (tBin dEq (eSl (eVar 2) (oSome (eVar 6)) (oSome (eB dLen (lCons (eBin dIx (eVar 0) (eC (.int 0))) (lNil))))) (eSl (eVar 2) (oSome (eBin dAdd (eVar 6) (eVar 1))) (oSome (eBin dAdd (eB dLen (lCons (eBin dIx (eVar 0) (eC (.int 0))) (lNil))) (eVar 1))))) (sSet 4 (eVar 6)) (sSet 3 (eBin dAdd (eVar 6) (eC (.int 1)))))))
    (sRet (eTup (lCons (eSl (eVar 2) (oNone) (oSome (eVar 4))) (lCons (eSl (eVar 2) (oSome (eVar 4)) (oSome (eBin dAdd (eVar 4) (eVar 1)))) (lNil)))))))
def f__law_least : List Slot → M D := fnM 7 m__law_least
def m__law_spoilt : Q.Env → M Flow := sSeq (sSet 2 (eCall f__law_pick (aWell 0 (aCons (eFz (fLst (lCons (eC (.int 0)) (lCons (eB dLen (lCons (eBin dIx (eVar 1) (eC (.int 0))) (lNil))) (lCons (eBin dSub (eBin dAdd (eB dLen (lCons (eBin dIx (eVar 1) (eC (.int 0))) (lNil))) (eB dLen (lCons (eBin dIx (eVar 1) (eC (.int 1))) (lNil)))) (eC (.int 1))) (lCons (eCall f__law_draw (aWell 0 (aCons (eBin dAdd (eB dLen (lCons (eBin dIx (eVar 1) (eC (.int 0))) (lNil))) (eB dLen (lCons (eBin dIx (eVar 1) (eC (.int 1))) (lNil)))) (aNil)))) (lNil))))))) (aNil)))))
    (sSeq (sSet 3 (eBin dAdd (eBin dIx (eVar 1) (eC (.int 0))) (eBin dIx (eVar 1) (eC (.int 1)))))
    (sSeq (sSet 3 (eBin dAdd (eBin dAdd (eSl (eVar 3) (oNone) (oSome (eVar 2))) (eIf (tBin dEq (eBin dIx (eVar 3) (eVar 2)) (eC (.str "0"))) (eC (.str "1")) (eC (.str "0")))) (eSl (eVar 3) (oSome (eBin dAdd (eVar 2) (eC (.int 1)))) (oNone))))
    (sRet (eTup (lCons (eSl (eVar 3) (oNone) (oSome (eB dLen (lCons (eBin dIx (eVar 1) (eC (.int 0))) (lNil))))) (lCons (eSl (eVar 3) (oSome (eB dLen (lCons (eBin dIx (eVar 1) (eC (.int 0))) (lNil)))) (oNone)) (lNil)))))))
def f__law_spoilt : List Slot → M D := fnM 4 m__law_spoilt
end C
end Q
namespace Q
namespace C
open PySem PySem.Spec PyProof.Rows L2
theorem w_least_turn {t : List Nat} (ht : t ≠ []) (hl : t.length ≤ 20000) : W (f_least_turn [.dat (.str (S t))]) (fun d => d = .str (S (t.take (ltSize t)))) F := by
  have hp : 0 < t.length := List.length_pos_iff.mpr ht
  refine W_fn (δ := [.dat (.str (S t)), .emp]) rfl ?_
  unfold m_least_turn
  simp only [↓wr]
  refine ⟨by omega, by omega, ?_⟩
  refine W_range (t.length : Int) (fun k δ => 1 ≤ k ∧ k ≤ t.length ∧ (∃ s, δ = [.dat (.str (S t)), s]) ∧ ltGo t (t.length - k.toNat) k.toNat = ltSize t) ?_ ?_ _ _ _ rfl ⟨by omega, by omega, ⟨_, rfl⟩, rfl⟩
  · rintro k δ hk ⟨h1, h2, ⟨s, rfl⟩, hg⟩
    obtain ⟨n, rfl⟩ := Int.eq_ofNat_of_zero_le (show 0 ≤ k by omega)
    have hn : n < t.length := by omega
    have eg : ltGo t (t.length - n) n = if okSize t n = true then n else ltGo t (t.length - (n + 1)) (n + 1) := by
      rw [show t.length - n = (t.length - (n + 1)) + 1 by omega]; rfl
    rw [Int.toNat_natCast, eg] at hg
    have em : ((t.length : Int) % (n : Int)) = ((t.length % n : Nat) : Int) := (Int.natCast_emod _ _).symm
    have ed : ((t.length : Int) / (n : Int)) = ((t.length / n : Nat) : Int) := (Int.natCast_ediv _ _).symm
    have hd : t.length / n ≤ t.length := Nat.div_le_self _ _
    have hd0 : 0 ≤ ((t.length / n : Nat) : Int) := Int.natCast_nonneg _
    have hm : (t.take n).length * (t.length / n) ≤ 16777216 := by
      rw [List.length_take, Nat.min_eq_left (by omega)]
      exact Nat.le_trans (Nat.mul_div_le _ _) (by omega)
    have hnx : ¬ okSize t n = true → 1 ≤ ((n : Int) + 1) ∧ ((n : Int) + 1) ≤ t.length ∧ (∃ s : Slot, ([.dat (.str (S t)), .dat (.int n)] : Env) = [.dat (.str (S t)), s]) ∧ ltGo t (t.length - ((n : Int) + 1).toNat) ((n : Int) + 1).toNat = ltSize t := fun ho => by
      rw [if_neg ho] at hg
      exact ⟨by omega, by omega, ⟨_, rfl⟩, by rw [show ((n : Int) + 1).toNat = n + 1 by omega]; exact hg⟩
    simp only [↓wr, cut_take _ (show (0 : Int) ≤ (n : Int) by omega), em, ed, Int.toNat_natCast, decide_eq_true_eq]
    refine ⟨by omega, by omega, ?_⟩
    by_cases c1 : t.length % n = 0
    · rw [if_pos (by omega)]
      refine ⟨by omega, by omega, by omega, ⟨by omega, by omega, hm⟩, ?_⟩
      by_cases c2 : rep (t.length / n) (t.take n) = t
      · rw [if_pos c2]
        have ho : okSize t n = true := by simp [okSize, c1, c2]
        rw [if_pos ho] at hg
        refine ⟨by omega, ?_⟩
        rw [hg]
      · rw [if_neg c2]
        exact hnx (by simp [okSize, c2])
    · rw [if_neg (by omega)]
      rw [if_neg (by simp)]
      exact hnx (by simp [okSize, c1])
  · rintro δ k hk ⟨h1, h2, ⟨s, rfl⟩, hg⟩
    rw [show t.length - k.toNat = 0 by omega] at hg
    have hg : k.toNat = ltSize t := hg
    simp only [↓wr]
    rw [← hg, show k.toNat = t.length by omega, List.take_length]
theorem w_least {h t : List Nat} (ht : t ≠ []) (hl : t.length ≤ 20000) (hh : h.length ≤ 20000) {k p : Nat} (hc : Cn (seq h t) k p) : W (f_least [.dat (Pr h t)]) (fun d => d = Pr (outH (seq h t) k) (outT (seq h t) k p)) F := by
  obtain ⟨hne, elen, ecyc, hper⟩ := isPer_take ht (ltSize_per ht)
  refine W_fn (δ := [.dat (Pr h t), .emp, .emp, .emp, .emp]) rfl ?_
  unfold m_least
  simp only [↓wr]
  refine W_use (w_least_turn ht hl) fun d e => ?_
  subst e
  refine ⟨by omega, ?_⟩
  have hle : (t.take (ltSize t)).length ≤ 20000 := by rw [List.length_take]; omega
  generalize t.take (ltSize t) = u at hne elen ecyc hper hle
  have hu : 0 < u.length := List.length_pos_iff.mpr hne
  rw [← seq_cyc ecyc (h := h)] at hc ⊢
  refine W_sWhile (fun m δ => m ≤ h.length ∧ δ = [.dat (Pr h t), .dat (.str (S h)), .dat (.str (S u)), .dat (.int m), .emp] ∧ ∀ n, m ≤ n → seq h u n = cyc u ((n : Int) - h.length)) ?_ _ h.length _ (by omega) ⟨Nat.le_refl _, rfl, fun n hn => seq_hi hn⟩
  rintro m δ ⟨hm, rfl, hi⟩
  have hend : (m = 0 ∨ seq h u (m - 1) ≠ cyc u (((m - 1 : Nat) : Int) - h.length)) → W (andThen (sSeq (sSet 4 (eBin dMod (eBin dSub (eVar 3) (eB dLen (lCons (eVar 1) lNil))) (eB dLen (lCons (eVar 2) lNil)))) (sRet (eTup (lCons (eSl (eVar 1) oNone (oSome (eVar 3))) (lCons (eBin dAdd (eSl (eVar 2) (oSome (eVar 4)) oNone) (eSl (eVar 2) oNone (oSome (eVar 4)))) lNil))))) (.next [.dat (Pr h t), .dat (.str (S h)), .dat (.str (S u)), .dat (.int m), .emp])) (fun fl => W (ends fl) (fun d => d = Pr (outH (seq h u) k) (outT (seq h u) k p)) F) F := fun hlo => by
    have b0 := Int.emod_nonneg ((m : Int) - h.length) (show (u.length : Int) ≠ 0 by omega)
    have b1 := Int.emod_lt_of_pos ((m : Int) - h.length) (show 0 < (u.length : Int) by omega)
    obtain ⟨s, hs⟩ := Int.eq_ofNat_of_zero_le b0
    simp only [↓wr, hs, cut_take _ (Int.natCast_nonneg _), cut_drop _ (Int.natCast_nonneg _), Int.toNat_natCast]
    obtain ⟨rfl, rfl⟩ := hc.uniq (strip_cn hne hper hm hi hlo)
    refine ⟨by omega, by omega, by omega, by omega, by omega, by omega, by rw [List.length_take, List.length_drop]; omega, ?_⟩
    rw [take_outH hm, rot_out (f := fun i => seq h u (k + i)) (by omega) fun i hi' => ?_]
    · rfl
    · rw [hi _ (by omega), ← hs, ← (cyc_per u).emod (_ + _), Int.emod_add_emod, (cyc_per u).emod]
      congr 1; push_cast; omega
  simp only [↓wr] at hend
  simp only [↓wr, decide_eq_true_eq]
  by_cases hz : m = 0
  · rw [if_neg (by omega), if_neg (by simp)]
    exact hend (.inl hz)
  · rw [if_pos (by omega)]
    have b0 := Int.emod_nonneg ((m : Int) - 1 - h.length) (show (u.length : Int) ≠ 0 by omega)
    have b1 := Int.emod_lt_of_pos ((m : Int) - 1 - h.length) (show 0 < (u.length : Int) by omega)
    refine ⟨by omega, _, atI_get (by omega) (by omega), by omega, by omega, by omega, by omega, _, atI_get b0 b1, ?_⟩
    have e1 : h.getD ((m : Int) - 1).toNat 0 = seq h u (m - 1) := by rw [seq_lo (by omega)]; congr 1; omega
    have e2 : u.getD (((m : Int) - 1 - h.length) % u.length).toNat 0 = cyc u (((m - 1 : Nat) : Int) - h.length) := by
      unfold cyc; congr 3; omega
    rw [e1, e2]
    by_cases hq : seq h u (m - 1) = cyc u (((m - 1 : Nat) : Int) - h.length)
    · rw [if_pos (by rw [hq])]
      refine ⟨by omega, by omega, by rw [show ((m : Int) - 1) = ((m - 1 : Nat) : Int) by omega], fun n hn => ?_⟩
      by_cases hn' : n = m - 1
      · rw [hn']; exact hq
      · exact hi n (by omega)
    · rw [if_neg (by intro z; exact hq (List.cons.inj z).1)]
      exact hend (.inr hq)
end C
end Q

namespace Q
open PySem PySem.Spec PyProof.Rows L2
/-! one-sign texts, joined -/
theorem strsOf_map : ∀ cs : List Nat, strsOf (cs.map fun c => PyData.str (S [c])) = some (cs.map fun c => S [c])
  | [] => rfl
  | c :: cs => by
    rw [List.map_cons, List.map_cons]
    unfold strsOf
    rw [strsOf_map cs]; rfl
theorem join_signs : ∀ cs : List Nat, Str.join (S []) (cs.map fun c => S [c]) = S cs
  | [] => rfl
  | [c] => rfl
  | c :: c' :: cs => by
    show S [c] ++ S [] ++ Str.join (S []) ((c' :: cs).map fun c => S [c]) = _
    rw [join_signs (c' :: cs), S_append, S_append]; rfl
theorem sum_signs : ∀ cs : List Nat, ((cs.map fun c => S [c]).map (·.length)).sum = cs.length
  | [] => rfl
  | c :: cs => by
    rw [List.map_cons, List.map_cons, List.sum_cons, sum_signs cs, S_length, List.length_cons]
    simp only [List.length_cons, List.length_nil]; omega
theorem mJoin_signs {cs : List Nat} (h : cs.length ≤ 16777216) : mJoin (S []) [.list (cs.map fun c => .str (S [c]))] = .ret (.str (S cs)) := by
  unfold mJoin
  dsimp only
  rw [strsOf_map]
  dsimp only
  rw [sum_signs, S_length, if_pos (by simp; omega)]
  rw [show Txt.join (S []) (cs.map fun c => S [c]) = S cs from (StrLaws.glued_eq_join _ _).trans (join_signs cs)]
namespace C
theorem w_pick {ds : List D} (h : ds ≠ []) (hl : ds.length < 1000000) : W (f__law_pick [.well, .dat (.list ds)]) (fun d => d ∈ ds) F := by
  have hp : 0 < ds.length := List.length_pos_iff.mpr h
  refine W_fn (δ := [.well, .dat (.list ds)]) rfl ?_
  unfold m__law_pick
  simp only [↓wr]
  refine ⟨⟨by omega, by omega⟩, fun r h0 h1 => ?_⟩
  exact atI_mem h0 h1
theorem w_bits {n : Int} (h0 : 0 ≤ n) (h1 : n ≤ 20000) : W (f__law_bits [.well, .dat (.int n)]) (fun d => ∃ l, d = .str (S l) ∧ Bin l ∧ l.length = n.toNat) F := by
  refine W_fn (δ := [.well, .dat (.int n), .emp, .emp, .emp, .emp]) rfl ?_
  unfold m__law_bits
  simp only [↓wr, lit_]
  refine ⟨by omega, ⟨by omega, by omega⟩, ?_⟩
  refine W_range (n / 16 + 1) (fun k δ => 0 ≤ k ∧ k ≤ n / 16 + 1 ∧ ∃ l s1 s2 s3, δ = [.well, .dat (.int n), .dat (.str (S l)), s1, s2, s3] ∧ Bin l ∧ (l.length : Int) = 16 * k) ?_ ?_ _ _ _ (by omega) ⟨by omega, by omega, [], _, _, _, rfl, Bin.nil, rfl⟩
  · rintro k δ hk ⟨k0, k1, l, s1, s2, s3, rfl, hb, hl⟩
    simp only [↓wr, lit_]
    refine ⟨⟨by omega, by omega⟩, fun m m0 m1 => ⟨⟨by omega, by omega⟩, ?_, ?_⟩⟩
    · simp [rng]
    · let f : Nat → Nat := fun i => if (m / 2 ^ i) % 2 = 0 then 48 else 49
      refine W_calmI (W_use (W_comp (g := fun x => match x with | .int i => some (.str (S [f i.toNat])) | _ => none) _ fun x hx => ?_) fun r e => ?_)
      · obtain ⟨i, hi, rfl⟩ := List.mem_map.mp hx
        have hi := List.mem_range.mp hi
        simp only [↓wr]
        have b0 := Int.emod_nonneg (m / 2 ^ ((0 : Int) + (i : Int)).toNat) (show (2 : Int) ≠ 0 by omega)
        have b1 := Int.emod_lt_of_pos (m / 2 ^ ((0 : Int) + (i : Int)).toNat) (show (0 : Int) < 2 by omega)
        refine ⟨by omega, by omega, ?_⟩
        show _ ∧ some (PyData.str _) = some (PyData.str (S [if (m / 2 ^ ((0 : Int) + (i : Int)).toNat) % 2 = 0 then 48 else 49]))
        generalize (m / 2 ^ ((0 : Int) + (i : Int)).toNat) % 2 = z at b0 b1
        have hz : z = 0 ∨ z = 1 := by omega
        rcases hz with rfl | rfl
        · exact ⟨by decide, rfl⟩
        · exact ⟨by decide, rfl⟩
      · have er : r = ((List.range 16).map f).map fun c => PyData.str (S [c]) := by
          rw [e]; rfl
        rw [er]
        have hbf : Bin ((List.range 16).map f) := fun c hc => by
          obtain ⟨i, _, rfl⟩ := List.mem_map.mp hc
          show (if _ then 48 else 49) = 48 ∨ (if _ then 48 else 49) = 49
          split <;> simp
        have hlf : ((List.range 16).map f).length = 16 := by simp
        generalize (List.range 16).map f = cs at hbf hlf
        rw [mJoin_signs (by omega)]
        simp only [↓wr]
        refine ⟨by omega, by omega, by omega, _, _, _, _, rfl, hb.app hbf, ?_⟩
        rw [List.length_append]; omega
  · rintro δ k hk ⟨k0, k1, l, s1, s2, s3, rfl, hb, hl⟩
    simp only [↓wr, cut_take _ h0]
    refine ⟨by omega, _, rfl, hb.take _, ?_⟩
    rw [List.length_take]; omega
end C
end Q

namespace Q
open PySem PySem.Spec PyProof.Rows L2
theorem dIn_02 (r : Int) : dIn (.int r) (.tuple [.int 0, .int 2]) = .ret (.bool (decide (r = 0 ∨ r = 2))) := by
  show (if (flatD (.int r) && ([.int 0, .int 2] : List D).all flatD) = true then M.ret (PyData.bool (inD (.int r) [.int 0, .int 2])) else M.fail) = _
  rw [if_pos (by rfl)]
  have : inD (.int r) [.int 0, .int 2] = decide (r = 0 ∨ r = 2) := by
    simp only [inD, List.any_cons, List.any_nil, PyData.eqv, Bool.or_false]
    by_cases h1 : r = 0
    · subst h1; rfl
    · by_cases h2 : r = 2
      · subst h2; rfl
      · simp [h1, h2]; omega
  rw [this]
/-- one sign changed -/
theorem flip_len {l : List Nat} {i : Nat} (h : i < l.length) (c : Nat) : (l.take i ++ [c] ++ l.drop (i + 1)).length = l.length := by
  rw [List.length_append, List.length_append, List.length_take, List.length_drop, List.length_singleton]; omega
namespace C
theorem w_word {n : Int} (h0 : 0 ≤ n) (h1 : n ≤ 20000) : W (f__law_word [.well, .dat (.int n)]) (fun d => ∃ l, d = .str (S l) ∧ Bin l ∧ l.length = n.toNat) F := by
  refine W_fn (δ := [.well, .dat (.int n), .emp, .emp, .emp, .emp, .emp, .emp]) rfl ?_
  unfold m__law_word
  simp only [↓wr, lit_, lit_0, lit_1, dIn_02, decide_eq_true_eq]
  by_cases hz : n < 1
  · rw [if_pos hz]
    exact ⟨[], rfl, Bin.nil, by simp; omega⟩
  rw [if_neg hz]
  refine ⟨⟨by omega, by omega⟩, fun r r0 r1 => ⟨⟨by omega, by omega⟩, fun a a0 a1 => ?_⟩⟩
  by_cases h4 : r < 4
  · rw [if_pos h4]
    have one : ∀ c : Nat, Bin [c] → ∃ l, PyData.str (S (rep n.toNat [c])) = .str (S l) ∧ Bin l ∧ l.length = n.toNat := fun c hc => ⟨_, rfl, hc.rep _, by rw [rep_len]; simp⟩
    have two : ∀ c c' : Nat, Bin [c] → Bin [c'] → ∃ l, PyData.str (S (rep a.toNat [c] ++ [c'] ++ rep (n - a - 1).toNat [c])) = .str (S l) ∧ Bin l ∧ l.length = n.toNat := fun c c' hc hc' => ⟨_, rfl, ((hc.rep _).app hc').app (hc.rep _), by rw [List.length_append, List.length_append, rep_len, rep_len]; simp; omega⟩
    by_cases h2 : r < 2
    · rw [if_pos h2]
      refine ⟨rfl, ?_⟩
      split
      · exact ⟨⟨by omega, by omega, by simp; omega⟩, one 48 Bin.b0⟩
      · exact ⟨⟨by omega, by omega, by simp; omega⟩, by rw [rep_len]; simp; omega, ⟨by omega, by omega, by simp; omega⟩, by rw [List.length_append, rep_len, rep_len]; simp; omega, two 48 49 Bin.b0 Bin.b1⟩
    · rw [if_neg h2]
      refine ⟨rfl, ?_⟩
      split
      · exact ⟨⟨by omega, by omega, by simp; omega⟩, one 49 Bin.b1⟩
      · exact ⟨⟨by omega, by omega, by simp; omega⟩, by rw [rep_len]; simp; omega, ⟨by omega, by omega, by simp; omega⟩, by rw [List.length_append, rep_len, rep_len]; simp; omega, two 49 48 Bin.b1 Bin.b0⟩
  rw [if_neg h4]
  by_cases h5 : 5 < r
  · rw [if_pos h5]
    refine W_use (w_bits (by omega) (by omega)) fun d hd => ?_
    obtain ⟨l, rfl, hb, hl⟩ := hd
    have hm : l.length * (n / 640 + 1).toNat ≤ 16777216 := Nat.le_trans (Nat.mul_le_mul (show l.length ≤ 640 by omega) (show (n / 640 + 1).toNat ≤ 33 by omega)) (by omega)
    simp only [↓wr, cut_take _ h0]
    refine ⟨⟨by omega, by omega⟩, ⟨by omega, by omega, hm⟩, ?_, _, rfl, (hb.rep _).take _, ?_⟩
    · rw [rep_len, Nat.mul_comm]; exact hm
    · rw [List.length_take, rep_len]
      by_cases h6 : n < 640
      · have : l.length = n.toNat := by omega
        rw [this]
        have : n.toNat ≤ (n / 640 + 1).toNat * n.toNat := Nat.le_mul_of_pos_left _ (by omega)
        omega
      · have : l.length = 640 := by omega
        rw [this]; omega
  rw [if_neg h5]
  refine ⟨⟨by omega, by omega⟩, fun b b0 b1 => ?_⟩
  refine W_use (w_bits (by omega) (by omega)) fun d hd => ?_
  obtain ⟨l, rfl, hb, hl⟩ := hd
  have hm : l.length * n.toNat ≤ 16777216 := Nat.le_trans (Nat.mul_le_mul (show l.length ≤ 7 by omega) (show n.toNat ≤ 20000 by omega)) (by omega)
  have hg : n.toNat ≤ n.toNat * l.length := Nat.le_mul_of_pos_right _ (by omega)
  simp only [↓wr, cut_take _ h0]
  refine ⟨⟨by omega, by omega, hm⟩, by rw [rep_len, Nat.mul_comm]; exact hm, ?_⟩
  have hb2 := (hb.rep n.toNat).take n.toNat
  have hl2 : ((rep n.toNat l).take n.toNat).length = n.toNat := by rw [List.length_take, rep_len]; omega
  generalize (rep n.toNat l).take n.toNat = u at hb2 hl2
  by_cases h6 : r = 5
  · rw [if_pos h6]
    simp only [↓wr, cut_take _ a0, cut_drop _ (show 0 ≤ a + 1 by omega), decide_eq_true_eq]
    have e1 : (a + 1).toNat = a.toNat + 1 := by omega
    have fl : ∀ c, Bin [c] → u.length ≤ 16777216 ∧ (u.take a.toNat ++ [c]).length + (u.drop (a + 1).toNat).length ≤ 16777216 ∧ ∃ l, PyData.str (S (u.take a.toNat ++ [c] ++ u.drop (a + 1).toNat)) = .str (S l) ∧ Bin l ∧ l.length = n.toNat := fun c hc => by
      rw [e1, ← List.length_append, flip_len (by omega)]
      exact ⟨by omega, by omega, _, rfl, ((hb2.take _).app hc).app (hb2.drop _), by rw [flip_len (by omega)]; omega⟩
    refine ⟨by omega, by omega, _, atI_get a0 (by omega), ?_⟩
    have hlt : (u.take a.toNat).length + 1 ≤ 16777216 := by rw [List.length_take]; omega
    split
    · exact ⟨hlt, fl 49 Bin.b1⟩
    · exact ⟨hlt, fl 48 Bin.b0⟩
  · rw [if_neg h6]
    exact ⟨_, rfl, hb2, hl2⟩
end C
end Q

namespace Q
open PySem PySem.Spec PyProof.Rows L2
theorem seq_bin {h t : List Nat} (hb : Bin h) (tb : Bin t) (ht : t ≠ []) (n : Nat) : seq h t n = 48 ∨ seq h t n = 49 := by
  have hp : 0 < t.length := List.length_pos_iff.mpr ht
  by_cases hn : n < h.length
  · rw [seq_lo hn]; exact hb.getD hn
  · rw [seq_hi (by omega), show ((n : Int) - h.length) = ((n - h.length : Nat) : Int) by omega, cyc_mod]
    exact tb.getD (Nat.mod_lt _ hp)
theorem bin_outH {h t : List Nat} (hb : Bin h) (tb : Bin t) (ht : t ≠ []) (k : Nat) : Bin (outH (seq h t) k) := fun c hc => by
  obtain ⟨i, _, rfl⟩ := List.mem_map.mp hc
  exact seq_bin hb tb ht i
theorem bin_outT {h t : List Nat} (hb : Bin h) (tb : Bin t) (ht : t ≠ []) (k p : Nat) : Bin (outT (seq h t) k p) := fun c hc => by
  obtain ⟨i, _, rfl⟩ := List.mem_map.mp hc
  exact seq_bin hb tb ht (k + i)
theorem sIx_m1 (n d : Nat) : HT.sIx n d (some (-1)) = n - 1 := by
  show (if (-1 : Int) < 0 then ((-1 : Int) + (n : Int)).toNat else min (-1 : Int).toNat n) = _
  rw [if_pos (by decide)]; omega
theorem cut_last {l : List Nat} : cutL l (some (-1)) none = l.drop (l.length - 1) := by
  unfold cutL
  rw [HT.sIx_none, sIx_m1, List.take_of_length_le (by rw [List.length_drop]; omega)]
theorem cut_init {l : List Nat} : cutL l none (some (-1)) = l.take (l.length - 1) := by
  unfold cutL
  rw [HT.sIx_none, sIx_m1, List.drop_zero, Nat.sub_zero]
theorem drop_last {l : List Nat} (h : l ≠ []) : l.drop (l.length - 1) = [l.getD (l.length - 1) 0] := by
  have hp : 0 < l.length := List.length_pos_iff.mpr h
  refine ext_getD (by rw [List.length_drop]; simp; omega) fun i hi => ?_
  rw [List.length_drop] at hi
  have : i = 0 := by omega
  subst this
  rw [getD_drop]; rfl
theorem atI_end1 {l : List Nat} (h : l ≠ []) : atI l (-1) = some (l.getD (l.length - 1) 0) := by
  have hp : 0 < l.length := List.length_pos_iff.mpr h
  rw [atI_neg1, List.getD_eq_getElem?_getD, List.getElem?_eq_getElem (by omega)]; rfl
/-- a table of the law: binary words, not too long -/
structure Tab (h t : List Nat) : Prop where
  hb : Bin h
  tb : Bin t
  ne : t ≠ []
  hl : h.length ≤ 5000
  tl : t.length ≤ 5000
theorem Tab.pos {h t : List Nat} (T : Tab h t) : 0 < t.length := List.length_pos_iff.mpr T.ne
namespace C
theorem w_is_least {h t : List Nat} (T : Tab h t) {k p : Nat} (hc : Cn (seq h t) k p) : W (f_is_least [.dat (Pr h t)]) (fun d => d = .bool (decide (outH (seq h t) k = h ∧ outT (seq h t) k p = t))) F := by
  refine W_fn (δ := [.dat (Pr h t)]) rfl ?_
  unfold m_is_least
  simp only [↓wr]
  refine W_use (w_least T.ne (by have := T.tl; omega) (by have := T.hl; omega) hc) fun d e => ?_
  subst e
  rw [dEq_Pr (bin_outH T.hb T.tb T.ne _) (bin_outT T.hb T.tb T.ne _ _) T.hb T.tb]
  simp only [↓wr]
theorem w_written {h t : List Nat} (T : Tab h t) {m : Int} (m1 : 1 ≤ m) (m2 : m ≤ 5000) : W (f__law_written [.well, .dat (Pr h t), .dat (.int m)]) (fun d => ∃ h' t', d = Pr h' t' ∧ Tab h' t' ∧ seq h' t' = seq h t) F := by
  have hp := T.pos
  have h1 := T.hl
  have h2 := T.tl
  have q1 : 1 ≤ 5000 / t.length := Nat.div_pos h2 hp
  have q2 := Nat.div_mul_le_self 5000 t.length
  have ed : (5000 : Int) / (t.length : Int) = ((5000 / t.length : Nat) : Int) := (Int.natCast_ediv _ _).symm
  refine W_fn (δ := [.well, .dat (Pr h t), .dat (.int m), .emp, .emp, .emp, .emp]) rfl ?_
  unfold m__law_written
  simp only [↓wr, ed]
  have q3 : 5000 / t.length ≤ 5000 := Nat.div_le_self _ _
  generalize 5000 / t.length = q at q1 q2 q3
  refine ⟨by omega, ⟨by omega, by omega⟩, fun r r0 r1 => ⟨by omega, ⟨by omega, by omega⟩, ⟨by omega, by omega⟩, fun o o0 o1 => ?_⟩⟩
  obtain ⟨L, rfl⟩ := Int.eq_ofNat_of_zero_le r0
  obtain ⟨O, rfl⟩ := Int.eq_ofNat_of_zero_le o0
  have eL : (L : Int) / (t.length : Int) = ((L / t.length : Nat) : Int) := (Int.natCast_ediv _ _).symm
  have eL0 : 0 ≤ ((L / t.length : Nat) : Int) := Int.natCast_nonneg _
  have eN : (((L / t.length : Nat) : Int) + 2).toNat = L / t.length + 2 := by omega
  have hN1 : L / t.length * t.length ≤ L := Nat.div_mul_le_self _ _
  have hN2 : L < (L / t.length + 1) * t.length := by
    rw [Nat.mul_comm]
    exact Nat.lt_mul_div_succ L hp
  have hN3 : L / t.length ≤ L := Nat.div_le_self _ _
  have hN4 : (L / t.length + 2) * t.length = L / t.length * t.length + 2 * t.length := Nat.add_mul _ _ _
  have hN5 : (L / t.length + 1) * t.length = L / t.length * t.length + 1 * t.length := Nat.add_mul _ _ _
  have hO : (1 + O) * t.length ≤ q * t.length := Nat.mul_le_mul_right _ (by omega)
  simp only [eL, eN]
  have hM : t.length * (L / t.length + 2) ≤ 16777216 := by rw [Nat.mul_comm]; omega
  have hR : h.length + (rep (L / t.length + 2) t).length ≤ 16777216 := by rw [rep_len]; omega
  have hRow : (h ++ rep (L / t.length + 2) t).length ≤ 16777216 := by rw [List.length_append]; exact hR
  rw [cut_take _ (by omega), cut_mid _ (by omega) (by omega), show (1 + (O : Int)).toNat = 1 + O by omega, show ((h.length : Int) + (L : Int)).toNat = h.length + L by omega, show ((h.length : Int) + (L : Int) + (t.length : Int)).toNat - (h.length + L) = t.length by omega, row_take (by omega), row_mid (by omega)]
  refine ⟨by omega, by omega, ⟨by omega, by omega, hM⟩, hR, by omega, hRow, by omega, hRow, ⟨by omega, by omega, by rw [outT_len, Nat.mul_comm]; omega⟩, _, _, rfl, ⟨bin_outH T.hb T.tb T.ne _, (bin_outT T.hb T.tb T.ne _ _).rep _, fun z => ?_, by rw [outH_len]; omega, by rw [rep_len, outT_len]; omega⟩, seq_written T.ne (by omega) (by omega)⟩
  have := congrArg List.length z
  rw [rep_len, outT_len] at this
  have h3 : t.length ≤ (1 + O) * t.length := Nat.le_mul_of_pos_left _ (by omega)
  simp only [List.length_nil] at this
  omega
end C
end Q

namespace Q
open PySem PySem.Spec PyProof.Rows L2
/-- the place from which a row turns, by halving -/
theorem seg_iff {h t : List Nat} {m q : Nat} (hm : m ≤ h.length) (hq : q ≤ t.length) : ((h ++ rep 2 t).drop m).take (h.length - m) = ((h ++ rep 2 t).drop (m + q)).take (h.length - m) ↔ ∀ n, m ≤ n → n < h.length → seq h t (n + q) = seq h t n := by
  have l1 : (((h ++ rep 2 t).drop m).take (h.length - m)).length = h.length - m := by rw [List.length_take, List.length_drop, List.length_append, rep_len]; omega
  have l2 : (((h ++ rep 2 t).drop (m + q)).take (h.length - m)).length = h.length - m := by rw [List.length_take, List.length_drop, List.length_append, rep_len]; omega
  constructor
  · intro e n h1 h2
    have := congrArg (fun l => l.getD (n - m) 0) e
    rw [getD_take (by omega), getD_take (by omega), getD_drop, getD_drop, row_getD _ _ _ (by omega), row_getD _ _ _ (by omega), show m + (n - m) = n by omega, show m + q + (n - m) = n + q by omega] at this
    exact this.symm
  · intro e
    refine ext_getD (l1.trans l2.symm) fun i hi => ?_
    rw [l1] at hi
    rw [getD_take (by omega), getD_take (by omega), getD_drop, getD_drop, row_getD _ _ _ (by omega), row_getD _ _ _ (by omega), show m + q + i = m + i + q by omega, e _ (by omega) (by omega)]
namespace C
theorem w_spoilt {h t : List Nat} (T : Tab h t) : W (f__law_spoilt [.well, .dat (Pr h t)]) (fun d => ∃ h' t', d = Pr h' t' ∧ Tab h' t') F := by
  have hp := T.pos
  have h1 := T.hl
  have h2 := T.tl
  refine W_fn (δ := [.well, .dat (Pr h t), .emp, .emp]) rfl ?_
  unfold m__law_spoilt
  simp only [↓wr, lit_0, lit_1]
  refine ⟨by omega, by omega, by omega, by omega, by omega, ⟨by omega, by omega⟩, fun r r0 r1 => ?_⟩
  refine W_use (w_pick (by simp) (by simp)) fun d hd => ?_
  have hd' : ∃ a : Nat, d = .int a ∧ a < h.length + t.length := by
    simp only [List.mem_cons, List.not_mem_nil, or_false] at hd
    rcases hd with rfl | rfl | rfl | rfl
    · exact ⟨0, rfl, by omega⟩
    · exact ⟨h.length, rfl, by omega⟩
    · exact ⟨h.length + t.length - 1, by congr 1; omega, by omega⟩
    · exact ⟨r.toNat, by congr 1; omega, by omega⟩
  obtain ⟨a, rfl, ha⟩ := hd'
  have hrow : (h ++ t).length = h.length + t.length := List.length_append
  have hbin : Bin (h ++ t) := T.hb.app T.tb
  simp only [↓wr, cut_take _ (Int.natCast_nonneg a), cut_drop _ (show 0 ≤ (a : Int) + 1 by omega), cut_take _ (Int.natCast_nonneg h.length), cut_drop _ (Int.natCast_nonneg h.length), decide_eq_true_eq, Int.toNat_natCast]
  generalize h ++ t = u at hrow hbin
  have e1 : ((a : Int) + 1).toNat = a + 1 := by omega
  have fl : ∀ c, Bin [c] → (u.take a ++ [c]).length + (u.drop ((a : Int) + 1).toNat).length ≤ 16777216 ∧ h.length ≤ 16777216 ∧ (u.take a ++ [c] ++ u.drop ((a : Int) + 1).toNat).length ≤ 16777216 ∧ h.length ≤ 16777216 ∧ (u.take a ++ [c] ++ u.drop ((a : Int) + 1).toNat).length ≤ 16777216 ∧ ∃ h' t', Pr ((u.take a ++ [c] ++ u.drop ((a : Int) + 1).toNat).take h.length) ((u.take a ++ [c] ++ u.drop ((a : Int) + 1).toNat).drop h.length) = Pr h' t' ∧ Tab h' t' := fun c hc => by
    have hbv : Bin (u.take a ++ [c] ++ u.drop ((a : Int) + 1).toNat) := ((hbin.take _).app hc).app (hbin.drop _)
    have hlv : (u.take a ++ [c] ++ u.drop ((a : Int) + 1).toNat).length = h.length + t.length := by rw [e1, flip_len (by omega), hrow]
    rw [← List.length_append]
    generalize u.take a ++ [c] ++ u.drop ((a : Int) + 1).toNat = v at hbv hlv
    refine ⟨by omega, by omega, by omega, by omega, by omega, _, _, rfl, hbv.take _, hbv.drop _, fun z => ?_, by rw [List.length_take]; omega, by rw [List.length_drop]; omega⟩
    have := congrArg List.length z
    rw [List.length_drop, List.length_nil] at this
    omega
  refine ⟨by omega, by omega, by omega, _, atI_get (by omega) (by omega), ?_⟩
  have hlt : (u.take a).length + 1 ≤ 16777216 := by rw [List.length_take]; omega
  split
  · exact ⟨hlt, by omega, fl 49 Bin.b1⟩
  · exact ⟨hlt, by omega, fl 48 Bin.b0⟩
theorem w_law_least {h t : List Nat} (T : Tab h t) : W (f__law_least [.dat (Pr h t)]) (fun d => ∃ k q, d = Pr (outH (seq h t) k) (outT (seq h t) k q) ∧ (k ≤ h.length ∧ q ≤ t.length) ∧ Cn (seq h t) k q) F := by
  have hp := T.pos
  have h1 := T.hl
  have h2 := T.tl
  obtain ⟨q, eq, hq⟩ := find_per T.ne
  have q1 := hq.pos
  have q2 := hq.le T.ne
  refine W_fn (δ := [.dat (Pr h t), .emp, .emp, .emp, .emp, .emp, .emp]) rfl ?_
  unfold m__law_least
  simp only [↓wr, eq]
  have hrl : (h ++ rep 2 t).length = h.length + 2 * t.length := by rw [List.length_append, rep_len]
  refine ⟨by omega, by omega, by rw [List.length_append]; omega, by omega, ⟨by omega, by omega⟩, ?_⟩
  rw [List.append_assoc, ← rep_two]
  refine W_range 14 (fun i δ => 0 ≤ i ∧ i ≤ 14 ∧ ∃ lo hi : Nat, ∃ s1 s2 : Slot, δ = [.dat (Pr h t), .dat (.int q), .dat (.str (S (h ++ rep 2 t))), .dat (.int lo), .dat (.int hi), s1, s2] ∧ lo ≤ hi ∧ hi ≤ h.length ∧ hi - lo < 2 ^ (14 - i.toNat) ∧ (∀ n, hi ≤ n → n < h.length → seq h t (n + q) = seq h t n) ∧ (lo = 0 ∨ ¬ ∀ n, lo - 1 ≤ n → n < h.length → seq h t (n + q) = seq h t n)) ?_ ?_ _ _ _ (by decide) ⟨by omega, by omega, 0, h.length, _, _, rfl, by omega, Nat.le_refl _, by simp; omega, fun n a b => by omega, .inl rfl⟩
  · rintro i δ hi14 ⟨i0, i1, lo, hi, s1, s2, rfl, a1, a2, a3, a4, a5⟩
    have hpw : 2 ^ (14 - i.toNat) = 2 * 2 ^ (14 - (i + 1).toNat) := by
      rw [show 14 - i.toNat = (14 - (i + 1).toNat) + 1 by omega, Nat.pow_succ, Nat.mul_comm]
    have em : ((lo : Int) + (hi : Int)) / 2 = (((lo + hi) / 2 : Nat) : Int) := by omega
    simp only [↓wr, em, decide_eq_true_eq]
    have mb1 : lo ≤ (lo + hi) / 2 := by omega
    have mb2 : (lo + hi) / 2 ≤ hi := by omega
    have mb3 : (lo + hi) / 2 - lo ≤ (hi - lo) / 2 := by omega
    have mb4 : hi - ((lo + hi) / 2 + 1) ≤ (hi - lo) / 2 := by omega
    generalize (lo + hi) / 2 = m at mb1 mb2 mb3 mb4
    refine ⟨by omega, by omega, by omega, by omega, by omega, ?_⟩
    rw [cut_mid _ (by omega) (by omega), cut_mid _ (by omega) (by omega), show ((m : Int) + (q : Int)).toNat = m + q by omega, show ((h.length : Int) + (q : Int)).toNat - (m + q) = h.length - m by omega, Int.toNat_natCast, Int.toNat_natCast]
    have key := seg_iff (h := h) (t := t) (show m ≤ h.length by omega) q2
    by_cases hc : ∀ n, m ≤ n → n < h.length → seq h t (n + q) = seq h t n
    · rw [if_pos (key.mpr hc)]
      exact ⟨by omega, by omega, lo, m, _, _, rfl, by omega, by omega, by omega, hc, a5⟩
    · rw [if_neg fun z => hc (key.mp z)]
      have hne : m ≠ hi := fun z => hc (by rw [z]; exact a4)
      exact ⟨by omega, by omega, m + 1, hi, _, _, by push_cast; rfl, by omega, by omega, by omega, a4, .inr (by rw [Nat.add_sub_cancel]; exact hc)⟩
  · rintro δ i hi14 ⟨i0, i1, lo, hi, s1, s2, rfl, a1, a2, a3, a4, a5⟩
    have : i = 14 := by omega
    subst this
    have : lo = hi := by
      have : 2 ^ (14 - (14 : Int).toNat) = 1 := by decide
      omega
    subst this
    simp only [↓wr]
    rw [cut_take _ (by omega), cut_mid _ (by omega) (by omega), show ((lo : Int) + (q : Int)).toNat - (lo : Int).toNat = q by omega, Int.toNat_natCast, row_take (by omega), row_mid (by omega)]
    refine ⟨by omega, by omega, _, _, rfl, ⟨a2, q2⟩, hq.pos, fun n hn => ?_, a5.imp id fun z e => z fun n n1 n2 => ?_, fun d d1 d2 => hq.min d d1 (seq_ev T.ne d2)⟩
    · by_cases hn' : n < h.length
      · exact a4 n hn hn'
      · rw [seq_hi (by omega), seq_hi (by omega), ← hq.per ((n : Int) - h.length)]
        congr 1; push_cast; omega
    · by_cases hn' : n = lo - 1
      · rw [hn']; exact e
      · exact a4 n (by omega) n2
end C
end Q


set_option Elab.async false
set_option linter.all false
set_option maxRecDepth 100000
namespace Q
open PySem PySem.Spec PyProof.Rows L2
theorem Sm.int {p : Nat} {i : Int} (h : i.natAbs < 10 ^ 30) : Sm p 1920 (.int i) := by
  have hl : i.natAbs.log2 < 1920 := by
    by_cases hz : i.natAbs = 0
    · rw [hz]; decide
    · exact (Nat.log2_lt hz).mpr (Nat.lt_of_lt_of_le h (Nat.le_trans (show 10 ^ 30 ≤ 2 ^ 100 by decide) (Nat.pow_le_pow_right (by decide) (by decide))))
  have h2 : (PyData.shown (.int i)).length ≤ 40 := by
    have := int_text_length_le10 (k := 30) (by decide) h
    show (Str.ofString (toString i)).length ≤ 40
    rw [PySem.ofString_length]
    omega
  exact ⟨rfl, decide_eq_true hl, decide_eq_true h2, Nat.zero_le _, by rw [PyData.weight]; split <;> omega⟩

namespace C
def m_has : Q.Env → M Flow := sSeq (sAsg (gTupE 2 (gsCons (gSet 2) (gsCons (gSet 3) (gsNil)))) (eVar 0))
    (sSeq (sIf (tBin dLt (eVar 1) (eB dLen (lCons (eVar 2) (lNil)))) (sRet (eBin dEq (eBin dIx (eVar 2) (eVar 1)) (eC (.str "1")))) (sNil))
    (sRet (eBin dEq (eBin dIx (eVar 3) (eBin dMod (eBin dSub (eVar 1) (eB dLen (lCons (eVar 2) (lNil)))) (eB dLen (lCons (eVar 3) (lNil))))) (eC (.str "1")))))
def f_has : List Slot → M D := fnM 4 m_has
def m_signs : Q.Env → M Flow := sSeq (sAsg (gTupE 2 (gsCons (gSet 2) (gsCons (gSet 3) (gsNil)))) (eVar 0))
    (sSeq (sSet 4 (eBin dAdd (eBin dFdiv (eB dMax (lCons (eC (.int 0)) (lCons (eBin dSub (eVar 1) (eB dLen (lCons (eVar 2) (lNil)))) (lNil)))) (eB dLen (lCons (eVar 3) (lNil)))) (eC (.int 1))))
    (sRet (eSl (eBin dAdd (eVar 2) (eBin dMul (eVar 3) (eVar 4))) (oNone) (oSome (eVar 1)))))
def f_signs : List Slot → M D := fnM 5 m_signs
def m__law_far : Q.Env → M Flow := sSeq (sSet 1 (eCall f__law_draw (aWell 0 (aCons (eC (.int 6)) (aNil)))))
    (sSeq (sIf (tBin dLt (eVar 1) (eC (.int 2))) (sRet (eCall f__law_draw (aWell 0 (aCons (eBin dIx (eFz (fLst (lCons (eC (.int 12)) (lCons (eC (.int 20000)) (lNil))))) (eVar 1)) (aNil))))) (sNil))
    (sSeq (sIf (tBin dEq (eVar 1) (eC (.int 5))) (sRet (eBin dAdd (eBin dAdd (eBin dPow (eC (.int 10)) (eC (.int 18))) (eC (.int 1))) (eCall f__law_draw (aWell 0 (aCons (eC (.int 1000)) (aNil)))))) (sNil))
    (sSeq (sIf (tBin dEq (eVar 1) (eC (.int 2))) (sRet (eBin dSub (eBin dPow (eC (.int 10)) (eC (.int 18))) (eCall f__law_draw (aWell 0 (aCons (eC (.int 10000)) (aNil)))))) (sNil))
    (sSeq (sSet 2 (eBin dAdd (eBin dAdd (eCall f__law_draw (aWell 0 (aCons (eBin dPow (eC (.int 10)) (eC (.int 6))) (aNil)))) (eBin dMul (eBin dPow (eC (.int 10)) (eC (.int 6))) (eCall f__law_draw (aWell 0 (aCons (eBin dPow (eC (.int 10)) (eC (.int 6))) (aNil)))))) (eBin dMul (eBin dPow (eC (.int 10)) (eC (.int 12))) (eCall f__law_draw (aWell 0 (aCons (eBin dPow (eC (.int 10)) (eC (.int 6))) (aNil)))))))
    (sRet (eIf (tBin dEq (eVar 1) (eC (.int 3))) (eVar 2) (eBin dMod (eB dInt (lCons (eVar 2) (lNil))) (eBin dPow (eC (.int 10)) (eC (.int 9))))))))))
def f__law_far : List Slot → M D := fnM 3 m__law_far
def m__law_table : Q.Env → M Flow := sRet (eTup (lCons (eCall f__law_word (aWell 0 (aCons (eCall f__law_draw (aWell 0 (aCons (eBin dAdd (eVar 1) (eC (.int 1))) (aNil)))) (aNil)))) (lCons (eCall f__law_word (aWell 0 (aCons (eBin dAdd (eC (.int 1)) (eCall f__law_draw (aWell 0 (aCons (eVar 2) (aNil))))) (aNil)))) (lNil))))
def f__law_table : List Slot → M D := fnM 3 m__law_table
def m__law_row : Q.Env → M Flow := sRet (eSl (eBin dAdd (eBin dIx (eVar 0) (eC (.int 0))) (eBin dMul (eBin dIx (eVar 0) (eC (.int 1))) (eBin dAdd (eBin dFdiv (eVar 1) (eB dLen (lCons (eBin dIx (eVar 0) (eC (.int 1))) (lNil)))) (eC (.int 1))))) (oNone) (oSome (eVar 1)))
def f__law_row : List Slot → M D := fnM 2 m__law_row
def m__law_sign : Q.Env → M Flow := sSeq (sIf (tBin dLt (eVar 1) (eB dLen (lCons (eBin dIx (eVar 0) (eC (.int 0))) (lNil)))) (sRet (eBin dEq (eBin dIx (eBin dIx (eVar 0) (eC (.int 0))) (eVar 1)) (eC (.str "1")))) (sNil))
    (sRet (eBin dEq (eBin dIx (eBin dIx (eVar 0) (eC (.int 1))) (eBin dMod (eB dInt (lCons (eBin dSub (eVar 1) (eB dLen (lCons (eBin dIx (eVar 0) (eC (.int 0))) (lNil)))) (lNil))) (eB dLen (lCons (eBin dIx (eVar 0) (eC (.int 1))) (lNil))))) (eC (.str "1"))))
def f__law_sign : List Slot → M D := fnM 2 m__law_sign
def m__law_great : Q.Env → M Flow := sSeq (sSet 1 (eCall f__law_word (aWell 0 (aCons (eCall f__law_pick (aWell 0 (aCons (eFz (fLst (lCons (eC (.int 0)) (lCons (eC (.int 1)) (lCons (eC (.int 37)) (lCons (eC (.int 4999)) (lCons (eC (.int 5000)) (lCons (eCall f__law_draw (aWell 0 (aCons (eC (.int 5001)) (aNil)))) (lNil))))))))) (aNil)))) (aNil)))))
    (sRet (eTup (lCons (eVar 1) (lCons (eCall f__law_word (aWell 0 (aCons (eCall f__law_pick (aWell 0 (aCons (eFz (fLst (lCons (eC (.int 1)) (lCons (eC (.int 2)) (lCons (eC (.int 37)) (lCons (eC (.int 4999)) (lCons (eC (.int 5000)) (lCons (eBin dAdd (eC (.int 1)) (eCall f__law_draw (aWell 0 (aCons (eC (.int 5000)) (aNil))))) (lNil))))))))) (aNil)))) (aNil)))) (lNil)))))
def f__law_great : List Slot → M D := fnM 2 m__law_great
theorem sgn_hi {h t : List Nat} {n : Int} (hn : (h.length : Int) ≤ n) : t.getD ((n - h.length) % t.length).toNat 0 = seq h t n.toNat := by
  rw [seq_hi (by omega)]
  unfold cyc
  congr 3
  omega
theorem w_has {h t : List Nat} (T : Tab h t) {n : Int} (h0 : 0 ≤ n) : W (f_has [.dat (Pr h t), .dat (.int n)]) (fun d => d = .bool (decide (seq h t n.toNat = 49))) F := by
  have hp := T.pos
  have h1 := T.hl
  have h2 := T.tl
  refine W_fn (δ := [.dat (Pr h t), .dat (.int n), .emp, .emp]) rfl ?_
  unfold m_has
  simp only [↓wr, lit_1, decide_eq_true_eq]
  refine ⟨rfl, by omega, ?_⟩
  by_cases hn : n < h.length
  · rw [if_pos hn]
    refine ⟨by omega, _, atI_get h0 hn, ?_⟩
    rw [seq_lo (by omega)]
    simp
  · rw [if_neg hn]
    have b0 := Int.emod_nonneg (n - h.length) (show (t.length : Int) ≠ 0 by omega)
    have b1 := Int.emod_lt_of_pos (n - h.length) (show 0 < (t.length : Int) by omega)
    refine ⟨by omega, by omega, by omega, by omega, _, atI_get b0 b1, ?_⟩
    rw [sgn_hi (by omega)]
    simp
theorem w_sign {h t : List Nat} (T : Tab h t) {n : Int} (h0 : 0 ≤ n) : W (f__law_sign [.dat (Pr h t), .dat (.int n)]) (fun d => d = .bool (decide (seq h t n.toNat = 49))) F := by
  have hp := T.pos
  have h1 := T.hl
  have h2 := T.tl
  refine W_fn (δ := [.dat (Pr h t), .dat (.int n)]) rfl ?_
  unfold m__law_sign
  simp only [↓wr, lit_1, decide_eq_true_eq]
  refine ⟨by omega, ?_⟩
  by_cases hn : n < h.length
  · rw [if_pos hn]
    refine ⟨by omega, _, atI_get h0 hn, ?_⟩
    rw [seq_lo (by omega)]
    simp
  · rw [if_neg hn]
    have b0 := Int.emod_nonneg (n - h.length) (show (t.length : Int) ≠ 0 by omega)
    have b1 := Int.emod_lt_of_pos (n - h.length) (show 0 < (t.length : Int) by omega)
    refine ⟨by omega, by omega, by omega, by omega, _, atI_get b0 b1, ?_⟩
    rw [sgn_hi (by omega)]
    simp
theorem w_row {h t : List Nat} (T : Tab h t) {n : Int} (h0 : 0 ≤ n) (hn : n ≤ 100000) : W (f__law_row [.dat (Pr h t), .dat (.int n)]) (fun d => d = .str (S (outH (seq h t) n.toNat))) F := by
  have hp := T.pos
  have h1 := T.hl
  have h2 := T.tl
  obtain ⟨N, rfl⟩ := Int.eq_ofNat_of_zero_le h0
  refine W_fn (δ := [.dat (Pr h t), .dat (.int N)]) rfl ?_
  unfold m__law_row
  have eL : (N : Int) / (t.length : Int) = ((N / t.length : Nat) : Int) := (Int.natCast_ediv _ _).symm
  have e0 : 0 ≤ ((N / t.length : Nat) : Int) := Int.natCast_nonneg _
  have eN : (((N / t.length : Nat) : Int) + 1).toNat = N / t.length + 1 := by omega
  have q1 : N / t.length * t.length ≤ N := Nat.div_mul_le_self _ _
  have q2 : N < (N / t.length + 1) * t.length := by
    rw [Nat.mul_comm]
    exact Nat.lt_mul_div_succ N hp
  have q3 : N / t.length ≤ N := Nat.div_le_self _ _
  have q4 : (N / t.length + 1) * t.length = N / t.length * t.length + 1 * t.length := Nat.add_mul _ _ _
  simp only [↓wr, eL, eN]
  have hM : t.length * (N / t.length + 1) ≤ 16777216 := by rw [Nat.mul_comm]; omega
  have e0 : 0 ≤ ((N / t.length : Nat) : Int) := Int.natCast_nonneg _
  rw [cut_take _ (by omega), Int.toNat_natCast, row_take (by omega)]
  exact ⟨by omega, by omega, ⟨by omega, by omega, hM⟩, by rw [rep_len]; omega, by rw [List.length_append, rep_len]; omega, rfl⟩
theorem w_signs {h t : List Nat} (T : Tab h t) {n : Int} (h0 : 0 ≤ n) (hn : n ≤ 100000) : W (f_signs [.dat (Pr h t), .dat (.int n)]) (fun d => d = .str (S (outH (seq h t) n.toNat))) F := by
  have hp := T.pos
  have h1 := T.hl
  have h2 := T.tl
  obtain ⟨N, rfl⟩ := Int.eq_ofNat_of_zero_le h0
  refine W_fn (δ := [.dat (Pr h t), .dat (.int N), .emp, .emp, .emp]) rfl ?_
  unfold m_signs
  have eM : max (0 : Int) ((N : Int) - h.length) = ((N - h.length : Nat) : Int) := by omega
  simp only [↓wr, eM]
  generalize hR : N - h.length = R
  have eL : (R : Int) / (t.length : Int) = ((R / t.length : Nat) : Int) := (Int.natCast_ediv _ _).symm
  have e0 : 0 ≤ ((R / t.length : Nat) : Int) := Int.natCast_nonneg _
  have eN : (((R / t.length : Nat) : Int) + 1).toNat = R / t.length + 1 := by omega
  have q1 : R / t.length * t.length ≤ R := Nat.div_mul_le_self _ _
  have q2 : R < (R / t.length + 1) * t.length := by
    rw [Nat.mul_comm]
    exact Nat.lt_mul_div_succ R hp
  have q3 : R / t.length ≤ R := Nat.div_le_self _ _
  have q4 : (R / t.length + 1) * t.length = R / t.length * t.length + 1 * t.length := Nat.add_mul _ _ _
  simp only [eL, eN]
  have hM : t.length * (R / t.length + 1) ≤ 16777216 := by rw [Nat.mul_comm]; omega
  have e0 : 0 ≤ ((R / t.length : Nat) : Int) := Int.natCast_nonneg _
  rw [cut_take _ (by omega), Int.toNat_natCast, row_take (by omega)]
  exact ⟨rfl, by omega, by omega, by omega, ⟨by omega, by omega, hM⟩, by rw [rep_len]; omega, by rw [List.length_append, rep_len]; omega, rfl⟩
theorem w_table {a b : Int} (a0 : 0 ≤ a) (a1 : a ≤ 5000) (b0 : 1 ≤ b) (b1 : b ≤ 5000) : W (f__law_table [.well, .dat (.int a), .dat (.int b)]) (fun d => ∃ h t, d = Pr h t ∧ Tab h t ∧ h.length ≤ a ∧ t.length ≤ b) F := by
  refine W_fn (δ := [.well, .dat (.int a), .dat (.int b)]) rfl ?_
  unfold m__law_table
  simp only [↓wr]
  refine ⟨⟨by omega, by omega⟩, fun r r0 r1 => W_use (w_word r0 (by omega)) fun d hd => ?_⟩
  obtain ⟨h, rfl, hb, hl⟩ := hd
  refine ⟨⟨by omega, by omega⟩, fun s s0 s1 => W_use (w_word (by omega) (by omega)) fun d hd => ?_⟩
  obtain ⟨t, rfl, tb, tl⟩ := hd
  exact ⟨h, t, rfl, ⟨hb, tb, fun z => by rw [z, List.length_nil] at tl; omega, by omega, by omega⟩, by omega, by omega⟩
theorem w_great : W (f__law_great [.well]) (fun d => ∃ h t, d = Pr h t ∧ Tab h t) F := by
  refine W_fn (δ := [.well, .emp]) rfl ?_
  unfold m__law_great
  simp only [↓wr]
  refine ⟨⟨by omega, by omega⟩, fun r r0 r1 => W_use (w_pick (by simp) (by simp)) fun d hd => ?_⟩
  have hd' : ∃ m : Int, d = .int m ∧ 0 ≤ m ∧ m ≤ 5000 := by
    simp only [List.mem_cons, List.not_mem_nil, or_false] at hd
    rcases hd with rfl | rfl | rfl | rfl | rfl | rfl <;> exact ⟨_, rfl, by omega, by omega⟩
  obtain ⟨m, rfl, m0, m1⟩ := hd'
  refine W_use (w_word m0 (by omega)) fun d hd => ?_
  obtain ⟨h, rfl, hb, hl⟩ := hd
  refine ⟨⟨by omega, by omega⟩, fun s s0 s1 => W_use (w_pick (by simp) (by simp)) fun d hd => ?_⟩
  have hd' : ∃ m : Int, d = .int m ∧ 1 ≤ m ∧ m ≤ 5000 := by
    simp only [List.mem_cons, List.not_mem_nil, or_false] at hd
    rcases hd with rfl | rfl | rfl | rfl | rfl | rfl <;> exact ⟨_, rfl, by omega, by omega⟩
  obtain ⟨n, rfl, n0, n1⟩ := hd'
  refine W_use (w_word (by omega) (by omega)) fun d hd => ?_
  obtain ⟨t, rfl, tb, tl⟩ := hd
  exact ⟨h, t, rfl, hb, tb, fun z => by rw [z, List.length_nil] at tl; omega, by omega, by omega⟩
theorem p6 : (10 : Int) ^ Int.toNat 6 = 1000000 := by decide
theorem p9 : (10 : Int) ^ Int.toNat 9 = 1000000000 := by decide
theorem p12 : (10 : Int) ^ Int.toNat 12 = 1000000000000 := by decide
theorem p18 : (10 : Int) ^ Int.toNat 18 = 1000000000000000000 := by decide
theorem w_far : W (f__law_far [.well]) (fun d => ∃ n : Int, d = .int n ∧ 0 ≤ n ∧ n ≤ 1000000000000001000) F := by
  refine W_fn (δ := [.well, .emp, .emp]) rfl ?_
  unfold m__law_far
  simp only [↓wr, p6, p9, p12, p18, decide_eq_true_eq]
  refine ⟨⟨by omega, by omega⟩, fun r r0 r1 => ?_⟩
  by_cases c1 : r < 2
  · rw [if_pos c1]
    have hr : r = 0 ∨ r = 1 := by omega
    rcases hr with rfl | rfl
    · refine ⟨.int 12, rfl, ?_⟩
      simp only [↓wr]
      exact ⟨⟨by omega, by omega⟩, fun n n0 n1 => ⟨n, rfl, n0, by omega⟩⟩
    · refine ⟨.int 20000, rfl, ?_⟩
      simp only [↓wr]
      exact ⟨⟨by omega, by omega⟩, fun n n0 n1 => ⟨n, rfl, n0, by omega⟩⟩
  rw [if_neg c1]
  have i10 : Int.natAbs 10 < 18446744073709551616 := by decide
  by_cases c2 : r = 5
  · rw [if_pos c2]
    exact ⟨⟨by omega, by omega, i10⟩, ⟨by omega, by omega⟩, fun n n0 n1 => ⟨_, rfl, by omega, by omega⟩⟩
  rw [if_neg c2]
  by_cases c3 : r = 2
  · rw [if_pos c3]
    exact ⟨⟨by omega, by omega, i10⟩, ⟨by omega, by omega⟩, fun n n0 n1 => ⟨_, rfl, by omega, by omega⟩⟩
  rw [if_neg c3]
  refine ⟨⟨by omega, by omega, i10⟩, ⟨by omega, by omega⟩, fun x x0 x1 => ⟨⟨by omega, by omega, i10⟩, ⟨by omega, by omega, i10⟩, ⟨by omega, by omega⟩, fun y y0 y1 => ⟨.inl (.inl ⟨by omega, by omega⟩), ⟨by omega, by omega, i10⟩, ⟨by omega, by omega, i10⟩, ⟨by omega, by omega⟩, fun z z0 z1 => ⟨.inl (.inl ⟨by omega, by omega⟩), ?_⟩⟩⟩⟩
  by_cases c4 : r = 3
  · rw [if_pos c4]
    exact ⟨_, rfl, by omega, by omega⟩
  · rw [if_neg c4]
    exact ⟨⟨by omega, by omega, i10⟩, by omega, _, rfl, Int.emod_nonneg _ (by omega), by omega⟩
theorem perm2 (a b : Slot) : permL [1, 0] [a, b] = [b, a] := rfl
theorem x_nsame {a : Str} {Q : D → Prop} {R : Exn → Prop} : W (dNe (.str a) (.str a)) Q R = Q (.bool false) := by rw [dNe_same, W_eq]; rfl
theorem x_same {a : Str} {Q : D → Prop} {R : Exn → Prop} : W (dEq (.str a) (.str a)) Q R = Q (.bool true) := by rw [dEq_same, W_eq]; rfl
theorem sm_row (a : Nat → Nat) (hb : ∀ n, a n = 48 ∨ a n = 49) (k : Nat) : Sm 2 k (.str (S (outH a k))) := by
  have : ∀ c ∈ outH a k, c < 1114112 := fun c hc => by
    obtain ⟨i, _, rfl⟩ := List.mem_map.mp hc
    rcases hb i with z | z <;> rw [z] <;> omega
  exact (Sm.str this).mono (Nat.le_refl _) (by rw [outH_len]; omega)
theorem rp3 {d : D} {w : Nat} (h : Sm 2 w d) (hw : w ≤ 120000) : dRepr [.list [d, d, d]] = .ret (.str (PyData.list [d, d, d]).shown) :=
  dRepr_ok ((SmL.cons h (SmL.cons h (SmL.cons h SmL.nil))).list.mono (by omega) (by omega))
theorem rp2 {d : D} {w : Nat} (h : Sm 2 w d) (hw : w ≤ 120000) : dRepr [.list [d, d]] = .ret (.str (PyData.list [d, d]).shown) :=
  dRepr_ok ((SmL.cons h (SmL.cons h SmL.nil)).list.mono (by omega) (by omega))
theorem rp1 {d : D} {w : Nat} (h : Sm 2 w d) (hw : w ≤ 120000) : dRepr [d] = .ret (.str d.shown) := dRepr_ok (h.mono (by omega) (by omega))
theorem sing (c : Nat) : decide ([c] = [49]) = decide (c = 49) := by simp
theorem x_neB {a : Bool} {Q : D → Prop} {R : Exn → Prop} : W (dNe (.bool a) (.bool a)) Q R = Q (.bool false) := by
  have : dNe (.bool a) (.bool a) = .ret (.bool false) := by cases a <;> rfl
  rw [this, W_eq]; rfl
end C
end Q

set_option Elab.async false
set_option linter.all false
set_option maxRecDepth 100000
/-! counting along a row -/
namespace Q
open PySem PySem.Spec PyProof.Rows L2
/-- how many of the first n signs are told -/
def cnt (a : Nat → Nat) : Nat → Nat
  | 0 => 0
  | n + 1 => cnt a n + if a n = 49 then 1 else 0
theorem cnt_le (a : Nat → Nat) : ∀ n, cnt a n ≤ n
  | 0 => Nat.le_refl _
  | n + 1 => by
    have := cnt_le a n
    unfold cnt; split <;> omega
theorem cnt_mono (a : Nat → Nat) {m n : Nat} (h : m ≤ n) : cnt a m ≤ cnt a n := by
  induction h with
  | refl => exact Nat.le_refl _
  | step _ ih => exact Nat.le_trans ih (Nat.le_add_right _ _)
theorem cnt_told {a : Nat → Nat} {m : Nat} (h : a m = 49) : cnt a (m + 1) = cnt a m + 1 := by
  show cnt a m + _ = _
  rw [if_pos h]
theorem cnt_add (a : Nat → Nat) (m : Nat) : ∀ r, cnt a (m + r) = cnt a m + (outT a m r).count 49
  | 0 => by simp [outT]
  | r + 1 => by
    have ih := cnt_add a m r
    rw [← Nat.add_assoc]
    show cnt a (m + r) + _ = _
    rw [ih]
    unfold outT
    rw [List.range_succ, List.map_append, List.count_append, List.map_singleton, List.count_singleton]
    by_cases c : a (m + r) = 49
    · simp [c]; omega
    · simp [c]
theorem cnt_outH (a : Nat → Nat) (n : Nat) : (outH a n).count 49 = cnt a n := by
  have := cnt_add a 0 n
  rw [Nat.zero_add] at this
  rw [this]
  show _ = 0 + _
  rw [Nat.zero_add]
  unfold outH outT
  simp only [Nat.zero_add]
section
variable {h t : List Nat}
theorem outT_per (ht : t ≠ []) (q r : Nat) (hr : r ≤ t.length) : outT (seq h t) (h.length + q * t.length) r = t.take r := by
  have e : t.take r = outT (seq h t) h.length r := by
    refine ext_out (by rw [List.length_take]; omega) fun i hi => ?_
    rw [getD_take hi, seq_hi (by omega), show ((h.length + i : Nat) : Int) - h.length = ((i : Nat) : Int) by omega, cyc_nat (by omega)]
  rw [e]
  unfold outT
  apply List.map_congr_left
  intro i hi
  rw [show h.length + q * t.length + i = h.length + i + q * t.length by omega]
  exact per_add (seq_per h t) q (h.length + i) (by omega)
theorem cnt_rounds (ht : t ≠ []) : ∀ q, cnt (seq h t) (h.length + q * t.length) = h.count 49 + q * t.count 49
  | 0 => by
    rw [Nat.zero_mul, Nat.zero_mul, Nat.add_zero, Nat.add_zero, ← cnt_outH, ← self_outH]
  | q + 1 => by
    rw [Nat.add_mul, Nat.one_mul, ← Nat.add_assoc, cnt_add, cnt_rounds ht q, outT_per ht q _ (Nat.le_refl _), List.take_length, Nat.add_mul, Nat.one_mul, Nat.add_assoc]
theorem cnt_lo {n : Nat} (hn : n ≤ h.length) : cnt (seq h t) n = (h.take n).count 49 := by
  rw [take_outH (t := t) hn, cnt_outH]
theorem cnt_hi (ht : t ≠ []) {n : Nat} (hn : h.length ≤ n) : cnt (seq h t) n = h.count 49 + (n - h.length) / t.length * t.count 49 + (t.take ((n - h.length) % t.length)).count 49 := by
  have hp : 0 < t.length := List.length_pos_iff.mpr ht
  have e : n = h.length + (n - h.length) / t.length * t.length + (n - h.length) % t.length := by
    have := Nat.div_add_mod (n - h.length) t.length
    rw [Nat.mul_comm] at this
    omega
  have hm := Nat.mod_lt (n - h.length) hp
  have := cnt_add (seq h t) (h.length + (n - h.length) / t.length * t.length) ((n - h.length) % t.length)
  rw [← e, cnt_rounds ht, outT_per ht _ _ (Nat.le_of_lt hm)] at this
  exact this
end
/-! places of told signs -/
theorem snoc_ind {P : List Nat → Prop} (h0 : P []) (hs : ∀ l c, P l → P (l ++ [c])) (l : List Nat) : P l := by
  have : ∀ l : List Nat, P l.reverse := fun l => by
    induction l with
    | nil => exact h0
    | cons c l ih => rw [List.reverse_cons]; exact hs _ _ ih
  have h := this l.reverse
  rwa [List.reverse_reverse] at h
def pos (l : List Nat) : List Nat := l.zipIdx.filterMap fun p => if p.1 = 49 then some p.2 else none
theorem pos_snoc (l : List Nat) (c : Nat) : pos (l ++ [c]) = pos l ++ if c = 49 then [l.length] else [] := by
  unfold pos
  rw [List.zipIdx_append, List.filterMap_append]
  congr 1
  by_cases h : c = 49 <;> simp [h]
theorem pos_len (l : List Nat) : (pos l).length = l.count 49 := by
  induction l using snoc_ind with
  | h0 => rfl
  | hs l c ih =>
    rw [pos_snoc, List.length_append, ih, List.count_append]
    by_cases h : c = 49 <;> simp [h]
theorem pos_at (l : List Nat) : ∀ j i, (pos l)[j]? = some i → i < l.length ∧ l.getD i 0 = 49 ∧ (l.take i).count 49 = j := by
  induction l using snoc_ind with
  | h0 => intro j i h; simp [pos] at h
  | hs l c ih =>
    intro j i h
    rw [pos_snoc] at h
    by_cases hj : j < (pos l).length
    · rw [List.getElem?_append_left hj] at h
      obtain ⟨h1, h2, h3⟩ := ih j i h
      refine ⟨by rw [List.length_append]; omega, by rw [getD_left h1]; exact h2, ?_⟩
      rw [List.take_append_of_le_length (by omega)]; exact h3
    · rw [List.getElem?_append_right (by omega)] at h
      by_cases hc : c = 49
      · rw [if_pos hc] at h
        by_cases e : j - (pos l).length = 0
        · rw [e] at h
          simp at h
          subst h
          refine ⟨by simp, by rw [getD_right (Nat.le_refl _)]; simp [hc], ?_⟩
          rw [List.take_append_of_le_length (Nat.le_refl _), List.take_length, ← pos_len]; omega
        · rw [List.getElem?_singleton, if_neg e] at h; cases h
      · rw [if_neg hc] at h; simp at h
/-- the told number with p told ones below it -/
def kthN (h t : List Nat) (p : Nat) : Option Nat :=
  if p < (pos h).length then (pos h)[p]?
  else if pos t = [] then none
  else (pos t)[(p - (pos h).length) % (pos t).length]?.map fun i => h.length + (p - (pos h).length) / (pos t).length * t.length + i
theorem kth_some {h t : List Nat} (ht : t ≠ []) {p m : Nat} (e : kthN h t p = some m) : seq h t m = 49 ∧ cnt (seq h t) m = p := by
  unfold kthN at e
  split at e
  · obtain ⟨h1, h2, h3⟩ := pos_at h p m e
    exact ⟨by rw [seq_lo h1]; exact h2, by rw [cnt_lo (by omega)]; exact h3⟩
  · split at e
    · cases e
    · rename_i c1 c2
      generalize hq : (p - (pos h).length) / (pos t).length = q at e
      generalize hr : (p - (pos h).length) % (pos t).length = r at e
      cases ei : (pos t)[r]? with
      | none => rw [ei] at e; cases e
      | some i =>
        rw [ei] at e
        cases e
        obtain ⟨h1, h2, h3⟩ := pos_at t r i ei
        have hp : 0 < t.length := List.length_pos_iff.mpr ht
        have e1 : h.length + q * t.length + i - h.length = i + q * t.length := by omega
        have e2 : (i + q * t.length) % t.length = i := by rw [Nat.add_mul_mod_self_right, Nat.mod_eq_of_lt h1]
        have e3 : (i + q * t.length) / t.length = q := by rw [Nat.add_mul_div_right _ _ hp, Nat.div_eq_of_lt h1, Nat.zero_add]
        show seq h t (h.length + q * t.length + i) = 49 ∧ cnt (seq h t) (h.length + q * t.length + i) = p
        constructor
        · rw [seq_hi (by omega), show ((h.length + q * t.length + i : Nat) : Int) - h.length = ((i + q * t.length : Nat) : Int) by omega, cyc_mod, e2]; exact h2
        · rw [cnt_hi ht (by omega), e1, e2, e3, h3, ← pos_len, ← pos_len, ← hq, ← hr]
          have := Nat.div_add_mod (p - (pos h).length) (pos t).length
          rw [Nat.mul_comm] at this
          omega
theorem pos_nil {l : List Nat} : pos l = [] ↔ ∀ c ∈ l, c ≠ 49 := by
  rw [← List.length_eq_zero_iff, pos_len, List.count_eq_zero]
  exact ⟨fun h c hc e => h (e ▸ hc), fun h e => h 49 e rfl⟩
theorem kth_none {h t : List Nat} {p : Nat} (e : kthN h t p = none) : (∀ c ∈ t, c ≠ 49) ∧ h.count 49 ≤ p := by
  unfold kthN at e
  split at e
  · rename_i c
    rw [List.getElem?_eq_getElem c] at e; cases e
  · rename_i c1
    split at e
    · rename_i c2
      exact ⟨pos_nil.mp c2, by rw [← pos_len]; omega⟩
    · rename_i c2
      have hl : 0 < (pos t).length := List.length_pos_iff.mpr c2
      rw [List.getElem?_eq_getElem (Nat.mod_lt _ hl)] at e
      cases e
/-- what is told from n on, with as many below it as below n, is not less than n -/
theorem cnt_ge {a : Nat → Nat} {m n : Nat} (h : a m = 49) (e : cnt a m = cnt a n) : n ≤ m := by
  rcases Nat.lt_or_ge m n with c | c
  · have := cnt_mono a (show m + 1 ≤ n from c)
    rw [cnt_told h] at this
    omega
  · exact c
theorem kth_at {h t : List Nat} (ht : t ≠ []) {m : Nat} (e : seq h t m = 49) : kthN h t (cnt (seq h t) m) = some m := by
  cases k : kthN h t (cnt (seq h t) m) with
  | some m' =>
    obtain ⟨h1, h2⟩ := kth_some ht k
    have a := cnt_ge h1 h2
    have b := cnt_ge e h2.symm
    rw [show m' = m by omega]
  | none =>
    obtain ⟨h1, h2⟩ := kth_none k
    by_cases c : m < h.length
    · rw [cnt_lo (by omega)] at h2
      have e1 : h.count 49 = (h.take m).count 49 + (h.drop m).count 49 := by rw [← List.count_append, List.take_append_drop]
      have e2 : (h.drop m).count 49 = 0 := by omega
      rw [List.count_eq_zero] at e2
      rw [seq_lo c] at e
      refine absurd ?_ e2
      rw [List.mem_iff_getElem?]
      refine ⟨0, ?_⟩
      rw [List.getElem?_drop, Nat.add_zero, List.getElem?_eq_getElem c]
      rw [List.getD_eq_getElem?_getD, List.getElem?_eq_getElem c] at e
      exact congrArg some e
    · have hp : 0 < t.length := List.length_pos_iff.mpr ht
      rw [seq_hi (by omega)] at e
      unfold cyc at e
      generalize hk : (((m : Int) - h.length) % t.length).toNat = k at e
      have hk2 : k < t.length := by
        have := Int.emod_lt_of_pos ((m : Int) - h.length) (show (0 : Int) < t.length by omega)
        have := Int.emod_nonneg ((m : Int) - h.length) (show (t.length : Int) ≠ 0 by omega)
        omega
      rw [List.getD_eq_getElem?_getD, List.getElem?_eq_getElem hk2] at e
      exact absurd e (h1 _ (List.getElem_mem hk2))
theorem left_none {h t : List Nat} {n : Nat} (e : kthN h t (cnt (seq h t) n) = none) : (∀ c ∈ t, c ≠ 49) ∧ ∀ c ∈ h.drop n, c ≠ 49 := by
  obtain ⟨h1, h2⟩ := kth_none e
  refine ⟨h1, fun c hc e => ?_⟩
  subst e
  by_cases hn : n ≤ h.length
  · rw [cnt_lo hn] at h2
    have e1 : h.count 49 = (h.take n).count 49 + (h.drop n).count 49 := by rw [← List.count_append, List.take_append_drop]
    have e2 : (h.drop n).count 49 = 0 := by omega
    exact List.count_eq_zero.mp e2 hc
  · rw [List.drop_of_length_le (by omega)] at hc; cases hc
/-! counts and places in texts -/
theorem S1 (c : Nat) : (⟨#[c]⟩ : Str) = S [c] := rfl
theorem rcnt (l : List Nat) : PyProof.Rows.cnt 49 l = (l.count 49 : Nat) := by
  induction l with
  | nil => rfl
  | cons c l ih =>
    rw [PyProof.Rows.cnt_cons, ih, List.count_cons]
    by_cases h : c = 49
    · simp [h]; omega
    · simp [h]
theorem count_S (l : List Nat) : Txt.count (S l) (S [49]) = (l.count 49 : Nat) := by
  rw [← S1, count_cnt, S_toList, rcnt]
theorem at_S {l : List Nat} {i : Nat} : StrLaws.At (S l) (S [49]) (S l).length i ↔ l[i]? = some 49 := by
  unfold StrLaws.At
  rw [StrLaws.subAt_eq, S_toList, S_toList, S_length, S_length, beq_iff_eq]
  constructor
  · rintro ⟨a, b⟩
    have hi : i < l.length := by simp at a; omega
    have e : (l.drop i).take [49].length = [l[i]] := by rw [List.drop_eq_getElem_cons hi]; rfl
    rw [e] at b
    rw [List.getElem?_eq_getElem hi, List.cons.inj b |>.1]
  · intro h
    have hi : i < l.length := by
      rcases Nat.lt_or_ge i l.length with c | c
      · exact c
      · rw [List.getElem?_eq_none c] at h; cases h
    rw [List.getElem?_eq_getElem hi] at h
    refine ⟨by simp; omega, ?_⟩
    have e : (l.drop i).take [49].length = [l[i]] := by rw [List.drop_eq_getElem_cons hi]; rfl
    rw [e, Option.some.inj h]
theorem in_S (l : List Nat) : (!(Builtin.Str.occurrences (S l) (S [49]) 0 (S l).length 1).isEmpty) = decide (49 ∈ l) := by
  rcases StrLaws.occ_head (S l) (S [49]) 1 (Nat.le_refl _) with ⟨h0, hn⟩ | ⟨k, r, h0, hk, _⟩
  · rw [h0]
    have : ¬ 49 ∈ l := fun h => by
      obtain ⟨i, hi⟩ := List.mem_iff_getElem?.mp h
      exact hn i (at_S.mpr hi)
    simp [this]
  · rw [h0]
    have : 49 ∈ l := List.mem_iff_getElem?.mpr ⟨k, at_S.mp hk⟩
    simp [this]
theorem dIn_S (l : List Nat) : dIn (.str (S [49])) (.str (S l)) = .ret (.bool (decide (49 ∈ l))) := by
  show M.ret (PyData.bool _) = _
  rw [in_S]
theorem dNotIn_S (l : List Nat) : dNotIn (.str (S [49])) (.str (S l)) = .ret (.bool (!decide (49 ∈ l))) := by
  show M.ret (PyData.bool _) = _
  rw [in_S]
theorem x_count {l : List Nat} {Q : D → Prop} {R : Exn → Prop} : W (mCount (S l) [.str (S [49])]) Q R = Q (.int (l.count 49 : Nat)) := by
  rw [W_eq]; show Q _ = _; rw [count_S]
theorem x_inS {l : List Nat} {Q : D → Prop} {R : Exn → Prop} : W (dIn (.str (S [49])) (.str (S l))) Q R = Q (.bool (decide (49 ∈ l))) := by rw [dIn_S, W_eq]; rfl
theorem x_ninS {l : List Nat} {Q : D → Prop} {R : Exn → Prop} : W (dNotIn (.str (S [49])) (.str (S l))) Q R = Q (.bool (!decide (49 ∈ l))) := by rw [dNotIn_S, W_eq]; rfl
end Q

set_option Elab.async false
set_option linter.all false
set_option maxRecDepth 100000
namespace Q
/-! ### sets of numbers by their signs, and their least tables -/
/-- comes round from a place on -/
def Ev (a : Nat → Nat) (k p : Nat) : Prop := 1 ≤ p ∧ ∀ n, k ≤ n → a (n + p) = a n
theorem Ev.seq {h t : List Nat} (ht : t ≠ []) : Ev (seq h t) h.length t.length := ⟨List.length_pos_iff.mpr ht, seq_per h t⟩
theorem Cn.ev {a : Nat → Nat} {k p : Nat} (h : Cn a k p) : Ev a k p := ⟨h.pos, h.per⟩
theorem Ev.add {a : Nat → Nat} {k p : Nat} (h : Ev a k p) (m n : Nat) (hn : k ≤ n) : a (n + m * p) = a n := per_add h.2 m n hn
theorem Ev.up {a : Nat → Nat} {k p K : Nat} (h : Ev a k p) (m : Nat) (hk : k ≤ K) (hm : 1 ≤ m) : Ev a K (m * p) := ⟨Nat.mul_pos hm h.1, fun n hn => h.add m n (by omega)⟩
theorem Ev.dvd {a : Nat → Nat} {k p K P : Nat} (h : Ev a k p) (hk : k ≤ K) (hd : p ∣ P) (hP : 1 ≤ P) : Ev a K P := by
  obtain ⟨m, rfl⟩ := hd
  rw [Nat.mul_comm]
  exact h.up m hk (Nat.pos_of_ne_zero fun z => by rw [z] at hP; simp at hP)
theorem cn_ex {a : Nat → Nat} {k p : Nat} (h : Ev a k p) : ∃ k' p', Cn a k' p' ∧ k' ≤ k ∧ p' ∣ p := by
  obtain ⟨q, ⟨q1, m, qm⟩, _, q4⟩ := least_of (P := fun d => 1 ≤ d ∧ ∃ m, ∀ n, m ≤ n → a (n + d) = a n) p ⟨h.1, k, h.2⟩
  have hq : ∀ n, k ≤ n → a (n + q) = a n := fun n hn => by
    rw [← h.add m n hn, ← h.add m (n + q) (by omega), show n + q + m * p = n + m * p + q by omega]
    refine qm _ ?_
    have := Nat.le_mul_of_pos_right m h.1
    omega
  obtain ⟨k', hk', hkk, hk3⟩ := least_of (P := fun j => ∀ n, j ≤ n → a (n + q) = a n) k hq
  refine ⟨k', q, ⟨q1, hk', ?_, fun d d1 d2 => q4 d ⟨d1, d2⟩⟩, hkk, ?_⟩
  · by_cases hz : k' = 0
    · exact .inl hz
    · refine .inr fun e => ?_
      have := hk3 (k' - 1) fun n hn => by
        by_cases hn' : n = k' - 1
        · rw [hn']; exact e
        · exact hk' n (by omega)
      omega
  · refine Nat.dvd_of_mod_eq_zero (Classical.byContradiction fun hz => ?_)
    have hlt := Nat.mod_lt p (show q > 0 from q1)
    have := q4 (p % q) ⟨by omega, k, fun n hn => ?_⟩
    · omega
    · have e := Nat.mod_add_div p q
      rw [← Ev.add (show Ev a k q from ⟨q1, hq⟩) (p / q) (n + p % q) (by omega), show n + p % q + p / q * q = n + p by rw [Nat.mul_comm]; omega]
      exact h.2 n hn
open Classical in
noncomputable def kp (a : Nat → Nat) : Nat × Nat := if h : ∃ x : Nat × Nat, Cn a x.1 x.2 then Classical.choose h else (0, 0)
theorem kp_eq {a : Nat → Nat} {k p : Nat} (h : Cn a k p) : kp a = (k, p) := by
  have hx : ∃ x : Nat × Nat, Cn a x.1 x.2 := ⟨(k, p), h⟩
  unfold kp
  rw [dif_pos hx]
  obtain ⟨e1, e2⟩ := (Classical.choose_spec hx).uniq h
  exact Prod.ext e1 e2
noncomputable def kO (a : Nat → Nat) : Nat := (kp a).1
noncomputable def pO (a : Nat → Nat) : Nat := (kp a).2
theorem kO_eq {a : Nat → Nat} {k p : Nat} (h : Cn a k p) : kO a = k := by unfold kO; rw [kp_eq h]
theorem pO_eq {a : Nat → Nat} {k p : Nat} (h : Cn a k p) : pO a = p := by unfold pO; rw [kp_eq h]
theorem Ev.cn {a : Nat → Nat} {k p : Nat} (h : Ev a k p) : Cn a (kO a) (pO a) := by
  obtain ⟨k', p', c, _, _⟩ := cn_ex h
  rw [kO_eq c, pO_eq c]; exact c
theorem Ev.kO_le {a : Nat → Nat} {k p : Nat} (h : Ev a k p) : kO a ≤ k := by
  obtain ⟨k', p', c, hk, _⟩ := cn_ex h
  rw [kO_eq c]; exact hk
theorem Ev.pO_dvd {a : Nat → Nat} {k p : Nat} (h : Ev a k p) : pO a ∣ p := by
  obtain ⟨k', p', c, _, hp⟩ := cn_ex h
  rw [pO_eq c]; exact hp
theorem Ev.pO_le {a : Nat → Nat} {k p : Nat} (h : Ev a k p) : pO a ≤ p := Nat.le_of_dvd h.1 h.pO_dvd
theorem Ev.pO_pos {a : Nat → Nat} {k p : Nat} (h : Ev a k p) : 1 ≤ pO a := h.cn.pos
noncomputable def hdL (a : Nat → Nat) : List Nat := outH a (kO a)
noncomputable def tlL (a : Nat → Nat) : List Nat := outT a (kO a) (pO a)
@[simp] theorem hdL_len (a : Nat → Nat) : (hdL a).length = kO a := outH_len _ _
@[simp] theorem tlL_len (a : Nat → Nat) : (tlL a).length = pO a := outT_len _ _ _
def Sg (a : Nat → Nat) : Prop := ∀ n, a n = 48 ∨ a n = 49
/-- a set whose least table is within the bounds -/
structure Fit (a : Nat → Nat) : Prop where
  sg : Sg a
  cn : Cn a (kO a) (pO a)
  k5 : kO a ≤ 5000
  p5 : pO a ≤ 5000
theorem Fit.of {a : Nat → Nat} {k p : Nat} (s : Sg a) (h : Ev a k p) (hk : k ≤ 5000) (hp : p ≤ 5000) : Fit a := ⟨s, h.cn, Nat.le_trans h.kO_le hk, Nat.le_trans h.pO_le hp⟩
theorem Fit.pos {a : Nat → Nat} (f : Fit a) : 1 ≤ pO a := f.cn.pos
theorem Fit.seq {a : Nat → Nat} (f : Fit a) : seq (hdL a) (tlL a) = a := seq_out f.cn.pos f.cn.per
/-! joined sign by sign -/
theorem Ev.join {a b : Nat → Nat} {k p k' p' : Nat} (f : Nat → Nat → Nat) (h : Ev a k p) (h' : Ev b k' p') : Ev (fun n => f (a n) (b n)) (max k k') (Nat.lcm p p') := by
  have hl : 1 ≤ Nat.lcm p p' := Nat.pos_of_ne_zero (Nat.lcm_ne_zero (by have := h.1; omega) (by have := h'.1; omega))
  have e1 := h.dvd (K := max k k') (by omega) (Nat.dvd_lcm_left p p') hl
  have e2 := h'.dvd (K := max k k') (by omega) (Nat.dvd_lcm_right p p') hl
  exact ⟨hl, fun n hn => by show f _ _ = f _ _; rw [e1.2 n hn, e2.2 n hn]⟩
theorem Ev.map {a : Nat → Nat} {k p : Nat} (f : Nat → Nat) (h : Ev a k p) : Ev (fun n => f (a n)) k p := ⟨h.1, fun n hn => by show f _ = f _; rw [h.2 n hn]⟩
/-! moved, back -/
def mv (a : Nat → Nat) (w : Nat) (n : Nat) : Nat := if n < w then 48 else a (n - w)
def bk (a : Nat → Nat) (w : Nat) (n : Nat) : Nat := a (n + w)
theorem mv_lo {a : Nat → Nat} {w n : Nat} (h : n < w) : Q.mv a w n = 48 := if_pos h
theorem mv_hi {a : Nat → Nat} {w n : Nat} (h : w ≤ n) : Q.mv a w n = a (n - w) := if_neg (by omega)
theorem Ev.mv {a : Nat → Nat} {k p : Nat} (h : Ev a k p) (w : Nat) : Ev (Q.mv a w) (k + w) p := ⟨h.1, fun n hn => by
  rw [mv_hi (by omega), mv_hi (by omega), show n + p - w = n - w + p by omega, h.2 _ (by omega)]⟩
theorem Ev.bk {a : Nat → Nat} {k p : Nat} (h : Ev a k p) (w : Nat) : Ev (Q.bk a w) (k - w) p := ⟨h.1, fun n hn => by
  unfold Q.bk
  rw [show n + p + w = n + w + p by omega, h.2 _ (by omega)]⟩
theorem Sg.mv {a : Nat → Nat} (h : Sg a) (w : Nat) : Sg (Q.mv a w) := fun n => by unfold Q.mv; split <;> first | exact .inl rfl | exact h _
theorem Sg.bk {a : Nat → Nat} (h : Sg a) (w : Nat) : Sg (Q.bk a w) := fun n => h _
theorem Cn.bk {a : Nat → Nat} {k p : Nat} (h : Cn a k p) (w : Nat) : Cn (Q.bk a w) (k - w) p := by
  refine ⟨h.pos, (h.ev.bk w).2, ?_, fun d d1 ⟨m, hm⟩ => h.least d d1 ⟨m + w, fun n hn => ?_⟩⟩
  · by_cases hk : k ≤ w
    · exact .inl (by omega)
    · refine .inr ?_
      unfold Q.bk
      rw [show k - w - 1 + p + w = k - 1 + p by omega, show k - w - 1 + w = k - 1 by omega]
      exact h.low.resolve_left (by omega)
  · have := hm (n - w) (by omega)
    unfold Q.bk at this
    rw [show n - w + d + w = n + d by omega, show n - w + w = n by omega] at this
    exact this
theorem mv_least {a : Nat → Nat} {k p : Nat} (h : Cn a k p) (w d : Nat) (d1 : 1 ≤ d) (d2 : ∃ m, ∀ n, m ≤ n → Q.mv a w (n + d) = Q.mv a w n) : p ≤ d := by
  obtain ⟨m, hm⟩ := d2
  refine h.least d d1 ⟨m, fun n hn => ?_⟩
  have := hm (n + w) (by omega)
  rw [mv_hi (by omega), mv_hi (by omega), show n + w + d - w = n + d by omega, show n + w - w = n by omega] at this
  exact this
theorem Cn.mv {a : Nat → Nat} {k p : Nat} (h : Cn a k p) (w : Nat) (hk : 1 ≤ k) : Cn (Q.mv a w) (k + w) p := by
  refine ⟨h.pos, (h.ev.mv w).2, .inr ?_, mv_least h w⟩
  rw [mv_hi (by omega), mv_hi (by omega), show k + w - 1 + p - w = k - 1 + p by omega, show k + w - 1 - w = k - 1 by omega]
  exact h.low.resolve_left (by omega)
/-- a turn alone, moved: so many noughts at its end need no place -/
theorem Cn.mv0 {a : Nat → Nat} {p : Nat} (h : Cn a 0 p) (w g : Nat) (hg : g ≤ w) (hgp : g ≤ p) (h0 : ∀ i, i < g → a (p - 1 - i) = 48) (h1 : g = w ∨ (g < p ∧ a (p - 1 - g) ≠ 48)) : Cn (Q.mv a w) (w - g) p := by
  refine ⟨h.pos, fun n hn => ?_, ?_, mv_least h w⟩
  · by_cases hw : w ≤ n
    · exact ((h.ev.mv w).2 n (by omega))
    · rw [mv_lo (n := n) (by omega), mv_hi (by omega)]
      have := h0 (w - 1 - n) (by omega)
      rw [← this]; congr 1; omega
  · rcases h1 with e | ⟨e1, e2⟩
    · exact .inl (by omega)
    · by_cases hw : w - g = 0
      · exact .inl hw
      · refine .inr ?_
        rw [mv_lo (n := w - g - 1) (by omega), mv_hi (show w ≤ w - g - 1 + p by omega), show w - g - 1 + p - w = p - 1 - g by omega]
        exact e2
/-! spread, steps -/
def sp (a : Nat → Nat) (t : Nat) (n : Nat) : Nat := if n % t = 0 then a (n / t) else 48
def stp (a : Nat → Nat) (f s : Nat) (n : Nat) : Nat := a (f + s * n)
theorem Sg.sp {a : Nat → Nat} (h : Sg a) (w : Nat) : Sg (Q.sp a w) := fun n => by unfold Q.sp; split <;> first | exact .inl rfl | exact h _
theorem Sg.stp {a : Nat → Nat} (h : Sg a) (f s : Nat) : Sg (Q.stp a f s) := fun n => h _
theorem Ev.sp {a : Nat → Nat} {k p : Nat} (h : Ev a k p) {t : Nat} (ht : 1 ≤ t) : Ev (Q.sp a t) (k * t) (p * t) := ⟨Nat.mul_pos h.1 ht, fun n hn => by
  unfold Q.sp
  rw [Nat.add_mul_mod_self_right, Nat.add_mul_div_right _ _ ht]
  by_cases hz : n % t = 0
  · rw [if_pos hz, if_pos hz, h.2 _ ((Nat.le_div_iff_mul_le ht).mpr hn)]
  · rw [if_neg hz, if_neg hz]⟩
theorem Ev.stp {a : Nat → Nat} {k p : Nat} (h : Ev a k p) {f s c q : Nat} (hc : k ≤ f + s * c) (hq : 1 ≤ q) (hd : p ∣ s * q) : Ev (Q.stp a f s) c q := ⟨hq, fun n hn => by
  obtain ⟨m, hm⟩ := hd
  unfold Q.stp
  have h2 : s * c ≤ s * n := Nat.mul_le_mul_left _ hn
  rw [Nat.mul_add, hm, Nat.mul_comm p m, ← Nat.add_assoc]
  exact h.add m _ (by omega)⟩
end Q

set_option Elab.async false
set_option linter.all false
set_option maxRecDepth 100000
namespace Q
namespace C
open PySem PySem.Spec PyProof.Rows L2
def b0_common_divisor : Q.Env → M Bool := tBin dNe (eVar 3) (eC (.int 0))
def b1_common_divisor : Q.Env → M Flow := sPar 2 3 (lCons (eVar 3) (lCons (eBin dMod (eVar 2) (eVar 3)) (lNil)))
def m_common_divisor : Q.Env → M Flow := sSeq (sPar 2 3 (lCons (eVar 0) (lCons (eVar 1) (lNil))))
    (sSeq (sWhile 1000000000000 (b0_common_divisor) (b1_common_divisor))
    (sRet (eVar 2)))
def f_common_divisor : List Slot → M D := fnM 4 m_common_divisor
def m_common_multiple : Q.Env → M Flow := sRet (eBin dMul (eBin dFdiv (eVar 0) (eCall f_common_divisor (aCons (eVar 0) (aCons (eVar 1) (aNil))))) (eVar 1))
def f_common_multiple : List Slot → M D := fnM 2 m_common_multiple
def m_sizes : Q.Env → M Flow := sSeq (sAsg (gTupE 2 (gsCons (gSet 1) (gsCons (gSet 2) (gsNil)))) (eCall f_least (aCons (eVar 0) (aNil))))
    (sRet (eTup (lCons (eB dLen (lCons (eVar 1) (lNil))) (lCons (eB dLen (lCons (eVar 2) (lNil))) (lNil)))))
def f_sizes : List Slot → M D := fnM 3 m_sizes
def m_need_bounds : Q.Env → M Flow := sIf (tOrM (tBin dGt (eVar 0) (eC (.int 5000))) (tBin dGt (eVar 1) (eC (.int 5000)))) (sRaise "TooGreat") (sNil)
def f_need_bounds : List Slot → M D := fnM 2 m_need_bounds
def m_need_both : Q.Env → M Flow := sSeq (sAsg (gTupE 2 (gsCons (gTupE 2 (gsCons (gSet 2) (gsCons (gSet 3) (gsNil)))) (gsCons (gTupE 2 (gsCons (gSet 4) (gsCons (gSet 5) (gsNil)))) (gsNil)))) (eTup (lCons (eCall f_sizes (aCons (eVar 0) (aNil))) (lCons (eCall f_sizes (aCons (eVar 1) (aNil))) (lNil)))))
    (sSeq (sPar 6 7 (lCons (eB dMax (lCons (eVar 2) (lCons (eVar 4) (lNil)))) (lCons (eCall f_common_multiple (aCons (eVar 3) (aCons (eVar 5) (aNil)))) (lNil))))
    (sSeq (sExpr (eCall f_need_bounds (aCons (eVar 6) (aCons (eVar 7) (aNil)))))
    (sRet (eTup (lCons (eVar 6) (lCons (eVar 7) (lNil)))))))
def f_need_both : List Slot → M D := fnM 8 m_need_both
def m_table_of : Q.Env → M Flow := sRet (eCall f_least (aCons (eTup (lCons (eSl (eVar 0) (oNone) (oSome (eVar 1))) (lCons (eSl (eVar 0) (oSome (eVar 1)) (oSome (eBin dAdd (eVar 1) (eVar 2)))) (lNil)))) (aNil)))
def f_table_of : List Slot → M D := fnM 3 m_table_of
def m_joined : Q.Env → M Flow := sSeq (sAsg (gTupE 2 (gsCons (gSet 3) (gsCons (gSet 4) (gsNil)))) (eCall f_need_both (aCons (eVar 0) (aCons (eVar 1) (aNil)))))
    (sSeq (sAsg (gTupE 2 (gsCons (gSet 5) (gsCons (gSet 6) (gsNil)))) (eTup (lCons (eCall f_signs (aCons (eVar 0) (aCons (eBin dAdd (eVar 3) (eVar 4)) (aNil)))) (lCons (eCall f_signs (aCons (eVar 1) (aCons (eBin dAdd (eVar 3) (eVar 4)) (aNil)))) (lNil)))))
    (sSeq (sSetZ 7 (fComp [8] (iR1 (lCons (eBin dAdd (eVar 3) (eVar 4)) (lNil))) (gSet 8) (tTrue) (eIf (tBin dIn (eBin dAdd (eBin dIx (eVar 5) (eVar 8)) (eBin dIx (eVar 6) (eVar 8))) (eVar 2)) (eC (.str "1")) (eC (.str "0")))))
    (sRet (eCall f_table_of (aCons (eM mJoin (eC (.str "")) (lCons (eVar 7) (lNil))) (aCons (eVar 3) (aCons (eVar 4) (aNil))))))))
def f_joined : List Slot → M D := fnM 9 m_joined
def m_both : Q.Env → M Flow := sRet (eCall f_joined (aCons (eVar 0) (aCons (eVar 1) (aCons (eTup (lCons (eC (.str "11")) (lNil))) (aNil)))))
def f_both : List Slot → M D := fnM 2 m_both
def m_either : Q.Env → M Flow := sRet (eCall f_joined (aCons (eVar 0) (aCons (eVar 1) (aCons (eTup (lCons (eC (.str "01")) (lCons (eC (.str "10")) (lCons (eC (.str "11")) (lNil))))) (aNil)))))
def f_either : List Slot → M D := fnM 2 m_either
def m_but : Q.Env → M Flow := sRet (eCall f_joined (aCons (eVar 0) (aCons (eVar 1) (aCons (eTup (lCons (eC (.str "10")) (lNil))) (aNil)))))
def f_but : List Slot → M D := fnM 2 m_but
def m_contrary : Q.Env → M Flow := sSeq (sAsg (gTupE 2 (gsCons (gSet 1) (gsCons (gSet 2) (gsNil)))) (eFz (fComp [3] (iA (eVar 0)) (gSet 3) (tTrue) (eM mJoin (eC (.str "")) (lCons (eFz (fComp [4] (iA (eVar 3)) (gSet 4) (tTrue) (eIf (tBin dEq (eVar 4) (eC (.str "1"))) (eC (.str "0")) (eC (.str "1"))))) (lNil))))))
    (sRet (eCall f_least (aCons (eTup (lCons (eVar 1) (lCons (eVar 2) (lNil)))) (aNil))))
def f_contrary : List Slot → M D := fnM 5 m_contrary
def m_moved : Q.Env → M Flow := sSeq (sAsg (gTupE 2 (gsCons (gSet 2) (gsCons (gSet 3) (gsNil)))) (eCall f_least (aCons (eVar 0) (aNil))))
    (sSeq (sExpr (eCall f_need_bounds (aCons (eBin dAdd (eB dLen (lCons (eVar 2) (lNil))) (eVar 1)) (aCons (eB dLen (lCons (eVar 3) (lNil))) (aNil)))))
    (sRet (eCall f_least (aCons (eTup (lCons (eBin dAdd (eBin dMul (eC (.str "0")) (eVar 1)) (eVar 2)) (lCons (eVar 3) (lNil)))) (aNil)))))
def f_moved : List Slot → M D := fnM 4 m_moved
def m_back : Q.Env → M Flow := sSeq (sAsg (gTupE 2 (gsCons (gSet 2) (gsCons (gSet 3) (gsNil)))) (eCall f_least (aCons (eVar 0) (aNil))))
    (sSeq (sSet 4 (eBin dMod (eB dMax (lCons (eC (.int 0)) (lCons (eBin dSub (eVar 1) (eB dLen (lCons (eVar 2) (lNil)))) (lNil)))) (eB dLen (lCons (eVar 3) (lNil)))))
    (sRet (eCall f_least (aCons (eTup (lCons (eSl (eVar 2) (oSome (eVar 1)) (oNone)) (lCons (eBin dAdd (eSl (eVar 3) (oSome (eVar 4)) (oNone)) (eSl (eVar 3) (oNone) (oSome (eVar 4)))) (lNil)))) (aNil)))))
def f_back : List Slot → M D := fnM 5 m_back
def m_spread : Q.Env → M Flow := sSeq (sAsg (gTupE 2 (gsCons (gSet 2) (gsCons (gSet 3) (gsNil)))) (eCall f_least (aCons (eVar 0) (aNil))))
    (sSeq (sExpr (eCall f_need_bounds (aCons (eBin dMul (eB dLen (lCons (eVar 2) (lNil))) (eVar 1)) (aCons (eBin dMul (eB dLen (lCons (eVar 3) (lNil))) (eVar 1)) (aNil)))))
    (sSeq (sSetZ 4 (fComp [5] (iT (eTup (lCons (eVar 2) (lCons (eVar 3) (lNil))))) (gSet 5) (tTrue) (eM mJoin (eC (.str "")) (lCons (eFz (fComp [6] (iA (eVar 5)) (gSet 6) (tTrue) (eBin dAdd (eVar 6) (eBin dMul (eC (.str "0")) (eBin dSub (eVar 1) (eC (.int 1))))))) (lNil)))))
    (sRet (eCall f_least (aCons (eTup (lCons (eBin dIx (eVar 4) (eC (.int 0))) (lCons (eBin dIx (eVar 4) (eC (.int 1))) (lNil)))) (aNil))))))
def f_spread : List Slot → M D := fnM 7 m_spread
def m_steps : Q.Env → M Flow := sSeq (sAsg (gTupE 2 (gsCons (gSet 3) (gsCons (gSet 4) (gsNil)))) (eCall f_sizes (aCons (eVar 0) (aNil))))
    (sSeq (sPar 5 6 (lCons (eB dMax (lCons (eC (.int 0)) (lCons (eBin dFdiv (eBin dSub (eBin dAdd (eBin dSub (eVar 3) (eVar 1)) (eVar 2)) (eC (.int 1))) (eVar 2)) (lNil)))) (lCons (eBin dFdiv (eVar 4) (eCall f_common_divisor (aCons (eVar 4) (aCons (eVar 2) (aNil))))) (lNil))))
    (sSeq (sSetZ 7 (fComp [8] (iR1 (lCons (eBin dAdd (eVar 5) (eVar 6)) (lNil))) (gSet 8) (tTrue) (eIf (tVal (eCall f_has (aCons (eVar 0) (aCons (eBin dAdd (eVar 1) (eBin dMul (eVar 2) (eVar 8))) (aNil))))) (eC (.str "1")) (eC (.str "0")))))
    (sRet (eCall f_table_of (aCons (eM mJoin (eC (.str "")) (lCons (eVar 7) (lNil))) (aCons (eVar 5) (aCons (eVar 6) (aNil))))))))
def f_steps : List Slot → M D := fnM 9 m_steps
def b0__law_divisor : Q.Env → M Bool := tBin dNe (eVar 1) (eC (.int 0))
def b1__law_divisor : Q.Env → M Flow := sPar 0 1 (lCons (eVar 1) (lCons (eBin dMod (eB dInt (lCons (eVar 0) (lNil))) (eVar 1)) (lNil)))
def m__law_divisor : Q.Env → M Flow := sSeq (sWhile 1000000000000 (b0__law_divisor) (b1__law_divisor))
    (sRet (eVar 0))
def f__law_divisor : List Slot → M D := fnM 2 m__law_divisor
end C
end Q
namespace Q
open PySem PySem.Spec PyProof.Rows L2
/-- what raises the one error -/
def TG : Exn → Prop := fun e => e.cls = "TooGreat"
theorem use {m : M D} {d : D} {Q : D → Prop} {R : Exn → Prop} (h : W m (fun x => x = d) F) (q : Q d) : W m Q R := W_use h fun x e => by rw [e]; exact q
/-- where the error may come -/
theorem useR {α : Type} {m : M α} {P Q : α → Prop} {R R' : Exn → Prop} (h : W m P R') (k : ∀ a, P a → Q a) (r : ∀ e, R' e → R e) : W m Q R := W_mono h k r
theorem x_kasgsN {g : D → Env → Option Env} {gs : List D → Env → Option Env} {d : D} {ds : List D} {δ : Env} {Q : Flow → Prop} {R : Exn → Prop} : W (kAsgs (gsCons g gs) (d :: ds) δ) Q R = W (kAsg g d δ) (fun fl => W (andThen (kAsgs gs ds) fl) Q R) R := by
  show W (match (g d δ).bind (gs ds) with | some δ' => M.ret (Flow.next δ') | none => M.fail) Q R = W (match g d δ with | some δ' => M.ret (Flow.next δ') | none => M.fail) _ R
  cases g d δ with
  | none => simp only [W_eq]; rfl
  | some δ' => simp only [W_eq]; rfl
/-- a def that tells without drawing: its least table -/
noncomputable def LT (a : Nat → Nat) : D := Pr (hdL a) (tlL a)
theorem Tab.sg {h t : List Nat} (T : Tab h t) : Sg (seq h t) := seq_bin T.hb T.tb T.ne
theorem Tab.ev {h t : List Nat} (T : Tab h t) : Ev (seq h t) h.length t.length := Ev.seq T.ne
theorem Tab.fit {h t : List Nat} (T : Tab h t) : Fit (seq h t) := Fit.of T.sg T.ev T.hl T.tl
theorem Fit.tab {a : Nat → Nat} (f : Fit a) : Tab (hdL a) (tlL a) := by
  refine ⟨fun c hc => ?_, fun c hc => ?_, fun z => ?_, ?_, ?_⟩
  · obtain ⟨i, _, rfl⟩ := List.mem_map.mp hc
    exact f.sg i
  · obtain ⟨i, _, rfl⟩ := List.mem_map.mp hc
    exact f.sg _
  · have := congrArg List.length z
    have := f.pos
    simp at *; omega
  · have := f.k5; simp; exact this
  · have := f.p5; simp; exact this
theorem LT_of {a : Nat → Nat} {k p : Nat} (h : Cn a k p) : LT a = Pr (outH a k) (outT a k p) := by
  unfold LT hdL tlL
  rw [kO_eq h, pO_eq h]
theorem Sm.LT {a : Nat → Nat} (f : Fit a) : Sm 64 10002 (LT a) := Pr_sm f.tab.hb f.tab.tb (by have := f.tab.hl; have := f.tab.tl; omega)
theorem LT_inj {a b : Nat → Nat} (f : Fit a) (g : Fit b) (e : Q.LT a = Q.LT b) : a = b := by
  unfold Q.LT at e
  injection e with e
  injection e with e1 e2
  injection e2 with e2 e3
  injection e1 with e1
  injection e2 with e2
  rw [← f.seq, ← g.seq, S_inj e1, S_inj e2]
namespace C
theorem w_lt {h t : List Nat} {a : Nat → Nat} (T : Tab h t) (e : seq h t = a) : W (f_least [.dat (Pr h t)]) (fun d => d = LT a) F := by
  subst e
  have := T.hl
  have := T.tl
  exact w_least T.ne (by omega) (by omega) T.ev.cn
theorem w_ltl {a : Nat → Nat} (f : Fit a) : W (f_least [.dat (LT a)]) (fun d => d = LT a) F := w_lt f.tab f.seq
theorem w_law_lt {h t : List Nat} {a : Nat → Nat} (T : Tab h t) (e : seq h t = a) : W (f__law_least [.dat (Pr h t)]) (fun d => d = LT a) F := by
  subst e
  refine W_use (w_law_least T) fun d hd => ?_
  obtain ⟨k, q, rfl, _, c⟩ := hd
  rw [LT_of c]
theorem w_gcd (a b : Nat) (hb : b < 1000000000000) : W (f_common_divisor [.dat (.int a), .dat (.int b)]) (fun d => d = .int (Nat.gcd a b : Nat)) F := by
  refine W_fn (δ := [.dat (.int a), .dat (.int b), .emp, .emp]) rfl ?_
  unfold m_common_divisor
  simp only [↓wr]
  refine W_sWhile (fun m δ => ∃ x y : Nat, δ = [.dat (.int a), .dat (.int b), .dat (.int x), .dat (.int y)] ∧ Nat.gcd x y = Nat.gcd a b ∧ y ≤ m) ?_ _ b _ (by omega) ⟨a, b, rfl, rfl, Nat.le_refl _⟩
  rintro m δ ⟨x, y, rfl, hg, hm⟩
  unfold b0_common_divisor b1_common_divisor
  simp only [↓wr]
  by_cases hy : y = 0
  · subst hy
    rw [if_neg (by simp), ← hg, Nat.gcd_zero_right]
  · rw [if_pos (by simp; omega)]
    have em : ((x : Int) % (y : Int)) = ((x % y : Nat) : Int) := (Int.natCast_emod _ _).symm
    have hlt := Nat.mod_lt x (show y > 0 by omega)
    rw [em]
    refine ⟨by omega, by omega, y, x % y, rfl, ?_, by omega⟩
    rw [← hg, Nat.gcd_comm x y, Nat.gcd_rec y x]
    exact Nat.gcd_comm _ _
theorem w_lgcd (a b : Nat) (hb : b < 1000000000000) : W (f__law_divisor [.dat (.int a), .dat (.int b)]) (fun d => d = .int (Nat.gcd a b : Nat)) F := by
  refine W_fn (δ := [.dat (.int a), .dat (.int b)]) rfl ?_
  unfold m__law_divisor
  simp only [↓wr]
  refine W_sWhile (fun m δ => ∃ x y : Nat, δ = [.dat (.int x), .dat (.int y)] ∧ Nat.gcd x y = Nat.gcd a b ∧ y ≤ m) ?_ _ b _ (by omega) ⟨a, b, rfl, rfl, Nat.le_refl _⟩
  rintro m δ ⟨x, y, rfl, hg, hm⟩
  unfold b0__law_divisor b1__law_divisor
  simp only [↓wr]
  by_cases hy : y = 0
  · subst hy
    rw [if_neg (by simp), ← hg, Nat.gcd_zero_right]
  · rw [if_pos (by simp; omega)]
    have em : ((x : Int) % (y : Int)) = ((x % y : Nat) : Int) := (Int.natCast_emod _ _).symm
    have hlt := Nat.mod_lt x (show y > 0 by omega)
    rw [em]
    refine ⟨by omega, by omega, y, x % y, rfl, ?_, by omega⟩
    rw [← hg, Nat.gcd_comm x y, Nat.gcd_rec y x]
    exact Nat.gcd_comm _ _
theorem w_lcm (a b : Nat) (ha : 1 ≤ a) (hb : 1 ≤ b) (hb2 : a ≤ 5000) (hb3 : b ≤ 5000) : W (f_common_multiple [.dat (.int a), .dat (.int b)]) (fun d => d = .int (Nat.lcm a b : Nat)) F := by
  refine W_fn (δ := [.dat (.int a), .dat (.int b)]) rfl ?_
  unfold m_common_multiple
  simp only [↓wr]
  refine use (w_gcd a b (by omega)) ?_
  have g1 : 1 ≤ Nat.gcd a b := Nat.gcd_pos_of_pos_left _ ha
  have g2 : Nat.gcd a b ≤ a := Nat.gcd_le_left _ ha
  have ed : ((a : Int) / ((Nat.gcd a b : Nat) : Int)) = ((a / Nat.gcd a b : Nat) : Int) := (Int.natCast_ediv _ _).symm
  simp only [↓wr, ed]
  have : a / Nat.gcd a b ≤ a := Nat.div_le_self _ _
  refine ⟨by omega, .inl (.inr (by omega)), ?_⟩
  have e : Nat.lcm a b = a / Nat.gcd a b * b := by
    unfold Nat.lcm
    rw [Nat.mul_comm a b, Nat.mul_div_assoc _ (Nat.gcd_dvd_left a b), Nat.mul_comm]
  rw [e]
  push_cast
  rfl
theorem w_sizes {h t : List Nat} {a : Nat → Nat} (T : Tab h t) (e : seq h t = a) : W (f_sizes [.dat (Pr h t)]) (fun d => d = .tuple [.int (kO a : Nat), .int (pO a : Nat)]) F := by
  have f := T.fit
  rw [e] at f
  have h1 := f.k5
  have h2 := f.p5
  refine W_fn (δ := [.dat (Pr h t), .emp, .emp]) rfl ?_
  unfold m_sizes
  simp only [↓wr]
  refine use (w_lt T e) ?_
  unfold LT
  simp only [↓wr, hdL_len, tlL_len]
  exact ⟨by simp, by omega, by omega, trivial⟩
theorem w_bounds (x y : Int) : W (f_need_bounds [.dat (.int x), .dat (.int y)]) (fun d => (x ≤ 5000 ∧ y ≤ 5000) ∧ d = .none) (fun e => ¬ (x ≤ 5000 ∧ y ≤ 5000) ∧ e.cls = "TooGreat") := by
  refine W_fn (δ := [.dat (.int x), .dat (.int y)]) rfl ?_
  unfold m_need_bounds
  simp only [↓wr, decide_eq_true_eq]
  by_cases c1 : 5000 < x
  · rw [if_pos c1, if_pos trivial]
    exact ⟨by omega, trivial⟩
  · rw [if_neg c1]
    by_cases c2 : 5000 < y
    · rw [if_pos c2]
      exact ⟨by omega, trivial⟩
    · rw [if_neg c2]
      exact ⟨by omega, trivial⟩
theorem w_need {h t h' t' : List Nat} {a b : Nat → Nat} (T : Tab h t) (e : seq h t = a) (T' : Tab h' t') (e' : seq h' t' = b) : W (f_need_both [.dat (Pr h t), .dat (Pr h' t')]) (fun d => Nat.lcm (pO a) (pO b) ≤ 5000 ∧ d = .tuple [.int (max (kO a) (kO b) : Nat), .int (Nat.lcm (pO a) (pO b) : Nat)]) (fun x => ¬ Nat.lcm (pO a) (pO b) ≤ 5000 ∧ x.cls = "TooGreat") := by
  have f := T.fit
  rw [e] at f
  have f' := T'.fit
  rw [e'] at f'
  have h1 := f.k5
  have h2 := f.p5
  have h3 := f.pos
  have h1' := f'.k5
  have h2' := f'.p5
  have h3' := f'.pos
  refine W_fn (δ := [.dat (Pr h t), .dat (Pr h' t'), .emp, .emp, .emp, .emp, .emp, .emp]) rfl ?_
  unfold m_need_both
  simp only [↓wr]
  refine use (w_sizes T e) ?_
  refine use (w_sizes T' e') ?_
  simp only [↓wr, x_kasgsN]
  refine ⟨rfl, rfl, rfl, ?_⟩
  refine use (w_lcm _ _ h3 h3' h2 h2') ?_
  refine W_mono (w_bounds _ _) (fun d hd => ?_) fun x hx => ?_
  · obtain ⟨⟨_, q⟩, rfl⟩ := hd
    refine ⟨by omega, ?_⟩
    congr 3
    omega
  · exact ⟨by omega, hx.2⟩
theorem w_tabof {a : Nat → Nat} (s : Sg a) {k p : Nat} (h : Ev a k p) (hk : k ≤ 5000) (hp : p ≤ 5000) : W (f_table_of [.dat (.str (S (outH a (k + p)))), .dat (.int k), .dat (.int p)]) (fun d => d = LT a) F := by
  refine W_fn (δ := [.dat (.str (S (outH a (k + p)))), .dat (.int k), .dat (.int p)]) rfl ?_
  unfold m_table_of
  simp only [↓wr]
  have e1 : cutL (outH a (k + p)) none (some (k : Int)) = outH a k := by
    rw [cut_take _ (Int.natCast_nonneg _), Int.toNat_natCast]
    exact ext_out (by rw [List.length_take, outH_len]; omega) fun i hi => by rw [getD_take hi, outH_getD (by omega)]
  have e2 : cutL (outH a (k + p)) (some (k : Int)) (some ((k : Int) + p)) = outT a k p := by
    rw [cut_mid _ (Int.natCast_nonneg _) (by omega)]
    exact ext_out (by rw [List.length_take, List.length_drop, outH_len]; omega) fun i hi => by rw [getD_take (by omega), getD_drop, Int.toNat_natCast, outH_getD (by omega)]
  have h1 := h.1
  rw [e1, e2]
  refine ⟨by rw [outH_len]; omega, by rw [outH_len]; omega, W_use (w_lt (a := a) ⟨fun c hc => ?_, fun c hc => ?_, fun z => ?_, by rw [outH_len]; exact hk, by rw [outT_len]; exact hp⟩ (seq_out h.1 h.2)) fun d hd => hd⟩
  · obtain ⟨i, _, rfl⟩ := List.mem_map.mp hc
    exact s i
  · obtain ⟨i, _, rfl⟩ := List.mem_map.mp hc
    exact s _
  · have := congrArg List.length z
    rw [outT_len] at this; simp at this; omega
end C
end Q

set_option Elab.async false
set_option linter.all false
set_option maxRecDepth 100000
namespace Q
open PySem PySem.Spec PyProof.Rows L2
/-- a text made along a range, sign by sign -/
theorem W_compR {f : D → M (Option D)} {n : Nat} {c : Nat → Nat} (h : ∀ i, i < n → W (f (.int (i : Nat))) (fun o => o = some (.str (S [c i]))) F) : W (compL f (rng 0 n)) (fun r => r = (outH c n).map fun x => .str (S [x])) F := by
  refine W_use (W_comp (g := fun x => match x with | .int i => some (.str (S [c i.toNat])) | _ => none) _ fun x hx => ?_) fun r e => ?_
  · obtain ⟨i, hi, rfl⟩ := List.mem_map.mp hx
    have hi := List.mem_range.mp hi
    have := h i hi
    rw [show ((0 : Int) + (i : Int)) = (i : Int) by omega]
    exact this
  · rw [e]
    unfold rng outH
    rw [List.filterMap_map, List.map_map, ← List.filterMap_eq_map]
    congr 1
    funext i
    show some (PyData.str (S [c ((0 : Int) + (i : Int)).toNat])) = _
    rw [show ((0 : Int) + (i : Int)).toNat = i by omega]
    rfl
/-- a text made along a text, sign by sign -/
theorem W_compS {f : D → M (Option D)} {l : List Nat} {c : Nat → List Nat} (h : ∀ x ∈ l, W (f (.str (S [x]))) (fun o => o = some (.str (S (c x)))) F) : W (compL f (chars (S l))) (fun r => r = (l.map c).map fun y => .str (S y)) F := by
  have ec : chars (S l) = l.map fun c => PyData.str (S [c]) := by
    unfold chars
    rw [S_toList]; rfl
  rw [ec]
  induction l with
  | nil => exact ⟨rfl⟩
  | cons x l ih =>
    rw [List.map_cons]
    have h1 := (h x List.mem_cons_self).is
    have h2 := (ih (fun y hy => h y (List.mem_cons_of_mem _ hy)) (by unfold chars; rw [S_toList]; rfl)).is
    refine ⟨?_⟩
    unfold compL
    refine wp_bindI h1 fun o e => wp_bindI h2 fun r e2 => ?_
    subst e e2
    exact rfl
theorem strsOf_maps : ∀ ls : List (List Nat), strsOf (ls.map fun l => PyData.str (S l)) = some (ls.map S)
  | [] => rfl
  | c :: cs => by
    rw [List.map_cons, List.map_cons]
    unfold strsOf
    rw [strsOf_maps cs]; rfl
theorem join_texts : ∀ ls : List (List Nat), Str.join (S []) (ls.map S) = S ls.flatten
  | [] => rfl
  | [c] => by show S c = S (c ++ []); rw [List.append_nil]
  | c :: c' :: cs => by
    show S c ++ S [] ++ Str.join (S []) ((c' :: cs).map S) = _
    rw [join_texts (c' :: cs), S_append, S_append, List.append_nil]; rfl
theorem sum_texts : ∀ ls : List (List Nat), ((ls.map S).map (·.length)).sum = ls.flatten.length
  | [] => rfl
  | c :: cs => by
    rw [List.map_cons, List.map_cons, List.sum_cons, sum_texts cs, S_length, List.flatten_cons, List.length_append]
theorem mJoin_texts {ls : List (List Nat)} (h : ls.flatten.length ≤ 16777216) : mJoin (S []) [.list (ls.map fun c => .str (S c))] = .ret (.str (S ls.flatten)) := by
  unfold mJoin
  dsimp only
  rw [strsOf_maps]
  dsimp only
  rw [sum_texts, S_length, if_pos (by rw [List.length_nil, Nat.mul_zero]; exact h)]
  rw [show Txt.join (S []) (ls.map S) = S ls.flatten from (StrLaws.glued_eq_join _ _).trans (join_texts ls)]
theorem dIn_texts (l : List Nat) (ks : List (List Nat)) : dIn (.str (S l)) (.tuple (ks.map fun k => .str (S k))) = .ret (.bool (decide (l ∈ ks))) := by
  show (if (flatD (.str (S l)) && (ks.map fun k => PyData.str (S k)).all flatD) = true then M.ret (PyData.bool (inD (.str (S l)) (ks.map fun k => .str (S k)))) else M.fail) = _
  have h1 : (ks.map fun k => PyData.str (S k)).all flatD = true := by
    rw [List.all_map]
    exact List.all_eq_true.mpr fun x _ => rfl
  rw [h1, if_pos (by rfl)]
  have : inD (.str (S l)) (ks.map fun k => .str (S k)) = decide (l ∈ ks) := by
    unfold inD
    rw [List.any_map]
    induction ks with
    | nil => rfl
    | cons k ks ih =>
      have ih' := ih (by rw [List.all_map]; exact List.all_eq_true.mpr fun x _ => rfl)
      rw [List.any_cons, ih']
      by_cases hk : l = k
      · subst hk; simp [PyData.eqv]
      · have : S k ≠ S l := fun e => hk (S_inj e).symm
        have : S l ≠ S k := fun e => hk (S_inj e)
        simp [PyData.eqv, hk, *]
  rw [this]
def jn (ks : List (List Nat)) (a b : Nat → Nat) (n : Nat) : Nat := if [a n, b n] ∈ ks then 49 else 48
theorem Sg.jn (ks : List (List Nat)) (a b : Nat → Nat) : Sg (jn ks a b) := fun n => by unfold Q.jn; split <;> simp
theorem Ev.jn (ks : List (List Nat)) {a b : Nat → Nat} {k p k' p' : Nat} (h : Ev a k p) (h' : Ev b k' p') : Ev (Q.jn ks a b) (max k k') (Nat.lcm p p') := h.join (fun x y => if [x, y] ∈ ks then 49 else 48) h'
def ct (a : Nat → Nat) (n : Nat) : Nat := if a n = 49 then 48 else 49
theorem Sg.ct (a : Nat → Nat) : Sg (ct a) := fun n => by unfold Q.ct; split <;> simp
theorem Ev.ct {a : Nat → Nat} {k p : Nat} (h : Ev a k p) : Ev (Q.ct a) k p := h.map (fun x => if x = 49 then 48 else 49)
theorem bin_out {a : Nat → Nat} (s : Sg a) (k : Nat) : Bin (outH a k) := fun c hc => by
  obtain ⟨i, _, rfl⟩ := List.mem_map.mp hc
  exact s i
theorem bin_outt {a : Nat → Nat} (s : Sg a) (k p : Nat) : Bin (outT a k p) := fun c hc => by
  obtain ⟨i, _, rfl⟩ := List.mem_map.mp hc
  exact s _
theorem tab_out {a : Nat → Nat} (s : Sg a) {k p : Nat} (h : Ev a k p) (hk : k ≤ 5000) (hp : p ≤ 5000) : Tab (outH a k) (outT a k p) := ⟨bin_out s k, bin_outt s k p, fun z => by
  have := congrArg List.length z
  have := h.1
  rw [outT_len] at *; simp at *; omega, by rw [outH_len]; exact hk, by rw [outT_len]; exact hp⟩
theorem back_hd {a : Nat → Nat} {w : Nat} : (hdL a).drop w = outH (bk a w) (kO a - w) := ext_out (by rw [List.length_drop, hdL_len]) fun i hi => by
  unfold hdL
  rw [getD_drop, outH_getD (by omega)]
  unfold bk
  rw [Nat.add_comm]
theorem back_tl {a : Nat → Nat} (f : Fit a) {w : Nat} : (tlL a).drop ((w - kO a) % pO a) ++ (tlL a).take ((w - kO a) % pO a) = outT (bk a w) (kO a - w) (pO a) := by
  have h3 := f.pos
  have hm := Nat.mod_lt (w - kO a) (show pO a > 0 by omega)
  have := rot_out (t := tlL a) (s := (w - kO a) % pO a) (by rw [tlL_len]; exact hm) (f := fun i => bk a w (kO a - w + i)) fun i hi => ?_
  · rw [this, tlL_len]; rfl
  · unfold bk
    have := congrFun f.seq (kO a - w + i + w)
    rw [seq_hi (by rw [hdL_len]; omega), hdL_len] at this
    rw [← this]
    have c := cyc_per (tlL a)
    rw [tlL_len] at c
    by_cases cw : w ≤ kO a
    · rw [show w - kO a = 0 by omega, Nat.zero_mod]
      congr 1; omega
    · rw [Int.natCast_emod, ← c.emod (_ + _), Int.emod_add_emod, c.emod]
      congr 1; omega
theorem rep_one {n i c : Nat} (h : i < n) : (rep n [c]).getD i 0 = c := by
  rw [rep_getD _ _ _ (by simp; omega)]
  simp [Nat.mod_one]
theorem mv_seq {a : Nat → Nat} (f : Fit a) {w : Nat} : seq (rep w [48] ++ hdL a) (tlL a) = mv a w := by
  have hl : (rep w [48] ++ hdL a).length = w + kO a := by rw [List.length_append, rep_len, hdL_len]; simp
  funext n
  by_cases c1 : n < w
  · rw [seq_lo (by omega), getD_left (by rw [rep_len]; simp; omega), rep_one (by omega), mv_lo c1]
  · rw [mv_hi (by omega)]
    by_cases c2 : n < w + kO a
    · rw [seq_lo (by omega), getD_right (by rw [rep_len]; simp; omega), rep_len]
      show (hdL a).getD (n - w * [48].length) 0 = _
      rw [show w * [48].length = w by simp]
      unfold hdL
      rw [outH_getD (by omega)]
    · rw [seq_hi (by omega), hl]
      have := congrFun f.seq (n - w)
      rw [seq_hi (by rw [hdL_len]; omega), hdL_len] at this
      rw [← this]
      congr 1
      omega
namespace C
theorem w_joined {h t h' t' : List Nat} {a b : Nat → Nat} (T : Tab h t) (e : seq h t = a) (T' : Tab h' t') (e' : seq h' t' = b) (ks : List (List Nat)) : W (f_joined [.dat (Pr h t), .dat (Pr h' t'), .dat (.tuple (ks.map fun k => .str (S k)))]) (fun d => Nat.lcm (pO a) (pO b) ≤ 5000 ∧ d = LT (jn ks a b)) (fun x => ¬ Nat.lcm (pO a) (pO b) ≤ 5000 ∧ x.cls = "TooGreat") := by
  have f := T.fit
  have f' := T'.fit
  rw [e] at f
  rw [e'] at f'
  have h1 := f.k5
  have h1' := f'.k5
  refine W_fn (δ := [.dat (Pr h t), .dat (Pr h' t'), .dat (.tuple (ks.map fun k => .str (S k))), .emp, .emp, .emp, .emp, .emp, .emp]) rfl ?_
  unfold m_joined
  simp only [↓wr]
  refine W_mono (w_need T e T' e') (fun d hd => ?_) fun x hx => hx
  obtain ⟨hl, rfl⟩ := hd
  simp only [↓wr]
  have ev := f.cn.ev.jn ks f'.cn.ev
  have hK : max (kO a) (kO b) ≤ 5000 := by omega
  generalize max (kO a) (kO b) = K at *
  generalize Nat.lcm (pO a) (pO b) = P at *
  have eN : ((K : Int) + (P : Int)).toNat = K + P := by omega
  refine ⟨rfl, ?_⟩
  refine use (w_signs T (n := (K : Int) + P) (by omega) (by omega)) ?_
  refine use (w_signs T' (n := (K : Int) + P) (by omega) (by omega)) ?_
  rw [e, e', eN]
  refine ⟨rfl, ⟨by omega, by omega⟩, by unfold rng; simp; omega, W_calmI (W_use (W_compR (c := jn ks a b) fun i hi => ?_) fun r hr => ?_)⟩
  · simp only [↓wr, dIn_texts, lit_0, lit_1]
    rw [if_pos trivial]
    refine ⟨by rw [outH_len]; omega, _, atI_get (by omega) (by rw [outH_len]; omega), by rw [outH_len]; omega, _, atI_get (by omega) (by rw [outH_len]; omega), by simp, ?_⟩
    rw [Int.toNat_natCast, outH_getD hi, outH_getD hi]
    show if decide ([a i, b i] ∈ ks) = true then _ else _
    unfold jn
    by_cases c : [a i, b i] ∈ ks
    · rw [if_pos (by simpa using c), if_pos c]
    · rw [if_neg (by simpa using c), if_neg c]
  · subst hr
    simp only [↓wr, lit_]
    rw [mJoin_signs (by rw [outH_len]; omega)]
    simp only [↓wr]
    exact W_use (w_tabof (Sg.jn ks a b) ev hK hl) fun d hd => ⟨hl, hd⟩
theorem w_both {h t h' t' : List Nat} {a b : Nat → Nat} (T : Tab h t) (e : seq h t = a) (T' : Tab h' t') (e' : seq h' t' = b) : W (f_both [.dat (Pr h t), .dat (Pr h' t')]) (fun d => Nat.lcm (pO a) (pO b) ≤ 5000 ∧ d = LT (jn [[49, 49]] a b)) (fun x => ¬ Nat.lcm (pO a) (pO b) ≤ 5000 ∧ x.cls = "TooGreat") := by
  refine W_fn (δ := [.dat (Pr h t), .dat (Pr h' t')]) rfl ?_
  unfold m_both
  simp only [↓wr]
  exact w_joined T e T' e' [[49, 49]]
theorem w_either {h t h' t' : List Nat} {a b : Nat → Nat} (T : Tab h t) (e : seq h t = a) (T' : Tab h' t') (e' : seq h' t' = b) : W (f_either [.dat (Pr h t), .dat (Pr h' t')]) (fun d => Nat.lcm (pO a) (pO b) ≤ 5000 ∧ d = LT (jn [[48, 49], [49, 48], [49, 49]] a b)) (fun x => ¬ Nat.lcm (pO a) (pO b) ≤ 5000 ∧ x.cls = "TooGreat") := by
  refine W_fn (δ := [.dat (Pr h t), .dat (Pr h' t')]) rfl ?_
  unfold m_either
  simp only [↓wr]
  exact w_joined T e T' e' [[48, 49], [49, 48], [49, 49]]
theorem w_but {h t h' t' : List Nat} {a b : Nat → Nat} (T : Tab h t) (e : seq h t = a) (T' : Tab h' t') (e' : seq h' t' = b) : W (f_but [.dat (Pr h t), .dat (Pr h' t')]) (fun d => Nat.lcm (pO a) (pO b) ≤ 5000 ∧ d = LT (jn [[49, 48]] a b)) (fun x => ¬ Nat.lcm (pO a) (pO b) ≤ 5000 ∧ x.cls = "TooGreat") := by
  refine W_fn (δ := [.dat (Pr h t), .dat (Pr h' t')]) rfl ?_
  unfold m_but
  simp only [↓wr]
  exact w_joined T e T' e' [[49, 48]]
theorem w_moved {h t : List Nat} {a : Nat → Nat} (T : Tab h t) (e : seq h t = a) (w : Nat) (hw : w ≤ 10000000) : W (f_moved [.dat (Pr h t), .dat (.int w)]) (fun d => kO a + w ≤ 5000 ∧ d = LT (mv a w)) (fun x => ¬ kO a + w ≤ 5000 ∧ x.cls = "TooGreat") := by
  have f := T.fit
  rw [e] at f
  have h1 := f.k5
  have h2 := f.p5
  refine W_fn (δ := [.dat (Pr h t), .dat (.int w), .emp, .emp]) rfl ?_
  unfold m_moved
  simp only [↓wr]
  refine use (w_lt T e) ?_
  unfold LT
  simp only [↓wr, hdL_len, tlL_len, lit_0]
  refine ⟨rfl, by omega, by omega, W_mono (w_bounds _ _) (fun d hd => ?_) fun x hx => ⟨by omega, hx.2⟩⟩
  obtain ⟨⟨q, _⟩, rfl⟩ := hd
  simp only [↓wr, Int.toNat_natCast]
  have hb : Tab (rep w [48] ++ hdL a) (tlL a) := ⟨(Bin.b0.rep _).app f.tab.hb, f.tab.tb, f.tab.ne, by rw [List.length_append, rep_len, hdL_len]; simp; omega, f.tab.tl⟩
  refine ⟨⟨by omega, by omega, by simp; omega⟩, by rw [rep_len]; simp; omega, W_use (w_lt hb (mv_seq f)) fun d hd => ⟨by omega, hd⟩⟩
theorem w_back {h t : List Nat} {a : Nat → Nat} (T : Tab h t) (e : seq h t = a) (w : Nat) : W (f_back [.dat (Pr h t), .dat (.int w)]) (fun d => d = LT (bk a w)) F := by
  have f := T.fit
  rw [e] at f
  have h1 := f.k5
  have h2 := f.p5
  have h3 := f.pos
  refine W_fn (δ := [.dat (Pr h t), .dat (.int w), .emp, .emp, .emp]) rfl ?_
  unfold m_back
  simp only [↓wr]
  refine use (w_lt T e) ?_
  unfold LT
  simp only [↓wr, hdL_len, tlL_len]
  have e1 : max (0 : Int) ((w : Int) - (kO a : Nat)) % (pO a : Nat) = (((w - kO a) % pO a : Nat) : Int) := by
    rw [show max (0 : Int) ((w : Int) - (kO a : Nat)) = ((w - kO a : Nat) : Int) by omega]
    exact (Int.natCast_emod _ _).symm
  have hm := Nat.mod_lt (w - kO a) (show pO a > 0 by omega)
  simp only [e1]
  rw [cut_drop _ (Int.natCast_nonneg _), cut_drop _ (Int.natCast_nonneg _), cut_take _ (Int.natCast_nonneg _), Int.toNat_natCast, Int.toNat_natCast, back_hd, back_tl f]
  have T2 := tab_out (f.sg.bk w) (f.cn.ev.bk w) (by omega) h2
  exact ⟨rfl, by omega, by omega, by omega, by omega, by omega, by omega, by rw [List.length_take, List.length_drop, tlL_len]; omega, W_use (w_lt T2 (seq_out h3 (f.cn.ev.bk w).2)) fun d hd => hd⟩
end C
end Q

set_option Elab.async false
set_option linter.all false
set_option maxRecDepth 100000
namespace Q
open PySem PySem.Spec PyProof.Rows L2
/-! the noughts at a word's end -/
def tz (l : List Nat) : Nat := (l.reverse.takeWhile fun c => c == 48).length
theorem tz_le (l : List Nat) : tz l ≤ l.length := by
  have : ∀ l : List Nat, (l.takeWhile fun c => c == 48).length ≤ l.length := fun l => (List.takeWhile_sublist _).length_le
  have h := this l.reverse
  rw [List.length_reverse] at h
  exact h
theorem tw_get (p : Nat → Bool) : ∀ (l : List Nat) (i : Nat), i < (l.takeWhile p).length → p (l.getD i 0) = true
  | [], i, h => by simp at h
  | x :: l, i, h => by
    rw [List.takeWhile_cons] at h
    by_cases hx : p x = true
    · rw [if_pos hx] at h
      cases i with
      | zero => exact hx
      | succ i => exact tw_get p l i (by simpa using h)
    · rw [if_neg hx] at h; simp at h
theorem tw_stop (p : Nat → Bool) : ∀ (l : List Nat), (l.takeWhile p).length < l.length → p (l.getD (l.takeWhile p).length 0) = false
  | [], h => by simp at h
  | x :: l, h => by
    rw [List.takeWhile_cons] at h ⊢
    by_cases hx : p x = true
    · rw [if_pos hx] at h ⊢
      exact tw_stop p l (by simpa using h)
    · rw [if_neg hx] at h ⊢
      simpa using hx
theorem rev_getD (l : List Nat) {i : Nat} (h : i < l.length) : l.reverse.getD i 0 = l.getD (l.length - 1 - i) 0 := by
  rw [List.getD_eq_getElem?_getD, List.getElem?_reverse h, ← List.getD_eq_getElem?_getD]
theorem tz_get {l : List Nat} {i : Nat} (h : i < tz l) : l.getD (l.length - 1 - i) 0 = 48 := by
  have hl := tz_le l
  have := tw_get _ l.reverse i h
  rw [rev_getD l (by omega)] at this
  simpa using this
theorem tz_stop {l : List Nat} (h : tz l < l.length) : l.getD (l.length - 1 - tz l) 0 ≠ 48 := by
  have := tw_stop (fun c => c == 48) l.reverse (by rw [List.length_reverse]; exact h)
  change ((l.reverse.getD (tz l) 0) == 48) = false at this
  rw [rev_getD l h] at this
  simpa using this
theorem sub_S (l : List Nat) (n : Nat) : Builtin.Str.strSub (S l) 0 n = S (l.take n) := by
  unfold Builtin.Str.strSub
  apply congrArg Str.mk
  rw [← Array.toList_inj]
  simp [S]
theorem rstrip_S (l : List Nat) : Txt.rstripChars (S l) (S [48]) = S (l.take (l.length - tz l)) := by
  have hg : (S [48]).cps.contains = fun c => c == 48 := by
    funext c
    simp [S, Array.contains, eq_comm]
  have h2 : stripHi (S [48]).cps.contains true (S l) 0 = l.length - tz l := by
    show (S l).length - (((S l).cps.toList.drop 0).reverse.takeWhile _).length = _
    rw [hg, S_length, S_toList, List.drop_zero]
    rfl
  show (if stripSame (S [48]).cps.contains false true (S l) = true then S l else stripped (S [48]).cps.contains false true (S l)) = _
  by_cases c : stripSame (S [48]).cps.contains false true (S l) = true
  · rw [if_pos c]
    change ((0 : Nat) == 0 && stripHi (S [48]).cps.contains true (S l) 0 == (S l).length) = true at c
    rw [h2, S_length] at c
    have hc : l.length - tz l = l.length := by simpa using c
    rw [hc, List.take_length]
  · rw [if_neg c]
    show Builtin.Str.strSub (S l) 0 (stripHi (S [48]).cps.contains true (S l) 0) = _
    rw [h2, sub_S]
theorem x_rstrip {l : List Nat} {Q : D → Prop} {R : Exn → Prop} : W (mRstrip (S l) [.str (S [48])]) Q R = (l.length ≤ 16777216 ∧ Q (.str (S (l.take (l.length - tz l))))) := by
  show W (okL (S l).length (.ret (.str (Txt.rstripChars (S l) (S [48]))))) Q R = _
  rw [rstrip_S, W_eq, wp_okL, S_length]
/-- a turn turned back -/
theorem turn_back {a : Nat → Nat} (f : Fit a) (hk : kO a = 0) (w g : Nat) (hg : g ≤ w) (hgp : g ≤ pO a) (h0 : ∀ i, i < g → a (pO a - 1 - i) = 48) : (tlL a).drop (pO a - g) ++ (tlL a).take (pO a - g) = outT (mv a w) (w - g) (pO a) := by
  have hp := f.pos
  have ht : ∀ i, i < pO a → (tlL a).getD i 0 = a i := fun i hi => by
    unfold tlL
    rw [outT_getD hi, hk, Nat.zero_add]
  refine ext_out (by rw [List.length_append, List.length_drop, List.length_take, tlL_len]; omega) fun i hi => ?_
  by_cases c : i < g
  · rw [getD_left (by rw [List.length_drop, tlL_len]; omega), getD_drop, ht _ (by omega), mv_lo (by omega), ← h0 (g - 1 - i) (by omega)]
    congr 1; omega
  · rw [getD_right (by rw [List.length_drop, tlL_len]; omega), List.length_drop, tlL_len, getD_take (by omega), ht _ (by omega), mv_hi (by omega)]
    congr 1; omega
theorem rep_out {a : Nat → Nat} {w n : Nat} (h : n ≤ w) : rep n [48] = outH (mv a w) n := ext_out (by rw [rep_len]; simp) fun i hi => by
  rw [rep_one hi, mv_lo (by omega)]
end Q

set_option Elab.async false
set_option linter.all false
set_option maxRecDepth 100000
/-! tools of the laws on joins -/
namespace Q
open PySem PySem.Spec PyProof.Rows L2
theorem SmL.all {p w : Nat} : ∀ {ds : List D}, (∀ d ∈ ds, Sm p w d) → SmL p (ds.length * (w + 1)) ds
  | [], _ => by simpa using SmL.nil
  | d :: ds, h => by
    have := SmL.cons (h d List.mem_cons_self) (SmL.all fun x hx => h x (List.mem_cons_of_mem _ hx))
    rw [List.length_cons, Nat.succ_mul, Nat.add_comm]
    exact this
theorem Sm.sm5 {p w : Nat} {d : D} (h : Sm p w d) (hp : p ≤ 5) (hw : w ≤ 12000) : Sm 5 12000 d := h.mono hp hw
theorem rpD {d : D} (h : Sm 5 12000 d) : dRepr [d] = .ret (.str d.shown) := dRepr_ok (h.mono (by omega) (by omega))
theorem rpL {ds : List D} (h : ∀ d ∈ ds, Sm 5 12000 d) (hl : ds.length ≤ 30) : dRepr [.list ds] = .ret (.str (PyData.list ds).shown) := by
  refine dRepr_ok ((SmL.all h).list.mono (by omega) ?_)
  have : ds.length * (12000 + 1) ≤ 30 * (12000 + 1) := Nat.mul_le_mul_right _ hl
  omega
theorem Pr_sm5 {h t : List Nat} (T : Tab h t) : Sm 4 10002 (Pr h t) := by
  have h1 := T.hl
  have h2 := T.tl
  have e := SmL.cons (p := 3) (Sm.str T.hb.lt) (SmL.cons (Sm.str T.tb.lt) SmL.nil)
  exact e.tuple.mono (Nat.le_refl _) (by omega)
theorem Fit.sm {a : Nat → Nat} (f : Fit a) : Sm 4 10002 (LT a) := Pr_sm5 f.tab
theorem Fit.s5 {a : Nat → Nat} (f : Fit a) : Sm 5 12000 (LT a) := f.sm.mono (by omega) (by omega)
theorem Tab.s5 {h t : List Nat} (T : Tab h t) : Sm 5 12000 (Pr h t) := (Pr_sm5 T).mono (by omega) (by omega)
theorem int_s5 {i : Int} (h : i.natAbs < 10 ^ 30) : Sm 5 12000 (.int i) := (Sm.int h).mono (Nat.le_refl _) (by omega)
theorem bool_s5 (b : Bool) : Sm 5 12000 (.bool b) := (Sm.bool (p := 5) b).mono (by omega) (by omega)
theorem none_s5 : Sm 5 12000 .none := (Sm.none (p := 5)).mono (by omega) (by omega)
theorem told_s5 {d : D} {w : Nat} (h : Sm 4 w d) (hw : w ≤ 11000) : Sm 5 12000 (.list [.str "told", d]) := by
  have e : Sm 4 4 (.str (Str.ofString "told")) := by
    have : Str.ofString "told" = S [116, 111, 108, 100] := by rfl
    rw [this]
    exact Sm.str (p := 4) (l := [116, 111, 108, 100]) (by decide)
  exact (SmL.cons e (SmL.cons h SmL.nil)).list.mono (Nat.le_refl _) (by omega)
theorem great_s5 : Sm 5 12000 (.list [.str "great"]) := by
  have e : Sm 4 5 (.str (Str.ofString "great")) := by
    have : Str.ofString "great" = S [103, 114, 101, 97, 116] := by rfl
    rw [this]
    exact Sm.str (p := 4) (l := [103, 114, 101, 97, 116]) (by decide)
  exact (SmL.cons e SmL.nil).list.mono (Nat.le_refl _) (by omega)
theorem dEq_s5 {d d' : D} (h : Sm 5 12000 d) (h' : Sm 5 12000 d') : dEq d d' = .ret (.bool (PyData.eqv d d')) := by
  unfold dEq cmpOk
  rw [(h.mono (by omega) (Nat.le_refl _)).shaped, (h'.mono (by omega) (Nat.le_refl _)).shaped, Bool.and_self, Bool.or_true, if_pos rfl]
theorem dNe_s5 {d d' : D} (h : Sm 5 12000 d) (h' : Sm 5 12000 d') : dNe d d' = .ret (.bool (!PyData.eqv d d')) := by
  unfold dNe cmpOk
  rw [(h.mono (by omega) (Nat.le_refl _)).shaped, (h'.mono (by omega) (Nat.le_refl _)).shaped, Bool.and_self, Bool.or_true, if_pos rfl]
theorem dEq_great {d : D} (h : Sm 5 12000 (.list [.str "told", d])) : dEq (.list [.str "told", d]) (.list [.str "great"]) = .ret (.bool false) := by
  rw [dEq_s5 h great_s5]
  simp [PyData.eqv, PyData.eqvAll]
theorem dEq_gg : dEq (.list [.str "great"]) (.list [.str "great"]) = .ret (.bool true) := by
  rw [dEq_s5 great_s5 great_s5]
  simp [PyData.eqv, PyData.eqvAll]
theorem dNe_gg : dNe (.list [.str "great"]) (.list [.str "great"]) = .ret (.bool false) := by
  rw [dNe_s5 great_s5 great_s5]
  simp [PyData.eqv, PyData.eqvAll]
theorem dNe_nn : dNe (.list []) (.list []) = .ret (.bool false) := by
  have h : Sm 5 12000 (.list []) := (SmL.nil (p := 4)).list.mono (by omega) (by omega)
  rw [dNe_s5 h h]
  simp [PyData.eqv, PyData.eqvAll]
theorem TG_eq {e : Exn} (h : e.cls = "TooGreat") : e.cls = "TooGreat" := h
theorem ne_pass {A B : D} {G : Bool → Prop} {R : Exn → Prop} (e : A = B) (h : dRepr [A] = .ret (.str A.shown)) (g : G false) : W (dRepr [A]) (fun x => W (dRepr [B]) (fun y => W (dNe x y) (fun d => W (asB d) G R) R) R) R := by
  subst e
  rw [h]
  simp only [↓wr, ↓C.x_nsame]
  exact g
theorem ne_pass2 {A B : D} {G : Bool → Prop} {R : Exn → Prop} (e : A = B) (h : dRepr [A] = .ret (.str A.shown)) (g : G false) : W (dRepr [B]) (fun y => W (dNe (.str A.shown) y) (fun d => W (asB d) G R) R) R := by
  subst e
  rw [h]
  simp only [↓wr, ↓C.x_nsame]
  exact g
theorem eq_pass2 {A B : D} {G : D → Prop} {R : Exn → Prop} (e : A = B) (h : dRepr [A] = .ret (.str A.shown)) (g : G (.bool true)) : W (dRepr [B]) (fun y => W (dEq (.str A.shown) y) G R) R := by
  subst e
  rw [h]
  simp only [↓wr, ↓C.x_same]
  exact g
theorem rep_first {A : D} {G : D → Prop} {R : Exn → Prop} (h : dRepr [A] = .ret (.str A.shown)) (g : G (.str A.shown)) : W (dRepr [A]) G R := by
  rw [h, x_ret]; exact g
theorem eq_pass {A B : D} {G : D → Prop} {R : Exn → Prop} (e : A = B) (h : dRepr [A] = .ret (.str A.shown)) (g : G (.bool true)) : W (dRepr [A]) (fun x => W (dRepr [B]) (fun y => W (dEq x y) G R) R) R := by
  subst e
  rw [h]
  simp only [↓wr, ↓C.x_same]
  exact g
theorem eqb_pass {A B : D} {G : Bool → Prop} {R : Exn → Prop} (e : A = B) (h : dRepr [A] = .ret (.str A.shown)) (g : G true) : W (dRepr [A]) (fun x => W (dRepr [B]) (fun y => W (dEq x y) (fun d => W (asB d) G R) R) R) R := by
  subst e
  rw [h]
  simp only [↓wr, ↓C.x_same]
  exact g
theorem all1 {p w : Nat} {d : D} (h : Sm p w d) : ∀ x ∈ [d], Sm p w x := fun x hx => by
  rw [List.mem_singleton.mp hx]; exact h
theorem allC {p w : Nat} {d : D} {ds : List D} (h : Sm p w d) (r : ∀ x ∈ ds, Sm p w x) : ∀ x ∈ d :: ds, Sm p w x := fun x hx => by
  rcases List.mem_cons.mp hx with rfl | z
  · exact h
  · exact r x z
/-- statement by statement -/
theorem W_step {m1 m2 : Env → M Flow} {δ δ' : Env} {Q : Flow → Prop} {R : Exn → Prop} (h : W (m1 δ) (fun fl => fl = .next δ') F) (k : W (m2 δ') Q R) : W (sSeq m1 m2 δ) Q R := by
  rw [x_seq]
  refine W_use h fun fl e => ?_
  rw [e, x_then1]
  exact k
theorem W_stepE {m1 m2 : Env → M Flow} {δ : Env} (P : Env → Prop) {Q : Flow → Prop} {R : Exn → Prop} (h : W (m1 δ) (fun fl => ∃ δ', fl = .next δ' ∧ P δ') F) (k : ∀ δ', P δ' → W (m2 δ') Q R) : W (sSeq m1 m2 δ) Q R := by
  rw [x_seq]
  refine W_use h fun fl ⟨δ', e, p⟩ => ?_
  rw [e, x_then1]
  exact k δ' p
/-! sequences -/
theorem bk_mv {a : Nat → Nat} {w l : Nat} (h : l ≤ w) : bk (mv a w) l = mv a (w - l) := by
  funext n
  unfold bk
  by_cases c : n < w - l
  · rw [mv_lo (by omega), mv_lo c]
  · rw [mv_hi (by omega), mv_hi (by omega)]
    congr 1; omega
theorem mv_zero {a : Nat → Nat} : mv a 0 = a := by
  funext n
  rw [mv_hi (by omega)]; rfl
theorem bk_mv2 {a : Nat → Nat} {w m : Nat} : bk (mv a w) (w + m) = bk a m := by
  funext n
  unfold bk
  rw [mv_hi (by omega)]
  congr 1; omega
theorem mv_mv {a : Nat → Nat} {w l : Nat} : mv (mv a l) w = mv a (l + w) := by
  funext n
  by_cases c : n < w
  · rw [mv_lo c, mv_lo (by omega)]
  · rw [mv_hi (by omega)]
    by_cases c2 : n < l + w
    · rw [mv_lo (by omega), mv_lo c2]
    · rw [mv_hi (by omega), mv_hi (by omega)]
      congr 1; omega
theorem bk_bk {a : Nat → Nat} {w m : Nat} : bk (bk a w) m = bk a (w + m) := by
  funext n
  unfold bk
  congr 1; omega
theorem ev_eq {a b : Nat → Nat} {k p : Nat} (h : Ev a k p) (h' : Ev b k p) (e : ∀ n, n < k + p → a n = b n) : a = b := by
  funext n
  by_cases hn : n < k + p
  · exact e n hn
  · have e1 := h.add ((n - k) / p) (k + (n - k) % p) (by omega)
    have e2 := h'.add ((n - k) / p) (k + (n - k) % p) (by omega)
    have em := Nat.mod_add_div (n - k) p
    have hl := Nat.mod_lt (n - k) h.1
    rw [Nat.mul_comm] at em
    rw [show k + (n - k) % p + (n - k) / p * p = n by omega] at e1 e2
    rw [e1, e2]
    exact e _ (by omega)
theorem Fit.mv {a : Nat → Nat} (f : Fit a) {w : Nat} (h : kO a + w ≤ 5000) : Fit (mv a w) := Fit.of (f.sg.mv w) (f.cn.ev.mv w) h f.p5
theorem Fit.bk {a : Nat → Nat} (f : Fit a) (w : Nat) : Fit (bk a w) := Fit.of (f.sg.bk w) (f.cn.ev.bk w) (by have := f.k5; omega) f.p5
theorem kO_bk {a : Nat → Nat} (f : Fit a) (w : Nat) : kO (Q.bk a w) = kO a - w := kO_eq (f.cn.bk w)
theorem pO_bk {a : Nat → Nat} (f : Fit a) (w : Nat) : pO (Q.bk a w) = pO a := pO_eq (f.cn.bk w)
theorem LT_self {h t : List Nat} (c : Cn (seq h t) h.length t.length) : LT (seq h t) = Pr h t := by
  rw [LT_of c, ← self_outH, ← self_outT]
theorem LT_own {h t : List Nat} {a : Nat → Nat} (e : seq h t = a) (c : Cn a h.length t.length) : LT a = Pr h t := by
  subst e
  exact LT_self c
/-! a least table told by a word that is no shorter word again and again -/
theorem per_one {c : Nat} : IsPer (cyc [c]) 1 := ⟨Nat.le_refl _, cyc_per [c], fun d h _ => h⟩
theorem isPer_of {t : List Nat} (ht : t ≠ []) (h : ltSize t = t.length) : IsPer (cyc t) t.length := by
  have := ltSize_per ht
  rw [h] at this
  exact this
theorem LT_lit {h t : List Nat} (ht : t ≠ []) (h1 : ltSize t = t.length) (h2 : h = [] ∨ h.getD (h.length - 1) 0 ≠ t.getD (t.length - 1) 0) : Cn (seq h t) h.length t.length := cn_self ht (isPer_of ht h1) h2
end Q

set_option Elab.async false
set_option linter.all false
set_option maxRecDepth 100000
namespace Q
open PySem PySem.Spec PyProof.Rows L2
namespace Rw
/-! rows by told sums -/
def dotr (fs st : List Nat) : Nat := ((fs.zip st.reverse).map fun p => p.1 * p.2).sum
def nxt (m : Nat) (fs st : List Nat) : Nat := dotr fs st % m
def stp (m : Nat) (fs st : List Nat) : List Nat := st.tail ++ [nxt m fs st]
def stN (m : Nat) (fs bs : List Nat) : Nat → List Nat
  | 0 => bs
  | n + 1 => stp m fs (stN m fs bs n)
def xs (m : Nat) (fs bs : List Nat) (n : Nat) : Nat := (stN m fs bs n).headD 0
structure Ru (m : Nat) (fs bs : List Nat) : Prop where
  m2 : 2 ≤ m
  m9 : m ≤ 9
  r1 : 1 ≤ fs.length
  r4 : fs.length ≤ 4
  bl : bs.length = fs.length
  fm : ∀ f ∈ fs, f < m
  bm : ∀ b ∈ bs, b < m
  big : m ^ fs.length ≤ 5000
section
variable {m : Nat} {fs bs : List Nat}
theorem st_len (R : Ru m fs bs) : ∀ n, (stN m fs bs n).length = fs.length
  | 0 => R.bl
  | n + 1 => by
    have h := st_len R n
    have h1 := R.r1
    show ((stN m fs bs n).tail ++ [_]).length = _
    rw [List.length_append, List.length_tail, h, List.length_singleton]
    omega
theorem st_lt (R : Ru m fs bs) : ∀ n, ∀ x ∈ stN m fs bs n, x < m
  | 0 => R.bm
  | n + 1 => fun x hx => by
    have hx : x ∈ (stN m fs bs n).tail ++ [nxt m fs (stN m fs bs n)] := hx
    rcases List.mem_append.mp hx with h | h
    · exact st_lt R n x (List.mem_of_mem_tail h)
    · rw [List.mem_singleton] at h
      rw [h]
      exact Nat.mod_lt _ (by have := R.m2; omega)
theorem st_up (R : Ru m fs bs) {n i : Nat} (h : i + 1 < fs.length) : (stN m fs bs (n + 1)).getD i 0 = (stN m fs bs n).getD (i + 1) 0 := by
  have hl := st_len R n
  show ((stN m fs bs n).tail ++ [_]).getD i 0 = _
  rw [getD_left (by rw [List.length_tail, hl]; omega)]
  rw [List.getD_eq_getElem?_getD, List.getD_eq_getElem?_getD, List.getElem?_tail]
theorem st_get (R : Ru m fs bs) : ∀ (i n : Nat), i < fs.length → (stN m fs bs n).getD i 0 = xs m fs bs (n + i)
  | 0, n, _ => by
    unfold xs
    rw [Nat.add_zero]
    cases stN m fs bs n <;> rfl
  | i + 1, n, h => by
    rw [← st_up R h, st_get R i (n + 1) (by omega)]
    congr 1
    omega
theorem st_ext (R : Ru m fs bs) {a b : Nat} (h : ∀ i, i < fs.length → xs m fs bs (a + i) = xs m fs bs (b + i)) : stN m fs bs a = stN m fs bs b :=
  ext_getD (by rw [st_len R, st_len R]) fun i hi => by
    rw [st_len R] at hi
    rw [st_get R i a hi, st_get R i b hi, h i hi]
theorem st_same (R : Ru m fs bs) {a b : Nat} (h : stN m fs bs a = stN m fs bs b) {i : Nat} (hi : i < fs.length) : xs m fs bs (a + i) = xs m fs bs (b + i) := by
  rw [← st_get R i a hi, ← st_get R i b hi, h]
theorem st_shift {a b : Nat} (h : stN m fs bs a = stN m fs bs b) : ∀ k, stN m fs bs (a + k) = stN m fs bs (b + k)
  | 0 => h
  | k + 1 => by
    show stp m fs (stN m fs bs (a + k)) = stp m fs (stN m fs bs (b + k))
    rw [st_shift h k]
theorem xs_lt (R : Ru m fs bs) (n : Nat) : xs m fs bs n < m := by
  have hl := st_len R n
  have h1 := R.r1
  rw [show n = n + 0 from rfl, ← st_get R 0 n (by omega)]
  rw [List.getD_eq_getElem?_getD, List.getElem?_eq_getElem (by omega)]
  exact st_lt R n _ (List.getElem_mem _)
end
/-! as many as there is room for -/
theorem holes : ∀ (N n : Nat) (f : Nat → Nat), (∀ i, i < n → f i < N) → (∀ i j, i < j → j < n → f i ≠ f j) → n ≤ N
  | 0, n, f, h, _ => by
    rcases Nat.eq_zero_or_pos n with e | e
    · omega
    · exact absurd (h 0 e) (by omega)
  | N + 1, n, f, h, d => by
    by_cases c : ∃ i, i < n ∧ f i = N
    · obtain ⟨i0, h0, e0⟩ := c
      have := holes N (n - 1) (fun i => f (if i < i0 then i else i + 1)) (fun i hi => by
        have h1 : (if i < i0 then i else i + 1) < n := by split <;> omega
        have h2 := h _ h1
        have h3 : f (if i < i0 then i else i + 1) ≠ N := fun z => by
          have hne : (if i < i0 then i else i + 1) ≠ i0 := by split <;> omega
          rcases Nat.lt_or_gt_of_ne hne with q | q
          · exact d _ _ q h0 (z.trans e0.symm)
          · exact d _ _ q h1 (e0.trans z.symm)
        omega) (fun i j hij hj => by
        refine d _ _ ?_ ?_
        · split <;> split <;> omega
        · split <;> omega)
      omega
    · have := holes N n f (fun i hi => by
        have h1 := h i hi
        have h2 : f i ≠ N := fun z => c ⟨i, hi, z⟩
        omega) d
      omega
def enc (m : Nat) : List Nat → Nat
  | [] => 0
  | x :: l => x + m * enc m l
theorem enc_lt {m : Nat} (hm : 1 ≤ m) : ∀ l : List Nat, (∀ x ∈ l, x < m) → enc m l < m ^ l.length
  | [], _ => by show 0 < 1; omega
  | x :: l, h => by
    have h1 := enc_lt hm l fun y hy => h y (List.mem_cons_of_mem _ hy)
    have h2 := h x List.mem_cons_self
    show x + m * enc m l < m ^ (l.length + 1)
    rw [Nat.pow_succ, Nat.mul_comm (m ^ l.length)]
    have h3 : m * (enc m l + 1) ≤ m * m ^ l.length := Nat.mul_le_mul_left _ h1
    rw [Nat.mul_add] at h3
    omega
theorem enc_inj {m : Nat} : ∀ {a b : List Nat}, a.length = b.length → (∀ x ∈ a, x < m) → (∀ x ∈ b, x < m) → enc m a = enc m b → a = b
  | [], [], _, _, _, _ => rfl
  | [], _ :: _, h, _, _, _ => by simp at h
  | _ :: _, [], h, _, _, _ => by simp at h
  | x :: a, y :: b, hl, ha, hb, e => by
    have h1 := ha x List.mem_cons_self
    have h2 := hb y List.mem_cons_self
    have e : x + m * enc m a = y + m * enc m b := e
    have e1 := congrArg (· % m) e
    simp only [Nat.add_mul_mod_self_left, Nat.mod_eq_of_lt h1, Nat.mod_eq_of_lt h2] at e1
    subst e1
    have e2 : enc m a = enc m b := Nat.eq_of_mul_eq_mul_left (by omega : 0 < m) (by omega)
    rw [enc_inj (by simpa using hl) (fun z hz => ha z (List.mem_cons_of_mem _ hz)) (fun z hz => hb z (List.mem_cons_of_mem _ hz)) e2]
/-- where the row comes round -/
structure Rnd (m : Nat) (fs bs : List Nat) (u l : Nat) : Prop where
  pos : 1 ≤ l
  back : stN m fs bs (u + l) = stN m fs bs u
  dist : ∀ i j, i < j → j < u + l → stN m fs bs i ≠ stN m fs bs j
section
variable {m : Nat} {fs bs : List Nat} {u l : Nat}
theorem dist_le (R : Ru m fs bs) {n : Nat} (h : ∀ i j, i < j → j < n → stN m fs bs i ≠ stN m fs bs j) : n ≤ m ^ fs.length :=
  holes _ n (fun i => enc m (stN m fs bs i)) (fun i _ => by
    have := enc_lt (by have := R.m2; omega : 1 ≤ m) _ (st_lt R i)
    rwa [st_len R] at this) fun i j hij hj e => h i j hij hj (enc_inj (by rw [st_len R, st_len R]) (st_lt R i) (st_lt R j) e)
theorem Rnd.le (R : Ru m fs bs) (r : Rnd m fs bs u l) : u + l ≤ m ^ fs.length := dist_le R r.dist
theorem Rnd.uniq {u' l' : Nat} (r : Rnd m fs bs u l) (r' : Rnd m fs bs u' l') : u = u' ∧ l = l' := by
  have h1 := r.pos
  have h2 := r'.pos
  have e : u + l = u' + l' := by
    rcases Nat.lt_trichotomy (u + l) (u' + l') with c | c | c
    · exact absurd r.back.symm (r'.dist u (u + l) (by omega) c)
    · exact c
    · exact absurd r'.back.symm (r.dist u' (u' + l') (by omega) c)
  have b1 := r.back
  rw [e, r'.back] at b1
  rcases Nat.lt_trichotomy u u' with c | c | c
  · exact absurd b1.symm (r.dist u u' c (by omega))
  · exact ⟨c, by omega⟩
  · exact absurd b1 (r'.dist u' u c (by omega))
/-- from u on the row goes by l -/
theorem Rnd.per (R : Ru m fs bs) (r : Rnd m fs bs u l) {n : Nat} (hn : u ≤ n) : xs m fs bs (n + l) = xs m fs bs n := by
  have h := st_shift r.back (n - u)
  rw [show u + l + (n - u) = n + l by omega, show u + (n - u) = n by omega] at h
  unfold xs
  rw [h]
theorem Rnd.perm (R : Ru m fs bs) (r : Rnd m fs bs u l) {n : Nat} (hn : u ≤ n) : ∀ k, xs m fs bs (n + k * l) = xs m fs bs n
  | 0 => by rw [Nat.zero_mul, Nat.add_zero]
  | k + 1 => by
    rw [Nat.succ_mul, ← Nat.add_assoc, r.per R (by omega), Rnd.perm R r hn k]
/-- ahead of u it does not -/
theorem Rnd.ahead (R : Ru m fs bs) (r : Rnd m fs bs u l) (hu : 0 < u) : xs m fs bs (u - 1) ≠ xs m fs bs (u - 1 + l) := fun e => by
  refine r.dist (u - 1) (u - 1 + l) (by have := r.pos; omega) (by omega) (st_ext R fun i hi => ?_)
  cases i with
  | zero => exact e
  | succ i =>
    have := st_same R r.back (i := i) (by omega)
    rw [show u - 1 + (i + 1) = u + i by omega, show u - 1 + l + (i + 1) = u + l + i by omega]
    exact this.symm
/-- no lesser turn -/
theorem Rnd.least (R : Ru m fs bs) (r : Rnd m fs bs u l) {s : Nat} (h1 : 1 ≤ s) (h2 : s < l) (h : ∀ n, u ≤ n → xs m fs bs (n + s) = xs m fs bs n) : False :=
  r.dist u (u + s) (by omega) (by omega) (st_ext R fun i _ => by
    rw [show u + s + i = u + i + s by omega, h (u + i) (by omega)])
end
end Rw
end Q

set_option Elab.async false
set_option linter.all false
set_option maxRecDepth 100000
namespace Q
open PySem PySem.Spec PyProof.Rows L2
theorem W_compN {α : Type} {f : D → M (Option D)} {g : α → D} {k : α → Option D} : ∀ (l : List α), (∀ i ∈ l, W (f (g i)) (fun o => o = k i) F) → W (compL f (l.map g)) (fun r => r = l.filterMap k) F
  | [], _ => ⟨rfl⟩
  | x :: l, h => by
    have h1 := (h x List.mem_cons_self).is
    have h2 := (W_compN l fun y hy => h y (List.mem_cons_of_mem _ hy)).is
    refine ⟨?_⟩
    rw [List.map_cons]
    unfold compL
    refine wp_bindI h1 fun o e => wp_bindI h2 fun r e2 => ?_
    subst e e2
    rw [List.filterMap_cons]
    cases k x <;> exact rfl
/-- a comprehension without a test -/
theorem W_compA {α : Type} {f : D → M (Option D)} {g : α → D} {k : α → D} (l : List α) (h : ∀ i ∈ l, W (f (g i)) (fun o => o = some (k i)) F) : W (compL f (l.map g)) (fun r => r = l.map k) F := by
  refine W_use (W_compN (k := fun i => some (k i)) l h) fun r hr => ?_
  rw [hr, ← List.filterMap_eq_map]
  rfl
namespace Rw
theorem x_cstQ {vs : List Nat} {i j : Nat} {mt : Env → M Bool} {me : Env → M D} {a b : D} {δ : Env} {Q : Option D → Prop} {R : Exn → Prop} : W (compStep vs (gTupE 2 (gsCons (gSet i) (gsCons (gSet j) gsNil))) mt me δ (.tuple [a, b])) Q R = W (mt (((wipeE δ vs).set i (.dat a)).set j (.dat b))) (fun k => if k = true then W (me (((wipeE δ vs).set i (.dat a)).set j (.dat b))) (fun y => Q (some y)) R else Q none) R := by
  show W (M.bind (mt (((wipeE δ vs).set i (.dat a)).set j (.dat b))) fun k => if k = true then (me (((wipeE δ vs).set i (.dat a)).set j (.dat b))).bind fun y => .ret (some y) else .ret none) Q R = _
  rw [x_bind]
  congr 1
  funext k
  rw [x_ite, x_bind, x_ret]
  simp only [x_ret]
theorem x_iZ {ms : Env → M (List D)} {δ : Env} {Q : List D → Prop} {R : Exn → Prop} : W (iZx ms δ) Q R = W (ms δ) (fun ds => W (zpX ds) Q R) R := by
  simp only [W_eq]; exact propext wp_bind
theorem x_zTT {xs ys : List D} {Q : List D → Prop} {R : Exn → Prop} : W (zpX [.tuple xs, .tuple ys]) Q R = Q (zipL xs ys) := by
  show W (.ret _) Q R = _
  rw [x_ret]
theorem x_zTL {xs ys : List D} {Q : List D → Prop} {R : Exn → Prop} : W (zpX [.tuple xs, .list ys]) Q R = Q (zipL xs ys) := by
  show W (.ret _) Q R = _
  rw [x_ret]
theorem x_rv {me : Env → M D} {δ : Env} {Q : D → Prop} {R : Exn → Prop} : W (eRevX me δ) Q R = W (me δ) (fun d => W (dRevX d) Q R) R := by
  simp only [W_eq]; exact propext wp_bind
theorem x_rvT {ds : List D} {Q : D → Prop} {R : Exn → Prop} : W (dRevX (.tuple ds)) Q R = Q (.tuple ds.reverse) := by
  simp only [W_eq]; rfl
theorem x_rvL {ds : List D} {Q : D → Prop} {R : Exn → Prop} : W (dRevX (.list ds)) Q R = Q (.list ds.reverse) := by
  simp only [W_eq]; rfl
abbrev nD (n : Nat) : D := .int (n : Nat)
theorem intsOf_nD : ∀ l : List Nat, intsOf (l.map nD) = some (l.map fun (k : Nat) => (k : Int))
  | [] => rfl
  | k :: l => by
    rw [List.map_cons]
    unfold intsOf
    rw [intsOf_nD l]; rfl
theorem sum_cast : ∀ l : List Nat, (l.map fun (k : Nat) => (k : Int)).sum = (l.sum : Nat)
  | [] => rfl
  | k :: l => by rw [List.map_cons, List.sum_cons, List.sum_cons, sum_cast l]; push_cast; rfl
theorem dSum_nD (l : List Nat) : dSum [.list (l.map nD)] = .ret (nD l.sum) := by
  show (match intsOf (l.map nD) with | some ns => M.ret (PyData.int ns.sum) | _ => M.fail) = _
  rw [intsOf_nD]
  show M.ret (PyData.int (l.map fun (k : Nat) => (k : Int)).sum) = _
  rw [sum_cast]
theorem zip_nD (a b : List Nat) : zipL (a.map nD) (b.map nD) = (a.zip b).map fun p => PyData.tuple [nD p.1, nD p.2] := by
  unfold zipL
  rw [List.zipWith_map, List.zip, List.map_zipWith]
/-- a rule -/
def ruD (m : Nat) (fs bs : List Nat) : D := .tuple [nD m, .tuple (fs.map nD), .tuple (bs.map nD)]
theorem dotr_sum (fs st : List Nat) : ((fs.zip st.reverse).map fun p => p.1 * p.2).sum = dotr fs st := rfl
end Rw
namespace C
open Rw
def m_next_in : Q.Env → M Flow := sRet (eBin dMod (eB dSum (lCons (eFz (fComp [3, 4] (iZx (lCons (eVar 1) (lCons (eRevX (eVar 2)) (lNil)))) (gTupE 2 (gsCons (gSet 3) (gsCons (gSet 4) (gsNil)))) (tTrue) (eBin dMul (eVar 3) (eVar 4)))) (lNil))) (eVar 0))
def f_next_in : List Slot → M D := fnM 5 m_next_in
abbrev f_walked_round := walkM f_next_in
def m_round_of : Q.Env → M Flow := sSeq (sAsg (gTupE 2 (gsCons (gSet 1) (gsCons (gSet 2) (gsNil)))) (eCall f_walked_round (aCons (eVar 0) (aNil))))
    (sRet (eTup (lCons (eVar 2) (lCons (eBin dSub (eB dLen (lCons (eVar 1) (lNil))) (eVar 2)) (lNil)))))
def f_round_of : List Slot → M D := fnM 3 m_round_of
def m_reads : Q.Env → M Flow := sSeq (sAsg (gTupE 2 (gsCons (gSet 2) (gsCons (gSet 3) (gsNil)))) (eCall f_walked_round (aCons (eVar 0) (aNil))))
    (sSeq (sSet 4 (eM mJoin (eC (.str "")) (lCons (eFz (fComp [5] (iA (eVar 2)) (gSet 5) (tTrue) (eIf (tBin dEq (eVar 5) (eVar 1)) (eC (.str "1")) (eC (.str "0"))))) (lNil))))
    (sRet (eCall f_least (aCons (eTup (lCons (eSl (eVar 4) (oNone) (oSome (eVar 3))) (lCons (eSl (eVar 4) (oSome (eVar 3)) (oNone)) (lNil)))) (aNil)))))
def f_reads : List Slot → M D := fnM 6 m_reads
theorem w_next {m : Nat} {fs st : List Nat} (hm : 1 ≤ m) (hf : ∀ f ∈ fs, f < 10) (hl : fs.length ≤ 100) : W (f_next_in [.dat (nD m), .dat (.tuple (fs.map nD)), .dat (.tuple (st.map nD))]) (fun d => d = nD (nxt m fs st)) F := by
  refine W_fn (δ := [.dat (nD m), .dat (.tuple (fs.map nD)), .dat (.tuple (st.map nD)), .emp, .emp]) rfl ?_
  unfold m_next_in
  simp only [↓wr, ↓x_iZ, ↓x_zTT, ↓x_rv, ↓x_rvT, ← List.map_reverse, zip_nD]
  refine ⟨by rw [List.length_map, List.length_zip]; omega, W_calmI (W_use (W_compA (k := fun p : Nat × Nat => nD (p.1 * p.2)) (fs.zip st.reverse) fun p hp => ?_) fun r hr => ?_)⟩
  · rw [x_cstQ, x_ttrue, if_pos rfl]
    show W (eBin dMul (eVar 3) (eVar 4) [.dat (nD m), .dat (.tuple (fs.map nD)), .dat (.tuple (st.map nD)), .dat (nD p.1), .dat (nD p.2)]) _ _
    have := hf _ (List.of_mem_zip hp).1
    simp only [↓wr]
    exact ⟨.inl (.inl ⟨by omega, by omega⟩), by show _ = some (PyData.int ((p.1 * p.2 : Nat) : Int)); rw [Int.natCast_mul]⟩
  · subst hr
    have e : (fs.zip st.reverse).map (fun p : Nat × Nat => nD (p.1 * p.2)) = ((fs.zip st.reverse).map fun p => p.1 * p.2).map nD := by rw [List.map_map]; rfl
    rw [e, dSum_nD, dotr_sum]
    simp only [↓wr]
    exact ⟨by omega, congrArg PyData.int (Int.natCast_emod _ _).symm⟩
end C
namespace Rw
theorem rnd_ex {m : Nat} {fs bs : List Nat} (R : Ru m fs bs) : ∃ u l, Rnd m fs bs u l := by
  have h : ∃ j, ∃ i, i < j ∧ stN m fs bs i = stN m fs bs j := Classical.byContradiction fun z => by
    have := dist_le R (n := m ^ fs.length + 1) fun i j hij _ e => z ⟨j, i, hij, e⟩
    omega
  obtain ⟨j0, h0⟩ := h
  obtain ⟨j, ⟨i, hij, e⟩, _, hm⟩ := least_of (P := fun j => ∃ i, i < j ∧ stN m fs bs i = stN m fs bs j) j0 h0
  refine ⟨i, j - i, by omega, by rw [show i + (j - i) = j by omega]; exact e.symm, fun a b hab hb ee => ?_⟩
  have := hm b ⟨a, hab, ee⟩
  omega
def zl (l : List Nat) : List Int := l.map fun (k : Nat) => (k : Int)
theorem zl_inj {a b : List Nat} (h : zl a = zl b) : a = b := (List.map_inj_right (fun _ _ z => Int.ofNat.inj z)).mp h
theorem zl_D (l : List Nat) : (zl l).map PyData.int = l.map nD := by unfold zl; rw [List.map_map]; rfl
theorem idxI_map {g : Nat → List Int} {n i : Nat} (hi : i < n) (hd : ∀ a b, a < b → b < n → g a ≠ g b) : idxI (g i) ((List.range n).map g) = i := by
  have key : ∀ (k s : Nat), s + k = n → s ≤ i → idxI (g i) ((List.range' s k).map g) = i - s := by
    intro k
    induction k with
    | zero => intro s h1 h2; omega
    | succ k ih =>
      intro s h1 h2
      rw [List.range'_succ, List.map_cons]
      show (if g s = g i then 0 else idxI (g i) ((List.range' (s + 1) k).map g) + 1) = _
      by_cases c : s = i
      · rw [if_pos (by rw [c])]; omega
      · rw [if_neg (hd s i (by omega) hi), ih (s + 1) (by omega) (by omega)]; omega
  rw [List.range_eq_range', key n 0 (by omega) (Nat.zero_le _)]
  omega
/-- what a row's walk tells -/
def rowD (m : Nat) (fs bs : List Nat) (u l : Nat) : D := .tuple [.list ((List.range (u + l)).map fun i => nD (xs m fs bs i)), nD u]
theorem fs10 {m : Nat} {fs bs : List Nat} (R : Ru m fs bs) : ∀ f ∈ fs, f < 10 := fun f hf => by
  have := R.fm f hf
  have := R.m9
  omega
theorem walk_at {m : Nat} {fs bs : List Nat} (R : Ru m fs bs) {u l : Nat} (r : Rnd m fs bs u l) : ∀ (n j : Nat), 5001 ≤ j + n → (∀ a b, a < b → b < j → stN m fs bs a ≠ stN m fs bs b) →
    W (walkF C.f_next_in (nD m) (.tuple (fs.map nD)) n (zl (stN m fs bs j)) ((List.range j).map fun i => zl (stN m fs bs i))) (fun d => d = rowD m fs bs u l) F
  | 0, j, hj, hd => by
    have h1 := dist_le R hd
    have h2 := R.big
    omega
  | n + 1, j, hj, hd => by
    unfold walkF
    by_cases c : ∃ i, i < j ∧ stN m fs bs i = stN m fs bs j
    · obtain ⟨i, hi, e⟩ := c
      have hmem : zl (stN m fs bs j) ∈ (List.range j).map fun i => zl (stN m fs bs i) := List.mem_map.mpr ⟨i, List.mem_range.mpr hi, by rw [e]⟩
      rw [if_pos hmem, x_ret]
      have r2 : Rnd m fs bs i (j - i) := ⟨by omega, by rw [show i + (j - i) = j by omega]; exact e.symm, fun a b h1 h2 => hd a b h1 (by omega)⟩
      obtain ⟨e1, e2⟩ := r.uniq r2
      subst e1 e2
      unfold rowD
      rw [show u + (j - u) = j by omega]
      have ei : idxI (zl (stN m fs bs j)) ((List.range j).map fun i => zl (stN m fs bs i)) = u := by
        rw [← e]
        exact idxI_map (g := fun i => zl (stN m fs bs i)) hi fun a b h1 h2 z => hd a b h1 h2 (zl_inj z)
      rw [ei, List.map_map]
      have em : ((fun k : List Int => PyData.int (k.headD 0)) ∘ fun i => zl (stN m fs bs i)) = fun i => nD (xs m fs bs i) := by
        funext i
        show PyData.int ((zl (stN m fs bs i)).headD 0) = PyData.int (((stN m fs bs i).headD 0 : Nat) : Int)
        cases stN m fs bs i <;> rfl
      rw [em]
    · have hmem : ¬ zl (stN m fs bs j) ∈ (List.range j).map fun i => zl (stN m fs bs i) := fun z => by
        obtain ⟨i, hi, e⟩ := List.mem_map.mp z
        exact c ⟨i, List.mem_range.mp hi, zl_inj e⟩
      have hlen := st_len R j
      have h1 := R.r1
      have hne : ¬ zl (stN m fs bs j) = [] := fun z => by
        have := congrArg List.length z
        unfold zl at this
        rw [List.length_map, hlen, List.length_nil] at this
        omega
      rw [if_neg hmem, if_neg hne, x_bind, zl_D]
      refine W_use (C.w_next (by have := R.m2; omega) (fs10 R) (by have := R.r4; omega)) fun d hd' => ?_
      subst hd'
      show W (walkF C.f_next_in (nD m) (.tuple (fs.map nD)) n ((zl (stN m fs bs j)).tail ++ [((nxt m fs (stN m fs bs j) : Nat) : Int)]) (((List.range j).map fun i => zl (stN m fs bs i)) ++ [zl (stN m fs bs j)])) _ _
      have e1 : (zl (stN m fs bs j)).tail ++ [((nxt m fs (stN m fs bs j) : Nat) : Int)] = zl (stN m fs bs (j + 1)) := by
        show _ = zl ((stN m fs bs j).tail ++ [nxt m fs (stN m fs bs j)])
        unfold zl
        rw [List.map_append, List.map_tail]; rfl
      have e2 : ((List.range j).map fun i => zl (stN m fs bs i)) ++ [zl (stN m fs bs j)] = (List.range (j + 1)).map fun i => zl (stN m fs bs i) := by
        rw [List.range_succ, List.map_append]; rfl
      rw [e1, e2]
      refine walk_at R r n (j + 1) (by omega) fun a b h1 h2 => ?_
      by_cases hb : b = j
      · subst hb
        exact fun e => c ⟨a, h1, e⟩
      · exact hd a b h1 (by omega)
/-- the signs of a number's places -/
def mk (m : Nat) (fs bs : List Nat) (v : Int) (n : Nat) : Nat := if (xs m fs bs n : Int) = v then 49 else 48
theorem mk_ev {m : Nat} {fs bs : List Nat} (R : Ru m fs bs) {u l : Nat} (r : Rnd m fs bs u l) (v : Int) : Ev (mk m fs bs v) u l := ⟨r.pos, fun n hn => by
  unfold mk
  rw [r.per R hn]⟩
end Rw
namespace C
open Rw
variable {m : Nat} {fs bs : List Nat} {u l : Nat}
theorem w_walked (R : Ru m fs bs) (r : Rnd m fs bs u l) : W (f_walked_round [.dat (ruD m fs bs)]) (fun d => d = rowD m fs bs u l) F := by
  have h := walk_at R r 1000000 0 (by omega) (fun a b h1 h2 => by omega)
  unfold f_walked_round walkM ruD
  dsimp only
  rw [intsOf_nD]
  dsimp only
  rw [if_pos (by rw [List.length_map, R.bl]; have := R.r4; omega)]
  exact h
theorem w_round_of (R : Ru m fs bs) (r : Rnd m fs bs u l) : W (f_round_of [.dat (ruD m fs bs)]) (fun d => d = .tuple [nD u, nD l]) F := by
  refine W_fn (δ := [.dat (ruD m fs bs), .emp, .emp]) rfl ?_
  unfold m_round_of
  simp only [↓wr]
  refine W_use (w_walked R r) fun d hd => ?_
  subst hd
  unfold rowD
  simp only [↓wr]
  refine ⟨rfl, ?_⟩
  rw [List.length_map, List.length_range]
  congr 4
  push_cast
  omega
theorem w_reads (R : Ru m fs bs) (r : Rnd m fs bs u l) {v : Int} {k p : Nat} (c : Cn (mk m fs bs v) k p) : W (f_reads [.dat (ruD m fs bs), .dat (.int v)]) (fun d => d = Pr (outH (mk m fs bs v) k) (outT (mk m fs bs v) k p)) F := by
  have hle := r.le R
  have hbig := R.big
  have hpos := r.pos
  refine W_fn (δ := [.dat (ruD m fs bs), .dat (.int v), .emp, .emp, .emp, .emp]) rfl ?_
  unfold m_reads
  simp only [↓wr]
  refine W_use (w_walked R r) fun d hd => ?_
  subst hd
  unfold rowD
  simp only [↓wr]
  refine ⟨rfl, by rw [List.length_map, List.length_range]; omega, W_calmI (W_use (W_compA (k := fun i => PyData.str (S [mk m fs bs v i])) (List.range (u + l)) fun i hi => ?_) fun q hq => ?_)⟩
  · simp only [↓wr, lit_0, lit_1]
    rw [if_pos (by first | rfl | trivial)]
    unfold mk
    by_cases c : (xs m fs bs i : Int) = v
    · rw [if_pos (by simpa using c), if_pos c]
    · rw [if_neg (by simpa using c), if_neg c]
  · have e : q = ((List.range (u + l)).map (mk m fs bs v)).map fun c => PyData.str (S [c]) := by rw [hq, List.map_map]; rfl
    rw [e]
    clear e hq
    rw [lit_]
    try simp only [↓wr]
    rw [mJoin_signs (by rw [List.length_map, List.length_range]; omega)]
    simp only [↓wr, cut_take _ (Int.natCast_nonneg _), cut_drop _ (Int.natCast_nonneg _), Int.toNat_natCast]
    have e1 : ((List.range (u + l)).map (mk m fs bs v)).take u = outH (mk m fs bs v) u := by
      unfold outH
      rw [← List.map_take, List.take_range, Nat.min_eq_left (by omega)]
    have e2 : ((List.range (u + l)).map (mk m fs bs v)).drop u = outT (mk m fs bs v) u l := ext_out (by rw [List.length_drop, List.length_map, List.length_range]; omega) fun i hi => by
      rw [getD_drop, List.getD_eq_getElem?_getD, List.getElem?_map, List.getElem?_range (by omega)]; rfl
    rw [e1, e2]
    have es : seq (outH (mk m fs bs v) u) (outT (mk m fs bs v) u l) = mk m fs bs v := seq_out hpos (mk_ev R r v).2
    refine ⟨by rw [List.length_map, List.length_range]; omega, by rw [List.length_map, List.length_range]; omega, ?_⟩
    have hne : outT (mk m fs bs v) u l ≠ [] := fun z => by
      have := congrArg List.length z
      unfold outT at this
      rw [List.length_map, List.length_range, List.length_nil] at this
      omega
    refine W_use (w_least hne (by unfold outT; rw [List.length_map, List.length_range]; omega) (by unfold outH; rw [List.length_map, List.length_range]; omega) (k := k) (p := p) (by rw [es]; exact c)) fun d hd => ?_
    rw [hd, es]
end C
end Q

set_option Elab.async false
set_option linter.all false
set_option maxRecDepth 100000
namespace Q
open PySem PySem.Spec PyProof.Rows L2
namespace Rw
theorem W_compD {P : D → Prop} {f : D → M (Option D)} : ∀ (xs : List D), (∀ x ∈ xs, W (f x) (fun o => ∃ d, o = some d ∧ P d) F) → W (compL f xs) (fun r => r.length = xs.length ∧ ∀ d ∈ r, P d) F
  | [], _ => ⟨⟨rfl, fun _ z => nomatch z⟩⟩
  | x :: l, h => by
    have h1 := (h x List.mem_cons_self).is
    have h2 := (W_compD l fun y hy => h y (List.mem_cons_of_mem _ hy)).is
    refine ⟨?_⟩
    unfold compL
    refine wp_bindI h1 fun o e => wp_bindI h2 fun r e2 => ?_
    obtain ⟨d, rfl, hd⟩ := e
    obtain ⟨e1, e2⟩ := e2
    show (d :: r).length = (x :: l).length ∧ ∀ y ∈ d :: r, P y
    refine ⟨by rw [List.length_cons, List.length_cons, e1], fun y hy => ?_⟩
    rcases List.mem_cons.mp hy with rfl | hy
    · exact hd
    · exact e2 y hy
theorem liftN {P : Nat → Prop} : ∀ {r : List D}, (∀ d ∈ r, ∃ n, d = nD n ∧ P n) → ∃ l : List Nat, r = l.map nD ∧ ∀ x ∈ l, P x
  | [], _ => ⟨[], rfl, fun _ z => nomatch z⟩
  | d :: r, h => by
    obtain ⟨n, rfl, hn⟩ := h d List.mem_cons_self
    obtain ⟨l, rfl, hl⟩ := liftN fun y hy => h y (List.mem_cons_of_mem _ hy)
    refine ⟨n :: l, rfl, fun x hx => ?_⟩
    rcases List.mem_cons.mp hx with rfl | hx
    · exact hn
    · exact hl x hx
/-- a list of draws -/
theorem W_cR {P : Nat → Prop} {f : D → M (Option D)} {xs : List D} (h : ∀ x ∈ xs, W (f x) (fun o => ∃ n, o = some (nD n) ∧ P n) F) : W (compL f xs) (fun r => ∃ l : List Nat, r = l.map nD ∧ l.length = xs.length ∧ ∀ x ∈ l, P x) F := by
  refine W_use (W_compD (P := fun d => ∃ n, d = nD n ∧ P n) xs fun x hx => W_use (h x hx) fun o ho => ?_) fun r hr => ?_
  · obtain ⟨n, e, hn⟩ := ho
    exact ⟨_, e, n, rfl, hn⟩
  · obtain ⟨l, e, hl⟩ := liftN hr.2
    refine ⟨l, e, ?_, hl⟩
    rw [← hr.1, e, List.length_map]
theorem rng_len (lo : Int) (n : Nat) : (rng lo n).length = n := by unfold rng; rw [List.length_map, List.length_range]
theorem x_pF {i j : Nat} {mf : Env → M (List D)} {me : Env → M D} {δ : Env} {Q : Flow → Prop} {R : Exn → Prop} : W (sParF i j mf me δ) Q R = W (mf δ) (fun ds => W (me δ) (fun d => Q (.next ((δ.set i (.own ds)).set j (.dat d)))) R) R := by
  unfold sParF
  rw [x_bind]
  congr 1
  funext ds
  rw [x_bind]
  simp only [x_ret]
theorem x_fM {ma mb : Env → M D} {δ : Env} {Q : List D → Prop} {R : Exn → Prop} : W (fMul ma mb δ) Q R = W (ma δ) (fun a => W (mb δ) (fun b => W (mulL a b) Q R) R) R := by
  unfold fMul
  rw [x_bind]
  congr 1
  funext a
  rw [x_bind]
theorem flat_one {d : D} (n : Nat) : (List.replicate n [d]).flatten = List.replicate n d := by
  induction n with
  | zero => rfl
  | succ n ih => rw [List.replicate_succ, List.flatten_cons, ih, List.replicate_succ]; rfl
theorem x_mL1 {d : D} {n : Nat} {Q : List D → Prop} {R : Exn → Prop} (h : n ≤ 100000) : W (mulL (.list [d]) (.int (n : Nat))) Q R = Q (List.replicate n d) := by
  unfold mulL
  dsimp only
  rw [if_pos ⟨by omega, by omega, by rw [sizeLine_val, List.length_singleton, Int.toNat_natCast]; omega⟩, x_ret, Int.toNat_natCast, flat_one]
theorem x_dM1 {d : D} {n : Int} {Q : D → Prop} {R : Exn → Prop} (h0 : 0 ≤ n) (h : n ≤ 100000) : W (dMul (.list [d]) (.int n)) Q R = Q (.list (List.replicate n.toNat d)) := by
  unfold dMul
  dsimp only
  rw [if_pos ⟨by omega, by omega, by rw [sizeLine_val, List.length_singleton]; omega⟩, x_ret, flat_one]
theorem x_pt {mk me : Env → M D} {δ : Env} {i j : Nat} {ds : List D} {k : Int} {Q : Flow → Prop} {R : Exn → Prop} (hi : δ[i]? = some (.own ds)) (hj : ixN ds.length k = some j)
    (h : W (me δ) (fun d => W (mk δ) (fun kd => kd = .int k ∧ Q (.next (δ.set i (.own (ds.set j d))))) R) R) : W (sPut i mk me δ) Q R := by
  unfold sPut
  rw [hi]
  dsimp only
  rw [x_bind]
  refine W_mono h (fun d hd => ?_) fun _ z => z
  rw [x_bind]
  refine W_mono hd (fun kd q => ?_) fun _ z => z
  obtain ⟨e, q⟩ := q
  subst e
  dsimp only
  rw [hj]
  dsimp only
  rw [x_ret]
  exact q
/-- the place is drawn -/
theorem x_pt' {mk me : Env → M D} {δ : Env} {i : Nat} {ds : List D} {Q : Flow → Prop} {R : Exn → Prop} (hi : δ[i]? = some (.own ds))
    (h : W (me δ) (fun d => W (mk δ) (fun kd => ∃ k j, kd = .int k ∧ ixN ds.length k = some j ∧ Q (.next (δ.set i (.own (ds.set j d))))) R) R) : W (sPut i mk me δ) Q R := by
  unfold sPut
  rw [hi]
  dsimp only
  rw [x_bind]
  refine W_mono h (fun d hd => ?_) fun _ z => z
  rw [x_bind]
  refine W_mono hd (fun kd q => ?_) fun _ z => z
  obtain ⟨k, j, e, hj, q⟩ := q
  subst e
  dsimp only
  rw [hj]
  dsimp only
  rw [x_ret]
  exact q
theorem ixN_neg1 {n : Nat} (h : 1 ≤ n) : ixN n (-1) = some (n - 1) := by
  unfold ixN
  rw [if_neg (by omega), if_pos (by omega)]
  congr 1
  omega
theorem ixN_at {n : Nat} {k : Int} (h0 : 0 ≤ k) (h : k < n) : ixN n k = some k.toNat := by
  unfold ixN
  rw [if_pos h0, if_pos (by omega)]
theorem x_tupL {ds : List D} {Q : D → Prop} {R : Exn → Prop} : W (dTuple [.list ds]) Q R = Q (.tuple ds) := by
  show W (.ret _) Q R = _
  rw [x_ret]
theorem nD_of {r : Int} (h : 0 ≤ r) : (PyData.int r : D) = nD r.toNat := by
  show _ = PyData.int ((r.toNat : Nat) : Int)
  rw [Int.toNat_of_nonneg h]
theorem x_slL {ds : List D} {lo hi : Option Int} {Q : D → Prop} {R : Exn → Prop} : W (dSl (.list ds) lo hi) Q R = Q (.list (cutL ds lo hi)) := by
  show W (.ret _) Q R = _
  rw [x_ret]
theorem x_fLs {ms : Env → M (List D)} {δ : Env} {Q : List D → Prop} {R : Exn → Prop} : W (fList ms δ) Q R = W (ms δ) (fun ds => W (listOf ds) Q R) R := by
  simp only [W_eq]; exact propext wp_bind
theorem x_lOT {ds : List D} {Q : List D → Prop} {R : Exn → Prop} : W (listOf [.tuple ds]) Q R = Q ds := by
  show W (.ret _) Q R = _
  rw [x_ret]
theorem cut_neg {α : Type} (l : List α) {k : Nat} (h : 1 ≤ k) (h' : k ≤ l.length) : cutL l (some (-(k : Int))) none = l.drop (l.length - k) := by
  unfold cutL
  have e : HT.sIx l.length 0 (some (-(k : Int))) = l.length - k := by
    show (if (-(k : Int)) < 0 then ((-(k : Int)) + (l.length : Int)).toNat else min (-(k : Int)).toNat l.length) = _
    rw [if_pos (by omega)]; omega
  rw [HT.sIx_none, e, List.take_of_length_le (by rw [List.length_drop]; omega)]
theorem x_ch {f f' : D → D → M D} {ma mb mc : Env → M D} {δ : Env} {Q : D → Prop} {R : Exn → Prop} : W (eChain f f' ma mb mc δ) Q R = W (ma δ) (fun x => W (mb δ) (fun y => W (f x y) (fun d => W (asB d) (fun k => if k = true then W (mc δ) (fun z => W (f' y z) Q R) R else Q (.bool false)) R) R) R) R := by
  unfold eChain
  simp only [x_bind, x_ite, x_ret]
def root (m : Nat) : Nat := if m = 4 ∨ m = 8 then 2 else if m = 9 then 3 else m
theorem root_le {m : Nat} (h2 : 2 ≤ m) (h9 : m ≤ 9) : 1 ≤ root m ∧ root m * (m / root m) ≤ m ∧ 1 ≤ m / root m := by
  have : m = 2 ∨ m = 3 ∨ m = 4 ∨ m = 5 ∨ m = 6 ∨ m = 7 ∨ m = 8 ∨ m = 9 := by omega
  rcases this with rfl | rfl | rfl | rfl | rfl | rfl | rfl | rfl <;> decide
def eRoot : Env → M D := eGet2 (eDct (dCons (eC (.int 4)) (eC (.int 2)) (dCons (eC (.int 8)) (eC (.int 2)) (dCons (eC (.int 9)) (eC (.int 3)) (dNil))))) (eVar 2) (eVar 2)
theorem x_root {m : Nat} (h2 : 2 ≤ m) (h9 : m ≤ 9) {x0 x1 : Slot} {δ : Env} {Q : D → Prop} {R : Exn → Prop} (q : Q (nD (root m))) : W (eRoot (x0 :: x1 :: .dat (nD m) :: δ)) Q R := by
  have : m = 2 ∨ m = 3 ∨ m = 4 ∨ m = 5 ∨ m = 6 ∨ m = 7 ∨ m = 8 ∨ m = 9 := by omega
  refine ⟨?_⟩
  rcases this with rfl | rfl | rfl | rfl | rfl | rfl | rfl | rfl <;> exact q
end Rw
/-! ### what the laws on rows share -/
namespace CR
open Rw
abbrev f__law_draw := drawM
def m__law_pick : Q.Env → M Flow := sRet (eBin dIx (eVar 1) (eCall f__law_draw (aWell 0 (aCons (eB dLen (lCons (eVar 1) (lNil))) (aNil)))))
def f__law_pick : List Slot → M D := fnM 2 m__law_pick
def m__law_whole : Q.Env → M Flow := sRet (eAnd (eIsi "int" (eVar 0)) (eAnd (eNot (eIsi "bool" (eVar 0))) (eChain dLe dLe (eVar 1) (eVar 0) (eVar 2))))
def f__law_whole : List Slot → M D := fnM 3 m__law_whole
def b0__law_rule : Q.Env → M Bool := tAndM (tBin dLt (eVar 3) (eC (.int 4))) (tAndM (tBin dLe (eBin dMul (eVar 4) (eVar 2)) (eVar 1)) (tBin dGt (eCall f__law_draw (aWell 0 (aCons (eC (.int 4)) (aNil)))) (eC (.int 0))))
def b1__law_rule : Q.Env → M Flow := sPar 3 4 (lCons (eBin dAdd (eVar 3) (eC (.int 1))) (lCons (eBin dMul (eVar 4) (eVar 2)) (lNil)))
def m__law_rule : Q.Env → M Flow := sSeq (sSet 2 (eBin dAdd (eC (.int 2)) (eCall f__law_draw (aWell 0 (aCons (eC (.int 8)) (aNil))))))
    (sSeq (sPar 3 4 (lCons (eC (.int 1)) (lCons (eVar 2) (lNil))))
    (sSeq (sWhile 1000000000000 (b0__law_rule) (b1__law_rule))
    (sSeq (sAsg (gTupE 2 (gsCons (gSet 5) (gsCons (gSet 6) (gsNil)))) (eTup (lCons (eCall f__law_draw (aWell 0 (aCons (eC (.int 6)) (aNil)))) (lCons (eGet2 (eDct (dCons (eC (.int 4)) (eC (.int 2)) (dCons (eC (.int 8)) (eC (.int 2)) (dCons (eC (.int 9)) (eC (.int 3)) (dNil))))) (eVar 2) (eVar 2)) (lNil)))))
    (sSeq (sParF 7 8 (fComp [9] (iR1 (lCons (eVar 3) (lNil))) (gSet 9) (tTrue) (eCall f__law_draw (aWell 0 (aCons (eVar 2) (aNil))))) (eFz (fComp [9] (iR1 (lCons (eVar 3) (lNil))) (gSet 9) (tTrue) (eCall f__law_draw (aWell 0 (aCons (eVar 2) (aNil)))))))
    (sSeq (sIf (tBin dEq (eVar 5) (eC (.int 2))) (sPut 7 (eNeg (eC (.int 1))) (eCall f__law_pick (aWell 0 (aCons (eFz (fLst (lCons (eC (.int 1)) (lCons (eBin dSub (eVar 2) (eC (.int 1))) (lNil))))) (aNil))))) (sNil))
    (sSeq (sIf (tBin dEq (eVar 5) (eC (.int 3))) (sSetF 7 (fComp [9] (iR1 (lCons (eVar 3) (lNil))) (gSet 9) (tTrue) (eBin dMul (eVar 6) (eCall f__law_draw (aWell 0 (aCons (eBin dFdiv (eVar 2) (eVar 6)) (aNil))))))) (sNil))
    (sSeq (sIf (tBin dEq (eVar 5) (eC (.int 4))) (sSeq (sSetF 7 (fMul (eFz (fLst (lCons (eC (.int 0)) (lNil)))) (eVar 3)))
    (sPut 7 (eCall f__law_draw (aWell 0 (aCons (eVar 3) (aNil)))) (eBin dAdd (eC (.int 1)) (eCall f__law_draw (aWell 0 (aCons (eBin dSub (eVar 2) (eC (.int 1))) (aNil))))))) (sNil))
    (sSeq (sIf (tBin dEq (eVar 5) (eC (.int 5))) (sSet 8 (eBin dAdd (eBin dMul (eFz (fLst (lCons (eC (.int 0)) (lNil)))) (eBin dSub (eVar 3) (eC (.int 1)))) (eFz (fLst (lCons (eC (.int 1)) (lNil)))))) (sNil))
    (sRet (eTup (lCons (eVar 2) (lCons (eB dTuple (lCons (eOwn 7) (lNil))) (lCons (eB dTuple (lCons (eVar 8) (lNil))) (lNil))))))))))))))
def f__law_rule : List Slot → M D := fnM 10 m__law_rule
def b0__law_row : Q.Env → M Bool := tBin dLt (eB dLen (lCons (eOwn 5) (lNil))) (eVar 1)
def b1__law_row : Q.Env → M Flow := sSeq (sSet 6 (eRevX (eSl (eOwn 5) (oSome (eNeg (eB dLen (lCons (eVar 3) (lNil))))) (oNone))))
    (sApp 5 (eBin dMod (eB dInt (lCons (eB dSum (lCons (eFz (fComp [7, 8] (iZx (lCons (eVar 3) (lCons (eVar 6) (lNil)))) (gTupE 2 (gsCons (gSet 7) (gsCons (gSet 8) (gsNil)))) (tTrue) (eBin dMul (eVar 7) (eVar 8)))) (lNil))) (lNil))) (eVar 2)))
def m__law_row : Q.Env → M Flow := sSeq (sAsg (gTupE 3 (gsCons (gSet 2) (gsCons (gSet 3) (gsCons (gSet 4) (gsNil))))) (eVar 0))
    (sSeq (sSetF 5 (fList (lCons (eVar 4) (lNil))))
    (sSeq (sWhile 1000000000000 (b0__law_row) (b1__law_row))
    (sRet (eSl (eOwn 5) (oNone) (oSome (eVar 1))))))
def f__law_row : List Slot → M D := fnM 9 m__law_row
theorem e_pick : f__law_pick = C.f__law_pick := rfl
theorem w_whole {x : Nat} {a b : Int} : W (f__law_whole [.dat (nD x), .dat (.int a), .dat (.int b)]) (fun d => d = .bool (decide (a ≤ (x : Int)) && decide ((x : Int) ≤ b))) F := by
  refine W_fn (δ := [.dat (nD x), .dat (.int a), .dat (.int b)]) rfl ?_
  unfold m__law_whole
  simp only [↓wr, ↓x_ch]
  by_cases h1 : a ≤ (x : Int)
  · by_cases h2 : (x : Int) ≤ b <;> simp [h1, h2]
  · simp [h1]
theorem w_row {m : Nat} {fs bs : List Nat} (R : Ru m fs bs) {N : Nat} (hN : N ≤ 1000000) : W (f__law_row [.dat (ruD m fs bs), .dat (nD N)]) (fun d => d = .list ((List.range N).map fun i => nD (xs m fs bs i))) F := by
  have r1 := R.r1
  have r4 := R.r4
  have m2 := R.m2
  refine W_fn (δ := [.dat (ruD m fs bs), .dat (nD N), .emp, .emp, .emp, .emp, .emp, .emp, .emp]) rfl ?_
  unfold m__law_row
  refine W_step (δ' := [.dat (ruD m fs bs), .dat (nD N), .dat (nD m), .dat (.tuple (fs.map nD)), .dat (.tuple (bs.map nD)), .emp, .emp, .emp, .emp]) ?_ ?_
  · unfold ruD
    simp only [↓wr]
    exact ⟨rfl, trivial⟩
  have e0 : bs.map nD = (List.range fs.length).map fun i => nD (xs m fs bs i) := by
    have : bs = (List.range fs.length).map (xs m fs bs) := ext_out R.bl fun i hi => by
      have := st_get R i 0 hi
      rw [Nat.zero_add] at this
      exact this
    conv => lhs; rw [this]
    rw [List.map_map]; rfl
  refine W_step (δ' := [.dat (ruD m fs bs), .dat (nD N), .dat (nD m), .dat (.tuple (fs.map nD)), .dat (.tuple (bs.map nD)), .own ((List.range fs.length).map fun i => nD (xs m fs bs i)), .emp, .emp, .emp]) ?_ ?_
  · rw [← e0]
    simp only [↓wr, ↓x_fLs, ↓x_lOT]
  refine W_stepE (fun δ => ∃ L s6 s7 s8, N ≤ L ∧ δ = [.dat (ruD m fs bs), .dat (nD N), .dat (nD m), .dat (.tuple (fs.map nD)), .dat (.tuple (bs.map nD)), .own ((List.range L).map fun i => nD (xs m fs bs i)), s6, s7, s8]) ?_ ?_
  · refine W_sWhile (fun μ δ => ∃ L s6 s7 s8, fs.length ≤ L ∧ L + μ = N + fs.length ∧ δ = [.dat (ruD m fs bs), .dat (nD N), .dat (nD m), .dat (.tuple (fs.map nD)), .dat (.tuple (bs.map nD)), .own ((List.range L).map fun i => nD (xs m fs bs i)), s6, s7, s8]) ?_ _ N _ (by omega) ⟨fs.length, _, _, _, Nat.le_refl _, by omega, rfl⟩
    rintro μ δ ⟨L, s6, s7, s8, h1, h2, rfl⟩
    unfold b0__law_row
    simp only [↓wr, List.length_map, List.length_range]
    by_cases c : L < N
    · rw [if_pos (by rw [decide_eq_true_eq]; omega)]
      refine ⟨by omega, ?_⟩
      unfold b1__law_row
      have hst := st_len R (L - fs.length)
      have eb : (((List.range L).map fun i => nD (xs m fs bs i)).drop (L - fs.length)) = (stN m fs bs (L - fs.length)).map nD := by
        have : stN m fs bs (L - fs.length) = (List.range fs.length).map fun i => xs m fs bs (L - fs.length + i) := ext_out hst fun i hi => st_get R i _ hi
        rw [this, List.map_map]
        refine List.ext_getElem? fun i => ?_
        rw [List.getElem?_drop, List.getElem?_map, List.getElem?_map]
        by_cases hi : i < fs.length
        · rw [List.getElem?_range (by omega), List.getElem?_range hi]; rfl
        · rw [List.getElem?_eq_none (by rw [List.length_range]; omega), List.getElem?_eq_none (by rw [List.length_range]; omega)]
          rfl
      have en : nxt m fs (stN m fs bs (L - fs.length)) = xs m fs bs L := by
        have h3 := st_get R (fs.length - 1) (L - fs.length + 1) (by omega)
        rw [show L - fs.length + 1 + (fs.length - 1) = L by omega] at h3
        rw [← h3]
        show _ = ((stN m fs bs (L - fs.length)).tail ++ [nxt m fs (stN m fs bs (L - fs.length))]).getD (fs.length - 1) 0
        rw [getD_right (by rw [List.length_tail]; omega), List.length_tail, hst, Nat.sub_self]
        rfl
      simp only [↓wr, ↓x_rv, ↓x_slL]
      rw [List.length_map, cut_neg _ r1 (by rw [List.length_map, List.length_range]; exact h1), List.length_map, List.length_range, eb]
      simp only [↓x_rvL, ↓wr, ↓x_iZ, ↓x_zTL, ← List.map_reverse, zip_nD]
      refine ⟨by rw [List.length_map, List.length_zip]; omega, W_calmI (W_use (W_compA (k := fun p : Nat × Nat => nD (p.1 * p.2)) (fs.zip (stN m fs bs (L - fs.length)).reverse) fun p hp => ?_) fun r hr => ?_)⟩
      · rw [x_cstQ, x_ttrue, if_pos rfl]
        show W (eBin dMul (eVar 7) (eVar 8) [.dat (ruD m fs bs), .dat (nD N), .dat (nD m), .dat (.tuple (fs.map nD)), .dat (.tuple (bs.map nD)), .own ((List.range L).map fun i => nD (xs m fs bs i)), _, .dat (nD p.1), .dat (nD p.2)]) _ _
        have := fs10 R _ (List.of_mem_zip hp).1
        simp only [↓wr]
        exact ⟨.inl (.inl ⟨by omega, by omega⟩), by show _ = some (PyData.int ((p.1 * p.2 : Nat) : Int)); rw [Int.natCast_mul]⟩
      · subst hr
        have e : (fs.zip (stN m fs bs (L - fs.length)).reverse).map (fun p : Nat × Nat => nD (p.1 * p.2)) = ((fs.zip (stN m fs bs (L - fs.length)).reverse).map fun p => p.1 * p.2).map nD := by rw [List.map_map]; rfl
        rw [e, dSum_nD, dotr_sum]
        simp only [↓wr]
        refine ⟨by omega, by omega, L + 1, .dat (.list ((stN m fs bs (L - fs.length)).reverse.map nD)), s7, s8, by omega, by omega, ?_⟩
        have e2 : (PyData.int (((dotr fs (stN m fs bs (L - fs.length)) : Nat) : Int) % (m : Int))) = nD (xs m fs bs L) := by
          rw [← en]
          exact congrArg PyData.int (Int.natCast_emod _ _).symm
        rw [e2, List.range_succ, List.map_append]
        rfl
    · rw [if_neg (by rw [decide_eq_true_eq]; omega)]
      exact ⟨_, rfl, L, _, _, _, by omega, rfl⟩
  rintro δ ⟨L, s6, s7, s8, hL, rfl⟩
  simp only [↓wr, ↓x_slL, cut_take _ (Int.natCast_nonneg _), Int.toNat_natCast]
  rw [← List.map_take, List.take_range, Nat.min_eq_left hL]
/-- what is known of the two rows of a drawn rule -/
structure Rl (m k : Nat) (l : List Nat) : Prop where
  len : l.length = k
  lt : ∀ x ∈ l, x < m
theorem w_rule {most : Nat} (h9 : 9 ≤ most) (h5 : most ≤ 5000) : W (f__law_rule [.well, .dat (nD most)]) (fun d => ∃ m fs bs, d = ruD m fs bs ∧ Ru m fs bs ∧ m ^ fs.length ≤ most) F := by
  refine W_fn (δ := [.well, .dat (nD most), .emp, .emp, .emp, .emp, .emp, .emp, .emp, .emp]) rfl ?_
  unfold m__law_rule
  refine W_stepE (fun δ => ∃ m : Nat, 2 ≤ m ∧ m ≤ 9 ∧ δ = [.well, .dat (nD most), .dat (nD m), .emp, .emp, .emp, .emp, .emp, .emp, .emp]) ?_ ?_
  · simp only [↓wr]
    exact ⟨⟨by omega, by omega⟩, fun r r0 r1 => ⟨_, rfl, (2 + r).toNat, by omega, by omega, by rw [nD_of (show 0 ≤ 2 + r by omega)]⟩⟩
  rintro δ ⟨m, m2, m9, rfl⟩
  refine W_step (δ' := [.well, .dat (nD most), .dat (nD m), .dat (nD 1), .dat (nD (m ^ 1)), .emp, .emp, .emp, .emp, .emp]) ?_ ?_
  · rw [Nat.pow_one]
    simp only [↓wr]
    rfl
  refine W_stepE (fun δ => ∃ k : Nat, 1 ≤ k ∧ k ≤ 4 ∧ m ^ k ≤ most ∧ δ = [.well, .dat (nD most), .dat (nD m), .dat (nD k), .dat (nD (m ^ k)), .emp, .emp, .emp, .emp, .emp]) ?_ ?_
  · refine W_sWhile (fun μ δ => ∃ k : Nat, 1 ≤ k ∧ k + μ = 4 ∧ m ^ k ≤ most ∧ δ = [.well, .dat (nD most), .dat (nD m), .dat (nD k), .dat (nD (m ^ k)), .emp, .emp, .emp, .emp, .emp]) ?_ _ 3 _ (by omega) ⟨1, by omega, by omega, by rw [Nat.pow_one]; omega, rfl⟩
    rintro μ δ ⟨k, k1, k4, hk, rfl⟩
    unfold b0__law_rule
    simp only [↓wr]
    have stop : ∃ δ', Flow.next [.well, .dat (nD most), .dat (nD m), .dat (nD k), .dat (nD (m ^ k)), .emp, .emp, .emp, .emp, .emp] = Flow.next δ' ∧ ∃ k : Nat, 1 ≤ k ∧ k ≤ 4 ∧ m ^ k ≤ most ∧ δ' = [.well, .dat (nD most), .dat (nD m), .dat (nD k), .dat (nD (m ^ k)), .emp, .emp, .emp, .emp, .emp] :=
      ⟨_, rfl, k, k1, by omega, hk, rfl⟩
    by_cases c : k < 4
    · rw [if_pos (by rw [decide_eq_true_eq]; omega)]
      refine ⟨.inl (.inr ⟨by omega, by omega⟩), ?_⟩
      have em : ((m ^ k : Nat) : Int) * (m : Int) = ((m ^ (k + 1) : Nat) : Int) := by rw [Nat.pow_succ, Int.natCast_mul]
      rw [em]
      by_cases c2 : m ^ (k + 1) ≤ most
      · rw [if_pos (by rw [decide_eq_true_eq]; omega)]
        refine ⟨⟨by omega, by omega⟩, fun r r0 r1 => ?_⟩
        by_cases c3 : 0 < r
        · rw [if_pos (by rw [decide_eq_true_eq]; omega)]
          refine ⟨by omega, ?_⟩
          unfold b1__law_rule
          simp only [↓wr]
          refine ⟨.inl (.inr ⟨by omega, by omega⟩), k + 1, by omega, by omega, c2, ?_⟩
          rw [em]
          rfl
        · rw [if_neg (by rw [decide_eq_true_eq]; omega)]
          exact stop
      · rw [if_neg (by rw [decide_eq_true_eq]; omega), if_neg (by decide)]
        exact stop
    · rw [if_neg (by rw [decide_eq_true_eq]; omega), if_neg (by decide)]
      exact stop
  rintro δ ⟨k, k1, k4, hk, rfl⟩
  refine W_stepE (fun δ => ∃ c : Nat, δ = [.well, .dat (nD most), .dat (nD m), .dat (nD k), .dat (nD (m ^ k)), .dat (nD c), .dat (nD (root m)), .emp, .emp, .emp]) ?_ ?_
  · simp only [↓wr]
    refine ⟨⟨by omega, by omega⟩, fun r r0 r1 => ?_⟩
    refine x_root m2 m9 ?_
    try simp only [↓wr]
    exact ⟨rfl, _, rfl, r.toNat, by rw [nD_of r0]⟩
  rintro δ ⟨c, rfl⟩
  have go : ∀ fs bs s9, Rl m k fs → Rl m k bs → ∃ δ', Flow.next [.well, .dat (nD most), .dat (nD m), .dat (nD k), .dat (nD (m ^ k)), .dat (nD c), .dat (nD (root m)), .own (fs.map nD), .dat (.list (bs.map nD)), s9] = Flow.next δ' ∧
      ∃ fs bs s9, Rl m k fs ∧ Rl m k bs ∧ δ' = [.well, .dat (nD most), .dat (nD m), .dat (nD k), .dat (nD (m ^ k)), .dat (nD c), .dat (nD (root m)), .own (fs.map nD), .dat (.list (bs.map nD)), s9] := fun fs bs s9 h1 h2 => ⟨_, rfl, fs, bs, s9, h1, h2, rfl⟩
  obtain ⟨P, hP⟩ : ∃ P : Q.Env → Prop, P = fun δ' => ∃ fs bs s9, Rl m k fs ∧ Rl m k bs ∧ δ' = [.well, .dat (nD most), .dat (nD m), .dat (nD k), .dat (nD (m ^ k)), .dat (nD c), .dat (nD (root m)), .own (fs.map nD), .dat (.list (bs.map nD)), s9] := ⟨_, rfl⟩
  refine W_stepE P ?_ ?_
  · simp only [↓x_pF, ↓wr]
    refine ⟨⟨by omega, by omega⟩, by rw [rng_len]; omega, W_calmI (W_use (W_cR (P := fun n => n < m) fun x hx => ?_) fun r hr => ?_)⟩
    · simp only [↓wr]
      exact ⟨⟨by omega, by omega⟩, fun r r0 r1 => ⟨r.toNat, by rw [nD_of r0], by omega⟩⟩
    · obtain ⟨fs, rfl, f1, f2⟩ := hr
      refine ⟨⟨by omega, by omega⟩, by rw [rng_len]; omega, W_calmI (W_use (W_cR (P := fun n => n < m) fun x hx => ?_) fun r hr => ?_)⟩
      · simp only [↓wr]
        exact ⟨⟨by omega, by omega⟩, fun r r0 r1 => ⟨r.toNat, by rw [nD_of r0], by omega⟩⟩
      · obtain ⟨bs, rfl, b1, b2⟩ := hr
        rw [rng_len] at f1 b1
        rw [hP]
        exact go fs bs _ ⟨by omega, f2⟩ ⟨by omega, b2⟩
  have rt := root_le m2 m9
  -- the last factor can be undone
  rintro δ hδ
  refine W_stepE P ?_ ?_
  · rw [hP] at hδ ⊢
    obtain ⟨fs, bs, s9, hf, hb, rfl⟩ := hδ
    simp only [↓wr]
    by_cases c0 : (c : Int) = 2
    · rw [if_pos (by rw [decide_eq_true_eq]; exact c0)]
      refine x_pt (k := -1) (j := k - 1) rfl (by rw [List.length_map, hf.len]; exact ixN_neg1 k1) ?_
      simp only [↓wr, e_pick]
      refine W_use (C.w_pick (by simp) (by simp)) fun d hd => ?_
      have hd' : ∃ x : Nat, d = nD x ∧ x < m := by
        simp only [List.mem_cons, List.not_mem_nil, or_false] at hd
        rcases hd with rfl | rfl
        · exact ⟨1, rfl, by omega⟩
        · exact ⟨m - 1, by show PyData.int _ = PyData.int ((m - 1 : Nat) : Int); congr 1; omega, by omega⟩
      obtain ⟨x, rfl, hx⟩ := hd'
      refine ⟨trivial, ?_⟩
      rw [← List.map_set]
      refine go _ bs s9 ⟨by rw [List.length_set]; exact hf.len, fun y hy => ?_⟩ hb
      rcases List.mem_or_eq_of_mem_set hy with h | rfl
      · exact hf.lt y h
      · exact hx
    · rw [if_neg (by rw [decide_eq_true_eq]; exact c0)]
      exact go fs bs s9 hf hb
  -- all factors by the root
  clear hδ
  rintro δ hδ
  refine W_stepE P ?_ ?_
  · rw [hP] at hδ ⊢
    obtain ⟨fs, bs, s9, hf, hb, rfl⟩ := hδ
    simp only [↓wr]
    by_cases c0 : (c : Int) = 3
    · rw [if_pos (by rw [decide_eq_true_eq]; exact c0)]
      have ed : ((m : Int) / (root m : Int)) = ((m / root m : Nat) : Int) := (Int.natCast_ediv _ _).symm
      have rm : root m ≤ m := by
        have h1 := rt.2.1
        have h2 := Nat.le_mul_of_pos_right (root m) rt.2.2
        omega
      have dm : m / root m ≤ m := Nat.div_le_self _ _
      refine ⟨⟨by omega, by omega⟩, by rw [rng_len]; omega, W_calmI (W_use (W_cR (P := fun n => n < m) fun x hx => ?_) fun r hr => ?_)⟩
      · simp only [↓wr, ed]
        refine ⟨⟨by omega, by omega⟩, ⟨by omega, by omega⟩, fun r r0 r1 => ⟨.inl (.inl ⟨by omega, by omega⟩), root m * r.toNat, ?_, ?_⟩⟩
        · show some (PyData.int _) = some (PyData.int ((root m * r.toNat : Nat) : Int))
          rw [Int.natCast_mul, Int.toNat_of_nonneg r0]
        · have h3 : root m * (r.toNat + 1) ≤ root m * (m / root m) := Nat.mul_le_mul_left _ (by omega)
          rw [Nat.mul_add] at h3
          omega
      · obtain ⟨fs', rfl, f1, f2⟩ := hr
        rw [rng_len] at f1
        exact go fs' bs s9 ⟨by omega, f2⟩ hb
    · rw [if_neg (by rw [decide_eq_true_eq]; exact c0)]
      exact go fs bs s9 hf hb
  -- one factor alone
  clear hδ
  rintro δ hδ
  refine W_stepE P ?_ ?_
  · rw [hP] at hδ ⊢
    obtain ⟨fs, bs, s9, hf, hb, rfl⟩ := hδ
    simp only [↓wr]
    by_cases c0 : (c : Int) = 4
    · rw [if_pos (by rw [decide_eq_true_eq]; exact c0)]
      simp only [↓x_fM, ↓wr]
      rw [x_mL1 (by omega)]
      refine x_pt' rfl ?_
      simp only [↓wr]
      refine ⟨⟨by omega, by omega⟩, fun r r0 r1 => ⟨⟨by omega, by omega⟩, fun r' r0' r1' => ⟨r', r'.toNat, rfl, by rw [List.length_replicate]; exact ixN_at r0' (by omega), ?_⟩⟩⟩
      have e : (List.replicate k (PyData.int 0)).set r'.toNat (.int (1 + r)) = ((List.replicate k 0).set r'.toNat (1 + r).toNat).map nD := by
        rw [List.map_set, List.map_replicate, ← nD_of (show 0 ≤ 1 + r by omega)]
        rfl
      rw [e]
      refine go _ bs s9 ⟨by rw [List.length_set, List.length_replicate], fun y hy => ?_⟩ hb
      rcases List.mem_or_eq_of_mem_set hy with h | rfl
      · rw [(List.mem_replicate.mp h).2]; omega
      · omega
    · rw [if_neg (by rw [decide_eq_true_eq]; exact c0)]
      exact go fs bs s9 hf hb
  -- noughts, and one behind them
  clear hδ
  rintro δ hδ
  refine W_stepE P ?_ ?_
  · rw [hP] at hδ ⊢
    obtain ⟨fs, bs, s9, hf, hb, rfl⟩ := hδ
    simp only [↓wr]
    by_cases c0 : (c : Int) = 5
    · rw [if_pos (by rw [decide_eq_true_eq]; exact c0)]
      rw [x_dM1 (by omega) (by omega)]
      simp only [↓wr]
      refine ⟨by rw [List.length_replicate]; simp; omega, ?_⟩
      have e : List.replicate ((k : Int) - 1).toNat (PyData.int 0) ++ [PyData.int 1] = (List.replicate (k - 1) 0 ++ [1]).map nD := by
        rw [List.map_append, List.map_replicate, show ((k : Int) - 1).toNat = k - 1 by omega]
        rfl
      rw [e]
      refine go fs _ s9 hf ⟨by rw [List.length_append, List.length_replicate, List.length_singleton]; omega, fun y hy => ?_⟩
      rcases List.mem_append.mp hy with h | h
      · rw [(List.mem_replicate.mp h).2]; omega
      · rw [List.mem_singleton.mp h]; omega
    · rw [if_neg (by rw [decide_eq_true_eq]; exact c0)]
      exact go fs bs s9 hf hb
  clear hδ
  rintro δ hδ
  rw [hP] at hδ
  obtain ⟨fs, bs, s9, hf, hb, rfl⟩ := hδ
  simp only [↓wr, ↓x_tupL]
  refine ⟨m, fs, bs, rfl, ⟨m2, m9, by rw [hf.len]; exact k1, by rw [hf.len]; exact k4, by rw [hf.len, hb.len], hf.lt, hb.lt, by rw [hf.len]; omega⟩, by rw [hf.len]; exact hk⟩
end CR
end Q

set_option Elab.async false
set_option linter.all false
set_option maxRecDepth 100000
set_option maxHeartbeats 4000000
namespace Q
/-! ### the deck: great ones, cells, their sum and a count in a dict -/
section
open PySem PySem.Spec PyProof.Rows L2
variable [WellKind]
abbrev kGreat : Key := .inr "great"
abbrev kCells : Key := .inr "cells"
abbrev kWhole : Key := .inr "whole"
abbrev kMixed : Key := .inr "mixed"
def dkv (g c : Addr) (wh n : Int) : List (Key × V) := [(kGreat, .ref g), (kCells, .ref c), (kWhole, .int wh), (kMixed, .int n)]
omit [WellKind] in
def WP5 (g c : Addr) (oa og oc : HO) : Prop := ∃ (gs cs : List Int) (wh n : Int), oa = .dK (dkv g c wh n) ∧ og = .lst (gs.map V.int) ∧ oc = .lst (cs.map V.int) ∧ (∀ z ∈ gs, 0 ≤ z) ∧ cs ≠ [] ∧ gs.length ≤ 63
abbrev WK5 (T : List (Addr × Str)) : WellKind := ⟨WP5, T, fun g c oa og oc ⟨gs, cs, wh, n, h1, h2, h3, _⟩ => ⟨fun _ z => (by rw [h1] at z; cases z), fun _ z => (by rw [h2] at z; cases z), fun _ z => (by rw [h3] at z; cases z)⟩⟩
theorem eqv_nil (gs : List Int) : PyData.eqv (.list (gs.map PyData.int)) (.list []) = gs.isEmpty := by
  cases gs <;> simp [PyData.eqv, PyData.eqvAll]
theorem shaped_ints (gs : List Int) : SeqAt.shaped (.list (gs.map PyData.int)) = true := by
  have h1 : PyData.canLayAll0 (gs.map PyData.int) = true := (canLayAll_iff _).mpr fun x hx => by
    obtain ⟨i, _, rfl⟩ := List.mem_map.mp hx; simp [PyData.canLay0]
  have h2 : PyData.depthAll (gs.map PyData.int) ≤ 1 := by
    induction gs with
    | nil => simp [PyData.depthAll]
    | cons a r ih => simp only [List.map_cons, PyData.depthAll, PyData.depth]; have := ih ((canLayAll_iff _).mpr fun x hx => by obtain ⟨i, _, rfl⟩ := List.mem_map.mp hx; simp [PyData.canLay0]); omega
  have h3 : PyData.depth (.list (gs.map PyData.int)) ≤ 64 := by
    rw [PyData.depth]; omega
  unfold SeqAt.shaped
  simp [PyData.canLay0, h1, h3]
theorem dp_ints {K : PySem.W.Frag} {H : Hp} : ∀ gs : List Int, DpAll K H (gs.map V.int) (gs.map PyData.int)
  | [] => .nil
  | _ :: r => .cons (.int _) (dp_ints r)
end
namespace Lk69
open PySem PySem.Spec PyProof.Rows L2
def topS (i : Nat) : Stmt := PySem.Challenge.pw_leastmakers_k69_rounds_and_reads.main.body.getD i (.Pass ⟨0, 0, 0, 0⟩)
abbrev s_least_turn : Stmt := topS 1
abbrev n_least_turn : List Str := ["turn", "size"]
theorem sc_least_turn : FnScope n_least_turn ["turn"] (defScope s_least_turn) := ⟨rfl, rfl, rfl, by decide +kernel, rfl, by decide +kernel, by decide +kernel⟩
def b0_least_turn : Q.Env → M Flow := sIf (tAndM (tBin dEq (eBin dMod (eB dLen (lCons (eVar 0) (lNil))) (eVar 1)) (eC (.int 0))) (tBin dEq (eBin dMul (eSl (eVar 0) (oNone) (oSome (eVar 1))) (eBin dFdiv (eB dLen (lCons (eVar 0) (lNil))) (eVar 1))) (eVar 0))) (sRet (eSl (eVar 0) (oNone) (oSome (eVar 1)))) (sNil)
def m_least_turn : Q.Env → M Flow := sSeq (sFor (iR2 (lCons (eC (.int 1)) (lCons (eB dLen (lCons (eVar 0) (lNil))) (lNil)))) (gSet 1) (b0_least_turn))
    (sRet (eVar 0))
def f_least_turn : List Slot → M D := fnM 2 m_least_turn
abbrev s_least : Stmt := topS 2
abbrev n_least : List Str := ["table", "head", "turn", "kept", "shift"]
theorem sc_least : FnScope n_least ["table"] (defScope s_least) := ⟨rfl, rfl, rfl, by decide +kernel, rfl, by decide +kernel, by decide +kernel⟩
def b0_least : Q.Env → M Bool := tAndM (tBin dGt (eVar 3) (eC (.int 0))) (tBin dEq (eBin dIx (eVar 1) (eBin dSub (eVar 3) (eC (.int 1)))) (eBin dIx (eVar 2) (eBin dMod (eBin dSub (eBin dSub (eVar 3) (eC (.int 1))) (eB dLen (lCons (eVar 1) (lNil)))) (eB dLen (lCons (eVar 2) (lNil))))))
def b1_least : Q.Env → M Flow := sSet 3 (eBin dSub (eVar 3) (eC (.int 1)))
def m_least : Q.Env → M Flow := sSeq (sPar 1 2 (lCons (eBin dIx (eVar 0) (eC (.int 0))) (lCons (eCall f_least_turn (aCons (eBin dIx (eVar 0) (eC (.int 1))) (aNil))) (lNil))))
    (sSeq (sSet 3 (eB dLen (lCons (eVar 1) (lNil))))
    (sSeq (sWhile 1000000000000 (b0_least) (b1_least))
    (sSeq (sSet 4 (eBin dMod (eBin dSub (eVar 3) (eB dLen (lCons (eVar 1) (lNil)))) (eB dLen (lCons (eVar 2) (lNil)))))
    (sRet (eTup (lCons (eSl (eVar 1) (oNone) (oSome (eVar 3))) (lCons (eBin dAdd (eSl (eVar 2) (oSome (eVar 4)) (oNone)) (eSl (eVar 2) (oNone) (oSome (eVar 4)))) (lNil))))))))
def f_least : List Slot → M D := fnM 5 m_least
abbrev s_next_in : Stmt := topS 4
abbrev n_next_in : List Str := ["modulus", "factors", "ahead", "factor", "one"]
theorem sc_next_in : FnScope n_next_in ["modulus", "factors", "ahead"] (defScope s_next_in) := ⟨rfl, rfl, rfl, by decide +kernel, rfl, by decide +kernel, by decide +kernel⟩
def m_next_in : Q.Env → M Flow := sRet (eBin dMod (eB dSum (lCons (eFz (fComp [3, 4] (iZx (lCons (eVar 1) (lCons (eRevX (eVar 2)) (lNil)))) (gTupE 2 (gsCons (gSet 3) (gsCons (gSet 4) (gsNil)))) (tTrue) (eBin dMul (eVar 3) (eVar 4)))) (lNil))) (eVar 0))
def f_next_in : List Slot → M D := fnM 5 m_next_in
abbrev s_walked_round : Stmt := topS 5
abbrev n_walked_round : List Str := ["rule", "modulus", "factors", "state", "places", "row"]
theorem sc_walked_round : FnScope n_walked_round ["rule"] (defScope s_walked_round) := ⟨rfl, rfl, rfl, by decide +kernel, rfl, by decide +kernel, by decide +kernel⟩
abbrev f_walked_round := walkM f_next_in
abbrev s_round_of : Stmt := topS 6
abbrev n_round_of : List Str := ["rule", "row", "head"]
theorem sc_round_of : FnScope n_round_of ["rule"] (defScope s_round_of) := ⟨rfl, rfl, rfl, by decide +kernel, rfl, by decide +kernel, by decide +kernel⟩
def m_round_of : Q.Env → M Flow := sSeq (sAsg (gTupE 2 (gsCons (gSet 1) (gsCons (gSet 2) (gsNil)))) (eCall f_walked_round (aCons (eVar 0) (aNil))))
    (sRet (eTup (lCons (eVar 2) (lCons (eBin dSub (eB dLen (lCons (eVar 1) (lNil))) (eVar 2)) (lNil)))))
def f_round_of : List Slot → M D := fnM 3 m_round_of
abbrev s_reads : Stmt := topS 7
abbrev n_reads : List Str := ["rule", "value", "row", "head", "text", "one"]
theorem sc_reads : FnScope n_reads ["rule", "value"] (defScope s_reads) := ⟨rfl, rfl, rfl, by decide +kernel, rfl, by decide +kernel, by decide +kernel⟩
def m_reads : Q.Env → M Flow := sSeq (sAsg (gTupE 2 (gsCons (gSet 2) (gsCons (gSet 3) (gsNil)))) (eCall f_walked_round (aCons (eVar 0) (aNil))))
    (sSeq (sSet 4 (eM mJoin (eC (.str "")) (lCons (eFz (fComp [5] (iA (eVar 2)) (gSet 5) (tTrue) (eIf (tBin dEq (eVar 5) (eVar 1)) (eC (.str "1")) (eC (.str "0"))))) (lNil))))
    (sRet (eCall f_least (aCons (eTup (lCons (eSl (eVar 4) (oNone) (oSome (eVar 3))) (lCons (eSl (eVar 4) (oSome (eVar 3)) (oNone)) (lNil)))) (aNil)))))
def f_reads : List Slot → M D := fnM 6 m_reads
abbrev s__law_deck : Stmt := topS 9
abbrev n__law_deck : List Str := ["_law_script", "_law_cells", "_law_great", "_law_cell"]
theorem sc__law_deck : FnScope n__law_deck ["_law_script"] (defScope s__law_deck) := ⟨rfl, rfl, rfl, by decide +kernel, rfl, by decide +kernel, by decide +kernel⟩
abbrev s__law_draw : Stmt := topS 10
abbrev n__law_draw : List Str := ["_law_deck_here", "_law_many", "_law_great", "_law_cells", "_law_rest", "_law_turn", "_law_found"]
theorem sc__law_draw : FnScope n__law_draw ["_law_deck_here", "_law_many"] (defScope s__law_draw) := ⟨rfl, rfl, rfl, by decide +kernel, rfl, by decide +kernel, by decide +kernel⟩
abbrev f__law_draw := drawM
abbrev s__law_pick : Stmt := topS 11
abbrev n__law_pick : List Str := ["_law_deck_here", "_law_items"]
theorem sc__law_pick : FnScope n__law_pick ["_law_deck_here", "_law_items"] (defScope s__law_pick) := ⟨rfl, rfl, rfl, by decide +kernel, rfl, by decide +kernel, by decide +kernel⟩
def m__law_pick : Q.Env → M Flow := sRet (eBin dIx (eVar 1) (eCall f__law_draw (aWell 0 (aCons (eB dLen (lCons (eVar 1) (lNil))) (aNil)))))
def f__law_pick : List Slot → M D := fnM 2 m__law_pick
abbrev s__law_whole : Stmt := topS 12
abbrev n__law_whole : List Str := ["_law_value", "_law_low", "_law_high"]
theorem sc__law_whole : FnScope n__law_whole ["_law_value", "_law_low", "_law_high"] (defScope s__law_whole) := ⟨rfl, rfl, rfl, by decide +kernel, rfl, by decide +kernel, by decide +kernel⟩
def m__law_whole : Q.Env → M Flow := sRet (eAnd (eIsi "int" (eVar 0)) (eAnd (eNot (eIsi "bool" (eVar 0))) (eChain dLe dLe (eVar 1) (eVar 0) (eVar 2))))
def f__law_whole : List Slot → M D := fnM 3 m__law_whole
abbrev s__law_rule : Stmt := topS 13
abbrev n__law_rule : List Str := ["_law_deck_here", "_law_most", "_law_modulus", "_law_many", "_law_size", "_law_kind", "_law_root", "_law_factors", "_law_begin", "_law_k"]
theorem sc__law_rule : FnScope n__law_rule ["_law_deck_here", "_law_most"] (defScope s__law_rule) := ⟨rfl, rfl, rfl, by decide +kernel, rfl, by decide +kernel, by decide +kernel⟩
def b0__law_rule : Q.Env → M Bool := tAndM (tBin dLt (eVar 3) (eC (.int 4))) (tAndM (tBin dLe (eBin dMul (eVar 4) (eVar 2)) (eVar 1)) (tBin dGt (eCall f__law_draw (aWell 0 (aCons (eC (.int 4)) (aNil)))) (eC (.int 0))))
def b1__law_rule : Q.Env → M Flow := sPar 3 4 (lCons (eBin dAdd (eVar 3) (eC (.int 1))) (lCons (eBin dMul (eVar 4) (eVar 2)) (lNil)))
def m__law_rule : Q.Env → M Flow := sSeq (sSet 2 (eBin dAdd (eC (.int 2)) (eCall f__law_draw (aWell 0 (aCons (eC (.int 8)) (aNil))))))
    (sSeq (sPar 3 4 (lCons (eC (.int 1)) (lCons (eVar 2) (lNil))))
    (sSeq (sWhile 1000000000000 (b0__law_rule) (b1__law_rule))
    (sSeq (sAsg (gTupE 2 (gsCons (gSet 5) (gsCons (gSet 6) (gsNil)))) (eTup (lCons (eCall f__law_draw (aWell 0 (aCons (eC (.int 6)) (aNil)))) (lCons (eGet2 (eDct (dCons (eC (.int 4)) (eC (.int 2)) (dCons (eC (.int 8)) (eC (.int 2)) (dCons (eC (.int 9)) (eC (.int 3)) (dNil))))) (eVar 2) (eVar 2)) (lNil)))))
    (sSeq (sParF 7 8 (fComp [9] (iR1 (lCons (eVar 3) (lNil))) (gSet 9) (tTrue) (eCall f__law_draw (aWell 0 (aCons (eVar 2) (aNil))))) (eFz (fComp [9] (iR1 (lCons (eVar 3) (lNil))) (gSet 9) (tTrue) (eCall f__law_draw (aWell 0 (aCons (eVar 2) (aNil)))))))
    (sSeq (sIf (tBin dEq (eVar 5) (eC (.int 2))) (sPut 7 (eNeg (eC (.int 1))) (eCall f__law_pick (aWell 0 (aCons (eFz (fLst (lCons (eC (.int 1)) (lCons (eBin dSub (eVar 2) (eC (.int 1))) (lNil))))) (aNil))))) (sNil))
    (sSeq (sIf (tBin dEq (eVar 5) (eC (.int 3))) (sSetF 7 (fComp [9] (iR1 (lCons (eVar 3) (lNil))) (gSet 9) (tTrue) (eBin dMul (eVar 6) (eCall f__law_draw (aWell 0 (aCons (eBin dFdiv (eVar 2) (eVar 6)) (aNil))))))) (sNil))
    (sSeq (sIf (tBin dEq (eVar 5) (eC (.int 4))) (sSeq (sSetF 7 (fMul (eFz (fLst (lCons (eC (.int 0)) (lNil)))) (eVar 3)))
    (sPut 7 (eCall f__law_draw (aWell 0 (aCons (eVar 3) (aNil)))) (eBin dAdd (eC (.int 1)) (eCall f__law_draw (aWell 0 (aCons (eBin dSub (eVar 2) (eC (.int 1))) (aNil))))))) (sNil))
    (sSeq (sIf (tBin dEq (eVar 5) (eC (.int 5))) (sSet 8 (eBin dAdd (eBin dMul (eFz (fLst (lCons (eC (.int 0)) (lNil)))) (eBin dSub (eVar 3) (eC (.int 1)))) (eFz (fLst (lCons (eC (.int 1)) (lNil)))))) (sNil))
    (sRet (eTup (lCons (eVar 2) (lCons (eB dTuple (lCons (eOwn 7) (lNil))) (lCons (eB dTuple (lCons (eVar 8) (lNil))) (lNil))))))))))))))
def f__law_rule : List Slot → M D := fnM 10 m__law_rule
abbrev s__law_row : Stmt := topS 14
abbrev n__law_row : List Str := ["_law_rule_here", "_law_many", "_law_modulus", "_law_factors", "_law_begin", "_law_found", "_law_back", "_law_one", "_law_other"]
theorem sc__law_row : FnScope n__law_row ["_law_rule_here", "_law_many"] (defScope s__law_row) := ⟨rfl, rfl, rfl, by decide +kernel, rfl, by decide +kernel, by decide +kernel⟩
def b0__law_row : Q.Env → M Bool := tBin dLt (eB dLen (lCons (eOwn 5) (lNil))) (eVar 1)
def b1__law_row : Q.Env → M Flow := sSeq (sSet 6 (eRevX (eSl (eOwn 5) (oSome (eNeg (eB dLen (lCons (eVar 3) (lNil))))) (oNone))))
    (sApp 5 (eBin dMod (eB dInt (lCons (eB dSum (lCons (eFz (fComp [7, 8] (iZx (lCons (eVar 3) (lCons (eVar 6) (lNil)))) (gTupE 2 (gsCons (gSet 7) (gsCons (gSet 8) (gsNil)))) (tTrue) (eBin dMul (eVar 7) (eVar 8)))) (lNil))) (lNil))) (eVar 2)))
def m__law_row : Q.Env → M Flow := sSeq (sAsg (gTupE 3 (gsCons (gSet 2) (gsCons (gSet 3) (gsCons (gSet 4) (gsNil))))) (eVar 0))
    (sSeq (sSetF 5 (fList (lCons (eVar 4) (lNil))))
    (sSeq (sWhile 1000000000000 (b0__law_row) (b1__law_row))
    (sRet (eSl (eOwn 5) (oNone) (oSome (eVar 1))))))
def f__law_row : List Slot → M D := fnM 9 m__law_row
abbrev s__law_least : Stmt := topS 15
abbrev n__law_least : List Str := ["_law_head", "_law_turn", "_law_size", "_law_step"]
theorem sc__law_least : FnScope n__law_least ["_law_head", "_law_turn"] (defScope s__law_least) := ⟨rfl, rfl, rfl, by decide +kernel, rfl, by decide +kernel, by decide +kernel⟩
def b0__law_least : Q.Env → M Flow := sIf (tAndM (tBin dEq (eBin dMod (eB dInt (lCons (eVar 2) (lNil))) (eVar 3)) (eC (.int 0))) (tBin dEq (eBin dMul (eSl (eVar 1) (oNone) (oSome (eVar 3))) (eBin dFdiv (eVar 2) (eVar 3))) (eVar 1))) (sSeq (sSet 1 (eSl (eVar 1) (oNone) (oSome (eVar 3))))
    (sBrk)) (sNil)
def b1__law_least : Q.Env → M Bool := tAndM (tBin dNe (eVar 0) (eC (.str ""))) (tBin dEq (eBin dIx (eVar 0) (eNeg (eC (.int 1)))) (eBin dIx (eVar 1) (eNeg (eC (.int 1)))))
def b2__law_least : Q.Env → M Flow := sPar 0 1 (lCons (eSl (eVar 0) (oNone) (oSome (eNeg (eC (.int 1))))) (lCons (eBin dAdd (eBin dIx (eVar 1) (eNeg (eC (.int 1)))) (eSl (eVar 1) (oNone) (oSome (eNeg (eC (.int 1)))))) (lNil)))
def m__law_least : Q.Env → M Flow := sSeq (sSet 2 (eB dLen (lCons (eVar 1) (lNil))))
    (sSeq (sFor (iR2 (lCons (eC (.int 1)) (lCons (eBin dAdd (eVar 2) (eC (.int 1))) (lNil)))) (gSet 3) (b0__law_least))
    (sSeq (sWhile 1000000000000 (b1__law_least) (b2__law_least))
    (sRet (eTup (lCons (eVar 0) (lCons (eVar 1) (lNil)))))))
def f__law_least : List Slot → M D := fnM 4 m__law_least
abbrev s__law_is_round : Stmt := topS 16
abbrev n__law_is_round : List Str := ["_law_rule_here", "_law_value", "_law_modulus", "_law_many", "_law_most", "_law_k", "_law_ahead", "_law_turn", "_law_text", "_law_ring", "_law_step", "_law_one"]
theorem sc__law_is_round : FnScope n__law_is_round ["_law_rule_here", "_law_value"] (defScope s__law_is_round) := ⟨rfl, rfl, rfl, by decide +kernel, rfl, by decide +kernel, by decide +kernel⟩
def b0__law_is_round : Q.Env → M Flow := sSet 4 (eBin dMul (eVar 4) (eVar 2))
def b1__law_is_round : Q.Env → M Flow := sIf (tAndM (tBin dEq (eBin dMod (eB dInt (lCons (eVar 7) (lNil))) (eVar 10)) (eC (.int 0))) (tBin dEq (eBin dMul (eSl (eVar 9) (oNone) (oSome (eVar 10))) (eBin dFdiv (eVar 7) (eVar 10))) (eVar 9))) (sRet (eC (.bool false))) (sNil)
def m__law_is_round : Q.Env → M Flow := sSeq (sPar3 2 3 4 (lCons (eBin dIx (eVar 0) (eC (.int 0))) (lCons (eB dLen (lCons (eBin dIx (eVar 0) (eC (.int 1))) (lNil))) (lCons (eC (.int 1)) (lNil)))))
    (sSeq (sFor (iR1 (lCons (eVar 3) (lNil))) (gSet 5) (b0__law_is_round))
    (sSeq (sIf (tOrM (tNotM (tVal (eIsi "tuple" (eVar 1)))) (tBin dNe (eB dLen (lCons (eVar 1) (lNil))) (eC (.int 2)))) (sRet (eC (.bool false))) (sNil))
    (sSeq (sAsg (gTupE 2 (gsCons (gSet 6) (gsCons (gSet 7) (gsNil)))) (eVar 1))
    (sSeq (sIf (tOrM (tNotM (tVal (eCall f__law_whole (aCons (eVar 6) (aCons (eC (.int 0)) (aCons (eVar 4) (aNil))))))) (tOrM (tNotM (tVal (eCall f__law_whole (aCons (eVar 7) (aCons (eC (.int 1)) (aCons (eVar 4) (aNil))))))) (tBin dGt (eBin dAdd (eVar 6) (eVar 7)) (eVar 4)))) (sRet (eC (.bool false))) (sNil))
    (sSeq (sSet 8 (eM mJoin (eC (.str "")) (lCons (eFz (fComp [11] (iA (eCall f__law_row (aCons (eVar 0) (aCons (eBin dAdd (eBin dAdd (eVar 6) (eBin dMul (eC (.int 2)) (eVar 7))) (eVar 3)) (aNil))))) (gSet 11) (tTrue) (eB dStr (lCons (eVar 11) (lNil))))) (lNil))))
    (sSeq (sIf (tBin dNe (eSl (eVar 8) (oSome (eBin dAdd (eVar 6) (eVar 7))) (oSome (eBin dAdd (eBin dAdd (eVar 6) (eVar 7)) (eVar 3)))) (eSl (eVar 8) (oSome (eVar 6)) (oSome (eBin dAdd (eVar 6) (eVar 3))))) (sRet (eC (.bool false))) (sNil))
    (sSeq (sIf (tAndM (tBin dGt (eVar 6) (eC (.int 0))) (tBin dEq (eBin dIx (eVar 8) (eBin dSub (eVar 6) (eC (.int 1)))) (eBin dIx (eVar 8) (eBin dAdd (eBin dSub (eVar 6) (eC (.int 1))) (eVar 7))))) (sRet (eC (.bool false))) (sNil))
    (sSeq (sSet 9 (eSl (eVar 8) (oSome (eVar 6)) (oSome (eBin dAdd (eVar 6) (eVar 7)))))
    (sSeq (sFor (iR2 (lCons (eC (.int 1)) (lCons (eBin dAdd (eBin dFdiv (eVar 7) (eC (.int 2))) (eC (.int 1))) (lNil)))) (gSet 10) (b1__law_is_round))
    (sRet (eC (.bool true))))))))))))
def f__law_is_round : List Slot → M D := fnM 12 m__law_is_round
abbrev s_law : Stmt := topS 17
abbrev n_law : List Str := ["_law_script", "_law_deck_here", "_law_most", "_law_rule_here", "_law_told", "_law_ahead", "_law_turn", "_law_row_here", "_law_numbers", "_law_number", "_law_marks", "_law_due", "_law_one"]
theorem sc_law : FnScope n_law ["_law_script"] (defScope s_law) := ⟨rfl, rfl, rfl, by decide +kernel, rfl, by decide +kernel, by decide +kernel⟩
def b0_law : Q.Env → M Flow := sSeq (sSet 10 (eM mJoin (eC (.str "")) (lCons (eFz (fComp [12] (iA (eVar 7)) (gSet 12) (tTrue) (eIf (tBin dEq (eVar 12) (eVar 9)) (eC (.str "1")) (eC (.str "0"))))) (lNil))))
    (sSeq (sSet 11 (eCall f__law_least (aCons (eSl (eVar 10) (oNone) (oSome (eVar 5))) (aCons (eSl (eVar 10) (oSome (eVar 5)) (oNone)) (aNil)))))
    (sIf (tBin dNe (eB dRepr (lCons (eFz (fLst (lCons (eCall f_reads (aCons (eVar 3) (aCons (eVar 9) (aNil)))) (lCons (eCallK (permL [1, 0]) f_reads (aCons (eVar 9) (aCons (eVar 3) (aNil)))) (lNil))))) (lNil))) (eB dRepr (lCons (eFz (fLst (lCons (eVar 11) (lCons (eVar 11) (lNil))))) (lNil)))) (sRet (eC (.bool false))) (sNil)))
def b1_law : Q.Env → M Flow := sSeq (sSet 3 (eCall f__law_rule (aWell 1 (aCons (eVar 2) (aNil)))))
    (sSeq (sSet 4 (eCall f_round_of (aCons (eVar 3) (aNil))))
    (sSeq (sIf (tOrM (tNotM (tVal (eCall f__law_is_round (aCons (eVar 3) (aCons (eVar 4) (aNil)))))) (tBin dNe (eB dRepr (lCons (eCallK (permL [0]) f_round_of (aCons (eVar 3) (aNil))) (lNil))) (eB dRepr (lCons (eVar 4) (lNil))))) (sRet (eC (.bool false))) (sNil))
    (sSeq (sAsg (gTupE 2 (gsCons (gSet 5) (gsCons (gSet 6) (gsNil)))) (eVar 4))
    (sSeq (sSet 7 (eCall f__law_row (aCons (eVar 3) (aCons (eBin dAdd (eVar 5) (eVar 6)) (aNil)))))
    (sSeq (sSet 8 (eFz (fRg1 (eBin dIx (eVar 3) (eC (.int 0))))))
    (sSeq (sIf (tBin dGt (eVar 6) (eC (.int 90))) (sSet 8 (eFz (fLst (lCons (eCall f__law_draw (aWell 1 (aCons (eBin dIx (eVar 3) (eC (.int 0))) (aNil)))) (lCons (eBin dIx (eVar 7) (eC (.int 0))) (lCons (eBin dIx (eVar 7) (eNeg (eC (.int 1)))) (lNil))))))) (sNil))
    (sSeq (sFor (iA (eVar 8)) (gSet 9) (b0_law))
    (sIf (tAndM (tBin dIn (eBin dIx (eVar 3) (eC (.int 0))) (eTup (lCons (eC (.int 2)) (lCons (eC (.int 3)) (lCons (eC (.int 5)) (lCons (eC (.int 7)) (lNil))))))) (tAndM (tBin dGt (eBin dIx (eBin dIx (eVar 3) (eC (.int 1))) (eNeg (eC (.int 1)))) (eC (.int 0))) (tBin dGt (eVar 5) (eC (.int 0))))) (sRet (eC (.bool false))) (sNil)))))))))
def m_law : Q.Env → M Flow := sSeq (sFor (iL (eFz (fLst (lCons (eCall f__law_pick (aWell 1 (aCons (eFz (fLst (lCons (eC (.int 5000)) (lCons (eC (.int 2500)) (lCons (eC (.int 700)) (lNil)))))) (aNil)))) (lCons (eC (.int 343)) (lCons (eC (.int 81)) (lCons (eC (.int 81)) (lCons (eC (.int 9)) (lNil))))))))) (gSet 2) (b1_law))
    (sRet (eAnd (eBin dEq (eCall f_round_of (aCons (eTup (lCons (eC (.int 4)) (lCons (eTup (lCons (eC (.int 2)) (lNil))) (lCons (eTup (lCons (eC (.int 1)) (lNil))) (lNil))))) (aNil))) (eTup (lCons (eC (.int 2)) (lCons (eC (.int 1)) (lNil))))) (eBin dEq (eCall f_reads (aCons (eTup (lCons (eC (.int 2)) (lCons (eTup (lCons (eC (.int 1)) (lCons (eC (.int 1)) (lNil)))) (lCons (eTup (lCons (eC (.int 0)) (lCons (eC (.int 1)) (lNil)))) (lNil))))) (aCons (eC (.int 0)) (aNil)))) (eTup (lCons (eC (.str "")) (lCons (eC (.str "100")) (lNil)))))))
end Lk69
end Q

set_option Elab.async false
set_option linter.all false
set_option maxRecDepth 100000
namespace Q
open PySem PySem.Spec PyProof.Rows L2
namespace Rw
/-- a turn, turned back by one -/
theorem cyc_back {t : List Nat} (ht : t ≠ []) (z : Int) : cyc (t.drop (t.length - 1) ++ t.take (t.length - 1)) z = cyc t (z - 1) := by
  have hp : 0 < t.length := List.length_pos_iff.mpr ht
  obtain ⟨f, hf⟩ : ∃ f : Nat → Nat, f = fun (i : Nat) => cyc t (((t.length - 1 : Nat) : Int) + (i : Int)) := ⟨_, rfl⟩
  rw [rot_out (s := t.length - 1) (f := f) (by omega) fun i _ => by rw [hf]]
  have hl : ((List.range t.length).map f).length = t.length := by rw [List.length_map, List.length_range]
  have b0 := Int.emod_nonneg z (show (t.length : Int) ≠ 0 by omega)
  have b1 := Int.emod_lt_of_pos z (show 0 < (t.length : Int) by omega)
  conv => lhs; unfold cyc
  rw [hl, List.getD_eq_getElem?_getD, List.getElem?_map, List.getElem?_range (by omega)]
  show f (z % (t.length : Int)).toNat = _
  rw [hf]
  show cyc t (((t.length - 1 : Nat) : Int) + ((z % (t.length : Int)).toNat : Int)) = _
  rw [Int.toNat_of_nonneg b0, ← (cyc_per t).emod, ← (cyc_per t).emod (z - 1)]
  congr 1
  rw [Int.add_emod, Int.emod_emod, ← Int.add_emod]
  have e : (((t.length - 1 : Nat) : Int) + z) = (z - 1) + t.length := by omega
  rw [e, Int.add_emod_right]
theorem seq_back {h t : List Nat} (ht : t ≠ []) (hh : h ≠ []) (e : h.getD (h.length - 1) 0 = t.getD (t.length - 1) 0) : seq (h.take (h.length - 1)) (t.drop (t.length - 1) ++ t.take (t.length - 1)) = seq h t := by
  have hp : 0 < h.length := List.length_pos_iff.mpr hh
  have tp : 0 < t.length := List.length_pos_iff.mpr ht
  have hl : (h.take (h.length - 1)).length = h.length - 1 := by rw [List.length_take]; omega
  funext n
  by_cases c : n < h.length - 1
  · rw [seq_lo (by omega), seq_lo (by omega), getD_take c]
  · rw [seq_hi (by omega), cyc_back ht, hl]
    by_cases c2 : n = h.length - 1
    · rw [seq_lo (by omega), c2, e]
      have := cyc_nat (t := t) (i := t.length - 1) (by omega)
      rw [← this, ← (cyc_per t).emod, ← (cyc_per t).emod ((t.length - 1 : Nat) : Int)]
      congr 1
      have e2 : (((h.length - 1 : Nat) : Int) - ((h.length - 1 : Nat) : Int) - 1) + t.length = ((t.length - 1 : Nat) : Int) := by omega
      rw [← e2, Int.add_emod_right]
    · rw [seq_hi (by omega)]
      congr 1
      omega
theorem isPer_back {t : List Nat} (ht : t ≠ []) (h : IsPer (cyc t) t.length) : IsPer (cyc (t.drop (t.length - 1) ++ t.take (t.length - 1))) (t.drop (t.length - 1) ++ t.take (t.length - 1)).length := by
  have hp : 0 < t.length := List.length_pos_iff.mpr ht
  have hl : (t.drop (t.length - 1) ++ t.take (t.length - 1)).length = t.length := by rw [List.length_append, List.length_drop, List.length_take]; omega
  rw [hl]
  refine ⟨h.pos, fun z => ?_, fun d d1 hd => h.min d d1 fun z => ?_⟩
  · rw [cyc_back ht, cyc_back ht, ← h.per (z - 1)]
    congr 1; omega
  · have := hd (z + 1)
    rw [cyc_back ht, cyc_back ht] at this
    rw [show z + (d : Int) = z + 1 + d - 1 by omega, this]
    congr 1; omega
theorem okSize_self {t : List Nat} (ht : t ≠ []) : okSize t t.length = true :=
  (okSize_per ht (List.length_pos_iff.mpr ht) (Nat.le_refl _)).mpr ⟨Nat.dvd_refl _, cyc_per t⟩
end Rw
namespace Lk69
open Rw
theorem e_pick : f__law_pick = C.f__law_pick := rfl
theorem e_whole : f__law_whole = CR.f__law_whole := rfl
theorem e_rule : f__law_rule = CR.f__law_rule := rfl
theorem e_row : f__law_row = CR.f__law_row := rfl
theorem e_round : f_round_of = C.f_round_of := rfl
theorem e_reads : f_reads = C.f_reads := rfl
theorem w_lleast {h t : List Nat} (ht : t ≠ []) (hl : t.length ≤ 20000) (hh : h.length ≤ 20000) {k p : Nat} (hc : Cn (seq h t) k p) : W (f__law_least [.dat (.str (S h)), .dat (.str (S t))]) (fun d => d = Pr (outH (seq h t) k) (outT (seq h t) k p)) F := by
  have hp : 0 < t.length := List.length_pos_iff.mpr ht
  refine W_fn (δ := [.dat (.str (S h)), .dat (.str (S t)), .emp, .emp]) rfl ?_
  unfold m__law_least
  refine W_step (δ' := [.dat (.str (S h)), .dat (.str (S t)), .dat (.int t.length), .emp]) ?_ ?_
  · simp only [↓wr]
    exact ⟨by omega, trivial⟩
  refine W_stepE (fun δ => ∃ s3, δ = [.dat (.str (S h)), .dat (.str (S (t.take (ltSize t)))), .dat (.int t.length), s3]) ?_ ?_
  · simp only [↓wr]
    refine ⟨by omega, ?_⟩
    refine W_range ((t.length : Int) + 1) (fun k δ => 1 ≤ k ∧ k ≤ t.length ∧ (∃ s, δ = [.dat (.str (S h)), .dat (.str (S t)), .dat (.int t.length), s]) ∧ ltGo t (t.length - k.toNat) k.toNat = ltSize t) ?_ ?_ _ _ _ (by omega) ⟨by omega, by omega, ⟨_, rfl⟩, rfl⟩
    · rintro k δ hk ⟨h1, h2, ⟨s, rfl⟩, hg⟩
      obtain ⟨n, rfl⟩ := Int.eq_ofNat_of_zero_le (show 0 ≤ k by omega)
      rw [Int.toNat_natCast] at hg
      have em : ((t.length : Int) % (n : Int)) = ((t.length % n : Nat) : Int) := (Int.natCast_emod _ _).symm
      have ed : ((t.length : Int) / (n : Int)) = ((t.length / n : Nat) : Int) := (Int.natCast_ediv _ _).symm
      have hd : t.length / n ≤ t.length := Nat.div_le_self _ _
      have hd0 : 0 ≤ ((t.length / n : Nat) : Int) := Int.natCast_nonneg _
      have hm : (t.take n).length * (t.length / n) ≤ 16777216 := by
        rw [List.length_take, Nat.min_eq_left (by omega)]
        exact Nat.le_trans (Nat.mul_div_le _ _) (by omega)
      have hnx : ¬ okSize t n = true → LoopQ (fun δ => 1 ≤ ((n : Int) + 1) ∧ ((n : Int) + 1) ≤ t.length ∧ (∃ s, δ = [.dat (.str (S h)), .dat (.str (S t)), .dat (.int t.length), s]) ∧ ltGo t (t.length - ((n : Int) + 1).toNat) ((n : Int) + 1).toNat = ltSize t) (fun fl => ∃ δ', fl = Flow.next δ' ∧ ∃ s3, δ' = [.dat (.str (S h)), .dat (.str (S (t.take (ltSize t)))), .dat (.int t.length), s3]) (.next [.dat (.str (S h)), .dat (.str (S t)), .dat (.int t.length), .dat (.int n)]) := fun ho => by
        have hn : n < t.length := Nat.lt_of_le_of_ne (by omega) fun z => ho (by rw [z]; exact okSize_self ht)
        have eg : ltGo t (t.length - n) n = if okSize t n = true then n else ltGo t (t.length - (n + 1)) (n + 1) := by
          rw [show t.length - n = (t.length - (n + 1)) + 1 by omega]; rfl
        rw [eg, if_neg ho] at hg
        exact ⟨by omega, by omega, ⟨_, rfl⟩, by rw [show ((n : Int) + 1).toNat = n + 1 by omega]; exact hg⟩
      have hyes : okSize t n = true → n = ltSize t := fun ho => by
        by_cases hn : n < t.length
        · have eg : ltGo t (t.length - n) n = if okSize t n = true then n else ltGo t (t.length - (n + 1)) (n + 1) := by
            rw [show t.length - n = (t.length - (n + 1)) + 1 by omega]; rfl
          rw [eg, if_pos ho] at hg
          exact hg
        · rw [show n = t.length by omega, Nat.sub_self] at hg
          rw [show n = t.length by omega]
          exact hg
      rw [x_turn3]
      unfold b0__law_least
      simp only [↓wr, em, ed, cut_take _ (show (0 : Int) ≤ (n : Int) by omega), Int.toNat_natCast, decide_eq_true_eq]
      refine ⟨by omega, ?_⟩
      by_cases c1 : t.length % n = 0
      · rw [if_pos (by omega)]
        refine ⟨by omega, by omega, ⟨by omega, by omega, hm⟩, ?_⟩
        by_cases c2 : rep (t.length / n) (t.take n) = t
        · have ho : okSize t n = true := by simp [okSize, c1, c2]
          rw [if_pos (by first | exact c2 | simpa using c2)]
          refine ⟨by omega, ?_⟩
          rw [hyes ho]
          exact ⟨_, rfl, _, rfl⟩
        · rw [if_neg (by first | exact c2 | simpa using c2)]
          exact hnx (by simp [okSize, c2])
      · rw [if_neg (by omega)]
        rw [if_neg (by simp)]
        exact hnx (by simp [okSize, c1])
    · rintro δ k hk ⟨h1, h2, _⟩
      omega
  rintro δ ⟨s3, rfl⟩
  obtain ⟨hne, elen, ecyc, hper⟩ := isPer_take ht (ltSize_per ht)
  have hle : (t.take (ltSize t)).length ≤ 20000 := by rw [List.length_take]; omega
  generalize t.take (ltSize t) = u at hne elen ecyc hper hle
  have ea : seq h u = seq h t := seq_cyc ecyc
  rw [← ea] at hc ⊢
  clear ea ecyc elen
  generalize hA : seq h u = A at hc
  refine W_stepE (fun δ => δ = [.dat (.str (S (outH A k))), .dat (.str (S (outT A k p))), .dat (.int t.length), s3]) ?_ ?_
  · refine W_sWhile (fun μ δ => ∃ h' u', h'.length = μ ∧ μ ≤ h.length ∧ seq h' u' = A ∧ u' ≠ [] ∧ u'.length = u.length ∧ IsPer (cyc u') u'.length ∧ δ = [.dat (.str (S h')), .dat (.str (S u')), .dat (.int t.length), s3]) ?_ _ h.length _ (by omega) ⟨h, u, rfl, Nat.le_refl _, hA, hne, rfl, hper, rfl⟩
    rintro μ δ ⟨h', u', e1, e2, e3, e4, e5, e6, rfl⟩
    have up : 0 < u'.length := List.length_pos_iff.mpr e4
    have fin : (h' = [] ∨ h'.getD (h'.length - 1) 0 ≠ u'.getD (u'.length - 1) 0) → ∃ δ', Flow.next [.dat (.str (S h')), .dat (.str (S u')), .dat (.int t.length), s3] = Flow.next δ' ∧ δ' = [.dat (.str (S (outH A k))), .dat (.str (S (outT A k p))), .dat (.int t.length), s3] := fun z => by
      have c := cn_self e4 e6 z
      rw [e3] at c
      obtain ⟨rfl, rfl⟩ := hc.uniq c
      refine ⟨_, rfl, ?_⟩
      have q1 := self_outH h' u'
      have q2 := self_outT h' u'
      rw [e3] at q1 q2
      rw [← q1, ← q2]
    unfold b1__law_least
    simp only [↓wr, lit_]
    by_cases c1 : h' = []
    · rw [if_neg (by simp [c1]), if_neg (by simp)]
      exact fin (.inl c1)
    · rw [if_pos (by simp [c1])]
      refine ⟨by omega, _, atI_end1 c1, by omega, _, atI_end1 e4, ?_⟩
      by_cases c2 : h'.getD (h'.length - 1) 0 = u'.getD (u'.length - 1) 0
      · rw [if_pos (by rw [c2]; simp)]
        have hp' : 0 < h'.length := List.length_pos_iff.mpr c1
        refine ⟨by omega, ?_⟩
        unfold b2__law_least
        simp only [↓wr, cut_init]
        refine ⟨by omega, by omega, _, atI_end1 e4, by omega, by rw [List.length_take]; simp; omega, ?_⟩
        rw [← drop_last e4]
        refine ⟨h'.take (h'.length - 1), _, by rw [List.length_take]; omega, by omega, (seq_back e4 c1 c2).trans e3, ?_, ?_, isPer_back e4 e6, rfl⟩
        · intro z
          have := congrArg List.length z
          rw [List.length_append, List.length_drop, List.length_nil] at this
          omega
        · rw [List.length_append, List.length_drop, List.length_take]; omega
      · rw [if_neg (by intro z; exact c2 (by simpa using z))]
        exact fin (.inr c2)
  rintro δ rfl
  simp only [↓wr]
end Lk69
end Q

set_option Elab.async false
set_option linter.all false
set_option maxRecDepth 100000
namespace Q
open PySem PySem.Spec PyProof.Rows L2
namespace Rw
theorem str_digit {n : Nat} (h : n < 10) : (toString ((n : Nat) : Int) : String) = (toString n : String) := rfl
theorem digit_S {n : Nat} (h : n < 10) : (Str.ofString (toString ((n : Nat) : Int))) = S [48 + n] := by
  have : n = 0 ∨ n = 1 ∨ n = 2 ∨ n = 3 ∨ n = 4 ∨ n = 5 ∨ n = 6 ∨ n = 7 ∨ n = 8 ∨ n = 9 := by omega
  rcases this with rfl | rfl | rfl | rfl | rfl | rfl | rfl | rfl | rfl | rfl <;> decide +kernel
theorem drop_outH {a : Nat → Nat} {N i j : Nat} (h : i + j ≤ N) : ((outH a N).drop i).take j = outT a i j := ext_out (by unfold outH; rw [List.length_take, List.length_drop, List.length_map, List.length_range]; omega) fun x hx => by
  rw [getD_take hx, getD_drop, outH_getD (by omega)]
/-- a row's signs -/
def dg (m : Nat) (fs bs : List Nat) (n : Nat) : Nat := 48 + xs m fs bs n
theorem ring_least {m : Nat} {fs bs : List Nat} (R : Ru m fs bs) {u l : Nat} (r : Rnd m fs bs u l) {s : Nat} (h1 : 1 ≤ s) (h2 : s < l) : okSize (outT (dg m fs bs) u l) s = false := by
  cases e : okSize (outT (dg m fs bs) u l) s with
  | false => rfl
  | true =>
    exfalso
    have hl : (outT (dg m fs bs) u l).length = l := by unfold outT; rw [List.length_map, List.length_range]
    have hne : outT (dg m fs bs) u l ≠ [] := fun z => by rw [z, List.length_nil] at hl; omega
    obtain ⟨_, hp⟩ := (okSize_per hne h1 (by omega)).mp e
    have es : seq (outH (dg m fs bs) u) (outT (dg m fs bs) u l) = dg m fs bs := seq_out r.pos fun n hn => by
      unfold dg
      rw [r.per R hn]
    have hu : (outH (dg m fs bs) u).length = u := by unfold outH; rw [List.length_map, List.length_range]
    refine r.least R h1 h2 fun n hn => ?_
    have q1 := seq_hi (h := outH (dg m fs bs) u) (t := outT (dg m fs bs) u l) (n := n) (by omega)
    have q2 := seq_hi (h := outH (dg m fs bs) u) (t := outT (dg m fs bs) u l) (n := n + s) (by omega)
    rw [es, hu] at q1 q2
    have q3 := hp ((n : Int) - u)
    rw [show ((n : Int) - u) + (s : Int) = ((n + s : Nat) : Int) - u by omega, ← q1, ← q2] at q3
    unfold dg at q3
    omega
end Rw
namespace Lk69
open Rw
variable {m : Nat} {fs bs : List Nat} {u l : Nat}
theorem w_is_round (R : Ru m fs bs) (r : Rnd m fs bs u l) : W (f__law_is_round [.dat (ruD m fs bs), .dat (.tuple [nD u, nD l])]) (fun d => d = .bool true) F := by
  have hle := r.le R
  have hbig := R.big
  have hpos := r.pos
  have r1 := R.r1
  have r4 := R.r4
  have m2 := R.m2
  have m9 := R.m9
  refine W_fn (δ := [.dat (ruD m fs bs), .dat (.tuple [nD u, nD l]), .emp, .emp, .emp, .emp, .emp, .emp, .emp, .emp, .emp, .emp]) rfl ?_
  unfold m__law_is_round
  refine W_step (δ' := [.dat (ruD m fs bs), .dat (.tuple [nD u, nD l]), .dat (nD m), .dat (nD fs.length), .dat (nD (m ^ 0)), .emp, .emp, .emp, .emp, .emp, .emp, .emp]) ?_ ?_
  · unfold ruD
    simp only [↓wr, List.length_map]
    rfl
  refine W_stepE (fun δ => ∃ s5, δ = [.dat (ruD m fs bs), .dat (.tuple [nD u, nD l]), .dat (nD m), .dat (nD fs.length), .dat (nD (m ^ fs.length)), s5, .emp, .emp, .emp, .emp, .emp, .emp]) ?_ ?_
  · simp only [↓wr]
    refine ⟨⟨by omega, by omega⟩, ?_⟩
    refine W_range (fs.length : Int) (fun k δ => ∃ (j : Nat) (s5 : Slot), k = (j : Int) ∧ j ≤ fs.length ∧ δ = [.dat (ruD m fs bs), .dat (.tuple [nD u, nD l]), .dat (nD m), .dat (nD fs.length), .dat (nD (m ^ j)), s5, .emp, .emp, .emp, .emp, .emp, .emp]) ?_ ?_ _ _ _ (by omega) ⟨0, _, rfl, by omega, rfl⟩
    · rintro k δ hk ⟨j, s5, rfl, hj, rfl⟩
      rw [x_turn5]
      unfold b0__law_is_round
      simp only [↓wr]
      have em : ((m ^ j : Nat) : Int) * (m : Int) = ((m ^ (j + 1) : Nat) : Int) := by rw [Nat.pow_succ, Int.natCast_mul]
      rw [em]
      exact ⟨.inl (.inr ⟨by omega, by omega⟩), j + 1, .dat (nD j), by push_cast; rfl, by omega, rfl⟩
    · rintro δ k hk ⟨j, s5, rfl, hj, rfl⟩
      have : j = fs.length := by omega
      subst this
      exact ⟨_, rfl, _, rfl⟩
  rintro δ ⟨s5, rfl⟩
  refine W_step (δ' := [.dat (ruD m fs bs), .dat (.tuple [nD u, nD l]), .dat (nD m), .dat (nD fs.length), .dat (nD (m ^ fs.length)), s5, .emp, .emp, .emp, .emp, .emp, .emp]) ?_ ?_
  · simp only [↓wr]
    rw [if_neg (by decide), if_neg (by simp)]
    try trivial
  refine W_step (δ' := [.dat (ruD m fs bs), .dat (.tuple [nD u, nD l]), .dat (nD m), .dat (nD fs.length), .dat (nD (m ^ fs.length)), s5, .dat (nD u), .dat (nD l), .emp, .emp, .emp, .emp]) ?_ ?_
  · simp only [↓wr]
    exact ⟨rfl, trivial⟩
  refine W_step (δ' := [.dat (ruD m fs bs), .dat (.tuple [nD u, nD l]), .dat (nD m), .dat (nD fs.length), .dat (nD (m ^ fs.length)), s5, .dat (nD u), .dat (nD l), .emp, .emp, .emp, .emp]) ?_ ?_
  · simp only [↓wr, e_whole]
    refine W_use CR.w_whole fun d hd => ?_
    subst hd
    simp only [↓wr]
    rw [if_neg (by rw [decide_eq_true (by omega), decide_eq_true (by omega)]; decide)]
    refine W_use CR.w_whole fun d hd => ?_
    subst hd
    simp only [↓wr]
    rw [if_neg (by rw [decide_eq_true (by omega), decide_eq_true (by omega)]; decide), if_neg (by rw [decide_eq_true_eq]; omega)]
    try trivial
  have hN : (48 : Nat) = 48 := rfl
  obtain ⟨N, eN⟩ : ∃ N, N = u + 2 * l + fs.length := ⟨_, rfl⟩
  refine W_step (δ' := [.dat (ruD m fs bs), .dat (.tuple [nD u, nD l]), .dat (nD m), .dat (nD fs.length), .dat (nD (m ^ fs.length)), s5, .dat (nD u), .dat (nD l), .dat (.str (S (outH (dg m fs bs) N))), .emp, .emp, .emp]) ?_ ?_
  · simp only [↓wr, e_row, lit_]
    refine ⟨.inl (.inl ⟨by omega, by omega⟩), ?_⟩
    rw [show ((u : Int) + 2 * (l : Int) + (fs.length : Int)) = ((N : Nat) : Int) by omega]
    refine W_use (CR.w_row R (N := N) (by omega)) fun d hd => ?_
    subst hd
    simp only [↓wr]
    refine ⟨by rw [List.length_map, List.length_range]; omega, W_calmI (W_use (W_compA (k := fun i => PyData.str (S [dg m fs bs i])) (List.range N) fun i hi => ?_) fun q hq => ?_)⟩
    · simp only [↓wr]
      rw [if_pos (by first | rfl | trivial)]
      have h10 : xs m fs bs i < 10 := by have := xs_lt R i; omega
      refine ⟨?_, ?_⟩
      · rw [Int.natAbs_natCast]
        by_cases z : xs m fs bs i = 0
        · rw [z]; decide
        · exact (Nat.log2_lt z).mpr (Nat.lt_of_lt_of_le h10 (Nat.le_trans (show 10 ≤ 2 ^ 4 by decide) (Nat.pow_le_pow_right (by decide) (by decide))))
      · rw [digit_S h10]
        rfl
    · have e : q = ((List.range N).map (dg m fs bs)).map fun c => PyData.str (S [c]) := by rw [hq, List.map_map]; rfl
      rw [e, mJoin_signs (by rw [List.length_map, List.length_range]; omega), x_ret]
      rfl
  have hO : (outH (dg m fs bs) N).length = N := by unfold outH; rw [List.length_map, List.length_range]
  refine W_step (δ' := [.dat (ruD m fs bs), .dat (.tuple [nD u, nD l]), .dat (nD m), .dat (nD fs.length), .dat (nD (m ^ fs.length)), s5, .dat (nD u), .dat (nD l), .dat (.str (S (outH (dg m fs bs) N))), .emp, .emp, .emp]) ?_ ?_
  · simp only [↓wr]
    rw [cut_mid _ (by omega) (by omega), cut_mid _ (by omega) (by omega)]
    refine ⟨by omega, by omega, ?_⟩
    rw [show ((u : Int) + (l : Int)).toNat = u + l by omega, show ((u : Int) + (l : Int) + (fs.length : Int)).toNat - (u + l) = fs.length by omega, show ((u : Int)).toNat = u by omega, show ((u : Int) + (fs.length : Int)).toNat - u = fs.length by omega,
      drop_outH (by omega), drop_outH (by omega)]
    have e : outT (dg m fs bs) (u + l) fs.length = outT (dg m fs bs) u fs.length := by
      unfold outT dg
      refine List.map_congr_left fun i _ => ?_
      rw [show u + l + i = u + i + l by omega, r.per R (by omega)]
    rw [e, if_neg (by simp)]
    try trivial
  refine W_step (δ' := [.dat (ruD m fs bs), .dat (.tuple [nD u, nD l]), .dat (nD m), .dat (nD fs.length), .dat (nD (m ^ fs.length)), s5, .dat (nD u), .dat (nD l), .dat (.str (S (outH (dg m fs bs) N))), .emp, .emp, .emp]) ?_ ?_
  · simp only [↓wr]
    by_cases c : 0 < u
    · rw [if_pos (by rw [decide_eq_true_eq]; omega)]
      refine ⟨by omega, _, atI_get (by omega) (by omega), by omega, _, atI_get (by omega) (by omega), ?_⟩
      rw [outH_getD (by omega), outH_getD (by omega), show ((u : Int) - 1).toNat = u - 1 by omega, show ((u : Int) - 1 + (l : Int)).toNat = u - 1 + l by omega]
      rw [if_neg (by
        intro z
        have z := of_decide_eq_true z
        have z := (List.cons.inj z).1
        unfold dg at z
        exact r.ahead R c (by omega))]
      try trivial
    · rw [if_neg (by rw [decide_eq_true_eq]; omega), if_neg (by decide)]
      try trivial
  refine W_step (δ' := [.dat (ruD m fs bs), .dat (.tuple [nD u, nD l]), .dat (nD m), .dat (nD fs.length), .dat (nD (m ^ fs.length)), s5, .dat (nD u), .dat (nD l), .dat (.str (S (outH (dg m fs bs) N))), .dat (.str (S (outT (dg m fs bs) u l))), .emp, .emp]) ?_ ?_
  · simp only [↓wr]
    rw [cut_mid _ (by omega) (by omega), show ((u : Int)).toNat = u by omega, show ((u : Int) + (l : Int)).toNat - u = l by omega, drop_outH (by omega)]
    exact ⟨by omega, rfl⟩
  have hT : (outT (dg m fs bs) u l).length = l := by unfold outT; rw [List.length_map, List.length_range]
  have hring : ∀ s, 1 ≤ s → s < l → okSize (outT (dg m fs bs) u l) s = false := fun s h1 h2 => ring_least R r h1 h2
  generalize outT (dg m fs bs) u l = ring at hT hring
  refine W_stepE (fun _ => True) ?_ ?_
  · simp only [↓wr]
    refine ⟨by omega, ⟨by omega, by omega⟩, ?_⟩
    refine W_range ((l : Int) / 2 + 1) (fun k δ => 1 ≤ k ∧ ∃ s10, δ = [.dat (ruD m fs bs), .dat (.tuple [nD u, nD l]), .dat (nD m), .dat (nD fs.length), .dat (nD (m ^ fs.length)), s5, .dat (nD u), .dat (nD l), .dat (.str (S (outH (dg m fs bs) N))), .dat (.str (S ring)), s10, .emp]) ?_ ?_ _ _ _ (by omega) ⟨by omega, _, rfl⟩
    · rintro k δ hk ⟨k1, s10, rfl⟩
      obtain ⟨s, rfl⟩ := Int.eq_ofNat_of_zero_le (show 0 ≤ k by omega)
      have hs := hring s (by omega) (by omega)
      have em : ((l : Int) % (s : Int)) = ((l % s : Nat) : Int) := (Int.natCast_emod _ _).symm
      have ed : ((l : Int) / (s : Int)) = ((l / s : Nat) : Int) := (Int.natCast_ediv _ _).symm
      have hd0 : 0 ≤ ((l / s : Nat) : Int) := Int.natCast_nonneg _
      have hd : l / s ≤ l := Nat.div_le_self _ _
      have hm : (ring.take s).length * (l / s) ≤ 16777216 := by
        rw [List.length_take, Nat.min_eq_left (by omega)]
        exact Nat.le_trans (Nat.mul_div_le _ _) (by omega)
      rw [x_turn10]
      unfold b1__law_is_round
      simp only [↓wr, em, ed, cut_take _ (show (0 : Int) ≤ (s : Int) by omega), Int.toNat_natCast, decide_eq_true_eq]
      refine ⟨by omega, ?_⟩
      by_cases c1 : l % s = 0
      · rw [if_pos (by omega)]
        refine ⟨by omega, by omega, ⟨by omega, by omega, hm⟩, ?_⟩
        rw [if_neg (fun z => by
          have : okSize ring s = true := by simp [okSize, hT, c1, z]
          rw [hs] at this; cases this)]
        exact ⟨by omega, _, rfl⟩
      · rw [if_neg (by omega), if_neg (by simp)]
        exact ⟨by omega, _, rfl⟩
    · rintro δ k hk _
      exact ⟨_, rfl, trivial⟩
  rintro δ -
  simp only [↓wr]
end Lk69
end Q

set_option Elab.async false
set_option linter.all false
set_option maxRecDepth 100000
namespace Q
open PySem PySem.Spec PyProof.Rows L2
namespace Rw
def chkP (m : Nat) : Bool := (List.range m).all fun f => (List.range m).all fun a => (List.range m).all fun b => (List.range m).all fun c => (!decide (0 < f) || !decide ((c + f * a) % m = (c + f * b) % m)) || decide (a = b)
/-- a row by a prime whose last factor is there has no head -/
theorem prime_inj : ∀ (m f a b c : Nat), (m = 2 ∨ m = 3 ∨ m = 5 ∨ m = 7) → 0 < f → f < m → a < m → b < m → (c + f * a) % m = (c + f * b) % m → a = b := by
  intro m f a b c hm hf f1 a1 b1 e
  have hp : 0 < m := by omega
  have hc := Nat.mod_lt c hp
  have e' : (c % m + f * a) % m = (c % m + f * b) % m := by
    rw [Nat.mod_add_mod, Nat.mod_add_mod]
    exact e
  generalize c % m = d at hc e'
  clear e c
  have key : ∀ m, chkP m = true → f < m → a < m → b < m → d < m → (d + f * a) % m = (d + f * b) % m → a = b := fun m hk hf' ha hb hd he => by
    unfold chkP at hk
    have h1 := List.all_eq_true.mp hk f (List.mem_range.mpr hf')
    have h2 := List.all_eq_true.mp h1 a (List.mem_range.mpr ha)
    have h3 := List.all_eq_true.mp h2 b (List.mem_range.mpr hb)
    have h4 := List.all_eq_true.mp h3 d (List.mem_range.mpr hd)
    simp only [Bool.or_eq_true, Bool.not_eq_true', decide_eq_false_iff_not, decide_eq_true_eq] at h4
    rcases h4 with (h4 | h4) | h4
    · exact absurd hf h4
    · exact absurd he h4
    · exact h4
  refine key m ?_ f1 a1 b1 hc e'
  rcases hm with rfl | rfl | rfl | rfl <;> decide +kernel
theorem dotr_split {fi : List Nat} {fl : Nat} {a : Nat} {tl : List Nat} (h : fi.length = tl.length) : dotr (fi ++ [fl]) (a :: tl) = dotr fi tl + fl * a := by
  unfold dotr
  rw [List.reverse_cons, List.zip_append (by rw [List.length_reverse]; exact h), List.map_append, List.sum_append]
  simp
theorem no_head {m : Nat} {fs bs : List Nat} (R : Ru m fs bs) {u l : Nat} (r : Rnd m fs bs u l) (hm : m = 2 ∨ m = 3 ∨ m = 5 ∨ m = 7) (hf : 0 < fs.getD (fs.length - 1) 0) : u = 0 := Classical.byContradiction fun hu => by
  have hu : 0 < u := by omega
  refine r.ahead R hu ?_
  have r1 := R.r1
  obtain ⟨fi, fl, ef⟩ : ∃ fi fl, fs = fi ++ [fl] := ⟨fs.take (fs.length - 1), fs.getD (fs.length - 1) 0, by
    have hne : fs ≠ [] := fun z => by rw [z] at r1; simp at r1
    rw [← drop_last hne, List.take_append_drop]⟩
  have efl : fs.getD (fs.length - 1) 0 = fl := by
    rw [ef, List.length_append, List.length_singleton, Nat.add_sub_cancel, getD_right (Nat.le_refl _), Nat.sub_self]
    rfl
  rw [efl] at hf
  have hfl : fl < m := R.fm fl (by rw [ef]; simp)
  have hlen : fs.length = fi.length + 1 := by rw [ef, List.length_append, List.length_singleton]
  have dec : ∀ n, ∃ tl, stN m fs bs n = xs m fs bs n :: tl ∧ fi.length = tl.length := fun n => by
    have h := st_len R n
    unfold xs
    cases e : stN m fs bs n with
    | nil => rw [e, List.length_nil] at h; omega
    | cons a tl =>
      rw [e, List.length_cons] at h
      exact ⟨tl, rfl, by omega⟩
  obtain ⟨ta, ea, la⟩ := dec (u - 1)
  obtain ⟨tb, eb, lb⟩ := dec (u - 1 + l)
  have hb := r.back
  have s1 : stN m fs bs u = ta ++ [nxt m fs (xs m fs bs (u - 1) :: ta)] := by
    have : stN m fs bs (u - 1 + 1) = (stN m fs bs (u - 1)).tail ++ [nxt m fs (stN m fs bs (u - 1))] := rfl
    rw [show u - 1 + 1 = u by omega, ea] at this
    exact this
  have s2 : stN m fs bs (u + l) = tb ++ [nxt m fs (xs m fs bs (u - 1 + l) :: tb)] := by
    have : stN m fs bs (u - 1 + l + 1) = (stN m fs bs (u - 1 + l)).tail ++ [nxt m fs (stN m fs bs (u - 1 + l))] := rfl
    rw [show u - 1 + l + 1 = u + l by omega, eb] at this
    exact this
  rw [s1, s2] at hb
  obtain ⟨h1, h2⟩ := List.append_inj hb (by omega)
  have h2 := (List.cons.inj h2).1
  subst h1
  unfold nxt at h2
  rw [ef, dotr_split lb, dotr_split lb] at h2
  exact (prime_inj m fl _ _ _ hm hf hfl (xs_lt R _) (xs_lt R _) (by rw [← ef] at h2; exact h2)).symm
theorem inP {m : Nat} (h2 : 2 ≤ m) (h9 : m ≤ 9) : dIn (nD m) (.tuple [.int 2, .int 3, .int 5, .int 7]) = .ret (.bool (decide (m = 2 ∨ m = 3 ∨ m = 5 ∨ m = 7))) := by
  have : m = 2 ∨ m = 3 ∨ m = 4 ∨ m = 5 ∨ m = 6 ∨ m = 7 ∨ m = 8 ∨ m = 9 := by omega
  rcases this with rfl | rfl | rfl | rfl | rfl | rfl | rfl | rfl <;> rfl
theorem mk_bin {m : Nat} {fs bs : List Nat} {v : Int} (n : Nat) : mk m fs bs v n = 48 ∨ mk m fs bs v n = 49 := by
  unfold mk
  split
  · exact .inr rfl
  · exact .inl rfl
/-- the table of a number's places -/
theorem mk_tab {m : Nat} {fs bs : List Nat} (R : Ru m fs bs) {u l : Nat} (r : Rnd m fs bs u l) (v : Int) : ∃ k p, Cn (mk m fs bs v) k p ∧ Tab (outH (mk m fs bs v) k) (outT (mk m fs bs v) k p) := by
  obtain ⟨k, p, c, hk, hp⟩ := cn_ex (mk_ev R r v)
  have hle := r.le R
  have hbig := R.big
  have hl := Nat.le_of_dvd r.pos hp
  have hpos := r.pos
  refine ⟨k, p, c, fun x hx => ?_, fun x hx => ?_, fun z => ?_, ?_, ?_⟩
  · obtain ⟨i, _, rfl⟩ := List.mem_map.mp hx
    exact mk_bin i
  · obtain ⟨i, _, rfl⟩ := List.mem_map.mp hx
    exact mk_bin _
  · have := congrArg List.length z
    rw [outT_len, List.length_nil] at this
    have := c.pos
    omega
  · rw [outH_len]; omega
  · rw [outT_len]; omega
end Rw
namespace Rw
theorem x_ixT {a : List D} {i : Int} {Q : D → Prop} {R : Exn → Prop} (h : ∃ d, atI a i = some d ∧ Q d) : W (dIx (.tuple a) (.int i)) Q R := by
  obtain ⟨d, e, q⟩ := h
  unfold dIx
  dsimp only
  rw [e]
  dsimp only
  rw [x_ret]
  exact q
end Rw
namespace Lk69
open Rw
variable {m : Nat} {fs bs : List Nat} {u l : Nat}
theorem b0 (R : Ru m fs bs) (r : Rnd m fs bs u l) (v : Int) {s2 s4 s8 s10 s11 s12 : Slot} :
    W (b0_law [.emp, .well, s2, .dat (ruD m fs bs), s4, .dat (nD u), .dat (nD l), .dat (.list ((List.range (u + l)).map fun i => nD (xs m fs bs i))), s8, .dat (.int v), s10, s11, s12])
      (fun fl => ∃ s10 s11, fl = .next [.emp, .well, s2, .dat (ruD m fs bs), s4, .dat (nD u), .dat (nD l), .dat (.list ((List.range (u + l)).map fun i => nD (xs m fs bs i))), s8, .dat (.int v), s10, s11, s12]) F := by
  have hle := r.le R
  have hbig := R.big
  have hpos := r.pos
  obtain ⟨k, p, c, T⟩ := mk_tab R r v
  unfold b0_law
  refine W_step (δ' := [.emp, .well, s2, .dat (ruD m fs bs), s4, .dat (nD u), .dat (nD l), .dat (.list ((List.range (u + l)).map fun i => nD (xs m fs bs i))), s8, .dat (.int v), .dat (.str (S (outH (mk m fs bs v) (u + l)))), s11, s12]) ?_ ?_
  · simp only [↓wr, lit_]
    refine ⟨by rw [List.length_map, List.length_range]; omega, W_calmI (W_use (W_compA (k := fun i => PyData.str (S [mk m fs bs v i])) (List.range (u + l)) fun i hi => ?_) fun q hq => ?_)⟩
    · simp only [↓wr, lit_0, lit_1]
      rw [if_pos (by first | rfl | trivial)]
      unfold mk
      by_cases c : (xs m fs bs i : Int) = v
      · rw [if_pos (by simpa using c), if_pos c]
      · rw [if_neg (by simpa using c), if_neg c]
    · have e : q = ((List.range (u + l)).map (mk m fs bs v)).map fun c => PyData.str (S [c]) := by rw [hq, List.map_map]; rfl
      rw [e, mJoin_signs (by rw [List.length_map, List.length_range]; omega), x_ret]
      rfl
  have es : seq (outH (mk m fs bs v) u) (outT (mk m fs bs v) u l) = mk m fs bs v := seq_out hpos (mk_ev R r v).2
  refine W_step (δ' := [.emp, .well, s2, .dat (ruD m fs bs), s4, .dat (nD u), .dat (nD l), .dat (.list ((List.range (u + l)).map fun i => nD (xs m fs bs i))), s8, .dat (.int v), .dat (.str (S (outH (mk m fs bs v) (u + l)))), .dat (Pr (outH (mk m fs bs v) k) (outT (mk m fs bs v) k p)), s12]) ?_ ?_
  · simp only [↓wr, cut_take _ (Int.natCast_nonneg _), cut_drop _ (Int.natCast_nonneg _), Int.toNat_natCast]
    have e1 : (outH (mk m fs bs v) (u + l)).take u = outH (mk m fs bs v) u := by
      unfold outH
      rw [← List.map_take, List.take_range, Nat.min_eq_left (by omega)]
    have e2 : (outH (mk m fs bs v) (u + l)).drop u = outT (mk m fs bs v) u l := by
      rw [← drop_outH (a := mk m fs bs v) (N := u + l) (i := u) (j := l) (Nat.le_refl _), List.take_of_length_le (by rw [List.length_drop, outH_len]; omega)]
    rw [e1, e2]
    refine ⟨by rw [outH_len]; omega, by rw [outH_len]; omega, ?_⟩
    have hne : outT (mk m fs bs v) u l ≠ [] := fun z => by
      have := congrArg List.length z
      rw [outT_len, List.length_nil] at this
      omega
    refine W_use (w_lleast hne (by rw [outT_len]; omega) (by rw [outH_len]; omega) (k := k) (p := p) (by rw [es]; exact c)) fun d hd => ?_
    rw [hd, es]
  simp only [↓wr, e_reads]
  refine W_use (C.w_reads R r c) fun d hd => ?_
  subst hd
  rw [show permL [1, 0] [Slot.dat (.int v), .dat (ruD m fs bs)] = [.dat (ruD m fs bs), .dat (.int v)] from rfl]
  refine W_use (C.w_reads R r c) fun d hd => ?_
  subst hd
  try simp only [↓wr]
  refine ne_pass rfl (rpL (allC T.s5 (all1 T.s5)) (by simp)) ?_
  rw [if_neg (by decide)]
  exact ⟨_, _, rfl⟩
theorem ru4 : Ru 4 [2] [1] := ⟨by omega, by omega, by simp, by simp, rfl, by decide, by decide, by decide⟩
theorem ru2 : Ru 2 [1, 1] [0, 1] := ⟨by omega, by omega, by simp, by simp, rfl, by decide, by decide, by decide⟩
theorem rnd4 : Rnd 4 [2] [1] 2 1 := ⟨by omega, by decide, fun i j h1 h2 => by
  have : (i = 0 ∧ j = 1) ∨ (i = 0 ∧ j = 2) ∨ (i = 1 ∧ j = 2) := by omega
  rcases this with ⟨rfl, rfl⟩ | ⟨rfl, rfl⟩ | ⟨rfl, rfl⟩ <;> decide⟩
theorem rnd2 : Rnd 2 [1, 1] [0, 1] 0 3 := ⟨by omega, by decide, fun i j h1 h2 => by
  have : (i = 0 ∧ j = 1) ∨ (i = 0 ∧ j = 2) ∨ (i = 1 ∧ j = 2) := by omega
  rcases this with ⟨rfl, rfl⟩ | ⟨rfl, rfl⟩ | ⟨rfl, rfl⟩ <;> decide⟩
theorem cn2 : Cn (mk 2 [1, 1] [0, 1] 0) 0 3 := by
  have es : seq (outH (mk 2 [1, 1] [0, 1] 0) 0) (outT (mk 2 [1, 1] [0, 1] 0) 0 3) = mk 2 [1, 1] [0, 1] 0 := seq_out (by omega) (mk_ev ru2 rnd2 0).2
  have e1 : outH (mk 2 [1, 1] [0, 1] 0) 0 = [] := rfl
  have e2 : outT (mk 2 [1, 1] [0, 1] 0) 0 3 = [49, 48, 48] := by decide
  rw [e1, e2] at es
  have c := LT_lit (h := []) (t := [49, 48, 48]) (by simp) (by decide +kernel) (.inl rfl)
  rw [es] at c
  exact c
theorem nDs {n : Nat} (h : n ≤ 10000) : Sm 4 1920 (nD n) := Sm.int (by
  have e30 : (10 : Nat) ^ 30 = 1000000000000000000000000000000 := by decide
  rw [Int.natAbs_natCast]
  omega)
theorem s2D {a b : Nat} (ha : a ≤ 10000) (hb : b ≤ 10000) : Sm 5 12000 (.tuple [nD a, nD b]) := (SmL.cons (nDs ha) (SmL.cons (nDs hb) SmL.nil)).tuple.mono (by omega) (by omega)
theorem b1 {n : Nat} (h9 : 9 ≤ n) (h5 : n ≤ 5000) {s3 s4 s5 s6 s7 s8 s9 s10 s11 s12 : Slot} :
    W (b1_law [.emp, .well, .dat (nD n), s3, s4, s5, s6, s7, s8, s9, s10, s11, s12]) (fun fl => ∃ s3 s4 s5 s6 s7 s8 s9 s10 s11, fl = .next [.emp, .well, .dat (nD n), s3, s4, s5, s6, s7, s8, s9, s10, s11, s12]) F := by
  unfold b1_law
  refine W_stepE (fun δ => ∃ m fs bs, Ru m fs bs ∧ δ = [.emp, .well, .dat (nD n), .dat (ruD m fs bs), s4, s5, s6, s7, s8, s9, s10, s11, s12]) ?_ ?_
  · simp only [↓wr, e_rule]
    refine W_use (CR.w_rule h9 h5) fun d hd => ?_
    obtain ⟨m, fs, bs, rfl, R, _⟩ := hd
    exact ⟨_, rfl, m, fs, bs, R, rfl⟩
  rintro δ ⟨m, fs, bs, R, rfl⟩
  obtain ⟨u, l, r⟩ := rnd_ex R
  have hle := r.le R
  have hbig := R.big
  have hpos := r.pos
  have m2 := R.m2
  have m9 := R.m9
  refine W_step (δ' := [.emp, .well, .dat (nD n), .dat (ruD m fs bs), .dat (.tuple [nD u, nD l]), s5, s6, s7, s8, s9, s10, s11, s12]) ?_ ?_
  · simp only [↓wr, e_round]
    refine W_use (C.w_round_of R r) fun d hd => ?_
    rw [hd]
  refine W_step (δ' := [.emp, .well, .dat (nD n), .dat (ruD m fs bs), .dat (.tuple [nD u, nD l]), s5, s6, s7, s8, s9, s10, s11, s12]) ?_ ?_
  · simp only [↓wr, e_round]
    refine W_use (w_is_round R r) fun d hd => ?_
    subst hd
    simp only [↓wr]
    rw [if_neg (by decide)]
    rw [show permL [0] [Slot.dat (ruD m fs bs)] = [.dat (ruD m fs bs)] from rfl]
    refine W_use (C.w_round_of R r) fun d hd => ?_
    subst hd
    try simp only [↓wr]
    refine ne_pass rfl (rpD (s2D (by omega) (by omega))) ?_
    rw [if_neg (by decide)]
    try trivial
  refine W_step (δ' := [.emp, .well, .dat (nD n), .dat (ruD m fs bs), .dat (.tuple [nD u, nD l]), .dat (nD u), .dat (nD l), s7, s8, s9, s10, s11, s12]) ?_ ?_
  · simp only [↓wr]
    exact ⟨rfl, trivial⟩
  obtain ⟨row, hrow⟩ : ∃ row, row = (List.range (u + l)).map fun i => nD (xs m fs bs i) := ⟨_, rfl⟩
  have rl : row.length = u + l := by rw [hrow, List.length_map, List.length_range]
  refine W_step (δ' := [.emp, .well, .dat (nD n), .dat (ruD m fs bs), .dat (.tuple [nD u, nD l]), .dat (nD u), .dat (nD l), .dat (.list row), s8, s9, s10, s11, s12]) ?_ ?_
  · simp only [↓wr, e_row]
    rw [show ((u : Int) + (l : Int)) = ((u + l : Nat) : Int) by omega]
    refine W_use (CR.w_row R (N := u + l) (by omega)) fun d hd => ?_
    rw [hd, hrow]
  refine W_stepE (fun δ => ∃ ns : List Int, δ = [.emp, .well, .dat (nD n), .dat (ruD m fs bs), .dat (.tuple [nD u, nD l]), .dat (nD u), .dat (nD l), .dat (.list row), .dat (.list (ns.map PyData.int)), s9, s10, s11, s12]) ?_ ?_
  · unfold ruD
    simp only [↓wr]
    refine ⟨⟨⟨by omega, by omega, by omega, by omega⟩, by omega⟩, _, rfl, (List.range m).map fun (i : Nat) => (0 + (i : Int)), ?_⟩
    rw [List.map_map, show ((m : Int) - 0).toNat = m by omega]
    rfl
  rintro δ ⟨ns, rfl⟩
  refine W_stepE (fun δ => ∃ ns : List Int, δ = [.emp, .well, .dat (nD n), .dat (ruD m fs bs), .dat (.tuple [nD u, nD l]), .dat (nD u), .dat (nD l), .dat (.list row), .dat (.list (ns.map PyData.int)), s9, s10, s11, s12]) ?_ ?_
  · unfold ruD
    simp only [↓wr]
    by_cases c : (90 : Int) < (l : Int)
    · rw [if_pos (decide_eq_true c)]
      refine ⟨⟨by omega, by omega⟩, fun r' r0 r1 => ?_⟩
      have hat : ∀ i, i < u + l → row[i]? = some (nD (xs m fs bs i)) := fun i hi => by
        rw [hrow, List.getElem?_map, List.getElem?_range hi]; rfl
      have a1 : ∃ x : Int, atI row 0 = some (.int x) := ⟨_, by rw [atI_nn row (by omega)]; exact hat 0 (by omega)⟩
      have a2 : ∃ x : Int, atI row (-1) = some (.int x) := ⟨_, by rw [atI_neg1 row]; exact hat _ (by omega)⟩
      obtain ⟨x1, q1⟩ := a1
      obtain ⟨x2, q2⟩ := a2
      exact ⟨_, q1, _, q2, _, rfl, [r', x1, x2], rfl⟩
    · rw [if_neg (fun z => c (of_decide_eq_true z))]
      exact ⟨_, rfl, ns, rfl⟩
  clear ns
  rintro δ ⟨ns, rfl⟩
  refine W_stepE (fun δ => ∃ s9 s10 s11, δ = [.emp, .well, .dat (nD n), .dat (ruD m fs bs), .dat (.tuple [nD u, nD l]), .dat (nD u), .dat (nD l), .dat (.list row), .dat (.list (ns.map PyData.int)), s9, s10, s11, s12]) ?_ ?_
  · simp only [↓wr]
    refine W_loop (fun xs δ => (∀ x ∈ xs, ∃ j : Int, x = .int j) ∧ ∃ s9 s10 s11, δ = [.emp, .well, .dat (nD n), .dat (ruD m fs bs), .dat (.tuple [nD u, nD l]), .dat (nD u), .dat (nD l), .dat (.list row), .dat (.list (ns.map PyData.int)), s9, s10, s11, s12]) ?_ ?_ _ _ ⟨fun x hx => (List.mem_map.mp hx).elim fun i hi => ⟨_, hi.2.symm⟩, _, _, _, rfl⟩
    · rintro x xs δ ⟨hx, s9, s10, s11, rfl⟩
      obtain ⟨j, rfl⟩ := hx x List.mem_cons_self
      have hxs := fun y hy => hx y (List.mem_cons_of_mem _ hy)
      rw [x_turn9, hrow]
      refine W_use (b0 R r j) fun fl' h => ?_
      obtain ⟨s10, s11, rfl⟩ := h
      exact ⟨hxs, _, _, _, rfl⟩
    · rintro δ ⟨_, s9, s10, s11, rfl⟩
      exact ⟨_, rfl, _, _, _, rfl⟩
  clear s9 s10 s11
  rintro δ ⟨s9, s10, s11, rfl⟩
  have fin : ∃ s3 s4 s5 s6 s7 s8 s9' s10' s11', Flow.next [.emp, .well, .dat (nD n), .dat (ruD m fs bs), .dat (.tuple [nD u, nD l]), .dat (nD u), .dat (nD l), .dat (.list row), .dat (.list (ns.map PyData.int)), s9, s10, s11, s12] = .next [.emp, .well, .dat (nD n), s3, s4, s5, s6, s7, s8, s9', s10', s11', s12] := ⟨_, _, _, _, _, _, _, _, _, rfl⟩
  unfold ruD at fin ⊢
  simp only [↓wr]
  rw [inP m2 m9]
  simp only [↓wr]
  by_cases c : m = 2 ∨ m = 3 ∨ m = 5 ∨ m = 7
  · rw [if_pos (decide_eq_true c)]
    refine x_ixT ⟨nD (fs.getD (fs.length - 1) 0), ?_, ?_⟩
    · have r1 := R.r1
      rw [atI_neg1, List.length_map, List.getElem?_map, List.getD_eq_getElem?_getD, List.getElem?_eq_getElem (by omega)]
      rfl
    · simp only [↓wr]
      by_cases c2 : 0 < fs.getD (fs.length - 1) 0
      · have := no_head R r c c2
        rw [if_pos (by rw [decide_eq_true_eq]; omega), if_neg (by rw [decide_eq_true_eq]; omega)]
        exact fin
      · rw [if_neg (by rw [decide_eq_true_eq]; omega), if_neg (by decide)]
        exact fin
  · rw [if_neg (fun z => c (of_decide_eq_true z)), if_neg (by decide)]
    exact fin
theorem law_holds : LawOk (m_law (lawEnv 13 1)) := by
  refine LawOk.of ?_
  show W (m_law [.emp, .well, .emp, .emp, .emp, .emp, .emp, .emp, .emp, .emp, .emp, .emp, .emp]) (fun fl => fl = .retn (.bool true)) F
  unfold m_law
  refine W_stepE (fun δ => ∃ s2 s3 s4 s5 s6 s7 s8 s9 s10 s11 s12, δ = [.emp, .well, s2, s3, s4, s5, s6, s7, s8, s9, s10, s11, s12]) ?_ ?_
  · simp only [↓wr, e_pick]
    refine W_use (C.w_pick (by simp) (by simp)) fun d hd => ?_
    have hd' : ∃ n : Nat, d = nD n ∧ 9 ≤ n ∧ n ≤ 5000 := by
      simp only [List.mem_cons, List.not_mem_nil, or_false] at hd
      rcases hd with rfl | rfl | rfl
      · exact ⟨5000, rfl, by omega, by omega⟩
      · exact ⟨2500, rfl, by omega, by omega⟩
      · exact ⟨700, rfl, by omega, by omega⟩
    clear hd
    refine W_loop (fun xs δ => (∀ x ∈ xs, ∃ n : Nat, x = nD n ∧ 9 ≤ n ∧ n ≤ 5000) ∧ ∃ s2 s3 s4 s5 s6 s7 s8 s9 s10 s11 s12, δ = [.emp, .well, s2, s3, s4, s5, s6, s7, s8, s9, s10, s11, s12]) ?_ ?_ _ _ ⟨fun x hx => ?_, _, _, _, _, _, _, _, _, _, _, _, rfl⟩
    · rintro x xs δ ⟨hx, s2, s3, s4, s5, s6, s7, s8, s9, s10, s11, s12, rfl⟩
      obtain ⟨n, rfl, n9, n5⟩ := hx x List.mem_cons_self
      have hxs := fun y hy => hx y (List.mem_cons_of_mem _ hy)
      rw [x_turn2]
      refine W_use (b1 n9 n5) fun fl' h => ?_
      obtain ⟨s3, s4, s5, s6, s7, s8, s9, s10, s11, rfl⟩ := h
      exact ⟨hxs, _, _, _, _, _, _, _, _, _, _, _, rfl⟩
    · rintro δ ⟨_, s2, s3, s4, s5, s6, s7, s8, s9, s10, s11, s12, rfl⟩
      exact ⟨_, rfl, _, _, _, _, _, _, _, _, _, _, _, rfl⟩
    · simp only [List.mem_cons, List.not_mem_nil, or_false] at hx
      rcases hx with rfl | rfl | rfl | rfl | rfl
      · exact hd'
      · exact ⟨343, rfl, by omega, by omega⟩
      · exact ⟨81, rfl, by omega, by omega⟩
      · exact ⟨81, rfl, by omega, by omega⟩
      · exact ⟨9, rfl, by omega, by omega⟩
  rintro δ ⟨s2, s3, s4, s5, s6, s7, s8, s9, s10, s11, s12, rfl⟩
  have q1 : (PyData.tuple [.int 4, .tuple [.int 2], .tuple [.int 1]] : D) = ruD 4 [2] [1] := rfl
  have q2 : (PyData.tuple [.int 2, .tuple [.int 1, .int 1], .tuple [.int 0, .int 1]] : D) = ruD 2 [1, 1] [0, 1] := rfl
  simp only [↓wr, e_round, e_reads]
  rw [q1]
  refine W_use (C.w_round_of ru4 rnd4) fun d hd => ?_
  subst hd
  try simp only [↓wr]
  have e3 : dEq (.tuple [nD 2, nD 1]) (.tuple [.int 2, .int 1]) = .ret (.bool true) := by
    have := dEq_s5 (s2D (a := 2) (b := 1) (by omega) (by omega)) (s2D (a := 2) (b := 1) (by omega) (by omega))
    refine this.trans ?_
    simp [PyData.eqv, PyData.eqvAll]
  rw [e3]
  simp only [↓wr]
  rw [if_pos (by first | rfl | trivial), q2]
  refine W_use (C.w_reads ru2 rnd2 cn2) fun d hd => ?_
  subst hd
  have e4 : outT (mk 2 [1, 1] [0, 1] 0) 0 3 = [49, 48, 48] := by decide
  have l100 : Str.ofString "100" = S [49, 48, 48] := by rfl
  rw [e4, lit_, l100]
  have T : Tab [] [49, 48, 48] := ⟨Bin.nil, fun x hx => by simp at hx; omega, by simp, by simp, by simp⟩
  have e5 : dEq (Pr (outH (mk 2 [1, 1] [0, 1] 0) 0) [49, 48, 48]) (.tuple [.str (S []), .str (S [49, 48, 48])]) = .ret (.bool true) := by
    refine (dEq_s5 T.s5 T.s5).trans ?_
    simp [PyData.eqv, PyData.eqvAll]
  rw [e5]
  simp only [↓wr]
end Lk69
end Q

set_option Elab.async false
set_option linter.all false
set_option maxRecDepth 100000
set_option maxHeartbeats 4000000
namespace Q
namespace Lk69
open PySem PySem.Spec PyProof.Rows L2
section
variable [WellKind] {T : List (Addr × Str)} {P : Program} {w : World} {K : PySem.W.Frag} {mg : Str → Option Value} {base : Heap}
theorem g_least_turn {a : Addr} {fd : FuncData} (F : Fun K "least_turn" "least_turn" s_least_turn a fd) (z_range : mg "range" = none) (z_len : mg "len" = none) : GOk false P w K mg base 1 a fd ["turn"] (spM K mg 1 f_least_turn) := by
  refine fn_pure (k := 0) F sc_least_turn rfl fun X E hP hw hK hmg hb hN hsc hfn hX gd => ?_
  obtain ⟨cdv, A, outer, s, H, hcv, rfl⟩ := hX
  exact (qss_cons (qs_for gd.pown rfl (qi_range2 z_range (qb_cons (QE.bb qe_int) (qb_cons (QE.bb (qe_callB qc_len z_len bt_len (qb_cons (QE.bb (qe_var 0)) qb_nil))) qb_nil))) (qg_name 1 sc_least_turn.nd) (qss_one (qs_if (qt_w (qw_and (qt_cmp (qo_eq gd.room.units) (QE.bb (qe_bin qo_mod (QE.bb (qe_callB qc_len z_len bt_len (qb_cons (QE.bb (qe_var 0)) qb_nil))) (QE.bb (qe_var 1)))) (QE.bb qe_int) (by rfl)) (qw_and1 (qt_cmp (qo_eq gd.room.units) (QE.bb (qe_bin qo_mul (QE.bb (qe_sl (QE.bb (qe_var 0)) qo_none (qo_some (qe_var 1)))) (QE.bb (qe_bin qo_fdiv (QE.bb (qe_callB qc_len z_len bt_len (qb_cons (QE.bb (qe_var 0)) qb_nil))) (QE.bb (qe_var 1)))))) (QE.bb (qe_var 0)) (by rfl))))) (qss_one (qs_ret (qe_sl (QE.bb (qe_var 0)) qo_none (qo_some (qe_var 1))))) qss_nil)))
    (qss_one (qs_ret (qe_var 0))))
theorem g_least {a : Addr} {fd : FuncData} (F : Fun K "least" "least" s_least a fd) {a_least_turn : Addr} {fd_least_turn : FuncData} (F_least_turn : Fun K "least_turn" "least_turn" s_least_turn a_least_turn fd_least_turn) (h_least_turn : mg "least_turn" = some (.ref a_least_turn)) (b_least_turn : Binds K fd_least_turn ["turn"] []) (G_least_turn : GOk false P w K mg base 1 a_least_turn fd_least_turn ["turn"] (spM K mg 1 f_least_turn)) (z_len : mg "len" = none) : GOk false P w K mg base 2 a fd ["table"] (spM K mg 1 f_least) := by
  refine fn_pure (k := 1) F sc_least rfl fun X E hP hw hK hmg hb hN hsc hfn hX gd => ?_
  obtain ⟨cdv, A, outer, s, H, hcv, rfl⟩ := hX
  exact (qss_cons (qs_par2 1 2 rfl sc_least.nd (ql_cons (qe_ix (QE.bb (qe_var 0)) (QE.bb qe_int)) (ql_cons (qe_call G_least_turn (gd.mono (by decide)) h_least_turn F_least_turn.kp b_least_turn (qa_cons (qe_ix (QE.bb (qe_var 0)) (QE.bb qe_int)) qa_nil)) ql_nil)))
    (qss_cons (qs_set 3 sc_least.nd (qe_callB qc_len z_len bt_len (qb_cons (QE.bb (qe_var 1)) qb_nil)))
    (qss_cons (qs_while 1000000000000 gd.pown (qt_w (qw_and (qt_cmp qo_gt (QE.bb (qe_var 3)) (QE.bb qe_int) (by rfl)) (qw_and1 (qt_cmp (qo_eq gd.room.units) (QE.bb (qe_ix (QE.bb (qe_var 1)) (QE.bb (qe_bin qo_sub (QE.bb (qe_var 3)) (QE.bb qe_int))))) (QE.bb (qe_ix (QE.bb (qe_var 2)) (QE.bb (qe_bin qo_mod (QE.bb (qe_bin qo_sub (QE.bb (qe_bin qo_sub (QE.bb (qe_var 3)) (QE.bb qe_int))) (QE.bb (qe_callB qc_len z_len bt_len (qb_cons (QE.bb (qe_var 1)) qb_nil))))) (QE.bb (qe_callB qc_len z_len bt_len (qb_cons (QE.bb (qe_var 2)) qb_nil))))))) (by rfl))))) (qss_one (qs_set 3 sc_least.nd (qe_bin qo_sub (QE.bb (qe_var 3)) (QE.bb qe_int)))))
    (qss_cons (qs_set 4 sc_least.nd (qe_bin qo_mod (QE.bb (qe_bin qo_sub (QE.bb (qe_var 3)) (QE.bb (qe_callB qc_len z_len bt_len (qb_cons (QE.bb (qe_var 1)) qb_nil))))) (QE.bb (qe_callB qc_len z_len bt_len (qb_cons (QE.bb (qe_var 2)) qb_nil)))))
    (qss_one (qs_ret (qe_tup (ql_cons (qe_sl (QE.bb (qe_var 1)) qo_none (qo_some (qe_var 3))) (ql_cons (qe_bin qo_add (QE.bb (qe_sl (QE.bb (qe_var 2)) (qo_some (qe_var 4)) qo_none)) (QE.bb (qe_sl (QE.bb (qe_var 2)) qo_none (qo_some (qe_var 4))))) ql_nil)))))))))
theorem g_next_in {a : Addr} {fd : FuncData} (F : Fun K "next_in" "next_in" s_next_in a fd) (z_sum : mg "sum" = none) (z_zip : mg "zip" = none) : GOk false P w K mg base 1 a fd ["modulus", "factors", "ahead"] (spM K mg 3 f_next_in) := by
  refine fn_pure (k := 0) F sc_next_in rfl fun X E hP hw hK hmg hb hN hsc hfn hX gd => ?_
  obtain ⟨cdv, A, outer, s, H, hcv, rfl⟩ := hX
  exact (qss_one (qs_ret (qe_bin qo_mod (QE.bb (qe_callB (qc_sum rfl) z_sum bt_sum (qb_cons (QE.bb (qf_e (qf_comp (own := [("factor", 3), ("one", 4)]) rfl sc_next_in.nd (qi_zipX z_zip (ql_cons (qe_var 1) (ql_cons (qe_revX (qe_var 2)) ql_nil))) (blkOk_by (own := [("factor", 3), ("one", 4)]) (N := n_next_in) (sc := defScope s_next_in) (by decide +kernel)) (fun s0 H0 C0 cl0 fp0 => (qg_tup rfl (qgs_cons (qg_name 3 sc_next_in.nd) (qgs_cons (qg_name 4 sc_next_in.nd) qgs_nil)))) (fun s0 H0 C0 cl0 fp0 => qts_nil) (fun s0 H0 C0 cl0 fp0 => (qe_bin qo_mul (QE.bb (qe_var 3)) (QE.bb (qe_var 4))))))) qb_nil))) (QE.bb (qe_var 0)))))
theorem g_walked_round (hT : WellKind.T = []) {a : Addr} {fd : FuncData} (F : Fun K "walked_round" "walked_round" s_walked_round a fd) {a_next_in : Addr} {fd_next_in : FuncData} (F_next_in : Fun K "next_in" "next_in" s_next_in a_next_in fd_next_in) (h_next_in : mg "next_in" = some (.ref a_next_in)) (b_next_in : Binds K fd_next_in ["modulus", "factors", "ahead"] []) (G_next_in : GOk false P w K mg base 1 a_next_in fd_next_in ["modulus", "factors", "ahead"] (spM K mg 3 f_next_in)) (z_len : mg "len" = none) : GOk false P w K mg base 2 a fd ["rule"] (spM K mg 1 f_walked_round) := by
  refine GOk.of (k := 1) F sc_walked_round (fun vs H Q E h => spM_len h) fun cdv hcv A outer s H vs Q E hr hg h => ?_
  obtain ⟨wa, ss, h1, h2, h3, ht, h4⟩ := h
  have gd : Good false (cxOf (L2.CX P w) P w K mg base n_walked_round "walked_round" (defScope s_walked_round) a cdv A outer s H E) E 1 :=
    ⟨rfl, hr, hg, L2.passes_of rfl, L2.passes_call (L2.takes_of rfl rfl rfl rfl) fun _ _ _ _ z => z, L2.takes_of rfl rfl rfl rfl⟩
  have nd := sc_walked_round.nd
  have hu := Nat.lt_of_le_of_lt (Nat.add_le_add_left (show 1 ≤ 64 by decide) _) hr.units
  refine ⟨_, pss_cons (ps_asg (pv 0) (pg_tup rfl (pgs_cons (pg_name (i := 1) nd rfl (.inl rfl)) (pgs_cons (pg_name (i := 2) nd rfl (.inl rfl)) (pgs_cons (pg_name (i := 3) nd rfl (.inl rfl)) pgs_nil)))))
    (pss_cons (ps_par (i := 4) (j := 5) rfl nd rfl rfl (by decide) rfl rfl (pa_cons pe_dxnew (pa_cons (pe_lst pa_nil) pa_nil)) rfl rfl)
    (pss_cons (ps_while gd.pown (pt_cmpR (op_dxNotIn hu) (pv 3) (pv 4) (by rfl))
      (pss_cons (ps_asg (pe_callB call_len_seq (by rfl) z_len bt_len (pa_cons (pv 5) pa_nil)) (pg_sub (pv 4) (pv 3) (set_dx hu)))
      (pss_cons (ps_expr (pe_bm PySem.F.plainAttrs_list PySem.F.slot_list_append PySem.F.type_list_append mt_append (pv 5) (pa_cons (pe_ix ix_tup (pv 3) pe_int (fun _ _ => rfl)) pa_nil)))
      (pss_one (ps_set (i := 3) nd rfl (.inl rfl) (QE.pe (E := E) (qe_tup (ql_star (qe_sl (QE.bb (qe_var 3)) (qo_some qe_int) qo_none) (ql_cons (qe_call G_next_in (gd.mono (by decide)) h_next_in F_next_in.kp b_next_in (qa_cons (qe_var 1) (qa_cons (qe_var 2) (qa_cons (qe_var 3) qa_nil)))) ql_nil)))))))))
    (pss_one (ps_fz (i := 5) (ps_ret (pe_tup (pa_cons (pv 5) (pa_cons (pe_dxget hu (pv 4) (pv 3) (fun _ _ => rfl)) pa_nil)))))))), ?_⟩
  unfold f_walked_round walkM at h4
  split at h4
  case h_2 => exact h4.elim
  rename_i m fs bs
  cases e : intsOf bs with
  | none => rw [e] at h4; exact h4.elim
  | some st0 =>
  rw [e] at h4
  dsimp only at h4
  have e := intsOf_eq e
  subst e
  by_cases hl : st0.length ≤ 100
  case neg => rw [if_neg hl] at h4; exact h4.elim
  rw [if_pos hl] at h4
  cases h2 with
  | dat n r =>
  cases r
  cases n with
  | tup hq ha =>
  rename_i p xs
  cases ha with
  | cons n1 ha =>
  cases ha with
  | cons n2 ha =>
  cases ha with
  | cons n3 ha =>
  cases ha
  cases n1
  cases n3 with
  | tup hq3 ha3 =>
  rename_i v2 sa0 ys
  have e := denAll_ints ha3
  subst e
  clear ha3 h1
  refine ⟨.ref p, rfl, p, _, rfl, hq, rfl, _, _, rfl, _, _, rfl, _, _, rfl, rfl, fun dp ndp => ⟨Nat.zero_le _, fun rp nrp => ⟨_, _, rfl, ?_⟩⟩⟩
  have ndr : dp ≠ rp := ne_of_none upd_same nrp
  have nrp0 : H rp = none := by
    cases e : H rp with
    | none => rfl
    | some o => rw [upd_ne (ne_of_none e ndp)] at nrp; rw [e] at nrp; cases nrp
  have wdp : ∀ x, wa = some x → dp ≠ x.a ∧ dp ≠ x.g ∧ dp ≠ x.c := fun x hx => (h3 x hx).none_ne ndp
  have wrp : ∀ x, wa = some x → rp ≠ x.a ∧ rp ≠ x.g ∧ rp ≠ x.c := fun x hx => (h3 x hx).none_ne nrp0
  refine ⟨fun n σ' H' => ∃ (st : List Int) (seen : List (List Int)) (ps : PsX) (sa : Addr), σ' = [some (.ref p), some (.int m), some v2, some (.ref sa), some (.ref dp), some (.ref rp)] ∧ st.length = st0.length ∧ seen.length + n ≤ 1000000 ∧ Grow wa H H' ∧ H' dp = some (DxO P w dp ps) ∧ KeysOk K H' ps ∧
    H' rp = some (.lst (seen.map fun k => V.int (k.headD 0))) ∧ SqT K H' sa (st.map V.int) ∧ ps.length = seen.length ∧ (∀ k, vX ps k = if k ∈ seen then some (idxI k seen : Int) else none) ∧ wp (walkF f_next_in (.int m) fs n st seen) (fun d => ∀ v H', Grow wa H H' → Den K H' v d → Q v H') (XP mg E wa H),
    ⟨1000000, st0, [], [], sa0, rfl, rfl, Nat.le_refl _, grow_upd hT (grow_upd hT (.refl h3) ndp wdp) nrp0 wrp, by rw [upd_ne ndr]; exact upd_same, fun _ z => (nomatch z), upd_same, sqT_fz (sqT_fz hq3 (fz_new' ndp)) (fz_new' nrp), rfl, fun k => rfl, h4⟩, ?_⟩
  rintro n σ' H' ⟨st, seen, ps, sa, rfl, i1, i2, gr, i3, i4, i5, i6, i7, i8, hw⟩
  cases n with
  | zero => exact hw.elim
  | succ n =>
  unfold walkF at hw
  refine ⟨.ref sa, rfl, .ref dp, rfl, dp, sa, ps, st, rfl, rfl, i3, i4, i6, _, rfl, ?_⟩
  have ev := i8 st
  have nn3 : ∀ ps', DxO P w dp ps ≠ .tbl ps' := fun _ z => nomatch z
  by_cases c : st ∈ seen
  · rw [if_pos c] at hw ev
    have ev2 : (!(vX ps st).isSome) = false := by rw [ev]; rfl
    rw [ev2]
    refine iteF ⟨rp, _, rfl, i5, fun o => ?_⟩
    have f2 : Fz H' (upd H' rp (.frz o (.lst (seen.map fun k => V.int (k.headD 0))))) := fz_upd i5 (fun _ z => nomatch z) fun _ _ z => nomatch z
    have g2 : Grow wa H (upd H' rp (.frz o (.lst (seen.map fun k => V.int (k.headD 0))))) := grow_upd hT gr nrp0 wrp
    have r2 : upd H' rp (.frz o (.lst (seen.map fun k => V.int (k.headD 0)))) rp = some (.frz o (.lst (seen.map fun k => V.int (k.headD 0)))) := upd_same
    have d2 : upd H' rp (.frz o (.lst (seen.map fun k => V.int (k.headD 0)))) dp = some (DxO P w dp ps) := by rw [upd_ne ndr]; exact i3
    generalize upd H' rp (.frz o (.lst (seen.map fun k => V.int (k.headD 0)))) = H2 at *
    refine ⟨.ref rp, rfl, .ref dp, rfl, .ref sa, rfl, dp, sa, ps, st, _, rfl, rfl, d2, fun q hq => sqT_fz (i4 q hq) f2, sqT_fz i6 f2, ev, (show 2 ≤ sizeLine by decide), fun p2 np2 => ?_⟩
    have g3 := Grow.new (o := .tup [.ref rp, .int (idxI st seen : Int)]) g2.well np2
    refine hw _ _ (g2.trans g3) (.tup (.of upd_same) (.cons (Den.grow g3 (.lst ⟨o, r2⟩ ?_)) (.cons (.int _) .nil)))
    have := denAll_ofI (K := K) (H := H2) (seen.map fun k => k.headD 0)
    rw [List.map_map, List.map_map] at this
    exact this
  · rw [if_neg c] at hw ev
    have ev2 : (!(vX ps st).isSome) = true := by rw [ev]; rfl
    rw [ev2]
    refine iteT ⟨_, fun σ2 H2 z => ⟨n, Nat.lt_succ_self n, z⟩, ?_⟩
    cases st with
    | nil => rw [if_pos rfl] at hw; exact hw.elim
    | cons x r =>
    rw [if_neg (fun z => nomatch z)] at hw
    have hsz : (1000000 : Nat) < sizeLine := by decide
    refine ⟨.ref rp, rfl, rp, _, rfl, .inl (.of i5), .ref dp, rfl, .ref sa, rfl, dp, sa, ps, x :: r, _, rfl, rfl, rfl, i3, i4, i6, ev, (by omega), ?_⟩
    rw [List.length_map]
    have f2 : Fz H' (upd H' dp (DxO P w dp (ps ++ [(x :: r, sa, (seen.length : Int))]))) := fz_upd i3 (fun _ z => nomatch z) fun _ _ z => nomatch z
    have g2 : Grow wa H (upd H' dp (DxO P w dp (ps ++ [(x :: r, sa, (seen.length : Int))]))) := grow_upd hT gr ndp wdp
    have d2 : upd H' dp (DxO P w dp (ps ++ [(x :: r, sa, (seen.length : Int))])) dp = some (DxO P w dp (ps ++ [(x :: r, sa, (seen.length : Int))])) := upd_same
    have r2 : upd H' dp (DxO P w dp (ps ++ [(x :: r, sa, (seen.length : Int))])) rp = some (.lst (seen.map fun k => V.int (k.headD 0))) := by rw [upd_ne ndr.symm]; exact i5
    have k2 : KeysOk K (upd H' dp (DxO P w dp (ps ++ [(x :: r, sa, (seen.length : Int))]))) (ps ++ [(x :: r, sa, (seen.length : Int))]) := fun q hq => by
      rcases List.mem_append.mp hq with hq | hq
      · exact sqT_fz (i4 q hq) f2
      · have e : q = (x :: r, sa, (seen.length : Int)) := by simpa using hq
        rw [e]
        exact sqT_fz i6 f2
    have s2 := sqT_fz i6 f2
    refine ⟨.ref rp, rfl, .inl ⟨rfl, _, .of r2⟩, .ref sa, rfl, sa, _, 0, .int x, rfl, rfl, s2, atI_nat (j := 0) rfl, rp, _, _, rfl, rfl, r2, by rw [List.length_map]; omega, ?_⟩
    have f3 : Fz (upd H' dp (DxO P w dp (ps ++ [(x :: r, sa, (seen.length : Int))]))) (upd (upd H' dp (DxO P w dp (ps ++ [(x :: r, sa, (seen.length : Int))]))) rp (.lst ((seen.map fun k => V.int (k.headD 0)) ++ [.int x]))) := fz_upd r2 (fun _ z => nomatch z) fun _ _ z => nomatch z
    have g3 : Grow wa H (upd (upd H' dp (DxO P w dp (ps ++ [(x :: r, sa, (seen.length : Int))]))) rp (.lst ((seen.map fun k => V.int (k.headD 0)) ++ [.int x]))) := grow_upd hT g2 nrp0 wrp
    have r3 : upd (upd H' dp (DxO P w dp (ps ++ [(x :: r, sa, (seen.length : Int))]))) rp (.lst ((seen.map fun k => V.int (k.headD 0)) ++ [.int x])) rp = some (.lst ((seen.map fun k => V.int (k.headD 0)) ++ [.int x])) := upd_same
    have d3 : upd (upd H' dp (DxO P w dp (ps ++ [(x :: r, sa, (seen.length : Int))]))) rp (.lst ((seen.map fun k => V.int (k.headD 0)) ++ [.int x])) dp = some (DxO P w dp (ps ++ [(x :: r, sa, (seen.length : Int))])) := by rw [upd_ne ndr]; exact d2
    have k3 : KeysOk K (upd (upd H' dp (DxO P w dp (ps ++ [(x :: r, sa, (seen.length : Int))]))) rp (.lst ((seen.map fun k => V.int (k.headD 0)) ++ [.int x]))) (ps ++ [(x :: r, sa, (seen.length : Int))]) := fun q hq => sqT_fz (k2 q hq) f3
    have s3 := sqT_fz s2 f3
    have rd : RD K wa (upd (upd H' dp (DxO P w dp (ps ++ [(x :: r, sa, (seen.length : Int))]))) rp (.lst ((seen.map fun k => V.int (k.headD 0)) ++ [.int x]))) [some (.ref p), some (.int m), some v2, some (.ref sa), some (.ref dp), some (.ref rp)] [.emp, .dat (.int m), .dat fs, .dat (.tuple ((x :: r).map .int)), .emp, .emp] := by
      refine ⟨fun i s e => ?_, g3.well, rfl, g3.tabs ht⟩
      rcases i with _ | _ | _ | _ | _ | _ | i
      · cases e; trivial
      · cases e; exact ⟨_, rfl, .int m⟩
      · cases e; exact ⟨_, rfl, n2.grow g3⟩
      · cases e; exact ⟨_, rfl, .tup s3 (denAll_ofI (x :: r))⟩
      · cases e; trivial
      · cases e; trivial
      · cases e
    refine ⟨wa, _, rd, ?_⟩
    show wp (M.bind (M.bind (M.bind (f_next_in [.dat (.int m), .dat fs, .dat (.tuple ((x :: r).map .int))]) _) _) mkT) _ _
    refine wp_bind.mpr (wp_bind.mpr (wp_bind.mpr (wp_mono (wp_bind.mp hw) (fun d q => ?_) fun ex z => z.grow g3)))
    cases d <;> first | exact q.elim | skip
    rename_i y
    have ec : cutL ((x :: r).map PyData.int) (some 1) none ++ [PyData.int y] = (r ++ [y]).map PyData.int := by
      rw [cut_drop _ (show (0 : Int) ≤ 1 by decide), List.map_append]
      rfl
    show wp (mkT (cutL ((x :: r).map PyData.int) (some 1) none ++ [PyData.int y])) _ _
    rw [ec]
    unfold mkT
    rw [List.length_cons] at i1
    rw [if_pos (by rw [List.length_map, List.length_append, List.length_singleton]; omega)]
    intro v H4 g4 n4
    cases n4 with
    | tup q4 a4 =>
    rename_i sb zs
    have e := denAll_ints a4
    subst e
    refine ⟨r ++ [y], seen ++ [x :: r], ps ++ [(x :: r, sa, (seen.length : Int))], sb, rfl, by rw [List.length_append, List.length_singleton]; omega, by rw [List.length_append, List.length_singleton]; omega, g3.trans g4,
      g4.keep _ _ d3 (fun _ z => nomatch z) (fun z hz => ⟨(wdp z hz).1, (wdp z hz).2.1⟩), fun q hq => sqT_grow (k3 q hq) g4, ?_, q4, by rw [List.length_append, List.length_append, i7]; rfl, fun k => ?_, q⟩
    · have := g4.keep _ _ r3 (fun _ z => nomatch z) (fun z hz => ⟨(wrp z hz).1, (wrp z hz).2.1⟩)
      rw [this, List.map_append]
      rfl
    · rw [vX_snoc _ _ _ _ _ ev, i8 k]
      by_cases ck : x :: r = k
      · subst ck
        rw [if_pos rfl, if_pos (by simp), idxI_new c]
      · rw [if_neg ck]
        by_cases ck2 : k ∈ seen
        · rw [if_pos ck2, if_pos (List.mem_append_left _ ck2), idxI_at _ ck2]
        · rw [if_neg ck2, if_neg (by
            intro z
            rcases List.mem_append.mp z with z | z
            · exact ck2 z
            · exact ck (List.mem_singleton.mp z).symm)]

theorem g_round_of {a : Addr} {fd : FuncData} (F : Fun K "round_of" "round_of" s_round_of a fd) {a_walked_round : Addr} {fd_walked_round : FuncData} (F_walked_round : Fun K "walked_round" "walked_round" s_walked_round a_walked_round fd_walked_round) (h_walked_round : mg "walked_round" = some (.ref a_walked_round)) (b_walked_round : Binds K fd_walked_round ["rule"] []) (G_walked_round : GOk false P w K mg base 2 a_walked_round fd_walked_round ["rule"] (spM K mg 1 f_walked_round)) (z_len : mg "len" = none) : GOk false P w K mg base 3 a fd ["rule"] (spM K mg 1 f_round_of) := by
  refine fn_pure (k := 2) F sc_round_of rfl fun X E hP hw hK hmg hb hN hsc hfn hX gd => ?_
  obtain ⟨cdv, A, outer, s, H, hcv, rfl⟩ := hX
  exact (qss_cons (qs_asg (qg_tup rfl (qgs_cons (qg_name 1 sc_round_of.nd) (qgs_cons (qg_name 2 sc_round_of.nd) qgs_nil))) (qe_call G_walked_round (gd.mono (by decide)) h_walked_round F_walked_round.kp b_walked_round (qa_cons (qe_var 0) qa_nil)))
    (qss_one (qs_ret (qe_tup (ql_cons (qe_var 2) (ql_cons (qe_bin qo_sub (QE.bb (qe_callB qc_len z_len bt_len (qb_cons (QE.bb (qe_var 1)) qb_nil))) (QE.bb (qe_var 2))) ql_nil))))))
theorem g_reads {a : Addr} {fd : FuncData} (F : Fun K "reads" "reads" s_reads a fd) {a_walked_round : Addr} {fd_walked_round : FuncData} (F_walked_round : Fun K "walked_round" "walked_round" s_walked_round a_walked_round fd_walked_round) (h_walked_round : mg "walked_round" = some (.ref a_walked_round)) (b_walked_round : Binds K fd_walked_round ["rule"] []) (G_walked_round : GOk false P w K mg base 2 a_walked_round fd_walked_round ["rule"] (spM K mg 1 f_walked_round)) {a_least : Addr} {fd_least : FuncData} (F_least : Fun K "least" "least" s_least a_least fd_least) (h_least : mg "least" = some (.ref a_least)) (b_least : Binds K fd_least ["table"] []) (G_least : GOk false P w K mg base 2 a_least fd_least ["table"] (spM K mg 1 f_least)) : GOk false P w K mg base 3 a fd ["rule", "value"] (spM K mg 2 f_reads) := by
  refine fn_pure (k := 2) F sc_reads rfl fun X E hP hw hK hmg hb hN hsc hfn hX gd => ?_
  obtain ⟨cdv, A, outer, s, H, hcv, rfl⟩ := hX
  exact (qss_cons (qs_asg (qg_tup rfl (qgs_cons (qg_name 2 sc_reads.nd) (qgs_cons (qg_name 3 sc_reads.nd) qgs_nil))) (qe_call G_walked_round (gd.mono (by decide)) h_walked_round F_walked_round.kp b_walked_round (qa_cons (qe_var 0) qa_nil)))
    (qss_cons (qs_set 4 sc_reads.nd (qe_m PySem.F.slot_str_join PySem.F.type_str_join qm_join qe_str (qb_cons (QE.bb (qf_e (qf_comp (own := [("one", 5)]) rfl sc_reads.nd (qi_any (qe_var 2)) (blkOk_by (own := [("one", 5)]) (N := n_reads) (sc := defScope s_reads) (by decide +kernel)) (fun s0 H0 C0 cl0 fp0 => (qg_name 5 sc_reads.nd)) (fun s0 H0 C0 cl0 fp0 => qts_nil) (fun s0 H0 C0 cl0 fp0 => (qe_if (qt_cmp (qo_eq (Good.blk gd s0 H0 _ _ fp0).room.units) (QE.bb (qe_var 5)) (QE.bb (qe_var 1)) (by rfl)) qe_str qe_str))))) qb_nil)))
    (qss_one (qs_ret (qe_call G_least (gd.mono (by decide)) h_least F_least.kp b_least (qa_cons (qe_tup (ql_cons (qe_sl (QE.bb (qe_var 4)) qo_none (qo_some (qe_var 3))) (ql_cons (qe_sl (QE.bb (qe_var 4)) (qo_some (qe_var 3)) qo_none) ql_nil))) qa_nil))))))
theorem g__law_pick {a : Addr} {fd : FuncData} (F : Fun K "_law_pick" "_law_pick" s__law_pick a fd) {a__law_draw : Addr} {fd__law_draw : FuncData} (F__law_draw : Fun K "_law_draw" "_law_draw" s__law_draw a__law_draw fd__law_draw) (h__law_draw : mg "_law_draw" = some (.ref a__law_draw)) (b__law_draw : Binds K fd__law_draw ["_law_deck_here", "_law_many"] []) (G__law_draw : GOk false P w K mg base 1 a__law_draw fd__law_draw ["_law_deck_here", "_law_many"] (spM K mg 2 f__law_draw)) (z_len : mg "len" = none) : GOk false P w K mg base 2 a fd ["_law_deck_here", "_law_items"] (spM K mg 2 f__law_pick) := by
  refine fn_pure (k := 1) F sc__law_pick rfl fun X E hP hw hK hmg hb hN hsc hfn hX gd => ?_
  obtain ⟨cdv, A, outer, s, H, hcv, rfl⟩ := hX
  exact (qss_one (qs_ret (qe_ix (QE.bb (qe_var 1)) (QE.bb (qe_call G__law_draw (gd.mono (by decide)) h__law_draw F__law_draw.kp b__law_draw (qa_well 0 (qa_cons (qe_callB qc_len z_len bt_len (qb_cons (QE.bb (qe_var 1)) qb_nil)) qa_nil)))))))
theorem g__law_whole {a : Addr} {fd : FuncData} (F : Fun K "_law_whole" "_law_whole" s__law_whole a fd) (z_isinstance : mg "isinstance" = none) (z_int : mg "int" = none) (z_bool : mg "bool" = none) : GOk false P w K mg base 1 a fd ["_law_value", "_law_low", "_law_high"] (spM K mg 3 f__law_whole) := by
  refine fn_pure (k := 0) F sc__law_whole rfl fun X E hP hw hK hmg hb hN hsc hfn hX gd => ?_
  obtain ⟨cdv, A, outer, s, H, hcv, rfl⟩ := hX
  exact (qss_one (qs_ret (qe_and (qe_isi kit_int z_isinstance z_int bt_int (QE.bb (qe_var 0))) (qe_and (qe_not (qe_isi kit_bool z_isinstance z_bool bt_bool (QE.bb (qe_var 0)))) (qe_one (qe_chain qo_le qo_le (QE.bb (qe_var 1)) (QE.bb (qe_var 0)) (QE.bb (qe_var 2))))))))
theorem g__law_rule {a : Addr} {fd : FuncData} (F : Fun K "_law_rule" "_law_rule" s__law_rule a fd) {a__law_draw : Addr} {fd__law_draw : FuncData} (F__law_draw : Fun K "_law_draw" "_law_draw" s__law_draw a__law_draw fd__law_draw) (h__law_draw : mg "_law_draw" = some (.ref a__law_draw)) (b__law_draw : Binds K fd__law_draw ["_law_deck_here", "_law_many"] []) (G__law_draw : GOk false P w K mg base 1 a__law_draw fd__law_draw ["_law_deck_here", "_law_many"] (spM K mg 2 f__law_draw)) {a__law_pick : Addr} {fd__law_pick : FuncData} (F__law_pick : Fun K "_law_pick" "_law_pick" s__law_pick a__law_pick fd__law_pick) (h__law_pick : mg "_law_pick" = some (.ref a__law_pick)) (b__law_pick : Binds K fd__law_pick ["_law_deck_here", "_law_items"] []) (G__law_pick : GOk false P w K mg base 2 a__law_pick fd__law_pick ["_law_deck_here", "_law_items"] (spM K mg 2 f__law_pick)) (z_range : mg "range" = none) (z_tuple : mg "tuple" = none) : GOk false P w K mg base 3 a fd ["_law_deck_here", "_law_most"] (spM K mg 2 f__law_rule) := by
  refine fn_pure (k := 2) F sc__law_rule rfl fun X E hP hw hK hmg hb hN hsc hfn hX gd => ?_
  obtain ⟨cdv, A, outer, s, H, hcv, rfl⟩ := hX
  exact (qss_cons (qs_set 2 sc__law_rule.nd (qe_bin qo_add (QE.bb qe_int) (QE.bb (qe_call G__law_draw (gd.mono (by decide)) h__law_draw F__law_draw.kp b__law_draw (qa_well 0 (qa_cons qe_int qa_nil))))))
    (qss_cons (qs_par2 3 4 rfl sc__law_rule.nd (ql_cons qe_int (ql_cons (qe_var 2) ql_nil)))
    (qss_cons (qs_while 1000000000000 gd.pown (qt_w (qw_and (qt_cmp qo_lt (QE.bb (qe_var 3)) (QE.bb qe_int) (by rfl)) (qw_and (qt_cmp qo_le (QE.bb (qe_bin qo_mul (QE.bb (qe_var 4)) (QE.bb (qe_var 2)))) (QE.bb (qe_var 1)) (by rfl)) (qw_and1 (qt_cmp qo_gt (QE.bb (qe_call G__law_draw (gd.mono (by decide)) h__law_draw F__law_draw.kp b__law_draw (qa_well 0 (qa_cons qe_int qa_nil)))) (QE.bb qe_int) (by rfl)))))) (qss_one (qs_par2 3 4 rfl sc__law_rule.nd (ql_cons (qe_bin qo_add (QE.bb (qe_var 3)) (QE.bb qe_int)) (ql_cons (qe_bin qo_mul (QE.bb (qe_var 4)) (QE.bb (qe_var 2))) ql_nil)))))
    (qss_cons (qs_asg (qg_tup rfl (qgs_cons (qg_name 5 sc__law_rule.nd) (qgs_cons (qg_name 6 sc__law_rule.nd) qgs_nil))) (qe_tup (ql_cons (qe_call G__law_draw (gd.mono (by decide)) h__law_draw F__law_draw.kp b__law_draw (qa_well 0 (qa_cons qe_int qa_nil))) (ql_cons (qe_dget2 gd (qe_dct (qps_cons qe_int qe_int (qps_cons qe_int qe_int (qps_cons qe_int qe_int qps_nil)))) (qe_var 2) (qe_var 2) ⟨by rfl, by rfl, by rfl, by rfl⟩) ql_nil))))
    (qss_cons (qs_parF 7 8 rfl sc__law_rule.nd (qf_comp (own := [("_law_k", 9)]) rfl sc__law_rule.nd (qi_range1 z_range (qb_cons (QE.bb (qe_var 3)) qb_nil)) (blkOk_by (own := [("_law_k", 9)]) (N := n__law_rule) (sc := defScope s__law_rule) (by decide +kernel)) (fun s0 H0 C0 cl0 fp0 => (qg_name 9 sc__law_rule.nd)) (fun s0 H0 C0 cl0 fp0 => qts_nil) (fun s0 H0 C0 cl0 fp0 => (qe_call G__law_draw ((Good.blk gd s0 H0 _ _ fp0).mono (by decide)) h__law_draw F__law_draw.kp b__law_draw (qa_well 0 (qa_cons (qe_var 2) qa_nil))))) (qf_e (qf_comp (own := [("_law_k", 9)]) rfl sc__law_rule.nd (qi_range1 z_range (qb_cons (QE.bb (qe_var 3)) qb_nil)) (blkOk_by (own := [("_law_k", 9)]) (N := n__law_rule) (sc := defScope s__law_rule) (by decide +kernel)) (fun s0 H0 C0 cl0 fp0 => (qg_name 9 sc__law_rule.nd)) (fun s0 H0 C0 cl0 fp0 => qts_nil) (fun s0 H0 C0 cl0 fp0 => (qe_call G__law_draw ((Good.blk gd s0 H0 _ _ fp0).mono (by decide)) h__law_draw F__law_draw.kp b__law_draw (qa_well 0 (qa_cons (qe_var 2) qa_nil)))))))
    (qss_cons (qs_if (qt_cmp (qo_eq gd.room.units) (QE.bb (qe_var 5)) (QE.bb qe_int) (by rfl)) (qss_one (qs_put 7 (qe_call G__law_pick (gd.mono (by decide)) h__law_pick F__law_pick.kp b__law_pick (qa_well 0 (qa_cons (qf_e (qf_lst (ql_cons qe_int (ql_cons (qe_bin qo_sub (QE.bb (qe_var 2)) (QE.bb qe_int)) ql_nil)))) qa_nil))) (qe_neg qe_int))) qss_nil)
    (qss_cons (qs_if (qt_cmp (qo_eq gd.room.units) (QE.bb (qe_var 5)) (QE.bb qe_int) (by rfl)) (qss_one (qs_setLcF 7 (hsw := sw_true rfl rfl rfl (by decide +kernel)) (own := [("_law_k", 9)]) rfl sc__law_rule.nd (qi_range1 z_range (qb_cons (QE.bb (qe_var 3)) qb_nil)) (blkOk_by (own := [("_law_k", 9)]) (N := n__law_rule) (sc := defScope s__law_rule) (by decide +kernel)) (fun s0 H0 C0 cl0 fp0 => (qg_name 9 sc__law_rule.nd)) (fun s0 H0 C0 cl0 fp0 => qts_nil) (fun s0 H0 C0 cl0 fp0 => (qe_bin qo_mul (QE.bb (qe_var 6)) (QE.bb (qe_call G__law_draw ((Good.blk gd s0 H0 _ _ fp0).mono (by decide)) h__law_draw F__law_draw.kp b__law_draw (qa_well 0 (qa_cons (qe_bin qo_fdiv (QE.bb (qe_var 2)) (QE.bb (qe_var 6))) qa_nil)))))))) qss_nil)
    (qss_cons (qs_if (qt_cmp (qo_eq gd.room.units) (QE.bb (qe_var 5)) (QE.bb qe_int) (by rfl)) (qss_cons (qs_setF 7 sc__law_rule.nd (qf_mul (QE.bb (qf_e (qf_lst (ql_cons qe_int ql_nil)))) (QE.bb (qe_var 3))))
    (qss_one (qs_put 7 (qe_bin qo_add (QE.bb qe_int) (QE.bb (qe_call G__law_draw (gd.mono (by decide)) h__law_draw F__law_draw.kp b__law_draw (qa_well 0 (qa_cons (qe_bin qo_sub (QE.bb (qe_var 2)) (QE.bb qe_int)) qa_nil))))) (qe_call G__law_draw (gd.mono (by decide)) h__law_draw F__law_draw.kp b__law_draw (qa_well 0 (qa_cons (qe_var 3) qa_nil)))))) qss_nil)
    (qss_cons (qs_if (qt_cmp (qo_eq gd.room.units) (QE.bb (qe_var 5)) (QE.bb qe_int) (by rfl)) (qss_one (qs_set 8 sc__law_rule.nd (qe_bin qo_add (QE.bb (qe_bin qo_mul (QE.bb (qf_e (qf_lst (ql_cons qe_int ql_nil)))) (QE.bb (qe_bin qo_sub (QE.bb (qe_var 3)) (QE.bb qe_int))))) (QE.bb (qf_e (qf_lst (ql_cons qe_int ql_nil))))))) qss_nil)
    (qss_one (qs_ret (qe_tup (ql_cons (qe_var 2) (ql_cons (qe_callTy qc_tuple z_tuple bt_tuple (qb_cons (qb_var 7) qb_nil)) (ql_cons (qe_callTy qc_tuple z_tuple bt_tuple (qb_cons (QE.bb (qe_var 8)) qb_nil)) ql_nil)))))))))))))))
theorem g__law_row {a : Addr} {fd : FuncData} (F : Fun K "_law_row" "_law_row" s__law_row a fd) (z_list : mg "list" = none) (z_len : mg "len" = none) (z_int : mg "int" = none) (z_sum : mg "sum" = none) (z_zip : mg "zip" = none) : GOk false P w K mg base 1 a fd ["_law_rule_here", "_law_many"] (spM K mg 2 f__law_row) := by
  refine fn_pure (k := 0) F sc__law_row rfl fun X E hP hw hK hmg hb hN hsc hfn hX gd => ?_
  obtain ⟨cdv, A, outer, s, H, hcv, rfl⟩ := hX
  exact (qss_cons (qs_asg (qg_tup rfl (qgs_cons (qg_name 2 sc__law_row.nd) (qgs_cons (qg_name 3 sc__law_row.nd) (qgs_cons (qg_name 4 sc__law_row.nd) qgs_nil)))) (qe_var 0))
    (qss_cons (qs_setF 5 sc__law_row.nd (qf_listOf z_list (qb_cons (QE.bb (qe_var 4)) qb_nil)))
    (qss_cons (qs_while 1000000000000 gd.pown (qt_cmp qo_lt (QE.bb (qe_callB qc_len z_len bt_len (qb_cons (qb_var 5) qb_nil))) (QE.bb (qe_var 1)) (by rfl)) (qss_cons (qs_set 6 sc__law_row.nd (qe_revX (qe_sl (qb_var 5) (qo_some (qe_neg (qe_callB qc_len z_len bt_len (qb_cons (QE.bb (qe_var 3)) qb_nil)))) qo_none)))
    (qss_one (qs_app 5 (qe_bin qo_mod (QE.bb (qe_callTy qc_int z_int bt_int (qb_cons (QE.bb (qe_callB (qc_sum rfl) z_sum bt_sum (qb_cons (QE.bb (qf_e (qf_comp (own := [("_law_one", 7), ("_law_other", 8)]) rfl sc__law_row.nd (qi_zipX z_zip (ql_cons (qe_var 3) (ql_cons (qe_var 6) ql_nil))) (blkOk_by (own := [("_law_one", 7), ("_law_other", 8)]) (N := n__law_row) (sc := defScope s__law_row) (by decide +kernel)) (fun s0 H0 C0 cl0 fp0 => (qg_tup rfl (qgs_cons (qg_name 7 sc__law_row.nd) (qgs_cons (qg_name 8 sc__law_row.nd) qgs_nil)))) (fun s0 H0 C0 cl0 fp0 => qts_nil) (fun s0 H0 C0 cl0 fp0 => (qe_bin qo_mul (QE.bb (qe_var 7)) (QE.bb (qe_var 8))))))) qb_nil))) qb_nil))) (QE.bb (qe_var 2)))))))
    (qss_one (qs_ret (qe_sl (qb_var 5) qo_none (qo_some (qe_var 1))))))))
theorem g__law_least {a : Addr} {fd : FuncData} (F : Fun K "_law_least" "_law_least" s__law_least a fd) (z_len : mg "len" = none) (z_range : mg "range" = none) (z_int : mg "int" = none) : GOk false P w K mg base 1 a fd ["_law_head", "_law_turn"] (spM K mg 2 f__law_least) := by
  refine fn_pure (k := 0) F sc__law_least rfl fun X E hP hw hK hmg hb hN hsc hfn hX gd => ?_
  obtain ⟨cdv, A, outer, s, H, hcv, rfl⟩ := hX
  exact (qss_cons (qs_set 2 sc__law_least.nd (qe_callB qc_len z_len bt_len (qb_cons (QE.bb (qe_var 1)) qb_nil)))
    (qss_cons (qs_for gd.pown rfl (qi_range2 z_range (qb_cons (QE.bb qe_int) (qb_cons (QE.bb (qe_bin qo_add (QE.bb (qe_var 2)) (QE.bb qe_int))) qb_nil))) (qg_name 3 sc__law_least.nd) (qss_one (qs_if (qt_w (qw_and (qt_cmp (qo_eq gd.room.units) (QE.bb (qe_bin qo_mod (QE.bb (qe_callTy qc_int z_int bt_int (qb_cons (QE.bb (qe_var 2)) qb_nil))) (QE.bb (qe_var 3)))) (QE.bb qe_int) (by rfl)) (qw_and1 (qt_cmp (qo_eq gd.room.units) (QE.bb (qe_bin qo_mul (QE.bb (qe_sl (QE.bb (qe_var 1)) qo_none (qo_some (qe_var 3)))) (QE.bb (qe_bin qo_fdiv (QE.bb (qe_var 2)) (QE.bb (qe_var 3)))))) (QE.bb (qe_var 1)) (by rfl))))) (qss_cons (qs_set 1 sc__law_least.nd (qe_sl (QE.bb (qe_var 1)) qo_none (qo_some (qe_var 3))))
    (qss_one qs_break)) qss_nil)))
    (qss_cons (qs_while 1000000000000 gd.pown (qt_w (qw_and (qt_cmp (qo_ne gd.room.units) (QE.bb (qe_var 0)) (QE.bb qe_str) (by rfl)) (qw_and1 (qt_cmp (qo_eq gd.room.units) (QE.bb (qe_ix (QE.bb (qe_var 0)) (QE.bb (qe_neg qe_int)))) (QE.bb (qe_ix (QE.bb (qe_var 1)) (QE.bb (qe_neg qe_int)))) (by rfl))))) (qss_one (qs_par2 0 1 rfl sc__law_least.nd (ql_cons (qe_sl (QE.bb (qe_var 0)) qo_none (qo_some (qe_neg qe_int))) (ql_cons (qe_bin qo_add (QE.bb (qe_ix (QE.bb (qe_var 1)) (QE.bb (qe_neg qe_int)))) (QE.bb (qe_sl (QE.bb (qe_var 1)) qo_none (qo_some (qe_neg qe_int))))) ql_nil)))))
    (qss_one (qs_ret (qe_tup (ql_cons (qe_var 0) (ql_cons (qe_var 1) ql_nil))))))))
theorem g__law_is_round {a : Addr} {fd : FuncData} (F : Fun K "_law_is_round" "_law_is_round" s__law_is_round a fd) {a__law_whole : Addr} {fd__law_whole : FuncData} (F__law_whole : Fun K "_law_whole" "_law_whole" s__law_whole a__law_whole fd__law_whole) (h__law_whole : mg "_law_whole" = some (.ref a__law_whole)) (b__law_whole : Binds K fd__law_whole ["_law_value", "_law_low", "_law_high"] []) (G__law_whole : GOk false P w K mg base 1 a__law_whole fd__law_whole ["_law_value", "_law_low", "_law_high"] (spM K mg 3 f__law_whole)) {a__law_row : Addr} {fd__law_row : FuncData} (F__law_row : Fun K "_law_row" "_law_row" s__law_row a__law_row fd__law_row) (h__law_row : mg "_law_row" = some (.ref a__law_row)) (b__law_row : Binds K fd__law_row ["_law_rule_here", "_law_many"] []) (G__law_row : GOk false P w K mg base 1 a__law_row fd__law_row ["_law_rule_here", "_law_many"] (spM K mg 2 f__law_row)) (z_len : mg "len" = none) (z_range : mg "range" = none) (z_isinstance : mg "isinstance" = none) (z_tuple : mg "tuple" = none) (z_str : mg "str" = none) (z_int : mg "int" = none) : GOk false P w K mg base 2 a fd ["_law_rule_here", "_law_value"] (spM K mg 2 f__law_is_round) := by
  refine fn_pure (k := 1) F sc__law_is_round rfl fun X E hP hw hK hmg hb hN hsc hfn hX gd => ?_
  obtain ⟨cdv, A, outer, s, H, hcv, rfl⟩ := hX
  exact (qss_cons (qs_par3 2 3 4 rfl sc__law_is_round.nd (ql_cons (qe_ix (QE.bb (qe_var 0)) (QE.bb qe_int)) (ql_cons (qe_callB qc_len z_len bt_len (qb_cons (QE.bb (qe_ix (QE.bb (qe_var 0)) (QE.bb qe_int))) qb_nil)) (ql_cons qe_int ql_nil))))
    (qss_cons (qs_for gd.pown rfl (qi_range1 z_range (qb_cons (QE.bb (qe_var 3)) qb_nil)) (qg_name 5 sc__law_is_round.nd) (qss_one (qs_set 4 sc__law_is_round.nd (qe_bin qo_mul (QE.bb (qe_var 4)) (QE.bb (qe_var 2))))))
    (qss_cons (qs_if (qt_w (qw_or (qt_not (qt_val (qe_isi kit_tuple z_isinstance z_tuple bt_tuple (QE.bb (qe_var 1))))) (qw_or1 (qt_cmp (qo_ne gd.room.units) (QE.bb (qe_callB qc_len z_len bt_len (qb_cons (QE.bb (qe_var 1)) qb_nil))) (QE.bb qe_int) (by rfl))))) (qss_one (qs_ret qe_bl)) qss_nil)
    (qss_cons (qs_asg (qg_tup rfl (qgs_cons (qg_name 6 sc__law_is_round.nd) (qgs_cons (qg_name 7 sc__law_is_round.nd) qgs_nil))) (qe_var 1))
    (qss_cons (qs_if (qt_w (qw_or (qt_not (qt_val (qe_call G__law_whole (gd.mono (by decide)) h__law_whole F__law_whole.kp b__law_whole (qa_cons (qe_var 6) (qa_cons qe_int (qa_cons (qe_var 4) qa_nil)))))) (qw_or (qt_not (qt_val (qe_call G__law_whole (gd.mono (by decide)) h__law_whole F__law_whole.kp b__law_whole (qa_cons (qe_var 7) (qa_cons qe_int (qa_cons (qe_var 4) qa_nil)))))) (qw_or1 (qt_cmp qo_gt (QE.bb (qe_bin qo_add (QE.bb (qe_var 6)) (QE.bb (qe_var 7)))) (QE.bb (qe_var 4)) (by rfl)))))) (qss_one (qs_ret qe_bl)) qss_nil)
    (qss_cons (qs_set 8 sc__law_is_round.nd (qe_m PySem.F.slot_str_join PySem.F.type_str_join qm_join qe_str (qb_cons (QE.bb (qf_e (qf_comp (own := [("_law_one", 11)]) rfl sc__law_is_round.nd (qi_any (qe_call G__law_row (gd.mono (by decide)) h__law_row F__law_row.kp b__law_row (qa_cons (qe_var 0) (qa_cons (qe_bin qo_add (QE.bb (qe_bin qo_add (QE.bb (qe_var 6)) (QE.bb (qe_bin qo_mul (QE.bb qe_int) (QE.bb (qe_var 7)))))) (QE.bb (qe_var 3))) qa_nil)))) (blkOk_by (own := [("_law_one", 11)]) (N := n__law_is_round) (sc := defScope s__law_is_round) (by decide +kernel)) (fun s0 H0 C0 cl0 fp0 => (qg_name 11 sc__law_is_round.nd)) (fun s0 H0 C0 cl0 fp0 => qts_nil) (fun s0 H0 C0 cl0 fp0 => (qe_callTy qc_str z_str bt_str (qb_cons (QE.bb (qe_var 11)) qb_nil)))))) qb_nil)))
    (qss_cons (qs_if (qt_cmp (qo_ne gd.room.units) (QE.bb (qe_sl (QE.bb (qe_var 8)) (qo_some (qe_bin qo_add (QE.bb (qe_var 6)) (QE.bb (qe_var 7)))) (qo_some (qe_bin qo_add (QE.bb (qe_bin qo_add (QE.bb (qe_var 6)) (QE.bb (qe_var 7)))) (QE.bb (qe_var 3)))))) (QE.bb (qe_sl (QE.bb (qe_var 8)) (qo_some (qe_var 6)) (qo_some (qe_bin qo_add (QE.bb (qe_var 6)) (QE.bb (qe_var 3)))))) (by rfl)) (qss_one (qs_ret qe_bl)) qss_nil)
    (qss_cons (qs_if (qt_w (qw_and (qt_cmp qo_gt (QE.bb (qe_var 6)) (QE.bb qe_int) (by rfl)) (qw_and1 (qt_cmp (qo_eq gd.room.units) (QE.bb (qe_ix (QE.bb (qe_var 8)) (QE.bb (qe_bin qo_sub (QE.bb (qe_var 6)) (QE.bb qe_int))))) (QE.bb (qe_ix (QE.bb (qe_var 8)) (QE.bb (qe_bin qo_add (QE.bb (qe_bin qo_sub (QE.bb (qe_var 6)) (QE.bb qe_int))) (QE.bb (qe_var 7)))))) (by rfl))))) (qss_one (qs_ret qe_bl)) qss_nil)
    (qss_cons (qs_set 9 sc__law_is_round.nd (qe_sl (QE.bb (qe_var 8)) (qo_some (qe_var 6)) (qo_some (qe_bin qo_add (QE.bb (qe_var 6)) (QE.bb (qe_var 7))))))
    (qss_cons (qs_for gd.pown rfl (qi_range2 z_range (qb_cons (QE.bb qe_int) (qb_cons (QE.bb (qe_bin qo_add (QE.bb (qe_bin qo_fdiv (QE.bb (qe_var 7)) (QE.bb qe_int))) (QE.bb qe_int))) qb_nil))) (qg_name 10 sc__law_is_round.nd) (qss_one (qs_if (qt_w (qw_and (qt_cmp (qo_eq gd.room.units) (QE.bb (qe_bin qo_mod (QE.bb (qe_callTy qc_int z_int bt_int (qb_cons (QE.bb (qe_var 7)) qb_nil))) (QE.bb (qe_var 10)))) (QE.bb qe_int) (by rfl)) (qw_and1 (qt_cmp (qo_eq gd.room.units) (QE.bb (qe_bin qo_mul (QE.bb (qe_sl (QE.bb (qe_var 9)) qo_none (qo_some (qe_var 10)))) (QE.bb (qe_bin qo_fdiv (QE.bb (qe_var 7)) (QE.bb (qe_var 10)))))) (QE.bb (qe_var 9)) (by rfl))))) (qss_one (qs_ret qe_bl)) qss_nil)))
    (qss_one (qs_ret qe_bl))))))))))))
omit [WellKind] in
theorem g__law_draw {a : Addr} {fd : FuncData} (F : Fun K "_law_draw" "_law_draw" s__law_draw a fd) (z_int : mg "int" = none) (z_len : mg "len" = none) : haveI := WK5 T; GOk false P w K mg base 1 a fd ["_law_deck_here", "_law_many"] (spM K mg 2 drawM) := by
  letI : WellKind := WK5 T
  refine GOk.of (k := 0) F sc__law_draw (fun vs H Q E h => spM_len h) fun cdv _ A outer s H vs Q E hr hg h => ?_
  obtain ⟨x, n, rfl, hw, ⟨n0, n1⟩, q⟩ := spM_draw h
  have nd := sc__law_draw.nd
  have hu := Nat.lt_of_le_of_lt (Nat.add_le_add_left (show 1 ≤ 64 by decide) _) hr.units
  refine ⟨_, pss_cons (ps_par (i := 2) (j := 3) rfl nd rfl rfl (by decide) rfl rfl (pa_cons (pe_dget hu (pv 0) pe_str (fun _ _ => rfl)) (pa_cons (pe_dget hu (pv 0) pe_str (fun _ _ => rfl)) pa_nil)) rfl rfl)
    (pss_cons (ps_if (pt_cmpR (op_neD hr.units) (pv 2) (pe_lst pa_nil) (nomark _))
      (pss_cons (ps_set (i := 4) nd rfl (.inl rfl) (pe_ix ix_list (pv 2) pe_int (fun _ _ => rfl)))
      (pss_cons (ps_asg (pe_op op_fdiv (pv 4) (pv 1)) (pg_sub (pv 2) pe_int set_list))
      (pss_cons (ps_if (pt_cmpR op_eq (pe_ix ix_list (pv 2) pe_int (fun _ _ => rfl)) pe_int (nomark _)) (pss_one (ps_expr (pe_bm PySem.F.plainAttrs_list PySem.F.slot_list_pop PySem.F.type_list_pop mt_popAt (pv 2) (pa_cons pe_int pa_nil)))) pss_nil)
      (pss_one (ps_ret (pe_op op_mod (pe_callTy call_int1 (by rfl) z_int bt_int (pa_cons (pv 4) pa_nil)) (pv 1)))))))
      pss_nil)
    (pss_cons (ps_asg (pe_op op_add (pe_dget hu (pv 0) pe_str (fun _ _ => rfl)) pe_int) (pg_sub (pv 0) pe_str (set_dict hu)))
    (pss_cons (ps_set (i := 5) nd rfl (.inl rfl) (pe_dget hu (pv 0) pe_str (fun _ _ => rfl)))
    (pss_cons (ps_set (i := 6) nd rfl (.inl rfl) (pe_op op_mod (pe_callTy call_int1 (by rfl) z_int bt_int (pa_cons
        (pe_op op_add (pe_op op_add (pe_ix ix_list (pv 3) (pe_op op_mod (pe_callTy call_int1 (by rfl) z_int bt_int (pa_cons (pv 5) pa_nil)) (pe_callB call_len_seq (by rfl) z_len bt_len (pa_cons (pv 3) pa_nil))) (fun _ _ => rfl))
          (pe_op op_mul pe_int (pe_dget hu (pv 0) pe_str (fun _ _ => rfl)))) (pe_op op_mul pe_int (pv 5))) pa_nil)) pe_int))
    (pss_cons (ps_set (i := 6) nd rfl (.inl rfl) (pe_op op_mod (pe_callTy call_int1 (by rfl) z_int bt_int (pa_cons
        (pe_op op_add (pe_op op_mul (pv 6) (pv 6)) (pe_op op_mul pe_int (pv 5))) pa_nil)) pe_int))
    (pss_one (ps_ret (pe_op op_mod (pe_op op_fdiv (pe_op op_mod (pe_callTy call_int1 (by rfl) z_int bt_int (pa_cons (pe_op op_mul (pv 6) (pv 6)) pa_nil)) pe_int) pe_int) (pv 1))))))))), ?_⟩
  obtain ⟨oa, og, oc, ha, hgx, hcx, gs, cs, wh, m, rfl, rfl, rfl, hpos, hne, hgl⟩ := hw.ex
  have dg : ∀ {H' : Hp} {wh m : Int}, H' x.a = some (.dK (dkv x.g x.c wh m)) → DGet H' x.a (.str "great") (some (.ref x.g)) ∧ DGet H' x.a (.str "cells") (some (.ref x.c)) ∧ DGet H' x.a (.str "whole") (some (.int wh)) ∧ DGet H' x.a (.str "mixed") (some (.int m)) := fun e =>
    ⟨DGet.k (k := kGreat) e, DGet.k (k := kCells) e, DGet.k (k := kWhole) e, DGet.k (k := kMixed) e⟩
  refine ⟨.ref x.a, rfl, x.a, _, rfl, (dg ha).1, .ref x.a, rfl, x.a, _, rfl, (dg ha).2.1, _, _, rfl, ?_⟩
  refine ⟨.ref x.g, rfl, Nat.zero_le _, fun p0 np0 => ?_⟩
  have ha0 : upd H p0 (.lst []) x.a = some (.dK (dkv x.g x.c wh m)) := by rw [upd_ne (ne_of_none ha np0)]; exact ha
  have hg0 : upd H p0 (.lst []) x.g = some (.lst (gs.map V.int)) := by rw [upd_ne (ne_of_none hgx np0)]; exact hgx
  have hc0 : upd H p0 (.lst []) x.c = some (.lst (cs.map V.int)) := by rw [upd_ne (ne_of_none hcx np0)]; exact hcx
  have grow : ∀ (H' : Hp) (gs' : List Int) (m' : Int), (∀ b, b ≠ x.a → b ≠ x.g → ∀ o, H b = some o → H' b = some o) → H' x.a = some (.dK (dkv x.g x.c wh m')) → H' x.g = some (.lst (gs'.map V.int)) → (∀ z ∈ gs', 0 ≤ z) → gs'.length ≤ 63 → Grow (some x) H H' := fun H' gs' m' k e1 e2 e3 e4 =>
    ⟨fun b xs e => k b (fun z => by (rw [z, ha] at e; cases e)) (fun z => by (rw [z, hgx] at e; cases e)) _ e, fun b o u e => k b (fun z => by (rw [z, ha] at e; cases e)) (fun z => by (rw [z, hgx] at e; cases e)) _ e,
      fun b o e _ nn => k b (nn x rfl).1 (nn x rfl).2 _ e, (fun y hy => by
        cases hy
        exact ⟨⟨_, _, _, e1, e2, k x.c (Ne.symm hw.ac) (Ne.symm hw.gc) _ hcx, gs', cs, wh, m', rfl, rfl, rfl, e3, hne, e4⟩, hw.ag, hw.ac, hw.gc⟩),
      fun t => t.stay (fun b ps e => k b (fun z => by (rw [z, ha] at e; cases e)) (fun z => by (rw [z, hgx] at e; cases e)) _ e) fun b q e => k b (fun z => by (rw [z, ha] at e; cases e)) (fun z => by (rw [z, hgx] at e; cases e)) _ e⟩
  refine ⟨_, _, .lst (.of hg0) (dp_ints gs), .lst (.of upd_same) .nil, shaped_ints gs, shaped_ints [], _, rfl, ?_⟩
  rw [eqv_nil]
  cases gs with
  | cons z gr =>
    refine iteT ?_
    have hz : 0 ≤ z := hpos z List.mem_cons_self
    have hl : gr.length ≤ 62 := by rw [List.length_cons] at hgl; omega
    have i0 : ∀ y : Int, ixN ((y :: gr).map V.int).length 0 = some 0 := fun y => by
      unfold ixN
      rw [if_pos (by decide), if_pos (by rw [List.length_map, List.length_cons]; omega)]; rfl
    have hd0 : 0 ≤ z / n := Int.ediv_nonneg hz (Int.le_of_lt n0)
    have r0 : 0 ≤ z % n := Int.emod_nonneg z (by omega)
    have r1 : z % n < n := Int.emod_lt_of_pos z n0
    have ag := hw.ag
    have kk : ∀ (o' : HO) b, b ≠ x.a → b ≠ x.g → ∀ o, H b = some o → upd (upd H p0 (.lst [])) x.g o' b = some o := fun o' b _ h2 o e => by rw [upd_ne h2, upd_ne (ne_of_none e np0)]; exact e
    refine ⟨.ref x.g, rfl, x.g, _, 0, .int z, rfl, rfl, .of hg0, atI_nat (j := 0) rfl, ?_⟩
    refine ⟨.int z, rfl, .int n, rfl, z, n, rfl, rfl, ⟨n0, n1⟩, .ref x.g, rfl, x.g, _, 0, 0, rfl, rfl, hg0, i0 z, ?_⟩
    have eg : ((z :: gr).map V.int).set 0 (.int (z / n)) = ((z / n) :: gr).map V.int := rfl
    rw [eg]
    have ha1 : upd (upd H p0 (.lst [])) x.g (.lst (((z / n) :: gr).map V.int)) x.a = some (.dK (dkv x.g x.c wh m)) := by rw [upd_ne ag]; exact ha0
    refine ⟨.ref x.g, rfl, x.g, _, 0, .int (z / n), rfl, rfl, .of upd_same, atI_nat (j := 0) rfl, ?_⟩
    refine ⟨rfl, _, rfl, ite2 (fun hlt => ?_) (fun _ => ?_)⟩
    · refine ⟨.ref x.g, rfl, .inl ⟨rfl, _, .of upd_same⟩, x.g, _, 0, 0, .int (z / n), rfl, rfl, upd_same, by decide, by decide, (ixN_seq (i0 (z / n))).1, rfl, ?_⟩
      rw [upd_upd]
      refine ⟨.int z, rfl, .inl ⟨z, rfl, .int n, rfl, z, n, rfl, rfl, n0, q _ _ r0 r1 (grow _ gr m (kk _) ?_ upd_same (fun y hy => hpos y (List.mem_cons_of_mem _ hy)) (by omega))⟩⟩
      rw [upd_ne ag]; exact ha0
    · exact ⟨.int z, rfl, .inl ⟨z, rfl, .int n, rfl, z, n, rfl, rfl, n0, q _ _ r0 r1 (grow _ ((z / n) :: gr) m (kk _) ha1 upd_same (fun y hy => by
        rcases List.mem_cons.mp hy with rfl | hy
        · exact hd0
        · exact hpos y (List.mem_cons_of_mem _ hy)) (by rw [List.length_cons]; omega))⟩⟩
  | nil =>
    refine iteF ?_
    have eput : putK (dkv x.g x.c wh m) kMixed (.int (m + 1)) = dkv x.g x.c wh (m + 1) := rfl
    refine ⟨.ref x.a, rfl, x.a, _, rfl, (dg ha0).2.2.2, _, _, rfl, rfl, .ref x.a, rfl, x.a, _, rfl, DPut.k (k := kMixed) ha0 (show 4 < sizeLine by decide), ?_⟩
    rw [eput]
    obtain ⟨H1, hH1⟩ : ∃ H1, H1 = upd (upd H p0 (.lst [])) x.a (.dK (dkv x.g x.c wh (m + 1))) := ⟨_, rfl⟩
    have ha1 : H1 x.a = some (.dK (dkv x.g x.c wh (m + 1))) := by rw [hH1]; exact upd_same
    have hc1 : H1 x.c = some (.lst (cs.map V.int)) := by rw [hH1, upd_ne (Ne.symm hw.ac)]; exact hc0
    have hg1 : H1 x.g = some (.lst (([] : List Int).map V.int)) := by rw [hH1, upd_ne (Ne.symm hw.ag)]; exact hg0
    rw [← hH1]
    have fin : Grow (some x) H H1 := grow H1 [] (m + 1) (fun b h1 h2 o e => by rw [hH1, upd_ne h1, upd_ne (ne_of_none e np0)]; exact e) ha1 hg1 (fun _ z => nomatch z) (by decide)
    clear hH1
    obtain ⟨tn, htn⟩ : ∃ tn, tn = m + 1 := ⟨_, rfl⟩
    rw [← htn] at ha1
    have hlen : 0 < cs.length := List.length_pos_iff.mpr hne
    obtain ⟨j, hj, hjl⟩ : ∃ j : Nat, tn % ((cs.map V.int).length : Int) = (j : Int) ∧ j < cs.length := by
      refine ⟨(tn % (cs.length : Int)).toNat, ?_, ?_⟩
      · rw [List.length_map, Int.toNat_of_nonneg (Int.emod_nonneg _ (by omega))]
      · have := Int.emod_lt_of_pos tn (show (0 : Int) < cs.length by omega)
        have := Int.emod_nonneg tn (show (cs.length : Int) ≠ 0 by omega)
        omega
    have at1 : atI (cs.map V.int) (j : Int) = some (.int cs[j]) := atI_nat (by rw [List.getElem?_map, List.getElem?_eq_getElem hjl]; rfl)
    generalize cs[j] = c at at1
    obtain ⟨d1, d2, d3, d4⟩ := dg ha1
    refine ⟨.ref x.a, rfl, x.a, _, rfl, d4, ?_⟩
    have small : ∀ (u k : Int), 0 < k → k < 2 ^ 40 → CMul (u % k) (u % k) := fun u k h1 h2 => .inl ⟨by have := Int.emod_nonneg u (show k ≠ 0 by omega); omega, by have := Int.emod_lt_of_pos u h1; omega⟩
    refine ⟨.ref x.c, rfl, .int tn, rfl, .inl ⟨tn, rfl, .ref x.c, rfl, x.c, _, rfl, .inl (.of hc1), tn, _, rfl, rfl, (by show (0 : Int) < ((cs.map V.int).length : Int); rw [List.length_map]; omega),
      x.c, _, (j : Int), .int c, rfl, by (show V.int (tn % _) = _; rw [hj]), .of hc1, at1, ?_⟩⟩
    refine ⟨.ref x.a, rfl, x.a, _, rfl, d3, 31, wh, rfl, rfl, .inl ⟨by decide, by decide⟩, c, _, rfl, rfl, .int tn, rfl, _, _, rfl, rfl, .inl ⟨by decide, by decide⟩, _, _, rfl, rfl, .inl ⟨_, rfl, _, _, rfl, rfl, (by show (0 : Int) < _; decide), ?_⟩⟩
    refine ⟨_, rfl, _, rfl, _, _, rfl, rfl, small _ _ (by decide) (by decide), .int tn, rfl, _, _, rfl, rfl, .inl ⟨by decide, by decide⟩, _, _, rfl, rfl, .inl ⟨_, rfl, _, _, rfl, rfl, (by show (0 : Int) < _; decide), ?_⟩⟩
    refine ⟨_, rfl, _, rfl, _, _, rfl, rfl, small _ _ (by decide) (by decide), .inl ⟨_, rfl, _, _, rfl, rfl, (by show (0 : Int) < _; decide), _, _, rfl, rfl, ⟨by decide, by decide⟩, .int n, rfl, _, _, rfl, rfl, n0, ?_⟩⟩
    exact q _ _ (Int.emod_nonneg _ (by omega)) (Int.emod_lt_of_pos _ n0) fin
omit [WellKind] in
theorem g__law_deck {a : Addr} {fd : FuncData} (F : Fun K "_law_deck" "_law_deck" s__law_deck a fd) (z_list : mg "list" = none) (z_abs : mg "abs" = none) (z_sum : mg "sum" = none) (z_len : mg "len" = none) : haveI := WK5 T; GOk false P w K mg base 1 a fd ["_law_script"] (spWell K) := by
  letI : WellKind := WK5 T
  refine GOk.of (k := 0) F sc__law_deck (fun vs H Q E h => by obtain ⟨a, ns, rfl, _⟩ := h; rfl) fun cdv _ A outer s H vs Q E hr hg h => ?_
  obtain ⟨sa, ns, rfl, hS, hlen, q⟩ := h
  have nd := sc__law_deck.nd
  refine ⟨_, pss_cons (ps_set (i := 1) nd rfl (.inl rfl) (pe_callTy call_list_of (by rfl) z_list bt_list (pa_cons (pe_slice sl_list (pv 0) po_none (po_some pe_int)) pa_nil)))
    (pss_cons (ps_setLc (i := 2) (own := [("_law_cell", 3)]) (g := gName 3) rfl nd rfl rfl (sw_true rfl rfl rfl (by decide +kernel)) (pi_list (pv 1))
        (blkOk_by (own := [("_law_cell", 3)]) (N := n__law_deck) (sc := defScope s__law_deck) (by decide +kernel)) (fun _ _ _ _ _ => pg_name (i := 3) nd rfl (.inl rfl))
        (fun _ _ _ _ _ => pts_one (pt_cmpR op_ge (pe_callB call_abs (by rfl) z_abs bt_abs (pa_cons (pv 3) pa_nil)) (pe_op op_pow pe_int pe_int) (nomark _)))
        (fun _ _ _ _ _ => pe_callB call_abs (by rfl) z_abs bt_abs (pa_cons (pv 3) pa_nil)))
    (pss_one (ps_ret (pe_disp (pps_cons pe_str (pv 2) (pps_cons pe_str (pe_op op_cat (pv 1) (pe_lst (pa_cons (pe_op op_add pe_int (pe_callB call_len_seq (by rfl) z_len bt_len (pa_cons (pv 1) pa_nil))) pa_nil))) (pps_cons pe_str (pe_callB (cr_sum rfl) (by rfl) z_sum bt_sum (pa_cons (pv 1) pa_nil)) (pps_cons pe_str pe_int pps_nil)))) rfl rfl (fun z => nomatch z) (by decide))))), ?_⟩
  obtain ⟨cut, hcut⟩ : ∃ cut : List Int, cutV (ns.map V.int) none (some 63) = cut.map V.int := ⟨cutL ns none (some 63), by unfold cutV cutL; rw [List.length_map, List.map_take, List.map_drop]⟩
  have hcl : cut.length ≤ 63 := by
    have h1 := cutV_length (ns.map V.int) none (some 63)
    rw [hcut, List.length_map, List.length_map] at h1; omega
  have small : ∀ k : Nat, k ≤ 63 → k < sizeLine := fun k hk => Nat.lt_of_le_of_lt hk (by decide)
  refine ⟨.ref sa, rfl, 63, rfl, sa, ns.map V.int, rfl, hS, fun p np => ?_⟩
  rw [hcut]
  refine ⟨p, _, rfl, .inl (.of upd_same), fun D nD => ?_⟩
  have nD0 : H D = none := by
    by_cases e : D = p
    · rw [e]; exact np
    · rw [upd_ne e] at nD; exact nD
  have c1 : upd (upd H p (.lst (cut.map V.int))) D (.lst (cut.map V.int)) D = some (.lst (cut.map V.int)) := upd_same
  have c5 : Same H (upd (upd H p (.lst (cut.map V.int))) D (.lst (cut.map V.int))) := fun b o e => by rw [upd_ne (ne_of_none e nD0), upd_ne (ne_of_none e np)]; exact e
  generalize upd (upd H p (.lst (cut.map V.int))) D (.lst (cut.map V.int)) = H1 at *
  refine ⟨.ref D, rfl, D, rfl, ⟨_, .of c1⟩, fun D2 nD20 => ?_⟩
  have d12 : D ≠ D2 := ne_of_none c1 nD20
  refine lc_list (xs := cut.map V.int) (fun i H' => ∃ acc : List Int, H' D2 = some (.lst (acc.map V.int)) ∧ (∀ z ∈ acc, 0 ≤ z) ∧ acc.length ≤ i ∧ H' D = some (.lst (cut.map V.int)) ∧ Same H1 H')
    ⟨[], upd_same, (fun _ z => nomatch z), Nat.le_refl _, by rw [upd_ne d12]; exact c1, fun b o e => by rw [upd_ne (ne_of_none e nD20)]; exact e⟩
    (fun i H' _ ⟨acc, _, _, _, e, _⟩ => .of e) (fun i x H' hx ⟨acc, a1, a2, a3, a4, a5⟩ => ?_) fun H2 ⟨gs, a1, a2, a3, a4, a5⟩ => ?_
  · rw [List.getElem?_map] at hx
    obtain ⟨z, hz1, rfl⟩ := Option.map_eq_some_iff.mp hx
    have hi : i < cut.length := (List.getElem?_eq_some_iff.mp hz1).1
    refine ⟨rfl, _, rfl, z, rfl, 10, 18, rfl, rfl, ⟨by decide, by decide, by decide⟩, _, _, rfl, rfl, _, rfl, ite2 (fun _ => ?_) fun _ => ?_⟩
    · refine ⟨_, rfl, z, rfl, acc.map V.int, a1, by rw [List.length_map]; exact small _ (by omega), acc ++ [if z < 0 then -z else z], ?_, fun y hy => ?_, by simp; exact a3, ?_, fun b o e => ?_⟩
      · rw [upd_same, List.map_append]; rfl
      · rcases List.mem_append.mp hy with hy | hy
        · exact a2 y hy
        · simp only [List.mem_singleton] at hy
          subst hy; split <;> omega
      · rw [upd_ne d12]; exact a4
      · rw [upd_ne (ne_of_none e nD20)]; exact a5 b o e
    · exact ⟨acc, a1, a2, Nat.le_succ_of_le a3, a4, a5⟩
  have g2 : H2 D = some (.lst (cut.map V.int)) := a4
  have hgs : gs.length ≤ 63 := by rw [List.length_map] at a3; omega
  have sm : Same H H2 := fun b o e => a5 b o (c5 b o e)
  clear a3 a4 a5 c5 c1
  intro pd npd
  have e1 : D ≠ pd := ne_of_none g2 npd
  have e2 : D2 ≠ pd := ne_of_none a1 npd
  have G1 : upd H2 pd (.dK []) D = some (.lst (cut.map V.int)) := by rw [upd_ne e1]; exact g2
  have A1 : upd H2 pd (.dK []) D2 = some (.lst (gs.map V.int)) := by rw [upd_ne e2]; exact a1
  have sm1 : Same H (upd H2 pd (.dK [])) := fun b o e => by rw [upd_ne (ne_of_none (sm b o e) npd)]; exact sm b o e
  have P1 : upd H2 pd (.dK []) pd = some (.dK []) := upd_same
  generalize upd H2 pd (.dK []) = H3 at *
  refine ⟨.ref D2, rfl, .ref D, rfl, .ref D, rfl, D, _, rfl, .inl (.of G1), _, _, rfl, rfl, (show 1 ≤ sizeLine by decide), fun p3 np3 => ?_⟩
  have f1 : D ≠ p3 := ne_of_none G1 np3
  have f2 : D2 ≠ p3 := ne_of_none A1 np3
  have f3 : pd ≠ p3 := ne_of_none P1 np3
  refine ⟨D, p3, _, _, rfl, rfl, by rw [upd_ne f1]; exact G1, upd_same, ?_, fun p4 np4 => ?_⟩
  · rw [List.length_map]
    show cut.length + 1 ≤ sizeLine
    exact Nat.le_of_lt (Nat.lt_of_le_of_lt (Nat.add_le_add_right hcl 1) (by decide))
  generalize hlast : ((fun i j => V.int (i + j)) (7919 : Int) (((cut.map V.int).length : Nat) : Int)) = lastv at *
  have G2 : upd H3 p3 (.lst [lastv]) D = some (.lst (cut.map V.int)) := by rw [upd_ne f1]; exact G1
  have A2 : upd H3 p3 (.lst [lastv]) D2 = some (.lst (gs.map V.int)) := by rw [upd_ne f2]; exact A1
  have P2 : upd H3 p3 (.lst [lastv]) pd = some (.dK []) := by rw [upd_ne f3]; exact P1
  have sm2 : Same H (upd H3 p3 (.lst [lastv])) := fun b o e => by rw [upd_ne (ne_of_none (sm1 b o e) np3)]; exact sm1 b o e
  generalize upd H3 p3 (.lst [lastv]) = H4 at *
  have k1 : D ≠ p4 := ne_of_none G2 np4
  have k2 : D2 ≠ p4 := ne_of_none A2 np4
  have k3 : pd ≠ p4 := ne_of_none P2 np4
  refine ⟨.ref D, rfl, D, cut, rfl, .of (by rw [upd_ne k1]; exact G2), by rw [upd_ne k3]; exact P2, [(kGreat, .ref D2), (kCells, .ref p4), (kWhole, .int cut.sum), (kMixed, .int 0)], rfl, (show 4 ≤ 15 by decide), ?_⟩
  have em : mergeK [] [(kGreat, V.ref D2), (kCells, .ref p4), (kWhole, .int cut.sum), (kMixed, .int 0)] = dkv D2 p4 cut.sum 0 := rfl
  rw [em]
  refine q ⟨pd, D2, p4⟩ _ ⟨⟨_, _, _, upd_same, by rw [upd_ne e2, upd_ne k2]; exact A2, by rw [upd_ne (Ne.symm k3)]; exact upd_same, gs, cut ++ [7919 + ((cut.map V.int).length : Int)], cut.sum, 0, rfl, rfl, by rw [List.map_append, ← hlast]; rfl, a2, by simp, hgs⟩, Ne.symm e2, k3, k2⟩ fun t => t.ext fun b o e => ?_
  have k4 : b ≠ p4 := ne_of_none (sm2 b o e) np4
  have k5 : b ≠ pd := ne_of_none (sm b o e) npd
  rw [upd_ne k5, upd_ne k4]
  exact sm2 b o e

theorem g_law {a : Addr} {fd : FuncData} (F : Fun K "law" "law" s_law a fd) {a_W : Addr} {fd_W : FuncData} (F_W : Fun K "_law_deck" "_law_deck" s__law_deck a_W fd_W) (h_W : mg "_law_deck" = some (.ref a_W)) (b_W : Binds K fd_W ["_law_script"] []) (G_W : GOk false P w K mg base 1 a_W fd_W ["_law_script"] (spWell K)) {a__law_pick : Addr} {fd__law_pick : FuncData} (F__law_pick : Fun K "_law_pick" "_law_pick" s__law_pick a__law_pick fd__law_pick) (h__law_pick : mg "_law_pick" = some (.ref a__law_pick)) (b__law_pick : Binds K fd__law_pick ["_law_deck_here", "_law_items"] []) (G__law_pick : GOk false P w K mg base 2 a__law_pick fd__law_pick ["_law_deck_here", "_law_items"] (spM K mg 2 f__law_pick)) {a__law_rule : Addr} {fd__law_rule : FuncData} (F__law_rule : Fun K "_law_rule" "_law_rule" s__law_rule a__law_rule fd__law_rule) (h__law_rule : mg "_law_rule" = some (.ref a__law_rule)) (b__law_rule : Binds K fd__law_rule ["_law_deck_here", "_law_most"] []) (G__law_rule : GOk false P w K mg base 3 a__law_rule fd__law_rule ["_law_deck_here", "_law_most"] (spM K mg 2 f__law_rule)) {a_round_of : Addr} {fd_round_of : FuncData} (F_round_of : Fun K "round_of" "round_of" s_round_of a_round_of fd_round_of) (h_round_of : mg "round_of" = some (.ref a_round_of)) (b_round_of : Binds K fd_round_of ["rule"] []) (G_round_of : GOk false P w K mg base 3 a_round_of fd_round_of ["rule"] (spM K mg 1 f_round_of)) {a__law_is_round : Addr} {fd__law_is_round : FuncData} (F__law_is_round : Fun K "_law_is_round" "_law_is_round" s__law_is_round a__law_is_round fd__law_is_round) (h__law_is_round : mg "_law_is_round" = some (.ref a__law_is_round)) (b__law_is_round : Binds K fd__law_is_round ["_law_rule_here", "_law_value"] []) (G__law_is_round : GOk false P w K mg base 2 a__law_is_round fd__law_is_round ["_law_rule_here", "_law_value"] (spM K mg 2 f__law_is_round)) {a__law_row : Addr} {fd__law_row : FuncData} (F__law_row : Fun K "_law_row" "_law_row" s__law_row a__law_row fd__law_row) (h__law_row : mg "_law_row" = some (.ref a__law_row)) (b__law_row : Binds K fd__law_row ["_law_rule_here", "_law_many"] []) (G__law_row : GOk false P w K mg base 1 a__law_row fd__law_row ["_law_rule_here", "_law_many"] (spM K mg 2 f__law_row)) {a__law_draw : Addr} {fd__law_draw : FuncData} (F__law_draw : Fun K "_law_draw" "_law_draw" s__law_draw a__law_draw fd__law_draw) (h__law_draw : mg "_law_draw" = some (.ref a__law_draw)) (b__law_draw : Binds K fd__law_draw ["_law_deck_here", "_law_many"] []) (G__law_draw : GOk false P w K mg base 1 a__law_draw fd__law_draw ["_law_deck_here", "_law_many"] (spM K mg 2 f__law_draw)) {a__law_least : Addr} {fd__law_least : FuncData} (F__law_least : Fun K "_law_least" "_law_least" s__law_least a__law_least fd__law_least) (h__law_least : mg "_law_least" = some (.ref a__law_least)) (b__law_least : Binds K fd__law_least ["_law_head", "_law_turn"] []) (G__law_least : GOk false P w K mg base 1 a__law_least fd__law_least ["_law_head", "_law_turn"] (spM K mg 2 f__law_least)) {a_reads : Addr} {fd_reads : FuncData} (F_reads : Fun K "reads" "reads" s_reads a_reads fd_reads) (h_reads : mg "reads" = some (.ref a_reads)) (b_reads : Binds K fd_reads ["rule", "value"] []) (G_reads : GOk false P w K mg base 3 a_reads fd_reads ["rule", "value"] (spM K mg 2 f_reads)) (z_repr : mg "repr" = none) (z_list : mg "list" = none) (z_range : mg "range" = none) (hm : LawOk (m_law (lawEnv 13 1))) : GOk true P w K mg base 4 a fd ["_law_script"] (spLaw K) := by
  refine law_main (m := m_law) (k := 3) (iw := 1) (n := 13) F sc_law rfl rfl (G_W.lift (by decide)) h_W F_W.kp b_W rfl rfl (by first | exact Or.inl rfl | exact Or.inr (Or.inl rfl)) (by first | exact Or.inl rfl | exact Or.inr rfl) rfl (by decide) (by decide) (by decide) (fun X E hP hw hK hmg hb hN hsc hfn hX gd => ?_) hm
  obtain ⟨cdv, A, outer, s, H, hcv, rfl⟩ := hX
  refine ⟨rfl, ?_⟩
  exact (qss_cons (qs_for gd.pown rfl (qi_list (qf_e (qf_lst (ql_cons (qe_call G__law_pick (gd.mono (by decide)) h__law_pick F__law_pick.kp b__law_pick (qa_well 1 (qa_cons (qf_e (qf_lst (ql_cons qe_int (ql_cons qe_int (ql_cons qe_int ql_nil))))) qa_nil))) (ql_cons qe_int (ql_cons qe_int (ql_cons qe_int (ql_cons qe_int ql_nil)))))))) (qg_name 2 sc_law.nd) (qss_cons (qs_set 3 sc_law.nd (qe_call G__law_rule (gd.mono (by decide)) h__law_rule F__law_rule.kp b__law_rule (qa_well 1 (qa_cons (qe_var 2) qa_nil))))
    (qss_cons (qs_set 4 sc_law.nd (qe_call G_round_of (gd.mono (by decide)) h_round_of F_round_of.kp b_round_of (qa_cons (qe_var 3) qa_nil)))
    (qss_cons (qs_if (qt_w (qw_or (qt_not (qt_val (qe_call G__law_is_round (gd.mono (by decide)) h__law_is_round F__law_is_round.kp b__law_is_round (qa_cons (qe_var 3) (qa_cons (qe_var 4) qa_nil))))) (qw_or1 (qt_cmp (qo_ne gd.room.units) (QE.bb (qe_callB (qc_repr gd) z_repr bt_repr (qb_cons (QE.bb (qe_callK [0] G_round_of (gd.mono (by decide)) h_round_of F_round_of.kp (fun_kb (ps := ["rule"]) (ks := ["rule"]) (is := [0]) F_round_of fun _ _ _ _ _ _ ws hl => match ws, hl with | [_], _ => rfl) (qk_cons (qe_var 3) qk_nil))) qb_nil))) (QE.bb (qe_callB (qc_repr gd) z_repr bt_repr (qb_cons (QE.bb (qe_var 4)) qb_nil))) (by rfl))))) (qss_one (qs_ret qe_bl)) qss_nil)
    (qss_cons (qs_asg (qg_tup rfl (qgs_cons (qg_name 5 sc_law.nd) (qgs_cons (qg_name 6 sc_law.nd) qgs_nil))) (qe_var 4))
    (qss_cons (qs_set 7 sc_law.nd (qe_call G__law_row (gd.mono (by decide)) h__law_row F__law_row.kp b__law_row (qa_cons (qe_var 3) (qa_cons (qe_bin qo_add (QE.bb (qe_var 5)) (QE.bb (qe_var 6))) qa_nil))))
    (qss_cons (qs_set 8 sc_law.nd (qf_e (qf_rg1 rfl z_list z_range (qe_ix (QE.bb (qe_var 3)) (QE.bb qe_int)))))
    (qss_cons (qs_if (qt_cmp qo_gt (QE.bb (qe_var 6)) (QE.bb qe_int) (by rfl)) (qss_one (qs_set 8 sc_law.nd (qf_e (qf_lst (ql_cons (qe_call G__law_draw (gd.mono (by decide)) h__law_draw F__law_draw.kp b__law_draw (qa_well 1 (qa_cons (qe_ix (QE.bb (qe_var 3)) (QE.bb qe_int)) qa_nil))) (ql_cons (qe_ix (QE.bb (qe_var 7)) (QE.bb qe_int)) (ql_cons (qe_ix (QE.bb (qe_var 7)) (QE.bb (qe_neg qe_int))) ql_nil))))))) qss_nil)
    (qss_cons (qs_for gd.pown rfl (qi_any (qe_var 8)) (qg_name 9 sc_law.nd) (qss_cons (qs_set 10 sc_law.nd (qe_m PySem.F.slot_str_join PySem.F.type_str_join qm_join qe_str (qb_cons (QE.bb (qf_e (qf_comp (own := [("_law_one", 12)]) rfl sc_law.nd (qi_any (qe_var 7)) (blkOk_by (own := [("_law_one", 12)]) (N := n_law) (sc := defScope s_law) (by decide +kernel)) (fun s0 H0 C0 cl0 fp0 => (qg_name 12 sc_law.nd)) (fun s0 H0 C0 cl0 fp0 => qts_nil) (fun s0 H0 C0 cl0 fp0 => (qe_if (qt_cmp (qo_eq (Good.blk gd s0 H0 _ _ fp0).room.units) (QE.bb (qe_var 12)) (QE.bb (qe_var 9)) (by rfl)) qe_str qe_str))))) qb_nil)))
    (qss_cons (qs_set 11 sc_law.nd (qe_call G__law_least (gd.mono (by decide)) h__law_least F__law_least.kp b__law_least (qa_cons (qe_sl (QE.bb (qe_var 10)) qo_none (qo_some (qe_var 5))) (qa_cons (qe_sl (QE.bb (qe_var 10)) (qo_some (qe_var 5)) qo_none) qa_nil))))
    (qss_one (qs_if (qt_cmp (qo_ne gd.room.units) (QE.bb (qe_callB (qc_repr gd) z_repr bt_repr (qb_cons (QE.bb (qf_e (qf_lst (ql_cons (qe_call G_reads (gd.mono (by decide)) h_reads F_reads.kp b_reads (qa_cons (qe_var 3) (qa_cons (qe_var 9) qa_nil))) (ql_cons (qe_callK [1, 0] G_reads (gd.mono (by decide)) h_reads F_reads.kp (fun_kb (ps := ["rule", "value"]) (ks := ["value", "rule"]) (is := [1, 0]) F_reads fun _ _ _ _ _ _ ws hl => match ws, hl with | [_, _], _ => rfl) (qk_cons (qe_var 9) (qk_cons (qe_var 3) qk_nil))) ql_nil))))) qb_nil))) (QE.bb (qe_callB (qc_repr gd) z_repr bt_repr (qb_cons (QE.bb (qf_e (qf_lst (ql_cons (qe_var 11) (ql_cons (qe_var 11) ql_nil))))) qb_nil))) (by rfl)) (qss_one (qs_ret qe_bl)) qss_nil)))))
    (qss_one (qs_if (qt_w (qw_and (qt_cmp qo_in (QE.bb (qe_ix (QE.bb (qe_var 3)) (QE.bb qe_int))) (QE.bb (qe_tup (ql_cons qe_int (ql_cons qe_int (ql_cons qe_int (ql_cons qe_int ql_nil)))))) (by rfl)) (qw_and (qt_cmp qo_gt (QE.bb (qe_ix (QE.bb (qe_ix (QE.bb (qe_var 3)) (QE.bb qe_int))) (QE.bb (qe_neg qe_int)))) (QE.bb qe_int) (by rfl)) (qw_and1 (qt_cmp qo_gt (QE.bb (qe_var 5)) (QE.bb qe_int) (by rfl)))))) (qss_one (qs_ret qe_bl)) qss_nil)))))))))))
    (qss_one (qs_ret (qe_and (qe_cmp (qo_eq gd.room.units) (QE.bb (qe_call G_round_of (gd.mono (by decide)) h_round_of F_round_of.kp b_round_of (qa_cons (qe_tup (ql_cons qe_int (ql_cons (qe_tup (ql_cons qe_int ql_nil)) (ql_cons (qe_tup (ql_cons qe_int ql_nil)) ql_nil)))) qa_nil))) (QE.bb (qe_tup (ql_cons qe_int (ql_cons qe_int ql_nil)))) (by rfl)) (qe_one (qe_cmp (qo_eq gd.room.units) (QE.bb (qe_call G_reads (gd.mono (by decide)) h_reads F_reads.kp b_reads (qa_cons (qe_tup (ql_cons qe_int (ql_cons (qe_tup (ql_cons qe_int (ql_cons qe_int ql_nil))) (ql_cons (qe_tup (ql_cons qe_int (ql_cons qe_int ql_nil))) ql_nil)))) (qa_cons qe_int qa_nil)))) (QE.bb (qe_tup (ql_cons qe_str (ql_cons qe_str ql_nil)))) (by rfl)))))))
end
theorem all_mk {l : PySem.W.OpenLaw} {q : Program} {w : World} {K : PySem.W.Frag} {h : Heap} {mg : Str → Option Value} {fa : Addr} (TT : TabsTold q K h) (X : K.In h) (G : h.Ns mainGlobals mg) (hfa : mg "law" = some (.ref fa))
    {a_least_turn : Addr} {od_least_turn an_least_turn : Option Addr} {sl_least_turn : Array (Option Value)} {oc_least_turn kV_least_turn dc_least_turn pm_least_turn ct_least_turn : Value} {cd_least_turn : Value}
    (aleast_turn : PySem.W.nsIn K mainGlobals "least_turn" = some (some (.ref a_least_turn))) (lleast_turn : K.lookup a_least_turn = some ⟨oc_least_turn, od_least_turn, .func (PySem.W.fnOf "least_turn" "least_turn" (defArgs s_least_turn) (defBody s_least_turn) (defScope s_least_turn) .none kV_least_turn dc_least_turn pm_least_turn an_least_turn cd_least_turn ct_least_turn), sl_least_turn⟩) (cleast_turn : PySem.W.codeIn K cd_least_turn "least_turn" = true) (kleast_turn : PySem.W.keepIn K (.ref a_least_turn) = true)
    {a_least : Addr} {od_least an_least : Option Addr} {sl_least : Array (Option Value)} {oc_least kV_least dc_least pm_least ct_least : Value} {cd_least : Value}
    (aleast : PySem.W.nsIn K mainGlobals "least" = some (some (.ref a_least))) (lleast : K.lookup a_least = some ⟨oc_least, od_least, .func (PySem.W.fnOf "least" "least" (defArgs s_least) (defBody s_least) (defScope s_least) .none kV_least dc_least pm_least an_least cd_least ct_least), sl_least⟩) (cleast : PySem.W.codeIn K cd_least "least" = true) (kleast : PySem.W.keepIn K (.ref a_least) = true)
    {a_next_in : Addr} {od_next_in an_next_in : Option Addr} {sl_next_in : Array (Option Value)} {oc_next_in kV_next_in dc_next_in pm_next_in ct_next_in : Value} {cd_next_in : Value}
    (anext_in : PySem.W.nsIn K mainGlobals "next_in" = some (some (.ref a_next_in))) (lnext_in : K.lookup a_next_in = some ⟨oc_next_in, od_next_in, .func (PySem.W.fnOf "next_in" "next_in" (defArgs s_next_in) (defBody s_next_in) (defScope s_next_in) .none kV_next_in dc_next_in pm_next_in an_next_in cd_next_in ct_next_in), sl_next_in⟩) (cnext_in : PySem.W.codeIn K cd_next_in "next_in" = true) (knext_in : PySem.W.keepIn K (.ref a_next_in) = true)
    {a_walked_round : Addr} {od_walked_round an_walked_round : Option Addr} {sl_walked_round : Array (Option Value)} {oc_walked_round kV_walked_round dc_walked_round pm_walked_round ct_walked_round : Value} {cd_walked_round : Value}
    (awalked_round : PySem.W.nsIn K mainGlobals "walked_round" = some (some (.ref a_walked_round))) (lwalked_round : K.lookup a_walked_round = some ⟨oc_walked_round, od_walked_round, .func (PySem.W.fnOf "walked_round" "walked_round" (defArgs s_walked_round) (defBody s_walked_round) (defScope s_walked_round) .none kV_walked_round dc_walked_round pm_walked_round an_walked_round cd_walked_round ct_walked_round), sl_walked_round⟩) (cwalked_round : PySem.W.codeIn K cd_walked_round "walked_round" = true) (kwalked_round : PySem.W.keepIn K (.ref a_walked_round) = true)
    {a_round_of : Addr} {od_round_of an_round_of : Option Addr} {sl_round_of : Array (Option Value)} {oc_round_of kV_round_of dc_round_of pm_round_of ct_round_of : Value} {cd_round_of : Value}
    (around_of : PySem.W.nsIn K mainGlobals "round_of" = some (some (.ref a_round_of))) (lround_of : K.lookup a_round_of = some ⟨oc_round_of, od_round_of, .func (PySem.W.fnOf "round_of" "round_of" (defArgs s_round_of) (defBody s_round_of) (defScope s_round_of) .none kV_round_of dc_round_of pm_round_of an_round_of cd_round_of ct_round_of), sl_round_of⟩) (cround_of : PySem.W.codeIn K cd_round_of "round_of" = true) (kround_of : PySem.W.keepIn K (.ref a_round_of) = true)
    {a_reads : Addr} {od_reads an_reads : Option Addr} {sl_reads : Array (Option Value)} {oc_reads kV_reads dc_reads pm_reads ct_reads : Value} {cd_reads : Value}
    (areads : PySem.W.nsIn K mainGlobals "reads" = some (some (.ref a_reads))) (lreads : K.lookup a_reads = some ⟨oc_reads, od_reads, .func (PySem.W.fnOf "reads" "reads" (defArgs s_reads) (defBody s_reads) (defScope s_reads) .none kV_reads dc_reads pm_reads an_reads cd_reads ct_reads), sl_reads⟩) (creads : PySem.W.codeIn K cd_reads "reads" = true) (kreads : PySem.W.keepIn K (.ref a_reads) = true)
    {a__law_deck : Addr} {od__law_deck an__law_deck : Option Addr} {sl__law_deck : Array (Option Value)} {oc__law_deck kV__law_deck dc__law_deck pm__law_deck ct__law_deck : Value} {cd__law_deck : Value}
    (a_law_deck : PySem.W.nsIn K mainGlobals "_law_deck" = some (some (.ref a__law_deck))) (l_law_deck : K.lookup a__law_deck = some ⟨oc__law_deck, od__law_deck, .func (PySem.W.fnOf "_law_deck" "_law_deck" (defArgs s__law_deck) (defBody s__law_deck) (defScope s__law_deck) .none kV__law_deck dc__law_deck pm__law_deck an__law_deck cd__law_deck ct__law_deck), sl__law_deck⟩) (c_law_deck : PySem.W.codeIn K cd__law_deck "_law_deck" = true) (k_law_deck : PySem.W.keepIn K (.ref a__law_deck) = true)
    {a__law_draw : Addr} {od__law_draw an__law_draw : Option Addr} {sl__law_draw : Array (Option Value)} {oc__law_draw kV__law_draw dc__law_draw pm__law_draw ct__law_draw : Value} {cd__law_draw : Value}
    (a_law_draw : PySem.W.nsIn K mainGlobals "_law_draw" = some (some (.ref a__law_draw))) (l_law_draw : K.lookup a__law_draw = some ⟨oc__law_draw, od__law_draw, .func (PySem.W.fnOf "_law_draw" "_law_draw" (defArgs s__law_draw) (defBody s__law_draw) (defScope s__law_draw) .none kV__law_draw dc__law_draw pm__law_draw an__law_draw cd__law_draw ct__law_draw), sl__law_draw⟩) (c_law_draw : PySem.W.codeIn K cd__law_draw "_law_draw" = true) (k_law_draw : PySem.W.keepIn K (.ref a__law_draw) = true)
    {a__law_pick : Addr} {od__law_pick an__law_pick : Option Addr} {sl__law_pick : Array (Option Value)} {oc__law_pick kV__law_pick dc__law_pick pm__law_pick ct__law_pick : Value} {cd__law_pick : Value}
    (a_law_pick : PySem.W.nsIn K mainGlobals "_law_pick" = some (some (.ref a__law_pick))) (l_law_pick : K.lookup a__law_pick = some ⟨oc__law_pick, od__law_pick, .func (PySem.W.fnOf "_law_pick" "_law_pick" (defArgs s__law_pick) (defBody s__law_pick) (defScope s__law_pick) .none kV__law_pick dc__law_pick pm__law_pick an__law_pick cd__law_pick ct__law_pick), sl__law_pick⟩) (c_law_pick : PySem.W.codeIn K cd__law_pick "_law_pick" = true) (k_law_pick : PySem.W.keepIn K (.ref a__law_pick) = true)
    {a__law_whole : Addr} {od__law_whole an__law_whole : Option Addr} {sl__law_whole : Array (Option Value)} {oc__law_whole kV__law_whole dc__law_whole pm__law_whole ct__law_whole : Value} {cd__law_whole : Value}
    (a_law_whole : PySem.W.nsIn K mainGlobals "_law_whole" = some (some (.ref a__law_whole))) (l_law_whole : K.lookup a__law_whole = some ⟨oc__law_whole, od__law_whole, .func (PySem.W.fnOf "_law_whole" "_law_whole" (defArgs s__law_whole) (defBody s__law_whole) (defScope s__law_whole) .none kV__law_whole dc__law_whole pm__law_whole an__law_whole cd__law_whole ct__law_whole), sl__law_whole⟩) (c_law_whole : PySem.W.codeIn K cd__law_whole "_law_whole" = true) (k_law_whole : PySem.W.keepIn K (.ref a__law_whole) = true)
    {a__law_rule : Addr} {od__law_rule an__law_rule : Option Addr} {sl__law_rule : Array (Option Value)} {oc__law_rule kV__law_rule dc__law_rule pm__law_rule ct__law_rule : Value} {cd__law_rule : Value}
    (a_law_rule : PySem.W.nsIn K mainGlobals "_law_rule" = some (some (.ref a__law_rule))) (l_law_rule : K.lookup a__law_rule = some ⟨oc__law_rule, od__law_rule, .func (PySem.W.fnOf "_law_rule" "_law_rule" (defArgs s__law_rule) (defBody s__law_rule) (defScope s__law_rule) .none kV__law_rule dc__law_rule pm__law_rule an__law_rule cd__law_rule ct__law_rule), sl__law_rule⟩) (c_law_rule : PySem.W.codeIn K cd__law_rule "_law_rule" = true) (k_law_rule : PySem.W.keepIn K (.ref a__law_rule) = true)
    {a__law_row : Addr} {od__law_row an__law_row : Option Addr} {sl__law_row : Array (Option Value)} {oc__law_row kV__law_row dc__law_row pm__law_row ct__law_row : Value} {cd__law_row : Value}
    (a_law_row : PySem.W.nsIn K mainGlobals "_law_row" = some (some (.ref a__law_row))) (l_law_row : K.lookup a__law_row = some ⟨oc__law_row, od__law_row, .func (PySem.W.fnOf "_law_row" "_law_row" (defArgs s__law_row) (defBody s__law_row) (defScope s__law_row) .none kV__law_row dc__law_row pm__law_row an__law_row cd__law_row ct__law_row), sl__law_row⟩) (c_law_row : PySem.W.codeIn K cd__law_row "_law_row" = true) (k_law_row : PySem.W.keepIn K (.ref a__law_row) = true)
    {a__law_least : Addr} {od__law_least an__law_least : Option Addr} {sl__law_least : Array (Option Value)} {oc__law_least kV__law_least dc__law_least pm__law_least ct__law_least : Value} {cd__law_least : Value}
    (a_law_least : PySem.W.nsIn K mainGlobals "_law_least" = some (some (.ref a__law_least))) (l_law_least : K.lookup a__law_least = some ⟨oc__law_least, od__law_least, .func (PySem.W.fnOf "_law_least" "_law_least" (defArgs s__law_least) (defBody s__law_least) (defScope s__law_least) .none kV__law_least dc__law_least pm__law_least an__law_least cd__law_least ct__law_least), sl__law_least⟩) (c_law_least : PySem.W.codeIn K cd__law_least "_law_least" = true) (k_law_least : PySem.W.keepIn K (.ref a__law_least) = true)
    {a__law_is_round : Addr} {od__law_is_round an__law_is_round : Option Addr} {sl__law_is_round : Array (Option Value)} {oc__law_is_round kV__law_is_round dc__law_is_round pm__law_is_round ct__law_is_round : Value} {cd__law_is_round : Value}
    (a_law_is_round : PySem.W.nsIn K mainGlobals "_law_is_round" = some (some (.ref a__law_is_round))) (l_law_is_round : K.lookup a__law_is_round = some ⟨oc__law_is_round, od__law_is_round, .func (PySem.W.fnOf "_law_is_round" "_law_is_round" (defArgs s__law_is_round) (defBody s__law_is_round) (defScope s__law_is_round) .none kV__law_is_round dc__law_is_round pm__law_is_round an__law_is_round cd__law_is_round ct__law_is_round), sl__law_is_round⟩) (c_law_is_round : PySem.W.codeIn K cd__law_is_round "_law_is_round" = true) (k_law_is_round : PySem.W.keepIn K (.ref a__law_is_round) = true)
    {a_law : Addr} {od_law an_law : Option Addr} {sl_law : Array (Option Value)} {oc_law kV_law dc_law pm_law ct_law : Value} {cd_law : Value}
    (alaw : PySem.W.nsIn K mainGlobals "law" = some (some (.ref a_law))) (llaw : K.lookup a_law = some ⟨oc_law, od_law, .func (PySem.W.fnOf "law" "law" (defArgs s_law) (defBody s_law) (defScope s_law) .none kV_law dc_law pm_law an_law cd_law ct_law), sl_law⟩) (claw : PySem.W.codeIn K cd_law "law" = true) (klaw : PySem.W.keepIn K (.ref a_law) = true)
    (zrange : PySem.W.nsIn K mainGlobals "range" = some none)
    (zlen : PySem.W.nsIn K mainGlobals "len" = some none)
    (zsum : PySem.W.nsIn K mainGlobals "sum" = some none)
    (zzip : PySem.W.nsIn K mainGlobals "zip" = some none)
    (zisinstance : PySem.W.nsIn K mainGlobals "isinstance" = some none)
    (zint : PySem.W.nsIn K mainGlobals "int" = some none)
    (zbool : PySem.W.nsIn K mainGlobals "bool" = some none)
    (ztuple : PySem.W.nsIn K mainGlobals "tuple" = some none)
    (zlist : PySem.W.nsIn K mainGlobals "list" = some none)
    (zstr : PySem.W.nsIn K mainGlobals "str" = some none)
    (zrepr : PySem.W.nsIn K mainGlobals "repr" = some none)
    (zabs : PySem.W.nsIn K mainGlobals "abs" = some none)
    (hm : LawOk (m_law (lawEnv 13 1)))
    : ∃ (W : WellKind) (fd : FuncData) (cs : List (Addr × Addr)), (∀ cp ∈ cs, Tab0 K h cp) ∧ (∀ pq ∈ W.T, ∃ c, (c, pq.1) ∈ cs) ∧ (∀ (s : Shared) (v : Value), BindsTo s fd ⟨[v], []⟩ [("_law_script", v)]) ∧ ∀ base : Heap, (∀ cp ∈ cs, LamX.TabB base mg cp.1 cp.2) → @GOk true l.prog w K mg base 4 fa fd ["_law_script"] (@spLaw W K) := by
  have e := hfa.symm.trans (PySem.W.mg_of X G alaw)
  cases e
  have F_least_turn := fun_mk (st := s_least_turn) lleast_turn cleast_turn kleast_turn
  have h_least_turn := PySem.W.mg_of X G aleast_turn
  have b_least_turn := F_least_turn.binds (ps := ["turn"]) fun _ _ _ _ _ _ us hl => match us, hl with | [_], _ => rfl
  have F_least := fun_mk (st := s_least) lleast cleast kleast
  have h_least := PySem.W.mg_of X G aleast
  have b_least := F_least.binds (ps := ["table"]) fun _ _ _ _ _ _ us hl => match us, hl with | [_], _ => rfl
  have F_next_in := fun_mk (st := s_next_in) lnext_in cnext_in knext_in
  have h_next_in := PySem.W.mg_of X G anext_in
  have b_next_in := F_next_in.binds (ps := ["modulus", "factors", "ahead"]) fun _ _ _ _ _ _ us hl => match us, hl with | [_, _, _], _ => rfl
  have F_walked_round := fun_mk (st := s_walked_round) lwalked_round cwalked_round kwalked_round
  have h_walked_round := PySem.W.mg_of X G awalked_round
  have b_walked_round := F_walked_round.binds (ps := ["rule"]) fun _ _ _ _ _ _ us hl => match us, hl with | [_], _ => rfl
  have F_round_of := fun_mk (st := s_round_of) lround_of cround_of kround_of
  have h_round_of := PySem.W.mg_of X G around_of
  have b_round_of := F_round_of.binds (ps := ["rule"]) fun _ _ _ _ _ _ us hl => match us, hl with | [_], _ => rfl
  have F_reads := fun_mk (st := s_reads) lreads creads kreads
  have h_reads := PySem.W.mg_of X G areads
  have b_reads := F_reads.binds (ps := ["rule", "value"]) fun _ _ _ _ _ _ us hl => match us, hl with | [_, _], _ => rfl
  have F__law_deck := fun_mk (st := s__law_deck) l_law_deck c_law_deck k_law_deck
  have h__law_deck := PySem.W.mg_of X G a_law_deck
  have b__law_deck := F__law_deck.binds (ps := ["_law_script"]) fun _ _ _ _ _ _ us hl => match us, hl with | [_], _ => rfl
  have F__law_draw := fun_mk (st := s__law_draw) l_law_draw c_law_draw k_law_draw
  have h__law_draw := PySem.W.mg_of X G a_law_draw
  have b__law_draw := F__law_draw.binds (ps := ["_law_deck_here", "_law_many"]) fun _ _ _ _ _ _ us hl => match us, hl with | [_, _], _ => rfl
  have F__law_pick := fun_mk (st := s__law_pick) l_law_pick c_law_pick k_law_pick
  have h__law_pick := PySem.W.mg_of X G a_law_pick
  have b__law_pick := F__law_pick.binds (ps := ["_law_deck_here", "_law_items"]) fun _ _ _ _ _ _ us hl => match us, hl with | [_, _], _ => rfl
  have F__law_whole := fun_mk (st := s__law_whole) l_law_whole c_law_whole k_law_whole
  have h__law_whole := PySem.W.mg_of X G a_law_whole
  have b__law_whole := F__law_whole.binds (ps := ["_law_value", "_law_low", "_law_high"]) fun _ _ _ _ _ _ us hl => match us, hl with | [_, _, _], _ => rfl
  have F__law_rule := fun_mk (st := s__law_rule) l_law_rule c_law_rule k_law_rule
  have h__law_rule := PySem.W.mg_of X G a_law_rule
  have b__law_rule := F__law_rule.binds (ps := ["_law_deck_here", "_law_most"]) fun _ _ _ _ _ _ us hl => match us, hl with | [_, _], _ => rfl
  have F__law_row := fun_mk (st := s__law_row) l_law_row c_law_row k_law_row
  have h__law_row := PySem.W.mg_of X G a_law_row
  have b__law_row := F__law_row.binds (ps := ["_law_rule_here", "_law_many"]) fun _ _ _ _ _ _ us hl => match us, hl with | [_, _], _ => rfl
  have F__law_least := fun_mk (st := s__law_least) l_law_least c_law_least k_law_least
  have h__law_least := PySem.W.mg_of X G a_law_least
  have b__law_least := F__law_least.binds (ps := ["_law_head", "_law_turn"]) fun _ _ _ _ _ _ us hl => match us, hl with | [_, _], _ => rfl
  have F__law_is_round := fun_mk (st := s__law_is_round) l_law_is_round c_law_is_round k_law_is_round
  have h__law_is_round := PySem.W.mg_of X G a_law_is_round
  have b__law_is_round := F__law_is_round.binds (ps := ["_law_rule_here", "_law_value"]) fun _ _ _ _ _ _ us hl => match us, hl with | [_, _], _ => rfl
  have F_law := fun_mk (st := s_law) llaw claw klaw
  have h_law := PySem.W.mg_of X G alaw
  have b_law := F_law.binds (ps := ["_law_script"]) fun _ _ _ _ _ _ us hl => match us, hl with | [_], _ => rfl
  have z_range := PySem.W.mg_none_of X G zrange
  have z_len := PySem.W.mg_none_of X G zlen
  have z_sum := PySem.W.mg_none_of X G zsum
  have z_zip := PySem.W.mg_none_of X G zzip
  have z_isinstance := PySem.W.mg_none_of X G zisinstance
  have z_int := PySem.W.mg_none_of X G zint
  have z_bool := PySem.W.mg_none_of X G zbool
  have z_tuple := PySem.W.mg_none_of X G ztuple
  have z_list := PySem.W.mg_none_of X G zlist
  have z_str := PySem.W.mg_none_of X G zstr
  have z_repr := PySem.W.mg_none_of X G zrepr
  have z_abs := PySem.W.mg_none_of X G zabs
  letI : WellKind := WK5 []
  refine ⟨WK5 [], PySem.W.fnOf "law" "law" (defArgs s_law) (defBody s_law) (defScope s_law) .none kV_law dc_law pm_law an_law cd_law ct_law, [], fun _ z => (nomatch z), fun _ z => (nomatch z), fun s v => .of_eq rfl, fun base TB => ?gk⟩
  case gk =>
    have G_least_turn := g_least_turn (P := l.prog) (w := w) (mg := mg) (base := base) F_least_turn z_range z_len
    have G_next_in := g_next_in (P := l.prog) (w := w) (mg := mg) (base := base) F_next_in z_sum z_zip
    have G__law_deck := g__law_deck (T := []) (P := l.prog) (w := w) (mg := mg) (base := base) F__law_deck z_list z_abs z_sum z_len
    have G__law_draw := g__law_draw (T := []) (P := l.prog) (w := w) (mg := mg) (base := base) F__law_draw z_int z_len
    have G__law_whole := g__law_whole (P := l.prog) (w := w) (mg := mg) (base := base) F__law_whole z_isinstance z_int z_bool
    have G__law_row := g__law_row (P := l.prog) (w := w) (mg := mg) (base := base) F__law_row z_list z_len z_int z_sum z_zip
    have G__law_least := g__law_least (P := l.prog) (w := w) (mg := mg) (base := base) F__law_least z_len z_range z_int
    have G_least := g_least (P := l.prog) (w := w) (mg := mg) (base := base) F_least F_least_turn h_least_turn b_least_turn G_least_turn z_len
    have G_walked_round := g_walked_round (P := l.prog) (w := w) (mg := mg) (base := base) rfl F_walked_round F_next_in h_next_in b_next_in G_next_in z_len
    have G__law_pick := g__law_pick (P := l.prog) (w := w) (mg := mg) (base := base) F__law_pick F__law_draw h__law_draw b__law_draw G__law_draw z_len
    have G__law_is_round := g__law_is_round (P := l.prog) (w := w) (mg := mg) (base := base) F__law_is_round F__law_whole h__law_whole b__law_whole G__law_whole F__law_row h__law_row b__law_row G__law_row z_len z_range z_isinstance z_tuple z_str z_int
    have G_round_of := g_round_of (P := l.prog) (w := w) (mg := mg) (base := base) F_round_of F_walked_round h_walked_round b_walked_round G_walked_round z_len
    have G_reads := g_reads (P := l.prog) (w := w) (mg := mg) (base := base) F_reads F_walked_round h_walked_round b_walked_round G_walked_round F_least h_least b_least G_least
    have G__law_rule := g__law_rule (P := l.prog) (w := w) (mg := mg) (base := base) F__law_rule F__law_draw h__law_draw b__law_draw G__law_draw F__law_pick h__law_pick b__law_pick G__law_pick z_range z_tuple
    exact g_law F_law F__law_deck h__law_deck b__law_deck G__law_deck F__law_pick h__law_pick b__law_pick G__law_pick F__law_rule h__law_rule b__law_rule G__law_rule F_round_of h_round_of b_round_of G_round_of F__law_is_round h__law_is_round b__law_is_round G__law_is_round F__law_row h__law_row b__law_row G__law_row F__law_draw h__law_draw b__law_draw G__law_draw F__law_least h__law_least b__law_least G__law_least F_reads h_reads b_reads G_reads z_repr z_list z_range hm
end Lk69
end Q

set_option Elab.async false
set_option linter.all false
set_option maxRecDepth 100000
set_option maxHeartbeats 4000000
open PySem PySem.W PyProof.Rows
set_option maxHeartbeats 0 in
theorem PySem.Challenge.cw_leastmakers_k69_rounds_and_reads_holds : PySem.Challenge.rw_leastmakers_k69_rounds_and_reads.Holds := by
  w_on; o_law; k_head; (case hw => w_witness2)
  k_fill
  refine Q.law_walk (l := PySem.Challenge.rw_leastmakers_k69_rounds_and_reads) (k := 4) (x := "_law_script") rfl rfl ⟨rfl, by decide, by decide⟩ (fun w h Y => by first | exact PySem.W.kIn_of Y | exact PySem.W.km_in_of Y) ?F
  case F =>
    intro w mg fa h TT KX G hmg
    refine' Q.Lk69.all_mk TT KX G hmg ?aleast_turn ?lleast_turn ?cleast_turn ?kleast_turn ?aleast ?lleast ?cleast ?kleast ?anext_in ?lnext_in ?cnext_in ?knext_in ?awalked_round ?lwalked_round ?cwalked_round ?kwalked_round ?around_of ?lround_of ?cround_of ?kround_of ?areads ?lreads ?creads ?kreads ?a_law_deck ?l_law_deck ?c_law_deck ?k_law_deck ?a_law_draw ?l_law_draw ?c_law_draw ?k_law_draw ?a_law_pick ?l_law_pick ?c_law_pick ?k_law_pick ?a_law_whole ?l_law_whole ?c_law_whole ?k_law_whole ?a_law_rule ?l_law_rule ?c_law_rule ?k_law_rule ?a_law_row ?l_law_row ?c_law_row ?k_law_row ?a_law_least ?l_law_least ?c_law_least ?k_law_least ?a_law_is_round ?l_law_is_round ?c_law_is_round ?k_law_is_round ?alaw ?llaw ?claw ?klaw ?zrange ?zlen ?zsum ?zzip ?zisinstance ?zint ?zbool ?ztuple ?zlist ?zstr ?zrepr ?zabs Q.Lk69.law_holds
    (case aleast_turn => k_is)
    (case lleast_turn => k_is)
    (case cleast_turn => k_is)
    (case kleast_turn => k_is)
    (case aleast => k_is)
    (case lleast => k_is)
    (case cleast => k_is)
    (case kleast => k_is)
    (case anext_in => k_is)
    (case lnext_in => k_is)
    (case cnext_in => k_is)
    (case knext_in => k_is)
    (case awalked_round => k_is)
    (case lwalked_round => k_is)
    (case cwalked_round => k_is)
    (case kwalked_round => k_is)
    (case around_of => k_is)
    (case lround_of => k_is)
    (case cround_of => k_is)
    (case kround_of => k_is)
    (case areads => k_is)
    (case lreads => k_is)
    (case creads => k_is)
    (case kreads => k_is)
    (case a_law_deck => k_is)
    (case l_law_deck => k_is)
    (case c_law_deck => k_is)
    (case k_law_deck => k_is)
    (case a_law_draw => k_is)
    (case l_law_draw => k_is)
    (case c_law_draw => k_is)
    (case k_law_draw => k_is)
    (case a_law_pick => k_is)
    (case l_law_pick => k_is)
    (case c_law_pick => k_is)
    (case k_law_pick => k_is)
    (case a_law_whole => k_is)
    (case l_law_whole => k_is)
    (case c_law_whole => k_is)
    (case k_law_whole => k_is)
    (case a_law_rule => k_is)
    (case l_law_rule => k_is)
    (case c_law_rule => k_is)
    (case k_law_rule => k_is)
    (case a_law_row => k_is)
    (case l_law_row => k_is)
    (case c_law_row => k_is)
    (case k_law_row => k_is)
    (case a_law_least => k_is)
    (case l_law_least => k_is)
    (case c_law_least => k_is)
    (case k_law_least => k_is)
    (case a_law_is_round => k_is)
    (case l_law_is_round => k_is)
    (case c_law_is_round => k_is)
    (case k_law_is_round => k_is)
    (case alaw => k_is)
    (case llaw => k_is)
    (case claw => k_is)
    (case klaw => k_is)
    (case zrange => k_is)
    (case zlen => k_is)
    (case zsum => k_is)
    (case zzip => k_is)
    (case zisinstance => k_is)
    (case zint => k_is)
    (case zbool => k_is)
    (case ztuple => k_is)
    (case zlist => k_is)
    (case zstr => k_is)
    (case zrepr => k_is)
    (case zabs => k_is)

