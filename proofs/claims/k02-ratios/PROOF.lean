import PyProof.Rows.All
import Wide.All
import OpenK.AllK
import Wide.FinOn
import HandS.ForMost
import HandS.Exc
import HandS.TryOnly
import HandS.WordsExc
import KE.SortData
import HandS.AnyAll
import HandS.TupAny
import HandS.Deep
import HandS.IsInst
import HandS.Wide
import HandS.Style
import HandS.Conv
import HandS.EndBits
import PySem.Challenge.RW_canalworks_k02_ratios
set_option Elab.async false
set_option linter.all false
set_option maxRecDepth 100000
set_option maxHeartbeats 4000000
/-! DL: the data layer. Defs of a program refine mirrors over PyData. -/
namespace DL
open PySem PySem.Spec PyProof.Rows L2

abbrev D := PyData

/-- what a mirror gives: a value, an error of the program's own (class, fields), or nothing that is claimed -/
inductive R (α : Type) where
  | ok (a : α)
  | ex (c : Str) (fs : List (Str × D))
  | no

def R.bind {α β : Type} : R α → (α → R β) → R β
  | .ok a, k => k a
  | .ex c f, _ => .ex c f
  | .no, _ => .no
@[simp] theorem R.bind_ok {α β : Type} (a : α) (k : α → R β) : R.bind (.ok a) k = k a := rfl
@[simp] theorem R.bind_ex {α β : Type} (c : Str) (f : List (Str × D)) (k : α → R β) : R.bind (.ex c f) k = .ex c f := rfl
@[simp] theorem R.bind_no {α β : Type} (k : α → R β) : R.bind (.no) k = .no := rfl
theorem R.bind_assoc {α β γ : Type} (m : R α) (k : α → R β) (l : β → R γ) : R.bind (R.bind m k) l = R.bind m fun a => R.bind (k a) l := by
  cases m <;> rfl

/-! ### data in an abstract heap -/
def kD : Key → D
  | .inl i => .int i
  | .inr s => .str s
def ksD (ks : List Key) : D := .tuple (ks.map kD)

mutual
inductive Rp (K : PySem.W.Frag) (G : Hp) : V → D → Prop
  | non : Rp K G .non .none
  | bl (b : Bool) : Rp K G (.bl b) (.bool b)
  | int (i : Int) : Rp K G (.int i) (.int i)
  | str (x : Str) : Rp K G (.str x) (.str x)
  | lst {a : Addr} {xs : List V} {ds : List D} : G a = some (.lst xs) → RpA K G xs ds → Rp K G (.ref a) (.list ds)
  | tup {a : Addr} {xs : List V} {ds : List D} : SqT K G a xs → RpA K G xs ds → Rp K G (.ref a) (.tuple ds)
  | dik {a : Addr} {kvs : List (Key × V)} {ps : List (D × D)} : G a = some (.dK kvs) → RpK K G kvs ps → Rp K G (.ref a) (.dict ps)
  | dit {a : Addr} {kvs : List (List Key × V)} {ps : List (D × D)} : G a = some (.dT kvs) → RpT K G kvs ps → Rp K G (.ref a) (.dict ps)
inductive RpA (K : PySem.W.Frag) (G : Hp) : List V → List D → Prop
  | nil : RpA K G [] []
  | cons {v : V} {vs : List V} {d : D} {ds : List D} : Rp K G v d → RpA K G vs ds → RpA K G (v :: vs) (d :: ds)
inductive RpK (K : PySem.W.Frag) (G : Hp) : List (Key × V) → List (D × D) → Prop
  | nil : RpK K G [] []
  | cons {k : Key} {v : V} {kvs : List (Key × V)} {d : D} {ps : List (D × D)} : Rp K G v d → RpK K G kvs ps → RpK K G ((k, v) :: kvs) ((kD k, d) :: ps)
inductive RpT (K : PySem.W.Frag) (G : Hp) : List (List Key × V) → List (D × D) → Prop
  | nil : RpT K G [] []
  | cons {k : List Key} {v : V} {kvs : List (List Key × V)} {d : D} {ps : List (D × D)} : Rp K G v d → RpT K G kvs ps → RpT K G ((k, v) :: kvs) ((ksD k, d) :: ps)
end

/-- G is a part of H -/
abbrev Sub (G H : Hp) : Prop := ∀ b o, G b = some o → H b = some o
theorem SqT.mono {K : PySem.W.Frag} {G H : Hp} {a : Addr} {xs : List V} (s : Sub G H) (h : SqT K G a xs) : SqT K H a xs := by
  rcases h with (h | ⟨o, h⟩) | h
  · exact .inl (.inl (s _ _ h))
  · exact .inl (.inr ⟨o, s _ _ h⟩)
  · exact .inr h
mutual
theorem Rp.mono {K : PySem.W.Frag} {G H : Hp} (s : Sub G H) : ∀ {v : V} {d : D}, Rp K G v d → Rp K H v d
  | _, _, .non => .non
  | _, _, .bl b => .bl b
  | _, _, .int i => .int i
  | _, _, .str x => .str x
  | _, _, .lst h r => .lst (s _ _ h) (RpA.mono s r)
  | _, _, .tup h r => .tup (SqT.mono s h) (RpA.mono s r)
  | _, _, .dik h r => .dik (s _ _ h) (RpK.mono s r)
  | _, _, .dit h r => .dit (s _ _ h) (RpT.mono s r)
theorem RpA.mono {K : PySem.W.Frag} {G H : Hp} (s : Sub G H) : ∀ {v : List V} {d : List D}, RpA K G v d → RpA K H v d
  | _, _, .nil => .nil
  | _, _, .cons h r => .cons (Rp.mono s h) (RpA.mono s r)
theorem RpK.mono {K : PySem.W.Frag} {G H : Hp} (s : Sub G H) : ∀ {v : List (Key × V)} {d : List (D × D)}, RpK K G v d → RpK K H v d
  | _, _, .nil => .nil
  | _, _, .cons h r => .cons (Rp.mono s h) (RpK.mono s r)
theorem RpT.mono {K : PySem.W.Frag} {G H : Hp} (s : Sub G H) : ∀ {v : List (List Key × V)} {d : List (D × D)}, RpT K G v d → RpT K H v d
  | _, _, .nil => .nil
  | _, _, .cons h r => .cons (Rp.mono s h) (RpT.mono s r)
end

section
variable {K : PySem.W.Frag} {G : Hp}
theorem RpA.length : ∀ {vs : List V} {ds : List D}, RpA K G vs ds → vs.length = ds.length
  | _, _, .nil => rfl
  | _, _, .cons _ r => by rw [List.length_cons, List.length_cons, RpA.length r]
theorem RpA.get : ∀ {vs : List V} {ds : List D} {i : Nat} {v : V}, RpA K G vs ds → vs[i]? = some v → ∃ d, ds[i]? = some d ∧ Rp K G v d
  | _, _, i, _, .nil, h => by simp at h
  | _, _, 0, _, .cons r _, h => by simp at h; subst h; exact ⟨_, rfl, r⟩
  | _, _, i + 1, v, .cons _ t, h => by
    obtain ⟨d, e, r⟩ := RpA.get (i := i) (v := v) t (by simpa using h)
    exact ⟨d, by simpa using e, r⟩
theorem RpA.getd : ∀ {vs : List V} {ds : List D} {i : Nat} {d : D}, RpA K G vs ds → ds[i]? = some d → ∃ v, vs[i]? = some v ∧ Rp K G v d
  | _, _, i, _, .nil, h => by simp at h
  | _, _, 0, _, .cons r _, h => by simp at h; subst h; exact ⟨_, rfl, r⟩
  | _, _, i + 1, v, .cons _ t, h => by
    obtain ⟨d, e, r⟩ := RpA.getd (i := i) (d := v) t (by simpa using h)
    exact ⟨d, by simpa using e, r⟩
theorem RpA.append : ∀ {vs us : List V} {ds es : List D}, RpA K G vs ds → RpA K G us es → RpA K G (vs ++ us) (ds ++ es)
  | _, _, _, _, .nil, r => r
  | _, _, _, _, .cons h t, r => .cons h (RpA.append t r)
theorem RpA.snoc {vs : List V} {ds : List D} {v : V} {d : D} (r : RpA K G vs ds) (h : Rp K G v d) : RpA K G (vs ++ [v]) (ds ++ [d]) := r.append (.cons h .nil)
theorem RpA.take : ∀ {vs : List V} {ds : List D} (n : Nat), RpA K G vs ds → RpA K G (vs.take n) (ds.take n)
  | _, _, 0, _ => .nil
  | _, _, n + 1, .nil => .nil
  | _, _, n + 1, .cons h t => .cons h (RpA.take n t)
theorem RpA.drop : ∀ {vs : List V} {ds : List D} (n : Nat), RpA K G vs ds → RpA K G (vs.drop n) (ds.drop n)
  | _, _, 0, r => r
  | _, _, n + 1, .nil => .nil
  | _, _, n + 1, .cons h t => RpA.drop n t
theorem RpA.set {v : V} {d : D} (h : Rp K G v d) : ∀ {vs : List V} {ds : List D} (n : Nat), RpA K G vs ds → RpA K G (vs.set n v) (ds.set n d)
  | _, _, _, .nil => .nil
  | _, _, 0, .cons _ t => .cons h t
  | _, _, n + 1, .cons q t => .cons q (RpA.set h n t)
theorem RpA.eraseIdx : ∀ {vs : List V} {ds : List D} (n : Nat), RpA K G vs ds → RpA K G (vs.eraseIdx n) (ds.eraseIdx n)
  | _, _, _, .nil => .nil
  | _, _, 0, .cons _ t => t
  | _, _, n + 1, .cons q t => .cons q (RpA.eraseIdx n t)
theorem RpA.reverse {vs : List V} {ds : List D} (r : RpA K G vs ds) : RpA K G vs.reverse ds.reverse := by
  induction vs generalizing ds with
  | nil => cases r; exact .nil
  | cons v vs ih =>
    cases r with
    | cons h t =>
      rw [List.reverse_cons, List.reverse_cons]
      exact (ih t).snoc h
/-- a value's datum is one -/
theorem Rp.int_inv {v : V} {i : Int} (r : Rp K G v (.int i)) : v = .int i := by cases r; rfl
theorem Rp.str_inv {v : V} {i : Str} (r : Rp K G v (.str i)) : v = .str i := by cases r; rfl
theorem Rp.bl_inv {v : V} {b : Bool} (r : Rp K G v (.bool b)) : v = .bl b := by cases r; rfl
theorem Rp.non_inv {v : V} (r : Rp K G v .none) : v = .non := by cases r; rfl
theorem Rp.lst_inv {v : V} {ds : List D} (r : Rp K G v (.list ds)) : ∃ a vs, v = .ref a ∧ G a = some (.lst vs) ∧ RpA K G vs ds := by
  cases r with | lst h r => exact ⟨_, _, rfl, h, r⟩
theorem Rp.tup_inv {v : V} {ds : List D} (r : Rp K G v (.tuple ds)) : ∃ a vs, v = .ref a ∧ SqT K G a vs ∧ RpA K G vs ds := by
  cases r with | tup h r => exact ⟨_, _, rfl, h, r⟩
theorem Rp.dict_inv {v : V} {ps : List (D × D)} (r : Rp K G v (.dict ps)) : ∃ a, v = .ref a ∧ ((∃ kvs, G a = some (.dK kvs) ∧ RpK K G kvs ps) ∨ ∃ kvs, G a = some (.dT kvs) ∧ RpT K G kvs ps) := by
  cases r with
  | dik h r => exact ⟨_, rfl, .inl ⟨_, h, r⟩⟩
  | dit h r => exact ⟨_, rfl, .inr ⟨_, h, r⟩⟩
theorem RpA.ints : ∀ {vs : List V} {ns : List Int}, RpA K G vs (ns.map PyData.int) → vs = ns.map V.int
  | vs, [], r => by
    have r' : RpA K G vs [] := r
    cases r'; rfl
  | vs, n :: ns, r => by
    have r' : RpA K G vs (.int n :: ns.map PyData.int) := r
    cases r' with
    | cons h t => rw [h.int_inv, RpA.ints t]; rfl
theorem RpA.strs : ∀ {vs : List V} {ns : List Str}, RpA K G vs (ns.map PyData.str) → vs = ns.map V.str
  | vs, [], r => by
    have r' : RpA K G vs [] := r
    cases r'; rfl
  | vs, n :: ns, r => by
    have r' : RpA K G vs (.str n :: ns.map PyData.str) := r
    cases r' with
    | cons h t => rw [h.str_inv, RpA.strs t]; rfl
theorem RpA.bls : ∀ {vs : List V} {ns : List Bool}, RpA K G vs (ns.map PyData.bool) → vs = ns.map V.bl
  | vs, [], r => by
    have r' : RpA K G vs [] := r
    cases r'; rfl
  | vs, n :: ns, r => by
    have r' : RpA K G vs (.bool n :: ns.map PyData.bool) := r
    cases r' with
    | cons h t => rw [h.bl_inv, RpA.bls t]; rfl
end

/-! ### no dict within: the kit's Dp -/
mutual
def noDict : D → Bool
  | .none | .bool _ | .int _ | .str _ => true
  | .list xs | .tuple xs => noDictA xs
  | .dict _ => false
def noDictA : List D → Bool
  | [] => true
  | x :: xs => noDict x && noDictA xs
end
section
variable {K : PySem.W.Frag} {G : Hp}
mutual
theorem Rp.dp : ∀ {v : V} {d : D}, Rp K G v d → d.canLay0 = true → Dp K G v d
  | _, _, .non, _ => .non
  | _, _, .bl b, _ => .bl b
  | _, _, .int i, _ => .int i
  | _, _, .str x, _ => .str x
  | _, _, .lst h r, q => .lst (.inl (.inl h)) (RpA.dp r (by simpa [PyData.canLay0] using q))
  | _, _, .tup h r, q => .tup h (RpA.dp r (by simpa [PyData.canLay0] using q))
  | _, _, .dik h r, q => by simp [PyData.canLay0] at q
  | _, _, .dit h r, q => by simp [PyData.canLay0] at q
theorem RpA.dp : ∀ {v : List V} {d : List D}, RpA K G v d → PyData.canLayAll0 d = true → DpAll K G v d
  | _, _, .nil, _ => .nil
  | _, _, .cons h r, q => by
    have q' := q
    rw [PyData.canLayAll0, Bool.and_eq_true] at q'
    exact .cons (Rp.dp h q'.1) (RpA.dp r q'.2)
end
end
end DL
namespace DL
open PySem PySem.Spec PyProof.Rows L2

/-! ### what a slot holds -/
inductive Sl where
  | no
  | im (d : D)
  | ol (ds : List D)
  | ok (ps : List (D × D))
  | ot (ps : List (D × D))
  | raw (v : V)

def Sl.own : Sl → Bool
  | .ol _ | .ok _ | .ot _ => true
  | _ => false

/-- an object grows -/
def HLe (o o' : HO) : Prop := o' = o ∨ ∃ ps qs, o = .tbl ps ∧ o' = .tbl qs
def Ext (H H' : Hp) : Prop := ∀ b o, H b = some o → ∃ o', H' b = some o' ∧ HLe o o'
theorem Ext.refl (H : Hp) : Ext H H := fun _ o h => ⟨o, h, .inl rfl⟩
theorem Ext.trans {H H1 H2 : Hp} (a : Ext H H1) (b : Ext H1 H2) : Ext H H2 := fun c o h => by
  obtain ⟨o1, h1, l1⟩ := a c o h
  obtain ⟨o2, h2, l2⟩ := b c o1 h1
  refine ⟨o2, h2, ?_⟩
  rcases l1 with rfl | ⟨ps, qs, rfl, rfl⟩
  · exact l2
  · rcases l2 with rfl | ⟨ps', qs', e, rfl⟩
    · exact .inr ⟨_, _, rfl, rfl⟩
    · exact .inr ⟨_, _, rfl, rfl⟩
theorem Ext.of_sub {H H' : Hp} (h : Sub H H') : Ext H H' := fun b o e => ⟨o, h b o e, .inl rfl⟩
theorem Ext.free {H H' : Hp} (e : Ext H H') {b : Addr} (h : H' b = none) : H b = none := by
  cases q : H b with
  | none => rfl
  | some o =>
    obtain ⟨o', h', _⟩ := e b o q
    rw [h] at h'; cases h'
theorem Ext.new {H : Hp} {p : Addr} {o : HO} (h : H p = none) : Ext H (upd H p o) := fun b u e => ⟨u, by rw [upd_ne (ne_of_none e h)]; exact e, .inl rfl⟩
theorem Sub.new {H : Hp} {p : Addr} {o : HO} (h : H p = none) : Sub H (upd H p o) := fun b u e => by rw [upd_ne (ne_of_none e h)]; exact e
theorem Sub.refl (H : Hp) : Sub H H := fun _ _ e => e
theorem Sub.trans {H H1 H2 : Hp} (a : Sub H H1) (b : Sub H1 H2) : Sub H H2 := fun c o h => b c o (a c o h)
abbrev TabsOk (T : List Addr) (H : Hp) : Prop := ∀ P ∈ T, GxR.TabG H P
theorem TabsOk.new {T : List Addr} {H : Hp} {p : Addr} {o : HO} (t : TabsOk T H) (h : H p = none) : TabsOk T (upd H p o) := fun P hP => by
  obtain ⟨ps, e, q⟩ := t P hP
  exact ⟨ps, by rw [upd_ne (ne_of_none e h)]; exact e, q⟩

/-- from the entry (B: what must stay, G0: the data there) to now -/
structure Grow (T : List Addr) (B G0 H G : Hp) : Prop where
  ext : Ext B H
  sub : Sub G H
  ggr : Sub G0 G
  fresh : ∀ b, G b ≠ none → G0 b ≠ none ∨ B b = none
  tabs : TabsOk T H
  data : ∀ b ps, G b ≠ some (.tbl ps)
theorem Grow.trans {T : List Addr} {B G0 H G H' G' : Hp} (a : Grow T B G0 H G) (b : Grow T H G H' G') : Grow T B G0 H' G' :=
  ⟨a.ext.trans b.ext, b.sub, a.ggr.trans b.ggr, fun c h => by
    rcases b.fresh c h with z | z
    · exact a.fresh c z
    · exact .inr (a.ext.free z), b.tabs, b.data⟩
theorem Grow.refl {T : List Addr} {H G : Hp} (s : Sub G H) (t : TabsOk T H) (d : ∀ b ps, G b ≠ some (.tbl ps)) : Grow T H G H G :=
  ⟨.refl H, s, .refl G, fun _ h => .inl h, t, d⟩
theorem Grow.entry {T : List Addr} {B G0 H G : Hp} (a : Grow T B G0 H G) : Grow T H G H G := .refl a.sub a.tabs a.data

def SlOk (K : PySem.W.Frag) (B H G : Hp) (σ : L2.St) (i : Nat) : Sl → Prop
  | .no => True
  | .im d => ∃ v, σ[i]? = some (some v) ∧ Rp K G v d
  | .ol ds => ∃ a vs, σ[i]? = some (some (.ref a)) ∧ H a = some (.lst vs) ∧ G a = none ∧ B a = none ∧ RpA K G vs ds
  | .ok ps => ∃ a kvs, σ[i]? = some (some (.ref a)) ∧ H a = some (.dK kvs) ∧ G a = none ∧ B a = none ∧ RpK K G kvs ps
  | .ot ps => ∃ a kvs, σ[i]? = some (some (.ref a)) ∧ H a = some (.dT kvs) ∧ G a = none ∧ B a = none ∧ RpT K G kvs ps
  | .raw v => σ[i]? = some (some v)

def OwnAt (L : List Sl) (σ : L2.St) (i : Nat) (a : Addr) : Prop := (∃ s, L[i]? = some s ∧ s.own = true) ∧ σ[i]? = some (some (.ref a))

structure At (K : PySem.W.Frag) (T : List Addr) (B G0 : Hp) (L : List Sl) (σ : L2.St) (H G : Hp) : Prop where
  gr : Grow T B G0 H G
  len : L.length = σ.length
  sl : ∀ i s, L[i]? = some s → SlOk K B H G σ i s
  dis : ∀ i j a, OwnAt L σ i a → OwnAt L σ j a → i = j

section
variable {K : PySem.W.Frag} {T : List Addr} {B G0 : Hp} {L L' : List Sl} {σ : L2.St} {H G H' G' : Hp}

theorem SlOk.own_ne {s : Sl} {i : Nat} {p : Addr} (h : SlOk K B H G σ i s) (ho : s.own = true) (e : σ[i]? = some (some (.ref p))) : ∃ o, H p = some o ∧ G p = none ∧ B p = none := by
  cases s with
  | no => cases ho
  | im d => cases ho
  | raw v => cases ho
  | ol ds =>
    obtain ⟨a, vs, e1, e2, e3, e4, _⟩ := h
    rw [e] at e1; cases e1
    exact ⟨_, e2, e3, e4⟩
  | ok ds =>
    obtain ⟨a, vs, e1, e2, e3, e4, _⟩ := h
    rw [e] at e1; cases e1
    exact ⟨_, e2, e3, e4⟩
  | ot ds =>
    obtain ⟨a, vs, e1, e2, e3, e4, _⟩ := h
    rw [e] at e1; cases e1
    exact ⟨_, e2, e3, e4⟩
theorem At.own (A : At K T B G0 L σ H G) {i : Nat} {a : Addr} (o : OwnAt L σ i a) : ∃ u, H a = some u ∧ G a = none ∧ B a = none := by
  obtain ⟨⟨s, hs, ho⟩, e⟩ := o
  exact (A.sl i s hs).own_ne ho e
/-- a slot in a changed heap: what it owns stands, the data grew -/
theorem SlOk.step {s : Sl} {i : Nat} (h : SlOk K B H G σ i s) (g : Sub G G') (k : ∀ a, s.own = true → σ[i]? = some (some (.ref a)) → H' a = H a ∧ G' a = none) : SlOk K B H' G' σ i s := by
  cases s with
  | no => trivial
  | im d =>
    obtain ⟨v, e, r⟩ := h
    exact ⟨v, e, r.mono g⟩
  | raw v => exact h
  | ol ds =>
    obtain ⟨a, vs, e1, e2, e3, e4, r⟩ := h
    obtain ⟨k1, k2⟩ := k a rfl e1
    exact ⟨a, vs, e1, by rw [k1]; exact e2, k2, e4, r.mono g⟩
  | ok ds =>
    obtain ⟨a, vs, e1, e2, e3, e4, r⟩ := h
    obtain ⟨k1, k2⟩ := k a rfl e1
    exact ⟨a, vs, e1, by rw [k1]; exact e2, k2, e4, r.mono g⟩
  | ot ds =>
    obtain ⟨a, vs, e1, e2, e3, e4, r⟩ := h
    obtain ⟨k1, k2⟩ := k a rfl e1
    exact ⟨a, vs, e1, by rw [k1]; exact e2, k2, e4, r.mono g⟩
theorem At.step (A : At K T B G0 L σ H G) (gr : Grow T B G0 H' G') (g : Sub G G') (k : ∀ i a, OwnAt L σ i a → H' a = H a ∧ G' a = none) : At K T B G0 L σ H' G' :=
  ⟨gr, A.len, fun i s hs => (A.sl i s hs).step g fun a ho e => k i a ⟨⟨s, hs, ho⟩, e⟩, A.dis⟩
/-- a callee, or any step over the state as its entry -/
theorem At.grown (A : At K T B G0 L σ H G) (gr : Grow T H G H' G') : At K T B G0 L σ H' G' := by
  refine A.step (A.gr.trans gr) gr.ggr fun i a o => ?_
  obtain ⟨u, h1, h2, h3⟩ := A.own o
  obtain ⟨u', h1', l⟩ := gr.ext a u h1
  refine ⟨?_, ?_⟩
  · rcases l with rfl | ⟨ps, qs, rfl, rfl⟩
    · rw [h1, h1']
    · obtain ⟨⟨s, hs, ho⟩, e⟩ := o
      have z := A.sl i s hs
      cases s with
      | no => cases ho
      | im d => cases ho
      | raw v => cases ho
      | ol ds =>
        obtain ⟨a, vs, e1, e2, _⟩ := z
        rw [e] at e1; cases e1
        rw [h1] at e2; cases e2
      | ok ds =>
        obtain ⟨a, vs, e1, e2, _⟩ := z
        rw [e] at e1; cases e1
        rw [h1] at e2; cases e2
      | ot ds =>
        obtain ⟨a, vs, e1, e2, _⟩ := z
        rw [e] at e1; cases e1
        rw [h1] at e2; cases e2
  · cases q : G' a with
    | none => rfl
    | some o =>
      rcases gr.fresh a (by rw [q]; simp) with z | z
      · exact absurd h2 z
      · rw [h1] at z; cases z
def isData : HO → Bool
  | .tbl _ => false
  | _ => true
theorem Grow.alloc (gr : Grow T B G0 H G) {p : Addr} {o : HO} (hp : H p = none) (d : isData o = true) : Grow T B G0 (upd H p o) (upd G p o) := by
  have hg : G p = none := by
    cases q : G p with
    | none => rfl
    | some u => rw [gr.sub p u q] at hp; cases hp
  refine ⟨gr.ext.trans (.new hp), fun b u e => ?_, gr.ggr.trans (.new hg), fun b h => ?_, gr.tabs.new hp, fun b ps e => ?_⟩
  · by_cases hb : b = p
    · subst hb
      rw [upd_same] at e ⊢
      exact e
    · rw [upd_ne hb] at e ⊢
      exact gr.sub b u e
  · by_cases hb : b = p
    · subst hb
      exact .inr (gr.ext.free hp)
    · rw [upd_ne hb] at h
      exact gr.fresh b h
  · by_cases hb : b = p
    · subst hb
      rw [upd_same] at e
      cases e
      cases d
    · rw [upd_ne hb] at e
      exact gr.data b ps e
theorem Grow.sub_none (gr : Grow T B G0 H G) {p : Addr} (hp : H p = none) : G p = none := by
  cases q : G p with
  | none => rfl
  | some u => rw [gr.sub p u q] at hp; cases hp
theorem Grow.allocH (gr : Grow T B G0 H G) {p : Addr} {o : HO} (hp : H p = none) : Grow T B G0 (upd H p o) G :=
  ⟨gr.ext.trans (.new hp), fun b u e => Sub.new hp b u (gr.sub b u e), gr.ggr, gr.fresh, gr.tabs.new hp, gr.data⟩
theorem At.alloc (A : At K T B G0 L σ H G) {p : Addr} {o : HO} (hp : H p = none) (d : isData o = true) : At K T B G0 L σ (upd H p o) (upd G p o) := by
  have hg := A.gr.sub_none hp
  refine A.step (A.gr.alloc hp d) (.new hg) fun i a w => ?_
  obtain ⟨u, h1, h2, h3⟩ := A.own w
  have ne : a ≠ p := ne_of_none h1 hp
  exact ⟨upd_ne ne, by rw [upd_ne ne]; exact h2⟩
theorem At.allocH (A : At K T B G0 L σ H G) {p : Addr} {o : HO} (hp : H p = none) : At K T B G0 L σ (upd H p o) G := by
  refine A.step (A.gr.allocH hp) (.refl G) fun i a w => ?_
  obtain ⟨u, h1, h2, h3⟩ := A.own w
  exact ⟨upd_ne (ne_of_none h1 hp), h2⟩

/-! weakening of slots -/
/-- a slot that says less -/
def SlLe (a b : Sl) : Prop := b = .no ∨ b = a
inductive Wk : List Sl → List Sl → Prop
  | nil : Wk [] []
  | cons {a b : Sl} {l m : List Sl} : SlLe a b → Wk l m → Wk (a :: l) (b :: m)
theorem Wk.refl : ∀ l : List Sl, Wk l l
  | [] => .nil
  | _ :: l => .cons (.inr rfl) (Wk.refl l)
def noL (n : Nat) : List Sl := List.replicate n .no
theorem Wk.none : ∀ {l : List Sl} {n : Nat}, l.length = n → Wk l (noL n)
  | [], 0, _ => .nil
  | _ :: l, n + 1, h => by
    show Wk (_ :: l) (Sl.no :: noL n)
    exact .cons (.inl rfl) (Wk.none (by simpa using h))
  | [], n + 1, h => by simp at h
  | _ :: _, 0, h => by simp at h
theorem Wk.length : ∀ {l m : List Sl}, Wk l m → l.length = m.length
  | _, _, .nil => rfl
  | _, _, .cons _ r => by rw [List.length_cons, List.length_cons, Wk.length r]
theorem Wk.get : ∀ {l m : List Sl} {i : Nat} {b : Sl}, Wk l m → m[i]? = some b → ∃ a, l[i]? = some a ∧ SlLe a b
  | _, _, i, _, .nil, h => by simp at h
  | _, _, 0, _, .cons r _, h => by simp at h; subst h; exact ⟨_, rfl, r⟩
  | _, _, i + 1, b, .cons _ t, h => by
    obtain ⟨d, e, r⟩ := Wk.get (i := i) (b := b) t (by simpa using h)
    exact ⟨d, by simpa using e, r⟩
theorem Wk.trans : ∀ {l m n : List Sl}, Wk l m → Wk m n → Wk l n
  | _, _, _, .nil, .nil => .nil
  | _, _, _, .cons a r, .cons b s => .cons (by
      rcases b with rfl | rfl
      · exact .inl rfl
      · exact a) (Wk.trans r s)
theorem At.weak (A : At K T B G0 L σ H G) (w : Wk L L') : At K T B G0 L' σ H G := by
  refine ⟨A.gr, w.length.symm.trans A.len, fun i s hs => ?_, fun i j a o1 o2 => ?_⟩
  · obtain ⟨a, ha, l⟩ := w.get hs
    rcases l with rfl | rfl
    · trivial
    · exact A.sl i _ ha
  · have up : ∀ {i a}, OwnAt L' σ i a → OwnAt L σ i a := fun {i a} o => by
      obtain ⟨⟨s, hs, ho⟩, e⟩ := o
      obtain ⟨a, ha, l⟩ := w.get hs
      rcases l with rfl | rfl
      · cases ho
      · exact ⟨⟨_, ha, ho⟩, e⟩
    exact A.dis i j a (up o1) (up o2)

/-! stores -/
theorem set_get {α : Type} {l : List α} {i : Nat} {x y : α} (h : (l.set i x)[i]? = some y) : y = x := by
  by_cases hi : i < l.length
  · rw [List.getElem?_set_self hi] at h
    exact (Option.some.inj h).symm
  · rw [List.getElem?_eq_none_iff.mpr (by rw [List.length_set]; omega)] at h
    cases h
theorem OwnAt.of_set {i j : Nat} {x : Sl} {v : V} {a : Addr} (hij : j ≠ i) (o : OwnAt (L.set i x) (σ.set i (some v)) j a) : OwnAt L σ j a := by
  obtain ⟨⟨s, hs, ho⟩, e⟩ := o
  rw [List.getElem?_set_ne (Ne.symm hij)] at hs e
  exact ⟨⟨s, hs, ho⟩, e⟩
theorem SlOk.set {i j : Nat} {s : Sl} {v : Option V} (hij : j ≠ i) (h : SlOk K B H G σ j s) : SlOk K B H G (σ.set i v) j s := by
  have q : (σ.set i v)[j]? = σ[j]? := List.getElem?_set_ne (Ne.symm hij)
  cases s with
  | no => trivial
  | im d =>
    obtain ⟨w, e, r⟩ := h
    exact ⟨w, by rw [q]; exact e, r⟩
  | raw w =>
    have h' : σ[j]? = some (some w) := h
    exact (show (σ.set i v)[j]? = some (some w) from q.trans h')
  | ol ds =>
    obtain ⟨a, vs, e1, r⟩ := h
    exact ⟨a, vs, by rw [q]; exact e1, r⟩
  | ok ds =>
    obtain ⟨a, vs, e1, r⟩ := h
    exact ⟨a, vs, by rw [q]; exact e1, r⟩
  | ot ds =>
    obtain ⟨a, vs, e1, r⟩ := h
    exact ⟨a, vs, by rw [q]; exact e1, r⟩
theorem At.set (A : At K T B G0 L σ H G) {i : Nat} {x : Sl} {v : V} (hx : x.own = false) (h : i < L.length → SlOk K B H G (σ.set i (some v)) i x) : At K T B G0 (L.set i x) (σ.set i (some v)) H G := by
  refine ⟨A.gr, by rw [List.length_set, List.length_set]; exact A.len, fun j s hs => ?_, fun j k a o1 o2 => ?_⟩
  · by_cases hj : j = i
    · subst hj
      have e := set_get hs
      subst e
      have hlt : j < L.length := by
        have := (List.getElem?_eq_some_iff.mp hs).1
        rwa [List.length_set] at this
      exact h hlt
    · rw [List.getElem?_set_ne (Ne.symm hj)] at hs
      exact (A.sl j s hs).set hj
  · have ne : ∀ {j a}, OwnAt (L.set i x) (σ.set i (some v)) j a → j ≠ i := fun {j a} o z => by
      subst z
      obtain ⟨⟨s, hs, ho⟩, _⟩ := o
      rw [set_get hs, hx] at ho
      cases ho
    exact A.dis j k a (o1.of_set (ne o1)) (o2.of_set (ne o2))
theorem At.setIm (A : At K T B G0 L σ H G) {i : Nat} {d : D} {v : V} (r : Rp K G v d) : At K T B G0 (L.set i (.im d)) (σ.set i (some v)) H G :=
  A.set rfl fun hi => ⟨v, List.getElem?_set_self (by rw [← A.len]; exact hi), r⟩
/-- an object that no slot holds comes to slot i -/
theorem At.setOwn (A : At K T B G0 L σ H G) {i : Nat} {x : Sl} {p : Addr} (hn : ∀ j, ¬ OwnAt L σ j p) (h : i < L.length → SlOk K B H G (σ.set i (some (.ref p))) i x) : At K T B G0 (L.set i x) (σ.set i (some (.ref p))) H G := by
  refine ⟨A.gr, by rw [List.length_set, List.length_set]; exact A.len, fun j s hs => ?_, fun j k a o1 o2 => ?_⟩
  · by_cases hj : j = i
    · subst hj
      have e := set_get hs
      subst e
      have hlt : j < L.length := by
        have := (List.getElem?_eq_some_iff.mp hs).1
        rwa [List.length_set] at this
      exact h hlt
    · rw [List.getElem?_set_ne (Ne.symm hj)] at hs
      exact (A.sl j s hs).set hj
  · have eq : ∀ {j a}, OwnAt (L.set i x) (σ.set i (some (.ref p))) j a → j = i → a = p := fun {j a} o z => by
      subst z
      obtain ⟨_, e⟩ := o
      have e2 := set_get e
      cases e2
      rfl
    by_cases hj : j = i
    · by_cases hk : k = i
      · rw [hj, hk]
      · have ea := eq o1 hj
        subst ea
        exact absurd (o2.of_set hk) (hn k)
    · by_cases hk : k = i
      · have ea := eq o2 hk
        subst ea
        exact absurd (o1.of_set hj) (hn j)
      · exact A.dis j k a (o1.of_set hj) (o2.of_set hk)
/-- the object of slot i changes -/
theorem At.write (A : At K T B G0 L σ H G) {i : Nat} {x : Sl} {a : Addr} {o : HO} (w : OwnAt L σ i a) (h : SlOk K B (upd H a o) G σ i x) (ho : x.own = true) (d : isData o = true) (hd : ∀ ps, H a ≠ some (.tbl ps)) :
    At K T B G0 (L.set i x) σ (upd H a o) G := by
  obtain ⟨u, h1, h2, h3⟩ := A.own w
  have hi : i < L.length := by
    obtain ⟨⟨s, hs, _⟩, _⟩ := w
    exact (List.getElem?_eq_some_iff.mp hs).1
  have back : ∀ {j b}, OwnAt (L.set i x) σ j b → OwnAt L σ j b := fun {j b} o => by
    by_cases hj : j = i
    · subst hj
      obtain ⟨_, e⟩ := o
      obtain ⟨s0, _⟩ := w
      exact ⟨s0, e⟩
    · obtain ⟨⟨s, hs, ho⟩, e⟩ := o
      rw [List.getElem?_set_ne (Ne.symm hj)] at hs
      exact ⟨⟨s, hs, ho⟩, e⟩
  refine ⟨⟨fun b u' e => ?_, fun b u' e => ?_, A.gr.ggr, A.gr.fresh, fun P hP => ?_, A.gr.data⟩, by rw [List.length_set]; exact A.len, fun j s hs => ?_, fun j k b o1 o2 => A.dis j k b (back o1) (back o2)⟩
  · have ne : b ≠ a := fun z => by rw [z, h3] at e; cases e
    rw [upd_ne ne]
    exact A.gr.ext b u' e
  · have ne : b ≠ a := fun z => by rw [z, h2] at e; cases e
    rw [upd_ne ne]
    exact A.gr.sub b u' e
  · obtain ⟨ps, e, q⟩ := A.gr.tabs P hP
    have ne : P ≠ a := fun z => by
      rw [z] at e
      exact hd ps e
    exact ⟨ps, by rw [upd_ne ne]; exact e, q⟩
  · by_cases hj : j = i
    · subst hj
      have e := set_get hs
      subst e
      exact h
    · rw [List.getElem?_set_ne (Ne.symm hj)] at hs
      refine (A.sl j s hs).step (.refl G) fun b hob e => ?_
      have ob : OwnAt L σ j b := ⟨⟨s, hs, hob⟩, e⟩
      have ne : b ≠ a := fun z => by
        subst z
        exact hj (A.dis j i b ob w)
      obtain ⟨_, _, g2, _⟩ := A.own ob
      exact ⟨upd_ne ne, g2⟩
/-- what slot i owns becomes data -/
theorem At.freeze (A : At K T B G0 L σ H G) {i : Nat} {d : D} {a : Addr} {o : HO} (w : OwnAt L σ i a) (ha : H a = some o) (hd : isData o = true) (r : Rp K (upd G a o) (.ref a) d) :
    At K T B G0 (L.set i (.im d)) σ H (upd G a o) := by
  obtain ⟨u, h1, h2, h3⟩ := A.own w
  refine ⟨⟨A.gr.ext, fun b u' e => ?_, A.gr.ggr.trans (.new h2), fun b h => ?_, A.gr.tabs, fun b ps e => ?_⟩, by rw [List.length_set]; exact A.len, fun j s hs => ?_, fun j k b o1 o2 => ?_⟩
  · by_cases hb : b = a
    · subst hb
      rw [upd_same] at e
      rw [ha]; exact e
    · rw [upd_ne hb] at e
      exact A.gr.sub b u' e
  · by_cases hb : b = a
    · subst hb
      exact .inr h3
    · rw [upd_ne hb] at h
      exact A.gr.fresh b h
  · by_cases hb : b = a
    · subst hb
      rw [upd_same] at e
      cases e
      cases hd
    · rw [upd_ne hb] at e
      exact A.gr.data b ps e
  · by_cases hj : j = i
    · subst hj
      have e := set_get hs
      subst e
      obtain ⟨_, e⟩ := w
      exact ⟨_, e, r⟩
    · rw [List.getElem?_set_ne (Ne.symm hj)] at hs
      refine (A.sl j s hs).step (.new h2) fun b hob e => ?_
      have ob : OwnAt L σ j b := ⟨⟨s, hs, hob⟩, e⟩
      have ne : b ≠ a := fun z => by
        subst z
        exact hj (A.dis j i b ob w)
      obtain ⟨_, _, g2, _⟩ := A.own ob
      exact ⟨rfl, by rw [upd_ne ne]; exact g2⟩
  · have back : ∀ {j b}, OwnAt (L.set i (.im d)) σ j b → OwnAt L σ j b := fun {j b} o => by
      obtain ⟨⟨s, hs, ho⟩, e⟩ := o
      by_cases hj : j = i
      · subst hj
        rw [set_get hs] at ho
        cases ho
      · rw [List.getElem?_set_ne (Ne.symm hj)] at hs
        exact ⟨⟨s, hs, ho⟩, e⟩
    exact A.dis j k b (back o1) (back o2)
end
end DL
namespace DL
open PySem PySem.Spec PyProof.Rows L2

/-! ### judgements -/
abbrev FR (K : PySem.W.Frag) (G : Hp) : List (Str × V) → List (Str × D) → Prop := Paired fun p q => p.1 = q.1 ∧ Rp K G p.2 q.2
/-- an error (class c, fields fs) is welcome -/
def ExP (X : Cx) (T : List Addr) (W : WX) (B G0 : Hp) (Lx : List Sl) (c : Str) (fs : List (Str × D)) : Prop :=
  ∀ (C dx : Addr) (vfs : List (Str × V)) (σ : L2.St) (H' G' : Hp), X.mg c = some (.ref C) → At X.K T B G0 Lx σ H' G' → H' dx = some (.xd vfs) → FR X.K G' vfs fs → W (.ref C) (some dx) σ H'
/-- what is wanted behind a piece of code that gives m; Rl: how a result b bears the datum a (behind H, in H', G') -/
def GP {α β : Type} (Rl : Hp → Hp → Hp → β → α → Prop) (X : Cx) (T : List Addr) (W : WX) (B G0 : Hp) (Lx : List Sl) (H G : Hp) (m : R α) (Q : β → Hp → Prop) : Prop :=
  match m with
  | .ok a => ∀ b H' G', Grow T H G H' G' → Rl H H' G' b a → Q b H'
  | .ex c fs => ExP X T W B G0 Lx c fs
  | .no => False
/-- the relation forgets what came later -/
def Dn {α β : Type} (Rl : Hp → Hp → Hp → β → α → Prop) : Prop := ∀ H H1 H' G' b a, Ext H H1 → Rl H1 H' G' b a → Rl H H' G' b a
abbrev rE (K : PySem.W.Frag) : Hp → Hp → Hp → V → D → Prop := fun _ _ G v d => Rp K G v d
abbrev rA (K : PySem.W.Frag) : Hp → Hp → Hp → List V → List D → Prop := fun _ _ G v d => RpA K G v d
abbrev rT : Hp → Hp → Hp → Bool → Bool → Prop := fun _ _ _ b a => b = a
/-- a new list that nobody holds -/
def rL (K : PySem.W.Frag) : Hp → Hp → Hp → V → List D → Prop := fun H H' G' v ds => ∃ p vs, v = .ref p ∧ H p = none ∧ H' p = some (.lst vs) ∧ G' p = none ∧ RpA K G' vs ds
/-- a new dict that nobody holds -/
def rDK (K : PySem.W.Frag) : Hp → Hp → Hp → V → List (D × D) → Prop := fun H H' G' v ps => ∃ p vs, v = .ref p ∧ H p = none ∧ H' p = some (.dK vs) ∧ G' p = none ∧ RpK K G' vs ps
def rDT (K : PySem.W.Frag) : Hp → Hp → Hp → V → List (D × D) → Prop := fun H H' G' v ps => ∃ p vs, v = .ref p ∧ H p = none ∧ H' p = some (.dT vs) ∧ G' p = none ∧ RpT K G' vs ps
theorem dnE {K : PySem.W.Frag} : Dn (rE K) := fun _ _ _ _ _ _ _ h => h
theorem dnA {K : PySem.W.Frag} : Dn (rA K) := fun _ _ _ _ _ _ _ h => h
theorem dnT : Dn rT := fun _ _ _ _ _ _ _ h => h
theorem dnL {K : PySem.W.Frag} : Dn (rL K) := fun _ _ _ _ _ _ e ⟨p, vs, e1, e2, r⟩ => ⟨p, vs, e1, e.free e2, r⟩
theorem dnDK {K : PySem.W.Frag} : Dn (rDK K) := fun _ _ _ _ _ _ e ⟨p, vs, e1, e2, r⟩ => ⟨p, vs, e1, e.free e2, r⟩
theorem dnDT {K : PySem.W.Frag} : Dn (rDT K) := fun _ _ _ _ _ _ e ⟨p, vs, e1, e2, r⟩ => ⟨p, vs, e1, e.free e2, r⟩

section
variable {X : Cx} {T : List Addr} {W : WX} {B G0 : Hp} {Lx L : List Sl} {H G : Hp}
theorem GP.later {α β : Type} {Rl : Hp → Hp → Hp → β → α → Prop} (dn : Dn Rl) {m : R α} {Q : β → Hp → Prop} {H1 G1 : Hp} (h : GP Rl X T W B G0 Lx H G m Q) (g : Grow T H G H1 G1) : GP Rl X T W B G0 Lx H1 G1 m Q := by
  cases m with
  | ok a => exact fun b H' G' g' r => h b H' G' (g.trans g') (dn _ _ _ _ _ _ g.ext r)
  | ex c fs => exact h
  | no => exact h
theorem GP.mono {α β : Type} {Rl : Hp → Hp → Hp → β → α → Prop} {m : R α} {Q Q' : β → Hp → Prop} (h : GP Rl X T W B G0 Lx H G m Q) (q : ∀ b H', Q b H' → Q' b H') : GP Rl X T W B G0 Lx H G m Q' := by
  cases m with
  | ok a => exact fun b H' G' g' r => q b H' (h b H' G' g' r)
  | ex c fs => exact h
  | no => exact h
theorem GP.bind {α β γ δ : Type} {Rl : Hp → Hp → Hp → β → α → Prop} {Sl : Hp → Hp → Hp → δ → γ → Prop} (dn : Dn Sl) {m : R α} {k : α → R γ} {Q : δ → Hp → Prop} (h : GP Sl X T W B G0 Lx H G (m.bind k) Q) :
    GP Rl X T W B G0 Lx H G m (fun x H1 => ∃ G1 a, Grow T H G H1 G1 ∧ Rl H H1 G1 x a ∧ GP Sl X T W B G0 Lx H1 G1 (k a) Q) := by
  cases m with
  | ok a => exact fun b H' G' g r => ⟨G', a, g, r, GP.later dn (m := k a) h g⟩
  | ex c fs => exact h
  | no => exact h
theorem GP.now {α β : Type} {Rl : Hp → Hp → Hp → β → α → Prop} {a : α} {Q : β → Hp → Prop} (h : GP Rl X T W B G0 Lx H G (.ok a) Q) {σ : L2.St} (A : At X.K T B G0 L σ H G) {b : β} (r : Rl H H G b a) : Q b H :=
  h b H G A.gr.entry r
end

def RE (X : Cx) (T : List Addr) (W : WX) (B G0 : Hp) (Lx L : List Sl) (e : Expr) (m : R D) : Prop :=
  ∃ t, PE X e t ∧ ∀ (σ : L2.St) (H G : Hp) (Q : VK), At X.K T B G0 L σ H G → GP (rE X.K) X T W B G0 Lx H G m Q → t σ H Q
def RT (X : Cx) (T : List Addr) (W : WX) (B G0 : Hp) (Lx L : List Sl) (e : Expr) (m : R Bool) : Prop :=
  ∃ t, PT X e t ∧ ∀ (σ : L2.St) (H G : Hp) (Q : Bool → Hp → Prop), At X.K T B G0 L σ H G → GP rT X T W B G0 Lx H G m Q → t σ H Q
def RW (X : Cx) (T : List Addr) (W : WX) (B G0 : Hp) (Lx L : List Sl) (e : Expr) (m : R Bool) : Prop :=
  ∃ t, PW X e t ∧ ∀ (σ : L2.St) (H G : Hp) (Q : Bool → Hp → Prop), At X.K T B G0 L σ H G → GP rT X T W B G0 Lx H G m Q → t σ H Q
def RA (X : Cx) (T : List Addr) (W : WX) (B G0 : Hp) (Lx L : List Sl) (es : List Expr) (m : R (List D)) : Prop :=
  ∃ t, PA X es t ∧ (∀ ds, m = .ok ds → ds.length = es.length) ∧ ∀ (σ : L2.St) (H G : Hp) (Q : List V → Hp → Prop), At X.K T B G0 L σ H G → GP (rA X.K) X T W B G0 Lx H G m Q → t σ H Q
/-- a new list; a new dict -/
def RO (X : Cx) (T : List Addr) (W : WX) (B G0 : Hp) (Lx L : List Sl) (e : Expr) (m : R (List D)) : Prop :=
  ∃ t, PE X e t ∧ ∀ (σ : L2.St) (H G : Hp) (Q : VK), At X.K T B G0 L σ H G → GP (rL X.K) X T W B G0 Lx H G m Q → t σ H Q
def RDK (X : Cx) (T : List Addr) (W : WX) (B G0 : Hp) (Lx L : List Sl) (e : Expr) (m : R (List (D × D))) : Prop :=
  ∃ t, PE X e t ∧ ∀ (σ : L2.St) (H G : Hp) (Q : VK), At X.K T B G0 L σ H G → GP (rDK X.K) X T W B G0 Lx H G m Q → t σ H Q
def RDT (X : Cx) (T : List Addr) (W : WX) (B G0 : Hp) (Lx L : List Sl) (e : Expr) (m : R (List (D × D))) : Prop :=
  ∃ t, PE X e t ∧ ∀ (σ : L2.St) (H G : Hp) (Q : VK), At X.K T B G0 L σ H G → GP (rDT X.K) X T W B G0 Lx H G m Q → t σ H Q

section
variable {X : Cx} {T : List Addr} {W : WX} {B G0 : Hp} {Lx L : List Sl}

/-! ### names and constants -/
theorem re_im (i : Nat) {d : D} {x : Str} {pos : Pos} (hL : L[i]? = some (.im d) := by rfl) (hN : X.N[i]? = some x := by rfl) (hv : Vis X.env.scope x := by first | exact Or.inl rfl | exact Or.inr (Or.inl rfl) | exact Or.inr (Or.inr rfl))
    (hd : (x == ("__debug__" : Str)) = false := by decide) (hcd : (x == ("__classdict__" : Str)) = false := by decide) : RE X T W B G0 Lx L (.Name x pos) (.ok d) := by
  refine ⟨_, pv i hN hv hd hcd, fun σ H G Q A h => ?_⟩
  obtain ⟨v, e, r⟩ := A.sl i _ hL
  exact ⟨v, e, h.now A r⟩
theorem re_int {i : Int} {j : Nat} {pos : Pos} : RE X T W B G0 Lx L (.Constant (.int i) j pos) (.ok (.int i)) := ⟨_, pe_int, fun σ H G Q A h => h.now A (.int i)⟩
theorem re_str {x : Str} {j : Nat} {pos : Pos} : RE X T W B G0 Lx L (.Constant (.str x) j pos) (.ok (.str x)) := ⟨_, pe_str, fun σ H G Q A h => h.now A (.str x)⟩
theorem re_bl {b : Bool} {j : Nat} {pos : Pos} : RE X T W B G0 Lx L (.Constant (.bool b) j pos) (.ok (.bool b)) := ⟨_, pe_bl, fun σ H G Q A h => h.now A (.bl b)⟩
theorem re_non {j : Nat} {pos : Pos} : RE X T W B G0 Lx L (.Constant .none j pos) (.ok .none) := ⟨_, pe_non, fun σ H G Q A h => h.now A .non⟩
/-- a constant of the module -/
theorem re_glob {x : Str} {u : Value} {v : V} {d : D} {pos : Pos} (hm : X.mg x = some u) (r : RelV v u) (rp : ∀ G, Rp X.K G v d) (hg : Gl X x := by rfl) (hd : (x == ("__debug__" : Str)) = false := by decide) : RE X T W B G0 Lx L (.Name x pos) (.ok d) :=
  ⟨_, pe_glob hg hm r hd, fun σ H G Q A h => h.now A (rp G)⟩

/-! ### operators -/
/-- an operator over data, by a rule over values -/
def OpD (X : Cx) (T : List Addr) (f : D → D → R D) (r : R2) : Prop :=
  ∀ (W : WX) (B G0 : Hp) (Lx : List Sl) (H G : Hp) (x y : V) (d e : D) (Q : VK), Grow T H G H G → Rp X.K G x d → Rp X.K G y e → GP (rE X.K) X T W B G0 Lx H G (f d e) Q → r x y H Q
def UnD (X : Cx) (T : List Addr) (f : D → R D) (r : V → Hp → VK → Prop) : Prop :=
  ∀ (W : WX) (B G0 : Hp) (Lx : List Sl) (H G : Hp) (x : V) (d : D) (Q : VK), Grow T H G H G → Rp X.K G x d → GP (rE X.K) X T W B G0 Lx H G (f d) Q → r x H Q
def op2 (f : D → D → R D) (ma mb : R D) : R D := ma.bind fun x => mb.bind fun y => f x y
@[simp] theorem op2_ok (f : D → D → R D) (a b : D) : op2 f (.ok a) (.ok b) = f a b := rfl
theorem re_bin {op : Operator} {a b : Expr} {ma mb : R D} {f : D → D → R D} {r : R2} {pos : Pos} (ho : OpR X (binaryOp op) r) (hd : OpD X T f r) (ha : RE X T W B G0 Lx L a ma) (hb : RE X T W B G0 Lx L b mb) :
    RE X T W B G0 Lx L (.BinOp a op b pos) (op2 f ma mb) := by
  obtain ⟨ta, pa, qa⟩ := ha
  obtain ⟨tb, pb, qb⟩ := hb
  refine ⟨_, pe_op ho pa pb, fun σ H G Q A h => ?_⟩
  exact qa σ H G _ A ((GP.bind dnE h).mono fun v H1 ⟨G1, d, g1, r1, h1⟩ => qb σ H1 G1 _ (A.grown g1) ((GP.bind dnE h1).mono fun v2 H2 ⟨G2, d2, g2, r2, h2⟩ =>
    hd W B G0 Lx H2 G2 v v2 d d2 Q g2.entry (r1.mono g2.ggr) r2 h2))
theorem re_un {op : UnaryOp} {a : Expr} {ma : R D} {f : D → R D} {r : V → Hp → VK → Prop} {pos : Pos} (ho : UnR X (unaryOp op) r) (hd : UnD X T f r) (ha : RE X T W B G0 Lx L a ma) :
    RE X T W B G0 Lx L (.UnaryOp op a pos) (ma.bind f) := by
  obtain ⟨ta, pa, qa⟩ := ha
  refine ⟨_, pe_un ho pa, fun σ H G Q A h => ?_⟩
  exact qa σ H G _ A ((GP.bind dnE h).mono fun v H1 ⟨G1, d, g1, r1, h1⟩ => hd W B G0 Lx H1 G1 v d Q g1.entry r1 h1)

/-- a rule's answer in hand -/
theorem GP.give {H G : Hp} {d : D} {Q : VK} (h : GP (rE X.K) X T W B G0 Lx H G (.ok d) Q) (g : Grow T H G H G) {v : V} (r : Rp X.K G v d) : Q v H := h v H G g r
/-- .. a new object of data -/
theorem GP.giveNew {H G : Hp} {d : D} {Q : VK} (h : GP (rE X.K) X T W B G0 Lx H G (.ok d) Q) (g : Grow T H G H G) {o : HO} (ho : isData o = true) (r : ∀ p, H p = none → Rp X.K (upd G p o) (.ref p) d) : ∀ p, H p = none → Q (.ref p) (upd H p o) :=
  fun p hp => h _ _ (upd G p o) (g.alloc hp ho) (r p hp)


theorem GP.gd {α β : Type} {Rl : Hp → Hp → Hp → β → α → Prop} {c : Prop} [Decidable c] {m : R α} {Q : β → Hp → Prop} {H G : Hp} (h : GP Rl X T W B G0 Lx H G (if c then m else .no) Q) : c ∧ GP Rl X T W B G0 Lx H G m Q := by
  by_cases hc : c
  · rw [if_pos hc] at h
    exact ⟨hc, h⟩
  · rw [if_neg hc] at h
    exact h.elim
theorem Rp.none_new {G H : Hp} (s : Sub G H) {p : Addr} (h : H p = none) : G p = none := by
  cases q : G p with
  | none => rfl
  | some u => rw [s p u q] at h; cases h
theorem RpA.nil_iff {K : PySem.W.Frag} {G : Hp} {xs : List V} {ds : List D} (r : RpA K G xs ds) : xs = [] ↔ ds = [] := by
  cases r with
  | nil => simp
  | cons _ _ => simp

/-! the operators over data -/
def dAdd : D → D → R D
  | .int i, .int j => .ok (.int (i + j))
  | .str a, .str b => if a.length + b.length ≤ sizeLine then .ok (.str (a ++ b)) else .no
  | .list a, .list b => if a.length + b.length ≤ sizeLine then .ok (.list (a ++ b)) else .no
  | .tuple a, .tuple b => if a.length + b.length ≤ sizeLine then .ok (.tuple (a ++ b)) else .no
  | _, _ => .no
@[simp] theorem dAdd_int (i j : Int) : dAdd (.int i) (.int j) = .ok (.int (i + j)) := rfl
def rAddA (X : Cx) : R2 := fun x y H Q => (rI0 fun i j => .int (i + j)) x y H Q ∨ (∃ i j, x = .str i ∧ y = .str j ∧ i.length + j.length ≤ sizeLine ∧ Q (.str (i ++ j)) H) ∨ rCat x y H Q ∨ rCatA X.K x y H Q
theorem op_addA : OpR X (binaryOp .Add) (rAddA X) := op_add.or (op_add_str.or (op_cat.or op_catA))
theorem od_add : OpD X T dAdd (rAddA X) := by
  intro W B G0 Lx H G x y d e Q g rx ry h
  cases rx with
  | int i =>
    cases ry with
    | int j => exact .inl ⟨i, j, rfl, rfl, h.give g (.int _)⟩
    | _ => exact h.elim
  | str a =>
    cases ry with
    | str b =>
      obtain ⟨hz, h⟩ := GP.gd (c := a.length + b.length ≤ sizeLine) h
      exact .inr (.inl ⟨a, b, rfl, rfl, hz, h.give g (.str _)⟩)
    | _ => exact h.elim
  | lst ha ra =>
    cases ry with
    | lst hb rb =>
      rename_i a xs ds b ys es
      obtain ⟨hz, h⟩ := GP.gd (c := ds.length + es.length ≤ sizeLine) h
      refine .inr (.inr (.inl ⟨a, b, xs, ys, rfl, rfl, g.sub _ _ ha, g.sub _ _ hb, by rw [ra.length, rb.length]; exact hz, ?_⟩))
      refine h.giveNew g rfl fun p hp => ?_
      exact .lst upd_same ((ra.append rb).mono (.new (Rp.none_new g.sub hp)))
    | _ => exact h.elim
  | tup ha ra =>
    cases ry with
    | tup hb rb =>
      rename_i a xs ds b ys es
      obtain ⟨hz, h⟩ := GP.gd (c := ds.length + es.length ≤ sizeLine) h
      refine .inr (.inr (.inr ⟨a, b, xs, ys, rfl, rfl, SqT.mono g.sub ha, SqT.mono g.sub hb, by rw [ra.length, rb.length]; exact hz, fun e => ?_, fun _ e => ?_, fun _ _ => ?_⟩))
      · have e2 := ra.nil_iff.mp e
        subst e2
        exact h.give g (.tup hb rb)
      · have e2 := rb.nil_iff.mp e
        subst e2
        rw [List.append_nil] at h
        exact h.give g (.tup ha ra)
      · refine h.giveNew g rfl fun p hp => ?_
        exact .tup (.inl (.inl upd_same)) ((ra.append rb).mono (.new (Rp.none_new g.sub hp)))
    | _ => exact h.elim
  | _ => exact h.elim
/-- an operator of ints -/
def dI (C : Int → Int → Prop) [∀ i j, Decidable (C i j)] (g : Int → Int → Int) : D → D → R D
  | .int i, .int j => if C i j then .ok (.int (g i j)) else .no
  | _, _ => .no
theorem od_I {C : Int → Int → Prop} [∀ i j, Decidable (C i j)] {g : Int → Int → Int} : OpD X T (dI C g) (rI C fun i j => .int (g i j)) := by
  intro W B G0 Lx H G x y d e Q gr rx ry h
  cases rx with
  | int i =>
    cases ry with
    | int j =>
      obtain ⟨hz, h⟩ := GP.gd (c := C i j) h
      exact ⟨i, j, rfl, rfl, hz, h.give gr (.int _)⟩
    | _ => exact h.elim
  | _ => exact h.elim
noncomputable instance (i j : Int) : Decidable (CMulW i j) := Classical.propDecidable _
noncomputable instance (i j : Int) : Decidable (CDivW i j) := Classical.propDecidable _
noncomputable instance (i j : Int) : Decidable (CPow i j) := Classical.propDecidable _
def dSub : D → D → R D
  | .int i, .int j => .ok (.int (i - j))
  | _, _ => .no
@[simp] theorem dSub_int (i j : Int) : dSub (.int i) (.int j) = .ok (.int (i - j)) := rfl
theorem od_sub : OpD X T dSub (rI0 fun i j => .int (i - j)) := by
  intro W B G0 Lx H G x y d e Q gr rx ry h
  cases rx with
  | int i =>
    cases ry with
    | int j => exact ⟨i, j, rfl, rfl, h.give gr (.int _)⟩
    | _ => exact h.elim
  | _ => exact h.elim
def CRep (k : Int) (n : Nat) : Prop := -(2 ^ 63) ≤ k ∧ k < 2 ^ 63 ∧ n * k.toNat ≤ sizeLine
noncomputable instance (k : Int) (n : Nat) : Decidable (CRep k n) := Classical.propDecidable _
noncomputable def dMul : D → D → R D
  | .int i, .int j => if CMulW i j then .ok (.int (i * j)) else .no
  | .list xs, .int k => if CRep k xs.length then .ok (.list (List.replicate k.toNat xs).flatten) else .no
  | _, _ => .no
noncomputable def dFdiv : D → D → R D := dI CDivW fun i j => i / j
def dMod : D → D → R D := dI (fun _ j => 0 < j) fun i j => i % j
noncomputable def dPow : D → D → R D := dI CPow fun i j => i ^ j.toNat
theorem RpA.rep {K : PySem.W.Frag} {G : Hp} {xs : List V} {ds : List D} (r : RpA K G xs ds) : ∀ n : Nat, RpA K G (List.replicate n xs).flatten (List.replicate n ds).flatten
  | 0 => .nil
  | n + 1 => by
    rw [List.replicate_succ, List.replicate_succ, List.flatten_cons, List.flatten_cons]
    exact r.append (RpA.rep r n)
theorem od_mul : OpD X T dMul (fun x y H Q => (rI CMulW fun i j => .int (i * j)) x y H Q ∨ rRep x y H Q) := by
  intro W B G0 Lx H G x y d e Q g rx ry h
  cases rx with
  | int i =>
    cases ry with
    | int j =>
      obtain ⟨hz, h⟩ := GP.gd (c := CMulW i j) h
      exact .inl ⟨i, j, rfl, rfl, hz, h.give g (.int _)⟩
    | _ => exact h.elim
  | lst ha ra =>
    cases ry with
    | int k =>
      rename_i a xs ds
      obtain ⟨⟨h1, h2, h3⟩, h⟩ := GP.gd (c := CRep k ds.length) h
      refine .inr ⟨a, k, xs, rfl, rfl, g.sub _ _ ha, h1, h2, by rw [ra.length]; exact h3, ?_⟩
      exact h.giveNew g rfl fun p hp => .lst upd_same ((RpA.rep ra _).mono (.new (Rp.none_new g.sub hp)))
    | _ => exact h.elim
  | _ => exact h.elim
theorem op_mulA : OpR X (binaryOp .Mult) (fun x y H Q => (rI CMulW fun i j => .int (i * j)) x y H Q ∨ rRep x y H Q) := op_mulW.or op_rep
theorem op_mod' : OpR X (binaryOp .Mod) (rI (fun _ j => 0 < j) fun i j => .int (i % j)) := op_mod
def dNeg : D → R D
  | .int i => .ok (.int (-i))
  | _ => .no
@[simp] theorem dNeg_int (i : Int) : dNeg (.int i) = .ok (.int (-i)) := rfl
theorem ud_neg : UnD X T dNeg (rU fun i => .int (-i)) := by
  intro W B G0 Lx H G x d Q gr rx h
  cases rx with
  | int i => exact ⟨i, rfl, h.give gr (.int _)⟩
  | _ => exact h.elim
end
end DL
namespace DL
open PySem PySem.Spec PyProof.Rows L2

section
variable {X : Cx} {T : List Addr} {W : WX} {B G0 : Hp} {Lx L : List Sl}

/-! ### comparisons -/
/-- no text, list, tuple or dict: compared at once -/
def flatD : D → Bool
  | .list _ | .tuple _ | .dict _ => false
  | _ => true
def okD (d : D) : Bool := d.canLay0 && decide (d.depth ≤ 60)
/-- scal over data -/
def scalD : D → D → Bool
  | .none, .none => true | .none, .int _ => true | .int _, .none => true | .none, .bool _ => true | .bool _, .none => true | .none, .str _ => true | .str _, .none => true
  | .int _, .int _ => true | .bool _, .bool _ => true | .str _, .str _ => true
  | .int _, .str _ => true | .str _, .int _ => true | .bool _, .str _ => true | .str _, .bool _ => true
  | _, _ => false
def eqD (d e : D) : R Bool := if scalD d e = true ∨ (okD d = true ∧ okD e = true) then .ok (PyData.eqv d e) else .no
def dEq (d e : D) : R D := (eqD d e).bind fun b => .ok (.bool b)
def dNe (d e : D) : R D := (eqD d e).bind fun b => .ok (.bool !b)
theorem shaped_okD {d : D} (h : okD d = true) : SeqAt.shaped d = true := by
  unfold okD at h
  unfold SeqAt.shaped
  rw [Bool.and_eq_true] at h ⊢
  exact ⟨h.1, decide_eq_true (Nat.le_trans (of_decide_eq_true h.2) (by decide))⟩
theorem canLay_okD {d : D} (h : okD d = true) : d.canLay0 = true := by
  unfold okD at h
  rw [Bool.and_eq_true] at h
  exact h.1
theorem depth_okD {d : D} (h : okD d = true) : d.depth ≤ 60 := by
  unfold okD at h
  rw [Bool.and_eq_true] at h
  exact of_decide_eq_true h.2
theorem scal_of {K : PySem.W.Frag} {G : Hp} {x y : V} {d e : D} (rx : Rp K G x d) (ry : Rp K G y e) (h : scalD d e = true) : scal x y = true ∧ decide (x = y) = PyData.eqv d e := by
  cases rx with
  | non =>
    cases ry with
    | _ => first | exact ⟨rfl, by simp [PyData.eqv]⟩ | exact absurd h (by simp [scalD])
  | int i =>
    cases ry with
    | int j => exact ⟨rfl, by simp [PyData.eqv, Bool.beq_eq_decide_eq]⟩
    | _ => first | exact ⟨rfl, by simp [PyData.eqv]⟩ | exact absurd h (by simp [scalD])
  | str i =>
    cases ry with
    | str j => exact ⟨rfl, by simp [PyData.eqv, Bool.beq_eq_decide_eq]⟩
    | _ => first | exact ⟨rfl, by simp [PyData.eqv]⟩ | exact absurd h (by simp [scalD])
  | bl i =>
    cases ry with
    | bl j => exact ⟨rfl, by simp [PyData.eqv, Bool.beq_eq_decide_eq]⟩
    | _ => first | exact ⟨rfl, by simp [PyData.eqv]⟩ | exact absurd h (by simp [scalD])
  | _ => cases ry <;> exact absurd h (by simp [scalD])
theorem gbind {α β γ : Type} {Rl : Hp → Hp → Hp → γ → β → Prop} {m : R α} {k : α → R β} {H G : Hp} {Q : γ → Hp → Prop} {a : α} (h : GP Rl X T W B G0 Lx H G (m.bind k) Q) (e : m = .ok a) : GP Rl X T W B G0 Lx H G (k a) Q := by
  rw [e] at h
  exact h
theorem od_eq : OpD X T dEq (fun x y H Q => rEq x y H Q ∨ rEqD X.K x y H Q) := by
  intro W B G0 Lx H G x y d e Q g rx ry h
  unfold dEq eqD at h
  by_cases hc : scalD d e = true ∨ (okD d = true ∧ okD e = true)
  · rw [if_pos hc] at h
    have q : Q (.bl (PyData.eqv d e)) H := h.give g (.bl _)
    rcases hc with hs | ⟨h1, h2⟩
    · obtain ⟨s1, s2⟩ := scal_of rx ry hs
      exact .inl ⟨s1, by rw [s2]; exact q⟩
    · exact .inr ⟨d, e, ((rx.mono g.sub).dp (canLay_okD h1)), ((ry.mono g.sub).dp (canLay_okD h2)), shaped_okD h1, shaped_okD h2, q⟩
  · rw [if_neg hc] at h
    exact h.elim
theorem od_ne : OpD X T dNe (fun x y H Q => rNe x y H Q ∨ rNeD X.K x y H Q) := by
  intro W B G0 Lx H G x y d e Q g rx ry h
  unfold dNe eqD at h
  by_cases hc : scalD d e = true ∨ (okD d = true ∧ okD e = true)
  · rw [if_pos hc] at h
    have q : Q (.bl (!PyData.eqv d e)) H := h.give g (.bl _)
    rcases hc with hs | ⟨h1, h2⟩
    · obtain ⟨s1, s2⟩ := scal_of rx ry hs
      exact .inl ⟨s1, by rw [s2]; exact q⟩
    · exact .inr ⟨d, e, ((rx.mono g.sub).dp (canLay_okD h1)), ((ry.mono g.sub).dp (canLay_okD h2)), shaped_okD h1, shaped_okD h2, q⟩
  · rw [if_neg hc] at h
    exact h.elim
theorem op_eqA (hu : X.A.units + 64 < cLine) : OpR X (compareOp .Eq) (fun x y H Q => rEq x y H Q ∨ rEqD X.K x y H Q) := op_eq.or (op_eqD hu)
theorem op_neA (hu : X.A.units + 64 < cLine) : OpR X (compareOp .NotEq) (fun x y H Q => rNe x y H Q ∨ rNeD X.K x y H Q) := op_ne.or (op_neD hu)
/-- less: ints, texts, alike data -/
def ltD : D → D → R Bool
  | .int i, .int j => .ok (decide (i < j))
  | .str i, .str j => .ok (decide (i.cps.toList < j.cps.toList))
  | .tuple a, .tuple b => if PySem.W.alike (.tuple a) (.tuple b) = true ∧ okD (.tuple a) = true ∧ okD (.tuple b) = true then .ok (PySem.W.dataLt (.tuple a) (.tuple b)) else .no
  | .list a, .list b => if PySem.W.alike (.list a) (.list b) = true ∧ okD (.list a) = true ∧ okD (.list b) = true then .ok (PySem.W.dataLt (.list a) (.list b)) else .no
  | _, _ => .no
@[simp] theorem ltD_int (i j : Int) : ltD (.int i) (.int j) = .ok (decide (i < j)) := rfl
def dLt (d e : D) : R D := (ltD d e).bind fun b => .ok (.bool b)
def rLtD (K : PySem.W.Frag) : R2 := fun x y H Q => ∃ d e, Dp K H x d ∧ Dp K H y e ∧ PySem.W.alike d e = true ∧ d ≠ .none ∧ okD d = true ∧ okD e = true ∧ Q (.bl (PySem.W.dataLt d e)) H
theorem op_ltD (hu : X.A.units + 64 < cLine) : OpR X (compareOp .Lt) (rLtD X.K) := by
  intro pins s σ H x y v u Q I rx ry h
  obtain ⟨d, e, hd, he, ha, hn, sd, se, q⟩ := h
  obtain ⟨as, r1⟩ := Dp.reads I d x v hd rx
  obtain ⟨bs, r2⟩ := Dp.reads I e y u he ry
  have z := PySem.W.rcLt_alike d e X.A s v u as bs r1 r2 ha hn (by
    have h1 := depth_okD sd
    have h2 : min d.depth e.depth ≤ d.depth := Nat.min_le_left _ _
    omega)
  exact z X.prog X.w _ _ ⟨.bl _, H, I, rfl, q⟩
def rLtA (K : PySem.W.Frag) : R2 := fun x y H Q => (rI0 fun i j => .bl (decide (i < j))) x y H Q ∨ (∃ i j, x = .str i ∧ y = .str j ∧ Q (.bl (decide (i.cps.toList < j.cps.toList))) H) ∨ rLtD K x y H Q
theorem op_ltA (hu : X.A.units + 64 < cLine) : OpR X (compareOp .Lt) (rLtA X.K) := op_lt.or (op_lt_str.or (op_ltD hu))
theorem od_lt : OpD X T dLt (rLtA X.K) := by
  intro W B G0 Lx H G x y d e Q g rx ry h
  cases rx with
  | int i =>
    cases ry with
    | int j => exact .inl ⟨i, j, rfl, rfl, h.give g (.bl _)⟩
    | _ => exact h.elim
  | str i =>
    cases ry with
    | str j => exact .inr (.inl ⟨i, j, rfl, rfl, h.give g (.bl _)⟩)
    | _ => exact h.elim
  | lst ha ra =>
    cases ry with
    | lst hb rb =>
      rename_i a xs ds b ys es
      unfold dLt at h
      by_cases hc : PySem.W.alike (.list ds) (.list es) = true ∧ okD (.list ds) = true ∧ okD (.list es) = true
      · have h' := gbind h (show ltD (.list ds) (.list es) = _ from if_pos hc)
        obtain ⟨c1, c2, c3⟩ := hc
        exact .inr (.inr ⟨_, _, Rp.dp (Rp.mono g.sub (.lst ha ra)) (canLay_okD c2), Rp.dp (Rp.mono g.sub (.lst hb rb)) (canLay_okD c3), c1, (fun z => nomatch z), c2, c3, h'.give g (.bl _)⟩)
      · have e : ltD (.list ds) (.list es) = .no := if_neg hc
        rw [e] at h
        exact h.elim
    | _ => exact h.elim
  | tup ha ra =>
    cases ry with
    | tup hb rb =>
      rename_i a xs ds b ys es
      unfold dLt at h
      by_cases hc : PySem.W.alike (.tuple ds) (.tuple es) = true ∧ okD (.tuple ds) = true ∧ okD (.tuple es) = true
      · have h' := gbind h (show ltD (.tuple ds) (.tuple es) = _ from if_pos hc)
        obtain ⟨c1, c2, c3⟩ := hc
        exact .inr (.inr ⟨_, _, Rp.dp (Rp.mono g.sub (.tup ha ra)) (canLay_okD c2), Rp.dp (Rp.mono g.sub (.tup hb rb)) (canLay_okD c3), c1, (fun z => nomatch z), c2, c3, h'.give g (.bl _)⟩)
      · have e : ltD (.tuple ds) (.tuple es) = .no := if_neg hc
        rw [e] at h
        exact h.elim
    | _ => exact h.elim
  | _ => exact h.elim
/-- a comparison of ints alone -/
def cmpI (p : Int → Int → Bool) : D → D → R D
  | .int i, .int j => .ok (.bool (p i j))
  | _, _ => .no
@[simp] theorem cmpI_int (p : Int → Int → Bool) (i j : Int) : cmpI p (.int i) (.int j) = .ok (.bool (p i j)) := rfl
theorem od_cmp {p : Int → Int → Bool} : OpD X T (cmpI p) (rI0 fun i j => .bl (p i j)) := by
  intro W B G0 Lx H G x y d e Q g rx ry h
  cases rx with
  | int i =>
    cases ry with
    | int j => exact ⟨i, j, rfl, rfl, h.give g (.bl _)⟩
    | _ => exact h.elim
  | _ => exact h.elim
def dLe : D → D → R D := cmpI fun i j => decide (i ≤ j)
def dGt : D → D → R D := cmpI fun i j => decide (j < i)
def dGe : D → D → R D := cmpI fun i j => decide (j ≤ i)
def isNone : D → Bool
  | .none => true
  | _ => false
def dIsN (d e : D) : R D := match e with
  | .none => .ok (.bool (isNone d))
  | _ => .no
def dNotN (d e : D) : R D := match e with
  | .none => .ok (.bool (!isNone d))
  | _ => .no
theorem isNone_of {K : PySem.W.Frag} {G : Hp} {x : V} {d : D} (r : Rp K G x d) : decide (x = .non) = isNone d := by
  cases r <;> simp [isNone]
theorem od_isN : OpD X T dIsN (fun x y H Q => y = .non ∧ Q (.bl (decide (x = .non))) H) := by
  intro W B G0 Lx H G x y d e Q g rx ry h
  cases ry with
  | non => exact ⟨rfl, by rw [isNone_of rx]; exact h.give g (.bl _)⟩
  | _ => exact h.elim
theorem od_notN : OpD X T dNotN (fun x y H Q => y = .non ∧ Q (.bl (!decide (x = .non))) H) := by
  intro W B G0 Lx H G x y d e Q g rx ry h
  cases ry with
  | non => exact ⟨rfl, by rw [isNone_of rx]; exact h.give g (.bl _)⟩
  | _ => exact h.elim
/-- is True, is not True .. -/
def dIsB : D → D → R D
  | .bool a, .bool b => .ok (.bool (decide (a = b)))
  | _, _ => .no
def dNotB : D → D → R D
  | .bool a, .bool b => .ok (.bool (!decide (a = b)))
  | _, _ => .no
theorem od_isB : OpD X T dIsB rIsB := by
  intro W B G0 Lx H G x y d e Q g rx ry h
  cases rx with
  | bl a =>
    cases ry with
    | bl b => exact ⟨a, b, rfl, rfl, h.give g (.bl _)⟩
    | _ => exact h.elim
  | _ => exact h.elim
theorem od_notB : OpD X T dNotB rNotB := by
  intro W B G0 Lx H G x y d e Q g rx ry h
  cases rx with
  | bl a =>
    cases ry with
    | bl b => exact ⟨a, b, rfl, rfl, h.give g (.bl _)⟩
    | _ => exact h.elim
  | _ => exact h.elim
theorem re_cmp {op : CmpOp} {a b : Expr} {ma mb : R D} {f : D → D → R D} {r : R2} {pos : Pos} (ho : OpR X (compareOp op) r) (hd : OpD X T f r) (ha : RE X T W B G0 Lx L a ma) (hb : RE X T W B G0 Lx L b mb) (hm : behindInMarks op b = false := by rfl) :
    RE X T W B G0 Lx L (.Compare a [op] [b] pos) (op2 f ma mb) := by
  obtain ⟨ta, pa, qa⟩ := ha
  obtain ⟨tb, pb, qb⟩ := hb
  refine ⟨_, pe_cmpR ho pa pb hm, fun σ H G Q A h => ?_⟩
  exact qa σ H G _ A ((GP.bind dnE h).mono fun v H1 ⟨G1, d, g1, r1, h1⟩ => qb σ H1 G1 _ (A.grown g1) ((GP.bind dnE h1).mono fun v2 H2 ⟨G2, d2, g2, r2, h2⟩ =>
    hd W B G0 Lx H2 G2 v v2 d d2 Q g2.entry (r1.mono g2.ggr) r2 h2))
/-! tests -/
def asB : D → R Bool
  | .bool b => .ok b
  | _ => .no
@[simp] theorem asB_bool (b : Bool) : asB (.bool b) = .ok b := rfl
/-- a value that is True or False -/
theorem rt_val {e : Expr} {m : R D} (h : RE X T W B G0 Lx L e m) (he : ∀ whole, isTrue e X.env whole = (do let v ← whole; standAt e.pos; holding [v] (truthy v)) := by intro _; rfl) : RT X T W B G0 Lx L e (m.bind asB) := by
  obtain ⟨t, p, q⟩ := h
  refine ⟨_, pt_val p he, fun σ H G Q A h => ?_⟩
  refine q σ H G _ A ((GP.bind dnT h).mono fun v H1 ⟨G1, d, g1, r1, h1⟩ => ?_)
  cases r1 with
  | bl b => exact ⟨b, rfl, h1 b H1 G1 g1.entry rfl⟩
  | _ => exact h1.elim
theorem rt_cmp {op : CmpOp} {a b : Expr} {ma mb : R D} {f : D → D → R D} {r : R2} {pos : Pos} (ho : OpR X (compareOp op) r) (hd : OpD X T f r) (ha : RE X T W B G0 Lx L a ma) (hb : RE X T W B G0 Lx L b mb) (hm : behindInMarks op b = false := by rfl) :
    RT X T W B G0 Lx L (.Compare a [op] [b] pos) ((op2 f ma mb).bind asB) := by
  obtain ⟨ta, pa, qa⟩ := ha
  obtain ⟨tb, pb, qb⟩ := hb
  refine ⟨_, pt_cmpR ho pa pb hm, fun σ H G Q A h => ?_⟩
  unfold op2 at h
  rw [R.bind_assoc] at h
  refine qa σ H G _ A ((GP.bind dnT h).mono fun v H1 ⟨G1, d, g1, r1, h1⟩ => ?_)
  rw [R.bind_assoc] at h1
  refine qb σ H1 G1 _ (A.grown g1) ((GP.bind dnT h1).mono fun v2 H2 ⟨G2, d2, g2, r2, h2⟩ => ?_)
  refine hd W B G0 Lx H2 G2 v v2 d d2 _ g2.entry (r1.mono g2.ggr) r2 ((GP.bind dnT h2).mono fun v3 H3 ⟨G3, d3, g3, r3, h3⟩ => ?_)
  cases r3 with
  | bl b => exact ⟨b, rfl, h3 b H3 G3 g3.entry rfl⟩
  | _ => exact h3.elim
theorem rt_not {a : Expr} {m : R Bool} {pos : Pos} (h : RT X T W B G0 Lx L a m) : RT X T W B G0 Lx L (.UnaryOp .Not a pos) (m.bind fun b => .ok !b) := by
  obtain ⟨t, p, q⟩ := h
  refine ⟨_, pt_not p, fun σ H G Q A h => ?_⟩
  exact q σ H G _ A ((GP.bind dnT h).mono fun b H1 ⟨G1, d, g1, r1, h1⟩ => h1 _ H1 G1 g1.entry (by rw [r1]))
theorem rw_and1 {a : Expr} {m : R Bool} {pos : Pos} (h : RT X T W B G0 Lx L a m) : RW X T W B G0 Lx L (.BoolOp .And [a] pos) m := by
  obtain ⟨t, p, q⟩ := h
  exact ⟨_, pw_and1 p, q⟩
theorem rw_or1 {a : Expr} {m : R Bool} {pos : Pos} (h : RT X T W B G0 Lx L a m) : RW X T W B G0 Lx L (.BoolOp .Or [a] pos) m := by
  obtain ⟨t, p, q⟩ := h
  exact ⟨_, pw_or1 p, q⟩
def andM (m : R Bool) (k : R Bool) : R Bool := m.bind fun b => if b = true then k else .ok false
def orM (m : R Bool) (k : R Bool) : R Bool := m.bind fun b => if b = true then .ok true else k
@[simp] theorem andM_tt (k : R Bool) : andM (.ok true) k = k := rfl
@[simp] theorem andM_ff (k : R Bool) : andM (.ok false) k = .ok false := rfl
@[simp] theorem orM_tt (k : R Bool) : orM (.ok true) k = .ok true := rfl
@[simp] theorem orM_ff (k : R Bool) : orM (.ok false) k = k := rfl
theorem rw_and {a b : Expr} {rest : List Expr} {m k : R Bool} {pos : Pos} (ha : RT X T W B G0 Lx L a m) (hb : RW X T W B G0 Lx L (.BoolOp .And (b :: rest) pos) k) : RW X T W B G0 Lx L (.BoolOp .And (a :: b :: rest) pos) (andM m k) := by
  obtain ⟨ta, pa, qa⟩ := ha
  obtain ⟨tb, pb, qb⟩ := hb
  refine ⟨_, pw_and pa pb, fun σ H G Q A h => ?_⟩
  refine qa σ H G _ A ((GP.bind dnT h).mono fun c H1 ⟨G1, d, g1, r1, h1⟩ => ?_)
  subst r1
  cases c with
  | true => exact qb σ H1 G1 Q (A.grown g1) h1
  | false => exact h1 false H1 G1 g1.entry rfl
theorem rw_or {a b : Expr} {rest : List Expr} {m k : R Bool} {pos : Pos} (ha : RT X T W B G0 Lx L a m) (hb : RW X T W B G0 Lx L (.BoolOp .Or (b :: rest) pos) k) : RW X T W B G0 Lx L (.BoolOp .Or (a :: b :: rest) pos) (orM m k) := by
  obtain ⟨ta, pa, qa⟩ := ha
  obtain ⟨tb, pb, qb⟩ := hb
  refine ⟨_, pw_or pa pb, fun σ H G Q A h => ?_⟩
  refine qa σ H G _ A ((GP.bind dnT h).mono fun c H1 ⟨G1, d, g1, r1, h1⟩ => ?_)
  subst r1
  cases c with
  | true => exact h1 true H1 G1 g1.entry rfl
  | false => exact qb σ H1 G1 Q (A.grown g1) h1
theorem rt_w {e : Expr} {m : R Bool} (h : RW X T W B G0 Lx L e m) : RT X T W B G0 Lx L e m := by
  obtain ⟨t, p, q⟩ := h
  exact ⟨_, p.pt, q⟩
/-- a test of any truth -/
def truD : D → R Bool
  | .none => .ok false
  | .bool b => .ok b
  | .int i => .ok (i != 0)
  | .str s => if s.length ≤ sizeLine then .ok ((s.length : Int) != 0) else .no
  | .list xs => .ok (!xs.isEmpty)
  | .tuple xs => .ok (!xs.isEmpty)
  | .dict _ => .no
/-! as values: all bools -/
theorem re_and1 {a : Expr} {m : R D} {pos : Pos} (h : RE X T W B G0 Lx L a m) : RE X T W B G0 Lx L (.BoolOp .And [a] pos) m := by
  obtain ⟨t, p, q⟩ := h
  exact ⟨_, pe_one p, q⟩
theorem re_or1 {a : Expr} {m : R D} {pos : Pos} (h : RE X T W B G0 Lx L a m) : RE X T W B G0 Lx L (.BoolOp .Or [a] pos) m := by
  obtain ⟨t, p, q⟩ := h
  exact ⟨_, pe_one p, q⟩
def andV (m : R Bool) (k : R D) : R D := m.bind fun b => if b = true then k else .ok (.bool false)
def orV (m : R Bool) (k : R D) : R D := m.bind fun b => if b = true then .ok (.bool true) else k
@[simp] theorem andV_tt (k : R D) : andV (.ok true) k = k := rfl
@[simp] theorem andV_ff (k : R D) : andV (.ok false) k = .ok (.bool false) := rfl
@[simp] theorem orV_tt (k : R D) : orV (.ok true) k = .ok (.bool true) := rfl
@[simp] theorem orV_ff (k : R D) : orV (.ok false) k = k := rfl
theorem re_and {a b : Expr} {rest : List Expr} {m k : R D} {pos : Pos} (ha : RE X T W B G0 Lx L a m) (hb : RE X T W B G0 Lx L (.BoolOp .And (b :: rest) pos) k) : RE X T W B G0 Lx L (.BoolOp .And (a :: b :: rest) pos) (andV (m.bind asB) k) := by
  obtain ⟨ta, pa, qa⟩ := ha
  obtain ⟨tb, pb, qb⟩ := hb
  refine ⟨_, pe_and pa pb, fun σ H G Q A h => ?_⟩
  unfold andV at h
  rw [R.bind_assoc] at h
  refine qa σ H G _ A ((GP.bind dnE h).mono fun c H1 ⟨G1, d, g1, r1, h1⟩ => ?_)
  cases r1 with
  | bl b =>
    refine ⟨b, rfl, ?_⟩
    cases b with
    | true => exact qb σ H1 G1 Q (A.grown g1) h1
    | false => exact h1.give g1.entry (.bl _)
  | _ => exact h1.elim
theorem re_or {a b : Expr} {rest : List Expr} {m k : R D} {pos : Pos} (ha : RE X T W B G0 Lx L a m) (hb : RE X T W B G0 Lx L (.BoolOp .Or (b :: rest) pos) k) : RE X T W B G0 Lx L (.BoolOp .Or (a :: b :: rest) pos) (orV (m.bind asB) k) := by
  obtain ⟨ta, pa, qa⟩ := ha
  obtain ⟨tb, pb, qb⟩ := hb
  refine ⟨_, pe_or pa pb, fun σ H G Q A h => ?_⟩
  unfold orV at h
  rw [R.bind_assoc] at h
  refine qa σ H G _ A ((GP.bind dnE h).mono fun c H1 ⟨G1, d, g1, r1, h1⟩ => ?_)
  cases r1 with
  | bl b =>
    refine ⟨b, rfl, ?_⟩
    cases b with
    | true => exact h1.give g1.entry (.bl _)
    | false => exact qb σ H1 G1 Q (A.grown g1) h1
  | _ => exact h1.elim
theorem re_not {a : Expr} {m : R D} {pos : Pos} (h : RE X T W B G0 Lx L a m) : RE X T W B G0 Lx L (.UnaryOp .Not a pos) ((m.bind asB).bind fun b => .ok (.bool !b)) := by
  obtain ⟨t, p, q⟩ := h
  refine ⟨_, pe_not p, fun σ H G Q A h => ?_⟩
  rw [R.bind_assoc] at h
  refine q σ H G _ A ((GP.bind dnE h).mono fun c H1 ⟨G1, d, g1, r1, h1⟩ => ?_)
  cases r1 with
  | bl b => exact ⟨b, rfl, h1.give g1.entry (.bl _)⟩
  | _ => exact h1.elim
def iteM {α : Type} (c : R Bool) (a b : R α) : R α := c.bind fun t => if t = true then a else b
@[simp] theorem iteM_ok {α : Type} (c : Bool) (a b : R α) : iteM (.ok c) a b = if c = true then a else b := rfl
theorem re_if {c a b : Expr} {mc : R Bool} {ma mb : R D} {pos : Pos} (hc : RT X T W B G0 Lx L c mc) (ha : RE X T W B G0 Lx L a ma) (hb : RE X T W B G0 Lx L b mb) : RE X T W B G0 Lx L (.IfExp c a b pos) (iteM mc ma mb) := by
  obtain ⟨tc, pc, qc⟩ := hc
  obtain ⟨ta, pa, qa⟩ := ha
  obtain ⟨tb, pb, qb⟩ := hb
  refine ⟨_, pe_ifExp pc pa pb, fun σ H G Q A h => ?_⟩
  refine qc σ H G _ A ((GP.bind dnE h).mono fun c H1 ⟨G1, d, g1, r1, h1⟩ => ?_)
  subst r1
  cases c with
  | true => exact qa σ H1 G1 Q (A.grown g1) h1
  | false => exact qb σ H1 G1 Q (A.grown g1) h1

/-! ### argument lists, displays -/
theorem ra_nil : RA X T W B G0 Lx L [] (.ok []) := ⟨_, pa_nil, fun ds e => by cases e; rfl, fun σ H G Q A h => h.now A .nil⟩
def consA (m : R D) (k : R (List D)) : R (List D) := m.bind fun x => k.bind fun xs => .ok (x :: xs)
@[simp] theorem consA_ok (d : D) (ds : List D) : consA (.ok d) (.ok ds) = .ok (d :: ds) := rfl
theorem ra_cons {e : Expr} {es : List Expr} {m : R D} {k : R (List D)} (h1 : RE X T W B G0 Lx L e m) (h2 : RA X T W B G0 Lx L es k) (hs : starEach (e :: es) X.env = (false, eval e X.env) :: starEach es X.env := by rfl) :
    RA X T W B G0 Lx L (e :: es) (consA m k) := by
  obtain ⟨ta, pa, qa⟩ := h1
  obtain ⟨tb, pb, lb, qb⟩ := h2
  refine ⟨_, pa_cons pa pb hs, fun ds e => ?_, fun σ H G Q A h => ?_⟩
  · cases m with
    | ok d =>
      cases k with
      | ok ds' =>
        have e' : R.ok (d :: ds') = R.ok ds := e
        cases e'
        rw [List.length_cons, List.length_cons, lb ds' rfl]
      | ex c fs => cases e
      | no => cases e
    | ex c fs => cases e
    | no => cases e
  exact qa σ H G _ A ((GP.bind dnA h).mono fun v H1 ⟨G1, d, g1, r1, h1⟩ => qb σ H1 G1 _ (A.grown g1) ((GP.bind dnA h1).mono fun vs H2 ⟨G2, ds, g2, r2, h2⟩ =>
    h2 _ H2 G2 g2.entry (.cons (r1.mono g2.ggr) r2)))
theorem re_tup {es : List Expr} {m : R (List D)} {n : Nat} {pos : Pos} (h : RA X T W B G0 Lx L es m) (hl : es.length ≤ sizeLine := by (rw [sizeLine_eq]; decide)) : RE X T W B G0 Lx L (.Tuple es n pos) (m.bind fun xs => .ok (.tuple xs)) := by
  obtain ⟨ta, pa, la, qa⟩ := h
  refine ⟨_, pe_tup pa, fun σ H G Q A h => ?_⟩
  cases m with
  | ok ds =>
    refine qa σ H G _ A fun vs H1 G1 g1 r1 => ⟨by rw [r1.length, la ds rfl]; exact hl, fun p hp => ?_⟩
    refine h _ _ (upd G1 p (.tup vs)) (g1.trans (g1.entry.alloc hp rfl)) ?_
    exact .tup (.inl (.inl upd_same)) (r1.mono (.new (Rp.none_new g1.sub hp)))
  | ex c fs => exact qa σ H G _ A h
  | no => exact h.elim
theorem ro_lst {es : List Expr} {m : R (List D)} {pos : Pos} (h : RA X T W B G0 Lx L es m) (hl : es.length ≤ sizeLine := by (rw [sizeLine_eq]; decide)) : RO X T W B G0 Lx L (.List es pos) m := by
  obtain ⟨ta, pa, la, qa⟩ := h
  refine ⟨_, pe_lst pa, fun σ H G Q A h => ?_⟩
  cases m with
  | ok ds =>
    refine qa σ H G _ A fun vs H1 G1 g1 r1 => ⟨by rw [r1.length, la ds rfl]; exact hl, fun p hp => ?_⟩
    exact h _ _ G1 (g1.trans (g1.entry.allocH hp)) ⟨p, vs, rfl, g1.ext.free hp, upd_same, Rp.none_new g1.sub hp, r1⟩
  | ex c fs => exact qa σ H G _ A h
  | no => exact h.elim
/-- a new list as data -/
theorem re_ro {e : Expr} {m : R (List D)} (h : RO X T W B G0 Lx L e m) : RE X T W B G0 Lx L e (m.bind fun xs => .ok (.list xs)) := by
  obtain ⟨t, p, q⟩ := h
  refine ⟨_, p, fun σ H G Q A h => q σ H G Q A ?_⟩
  cases m with
  | ok ds =>
    intro v H1 G1 g1 ⟨p, vs, e, h0, h1, h2, r⟩
    subst e
    refine h _ H1 (upd G1 p (.lst vs)) ?_ (.lst upd_same (r.mono (.new h2)))
    refine ⟨g1.ext, fun b o e => ?_, g1.ggr.trans (.new h2), fun b hb => ?_, g1.tabs, fun b ps e => ?_⟩
    · by_cases hb : b = p
      · subst hb
        rw [upd_same] at e
        rw [h1]; exact e
      · rw [upd_ne hb] at e
        exact g1.sub b o e
    · by_cases hp : b = p
      · subst hp
        exact .inr h0
      · rw [upd_ne hp] at hb
        exact g1.fresh b hb
    · by_cases hb : b = p
      · subst hb
        rw [upd_same] at e
        cases e
      · rw [upd_ne hb] at e
        exact g1.data b ps e
  | ex c fs => exact h
  | no => exact h
end
end DL
namespace DL
open PySem PySem.Spec PyProof.Rows L2

section
variable {X : Cx} {T : List Addr} {W : WX} {B G0 : Hp} {Lx L : List Sl}

/-! ### subscripts -/
def rIxD : R2 := fun x y H Q => ∃ a v, x = .ref a ∧ DGet H a y (some v) ∧ Q v H
theorem ix_dict (hu : X.A.units + 1 < cLine) : IxR X rIxD := by
  intro value slice pins s σ H x y v u Q I rx ry h hs
  obtain ⟨a, z, rfl, g, q⟩ := h
  cases rx
  exact tail_any (dict_typeIs I g) PySem.F.slot_dict_getitem.lookup (d_getItem hu I g ry fun w' s3 I3 rw' => ⟨z, H, I3, rw', q⟩) hs
def rIxA (K : PySem.W.Frag) : R2 := fun x y H Q => rIx K x y H Q ∨ rIxD x y H Q
theorem ix_all (hu : X.A.units + 1 < cLine) : IxR X (rIxA X.K) := ix_seq.or (ix_dict hu)
/-- d is a key: an int or a text; a tuple of such -/
def keyD : D → Option Key
  | .int i => some (.inl i)
  | .str s => some (.inr s)
  | _ => none
def keysD : List D → Option (List Key)
  | [] => some []
  | d :: ds => match keyD d, keysD ds with
    | some k, some ks => some (k :: ks)
    | _, _ => none
theorem keyD_eq {d : D} {k : Key} (h : keyD d = some k) : d = kD k := by
  cases d <;> simp [keyD] at h <;> subst h <;> rfl
theorem keyD_kD (k : Key) : keyD (kD k) = some k := by cases k <;> rfl
theorem keysD_eq : ∀ {ds : List D} {ks : List Key}, keysD ds = some ks → ds = ks.map kD
  | [], ks, h => by simp [keysD] at h; subst h; rfl
  | d :: ds, ks, h => by
    unfold keysD at h
    cases e1 : keyD d with
    | none => rw [e1] at h; simp at h
    | some k =>
      cases e2 : keysD ds with
      | none => rw [e1, e2] at h; simp at h
      | some ks' =>
        rw [e1, e2] at h
        have h' : k :: ks' = ks := Option.some.inj h
        subst h'
        rw [keyD_eq e1, keysD_eq e2]
        rfl
/-- a key of a dict, as data: what it is among ints and texts, or among tuples -/
inductive DK where
  | k (k : Key)
  | t (ks : List Key)
  deriving DecidableEq
def dkD : D → Option DK
  | .tuple ds => (keysD ds).map .t
  | d => (keyD d).map .k
def eqK (a b : D) : Bool := match dkD a, dkD b with
  | some x, some y => decide (x = y)
  | _, _ => false
/-- look-up, store, removal by keys -/
def lookD (ps : List (D × D)) (k : D) : Option D := (ps.find? fun p => eqK p.1 k).map (·.2)
def putD (ps : List (D × D)) (k v : D) : List (D × D) := if (ps.any fun p => eqK p.1 k) = true then ps.map fun p => if eqK p.1 k = true then (p.1, v) else p else ps ++ [(k, v)]
theorem kD_dk (k : Key) : dkD (kD k) = some (.k k) := by cases k <;> rfl
theorem keysD_map : ∀ ks : List Key, keysD (ks.map kD) = some ks
  | [] => rfl
  | k :: ks => by
    rw [List.map_cons]
    unfold keysD
    rw [keyD_kD, keysD_map ks]
theorem ksD_dk (ks : List Key) : dkD (ksD ks) = some (.t ks) := by
  show (keysD (ks.map kD)).map DK.t = _
  rw [keysD_map]
  rfl
theorem eqK_k (a b : Key) : eqK (kD a) (kD b) = decide (a = b) := by
  unfold eqK
  rw [kD_dk, kD_dk]
  simp
theorem eqK_t (a b : List Key) : eqK (ksD a) (ksD b) = decide (a = b) := by
  unfold eqK
  rw [ksD_dk, ksD_dk]
  simp
section
variable {K : PySem.W.Frag} {G : Hp}
theorem RpK.look : ∀ {kvs : List (Key × V)} {ps : List (D × D)} (k : Key), RpK K G kvs ps →
    (match lookD ps (kD k) with | some d => ∃ v, valV kvs k = some v ∧ Rp K G v d | none => valV kvs k = none)
  | _, _, k, .nil => rfl
  | _, _, k, .cons (k := k') (v := v) (d := d) (kvs := kvs) (ps := ps) h r => by
    by_cases e : k' = k
    · subst e
      have q : lookD ((kD k', d) :: ps) (kD k') = some d := by simp [lookD, List.find?_cons, eqK_k]
      rw [q]
      exact ⟨v, valV_pos rfl, h⟩
    · have q : lookD ((kD k', d) :: ps) (kD k) = lookD ps (kD k) := by simp [lookD, List.find?_cons, eqK_k, e]
      rw [q, valV_neg e]
      exact RpK.look k r
theorem RpT.look : ∀ {kvs : List (List Key × V)} {ps : List (D × D)} (k : List Key), RpT K G kvs ps →
    (match lookD ps (ksD k) with | some d => ∃ v, valV kvs k = some v ∧ Rp K G v d | none => valV kvs k = none)
  | _, _, k, .nil => rfl
  | _, _, k, .cons (k := k') (v := v) (d := d) (kvs := kvs) (ps := ps) h r => by
    by_cases e : k' = k
    · subst e
      have q : lookD ((ksD k', d) :: ps) (ksD k') = some d := by simp [lookD, List.find?_cons, eqK_t]
      rw [q]
      exact ⟨v, valV_pos rfl, h⟩
    · have q : lookD ((ksD k', d) :: ps) (ksD k) = lookD ps (ksD k) := by simp [lookD, List.find?_cons, eqK_t, e]
      rw [q, valV_neg e]
      exact RpT.look k r
theorem RpK.none_t {kvs : List (Key × V)} {ps : List (D × D)} (ks : List Key) (r : RpK K G kvs ps) : lookD ps (ksD ks) = none := by
  induction kvs generalizing ps with
  | nil => cases r; rfl
  | cons p kvs ih =>
    cases r with
    | cons h r =>
      have q : ∀ k : Key, eqK (kD k) (ksD ks) = false := fun k => by unfold eqK; rw [kD_dk, ksD_dk]; simp
      have := ih r
      simp only [lookD, List.find?_cons, q] at this ⊢
      exact this
theorem RpT.none_k {kvs : List (List Key × V)} {ps : List (D × D)} (k : Key) (r : RpT K G kvs ps) : lookD ps (kD k) = none := by
  induction kvs generalizing ps with
  | nil => cases r; rfl
  | cons p kvs ih =>
    cases r with
    | cons h r =>
      have q : ∀ ks : List Key, eqK (ksD ks) (kD k) = false := fun ks => by unfold eqK; rw [kD_dk, ksD_dk]; simp
      have := ih r
      simp only [lookD, List.find?_cons, q] at this ⊢
      exact this
/-- a tuple of keys is a tracked tuple of the keys' values -/
theorem RpA.keys : ∀ {vs : List V} {ks : List Key}, RpA K G vs (ks.map kD) → vs = ks.map kV
  | vs, [], r => by
    have r' : RpA K G vs [] := r
    cases r'; rfl
  | vs, k :: ks, r => by
    have r' : RpA K G vs (kD k :: ks.map kD) := r
    cases r' with
    | cons h t =>
      rw [RpA.keys t]
      cases k with
      | inl i => rw [Rp.int_inv h]; rfl
      | inr i => rw [Rp.str_inv h]; rfl
end
def atD (xs : List D) (i : Int) : R D := match atI xs i with
  | some d => .ok d
  | none => .no
/-- xs[i], t[i], s[i], d[k] -/
def getD : D → D → R D
  | .list xs, .int i => atD xs i
  | .tuple xs, .int i => atD xs i
  | .str s, .int i => if s.length ≤ sizeLine then (match atI s.cps.toList i with | some c => .ok (.str ⟨#[c]⟩) | none => .no) else .no
  | .dict ps, k => match dkD k with
    | some (.k _) => (match lookD ps k with | some d => .ok d | none => .no)
    | _ => .no
  | _, _ => .no
/-- d[k], k a tuple that was made here (its object is tracked) -/
theorem atI_rel {K : PySem.W.Frag} {G : Hp} {xs : List V} {ds : List D} (r : RpA K G xs ds) {i : Int} {d : D} (h : atI ds i = some d) : ∃ v, atI xs i = some v ∧ Rp K G v d := by
  unfold atI at h ⊢
  rw [r.length]
  cases e : ixN ds.length i with
  | none => rw [e] at h; cases h
  | some j =>
    rw [e] at h
    exact r.getd h
theorem SqL.ofG {K : PySem.W.Frag} {G H : Hp} {a : Addr} {xs : List V} (s : Sub G H) (h : G a = some (.lst xs)) : SqL K H a xs := .inl (.inl (s _ _ h))
theorem od_ix : OpD X T getD (rIxA X.K) := by
  intro W B G0 Lx H G x y d e Q g rx ry h
  cases rx with
  | lst ha ra =>
    cases ry with
    | int i =>
      rename_i a xs ds
      cases q : atI ds i with
      | none =>
        have h' : GP (rE X.K) X T W B G0 Lx H G (match atI ds i with | some d => .ok d | none => .no) Q := h
        rw [q] at h'
        exact h'.elim
      | some d =>
        obtain ⟨v, hv, rv⟩ := atI_rel ra q
        have h' : GP (rE X.K) X T W B G0 Lx H G (match atI ds i with | some d => .ok d | none => .no) Q := h
        rw [q] at h'
        exact .inl (.inl ⟨a, xs, i, v, rfl, rfl, SqL.ofG g.sub ha, hv, h'.give g rv⟩)
    | _ => exact h.elim
  | tup ha ra =>
    cases ry with
    | int i =>
      rename_i a xs ds
      cases q : atI ds i with
      | none =>
        have h' : GP (rE X.K) X T W B G0 Lx H G (match atI ds i with | some d => .ok d | none => .no) Q := h
        rw [q] at h'
        exact h'.elim
      | some d =>
        obtain ⟨v, hv, rv⟩ := atI_rel ra q
        have h' : GP (rE X.K) X T W B G0 Lx H G (match atI ds i with | some d => .ok d | none => .no) Q := h
        rw [q] at h'
        exact .inl (.inr (.inl ⟨a, xs, i, v, rfl, rfl, SqT.mono g.sub ha, hv, h'.give g rv⟩))
    | _ => exact h.elim
  | str z =>
    cases ry with
    | int i =>
      obtain ⟨hz, h⟩ := GP.gd (c := z.length ≤ sizeLine) h
      cases q : atI z.cps.toList i with
      | none => rw [q] at h; exact h.elim
      | some c =>
        rw [q] at h
        exact .inl (.inr (.inr ⟨z, i, c, rfl, rfl, hz, q, h.give g (.str _)⟩))
    | _ => exact h.elim
  | dik ha ra =>
    rename_i a kvs ps
    have look : ∀ k : Key, e = kD k → RelV y (match k with | .inl i => Value.int i 0 | .inr s => Value.str s 0) ∨ True := fun _ _ => .inr trivial
    have key : ∀ k : Key, e = kD k → y = kV k → rIxA X.K (.ref a) y H Q := by
      intro k ek ey
      subst ek
      subst ey
      have h' : GP (rE X.K) X T W B G0 Lx H G (match lookD ps (kD k) with | some d => .ok d | none => .no) Q := by
        cases k <;> exact h
      have q := ra.look k
      cases e : lookD ps (kD k) with
      | none => rw [e] at h'; exact h'.elim
      | some d =>
        rw [e] at h' q
        obtain ⟨v, hv, rv⟩ := q
        have dg : DGet H a (kV k) (some v) := .inl ⟨kvs, k, .inl (g.sub _ _ ha), rfl, hv.symm⟩
        exact .inr ⟨a, v, rfl, dg, h'.give g rv⟩
    cases ry with
    | int i => exact key (.inl i) rfl rfl
    | str i => exact key (.inr i) rfl rfl
    | tup hb rb =>
      rename_i b ys es
      have h' : GP (rE X.K) X T W B G0 Lx H G (match (keysD es).map DK.t with | some (.k _) => (match lookD ps (.tuple es) with | some d => R.ok d | none => .no) | _ => .no) Q := h
      cases e : keysD es with
      | none => rw [e] at h'; exact h'.elim
      | some ks => rw [e] at h'; exact h'.elim
    | _ => exact h.elim
  | dit ha ra =>
    rename_i a kvs ps
    have key : ∀ k : Key, e = kD k → False := by
      intro k ek
      subst ek
      have h' : GP (rE X.K) X T W B G0 Lx H G (match lookD ps (kD k) with | some d => .ok d | none => .no) Q := by
        cases k <;> exact h
      rw [RpT.none_k k ra] at h'
      exact h'
    cases ry with
    | int i => exact (key (.inl i) rfl).elim
    | str i => exact (key (.inr i) rfl).elim
    | tup hb rb =>
      rename_i b ys es
      have h' : GP (rE X.K) X T W B G0 Lx H G (match (keysD es).map DK.t with | some (.k _) => (match lookD ps (.tuple es) with | some d => R.ok d | none => .no) | _ => .no) Q := h
      cases e : keysD es with
      | none => rw [e] at h'; exact h'.elim
      | some ks => rw [e] at h'; exact h'.elim
    | _ => exact h.elim
  | _ => exact h.elim
theorem re_ix {k : Nat} {a b : Expr} {ma mb : R D} {pos : Pos} (hr : Room k X.A) (ha : RE X T W B G0 Lx L a ma) (hb : RE X T W B G0 Lx L b mb) (hs : PlainIx b := by exact fun _ _ => rfl) :
    RE X T W B G0 Lx L (.Subscript a b pos) (op2 getD ma mb) := by
  obtain ⟨ta, pa, qa⟩ := ha
  obtain ⟨tb, pb, qb⟩ := hb
  refine ⟨_, pe_ix (ix_all (hu_of hr)) pa pb hs, fun σ H G Q A h => ?_⟩
  exact qa σ H G _ A ((GP.bind dnE h).mono fun v H1 ⟨G1, d, g1, r1, h1⟩ => qb σ H1 G1 _ (A.grown g1) ((GP.bind dnE h1).mono fun v2 H2 ⟨G2, d2, g2, r2, h2⟩ =>
    od_ix W B G0 Lx H2 G2 v v2 d d2 Q g2.entry (r1.mono g2.ggr) r2 h2))

/-! ### slices -/
def cutD (xs : List D) (lo hi : Option Int) : List D := (xs.drop (HT.sIx xs.length 0 lo)).take (HT.sIx xs.length xs.length hi - HT.sIx xs.length 0 lo)
theorem RpA.cut {K : PySem.W.Frag} {G : Hp} {xs : List V} {ds : List D} (r : RpA K G xs ds) (lo hi : Option Int) : RpA K G (cutV xs lo hi) (cutD ds lo hi) := by
  unfold cutV cutD
  rw [r.length]
  exact (r.drop _).take _
def rO (K : PySem.W.Frag) : Hp → Hp → Hp → Option Int → Option Int → Prop := fun _ _ _ b a => b = a
theorem dnO {K : PySem.W.Frag} : Dn (rO K) := fun _ _ _ _ _ _ _ h => h
/-- a part of a slice -/
def RP (X : Cx) (T : List Addr) (W : WX) (B G0 : Hp) (Lx L : List Sl) (e : Option Expr) (m : R (Option Int)) : Prop :=
  ∃ t, PO X e t ∧ ∀ (σ : L2.St) (H G : Hp) (Q : Option Int → Hp → Prop), At X.K T B G0 L σ H G → GP (rO X.K) X T W B G0 Lx H G m Q → t σ H Q
def asI : D → R (Option Int)
  | .int i => .ok (some i)
  | _ => .no
@[simp] theorem asI_int (i : Int) : asI (.int i) = .ok (some i) := rfl
theorem rp_none : RP X T W B G0 Lx L none (.ok none) := ⟨_, po_none, fun σ H G Q A h => h.now A rfl⟩
theorem rp_some {e : Expr} {m : R D} (h : RE X T W B G0 Lx L e m) : RP X T W B G0 Lx L (some e) (m.bind asI) := by
  obtain ⟨t, p, q⟩ := h
  refine ⟨_, po_some p, fun σ H G Q A h => ?_⟩
  refine q σ H G _ A ((GP.bind dnO h).mono fun v H1 ⟨G1, d, g1, r1, h1⟩ => ?_)
  cases r1 with
  | int i => exact ⟨i, rfl, h1 _ H1 G1 g1.entry rfl⟩
  | _ => exact h1.elim
def asL : D → R (List D)
  | .list xs => .ok xs
  | _ => .no
@[simp] theorem asL_list (xs : List D) : asL (.list xs) = .ok xs := rfl
/-- xs[a:b] of a list: a new list -/
theorem ro_slice {e : Expr} {lo hi : Option Expr} {m : R D} {ml mh : R (Option Int)} {p2 pos : Pos} (he : RE X T W B G0 Lx L e m) (hl : RP X T W B G0 Lx L lo ml) (hh : RP X T W B G0 Lx L hi mh) :
    RO X T W B G0 Lx L (.Subscript e (.Slice lo hi none p2) pos) (m.bind fun x => ml.bind fun a => mh.bind fun b => (asL x).bind fun xs => .ok (cutD xs a b)) := by
  obtain ⟨te, pe, qe⟩ := he
  obtain ⟨tl, pl, ql⟩ := hl
  obtain ⟨th, ph, qh⟩ := hh
  refine ⟨_, pe_slice sl_list pe pl ph, fun σ H G Q A h => ?_⟩
  refine qe σ H G _ A ((GP.bind dnL h).mono fun v H1 ⟨G1, d, g1, r1, h1⟩ => ql σ H1 G1 _ (A.grown g1) ((GP.bind dnL h1).mono fun a H2 ⟨G2, a', g2, r2, h2⟩ =>
    qh σ H2 G2 _ ((A.grown g1).grown g2) ((GP.bind dnL h2).mono fun b H3 ⟨G3, b', g3, r3, h3⟩ => ?_)))
  have r2 : a = a' := r2
  have r3 : b = b' := r3
  subst r2
  subst r3
  have r4 := r1.mono (g2.ggr.trans g3.ggr)
  cases r4 with
  | @lst p xs ds hx rx =>
    refine ⟨p, xs, rfl, SqL.ofG g3.sub hx, fun p' hp => ?_⟩
    exact h3 _ _ G3 (g3.entry.allocH hp) ⟨p', _, rfl, hp, upd_same, Rp.none_new g3.sub hp, rx.cut _ _⟩
  | _ => exact h3.elim
/-- s[a:b] of a text, t[a:b] of a tuple -/
def cutA : D → Option Int → Option Int → R D
  | .tuple xs, a, b => .ok (.tuple (cutD xs a b))
  | .str s, a, b => if s.length ≤ sizeLine then .ok (.str (cutS s a b)) else .no
  | _, _, _ => .no
theorem cutD_all {xs : List D} {lo hi : Option Int} (h : HT.sIx xs.length 0 lo = 0 ∧ HT.sIx xs.length xs.length hi = xs.length) : cutD xs lo hi = xs := by
  unfold cutD
  rw [h.1, h.2]
  simp
theorem re_slice {e : Expr} {lo hi : Option Expr} {m : R D} {ml mh : R (Option Int)} {p2 pos : Pos} (he : RE X T W B G0 Lx L e m) (hl : RP X T W B G0 Lx L lo ml) (hh : RP X T W B G0 Lx L hi mh) :
    RE X T W B G0 Lx L (.Subscript e (.Slice lo hi none p2) pos) (m.bind fun x => ml.bind fun a => mh.bind fun b => cutA x a b) := by
  obtain ⟨te, pe, qe⟩ := he
  obtain ⟨tl, pl, ql⟩ := hl
  obtain ⟨th, ph, qh⟩ := hh
  refine ⟨_, pe_slice (sl_tupA.or sl_str) pe pl ph, fun σ H G Q A h => ?_⟩
  refine qe σ H G _ A ((GP.bind dnE h).mono fun v H1 ⟨G1, d, g1, r1, h1⟩ => ql σ H1 G1 _ (A.grown g1) ((GP.bind dnE h1).mono fun a H2 ⟨G2, a', g2, r2, h2⟩ =>
    qh σ H2 G2 _ ((A.grown g1).grown g2) ((GP.bind dnE h2).mono fun b H3 ⟨G3, b', g3, r3, h3⟩ => ?_)))
  have r2 : a = a' := r2
  have r3 : b = b' := r3
  subst r2
  subst r3
  have r4 := r1.mono (g2.ggr.trans g3.ggr)
  cases r4 with
  | @tup p xs ds hx rx =>
    refine .inl ⟨p, xs, rfl, SqT.mono g3.sub hx, fun e => ?_, fun _ p' hp => ?_⟩
    · rw [rx.length] at e
      have h4 : GP (rE X.K) X T W B G0 Lx H3 G3 (.ok (.tuple (cutD ds a b))) Q := h3
      rw [cutD_all e] at h4
      exact h4.give g3.entry (.tup hx rx)
    · exact h3 _ _ (upd G3 p' (.tup (cutV xs a b))) (g3.entry.alloc hp rfl) (.tup (.inl (.inl upd_same)) ((rx.cut _ _).mono (.new (Rp.none_new g3.sub hp))))
  | str z =>
    obtain ⟨hz, h4⟩ := GP.gd (c := z.length ≤ sizeLine) h3
    exact .inr ⟨z, rfl, hz, h4.give g3.entry (.str _)⟩
  | _ => exact h3.elim

/-! ### built-ins called with data -/
def CaD (X : Cx) (T : List Addr) (f : List D → R D) (r : List V → Hp → VK → Prop) : Prop :=
  ∀ (W : WX) (B G0 : Hp) (Lx : List Sl) (H G : Hp) (vs : List V) (ds : List D) (Q : VK), Grow T H G H G → RpA X.K G vs ds → GP (rE X.K) X T W B G0 Lx H G (f ds) Q → r vs H Q
def CaL (X : Cx) (T : List Addr) (f : List D → R (List D)) (r : List V → Hp → VK → Prop) : Prop :=
  ∀ (W : WX) (B G0 : Hp) (Lx : List Sl) (H G : Hp) (vs : List V) (ds : List D) (Q : VK), Grow T H G H G → RpA X.K G vs ds → GP (rL X.K) X T W B G0 Lx H G (f ds) Q → r vs H Q
theorem re_callB {id : String} {r : List V → Hp → VK → Prop} {f : List D → R D} {x : Str} {e : Expr} {es : List Expr} {m : R (List D)} {p pos : Pos} (hc : CallR X (.builtin id) r) (hd : CaD X T f r) (hm : X.mg x = none) (hv : bootBuiltins x = some (.builtin id))
    (ha : RA X T W B G0 Lx L (e :: es) m) (hg : Gl X x := by rfl) (hn : x ≠ "__name__" := by decide) (hdb : (x == ("__debug__" : Str)) = false := by decide)
    (he : starEach (e :: es) X.env = (false, eval e X.env) :: starEach es X.env := by rfl) (hpl : (backTo pos (starEach es X.env)).any (·.1) = false := by rfl) : RE X T W B G0 Lx L (.Call (.Name x p) (e :: es) [] pos) (m.bind f) := by
  obtain ⟨t, pa, la, q⟩ := ha
  refine ⟨_, pe_callB hc hg hm hv pa hn hdb he hpl, fun σ H G Q A h => ?_⟩
  exact q σ H G _ A ((GP.bind dnE h).mono fun vs H1 ⟨G1, ds, g1, r1, h1⟩ => hd W B G0 Lx H1 G1 vs ds Q g1.entry r1 h1)
theorem ro_callB {id : String} {r : List V → Hp → VK → Prop} {f : List D → R (List D)} {x : Str} {e : Expr} {es : List Expr} {m : R (List D)} {p pos : Pos} (hc : CallR X (.builtin id) r) (hd : CaL X T f r) (hm : X.mg x = none) (hv : bootBuiltins x = some (.builtin id))
    (ha : RA X T W B G0 Lx L (e :: es) m) (hg : Gl X x := by rfl) (hn : x ≠ "__name__" := by decide) (hdb : (x == ("__debug__" : Str)) = false := by decide)
    (he : starEach (e :: es) X.env = (false, eval e X.env) :: starEach es X.env := by rfl) (hpl : (backTo pos (starEach es X.env)).any (·.1) = false := by rfl) : RO X T W B G0 Lx L (.Call (.Name x p) (e :: es) [] pos) (m.bind f) := by
  obtain ⟨t, pa, la, q⟩ := ha
  refine ⟨_, pe_callB hc hg hm hv pa hn hdb he hpl, fun σ H G Q A h => ?_⟩
  exact q σ H G _ A ((GP.bind dnL h).mono fun vs H1 ⟨G1, ds, g1, r1, h1⟩ => hd W B G0 Lx H1 G1 vs ds Q g1.entry r1 h1)
theorem re_callTy {id : String} {r : List V → Hp → VK → Prop} {f : List D → R D} {x : Str} {e : Expr} {es : List Expr} {m : R (List D)} {p pos : Pos} (hc : CallR X (.type id) r) (hd : CaD X T f r) (hm : X.mg x = none) (hv : bootBuiltins x = some (.type id))
    (ha : RA X T W B G0 Lx L (e :: es) m) (hg : Gl X x := by rfl) (hn : x ≠ "__name__" := by decide) (hdb : (x == ("__debug__" : Str)) = false := by decide)
    (he : starEach (e :: es) X.env = (false, eval e X.env) :: starEach es X.env := by rfl) (hpl : (backTo pos (starEach es X.env)).any (·.1) = false := by rfl) : RE X T W B G0 Lx L (.Call (.Name x p) (e :: es) [] pos) (m.bind f) := by
  obtain ⟨t, pa, la, q⟩ := ha
  refine ⟨_, pe_callTy hc hg hm hv pa hn hdb he hpl, fun σ H G Q A h => ?_⟩
  exact q σ H G _ A ((GP.bind dnE h).mono fun vs H1 ⟨G1, ds, g1, r1, h1⟩ => hd W B G0 Lx H1 G1 vs ds Q g1.entry r1 h1)
theorem ro_callTy {id : String} {r : List V → Hp → VK → Prop} {f : List D → R (List D)} {x : Str} {e : Expr} {es : List Expr} {m : R (List D)} {p pos : Pos} (hc : CallR X (.type id) r) (hd : CaL X T f r) (hm : X.mg x = none) (hv : bootBuiltins x = some (.type id))
    (ha : RA X T W B G0 Lx L (e :: es) m) (hg : Gl X x := by rfl) (hn : x ≠ "__name__" := by decide) (hdb : (x == ("__debug__" : Str)) = false := by decide)
    (he : starEach (e :: es) X.env = (false, eval e X.env) :: starEach es X.env := by rfl) (hpl : (backTo pos (starEach es X.env)).any (·.1) = false := by rfl) : RO X T W B G0 Lx L (.Call (.Name x p) (e :: es) [] pos) (m.bind f) := by
  obtain ⟨t, pa, la, q⟩ := ha
  refine ⟨_, pe_callTy hc hg hm hv pa hn hdb he hpl, fun σ H G Q A h => ?_⟩
  exact q σ H G _ A ((GP.bind dnL h).mono fun vs H1 ⟨G1, ds, g1, r1, h1⟩ => hd W B G0 Lx H1 G1 vs ds Q g1.entry r1 h1)
theorem RpA.one {K : PySem.W.Frag} {G : Hp} {vs : List V} {d : D} (r : RpA K G vs [d]) : ∃ v, vs = [v] ∧ Rp K G v d := by
  cases r with | cons h t => cases t; exact ⟨_, rfl, h⟩
theorem RpA.two {K : PySem.W.Frag} {G : Hp} {vs : List V} {d e : D} (r : RpA K G vs [d, e]) : ∃ v w, vs = [v, w] ∧ Rp K G v d ∧ Rp K G w e := by
  cases r with | cons h t => cases t with | cons h2 t2 => cases t2; exact ⟨_, _, rfl, h, h2⟩

def f1 (g : D → R D) : List D → R D
  | [d] => g d
  | _ => .no
def f2 (g : D → D → R D) : List D → R D
  | [d, e] => g d e
  | _ => .no
def l1 (g : D → R (List D)) : List D → R (List D)
  | [d] => g d
  | _ => .no
@[simp] theorem f1_one (g : D → R D) (d : D) : f1 g [d] = g d := rfl
@[simp] theorem f2_two (g : D → D → R D) (d e : D) : f2 g [d, e] = g d e := rfl
@[simp] theorem l1_one (g : D → R (List D)) (d : D) : l1 g [d] = g d := rfl
theorem ca_f1 {g : D → R D} {r : List V → Hp → VK → Prop} (h : ∀ (W : WX) (B G0 : Hp) (Lx : List Sl) (H G : Hp) (v : V) (d : D) (Q : VK), Grow T H G H G → Rp X.K G v d → GP (rE X.K) X T W B G0 Lx H G (g d) Q → r [v] H Q) : CaD X T (f1 g) r := by
  intro W B G0 Lx H G vs ds Q gr ra q
  match ds, ra, q with
  | [d], ra, q =>
    obtain ⟨v, rfl, rv⟩ := ra.one
    exact h W B G0 Lx H G v d Q gr rv q
  | [], _, q => exact q.elim
  | _ :: _ :: _, _, q => exact q.elim
theorem ca_l1 {g : D → R (List D)} {r : List V → Hp → VK → Prop} (h : ∀ (W : WX) (B G0 : Hp) (Lx : List Sl) (H G : Hp) (v : V) (d : D) (Q : VK), Grow T H G H G → Rp X.K G v d → GP (rL X.K) X T W B G0 Lx H G (g d) Q → r [v] H Q) : CaL X T (l1 g) r := by
  intro W B G0 Lx H G vs ds Q gr ra q
  match ds, ra, q with
  | [d], ra, q =>
    obtain ⟨v, rfl, rv⟩ := ra.one
    exact h W B G0 Lx H G v d Q gr rv q
  | [], _, q => exact q.elim
  | _ :: _ :: _, _, q => exact q.elim
theorem ca_f2 {g : D → D → R D} {r : List V → Hp → VK → Prop} (h : ∀ (W : WX) (B G0 : Hp) (Lx : List Sl) (H G : Hp) (v w : V) (d e : D) (Q : VK), Grow T H G H G → Rp X.K G v d → Rp X.K G w e → GP (rE X.K) X T W B G0 Lx H G (g d e) Q → r [v, w] H Q) : CaD X T (f2 g) r := by
  intro W B G0 Lx H G vs ds Q gr ra q
  match ds, ra, q with
  | [d, e], ra, q =>
    obtain ⟨v, w, rfl, rv, rw'⟩ := ra.two
    exact h W B G0 Lx H G v w d e Q gr rv rw' q
  | [], _, q => exact q.elim
  | [_], _, q => exact q.elim
  | _ :: _ :: _ :: _, _, q => exact q.elim
/-- len -/
def dLen : D → R D
  | .str s => if s.length ≤ sizeLine then .ok (.int s.length) else .no
  | .list xs => .ok (.int xs.length)
  | .tuple xs => .ok (.int xs.length)
  | _ => .no
@[simp] theorem dLen_list (xs : List D) : dLen (.list xs) = .ok (.int xs.length) := rfl
@[simp] theorem dLen_tuple (xs : List D) : dLen (.tuple xs) = .ok (.int xs.length) := rfl
theorem ca_len : CaD X T (f1 dLen) (fun xs H Q => (∃ p ys, xs = [.ref p] ∧ (SqL X.K H p ys ∨ SqT X.K H p ys) ∧ Q (.int ys.length) H) ∨ ∃ z, xs = [.str z] ∧ z.length ≤ sizeLine ∧ Q (.int z.length) H) := by
  refine ca_f1 fun W B G0 Lx H G v d Q g rv h => ?_
  cases rv with
  | str s =>
    obtain ⟨hz, h⟩ := GP.gd (c := s.length ≤ sizeLine) h
    exact .inr ⟨s, rfl, hz, h.give g (.int _)⟩
  | @lst a ys ds ha ra =>
    refine .inl ⟨a, ys, rfl, .inl (SqL.ofG g.sub ha), ?_⟩
    rw [ra.length]
    exact h.give g (.int _)
  | @tup a ys ds ha ra =>
    refine .inl ⟨a, ys, rfl, .inr (SqT.mono g.sub ha), ?_⟩
    rw [ra.length]
    exact h.give g (.int _)
  | _ => exact h.elim
theorem cr_len : CallR X (.builtin "len") (fun xs H Q => (∃ p ys, xs = [.ref p] ∧ (SqL X.K H p ys ∨ SqT X.K H p ys) ∧ Q (.int ys.length) H) ∨ ∃ z, xs = [.str z] ∧ z.length ≤ sizeLine ∧ Q (.int z.length) H) := call_len_seq.or call_len_str
/-- isinstance(x, t), t a built-in type -/
def isiD (t : String) : D → Bool
  | .none => t == "NoneType"
  | .bool _ => t == "bool" || t == "int"
  | .int _ => t == "int"
  | .str _ => t == "str"
  | .list _ => t == "list"
  | .tuple _ => t == "tuple"
  | .dict _ => t == "dict"
theorem tyX_of {K : PySem.W.Frag} {G : Hp} {v : V} {d : D} (r : Rp K G v d) : ∃ t : String, TyX K G v (.type t) ∧ (∀ c, c = "bool" ∨ c = "int" ∨ c = "str" ∨ c = "list" ∨ c = "tuple" → kitB t c = some (isiD c d)) := by
  cases r with
  | non => exact ⟨_, .base .non, by rintro c (rfl | rfl | rfl | rfl | rfl) <;> decide +kernel⟩
  | bl b => exact ⟨_, .base (.bl _), by rintro c (rfl | rfl | rfl | rfl | rfl) <;> (show _ = some _; simp only [isiD]; decide +kernel)⟩
  | int b => exact ⟨_, .base (.int _), by rintro c (rfl | rfl | rfl | rfl | rfl) <;> (show _ = some _; simp only [isiD]; decide +kernel)⟩
  | str b => exact ⟨_, .base (.str _), by rintro c (rfl | rfl | rfl | rfl | rfl) <;> (show _ = some _; simp only [isiD]; decide +kernel)⟩
  | lst ha _ => exact ⟨_, .base (.lst ha), by rintro c (rfl | rfl | rfl | rfl | rfl) <;> (show _ = some _; simp only [isiD]; decide +kernel)⟩
  | tup ha _ =>
    have q : ∀ c, c = "bool" ∨ c = "int" ∨ c = "str" ∨ c = "list" ∨ c = "tuple" → kitB "tuple" c = some (isiD c (.tuple [])) := by rintro c (rfl | rfl | rfl | rfl | rfl) <;> decide +kernel
    rcases ha with (ha | ⟨o, ha⟩) | ⟨o, its, n, h1, h2, _⟩
    · exact ⟨"tuple", .base (.tup ha), q⟩
    · exact ⟨"tuple", .fTuple ha, q⟩
    · exact ⟨"tuple", .kTuple h1 h2, q⟩
  | dik ha _ => exact ⟨_, .base (.dK ha), by rintro c (rfl | rfl | rfl | rfl | rfl) <;> (show _ = some _; simp only [isiD]; decide +kernel)⟩
  | dit ha _ => exact ⟨_, .base (.dT ha), by rintro c (rfl | rfl | rfl | rfl | rfl) <;> (show _ = some _; simp only [isiD]; decide +kernel)⟩
theorem TyX.mono {K : PySem.W.Frag} {G H : Hp} (s : Sub G H) {v : V} {t : Value} (h : TyX K G v t) : TyX K H v t := by
  cases h with
  | base h =>
    cases h with
    | non => exact .base .non
    | bl b => exact .base (.bl b)
    | int i => exact .base (.int i)
    | str i => exact .base (.str i)
    | flt i => exact .base (.flt i)
    | lst e => exact .base (.lst (s _ _ e))
    | frz e => exact .base (.frz (s _ _ e))
    | tup e => exact .base (.tup (s _ _ e))
    | dK e => exact .base (.dK (s _ _ e))
    | dT e => exact .base (.dT (s _ _ e))
    | ins e a b c d f => exact .base (.ins (s _ _ e) a b c d f)
  | byt b => exact .byt b
  | set e => exact .set (s _ _ e)
  | kList e c => exact .kList e c
  | kTuple e c => exact .kTuple e c
  | kDict e c => exact .kDict e c
  | fTuple e => exact .fTuple (s _ _ e)
  | fDict e => exact .fDict (s _ _ e)
theorem re_isi {t : String} {c : Str} {e : Expr} {m : R D} {p pc pos : Pos} (hm : X.mg "isinstance" = none) (hmc : X.mg c = none) (hbc : bootBuiltins c = some (.type t)) (ht : t = "bool" ∨ t = "int" ∨ t = "str" ∨ t = "list" ∨ t = "tuple") (h : RE X T W B G0 Lx L e m)
    (hg : Gl X "isinstance" := by rfl) (hgc : Gl X c := by rfl) (hn : c ≠ "__name__" := by decide) (hdb : (c == ("__debug__" : Str)) = false := by decide)
    (he : starEach [e, .Name c pc] X.env = (false, eval e X.env) :: starEach [.Name c pc] X.env := by rfl) (hpl : (backTo pos (starEach [.Name c pc] X.env)).any (·.1) = false := by rfl) :
    RE X T W B G0 Lx L (.Call (.Name "isinstance" p) [e, .Name c pc] [] pos) (m.bind fun d => .ok (.bool (isiD t d))) := by
  obtain ⟨te, pe, q⟩ := h
  refine ⟨_, pe_callB call_isi hg hm boot_isinstance (pa_cons pe (pa_cons (pe_bltn (v := .ty t) hgc hmc hbc rfl hn hdb) pa_nil rfl) he) (by decide) (by decide) he hpl, fun σ H G Q A h => ?_⟩
  refine q σ H G _ A ((GP.bind dnE h).mono fun v H1 ⟨G1, d, g1, r1, h1⟩ => ?_)
  obtain ⟨t', ty, k⟩ := tyX_of r1
  exact ⟨v, .ty t, .type t', .type t, _, rfl, .ty t, TyX.mono g1.sub ty, kit_ty (k t ht), h1.give g1.entry (.bl _)⟩
end
end DL
namespace DL
open PySem PySem.Spec PyProof.Rows L2

/-! ### statements -/
/-- how a piece of a body ends: on with the slots L; on or «continue»; break; continue; return d; return d, or at the body's end (None); never told -/
inductive Ex where
  | nx (L : List Sl) | nc (L : List Sl) | bk (L : List Sl) | ct (L : List Sl) | rt (d : D) | rn (d : D) | nv
def Ex.strict : Ex → Ex
  | .nx _ => .nv
  | .nc L => .ct L
  | .rn d => .rt d
  | e => e
section
def AtEnd (X : Cx) (T : List Addr) (B G0 G : Hp) (L : List Sl) (Q : L2.St → Hp → Prop) : Prop := ∀ σ H' G', At X.K T B G0 L σ H' G' → Sub G G' → Q σ H'
def RtEnd (X : Cx) (T : List Addr) (B G0 G : Hp) (d : D) (Q : VK) : Prop := ∀ v H' G', Grow T B G0 H' G' → Sub G G' → Rp X.K G' v d → Q v H'
def EndOk (X : Cx) (T : List Addr) (B G0 G : Hp) (e : Ex) (Dn : Ends) : Prop :=
  match e with
  | .nx L => AtEnd X T B G0 G L Dn.nx
  | .nc L => AtEnd X T B G0 G L Dn.nx ∧ AtEnd X T B G0 G L Dn.ct
  | .bk L => AtEnd X T B G0 G L Dn.bk
  | .ct L => AtEnd X T B G0 G L Dn.ct
  | .rt d => RtEnd X T B G0 G d Dn.rt
  | .rn d => RtEnd X T B G0 G d Dn.rt ∧ (d = .none → ∀ σ H' G', Grow T B G0 H' G' → Sub G G' → Dn.nx σ H')
  | .nv => True
def BP (X : Cx) (T : List Addr) (W : WX) (B G0 : Hp) (Lx : List Sl) (G : Hp) {α : Type} (pst : α → Ex) (m : R α) (Dn : Ends) : Prop :=
  match m with
  | .ok a => EndOk X T B G0 G (pst a) Dn
  | .ex c fs => ExP X T W B G0 Lx c fs
  | .no => False
def RB (X : Cx) (T : List Addr) (W : WX) (B G0 : Hp) (Lx L : List Sl) {α : Type} (sts : List Stmt) (m : R α) (pst : α → Ex) : Prop :=
  ∃ t, PSs X sts t ∧ ∀ (Dn : Ends) (σ : L2.St) (H G : Hp), At X.K T B G0 L σ H G → BP X T W B G0 Lx G pst m Dn → t Dn σ H
def RS (X : Cx) (T : List Addr) (W : WX) (B G0 : Hp) (Lx L : List Sl) {α : Type} (st : Stmt) (m : R α) (pst : α → Ex) : Prop :=
  ∃ t, PS X st t ∧ ∀ (Dn : Ends) (σ : L2.St) (H G : Hp), At X.K T B G0 L σ H G → BP X T W B G0 Lx G pst m Dn → t Dn σ H
end

section
variable {X : Cx} {T : List Addr} {W : WX} {B G0 : Hp} {Lx L : List Sl}
theorem AtEnd.later {G G1 : Hp} {Q : L2.St → Hp → Prop} (h : AtEnd X T B G0 G L Q) (s : Sub G G1) : AtEnd X T B G0 G1 L Q := fun σ H' G' A s' => h σ H' G' A (s.trans s')
theorem RtEnd.later {G G1 : Hp} {d : D} {Q : VK} (h : RtEnd X T B G0 G d Q) (s : Sub G G1) : RtEnd X T B G0 G1 d Q := fun σ H' G' A s' => h σ H' G' A (s.trans s')
theorem EndOk.later {G G1 : Hp} {e : Ex} {Dn : Ends} (h : EndOk X T B G0 G e Dn) (s : Sub G G1) : EndOk X T B G0 G1 e Dn := by
  cases e with
  | nx L => exact AtEnd.later h s
  | nc L => exact ⟨h.1.later s, h.2.later s⟩
  | bk L => exact AtEnd.later h s
  | ct L => exact AtEnd.later h s
  | rt d => exact RtEnd.later h s
  | rn d => exact ⟨h.1.later s, fun e σ H' G' g s' => h.2 e σ H' G' g (s.trans s')⟩
  | nv => trivial
theorem BP.later {α : Type} {pst : α → Ex} {m : R α} {G G1 : Hp} {Dn : Ends} (h : BP X T W B G0 Lx G pst m Dn) (s : Sub G G1) : BP X T W B G0 Lx G1 pst m Dn := by
  cases m with
  | ok a => exact EndOk.later h s
  | ex c fs => exact h
  | no => exact h
/-- a value, then the rest -/
theorem BP.bind {α β γ : Type} {Rl : Hp → Hp → Hp → γ → β → Prop} {pst : α → Ex} {m : R β} {k : β → R α} {H G : Hp} {Dn : Ends} (h : BP X T W B G0 Lx G pst (m.bind k) Dn) :
    GP Rl X T W B G0 Lx H G m (fun x H1 => ∃ G1 a, Grow T H G H1 G1 ∧ Rl H H1 G1 x a ∧ BP X T W B G0 Lx G1 pst (k a) Dn) := by
  cases m with
  | ok a => exact fun b H' G' g r => ⟨G', a, g, r, BP.later h g.ggr⟩
  | ex c fs => exact h
  | no => exact h
/-- one reading for many data -/
theorem pss_ex {δ : Type} {sts : List Stmt} {t : δ → TS} (h : ∀ d, PSs X sts (t d)) : PSs X sts (fun Dn σ H => ∃ d, t d Dn σ H) := ⟨fun pins s σ H Dn I ⟨d, q⟩ => (h d).run pins s σ H Dn I q⟩
theorem RB.all {δ α : Type} {sts : List Stmt} {L : δ → List Sl} {k : δ → R α} {pst : α → Ex} (h : ∀ d, RB X T W B G0 Lx (L d) sts (k d) pst) :
    ∃ u, PSs X sts u ∧ ∀ (d : δ) (Dn : Ends) (σ : L2.St) (H G : Hp), At X.K T B G0 (L d) σ H G → BP X T W B G0 Lx G pst (k d) Dn → u Dn σ H := by
  refine ⟨fun Dn σ H => ∃ d, (Classical.choose (h d)) Dn σ H, pss_ex fun d => (Classical.choose_spec (h d)).1, fun d Dn σ H G A q => ⟨d, (Classical.choose_spec (h d)).2 Dn σ H G A q⟩⟩

/-! the end of a block -/
theorem rb_nil_nx {α : Type} {a : α} {pst : α → Ex} {L' : List Sl} (w : Wk L L') (h : pst a = .nx L' := by rfl) : RB X T W B G0 Lx L [] (.ok a) pst := by
  refine ⟨_, pss_nil, fun Dn σ H G A q => ?_⟩
  have q' : EndOk X T B G0 G (pst a) Dn := q
  rw [h] at q'
  exact q' σ H G (A.weak w) (.refl G)
theorem rb_nil_nc {α : Type} {a : α} {pst : α → Ex} {L' : List Sl} (w : Wk L L') (h : pst a = .nc L' := by rfl) : RB X T W B G0 Lx L [] (.ok a) pst := by
  refine ⟨_, pss_nil, fun Dn σ H G A q => ?_⟩
  have q' : EndOk X T B G0 G (pst a) Dn := q
  rw [h] at q'
  exact q'.1 σ H G (A.weak w) (.refl G)
theorem rb_nil_rn {α : Type} {a : α} {pst : α → Ex} (h : pst a = .rn .none := by rfl) : RB X T W B G0 Lx L [] (.ok a) pst := by
  refine ⟨_, pss_nil, fun Dn σ H G A q => ?_⟩
  have q' : EndOk X T B G0 G (pst a) Dn := q
  rw [h] at q'
  exact q'.2 rfl σ H G A.gr (.refl G)
theorem rb_pass {α : Type} {m : R α} {pst : α → Ex} {rest : List Stmt} {pos : Pos} (h : RB X T W B G0 Lx L rest m pst) : RB X T W B G0 Lx L (.Pass pos :: rest) m pst := by
  obtain ⟨t, p, q⟩ := h
  exact ⟨_, pss_cons ps_pass p, fun Dn σ H G A h => q Dn σ H G A h⟩
theorem rb_break {α : Type} {a : α} {pst : α → Ex} {L' : List Sl} {rest : List Stmt} {pos : Pos} (w : Wk L L') (h : pst a = .bk L' := by rfl) : RB X T W B G0 Lx L (.Break pos :: rest) (.ok a) pst := by
  refine ⟨_, pss_cons ps_break pss_never, fun Dn σ H G A q => ?_⟩
  have q' : EndOk X T B G0 G (pst a) Dn := q
  rw [h] at q'
  exact q' σ H G (A.weak w) (.refl G)
theorem rb_continue {α : Type} {a : α} {pst : α → Ex} {L' : List Sl} {rest : List Stmt} {pos : Pos} (w : Wk L L') (h : pst a = .ct L' ∨ pst a = .nc L' := by first | exact Or.inl rfl | exact Or.inr rfl) : RB X T W B G0 Lx L (.Continue pos :: rest) (.ok a) pst := by
  refine ⟨_, pss_cons ps_continue pss_never, fun Dn σ H G A q => ?_⟩
  have q' : EndOk X T B G0 G (pst a) Dn := q
  rcases h with h | h
  · rw [h] at q'
    exact q' σ H G (A.weak w) (.refl G)
  · rw [h] at q'
    exact q'.2 σ H G (A.weak w) (.refl G)
/-! return -/
theorem rb_ret {α : Type} {e : Expr} {m : R D} {f : D → α} {pst : α → Ex} {rest : List Stmt} {pos : Pos} (he : RE X T W B G0 Lx L e m) (h : ∀ d, pst (f d) = .rt d ∨ pst (f d) = .rn d := by first | exact fun _ => Or.inl rfl | exact fun _ => Or.inr rfl) :
    RB X T W B G0 Lx L (.Return (some e) pos :: rest) (m.bind fun d => .ok (f d)) pst := by
  obtain ⟨t, p, q⟩ := he
  refine ⟨_, pss_cons (ps_ret p) pss_never, fun Dn σ H G A h1 => ?_⟩
  refine q σ H G _ A ((BP.bind h1).mono fun v H1 ⟨G1, d, g1, r1, h2⟩ => ?_)
  have q' : EndOk X T B G0 G1 (pst (f d)) Dn := h2
  rcases h d with z | z
  · rw [z] at q'
    exact q' v H1 G1 (A.gr.trans g1) (.refl _) r1
  · rw [z] at q'
    exact q'.1 v H1 G1 (A.gr.trans g1) (.refl _) r1
theorem rb_retN {α : Type} {a : α} {pst : α → Ex} {rest : List Stmt} {pos : Pos} (h : pst a = .rt .none ∨ pst a = .rn .none := by first | exact Or.inl rfl | exact Or.inr rfl) :
    RB X T W B G0 Lx L (.Return none pos :: rest) (.ok a) pst := by
  refine ⟨_, pss_cons ps_retN pss_never, fun Dn σ H G A h1 => ?_⟩
  have q' : EndOk X T B G0 G (pst a) Dn := h1
  rcases h with z | z
  · rw [z] at q'
    exact q' .non H G A.gr (.refl _) .non
  · rw [z] at q'
    exact q'.1 .non H G A.gr (.refl _) .non
/-! assignments -/
theorem rb_set (i : Nat) {α : Type} {x : Str} {e : Expr} {m : R D} {k : D → R α} {pst : α → Ex} {rest : List Stmt} {pos pos' : Pos} (hN : X.N.Nodup) (he : RE X T W B G0 Lx L e m) (hr : ∀ d, RB X T W B G0 Lx (L.set i (.im d)) rest (k d) pst)
    (hi : X.N[i]? = some x := by rfl) (hx : Loc X.env.scope x := by first | exact Or.inl rfl | exact Or.inr rfl) (hs : swapsWith e (some (.Name x pos')) pos.line X.env = pure false := by rfl)
    (hf : X.fn x = true ∨ X.env.scope.names.lookup x = some .local := by first | exact .inl rfl | exact .inr rfl) : RB X T W B G0 Lx L (.Assign [.Name x pos'] e pos :: rest) (m.bind k) pst := by
  obtain ⟨t, p, q⟩ := he
  obtain ⟨u, pu, qu⟩ := RB.all hr
  refine ⟨_, pss_cons (ps_set hN hi hx p hs hf) pu, fun Dn σ H G A h => ?_⟩
  exact q σ H G _ A ((BP.bind h).mono fun v H1 ⟨G1, d, g1, r1, h1⟩ => qu d Dn _ H1 G1 ((A.grown g1).setIm r1) h1)
/-- the slot gets a new list of its own -/
theorem At.setNew {K : PySem.W.Frag} {σ : L2.St} {H H1 G G1 : Hp} {i : Nat} {v : V} {ds : List D} (A : At K T B G0 L σ H G) (g : Grow T H G H1 G1) (r : rL K H H1 G1 v ds) : At K T B G0 (L.set i (.ol ds)) (σ.set i (some v)) H1 G1 := by
  obtain ⟨p, vs, rfl, h0, h1, h2, ra⟩ := r
  have A1 := A.grown g
  refine A1.setOwn (fun j o => ?_) fun hi => ⟨p, vs, List.getElem?_set_self (by rw [← A1.len]; exact hi), h1, h2, A.gr.ext.free h0, ra⟩
  obtain ⟨u, e, _⟩ := A.own o
  rw [h0] at e
  cases e
theorem At.setNewK {K : PySem.W.Frag} {σ : L2.St} {H H1 G G1 : Hp} {i : Nat} {v : V} {ds : List (D × D)} (A : At K T B G0 L σ H G) (g : Grow T H G H1 G1) (r : rDK K H H1 G1 v ds) : At K T B G0 (L.set i (.ok ds)) (σ.set i (some v)) H1 G1 := by
  obtain ⟨p, vs, rfl, h0, h1, h2, ra⟩ := r
  have A1 := A.grown g
  refine A1.setOwn (fun j o => ?_) fun hi => ⟨p, vs, List.getElem?_set_self (by rw [← A1.len]; exact hi), h1, h2, A.gr.ext.free h0, ra⟩
  obtain ⟨u, e, _⟩ := A.own o
  rw [h0] at e
  cases e
theorem At.setNewT {K : PySem.W.Frag} {σ : L2.St} {H H1 G G1 : Hp} {i : Nat} {v : V} {ds : List (D × D)} (A : At K T B G0 L σ H G) (g : Grow T H G H1 G1) (r : rDT K H H1 G1 v ds) : At K T B G0 (L.set i (.ot ds)) (σ.set i (some v)) H1 G1 := by
  obtain ⟨p, vs, rfl, h0, h1, h2, ra⟩ := r
  have A1 := A.grown g
  refine A1.setOwn (fun j o => ?_) fun hi => ⟨p, vs, List.getElem?_set_self (by rw [← A1.len]; exact hi), h1, h2, A.gr.ext.free h0, ra⟩
  obtain ⟨u, e, _⟩ := A.own o
  rw [h0] at e
  cases e
theorem rb_setO (i : Nat) {α : Type} {x : Str} {e : Expr} {m : R (List D)} {k : List D → R α} {pst : α → Ex} {rest : List Stmt} {pos pos' : Pos} (hN : X.N.Nodup) (he : RO X T W B G0 Lx L e m) (hr : ∀ ds, RB X T W B G0 Lx (L.set i (.ol ds)) rest (k ds) pst)
    (hi : X.N[i]? = some x := by rfl) (hx : Loc X.env.scope x := by first | exact Or.inl rfl | exact Or.inr rfl) (hs : swapsWith e (some (.Name x pos')) pos.line X.env = pure false := by rfl)
    (hf : X.fn x = true ∨ X.env.scope.names.lookup x = some .local := by first | exact .inl rfl | exact .inr rfl) : RB X T W B G0 Lx L (.Assign [.Name x pos'] e pos :: rest) (m.bind k) pst := by
  obtain ⟨t, p, q⟩ := he
  obtain ⟨u, pu, qu⟩ := RB.all hr
  refine ⟨_, pss_cons (ps_set hN hi hx p hs hf) pu, fun Dn σ H G A h => ?_⟩
  exact q σ H G _ A ((BP.bind h).mono fun v H1 ⟨G1, d, g1, r1, h1⟩ => qu d Dn _ H1 G1 (A.setNew g1 r1) h1)
theorem rb_setK (i : Nat) {α : Type} {x : Str} {e : Expr} {m : R (List (D × D))} {k : List (D × D) → R α} {pst : α → Ex} {rest : List Stmt} {pos pos' : Pos} (hN : X.N.Nodup) (he : RDK X T W B G0 Lx L e m) (hr : ∀ ds, RB X T W B G0 Lx (L.set i (.ok ds)) rest (k ds) pst)
    (hi : X.N[i]? = some x := by rfl) (hx : Loc X.env.scope x := by first | exact Or.inl rfl | exact Or.inr rfl) (hs : swapsWith e (some (.Name x pos')) pos.line X.env = pure false := by rfl)
    (hf : X.fn x = true ∨ X.env.scope.names.lookup x = some .local := by first | exact .inl rfl | exact .inr rfl) : RB X T W B G0 Lx L (.Assign [.Name x pos'] e pos :: rest) (m.bind k) pst := by
  obtain ⟨t, p, q⟩ := he
  obtain ⟨u, pu, qu⟩ := RB.all hr
  refine ⟨_, pss_cons (ps_set hN hi hx p hs hf) pu, fun Dn σ H G A h => ?_⟩
  exact q σ H G _ A ((BP.bind h).mono fun v H1 ⟨G1, d, g1, r1, h1⟩ => qu d Dn _ H1 G1 (A.setNewK g1 r1) h1)
theorem rb_setT (i : Nat) {α : Type} {x : Str} {e : Expr} {m : R (List (D × D))} {k : List (D × D) → R α} {pst : α → Ex} {rest : List Stmt} {pos pos' : Pos} (hN : X.N.Nodup) (he : RDT X T W B G0 Lx L e m) (hr : ∀ ds, RB X T W B G0 Lx (L.set i (.ot ds)) rest (k ds) pst)
    (hi : X.N[i]? = some x := by rfl) (hx : Loc X.env.scope x := by first | exact Or.inl rfl | exact Or.inr rfl) (hs : swapsWith e (some (.Name x pos')) pos.line X.env = pure false := by rfl)
    (hf : X.fn x = true ∨ X.env.scope.names.lookup x = some .local := by first | exact .inl rfl | exact .inr rfl) : RB X T W B G0 Lx L (.Assign [.Name x pos'] e pos :: rest) (m.bind k) pst := by
  obtain ⟨t, p, q⟩ := he
  obtain ⟨u, pu, qu⟩ := RB.all hr
  refine ⟨_, pss_cons (ps_set hN hi hx p hs hf) pu, fun Dn σ H G A h => ?_⟩
  exact q σ H G _ A ((BP.bind h).mono fun v H1 ⟨G1, d, g1, r1, h1⟩ => qu d Dn _ H1 G1 (A.setNewT g1 r1) h1)
/-! if -/
theorem rb_if {α : Type} {c : Expr} {a b : List Stmt} {mc : R Bool} {ma mb : R α} {pst : α → Ex} {pos : Pos} (hc : RT X T W B G0 Lx L c mc) (ha : RB X T W B G0 Lx L a ma pst) (hb : RB X T W B G0 Lx L b mb pst) :
    RS X T W B G0 Lx L (.If c a b pos) (iteM mc ma mb) pst := by
  obtain ⟨tc, pc, qc⟩ := hc
  obtain ⟨ta, pa, qa⟩ := ha
  obtain ⟨tb, pb, qb⟩ := hb
  refine ⟨_, ps_if pc pa pb, fun Dn σ H G A h => ?_⟩
  refine qc σ H G _ A ((BP.bind h).mono fun c H1 ⟨G1, d, g1, r1, h1⟩ => ?_)
  subst r1
  cases c with
  | true => exact qa Dn σ H1 G1 (A.grown g1) h1
  | false => exact qb Dn σ H1 G1 (A.grown g1) h1
/-- the last statement -/
theorem rb_last {α : Type} {st : Stmt} {m : R α} {pst : α → Ex} (h : RS X T W B G0 Lx L st m pst) : RB X T W B G0 Lx L [st] m pst := by
  obtain ⟨t, p, q⟩ := h
  exact ⟨_, pss_one p, q⟩
/-- an if whose body never goes on, then the rest -/
theorem rb_ifx {α : Type} {c : Expr} {a rest : List Stmt} {mc : R Bool} {ma mb : R α} {pst : α → Ex} {pos : Pos} (hc : RT X T W B G0 Lx L c mc) (ha : RB X T W B G0 Lx L a ma (fun x => (pst x).strict)) (hb : RB X T W B G0 Lx L rest mb pst) :
    RB X T W B G0 Lx L (.If c a [] pos :: rest) (iteM mc ma mb) pst := by
  obtain ⟨tc, pc, qc⟩ := hc
  obtain ⟨ta, pa, qa⟩ := ha
  obtain ⟨tb, pb, qb⟩ := hb
  refine ⟨_, pss_cons (ps_if pc pa pss_nil) pb, fun Dn σ H G A h => ?_⟩
  refine qc σ H G _ A ((BP.bind h).mono fun c H1 ⟨G1, d, g1, r1, h1⟩ => ?_)
  subst r1
  cases c with
  | true =>
    refine qa _ σ H1 G1 (A.grown g1) ?_
    have h2 : BP X T W B G0 Lx G1 pst ma Dn := h1
    cases ma with
    | ok z =>
      have h3 : EndOk X T B G0 G1 (pst z) Dn := h2
      show EndOk X T B G0 G1 (pst z).strict _
      cases e : pst z with
      | nx L => trivial
      | nc L => rw [e] at h3; exact h3.2
      | bk L => rw [e] at h3; exact h3
      | ct L => rw [e] at h3; exact h3
      | rt d => rw [e] at h3; exact h3
      | rn d => rw [e] at h3; exact h3.1
      | nv => trivial
    | ex c fs => exact h2
    | no => exact h2
  | false => exact qb Dn σ H1 G1 (A.grown g1) h1
/-- what is done with an end of the statement ahead: a way on, or the block's own end -/
def SeqOk (X : Cx) (T : List Addr) (W : WX) (B G0 : Hp) (Lx : List Sl) {α : Type} (rest : List Stmt) (e : Ex) (m : R α) (pst : α → Ex) : Prop :=
  match e with
  | .nx L => RB X T W B G0 Lx L rest m pst
  | .rt d => ∃ a, m = .ok a ∧ (pst a = .rt d ∨ pst a = .rn d)
  | .bk L => ∃ a, m = .ok a ∧ pst a = .bk L
  | .ct L => ∃ a, m = .ok a ∧ (pst a = .ct L ∨ pst a = .nc L)
  | _ => False
theorem rb_seq {α β : Type} {st : Stmt} {rest : List Stmt} {m : R β} {k : β → R α} {p1 : β → Ex} {pst : α → Ex} (h1 : RS X T W B G0 Lx L st m p1) (h2 : ∀ b, SeqOk X T W B G0 Lx rest (p1 b) (k b) pst) : RB X T W B G0 Lx L (st :: rest) (m.bind k) pst := by
  obtain ⟨t, p, q⟩ := h1
  have hall : ∃ u, PSs X rest u ∧ ∀ (b : β) (L' : List Sl) (Dn : Ends) (σ : L2.St) (H G : Hp), p1 b = .nx L' → At X.K T B G0 L' σ H G → BP X T W B G0 Lx G pst (k b) Dn → u Dn σ H := by
    have each : ∀ b : { b : β // ∃ L', p1 b = .nx L' }, ∃ u, PSs X rest u ∧ ∀ (L' : List Sl) (Dn : Ends) (σ : L2.St) (H G : Hp), p1 b.1 = .nx L' → At X.K T B G0 L' σ H G → BP X T W B G0 Lx G pst (k b.1) Dn → u Dn σ H := fun ⟨b, L', e⟩ => by
      have z := h2 b
      rw [e] at z
      obtain ⟨u, pu, qu⟩ : RB X T W B G0 Lx L' rest (k b) pst := z
      refine ⟨u, pu, fun L2' Dn σ H G e2 A h => ?_⟩
      rw [e] at e2
      cases e2
      exact qu Dn σ H G A h
    refine ⟨fun Dn σ H => ∃ b, (Classical.choose (each b)) Dn σ H, pss_ex fun b => (Classical.choose_spec (each b)).1, fun b L' Dn σ H G e A h => ⟨⟨b, L', e⟩, (Classical.choose_spec (each ⟨b, L', e⟩)).2 L' Dn σ H G e A h⟩⟩
  obtain ⟨u, pu, qu⟩ := hall
  refine ⟨_, pss_cons p pu, fun Dn σ H G A h => ?_⟩
  refine q _ σ H G A ?_
  cases m with
  | ok b =>
    have h' : BP X T W B G0 Lx G pst (k b) Dn := h
    have z := h2 b
    show EndOk X T B G0 G (p1 b) _
    cases e : p1 b with
    | nx L' => exact fun σ' H' G' A' s => qu b L' Dn σ' H' G' e A' (h'.later s)
    | nc L' => rw [e] at z; exact z.elim
    | bk L' =>
      rw [e] at z
      obtain ⟨a, e1, e2⟩ := z
      rw [e1] at h'
      have h3 : EndOk X T B G0 G (pst a) Dn := h'
      rw [e2] at h3
      exact h3
    | ct L' =>
      rw [e] at z
      obtain ⟨a, e1, e2⟩ := z
      rw [e1] at h'
      have h3 : EndOk X T B G0 G (pst a) Dn := h'
      rcases e2 with e2 | e2
      · rw [e2] at h3
        exact h3
      · rw [e2] at h3
        exact h3.2
    | rt d =>
      rw [e] at z
      obtain ⟨a, e1, e2⟩ := z
      rw [e1] at h'
      have h3 : EndOk X T B G0 G (pst a) Dn := h'
      rcases e2 with e2 | e2
      · rw [e2] at h3
        exact h3
      · rw [e2] at h3
        exact h3.1
    | rn d => rw [e] at z; exact z.elim
    | nv => trivial
  | ex c fs => exact h
  | no => exact h.elim
end
end DL
namespace DL
open PySem PySem.Spec PyProof.Rows L2

/-! ### loops -/
/-- how a loop's body ends: on (or continue) with b; break with b; return d -/
inductive Fl (β : Type) where
  | nx (b : β) | bk (b : β) | rt (d : D)
/-- how a loop ends -/
inductive Lo (β : Type) where
  | fin (b : β) | rt (d : D)
def forL {β : Type} (body : D → β → R (Fl β)) : List D → β → R (Lo β)
  | [], b => .ok (.fin b)
  | x :: xs, b => (body x b).bind fun
    | .nx b' => forL body xs b'
    | .bk b' => .ok (.fin b')
    | .rt d => .ok (.rt d)
/-- .. that never breaks, never returns -/
def forP {β : Type} (body : D → β → R β) : List D → β → R β
  | [], b => .ok b
  | x :: xs, b => (body x b).bind fun b' => forP body xs b'
/-- a body's end, a loop's end -/
def flE {β : Type} (lb : β → List Sl) : Fl β → Ex
  | .nx b => .nc (lb b)
  | .bk b => .bk (lb b)
  | .rt d => .rt d
def loE {β : Type} (lb : β → List Sl) : Lo β → Ex
  | .fin b => .nx (lb b)
  | .rt d => .rt d

/-- J walks the items xs -/
structure ItOk (K : PySem.W.Frag) (T : List Addr) (J : It) (G0 : Hp) (xs : List D) : Prop where
  go : ∀ (i : Nat) (x : D) (H G : Hp), Grow T H G H G → Sub G0 G → xs[i]? = some x → J.go i H ∧ ∀ v H', J.yld i H v H' → ∃ G', Grow T H G H' G' ∧ Rp K G' v x
  stop : ∀ (H G : Hp), Grow T H G H G → Sub G0 G → J.stop xs.length H
/-- something to walk -/
def RI (X : Cx) (T : List Addr) (W : WX) (B G0 : Hp) (Lx L : List Sl) (tg e : Expr) (m : R (List D)) : Prop :=
  ∃ t, PI X tg e t ∧ ∀ (σ : L2.St) (H G : Hp) (Q : It → Hp → Prop), At X.K T B G0 L σ H G → GP (fun _ _ G' J xs => ItOk X.K T J G' xs) X T W B G0 Lx H G m Q → t σ H Q

section
variable {X : Cx} {T : List Addr} {W : WX} {B G0 : Hp} {Lx L : List Sl}
theorem dnI {K : PySem.W.Frag} {T : List Addr} : Dn (fun _ _ G' J xs => ItOk K T J G' xs) := fun _ _ _ _ _ _ _ h => h
/-- a target -/
def RG (X : Cx) (T : List Addr) (W : WX) (B G0 : Hp) (Lx : List Sl) (tg : Expr) (g : D → List Sl → R (List Sl)) : Prop :=
  ∃ t, PG X tg t ∧ ∀ (L : List Sl) (v : V) (d : D) (σ : L2.St) (H G : Hp) (Q : L2.St → Hp → Prop), At X.K T B G0 L σ H G → Rp X.K G v d → (match g d L with | .ok L' => AtEnd X T B G0 G L' Q | .ex _ _ => False | .no => False) → t v σ H Q
theorem rg_name (i : Nat) {x : Str} {pos : Pos} (hN : X.N.Nodup) (hi : X.N[i]? = some x := by rfl) (hx : Loc X.env.scope x := by first | exact Or.inl rfl | exact Or.inr rfl) (hf : X.fn x = true ∨ X.env.scope.names.lookup x = some .local := by first | exact .inl rfl | exact .inr rfl) :
    RG X T W B G0 Lx (.Name x pos) (fun d L => .ok (L.set i (.im d))) :=
  ⟨_, pg_name hN hi hx hf, fun L v d σ H G Q A r h => h _ H G (A.setIm r) (.refl G)⟩
/-- a, b, .. = an item -/
def setsD : List (D → List Sl → R (List Sl)) → List D → List Sl → R (List Sl)
  | [], [], L => .ok L
  | g :: gs, d :: ds, L => (g d L).bind fun L' => setsD gs ds L'
  | _, _, _ => .no
def tupD : D → R (List D)
  | .tuple ds => .ok ds
  | _ => .no
def seqD : D → R (List D)
  | .tuple ds => .ok ds
  | .list ds => .ok ds
  | _ => .no
def RGs (X : Cx) (T : List Addr) (W : WX) (B G0 : Hp) (Lx : List Sl) (tgs : List Expr) (gs : List (D → List Sl → R (List Sl))) : Prop :=
  ∃ t, PGs X tgs t ∧ ∀ (L : List Sl) (vs : List V) (ds : List D) (σ : L2.St) (H G : Hp) (Q : L2.St → Hp → Prop), At X.K T B G0 L σ H G → RpA X.K G vs ds → (match setsD gs ds L with | .ok L' => AtEnd X T B G0 G L' Q | .ex _ _ => False | .no => False) → t vs σ H Q
theorem rgs_nil : RGs X T W B G0 Lx [] [] := by
  refine ⟨_, pgs_nil, fun L vs ds σ H G Q A r h => ?_⟩
  cases r with
  | nil => exact ⟨rfl, h _ H G A (.refl G)⟩
  | cons _ _ => exact h.elim
theorem rgs_cons {e : Expr} {es : List Expr} {g : D → List Sl → R (List Sl)} {gs : List (D → List Sl → R (List Sl))} (h1 : RG X T W B G0 Lx e g) (h2 : RGs X T W B G0 Lx es gs)
    (hs : (assignEach (e :: es) X.env).map (·.2) = assign e X.env :: (assignEach es X.env).map (·.2) := by rfl) : RGs X T W B G0 Lx (e :: es) (g :: gs) := by
  obtain ⟨t, p, q⟩ := h1
  obtain ⟨u, p2, q2⟩ := h2
  refine ⟨_, pgs_cons p p2 hs, fun L vs ds σ H G Q A r h => ?_⟩
  cases r with
  | nil => exact h.elim
  | @cons v vs d ds rv rs =>
    refine ⟨v, vs, rfl, q L v d σ H G _ A rv ?_⟩
    have h' : match (g d L).bind fun L' => setsD gs ds L' with | .ok L' => AtEnd X T B G0 G L' Q | .ex _ _ => False | .no => False := h
    cases e : g d L with
    | ok L1 =>
      rw [e] at h'
      intro σ1 H1 G1 A1 s1
      refine q2 L1 vs ds σ1 H1 G1 Q A1 (rs.mono s1) ?_
      have h2 : match setsD gs ds L1 with | .ok L' => AtEnd X T B G0 G L' Q | .ex _ _ => False | .no => False := h'
      cases e2 : setsD gs ds L1 with
      | ok L2 => rw [e2] at h2; exact AtEnd.later h2 s1
      | ex c fs => rw [e2] at h2; exact h2
      | no => rw [e2] at h2; exact h2
    | ex c fs => rw [e] at h'; exact h'
    | no => rw [e] at h'; exact h'
theorem rg_tup {es : List Expr} {k : Nat} {pos : Pos} {n : Nat} {gs : List (D → List Sl → R (List Sl))} (hc : X.calm = true) (h : RGs X T W B G0 Lx es gs) (hl : gs.length = n := by rfl)
    (hn : (assignEach es X.env).length = n := by rfl) (hst : (assignEach es X.env).findIdx? (·.1) = none := by rfl) : RG X T W B G0 Lx (.Tuple es k pos) (fun d L => (tupD d).bind fun ds => setsD gs ds L) := by
  obtain ⟨t, p, q⟩ := h
  refine ⟨_, pg_tup hc p hn hst, fun L v d σ H G Q A r h => ?_⟩
  cases r with
  | @tup a xs ds ha ra =>
    have h' : match setsD gs ds L with | .ok L' => AtEnd X T B G0 G L' Q | .ex _ _ => False | .no => False := h
    refine ⟨a, xs, rfl, SqT.mono A.gr.sub ha, ?_, q L xs ds σ H G Q A ra h'⟩
    have ln : ∀ (gs : List (D → List Sl → R (List Sl))) (ds : List D) (L L' : List Sl), setsD gs ds L = .ok L' → ds.length = gs.length := by
      intro gs
      induction gs with
      | nil =>
        intro ds L L' e
        cases ds with
        | nil => rfl
        | cons _ _ => cases e
      | cons g gs ih =>
        intro ds L L' e
        cases ds with
        | nil => cases e
        | cons d ds =>
          have e' : ((g d L).bind fun L' => setsD gs ds L') = .ok L' := e
          cases eg : g d L with
          | ok L1 =>
            rw [eg] at e'
            rw [List.length_cons, List.length_cons, ih ds L1 L' e']
          | ex c fs => rw [eg] at e'; cases e'
          | no => rw [eg] at e'; cases e'
    rw [ra.length]
    cases e : setsD gs ds L with
    | ok L' => rw [ln gs ds L L' e]; exact hl
    | ex c fs => rw [e] at h'; exact h'.elim
    | no => rw [e] at h'; exact h'.elim
  | _ => exact h.elim

/-- the turn of a loop over data: the target, then the body -/
structure TurnOk (X : Cx) (T : List Addr) (W : WX) (B G0 : Hp) (Lx : List Sl) {β : Type} (lb : β → List Sl) (g : D → List Sl → R (List Sl)) (sts : List Stmt) (body : D → β → R (Fl β)) : Prop where
  run : ∀ x b, (∃ L', g x (lb b) = .ok L' ∧ RB X T W B G0 Lx L' sts (body x b) (flE lb)) ∨ body x b = .no
theorem forL_step {β : Type} {body : D → β → R (Fl β)} {xs : List D} {i : Nat} {x : D} (h : xs[i]? = some x) (b : β) : forL body (xs.drop i) b = (body x b).bind fun
    | .nx b' => forL body (xs.drop (i + 1)) b'
    | .bk b' => .ok (.fin b')
    | .rt d => .ok (.rt d) := by
  obtain ⟨hi, e⟩ := List.getElem?_eq_some_iff.mp h
  rw [List.drop_eq_getElem_cons hi, e]
  rfl
theorem rs_for {β : Type} {tg iter : Expr} {sts : List Stmt} {pos : Pos} {mi : R (List D)} {lb : β → List Sl} {g : D → List Sl → R (List Sl)} {body : D → β → R (Fl β)} {b0 : β}
    (hp : PassesOwn (model X.prog X.w) X.A X.env X.xe) (hc : X.calm = true) (hi : RI X T W B G0 Lx L tg iter mi) (hg : RG X T W B G0 Lx tg g) (w : Wk L (lb b0))
    (ht : ∀ x b, ∃ L', (g x (lb b) = .ok L' ∧ RB X T W B G0 Lx L' sts (body x b) (flE lb)) ∨ body x b = .no)
    (hs : ∀ x, foldedSetIterable iter X.env x = pure x := by intro _; rfl) : RS X T W B G0 Lx L (.For tg iter sts [] pos) (mi.bind fun xs => forL body xs b0) (loE lb) := by
  obtain ⟨ti, pi, qi⟩ := hi
  obtain ⟨tg', pg, qg⟩ := hg
  -- one reading for all turns
  have hbody : ∃ u, PSs X sts u ∧ ∀ (x : D) (b : β) (L' : List Sl) (Dn : Ends) (σ : L2.St) (H G : Hp), g x (lb b) = .ok L' → body x b ≠ .no → At X.K T B G0 L' σ H G → BP X T W B G0 Lx G (flE lb) (body x b) Dn → u Dn σ H := by
    have each : ∀ p : { p : D × β // body p.1 p.2 ≠ .no }, ∃ u, PSs X sts u ∧ ∀ (L' : List Sl) (Dn : Ends) (σ : L2.St) (H G : Hp), g p.1.1 (lb p.1.2) = .ok L' → At X.K T B G0 L' σ H G → BP X T W B G0 Lx G (flE lb) (body p.1.1 p.1.2) Dn → u Dn σ H := fun ⟨⟨x, b⟩, hne⟩ => by
      obtain ⟨L', ⟨e, u, pu, qu⟩ | e⟩ := ht x b
      · refine ⟨u, pu, fun L2' Dn σ H G e2 A h => ?_⟩
        have e3 : L' = L2' := R.ok.inj (e.symm.trans e2)
        subst e3
        exact qu Dn σ H G A h
      · exact absurd e hne
    exact ⟨fun Dn σ H => ∃ p, (Classical.choose (each p)) Dn σ H, pss_ex fun p => (Classical.choose_spec (each p)).1, fun x b L' Dn σ H G e hne A h => ⟨⟨⟨x, b⟩, hne⟩, (Classical.choose_spec (each ⟨⟨x, b⟩, hne⟩)).2 L' Dn σ H G e A h⟩⟩
  obtain ⟨u, pu, qu⟩ := hbody
  refine ⟨_, ps_for hp hc pi pg pu hs, fun Dn σ H G A h => ?_⟩
  refine qi σ H G _ A ((BP.bind h).mono fun J H1 ⟨G1, xs, g1, itok, h1⟩ => ?_)
  -- the invariant: behind i turns the loop that is left
  refine ⟨fun i m σ H => ∃ b G2, m = xs.length - i ∧ i ≤ xs.length ∧ At X.K T B G0 (lb b) σ H G2 ∧ Sub G1 G2 ∧ BP X T W B G0 Lx G1 (loE lb) (forL body (xs.drop i) b) Dn, ⟨xs.length, b0, G1, by simp, Nat.zero_le _, (A.grown g1).weak w, .refl _, h1⟩, ?_⟩
  rintro i m σ2 H2 ⟨b, G2, rfl, hi, A2, s2, h2⟩
  by_cases hlt : i < xs.length
  · have hx : xs[i]? = some xs[i] := List.getElem?_eq_getElem hlt
    obtain ⟨go, yld⟩ := itok.go i _ H2 G2 A2.gr.entry s2 hx
    rw [forL_step hx] at h2
    refine .inr ⟨go, fun σ' H' => ∃ b' G3, At X.K T B G0 (lb b') σ' H' G3 ∧ Sub G1 G3 ∧ BP X T W B G0 Lx G1 (loE lb) (forL body (xs.drop (i + 1)) b') Dn, fun σ' H' ⟨b', G3, A3, s3, h3⟩ => ⟨xs.length - (i + 1), by omega, b', G3, rfl, hlt, A3, s3, h3⟩, fun v H3 hy => ?_⟩
    obtain ⟨G3, g3, rv⟩ := yld v H3 hy
    have A3 := A2.grown g3
    have hne : body xs[i] b ≠ .no := fun e => by rw [e] at h2; exact h2
    obtain ⟨L', e | e⟩ := ht xs[i] b
    · obtain ⟨e, _⟩ := e
      refine qg (lb b) v xs[i] σ2 H3 G3 _ A3 rv ?_
      rw [e]
      intro σ4 H4 G4 A4 s4
      refine qu xs[i] b L' _ σ4 H4 G4 e hne A4 ?_
      have s14 : Sub G1 G4 := s2.trans (g3.ggr.trans s4)
      cases eb : body xs[i] b with
      | ok f =>
        rw [eb] at h2
        cases f with
        | nx b' =>
          have h3 : BP X T W B G0 Lx G1 (loE lb) (forL body (xs.drop (i + 1)) b') Dn := h2
          exact ⟨fun σ5 H5 G5 A5 s5 => ⟨b', G5, A5, s14.trans s5, h3⟩, fun σ5 H5 G5 A5 s5 => ⟨b', G5, A5, s14.trans s5, h3⟩⟩
        | bk b' =>
          have h3 : EndOk X T B G0 G1 (.nx (lb b')) Dn := h2
          exact fun σ5 H5 G5 A5 s5 => h3 σ5 H5 G5 A5 (s14.trans s5)
        | rt d =>
          have h3 : EndOk X T B G0 G1 (.rt d) Dn := h2
          exact fun v5 H5 G5 A5 s5 r5 => h3 v5 H5 G5 A5 (s14.trans s5) r5
      | ex c fs => rw [eb] at h2; exact h2
      | no => exact absurd eb hne
    · exact absurd e hne
  · have e : i = xs.length := by omega
    subst e
    rw [List.drop_length] at h2
    have h3 : EndOk X T B G0 G1 (.nx (lb b)) Dn := h2
    exact .inl ⟨itok.stop H2 G2 A2.gr.entry s2, h3 σ2 H2 G2 A2 s2⟩

/-! plain loops by the general one -/
def plE {β : Type} (lb : β → List Sl) : β → Ex := fun b => .nc (lb b)
theorem forP_eq {β : Type} (body : D → β → R β) : ∀ (xs : List D) (b : β), (forP body xs b).bind (fun b => .ok (Lo.fin b)) = forL (fun x b => (body x b).bind fun b' => .ok (.nx b')) xs b
  | [], b => rfl
  | x :: xs, b => by
    show ((body x b).bind fun b' => forP body xs b').bind _ = ((body x b).bind fun b' => .ok (Fl.nx b')).bind _
    rw [R.bind_assoc, R.bind_assoc]
    congr 1
    funext b'
    exact forP_eq body xs b'
theorem RB.map {α β : Type} {sts : List Stmt} {m : R α} {f : α → β} {p1 : α → Ex} {p2 : β → Ex} (h : RB X T W B G0 Lx L sts m p1) (e : ∀ a, p2 (f a) = p1 a) : RB X T W B G0 Lx L sts (m.bind fun a => .ok (f a)) p2 := by
  obtain ⟨t, p, q⟩ := h
  refine ⟨t, p, fun Dn σ H G A h => q Dn σ H G A ?_⟩
  cases m with
  | ok a =>
    have h' : EndOk X T B G0 G (p2 (f a)) Dn := h
    rw [e] at h'
    exact h'
  | ex c fs => exact h
  | no => exact h
theorem RS.unmap {α β : Type} {st : Stmt} {m : R α} {f : α → β} {p1 : α → Ex} {p2 : β → Ex} (h : RS X T W B G0 Lx L st (m.bind fun a => .ok (f a)) p2) (e : ∀ a, p2 (f a) = p1 a) : RS X T W B G0 Lx L st m p1 := by
  obtain ⟨t, p, q⟩ := h
  refine ⟨t, p, fun Dn σ H G A h => q Dn σ H G A ?_⟩
  cases m with
  | ok a =>
    show EndOk X T B G0 G (p2 (f a)) Dn
    rw [e]
    exact h
  | ex c fs => exact h
  | no => exact h
theorem rs_forP {β : Type} {tg iter : Expr} {sts : List Stmt} {pos : Pos} {mi : R (List D)} {lb : β → List Sl} {g : D → List Sl → R (List Sl)} {body : D → β → R β} {b0 : β}
    (hp : PassesOwn (model X.prog X.w) X.A X.env X.xe) (hc : X.calm = true) (hi : RI X T W B G0 Lx L tg iter mi) (hg : RG X T W B G0 Lx tg g) (w : Wk L (lb b0))
    (ht : ∀ x b, ∃ L', (g x (lb b) = .ok L' ∧ RB X T W B G0 Lx L' sts (body x b) (plE lb)) ∨ body x b = .no)
    (hs : ∀ x, foldedSetIterable iter X.env x = pure x := by intro _; rfl) : RS X T W B G0 Lx L (.For tg iter sts [] pos) (mi.bind fun xs => forP body xs b0) (fun b => .nx (lb b)) := by
  have h := rs_for (X := X) (T := T) (W := W) (B := B) (G0 := G0) (Lx := Lx) (L := L) (pos := pos) (sts := sts) (lb := lb) (body := fun x b => (body x b).bind fun b' => .ok (.nx b')) (b0 := b0) hp hc hi hg w (fun x b => by
    obtain ⟨L', ⟨e, r⟩ | e⟩ := ht x b
    · exact ⟨L', .inl ⟨e, r.map fun _ => rfl⟩⟩
    · exact ⟨L', .inr (by rw [e]; rfl)⟩) hs
  have e : (mi.bind fun xs => forL (fun x b => (body x b).bind fun b' => .ok (Fl.nx b')) xs b0) = (mi.bind fun xs => forP body xs b0).bind fun b => .ok (Lo.fin b) := by
    rw [R.bind_assoc]
    congr 1
    funext xs
    exact (forP_eq body xs b0).symm
  rw [e] at h
  exact h.unmap fun _ => rfl
end
end DL
namespace DL
open PySem PySem.Spec PyProof.Rows L2

section
variable {X : Cx} {T : List Addr} {W : WX} {B G0 : Hp} {Lx L : List Sl}
/-! ### what is walked -/
theorem pi_or {tg e : Expr} {t t1 t2 : TE} {k1 k2 : TE → TI} (h1 : PI X tg e (k1 t)) (h2 : PI X tg e (k2 t)) : PI X tg e (fun σ H R => k1 t σ H R ∨ k2 t σ H R) := by
  refine ⟨fun pins s σ H R I h => ?_⟩
  rcases h with h | h
  · exact h1.run pins s σ H R I h
  · exact h2.run pins s σ H R I h
def iSeq (K : PySem.W.Frag) (tl : TE) : TI := fun σ H R => tl σ H fun x H1 => ∃ a, x = .ref a ∧ (((∃ xs, SqL K H1 a xs) ∧ R (Itl K a) H1) ∨ ((∃ xs, SqT K H1 a xs) ∧ R (Itt K a) H1))
theorem pi_seq {tg l : Expr} {tl : TE} (hl : PE X l tl) : PI X tg l (iSeq X.K tl) := by
  refine ⟨fun pins s σ H R I h => ?_⟩
  refine thn (hl.run pins s σ H _ I h) fun v s1 ⟨x, H1, I1, r1, a, e, q⟩ => ?_
  subst e
  cases r1
  have base : PE X l (fun σ H Q => tl σ H Q) := hl
  rcases q with ⟨⟨xs, hq⟩, q⟩ | ⟨⟨xs, hq⟩, q⟩
  · obtain ⟨its, rv, p, hz⟩ := I1.list hq
    refine wpAny_pyIter_list p.isList ?_
    refine ⟨s1.heap.objs.size, [s1.heap.objs.size], _, _, H1, rfl, I1.kept (t' := s1.toks) fun b o e => Heap.get?_push_of_some _ e, turn_list a _, ⟨_, Heap.get?_push_size _ rfl, rfl, rfl⟩, fun b hb => ?_, q⟩
    have e : b = s1.heap.objs.size := by simpa using hb
    subst e
    exact I1.fpOk (Nat.le_refl _) (I1.hok.fresh (Nat.le_refl _))
  · obtain ⟨its, rv, p, hz⟩ := I1.tuple hq
    refine wpAny_pyIter_tuple (show s1.heap.IsTuple a its.toArray from p) ?_
    refine ⟨s1.heap.objs.size, [s1.heap.objs.size], _, _, H1, rfl, I1.kept (t' := s1.toks) fun b o e => Heap.get?_push_of_some _ e, turn_tuple a _, ⟨_, Heap.get?_push_size _ rfl, rfl, rfl⟩, fun b hb => ?_, q⟩
    have e : b = s1.heap.objs.size := by simpa using hb
    subst e
    exact I1.fpOk (Nat.le_refl _) (I1.hok.fresh (Nat.le_refl _))
theorem itok_list {K : PySem.W.Frag} {a : Addr} {vs : List V} {ds : List D} {G : Hp} (h : G a = some (.lst vs)) (r : RpA K G vs ds) : ItOk K T (Itl K a) G ds where
  go := fun i x H G' g s hx => by
    obtain ⟨v, hv, rv⟩ := r.getd hx
    have q : SqL K H a vs := SqL.ofG (s.trans g.sub) h
    refine ⟨⟨vs, v, q, hv⟩, fun w H' hy => ?_⟩
    obtain ⟨e, hy⟩ := hy
    subst e
    have e2 := hy vs q
    rw [hv] at e2
    cases e2
    exact ⟨G', g.entry, rv.mono s⟩
  stop := fun H G' g s => ⟨vs, SqL.ofG (s.trans g.sub) h, by rw [r.length]; exact Nat.le_refl _⟩
theorem itok_tup {K : PySem.W.Frag} {a : Addr} {vs : List V} {ds : List D} {G : Hp} (h : SqT K G a vs) (r : RpA K G vs ds) : ItOk K T (Itt K a) G ds where
  go := fun i x H G' g s hx => by
    obtain ⟨v, hv, rv⟩ := r.getd hx
    have q : SqT K H a vs := SqT.mono (s.trans g.sub) h
    refine ⟨⟨vs, v, q, hv⟩, fun w H' hy => ?_⟩
    obtain ⟨e, hy⟩ := hy
    subst e
    have e2 := hy vs q
    rw [hv] at e2
    cases e2
    exact ⟨G', g.entry, rv.mono s⟩
  stop := fun H G' g s => ⟨vs, SqT.mono (s.trans g.sub) h, by rw [r.length]; exact Nat.le_refl _⟩
theorem ri_seq {tg e : Expr} {m : R D} (h : RE X T W B G0 Lx L e m) : RI X T W B G0 Lx L tg e (m.bind seqD) := by
  obtain ⟨t, p, q⟩ := h
  refine ⟨_, pi_seq p, fun σ H G Q A h => ?_⟩
  refine q σ H G _ A ((GP.bind dnI h).mono fun v H1 ⟨G1, d, g1, r1, h1⟩ => ?_)
  cases r1 with
  | @lst a vs ds ha ra => exact ⟨a, rfl, .inl ⟨⟨vs, SqL.ofG g1.sub ha⟩, h1 _ H1 G1 g1.entry (itok_list ha ra)⟩⟩
  | @tup a vs ds ha ra => exact ⟨a, rfl, .inr ⟨⟨vs, SqT.mono g1.sub ha⟩, h1 _ H1 G1 g1.entry (itok_tup ha ra)⟩⟩
  | _ => exact h1.elim
/-- a range -/
def rngD (lo : Int) (n : Nat) : List D := (List.range n).map fun (k : Nat) => PyData.int (lo + k)
theorem rngD_get {lo : Int} {n i : Nat} {x : D} (h : (rngD lo n)[i]? = some x) : i < n ∧ x = .int (lo + i) := by
  unfold rngD at h
  rw [List.getElem?_map] at h
  by_cases hi : i < n
  · rw [List.getElem?_range hi] at h
    exact ⟨hi, (Option.some.inj h).symm⟩
  · rw [List.getElem?_eq_none_iff.mpr (by rw [List.length_range]; omega)] at h
    cases h
theorem itok_rng {K : PySem.W.Frag} {lo : Int} {n : Nat} {G : Hp} : ItOk K T (Itr lo n) G (rngD lo n) where
  go := fun i x H G' g s hx => by
    obtain ⟨hi, rfl⟩ := rngD_get hx
    refine ⟨hi, fun w H' hy => ?_⟩
    obtain ⟨e, e2⟩ := hy
    subst e
    subst e2
    exact ⟨G', g.entry, .int _⟩
  stop := fun H G' g s => by
    show n ≤ (rngD lo n).length
    unfold rngD
    rw [List.length_map, List.length_range]
    exact Nat.le_refl _
def In62 (j : Int) : Prop := -(2 ^ 62) ≤ j ∧ j < 2 ^ 62
noncomputable instance (j : Int) : Decidable (In62 j) := Classical.propDecidable _
noncomputable def rng1 : D → R (List D)
  | .int j => if In62 j then .ok (rngD 0 j.toNat) else .no
  | _ => .no
noncomputable def rng2 : D → D → R (List D)
  | .int i, .int j => if In62 i ∧ In62 j then .ok (rngD i (j - i).toNat) else .no
  | _, _ => .no
theorem ri_rng1 {tg a : Expr} {m : R D} {p pos : Pos} (hm : X.mg "range" = none) (h : RE X T W B G0 Lx L a m) (hg : Gl X "range" := by rfl) (hs : starEach [a] X.env = [(false, eval a X.env)] := by rfl) :
    RI X T W B G0 Lx L tg (.Call (.Name "range" p) [a] [] pos) (m.bind rng1) := by
  obtain ⟨t, pa, q⟩ := h
  refine ⟨_, pi_range1 hg hm (pa_cons pa pa_nil hs) hs, fun σ H G Q A h => ?_⟩
  refine q σ H G _ A ((GP.bind dnI h).mono fun v H1 ⟨G1, d, g1, r1, h1⟩ => ?_)
  cases r1 with
  | int j =>
    obtain ⟨⟨z1, z2⟩, h1⟩ := GP.gd (c := In62 j) h1
    exact ⟨j, rfl, z1, z2, h1 _ H1 G1 g1.entry itok_rng⟩
  | _ => exact h1.elim
theorem ri_rng2 {tg a b : Expr} {m k : R D} {p pos : Pos} (hm : X.mg "range" = none) (h : RE X T W B G0 Lx L a m) (h2 : RE X T W B G0 Lx L b k) (hg : Gl X "range" := by rfl) (hs : starEach [a, b] X.env = [(false, eval a X.env), (false, eval b X.env)] := by rfl)
    (hs2 : starEach [b] X.env = [(false, eval b X.env)] := by rfl) (hs3 : starEach [a, b] X.env = (false, eval a X.env) :: starEach [b] X.env := by rfl) (hs4 : starEach [b] X.env = (false, eval b X.env) :: starEach [] X.env := by rfl) :
    RI X T W B G0 Lx L tg (.Call (.Name "range" p) [a, b] [] pos) (m.bind fun x => k.bind fun y => rng2 x y) := by
  obtain ⟨t, pa, q⟩ := h
  obtain ⟨u, pb, q2⟩ := h2
  refine ⟨_, pi_range2 hg hm (pa_cons pa (pa_cons pb pa_nil hs4) hs3) hs hs2, fun σ H G Q A h => ?_⟩
  refine q σ H G _ A ((GP.bind dnI h).mono fun v H1 ⟨G1, d, g1, r1, h1⟩ => q2 σ H1 G1 _ (A.grown g1) ((GP.bind dnI h1).mono fun w H2 ⟨G2, e, g2, r2, h2⟩ => ?_))
  have r1' := r1.mono g2.ggr
  cases r1' with
  | int i =>
    cases r2 with
    | int j =>
      obtain ⟨⟨⟨z1, z2⟩, z3, z4⟩, h3⟩ := GP.gd (c := In62 i ∧ In62 j) h2
      exact ⟨i, j, rfl, ⟨z1, z2, z3, z4⟩, h3 _ H2 G2 g2.entry itok_rng⟩
    | _ => exact h2.elim
  | _ => exact h2.elim

/-! ### loops by the form of their target -/
def t2 {α : Type} (f : D → D → R α) : D → R α
  | .tuple [a, b] => f a b
  | _ => .no
def t3 {α : Type} (f : D → D → D → R α) : D → R α
  | .tuple [a, b, c] => f a b c
  | _ => .no
def t4 {α : Type} (f : D → D → D → D → R α) : D → R α
  | .tuple [a, b, c, d] => f a b c d
  | _ => .no
@[simp] theorem t2_tup {α : Type} (f : D → D → R α) (a b : D) : t2 f (.tuple [a, b]) = f a b := rfl
@[simp] theorem t3_tup {α : Type} (f : D → D → D → R α) (a b c : D) : t3 f (.tuple [a, b, c]) = f a b c := rfl
@[simp] theorem t4_tup {α : Type} (f : D → D → D → D → R α) (a b c d : D) : t4 f (.tuple [a, b, c, d]) = f a b c d := rfl
theorem t2_cases {α : Type} (f : D → D → R α) (x : D) : (∃ a b, x = .tuple [a, b]) ∨ t2 f x = .no := by
  unfold t2
  split
  · exact .inl ⟨_, _, rfl⟩
  · exact .inr rfl
theorem t3_cases {α : Type} (f : D → D → D → R α) (x : D) : (∃ a b c, x = .tuple [a, b, c]) ∨ t3 f x = .no := by
  unfold t3
  split
  · exact .inl ⟨_, _, _, rfl⟩
  · exact .inr rfl
theorem t4_cases {α : Type} (f : D → D → D → D → R α) (x : D) : (∃ a b c d, x = .tuple [a, b, c, d]) ∨ t4 f x = .no := by
  unfold t4
  split
  · exact .inl ⟨_, _, _, _, rfl⟩
  · exact .inr rfl
section
variable {β : Type} {iter : Expr} {sts : List Stmt} {pos pt : Pos} {mi : R (List D)} {lb : β → List Sl} {b0 : β}
theorem rs_forN (i : Nat) {x : Str} {body : D → β → R (Fl β)} (hp : PassesOwn (model X.prog X.w) X.A X.env X.xe) (hc : X.calm = true) (hN : X.N.Nodup) (hi : RI X T W B G0 Lx L (.Name x pt) iter mi) (w : Wk L (lb b0))
    (ht : ∀ d b, RB X T W B G0 Lx ((lb b).set i (.im d)) sts (body d b) (flE lb)) (hx : X.N[i]? = some x := by rfl) (hl : Loc X.env.scope x := by first | exact Or.inl rfl | exact Or.inr rfl) (hf : X.fn x = true ∨ X.env.scope.names.lookup x = some .local := by first | exact .inl rfl | exact .inr rfl)
    (hs : ∀ x, foldedSetIterable iter X.env x = pure x := by intro _; rfl) : RS X T W B G0 Lx L (.For (.Name x pt) iter sts [] pos) (mi.bind fun xs => forL body xs b0) (loE lb) :=
  rs_for hp hc hi (rg_name i hN hx hl hf) w (fun d b => ⟨_, .inl ⟨rfl, ht d b⟩⟩) hs
theorem rs_forNP (i : Nat) {x : Str} {body : D → β → R β} (hp : PassesOwn (model X.prog X.w) X.A X.env X.xe) (hc : X.calm = true) (hN : X.N.Nodup) (hi : RI X T W B G0 Lx L (.Name x pt) iter mi) (w : Wk L (lb b0))
    (ht : ∀ d b, RB X T W B G0 Lx ((lb b).set i (.im d)) sts (body d b) (plE lb)) (hx : X.N[i]? = some x := by rfl) (hl : Loc X.env.scope x := by first | exact Or.inl rfl | exact Or.inr rfl) (hf : X.fn x = true ∨ X.env.scope.names.lookup x = some .local := by first | exact .inl rfl | exact .inr rfl)
    (hs : ∀ x, foldedSetIterable iter X.env x = pure x := by intro _; rfl) : RS X T W B G0 Lx L (.For (.Name x pt) iter sts [] pos) (mi.bind fun xs => forP body xs b0) (fun b => .nx (lb b)) :=
  rs_forP hp hc hi (rg_name i hN hx hl hf) w (fun d b => ⟨_, .inl ⟨rfl, ht d b⟩⟩) hs
/-- a tuple of names as a target -/
abbrev gN (i : Nat) : D → List Sl → R (List Sl) := fun d L => .ok (L.set i (.im d))
theorem rs_forT2 (i j : Nat) {tg : Expr} {body : D → D → β → R (Fl β)} (hp : PassesOwn (model X.prog X.w) X.A X.env X.xe) (hc : X.calm = true) (hi : RI X T W B G0 Lx L tg iter mi) (hg : RG X T W B G0 Lx tg (fun d L => (tupD d).bind fun ds => setsD [gN i, gN j] ds L)) (w : Wk L (lb b0))
    (ht : ∀ a c b, RB X T W B G0 Lx (((lb b).set i (.im a)).set j (.im c)) sts (body a c b) (flE lb)) (hs : ∀ x, foldedSetIterable iter X.env x = pure x := by intro _; rfl) :
    RS X T W B G0 Lx L (.For tg iter sts [] pos) (mi.bind fun xs => forL (fun x b => t2 (fun a c => body a c b) x) xs b0) (loE lb) := by
  refine rs_for hp hc hi hg w (fun x b => ?_) hs
  rcases t2_cases (fun a c => body a c b) x with ⟨a, c, rfl⟩ | e
  · exact ⟨_, .inl ⟨rfl, ht a c b⟩⟩
  · exact ⟨[], .inr e⟩
theorem rs_forT2P (i j : Nat) {tg : Expr} {body : D → D → β → R β} (hp : PassesOwn (model X.prog X.w) X.A X.env X.xe) (hc : X.calm = true) (hi : RI X T W B G0 Lx L tg iter mi) (hg : RG X T W B G0 Lx tg (fun d L => (tupD d).bind fun ds => setsD [gN i, gN j] ds L)) (w : Wk L (lb b0))
    (ht : ∀ a c b, RB X T W B G0 Lx (((lb b).set i (.im a)).set j (.im c)) sts (body a c b) (plE lb)) (hs : ∀ x, foldedSetIterable iter X.env x = pure x := by intro _; rfl) :
    RS X T W B G0 Lx L (.For tg iter sts [] pos) (mi.bind fun xs => forP (fun x b => t2 (fun a c => body a c b) x) xs b0) (fun b => .nx (lb b)) := by
  refine rs_forP hp hc hi hg w (fun x b => ?_) hs
  rcases t2_cases (fun a c => body a c b) x with ⟨a, c, rfl⟩ | e
  · exact ⟨_, .inl ⟨rfl, ht a c b⟩⟩
  · exact ⟨[], .inr e⟩
theorem rs_forT3 (i j k : Nat) {tg : Expr} {body : D → D → D → β → R (Fl β)} (hp : PassesOwn (model X.prog X.w) X.A X.env X.xe) (hc : X.calm = true) (hi : RI X T W B G0 Lx L tg iter mi) (hg : RG X T W B G0 Lx tg (fun d L => (tupD d).bind fun ds => setsD [gN i, gN j, gN k] ds L)) (w : Wk L (lb b0))
    (ht : ∀ a c d b, RB X T W B G0 Lx ((((lb b).set i (.im a)).set j (.im c)).set k (.im d)) sts (body a c d b) (flE lb)) (hs : ∀ x, foldedSetIterable iter X.env x = pure x := by intro _; rfl) :
    RS X T W B G0 Lx L (.For tg iter sts [] pos) (mi.bind fun xs => forL (fun x b => t3 (fun a c d => body a c d b) x) xs b0) (loE lb) := by
  refine rs_for hp hc hi hg w (fun x b => ?_) hs
  rcases t3_cases (fun a c d => body a c d b) x with ⟨a, c, d, rfl⟩ | e
  · exact ⟨_, .inl ⟨rfl, ht a c d b⟩⟩
  · exact ⟨[], .inr e⟩
theorem rs_forT3P (i j k : Nat) {tg : Expr} {body : D → D → D → β → R β} (hp : PassesOwn (model X.prog X.w) X.A X.env X.xe) (hc : X.calm = true) (hi : RI X T W B G0 Lx L tg iter mi) (hg : RG X T W B G0 Lx tg (fun d L => (tupD d).bind fun ds => setsD [gN i, gN j, gN k] ds L)) (w : Wk L (lb b0))
    (ht : ∀ a c d b, RB X T W B G0 Lx ((((lb b).set i (.im a)).set j (.im c)).set k (.im d)) sts (body a c d b) (plE lb)) (hs : ∀ x, foldedSetIterable iter X.env x = pure x := by intro _; rfl) :
    RS X T W B G0 Lx L (.For tg iter sts [] pos) (mi.bind fun xs => forP (fun x b => t3 (fun a c d => body a c d b) x) xs b0) (fun b => .nx (lb b)) := by
  refine rs_forP hp hc hi hg w (fun x b => ?_) hs
  rcases t3_cases (fun a c d => body a c d b) x with ⟨a, c, d, rfl⟩ | e
  · exact ⟨_, .inl ⟨rfl, ht a c d b⟩⟩
  · exact ⟨[], .inr e⟩
end

/-! ### while -/
/-- one turn: the test, then the body -/
def whT {β : Type} (c : β → R Bool) (body : β → R (Fl β)) (b : β) : R (Fl β) := (c b).bind fun t => if t = true then body b else .ok (.bk b)
def whN {β : Type} (c : β → R Bool) (body : β → R (Fl β)) : Nat → β → Option (R (Lo β))
  | 0, _ => none
  | n + 1, b => match whT c body b with
    | .ok (.nx b') => whN c body n b'
    | .ok (.bk b') => some (.ok (.fin b'))
    | .ok (.rt d) => some (.ok (.rt d))
    | .ex e fs => some (.ex e fs)
    | .no => some .no
open Classical in
/-- what the loop comes to, if it comes to an end -/
noncomputable def whL {β : Type} (c : β → R Bool) (body : β → R (Fl β)) (b : β) : R (Lo β) :=
  if h : ∃ r, ∃ n, whN c body n b = some r then h.choose else .no
theorem whN_mono {β : Type} {c : β → R Bool} {body : β → R (Fl β)} : ∀ {n : Nat} {b : β} {r : R (Lo β)}, whN c body n b = some r → ∀ m, n ≤ m → whN c body m b = some r
  | 0, b, r, h, m, hm => by cases h
  | n + 1, b, r, h, m, hm => by
    obtain ⟨k, rfl⟩ : ∃ k, m = k + 1 := ⟨m - 1, by omega⟩
    unfold whN at h ⊢
    cases e : whT c body b with
    | ok f =>
      rw [e] at h
      cases f with
      | nx b' => exact whN_mono h k (by omega)
      | bk b' => exact h
      | rt d => exact h
    | ex x fs => rw [e] at h; exact h
    | no => rw [e] at h; exact h
theorem whL_eq {β : Type} {c : β → R Bool} {body : β → R (Fl β)} {n : Nat} {b : β} {r : R (Lo β)} (h : whN c body n b = some r) : whL c body b = r := by
  unfold whL
  have hex : ∃ r, ∃ n, whN c body n b = some r := ⟨r, n, h⟩
  rw [dif_pos hex]
  obtain ⟨m, hm⟩ := hex.choose_spec
  have h1 := whN_mono h (max n m) (Nat.le_max_left _ _)
  have h2 := whN_mono hm (max n m) (Nat.le_max_right _ _)
  rw [h1] at h2
  exact (Option.some.inj h2).symm
/-- the loop turned once -/
theorem whL_turn {β : Type} (c : β → R Bool) (body : β → R (Fl β)) (b : β) : whL c body b = (whT c body b).bind fun
    | .nx b' => whL c body b'
    | .bk b' => .ok (.fin b')
    | .rt d => .ok (.rt d) := by
  cases e : whT c body b with
  | ok f =>
    cases f with
    | nx b' =>
      show whL c body b = whL c body b'
      by_cases hex : ∃ r, ∃ n, whN c body n b' = some r
      · obtain ⟨r, n, hn⟩ := hex
        rw [whL_eq hn]
        exact whL_eq (n := n + 1) (by unfold whN; rw [e]; exact hn)
      · have hn : ¬ ∃ r, ∃ n, whN c body n b = some r := fun ⟨r, n, hn⟩ => by
          cases n with
          | zero => cases hn
          | succ n =>
            unfold whN at hn
            rw [e] at hn
            exact hex ⟨r, n, hn⟩
        unfold whL
        rw [dif_neg hex, dif_neg hn]
    | bk b' => exact whL_eq (n := 1) (by unfold whN; rw [e]; rfl)
    | rt d => exact whL_eq (n := 1) (by unfold whN; rw [e]; rfl)
  | ex x fs => exact whL_eq (n := 1) (by unfold whN; rw [e]; rfl)
  | no => exact whL_eq (n := 1) (by unfold whN; rw [e]; rfl)
theorem rs_while {β : Type} {c : Expr} {sts : List Stmt} {pos : Pos} {lb : β → List Sl} {mc : β → R Bool} {body : β → R (Fl β)} {b0 : β} (hp : PassesOwn (model X.prog X.w) X.A X.env X.xe) (w : Wk L (lb b0))
    (hc : ∀ b, RT X T W B G0 Lx (lb b) c (mc b)) (ht : ∀ b, RB X T W B G0 Lx (lb b) sts (body b) (flE lb)) : RS X T W B G0 Lx L (.While c sts [] pos) (whL mc body b0) (loE lb) := by
  have hcs : ∃ u, PT X c u ∧ ∀ (b : β) (σ : L2.St) (H G : Hp) (Q : Bool → Hp → Prop), At X.K T B G0 (lb b) σ H G → GP rT X T W B G0 Lx H G (mc b) Q → u σ H Q := by
    refine ⟨fun σ H Q => ∃ b, (Classical.choose (hc b)) σ H Q, ⟨fun pins s σ H Q I ⟨b, q⟩ => (Classical.choose_spec (hc b)).1.run pins s σ H Q I q⟩, fun b σ H G Q A q => ⟨b, (Classical.choose_spec (hc b)).2 σ H G Q A q⟩⟩
  obtain ⟨tc, pc, qc⟩ := hcs
  obtain ⟨tb, pb, qb⟩ := RB.all (L := lb) (k := body) (pst := flE lb) ht
  refine ⟨_, ps_while hp pc pb, fun Dn σ H G A h => ?_⟩
  by_cases hex : ∃ r, ∃ n, whN mc body n b0 = some r
  · obtain ⟨r, n, hn⟩ := hex
    rw [whL_eq hn] at h
    refine ⟨fun m σ H => ∃ b G2, At X.K T B G0 (lb b) σ H G2 ∧ Sub G G2 ∧ whN mc body m b = some r, ⟨n, b0, G, A.weak w, .refl _, hn⟩, ?_⟩
    rintro m σ2 H2 ⟨b, G2, A2, s2, hm⟩
    cases m with
    | zero => cases hm
    | succ m =>
      refine qc b σ2 H2 G2 _ A2 ?_
      unfold whN whT at hm
      cases e : mc b with
      | ok t =>
        rw [e] at hm
        intro t' H3 G3 g3 et
        subst et
        cases t' with
        | true =>
          rw [if_pos rfl]
          have hm : (match body b with | .ok (.nx b') => whN mc body m b' | .ok (.bk b') => some (.ok (.fin b')) | .ok (.rt d) => some (.ok (.rt d)) | .ex e fs => some (.ex e fs) | .no => some .no) = some r := hm
          refine ⟨fun σ' H' => ∃ b' G4, At X.K T B G0 (lb b') σ' H' G4 ∧ Sub G G4 ∧ whN mc body m b' = some r, fun σ' H' ⟨b', G4, A4, s4, h4⟩ => ⟨m, Nat.lt_succ_self m, b', G4, A4, s4, h4⟩, ?_⟩
          refine qb b _ σ2 H3 G3 (A2.grown g3) ?_
          have s3 := s2.trans g3.ggr
          cases eb : body b with
          | ok f =>
            rw [eb] at hm
            cases f with
            | nx b' => exact ⟨fun σ5 H5 G5 A5 s5 => ⟨b', G5, A5, s3.trans s5, hm⟩, fun σ5 H5 G5 A5 s5 => ⟨b', G5, A5, s3.trans s5, hm⟩⟩
            | bk b' =>
              have e2 := Option.some.inj hm
              subst e2
              exact fun σ5 H5 G5 A5 s5 => h σ5 H5 G5 A5 (s3.trans s5)
            | rt d =>
              have e2 := Option.some.inj hm
              subst e2
              exact fun v5 H5 G5 A5 s5 r5 => h v5 H5 G5 A5 (s3.trans s5) r5
          | ex x fs =>
            rw [eb] at hm
            have e2 := Option.some.inj hm
            subst e2
            exact h
          | no =>
            rw [eb] at hm
            have e2 := Option.some.inj hm
            subst e2
            exact h
        | false =>
          rw [if_neg Bool.false_ne_true]
          have e2 := Option.some.inj hm
          subst e2
          exact h σ2 H3 G3 (A2.grown g3) (s2.trans g3.ggr)
      | ex x fs =>
        rw [e] at hm
        have e2 := Option.some.inj hm
        subst e2
        exact h
      | no =>
        rw [e] at hm
        have e2 := Option.some.inj hm
        subst e2
        exact h
  · unfold whL at h
    rw [dif_neg hex] at h
    exact h.elim
end
end DL
namespace DL
open PySem PySem.Spec PyProof.Rows L2

/-! ### defs -/
/-- what a caller wants of a def that gives m -/
def FP (K : PySem.W.Frag) (T : List Addr) (mg : Str → Option Value) (H G : Hp) (m : R D) (Q : VK) (E : XK) : Prop :=
  match m with
  | .ok d => ∀ v H' G', Grow T H G H' G' → Rp K G' v d → Q v H'
  | .ex c fs => ∀ (C dx : Addr) (vfs : List (Str × V)) (H' G' : Hp), mg c = some (.ref C) → Grow T H G H' G' → H' dx = some (.xd vfs) → FR K G' vfs fs → E (.ref C) (some dx) H'
  | .no => False
/-- THE PROMISE of a def over data: n arguments, f what it gives -/
def spM (K : PySem.W.Frag) (T : List Addr) (mg : Str → Option Value) (n : Nat) (f : List D → R D) : Sp := fun vs H Q E =>
  ∃ ds G, ds.length = n ∧ Grow T H G H G ∧ RpA K G vs ds ∧ FP K T mg H G (f ds) Q E
/-- .. whose first argument is the script -/
def spS (K : PySem.W.Frag) (T : List Addr) (mg : Str → Option Value) (n : Nat) (f : List Int → List D → R D) : Sp := fun vs H Q E =>
  ∃ a us ns ds G, vs = .ref a :: us ∧ SqL K H a (ns.map V.int) ∧ ds.length = n ∧ Grow T H G H G ∧ RpA K G us ds ∧ FP K T mg H G (f ns ds) Q E

section
variable {P : Program} {w : World} {K : PySem.W.Frag} {mg : Str → Option Value} {base : Heap} {T : List Addr}
/-- a def that is called by its name -/
structure Cal (P : Program) (w : World) (K : PySem.W.Frag) (mg : Str → Option Value) (base : Heap) (T : List Addr) (x : Str) (n j : Nat) (ml : List D → R D) : Prop where
  ex : ∃ f fd ps, FnOk P w K mg base (L2.CX P w) j f fd ps (spM K T mg n ml) ∧ mg x = some (.ref f) ∧ PySem.W.keepIn K (.ref f) = true ∧ Binds K fd ps []
  ln : ∀ ds, ml ds ≠ .no → ds.length = n
structure CalS (P : Program) (w : World) (K : PySem.W.Frag) (mg : Str → Option Value) (base : Heap) (T : List Addr) (x : Str) (n j : Nat) (ml : List Int → List D → R D) : Prop where
  ex : ∃ f fd ps, FnOk P w K mg base (L2.CX P w) j f fd ps (spS K T mg n ml) ∧ mg x = some (.ref f) ∧ PySem.W.keepIn K (.ref f) = true ∧ Binds K fd ps []
  ln : ∀ ns ds, ml ns ds ≠ .no → ds.length = n
/-- the body's reading, from what is claimed of it -/
theorem fn_body {N : List Str} {qual : Str} {st : Stmt} {f : Addr} {cdv : Value} {A : Around} {outer : List Env} {s : Shared} {H G : Hp} {vs : List V} {Q : VK} {E : XK} {L0 : List Sl} {m : R D}
    (A0 : At K T H G L0 (start N vs) H G) (rb : RB (cxOf (L2.CX P w) P w K mg base N qual (defScope st) f cdv A outer s H E) T (fun cls d _ H => E cls d H) H G (noL N.length) L0 (defBody st) m Ex.rn) (fp : FP K T mg H G m Q E) :
    ∃ t, PSs (cxOf (L2.CX P w) P w K mg base N qual (defScope st) f cdv A outer s H E) (defBody st) t ∧ t { nx := fun _ H' => Q .non H', rt := Q } (start N vs) H := by
  obtain ⟨t, p, q⟩ := rb
  refine ⟨t, p, q _ _ _ _ A0 ?_⟩
  cases m with
  | ok d =>
    refine ⟨fun v H' G' g s r => fp v H' G' g r, fun e σ H' G' g s => ?_⟩
    subst e
    exact fp .non H' G' g .non
  | ex c fs => exact fun C dx vfs σ H' G' e A h r => fp C dx vfs H' G' e A.gr h r
  | no => exact fp.elim
def ims (ds : List D) : List Sl := ds.map .im
theorem at_start {N : List Str} {H G : Hp} {vs : List V} {ds : List D} (g : Grow T H G H G) (r : RpA K G vs ds) (hl : ds.length ≤ N.length) : At K T H G (ims ds ++ noL (N.length - ds.length)) (start N vs) H G := by
  have len : vs.length = ds.length := r.length
  refine ⟨g, ?_, fun i s hs => ?_, fun i j a o1 o2 => ?_⟩
  · unfold L2.start ims noL
    simp only [List.length_append, List.length_map, List.length_replicate]
    rw [len]
  · by_cases hi : i < ds.length
    · rw [List.getElem?_append_left (by unfold ims; rw [List.length_map]; exact hi)] at hs
      unfold ims at hs
      rw [List.getElem?_map, List.getElem?_eq_getElem hi] at hs
      have e : s = .im ds[i] := (Option.some.inj hs).symm
      subst e
      obtain ⟨v, hv, rv⟩ := r.getd (List.getElem?_eq_getElem hi)
      refine ⟨v, ?_, rv⟩
      unfold L2.start
      rw [List.getElem?_append_left (by rw [List.length_map, len]; exact hi), List.getElem?_map, hv]
      rfl
    · rw [List.getElem?_append_right (by unfold ims; rw [List.length_map]; omega)] at hs
      unfold noL at hs
      rw [List.getElem?_replicate] at hs
      split at hs
      · have e := (Option.some.inj hs).symm
        subst e
        trivial
      · cases hs
  · obtain ⟨⟨s, hs, ho⟩, _⟩ := o1
    by_cases hi : i < ds.length
    · rw [List.getElem?_append_left (by unfold ims; rw [List.length_map]; exact hi)] at hs
      unfold ims at hs
      rw [List.getElem?_map, List.getElem?_eq_getElem hi] at hs
      have e : s = .im ds[i] := (Option.some.inj hs).symm
      subst e
      cases ho
    · rw [List.getElem?_append_right (by unfold ims; rw [List.length_map]; omega)] at hs
      unfold noL at hs
      rw [List.getElem?_replicate] at hs
      split at hs
      · have e := (Option.some.inj hs).symm
        subst e
        cases ho
      · cases hs
/-- the script in slot 0, the other arguments behind it -/
theorem at_startS {N : List Str} {H G : Hp} {a : Addr} {us : List V} {ds : List D} (g : Grow T H G H G) (r : RpA K G us ds) (hl : ds.length + 1 ≤ N.length) : At K T H G (.raw (.ref a) :: (ims ds ++ noL (N.length - (ds.length + 1)))) (start N (.ref a :: us)) H G := by
  have A1 := at_start (N := N.drop 1) g r (by rw [List.length_drop]; omega)
  have es : start N (.ref a :: us) = some (.ref a) :: start (N.drop 1) us := by
    unfold L2.start
    rw [List.map_cons, List.length_cons, List.length_drop, List.cons_append]
    congr 3
    omega
  have en : (N.drop 1).length - ds.length = N.length - (ds.length + 1) := by rw [List.length_drop]; omega
  rw [en] at A1
  rw [es]
  refine ⟨g, by rw [List.length_cons, List.length_cons, A1.len], fun i s hs => ?_, fun i j b o1 o2 => ?_⟩
  · cases i with
    | zero =>
      have e : s = .raw (.ref a) := (Option.some.inj hs).symm
      subst e
      exact (show (some (V.ref a) :: start (N.drop 1) us)[0]? = some (some (V.ref a)) from rfl)
    | succ i =>
      have z := A1.sl i s hs
      cases s <;> exact z
  · have no0 : ∀ {b : Addr}, ¬ OwnAt (.raw (.ref a) :: (ims ds ++ noL (N.length - (ds.length + 1)))) (some (.ref a) :: start (N.drop 1) us) 0 b := fun {b} o => by
      obtain ⟨⟨s, hs, ho⟩, _⟩ := o
      have e : s = .raw (.ref a) := (Option.some.inj hs).symm
      subst e
      cases ho
    cases i with
    | zero => exact absurd o1 no0
    | succ i =>
      cases j with
      | zero => exact absurd o2 no0
      | succ j => exact congrArg (· + 1) (A1.dis i j b o1 o2)
/-- THE RULE for a def over data -/
theorem fn_ok {x qual : Str} {st : Stmt} {f : Addr} {fd : FuncData} {N ps : List Str} {k n : Nat} {ml : List D → R D} (F : Fun K x qual st f fd) (S : FnScope N ps (defScope st)) (hn : ps.length = n) (hN : n ≤ N.length)
    (hb : ∀ (cdv : Value) (A : Around) (outer : List Env) (s : Shared) (H G : Hp) (E : XK) (ds : List D), Room k (A.deeper (envOfC qual (defScope st) s.heap.objs.size f cdv)) → ds.length = n → ml ds ≠ .no →
      RB (cxOf (L2.CX P w) P w K mg base N qual (defScope st) f cdv A outer s H E) T (fun cls d _ H => E cls d H) H G (noL N.length) (ims ds ++ noL (N.length - ds.length)) (defBody st) (ml ds) Ex.rn) :
    FnOk P w K mg base (L2.CX P w) (k + 1) f fd ps (spM K T mg n ml) := by
  refine F.okX S (fun vs H Q E h => ?_) fun cdv A outer s H vs Q E hr h => ?_
  · obtain ⟨ds, G, hl, _, r, _⟩ := h
    rw [r.length, hl, hn]
  · obtain ⟨ds, G, hl, g, r, fp⟩ := h
    exact fn_body (at_start g r (by omega)) (hb cdv A outer s H G E ds hr hl (fun e => by rw [e] at fp; exact fp)) fp
theorem fn_okS {x qual : Str} {st : Stmt} {f : Addr} {fd : FuncData} {N ps : List Str} {k n : Nat} {ml : List Int → List D → R D} (F : Fun K x qual st f fd) (S : FnScope N ps (defScope st)) (hn : ps.length = n + 1) (hN : n + 1 ≤ N.length)
    (hb : ∀ (cdv : Value) (A : Around) (outer : List Env) (s : Shared) (H G : Hp) (E : XK) (a : Addr) (ns : List Int) (ds : List D), Room k (A.deeper (envOfC qual (defScope st) s.heap.objs.size f cdv)) → ds.length = n → ml ns ds ≠ .no → SqL K H a (ns.map V.int) →
      RB (cxOf (L2.CX P w) P w K mg base N qual (defScope st) f cdv A outer s H E) T (fun cls d _ H => E cls d H) H G (noL N.length) (.raw (.ref a) :: (ims ds ++ noL (N.length - (ds.length + 1)))) (defBody st) (ml ns ds) Ex.rn) :
    FnOk P w K mg base (L2.CX P w) (k + 1) f fd ps (spS K T mg n ml) := by
  refine F.okX S (fun vs H Q E h => ?_) fun cdv A outer s H vs Q E hr h => ?_
  · obtain ⟨a, us, ns, ds, G, rfl, _, hl, _, r, _⟩ := h
    rw [List.length_cons, r.length, hl, hn]
  · obtain ⟨a, us, ns, ds, G, rfl, hS, hl, g, r, fp⟩ := h
    exact fn_body (at_startS g r (by omega)) (hb cdv A outer s H G E a ns ds hr hl (fun e => by rw [e] at fp; exact fp) hS) fp
end

section
variable {X : Cx} {T : List Addr} {W : WX} {B G0 : Hp} {Lx L : List Sl}
/-- what the callee's promise wants, from what is wanted here -/
theorem fp_of {H G : Hp} {m : R D} {Q : VK} {σ : L2.St} (A : At X.K T B G0 L σ H G) (wk : Wk L Lx) (h : GP (rE X.K) X T W B G0 Lx H G m Q) : FP X.K T X.mg H G m Q (WE W σ) := by
  cases m with
  | ok d => exact fun v H' G' g r => h v H' G' g r
  | ex c fs => exact fun C dx vfs H' G' e g hd r => h C dx vfs σ H' G' e ((A.grown g).weak wk) hd r
  | no => exact h
/-- f(e, ..) -/
theorem re_call {x : Str} {n j k : Nat} {ml : List D → R D} {e : Expr} {es : List Expr} {m : R (List D)} {p pos : Pos} (c : Cal X.prog X.w X.K X.mg X.base T x n j ml) (hr : Room k X.A) (hk : j ≤ k) (tk : Takes X W) (wk : Wk L Lx)
    (ha : RA X T W B G0 Lx L (e :: es) m) (hg : Gl X x := by rfl) (hdb : (x == ("__debug__" : Str)) = false := by decide)
    (he : starEach (e :: es) X.env = (false, eval e X.env) :: starEach es X.env := by rfl) (hpl : (backTo pos (starEach es X.env)).any (·.1) = false := by rfl) :
    RE X T W B G0 Lx L (.Call (.Name x p) (e :: es) [] pos) (m.bind ml) := by
  obtain ⟨f, fd, ps, F, hm, kp, hb⟩ := c.ex
  obtain ⟨t, pa, la, q⟩ := ha
  refine ⟨_, pe_callS F (hr.mono hk) hg hm kp hb (fun σ => passAt tk σ) pa hdb he hpl, fun σ H G Q A h => ?_⟩
  refine q σ H G _ A ((GP.bind dnE h).mono fun vs H1 ⟨G1, ds, g1, r1, h1⟩ => ?_)
  exact ⟨ds, G1, c.ln ds (fun e => by rw [e] at h1; exact h1), g1.entry, r1, fp_of (A.grown g1) wk h1⟩
/-- the script read -/
theorem SqL.ext {K : PySem.W.Frag} {H H' : Hp} {a : Addr} {xs : List V} (e : Ext H H') (h : SqL K H a xs) : SqL K H' a xs := by
  rcases h with (h | ⟨o, h⟩) | h
  · obtain ⟨o', h', l⟩ := e _ _ h
    rcases l with rfl | ⟨_, _, z, _⟩
    · exact .inl (.inl h')
    · cases z
  · obtain ⟨o', h', l⟩ := e _ _ h
    rcases l with rfl | ⟨_, _, z, _⟩
    · exact .inl (.inr ⟨o, h'⟩)
    · cases z
  · exact .inr h
theorem re_lenS (i : Nat) {a : Addr} {ns : List Int} {x : Str} {p p2 pos : Pos} (hS : SqL X.K B a (ns.map V.int)) (hm : X.mg "len" = none) (hL : L[i]? = some (.raw (.ref a)) := by rfl) (hN : X.N[i]? = some x := by rfl)
    (hv : Vis X.env.scope x := by first | exact Or.inl rfl | exact Or.inr (Or.inl rfl) | exact Or.inr (Or.inr rfl)) (hg : Gl X "len" := by rfl) (hd : (x == ("__debug__" : Str)) = false := by decide) (hcd : (x == ("__classdict__" : Str)) = false := by decide) :
    RE X T W B G0 Lx L (.Call (.Name "len" p) [.Name x p2] [] pos) (.ok (.int ns.length)) := by
  refine ⟨_, pe_callB call_len_seq hg hm PySem.boot_len (pa_cons (pv i hN hv hd hcd) pa_nil rfl) (by decide) (by decide) rfl rfl, fun σ H G Q A h => ?_⟩
  have z := A.sl i _ hL
  have e : σ[i]? = some (some (.ref a)) := z
  refine ⟨.ref a, e, a, ns.map V.int, rfl, .inl (SqL.ext A.gr.ext hS), ?_⟩
  rw [List.length_map]
  exact h.now A (.int _)
theorem re_ixS (i : Nat) {k : Nat} {a : Addr} {ns : List Int} {x : Str} {e : Expr} {m : R D} {p2 pos : Pos} (hr : Room k X.A) (hS : SqL X.K B a (ns.map V.int)) (he : RE X T W B G0 Lx L e m) (hL : L[i]? = some (.raw (.ref a)) := by rfl) (hN : X.N[i]? = some x := by rfl)
    (hv : Vis X.env.scope x := by first | exact Or.inl rfl | exact Or.inr (Or.inl rfl) | exact Or.inr (Or.inr rfl)) (hs : PlainIx e := by exact fun _ _ => rfl) (hd : (x == ("__debug__" : Str)) = false := by decide) (hcd : (x == ("__classdict__" : Str)) = false := by decide) :
    RE X T W B G0 Lx L (.Subscript (.Name x p2) e pos) (m.bind fun d => getD (.list (ns.map .int)) d) := by
  obtain ⟨te, pe, qe⟩ := he
  refine ⟨_, pe_ix ix_list (pv i hN hv hd hcd) pe hs, fun σ H G Q A h => ?_⟩
  have e : σ[i]? = some (some (.ref a)) := A.sl i _ hL
  refine ⟨.ref a, e, qe σ H G _ A ((GP.bind dnE h).mono fun v H1 ⟨G1, d, g1, r1, h1⟩ => ?_)⟩
  cases r1 with
  | int j =>
    have h2 : GP (rE X.K) X T W B G0 Lx H1 G1 (match atI (ns.map PyData.int) j with | some d => R.ok d | none => .no) Q := h1
    cases e2 : ixN ns.length j with
    | none =>
      have e3 : atI (ns.map PyData.int) j = none := by unfold atI; rw [List.length_map, e2]; rfl
      rw [e3] at h2
      exact h2.elim
    | some j' =>
      cases e4 : ns[j']? with
      | none =>
        have e3 : atI (ns.map PyData.int) j = none := by unfold atI; rw [List.length_map, e2, Option.bind_some, List.getElem?_map, e4]; rfl
        rw [e3] at h2
        exact h2.elim
      | some z =>
        have e3 : atI (ns.map PyData.int) j = some (.int z) := by unfold atI; rw [List.length_map, e2, Option.bind_some, List.getElem?_map, e4]; rfl
        have e5 : atI (ns.map V.int) j = some (.int z) := by unfold atI; rw [List.length_map, e2, Option.bind_some, List.getElem?_map, e4]; rfl
        rw [e3] at h2
        exact ⟨a, ns.map V.int, j, .int z, rfl, rfl, SqL.ext (A.grown g1).gr.ext hS, e5, h2.give g1.entry (.int _)⟩
  | _ => exact h1.elim
/-- f(script, e, ..) -/
theorem re_callS (i : Nat) {x y : Str} {n j k : Nat} {a : Addr} {ns : List Int} {ml : List Int → List D → R D} {es : List Expr} {m : R (List D)} {p p2 pos : Pos} (c : CalS X.prog X.w X.K X.mg X.base T x n j ml) (hr : Room k X.A) (hk : j ≤ k) (tk : Takes X W) (wk : Wk L Lx)
    (hS : SqL X.K B a (ns.map V.int)) (ha : RA X T W B G0 Lx L es m) (hL : L[i]? = some (.raw (.ref a)) := by rfl) (hN : X.N[i]? = some y := by rfl) (hv : Vis X.env.scope y := by first | exact Or.inl rfl | exact Or.inr (Or.inl rfl) | exact Or.inr (Or.inr rfl))
    (hg : Gl X x := by rfl) (hdb : (x == ("__debug__" : Str)) = false := by decide) (hd : (y == ("__debug__" : Str)) = false := by decide) (hcd : (y == ("__classdict__" : Str)) = false := by decide)
    (he : starEach (.Name y p2 :: es) X.env = (false, eval (.Name y p2) X.env) :: starEach es X.env := by rfl) (hpl : (backTo pos (starEach es X.env)).any (·.1) = false := by rfl) :
    RE X T W B G0 Lx L (.Call (.Name x p) (.Name y p2 :: es) [] pos) (m.bind (ml ns)) := by
  obtain ⟨f, fd, ps, F, hm, kp, hb⟩ := c.ex
  obtain ⟨t, pa, la, q⟩ := ha
  refine ⟨_, pe_callS F (hr.mono hk) hg hm kp hb (fun σ => passAt tk σ) (pa_cons (pv i hN hv hd hcd) pa he) hdb he hpl, fun σ H G Q A h => ?_⟩
  have e : σ[i]? = some (some (.ref a)) := A.sl i _ hL
  refine ⟨.ref a, e, q σ H G _ A ((GP.bind dnE h).mono fun vs H1 ⟨G1, ds, g1, r1, h1⟩ => ?_)⟩
  exact ⟨a, vs, ns, ds, G1, rfl, SqL.ext (A.grown g1).gr.ext hS, c.ln ns ds (fun e => by rw [e] at h1; exact h1), g1.entry, r1, fp_of (A.grown g1) wk h1⟩
end
end DL
namespace DL
open PySem PySem.Spec PyProof.Rows L2

/-! ### list comprehensions -/
/-- no error leaves -/
def R.nox {α : Type} : R α → R α
  | .ok a => .ok a
  | _ => .no
@[simp] theorem R.nox_ok {α : Type} (a : α) : R.nox (.ok a) = .ok a := rfl
/-- one item: its test, its element -/
def cOne (t : R Bool) (e : R D) : R (Option D) := t.bind fun b => if b = true then e.bind fun d => .ok (some d) else .ok none
def optL (o : Option D) (ys : List D) : List D := match o with
  | some y => y :: ys
  | none => ys
def cLoop (f : D → R (Option D)) : List D → R (List D)
  | [] => .ok []
  | x :: xs => (f x).nox.bind fun o => (cLoop f xs).bind fun ys => .ok (optL o ys)
def compM (f : D → R (Option D)) (xs : List D) : R (List D) := if xs.length < sizeLine then cLoop f xs else .no
abbrev W0 : WX := fun _ _ _ _ => False
def wipeL (L : List Sl) : List Nat → List Sl
  | [] => L
  | i :: is => (wipeL L is).set i .no
section
variable {X : Cx} {T : List Addr} {W : WX} {B G0 : Hp} {Lx L : List Sl}
theorem At.setNo {K : PySem.W.Frag} {σ : L2.St} {H G : Hp} {i : Nat} {v : Option V} (A : At K T B G0 L σ H G) : At K T B G0 (L.set i .no) (σ.set i v) H G := by
  refine ⟨A.gr, by rw [List.length_set, List.length_set]; exact A.len, fun j s hs => ?_, fun j k a o1 o2 => ?_⟩
  · by_cases hj : j = i
    · subst hj
      have e := set_get hs
      subst e
      trivial
    · rw [List.getElem?_set_ne (Ne.symm hj)] at hs
      exact (A.sl j s hs).set hj
  · have back : ∀ {j a}, OwnAt (L.set i .no) (σ.set i v) j a → OwnAt L σ j a := fun {j a} o => by
      obtain ⟨⟨s, hs, ho⟩, e⟩ := o
      by_cases hj : j = i
      · subst hj
        rw [set_get hs] at ho
        cases ho
      · rw [List.getElem?_set_ne (Ne.symm hj)] at hs e
        exact ⟨⟨s, hs, ho⟩, e⟩
    exact A.dis j k a (back o1) (back o2)
theorem At.wiped {K : PySem.W.Frag} {σ : L2.St} {H G : Hp} (A : At K T B G0 L σ H G) : ∀ vs : List Nat, At K T B G0 (wipeL L vs) (wipe σ vs) H G
  | [] => A
  | i :: is => by
    have z := (At.wiped A is).setNo (i := i) (v := none)
    exact z
/-- setting a wiped slot changes nothing that is not wiped -/
theorem wipe_set {σ : L2.St} {i : Nat} {v : Option V} : ∀ {vs : List Nat}, i ∈ vs → wipe (σ.set i v) vs = wipe σ vs
  | j :: vs, h => by
    show (wipe (σ.set i v) vs).set j none = (wipe σ vs).set j none
    by_cases hm : i ∈ vs
    · rw [wipe_set hm]
    · have hj : i = j := by
        rcases List.mem_cons.mp h with e | e
        · exact e
        · exact absurd e hm
      subst hj
      have q : ∀ vs : List Nat, i ∉ vs → wipe (σ.set i v) vs = (wipe σ vs).set i v := by
        intro vs
        induction vs with
        | nil => intro _; rfl
        | cons k vs ih =>
          intro hn
          have h1 : i ≠ k := fun e => hn (by rw [e]; exact List.mem_cons_self)
          have h2 : i ∉ vs := fun e => hn (List.mem_cons_of_mem _ e)
          show (wipe (σ.set i v) vs).set k none = ((wipe σ vs).set k none).set i v
          rw [ih h2, List.set_comm _ _ h1]
      rw [q vs hm, List.set_set]
theorem wipe_wipe {σ : L2.St} : ∀ vs : List Nat, wipe (wipe σ vs) vs = wipe σ vs := by
  have key : ∀ (us vs : List Nat), (∀ i ∈ us, i ∈ vs) → wipe (wipe σ us) vs = wipe σ vs := by
    intro us
    induction us with
    | nil => intro vs _; rfl
    | cons i us ih =>
      intro vs h
      show wipe ((wipe σ us).set i none) vs = wipe σ vs
      rw [wipe_set (h i List.mem_cons_self)]
      exact ih vs fun j hj => h j (List.mem_cons_of_mem _ hj)
  exact fun vs => key vs vs fun _ h => h
/-- a target within a comprehension: it stores to wiped slots alone -/
def RGc (X : Cx) (T : List Addr) (W : WX) (B G0 : Hp) (Lx : List Sl) (tg : Expr) (vs : List Nat) (g : D → List Sl → R (List Sl)) : Prop :=
  ∃ t, PG X tg t ∧ ∀ (L : List Sl) (v : V) (d : D) (σ : L2.St) (H G : Hp) (Q : L2.St → Hp → Prop), At X.K T B G0 L σ H G → Rp X.K G v d → (match g d L with | .ok L' => (∀ σ', At X.K T B G0 L' σ' H G → wipe σ' vs = wipe σ vs → Q σ' H) | .ex _ _ => False | .no => False) → t v σ H Q
/-- the block's judgement: whatever the block's frame -/
abbrev Blk (X : Cx) (scope : Scope) (p : Shared × Hp × Addr × List (Str × Addr) × List Addr) : Cx := X.blk p.1 p.2.1 scope (compEnvC scope p.2.2.2.1 p.2.2.1 X.env) p.2.2.2.2
theorem rgc_name (i : Nat) {x : Str} {pos : Pos} {vs : List Nat} (hN : X.N.Nodup) (hv : i ∈ vs) (hi : X.N[i]? = some x := by rfl) (hx : Loc X.env.scope x := by first | exact Or.inl rfl | exact Or.inr rfl) (hf : X.fn x = true ∨ X.env.scope.names.lookup x = some .local := by first | exact .inl rfl | exact .inr rfl) :
    RGc X T W B G0 Lx (.Name x pos) vs (gN i) :=
  ⟨_, pg_name hN hi hx hf, fun L v d σ H G Q A r h => h _ (A.setIm r) (wipe_set hv)⟩
def RGcs (X : Cx) (T : List Addr) (W : WX) (B G0 : Hp) (Lx : List Sl) (tgs : List Expr) (vs : List Nat) (gs : List (D → List Sl → R (List Sl))) : Prop :=
  ∃ t, PGs X tgs t ∧ ∀ (L : List Sl) (us : List V) (ds : List D) (σ : L2.St) (H G : Hp) (Q : L2.St → Hp → Prop), At X.K T B G0 L σ H G → RpA X.K G us ds →
    (match setsD gs ds L with | .ok L' => (∀ σ', At X.K T B G0 L' σ' H G → wipe σ' vs = wipe σ vs → Q σ' H) | .ex _ _ => False | .no => False) → t us σ H Q
theorem rgcs_nil {vs : List Nat} : RGcs X T W B G0 Lx [] vs [] := by
  refine ⟨_, pgs_nil, fun L us ds σ H G Q A r h => ?_⟩
  cases r with
  | nil => exact ⟨rfl, h _ A rfl⟩
  | cons _ _ => exact h.elim
theorem rgcs_cons {e : Expr} {es : List Expr} {vs : List Nat} {g : D → List Sl → R (List Sl)} {gs : List (D → List Sl → R (List Sl))} (h1 : RGc X T W B G0 Lx e vs g) (h2 : RGcs X T W B G0 Lx es vs gs)
    (hs : (assignEach (e :: es) X.env).map (·.2) = assign e X.env :: (assignEach es X.env).map (·.2) := by rfl) : RGcs X T W B G0 Lx (e :: es) vs (g :: gs) := by
  obtain ⟨t, p, q⟩ := h1
  obtain ⟨u, p2, q2⟩ := h2
  refine ⟨_, pgs_cons p p2 hs, fun L us ds σ H G Q A r h => ?_⟩
  cases r with
  | nil => exact h.elim
  | @cons v us d ds rv rs =>
    refine ⟨v, us, rfl, q L v d σ H G _ A rv ?_⟩
    have h' : match (g d L).bind fun L' => setsD gs ds L' with | .ok L' => (∀ σ', At X.K T B G0 L' σ' H G → wipe σ' vs = wipe σ vs → Q σ' H) | .ex _ _ => False | .no => False := h
    cases e : g d L with
    | ok L1 =>
      rw [e] at h'
      intro σ1 A1 w1
      refine q2 L1 us ds σ1 H G Q A1 rs ?_
      have h2 : match setsD gs ds L1 with | .ok L' => (∀ σ', At X.K T B G0 L' σ' H G → wipe σ' vs = wipe σ vs → Q σ' H) | .ex _ _ => False | .no => False := h'
      cases e2 : setsD gs ds L1 with
      | ok L2 =>
        rw [e2] at h2
        exact fun σ2 A2 w2 => h2 σ2 A2 (w2.trans w1)
      | ex c fs => rw [e2] at h2; exact h2
      | no => rw [e2] at h2; exact h2
    | ex c fs => rw [e] at h'; exact h'
    | no => rw [e] at h'; exact h'
theorem setsD_len : ∀ (gs : List (D → List Sl → R (List Sl))) (ds : List D) (L L' : List Sl), setsD gs ds L = .ok L' → ds.length = gs.length
  | [], [], _, _, _ => rfl
  | [], _ :: _, _, _, e => by cases e
  | _ :: _, [], _, _, e => by cases e
  | g :: gs, d :: ds, L, L', e => by
    have e' : ((g d L).bind fun L' => setsD gs ds L') = .ok L' := e
    cases eg : g d L with
    | ok L1 =>
      rw [eg] at e'
      rw [List.length_cons, List.length_cons, setsD_len gs ds L1 L' e']
    | ex c fs => rw [eg] at e'; cases e'
    | no => rw [eg] at e'; cases e'
theorem rgc_tup {es : List Expr} {k : Nat} {pos : Pos} {n : Nat} {vs : List Nat} {gs : List (D → List Sl → R (List Sl))} (hc : X.calm = true) (h : RGcs X T W B G0 Lx es vs gs) (hl : gs.length = n := by rfl)
    (hn : (assignEach es X.env).length = n := by rfl) (hst : (assignEach es X.env).findIdx? (·.1) = none := by rfl) : RGc X T W B G0 Lx (.Tuple es k pos) vs (fun d L => (tupD d).bind fun ds => setsD gs ds L) := by
  obtain ⟨t, p, q⟩ := h
  refine ⟨_, pg_tup hc p hn hst, fun L v d σ H G Q A r h => ?_⟩
  cases r with
  | @tup a xs ds ha ra =>
    have h' : match setsD gs ds L with | .ok L' => (∀ σ', At X.K T B G0 L' σ' H G → wipe σ' vs = wipe σ vs → Q σ' H) | .ex _ _ => False | .no => False := h
    refine ⟨a, xs, rfl, SqT.mono A.gr.sub ha, ?_, q L xs ds σ H G Q A ra h'⟩
    rw [ra.length]
    cases e : setsD gs ds L with
    | ok L' => rw [setsD_len gs ds L L' e]; exact hl
    | ex c fs => rw [e] at h'; exact h'.elim
    | no => rw [e] at h'; exact h'.elim
  | _ => exact h.elim

/-- the tests of a clause -/
def RTs (X : Cx) (T : List Addr) (W : WX) (B G0 : Hp) (Lx L : List Sl) (es : List Expr) (m : R Bool) : Prop :=
  ∃ t, PTs X es t ∧ ∀ (σ : L2.St) (H G : Hp) (Q : Bool → Hp → Prop), At X.K T B G0 L σ H G → GP rT X T W B G0 Lx H G m Q → t σ H Q
theorem rts_nil : RTs X T W B G0 Lx L [] (.ok true) := ⟨_, pts_nil, fun σ H G Q A h => h.now A rfl⟩
theorem rts_one {c : Expr} {m : R Bool} (h : RT X T W B G0 Lx L c m) : RTs X T W B G0 Lx L [c] m := by
  obtain ⟨t, p, q⟩ := h
  exact ⟨_, pts_one p, q⟩
theorem cLoop_step {f : D → R (Option D)} {xs : List D} {i : Nat} {x : D} (h : xs[i]? = some x) : cLoop f (xs.drop i) = (f x).nox.bind fun o => (cLoop f (xs.drop (i + 1))).bind fun ys => .ok (optL o ys) := by
  obtain ⟨hi, e⟩ := List.getElem?_eq_some_iff.mp h
  rw [List.drop_eq_getElem_cons hi, e]
  rfl
theorem optL_app (o : Option D) (acc ys : List D) : (acc ++ optL o []) ++ ys = acc ++ optL o ys := by
  cases o with
  | none => simp [optL]
  | some y => simp [optL]
theorem cLoop_len {f : D → R (Option D)} : ∀ {xs ys : List D}, cLoop f xs = .ok ys → ys.length ≤ xs.length
  | [], ys, h => by
    have h' : R.ok [] = R.ok ys := h
    cases h'
    exact Nat.le_refl _
  | x :: xs, ys, h => by
    have h' : ((f x).nox.bind fun o => (cLoop f xs).bind fun ys => .ok (optL o ys)) = .ok ys := h
    cases e : f x with
    | ok o =>
      rw [e] at h'
      have h2 : ((cLoop f xs).bind fun ys => R.ok (optL o ys)) = .ok ys := h'
      cases e2 : cLoop f xs with
      | ok zs =>
        rw [e2] at h2
        have h3 : R.ok (optL o zs) = R.ok ys := h2
        cases h3
        have := cLoop_len e2
        cases o with
        | none => exact Nat.le_succ_of_le this
        | some y => exact Nat.succ_le_succ this
      | ex c fs => rw [e2] at h2; cases h2
      | no => rw [e2] at h2; cases h2
    | ex c fs => rw [e] at h'; cases h'
    | no => rw [e] at h'; cases h'
/-- what the comprehension's reading wants -/
theorem lc_read {tg elt iter : Expr} {ifs : List Expr} {scope : Scope} {vs : List Nat} {mi : R (List D)} {g : D → List Sl → R (List Sl)} {mt : D → R Bool} {me : D → R D}
    (hi : RI X T W B G0 Lx L tg iter mi)
    (hg : ∀ p, RGc (Blk X scope p) T W0 B G0 Lx tg vs g)
    (ht : ∀ p x L1, g x (wipeL L vs) = .ok L1 → RTs (Blk X scope p) T W0 B G0 Lx L1 ifs (mt x))
    (he : ∀ p x L1, g x (wipeL L vs) = .ok L1 → RE (Blk X scope p) T W0 B G0 Lx L1 elt (me x))
    (hne : ∀ x, (∃ L1, g x (wipeL L vs) = .ok L1) ∨ (cOne (mt x) (me x)).nox = .no) :
    ∃ wi gg tt te, PI X tg iter wi ∧ (∀ (s : Shared) (H : Hp) (C : Addr) (cl : List (Str × Addr)) (fp : List Addr), PG (X.blk s H scope (compEnvC scope cl C X.env) fp) tg gg) ∧ (∀ (s : Shared) (H : Hp) (C : Addr) (cl : List (Str × Addr)) (fp : List Addr), PTs (X.blk s H scope (compEnvC scope cl C X.env) fp) ifs tt) ∧
      (∀ (s : Shared) (H : Hp) (C : Addr) (cl : List (Str × Addr)) (fp : List Addr), PE (X.blk s H scope (compEnvC scope cl C X.env) fp) elt te) ∧
      ∀ (σ : L2.St) (H G : Hp) (Q : VK), At X.K T B G0 L σ H G → GP (rL X.K) X T W B G0 Lx H G (mi.bind (compM fun x => cOne (mt x) (me x))) Q → tLc wi gg tt te vs σ H Q := by
  obtain ⟨wi, pi, qi⟩ := hi
  -- readings that serve every frame and every item
  have rg : ∃ gg : TG, (∀ p, PG (Blk X scope p) tg gg) ∧ ∀ (L : List Sl) (v : V) (d : D) (σ : L2.St) (H G : Hp) (Q : L2.St → Hp → Prop), At X.K T B G0 L σ H G → Rp X.K G v d → (match g d L with | .ok L' => (∀ σ', At X.K T B G0 L' σ' H G → wipe σ' vs = wipe σ vs → Q σ' H) | .ex _ _ => False | .no => False) → gg v σ H Q :=
    ⟨fun v σ H Q => ∀ p, (Classical.choose (hg p)) v σ H Q, fun p => ⟨fun pins s σ H v u Q I r h => (Classical.choose_spec (hg p)).1.run pins s σ H v u Q I r (h p)⟩, fun L v d σ H G Q A r h p => (Classical.choose_spec (hg p)).2 L v d σ H G Q A r h⟩
  obtain ⟨gg, pg, qg⟩ := rg
  have rt : ∃ tt : TT, (∀ p, PTs (Blk X scope p) ifs tt) ∧ ∀ (x : D) (L1 : List Sl) (σ : L2.St) (H G : Hp) (Q : Bool → Hp → Prop), g x (wipeL L vs) = .ok L1 → At X.K T B G0 L1 σ H G → GP rT X T W0 B G0 Lx H G (mt x) Q → tt σ H Q := by
    refine ⟨fun σ H Q => ∃ (z : { z : D × List Sl // g z.1 (wipeL L vs) = .ok z.2 }), ∀ p, (Classical.choose (ht p z.1.1 z.1.2 z.2)) σ H Q, fun p => ⟨fun pins s σ H Q I ⟨z, h⟩ => (Classical.choose_spec (ht p z.1.1 z.1.2 z.2)).1.run pins s σ H Q I (h p)⟩, fun x L1 σ H G Q e A h => ⟨⟨⟨x, L1⟩, e⟩, fun p => (Classical.choose_spec (ht p x L1 e)).2 σ H G Q A h⟩⟩
  obtain ⟨tt, pt, qt⟩ := rt
  have re : ∃ te : TE, (∀ p, PE (Blk X scope p) elt te) ∧ ∀ (x : D) (L1 : List Sl) (σ : L2.St) (H G : Hp) (Q : VK), g x (wipeL L vs) = .ok L1 → At X.K T B G0 L1 σ H G → GP (rE X.K) X T W0 B G0 Lx H G (me x) Q → te σ H Q := by
    refine ⟨fun σ H Q => ∃ (z : { z : D × List Sl // g z.1 (wipeL L vs) = .ok z.2 }), ∀ p, (Classical.choose (he p z.1.1 z.1.2 z.2)) σ H Q, fun p => ⟨fun pins s σ H Q I ⟨z, h⟩ => (Classical.choose_spec (he p z.1.1 z.1.2 z.2)).1.run pins s σ H Q I (h p)⟩, fun x L1 σ H G Q e A h => ⟨⟨⟨x, L1⟩, e⟩, fun p => (Classical.choose_spec (he p x L1 e)).2 σ H G Q A h⟩⟩
  obtain ⟨te, pe, qe⟩ := re
  refine ⟨wi, gg, tt, te, pi, fun s H C cl fp => pg (s, H, C, cl, fp), fun s H C cl fp => pt (s, H, C, cl, fp), fun s H C cl fp => pe (s, H, C, cl, fp), fun σ H G Q A h => ?_⟩
  refine qi σ H G _ A ((GP.bind dnL h).mono fun J H1 ⟨G1, xs, g1, itok, h1⟩ D hD => ?_)
  obtain ⟨hsz, h1⟩ := GP.gd (c := xs.length < sizeLine) h1
  cases eR : cLoop (fun x => cOne (mt x) (me x)) xs with
  | ex c fs =>
    exfalso
    have q : ∀ xs c fs, cLoop (fun x => cOne (mt x) (me x)) xs ≠ .ex c fs := by
      intro xs
      induction xs with
      | nil => intro c fs e; cases e
      | cons x xs ih =>
        intro c fs e
        have e' : ((cOne (mt x) (me x)).nox.bind fun o => (cLoop (fun x => cOne (mt x) (me x)) xs).bind fun ys => R.ok (optL o ys)) = .ex c fs := e
        cases e2 : cOne (mt x) (me x) with
        | ok o =>
          rw [e2] at e'
          have e3 : ((cLoop (fun x => cOne (mt x) (me x)) xs).bind fun ys => R.ok (optL o ys)) = .ex c fs := e'
          cases e4 : cLoop (fun x => cOne (mt x) (me x)) xs with
          | ok ys => rw [e4] at e3; cases e3
          | ex c' fs' => exact ih c' fs' e4
          | no => rw [e4] at e3; cases e3
        | ex c' fs' => rw [e2] at e'; cases e'
        | no => rw [e2] at e'; cases e'
    exact q xs c fs eR
  | no => rw [eR] at h1; exact h1.elim
  | ok res =>
    rw [eR] at h1
    have hlen := cLoop_len eR
    have gD : G1 D = none := Rp.none_new g1.sub hD
    -- the invariant: acc so far, the rest still to come
    refine ⟨fun i m H2 => ∃ G2 acc vacc rest, m = xs.length - i ∧ i ≤ xs.length ∧ Grow T H1 G1 H2 G2 ∧ H2 D = some (.lst vacc) ∧ G2 D = none ∧ RpA X.K G2 vacc acc ∧ cLoop (fun x => cOne (mt x) (me x)) (xs.drop i) = .ok rest ∧ acc ++ rest = res ∧ acc.length ≤ i,
      ⟨xs.length, G1, [], [], res, by simp, Nat.zero_le _, g1.entry.allocH hD, upd_same, gD, .nil, eR, rfl, Nat.zero_le _⟩, ?_⟩
    rintro i m H2 ⟨G2, acc, vacc, rest, rfl, hi, g2, hD2, gD2, racc, hrest, hres, hal⟩
    by_cases hlt : i < xs.length
    · have hx : xs[i]? = some xs[i] := List.getElem?_eq_getElem hlt
      obtain ⟨go, yld⟩ := itok.go i _ H2 G2 g2.entry g2.ggr hx
      rw [cLoop_step hx] at hrest
      refine .inr ⟨go, fun H' => ∃ G3 acc' vacc' rest', Grow T H1 G1 H' G3 ∧ H' D = some (.lst vacc') ∧ G3 D = none ∧ RpA X.K G3 vacc' acc' ∧ cLoop (fun x => cOne (mt x) (me x)) (xs.drop (i + 1)) = .ok rest' ∧ acc' ++ rest' = res ∧ acc'.length ≤ i + 1,
        fun H' ⟨G3, acc', vacc', rest', z1, z2, z3, z4, z5, z6, z7⟩ => ⟨xs.length - (i + 1), by omega, G3, acc', vacc', rest', rfl, hlt, z1, z2, z3, z4, z5, z6, z7⟩, fun v H3 hy => ?_⟩
      obtain ⟨G3, g3, rv⟩ := yld v H3 hy
      have A2 : At X.K T B G0 L σ H2 G2 := (A.grown g1).grown g2
      have A3 := (A2.grown g3).wiped vs
      -- the new list stands
      have still : ∀ {Ha Ga Hb Gb : Hp}, Grow T Ha Ga Hb Gb → Ha D = some (.lst vacc) → Ga D = none → Hb D = some (.lst vacc) ∧ Gb D = none := fun {Ha Ga Hb Gb} gr e1 e2 => by
        obtain ⟨o', e3, l⟩ := gr.ext D _ e1
        refine ⟨?_, ?_⟩
        · rcases l with rfl | ⟨_, _, z, _⟩
          · exact e3
          · cases z
        · cases q : Gb D with
          | none => rfl
          | some o =>
            rcases gr.fresh D (by rw [q]; simp) with z | z
            · exact absurd e2 z
            · rw [e1] at z; cases z
      cases eo : cOne (mt xs[i]) (me xs[i]) with
      | ex c fs => rw [eo] at hrest; cases hrest
      | no => rw [eo] at hrest; cases hrest
      | ok o =>
        rw [eo] at hrest
        have hrest : ((cLoop (fun x => cOne (mt x) (me x)) (xs.drop (i + 1))).bind fun ys => R.ok (optL o ys)) = .ok rest := hrest
        cases er : cLoop (fun x => cOne (mt x) (me x)) (xs.drop (i + 1)) with
        | ex c fs => rw [er] at hrest; cases hrest
        | no => rw [er] at hrest; cases hrest
        | ok rest' =>
          rw [er] at hrest
          have hrest : R.ok (optL o rest') = R.ok rest := hrest
          have hr2 : optL o rest' = rest := R.ok.inj hrest
          rcases hne xs[i] with ⟨L1, e1⟩ | e
          · refine qg (wipeL L vs) v xs[i] (wipe σ vs) H3 G3 _ A3 rv ?_
            rw [e1]
            intro σ4 A4 hw
            refine ⟨hw.trans (wipe_wipe vs), ?_⟩
            obtain ⟨d3, n3⟩ := still g3 hD2 gD2
            cases et : mt xs[i] with
            | ex c fs => rw [et] at eo; cases eo
            | no => rw [et] at eo; cases eo
            | ok b =>
              rw [et] at eo
              refine qt xs[i] L1 σ4 H3 G3 _ e1 A4 ?_
              rw [et]
              intro b' H4 G4 g4 hb
              subst hb
              obtain ⟨d4, n4⟩ := still g4 d3 n3
              cases b' with
              | false =>
                rw [if_neg Bool.false_ne_true]
                have eo2 : R.ok Option.none = R.ok o := eo
                cases eo2
                exact ⟨G4, acc, vacc, rest', (g2.trans g3).trans g4, d4, n4, racc.mono (g3.ggr.trans g4.ggr), rfl, by rw [← hres, ← hr2]; rfl, by omega⟩
              | true =>
                rw [if_pos rfl]
                have eo2 : ((me xs[i]).bind fun d => R.ok (some d)) = R.ok o := eo
                cases em : me xs[i] with
                | ex c fs => rw [em] at eo2; cases eo2
                | no => rw [em] at eo2; cases eo2
                | ok d =>
                  rw [em] at eo2
                  have eo3 : R.ok (some d) = R.ok o := eo2
                  cases eo3
                  refine qe xs[i] L1 σ4 H4 G4 _ e1 (A4.grown g4) ?_
                  rw [em]
                  intro y H5 G5 g5 ry
                  obtain ⟨d5, n5⟩ := still g5 d4 n4
                  refine ⟨vacc, d5, by rw [racc.length]; omega, G5, acc ++ [d], vacc ++ [y], rest', ?_, upd_same, n5, (racc.mono (g3.ggr.trans (g4.ggr.trans g5.ggr))).snoc ry, rfl, by rw [← hres, ← hr2]; simp [optL], by rw [List.length_append, List.length_singleton]; omega⟩
                  have gg5 := ((g2.trans g3).trans g4).trans g5
                  -- the list is written
                  refine ⟨fun b u e => ?_, fun b u e => ?_, gg5.ggr, gg5.fresh, fun P hP => ?_, gg5.data⟩
                  · have ne : b ≠ D := ne_of_none e hD
                    rw [upd_ne ne]
                    exact gg5.ext b u e
                  · have ne : b ≠ D := fun z => by rw [z, n5] at e; cases e
                    rw [upd_ne ne]
                    exact gg5.sub b u e
                  · obtain ⟨ps, e, z⟩ := gg5.tabs P hP
                    have ne : P ≠ D := fun z => by rw [z, d5] at e; cases e
                    exact ⟨ps, by rw [upd_ne ne]; exact e, z⟩
          · rw [eo] at e
            cases e
    · have e : i = xs.length := by omega
      subst e
      rw [List.drop_length] at hrest
      have e2 : R.ok [] = R.ok rest := hrest
      cases e2
      rw [List.append_nil] at hres
      subst hres
      refine .inl ⟨itok.stop H2 G2 g2.entry g2.ggr, ?_⟩
      exact h1 (.ref D) H2 G2 g2 ⟨D, vacc, rfl, hD, hD2, gD2, racc⟩

/-- a comprehension over items by name -/
theorem ro_lc {tg elt iter : Expr} {ifs : List Expr} {scope : Scope} {own : List (Str × Nat)} {pos : Pos} {mi : R (List D)} {g : D → List Sl → R (List Sl)} {mt : D → R Bool} {me : D → R D} (hc : X.calm = true) (hN : X.N.Nodup) (ok : BlkOk X.N X.env.scope scope own)
    (hi : RI X T W B G0 Lx L tg iter mi) (hg : ∀ p, RGc (Blk X scope p) T W0 B G0 Lx tg (own.map (·.2)) g)
    (ht : ∀ p x L1, g x (wipeL L (own.map (·.2))) = .ok L1 → RTs (Blk X scope p) T W0 B G0 Lx L1 ifs (mt x))
    (he : ∀ p x L1, g x (wipeL L (own.map (·.2))) = .ok L1 → RE (Blk X scope p) T W0 B G0 Lx L1 elt (me x))
    (hne : ∀ x, (∃ L1, g x (wipeL L (own.map (·.2))) = .ok L1) ∨ (cOne (mt x) (me x)).nox = .no) (hs : ∀ x, foldedSetIterable iter X.env x = pure x := by intro _; rfl) :
    RO X T W B G0 Lx L (.ListComp elt [⟨tg, iter, ifs, 0⟩] scope pos) (mi.bind (compM fun x => cOne (mt x) (me x))) := by
  obtain ⟨wi, gg, tt, te, p1, p2, p3, p4, q⟩ := lc_read hi hg ht he hne
  exact ⟨_, pe_lc hc hN p1 ok p2 p3 p4 hs, q⟩
theorem rb_setLc (i : Nat) {α : Type} {y : Str} {py : Pos} {tg elt iter : Expr} {ifs : List Expr} {scope : Scope} {own : List (Str × Nat)} {pos spos : Pos} {mi : R (List D)} {g : D → List Sl → R (List Sl)} {mt : D → R Bool} {me : D → R D} {k : List D → R α} {pst : α → Ex} {rest : List Stmt}
    (hc : X.calm = true) (hN : X.N.Nodup) (ok : BlkOk X.N X.env.scope scope own) (hy : X.N[i]? = some y) (hyl : X.env.scope.names.lookup y = some .local) (hsw : swapsWith (.ListComp elt [⟨tg, iter, ifs, 0⟩] scope pos) (some (.Name y py)) spos.line X.env = pure true)
    (hi : RI X T W B G0 Lx L tg iter mi) (hg : ∀ p, RGc (Blk X scope p) T W0 B G0 Lx tg (own.map (·.2)) g)
    (ht : ∀ p x L1, g x (wipeL L (own.map (·.2))) = .ok L1 → RTs (Blk X scope p) T W0 B G0 Lx L1 ifs (mt x))
    (he : ∀ p x L1, g x (wipeL L (own.map (·.2))) = .ok L1 → RE (Blk X scope p) T W0 B G0 Lx L1 elt (me x))
    (hne : ∀ x, (∃ L1, g x (wipeL L (own.map (·.2))) = .ok L1) ∨ (cOne (mt x) (me x)).nox = .no) (hr : ∀ ds, RB X T W B G0 Lx (L.set i (.ol ds)) rest (k ds) pst) (hs : ∀ x, foldedSetIterable iter X.env x = pure x := by intro _; rfl) :
    RB X T W B G0 Lx L (.Assign [.Name y py] (.ListComp elt [⟨tg, iter, ifs, 0⟩] scope pos) spos :: rest) ((mi.bind (compM fun x => cOne (mt x) (me x))).bind k) pst := by
  obtain ⟨wi, gg, tt, te, p1, p2, p3, p4, q⟩ := lc_read hi hg ht he hne
  obtain ⟨u, pu, qu⟩ := RB.all hr
  refine ⟨_, pss_cons (ps_setLc hc hN hy hyl hsw p1 ok p2 p3 p4 hs) pu, fun Dn σ H G A h => ?_⟩
  exact q σ H G _ A ((BP.bind h).mono fun v H1 ⟨G1, d, g1, r1, h1⟩ => qu d Dn _ H1 G1 (A.setNew g1 r1) h1)
/-- an owned list becomes data -/
theorem rb_freeze (i : Nat) {α : Type} {ds : List D} {sts : List Stmt} {m : R α} {pst : α → Ex} (h : RB X T W B G0 Lx (L.set i (.im (.list ds))) sts m pst) (hL : L[i]? = some (.ol ds) := by rfl) : RB X T W B G0 Lx L sts m pst := by
  obtain ⟨t, p, q⟩ := h
  refine ⟨t, p, fun Dn σ H G A h => ?_⟩
  obtain ⟨a, vs, e, ha, hg, hb, r⟩ := A.sl i _ hL
  have o : OwnAt L σ i a := ⟨⟨_, hL, rfl⟩, e⟩
  exact q Dn σ H _ (A.freeze o ha rfl (.lst upd_same (r.mono (.new hg)))) (h.later (.new hg))
theorem rb_freezeK (i : Nat) {α : Type} {ds : List (D × D)} {sts : List Stmt} {m : R α} {pst : α → Ex} (h : RB X T W B G0 Lx (L.set i (.im (.dict ds))) sts m pst) (hL : L[i]? = some (.ok ds) := by rfl) : RB X T W B G0 Lx L sts m pst := by
  obtain ⟨t, p, q⟩ := h
  refine ⟨t, p, fun Dn σ H G A h => ?_⟩
  obtain ⟨a, vs, e, ha, hg, hb, r⟩ := A.sl i _ hL
  have o : OwnAt L σ i a := ⟨⟨_, hL, rfl⟩, e⟩
  exact q Dn σ H _ (A.freeze o ha rfl (.dik upd_same (r.mono (.new hg)))) (h.later (.new hg))
theorem rb_freezeT (i : Nat) {α : Type} {ds : List (D × D)} {sts : List Stmt} {m : R α} {pst : α → Ex} (h : RB X T W B G0 Lx (L.set i (.im (.dict ds))) sts m pst) (hL : L[i]? = some (.ot ds) := by rfl) : RB X T W B G0 Lx L sts m pst := by
  obtain ⟨t, p, q⟩ := h
  refine ⟨t, p, fun Dn σ H G A h => ?_⟩
  obtain ⟨a, vs, e, ha, hg, hb, r⟩ := A.sl i _ hL
  have o : OwnAt L σ i a := ⟨⟨_, hL, rfl⟩, e⟩
  exact q Dn σ H _ (A.freeze o ha rfl (.dit upd_same (r.mono (.new hg)))) (h.later (.new hg))
/-- .. for one expression whose value is plain -/
def plainD : D → R D
  | .none => .ok .none
  | .bool b => .ok (.bool b)
  | .int i => .ok (.int i)
  | .str s => .ok (.str s)
  | _ => .no
@[simp] theorem plainD_int (i : Int) : plainD (.int i) = .ok (.int i) := rfl
@[simp] theorem plainD_bool (i : Bool) : plainD (.bool i) = .ok (.bool i) := rfl
@[simp] theorem plainD_str (i : Str) : plainD (.str i) = .ok (.str i) := rfl
@[simp] theorem plainD_none : plainD .none = .ok .none := rfl
theorem Grow.drop {H G H' G' G1 : Hp} (g0 : Grow T H G H G) (g : Grow T H G1 H' G') : Grow T H G H' G :=
  ⟨g.ext, fun b o e => by
    obtain ⟨o', e', l⟩ := g.ext b o (g0.sub b o e)
    rcases l with rfl | ⟨ps, qs, rfl, rfl⟩
    · exact e'
    · exact absurd e (g0.data b ps), .refl G, fun b h => .inl h, g.tabs, g0.data⟩
/-- one slot's list looked at as data -/
theorem At.look {K : PySem.W.Frag} {σ : L2.St} {H G : Hp} {i : Nat} {ds : List D} (A : At K T B G0 L σ H G) (hL : L[i]? = some (.ol ds)) : ∃ G1, At K T B G0 (L.set i (.im (.list ds))) σ H G1 ∧ Sub G G1 := by
  obtain ⟨a, vs, e, ha, hg, hb, r⟩ := A.sl i _ hL
  have o : OwnAt L σ i a := ⟨⟨_, hL, rfl⟩, e⟩
  exact ⟨_, A.freeze o ha rfl (.lst upd_same (r.mono (.new hg))), .new hg⟩
theorem re_look (i : Nat) {ds : List D} {e : Expr} {m : R D} (h : RE X T W B G0 Lx (L.set i (.im (.list ds))) e m) (hL : L[i]? = some (.ol ds) := by rfl) : RE X T W B G0 Lx L e (m.bind plainD) := by
  obtain ⟨t, p, q⟩ := h
  refine ⟨t, p, fun σ H G Q A h => ?_⟩
  obtain ⟨G1, A1, s⟩ := A.look hL
  refine q σ H G1 Q A1 ?_
  cases m with
  | ok d =>
    intro v H' G' g r
    have gr := Grow.drop A.gr.entry g
    cases r with
    | non => exact h _ H' G gr .non
    | bl b => exact h _ H' G gr (.bl b)
    | int b => exact h _ H' G gr (.int b)
    | str b => exact h _ H' G gr (.str b)
    | _ => exact h.elim
  | ex c fs => exact h
  | no => exact h
theorem rt_look (i : Nat) {ds : List D} {e : Expr} {m : R Bool} (h : RT X T W B G0 Lx (L.set i (.im (.list ds))) e m) (hL : L[i]? = some (.ol ds) := by rfl) : RT X T W B G0 Lx L e m := by
  obtain ⟨t, p, q⟩ := h
  refine ⟨t, p, fun σ H G Q A h => ?_⟩
  obtain ⟨G1, A1, s⟩ := A.look hL
  refine q σ H G1 Q A1 ?_
  cases m with
  | ok d =>
    intro v H' G' g r
    exact h v H' G (Grow.drop A.gr.entry g) r
  | ex c fs => exact h
  | no => exact h
/-! ### what changes a slot's own object -/
def pushD (xs : List D) (d : D) : R (List D) := if xs.length < sizeLine then .ok (xs ++ [d]) else .no
/-- xs.append(e) -/
theorem rb_append (i : Nat) {α : Type} {ds : List D} {x : Str} {e : Expr} {m : R D} {k : List D → R α} {pst : α → Ex} {rest : List Stmt} {p1 p2 cpos pos : Pos} (he : RE X T W B G0 Lx L e m)
    (hr : ∀ ds', RB X T W B G0 Lx (L.set i (.ol ds')) rest (k ds') pst) (hL : L[i]? = some (.ol ds) := by rfl) (hN : X.N[i]? = some x := by rfl) (hv : Vis X.env.scope x := by first | exact Or.inl rfl | exact Or.inr (Or.inl rfl) | exact Or.inr (Or.inr rfl))
    (hd : (x == ("__debug__" : Str)) = false := by decide) (hcd : (x == ("__classdict__" : Str)) = false := by decide) 
    (hs : swapsWith (.Call (.Attribute (.Name x p1) "append" p2) [e] [] cpos) none pos.line X.env = pure false := by rfl)
    (hst : starEach [e] X.env = (false, eval e X.env) :: starEach [] X.env := by rfl)
    (hpm : ∀ to t, PE X (.Name x p1) to → PA X [e] t → PE X (.Call (.Attribute (.Name x p1) "append" p2) [e] [] cpos) (tBM X.K "list" rAppend to t)) :
    RB X T W B G0 Lx L (.Expr (.Call (.Attribute (.Name x p1) "append" p2) [e] [] cpos) pos :: rest) ((m.bind fun d => pushD ds d).bind k) pst := by
  obtain ⟨t, p, q⟩ := he
  obtain ⟨u, pu, qu⟩ := RB.all hr
  refine ⟨_, pss_cons (ps_expr (hpm _ _ (pv i hN hv hd hcd) (pa_cons p pa_nil hst)) hs) pu, fun Dn σ H G A h => ?_⟩
  obtain ⟨a, vs, ea, ha, hg, hb, ra⟩ := A.sl i _ hL
  have o : OwnAt L σ i a := ⟨⟨_, hL, rfl⟩, ea⟩
  rw [R.bind_assoc] at h
  refine ⟨.ref a, ea, .inl ⟨rfl, _, .inl (.inl ha)⟩, q σ H G _ A ((BP.bind h).mono fun v H1 ⟨G1, d, g1, r1, h1⟩ => ?_)⟩
  have A1 := A.grown g1
  obtain ⟨a1, vs1, ea1, ha1, hg1, hb1, ra1⟩ := A1.sl i _ hL
  rw [ea] at ea1
  cases ea1
  by_cases hz : ds.length < sizeLine
  · have h2 : BP X T W B G0 Lx G1 pst (k (ds ++ [d])) Dn := by
      unfold pushD at h1
      rw [if_pos hz] at h1
      exact h1
    refine ⟨a, vs1, v, rfl, rfl, ha1, by rw [ra1.length]; exact hz, ?_⟩
    refine qu (ds ++ [d]) Dn σ _ G1 (A1.write (x := .ol (ds ++ [d])) (o := .lst (vs1 ++ [v])) ⟨⟨_, hL, rfl⟩, ea⟩ ⟨a, vs1 ++ [v], ea, upd_same, hg1, hb1, ra1.snoc r1⟩ rfl rfl (fun ps e => by rw [ha1] at e; cases e)) h2
  · unfold pushD at h1
    rw [if_neg hz] at h1
    exact h1.elim
end
end DL
namespace DL
open PySem PySem.Spec PyProof.Rows L2

section
variable {X : Cx} {T : List Addr} {W : WX} {B G0 : Hp} {Lx L : List Sl}
/-! ### more statements -/
/-- x op= e -/
theorem rb_aug (i : Nat) {α : Type} {x : Str} {d : D} {op : Operator} {r : R2} {f : D → D → R D} {e : Expr} {m : R D} {k : D → R α} {pst : α → Ex} {rest : List Stmt} {pos pos' : Pos} (hN : X.N.Nodup) (ho : OpR X (inplaceOp op) r) (hd : OpD X T f r)
    (he : RE X T W B G0 Lx L e m) (hr : ∀ d', RB X T W B G0 Lx (L.set i (.im d')) rest (k d') pst) (hL : L[i]? = some (.im d) := by rfl)
    (hi : X.N[i]? = some x := by rfl) (hx : Loc X.env.scope x := by first | exact Or.inl rfl | exact Or.inr rfl)
    (hf : X.fn x = true ∨ X.env.scope.names.lookup x = some .local := by first | exact .inl rfl | exact .inr rfl) : RB X T W B G0 Lx L (.AugAssign (.Name x pos') op e pos :: rest) ((m.bind fun y => f d y).bind k) pst := by
  obtain ⟨t, p, q⟩ := he
  obtain ⟨u, pu, qu⟩ := RB.all hr
  have hip : PIp X op (fun x y H Q => r x y H Q) := fun pins s σ H x y v u Q I r1 r2 h => ho pins s σ H x y v u Q I r1 r2 h
  refine ⟨_, pss_cons (ps_aug hN hi hx p hip hf) pu, fun Dn σ H G A h => ?_⟩
  obtain ⟨v, ev, rv⟩ := A.sl i _ hL
  rw [R.bind_assoc] at h
  refine ⟨v, ev, q σ H G _ A ((BP.bind h).mono fun w H1 ⟨G1, e1, g1, r1, h1⟩ => ?_)⟩
  refine hd W B G0 Lx H1 G1 v w d e1 _ g1.entry (rv.mono g1.ggr) r1 ((BP.bind h1).mono fun z H2 ⟨G2, d2, g2, r2, h2⟩ => ?_)
  exact qu d2 Dn _ H2 G2 (((A.grown g1).grown g2).setIm r2) h2
def dIadd : D → D → R D
  | .int i, .int j => .ok (.int (i + j))
  | .str a, .str b => if a.length + b.length ≤ sizeLine then .ok (.str (a ++ b)) else .no
  | _, _ => .no
@[simp] theorem dIadd_int (i j : Int) : dIadd (.int i) (.int j) = .ok (.int (i + j)) := rfl
theorem op_iaddA : OpR X (inplaceOp .Add) (fun x y H Q => (rI0 fun i j => .int (i + j)) x y H Q ∨ (∃ i j, x = .str i ∧ y = .str j ∧ i.length + j.length ≤ sizeLine ∧ Q (.str (i ++ j)) H)) := iop_add.or iop_add_str
theorem od_iadd : OpD X T dIadd (fun x y H Q => (rI0 fun i j => .int (i + j)) x y H Q ∨ (∃ i j, x = .str i ∧ y = .str j ∧ i.length + j.length ≤ sizeLine ∧ Q (.str (i ++ j)) H)) := by
  intro W B G0 Lx H G x y d e Q g rx ry h
  cases rx with
  | int i =>
    cases ry with
    | int j => exact .inl ⟨i, j, rfl, rfl, h.give g (.int _)⟩
    | _ => exact h.elim
  | str a =>
    cases ry with
    | str b =>
      obtain ⟨hz, h⟩ := GP.gd (c := a.length + b.length ≤ sizeLine) h
      exact .inr ⟨a, b, rfl, rfl, hz, h.give g (.str _)⟩
    | _ => exact h.elim
  | _ => exact h.elim
/-- two data out of a list -/
def l2 {α : Type} (f : D → D → R α) : List D → R α
  | [a, b] => f a b
  | _ => .no
def l3 {α : Type} (f : D → D → D → R α) : List D → R α
  | [a, b, c] => f a b c
  | _ => .no
def l4 {α : Type} (f : D → D → D → D → R α) : List D → R α
  | [a, b, c, d] => f a b c d
  | _ => .no
def l5 {α : Type} (f : D → D → D → D → D → R α) : List D → R α
  | [a, b, c, d, e] => f a b c d e
  | _ => .no
@[simp] theorem l2_l {α : Type} (f : D → D → R α) (a b : D) : l2 f [a, b] = f a b := rfl
@[simp] theorem l3_l {α : Type} (f : D → D → D → R α) (a b c : D) : l3 f [a, b, c] = f a b c := rfl
@[simp] theorem l4_l {α : Type} (f : D → D → D → D → R α) (a b c d : D) : l4 f [a, b, c, d] = f a b c d := rfl
@[simp] theorem l5_l {α : Type} (f : D → D → D → D → D → R α) (a b c d e : D) : l5 f [a, b, c, d, e] = f a b c d e := rfl
theorem l2_cases {α : Type} (f : D → D → R α) (x : List D) : (∃ a b, x = [a, b]) ∨ l2 f x = .no := by
  unfold l2
  split
  · exact .inl ⟨_, _, rfl⟩
  · exact .inr rfl
theorem l3_cases {α : Type} (f : D → D → D → R α) (x : List D) : (∃ a b c, x = [a, b, c]) ∨ l3 f x = .no := by
  unfold l3
  split
  · exact .inl ⟨_, _, _, rfl⟩
  · exact .inr rfl
theorem l4_cases {α : Type} (f : D → D → D → D → R α) (x : List D) : (∃ a b c d, x = [a, b, c, d]) ∨ l4 f x = .no := by
  unfold l4
  split
  · exact .inl ⟨_, _, _, _, rfl⟩
  · exact .inr rfl
theorem l5_cases {α : Type} (f : D → D → D → D → D → R α) (x : List D) : (∃ a b c d e, x = [a, b, c, d, e]) ∨ l5 f x = .no := by
  unfold l5
  split
  · exact .inl ⟨_, _, _, _, _, rfl⟩
  · exact .inr rfl
/-- a, b = e1, e2 -/
theorem rb_par (i j : Nat) {α : Type} {x y : Str} {a b : Expr} {m : R (List D)} {k : D → D → R α} {pst : α → Ex} {rest : List Stmt} {px py pt : Pos} {kt : Nat} {k2 : Nat} {pt2 pos : Pos} (hc : X.calm = true) (hN : X.N.Nodup) (ha : RA X T W B G0 Lx L [a, b] m)
    (hr : ∀ d e, RB X T W B G0 Lx ((L.set i (.im d)).set j (.im e)) rest (k d e) pst) (hi : X.N[i]? = some x := by rfl) (hj : X.N[j]? = some y := by rfl) (hij : i ≠ j := by decide)
    (hx : X.env.scope.names.lookup x = some .local := by rfl) (hy : X.env.scope.names.lookup y = some .local := by rfl)
    (hw : swappedStores [.Tuple [.Name x px, .Name y py] kt pt] (.Tuple [a, b] k2 pt2) X.env = pure (some [x, y]) := by rfl)
    (hs : swapsWithSole [.Tuple [.Name x px, .Name y py] kt pt] (.Tuple [a, b] k2 pt2) pos.line X.env = pure false := by rfl) :
    RB X T W B G0 Lx L (.Assign [.Tuple [.Name x px, .Name y py] kt pt] (.Tuple [a, b] k2 pt2) pos :: rest) (m.bind (l2 k)) pst := by
  obtain ⟨t, p, la, q⟩ := ha
  obtain ⟨u, pu, qu⟩ := RB.all (δ := D × D) (L := fun z => (L.set i (.im z.1)).set j (.im z.2)) (k := fun z => k z.1 z.2) (pst := pst) fun z => hr z.1 z.2
  refine ⟨_, pss_cons (ps_par hc hN hi hj hij hx hy p hw hs) pu, fun Dn σ H G A h => ?_⟩
  refine q σ H G _ A ((BP.bind h).mono fun vs H1 ⟨G1, ds, g1, r1, h1⟩ => ?_)
  rcases l2_cases k ds with ⟨d, e, rfl⟩ | e
  · obtain ⟨v, w, rfl, rv, rw'⟩ := r1.two
    exact ⟨v, w, rfl, qu (d, e) Dn _ H1 G1 (((A.grown g1).setIm rv).setIm rw') h1⟩
  · rw [e] at h1
    exact h1.elim
/-- a list unpacked: targets (a, b, ..) -/
theorem rg_lst {es : List Expr} {k : Nat} {pos : Pos} {n : Nat} {gs : List (D → List Sl → R (List Sl))} (hc : X.calm = true) (h : RGs X T W B G0 Lx es gs) (hl : gs.length = n := by rfl)
    (hn : (assignEach es X.env).length = n := by rfl) (hst : (assignEach es X.env).findIdx? (·.1) = none := by rfl) : RG X T W B G0 Lx (.Tuple es k pos) (fun d L => (asL d).bind fun ds => setsD gs ds L) := by
  obtain ⟨t, p, q⟩ := h
  refine ⟨_, pg_lst hc p hn hst, fun L v d σ H G Q A r h => ?_⟩
  cases r with
  | @lst a xs ds ha ra =>
    have h' : match setsD gs ds L with | .ok L' => AtEnd X T B G0 G L' Q | .ex _ _ => False | .no => False := h
    refine ⟨a, xs, rfl, SqL.ofG A.gr.sub ha, ?_, q L xs ds σ H G Q A ra h'⟩
    rw [ra.length]
    cases e : setsD gs ds L with
    | ok L' => rw [setsD_len gs ds L L' e]; exact hl
    | ex c fs => rw [e] at h'; exact h'.elim
    | no => rw [e] at h'; exact h'.elim
  | _ => exact h.elim
/-- target = e, the target any; what the target makes of the slots -/
theorem rb_asg {α : Type} {tg e : Expr} {m : R D} {g : D → List Sl → R (List Sl)} {k : D → R α} {pst : α → Ex} {rest : List Stmt} {pos : Pos} (he : RE X T W B G0 Lx L e m) (hg : RG X T W B G0 Lx tg g)
    (hr : ∀ d, (∃ L', g d L = .ok L' ∧ RB X T W B G0 Lx L' rest (k d) pst) ∨ k d = .no) (hs : swapsWithSole [tg] e pos.line X.env = pure false := by rfl) (hw : swappedStores [tg] e X.env = pure none := by rfl)
    (h1 : (assignEach [tg] X.env).map (·.2) = [assign tg X.env] := by rfl) : RB X T W B G0 Lx L (.Assign [tg] e pos :: rest) (m.bind k) pst := by
  obtain ⟨t, p, q⟩ := he
  obtain ⟨tg', pg, qg⟩ := hg
  have hall : ∃ u, PSs X rest u ∧ ∀ (d : D) (L' : List Sl) (Dn : Ends) (σ : L2.St) (H G : Hp), g d L = .ok L' → k d ≠ .no → At X.K T B G0 L' σ H G → BP X T W B G0 Lx G pst (k d) Dn → u Dn σ H := by
    have each : ∀ d : { d : D // k d ≠ .no }, ∃ u, PSs X rest u ∧ ∀ (L' : List Sl) (Dn : Ends) (σ : L2.St) (H G : Hp), g d.1 L = .ok L' → At X.K T B G0 L' σ H G → BP X T W B G0 Lx G pst (k d.1) Dn → u Dn σ H := fun ⟨d, hne⟩ => by
      rcases hr d with ⟨L1, e1, u, pu, qu⟩ | e
      · refine ⟨u, pu, fun L' Dn σ H G e2 A h => ?_⟩
        have e3 : L1 = L' := R.ok.inj (e1.symm.trans e2)
        subst e3
        exact qu Dn σ H G A h
      · exact absurd e hne
    exact ⟨fun Dn σ H => ∃ d, (Classical.choose (each d)) Dn σ H, pss_ex fun d => (Classical.choose_spec (each d)).1, fun d L' Dn σ H G e hne A h => ⟨⟨d, hne⟩, (Classical.choose_spec (each ⟨d, hne⟩)).2 L' Dn σ H G e A h⟩⟩
  obtain ⟨u, pu, qu⟩ := hall
  refine ⟨_, pss_cons (ps_asg p pg hs hw h1) pu, fun Dn σ H G A h => ?_⟩
  refine q σ H G _ A ((BP.bind h).mono fun v H1 ⟨G1, d, g1, r1, h2⟩ => ?_)
  have hne : k d ≠ .no := fun e => by rw [e] at h2; exact h2
  rcases hr d with ⟨L1, e1, _⟩ | e
  · refine qg L v d σ H1 G1 _ (A.grown g1) r1 ?_
    rw [e1]
    exact fun σ2 H2 G2 A2 s2 => qu d L1 Dn σ2 H2 G2 e1 hne A2 (h2.later s2)
  · exact absurd e hne
/-- unpacking tuples and lists of two to five -/
theorem rb_asgT2 (i j : Nat) {α : Type} {tg e : Expr} {m : R D} {k : D → D → R α} {pst : α → Ex} {rest : List Stmt} {pos : Pos} (he : RE X T W B G0 Lx L e m) (hg : RG X T W B G0 Lx tg (fun d L => (tupD d).bind fun ds => setsD [gN i, gN j] ds L))
    (hr : ∀ a b, RB X T W B G0 Lx ((L.set i (.im a)).set j (.im b)) rest (k a b) pst) (hs : swapsWithSole [tg] e pos.line X.env = pure false := by rfl) (hw : swappedStores [tg] e X.env = pure none := by rfl)
    (h1 : (assignEach [tg] X.env).map (·.2) = [assign tg X.env] := by rfl) : RB X T W B G0 Lx L (.Assign [tg] e pos :: rest) (m.bind fun d => (tupD d).bind (l2 k)) pst := by
  refine rb_asg he hg (fun d => ?_) hs hw h1
  cases d with
  | tuple ds =>
    rcases l2_cases k ds with ⟨a, b, rfl⟩ | e
    · exact .inl ⟨_, rfl, hr a b⟩
    · exact .inr e
  | _ => exact .inr rfl
theorem rb_asgT3 (i j l : Nat) {α : Type} {tg e : Expr} {m : R D} {k : D → D → D → R α} {pst : α → Ex} {rest : List Stmt} {pos : Pos} (he : RE X T W B G0 Lx L e m) (hg : RG X T W B G0 Lx tg (fun d L => (tupD d).bind fun ds => setsD [gN i, gN j, gN l] ds L))
    (hr : ∀ a b c, RB X T W B G0 Lx (((L.set i (.im a)).set j (.im b)).set l (.im c)) rest (k a b c) pst) (hs : swapsWithSole [tg] e pos.line X.env = pure false := by rfl) (hw : swappedStores [tg] e X.env = pure none := by rfl)
    (h1 : (assignEach [tg] X.env).map (·.2) = [assign tg X.env] := by rfl) : RB X T W B G0 Lx L (.Assign [tg] e pos :: rest) (m.bind fun d => (tupD d).bind (l3 k)) pst := by
  refine rb_asg he hg (fun d => ?_) hs hw h1
  cases d with
  | tuple ds =>
    rcases l3_cases k ds with ⟨a, b, c, rfl⟩ | e
    · exact .inl ⟨_, rfl, hr a b c⟩
    · exact .inr e
  | _ => exact .inr rfl
theorem rb_asgT4 (i j l n : Nat) {α : Type} {tg e : Expr} {m : R D} {k : D → D → D → D → R α} {pst : α → Ex} {rest : List Stmt} {pos : Pos} (he : RE X T W B G0 Lx L e m) (hg : RG X T W B G0 Lx tg (fun d L => (tupD d).bind fun ds => setsD [gN i, gN j, gN l, gN n] ds L))
    (hr : ∀ a b c d, RB X T W B G0 Lx ((((L.set i (.im a)).set j (.im b)).set l (.im c)).set n (.im d)) rest (k a b c d) pst) (hs : swapsWithSole [tg] e pos.line X.env = pure false := by rfl) (hw : swappedStores [tg] e X.env = pure none := by rfl)
    (h1 : (assignEach [tg] X.env).map (·.2) = [assign tg X.env] := by rfl) : RB X T W B G0 Lx L (.Assign [tg] e pos :: rest) (m.bind fun d => (tupD d).bind (l4 k)) pst := by
  refine rb_asg he hg (fun d => ?_) hs hw h1
  cases d with
  | tuple ds =>
    rcases l4_cases k ds with ⟨a, b, c, d, rfl⟩ | e
    · exact .inl ⟨_, rfl, hr a b c d⟩
    · exact .inr e
  | _ => exact .inr rfl
theorem rb_asgL2 (i j : Nat) {α : Type} {tg e : Expr} {m : R D} {k : D → D → R α} {pst : α → Ex} {rest : List Stmt} {pos : Pos} (he : RE X T W B G0 Lx L e m) (hg : RG X T W B G0 Lx tg (fun d L => (asL d).bind fun ds => setsD [gN i, gN j] ds L))
    (hr : ∀ a b, RB X T W B G0 Lx ((L.set i (.im a)).set j (.im b)) rest (k a b) pst) (hs : swapsWithSole [tg] e pos.line X.env = pure false := by rfl) (hw : swappedStores [tg] e X.env = pure none := by rfl)
    (h1 : (assignEach [tg] X.env).map (·.2) = [assign tg X.env] := by rfl) : RB X T W B G0 Lx L (.Assign [tg] e pos :: rest) (m.bind fun d => (asL d).bind (l2 k)) pst := by
  refine rb_asg he hg (fun d => ?_) hs hw h1
  cases d with
  | list ds =>
    rcases l2_cases k ds with ⟨a, b, rfl⟩ | e
    · exact .inl ⟨_, rfl, hr a b⟩
    · exact .inr e
  | _ => exact .inr rfl
theorem rb_asgL3 (i j l : Nat) {α : Type} {tg e : Expr} {m : R D} {k : D → D → D → R α} {pst : α → Ex} {rest : List Stmt} {pos : Pos} (he : RE X T W B G0 Lx L e m) (hg : RG X T W B G0 Lx tg (fun d L => (asL d).bind fun ds => setsD [gN i, gN j, gN l] ds L))
    (hr : ∀ a b c, RB X T W B G0 Lx (((L.set i (.im a)).set j (.im b)).set l (.im c)) rest (k a b c) pst) (hs : swapsWithSole [tg] e pos.line X.env = pure false := by rfl) (hw : swappedStores [tg] e X.env = pure none := by rfl)
    (h1 : (assignEach [tg] X.env).map (·.2) = [assign tg X.env] := by rfl) : RB X T W B G0 Lx L (.Assign [tg] e pos :: rest) (m.bind fun d => (asL d).bind (l3 k)) pst := by
  refine rb_asg he hg (fun d => ?_) hs hw h1
  cases d with
  | list ds =>
    rcases l3_cases k ds with ⟨a, b, c, rfl⟩ | e
    · exact .inl ⟨_, rfl, hr a b c⟩
    · exact .inr e
  | _ => exact .inr rfl
theorem rb_asgL4 (i j l n : Nat) {α : Type} {tg e : Expr} {m : R D} {k : D → D → D → D → R α} {pst : α → Ex} {rest : List Stmt} {pos : Pos} (he : RE X T W B G0 Lx L e m) (hg : RG X T W B G0 Lx tg (fun d L => (asL d).bind fun ds => setsD [gN i, gN j, gN l, gN n] ds L))
    (hr : ∀ a b c d, RB X T W B G0 Lx ((((L.set i (.im a)).set j (.im b)).set l (.im c)).set n (.im d)) rest (k a b c d) pst) (hs : swapsWithSole [tg] e pos.line X.env = pure false := by rfl) (hw : swappedStores [tg] e X.env = pure none := by rfl)
    (h1 : (assignEach [tg] X.env).map (·.2) = [assign tg X.env] := by rfl) : RB X T W B G0 Lx L (.Assign [tg] e pos :: rest) (m.bind fun d => (asL d).bind (l4 k)) pst := by
  refine rb_asg he hg (fun d => ?_) hs hw h1
  cases d with
  | list ds =>
    rcases l4_cases k ds with ⟨a, b, c, d, rfl⟩ | e
    · exact .inl ⟨_, rfl, hr a b c d⟩
    · exact .inr e
  | _ => exact .inr rfl
theorem rb_asgL5 (i j l n o : Nat) {α : Type} {tg e : Expr} {m : R D} {k : D → D → D → D → D → R α} {pst : α → Ex} {rest : List Stmt} {pos : Pos} (he : RE X T W B G0 Lx L e m) (hg : RG X T W B G0 Lx tg (fun d L => (asL d).bind fun ds => setsD [gN i, gN j, gN l, gN n, gN o] ds L))
    (hr : ∀ a b c d e, RB X T W B G0 Lx (((((L.set i (.im a)).set j (.im b)).set l (.im c)).set n (.im d)).set o (.im e)) rest (k a b c d e) pst) (hs : swapsWithSole [tg] e pos.line X.env = pure false := by rfl) (hw : swappedStores [tg] e X.env = pure none := by rfl)
    (h1 : (assignEach [tg] X.env).map (·.2) = [assign tg X.env] := by rfl) : RB X T W B G0 Lx L (.Assign [tg] e pos :: rest) (m.bind fun d => (asL d).bind (l5 k)) pst := by
  refine rb_asg he hg (fun d => ?_) hs hw h1
  cases d with
  | list ds =>
    rcases l5_cases k ds with ⟨a, b, c, d, e, rfl⟩ | e
    · exact .inl ⟨_, rfl, hr a b c d e⟩
    · exact .inr e
  | _ => exact .inr rfl

/-! ### sums, least, greatest -/
def intsD : List D → Option (List Int)
  | [] => some []
  | .int i :: ds => (intsD ds).map (i :: ·)
  | _ :: _ => none
theorem intsD_eq : ∀ {ds : List D} {ns : List Int}, intsD ds = some ns → ds = ns.map .int
  | [], ns, h => by
    have h' : some [] = some ns := h
    cases h'; rfl
  | .int i :: ds, ns, h => by
    have h' : (intsD ds).map (i :: ·) = some ns := h
    cases e : intsD ds with
    | none => rw [e] at h'; cases h'
    | some ms =>
      rw [e] at h'
      have h2 : some (i :: ms) = some ns := h'
      cases h2
      rw [intsD_eq e]; rfl
  | .none :: _, _, h => by cases h
  | .bool _ :: _, _, h => by cases h
  | .str _ :: _, _, h => by cases h
  | .list _ :: _, _, h => by cases h
  | .tuple _ :: _, _, h => by cases h
  | .dict _ :: _, _, h => by cases h
@[simp] theorem intsD_map : ∀ ns : List Int, intsD (ns.map .int) = some ns
  | [] => rfl
  | n :: ns => by
    show (intsD (ns.map .int)).map (n :: ·) = _
    rw [intsD_map ns]; rfl
def onInts (f : List Int → R D) : D → R D
  | .list ds => match intsD ds with
    | some ns => f ns
    | none => .no
  | _ => .no
@[simp] theorem onInts_map (f : List Int → R D) (ns : List Int) : onInts f (.list (ns.map .int)) = f ns := by
  show (match intsD (ns.map PyData.int) with | some ns => f ns | none => .no) = f ns
  rw [intsD_map]
theorem ca_ints {f : List Int → R D} {r : List V → Hp → VK → Prop} (h : ∀ (W : WX) (B G0 : Hp) (Lx : List Sl) (H G : Hp) (a : Addr) (ns : List Int) (Q : VK), Grow T H G H G → SqL X.K H a (ns.map V.int) → GP (rE X.K) X T W B G0 Lx H G (f ns) Q → r [.ref a] H Q) : CaD X T (f1 (onInts f)) r := by
  refine ca_f1 fun W B G0 Lx H G v d Q g rv q => ?_
  cases rv with
  | @lst a ys ds ha ra =>
    have q' : GP (rE X.K) X T W B G0 Lx H G (match intsD ds with | some ns => f ns | none => .no) Q := q
    cases e : intsD ds with
    | none => rw [e] at q'; exact q'.elim
    | some ns =>
      rw [e] at q'
      have e2 := intsD_eq e
      subst e2
      have e3 := ra.ints
      subst e3
      exact h W B G0 Lx H G a ns Q g (SqL.ofG g.sub ha) q'
  | _ => exact q.elim
def dSum : List Int → R D := fun ns => .ok (.int ns.sum)
theorem ca_sum : CaD X T (f1 (onInts dSum)) (rSum X.K) := ca_ints fun W B G0 Lx H G a ns Q g hs q => ⟨a, ns, rfl, hs, q.give g (.int _)⟩
/-- the greatest, the least -/
def maxL : List Int → R D
  | [] => .no
  | n :: ns => .ok (.int (ns.foldl max n))
def minL : List Int → R D
  | [] => .no
  | n :: ns => .ok (.int (ns.foldl min n))
theorem foldl_max_mem : ∀ (ns : List Int) (n : Int), ns.foldl max n ∈ n :: ns
  | [], n => by simp
  | m :: ns, n => by
    have h := foldl_max_mem ns (max n m)
    rw [List.foldl_cons]
    rcases List.mem_cons.mp h with e | e
    · rw [e]
      by_cases hm : n ≤ m
      · rw [Int.max_eq_right hm]; simp
      · rw [Int.max_eq_left (by omega)]; simp
    · simp [e]
theorem foldl_max_ge : ∀ (ns : List Int) (n : Int), ∀ y ∈ n :: ns, y ≤ ns.foldl max n
  | [], n, y, h => by
    have : y = n := by simpa using h
    rw [this]; exact Int.le_refl _
  | m :: ns, n, y, h => by
    rw [List.foldl_cons]
    have ih := foldl_max_ge ns (max n m)
    have h0 := ih (max n m) List.mem_cons_self
    rcases List.mem_cons.mp h with e | e
    · subst e; have : y ≤ max y m := Int.le_max_left _ _; omega
    · rcases List.mem_cons.mp e with e | e
      · subst e; have : y ≤ max n y := Int.le_max_right _ _; omega
      · exact ih y (List.mem_cons_of_mem _ e)
theorem foldl_min_mem : ∀ (ns : List Int) (n : Int), ns.foldl min n ∈ n :: ns
  | [], n => by simp
  | m :: ns, n => by
    have h := foldl_min_mem ns (min n m)
    rw [List.foldl_cons]
    rcases List.mem_cons.mp h with e | e
    · rw [e]
      by_cases hm : n ≤ m
      · rw [Int.min_eq_left hm]; simp
      · rw [Int.min_eq_right (by omega)]; simp
    · simp [e]
theorem foldl_min_le : ∀ (ns : List Int) (n : Int), ∀ y ∈ n :: ns, ns.foldl min n ≤ y
  | [], n, y, h => by
    have : y = n := by simpa using h
    rw [this]; exact Int.le_refl _
  | m :: ns, n, y, h => by
    rw [List.foldl_cons]
    have ih := foldl_min_le ns (min n m)
    have h0 := ih (min n m) List.mem_cons_self
    rcases List.mem_cons.mp h with e | e
    · subst e; have : min y m ≤ y := Int.min_le_left _ _; omega
    · rcases List.mem_cons.mp e with e | e
      · subst e; have : min n y ≤ y := Int.min_le_right _ _; omega
      · exact ih y (List.mem_cons_of_mem _ e)
theorem ca_max : CaD X T (f1 (onInts maxL)) (rMax X.K) := ca_ints fun W B G0 Lx H G a ns Q g hs q => by
  cases ns with
  | nil => exact q.elim
  | cons n ns =>
    refine ⟨a, n :: ns, rfl, hs, by simp, fun m hm hle => ?_⟩
    have e : m = ns.foldl max n := Int.le_antisymm (foldl_max_ge ns n m hm) (hle _ (foldl_max_mem ns n))
    rw [e]
    exact q.give g (.int _)
theorem ca_min : CaD X T (f1 (onInts minL)) (rMin X.K) := ca_ints fun W B G0 Lx H G a ns Q g hs q => by
  cases ns with
  | nil => exact q.elim
  | cons n ns =>
    refine ⟨a, n :: ns, rfl, hs, by simp, fun m hm hle => ?_⟩
    have e : m = ns.foldl min n := Int.le_antisymm (hle _ (foldl_min_mem ns n)) (foldl_min_le ns n m hm)
    rw [e]
    exact q.give g (.int _)
def dMax2 : D → D → R D
  | .int i, .int j => .ok (.int (if j > i then j else i))
  | _, _ => .no
def dMin2 : D → D → R D
  | .int i, .int j => .ok (.int (if j < i then j else i))
  | _, _ => .no
@[simp] theorem dMax2_int (i j : Int) : dMax2 (.int i) (.int j) = .ok (.int (if j > i then j else i)) := rfl
@[simp] theorem dMin2_int (i j : Int) : dMin2 (.int i) (.int j) = .ok (.int (if j < i then j else i)) := rfl
theorem ca_max2 : CaD X T (f2 dMax2) (fun xs H Q => ∃ i j, xs = [.int i, .int j] ∧ Q (.int (if j > i then j else i)) H) := by
  refine ca_f2 fun W B G0 Lx H G v w d e Q g rv rw' h => ?_
  cases rv with
  | int i =>
    cases rw' with
    | int j => exact ⟨i, j, rfl, h.give g (.int _)⟩
    | _ => exact h.elim
  | _ => exact h.elim
theorem ca_min2 : CaD X T (f2 dMin2) (fun xs H Q => ∃ i j, xs = [.int i, .int j] ∧ Q (.int (if j < i then j else i)) H) := by
  refine ca_f2 fun W B G0 Lx H G v w d e Q g rv rw' h => ?_
  cases rv with
  | int i =>
    cases rw' with
    | int j => exact ⟨i, j, rfl, h.give g (.int _)⟩
    | _ => exact h.elim
  | _ => exact h.elim
/-- tuple(x), list(x) -/
def dTuple : D → R D
  | .list xs => .ok (.tuple xs)
  | .tuple xs => .ok (.tuple xs)
  | _ => .no
@[simp] theorem dTuple_list (xs : List D) : dTuple (.list xs) = .ok (.tuple xs) := rfl
@[simp] theorem dTuple_tuple (xs : List D) : dTuple (.tuple xs) = .ok (.tuple xs) := rfl
theorem ca_tuple : CaD X T (f1 dTuple) (fun xs H Q => ∃ p ys, xs = [.ref p] ∧ ((SqL X.K H p ys ∧ ∀ l, H l = none → Q (.ref l) (upd H l (.tup ys))) ∨ (SqT X.K H p ys ∧ Q (.ref p) H))) := by
  refine ca_f1 fun W B G0 Lx H G v d Q g rv h => ?_
  cases rv with
  | @lst a ys ds ha ra => exact ⟨a, ys, rfl, .inl ⟨SqL.ofG g.sub ha, h.giveNew g rfl fun p hp => .tup (.inl (.inl upd_same)) (ra.mono (.new (Rp.none_new g.sub hp)))⟩⟩
  | @tup a ys ds ha ra => exact ⟨a, ys, rfl, .inr ⟨SqT.mono g.sub ha, h.give g (.tup ha ra)⟩⟩
  | _ => exact h.elim
def lListOf : D → R (List D)
  | .list xs => .ok xs
  | .tuple xs => .ok xs
  | _ => .no
@[simp] theorem lListOf_list (xs : List D) : lListOf (.list xs) = .ok xs := rfl
@[simp] theorem lListOf_tuple (xs : List D) : lListOf (.tuple xs) = .ok xs := rfl
theorem cl_list : CaL X T (l1 lListOf) (fun xs H Q => ∃ p ys, xs = [.ref p] ∧ (SqL X.K H p ys ∨ SqT X.K H p ys) ∧ ∀ l, H l = none → Q (.ref l) (upd H l (.lst ys))) := by
  refine ca_l1 fun W B G0 Lx H G v d Q g rv h => ?_
  cases rv with
  | @lst a ys ds ha ra => exact ⟨a, ys, rfl, .inl (SqL.ofG g.sub ha), fun l hl => h _ _ G (g.allocH hl) ⟨l, ys, rfl, hl, upd_same, Rp.none_new g.sub hl, ra⟩⟩
  | @tup a ys ds ha ra => exact ⟨a, ys, rfl, .inr (SqT.mono g.sub ha), fun l hl => h _ _ G (g.allocH hl) ⟨l, ys, rfl, hl, upd_same, Rp.none_new g.sub hl, ra⟩⟩
  | _ => exact h.elim
end
end DL
namespace DL
open PySem PySem.Spec PyProof.Rows L2

def loK {α β : Type} (k : β → R α) (r : D → R α) : Lo β → R α
  | .fin b => k b
  | .rt d => r d
@[simp] theorem loK_fin {α β : Type} (k : β → R α) (r : D → R α) (b : β) : loK k r (.fin b) = k b := rfl
@[simp] theorem loK_rt {α β : Type} (k : β → R α) (r : D → R α) (d : D) : loK k r (.rt d) = r d := rfl
theorem R.bind_self {α : Type} (m : R α) : (m.bind fun a => .ok a) = m := by cases m <;> rfl
/-! ### argument lists of a known length -/
def ap0 {α : Type} (f : R α) : List D → R α
  | [] => f
  | _ => .no
theorem ap0_l {α : Type} (f : R α)  : ap0 f [] = f := rfl
theorem ap0_len {α : Type} (f : R α) (ds : List D) (h : ap0 f ds ≠ .no) : ds.length = 0 := by
  unfold ap0 at h
  split at h
  · rfl
  · exact absurd rfl h
theorem len0 {ds : List D} (h : ds.length = 0) : ds = [] := by
  match ds, h with
  | [], _ => exact rfl
def ap1 {α : Type} (f : D → R α) : List D → R α
  | [x0] => f x0
  | _ => .no
theorem ap1_l {α : Type} (f : D → R α) (x0 : D) : ap1 f [x0] = f x0 := rfl
theorem ap1_len {α : Type} (f : D → R α) (ds : List D) (h : ap1 f ds ≠ .no) : ds.length = 1 := by
  unfold ap1 at h
  split at h
  · rfl
  · exact absurd rfl h
theorem len1 {ds : List D} (h : ds.length = 1) : ∃ x0, ds = [x0] := by
  match ds, h with
  | [x0], _ => exact ⟨_, rfl⟩
def ap2 {α : Type} (f : D → D → R α) : List D → R α
  | [x0, x1] => f x0 x1
  | _ => .no
theorem ap2_l {α : Type} (f : D → D → R α) (x0 x1 : D) : ap2 f [x0, x1] = f x0 x1 := rfl
theorem ap2_len {α : Type} (f : D → D → R α) (ds : List D) (h : ap2 f ds ≠ .no) : ds.length = 2 := by
  unfold ap2 at h
  split at h
  · rfl
  · exact absurd rfl h
theorem len2 {ds : List D} (h : ds.length = 2) : ∃ x0 x1, ds = [x0, x1] := by
  match ds, h with
  | [x0, x1], _ => exact ⟨_, _, rfl⟩
def ap3 {α : Type} (f : D → D → D → R α) : List D → R α
  | [x0, x1, x2] => f x0 x1 x2
  | _ => .no
theorem ap3_l {α : Type} (f : D → D → D → R α) (x0 x1 x2 : D) : ap3 f [x0, x1, x2] = f x0 x1 x2 := rfl
theorem ap3_len {α : Type} (f : D → D → D → R α) (ds : List D) (h : ap3 f ds ≠ .no) : ds.length = 3 := by
  unfold ap3 at h
  split at h
  · rfl
  · exact absurd rfl h
theorem len3 {ds : List D} (h : ds.length = 3) : ∃ x0 x1 x2, ds = [x0, x1, x2] := by
  match ds, h with
  | [x0, x1, x2], _ => exact ⟨_, _, _, rfl⟩
def ap4 {α : Type} (f : D → D → D → D → R α) : List D → R α
  | [x0, x1, x2, x3] => f x0 x1 x2 x3
  | _ => .no
theorem ap4_l {α : Type} (f : D → D → D → D → R α) (x0 x1 x2 x3 : D) : ap4 f [x0, x1, x2, x3] = f x0 x1 x2 x3 := rfl
theorem ap4_len {α : Type} (f : D → D → D → D → R α) (ds : List D) (h : ap4 f ds ≠ .no) : ds.length = 4 := by
  unfold ap4 at h
  split at h
  · rfl
  · exact absurd rfl h
theorem len4 {ds : List D} (h : ds.length = 4) : ∃ x0 x1 x2 x3, ds = [x0, x1, x2, x3] := by
  match ds, h with
  | [x0, x1, x2, x3], _ => exact ⟨_, _, _, _, rfl⟩
def ap5 {α : Type} (f : D → D → D → D → D → R α) : List D → R α
  | [x0, x1, x2, x3, x4] => f x0 x1 x2 x3 x4
  | _ => .no
theorem ap5_l {α : Type} (f : D → D → D → D → D → R α) (x0 x1 x2 x3 x4 : D) : ap5 f [x0, x1, x2, x3, x4] = f x0 x1 x2 x3 x4 := rfl
theorem ap5_len {α : Type} (f : D → D → D → D → D → R α) (ds : List D) (h : ap5 f ds ≠ .no) : ds.length = 5 := by
  unfold ap5 at h
  split at h
  · rfl
  · exact absurd rfl h
theorem len5 {ds : List D} (h : ds.length = 5) : ∃ x0 x1 x2 x3 x4, ds = [x0, x1, x2, x3, x4] := by
  match ds, h with
  | [x0, x1, x2, x3, x4], _ => exact ⟨_, _, _, _, _, rfl⟩
def ap6 {α : Type} (f : D → D → D → D → D → D → R α) : List D → R α
  | [x0, x1, x2, x3, x4, x5] => f x0 x1 x2 x3 x4 x5
  | _ => .no
theorem ap6_l {α : Type} (f : D → D → D → D → D → D → R α) (x0 x1 x2 x3 x4 x5 : D) : ap6 f [x0, x1, x2, x3, x4, x5] = f x0 x1 x2 x3 x4 x5 := rfl
theorem ap6_len {α : Type} (f : D → D → D → D → D → D → R α) (ds : List D) (h : ap6 f ds ≠ .no) : ds.length = 6 := by
  unfold ap6 at h
  split at h
  · rfl
  · exact absurd rfl h
theorem len6 {ds : List D} (h : ds.length = 6) : ∃ x0 x1 x2 x3 x4 x5, ds = [x0, x1, x2, x3, x4, x5] := by
  match ds, h with
  | [x0, x1, x2, x3, x4, x5], _ => exact ⟨_, _, _, _, _, _, rfl⟩
def ap7 {α : Type} (f : D → D → D → D → D → D → D → R α) : List D → R α
  | [x0, x1, x2, x3, x4, x5, x6] => f x0 x1 x2 x3 x4 x5 x6
  | _ => .no
theorem ap7_l {α : Type} (f : D → D → D → D → D → D → D → R α) (x0 x1 x2 x3 x4 x5 x6 : D) : ap7 f [x0, x1, x2, x3, x4, x5, x6] = f x0 x1 x2 x3 x4 x5 x6 := rfl
theorem ap7_len {α : Type} (f : D → D → D → D → D → D → D → R α) (ds : List D) (h : ap7 f ds ≠ .no) : ds.length = 7 := by
  unfold ap7 at h
  split at h
  · rfl
  · exact absurd rfl h
theorem len7 {ds : List D} (h : ds.length = 7) : ∃ x0 x1 x2 x3 x4 x5 x6, ds = [x0, x1, x2, x3, x4, x5, x6] := by
  match ds, h with
  | [x0, x1, x2, x3, x4, x5, x6], _ => exact ⟨_, _, _, _, _, _, _, rfl⟩
def ap8 {α : Type} (f : D → D → D → D → D → D → D → D → R α) : List D → R α
  | [x0, x1, x2, x3, x4, x5, x6, x7] => f x0 x1 x2 x3 x4 x5 x6 x7
  | _ => .no
theorem ap8_l {α : Type} (f : D → D → D → D → D → D → D → D → R α) (x0 x1 x2 x3 x4 x5 x6 x7 : D) : ap8 f [x0, x1, x2, x3, x4, x5, x6, x7] = f x0 x1 x2 x3 x4 x5 x6 x7 := rfl
theorem ap8_len {α : Type} (f : D → D → D → D → D → D → D → D → R α) (ds : List D) (h : ap8 f ds ≠ .no) : ds.length = 8 := by
  unfold ap8 at h
  split at h
  · rfl
  · exact absurd rfl h
theorem len8 {ds : List D} (h : ds.length = 8) : ∃ x0 x1 x2 x3 x4 x5 x6 x7, ds = [x0, x1, x2, x3, x4, x5, x6, x7] := by
  match ds, h with
  | [x0, x1, x2, x3, x4, x5, x6, x7], _ => exact ⟨_, _, _, _, _, _, _, _, rfl⟩
def ap9 {α : Type} (f : D → D → D → D → D → D → D → D → D → R α) : List D → R α
  | [x0, x1, x2, x3, x4, x5, x6, x7, x8] => f x0 x1 x2 x3 x4 x5 x6 x7 x8
  | _ => .no
theorem ap9_l {α : Type} (f : D → D → D → D → D → D → D → D → D → R α) (x0 x1 x2 x3 x4 x5 x6 x7 x8 : D) : ap9 f [x0, x1, x2, x3, x4, x5, x6, x7, x8] = f x0 x1 x2 x3 x4 x5 x6 x7 x8 := rfl
theorem ap9_len {α : Type} (f : D → D → D → D → D → D → D → D → D → R α) (ds : List D) (h : ap9 f ds ≠ .no) : ds.length = 9 := by
  unfold ap9 at h
  split at h
  · rfl
  · exact absurd rfl h
theorem len9 {ds : List D} (h : ds.length = 9) : ∃ x0 x1 x2 x3 x4 x5 x6 x7 x8, ds = [x0, x1, x2, x3, x4, x5, x6, x7, x8] := by
  match ds, h with
  | [x0, x1, x2, x3, x4, x5, x6, x7, x8], _ => exact ⟨_, _, _, _, _, _, _, _, _, rfl⟩
def ap10 {α : Type} (f : D → D → D → D → D → D → D → D → D → D → R α) : List D → R α
  | [x0, x1, x2, x3, x4, x5, x6, x7, x8, x9] => f x0 x1 x2 x3 x4 x5 x6 x7 x8 x9
  | _ => .no
theorem ap10_l {α : Type} (f : D → D → D → D → D → D → D → D → D → D → R α) (x0 x1 x2 x3 x4 x5 x6 x7 x8 x9 : D) : ap10 f [x0, x1, x2, x3, x4, x5, x6, x7, x8, x9] = f x0 x1 x2 x3 x4 x5 x6 x7 x8 x9 := rfl
theorem ap10_len {α : Type} (f : D → D → D → D → D → D → D → D → D → D → R α) (ds : List D) (h : ap10 f ds ≠ .no) : ds.length = 10 := by
  unfold ap10 at h
  split at h
  · rfl
  · exact absurd rfl h
theorem len10 {ds : List D} (h : ds.length = 10) : ∃ x0 x1 x2 x3 x4 x5 x6 x7 x8 x9, ds = [x0, x1, x2, x3, x4, x5, x6, x7, x8, x9] := by
  match ds, h with
  | [x0, x1, x2, x3, x4, x5, x6, x7, x8, x9], _ => exact ⟨_, _, _, _, _, _, _, _, _, _, rfl⟩
section
variable {X : Cx} {T : List Addr} {W : WX} {B G0 : Hp} {Lx L : List Sl}
/-- the slots told plainly -/
theorem sh {α : Type} (L : List Sl) {sts : List Stmt} {m : R α} {pst : α → Ex} (h : RB X T W B G0 Lx L sts m pst) : RB X T W B G0 Lx L sts m pst := h
theorem rb_seqN {α β : Type} {st : Stmt} {rest : List Stmt} {m : R β} {k : β → R α} {ex : β → List Sl} {pst : α → Ex} (h1 : RS X T W B G0 Lx L st m (fun b => .nx (ex b))) (h2 : ∀ b, RB X T W B G0 Lx (ex b) rest (k b) pst) : RB X T W B G0 Lx L (st :: rest) (m.bind k) pst :=
  rb_seq h1 h2
theorem rb_seqL {α β : Type} {st : Stmt} {rest : List Stmt} {m : R (Lo β)} {k : β → R α} {r : D → R α} {lb : β → List Sl} {pst : α → Ex} (h1 : RS X T W B G0 Lx L st m (loE lb)) (h2 : ∀ b, RB X T W B G0 Lx (lb b) rest (k b) pst)
    (h3 : ∀ d, ∃ a, r d = .ok a ∧ (pst a = .rt d ∨ pst a = .rn d) := by first | exact fun d => ⟨_, rfl, Or.inl rfl⟩ | exact fun d => ⟨_, rfl, Or.inr rfl⟩) : RB X T W B G0 Lx L (st :: rest) (m.bind (loK k r)) pst :=
  rb_seq h1 fun o => by
    cases o with
    | fin b => exact h2 b
    | rt d => exact h3 d
/-- return e at a def's own level -/
theorem rb_retE {e : Expr} {m : R D} {pst : D → Ex} {rest : List Stmt} {pos : Pos} (he : RE X T W B G0 Lx L e m) (h : ∀ d, pst d = .rt d ∨ pst d = .rn d := by first | exact fun _ => Or.inl rfl | exact fun _ => Or.inr rfl) :
    RB X T W B G0 Lx L (.Return (some e) pos :: rest) m pst := by
  have z := rb_ret (X := X) (T := T) (W := W) (B := B) (G0 := G0) (Lx := Lx) (L := L) (rest := rest) (pos := pos) (f := fun d => d) (pst := pst) he h
  rwa [R.bind_self] at z
/-- x[a:b] of a list, a tuple, a text: data -/
def cutX : D → Option Int → Option Int → R D
  | .list xs, a, b => .ok (.list (cutD xs a b))
  | .tuple xs, a, b => .ok (.tuple (cutD xs a b))
  | .str s, a, b => if s.length ≤ sizeLine then .ok (.str (cutS s a b)) else .no
  | _, _, _ => .no
@[simp] theorem cutX_list (xs : List D) (a b : Option Int) : cutX (.list xs) a b = .ok (.list (cutD xs a b)) := rfl
@[simp] theorem cutX_tuple (xs : List D) (a b : Option Int) : cutX (.tuple xs) a b = .ok (.tuple (cutD xs a b)) := rfl
def slX (m : R D) (ml mh : R (Option Int)) : R D := m.bind fun x => ml.bind fun a => mh.bind fun b => cutX x a b
@[simp] theorem slX_ok (x : D) (a b : Option Int) : slX (.ok x) (.ok a) (.ok b) = cutX x a b := rfl
def slO (m : R D) (ml mh : R (Option Int)) : R (List D) := m.bind fun x => ml.bind fun a => mh.bind fun b => (asL x).bind fun xs => .ok (cutD xs a b)
@[simp] theorem slO_ok (xs : List D) (a b : Option Int) : slO (.ok (.list xs)) (.ok a) (.ok b) = .ok (cutD xs a b) := rfl
theorem ro_sl {e : Expr} {lo hi : Option Expr} {m : R D} {ml mh : R (Option Int)} {p2 pos : Pos} (he : RE X T W B G0 Lx L e m) (hl : RP X T W B G0 Lx L lo ml) (hh : RP X T W B G0 Lx L hi mh) :
    RO X T W B G0 Lx L (.Subscript e (.Slice lo hi none p2) pos) (slO m ml mh) := ro_slice he hl hh
theorem re_sl {e : Expr} {lo hi : Option Expr} {m : R D} {ml mh : R (Option Int)} {p2 pos : Pos} (he : RE X T W B G0 Lx L e m) (hl : RP X T W B G0 Lx L lo ml) (hh : RP X T W B G0 Lx L hi mh) :
    RE X T W B G0 Lx L (.Subscript e (.Slice lo hi none p2) pos) (slX m ml mh) := by
  obtain ⟨te, pe, qe⟩ := he
  obtain ⟨tl, pl, ql⟩ := hl
  obtain ⟨th, ph, qh⟩ := hh
  refine ⟨_, pe_slice (sl_list.or (sl_tupA.or sl_str)) pe pl ph, fun σ H G Q A h => ?_⟩
  refine qe σ H G _ A ((GP.bind dnE h).mono fun v H1 ⟨G1, d, g1, r1, h1⟩ => ql σ H1 G1 _ (A.grown g1) ((GP.bind dnE h1).mono fun a H2 ⟨G2, a', g2, r2, h2⟩ =>
    qh σ H2 G2 _ ((A.grown g1).grown g2) ((GP.bind dnE h2).mono fun b H3 ⟨G3, b', g3, r3, h3⟩ => ?_)))
  have r2 : a = a' := r2
  have r3 : b = b' := r3
  subst r2
  subst r3
  have r4 := r1.mono (g2.ggr.trans g3.ggr)
  cases r4 with
  | @lst p xs ds hx rx =>
    refine .inl ⟨p, xs, rfl, SqL.ofG g3.sub hx, fun p' hp => ?_⟩
    exact h3 _ _ (upd G3 p' (.lst (cutV xs a b))) (g3.entry.alloc hp rfl) (.lst upd_same ((rx.cut _ _).mono (.new (Rp.none_new g3.sub hp))))
  | @tup p xs ds hx rx =>
    refine .inr (.inl ⟨p, xs, rfl, SqT.mono g3.sub hx, fun e => ?_, fun _ p' hp => ?_⟩)
    · rw [rx.length] at e
      have h4 : GP (rE X.K) X T W B G0 Lx H3 G3 (.ok (.tuple (cutD ds a b))) Q := h3
      rw [cutD_all e] at h4
      exact h4.give g3.entry (.tup hx rx)
    · exact h3 _ _ (upd G3 p' (.tup (cutV xs a b))) (g3.entry.alloc hp rfl) (.tup (.inl (.inl upd_same)) ((rx.cut _ _).mono (.new (Rp.none_new g3.sub hp))))
  | str z =>
    obtain ⟨hz, h4⟩ := GP.gd (c := z.length ≤ sizeLine) h3
    exact .inr (.inr ⟨z, rfl, hz, h4.give g3.entry (.str _)⟩)
  | _ => exact h3.elim
/-- len(x), x a list of one's own -/
theorem re_lenO (i : Nat) {ds : List D} {x : Str} {p p2 pos : Pos} (hm : X.mg "len" = none) (hL : L[i]? = some (.ol ds) := by rfl) (hN : X.N[i]? = some x := by rfl)
    (hv : Vis X.env.scope x := by first | exact Or.inl rfl | exact Or.inr (Or.inl rfl) | exact Or.inr (Or.inr rfl)) (hg : Gl X "len" := by rfl) (hd : (x == ("__debug__" : Str)) = false := by decide) (hcd : (x == ("__classdict__" : Str)) = false := by decide) :
    RE X T W B G0 Lx L (.Call (.Name "len" p) [.Name x p2] [] pos) (.ok (.int ds.length)) := by
  refine ⟨_, pe_callB call_len_seq hg hm PySem.boot_len (pa_cons (pv i hN hv hd hcd) pa_nil rfl) (by decide) (by decide) rfl rfl, fun σ H G Q A h => ?_⟩
  obtain ⟨a, vs, ea, ha, hg, hb, ra⟩ := A.sl i _ hL
  refine ⟨.ref a, ea, a, vs, rfl, .inl (.inl (.inl ha)), ?_⟩
  rw [ra.length]
  exact h.now A (.int _)
/-- x[e], x a list of one's own -/
theorem re_ixO (i : Nat) {ds : List D} {x : Str} {e : Expr} {m : R D} {p2 pos : Pos} (he : RE X T W B G0 Lx L e m) (hL : L[i]? = some (.ol ds) := by rfl) (hN : X.N[i]? = some x := by rfl)
    (hv : Vis X.env.scope x := by first | exact Or.inl rfl | exact Or.inr (Or.inl rfl) | exact Or.inr (Or.inr rfl)) (hs : PlainIx e := by exact fun _ _ => rfl) (hd : (x == ("__debug__" : Str)) = false := by decide) (hcd : (x == ("__classdict__" : Str)) = false := by decide) :
    RE X T W B G0 Lx L (.Subscript (.Name x p2) e pos) (m.bind fun d => getD (.list ds) d) := by
  obtain ⟨te, pe, qe⟩ := he
  refine ⟨_, pe_ix ix_list (pv i hN hv hd hcd) pe hs, fun σ H G Q A h => ?_⟩
  obtain ⟨a, vs, ea, _⟩ := A.sl i _ hL
  refine ⟨.ref a, ea, qe σ H G _ A ((GP.bind dnE h).mono fun v H1 ⟨G1, d, g1, r1, h1⟩ => ?_)⟩
  obtain ⟨a1, vs1, ea1, ha1, hg1, hb1, ra1⟩ := (A.grown g1).sl i _ hL
  rw [ea] at ea1
  cases ea1
  cases r1 with
  | int j =>
    have h2 : GP (rE X.K) X T W B G0 Lx H1 G1 (match atI ds j with | some d => R.ok d | none => .no) Q := h1
    cases e2 : atI ds j with
    | none => rw [e2] at h2; exact h2.elim
    | some d =>
      rw [e2] at h2
      obtain ⟨v2, hv2, rv2⟩ := atI_rel ra1 e2
      exact ⟨a, vs1, j, v2, rfl, rfl, .inl (.inl ha1), hv2, h2.give g1.entry rv2⟩
  | _ => exact h1.elim

/-! a target that takes a tuple or a list -/
theorem pg_or {tg : Expr} {t1 t2 : TG} (h1 : PG X tg t1) (h2 : PG X tg t2) : PG X tg (fun v σ H Q => t1 v σ H Q ∨ t2 v σ H Q) := by
  refine ⟨fun pins s σ H v u Q I r h => ?_⟩
  rcases h with h | h
  · exact h1.run pins s σ H v u Q I r h
  · exact h2.run pins s σ H v u Q I r h
theorem rg_seq {es : List Expr} {k : Nat} {pos : Pos} {n : Nat} {gs : List (D → List Sl → R (List Sl))} (hc : X.calm = true) (h : RGs X T W B G0 Lx es gs) (hl : gs.length = n := by rfl)
    (hn : (assignEach es X.env).length = n := by rfl) (hst : (assignEach es X.env).findIdx? (·.1) = none := by rfl) : RG X T W B G0 Lx (.Tuple es k pos) (fun d L => (seqD d).bind fun ds => setsD gs ds L) := by
  obtain ⟨t1, p1, q1⟩ := rg_tup hc h hl hn hst (k := k) (pos := pos)
  obtain ⟨t2, p2, q2⟩ := rg_lst hc h hl hn hst (k := k) (pos := pos)
  refine ⟨_, pg_or p1 p2, fun L v d σ H G Q A r h => ?_⟩
  cases d with
  | tuple ds => exact .inl (q1 L v _ σ H G Q A r h)
  | list ds => exact .inr (q2 L v _ σ H G Q A r h)
  | _ => exact h.elim
theorem rb_asg2 (i j : Nat) {α : Type} {tg e : Expr} {m : R D} {k : D → D → R α} {pst : α → Ex} {rest : List Stmt} {pos : Pos} (he : RE X T W B G0 Lx L e m) (hg : RG X T W B G0 Lx tg (fun d L => (seqD d).bind fun ds => setsD [gN i, gN j] ds L))
    (hr : ∀ a b, RB X T W B G0 Lx ((L.set i (.im a)).set j (.im b)) rest (k a b) pst) (hs : swapsWithSole [tg] e pos.line X.env = pure false := by rfl) (hw : swappedStores [tg] e X.env = pure none := by rfl)
    (h1 : (assignEach [tg] X.env).map (·.2) = [assign tg X.env] := by rfl) : RB X T W B G0 Lx L (.Assign [tg] e pos :: rest) (m.bind fun d => (seqD d).bind (l2 k)) pst := by
  refine rb_asg he hg (fun d => ?_) hs hw h1
  cases d with
  | tuple ds =>
    rcases l2_cases k ds with ⟨a, b, rfl⟩ | e
    · exact .inl ⟨_, rfl, hr a b⟩
    · exact .inr e
  | list ds =>
    rcases l2_cases k ds with ⟨a, b, rfl⟩ | e
    · exact .inl ⟨_, rfl, hr a b⟩
    · exact .inr e
  | _ => exact .inr rfl
theorem rb_asg3 (i j l : Nat) {α : Type} {tg e : Expr} {m : R D} {k : D → D → D → R α} {pst : α → Ex} {rest : List Stmt} {pos : Pos} (he : RE X T W B G0 Lx L e m) (hg : RG X T W B G0 Lx tg (fun d L => (seqD d).bind fun ds => setsD [gN i, gN j, gN l] ds L))
    (hr : ∀ a b c, RB X T W B G0 Lx (((L.set i (.im a)).set j (.im b)).set l (.im c)) rest (k a b c) pst) (hs : swapsWithSole [tg] e pos.line X.env = pure false := by rfl) (hw : swappedStores [tg] e X.env = pure none := by rfl)
    (h1 : (assignEach [tg] X.env).map (·.2) = [assign tg X.env] := by rfl) : RB X T W B G0 Lx L (.Assign [tg] e pos :: rest) (m.bind fun d => (seqD d).bind (l3 k)) pst := by
  refine rb_asg he hg (fun d => ?_) hs hw h1
  cases d with
  | tuple ds =>
    rcases l3_cases k ds with ⟨a, b, c, rfl⟩ | e
    · exact .inl ⟨_, rfl, hr a b c⟩
    · exact .inr e
  | list ds =>
    rcases l3_cases k ds with ⟨a, b, c, rfl⟩ | e
    · exact .inl ⟨_, rfl, hr a b c⟩
    · exact .inr e
  | _ => exact .inr rfl
theorem rb_asg4 (i j l n : Nat) {α : Type} {tg e : Expr} {m : R D} {k : D → D → D → D → R α} {pst : α → Ex} {rest : List Stmt} {pos : Pos} (he : RE X T W B G0 Lx L e m) (hg : RG X T W B G0 Lx tg (fun d L => (seqD d).bind fun ds => setsD [gN i, gN j, gN l, gN n] ds L))
    (hr : ∀ a b c d, RB X T W B G0 Lx ((((L.set i (.im a)).set j (.im b)).set l (.im c)).set n (.im d)) rest (k a b c d) pst) (hs : swapsWithSole [tg] e pos.line X.env = pure false := by rfl) (hw : swappedStores [tg] e X.env = pure none := by rfl)
    (h1 : (assignEach [tg] X.env).map (·.2) = [assign tg X.env] := by rfl) : RB X T W B G0 Lx L (.Assign [tg] e pos :: rest) (m.bind fun d => (seqD d).bind (l4 k)) pst := by
  refine rb_asg he hg (fun d => ?_) hs hw h1
  cases d with
  | tuple ds =>
    rcases l4_cases k ds with ⟨a, b, c, d, rfl⟩ | e
    · exact .inl ⟨_, rfl, hr a b c d⟩
    · exact .inr e
  | list ds =>
    rcases l4_cases k ds with ⟨a, b, c, d, rfl⟩ | e
    · exact .inl ⟨_, rfl, hr a b c d⟩
    · exact .inr e
  | _ => exact .inr rfl
theorem rb_asg5 (i j l n o : Nat) {α : Type} {tg e : Expr} {m : R D} {k : D → D → D → D → D → R α} {pst : α → Ex} {rest : List Stmt} {pos : Pos} (he : RE X T W B G0 Lx L e m) (hg : RG X T W B G0 Lx tg (fun d L => (seqD d).bind fun ds => setsD [gN i, gN j, gN l, gN n, gN o] ds L))
    (hr : ∀ a b c d e, RB X T W B G0 Lx (((((L.set i (.im a)).set j (.im b)).set l (.im c)).set n (.im d)).set o (.im e)) rest (k a b c d e) pst) (hs : swapsWithSole [tg] e pos.line X.env = pure false := by rfl) (hw : swappedStores [tg] e X.env = pure none := by rfl)
    (h1 : (assignEach [tg] X.env).map (·.2) = [assign tg X.env] := by rfl) : RB X T W B G0 Lx L (.Assign [tg] e pos :: rest) (m.bind fun d => (seqD d).bind (l5 k)) pst := by
  refine rb_asg he hg (fun d => ?_) hs hw h1
  cases d with
  | tuple ds =>
    rcases l5_cases k ds with ⟨a, b, c, d, e, rfl⟩ | e
    · exact .inl ⟨_, rfl, hr a b c d e⟩
    · exact .inr e
  | list ds =>
    rcases l5_cases k ds with ⟨a, b, c, d, e, rfl⟩ | e
    · exact .inl ⟨_, rfl, hr a b c d e⟩
    · exact .inr e
  | _ => exact .inr rfl

/-! any truth -/
def truX : D → R Bool
  | .none => .ok false
  | .bool b => .ok b
  | .int i => .ok (i != 0)
  | .str s => if s.length ≤ sizeLine then .ok ((s.length : Int) != 0) else .no
  | .list xs => .ok (!xs.isEmpty)
  | .tuple xs => .ok (!xs.isEmpty)
  | .dict _ => .no
@[simp] theorem truX_bool (b : Bool) : truX (.bool b) = .ok b := rfl
@[simp] theorem truX_list (xs : List D) : truX (.list xs) = .ok (!xs.isEmpty) := rfl
@[simp] theorem truX_tuple (xs : List D) : truX (.tuple xs) = .ok (!xs.isEmpty) := rfl
theorem RpA.isEmpty {K : PySem.W.Frag} {G : Hp} {xs : List V} {ds : List D} (r : RpA K G xs ds) : xs.isEmpty = ds.isEmpty := by cases r <;> rfl
theorem rt_any {e : Expr} {m : R D} (h : RE X T W B G0 Lx L e m) (he : ∀ whole, isTrue e X.env whole = (do let v ← whole; standAt e.pos; holding [v] (truthy v)) := by intro _; rfl) : RT X T W B G0 Lx L e (m.bind truX) := by
  obtain ⟨t, p, q⟩ := h
  refine ⟨_, pt_truth p he, fun σ H G Q A h => ?_⟩
  refine q σ H G _ A ((GP.bind dnT h).mono fun v H1 ⟨G1, d, g1, r1, h1⟩ => ?_)
  cases r1 with
  | non => exact ⟨false, rfl, h1 false H1 G1 g1.entry rfl⟩
  | bl b => exact ⟨b, rfl, h1 b H1 G1 g1.entry rfl⟩
  | int b => exact ⟨_, rfl, h1 _ H1 G1 g1.entry rfl⟩
  | str z =>
    obtain ⟨hz, h4⟩ := GP.gd (c := z.length ≤ sizeLine) h1
    exact ⟨_, ⟨hz, rfl⟩, h4 _ H1 G1 g1.entry rfl⟩
  | @lst a xs ds ha ra => exact ⟨_, .inl ⟨xs, SqL.ofG g1.sub ha, rfl⟩, h1 _ H1 G1 g1.entry (by rw [ra.isEmpty])⟩
  | @tup a xs ds ha ra => exact ⟨_, .inr (.inl ⟨xs, SqT.mono g1.sub ha, rfl⟩), h1 _ H1 G1 g1.entry (by rw [ra.isEmpty])⟩
  | _ => exact h1.elim

/-! ### list comprehensions, told by their target's form -/
/-- a comprehension's reading, whole -/
def RC (X : Cx) (T : List Addr) (W : WX) (B G0 : Hp) (Lx L : List Sl) (tg iter : Expr) (ifs : List Expr) (elt : Expr) (scope : Scope) (vs : List Nat) (m : R (List D)) : Prop :=
  ∃ wi gg tt te, PI X tg iter wi ∧ (∀ (s : Shared) (H : Hp) (C : Addr) (cl : List (Str × Addr)) (fp : List Addr), PG (X.blk s H scope (compEnvC scope cl C X.env) fp) tg gg) ∧ (∀ (s : Shared) (H : Hp) (C : Addr) (cl : List (Str × Addr)) (fp : List Addr), PTs (X.blk s H scope (compEnvC scope cl C X.env) fp) ifs tt) ∧
      (∀ (s : Shared) (H : Hp) (C : Addr) (cl : List (Str × Addr)) (fp : List Addr), PE (X.blk s H scope (compEnvC scope cl C X.env) fp) elt te) ∧
      ∀ (σ : L2.St) (H G : Hp) (Q : VK), At X.K T B G0 L σ H G → GP (rL X.K) X T W B G0 Lx H G m Q → tLc wi gg tt te vs σ H Q
theorem rc_N (i : Nat) {x : Str} {px : Pos} {elt iter : Expr} {ifs : List Expr} {scope : Scope} {vs : List Nat} {mi : R (List D)} {mt : D → R Bool} {me : D → R D}
    (hi : RI X T W B G0 Lx L (.Name x px) iter mi) (hg : ∀ p, RGc (Blk X scope p) T W0 B G0 Lx (.Name x px) vs (gN i))
    (ht : ∀ p d, RTs (Blk X scope p) T W0 B G0 Lx ((wipeL L vs).set i (.im d)) ifs (mt d)) (he : ∀ p d, RE (Blk X scope p) T W0 B G0 Lx ((wipeL L vs).set i (.im d)) elt (me d)) :
    RC X T W B G0 Lx L (.Name x px) iter ifs elt scope vs (mi.bind (compM fun x => cOne (mt x) (me x))) :=
  lc_read (mt := mt) (me := me) hi hg (fun p d L1 e => by cases e; exact ht p d) (fun p d L1 e => by cases e; exact he p d) (fun d => .inl ⟨_, rfl⟩)
theorem cOne_t2 (mt : D → D → R Bool) (me : D → D → R D) : (fun x => cOne (t2 mt x) (t2 me x)) = fun x => t2 (fun a b => cOne (mt a b) (me a b)) x := by
  funext x
  unfold t2
  split <;> rfl
theorem rc_T2 (i j : Nat) {tg : Expr} {elt iter : Expr} {ifs : List Expr} {scope : Scope} {vs : List Nat} {mi : R (List D)} {mt : D → D → R Bool} {me : D → D → R D}
    (hi : RI X T W B G0 Lx L tg iter mi) (hg : ∀ p, RGc (Blk X scope p) T W0 B G0 Lx tg vs (fun d L => (tupD d).bind fun ds => setsD [gN i, gN j] ds L))
    (ht : ∀ p a b, RTs (Blk X scope p) T W0 B G0 Lx (((wipeL L vs).set i (.im a)).set j (.im b)) ifs (mt a b)) (he : ∀ p a b, RE (Blk X scope p) T W0 B G0 Lx (((wipeL L vs).set i (.im a)).set j (.im b)) elt (me a b)) :
    RC X T W B G0 Lx L tg iter ifs elt scope vs (mi.bind (compM fun x => t2 (fun a b => cOne (mt a b) (me a b)) x)) := by
  have key : ∀ x L1, ((tupD x).bind fun ds => setsD [gN i, gN j] ds (wipeL L vs)) = .ok L1 → ∃ a b, x = .tuple [a, b] ∧ L1 = (((wipeL L vs).set i (.im a)).set j (.im b)) := by
    intro x L1 e
    rcases t2_cases (α := Unit) (fun _ _ => .ok ()) x with ⟨a, b, rfl⟩ | h
    · exact ⟨a, b, rfl, (R.ok.inj e).symm⟩
    · exfalso
      cases x with
      | tuple xs =>
        have hl := setsD_len _ _ _ _ (show setsD [gN i, gN j] xs (wipeL L vs) = .ok L1 from e)
        match xs, hl, h with
        | [_, _], _, h => cases h
      | _ => cases e
  have z := lc_read (mt := t2 mt) (me := t2 me) (scope := scope) (ifs := ifs) (elt := elt) hi hg
    (fun p d L1 e => by obtain ⟨a, b, rfl, rfl⟩ := key d L1 e; exact ht p a b) (fun p d L1 e => by obtain ⟨a, b, rfl, rfl⟩ := key d L1 e; exact he p a b)
    (fun x => by
      rcases t2_cases mt x with ⟨a, b, rfl⟩ | h
      · exact .inl ⟨_, rfl⟩
      · exact .inr (by unfold cOne; rw [h]; rfl))
  rw [cOne_t2] at z
  exact z
theorem cOne_t3 (mt : D → D → D → R Bool) (me : D → D → D → R D) : (fun x => cOne (t3 mt x) (t3 me x)) = fun x => t3 (fun a b c => cOne (mt a b c) (me a b c)) x := by
  funext x
  unfold t3
  split <;> rfl
theorem rc_T3 (i j k : Nat) {tg : Expr} {elt iter : Expr} {ifs : List Expr} {scope : Scope} {vs : List Nat} {mi : R (List D)} {mt : D → D → D → R Bool} {me : D → D → D → R D}
    (hi : RI X T W B G0 Lx L tg iter mi) (hg : ∀ p, RGc (Blk X scope p) T W0 B G0 Lx tg vs (fun d L => (tupD d).bind fun ds => setsD [gN i, gN j, gN k] ds L))
    (ht : ∀ p a b c, RTs (Blk X scope p) T W0 B G0 Lx ((((wipeL L vs).set i (.im a)).set j (.im b)).set k (.im c)) ifs (mt a b c)) (he : ∀ p a b c, RE (Blk X scope p) T W0 B G0 Lx ((((wipeL L vs).set i (.im a)).set j (.im b)).set k (.im c)) elt (me a b c)) :
    RC X T W B G0 Lx L tg iter ifs elt scope vs (mi.bind (compM fun x => t3 (fun a b c => cOne (mt a b c) (me a b c)) x)) := by
  have key : ∀ x L1, ((tupD x).bind fun ds => setsD [gN i, gN j, gN k] ds (wipeL L vs)) = .ok L1 → ∃ a b c, x = .tuple [a, b, c] ∧ L1 = ((((wipeL L vs).set i (.im a)).set j (.im b)).set k (.im c)) := by
    intro x L1 e
    rcases t3_cases (α := Unit) (fun _ _ _ => .ok ()) x with ⟨a, b, c, rfl⟩ | h
    · exact ⟨a, b, c, rfl, (R.ok.inj e).symm⟩
    · exfalso
      cases x with
      | tuple xs =>
        have hl := setsD_len _ _ _ _ (show setsD [gN i, gN j, gN k] xs (wipeL L vs) = .ok L1 from e)
        match xs, hl, h with
        | [_, _, _], _, h => cases h
      | _ => cases e
  have z := lc_read (mt := t3 mt) (me := t3 me) (scope := scope) (ifs := ifs) (elt := elt) hi hg
    (fun p d L1 e => by obtain ⟨a, b, c, rfl, rfl⟩ := key d L1 e; exact ht p a b c) (fun p d L1 e => by obtain ⟨a, b, c, rfl, rfl⟩ := key d L1 e; exact he p a b c)
    (fun x => by
      rcases t3_cases mt x with ⟨a, b, c, rfl⟩ | h
      · exact .inl ⟨_, rfl⟩
      · exact .inr (by unfold cOne; rw [h]; rfl))
  rw [cOne_t3] at z
  exact z
theorem cOne_t4 (mt : D → D → D → D → R Bool) (me : D → D → D → D → R D) : (fun x => cOne (t4 mt x) (t4 me x)) = fun x => t4 (fun a b c d => cOne (mt a b c d) (me a b c d)) x := by
  funext x
  unfold t4
  split <;> rfl
theorem rc_T4 (i j k l : Nat) {tg : Expr} {elt iter : Expr} {ifs : List Expr} {scope : Scope} {vs : List Nat} {mi : R (List D)} {mt : D → D → D → D → R Bool} {me : D → D → D → D → R D}
    (hi : RI X T W B G0 Lx L tg iter mi) (hg : ∀ p, RGc (Blk X scope p) T W0 B G0 Lx tg vs (fun d L => (tupD d).bind fun ds => setsD [gN i, gN j, gN k, gN l] ds L))
    (ht : ∀ p a b c d, RTs (Blk X scope p) T W0 B G0 Lx (((((wipeL L vs).set i (.im a)).set j (.im b)).set k (.im c)).set l (.im d)) ifs (mt a b c d)) (he : ∀ p a b c d, RE (Blk X scope p) T W0 B G0 Lx (((((wipeL L vs).set i (.im a)).set j (.im b)).set k (.im c)).set l (.im d)) elt (me a b c d)) :
    RC X T W B G0 Lx L tg iter ifs elt scope vs (mi.bind (compM fun x => t4 (fun a b c d => cOne (mt a b c d) (me a b c d)) x)) := by
  have key : ∀ x L1, ((tupD x).bind fun ds => setsD [gN i, gN j, gN k, gN l] ds (wipeL L vs)) = .ok L1 → ∃ a b c d, x = .tuple [a, b, c, d] ∧ L1 = (((((wipeL L vs).set i (.im a)).set j (.im b)).set k (.im c)).set l (.im d)) := by
    intro x L1 e
    rcases t4_cases (α := Unit) (fun _ _ _ _ => .ok ()) x with ⟨a, b, c, d, rfl⟩ | h
    · exact ⟨a, b, c, d, rfl, (R.ok.inj e).symm⟩
    · exfalso
      cases x with
      | tuple xs =>
        have hl := setsD_len _ _ _ _ (show setsD [gN i, gN j, gN k, gN l] xs (wipeL L vs) = .ok L1 from e)
        match xs, hl, h with
        | [_, _, _, _], _, h => cases h
      | _ => cases e
  have z := lc_read (mt := t4 mt) (me := t4 me) (scope := scope) (ifs := ifs) (elt := elt) hi hg
    (fun p d L1 e => by obtain ⟨a, b, c, d, rfl, rfl⟩ := key d L1 e; exact ht p a b c d) (fun p d L1 e => by obtain ⟨a, b, c, d, rfl, rfl⟩ := key d L1 e; exact he p a b c d)
    (fun x => by
      rcases t4_cases mt x with ⟨a, b, c, d, rfl⟩ | h
      · exact .inl ⟨_, rfl⟩
      · exact .inr (by unfold cOne; rw [h]; rfl))
  rw [cOne_t4] at z
  exact z
/-- a comprehension over tuples, untold: used for its form alone -/
theorem ro_rc {tg elt iter : Expr} {ifs : List Expr} {scope : Scope} {own : List (Str × Nat)} {pos : Pos} {m : R (List D)} (hc : X.calm = true) (hN : X.N.Nodup) (ok : BlkOk X.N X.env.scope scope own)
    (h : RC X T W B G0 Lx L tg iter ifs elt scope (own.map (·.2)) m) (hs : ∀ x, foldedSetIterable iter X.env x = pure x := by intro _; rfl) :
    RO X T W B G0 Lx L (.ListComp elt [⟨tg, iter, ifs, 0⟩] scope pos) m := by
  obtain ⟨wi, gg, tt, te, p1, p2, p3, p4, q⟩ := h
  exact ⟨_, pe_lc hc hN p1 ok p2 p3 p4 hs, q⟩
theorem rb_setRc (i : Nat) {α : Type} {y : Str} {py : Pos} {tg elt iter : Expr} {ifs : List Expr} {scope : Scope} {own : List (Str × Nat)} {pos spos : Pos} {m : R (List D)} {k : List D → R α} {pst : α → Ex} {rest : List Stmt}
    (hc : X.calm = true) (hN : X.N.Nodup) (ok : BlkOk X.N X.env.scope scope own) (h : RC X T W B G0 Lx L tg iter ifs elt scope (own.map (·.2)) m) (hr : ∀ ds, RB X T W B G0 Lx (L.set i (.ol ds)) rest (k ds) pst)
    (hy : X.N[i]? = some y := by rfl) (hyl : X.env.scope.names.lookup y = some .local := by rfl) (hsw : swapsWith (.ListComp elt [⟨tg, iter, ifs, 0⟩] scope pos) (some (.Name y py)) spos.line X.env = pure true := by rfl)
    (hs : ∀ x, foldedSetIterable iter X.env x = pure x := by intro _; rfl) :
    RB X T W B G0 Lx L (.Assign [.Name y py] (.ListComp elt [⟨tg, iter, ifs, 0⟩] scope pos) spos :: rest) (m.bind k) pst := by
  obtain ⟨wi, gg, tt, te, p1, p2, p3, p4, q⟩ := h
  obtain ⟨u, pu, qu⟩ := RB.all hr
  refine ⟨_, pss_cons (ps_setLc hc hN hy hyl hsw p1 ok p2 p3 p4 hs) pu, fun Dn σ H G A h => ?_⟩
  exact q σ H G _ A ((BP.bind h).mono fun v H1 ⟨G1, d, g1, r1, h1⟩ => qu d Dn _ H1 G1 (A.setNew g1 r1) h1)
end
end DL
namespace DL
open PySem PySem.Spec PyProof.Rows L2
theorem bt_len : bootBuiltins "len" = some (.builtin "len") := by decide +kernel
theorem bt_sum : bootBuiltins "sum" = some (.builtin "sum") := by decide +kernel
theorem bt_max : bootBuiltins "max" = some (.builtin "max") := by decide +kernel
theorem bt_min : bootBuiltins "min" = some (.builtin "min") := by decide +kernel
theorem bt_sorted : bootBuiltins "sorted" = some (.builtin "sorted") := by decide +kernel
theorem bt_isinstance : bootBuiltins "isinstance" = some (.builtin "isinstance") := by decide +kernel
theorem bt_bool : bootBuiltins "bool" = some (.type "bool") := by decide +kernel
theorem bt_int : bootBuiltins "int" = some (.type "int") := by decide +kernel
theorem bt_str : bootBuiltins "str" = some (.type "str") := by decide +kernel
theorem bt_list : bootBuiltins "list" = some (.type "list") := by decide +kernel
theorem bt_tuple : bootBuiltins "tuple" = some (.type "tuple") := by decide +kernel
theorem is_bool : "bool" = "bool" ∨ "bool" = "int" ∨ "bool" = "str" ∨ "bool" = "list" ∨ "bool" = "tuple" := by decide
theorem is_int : "int" = "bool" ∨ "int" = "int" ∨ "int" = "str" ∨ "int" = "list" ∨ "int" = "tuple" := by decide
theorem is_str : "str" = "bool" ∨ "str" = "int" ∨ "str" = "str" ∨ "str" = "list" ∨ "str" = "tuple" := by decide
theorem is_list : "list" = "bool" ∨ "list" = "int" ∨ "list" = "str" ∨ "list" = "list" ∨ "list" = "tuple" := by decide
theorem is_tuple : "tuple" = "bool" ∨ "tuple" = "int" ∨ "tuple" = "str" ∨ "tuple" = "list" ∨ "tuple" = "tuple" := by decide
def blkB (N : List Str) (sc scope : Scope) (own : List (Str × Nat)) : Bool :=
  decide (scope.kind = .function) && (scope.names.all (fun y => decide (scope.names.lookup y.1 = some y.2)) && (own.all (fun p => decide (N[p.2]? = some p.1)) &&
    (scope.names.all (fun y => !decide (y.2 = .free) || (decide (sc.names.lookup y.1 = some .cell) || decide (sc.names.lookup y.1 = some .free))) &&
      scope.names.all (fun y => !(decide (y.2 = .local) || decide (y.2 = .cell)) || (decide (y.1 ∈ own.map (·.1)) || decide (y.1 ∉ N))))))
theorem blk_ok {N : List Str} {sc scope : Scope} (own : List (Str × Nat)) (h : blkB N sc scope own = true) : BlkOk N sc scope own := by
  unfold blkB at h
  simp only [Bool.and_eq_true, List.all_eq_true, decide_eq_true_eq, Bool.or_eq_true, Bool.not_eq_true', decide_eq_false_iff_not, Bool.or_eq_false_iff] at h
  obtain ⟨h1, h2, h3, h4, h5⟩ := h
  refine ⟨h1, h2, h3, fun y hy e => ?_, fun y hy e => ?_⟩
  · rcases h4 y hy with z | z
    · exact absurd e z
    · exact z
  · rcases h5 y hy with z | z
    · rcases e with e | e
      · exact absurd e z.1
      · exact absurd e z.2
    · exact z
section
variable {P : Program} {w : World} {K : PySem.W.Frag} {mg : Str → Option Value} {base : Heap} {T : List Addr}
theorem Cal.mk' {x q : Str} {st : Stmt} {f : Addr} {fd : FuncData} {ps : List Str} {n j : Nat} {ml : List D → R D} (F : Fun K x q st f fd) (ok : FnOk P w K mg base (L2.CX P w) j f fd ps (spM K T mg n ml)) (hm : mg x = some (.ref f)) (bd : Binds K fd ps []) (ln : ∀ ds, ml ds ≠ .no → ds.length = n) : Cal P w K mg base T x n j ml :=
  ⟨⟨f, fd, ps, ok, hm, F.kp, bd⟩, ln⟩
theorem CalS.mk' {x q : Str} {st : Stmt} {f : Addr} {fd : FuncData} {ps : List Str} {n j : Nat} {ml : List Int → List D → R D} (F : Fun K x q st f fd) (ok : FnOk P w K mg base (L2.CX P w) j f fd ps (spS K T mg n ml)) (hm : mg x = some (.ref f)) (bd : Binds K fd ps []) (ln : ∀ ns ds, ml ns ds ≠ .no → ds.length = n) : CalS P w K mg base T x n j ml :=
  ⟨⟨f, fd, ps, ok, hm, F.kp, bd⟩, ln⟩
/-- what an untold def promises: nothing -/
theorem fn_no {x qual : Str} {st : Stmt} {f : Addr} {fd : FuncData} {N ps : List Str} {k n : Nat} {ml : List D → R D} (F : Fun K x qual st f fd) (S : FnScope N ps (defScope st)) (hn : ps.length = n) (hN : n ≤ N.length) (h : ∀ ds, ml ds = .no) :
    FnOk P w K mg base (L2.CX P w) (k + 1) f fd ps (spM K T mg n ml) := fn_ok F S hn hN fun _ _ _ _ _ _ _ ds _ _ hne => absurd (h ds) hne
theorem no_cx {H : Hp} {s : Shared} {e : Value} {s' : Shared} (h : L2.CX P w [] H s (fun _ _ _ => False) e s') : False := by
  obtain ⟨_, _, _, _, _, _, _, _, _, _, _, _, z⟩ := h
  exact z
/-- the law's own promise, from what its mirror gives -/
def spL (K : PySem.W.Frag) (m : List Int → R D) : Sp := fun vs H Q _ => ∃ a ns, vs = [.ref a] ∧ SqL K H a (ns.map V.int) ∧ m ns = .ok (.bool true) ∧ ∀ H', Q (.bl true) H'
theorem law_fn {m : List Int → R D} {k : Nat} {f : Addr} {fd : FuncData} {ps : List Str} (F : FnOk P w K mg base (L2.CX P w) k f fd ps (spS K [] mg 0 (fun ns => ap0 (m ns)))) : FnOk P w K mg base (L2.CX P w) k f fd ps (spL K m) :=
  F.imp fun vs H Q E h => by
    obtain ⟨a, ns, rfl, hS, hm, q⟩ := h
    refine ⟨a, [], ns, [], fun _ => none, rfl, hS, rfl, .refl (fun _ _ e => nomatch e) (fun _ h => nomatch h) (fun _ _ e => nomatch e), .nil, ?_⟩
    show FP K [] mg H (fun _ => none) (m ns) _ _
    rw [hm]
    intro v H' G' g r
    rw [r.bl_inv]
    exact q H'
theorem law_gives {H : Hp} {a : Addr} {ns : List Int} {m : List Int → R D} (hS : SqL K H a (ns.map V.int)) (hm : m ns = .ok (.bool true)) : spL K m [.ref a] H (fun v _ => v = .bl true) (fun _ _ _ => False) :=
  ⟨a, ns, rfl, hS, hm, fun _ => rfl⟩
end
section
variable {X : Cx} {T : List Addr} {W : WX} {B G0 : Hp} {Lx L : List Sl}
def loF {β : Type} : Lo β → R β
  | .fin b => .ok b
  | .rt _ => .no
@[simp] theorem loF_fin {β : Type} (b : β) : loF (.fin b) = .ok b := rfl
theorem rs_fin {β : Type} {st : Stmt} {m : R (Lo β)} {lb : β → List Sl} (h : RS X T W B G0 Lx L st m (loE lb)) : RS X T W B G0 Lx L st (m.bind loF) (fun b => .nx (lb b)) := by
  obtain ⟨t, p, q⟩ := h
  refine ⟨t, p, fun Dn σ H G A h => q Dn σ H G A ?_⟩
  cases m with
  | ok o =>
    cases o with
    | fin b => exact h
    | rt d => exact h.elim
  | ex c fs => exact h
  | no => exact h
theorem rb_seqB {α β : Type} {st : Stmt} {rest : List Stmt} {m : R (Lo β)} {k : β → R α} {lb : β → List Sl} {pst : α → Ex} (h1 : RS X T W B G0 Lx L st m (loE lb)) (h2 : ∀ b, RB X T W B G0 Lx (lb b) rest (k b) pst) : RB X T W B G0 Lx L (st :: rest) ((m.bind loF).bind k) pst :=
  rb_seqN (rs_fin h1) h2
end
end DL
/-! DL14: the mathematics' tools: mirrors read as plain functions. -/
namespace DL
open PySem PySem.Spec PyProof.Rows L2

/-! ### operators on ints -/
@[simp] theorem eqv_int (i j : Int) : PyData.eqv (.int i) (.int j) = decide (i = j) := by simp [PyData.eqv, Bool.beq_eq_decide_eq]
@[simp] theorem eqv_str (i j : Str) : PyData.eqv (.str i) (.str j) = decide (i = j) := by simp [PyData.eqv, Bool.beq_eq_decide_eq]
@[simp] theorem eqv_bool (i j : Bool) : PyData.eqv (.bool i) (.bool j) = decide (i = j) := by simp [PyData.eqv, Bool.beq_eq_decide_eq]
theorem eqD_scal {d e : D} (h : scalD d e = true) : eqD d e = .ok (PyData.eqv d e) := if_pos (.inl h)
theorem eqD_ok {d e : D} (h : okD d = true) (h2 : okD e = true) : eqD d e = .ok (PyData.eqv d e) := if_pos (.inr ⟨h, h2⟩)
@[simp] theorem dEq_int (i j : Int) : dEq (.int i) (.int j) = .ok (.bool (decide (i = j))) := by unfold dEq; rw [eqD_scal rfl]; simp
@[simp] theorem dEq_bool (i j : Bool) : dEq (.bool i) (.bool j) = .ok (.bool (decide (i = j))) := by unfold dEq; rw [eqD_scal rfl]; simp
@[simp] theorem dEq_str (i j : Str) : dEq (.str i) (.str j) = .ok (.bool (decide (i = j))) := by unfold dEq; rw [eqD_scal rfl]; simp
@[simp] theorem dNe_int (i j : Int) : dNe (.int i) (.int j) = .ok (.bool (!decide (i = j))) := by unfold dNe; rw [eqD_scal rfl]; simp
@[simp] theorem dNe_bool (i j : Bool) : dNe (.bool i) (.bool j) = .ok (.bool (!decide (i = j))) := by unfold dNe; rw [eqD_scal rfl]; simp
@[simp] theorem dNe_str (i j : Str) : dNe (.str i) (.str j) = .ok (.bool (!decide (i = j))) := by unfold dNe; rw [eqD_scal rfl]; simp
@[simp] theorem dLt_int (i j : Int) : dLt (.int i) (.int j) = .ok (.bool (decide (i < j))) := rfl
@[simp] theorem dLe_int (i j : Int) : dLe (.int i) (.int j) = .ok (.bool (decide (i ≤ j))) := rfl
@[simp] theorem dGt_int (i j : Int) : dGt (.int i) (.int j) = .ok (.bool (decide (j < i))) := rfl
@[simp] theorem dGe_int (i j : Int) : dGe (.int i) (.int j) = .ok (.bool (decide (j ≤ i))) := rfl
theorem dMod_int {i j : Int} (h : 0 < j) : dMod (.int i) (.int j) = .ok (.int (i % j)) := if_pos h
theorem log2_lt' {n k : Nat} (h : n < 2 ^ k) (hk : 0 < k) : n.log2 < k := by
  by_cases z : n = 0
  · rw [z]
    exact hk
  · exact (Nat.log2_lt z).mpr h
theorem cdivw {i j : Int} (h : 0 < j) (h2 : j < 2 ^ 200) : CDivW i j := by
  have e : j.natAbs < 2 ^ 200 := by omega
  exact ⟨h, Nat.lt_trans (log2_lt' e (by decide)) (by decide)⟩
theorem dFdiv_int {i j : Int} (h : 0 < j) (h2 : j < 2 ^ 200) : dFdiv (.int i) (.int j) = .ok (.int (i / j)) := if_pos (cdivw h h2)
theorem cmulw {i j : Int} (h1 : -(2 ^ 200) < i) (h2 : i < 2 ^ 200) (h3 : -(2 ^ 200) < j) (h4 : j < 2 ^ 200) : CMulW i j := by
  have a : i.natAbs < 2 ^ 200 := by omega
  have b : j.natAbs < 2 ^ 200 := by omega
  have c := log2_lt' a (by decide)
  have d := log2_lt' b (by decide)
  unfold CMulW
  omega
theorem dMul_int {i j : Int} (h1 : -(2 ^ 200) < i) (h2 : i < 2 ^ 200) (h3 : -(2 ^ 200) < j) (h4 : j < 2 ^ 200) : dMul (.int i) (.int j) = .ok (.int (i * j)) := if_pos (cmulw h1 h2 h3 h4)
theorem dPow_int {i j : Int} (h : 0 ≤ j) (h1 : j ≤ 1000000) (h2 : -(2 ^ 64) < i) (h3 : i < 2 ^ 64) : dPow (.int i) (.int j) = .ok (.int (i ^ j.toNat)) := if_pos ⟨h, h1, by omega⟩
@[simp] theorem dPow_18 : dPow (.int 10) (.int 18) = .ok (.int 1000000000000000000) := by rw [dPow_int (by decide) (by decide) (by decide) (by decide)]; rfl
theorem dPow_9 : dPow (.int 10) (.int 9) = .ok (.int 1000000000) := by rw [dPow_int (by decide) (by decide) (by decide) (by decide)]; rfl
@[simp] theorem dIsN_none (d : D) : dIsN d .none = .ok (.bool (isNone d)) := rfl
@[simp] theorem dNotN_none (d : D) : dNotN d .none = .ok (.bool (!isNone d)) := rfl
@[simp] theorem isNone_none : isNone .none = true := rfl
@[simp] theorem isNone_int (i : Int) : isNone (.int i) = false := rfl
@[simp] theorem isNone_bool (i : Bool) : isNone (.bool i) = false := rfl
@[simp] theorem isNone_str (i : Str) : isNone (.str i) = false := rfl
@[simp] theorem isNone_list (i : List D) : isNone (.list i) = false := rfl
@[simp] theorem isNone_tuple (i : List D) : isNone (.tuple i) = false := rfl
@[simp] theorem isNone_dict (i : List (D × D)) : isNone (.dict i) = false := rfl

/-! ### lists -/
theorem atD_nat {xs : List D} {i : Nat} {x : D} (h : xs[i]? = some x) : atD xs (i : Int) = .ok x := by
  have hi := (List.getElem?_eq_some_iff.mp h).1
  unfold atD atI ixN
  rw [if_pos (by omega), if_pos (by omega)]
  simp [h]
theorem atD_int {xs : List D} {i : Int} {x : D} (h0 : 0 ≤ i) (h : xs[i.toNat]? = some x) : atD xs i = .ok x := by
  have := atD_nat h
  rwa [Int.toNat_of_nonneg h0] at this
@[simp] theorem atD_zero (x : D) (xs : List D) : atD (x :: xs) 0 = .ok x := atD_nat (i := 0) rfl
theorem atD_succ (x : D) (xs : List D) (i : Int) (h : 0 < i) : atD (x :: xs) i = atD xs (i - 1) := by
  unfold atD atI ixN
  rw [if_pos (by omega), if_pos (by omega : 0 ≤ i - 1)]
  by_cases hl : i < (x :: xs).length
  · have hl2 : i - 1 < xs.length := by simp at hl; omega
    rw [if_pos hl, if_pos hl2]
    have e : i.toNat = (i - 1).toNat + 1 := by omega
    rw [e]
    rfl
  · have hl2 : ¬ (i - 1 < xs.length) := by simp at hl; omega
    rw [if_neg hl, if_neg hl2]
    rfl
theorem atD_neg {xs : List D} {i : Nat} {x : D} (hi : 0 < i) (hl : i ≤ xs.length) (h : xs[xs.length - i]? = some x) : atD xs (-(i : Int)) = .ok x := by
  unfold atD atI ixN
  rw [if_neg (by omega), if_pos (by omega)]
  have e : (-(i : Int) + xs.length).toNat = xs.length - i := by omega
  rw [e]
  simp [h]
@[simp] theorem getD_lst (xs : List D) (i : Int) : getD (.list xs) (.int i) = atD xs i := rfl
@[simp] theorem getD_tup (xs : List D) (i : Int) : getD (.tuple xs) (.int i) = atD xs i := rfl
theorem pushD_ok {xs : List D} {d : D} (h : xs.length < 16777216) : pushD xs d = .ok (xs ++ [d]) := if_pos (by rw [sizeLine_eq]; exact h)
theorem rng1_ok {j : Int} (h1 : 0 ≤ j) (h : j < 2 ^ 62) : rng1 (.int j) = .ok (rngD 0 j.toNat) := if_pos ⟨by omega, h⟩
theorem rng1_nat {n : Nat} (h : n < 2 ^ 62) : rng1 (.int (n : Int)) = .ok (rngD 0 n) := by rw [rng1_ok (by omega) (by omega)]; rfl
theorem rng2_ok {i j : Int} (h1 : -(2 ^ 62) ≤ i) (h2 : i < 2 ^ 62) (h3 : -(2 ^ 62) ≤ j) (h4 : j < 2 ^ 62) : rng2 (.int i) (.int j) = .ok (rngD i (j - i).toNat) := if_pos ⟨⟨h1, h2⟩, h3, h4⟩
@[simp] theorem rngD_length (lo : Int) (n : Nat) : (rngD lo n).length = n := by unfold rngD; simp
theorem rngD_at {lo : Int} {n i : Nat} (h : i < n) : (rngD lo n)[i]? = some (.int (lo + i)) := by
  unfold rngD
  rw [List.getElem?_map, List.getElem?_range h]
  rfl

/-! ### loops -/
theorem forP_inv {β : Type} {body : D → β → R β} (I : Nat → β → Prop) : ∀ (xs : List D) (k : Nat) (b : β), I k b → (∀ i x b, xs[i]? = some x → I (k + i) b → ∃ b', body x b = .ok b' ∧ I (k + i + 1) b') → ∃ b', forP body xs b = .ok b' ∧ I (k + xs.length) b'
  | [], k, b, h, _ => ⟨b, rfl, h⟩
  | x :: xs, k, b, h, hs => by
    obtain ⟨b1, e1, h1⟩ := hs 0 x b rfl h
    obtain ⟨b2, e2, h2⟩ := forP_inv I xs (k + 1) b1 h1 fun i y c hy hc => by
      have := hs (i + 1) y c (by simpa using hy) (by rw [show k + (i + 1) = k + 1 + i by omega]; exact hc)
      rw [show k + (i + 1) + 1 = k + 1 + i + 1 by omega] at this
      exact this
    refine ⟨b2, ?_, by rw [List.length_cons, show k + (xs.length + 1) = k + 1 + xs.length by omega]; exact h2⟩
    show (body x b).bind _ = _
    rw [e1]
    exact e2
theorem forP_rng {β : Type} {body : D → β → R β} {lo : Int} {n : Nat} {b : β} (I : Nat → β → Prop) (h0 : I 0 b) (hs : ∀ i b, i < n → I i b → ∃ b', body (.int (lo + i)) b = .ok b' ∧ I (i + 1) b') : ∃ b', forP body (rngD lo n) b = .ok b' ∧ I n b' := by
  obtain ⟨b', e, h⟩ := forP_inv I (rngD lo n) 0 b h0 fun i x c hx hc => by
    obtain ⟨hi, rfl⟩ := rngD_get hx
    rw [Nat.zero_add] at hc ⊢
    exact hs i c hi hc
  rw [rngD_length, Nat.zero_add] at h
  exact ⟨b', e, h⟩
/-- how a loop that may leave comes out -/
def LoP {β : Type} (J : β → Prop) (P : D → Prop) : Lo β → Prop
  | .fin b => J b
  | .rt d => P d
def FlP {β : Type} (I J : β → Prop) (P : D → Prop) : Fl β → Prop
  | .nx b => I b
  | .bk b => J b
  | .rt d => P d
theorem forL_inv {β : Type} {body : D → β → R (Fl β)} (I : Nat → β → Prop) (J : β → Prop) (P : D → Prop) : ∀ (xs : List D) (k : Nat) (b : β), I k b → (∀ b, I (k + xs.length) b → J b) → (∀ i x b, xs[i]? = some x → I (k + i) b → ∃ o, body x b = .ok o ∧ FlP (I (k + i + 1)) J P o) → ∃ o, forL body xs b = .ok o ∧ LoP J P o
  | [], k, b, h, hj, _ => ⟨.fin b, rfl, hj b h⟩
  | x :: xs, k, b, h, hj, hs => by
    obtain ⟨o, e, h1⟩ := hs 0 x b rfl h
    have st : forL body (x :: xs) b = (body x b).bind fun | .nx b' => forL body xs b' | .bk b' => .ok (.fin b') | .rt d => .ok (.rt d) := rfl
    rw [st, e]
    cases o with
    | nx b1 =>
      exact forL_inv I J P xs (k + 1) b1 h1 (fun c hc => hj c (by rw [List.length_cons, show k + (xs.length + 1) = k + 1 + xs.length by omega]; exact hc)) fun i y c hy hc => by
        have := hs (i + 1) y c (by simpa using hy) (by rw [show k + (i + 1) = k + 1 + i by omega]; exact hc)
        rw [show k + (i + 1) + 1 = k + 1 + i + 1 by omega] at this
        exact this
    | bk b1 => exact ⟨.fin b1, rfl, h1⟩
    | rt d => exact ⟨.rt d, rfl, h1⟩
theorem forL_rng {β : Type} {body : D → β → R (Fl β)} {lo : Int} {n : Nat} {b : β} (I : Nat → β → Prop) (J : β → Prop) (P : D → Prop) (h0 : I 0 b) (hj : ∀ b, I n b → J b) (hs : ∀ i b, i < n → I i b → ∃ o, body (.int (lo + i)) b = .ok o ∧ FlP (I (i + 1)) J P o) : ∃ o, forL body (rngD lo n) b = .ok o ∧ LoP J P o :=
  forL_inv I J P (rngD lo n) 0 b h0 (fun c hc => hj c (by rw [rngD_length, Nat.zero_add] at hc; exact hc)) fun i x c hx hc => by
    obtain ⟨hi, rfl⟩ := rngD_get hx
    rw [Nat.zero_add] at hc ⊢
    exact hs i c hi hc
/-- a loop that never leaves -/
theorem forL_all {β : Type} {body : D → β → R (Fl β)} : ∀ (xs : List D) (b : β), (∀ x ∈ xs, body x b = .ok (.nx b)) → forL body xs b = .ok (.fin b)
  | [], b, _ => rfl
  | x :: xs, b, h => by
    have st : forL body (x :: xs) b = (body x b).bind fun | .nx b' => forL body xs b' | .bk b' => .ok (.fin b') | .rt d => .ok (.rt d) := rfl
    rw [st, h x List.mem_cons_self]
    exact forL_all xs b fun y hy => h y (List.mem_cons_of_mem _ hy)
theorem mem_rngD {lo : Int} {n : Nat} {x : D} (h : x ∈ rngD lo n) : ∃ i : Nat, i < n ∧ x = .int (lo + i) := by
  unfold rngD at h
  obtain ⟨i, hi, rfl⟩ := List.mem_map.mp h
  exact ⟨i, List.mem_range.mp hi, rfl⟩
theorem whL_inv {β : Type} {c : β → R Bool} {body : β → R (Fl β)} (I J : β → Prop) (P : D → Prop) (μ : β → Nat) (hs : ∀ b, I b → (c b = .ok false ∧ J b) ∨ (c b = .ok true ∧ ∃ o, body b = .ok o ∧ FlP (fun b' => I b' ∧ μ b' < μ b) J P o)) : ∀ (n : Nat) (b : β), μ b < n → I b → ∃ o, whL c body b = .ok o ∧ LoP J P o
  | 0, b, h, _ => absurd h (Nat.not_lt_zero _)
  | n + 1, b, h, hI => by
    rw [whL_turn]
    rcases hs b hI with ⟨e, hj⟩ | ⟨e, o, e2, ho⟩
    · have : whT c body b = .ok (.bk b) := by unfold whT; rw [e]; rfl
      rw [this]
      exact ⟨.fin b, rfl, hj⟩
    · have : whT c body b = .ok o := by unfold whT; rw [e]; exact e2
      rw [this]
      cases o with
      | nx b' => exact whL_inv I J P μ hs n b' (by have := ho.2; omega) ho.1
      | bk b' => exact ⟨.fin b', rfl, ho⟩
      | rt d => exact ⟨.rt d, rfl, ho⟩
/-! ### comprehensions -/
theorem cLoop_map {f : D → R (Option D)} {g : D → Option D} : ∀ (xs : List D), (∀ x ∈ xs, f x = .ok (g x)) → cLoop f xs = .ok (xs.filterMap g)
  | [], _ => rfl
  | x :: xs, h => by
    have st : cLoop f (x :: xs) = (f x).nox.bind fun o => (cLoop f xs).bind fun ys => .ok (optL o ys) := rfl
    rw [st, h x List.mem_cons_self, cLoop_map xs fun y hy => h y (List.mem_cons_of_mem _ hy)]
    cases e : g x with
    | none => simp [optL, e]
    | some y => simp [optL, e]
theorem compM_map {f : D → R (Option D)} {xs : List D} (g : D → Option D) (hl : xs.length < 16777216) (h : ∀ x ∈ xs, f x = .ok (g x)) : compM f xs = .ok (xs.filterMap g) := by
  unfold compM
  rw [if_pos (by rw [sizeLine_eq]; exact hl)]
  exact cLoop_map xs h
@[simp] theorem cOne_tt (d : D) : cOne (.ok true) (.ok d) = .ok (some d) := rfl
@[simp] theorem cOne_ff (m : R D) : cOne (.ok false) m = .ok none := rfl
theorem cOne_ok (b : Bool) (d : D) : cOne (.ok b) (.ok d) = .ok (if b then some d else none) := by cases b <;> rfl
/-- .. over a list of plain things -/
theorem compM_list {α : Type} {f : D → R (Option D)} {e : α → D} {xs : List α} (g : α → Option D) (hl : xs.length < 16777216) (h : ∀ x ∈ xs, f (e x) = .ok (g x)) : compM f (xs.map e) = .ok (xs.filterMap g) := by
  unfold compM
  rw [if_pos (by rw [sizeLine_eq, List.length_map]; exact hl)]
  clear hl
  induction xs with
  | nil => rfl
  | cons x xs ih =>
    have st : cLoop f ((x :: xs).map e) = (f (e x)).nox.bind fun o => (cLoop f (xs.map e)).bind fun ys => .ok (optL o ys) := rfl
    rw [st, h x List.mem_cons_self, ih fun y hy => h y (List.mem_cons_of_mem _ hy)]
    cases e : g x with
    | none => simp [optL, e]
    | some y => simp [optL, e]

/-! ### drawn numbers -/
inductive Dr : List Int → List Int → Prop
  | nil : Dr [] []
  | cons {d s : Int} {ds ss : List Int} : 0 ≤ d → d < s → Dr ds ss → Dr (d :: ds) (s :: ss)
theorem Dr.length : ∀ {ds ss : List Int}, Dr ds ss → ds.length = ss.length
  | _, _, .nil => rfl
  | _, _, .cons _ _ r => by rw [List.length_cons, List.length_cons, Dr.length r]
theorem Dr.snoc : ∀ {ds ss : List Int} {d s : Int}, Dr ds ss → 0 ≤ d → d < s → Dr (ds ++ [d]) (ss ++ [s])
  | _, _, _, _, .nil, h1, h2 => .cons h1 h2 .nil
  | _, _, _, _, .cons a b r, h1, h2 => .cons a b (Dr.snoc r h1 h2)
theorem Dr.get : ∀ {ds ss : List Int} {i : Nat} {d s : Int}, Dr ds ss → ds[i]? = some d → ss[i]? = some s → 0 ≤ d ∧ d < s
  | _, _, i, _, _, .nil, h, _ => by simp at h
  | _, _, 0, _, _, .cons h1 h2 _, h, h' => by simp at h h'; subst h; subst h'; exact ⟨h1, h2⟩
  | _, _, i + 1, _, _, .cons _ _ r, h, h' => Dr.get r (by simpa using h) (by simpa using h')

/-! ### strict equality's data -/
/-- plain data of depth below n -/
def dok : Nat → D → Bool
  | 0, _ => false
  | n + 1, d => match d with
    | .list xs => decide (xs.length < 16777216) && xs.all (dok n)
    | .tuple xs => decide (xs.length < 16777216) && xs.all (dok n)
    | .dict _ => false
    | _ => true
/-- .. whose texts are texts -/
def dokS : Nat → D → Bool
  | 0, _ => false
  | n + 1, d => match d with
    | .list xs => decide (xs.length < 16777216) && xs.all (dokS n)
    | .tuple xs => decide (xs.length < 16777216) && xs.all (dokS n)
    | .dict _ => false
    | .str x => PyData.canLay0 (.str x)
    | _ => true
theorem eqv_refl (n : Nat) : ∀ d : D, dokS n d = true → PyData.eqv d d = true := by
  induction n with
  | zero => intro d h; cases h
  | succ n ih =>
    have all : ∀ xs : List D, xs.all (dokS n) = true → PyData.eqvAll xs xs = true := by
      intro xs
      induction xs with
      | nil => intro _; rfl
      | cons x xs ihx =>
        intro h
        rw [List.all_cons, Bool.and_eq_true] at h
        show (PyData.eqv x x && PyData.eqvAll xs xs) = true
        rw [ih x h.1, ihx h.2]
        rfl
    intro d h
    cases d with
    | none => rfl
    | bool b => simp
    | int b => simp
    | str b => simp
    | list xs =>
      have h' : (decide (xs.length < 16777216) && xs.all (dokS n)) = true := h
      rw [Bool.and_eq_true] at h'
      exact all xs h'.2
    | tuple xs =>
      have h' : (decide (xs.length < 16777216) && xs.all (dokS n)) = true := h
      rw [Bool.and_eq_true] at h'
      exact all xs h'.2
    | dict xs => cases h
theorem okD_of (n : Nat) : ∀ d : D, dokS n d = true → d.canLay0 = true ∧ d.depth ≤ n := by
  induction n with
  | zero => intro d h; cases h
  | succ n ih =>
    have all : ∀ xs : List D, xs.all (dokS n) = true → PyData.canLayAll0 xs = true ∧ PyData.depthAll xs ≤ n := by
      intro xs
      induction xs with
      | nil => intro _; exact ⟨rfl, by simp [PyData.depthAll]⟩
      | cons x xs ihx =>
        intro h
        rw [List.all_cons, Bool.and_eq_true] at h
        obtain ⟨a, b⟩ := ih x h.1
        obtain ⟨c, d⟩ := ihx h.2
        refine ⟨by unfold PyData.canLayAll0; rw [a, c]; rfl, ?_⟩
        simp only [PyData.depthAll]
        omega
    intro d h
    cases d with
    | none => exact ⟨rfl, by simp [PyData.depth]⟩
    | bool b => exact ⟨rfl, by simp [PyData.depth]⟩
    | int b => exact ⟨rfl, by simp [PyData.depth]⟩
    | str b => exact ⟨h, by simp [PyData.depth]⟩
    | list xs =>
      have h' : (decide (xs.length < 16777216) && xs.all (dokS n)) = true := h
      rw [Bool.and_eq_true] at h'
      obtain ⟨a, b⟩ := all xs h'.2
      exact ⟨a, by simp only [PyData.depth]; omega⟩
    | tuple xs =>
      have h' : (decide (xs.length < 16777216) && xs.all (dokS n)) = true := h
      rw [Bool.and_eq_true] at h'
      obtain ⟨a, b⟩ := all xs h'.2
      exact ⟨a, by simp only [PyData.depth]; omega⟩
    | dict xs => cases h
theorem dEq_self (n : Nat) (hn : n ≤ 60) (d : D) (h : dokS n d = true) : dEq d d = .ok (.bool true) := by
  obtain ⟨a, b⟩ := okD_of n d h
  have k : okD d = true := by
    unfold okD
    rw [a, Bool.true_and]
    exact decide_eq_true (Nat.le_trans b hn)
  unfold dEq
  rw [eqD_ok k k, eqv_refl n d h]
  rfl
/-- «if not strictly(x, y): return no», where it holds -/
theorem st_step {α : Type} {f : D → D → R D} {x y : R D} {d : D} {no rest : R α} (hx : x = .ok d) (hy : y = .ok d) (hf : f d d = .ok (.bool true)) : iteM ((((consA x (consA y (R.ok []))).bind (ap2 f)).bind asB).bind fun b => R.ok !b) no rest = rest := by
  rw [hx, hy]
  simp only [consA_ok, R.bind_ok, ap2_l, hf, asB_bool, Bool.not_true, iteM_ok]
  rfl
theorem st_val {f : D → D → R D} {x y : R D} {d : D} (hx : x = .ok d) (hy : y = .ok d) (hf : f d d = .ok (.bool true)) : ((((consA x (consA y (R.ok []))).bind (ap2 f)).bind asB).bind fun b => R.ok !b) = .ok false := by
  rw [hx, hy]
  simp only [consA_ok, R.bind_ok, ap2_l, hf, asB_bool, Bool.not_true]
@[simp] theorem seqD_list (xs : List D) : seqD (.list xs) = .ok xs := rfl
@[simp] theorem seqD_tuple (xs : List D) : seqD (.tuple xs) = .ok xs := rfl
/-! ### from the top down -/
theorem to_bind {α β : Type} {m : R α} {k : α → R β} {r : R β} (a : α) (h : m = .ok a) (h2 : k a = r) : m.bind k = r := by rw [h]; exact h2
theorem to_fin {α β : Type} {m : R (Lo β)} {k : β → R α} {f : D → R α} {r : R α} (b : β) (h : m = .ok (.fin b)) (h2 : k b = r) : m.bind (loK k f) = r := by rw [h]; exact h2
theorem to_t {α : Type} {c : R Bool} {a b r : R α} (h : c = .ok true) (h2 : a = r) : iteM c a b = r := by rw [h]; exact h2
theorem to_f {α : Type} {c : R Bool} {a b r : R α} (h : c = .ok false) (h2 : b = r) : iteM c a b = r := by rw [h]; exact h2
theorem to_st {α : Type} {f : D → D → R D} {x y : R D} {no rest r : R α} (d : D) (hx : x = .ok d) (hy : y = .ok d) (hf : f d d = .ok (.bool true)) (h : rest = r) : iteM ((((consA x (consA y (R.ok []))).bind (ap2 f)).bind asB).bind fun b => R.ok !b) no rest = r := (st_step hx hy hf).trans h
theorem to_or {α : Type} {c d : R Bool} {a b r : R α} (h : c = .ok false) (h1 : d = .ok false) (h2 : b = r) : iteM (orM c d) a b = r := by rw [h, h1]; exact h2
theorem or_ff {c d : R Bool} (h : c = .ok false) (h1 : d = .ok false) : orM c d = .ok false := by rw [h, h1]; rfl
theorem andV_t {m : R Bool} {k r : R D} (h : m = .ok true) (h2 : k = r) : andV m k = r := by rw [h]; exact h2
theorem st_ok {f : D → D → R D} {x y : R D} (d : D) (hx : x = .ok d) (hy : y = .ok d) (hf : f d d = .ok (.bool true)) : (((consA x (consA y (R.ok []))).bind (ap2 f))) = .ok (.bool true) := by
  rw [hx, hy]
  simp only [consA_ok, R.bind_ok, ap2_l, hf]
theorem not_ok {m : R Bool} {b : Bool} (h : m = .ok b) : (m.bind fun b => R.ok !b) = .ok !b := by rw [h]; rfl
theorem asB_ok {m : R D} {b : Bool} (h : m = .ok (.bool b)) : m.bind asB = .ok b := by rw [h]; rfl
theorem c1_ok {f : D → R D} {x : R D} {d : D} {r : R D} (h : x = .ok d) (h2 : f d = r) : (consA x (R.ok [])).bind (ap1 f) = r := by rw [h]; exact h2
theorem c2_ok {f : D → D → R D} {x y : R D} {d e : D} {r : R D} (h : x = .ok d) (h1 : y = .ok e) (h2 : f d e = r) : (consA x (consA y (R.ok []))).bind (ap2 f) = r := by rw [h, h1]; exact h2
theorem c3_ok {f : D → D → D → R D} {x y z : R D} {d e g : D} {r : R D} (h : x = .ok d) (h1 : y = .ok e) (h3 : z = .ok g) (h2 : f d e g = r) : (consA x (consA y (consA z (R.ok [])))).bind (ap3 f) = r := by rw [h, h1, h3]; exact h2
theorem b1_ok {f : D → R D} {x : R D} {d : D} {r : R D} (h : x = .ok d) (h2 : f d = r) : (consA x (R.ok [])).bind (f1 f) = r := by rw [h]; exact h2
theorem op_ok {f : D → D → R D} {x y : R D} {d e : D} {r : R D} (h : x = .ok d) (h1 : y = .ok e) (h2 : f d e = r) : op2 f x y = r := by rw [h, h1]; exact h2
/-! ### slices of plain lists -/
def cutL {α : Type} (xs : List α) (lo hi : Option Int) : List α := (xs.drop (HT.sIx xs.length 0 lo)).take (HT.sIx xs.length xs.length hi - HT.sIx xs.length 0 lo)
theorem cutD_map {α : Type} (f : α → D) (xs : List α) (lo hi : Option Int) : cutD (xs.map f) lo hi = (cutL xs lo hi).map f := by
  unfold cutD cutL
  rw [List.length_map, List.map_take, List.map_drop]
theorem cutL_mem {α : Type} {xs : List α} {lo hi : Option Int} {x : α} (h : x ∈ cutL xs lo hi) : x ∈ xs := List.mem_of_mem_drop (List.mem_of_mem_take h)
theorem cutL_len {α : Type} (xs : List α) (lo hi : Option Int) : (cutL xs lo hi).length ≤ xs.length := by
  unfold cutL
  rw [List.length_take, List.length_drop]
  omega
theorem slX_list {m : R D} {ml mh : R (Option Int)} {xs : List D} {a b : Option Int} (h : m = .ok (.list xs)) (h1 : ml = .ok a) (h2 : mh = .ok b) : slX m ml mh = .ok (.list (cutD xs a b)) := by rw [h, h1, h2]; rfl
theorem dokS_ints (n : Nat) (ns : List Int) (h : ns.length < 16777216) : dokS (n + 2) (.list (ns.map .int)) = true := by
  show (decide ((ns.map PyData.int).length < 16777216) && (ns.map PyData.int).all (dokS (n + 1))) = true
  rw [List.length_map, decide_eq_true h, Bool.true_and, List.all_map]
  exact List.all_eq_true.mpr fun x _ => rfl
theorem dok_ints (n : Nat) (ns : List Int) (h : ns.length < 16777216) : dok (n + 2) (.list (ns.map .int)) = true := by
  show (decide ((ns.map PyData.int).length < 16777216) && (ns.map PyData.int).all (dok (n + 1))) = true
  rw [List.length_map, decide_eq_true h, Bool.true_and, List.all_map]
  exact List.all_eq_true.mpr fun x _ => rfl
theorem Dr.mem : ∀ {ds ss : List Int} {d : Int}, Dr ds ss → d ∈ ds → ∃ s ∈ ss, 0 ≤ d ∧ d < s
  | _, _, d, .nil, h => by cases h
  | _, _, d, .cons (s := s) h1 h2 r, h => by
    rcases List.mem_cons.mp h with e | e
    · subst e; exact ⟨s, List.mem_cons_self, h1, h2⟩
    · obtain ⟨t, ht, k⟩ := Dr.mem r e
      exact ⟨t, List.mem_cons_of_mem _ ht, k⟩
theorem sum_bd (N : Int) : ∀ ns : List Int, (∀ x ∈ ns, 0 ≤ x ∧ x < N) → 0 ≤ ns.sum ∧ ns.sum ≤ N * ns.length
  | [], _ => by simp
  | n :: ns, h => by
    obtain ⟨a, b⟩ := sum_bd N ns fun x hx => h x (List.mem_cons_of_mem _ hx)
    obtain ⟨c, d⟩ := h n List.mem_cons_self
    rw [List.sum_cons, List.length_cons]
    refine ⟨by omega, ?_⟩
    rw [Int.natCast_add, Int.mul_add]
    omega
theorem dAdd_lst {a b : List D} (h : a.length + b.length < 16777216) : dAdd (.list a) (.list b) = .ok (.list (a ++ b)) := by
  show (if a.length + b.length ≤ sizeLine then R.ok (PyData.list (a ++ b)) else .no) = _
  rw [if_pos (by rw [sizeLine_eq]; omega)]
theorem dAdd_str {a b : Str} (h : a.length + b.length < 16777216) : dAdd (.str a) (.str b) = .ok (.str (a ++ b)) := by
  show (if a.length + b.length ≤ sizeLine then R.ok (PyData.str (a ++ b)) else .no) = _
  rw [if_pos (by rw [sizeLine_eq]; omega)]
theorem dAdd_tup {a b : List D} (h : a.length + b.length < 16777216) : dAdd (.tuple a) (.tuple b) = .ok (.tuple (a ++ b)) := by
  show (if a.length + b.length ≤ sizeLine then R.ok (PyData.tuple (a ++ b)) else .no) = _
  rw [if_pos (by rw [sizeLine_eq]; omega)]
theorem dMul_lst {a : List D} {k : Int} (h : 0 ≤ k) (h1 : k < 2 ^ 24) (h2 : a.length * k.toNat < 16777216) : dMul (.list a) (.int k) = .ok (.list (List.replicate k.toNat a).flatten) := if_pos ⟨by omega, by omega, by rw [sizeLine_eq]; omega⟩
end DL
namespace K02
open PySem PySem.Spec PyProof.Rows L2 DL
def topS (i : Nat) : Stmt := PySem.Challenge.pw_canalworks_k02_ratios.main.body.getD i (.Pass ⟨0, 0, 0, 0⟩)
abbrev s__law_cell : Stmt := topS 9
abbrev N__law_cell : List Str := ["script", "k"]
theorem sc__law_cell : FnScope N__law_cell ["script", "k"] (defScope s__law_cell) := ⟨rfl, rfl, rfl, by decide +kernel, rfl, by decide +kernel, by decide +kernel⟩
abbrev s__law_draw : Stmt := topS 10
abbrev N__law_draw : List Str := ["script", "k", "sizes", "cell", "drawn", "mixed", "j", "size"]
theorem sc__law_draw : FnScope N__law_draw ["script", "k", "sizes"] (defScope s__law_draw) := ⟨rfl, rfl, rfl, by decide +kernel, rfl, by decide +kernel, by decide +kernel⟩
abbrev s__law_gcd : Stmt := topS 11
abbrev N__law_gcd : List Str := ["left", "right", "turn"]
theorem sc__law_gcd : FnScope N__law_gcd ["left", "right"] (defScope s__law_gcd) := ⟨rfl, rfl, rfl, by decide +kernel, rfl, by decide +kernel, by decide +kernel⟩
abbrev s__law_ratio : Stmt := topS 12
abbrev N__law_ratio : List Str := ["top", "bottom", "common"]
theorem sc__law_ratio : FnScope N__law_ratio ["top", "bottom"] (defScope s__law_ratio) := ⟨rfl, rfl, rfl, by decide +kernel, rfl, by decide +kernel, by decide +kernel⟩
abbrev s__law_strictly : Stmt := topS 8
abbrev N__law_strictly : List Str := ["expected", "actual", "place"]
theorem sc__law_strictly : FnScope N__law_strictly ["expected", "actual"] (defScope s__law_strictly) := ⟨rfl, rfl, rfl, by decide +kernel, rfl, by decide +kernel, by decide +kernel⟩
abbrev s_gcd_of : Stmt := topS 1
abbrev N_gcd_of : List Str := ["left", "right"]
theorem sc_gcd_of : FnScope N_gcd_of ["left", "right"] (defScope s_gcd_of) := ⟨rfl, rfl, rfl, by decide +kernel, rfl, by decide +kernel, by decide +kernel⟩
abbrev s_less : Stmt := topS 4
abbrev N_less : List Str := ["left", "right"]
theorem sc_less : FnScope N_less ["left", "right"] (defScope s_less) := ⟨rfl, rfl, rfl, by decide +kernel, rfl, by decide +kernel, by decide +kernel⟩
abbrev s_ratio : Stmt := topS 2
abbrev N_ratio : List Str := ["top", "bottom", "common"]
theorem sc_ratio : FnScope N_ratio ["top", "bottom"] (defScope s_ratio) := ⟨rfl, rfl, rfl, by decide +kernel, rfl, by decide +kernel, by decide +kernel⟩
abbrev s_share : Stmt := topS 5
abbrev N_share : List Str := ["part", "whole"]
theorem sc_share : FnScope N_share ["part", "whole"] (defScope s_share) := ⟨rfl, rfl, rfl, by decide +kernel, rfl, by decide +kernel, by decide +kernel⟩
abbrev s_mean_of : Stmt := topS 6
abbrev N_mean_of : List Str := ["numbers"]
theorem sc_mean_of : FnScope N_mean_of ["numbers"] (defScope s_mean_of) := ⟨rfl, rfl, rfl, by decide +kernel, rfl, by decide +kernel, by decide +kernel⟩
abbrev s_plus : Stmt := topS 3
abbrev N_plus : List Str := ["left", "right"]
theorem sc_plus : FnScope N_plus ["left", "right"] (defScope s_plus) := ⟨rfl, rfl, rfl, by decide +kernel, rfl, by decide +kernel, by decide +kernel⟩
abbrev s_law : Stmt := topS 13
abbrev N_law : List Str := ["script", "one", "other", "digits", "numbers", "due", "flag", "a", "b", "c", "d", "left", "right", "k"]
theorem sc_law : FnScope N_law ["script"] (defScope s_law) := ⟨rfl, rfl, rfl, by decide +kernel, rfl, by decide +kernel, by decide +kernel⟩
/-! ### mirrors -/
noncomputable def m__law_cell (ns : List Int) (k_1 : D) : R D := (iteM ((op2 dLt (R.ok k_1) (R.ok (PyData.int ns.length))).bind asB) ((R.ok k_1).bind fun d => getD (PyData.list (ns.map PyData.int)) d) (R.ok (PyData.int 0)))
noncomputable def m__law_draw_b1 (size_9 : D) (s_8 : D × (List D)) : R (D × (List D)) := (((op2 dMod (R.ok s_8.1) (R.ok size_9)).bind fun d => pushD s_8.2 d).bind fun drawn_10 => ((op2 dFdiv (R.ok s_8.1) (R.ok size_9)).bind fun cell_11 => (R.ok (cell_11, drawn_10))))
noncomputable def m__law_draw_b2 (sizes_2 : D) (j_15 : D) (s_14 : (List D) × D) : R ((List D) × D) := ((op2 dMod (op2 dAdd (op2 dAdd (op2 dMul (R.ok s_14.2) (R.ok (PyData.int 48271))) (R.ok (PyData.int 11))) (R.ok j_15)) (R.ok (PyData.int 2147483647))).bind fun mixed_16 => ((op2 dMod (op2 dAdd (op2 dMul (R.ok mixed_16) (R.ok (PyData.int 69621))) (R.ok (PyData.int 3))) (R.ok (PyData.int 2147483647))).bind fun mixed_17 => (((op2 dMod (op2 dFdiv (R.ok mixed_17) (R.ok (PyData.int 7))) (op2 getD (R.ok sizes_2) (R.ok j_15))).bind fun d => pushD s_14.1 d).bind fun drawn_18 => (R.ok (drawn_18, mixed_17)))))
noncomputable def m__law_draw (ns : List Int) (k_1 : D) (sizes_2 : D) : R D := (((consA (R.ok k_1) (R.ok [])).bind (ap1 (m__law_cell ns))).bind fun cell_3 => ((iteM ((op2 dLt (R.ok cell_3) (R.ok (PyData.int 0))).bind asB) (((R.ok cell_3).bind dNeg).bind fun cell_5 => (R.ok cell_5)) (R.ok cell_3)).bind fun s_4 => ((R.ok []).bind fun drawn_6 => (iteM ((op2 dGe (R.ok s_4) (op2 dPow (R.ok (PyData.int 10)) (R.ok (PyData.int 18)))).bind asB) ((op2 dSub (R.ok s_4) (op2 dPow (R.ok (PyData.int 10)) (R.ok (PyData.int 18)))).bind fun cell_7 => ((((R.ok sizes_2).bind seqD).bind fun xs => forP (fun size_9 s_8 => (m__law_draw_b1 size_9 s_8)) xs (cell_7, drawn_6)).bind fun s_12 => (R.ok (PyData.list s_12.2)))) ((op2 dMod (op2 dAdd (op2 dAdd (R.ok s_4) (R.ok (PyData.int 1))) (op2 dMul (R.ok (PyData.int 31)) (R.ok k_1))) (R.ok (PyData.int 2147483647))).bind fun mixed_13 => (((((consA (R.ok sizes_2) (R.ok [])).bind (f1 dLen)).bind rng1).bind fun xs => forP (fun j_15 s_14 => (m__law_draw_b2 sizes_2 j_15 s_14)) xs (drawn_6, mixed_13)).bind fun s_19 => (R.ok (PyData.list s_19.1))))))))
noncomputable def m__law_gcd_b1 (turn_4 : D) (s_3 : D × D) : R (Fl (D × D)) := (iteM ((op2 dEq (R.ok s_3.2) (R.ok (PyData.int 0))).bind asB) ((R.ok s_3.1).bind fun d => R.ok (Fl.rt d)) ((consA (R.ok s_3.2) (consA (op2 dMod (R.ok s_3.1) (R.ok s_3.2)) (R.ok []))).bind (l2 fun left_5 right_6 => (R.ok (Fl.nx (left_5, right_6))))))
noncomputable def m__law_gcd (left_1 : D) (right_2 : D) : R D := ((((R.ok (PyData.int 200)).bind rng1).bind fun xs => forL (fun turn_4 s_3 => (m__law_gcd_b1 turn_4 s_3)) xs (left_1, right_2)).bind (loK (fun s_7 => (R.ok s_7.1)) (fun d => R.ok d)))
noncomputable def m__law_ratio (top_1 : D) (bottom_2 : D) : R D := (((consA (R.ok top_1) (consA (R.ok bottom_2) (R.ok []))).bind (ap2 (m__law_gcd))).bind fun common_3 => ((consA (op2 dFdiv (R.ok top_1) (R.ok common_3)) (consA (op2 dFdiv (R.ok bottom_2) (R.ok common_3)) (R.ok []))).bind fun xs => R.ok (PyData.tuple xs)))
noncomputable def m__law_strictly_b1 (expected_1 : D) (actual_2 : D) (rec : D → D → R D) (place_4 : D) (s_3 : Unit) : R (Fl (Unit)) := (iteM ((((consA (op2 getD (R.ok expected_1) (R.ok place_4)) (consA (op2 getD (R.ok actual_2) (R.ok place_4)) (R.ok []))).bind (ap2 (rec))).bind asB).bind fun b => R.ok !b) ((R.ok (PyData.bool false)).bind fun d => R.ok (Fl.rt d)) (R.ok (Fl.nx ())))
noncomputable def m__law_strictly_step (rec : D → D → R D) (expected_1 : D) (actual_2 : D) : R D := (iteM ((op2 dIsN (R.ok expected_1) (R.ok PyData.none)).bind asB) (op2 dIsN (R.ok actual_2) (R.ok PyData.none)) (iteM (((R.ok expected_1).bind fun d => R.ok (PyData.bool (isiD "bool" d))).bind asB) (andV (((R.ok actual_2).bind fun d => R.ok (PyData.bool (isiD "int" d))).bind asB) (op2 dEq (R.ok actual_2) (R.ok expected_1))) (iteM (((R.ok expected_1).bind fun d => R.ok (PyData.bool (isiD "int" d))).bind asB) (andV (((R.ok actual_2).bind fun d => R.ok (PyData.bool (isiD "int" d))).bind asB) (andV (((((R.ok actual_2).bind fun d => R.ok (PyData.bool (isiD "bool" d))).bind asB).bind fun b => R.ok (PyData.bool !b)).bind asB) (op2 dEq (R.ok actual_2) (R.ok expected_1)))) (iteM (((R.ok expected_1).bind fun d => R.ok (PyData.bool (isiD "str" d))).bind asB) (andV (((R.ok actual_2).bind fun d => R.ok (PyData.bool (isiD "str" d))).bind asB) (op2 dEq (R.ok actual_2) (R.ok expected_1))) (iteM (orM ((op2 dNe ((R.ok expected_1).bind fun d => R.ok (PyData.bool (isiD "tuple" d))) ((R.ok actual_2).bind fun d => R.ok (PyData.bool (isiD "tuple" d)))).bind asB) ((op2 dNe ((R.ok expected_1).bind fun d => R.ok (PyData.bool (isiD "list" d))) ((R.ok actual_2).bind fun d => R.ok (PyData.bool (isiD "list" d)))).bind asB)) (R.ok (PyData.bool false)) (iteM (orM (((R.ok expected_1).bind fun d => R.ok (PyData.bool (isiD "tuple" d))).bind asB) (((R.ok expected_1).bind fun d => R.ok (PyData.bool (isiD "list" d))).bind asB)) (iteM ((op2 dNe ((consA (R.ok actual_2) (R.ok [])).bind (f1 dLen)) ((consA (R.ok expected_1) (R.ok [])).bind (f1 dLen))).bind asB) (R.ok (PyData.bool false)) (((((consA (R.ok expected_1) (R.ok [])).bind (f1 dLen)).bind rng1).bind fun xs => forL (fun place_4 s_3 => (m__law_strictly_b1 expected_1 actual_2 rec place_4 s_3)) xs ()).bind (loK (fun s_5 => (R.ok (PyData.bool true))) (fun d => R.ok d)))) (op2 dEq (R.ok actual_2) (R.ok expected_1))))))))
noncomputable def m__law_strictly : Nat → D → D → R D
  | 0 => fun _ _ => .no
  | fuel + 1 => m__law_strictly_step (m__law_strictly fuel)
noncomputable def m_gcd_of_t1 (s_3 : D × D) : R Bool := ((op2 dNe (R.ok s_3.2) (R.ok (PyData.int 0))).bind asB)
noncomputable def m_gcd_of_b2 (s_3 : D × D) : R (Fl (D × D)) := ((consA (R.ok s_3.2) (consA (op2 dMod (R.ok s_3.1) (R.ok s_3.2)) (R.ok []))).bind (l2 fun left_4 right_5 => (R.ok (Fl.nx (left_4, right_5)))))
noncomputable def m_gcd_of (left_1 : D) (right_2 : D) : R D := (((whL (fun s_3 => (m_gcd_of_t1 s_3)) (fun s_3 => (m_gcd_of_b2 s_3)) (left_1, right_2)).bind loF).bind fun s_6 => (R.ok s_6.1))
noncomputable def m_less (left_1 : D) (right_2 : D) : R D := (op2 dLt (op2 dMul (op2 getD (R.ok left_1) (R.ok (PyData.int 0))) (op2 getD (R.ok right_2) (R.ok (PyData.int 1)))) (op2 dMul (op2 getD (R.ok right_2) (R.ok (PyData.int 0))) (op2 getD (R.ok left_1) (R.ok (PyData.int 1)))))
noncomputable def m_ratio (top_1 : D) (bottom_2 : D) : R D := (((consA (R.ok top_1) (consA (R.ok bottom_2) (R.ok []))).bind (ap2 (m_gcd_of))).bind fun common_3 => ((consA (op2 dFdiv (R.ok top_1) (R.ok common_3)) (consA (op2 dFdiv (R.ok bottom_2) (R.ok common_3)) (R.ok []))).bind fun xs => R.ok (PyData.tuple xs)))
noncomputable def m_share (part_1 : D) (whole_2 : D) : R D := (iteM ((op2 dEq (R.ok whole_2) (R.ok (PyData.int 0))).bind asB) ((consA (R.ok (PyData.int 0)) (consA (R.ok (PyData.int 1)) (R.ok []))).bind fun xs => R.ok (PyData.tuple xs)) ((consA (R.ok part_1) (consA (R.ok whole_2) (R.ok []))).bind (ap2 (m_ratio))))
noncomputable def m_mean_of (numbers_1 : D) : R D := ((consA ((consA (R.ok numbers_1) (R.ok [])).bind (f1 (onInts dSum))) (consA ((consA (R.ok numbers_1) (R.ok [])).bind (f1 dLen)) (R.ok []))).bind (ap2 (m_share)))
noncomputable def m_plus (left_1 : D) (right_2 : D) : R D := ((consA (op2 dAdd (op2 dMul (op2 getD (R.ok left_1) (R.ok (PyData.int 0))) (op2 getD (R.ok right_2) (R.ok (PyData.int 1)))) (op2 dMul (op2 getD (R.ok right_2) (R.ok (PyData.int 0))) (op2 getD (R.ok left_1) (R.ok (PyData.int 1))))) (consA (op2 dMul (op2 getD (R.ok left_1) (R.ok (PyData.int 1))) (op2 getD (R.ok right_2) (R.ok (PyData.int 1)))) (R.ok []))).bind (ap2 (m_ratio)))
noncomputable def m_law_c1 (s_6 : D × D × D × D) (k_12 : D) : R (Option D) := cOne (andM ((op2 dEq (op2 dMod (R.ok s_6.1) (R.ok k_12)) (R.ok (PyData.int 0))).bind asB) ((op2 dEq (op2 dMod (R.ok s_6.2.1) (R.ok k_12)) (R.ok (PyData.int 0))).bind asB)) (R.ok k_12)
noncomputable def m_law_b2 (left_16 : D) (right_17 : D) (s_15 : Unit) : R (Fl (Unit)) := (iteM ((((consA (op2 dLt (op2 dMul (op2 getD (R.ok left_16) (R.ok (PyData.int 0))) (op2 getD (R.ok right_17) (R.ok (PyData.int 1)))) (op2 dMul (op2 getD (R.ok right_17) (R.ok (PyData.int 0))) (op2 getD (R.ok left_16) (R.ok (PyData.int 1))))) (consA ((consA (R.ok left_16) (consA (R.ok right_17) (R.ok []))).bind (ap2 (m_less))) (R.ok []))).bind (ap2 (m__law_strictly 6))).bind asB).bind fun b => R.ok !b) ((R.ok (PyData.bool false)).bind fun d => R.ok (Fl.rt d)) (R.ok (Fl.nx ())))
noncomputable def m_law (ns : List Int)  : R D := (((consA (R.ok (PyData.int 0)) (consA ((consA (R.ok (PyData.int 2)) (consA (R.ok (PyData.int 1000000000)) (consA (R.ok (PyData.int 1000000000)) (consA (R.ok (PyData.int 1000000000)) (consA (R.ok (PyData.int 1000000000)) (R.ok [])))))).bind fun xs => R.ok (PyData.list xs)) (R.ok []))).bind (ap2 (m__law_draw ns))).bind fun d => (seqD d).bind (l5 fun flag_1 a_2 b_3 c_4 d_5 => ((iteM ((op2 dEq (R.ok flag_1) (R.ok (PyData.int 0))).bind asB) (((consA (op2 dMod (R.ok a_2) (R.ok (PyData.int 60))) (consA (op2 dMod (R.ok b_3) (R.ok (PyData.int 60))) (consA (op2 dMod (R.ok c_4) (R.ok (PyData.int 60))) (consA (op2 dMod (R.ok d_5) (R.ok (PyData.int 60))) (R.ok []))))).bind fun xs => R.ok (PyData.tuple xs)).bind fun d => (seqD d).bind (l4 fun a_7 b_8 c_9 d_10 => (R.ok (a_7, b_8, c_9, d_10)))) (R.ok (a_2, b_3, c_4, d_5))).bind fun s_6 => (iteM ((((consA ((consA (R.ok s_6.1) (consA (R.ok s_6.2.1) (R.ok []))).bind (ap2 (m__law_gcd))) (consA ((consA (R.ok s_6.1) (consA (R.ok s_6.2.1) (R.ok []))).bind (ap2 (m_gcd_of))) (R.ok []))).bind (ap2 (m__law_strictly 6))).bind asB).bind fun b => R.ok !b) (R.ok (PyData.bool false)) ((iteM (andM ((op2 dLt (R.ok s_6.1) (R.ok (PyData.int 60))).bind asB) (andM ((op2 dLt (R.ok s_6.2.1) (R.ok (PyData.int 60))).bind asB) ((op2 dGt (op2 dAdd (R.ok s_6.1) (R.ok s_6.2.1)) (R.ok (PyData.int 0))).bind asB))) (iteM ((op2 dNe ((consA (R.ok s_6.1) (consA (R.ok s_6.2.1) (R.ok []))).bind (ap2 (m_gcd_of))) ((consA ((((R.ok (PyData.int 1)).bind fun x => (R.ok (PyData.int 60)).bind fun y => rng2 x y).bind (compM fun k_12 => (m_law_c1 s_6 k_12))).bind fun xs => R.ok (PyData.list xs)) (R.ok [])).bind (f1 (onInts maxL)))).bind asB) ((R.ok (PyData.bool false)).bind fun d => R.ok (Lo.rt d)) (R.ok (Lo.fin ()))) (R.ok (Lo.fin ()))).bind (loK (fun s_11 => (((consA (R.ok s_6.1) (consA (op2 dAdd (R.ok s_6.2.1) (R.ok (PyData.int 1))) (R.ok []))).bind (ap2 (m__law_ratio))).bind fun one_13 => (((consA (R.ok s_6.2.2.1) (consA (op2 dAdd (R.ok s_6.2.2.2) (R.ok (PyData.int 1))) (R.ok []))).bind (ap2 (m__law_ratio))).bind fun other_14 => (iteM (orM ((((consA (R.ok one_13) (consA ((consA (R.ok s_6.1) (consA (op2 dAdd (R.ok s_6.2.1) (R.ok (PyData.int 1))) (R.ok []))).bind (ap2 (m_ratio))) (R.ok []))).bind (ap2 (m__law_strictly 6))).bind asB).bind fun b => R.ok !b) ((((consA (R.ok other_14) (consA ((consA (R.ok s_6.2.2.1) (consA (op2 dAdd (R.ok s_6.2.2.2) (R.ok (PyData.int 1))) (R.ok []))).bind (ap2 (m_ratio))) (R.ok []))).bind (ap2 (m__law_strictly 6))).bind asB).bind fun b => R.ok !b)) (R.ok (PyData.bool false)) (iteM ((((consA ((consA (op2 dAdd (op2 dMul (R.ok s_6.1) (op2 dAdd (R.ok s_6.2.2.2) (R.ok (PyData.int 1)))) (op2 dMul (R.ok s_6.2.2.1) (op2 dAdd (R.ok s_6.2.1) (R.ok (PyData.int 1))))) (consA (op2 dMul (op2 dAdd (R.ok s_6.2.1) (R.ok (PyData.int 1))) (op2 dAdd (R.ok s_6.2.2.2) (R.ok (PyData.int 1)))) (R.ok []))).bind (ap2 (m__law_ratio))) (consA ((consA (R.ok one_13) (consA (R.ok other_14) (R.ok []))).bind (ap2 (m_plus))) (R.ok []))).bind (ap2 (m__law_strictly 6))).bind asB).bind fun b => R.ok !b) (R.ok (PyData.bool false)) (((((consA ((consA (R.ok one_13) (consA (R.ok other_14) (R.ok []))).bind fun xs => R.ok (PyData.tuple xs)) (consA ((consA (R.ok other_14) (consA (R.ok one_13) (R.ok []))).bind fun xs => R.ok (PyData.tuple xs)) (consA ((consA (R.ok one_13) (consA (R.ok one_13) (R.ok []))).bind fun xs => R.ok (PyData.tuple xs)) (R.ok [])))).bind fun xs => R.ok (PyData.list xs)).bind seqD).bind fun xs => forL (fun x s_15 => t2 (fun left_16 right_17 => (m_law_b2 left_16 right_17 s_15)) x) xs ()).bind (loK (fun s_18 => (iteM (orM ((((consA ((consA (R.ok (PyData.int 0)) (consA (R.ok (PyData.int 1)) (R.ok []))).bind fun xs => R.ok (PyData.tuple xs)) (consA ((consA (R.ok s_6.1) (consA (R.ok (PyData.int 0)) (R.ok []))).bind (ap2 (m_share))) (R.ok []))).bind (ap2 (m__law_strictly 6))).bind asB).bind fun b => R.ok !b) ((((consA ((consA (R.ok s_6.1) (consA (op2 dAdd (R.ok s_6.2.1) (R.ok (PyData.int 1))) (R.ok []))).bind (ap2 (m__law_ratio))) (consA ((consA (R.ok s_6.1) (consA (op2 dAdd (R.ok s_6.2.1) (R.ok (PyData.int 1))) (R.ok []))).bind (ap2 (m_share))) (R.ok []))).bind (ap2 (m__law_strictly 6))).bind asB).bind fun b => R.ok !b)) (R.ok (PyData.bool false)) (((consA (R.ok (PyData.int 1)) (consA (op2 dAdd ((consA (R.ok (PyData.int 10)) (R.ok [])).bind fun xs => R.ok (PyData.list xs)) (op2 dMul ((consA (R.ok (PyData.int 1000)) (R.ok [])).bind fun xs => R.ok (PyData.list xs)) (R.ok (PyData.int 9)))) (R.ok []))).bind (ap2 (m__law_draw ns))).bind fun digits_19 => ((slX (R.ok digits_19) ((R.ok (PyData.int 1)).bind asI) ((op2 dAdd (R.ok (PyData.int 1)) (op2 getD (R.ok digits_19) (R.ok (PyData.int 0)))).bind asI)).bind fun numbers_20 => ((iteM ((op2 dEq ((consA (R.ok numbers_20) (R.ok [])).bind (f1 dLen)) (R.ok (PyData.int 0))).bind asB) ((consA (R.ok (PyData.int 0)) (consA (R.ok (PyData.int 1)) (R.ok []))).bind fun xs => R.ok (PyData.tuple xs)) ((consA ((consA (R.ok numbers_20) (R.ok [])).bind (f1 (onInts dSum))) (consA ((consA (R.ok numbers_20) (R.ok [])).bind (f1 dLen)) (R.ok []))).bind (ap2 (m__law_ratio)))).bind fun due_21 => (andV (((consA (R.ok due_21) (consA ((consA (R.ok numbers_20) (R.ok [])).bind (ap1 (m_mean_of))) (R.ok []))).bind (ap2 (m__law_strictly 6))).bind asB) (op2 dEq (R.ok numbers_20) (slX (R.ok digits_19) ((R.ok (PyData.int 1)).bind asI) ((op2 dAdd (R.ok (PyData.int 1)) (op2 getD (R.ok digits_19) (R.ok (PyData.int 0)))).bind asI))))))))) (fun d => R.ok d)))))))) (fun d => R.ok d)))))))
/-! ### derivations -/
section
variable {P : Program} {w : World} {K : PySem.W.Frag} {mg : Str → Option Value} {base : Heap} {T : List Addr}
theorem fn__law_cell {f : Addr} {fd : FuncData} (F : Fun K "_law_cell" "_law_cell" s__law_cell f fd) (mz_len : mg "len" = none) : FnOk P w K mg base (L2.CX P w) 1 f fd ["script", "k"] (spS K T mg 1 (fun ns => ap1 (m__law_cell ns))) := by
  refine fn_okS F sc__law_cell rfl (by decide) ?_
  intro cdv A outer s H G E a ns ds hr hl hne hS
  obtain ⟨k_1, rfl⟩ := len1 hl
  have h64 := hr.units
  exact sh [.raw (.ref a), .im k_1] (rb_ifx (rt_cmp (f := dLt) (op_ltA h64) od_lt (re_im 1) (re_lenS 0 hS mz_len)) (rb_retE (re_ixS 0 hr hS (re_im 1))) (rb_retE (re_int)))
theorem ok__law_cell {f : Addr} {fd : FuncData} (F : Fun K "_law_cell" "_law_cell" s__law_cell f fd) (hm : mg "_law_cell" = some (.ref f)) (bd : Binds K fd ["script", "k"] []) (mz_len : mg "len" = none) : CalS P w K mg base T "_law_cell" 1 1 (fun ns => ap1 (m__law_cell ns)) := CalS.mk' F (fn__law_cell F mz_len) hm bd (fun ns ds => ap1_len _ ds)
theorem fn__law_draw {f : Addr} {fd : FuncData} (F : Fun K "_law_draw" "_law_draw" s__law_draw f fd) (mz_len : mg "len" = none) (mz_range : mg "range" = none) (c__law_cell : CalS P w K mg base T "_law_cell" 1 1 (fun ns => ap1 (m__law_cell ns))) : FnOk P w K mg base (L2.CX P w) 2 f fd ["script", "k", "sizes"] (spS K T mg 2 (fun ns => ap2 (m__law_draw ns))) := by
  refine fn_okS F sc__law_draw rfl (by decide) ?_
  intro cdv A outer s H G E a ns ds hr hl hne hS
  obtain ⟨k_1, sizes_2, rfl⟩ := len2 hl
  have h64 := hr.units
  exact sh [.raw (.ref a), .im k_1, .im sizes_2, .no, .no, .no, .no, .no] (rb_set 3 sc__law_draw.nd (re_callS (ml := fun ns => ap1 (m__law_cell ns)) (ns := ns) 0 c__law_cell hr (by decide) (takes_of rfl rfl rfl rfl) (Wk.none rfl) hS (ra_cons (re_im 1) (ra_nil))) fun cell_3 => (sh [.raw (.ref a), .im (k_1), .im (sizes_2), .im (cell_3), .no, .no, .no, .no] (rb_seqN (ex := (fun s_4 : D => [.raw (.ref a), .im (k_1), .im (sizes_2), .im (s_4), .no, .no, .no, .no])) (rb_if (rt_cmp (f := dLt) (op_ltA h64) od_lt (re_im 3) (re_int)) (rb_set 3 sc__law_draw.nd (re_un un_neg ud_neg (re_im 3)) fun cell_5 => (sh [.raw (.ref a), .im (k_1), .im (sizes_2), .im (cell_5), .no, .no, .no, .no] (rb_nil_nx (.cons (.inr rfl) (.cons (.inr rfl) (.cons (.inr rfl) (.cons (.inr rfl) (.cons (.inl rfl) (.cons (.inl rfl) (.cons (.inl rfl) (.cons (.inl rfl) .nil))))))))))) (rb_nil_nx (.cons (.inr rfl) (.cons (.inr rfl) (.cons (.inr rfl) (.cons (.inr rfl) (.cons (.inl rfl) (.cons (.inl rfl) (.cons (.inl rfl) (.cons (.inl rfl) .nil)))))))))) fun s_4 => (sh [.raw (.ref a), .im (k_1), .im (sizes_2), .im (s_4), .no, .no, .no, .no] (rb_setO 4 sc__law_draw.nd (ro_lst (ra_nil)) fun drawn_6 => (sh [.raw (.ref a), .im (k_1), .im (sizes_2), .im (s_4), .ol (drawn_6), .no, .no, .no] (rb_ifx (rt_cmp (f := dGe) (op_ge) od_cmp (re_im 3) (re_bin (f := dPow) op_pow od_I (re_int) (re_int))) (rb_set 3 sc__law_draw.nd (re_bin (f := dSub) op_sub od_sub (re_im 3) (re_bin (f := dPow) op_pow od_I (re_int) (re_int))) fun cell_7 => (sh [.raw (.ref a), .im (k_1), .im (sizes_2), .im (cell_7), .ol (drawn_6), .no, .no, .no] (rb_seqN (ex := fun s_12 : D × (List D) => [.raw (.ref a), .im (k_1), .im (sizes_2), .im (s_12.1), .ol (s_12.2), .no, .no, .no]) (rs_forNP 7 (lb := (fun s_8 : D × (List D) => [.raw (.ref a), .im (k_1), .im (sizes_2), .im (s_8.1), .ol (s_8.2), .no, .no, .no])) (b0 := (cell_7, drawn_6)) (body := fun size_9 s_8 => (m__law_draw_b1 size_9 s_8)) (passes_of rfl) rfl sc__law_draw.nd (ri_seq (re_im 2)) (.cons (.inr rfl) (.cons (.inr rfl) (.cons (.inr rfl) (.cons (.inr rfl) (.cons (.inr rfl) (.cons (.inl rfl) (.cons (.inl rfl) (.cons (.inl rfl) .nil)))))))) fun size_9 s_8 => (sh [.raw (.ref a), .im (k_1), .im (sizes_2), .im (s_8.1), .ol (s_8.2), .no, .no, .im (size_9)] (rb_append 4 (re_bin (f := dMod) op_mod' od_I (re_im 3) (re_im 7)) (fun drawn_10 => (sh [.raw (.ref a), .im (k_1), .im (sizes_2), .im (s_8.1), .ol (drawn_10), .no, .no, .im (size_9)] (rb_set 3 sc__law_draw.nd (re_bin (f := dFdiv) op_fdivW od_I (re_im 3) (re_im 7)) fun cell_11 => (sh [.raw (.ref a), .im (k_1), .im (sizes_2), .im (cell_11), .ol (drawn_10), .no, .no, .im (size_9)] (rb_nil_nc (.cons (.inr rfl) (.cons (.inr rfl) (.cons (.inr rfl) (.cons (.inr rfl) (.cons (.inr rfl) (.cons (.inl rfl) (.cons (.inl rfl) (.cons (.inl rfl) .nil))))))))))))) (hpm := fun _ _ a b => pe_bm PySem.F.plainAttrs_list PySem.F.slot_list_append PySem.F.type_list_append mt_append a b)))) fun s_12 => (sh [.raw (.ref a), .im (k_1), .im (sizes_2), .im (s_12.1), .ol (s_12.2), .no, .no, .no] (rb_freeze 4 (sh [.raw (.ref a), .im (k_1), .im (sizes_2), .im (s_12.1), .im ((PyData.list s_12.2)), .no, .no, .no] (rb_retE (re_im 4)))))))) (rb_set 5 sc__law_draw.nd (re_bin (f := dMod) op_mod' od_I (re_bin (f := dAdd) op_addA od_add (re_bin (f := dAdd) op_addA od_add (re_im 3) (re_int)) (re_bin (f := dMul) op_mulA od_mul (re_int) (re_im 1))) (re_int)) fun mixed_13 => (sh [.raw (.ref a), .im (k_1), .im (sizes_2), .im (s_4), .ol (drawn_6), .im (mixed_13), .no, .no] (rb_seqN (ex := fun s_19 : (List D) × D => [.raw (.ref a), .im (k_1), .im (sizes_2), .im (s_4), .ol (s_19.1), .im (s_19.2), .no, .no]) (rs_forNP 6 (lb := (fun s_14 : (List D) × D => [.raw (.ref a), .im (k_1), .im (sizes_2), .im (s_4), .ol (s_14.1), .im (s_14.2), .no, .no])) (b0 := (drawn_6, mixed_13)) (body := fun j_15 s_14 => (m__law_draw_b2 sizes_2 j_15 s_14)) (passes_of rfl) rfl sc__law_draw.nd (ri_rng1 mz_range (re_callB cr_len ca_len mz_len bt_len (ra_cons (re_im 2) (ra_nil)))) (.cons (.inr rfl) (.cons (.inr rfl) (.cons (.inr rfl) (.cons (.inr rfl) (.cons (.inr rfl) (.cons (.inr rfl) (.cons (.inl rfl) (.cons (.inl rfl) .nil)))))))) fun j_15 s_14 => (sh [.raw (.ref a), .im (k_1), .im (sizes_2), .im (s_4), .ol (s_14.1), .im (s_14.2), .im (j_15), .no] (rb_set 5 sc__law_draw.nd (re_bin (f := dMod) op_mod' od_I (re_bin (f := dAdd) op_addA od_add (re_bin (f := dAdd) op_addA od_add (re_bin (f := dMul) op_mulA od_mul (re_im 5) (re_int)) (re_int)) (re_im 6)) (re_int)) fun mixed_16 => (sh [.raw (.ref a), .im (k_1), .im (sizes_2), .im (s_4), .ol (s_14.1), .im (mixed_16), .im (j_15), .no] (rb_set 5 sc__law_draw.nd (re_bin (f := dMod) op_mod' od_I (re_bin (f := dAdd) op_addA od_add (re_bin (f := dMul) op_mulA od_mul (re_im 5) (re_int)) (re_int)) (re_int)) fun mixed_17 => (sh [.raw (.ref a), .im (k_1), .im (sizes_2), .im (s_4), .ol (s_14.1), .im (mixed_17), .im (j_15), .no] (rb_append 4 (re_bin (f := dMod) op_mod' od_I (re_bin (f := dFdiv) op_fdivW od_I (re_im 5) (re_int)) (re_ix hr (re_im 2) (re_im 6))) (fun drawn_18 => (sh [.raw (.ref a), .im (k_1), .im (sizes_2), .im (s_4), .ol (drawn_18), .im (mixed_17), .im (j_15), .no] (rb_nil_nc (.cons (.inr rfl) (.cons (.inr rfl) (.cons (.inr rfl) (.cons (.inr rfl) (.cons (.inr rfl) (.cons (.inr rfl) (.cons (.inl rfl) (.cons (.inl rfl) .nil))))))))))) (hpm := fun _ _ a b => pe_bm PySem.F.plainAttrs_list PySem.F.slot_list_append PySem.F.type_list_append mt_append a b)))))))) fun s_19 => (sh [.raw (.ref a), .im (k_1), .im (sizes_2), .im (s_4), .ol (s_19.1), .im (s_19.2), .no, .no] (rb_freeze 4 (sh [.raw (.ref a), .im (k_1), .im (sizes_2), .im (s_4), .im ((PyData.list s_19.1)), .im (s_19.2), .no, .no] (rb_retE (re_im 4)))))))))))))))
theorem ok__law_draw {f : Addr} {fd : FuncData} (F : Fun K "_law_draw" "_law_draw" s__law_draw f fd) (hm : mg "_law_draw" = some (.ref f)) (bd : Binds K fd ["script", "k", "sizes"] []) (mz_len : mg "len" = none) (mz_range : mg "range" = none) (c__law_cell : CalS P w K mg base T "_law_cell" 1 1 (fun ns => ap1 (m__law_cell ns))) : CalS P w K mg base T "_law_draw" 2 2 (fun ns => ap2 (m__law_draw ns)) := CalS.mk' F (fn__law_draw F mz_len mz_range c__law_cell) hm bd (fun ns ds => ap2_len _ ds)
theorem fn__law_gcd {f : Addr} {fd : FuncData} (F : Fun K "_law_gcd" "_law_gcd" s__law_gcd f fd) (mz_range : mg "range" = none) : FnOk P w K mg base (L2.CX P w) 1 f fd ["left", "right"] (spM K T mg 2 (ap2 (m__law_gcd))) := by
  refine fn_ok F sc__law_gcd rfl (by decide) ?_
  intro cdv A outer s H G E ds hr hl hne
  obtain ⟨left_1, right_2, rfl⟩ := len2 hl
  have h64 := hr.units
  exact sh [.im left_1, .im right_2, .no] (rb_seqL (lb := fun s_7 : D × D => [.im (s_7.1), .im (s_7.2), .no]) (rs_forN 2 (lb := (fun s_3 : D × D => [.im (s_3.1), .im (s_3.2), .no])) (b0 := (left_1, right_2)) (body := fun turn_4 s_3 => (m__law_gcd_b1 turn_4 s_3)) (passes_of rfl) rfl sc__law_gcd.nd (ri_rng1 mz_range (re_int)) (.cons (.inr rfl) (.cons (.inr rfl) (.cons (.inl rfl) .nil))) fun turn_4 s_3 => (sh [.im (s_3.1), .im (s_3.2), .im (turn_4)] (rb_ifx (rt_cmp (f := dEq) (op_eqA h64) od_eq (re_im 1) (re_int)) (rb_ret (f := fun d => Fl.rt d) (re_im 0)) (rb_par 0 1 rfl sc__law_gcd.nd (ra_cons (re_im 1) (ra_cons (re_bin (f := dMod) op_mod' od_I (re_im 0) (re_im 1)) (ra_nil))) fun left_5 right_6 => (sh [.im (left_5), .im (right_6), .im (turn_4)] (rb_nil_nc (.cons (.inr rfl) (.cons (.inr rfl) (.cons (.inl rfl) .nil))))))))) fun s_7 => (sh [.im (s_7.1), .im (s_7.2), .no] (rb_retE (re_im 0))))
theorem ok__law_gcd {f : Addr} {fd : FuncData} (F : Fun K "_law_gcd" "_law_gcd" s__law_gcd f fd) (hm : mg "_law_gcd" = some (.ref f)) (bd : Binds K fd ["left", "right"] []) (mz_range : mg "range" = none) : Cal P w K mg base T "_law_gcd" 2 1 (ap2 (m__law_gcd)) := Cal.mk' F (fn__law_gcd F mz_range) hm bd (ap2_len _)
theorem fn__law_ratio {f : Addr} {fd : FuncData} (F : Fun K "_law_ratio" "_law_ratio" s__law_ratio f fd) (c__law_gcd : Cal P w K mg base T "_law_gcd" 2 1 (ap2 (m__law_gcd))) : FnOk P w K mg base (L2.CX P w) 2 f fd ["top", "bottom"] (spM K T mg 2 (ap2 (m__law_ratio))) := by
  refine fn_ok F sc__law_ratio rfl (by decide) ?_
  intro cdv A outer s H G E ds hr hl hne
  obtain ⟨top_1, bottom_2, rfl⟩ := len2 hl
  have h64 := hr.units
  exact sh [.im top_1, .im bottom_2, .no] (rb_set 2 sc__law_ratio.nd (re_call (ml := ap2 (m__law_gcd)) c__law_gcd hr (by decide) (takes_of rfl rfl rfl rfl) (Wk.none rfl) (ra_cons (re_im 0) (ra_cons (re_im 1) (ra_nil)))) fun common_3 => (sh [.im (top_1), .im (bottom_2), .im (common_3)] (rb_retE (re_tup (ra_cons (re_bin (f := dFdiv) op_fdivW od_I (re_im 0) (re_im 2)) (ra_cons (re_bin (f := dFdiv) op_fdivW od_I (re_im 1) (re_im 2)) (ra_nil)))))))
theorem ok__law_ratio {f : Addr} {fd : FuncData} (F : Fun K "_law_ratio" "_law_ratio" s__law_ratio f fd) (hm : mg "_law_ratio" = some (.ref f)) (bd : Binds K fd ["top", "bottom"] []) (c__law_gcd : Cal P w K mg base T "_law_gcd" 2 1 (ap2 (m__law_gcd))) : Cal P w K mg base T "_law_ratio" 2 2 (ap2 (m__law_ratio)) := Cal.mk' F (fn__law_ratio F c__law_gcd) hm bd (ap2_len _)
theorem fn__law_strictly {f : Addr} {fd : FuncData} (F : Fun K "_law_strictly" "_law_strictly" s__law_strictly f fd) (mz_bool : mg "bool" = none) (mz_int : mg "int" = none) (mz_isinstance : mg "isinstance" = none) (mz_len : mg "len" = none) (mz_list : mg "list" = none) (mz_range : mg "range" = none) (mz_str : mg "str" = none) (mz_tuple : mg "tuple" = none) {k : Nat} (hk : 0 ≤ k) {rec : D → D → R D} (ih : Cal P w K mg base T "_law_strictly" 2 k (ap2 rec)) : FnOk P w K mg base (L2.CX P w) (k + 1) f fd ["expected", "actual"] (spM K T mg 2 (ap2 (m__law_strictly_step rec))) := by
  refine fn_ok F sc__law_strictly rfl (by decide) ?_
  intro cdv A outer s H G E ds hr hl hne
  obtain ⟨expected_1, actual_2, rfl⟩ := len2 hl
  have h64 := hr.units
  exact sh [.im expected_1, .im actual_2, .no] (rb_ifx (rt_cmp (f := dIsN) (op_isN) od_isN (re_im 0) (re_non)) (rb_retE (re_cmp (f := dIsN) (op_isN) od_isN (re_im 1) (re_non))) (rb_ifx (rt_val (re_isi mz_isinstance mz_bool bt_bool is_bool (re_im 0))) (rb_retE (re_and (re_isi mz_isinstance mz_int bt_int is_int (re_im 1)) (re_and1 (re_cmp (f := dEq) (op_eqA h64) od_eq (re_im 1) (re_im 0))))) (rb_ifx (rt_val (re_isi mz_isinstance mz_int bt_int is_int (re_im 0))) (rb_retE (re_and (re_isi mz_isinstance mz_int bt_int is_int (re_im 1)) (re_and (re_not (re_isi mz_isinstance mz_bool bt_bool is_bool (re_im 1))) (re_and1 (re_cmp (f := dEq) (op_eqA h64) od_eq (re_im 1) (re_im 0)))))) (rb_ifx (rt_val (re_isi mz_isinstance mz_str bt_str is_str (re_im 0))) (rb_retE (re_and (re_isi mz_isinstance mz_str bt_str is_str (re_im 1)) (re_and1 (re_cmp (f := dEq) (op_eqA h64) od_eq (re_im 1) (re_im 0))))) (rb_ifx (rt_w (rw_or (rt_cmp (f := dNe) (op_neA h64) od_ne (re_isi mz_isinstance mz_tuple bt_tuple is_tuple (re_im 0)) (re_isi mz_isinstance mz_tuple bt_tuple is_tuple (re_im 1))) (rw_or1 (rt_cmp (f := dNe) (op_neA h64) od_ne (re_isi mz_isinstance mz_list bt_list is_list (re_im 0)) (re_isi mz_isinstance mz_list bt_list is_list (re_im 1)))))) (rb_retE (re_bl)) (rb_ifx (rt_w (rw_or (rt_val (re_isi mz_isinstance mz_tuple bt_tuple is_tuple (re_im 0))) (rw_or1 (rt_val (re_isi mz_isinstance mz_list bt_list is_list (re_im 0)))))) (rb_ifx (rt_cmp (f := dNe) (op_neA h64) od_ne (re_callB cr_len ca_len mz_len bt_len (ra_cons (re_im 1) (ra_nil))) (re_callB cr_len ca_len mz_len bt_len (ra_cons (re_im 0) (ra_nil)))) (rb_retE (re_bl)) (rb_seqL (lb := fun s_5 : Unit => [.im (expected_1), .im (actual_2), .no]) (rs_forN 2 (lb := (fun s_3 : Unit => [.im (expected_1), .im (actual_2), .no])) (b0 := ()) (body := fun place_4 s_3 => (m__law_strictly_b1 expected_1 actual_2 rec place_4 s_3)) (passes_of rfl) rfl sc__law_strictly.nd (ri_rng1 mz_range (re_callB cr_len ca_len mz_len bt_len (ra_cons (re_im 0) (ra_nil)))) (.cons (.inr rfl) (.cons (.inr rfl) (.cons (.inl rfl) .nil))) fun place_4 s_3 => (sh [.im (expected_1), .im (actual_2), .im (place_4)] (rb_last (rb_if (rt_not (rt_val (re_call (ml := ap2 (rec)) ih hr (Nat.le_refl _) (takes_of rfl rfl rfl rfl) (Wk.none rfl) (ra_cons (re_ix hr (re_im 0) (re_im 2)) (ra_cons (re_ix hr (re_im 1) (re_im 2)) (ra_nil)))))) (rb_ret (f := fun d => Fl.rt d) (re_bl)) (rb_nil_nc (.cons (.inr rfl) (.cons (.inr rfl) (.cons (.inl rfl) .nil)))))))) fun s_5 => (sh [.im (expected_1), .im (actual_2), .no] (rb_retE (re_bl))))) (rb_retE (re_cmp (f := dEq) (op_eqA h64) od_eq (re_im 1) (re_im 0)))))))))
theorem ok__law_strictly {f : Addr} {fd : FuncData} (F : Fun K "_law_strictly" "_law_strictly" s__law_strictly f fd) (hm : mg "_law_strictly" = some (.ref f)) (bd : Binds K fd ["expected", "actual"] []) (mz_bool : mg "bool" = none) (mz_int : mg "int" = none) (mz_isinstance : mg "isinstance" = none) (mz_len : mg "len" = none) (mz_list : mg "list" = none) (mz_range : mg "range" = none) (mz_str : mg "str" = none) (mz_tuple : mg "tuple" = none) : ∀ fuel : Nat, Cal P w K mg base T "_law_strictly" 2 (1 + fuel) (ap2 (m__law_strictly fuel))
  | 0 => by
    refine Cal.mk' F (fn_no F sc__law_strictly rfl (by decide) fun ds => ?_) hm bd (ap2_len _)
    unfold ap2
    split <;> rfl
  | fuel + 1 => Cal.mk' F (fn__law_strictly F mz_bool mz_int mz_isinstance mz_len mz_list mz_range mz_str mz_tuple (by omega) (ok__law_strictly F hm bd mz_bool mz_int mz_isinstance mz_len mz_list mz_range mz_str mz_tuple fuel)) hm bd (ap2_len _)
theorem fn_gcd_of {f : Addr} {fd : FuncData} (F : Fun K "gcd_of" "gcd_of" s_gcd_of f fd)  : FnOk P w K mg base (L2.CX P w) 1 f fd ["left", "right"] (spM K T mg 2 (ap2 (m_gcd_of))) := by
  refine fn_ok F sc_gcd_of rfl (by decide) ?_
  intro cdv A outer s H G E ds hr hl hne
  obtain ⟨left_1, right_2, rfl⟩ := len2 hl
  have h64 := hr.units
  exact sh [.im left_1, .im right_2] (rb_seqB (lb := fun s_6 : D × D => [.im (s_6.1), .im (s_6.2)]) (rs_while (lb := (fun s_3 : D × D => [.im (s_3.1), .im (s_3.2)])) (b0 := (left_1, right_2)) (mc := fun s_3 => (m_gcd_of_t1 s_3)) (body := fun s_3 => (m_gcd_of_b2 s_3)) (passes_of rfl) (.cons (.inr rfl) (.cons (.inr rfl) .nil)) (fun s_3 => (show RT _ _ _ _ _ _ [.im (s_3.1), .im (s_3.2)] _ _ from (rt_cmp (f := dNe) (op_neA h64) od_ne (re_im 1) (re_int)))) fun s_3 => (sh [.im (s_3.1), .im (s_3.2)] (rb_par 0 1 rfl sc_gcd_of.nd (ra_cons (re_im 1) (ra_cons (re_bin (f := dMod) op_mod' od_I (re_im 0) (re_im 1)) (ra_nil))) fun left_4 right_5 => (sh [.im (left_4), .im (right_5)] (rb_nil_nc (.cons (.inr rfl) (.cons (.inr rfl) .nil))))))) fun s_6 => (sh [.im (s_6.1), .im (s_6.2)] (rb_retE (re_im 0))))
theorem ok_gcd_of {f : Addr} {fd : FuncData} (F : Fun K "gcd_of" "gcd_of" s_gcd_of f fd) (hm : mg "gcd_of" = some (.ref f)) (bd : Binds K fd ["left", "right"] [])  : Cal P w K mg base T "gcd_of" 2 1 (ap2 (m_gcd_of)) := Cal.mk' F (fn_gcd_of F ) hm bd (ap2_len _)
theorem fn_less {f : Addr} {fd : FuncData} (F : Fun K "less" "less" s_less f fd)  : FnOk P w K mg base (L2.CX P w) 1 f fd ["left", "right"] (spM K T mg 2 (ap2 (m_less))) := by
  refine fn_ok F sc_less rfl (by decide) ?_
  intro cdv A outer s H G E ds hr hl hne
  obtain ⟨left_1, right_2, rfl⟩ := len2 hl
  have h64 := hr.units
  exact sh [.im left_1, .im right_2] (rb_retE (re_cmp (f := dLt) (op_ltA h64) od_lt (re_bin (f := dMul) op_mulA od_mul (re_ix hr (re_im 0) (re_int)) (re_ix hr (re_im 1) (re_int))) (re_bin (f := dMul) op_mulA od_mul (re_ix hr (re_im 1) (re_int)) (re_ix hr (re_im 0) (re_int)))))
theorem ok_less {f : Addr} {fd : FuncData} (F : Fun K "less" "less" s_less f fd) (hm : mg "less" = some (.ref f)) (bd : Binds K fd ["left", "right"] [])  : Cal P w K mg base T "less" 2 1 (ap2 (m_less)) := Cal.mk' F (fn_less F ) hm bd (ap2_len _)
theorem fn_ratio {f : Addr} {fd : FuncData} (F : Fun K "ratio" "ratio" s_ratio f fd) (c_gcd_of : Cal P w K mg base T "gcd_of" 2 1 (ap2 (m_gcd_of))) : FnOk P w K mg base (L2.CX P w) 2 f fd ["top", "bottom"] (spM K T mg 2 (ap2 (m_ratio))) := by
  refine fn_ok F sc_ratio rfl (by decide) ?_
  intro cdv A outer s H G E ds hr hl hne
  obtain ⟨top_1, bottom_2, rfl⟩ := len2 hl
  have h64 := hr.units
  exact sh [.im top_1, .im bottom_2, .no] (rb_set 2 sc_ratio.nd (re_call (ml := ap2 (m_gcd_of)) c_gcd_of hr (by decide) (takes_of rfl rfl rfl rfl) (Wk.none rfl) (ra_cons (re_im 0) (ra_cons (re_im 1) (ra_nil)))) fun common_3 => (sh [.im (top_1), .im (bottom_2), .im (common_3)] (rb_retE (re_tup (ra_cons (re_bin (f := dFdiv) op_fdivW od_I (re_im 0) (re_im 2)) (ra_cons (re_bin (f := dFdiv) op_fdivW od_I (re_im 1) (re_im 2)) (ra_nil)))))))
theorem ok_ratio {f : Addr} {fd : FuncData} (F : Fun K "ratio" "ratio" s_ratio f fd) (hm : mg "ratio" = some (.ref f)) (bd : Binds K fd ["top", "bottom"] []) (c_gcd_of : Cal P w K mg base T "gcd_of" 2 1 (ap2 (m_gcd_of))) : Cal P w K mg base T "ratio" 2 2 (ap2 (m_ratio)) := Cal.mk' F (fn_ratio F c_gcd_of) hm bd (ap2_len _)
theorem fn_share {f : Addr} {fd : FuncData} (F : Fun K "share" "share" s_share f fd) (c_ratio : Cal P w K mg base T "ratio" 2 2 (ap2 (m_ratio))) : FnOk P w K mg base (L2.CX P w) 3 f fd ["part", "whole"] (spM K T mg 2 (ap2 (m_share))) := by
  refine fn_ok F sc_share rfl (by decide) ?_
  intro cdv A outer s H G E ds hr hl hne
  obtain ⟨part_1, whole_2, rfl⟩ := len2 hl
  have h64 := hr.units
  exact sh [.im part_1, .im whole_2] (rb_retE (re_if (rt_cmp (f := dEq) (op_eqA h64) od_eq (re_im 1) (re_int)) (re_tup (ra_cons (re_int) (ra_cons (re_int) (ra_nil)))) (re_call (ml := ap2 (m_ratio)) c_ratio hr (by decide) (takes_of rfl rfl rfl rfl) (Wk.none rfl) (ra_cons (re_im 0) (ra_cons (re_im 1) (ra_nil))))))
theorem ok_share {f : Addr} {fd : FuncData} (F : Fun K "share" "share" s_share f fd) (hm : mg "share" = some (.ref f)) (bd : Binds K fd ["part", "whole"] []) (c_ratio : Cal P w K mg base T "ratio" 2 2 (ap2 (m_ratio))) : Cal P w K mg base T "share" 2 3 (ap2 (m_share)) := Cal.mk' F (fn_share F c_ratio) hm bd (ap2_len _)
theorem fn_mean_of {f : Addr} {fd : FuncData} (F : Fun K "mean_of" "mean_of" s_mean_of f fd) (mz_len : mg "len" = none) (mz_sum : mg "sum" = none) (c_share : Cal P w K mg base T "share" 2 3 (ap2 (m_share))) : FnOk P w K mg base (L2.CX P w) 4 f fd ["numbers"] (spM K T mg 1 (ap1 (m_mean_of))) := by
  refine fn_ok F sc_mean_of rfl (by decide) ?_
  intro cdv A outer s H G E ds hr hl hne
  obtain ⟨numbers_1, rfl⟩ := len1 hl
  have h64 := hr.units
  exact sh [.im numbers_1] (rb_retE (re_call (ml := ap2 (m_share)) c_share hr (by decide) (takes_of rfl rfl rfl rfl) (Wk.none rfl) (ra_cons (re_callB (cr_sum rfl) ca_sum mz_sum bt_sum (ra_cons (re_im 0) (ra_nil))) (ra_cons (re_callB cr_len ca_len mz_len bt_len (ra_cons (re_im 0) (ra_nil))) (ra_nil)))))
theorem ok_mean_of {f : Addr} {fd : FuncData} (F : Fun K "mean_of" "mean_of" s_mean_of f fd) (hm : mg "mean_of" = some (.ref f)) (bd : Binds K fd ["numbers"] []) (mz_len : mg "len" = none) (mz_sum : mg "sum" = none) (c_share : Cal P w K mg base T "share" 2 3 (ap2 (m_share))) : Cal P w K mg base T "mean_of" 1 4 (ap1 (m_mean_of)) := Cal.mk' F (fn_mean_of F mz_len mz_sum c_share) hm bd (ap1_len _)
theorem fn_plus {f : Addr} {fd : FuncData} (F : Fun K "plus" "plus" s_plus f fd) (c_ratio : Cal P w K mg base T "ratio" 2 2 (ap2 (m_ratio))) : FnOk P w K mg base (L2.CX P w) 3 f fd ["left", "right"] (spM K T mg 2 (ap2 (m_plus))) := by
  refine fn_ok F sc_plus rfl (by decide) ?_
  intro cdv A outer s H G E ds hr hl hne
  obtain ⟨left_1, right_2, rfl⟩ := len2 hl
  have h64 := hr.units
  exact sh [.im left_1, .im right_2] (rb_retE (re_call (ml := ap2 (m_ratio)) c_ratio hr (by decide) (takes_of rfl rfl rfl rfl) (Wk.none rfl) (ra_cons (re_bin (f := dAdd) op_addA od_add (re_bin (f := dMul) op_mulA od_mul (re_ix hr (re_im 0) (re_int)) (re_ix hr (re_im 1) (re_int))) (re_bin (f := dMul) op_mulA od_mul (re_ix hr (re_im 1) (re_int)) (re_ix hr (re_im 0) (re_int)))) (ra_cons (re_bin (f := dMul) op_mulA od_mul (re_ix hr (re_im 0) (re_int)) (re_ix hr (re_im 1) (re_int))) (ra_nil)))))
theorem ok_plus {f : Addr} {fd : FuncData} (F : Fun K "plus" "plus" s_plus f fd) (hm : mg "plus" = some (.ref f)) (bd : Binds K fd ["left", "right"] []) (c_ratio : Cal P w K mg base T "ratio" 2 2 (ap2 (m_ratio))) : Cal P w K mg base T "plus" 2 3 (ap2 (m_plus)) := Cal.mk' F (fn_plus F c_ratio) hm bd (ap2_len _)
theorem fn_law {f : Addr} {fd : FuncData} (F : Fun K "law" "law" s_law f fd) (mz_len : mg "len" = none) (mz_max : mg "max" = none) (mz_range : mg "range" = none) (mz_sum : mg "sum" = none) (c__law_draw : CalS P w K mg base T "_law_draw" 2 2 (fun ns => ap2 (m__law_draw ns))) (c__law_strictly : Cal P w K mg base T "_law_strictly" 2 7 (ap2 (m__law_strictly 6))) (c_gcd_of : Cal P w K mg base T "gcd_of" 2 1 (ap2 (m_gcd_of))) (c__law_gcd : Cal P w K mg base T "_law_gcd" 2 1 (ap2 (m__law_gcd))) (c__law_ratio : Cal P w K mg base T "_law_ratio" 2 2 (ap2 (m__law_ratio))) (c_ratio : Cal P w K mg base T "ratio" 2 2 (ap2 (m_ratio))) (c_plus : Cal P w K mg base T "plus" 2 3 (ap2 (m_plus))) (c_less : Cal P w K mg base T "less" 2 1 (ap2 (m_less))) (c_share : Cal P w K mg base T "share" 2 3 (ap2 (m_share))) (c_mean_of : Cal P w K mg base T "mean_of" 1 4 (ap1 (m_mean_of))) : FnOk P w K mg base (L2.CX P w) 8 f fd ["script"] (spS K T mg 0 (fun ns => ap0 (m_law ns))) := by
  refine fn_okS F sc_law rfl (by decide) ?_
  intro cdv A outer s H G E a ns ds hr hl hne hS
  obtain rfl := len0 hl
  have h64 := hr.units
  exact sh [.raw (.ref a), .no, .no, .no, .no, .no, .no, .no, .no, .no, .no, .no, .no, .no] (rb_asg5 6 7 8 9 10 (re_callS (ml := fun ns => ap2 (m__law_draw ns)) (ns := ns) 0 c__law_draw hr (by decide) (takes_of rfl rfl rfl rfl) (Wk.none rfl) hS (ra_cons (re_int) (ra_cons (re_ro (ro_lst (ra_cons (re_int) (ra_cons (re_int) (ra_cons (re_int) (ra_cons (re_int) (ra_cons (re_int) (ra_nil)))))))) (ra_nil)))) (rg_seq rfl (rgs_cons (rg_name 6 sc_law.nd) (rgs_cons (rg_name 7 sc_law.nd) (rgs_cons (rg_name 8 sc_law.nd) (rgs_cons (rg_name 9 sc_law.nd) (rgs_cons (rg_name 10 sc_law.nd) rgs_nil)))))) fun flag_1 a_2 b_3 c_4 d_5 => (sh [.raw (.ref a), .no, .no, .no, .no, .no, .im (flag_1), .im (a_2), .im (b_3), .im (c_4), .im (d_5), .no, .no, .no] (rb_seqN (ex := (fun s_6 : D × D × D × D => [.raw (.ref a), .no, .no, .no, .no, .no, .im (flag_1), .im (s_6.1), .im (s_6.2.1), .im (s_6.2.2.1), .im (s_6.2.2.2), .no, .no, .no])) (rb_if (rt_cmp (f := dEq) (op_eqA h64) od_eq (re_im 6) (re_int)) (rb_asg4 7 8 9 10 (re_tup (ra_cons (re_bin (f := dMod) op_mod' od_I (re_im 7) (re_int)) (ra_cons (re_bin (f := dMod) op_mod' od_I (re_im 8) (re_int)) (ra_cons (re_bin (f := dMod) op_mod' od_I (re_im 9) (re_int)) (ra_cons (re_bin (f := dMod) op_mod' od_I (re_im 10) (re_int)) (ra_nil)))))) (rg_seq rfl (rgs_cons (rg_name 7 sc_law.nd) (rgs_cons (rg_name 8 sc_law.nd) (rgs_cons (rg_name 9 sc_law.nd) (rgs_cons (rg_name 10 sc_law.nd) rgs_nil))))) fun a_7 b_8 c_9 d_10 => (sh [.raw (.ref a), .no, .no, .no, .no, .no, .im (flag_1), .im (a_7), .im (b_8), .im (c_9), .im (d_10), .no, .no, .no] (rb_nil_nx (.cons (.inr rfl) (.cons (.inl rfl) (.cons (.inl rfl) (.cons (.inl rfl) (.cons (.inl rfl) (.cons (.inl rfl) (.cons (.inr rfl) (.cons (.inr rfl) (.cons (.inr rfl) (.cons (.inr rfl) (.cons (.inr rfl) (.cons (.inl rfl) (.cons (.inl rfl) (.cons (.inl rfl) .nil))))))))))))))))) (rb_nil_nx (.cons (.inr rfl) (.cons (.inl rfl) (.cons (.inl rfl) (.cons (.inl rfl) (.cons (.inl rfl) (.cons (.inl rfl) (.cons (.inr rfl) (.cons (.inr rfl) (.cons (.inr rfl) (.cons (.inr rfl) (.cons (.inr rfl) (.cons (.inl rfl) (.cons (.inl rfl) (.cons (.inl rfl) .nil)))))))))))))))) fun s_6 => (sh [.raw (.ref a), .no, .no, .no, .no, .no, .im (flag_1), .im (s_6.1), .im (s_6.2.1), .im (s_6.2.2.1), .im (s_6.2.2.2), .no, .no, .no] (rb_ifx (rt_not (rt_val (re_call (ml := ap2 (m__law_strictly 6)) c__law_strictly hr (by decide) (takes_of rfl rfl rfl rfl) (Wk.none rfl) (ra_cons (re_call (ml := ap2 (m__law_gcd)) c__law_gcd hr (by decide) (takes_of rfl rfl rfl rfl) (Wk.none rfl) (ra_cons (re_im 7) (ra_cons (re_im 8) (ra_nil)))) (ra_cons (re_call (ml := ap2 (m_gcd_of)) c_gcd_of hr (by decide) (takes_of rfl rfl rfl rfl) (Wk.none rfl) (ra_cons (re_im 7) (ra_cons (re_im 8) (ra_nil)))) (ra_nil)))))) (rb_retE (re_bl)) (rb_seqL (lb := (fun s_11 : Unit => [.raw (.ref a), .no, .no, .no, .no, .no, .im (flag_1), .im (s_6.1), .im (s_6.2.1), .im (s_6.2.2.1), .im (s_6.2.2.2), .no, .no, .no])) (rb_if (rt_w (rw_and (rt_cmp (f := dLt) (op_ltA h64) od_lt (re_im 7) (re_int)) (rw_and (rt_cmp (f := dLt) (op_ltA h64) od_lt (re_im 8) (re_int)) (rw_and1 (rt_cmp (f := dGt) (op_gt) od_cmp (re_bin (f := dAdd) op_addA od_add (re_im 7) (re_im 8)) (re_int)))))) (rb_last (rb_if (rt_cmp (f := dNe) (op_neA h64) od_ne (re_call (ml := ap2 (m_gcd_of)) c_gcd_of hr (by decide) (takes_of rfl rfl rfl rfl) (Wk.none rfl) (ra_cons (re_im 7) (ra_cons (re_im 8) (ra_nil)))) (re_callB (cr_max rfl) ca_max mz_max bt_max (ra_cons (re_ro (ro_rc rfl sc_law.nd (blk_ok [("k", 13)] (by kernel_rfl)) (rc_N 13 (mt := fun k_12 => (andM ((op2 dEq (op2 dMod (R.ok s_6.1) (R.ok k_12)) (R.ok (PyData.int 0))).bind asB) ((op2 dEq (op2 dMod (R.ok s_6.2.1) (R.ok k_12)) (R.ok (PyData.int 0))).bind asB))) (me := fun k_12 => (R.ok k_12)) (ri_rng2 mz_range (re_int) (re_int)) (fun p => rgc_name 13 sc_law.nd (by decide)) (fun p k_12 => (show RTs _ _ _ _ _ _ [.raw (.ref a), .no, .no, .no, .no, .no, .im (flag_1), .im (s_6.1), .im (s_6.2.1), .im (s_6.2.2.1), .im (s_6.2.2.2), .no, .no, .im (k_12)] _ _ from (rts_one (rt_w (rw_and (rt_cmp (f := dEq) (op_eqA h64) od_eq (re_bin (f := dMod) op_mod' od_I (re_im 7) (re_im 13)) (re_int)) (rw_and1 (rt_cmp (f := dEq) (op_eqA h64) od_eq (re_bin (f := dMod) op_mod' od_I (re_im 8) (re_im 13)) (re_int)))))))) (fun p k_12 => (show RE _ _ _ _ _ _ [.raw (.ref a), .no, .no, .no, .no, .no, .im (flag_1), .im (s_6.1), .im (s_6.2.1), .im (s_6.2.2.1), .im (s_6.2.2.2), .no, .no, .im (k_12)] _ _ from (re_im 13)))))) (ra_nil)))) (rb_ret (f := fun d => Lo.rt d) (re_bl)) (rb_nil_nx (.cons (.inr rfl) (.cons (.inl rfl) (.cons (.inl rfl) (.cons (.inl rfl) (.cons (.inl rfl) (.cons (.inl rfl) (.cons (.inr rfl) (.cons (.inr rfl) (.cons (.inr rfl) (.cons (.inr rfl) (.cons (.inr rfl) (.cons (.inl rfl) (.cons (.inl rfl) (.cons (.inl rfl) .nil))))))))))))))))) (rb_nil_nx (.cons (.inr rfl) (.cons (.inl rfl) (.cons (.inl rfl) (.cons (.inl rfl) (.cons (.inl rfl) (.cons (.inl rfl) (.cons (.inr rfl) (.cons (.inr rfl) (.cons (.inr rfl) (.cons (.inr rfl) (.cons (.inr rfl) (.cons (.inl rfl) (.cons (.inl rfl) (.cons (.inl rfl) .nil)))))))))))))))) fun s_11 => (sh [.raw (.ref a), .no, .no, .no, .no, .no, .im (flag_1), .im (s_6.1), .im (s_6.2.1), .im (s_6.2.2.1), .im (s_6.2.2.2), .no, .no, .no] (rb_set 1 sc_law.nd (re_call (ml := ap2 (m__law_ratio)) c__law_ratio hr (by decide) (takes_of rfl rfl rfl rfl) (Wk.none rfl) (ra_cons (re_im 7) (ra_cons (re_bin (f := dAdd) op_addA od_add (re_im 8) (re_int)) (ra_nil)))) fun one_13 => (sh [.raw (.ref a), .im (one_13), .no, .no, .no, .no, .im (flag_1), .im (s_6.1), .im (s_6.2.1), .im (s_6.2.2.1), .im (s_6.2.2.2), .no, .no, .no] (rb_set 2 sc_law.nd (re_call (ml := ap2 (m__law_ratio)) c__law_ratio hr (by decide) (takes_of rfl rfl rfl rfl) (Wk.none rfl) (ra_cons (re_im 9) (ra_cons (re_bin (f := dAdd) op_addA od_add (re_im 10) (re_int)) (ra_nil)))) fun other_14 => (sh [.raw (.ref a), .im (one_13), .im (other_14), .no, .no, .no, .im (flag_1), .im (s_6.1), .im (s_6.2.1), .im (s_6.2.2.1), .im (s_6.2.2.2), .no, .no, .no] (rb_ifx (rt_w (rw_or (rt_not (rt_val (re_call (ml := ap2 (m__law_strictly 6)) c__law_strictly hr (by decide) (takes_of rfl rfl rfl rfl) (Wk.none rfl) (ra_cons (re_im 1) (ra_cons (re_call (ml := ap2 (m_ratio)) c_ratio hr (by decide) (takes_of rfl rfl rfl rfl) (Wk.none rfl) (ra_cons (re_im 7) (ra_cons (re_bin (f := dAdd) op_addA od_add (re_im 8) (re_int)) (ra_nil)))) (ra_nil)))))) (rw_or1 (rt_not (rt_val (re_call (ml := ap2 (m__law_strictly 6)) c__law_strictly hr (by decide) (takes_of rfl rfl rfl rfl) (Wk.none rfl) (ra_cons (re_im 2) (ra_cons (re_call (ml := ap2 (m_ratio)) c_ratio hr (by decide) (takes_of rfl rfl rfl rfl) (Wk.none rfl) (ra_cons (re_im 9) (ra_cons (re_bin (f := dAdd) op_addA od_add (re_im 10) (re_int)) (ra_nil)))) (ra_nil))))))))) (rb_retE (re_bl)) (rb_ifx (rt_not (rt_val (re_call (ml := ap2 (m__law_strictly 6)) c__law_strictly hr (by decide) (takes_of rfl rfl rfl rfl) (Wk.none rfl) (ra_cons (re_call (ml := ap2 (m__law_ratio)) c__law_ratio hr (by decide) (takes_of rfl rfl rfl rfl) (Wk.none rfl) (ra_cons (re_bin (f := dAdd) op_addA od_add (re_bin (f := dMul) op_mulA od_mul (re_im 7) (re_bin (f := dAdd) op_addA od_add (re_im 10) (re_int))) (re_bin (f := dMul) op_mulA od_mul (re_im 9) (re_bin (f := dAdd) op_addA od_add (re_im 8) (re_int)))) (ra_cons (re_bin (f := dMul) op_mulA od_mul (re_bin (f := dAdd) op_addA od_add (re_im 8) (re_int)) (re_bin (f := dAdd) op_addA od_add (re_im 10) (re_int))) (ra_nil)))) (ra_cons (re_call (ml := ap2 (m_plus)) c_plus hr (by decide) (takes_of rfl rfl rfl rfl) (Wk.none rfl) (ra_cons (re_im 1) (ra_cons (re_im 2) (ra_nil)))) (ra_nil)))))) (rb_retE (re_bl)) (rb_seqL (lb := fun s_18 : Unit => [.raw (.ref a), .im (one_13), .im (other_14), .no, .no, .no, .im (flag_1), .im (s_6.1), .im (s_6.2.1), .im (s_6.2.2.1), .im (s_6.2.2.2), .no, .no, .no]) (rs_forT2 11 12 (lb := (fun s_15 : Unit => [.raw (.ref a), .im (one_13), .im (other_14), .no, .no, .no, .im (flag_1), .im (s_6.1), .im (s_6.2.1), .im (s_6.2.2.1), .im (s_6.2.2.2), .no, .no, .no])) (b0 := ()) (body := fun left_16 right_17 s_15 => (m_law_b2 left_16 right_17 s_15)) (passes_of rfl) rfl (ri_seq (re_ro (ro_lst (ra_cons (re_tup (ra_cons (re_im 1) (ra_cons (re_im 2) (ra_nil)))) (ra_cons (re_tup (ra_cons (re_im 2) (ra_cons (re_im 1) (ra_nil)))) (ra_cons (re_tup (ra_cons (re_im 1) (ra_cons (re_im 1) (ra_nil)))) (ra_nil))))))) (rg_tup rfl (rgs_cons (rg_name 11 sc_law.nd) (rgs_cons (rg_name 12 sc_law.nd) rgs_nil))) (.cons (.inr rfl) (.cons (.inr rfl) (.cons (.inr rfl) (.cons (.inl rfl) (.cons (.inl rfl) (.cons (.inl rfl) (.cons (.inr rfl) (.cons (.inr rfl) (.cons (.inr rfl) (.cons (.inr rfl) (.cons (.inr rfl) (.cons (.inl rfl) (.cons (.inl rfl) (.cons (.inl rfl) .nil)))))))))))))) fun left_16 right_17 s_15 => (sh [.raw (.ref a), .im (one_13), .im (other_14), .no, .no, .no, .im (flag_1), .im (s_6.1), .im (s_6.2.1), .im (s_6.2.2.1), .im (s_6.2.2.2), .im (left_16), .im (right_17), .no] (rb_last (rb_if (rt_not (rt_val (re_call (ml := ap2 (m__law_strictly 6)) c__law_strictly hr (by decide) (takes_of rfl rfl rfl rfl) (Wk.none rfl) (ra_cons (re_cmp (f := dLt) (op_ltA h64) od_lt (re_bin (f := dMul) op_mulA od_mul (re_ix hr (re_im 11) (re_int)) (re_ix hr (re_im 12) (re_int))) (re_bin (f := dMul) op_mulA od_mul (re_ix hr (re_im 12) (re_int)) (re_ix hr (re_im 11) (re_int)))) (ra_cons (re_call (ml := ap2 (m_less)) c_less hr (by decide) (takes_of rfl rfl rfl rfl) (Wk.none rfl) (ra_cons (re_im 11) (ra_cons (re_im 12) (ra_nil)))) (ra_nil)))))) (rb_ret (f := fun d => Fl.rt d) (re_bl)) (rb_nil_nc (.cons (.inr rfl) (.cons (.inr rfl) (.cons (.inr rfl) (.cons (.inl rfl) (.cons (.inl rfl) (.cons (.inl rfl) (.cons (.inr rfl) (.cons (.inr rfl) (.cons (.inr rfl) (.cons (.inr rfl) (.cons (.inr rfl) (.cons (.inl rfl) (.cons (.inl rfl) (.cons (.inl rfl) .nil))))))))))))))))))) fun s_18 => (sh [.raw (.ref a), .im (one_13), .im (other_14), .no, .no, .no, .im (flag_1), .im (s_6.1), .im (s_6.2.1), .im (s_6.2.2.1), .im (s_6.2.2.2), .no, .no, .no] (rb_ifx (rt_w (rw_or (rt_not (rt_val (re_call (ml := ap2 (m__law_strictly 6)) c__law_strictly hr (by decide) (takes_of rfl rfl rfl rfl) (Wk.none rfl) (ra_cons (re_tup (ra_cons (re_int) (ra_cons (re_int) (ra_nil)))) (ra_cons (re_call (ml := ap2 (m_share)) c_share hr (by decide) (takes_of rfl rfl rfl rfl) (Wk.none rfl) (ra_cons (re_im 7) (ra_cons (re_int) (ra_nil)))) (ra_nil)))))) (rw_or1 (rt_not (rt_val (re_call (ml := ap2 (m__law_strictly 6)) c__law_strictly hr (by decide) (takes_of rfl rfl rfl rfl) (Wk.none rfl) (ra_cons (re_call (ml := ap2 (m__law_ratio)) c__law_ratio hr (by decide) (takes_of rfl rfl rfl rfl) (Wk.none rfl) (ra_cons (re_im 7) (ra_cons (re_bin (f := dAdd) op_addA od_add (re_im 8) (re_int)) (ra_nil)))) (ra_cons (re_call (ml := ap2 (m_share)) c_share hr (by decide) (takes_of rfl rfl rfl rfl) (Wk.none rfl) (ra_cons (re_im 7) (ra_cons (re_bin (f := dAdd) op_addA od_add (re_im 8) (re_int)) (ra_nil)))) (ra_nil))))))))) (rb_retE (re_bl)) (rb_set 3 sc_law.nd (re_callS (ml := fun ns => ap2 (m__law_draw ns)) (ns := ns) 0 c__law_draw hr (by decide) (takes_of rfl rfl rfl rfl) (Wk.none rfl) hS (ra_cons (re_int) (ra_cons (re_bin (f := dAdd) op_addA od_add (re_ro (ro_lst (ra_cons (re_int) (ra_nil)))) (re_bin (f := dMul) op_mulA od_mul (re_ro (ro_lst (ra_cons (re_int) (ra_nil)))) (re_int))) (ra_nil)))) fun digits_19 => (sh [.raw (.ref a), .im (one_13), .im (other_14), .im (digits_19), .no, .no, .im (flag_1), .im (s_6.1), .im (s_6.2.1), .im (s_6.2.2.1), .im (s_6.2.2.2), .no, .no, .no] (rb_set 4 sc_law.nd (re_sl (re_im 3) (rp_some (re_int)) (rp_some (re_bin (f := dAdd) op_addA od_add (re_int) (re_ix hr (re_im 3) (re_int))))) fun numbers_20 => (sh [.raw (.ref a), .im (one_13), .im (other_14), .im (digits_19), .im (numbers_20), .no, .im (flag_1), .im (s_6.1), .im (s_6.2.1), .im (s_6.2.2.1), .im (s_6.2.2.2), .no, .no, .no] (rb_set 5 sc_law.nd (re_if (rt_cmp (f := dEq) (op_eqA h64) od_eq (re_callB cr_len ca_len mz_len bt_len (ra_cons (re_im 4) (ra_nil))) (re_int)) (re_tup (ra_cons (re_int) (ra_cons (re_int) (ra_nil)))) (re_call (ml := ap2 (m__law_ratio)) c__law_ratio hr (by decide) (takes_of rfl rfl rfl rfl) (Wk.none rfl) (ra_cons (re_callB (cr_sum rfl) ca_sum mz_sum bt_sum (ra_cons (re_im 4) (ra_nil))) (ra_cons (re_callB cr_len ca_len mz_len bt_len (ra_cons (re_im 4) (ra_nil))) (ra_nil))))) fun due_21 => (sh [.raw (.ref a), .im (one_13), .im (other_14), .im (digits_19), .im (numbers_20), .im (due_21), .im (flag_1), .im (s_6.1), .im (s_6.2.1), .im (s_6.2.2.1), .im (s_6.2.2.2), .no, .no, .no] (rb_retE (re_and (re_call (ml := ap2 (m__law_strictly 6)) c__law_strictly hr (by decide) (takes_of rfl rfl rfl rfl) (Wk.none rfl) (ra_cons (re_im 5) (ra_cons (re_call (ml := ap1 (m_mean_of)) c_mean_of hr (by decide) (takes_of rfl rfl rfl rfl) (Wk.none rfl) (ra_cons (re_im 4) (ra_nil))) (ra_nil)))) (re_and1 (re_cmp (f := dEq) (op_eqA h64) od_eq (re_im 4) (re_sl (re_im 3) (rp_some (re_int)) (rp_some (re_bin (f := dAdd) op_addA od_add (re_int) (re_ix hr (re_im 3) (re_int)))))))))))))))))))))))))))))))
end
theorem all_mk {l : PySem.W.OpenLaw} {w : World} {K : PySem.W.Frag} {h : Heap} {mg : Str → Option Value} {fa f0 f1 f2 f3 f4 f5 f6 f7 f8 f9 f10 f11 : Addr} (X : K.In h) (G : h.Ns mainGlobals mg) (hfa : mg "law" = some (.ref fa))
    {oc0 kV0 dc0 pm0 cd0 ct0 : Value} {od0 an0 : Option Addr} {sl0 : Array (Option Value)}
    {oc1 kV1 dc1 pm1 cd1 ct1 : Value} {od1 an1 : Option Addr} {sl1 : Array (Option Value)}
    {oc2 kV2 dc2 pm2 cd2 ct2 : Value} {od2 an2 : Option Addr} {sl2 : Array (Option Value)}
    {oc3 kV3 dc3 pm3 cd3 ct3 : Value} {od3 an3 : Option Addr} {sl3 : Array (Option Value)}
    {oc4 kV4 dc4 pm4 cd4 ct4 : Value} {od4 an4 : Option Addr} {sl4 : Array (Option Value)}
    {oc5 kV5 dc5 pm5 cd5 ct5 : Value} {od5 an5 : Option Addr} {sl5 : Array (Option Value)}
    {oc6 kV6 dc6 pm6 cd6 ct6 : Value} {od6 an6 : Option Addr} {sl6 : Array (Option Value)}
    {oc7 kV7 dc7 pm7 cd7 ct7 : Value} {od7 an7 : Option Addr} {sl7 : Array (Option Value)}
    {oc8 kV8 dc8 pm8 cd8 ct8 : Value} {od8 an8 : Option Addr} {sl8 : Array (Option Value)}
    {oc9 kV9 dc9 pm9 cd9 ct9 : Value} {od9 an9 : Option Addr} {sl9 : Array (Option Value)}
    {oc10 kV10 dc10 pm10 cd10 ct10 : Value} {od10 an10 : Option Addr} {sl10 : Array (Option Value)}
    {oc11 kV11 dc11 pm11 cd11 ct11 : Value} {od11 an11 : Option Addr} {sl11 : Array (Option Value)}
    (a0 : PySem.W.nsIn K mainGlobals "_law_cell" = some (some (.ref f0))) (l0 : K.lookup f0 = some ⟨oc0, od0, .func (PySem.W.fnOf "_law_cell" "_law_cell" (defArgs s__law_cell) (defBody s__law_cell) (defScope s__law_cell) .none kV0 dc0 pm0 an0 cd0 ct0), sl0⟩) (c0 : PySem.W.codeIn K cd0 "_law_cell" = true) (k0 : PySem.W.keepIn K (.ref f0) = true)
    (a1 : PySem.W.nsIn K mainGlobals "_law_draw" = some (some (.ref f1))) (l1 : K.lookup f1 = some ⟨oc1, od1, .func (PySem.W.fnOf "_law_draw" "_law_draw" (defArgs s__law_draw) (defBody s__law_draw) (defScope s__law_draw) .none kV1 dc1 pm1 an1 cd1 ct1), sl1⟩) (c1 : PySem.W.codeIn K cd1 "_law_draw" = true) (k1 : PySem.W.keepIn K (.ref f1) = true)
    (a2 : PySem.W.nsIn K mainGlobals "_law_gcd" = some (some (.ref f2))) (l2 : K.lookup f2 = some ⟨oc2, od2, .func (PySem.W.fnOf "_law_gcd" "_law_gcd" (defArgs s__law_gcd) (defBody s__law_gcd) (defScope s__law_gcd) .none kV2 dc2 pm2 an2 cd2 ct2), sl2⟩) (c2 : PySem.W.codeIn K cd2 "_law_gcd" = true) (k2 : PySem.W.keepIn K (.ref f2) = true)
    (a3 : PySem.W.nsIn K mainGlobals "_law_ratio" = some (some (.ref f3))) (l3 : K.lookup f3 = some ⟨oc3, od3, .func (PySem.W.fnOf "_law_ratio" "_law_ratio" (defArgs s__law_ratio) (defBody s__law_ratio) (defScope s__law_ratio) .none kV3 dc3 pm3 an3 cd3 ct3), sl3⟩) (c3 : PySem.W.codeIn K cd3 "_law_ratio" = true) (k3 : PySem.W.keepIn K (.ref f3) = true)
    (a4 : PySem.W.nsIn K mainGlobals "_law_strictly" = some (some (.ref f4))) (l4 : K.lookup f4 = some ⟨oc4, od4, .func (PySem.W.fnOf "_law_strictly" "_law_strictly" (defArgs s__law_strictly) (defBody s__law_strictly) (defScope s__law_strictly) .none kV4 dc4 pm4 an4 cd4 ct4), sl4⟩) (c4 : PySem.W.codeIn K cd4 "_law_strictly" = true) (k4 : PySem.W.keepIn K (.ref f4) = true)
    (a5 : PySem.W.nsIn K mainGlobals "gcd_of" = some (some (.ref f5))) (l5 : K.lookup f5 = some ⟨oc5, od5, .func (PySem.W.fnOf "gcd_of" "gcd_of" (defArgs s_gcd_of) (defBody s_gcd_of) (defScope s_gcd_of) .none kV5 dc5 pm5 an5 cd5 ct5), sl5⟩) (c5 : PySem.W.codeIn K cd5 "gcd_of" = true) (k5 : PySem.W.keepIn K (.ref f5) = true)
    (a6 : PySem.W.nsIn K mainGlobals "less" = some (some (.ref f6))) (l6 : K.lookup f6 = some ⟨oc6, od6, .func (PySem.W.fnOf "less" "less" (defArgs s_less) (defBody s_less) (defScope s_less) .none kV6 dc6 pm6 an6 cd6 ct6), sl6⟩) (c6 : PySem.W.codeIn K cd6 "less" = true) (k6 : PySem.W.keepIn K (.ref f6) = true)
    (a7 : PySem.W.nsIn K mainGlobals "ratio" = some (some (.ref f7))) (l7 : K.lookup f7 = some ⟨oc7, od7, .func (PySem.W.fnOf "ratio" "ratio" (defArgs s_ratio) (defBody s_ratio) (defScope s_ratio) .none kV7 dc7 pm7 an7 cd7 ct7), sl7⟩) (c7 : PySem.W.codeIn K cd7 "ratio" = true) (k7 : PySem.W.keepIn K (.ref f7) = true)
    (a8 : PySem.W.nsIn K mainGlobals "share" = some (some (.ref f8))) (l8 : K.lookup f8 = some ⟨oc8, od8, .func (PySem.W.fnOf "share" "share" (defArgs s_share) (defBody s_share) (defScope s_share) .none kV8 dc8 pm8 an8 cd8 ct8), sl8⟩) (c8 : PySem.W.codeIn K cd8 "share" = true) (k8 : PySem.W.keepIn K (.ref f8) = true)
    (a9 : PySem.W.nsIn K mainGlobals "mean_of" = some (some (.ref f9))) (l9 : K.lookup f9 = some ⟨oc9, od9, .func (PySem.W.fnOf "mean_of" "mean_of" (defArgs s_mean_of) (defBody s_mean_of) (defScope s_mean_of) .none kV9 dc9 pm9 an9 cd9 ct9), sl9⟩) (c9 : PySem.W.codeIn K cd9 "mean_of" = true) (k9 : PySem.W.keepIn K (.ref f9) = true)
    (a10 : PySem.W.nsIn K mainGlobals "plus" = some (some (.ref f10))) (l10 : K.lookup f10 = some ⟨oc10, od10, .func (PySem.W.fnOf "plus" "plus" (defArgs s_plus) (defBody s_plus) (defScope s_plus) .none kV10 dc10 pm10 an10 cd10 ct10), sl10⟩) (c10 : PySem.W.codeIn K cd10 "plus" = true) (k10 : PySem.W.keepIn K (.ref f10) = true)
    (a11 : PySem.W.nsIn K mainGlobals "law" = some (some (.ref f11))) (l11 : K.lookup f11 = some ⟨oc11, od11, .func (PySem.W.fnOf "law" "law" (defArgs s_law) (defBody s_law) (defScope s_law) .none kV11 dc11 pm11 an11 cd11 ct11), sl11⟩) (c11 : PySem.W.codeIn K cd11 "law" = true) (k11 : PySem.W.keepIn K (.ref f11) = true)
    (z_bool : PySem.W.nsIn K mainGlobals "bool" = some none)
    (z_int : PySem.W.nsIn K mainGlobals "int" = some none)
    (z_isinstance : PySem.W.nsIn K mainGlobals "isinstance" = some none)
    (z_len : PySem.W.nsIn K mainGlobals "len" = some none)
    (z_list : PySem.W.nsIn K mainGlobals "list" = some none)
    (z_max : PySem.W.nsIn K mainGlobals "max" = some none)
    (z_range : PySem.W.nsIn K mainGlobals "range" = some none)
    (z_str : PySem.W.nsIn K mainGlobals "str" = some none)
    (z_sum : PySem.W.nsIn K mainGlobals "sum" = some none)
    (z_tuple : PySem.W.nsIn K mainGlobals "tuple" = some none) :
    ∃ fd : FuncData, (∀ (s : Shared) (v : Value), BindsTo s fd ⟨[v], []⟩ [("script", v)]) ∧ ∀ base : Heap, K.In base → base.Ns mainGlobals mg → FnOk l.prog w K mg base (L2.CX l.prog w) 8 fa fd ["script"] (spL K m_law) := by
  have e := hfa.symm.trans (PySem.W.mg_of X G a11)
  cases e
  have F0 := fun_mk (st := s__law_cell) l0 c0 k0
  have b0 := F0.binds (ps := ["script", "k"]) fun _ _ _ _ _ _ us hl => match us, hl with | [_, _], _ => rfl
  have F1 := fun_mk (st := s__law_draw) l1 c1 k1
  have b1 := F1.binds (ps := ["script", "k", "sizes"]) fun _ _ _ _ _ _ us hl => match us, hl with | [_, _, _], _ => rfl
  have F2 := fun_mk (st := s__law_gcd) l2 c2 k2
  have b2 := F2.binds (ps := ["left", "right"]) fun _ _ _ _ _ _ us hl => match us, hl with | [_, _], _ => rfl
  have F3 := fun_mk (st := s__law_ratio) l3 c3 k3
  have b3 := F3.binds (ps := ["top", "bottom"]) fun _ _ _ _ _ _ us hl => match us, hl with | [_, _], _ => rfl
  have F4 := fun_mk (st := s__law_strictly) l4 c4 k4
  have b4 := F4.binds (ps := ["expected", "actual"]) fun _ _ _ _ _ _ us hl => match us, hl with | [_, _], _ => rfl
  have F5 := fun_mk (st := s_gcd_of) l5 c5 k5
  have b5 := F5.binds (ps := ["left", "right"]) fun _ _ _ _ _ _ us hl => match us, hl with | [_, _], _ => rfl
  have F6 := fun_mk (st := s_less) l6 c6 k6
  have b6 := F6.binds (ps := ["left", "right"]) fun _ _ _ _ _ _ us hl => match us, hl with | [_, _], _ => rfl
  have F7 := fun_mk (st := s_ratio) l7 c7 k7
  have b7 := F7.binds (ps := ["top", "bottom"]) fun _ _ _ _ _ _ us hl => match us, hl with | [_, _], _ => rfl
  have F8 := fun_mk (st := s_share) l8 c8 k8
  have b8 := F8.binds (ps := ["part", "whole"]) fun _ _ _ _ _ _ us hl => match us, hl with | [_, _], _ => rfl
  have F9 := fun_mk (st := s_mean_of) l9 c9 k9
  have b9 := F9.binds (ps := ["numbers"]) fun _ _ _ _ _ _ us hl => match us, hl with | [_], _ => rfl
  have F10 := fun_mk (st := s_plus) l10 c10 k10
  have b10 := F10.binds (ps := ["left", "right"]) fun _ _ _ _ _ _ us hl => match us, hl with | [_, _], _ => rfl
  have F11 := fun_mk (st := s_law) l11 c11 k11
  refine ⟨PySem.W.fnOf "law" "law" (defArgs s_law) (defBody s_law) (defScope s_law) .none kV11 dc11 pm11 an11 cd11 ct11, fun s v => .of_eq rfl, fun base _ _ => ?_⟩
  have C0 := ok__law_cell (P := l.prog) (w := w) (base := base) (T := []) F0 (PySem.W.mg_of X G a0) b0 (PySem.W.mg_none_of X G z_len)
  have C1 := ok__law_draw (P := l.prog) (w := w) (base := base) (T := []) F1 (PySem.W.mg_of X G a1) b1 (PySem.W.mg_none_of X G z_len) (PySem.W.mg_none_of X G z_range) C0
  have C2 := ok__law_gcd (P := l.prog) (w := w) (base := base) (T := []) F2 (PySem.W.mg_of X G a2) b2 (PySem.W.mg_none_of X G z_range)
  have C3 := ok__law_ratio (P := l.prog) (w := w) (base := base) (T := []) F3 (PySem.W.mg_of X G a3) b3 C2
  have C4 := ok__law_strictly (P := l.prog) (w := w) (base := base) (T := []) F4 (PySem.W.mg_of X G a4) b4 (PySem.W.mg_none_of X G z_bool) (PySem.W.mg_none_of X G z_int) (PySem.W.mg_none_of X G z_isinstance) (PySem.W.mg_none_of X G z_len) (PySem.W.mg_none_of X G z_list) (PySem.W.mg_none_of X G z_range) (PySem.W.mg_none_of X G z_str) (PySem.W.mg_none_of X G z_tuple) 6
  have C5 := ok_gcd_of (P := l.prog) (w := w) (base := base) (T := []) F5 (PySem.W.mg_of X G a5) b5 
  have C6 := ok_less (P := l.prog) (w := w) (base := base) (T := []) F6 (PySem.W.mg_of X G a6) b6 
  have C7 := ok_ratio (P := l.prog) (w := w) (base := base) (T := []) F7 (PySem.W.mg_of X G a7) b7 C5
  have C8 := ok_share (P := l.prog) (w := w) (base := base) (T := []) F8 (PySem.W.mg_of X G a8) b8 C7
  have C9 := ok_mean_of (P := l.prog) (w := w) (base := base) (T := []) F9 (PySem.W.mg_of X G a9) b9 (PySem.W.mg_none_of X G z_len) (PySem.W.mg_none_of X G z_sum) C8
  have C10 := ok_plus (P := l.prog) (w := w) (base := base) (T := []) F10 (PySem.W.mg_of X G a10) b10 C7
  exact law_fn (fn_law (P := l.prog) (w := w) (base := base) (T := []) F11 (PySem.W.mg_none_of X G z_len) (PySem.W.mg_none_of X G z_max) (PySem.W.mg_none_of X G z_range) (PySem.W.mg_none_of X G z_sum) C1 C4 C5 C2 C3 C7 C10 C6 C8 C9)

/-! ### the law's own helpers -/
theorem strictly_eq (n : Nat) : ∀ d : D, dok n d = true → m__law_strictly n d d = .ok (.bool true) := by
  induction n with
  | zero => intro d h; cases h
  | succ n ih =>
    intro d h
    show m__law_strictly_step (m__law_strictly n) d d = .ok (.bool true)
    unfold m__law_strictly_step
    have loop : ∀ (mk : List D → D) (xs : List D), (∀ i, getD (mk xs) (.int i) = atD xs i) → decide (xs.length < 16777216) = true → xs.all (dok n) = true → forL (fun place_4 s_3 => (m__law_strictly_b1 (mk xs) (mk xs) (m__law_strictly n) place_4 s_3)) (rngD 0 xs.length) () = .ok (.fin ()) := by
      intro mk xs hg hl ha
      refine forL_all _ _ fun x hx => ?_
      obtain ⟨i, hi, rfl⟩ := mem_rngD hx
      have e : atD xs (0 + (i : Int)) = .ok xs[i] := by rw [Int.zero_add]; exact atD_nat (List.getElem?_eq_getElem hi)
      unfold m__law_strictly_b1
      simp only [op2_ok, hg, e, consA_ok, R.bind_ok, ap2_l, ih xs[i] (List.all_eq_true.mp ha _ (List.getElem_mem hi)), asB_bool, iteM_ok, Bool.not_true]
      rfl
    cases d with
    | none => rfl
    | bool b => simp [isiD, andV_tt]
    | int b => simp [isiD, andV_tt]
    | str b => simp [isiD, andV_tt]
    | list xs =>
      have h' : (decide (xs.length < 16777216) && xs.all (dok n)) = true := h
      rw [Bool.and_eq_true] at h'
      have := loop PyData.list xs (fun _ => rfl) h'.1 h'.2
      have hl : rng1 (.int (xs.length : Int)) = .ok (rngD 0 xs.length) := rng1_nat (by have := of_decide_eq_true h'.1; omega)
      simp [isiD, this, hl, consA_ok, f1_one]
    | tuple xs =>
      have h' : (decide (xs.length < 16777216) && xs.all (dok n)) = true := h
      rw [Bool.and_eq_true] at h'
      have := loop PyData.tuple xs (fun _ => rfl) h'.1 h'.2
      have hl : rng1 (.int (xs.length : Int)) = .ok (rngD 0 xs.length) := rng1_nat (by have := of_decide_eq_true h'.1; omega)
      simp [isiD, this, hl, consA_ok, f1_one]
    | dict ps => cases h
theorem cell_eq (ns : List Int) (k : Nat) : m__law_cell ns (.int k) = .ok (.int (ns.getD k 0)) := by
  unfold m__law_cell
  by_cases h : k < ns.length
  · have e : atD (ns.map PyData.int) (k : Int) = .ok (.int ns[k]) := atD_nat (by rw [List.getElem?_map, List.getElem?_eq_getElem h]; rfl)
    simp [h, e]
  · simp [h]
theorem draw_b1 (ss : List Int) (hs : ∀ s ∈ ss, 0 < s ∧ s < 2 ^ 200) (hl : ss.length < 1000000) (cell : Int) : ∃ ds c, forP (fun size_9 s_8 => (m__law_draw_b1 size_9 s_8)) (ss.map .int) (.int cell, []) = .ok (c, ds.map .int) ∧ Dr ds ss := by
  obtain ⟨b, e, h⟩ := forP_inv (body := fun size_9 s_8 => (m__law_draw_b1 size_9 s_8)) (fun i b => ∃ c ds, b = (PyData.int c, ds.map PyData.int) ∧ Dr ds (ss.take i)) (ss.map .int) 0 (.int cell, []) ⟨cell, [], rfl, .nil⟩ fun i x b hx hb => by
    rw [Nat.zero_add] at hb ⊢
    obtain ⟨c, ds, rfl, dr⟩ := hb
    rw [List.getElem?_map] at hx
    cases es : ss[i]? with
    | none => rw [es] at hx; cases hx
    | some s =>
      rw [es] at hx
      cases hx
      obtain ⟨hi, rfl⟩ := List.getElem?_eq_some_iff.mp es
      obtain ⟨h0, h1⟩ := hs ss[i] (List.getElem_mem hi)
      have hp : pushD (ds.map PyData.int) (.int (c % ss[i])) = .ok ((ds ++ [c % ss[i]]).map PyData.int) := by
        rw [pushD_ok]
        · simp
        · rw [List.length_map, dr.length, List.length_take]; omega
      unfold m__law_draw_b1
      refine ⟨_, ?_, c / ss[i], ds ++ [c % ss[i]], rfl, ?_⟩
      · simp only [op2_ok, dMod_int h0, dFdiv_int h0 h1, R.bind_ok, hp]
      · rw [List.take_add_one, es]
        exact dr.snoc (Int.emod_nonneg _ (by omega)) (Int.emod_lt_of_pos _ h0)
  obtain ⟨c, ds, rfl, dr⟩ := h
  rw [List.length_map, Nat.zero_add, List.take_length] at dr
  exact ⟨ds, _, e, dr⟩
theorem draw_b2 (ss : List Int) (hs : ∀ s ∈ ss, 0 < s ∧ s < 2 ^ 200) (hl : ss.length < 1000000) (mixed : Int) (hm : 0 ≤ mixed) (hm2 : mixed < 2147483647) : ∃ ds c, forP (fun j_15 s_14 => (m__law_draw_b2 (.list (ss.map .int)) j_15 s_14)) (rngD 0 ss.length) ([], .int mixed) = .ok (ds.map .int, c) ∧ Dr ds ss := by
  obtain ⟨b, e, h⟩ := forP_rng (body := fun j_15 s_14 => (m__law_draw_b2 (.list (ss.map .int)) j_15 s_14)) (lo := 0) (n := ss.length) (b := ([], .int mixed)) (fun i b => ∃ c ds, b = (ds.map PyData.int, PyData.int c) ∧ Dr ds (ss.take i) ∧ 0 ≤ c ∧ c < 2147483647) ⟨mixed, [], rfl, .nil, hm, hm2⟩ fun i b hi hb => by
    obtain ⟨c, ds, rfl, dr, h0, h1⟩ := hb
    rw [Int.zero_add]
    have es : ss[i]? = some ss[i] := List.getElem?_eq_getElem hi
    obtain ⟨p0, p1⟩ := hs ss[i] (List.getElem_mem hi)
    have eg : atD (ss.map PyData.int) (i : Int) = .ok (.int ss[i]) := atD_nat (by rw [List.getElem?_map, es]; rfl)
    have b1 : 0 ≤ (c * 48271 + 11 + i) % 2147483647 ∧ (c * 48271 + 11 + i) % 2147483647 < 2147483647 := by omega
    generalize e1 : (c * 48271 + 11 + i) % 2147483647 = c1 at b1
    have b2 : 0 ≤ (c1 * 69621 + 3) % 2147483647 ∧ (c1 * 69621 + 3) % 2147483647 < 2147483647 := by omega
    generalize e2 : (c1 * 69621 + 3) % 2147483647 = c2 at b2
    have hp : pushD (ds.map PyData.int) (.int (c2 / 7 % ss[i])) = .ok ((ds ++ [c2 / 7 % ss[i]]).map PyData.int) := by
      rw [pushD_ok]
      · simp
      · rw [List.length_map, dr.length, List.length_take]; omega
    unfold m__law_draw_b2
    refine ⟨_, ?_, c2, ds ++ [c2 / 7 % ss[i]], rfl, ?_, b2⟩
    · simp only [op2_ok, dMul_int (i := c) (j := 48271) (by omega) (by omega) (by decide) (by decide), dMul_int (i := c1) (j := 69621) (by omega) (by omega) (by decide) (by decide), dAdd_int, dMod_int (show (0 : Int) < 2147483647 by decide), dMod_int p0, dFdiv_int (show (0 : Int) < 7 by decide) (by decide), R.bind_ok, e1, e2, getD_lst, eg, hp]
    · rw [List.take_add_one, es]
      exact dr.snoc (Int.emod_nonneg _ (by omega)) (Int.emod_lt_of_pos _ p0)
  obtain ⟨c, ds, rfl, dr, _⟩ := h
  rw [List.take_length] at dr
  exact ⟨ds, _, e, dr⟩
/-- what is drawn: as many ints as sizes, each below its size -/
theorem draw_eq (ns : List Int) (k : Nat) (hk : k < 1000000) (ss : List Int) (hs : ∀ s ∈ ss, 0 < s ∧ s < 2 ^ 200) (hl : ss.length < 1000000) : ∃ ds, m__law_draw ns (.int k) (.list (ss.map .int)) = .ok (.list (ds.map .int)) ∧ Dr ds ss := by
  unfold m__law_draw
  simp only [consA_ok, R.bind_ok, ap1_l, cell_eq, op2_ok, dLt_int, asB_bool, iteM_ok, dNeg_int]
  generalize ns.getD k 0 = c
  obtain ⟨c1, hc, e1⟩ : ∃ c1 : Int, 0 ≤ c1 ∧ (if decide (c < 0) = true then R.ok (PyData.int (-c)) else R.ok (PyData.int c)) = R.ok (PyData.int c1) := by
    by_cases h : c < 0
    · exact ⟨-c, by omega, by simp [h]⟩
    · exact ⟨c, by omega, by simp [h]⟩
  rw [e1]
  simp only [R.bind_ok, dPow_18, op2_ok, dGe_int, asB_bool, iteM_ok]
  by_cases h : 1000000000000000000 ≤ c1
  · obtain ⟨ds, c2, e, dr⟩ := draw_b1 ss hs hl (c1 - 1000000000000000000)
    rw [if_pos (decide_eq_true h)]
    simp only [dSub_int, R.bind_ok, seqD, e]
    exact ⟨ds, rfl, dr⟩
  · rw [if_neg (by simp [h])]
    have hm : 0 ≤ (c1 + 1 + 31 * (k : Int)) % 2147483647 ∧ (c1 + 1 + 31 * (k : Int)) % 2147483647 < 2147483647 := by omega
    obtain ⟨ds, c2, e, dr⟩ := draw_b2 ss hs hl _ hm.1 hm.2
    have hr : rng1 (.int ((ss.map PyData.int).length : Int)) = .ok (rngD 0 ss.length) := by rw [List.length_map]; exact rng1_nat (by omega)
    simp only [op2_ok, dAdd_int, dMul_int (i := 31) (j := k) (by decide) (by decide) (by omega) (by omega), dMod_int (show (0 : Int) < 2147483647 by decide), R.bind_ok, f1_one, dLen_list, hr, e]
    exact ⟨ds, rfl, dr⟩
/-! ### the greatest common divisor -/
theorem gcd_of_eq (a b : Nat) : m_gcd_of (.int a) (.int b) = .ok (.int (Nat.gcd a b : Nat)) := by
  obtain ⟨o, e, h⟩ := whL_inv (c := fun s_3 => (m_gcd_of_t1 s_3)) (body := fun s_3 => (m_gcd_of_b2 s_3)) (fun s => ∃ x y : Nat, s = (PyData.int x, PyData.int y) ∧ Nat.gcd x y = Nat.gcd a b) (fun s => s.1 = PyData.int (Nat.gcd a b : Nat)) (fun _ => False)
    (fun s => match s.2 with | .int y => y.toNat | _ => 0) (fun s hs => by
      obtain ⟨x, y, rfl, hg⟩ := hs
      by_cases hy : y = 0
      · subst hy
        refine .inl ⟨by simp [m_gcd_of_t1], ?_⟩
        rw [Nat.gcd_zero_right] at hg
        rw [← hg]
      · have hy' : (0 : Int) < y := by omega
        refine .inr ⟨by simp [m_gcd_of_t1, hy], .nx (.int y, .int ((x % y : Nat) : Int)), ?_, ⟨y, x % y, rfl, ?_⟩, ?_⟩
        · unfold m_gcd_of_b2
          simp only [op2_ok, dMod_int hy', consA_ok, R.bind_ok, l2_l, Int.natCast_emod]
        · rw [Nat.gcd_comm, ← Nat.gcd_rec, Nat.gcd_comm, hg]
        · show ((x % y : Nat) : Int).toNat < (y : Int).toNat
          rw [Int.toNat_natCast, Int.toNat_natCast]
          exact Nat.mod_lt _ (by omega)) (b + 1) (.int a, .int b) (by simp) ⟨a, b, rfl, rfl⟩
  unfold m_gcd_of
  rw [e]
  cases o with
  | fin s =>
    have h' : s.1 = PyData.int (Nat.gcd a b : Nat) := h
    simp [h']
  | rt d => exact h.elim
theorem law_gcd_eq (a b : Nat) (ha : a < 2 ^ 64) (hb : b < 2 ^ 64) : m__law_gcd (.int a) (.int b) = .ok (.int (Nat.gcd a b : Nat)) := by
  obtain ⟨o, e, h⟩ := forL_rng (body := fun turn_4 s_3 => (m__law_gcd_b1 turn_4 s_3)) (lo := 0) (n := 200) (b := (PyData.int a, PyData.int b))
    (fun i s => ∃ x y : Nat, s = (PyData.int x, PyData.int y) ∧ Nat.gcd x y = Nat.gcd a b ∧ ((i = 0 ∧ x < 2 ^ 64 ∧ y < 2 ^ 64) ∨ (0 < i ∧ y ≤ x ∧ x * y * 2 ^ (i - 1) < 2 ^ 128)))
    (fun s => s.1 = PyData.int (Nat.gcd a b : Nat)) (fun d => d = PyData.int (Nat.gcd a b : Nat)) ⟨a, b, rfl, rfl, .inl ⟨rfl, ha, hb⟩⟩ (fun s hs => by
      obtain ⟨x, y, rfl, hg, hm⟩ := hs
      rcases hm with ⟨z, _⟩ | ⟨_, hle, hm⟩
      · cases z
      · have hxy : x * y = 0 := by
          rcases Nat.eq_zero_or_pos (x * y) with z | z
          · exact z
          · exfalso
            have : 1 * 2 ^ 199 ≤ x * y * 2 ^ 199 := Nat.mul_le_mul_right _ z
            have h2 : x * y * 2 ^ 199 < 2 ^ 128 := hm
            have h3 : (2 : Nat) ^ 128 < 1 * 2 ^ 199 := by decide
            omega
        have hy : y = 0 := by
          rcases Nat.mul_eq_zero.mp hxy with z | z
          · omega
          · exact z
        subst hy
        rw [Nat.gcd_zero_right] at hg
        rw [← hg]) fun i s hi hs => by
      obtain ⟨x, y, rfl, hg, hm⟩ := hs
      by_cases hy : y = 0
      · subst hy
        rw [Nat.gcd_zero_right] at hg
        refine ⟨.rt (.int x), by simp [m__law_gcd_b1], ?_⟩
        show PyData.int (x : Int) = _
        rw [hg]
      · have hy' : (0 : Int) < y := by omega
        have ypos : 0 < y := by omega
        refine ⟨.nx (.int y, .int ((x % y : Nat) : Int)), ?_, y, x % y, rfl, ?_, .inr ⟨by omega, Nat.le_of_lt (Nat.mod_lt _ ypos), ?_⟩⟩
        · unfold m__law_gcd_b1
          simp [op2_ok, dMod_int hy', hy]
        · rw [Nat.gcd_comm, ← Nat.gcd_rec, Nat.gcd_comm, hg]
        · have hlt := Nat.mod_lt x ypos
          rcases hm with ⟨rfl, h1, h2⟩ | ⟨h0, hle, hm⟩
          · show y * (x % y) * 2 ^ 0 < 2 ^ 128
            rw [Nat.pow_zero, Nat.mul_one]
            calc y * (x % y) < 2 ^ 64 * 2 ^ 64 := Nat.mul_lt_mul'' h2 (Nat.lt_trans hlt h2)
              _ = 2 ^ 128 := by decide
          · have hr : x % y * 2 ≤ x := by
              have e1 := Nat.div_add_mod x y
              have q : 1 ≤ x / y := (Nat.one_le_div_iff ypos).mpr hle
              have : y * 1 ≤ y * (x / y) := Nat.mul_le_mul_left _ q
              omega
            obtain ⟨j, rfl⟩ : ∃ j, i = j + 1 := ⟨i - 1, by omega⟩
            have hm' : x * y * 2 ^ j < 2 ^ 128 := hm
            show y * (x % y) * 2 ^ (j + 1) < 2 ^ 128
            refine Nat.lt_of_le_of_lt ?_ hm'
            rw [Nat.pow_succ, Nat.mul_comm (2 ^ j) 2, ← Nat.mul_assoc]
            refine Nat.mul_le_mul_right _ ?_
            rw [Nat.mul_assoc, Nat.mul_comm x y]
            exact Nat.mul_le_mul_left _ hr
  unfold m__law_gcd
  have hr : rng1 (.int 200) = .ok (rngD 0 200) := rng1_nat (n := 200) (by decide)
  simp only [R.bind_ok, hr, e]
  cases o with
  | fin s =>
    have h' : s.1 = PyData.int (Nat.gcd a b : Nat) := h
    simp [h']
  | rt d =>
    have h' : d = PyData.int (Nat.gcd a b : Nat) := h
    simp [h']
/-! ### ratios -/
def rat (a b : Nat) : D := .tuple [.int ((a / Nat.gcd a b : Nat) : Int), .int ((b / Nat.gcd a b : Nat) : Int)]
theorem ratio_eq (a b : Nat) (hb : 0 < b) (hb2 : b < 2 ^ 64) : m_ratio (.int a) (.int b) = .ok (rat a b) := by
  unfold m_ratio
  have hg : 0 < Nat.gcd a b := Nat.gcd_pos_of_pos_right _ hb
  have hle : Nat.gcd a b ≤ b := Nat.le_of_dvd hb (Nat.gcd_dvd_right _ _)
  simp only [consA_ok, R.bind_ok, ap2_l, gcd_of_eq, op2_ok, dFdiv_int (i := (a : Int)) (j := (Nat.gcd a b : Nat)) (by omega) (by omega), dFdiv_int (i := (b : Int)) (j := (Nat.gcd a b : Nat)) (by omega) (by omega)]
  rfl
theorem law_ratio_eq (a b : Nat) (ha : a < 2 ^ 64) (hb : 0 < b) (hb2 : b < 2 ^ 64) : m__law_ratio (.int a) (.int b) = .ok (rat a b) := by
  unfold m__law_ratio
  have hg : 0 < Nat.gcd a b := Nat.gcd_pos_of_pos_right _ hb
  have hle : Nat.gcd a b ≤ b := Nat.le_of_dvd hb (Nat.gcd_dvd_right _ _)
  simp only [consA_ok, R.bind_ok, ap2_l, law_gcd_eq a b ha hb2, op2_ok, dFdiv_int (i := (a : Int)) (j := (Nat.gcd a b : Nat)) (by omega) (by omega), dFdiv_int (i := (b : Int)) (j := (Nat.gcd a b : Nat)) (by omega) (by omega)]
  rfl
/-- equal fractions have one reduced form -/
theorem rat_cross {a b c d : Nat} (hb : 0 < b) (hd : 0 < d) (h : a * d = c * b) : rat a b = rat c d := by
  have hg1 : 0 < Nat.gcd a b := Nat.gcd_pos_of_pos_right _ hb
  have hg2 : 0 < Nat.gcd c d := Nat.gcd_pos_of_pos_right _ hd
  have c1 : (a / Nat.gcd a b).Coprime (b / Nat.gcd a b) := Nat.coprime_div_gcd_div_gcd hg1
  have c2 : (c / Nat.gcd c d).Coprime (d / Nat.gcd c d) := Nat.coprime_div_gcd_div_gcd hg2
  have ea : a / Nat.gcd a b * Nat.gcd a b = a := Nat.div_mul_cancel (Nat.gcd_dvd_left _ _)
  have eb : b / Nat.gcd a b * Nat.gcd a b = b := Nat.div_mul_cancel (Nat.gcd_dvd_right _ _)
  have ec : c / Nat.gcd c d * Nat.gcd c d = c := Nat.div_mul_cancel (Nat.gcd_dvd_left _ _)
  have ed : d / Nat.gcd c d * Nat.gcd c d = d := Nat.div_mul_cancel (Nat.gcd_dvd_right _ _)
  unfold rat
  generalize a / Nat.gcd a b = x at *
  generalize b / Nat.gcd a b = y at *
  generalize c / Nat.gcd c d = u at *
  generalize d / Nat.gcd c d = v at *
  generalize Nat.gcd a b = g at *
  generalize Nat.gcd c d = k at *
  have key : x * v = u * y := by
    have h2 : x * v * (g * k) = u * y * (g * k) := by
      calc x * v * (g * k) = (x * g) * (v * k) := by ac_rfl
        _ = a * d := by rw [ea, ed]
        _ = c * b := h
        _ = (u * k) * (y * g) := by rw [ec, eb]
        _ = u * y * (g * k) := by ac_rfl
    exact Nat.eq_of_mul_eq_mul_right (Nat.mul_pos hg1 hg2) h2
  have y0 : 0 < y := by
    rcases Nat.eq_zero_or_pos y with z | z
    · subst z; rw [Nat.zero_mul] at eb; omega
    · exact z
  have d1 : y ∣ v := (Nat.Coprime.symm c1).dvd_of_dvd_mul_left (k := y) (m := x) (n := v) (by rw [key]; exact Nat.dvd_mul_left _ _)
  have d2 : v ∣ y := (Nat.Coprime.symm c2).dvd_of_dvd_mul_left (k := v) (m := u) (n := y) (by rw [← key]; exact Nat.dvd_mul_left _ _)
  have evy : y = v := Nat.dvd_antisymm d1 d2
  subst evy
  have exu : x = u := Nat.eq_of_mul_eq_mul_right y0 key
  rw [exu]
/-! ### the law -/
theorem dok_rat (a b : Nat) : dok 6 (rat a b) = true := rfl
theorem less_eq (a b c d : Nat) : m_less (rat a b) (rat c d) = op2 dLt (op2 dMul (op2 getD (R.ok (rat a b)) (R.ok (PyData.int 0))) (op2 getD (R.ok (rat c d)) (R.ok (PyData.int 1)))) (op2 dMul (op2 getD (R.ok (rat c d)) (R.ok (PyData.int 0))) (op2 getD (R.ok (rat a b)) (R.ok (PyData.int 1)))) := rfl
theorem rat_0 (a b : Nat) : op2 getD (R.ok (rat a b)) (R.ok (PyData.int 0)) = .ok (.int ((a / Nat.gcd a b : Nat) : Int)) := rfl
theorem rat_1 (a b : Nat) : op2 getD (R.ok (rat a b)) (R.ok (PyData.int 1)) = .ok (.int ((b / Nat.gcd a b : Nat) : Int)) := rfl
theorem mulN {a b : Nat} (ha : a < 2 ^ 64) (hb : b < 2 ^ 64) : dMul (.int a) (.int b) = .ok (.int ((a * b : Nat) : Int)) := by
  rw [dMul_int (by omega) (by omega) (by omega) (by omega)]
  rfl
theorem div_lt (a b : Nat) {n : Nat} (h : a < n) : a / b < n := Nat.lt_of_le_of_lt (Nat.div_le_self _ _) h
/-- the greatest of the common divisors below 60 -/
theorem max_eq (a b : Nat) (ha : a < 60) (hb : b < 60) (h0 : 0 < a + b) (s : D × D × D × D) (hs : s.1 = .int a ∧ s.2.1 = .int b) :
    (((((R.ok (PyData.int 1)).bind fun x => (R.ok (PyData.int 60)).bind fun y => rng2 x y).bind (compM fun k_12 => (m_law_c1 s k_12))).bind fun xs => R.ok (PyData.list xs)).bind fun x => (consA (R.ok x) (R.ok [])).bind (f1 (onInts maxL))) = .ok (.int (Nat.gcd a b : Nat)) := by
  have hr : rng2 (.int 1) (.int 60) = .ok ((List.range 59).map fun (k : Nat) => PyData.int (1 + k)) := by
    rw [rng2_ok (by decide) (by decide) (by decide) (by decide)]
    rfl
  let p : Nat → Bool := fun k => decide (a % (k + 1) = 0) && decide (b % (k + 1) = 0)
  have hc : compM (fun k_12 => (m_law_c1 s k_12)) ((List.range 59).map fun (k : Nat) => PyData.int (1 + k)) = .ok ((((List.range 59).filter p).map fun (k : Nat) => ((k : Int) + 1)).map .int) := by
    rw [compM_list (e := fun (k : Nat) => PyData.int (1 + k)) (fun k => if p k then some (.int ((k : Int) + 1)) else none) (by simp) fun k hk => ?_]
    · congr 1
      induction (List.range 59) with
      | nil => rfl
      | cons x xs ih =>
        rw [List.filterMap_cons, List.filter_cons]
        cases e : p x <;> simp [ih]
    · unfold m_law_c1
      have hk' : (0 : Int) < 1 + (k : Int) := by omega
      rw [hs.1, hs.2]
      simp only [op2_ok, dMod_int hk', dEq_int, R.bind_ok, asB_bool]
      have e1 : (decide ((a : Int) % (1 + (k : Int)) = 0)) = decide (a % (k + 1) = 0) := by
        congr 1
        rw [show (1 + (k : Int)) = ((k + 1 : Nat) : Int) by omega, ← Int.natCast_emod]
        exact propext (by omega)
      have e2 : (decide ((b : Int) % (1 + (k : Int)) = 0)) = decide (b % (k + 1) = 0) := by
        congr 1
        rw [show (1 + (k : Int)) = ((k + 1 : Nat) : Int) by omega, ← Int.natCast_emod]
        exact propext (by omega)
      rw [e1, e2, Int.add_comm 1]
      show _ = R.ok (if (decide (a % (k + 1) = 0) && decide (b % (k + 1) = 0)) = true then _ else _)
      cases decide (a % (k + 1) = 0) <;> cases decide (b % (k + 1) = 0) <;> rfl
  have gpos : 0 < Nat.gcd a b := by
    rcases Nat.eq_zero_or_pos (Nat.gcd a b) with z | z
    · have := Nat.gcd_eq_zero_iff.mp z; omega
    · exact z
  have glt : Nat.gcd a b < 60 := by
    rcases Nat.eq_zero_or_pos a with z | z
    · subst z; rw [Nat.gcd_zero_left]; exact hb
    · exact Nat.lt_of_le_of_lt (Nat.le_of_dvd z (Nat.gcd_dvd_left _ _)) ha
  have mem : ((Nat.gcd a b : Nat) : Int) ∈ ((List.range 59).filter p).map fun (k : Nat) => ((k : Int) + 1) := by
    refine List.mem_map.mpr ⟨Nat.gcd a b - 1, List.mem_filter.mpr ⟨List.mem_range.mpr (by omega), ?_⟩, by omega⟩
    show (decide (a % (Nat.gcd a b - 1 + 1) = 0) && decide (b % (Nat.gcd a b - 1 + 1) = 0)) = true
    rw [show Nat.gcd a b - 1 + 1 = Nat.gcd a b by omega, Bool.and_eq_true]
    exact ⟨decide_eq_true (Nat.mod_eq_zero_of_dvd (Nat.gcd_dvd_left _ _)), decide_eq_true (Nat.mod_eq_zero_of_dvd (Nat.gcd_dvd_right _ _))⟩
  have ub : ∀ y ∈ ((List.range 59).filter p).map fun (k : Nat) => ((k : Int) + 1), y ≤ (Nat.gcd a b : Nat) := by
    intro y hy
    obtain ⟨k, hk, rfl⟩ := List.mem_map.mp hy
    have hp := (List.mem_filter.mp hk).2
    have hp' : (decide (a % (k + 1) = 0) && decide (b % (k + 1) = 0)) = true := hp
    rw [Bool.and_eq_true] at hp'
    have := Nat.le_of_dvd gpos (Nat.dvd_gcd (Nat.dvd_of_mod_eq_zero (of_decide_eq_true hp'.1)) (Nat.dvd_of_mod_eq_zero (of_decide_eq_true hp'.2)))
    omega
  simp only [R.bind_ok, hr, hc, consA_ok, f1_one, onInts_map]
  generalize (((List.range 59).filter p).map fun (k : Nat) => ((k : Int) + 1)) = l at mem ub
  cases l with
  | nil => cases mem
  | cons x xs =>
    show R.ok (PyData.int (xs.foldl max x)) = _
    rw [Int.le_antisymm (ub _ (foldl_max_mem xs x)) (foldl_max_ge xs x _ mem)]
theorem law_true (ns : List Int) (hl : ns.length ≤ 63) (hb : ∀ z ∈ ns, PySem.Builtin.Int.intBits z ≤ 1048576) : m_law ns = .ok (.bool true) := by
  obtain ⟨ds, e1, dr⟩ := draw_eq ns 0 (by decide) [2, 1000000000, 1000000000, 1000000000, 1000000000] (by decide) (by decide)
  replace e1 : m__law_draw ns (.int 0) (.list [.int 2, .int 1000000000, .int 1000000000, .int 1000000000, .int 1000000000]) = .ok (.list (ds.map .int)) := e1
  cases dr with | @cons flag _ ds _ fl0 fl1 dr =>
  cases dr with | @cons a0 _ ds _ a0p a0q dr =>
  cases dr with | @cons b0 _ ds _ b0p b0q dr =>
  cases dr with | @cons c0 _ ds _ c0p c0q dr =>
  cases dr with | @cons d0 _ ds _ d0p d0q dr =>
  cases dr
  obtain ⟨es, e2, dr2⟩ := draw_eq ns 1 (by decide) [10, 1000, 1000, 1000, 1000, 1000, 1000, 1000, 1000, 1000] (by decide) (by decide)
  replace e2 : m__law_draw ns (.int 1) (.list [.int 10, .int 1000, .int 1000, .int 1000, .int 1000, .int 1000, .int 1000, .int 1000, .int 1000, .int 1000]) = .ok (.list (es.map .int)) := e2
  have hst : ∃ a b c d : Nat, a < 1000000000 ∧ b < 1000000000 ∧ c < 1000000000 ∧ d < 1000000000 ∧
      (iteM ((op2 dEq (R.ok (.int flag)) (R.ok (PyData.int 0))).bind asB) (((consA (op2 dMod (R.ok (.int a0)) (R.ok (PyData.int 60))) (consA (op2 dMod (R.ok (.int b0)) (R.ok (PyData.int 60))) (consA (op2 dMod (R.ok (.int c0)) (R.ok (PyData.int 60))) (consA (op2 dMod (R.ok (.int d0)) (R.ok (PyData.int 60))) (R.ok []))))).bind fun xs => R.ok (PyData.tuple xs)).bind fun d => (seqD d).bind (l4 fun a_7 b_8 c_9 d_10 => (R.ok (a_7, b_8, c_9, d_10)))) (R.ok (PyData.int a0, PyData.int b0, PyData.int c0, PyData.int d0))) = R.ok (PyData.int a, PyData.int b, PyData.int c, PyData.int d) := by
    by_cases hf : flag = 0
    · refine ⟨(a0 % 60).toNat, (b0 % 60).toNat, (c0 % 60).toNat, (d0 % 60).toNat, by omega, by omega, by omega, by omega, ?_⟩
      have k60 : (0 : Int) < 60 := by decide
      rw [Int.toNat_of_nonneg (by omega), Int.toNat_of_nonneg (by omega), Int.toNat_of_nonneg (by omega), Int.toNat_of_nonneg (by omega)]
      simp [hf, dMod_int k60, seqD]
    · refine ⟨a0.toNat, b0.toNat, c0.toNat, d0.toNat, by omega, by omega, by omega, by omega, ?_⟩
      rw [Int.toNat_of_nonneg a0p, Int.toNat_of_nonneg b0p, Int.toNat_of_nonneg c0p, Int.toNat_of_nonneg d0p]
      simp [hf]
  obtain ⟨a, b, c, d, ha, hb', hc, hd, hst⟩ := hst
  have add1 : ∀ n : Nat, op2 dAdd (R.ok (PyData.int n)) (R.ok (PyData.int 1)) = .ok (.int ((n + 1 : Nat) : Int)) := fun _ => rfl
  have rt : ∀ x y : Nat, y < 1000000000 → (consA (R.ok (PyData.int x)) (consA (op2 dAdd (R.ok (PyData.int y)) (R.ok (PyData.int 1))) (R.ok []))).bind (ap2 m_ratio) = .ok (rat x (y + 1)) := fun x y h => c2_ok rfl (add1 y) (ratio_eq x (y + 1) (by omega) (by omega))
  have lrt : ∀ x y : Nat, x < 1000000000 → y < 1000000000 → (consA (R.ok (PyData.int x)) (consA (op2 dAdd (R.ok (PyData.int y)) (R.ok (PyData.int 1))) (R.ok []))).bind (ap2 m__law_ratio) = .ok (rat x (y + 1)) := fun x y h h2 => c2_ok rfl (add1 y) (law_ratio_eq x (y + 1) (by omega) (by omega) (by omega))
  unfold m_law
  refine to_bind _ (c2_ok rfl rfl e1) ?_
  refine to_bind _ rfl ?_
  refine to_bind _ hst ?_
  refine to_st (.int (Nat.gcd a b : Nat)) (c2_ok rfl rfl (law_gcd_eq a b (by omega) (by omega))) (c2_ok rfl rfl (gcd_of_eq a b)) (strictly_eq 6 _ rfl) ?_
  refine to_fin () ?_ ?_
  · -- the greatest common divisor against all
    by_cases h : a < 60 ∧ b < 60 ∧ 0 < a + b
    · obtain ⟨h1, h2, h3⟩ := h
      refine to_t ?_ (to_f ?_ rfl)
      · simp [show (a : Int) < 60 by omega, show (b : Int) < 60 by omega, show (0 : Int) < (a : Int) + b by omega]
      · refine asB_ok (op_ok (e := .int (Nat.gcd a b : Nat)) (c2_ok rfl rfl (gcd_of_eq a b)) ?_ ((dNe_int _ _).trans (by simp)))
        have hm := max_eq a b h1 h2 h3 (PyData.int a, PyData.int b, PyData.int c, PyData.int d) ⟨rfl, rfl⟩
        rw [← hm]
        generalize ((((R.ok (PyData.int 1)).bind fun x => (R.ok (PyData.int 60)).bind fun y => rng2 x y).bind (compM fun k_12 => (m_law_c1 (PyData.int a, PyData.int b, PyData.int c, PyData.int d) k_12))).bind fun xs => R.ok (PyData.list xs)) = m
        cases m <;> rfl
    · refine to_f ?_ rfl
      by_cases h1 : a < 60
      · by_cases h2 : b < 60
        · have h3 : ¬ (0 : Int) < (a : Int) + b := fun z => h ⟨h1, h2, by omega⟩
          simp [show (a : Int) < 60 by omega, show (b : Int) < 60 by omega, h3]
        · simp [show (a : Int) < 60 by omega, show ¬ (b : Int) < 60 by omega]
      · simp [show ¬ (a : Int) < 60 by omega]
  refine to_bind _ (lrt a b ha hb') (to_bind _ (lrt c d hc hd) ?_)
  refine to_or (not_ok (asB_ok (st_ok _ rfl (rt a b hb') (strictly_eq 6 _ rfl)))) (not_ok (asB_ok (st_ok _ rfl (rt c d hd) (strictly_eq 6 _ rfl)))) ?_
  -- the sum
  have lt64 : ∀ x y : Nat, x < 1000000000 → y < 1000000000 → x * (y + 1) < 1000000000000000000 := fun x y h h2 => by
    have : x * (y + 1) ≤ 999999999 * 1000000000 := Nat.mul_le_mul (by omega) (by omega)
    omega
  have div9 : ∀ x y : Nat, x < 1000000001 → x / y < 1000000001 := fun x y h => div_lt x y h
  have mul9 : ∀ x y : Nat, x < 1000000001 → y < 1000000001 → x * y < 1000000000000000001 := fun x y h h2 => by
    have : x * y ≤ 1000000000 * 1000000000 := Nat.mul_le_mul (by omega) (by omega)
    omega
  have cross : ∀ x y u v : Nat, x < 1000000001 → y < 1000000001 → u < 1000000001 → v < 1000000001 → op2 dMul (op2 getD (R.ok (rat x y)) (R.ok (PyData.int 0))) (op2 getD (R.ok (rat u v)) (R.ok (PyData.int 1))) = .ok (.int ((x / Nat.gcd x y * (v / Nat.gcd u v) : Nat) : Int)) := fun x y u v hx hy hu hv => op_ok (rat_0 x y) (rat_1 u v) (mulN (by have := div9 x (Nat.gcd x y) hx; omega) (by have := div9 v (Nat.gcd u v) hv; omega))
  have lessv : ∀ x y u v : Nat, x < 1000000001 → y < 1000000001 → u < 1000000001 → v < 1000000001 → ∃ t : Bool, op2 dLt (op2 dMul (op2 getD (R.ok (rat x y)) (R.ok (PyData.int 0))) (op2 getD (R.ok (rat u v)) (R.ok (PyData.int 1)))) (op2 dMul (op2 getD (R.ok (rat u v)) (R.ok (PyData.int 0))) (op2 getD (R.ok (rat x y)) (R.ok (PyData.int 1)))) = .ok (.bool t) :=
    fun x y u v hx hy hu hv => ⟨_, op_ok (cross x y u v hx hy hu hv) (cross u v x y hu hv hx hy) rfl⟩
  refine to_st (rat (a * (d + 1) + c * (b + 1)) ((b + 1) * (d + 1))) ?_ ?_ (strictly_eq 6 _ rfl) ?_
  · have h1 := lt64 a d ha hd
    have h2 := lt64 c b hc hb'
    have h3 : (b + 1) * (d + 1) < 1000000000000000001 := mul9 _ _ (by omega) (by omega)
    exact c2_ok (op_ok (op_ok rfl (add1 d) (mulN (by omega) (by omega))) (op_ok rfl (add1 b) (mulN (by omega) (by omega))) rfl) (op_ok (add1 b) (add1 d) (mulN (by omega) (by omega)))
      (law_ratio_eq (a * (d + 1) + c * (b + 1)) ((b + 1) * (d + 1)) (by omega) (Nat.mul_pos (by omega) (by omega)) (by omega))
  · refine c2_ok rfl rfl ?_
    unfold m_plus
    have y0 : 0 < (b + 1) / Nat.gcd a (b + 1) := Nat.div_pos (Nat.le_of_dvd (by omega) (Nat.gcd_dvd_right _ _)) (Nat.gcd_pos_of_pos_right _ (by omega))
    have v0 : 0 < (d + 1) / Nat.gcd c (d + 1) := Nat.div_pos (Nat.le_of_dvd (by omega) (Nat.gcd_dvd_right _ _)) (Nat.gcd_pos_of_pos_right _ (by omega))
    have y1 := div9 (b + 1) (Nat.gcd a (b + 1)) (by omega)
    have v1 := div9 (d + 1) (Nat.gcd c (d + 1)) (by omega)
    have b3 := mul9 _ _ y1 v1
    refine c2_ok (op_ok (cross a (b + 1) c (d + 1) (by omega) (by omega) (by omega) (by omega)) (cross c (d + 1) a (b + 1) (by omega) (by omega) (by omega) (by omega)) rfl) (op_ok (rat_1 a (b + 1)) (rat_1 c (d + 1)) (mulN (by omega) (by omega))) ?_
    refine (ratio_eq (a / Nat.gcd a (b + 1) * ((d + 1) / Nat.gcd c (d + 1)) + c / Nat.gcd c (d + 1) * ((b + 1) / Nat.gcd a (b + 1))) ((b + 1) / Nat.gcd a (b + 1) * ((d + 1) / Nat.gcd c (d + 1))) (Nat.mul_pos y0 v0) (by omega)).trans (congrArg R.ok ?_)
    refine rat_cross (Nat.mul_pos y0 v0) (Nat.mul_pos (by omega) (by omega)) ?_
    have ea : a / Nat.gcd a (b + 1) * Nat.gcd a (b + 1) = a := Nat.div_mul_cancel (Nat.gcd_dvd_left _ _)
    have eb : (b + 1) / Nat.gcd a (b + 1) * Nat.gcd a (b + 1) = b + 1 := Nat.div_mul_cancel (Nat.gcd_dvd_right _ _)
    have ec : c / Nat.gcd c (d + 1) * Nat.gcd c (d + 1) = c := Nat.div_mul_cancel (Nat.gcd_dvd_left _ _)
    have ed : (d + 1) / Nat.gcd c (d + 1) * Nat.gcd c (d + 1) = d + 1 := Nat.div_mul_cancel (Nat.gcd_dvd_right _ _)
    generalize a / Nat.gcd a (b + 1) = x at *
    generalize (b + 1) / Nat.gcd a (b + 1) = y at *
    generalize c / Nat.gcd c (d + 1) = u at *
    generalize (d + 1) / Nat.gcd c (d + 1) = v at *
    generalize Nat.gcd a (b + 1) = g at *
    generalize Nat.gcd c (d + 1) = k at *
    generalize hB : b + 1 = B at *
    generalize hD : d + 1 = D at *
    rw [← ea, ← eb, ← ec, ← ed, Nat.add_mul, Nat.add_mul]
    congr 1 <;> ac_rfl
  refine to_fin () ?_ ?_
  · refine to_bind _ rfl ?_
    refine forL_all _ _ fun z hz => ?_
    have each : ∀ x y u v : Nat, x < 1000000001 → y < 1000000001 → u < 1000000001 → v < 1000000001 → z = .tuple [rat x y, rat u v] → t2 (fun left_16 right_17 => (m_law_b2 left_16 right_17 ())) z = R.ok (Fl.nx ()) := by
      intro x y u v hx hy hu hv e
      subst e
      obtain ⟨t, ht⟩ := lessv x y u v hx hy hu hv
      show m_law_b2 (rat x y) (rat u v) () = _
      unfold m_law_b2
      exact to_f (not_ok (asB_ok (st_ok (.bool t) ht (c2_ok rfl rfl ht) (strictly_eq 6 _ rfl)))) rfl
    rcases List.mem_cons.mp hz with e | hz
    · exact each a (b + 1) c (d + 1) (by omega) (by omega) (by omega) (by omega) e
    · rcases List.mem_cons.mp hz with e | hz
      · exact each c (d + 1) a (b + 1) (by omega) (by omega) (by omega) (by omega) e
      · rcases List.mem_cons.mp hz with e | hz
        · exact each a (b + 1) a (b + 1) (by omega) (by omega) (by omega) (by omega) e
        · cases hz
  have share0 : ∀ x : Int, m_share (.int x) (.int 0) = .ok (.tuple [.int 0, .int 1]) := fun x => by
    unfold m_share
    exact to_t (by simp) rfl
  have share1 : ∀ x y : Nat, 0 < y → y < 2 ^ 64 → m_share (.int x) (.int y) = .ok (rat x y) := fun x y h h2 => by
    unfold m_share
    exact to_f (by simp; omega) (c2_ok rfl rfl (ratio_eq x y h h2))
  refine to_or ?_ ?_ ?_
  · exact not_ok (asB_ok (st_ok (.tuple [.int 0, .int 1]) rfl (c2_ok rfl rfl (share0 a)) (strictly_eq 6 _ rfl)))
  · exact not_ok (asB_ok (st_ok (rat a (b + 1)) (lrt a b ha hb') (c2_ok rfl (add1 b) (share1 a (b + 1) (by omega) (by omega))) (strictly_eq 6 _ rfl)))
  have mul_list : dMul (.list [.int 1000]) (.int 9) = .ok (.list [.int 1000, .int 1000, .int 1000, .int 1000, .int 1000, .int 1000, .int 1000, .int 1000, .int 1000]) := if_pos ⟨by decide, by decide, by decide⟩
  have add_list : dAdd (.list [.int 10]) (.list [.int 1000, .int 1000, .int 1000, .int 1000, .int 1000, .int 1000, .int 1000, .int 1000, .int 1000]) = .ok (.list [.int 10, .int 1000, .int 1000, .int 1000, .int 1000, .int 1000, .int 1000, .int 1000, .int 1000, .int 1000]) := dAdd_lst (by decide)
  refine to_bind _ (c2_ok rfl (op_ok rfl (op_ok rfl rfl mul_list) add_list) e2) ?_
  -- the numbers
  have els : es.length = 10 := dr2.length
  obtain ⟨z, rest, rfl⟩ : ∃ z rest, es = z :: rest := by
    cases es with
    | nil => cases els
    | cons z rest => exact ⟨z, rest, rfl⟩
  have hsl : slX (R.ok (PyData.list ((z :: rest).map PyData.int))) ((R.ok (PyData.int 1)).bind asI) ((op2 dAdd (R.ok (PyData.int 1)) (op2 getD (R.ok (PyData.list ((z :: rest).map PyData.int))) (R.ok (PyData.int 0)))).bind asI) = .ok (.list ((cutL (z :: rest) (some 1) (some (1 + z))).map .int)) := by
    rw [← cutD_map]
    refine slX_list rfl rfl ?_
    rw [op_ok (r := .ok (.int (1 + z))) rfl (op_ok rfl rfl (atD_zero _ _)) ?_]
    · rfl
    · rfl
  refine to_bind _ hsl ?_
  have hnum : ∀ x ∈ cutL (z :: rest) (some 1) (some (1 + z)), 0 ≤ x ∧ x < 1000 := fun x hx => by
    obtain ⟨s, hs, h1, h2⟩ := dr2.mem (cutL_mem hx)
    refine ⟨h1, ?_⟩
    simp only [List.mem_cons, List.not_mem_nil, or_false] at hs
    omega
  have hlen : (cutL (z :: rest) (some 1) (some (1 + z))).length ≤ 10 := by have := cutL_len (z :: rest) (some 1) (some (1 + z)); omega
  generalize cutL (z :: rest) (some 1) (some (1 + z)) = nums at hnum hlen hsl
  obtain ⟨s0, s1⟩ := sum_bd 1000 nums hnum
  obtain ⟨sm, hsm⟩ : ∃ sm : Nat, nums.sum = (sm : Int) := ⟨nums.sum.toNat, (Int.toNat_of_nonneg s0).symm⟩
  have hsum : (consA (R.ok (PyData.list (nums.map PyData.int))) (R.ok [])).bind (f1 (onInts dSum)) = .ok (.int sm) := b1_ok rfl (by rw [onInts_map]; show R.ok (PyData.int nums.sum) = _; rw [hsm])
  have hlenv : (consA (R.ok (PyData.list (nums.map PyData.int))) (R.ok [])).bind (f1 dLen) = .ok (.int (nums.length : Nat)) := b1_ok rfl (by rw [dLen_list, List.length_map])
  -- the mean
  have hdue : ∃ due, dok 6 due = true ∧ iteM ((op2 dEq ((consA (R.ok (PyData.list (nums.map PyData.int))) (R.ok [])).bind (f1 dLen)) (R.ok (PyData.int 0))).bind asB) ((consA (R.ok (PyData.int 0)) (consA (R.ok (PyData.int 1)) (R.ok []))).bind fun xs => R.ok (PyData.tuple xs)) ((consA ((consA (R.ok (PyData.list (nums.map PyData.int))) (R.ok [])).bind (f1 (onInts dSum))) (consA ((consA (R.ok (PyData.list (nums.map PyData.int))) (R.ok [])).bind (f1 dLen)) (R.ok []))).bind (ap2 (m__law_ratio))) = .ok due ∧ m_mean_of (.list (nums.map .int)) = .ok due := by
    unfold m_mean_of
    rw [hsum, hlenv]
    by_cases h0 : nums.length = 0
    · refine ⟨.tuple [.int 0, .int 1], rfl, to_t (asB_ok (op_ok rfl rfl ((dEq_int _ _).trans (by simp [h0])))) rfl, c2_ok rfl rfl ?_⟩
      rw [h0]
      exact share0 sm
    · refine ⟨rat sm nums.length, rfl, to_f (asB_ok (op_ok rfl rfl ((dEq_int _ _).trans (by simp; exact fun z => h0 (by rw [z]; rfl))))) (c2_ok rfl rfl (law_ratio_eq _ _ (by omega) (by omega) (by omega))), c2_ok rfl rfl (share1 _ _ (by omega) (by omega))⟩
  obtain ⟨due, dk, d1, d2⟩ := hdue
  refine to_bind _ d1 ?_
  refine andV_t (asB_ok (st_ok due rfl (c1_ok rfl d2) (strictly_eq 6 _ dk))) ?_
  exact op_ok rfl hsl (dEq_self 2 (by decide) _ (dokS_ints 0 nums (by omega)))
end K02
open PySem PySem.W PyProof.Rows
set_option maxHeartbeats 0 in
theorem PySem.Challenge.cw_canalworks_k02_ratios_holds : PySem.Challenge.rw_canalworks_k02_ratios.Holds := by
  w_on; o_law; k_head; (case hw => w_witness2)
  k_fill
  refine L2.walk_ofB (l := PySem.Challenge.rw_canalworks_k02_ratios) (n := 63) (k := 8) (x := "script") (CX := fun w => L2.CX PySem.Challenge.rw_canalworks_k02_ratios.prog w) (sp := fun w => DL.spL _ K02.m_law) rfl (by decide) rfl ⟨rfl, by decide, by decide⟩ (fun w h Y => PySem.W.kIn_of Y) ?F (fun _ _ a ns hl hb _ hS => DL.law_gives hS (K02.law_true ns hl hb)) ?X
  case F =>
    intro w mg fa h KX G hmg
    refine' K02.all_mk KX G hmg ?a0 ?l0 ?c0 ?k0 ?a1 ?l1 ?c1 ?k1 ?a2 ?l2 ?c2 ?k2 ?a3 ?l3 ?c3 ?k3 ?a4 ?l4 ?c4 ?k4 ?a5 ?l5 ?c5 ?k5 ?a6 ?l6 ?c6 ?k6 ?a7 ?l7 ?c7 ?k7 ?a8 ?l8 ?c8 ?k8 ?a9 ?l9 ?c9 ?k9 ?a10 ?l10 ?c10 ?k10 ?a11 ?l11 ?c11 ?k11 ?z_bool ?z_int ?z_isinstance ?z_len ?z_list ?z_max ?z_range ?z_str ?z_sum ?z_tuple
    (case a0 => k_is); (case l0 => k_is); (case c0 => k_is); (case k0 => k_is); (case a1 => k_is); (case l1 => k_is); (case c1 => k_is); (case k1 => k_is); (case a2 => k_is); (case l2 => k_is); (case c2 => k_is); (case k2 => k_is); (case a3 => k_is); (case l3 => k_is); (case c3 => k_is); (case k3 => k_is); (case a4 => k_is); (case l4 => k_is); (case c4 => k_is); (case k4 => k_is); (case a5 => k_is); (case l5 => k_is); (case c5 => k_is); (case k5 => k_is); (case a6 => k_is); (case l6 => k_is); (case c6 => k_is); (case k6 => k_is); (case a7 => k_is); (case l7 => k_is); (case c7 => k_is); (case k7 => k_is); (case a8 => k_is); (case l8 => k_is); (case c8 => k_is); (case k8 => k_is); (case a9 => k_is); (case l9 => k_is); (case c9 => k_is); (case k9 => k_is); (case a10 => k_is); (case l10 => k_is); (case c10 => k_is); (case k10 => k_is); (case a11 => k_is); (case l11 => k_is); (case c11 => k_is); (case k11 => k_is); (case z_bool => k_is); (case z_int => k_is); (case z_isinstance => k_is); (case z_len => k_is); (case z_list => k_is); (case z_max => k_is); (case z_range => k_is); (case z_str => k_is); (case z_sum => k_is); (case z_tuple => k_is)
  case X => exact fun w H s e s' h => DL.no_cx h
