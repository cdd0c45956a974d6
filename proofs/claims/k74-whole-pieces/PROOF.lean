import PyProof.Rows.All
import Wide.All
import OpenK.AllK
import Wide.FinOn
import HandS.ForMost
import HandS.Conv
import HandS.Deep
import HandS.TupAny
import HandS.Walk
import KE.GoesMore
import PyProof.ReprRoads
import KE.SortKeyHeap
import KE.SortData
import KE.DatumOrd
import HandS.SortKw
import HandS.Zip
import PySem.Challenge.RW_piecetrees_k74_whole_pieces_of_tables_to
import KE.KDictCopyH
import HandS.WideBits
import HandS.TupLen
import HandS.WordsDict
import HandS.Ends
import PyProof.ReprBulk
set_option Elab.async false
set_option linter.all false
set_option maxRecDepth 100000
set_option maxHeartbeats 4000000
namespace PT
open PySem PySem.Spec PyProof.Rows L2

/-! ### what stays -/
def Ex (H H' : Hp) : Prop := ∀ a o, H a = some o → H' a = some o
theorem Ex.refl (H : Hp) : Ex H H := fun _ _ h => h
theorem Ex.trans {H H1 H2 : Hp} (a : Ex H H1) (b : Ex H1 H2) : Ex H H2 := fun x o h => b x o (a x o h)
theorem Ex.new {H : Hp} {p : Addr} {o : HO} (h : H p = none) : Ex H (upd H p o) := fun a u e => by
  rw [upd_ne (ne_of_none e h)]
  exact e
theorem Ex.back {H H' : Hp} {p : Addr} (e : Ex H H') (h : H' p = none) : H p = none := by
  cases h1 : H p with
  | none => rfl
  | some o =>
    rw [e p o h1] at h
    cases h
/-- a mode: M the addresses whose objects may change (lists, dicts), I what holds of them -/
structure Md where
  M : Addr → Prop
  I : Hp → Prop
  kind : ∀ H a, I H → M a → (∃ kvs, H a = some (.dK kvs)) ∨ (∃ xs, H a = some (.lst xs))
  stay : ∀ H H', I H → (∀ a, M a → H' a = H a) → I H'
/-- nothing may change -/
def m0 : Md := ⟨fun _ => False, fun _ => True, fun _ _ _ h => h.elim, fun _ _ _ _ => trivial⟩
def Rl (m : Md) (H H' : Hp) : Prop := m.I H ∧ m.I H' ∧ ∀ a o, ¬ m.M a → H a = some o → H' a = some o
section
variable {m : Md} {H H' H1 H2 : Hp} {p a : Addr} {o : HO} {K : PySem.W.Frag}
theorem Rl.refl (h : m.I H) : Rl m H H := ⟨h, h, fun _ _ _ e => e⟩
theorem Rl.trans (a : Rl m H H1) (b : Rl m H1 H2) : Rl m H H2 := ⟨a.1, b.2.1, fun x o n e => b.2.2 x o n (a.2.2 x o n e)⟩
theorem Rl.ex (h : m.I H) (e : Ex H H') : Rl m H H' := ⟨h, m.stay H H' h fun a ha => by
  rcases m.kind H a h ha with ⟨k, q⟩ | ⟨k, q⟩
  · rw [q]
    exact e _ _ q
  · rw [q]
    exact e _ _ q, fun a o _ q => e a o q⟩
theorem Md.notM (h : m.I H) (hp : H p = none) : ¬ m.M p := fun hm => by
  rcases m.kind H p h hm with ⟨k, q⟩ | ⟨k, q⟩ <;> (rw [hp] at q; cases q)
theorem Rl.new (h : m.I H) (hp : H p = none) : Rl m H (upd H p o) := Rl.ex h (Ex.new hp)
/-- a list or dict that H does not know may change -/
theorem Rl.mut (r : Rl m H H') (hp : H p = none) : Rl m H (upd H' p o) :=
  ⟨r.1, m.stay H' _ r.2.1 fun a ha => upd_ne fun e => Md.notM r.1 hp (e ▸ ha), fun a u n e => by
    rw [upd_ne (ne_of_none e hp)]
    exact r.2.2 a u n e⟩
theorem Rl.back (r : Rl m H H') (hp : H' p = none) : H p = none := by
  cases h1 : H p with
  | none => rfl
  | some u =>
    by_cases hm : m.M p
    · exact absurd hm (Md.notM r.2.1 hp)
    · rw [r.2.2 p u hm h1] at hp
      cases hp
theorem Rl.ex0 (r : Rl m0 H H') : Ex H H' := fun a o e => r.2.2 a o (fun z => z) e
theorem Rl.of0 (e : Ex H H') : Rl m0 H H' := ⟨trivial, trivial, fun a o _ q => e a o q⟩
theorem Rl.at (r : Rl m H H') (n : ¬ m.M a) (e : H a = some o) : H' a = some o := r.2.2 a o n e
theorem Rl.i (r : Rl m H H') : m.I H' := r.2.1
theorem i0 : m0.I H := trivial
/-- tuples stay -/
def Tk (K : PySem.W.Frag) (H H' : Hp) : Prop := ∀ a xs, SqT K H a xs → SqT K H' a xs
theorem Tk.refl : Tk K H H := fun _ _ h => h
theorem Tk.trans (a : Tk K H H1) (b : Tk K H1 H2) : Tk K H H2 := fun x o h => b x o (a x o h)
theorem Rl.tk (r : Rl m H H') : Tk K H H' := fun a xs h => by
  have key : ∀ o, H a = some o → (∀ kvs, o ≠ .dK kvs) → (∀ xs, o ≠ .lst xs) → H' a = some o := fun o e n1 n2 => r.2.2 a o (fun hm => by
    rcases m.kind H a r.1 hm with ⟨k, q⟩ | ⟨k, q⟩
    · rw [q] at e
      cases e
      exact n1 _ rfl
    · rw [q] at e
      cases e
      exact n2 _ rfl) e
  rcases h with (h | ⟨o, h⟩) | h
  · exact .inl (.inl (key _ h (fun _ z => nomatch z) (fun _ z => nomatch z)))
  · exact .inl (.inr ⟨o, key _ h (fun _ z => nomatch z) (fun _ z => nomatch z)⟩)
  · exact .inr h
theorem Ex.tk (e : Ex H H') : Tk K H H' := Rl.tk (Rl.of0 e)
theorem Tk.updL {xs : List V} (h : H p = some (.lst xs)) : Tk K H (upd H p o) := fun a ys q => by
  have key : ∀ u, H a = some u → u ≠ .lst xs → upd H p o a = some u := fun u e n => by
    rw [upd_ne (ne_of e h n)]
    exact e
  rcases q with (q | ⟨o, q⟩) | q
  · exact .inl (.inl (key _ q fun z => nomatch z))
  · exact .inl (.inr ⟨o, key _ q fun z => nomatch z⟩)
  · exact .inr q
theorem Tk.updK {kvs : List (Key × V)} (h : H p = some (.dK kvs)) : Tk K H (upd H p o) := fun a ys q => by
  have key : ∀ u, H a = some u → u ≠ .dK kvs → upd H p o a = some u := fun u e n => by
    rw [upd_ne (ne_of e h n)]
    exact e
  rcases q with (q | ⟨o, q⟩) | q
  · exact .inl (.inl (key _ q fun z => nomatch z))
  · exact .inl (.inr ⟨o, key _ q fun z => nomatch z⟩)
  · exact .inr q
theorem Tk.updT {kvs : List (List Key × V)} (h : H p = some (.dT kvs)) : Tk K H (upd H p o) := fun a ys q => by
  have key : ∀ u, H a = some u → u ≠ .dT kvs → upd H p o a = some u := fun u e n => by
    rw [upd_ne (ne_of e h n)]
    exact e
  rcases q with (q | ⟨o, q⟩) | q
  · exact .inl (.inl (key _ q fun z => nomatch z))
  · exact .inl (.inr ⟨o, key _ q fun z => nomatch z⟩)
  · exact .inr q
theorem Tk.new (h : H p = none) : Tk K H (upd H p o) := Ex.tk (Ex.new h)
end

/-! ### data: none, bools, ints, tuples of these -/
mutual
inductive Rp (K : PySem.W.Frag) (H : Hp) : V → PyData → Prop
  | non : Rp K H .non .none
  | bl (b : Bool) : Rp K H (.bl b) (.bool b)
  | int (i : Int) : Rp K H (.int i) (.int i)
  | tup {a : Addr} {xs : List V} {ds : List PyData} : SqT K H a xs → RpAll K H xs ds → Rp K H (.ref a) (.tuple ds)
inductive RpAll (K : PySem.W.Frag) (H : Hp) : List V → List PyData → Prop
  | nil : RpAll K H [] []
  | cons {v : V} {vs : List V} {d : PyData} {ds : List PyData} : Rp K H v d → RpAll K H vs ds → RpAll K H (v :: vs) (d :: ds)
end
section
variable {K : PySem.W.Frag} {H H' : Hp}
mutual
theorem Rp.tk (e : Tk K H H') : ∀ (d : PyData) (v : V), Rp K H v d → Rp K H' v d
  | .none, _, h => by
    cases h
    exact .non
  | .bool b, _, h => by
    cases h
    exact .bl b
  | .int i, _, h => by
    cases h
    exact .int i
  | .str x, _, h => by cases h
  | .list _, _, h => by cases h
  | .dict _, _, h => by cases h
  | .tuple ds, _, h => by
    cases h with
    | tup hs ha => exact .tup (e _ _ hs) (RpAll.tk e ds _ ha)
theorem RpAll.tk (e : Tk K H H') : ∀ (ds : List PyData) (vs : List V), RpAll K H vs ds → RpAll K H' vs ds
  | [], _, h => by
    cases h
    exact .nil
  | d :: ds, _, h => by
    cases h with
    | cons h1 h2 => exact .cons (Rp.tk e d _ h1) (RpAll.tk e ds _ h2)
end
theorem Rp.tk' {d : PyData} {v : V} (h : Rp K H v d) (e : Tk K H H') : Rp K H' v d := Rp.tk e d v h
theorem RpAll.tk' {ds : List PyData} {vs : List V} (h : RpAll K H vs ds) (e : Tk K H H') : RpAll K H' vs ds := RpAll.tk e ds vs h
theorem Rp.rl {m : Md} {d : PyData} {v : V} (h : Rp K H v d) (r : Rl m H H') : Rp K H' v d := h.tk' r.tk
theorem RpAll.rl {m : Md} {ds : List PyData} {vs : List V} (h : RpAll K H vs ds) (r : Rl m H H') : RpAll K H' vs ds := h.tk' r.tk
mutual
theorem Rp.dp : ∀ (d : PyData) (v : V), Rp K H v d → Dp K H v d
  | .none, _, h => by
    cases h
    exact .non
  | .bool b, _, h => by
    cases h
    exact .bl b
  | .int i, _, h => by
    cases h
    exact .int i
  | .str x, _, h => by cases h
  | .list _, _, h => by cases h
  | .dict _, _, h => by cases h
  | .tuple ds, _, h => by
    cases h with
    | tup hs ha => exact .tup hs (RpAll.dp ds _ ha)
theorem RpAll.dp : ∀ (ds : List PyData) (vs : List V), RpAll K H vs ds → DpAll K H vs ds
  | [], _, h => by
    cases h
    exact .nil
  | d :: ds, _, h => by
    cases h with
    | cons h1 h2 => exact .cons (Rp.dp d _ h1) (RpAll.dp ds _ h2)
end
theorem Rp.int_inv {v : V} {i : Int} (h : Rp K H v (.int i)) : v = .int i := by
  cases h
  rfl
theorem Rp.bl_inv {v : V} {b : Bool} (h : Rp K H v (.bool b)) : v = .bl b := by
  cases h
  rfl
theorem Rp.non_inv {v : V} (h : Rp K H v .none) : v = .non := by
  cases h
  rfl
theorem Rp.tup_inv {v : V} {ds : List PyData} (h : Rp K H v (.tuple ds)) : ∃ a xs, v = .ref a ∧ SqT K H a xs ∧ RpAll K H xs ds := by
  cases h with
  | tup h1 h2 => exact ⟨_, _, rfl, h1, h2⟩
theorem RpAll.length : ∀ {vs : List V} {ds : List PyData}, RpAll K H vs ds → vs.length = ds.length
  | [], _, h => by
    cases h
    rfl
  | v :: vs, _, h => by
    cases h with
    | cons h1 h2 => rw [List.length_cons, List.length_cons, RpAll.length h2]
theorem RpAll.get : ∀ {vs : List V} {ds : List PyData} {i : Nat} {d : PyData}, RpAll K H vs ds → ds[i]? = some d → ∃ x, vs[i]? = some x ∧ Rp K H x d
  | _, [], i, d, _, e => by simp at e
  | _, d' :: ds, i, d, h, e => by
    cases h with
    | cons h1 h2 =>
      cases i with
      | zero =>
        have e' : d' = d := Option.some.inj e
        subst e'
        exact ⟨_, rfl, h1⟩
      | succ i =>
        obtain ⟨x, q1, q2⟩ := RpAll.get (i := i) h2 (by simpa using e)
        exact ⟨x, by simpa using q1, q2⟩
theorem RpAll.get' : ∀ {vs : List V} {ds : List PyData} {i : Nat} {x : V}, RpAll K H vs ds → vs[i]? = some x → ∃ d, ds[i]? = some d ∧ Rp K H x d
  | [], _, i, d, _, e => by simp at e
  | x' :: vs, _, i, x, h, e => by
    cases h with
    | cons h1 h2 =>
      cases i with
      | zero =>
        have e' : x' = x := Option.some.inj e
        subst e'
        exact ⟨_, rfl, h1⟩
      | succ i =>
        obtain ⟨d, q1, q2⟩ := RpAll.get' (i := i) h2 (by simpa using e)
        exact ⟨d, by simpa using q1, q2⟩
theorem RpAll.append : ∀ {vs : List V} {ds : List PyData} {ws : List V} {es : List PyData}, RpAll K H vs ds → RpAll K H ws es → RpAll K H (vs ++ ws) (ds ++ es)
  | [], _, _, _, h, g => by
    cases h
    exact g
  | v :: vs, _, _, _, h, g => by
    cases h with
    | cons h1 h2 => exact .cons h1 (RpAll.append h2 g)
theorem RpAll.take : ∀ {vs : List V} {ds : List PyData} (n : Nat), RpAll K H vs ds → RpAll K H (vs.take n) (ds.take n)
  | _, _, 0, _ => by
    rw [List.take_zero, List.take_zero]
    exact .nil
  | [], _, n + 1, h => by
    cases h
    exact .nil
  | v :: vs, _, n + 1, h => by
    cases h with
    | cons h1 h2 => exact .cons h1 (RpAll.take n h2)
theorem RpAll.drop : ∀ {vs : List V} {ds : List PyData} (n : Nat), RpAll K H vs ds → RpAll K H (vs.drop n) (ds.drop n)
  | _, _, 0, h => h
  | [], _, n + 1, h => by
    cases h
    exact .nil
  | v :: vs, _, n + 1, h => by
    cases h with
    | cons h1 h2 => exact RpAll.drop n h2
theorem RpAll.one {v : V} {d : PyData} (h : Rp K H v d) : RpAll K H [v] [d] := .cons h .nil
theorem RpAll.two {v w : V} {d e : PyData} (h : Rp K H v d) (g : Rp K H w e) : RpAll K H [v, w] [d, e] := .cons h (.cons g .nil)
theorem RpAll.ints : ∀ ns : List Int, RpAll K H (ns.map V.int) (ns.map PyData.int)
  | [] => .nil
  | n :: ns => .cons (.int n) (RpAll.ints ns)
theorem RpAll.ints_inv : ∀ {ns : List Int} {vs : List V}, RpAll K H vs (ns.map PyData.int) → vs = ns.map V.int
  | [], _, h => by
    cases h
    rfl
  | n :: ns, _, h => by
    cases h with
    | cons h1 h2 => rw [List.map_cons, ← RpAll.ints_inv h2, ← h1.int_inv]
theorem RpAll.bls_inv : ∀ {bs : List Bool} {vs : List V}, RpAll K H vs (bs.map PyData.bool) → vs = bs.map V.bl
  | [], _, h => by
    cases h
    rfl
  | n :: ns, _, h => by
    cases h with
    | cons h1 h2 => rw [List.map_cons, ← RpAll.bls_inv h2, ← h1.bl_inv]
theorem RpAll.perm {vs ws : List V} (p : ws.Perm vs) : ∀ {ds : List PyData}, RpAll K H vs ds → ∃ es : List PyData, es.Perm ds ∧ RpAll K H ws es := by
  induction p with
  | nil => exact fun h => ⟨_, List.Perm.refl _, h⟩
  | cons x p ih =>
    intro ds h
    cases h with
    | cons h1 h2 =>
      obtain ⟨es, q1, q2⟩ := ih h2
      exact ⟨_ :: es, q1.cons _, .cons h1 q2⟩
  | swap x y l =>
    intro ds h
    cases h with
    | cons h1 h2 =>
      cases h2 with
      | cons h2 h3 => exact ⟨_, List.Perm.swap _ _ _, .cons h2 (.cons h1 h3)⟩
  | trans p1 p2 ih1 ih2 =>
    intro ds h
    obtain ⟨es, q1, q2⟩ := ih2 h
    obtain ⟨fs, r1, r2⟩ := ih1 q2
    exact ⟨fs, r1.trans q1, r2⟩
theorem rp_tup {a : Addr} {xs : List V} {ds : List PyData} (h : H a = some (.tup xs)) (g : RpAll K H xs ds) : Rp K H (.ref a) (.tuple ds) := .tup (.inl (.inl h)) g
end
end PT

set_option Elab.async false
set_option linter.all false
set_option maxRecDepth 100000
set_option maxHeartbeats 4000000
namespace PT
open PySem PySem.Spec PyProof.Rows L2

/-! ### what evaluates to what -/
def EvP (m : Md) (te : TE) (σ : L2.St) (H : Hp) (P : Hp → V → Hp → Prop) : Prop := ∀ H1, Rl m H H1 → ∀ Q : VK, (∀ v H2, Rl m H1 H2 → P H1 v H2 → Q v H2) → te σ H1 Q
/-- a value, data -/
def Ev (m : Md) (te : TE) (σ : L2.St) (H : Hp) (v : V) : Prop := EvP m te σ H fun _ x _ => x = v
def ED (K : PySem.W.Frag) (m : Md) (te : TE) (σ : L2.St) (H : Hp) (d : PyData) : Prop := EvP m te σ H fun _ x H2 => Rp K H2 x d
/-- a new list of data; a list of data that nothing changes -/
def NewL (K : PySem.W.Frag) (ds : List PyData) : Hp → V → Hp → Prop := fun H1 v H2 => ∃ p xs, v = .ref p ∧ H1 p = none ∧ H2 p = some (.lst xs) ∧ RpAll K H2 xs ds
def EL (K : PySem.W.Frag) (m : Md) (te : TE) (σ : L2.St) (H : Hp) (ds : List PyData) : Prop := EvP m te σ H (NewL K ds)
def Lq (K : PySem.W.Frag) (m : Md) (H : Hp) (v : V) (ds : List PyData) : Prop := ∃ p xs, v = .ref p ∧ ¬ m.M p ∧ H p = some (.lst xs) ∧ RpAll K H xs ds
def EQ (K : PySem.W.Frag) (m : Md) (te : TE) (σ : L2.St) (H : Hp) (ds : List PyData) : Prop := EvP m te σ H fun _ v H2 => Lq K m H2 v ds
def ET (m : Md) (t : TT) (σ : L2.St) (H : Hp) (b : Bool) : Prop := ∀ H1, Rl m H H1 → ∀ Q : Bool → Hp → Prop, (∀ H2, Rl m H1 H2 → Q b H2) → t σ H1 Q
/-- arguments: data; what stands -/
def EA (m : Md) (ta : TA) (σ : L2.St) (H : Hp) (P : List V → Hp → Prop) : Prop := ∀ H1, Rl m H H1 → ∀ Q : List V → Hp → Prop, (∀ vs H2, Rl m H1 H2 → P vs H2 → Q vs H2) → ta σ H1 Q
def EO (m : Md) (to : TO) (σ : L2.St) (H : Hp) (o : Option Int) : Prop := ∀ H1, Rl m H H1 → ∀ Q : Option Int → Hp → Prop, (∀ H2, Rl m H1 H2 → Q o H2) → to σ H1 Q
/-- what stays true while the mode's relation goes on -/
def St1 (m : Md) (P : V → Hp → Prop) : Prop := ∀ v H H', Rl m H H' → P v H → P v H'
section
variable {K : PySem.W.Frag} {m : Md} {σ : L2.St} {H H' : Hp} {ta tb te tx : TE} {t u : TT} {x y z v : V} {r : R2} {d d1 d2 : PyData} {ds es : List PyData} {P P' : Hp → V → Hp → Prop}
theorem EvP.mono (e : Rl m H H') (h : EvP m te σ H P) : EvP m te σ H' P := fun H1 a Q q => h H1 (e.trans a) Q q
theorem Ev.mono (e : Rl m H H') (h : Ev m te σ H v) : Ev m te σ H' v := EvP.mono e h
theorem ED.mono (e : Rl m H H') (h : ED K m te σ H d) : ED K m te σ H' d := EvP.mono e h
theorem EL.mono (e : Rl m H H') (h : EL K m te σ H ds) : EL K m te σ H' ds := EvP.mono e h
theorem EQ.mono (e : Rl m H H') (h : EQ K m te σ H ds) : EQ K m te σ H' ds := EvP.mono e h
theorem ET.mono {b : Bool} (e : Rl m H H') (h : ET m t σ H b) : ET m t σ H' b := fun H1 a Q q => h H1 (e.trans a) Q q
theorem EvP.imp (h : EvP m te σ H P) (f : ∀ H1 v H2, Rl m H1 H2 → P H1 v H2 → P' H1 v H2) : EvP m te σ H P' := fun H1 a Q q => h H1 a Q fun v H2 r p => q v H2 r (f H1 v H2 r p)
theorem Lq.rl (h : Lq K m H v ds) (r : Rl m H H') : Lq K m H' v ds := by
  obtain ⟨p, xs, h1, h2, h3, h4⟩ := h
  exact ⟨p, xs, h1, h2, r.at h2 h3, h4.rl r⟩
theorem EL.eq (h : EL K m te σ H ds) : EQ K m te σ H ds := EvP.imp h fun H1 v H2 r p => by
  obtain ⟨a, xs, h1, h2, h3, h4⟩ := p
  exact ⟨a, xs, h1, Md.notM r.1 h2, h3, h4⟩
theorem ED.ev {i : Int} (h : ED K m te σ H (.int i)) : Ev m te σ H (.int i) := EvP.imp h fun _ _ _ _ p => p.int_inv
theorem ED.evb {b : Bool} (h : ED K m te σ H (.bool b)) : Ev m te σ H (.bl b) := EvP.imp h fun _ _ _ _ p => p.bl_inv
theorem Ev.ed {i : Int} (h : Ev m te σ H (.int i)) : ED K m te σ H (.int i) := EvP.imp h fun _ _ _ _ p => by
  rw [p]
  exact .int i
theorem Ev.edb {b : Bool} (h : Ev m te σ H (.bl b)) : ED K m te σ H (.bool b) := EvP.imp h fun _ _ _ _ p => by
  rw [p]
  exact .bl b
theorem ev_var {i : Nat} (h : σ[i]? = some (some v)) : Ev m (tVar i) σ H v := fun H1 e _ q => ⟨v, h, q v H1 (Rl.refl e.i) rfl⟩
theorem ed_var {i : Nat} (h : σ[i]? = some (some v)) (g : Rp K H v d) : ED K m (tVar i) σ H d := fun H1 e _ q => ⟨v, h, q v H1 (Rl.refl e.i) (g.rl e)⟩
theorem eq_var {i : Nat} (h : σ[i]? = some (some v)) (g : Lq K m H v ds) : EQ K m (tVar i) σ H ds := fun H1 e _ q => ⟨v, h, q v H1 (Rl.refl e.i) (g.rl e)⟩
theorem ev_c : Ev m (tC v) σ H v := fun H1 e _ q => q v H1 (Rl.refl e.i) rfl
theorem ed_int {i : Int} : ED K m (tC (.int i)) σ H (.int i) := Ev.ed ev_c
theorem ed_non : ED K m (tC .non) σ H .none := fun H1 e _ q => q .non H1 (Rl.refl e.i) .non
theorem ed_is {e : PyData} (h : ED K m te σ H d) (q : d = e) : ED K m te σ H e := q ▸ h
theorem ev_is {w : V} (h : Ev m te σ H v) (q : v = w) : Ev m te σ H w := q ▸ h
theorem et_is {a b : Bool} (h : ET m t σ H a) (e : a = b) : ET m t σ H b := e ▸ h
/-- a two-place operation on what the operands are: R1, R2 told of them -/
theorem ep_op {P1 P2 : V → Hp → Prop} (ha : EvP m ta σ H fun _ v H2 => P1 v H2) (s1 : St1 m P1) (hb : EvP m tb σ H fun _ v H2 => P2 v H2)
    (hr : ∀ x y H1, m.I H1 → Rl m H H1 → P1 x H1 → P2 y H1 → ∀ Q : VK, (∀ v H2, Rl m H1 H2 → P H1 v H2 → Q v H2) → r x y H1 Q) (hP : ∀ A B C v, Rl m A B → P B v C → P A v C) : EvP m (tOp r ta tb) σ H P := fun H1 e Q q =>
  ha H1 e _ fun x H2 e2 p1 => hb H2 (e.trans e2) _ fun y H3 e3 p2 => hr x y H3 e3.i ((e.trans e2).trans e3) (s1 _ _ _ e3 p1) p2 Q fun v H4 e4 p => q v H4 ((e2.trans e3).trans e4) (hP _ _ _ v (e2.trans e3) p)
theorem st_rp : St1 m fun v H => Rp K H v d := fun _ _ _ r h => h.rl r
theorem st_eq : St1 m fun x _ => x = v := fun _ _ _ _ h => h
theorem st_lq : St1 m fun v H => Lq K m H v ds := fun _ _ _ r h => h.rl r
theorem ed_op {d1 d2 : PyData} (ha : ED K m ta σ H d1) (hb : ED K m tb σ H d2) (hr : ∀ x y H1, Rl m H H1 → Rp K H1 x d1 → Rp K H1 y d2 → ∀ Q : VK, (∀ v H2, Rl m H1 H2 → Rp K H2 v d → Q v H2) → r x y H1 Q) : ED K m (tOp r ta tb) σ H d :=
  ep_op ha st_rp hb (fun x y H1 _ e p1 p2 Q q => hr x y H1 e p1 p2 Q q) fun _ _ _ _ _ p => p
theorem ed_I0 {g : Int → Int → Int} {i j : Int} (ha : ED K m ta σ H (.int i)) (hb : ED K m tb σ H (.int j)) : ED K m (tOp (rI0 fun i j => .int (g i j)) ta tb) σ H (.int (g i j)) :=
  ed_op ha hb fun x y H1 e p1 p2 Q q => ⟨i, j, p1.int_inv, p2.int_inv, q _ H1 (Rl.refl e.i) (.int _)⟩
theorem ed_I {C : Int → Int → Prop} {g : Int → Int → Int} {i j : Int} (ha : ED K m ta σ H (.int i)) (hb : ED K m tb σ H (.int j)) (hc : C i j) : ED K m (tOp (rI C fun i j => .int (g i j)) ta tb) σ H (.int (g i j)) :=
  ed_op ha hb fun x y H1 e p1 p2 Q q => ⟨i, j, p1.int_inv, p2.int_inv, hc, q _ H1 (Rl.refl e.i) (.int _)⟩
theorem ed_B0 {g : Int → Int → Bool} {i j : Int} (ha : ED K m ta σ H (.int i)) (hb : ED K m tb σ H (.int j)) : ED K m (tOp (rI0 fun i j => .bl (g i j)) ta tb) σ H (.bool (g i j)) :=
  ed_op ha hb fun x y H1 e p1 p2 Q q => ⟨i, j, p1.int_inv, p2.int_inv, q _ H1 (Rl.refl e.i) (.bl _)⟩
theorem ed_eqI {i j : Int} (ha : ED K m ta σ H (.int i)) (hb : ED K m tb σ H (.int j)) : ED K m (tOp rEq ta tb) σ H (.bool (decide (i = j))) :=
  ed_op ha hb fun x y H1 e p1 p2 Q q => by
    rw [p1.int_inv, p2.int_inv]
    refine ⟨rfl, ?_⟩
    have e2 : decide (V.int i = V.int j) = decide (i = j) := decide_eq_decide.mpr ⟨fun z => V.int.inj z, fun z => by rw [z]⟩
    rw [e2]
    exact q _ H1 (Rl.refl e.i) (.bl _)
theorem ed_neI {i j : Int} (ha : ED K m ta σ H (.int i)) (hb : ED K m tb σ H (.int j)) : ED K m (tOp rNe ta tb) σ H (.bool (decide (i ≠ j))) :=
  ed_op ha hb fun x y H1 e p1 p2 Q q => by
    rw [p1.int_inv, p2.int_inv]
    refine ⟨rfl, ?_⟩
    have e2 : (!decide (V.int i = V.int j)) = decide (i ≠ j) := by
      rw [decide_not]
      congr 1
      exact decide_eq_decide.mpr ⟨fun z => V.int.inj z, fun z => by rw [z]⟩
    rw [e2]
    exact q _ H1 (Rl.refl e.i) (.bl _)
/-- an item of a tuple, of a list -/
theorem ed_ixT {i : Nat} (ha : ED K m ta σ H (.tuple ds)) (hb : ED K m tb σ H (.int (i : Int))) (h : ds[i]? = some d) : ED K m (tOp (rIxT K) ta tb) σ H d :=
  ed_op ha hb fun x y H1 e p1 p2 Q q => by
    obtain ⟨a, xs, rfl, h1, h2⟩ := p1.tup_inv
    obtain ⟨z, e1, e2⟩ := h2.get h
    exact ⟨a, xs, (i : Int), z, rfl, p2.int_inv, h1, atI_nat e1, q z H1 (Rl.refl e.i) e2⟩
theorem ed_ixTl {n : Nat} (ha : ED K m ta σ H (.tuple ds)) (hb : ED K m tb σ H (.int (-1))) (hn : ds.length = n + 1) (h : ds[n]? = some d) : ED K m (tOp (rIxT K) ta tb) σ H d :=
  ed_op ha hb fun x y H1 e p1 p2 Q q => by
    obtain ⟨a, xs, rfl, h1, h2⟩ := p1.tup_inv
    obtain ⟨z, e1, e2⟩ := h2.get h
    have hl : xs.length = n + 1 := h2.length.trans hn
    refine ⟨a, xs, -1, z, rfl, p2.int_inv, h1, ?_, q z H1 (Rl.refl e.i) e2⟩
    unfold atI ixN
    rw [if_neg (by decide), if_pos (by omega), hl]
    have e3 : ((-1 : Int) + ((n + 1 : Nat) : Int)).toNat = n := by omega
    rw [e3]
    exact e1
theorem ed_ixL {i : Nat} (ha : EQ K m ta σ H ds) (hb : ED K m tb σ H (.int (i : Int))) (h : ds[i]? = some d) : ED K m (tOp (rIxL K) ta tb) σ H d :=
  ep_op ha st_lq hb (fun x y H1 _ e p1 p2 Q q => by
    obtain ⟨a, xs, rfl, hm, h1, h2⟩ := p1
    obtain ⟨z, e1, e2⟩ := h2.get h
    exact ⟨a, xs, (i : Int), z, rfl, p2.int_inv, .inl (.inl h1), atI_nat e1, q z H1 (Rl.refl e.i) e2⟩) fun _ _ _ _ _ p => p
/-- tests -/
theorem et_test {b : Bool} (h : ED K m te σ H (.bool b)) : ET m (tTest te) σ H b := fun H1 e _ q => h H1 e _ fun v H2 e2 p => ⟨b, p.bl_inv, q H2 e2⟩
theorem et_B {b : Bool} (h : ED K m te σ H (.bool b)) : ET m (tB te) σ H b := fun H1 e _ q => h H1 e _ fun v H2 e2 p => ⟨b, p.bl_inv, q H2 e2⟩
theorem et_yes : ET m tYes σ H true := fun H1 e _ q => q H1 (Rl.refl e.i)
theorem et_and {a b : Bool} (h1 : ET m t σ H a) (h2 : a = true → ET m u σ H b) : ET m (tAnd t u) σ H (a && b) := fun H1 e Q q => h1 H1 e _ fun H2 e2 => by
  cases a with
  | true =>
    show u σ H2 Q
    exact h2 rfl H2 (e.trans e2) Q fun H3 e3 => q H3 (e2.trans e3)
  | false =>
    show Q false H2
    exact q H2 e2
theorem et_or {a b : Bool} (h1 : ET m t σ H a) (h2 : a = false → ET m u σ H b) : ET m (tOr t u) σ H (a || b) := fun H1 e Q q => h1 H1 e _ fun H2 e2 => by
  cases a with
  | true =>
    show Q true H2
    exact q H2 e2
  | false =>
    show u σ H2 Q
    exact h2 rfl H2 (e.trans e2) Q fun H3 e3 => q H3 (e2.trans e3)
theorem et_not {a : Bool} (h1 : ET m t σ H a) : ET m (tNot t) σ H (!a) := fun H1 e _ q => h1 H1 e _ fun H2 e2 => q H2 e2
theorem ed_orV {a b : Bool} (h1 : ED K m ta σ H (.bool a)) (h2 : a = false → ED K m tb σ H (.bool b)) : ED K m (tOrV ta tb) σ H (.bool (a || b)) := fun H1 e Q q => h1 H1 e _ fun v H2 e2 p => ⟨a, p.bl_inv, by
  cases a with
  | true =>
    show Q (.bl true) H2
    exact q _ H2 e2 (.bl _)
  | false =>
    show tb σ H2 Q
    exact h2 rfl H2 (e.trans e2) Q fun v H3 e3 p => q v H3 (e2.trans e3) p⟩
theorem ed_andV {a b : Bool} (h1 : ED K m ta σ H (.bool a)) (h2 : a = true → ED K m tb σ H (.bool b)) : ED K m (tAndV ta tb) σ H (.bool (a && b)) := fun H1 e Q q => h1 H1 e _ fun v H2 e2 p => ⟨a, p.bl_inv, by
  cases a with
  | true =>
    show tb σ H2 Q
    exact h2 rfl H2 (e.trans e2) Q fun v H3 e3 p => q v H3 (e2.trans e3) p
  | false =>
    show Q (.bl false) H2
    exact q _ H2 e2 (.bl _)⟩
theorem ep_if {b : Bool} (h : ET m t σ H b) (h1 : b = true → EvP m ta σ H P) (h2 : b = false → EvP m tb σ H P) (hP : ∀ A B C v, Rl m A B → P B v C → P A v C) : EvP m (tIf t ta tb) σ H P := fun H1 e Q q => h H1 e _ fun H2 e2 => by
  cases b with
  | true =>
    show ta σ H2 Q
    exact h1 rfl H2 (e.trans e2) Q fun v H3 e3 p => q v H3 (e2.trans e3) (hP _ _ _ _ e2 p)
  | false =>
    show tb σ H2 Q
    exact h2 rfl H2 (e.trans e2) Q fun v H3 e3 p => q v H3 (e2.trans e3) (hP _ _ _ _ e2 p)
theorem ed_if {b : Bool} (h : ET m t σ H b) (h1 : b = true → ED K m ta σ H d) (h2 : b = false → ED K m tb σ H d) : ED K m (tIf t ta tb) σ H d := ep_if h h1 h2 fun _ _ _ _ _ p => p
/-- arguments -/
theorem ea_nil : EA m tNil σ H fun vs H2 => RpAll K H2 vs [] := fun H1 e _ q => q [] H1 (Rl.refl e.i) .nil
theorem ea_cons {tr : TA} (h : ED K m ta σ H d) (hr : EA m tr σ H fun vs H2 => RpAll K H2 vs ds) : EA m (tCons ta tr) σ H fun vs H2 => RpAll K H2 vs (d :: ds) := fun H1 e _ q =>
  h H1 e _ fun v H2 e2 p => hr H2 (e.trans e2) _ fun vs H3 e3 p' => q (v :: vs) H3 (e2.trans e3) (.cons (p.rl e3) p')
theorem ea_one (h : ED K m ta σ H d) : EA m (tCons ta tNil) σ H fun vs H2 => RpAll K H2 vs [d] := ea_cons h ea_nil
theorem ea_two {tb : TE} (h : ED K m ta σ H d1) (h2 : ED K m tb σ H d2) : EA m (tCons ta (tCons tb tNil)) σ H fun vs H2 => RpAll K H2 vs [d1, d2] := ea_cons h (ea_one h2)
theorem ea_three {tb tc : TE} {d3 : PyData} (h : ED K m ta σ H d1) (h2 : ED K m tb σ H d2) (h3 : ED K m tc σ H d3) : EA m (tCons ta (tCons tb (tCons tc tNil))) σ H fun vs H2 => RpAll K H2 vs [d1, d2, d3] := ea_cons h (ea_two h2 h3)
theorem ea_four {tb tc td : TE} {d3 d4 : PyData} (h : ED K m ta σ H d1) (h2 : ED K m tb σ H d2) (h3 : ED K m tc σ H d3) (h4 : ED K m td σ H d4) : EA m (tCons ta (tCons tb (tCons tc (tCons td tNil)))) σ H fun vs H2 => RpAll K H2 vs [d1, d2, d3, d4] := ea_cons h (ea_three h2 h3 h4)
/-- arguments, any -/
theorem eg_nil : EA m tNil σ H fun vs _ => vs = [] := fun H1 e _ q => q [] H1 (Rl.refl e.i) rfl
theorem eg_cons {tr : TA} {P1 : V → Hp → Prop} {P2 : List V → Hp → Prop} (h : EvP m ta σ H fun _ v H2 => P1 v H2) (s1 : St1 m P1) (hr : EA m tr σ H P2) : EA m (tCons ta tr) σ H fun vs H2 => ∃ v ws, vs = v :: ws ∧ P1 v H2 ∧ P2 ws H2 := fun H1 e _ q =>
  h H1 e _ fun v H2 e2 p => hr H2 (e.trans e2) _ fun vs H3 e3 p' => q (v :: vs) H3 (e2.trans e3) ⟨v, vs, rfl, s1 _ _ _ e3 p, p'⟩
theorem eg_one {P1 : V → Hp → Prop} (h : EvP m ta σ H fun _ v H2 => P1 v H2) : EA m (tCons ta tNil) σ H fun vs H2 => ∃ v, vs = [v] ∧ P1 v H2 := fun H1 e _ q =>
  h H1 e _ fun v H2 e2 p => q [v] H2 e2 ⟨v, rfl, p⟩
theorem len_ok {n : Nat} (h : n ≤ 100000) : n ≤ sizeLine := Nat.le_trans h (by decide)
theorem len_lt {n : Nat} (h : n < 100000) : n < sizeLine := Nat.lt_of_lt_of_le h (by decide)
/-- a tuple, a list displayed -/
theorem ed_tup {ta : TA} (h : EA m ta σ H fun vs H2 => RpAll K H2 vs ds) (hl : ds.length ≤ 100000) : ED K m (tTup ta) σ H (.tuple ds) := fun H1 e _ q =>
  h H1 e _ fun vs H2 e2 p => ⟨by rw [p.length]; exact len_ok hl, fun a ha => q _ _ (e2.trans (Rl.new e2.i ha)) (rp_tup upd_same (p.tk' (Tk.new ha)))⟩
theorem el_lst {ta : TA} (h : EA m ta σ H fun vs H2 => RpAll K H2 vs ds) (hl : ds.length ≤ 100000) : EL K m (tLst ta) σ H ds := fun H1 e _ q =>
  h H1 e _ fun vs H2 e2 p => ⟨by rw [p.length]; exact len_ok hl, fun a ha => q _ _ (e2.trans (Rl.new e2.i ha)) ⟨a, vs, rfl, e2.back ha, upd_same, p.tk' (Tk.new ha)⟩⟩
/-- slices of tuples -/
theorem eo_none : EO m tNoPart σ H none := fun H1 e _ q => q H1 (Rl.refl e.i)
theorem eo_some {i : Int} (h : ED K m te σ H (.int i)) : EO m (tPart te) σ H (some i) := fun H1 e _ q => h H1 e _ fun v H2 e2 p => ⟨i, p.int_inv, q H2 e2⟩
theorem cut_from (xs : List V) (i : Nat) : cutV xs (some (i : Int)) none = xs.drop i := by
  unfold cutV
  rw [HT.sIx_nat, HT.sIx_none]
  rcases Nat.le_total i xs.length with h | h
  · rw [Nat.min_eq_left h]
    exact List.take_of_length_le (by rw [List.length_drop]; exact Nat.le_refl _)
  · rw [Nat.min_eq_right h, List.drop_eq_nil_of_le (Nat.le_refl _), List.drop_eq_nil_of_le h, List.take_nil]
theorem ed_slT {i : Nat} {tl : TO} {th : TO} (h : ED K m te σ H (.tuple ds)) (h1 : EO m tl σ H (some (i : Int))) (h2 : EO m th σ H none) : ED K m (tSl (rSlA K) te tl th) σ H (.tuple (ds.drop i)) := fun H1 e _ q =>
  h H1 e _ fun v H2 e2 p => h1 H2 (e.trans e2) _ fun H3 e3 => h2 H3 ((e.trans e2).trans e3) _ fun H4 e4 => by
    have p4 := (p.rl e3).rl e4
    obtain ⟨a, xs, rfl, hs, ha⟩ := p4.tup_inv
    refine ⟨a, xs, rfl, hs, fun hz => ?_, fun _ b hb => ?_⟩
    · have e0 : ds.drop i = ds := by
        have z := hz.1
        rw [HT.sIx_nat] at z
        by_cases hi : i = 0
        · rw [hi, List.drop_zero]
        · have hx : xs.length = 0 := by omega
          rw [ha.length] at hx
          rw [List.length_eq_zero_iff.mp hx, List.drop_nil]
      refine q _ _ ((e2.trans e3).trans e4) ?_
      show Rp K H4 (V.ref a) (PyData.tuple (ds.drop i))
      rw [e0]
      exact p4
    · rw [cut_from]
      exact q _ _ (((e2.trans e3).trans e4).trans (Rl.new e4.i hb)) (rp_tup upd_same ((ha.drop i).tk' (Tk.new hb)))
/-- tuples joined -/
theorem ed_cat {ds es : List PyData} (ha : ED K m ta σ H (.tuple ds)) (hb : ED K m tb σ H (.tuple es)) (hl : ds.length + es.length ≤ 100000) : ED K m (tOp (rCatA K) ta tb) σ H (.tuple (ds ++ es)) :=
  ed_op ha hb fun x y H1 e p1 p2 Q q => by
    obtain ⟨a, xs, rfl, h1, h2⟩ := p1.tup_inv
    obtain ⟨b, ys, rfl, g1, g2⟩ := p2.tup_inv
    refine ⟨a, b, xs, ys, rfl, rfl, h1, g1, by rw [h2.length, g2.length]; exact len_ok hl, fun z => ?_, fun _ z => ?_, fun _ _ c hc => ?_⟩
    · subst z
      cases h2
      exact q _ _ (Rl.refl e.i) p2
    · subst z
      cases g2
      refine q _ _ (Rl.refl e.i) ?_
      rw [List.append_nil]
      exact p1
    · exact q _ _ (Rl.new e.i hc) (rp_tup upd_same ((h2.append g2).tk' (Tk.new hc)))
/-- in, not in: ints in a tuple of ints -/
theorem inV_ints (i : Int) : ∀ ns : List Int, inV (.int i) (ns.map V.int) = decide (i ∈ ns)
  | [] => rfl
  | n :: ns => by
    have ih := inV_ints i ns
    unfold inV at ih ⊢
    rw [List.map_cons, List.any_cons, ih]
    have e : eqV (V.int n) (V.int i) = decide (i = n) := by
      show (n == i) = _
      rw [Bool.eq_iff_iff, beq_iff_eq, decide_eq_true_eq]
      exact ⟨fun z => z.symm, fun z => z.symm⟩
    rw [e]
    by_cases h : i = n
    · subst h
      simp
    · rw [decide_eq_false h, Bool.false_or]
      exact decide_eq_decide.mpr ⟨fun z => List.mem_cons_of_mem _ z, fun z => (List.mem_cons.mp z).elim (fun w => absurd w h) fun w => w⟩
theorem flat_ints : ∀ ns : List Int, (ns.map V.int).all flatV = true
  | [] => rfl
  | n :: ns => by
    rw [List.map_cons, List.all_cons, flat_ints ns]
    rfl
theorem ed_inT {i : Int} {ns : List Int} (ha : ED K m ta σ H (.int i)) (hb : ED K m tb σ H (.tuple (ns.map .int))) : ED K m (tOp (rIn K false) ta tb) σ H (.bool (decide (i ∈ ns))) :=
  ed_op ha hb fun x y H1 e p1 p2 Q q => by
    obtain ⟨b, ys, rfl, g1, g2⟩ := p2.tup_inv
    have g3 := g2.ints_inv
    subst g3
    rw [p1.int_inv]
    refine ⟨b, _, rfl, .inr g1, rfl, flat_ints ns, ?_⟩
    rw [if_neg (by decide), inV_ints]
    exact q _ H1 (Rl.refl e.i) (.bl _)
theorem ed_niT {i : Int} {ns : List Int} (ha : ED K m ta σ H (.int i)) (hb : ED K m tb σ H (.tuple (ns.map .int))) : ED K m (tOp (rIn K true) ta tb) σ H (.bool (!decide (i ∈ ns))) :=
  ed_op ha hb fun x y H1 e p1 p2 Q q => by
    obtain ⟨b, ys, rfl, g1, g2⟩ := p2.tup_inv
    have g3 := g2.ints_inv
    subst g3
    rw [p1.int_inv]
    refine ⟨b, _, rfl, .inr g1, rfl, flat_ints ns, ?_⟩
    rw [if_pos rfl, inV_ints]
    exact q _ H1 (Rl.refl e.i) (.bl _)
/-- None? -/
def isN : PyData → Bool
  | .none => true
  | _ => false
theorem isN_v (p : Rp K H v d) : decide (v = V.non) = isN d := by
  cases p <;> rfl
theorem ed_isN (h : ED K m te σ H d) : ED K m (tIsN te) σ H (.bool (isN d)) := fun H1 e Q q => h H1 e _ fun v H2 e2 p => by
  show Q (.bl (decide (v = V.non))) H2
  rw [isN_v p]
  exact q _ H2 e2 (.bl _)
theorem ed_notN (h : ED K m te σ H d) : ED K m (tNotN te) σ H (.bool (!isN d)) := fun H1 e Q q => h H1 e _ fun v H2 e2 p => by
  show Q (.bl (!decide (v = V.non))) H2
  rw [isN_v p]
  exact q _ H2 e2 (.bl _)
end
end PT

set_option Elab.async false
set_option linter.all false
set_option maxRecDepth 100000
set_option maxHeartbeats 4000000
namespace PT
open PySem PySem.Spec PyProof.Rows L2

/-! ### statements -/
section
variable {K : PySem.W.Frag} {m : Md} {σ : L2.St} {H H' : Hp} {ta tb te tx : TE} {t u : TT} {x y z v : V} {d : PyData} {ds es : List PyData} {P : Hp → V → Hp → Prop} {D : Ends} {tu tw tz : TS} {g : TG}
theorem s_seq (h : tu { D with nx := tz D } σ H) : tSeq tu tz D σ H := h
theorem s_asg {i : Nat} (hI : m.I H) (h : EvP m te σ H P) (k : ∀ v H1, Rl m H H1 → P H v H1 → D.nx (σ.set i (some v)) H1) : tAsg te (gName i) D σ H := h H (Rl.refl hI) _ k
theorem s_ret (hI : m.I H) (h : EvP m te σ H P) (k : ∀ v H1, Rl m H H1 → P H v H1 → D.rt v H1) : tRet te D σ H := h H (Rl.refl hI) _ k
theorem s_if {b : Bool} (hI : m.I H) (h : ET m t σ H b) (h1 : b = true → ∀ H1, Rl m H H1 → tu D σ H1) (h2 : b = false → ∀ H1, Rl m H H1 → tw D σ H1) : tIfS t tu tw D σ H := h H (Rl.refl hI) _ fun H1 e => by
  cases b with
  | true =>
    show tu D σ H1
    exact h1 rfl H1 e
  | false =>
    show tw D σ H1
    exact h2 rfl H1 e
theorem s_drop (hI : m.I H) (h : EvP m te σ H P) (k : ∀ v H1, Rl m H H1 → P H v H1 → D.nx σ H1) : tDrop te D σ H := h H (Rl.refl hI) _ k
/-- the behind -/
theorem q_asg {i : Nat} (hI : m.I H) (h : EvP m te σ H P) (k : ∀ v H1, Rl m H H1 → P H v H1 → tz D (σ.set i (some v)) H1) : tSeq (tAsg te (gName i)) tz D σ H := h H (Rl.refl hI) _ k
theorem q_if {b : Bool} (hI : m.I H) (h : ET m t σ H b) (h1 : b = true → ∀ H1, Rl m H H1 → tu { D with nx := tz D } σ H1) (h2 : b = false → ∀ H1, Rl m H H1 → tw { D with nx := tz D } σ H1) : tSeq (tIfS t tu tw) tz D σ H := s_if (D := { D with nx := tz D }) hI h h1 h2
theorem q_drop (hI : m.I H) (h : EvP m te σ H P) (k : ∀ v H1, Rl m H H1 → P H v H1 → tz D σ H1) : tSeq (tDrop te) tz D σ H := h H (Rl.refl hI) _ k
/-- a, b = .. (two names, three) -/
theorem g_two {i j : Nat} {d1 d2 : PyData} {Q : L2.St → Hp → Prop} (h : Rp K H v (.tuple [d1, d2])) (k : ∀ v1 v2, Rp K H v1 d1 → Rp K H v2 d2 → Q ((σ.set i (some v1)).set j (some v2)) H) : gTup K 2 (gCons (gName i) (gCons (gName j) gNil)) v σ H Q := by
  obtain ⟨a, xs, rfl, h1, h2⟩ := h.tup_inv
  cases h2 with
  | cons p1 h2 =>
    cases h2 with
    | cons p2 h2 =>
      cases h2
      exact ⟨a, _, rfl, h1, rfl, _, _, rfl, _, _, rfl, rfl, k _ _ p1 p2⟩
theorem s_par {i j : Nat} {ta : TA} {P : List V → Hp → Prop} (hI : m.I H) (h : EA m ta σ H P) (k : ∀ vs H1, Rl m H H1 → P vs H1 → ∃ v w, vs = [v, w] ∧ D.nx ((σ.set i (some v)).set j (some w)) H1) : tPar i j ta D σ H := h H (Rl.refl hI) _ k
theorem q_par {i j : Nat} {ta : TA} {P : List V → Hp → Prop} (hI : m.I H) (h : EA m ta σ H P) (k : ∀ vs H1, Rl m H H1 → P vs H1 → ∃ v w, vs = [v, w] ∧ tz D ((σ.set i (some v)).set j (some w)) H1) : tSeq (tPar i j ta) tz D σ H := h H (Rl.refl hI) _ k
/-- xs.append(e) -/
theorem s_app {l : Addr} {xs : List V} (hI : m.I H) (hn : ¬ m.M l) (hl : H l = some (.lst xs)) (ha : Ev m ta σ H (.ref l)) (h : EvP m te σ H P) (hz : xs.length < 100000) (k : ∀ v H1, Rl m H H1 → P H v H1 → H1 l = some (.lst xs) → D.nx σ (upd H1 l (.lst (xs ++ [v])))) (hP : ∀ A B C v, Rl m A B → P B v C → P A v C) :
    tDrop (tBM K "list" rAppend ta (tCons te tNil)) D σ H := ha H (Rl.refl hI) _ fun v1 H1 e1 e0 => by
  subst e0
  exact ⟨Or.inl ⟨rfl, xs, .inl (.inl (e1.at hn hl))⟩, h H1 e1 _ fun v H2 e2 p => ⟨l, xs, v, rfl, rfl, e2.at hn (e1.at hn hl), len_lt hz, k v H2 (e1.trans e2) (hP _ _ _ _ e1 p) (e2.at hn (e1.at hn hl))⟩⟩
/-- xs[i] = e -/
theorem s_setL {l : Addr} {xs : List V} {j : Nat} (hI : m.I H) (hn : ¬ m.M l) (hl : H l = some (.lst xs)) (h : EvP m te σ H P) (ho : Ev m ta σ H (.ref l)) (hi : ED K m tb σ H (.int (j : Int))) (hj : j < xs.length) (k : ∀ v H1 H2, Rl m H H1 → P H v H1 → Rl m H1 H2 → H2 l = some (.lst xs) → D.nx σ (upd H2 l (.lst (xs.set j v)))) :
    tAsg te (gSub ta tb rSetL) D σ H := h H (Rl.refl hI) _ fun v H1 e1 p => ho H1 e1 _ fun v2 H2 e2 e0 => by
  subst e0
  exact hi H2 (e1.trans e2) _ fun v3 H3 e3 p3 => by
    refine ⟨l, xs, (j : Int), j, rfl, p3.int_inv, ((e1.trans e2).trans e3).at hn hl, ?_, k v H1 H3 e1 p (e2.trans e3) (((e1.trans e2).trans e3).at hn hl)⟩
    unfold ixN
    rw [if_pos (by omega), if_pos (by omega)]
    simp

/-! ### what is walked, in a for -/
/-- over range(n): the turn's number is .int i -/
theorem s_forR1 {ta : TA} {j : Nat} {n : Int} (hI : m.I H) (h : EA m ta σ H fun vs H2 => RpAll K H2 vs [.int n]) (hn : 0 ≤ n ∧ n ≤ 100000) (Pv : Nat → L2.St → Hp → Prop) (h0 : ∀ H1, Rl m H H1 → Pv 0 σ H1)
    (hs : ∀ (i : Nat) σ' H', (i : Int) < n → Pv i σ' H' → tu { D with nx := Pv (i + 1), ct := Pv (i + 1), bk := D.nx } (σ'.set j (some (.int (i : Int)))) H') (hd : ∀ σ' H', Pv n.toNat σ' H' → D.nx σ' H') : tFor (iRng1 ta) (gName j) tu D σ H :=
  h H (Rl.refl hI) _ fun vs H1 e p => by
    have hv := RpAll.ints_inv (ns := [n]) p
    subst hv
    exact ⟨n, rfl, by omega, by omega, for_range (lo := 0) (n := n.toNat) Pv (h0 H1 e) (fun i σ' H' hi p => by
      have e0 : (0 : Int) + (i : Int) = (i : Int) := Int.zero_add _
      show tu { D with nx := Pv (i + 1), ct := Pv (i + 1), bk := D.nx } (σ'.set j (some (.int ((0 : Int) + (i : Int))))) H'
      rw [e0]
      exact hs i σ' H' (by omega) p) hd⟩
theorem q_forR1 {ta : TA} {j : Nat} {n : Int} (hI : m.I H) (h : EA m ta σ H fun vs H2 => RpAll K H2 vs [.int n]) (hn : 0 ≤ n ∧ n ≤ 100000) (Pv : Nat → L2.St → Hp → Prop) (h0 : ∀ H1, Rl m H H1 → Pv 0 σ H1)
    (hs : ∀ (i : Nat) σ' H', (i : Int) < n → Pv i σ' H' → tu { D with nx := Pv (i + 1), ct := Pv (i + 1), bk := tz D } (σ'.set j (some (.int (i : Int)))) H') (hd : ∀ σ' H', Pv n.toNat σ' H' → tz D σ' H') : tSeq (tFor (iRng1 ta) (gName j) tu) tz D σ H :=
  s_forR1 (D := { D with nx := tz D }) hI h hn Pv h0 hs hd
/-- over a tuple of data -/
theorem s_forT {tl : TE} (hI : m.I H) (h : ED K m tl σ H (.tuple ds)) (k : ∀ H1, Rl m H H1 → ∃ Pv : Nat → L2.St → Hp → Prop, Pv 0 σ H1 ∧ (∀ i σ' H', i ≤ ds.length → Pv i σ' H' → Tk K H1 H') ∧
    (∀ i x d σ' H', ds[i]? = some d → Rp K H' x d → Pv i σ' H' → g x σ' H' fun σ2 H2 => tu { D with nx := Pv (i + 1), ct := Pv (i + 1), bk := D.nx } σ2 H2) ∧ ∀ σ' H', Pv ds.length σ' H' → D.nx σ' H') : tFor (iTup K tl) g tu D σ H :=
  h H (Rl.refl hI) _ fun v H1 e p => by
    obtain ⟨Pv, h0, hl, hs, hd⟩ := k H1 e
    obtain ⟨a, xs, rfl, h1, h2⟩ := p.tup_inv
    have hlen := h2.length
    refine ⟨a, rfl, ⟨xs, h1⟩, for_tup Pv h0 (fun i σ' H' hi q => hl i σ' H' (by omega) q a xs h1) (fun i x σ' H' hx q => ?_) fun σ' H' q => hd σ' H' (by rw [← hlen]; exact q)⟩
    obtain ⟨d, e1, e2⟩ := h2.get' hx
    have hi : i < ds.length := (List.getElem?_eq_some_iff.mp e1).1
    exact hs i x d σ' H' e1 (e2.tk' (hl i σ' H' (by omega) q)) q
theorem q_forT {tl : TE} (hI : m.I H) (h : ED K m tl σ H (.tuple ds)) (k : ∀ H1, Rl m H H1 → ∃ Pv : Nat → L2.St → Hp → Prop, Pv 0 σ H1 ∧ (∀ i σ' H', i ≤ ds.length → Pv i σ' H' → Tk K H1 H') ∧
    (∀ i x d σ' H', ds[i]? = some d → Rp K H' x d → Pv i σ' H' → g x σ' H' fun σ2 H2 => tu { D with nx := Pv (i + 1), ct := Pv (i + 1), bk := tz D } σ2 H2) ∧ ∀ σ' H', Pv ds.length σ' H' → tz D σ' H') : tSeq (tFor (iTup K tl) g tu) tz D σ H :=
  s_forT (D := { D with nx := tz D }) hI h k
/-- over a list of data that the loop leaves as it is -/
theorem s_forQ {tl : TE} (hI : m.I H) (h : EQ K m tl σ H ds) (k : ∀ H1 p xs, Rl m H H1 → ¬ m.M p → H1 p = some (.lst xs) → RpAll K H1 xs ds → ∃ Pv : Nat → L2.St → Hp → Prop, Pv 0 σ H1 ∧ (∀ i σ' H', i ≤ ds.length → Pv i σ' H' → Tk K H1 H' ∧ H' p = some (.lst xs)) ∧
    (∀ i x d σ' H', ds[i]? = some d → Rp K H' x d → Pv i σ' H' → g x σ' H' fun σ2 H2 => tu { D with nx := Pv (i + 1), ct := Pv (i + 1), bk := D.nx } σ2 H2) ∧ ∀ σ' H', Pv ds.length σ' H' → D.nx σ' H') : tFor (iList K tl) g tu D σ H :=
  h H (Rl.refl hI) _ fun v H1 e p => by
    obtain ⟨a, xs, rfl, h0, h1, h2⟩ := p
    obtain ⟨Pv, h0, hl, hs, hd⟩ := k H1 a xs e h0 h1 h2
    have hlen := h2.length
    refine ⟨a, rfl, ⟨xs, .inl (.inl h1)⟩, for_list Pv h0 (fun i σ' H' hi q => .inl (.inl (hl i σ' H' (by omega) q).2)) (fun i x σ' H' hx q => ?_) fun σ' H' q => hd σ' H' (by rw [← hlen]; exact q)⟩
    obtain ⟨d, e1, e2⟩ := h2.get' hx
    have hi : i < ds.length := (List.getElem?_eq_some_iff.mp e1).1
    exact hs i x d σ' H' e1 (e2.tk' (hl i σ' H' (by omega) q).1) q
theorem q_forQ {tl : TE} (hI : m.I H) (h : EQ K m tl σ H ds) (k : ∀ H1 p xs, Rl m H H1 → ¬ m.M p → H1 p = some (.lst xs) → RpAll K H1 xs ds → ∃ Pv : Nat → L2.St → Hp → Prop, Pv 0 σ H1 ∧ (∀ i σ' H', i ≤ ds.length → Pv i σ' H' → Tk K H1 H' ∧ H' p = some (.lst xs)) ∧
    (∀ i x d σ' H', ds[i]? = some d → Rp K H' x d → Pv i σ' H' → g x σ' H' fun σ2 H2 => tu { D with nx := Pv (i + 1), ct := Pv (i + 1), bk := tz D } σ2 H2) ∧ ∀ σ' H', Pv ds.length σ' H' → tz D σ' H') : tSeq (tFor (iList K tl) g tu) tz D σ H :=
  s_forQ (D := { D with nx := tz D }) hI h k
/-- while, by a word that falls -/
theorem s_while (W : Nat → L2.St → Hp → Prop) (m0 : Nat) (h0 : W m0 σ H)
    (hs : ∀ n σ' H', W n σ' H' → m.I H' ∧ ∃ b, ET m t σ' H' b ∧ (b = true → ∀ H1, Rl m H' H1 → ∃ N : L2.St → Hp → Prop, (∀ σ2 H2, N σ2 H2 → ∃ n', n' < n ∧ W n' σ2 H2) ∧ tu { D with nx := N, ct := N, bk := D.nx } σ' H1) ∧ (b = false → ∀ H1, Rl m H' H1 → D.nx σ' H1)) : tWhile t tu D σ H :=
  ⟨W, ⟨m0, h0⟩, fun n σ' H' hw => by
    obtain ⟨hI, b, hb, h1, h2⟩ := hs n σ' H' hw
    refine hb H' (Rl.refl hI) _ fun H1 e => ?_
    cases b with
    | true => exact h1 rfl H1 e
    | false => exact h2 rfl H1 e⟩

/-! ### comprehensions -/
/-- a source: n turns, It tells of the turn's item; it goes on while the mode's relation holds -/
def EW (m : Md) (wi : TI) (σ : L2.St) (H : Hp) (n : Nat) (Yt : Nat → V → Hp → Prop) : Prop :=
  ∀ H1, Rl m H H1 → ∀ R : L2.It → Hp → Prop, (∀ (J : L2.It) H2, Rl m H1 H2 → (∀ i H', i < n → Rl m H2 H' → J.go i H') → (∀ H', Rl m H2 H' → J.stop n H') → (∀ i H' x H'', i < n → Rl m H2 H' → J.yld i H' x H'' → Rl m H' H'' ∧ Yt i x H'') → R J H2) → wi σ H1 R
theorem ew_rng1 {ta : TA} {n : Int} (h : EA m ta σ H fun vs H2 => RpAll K H2 vs [.int n]) (hn : 0 ≤ n ∧ n ≤ 100000) : EW m (iRng1 ta) σ H n.toNat fun i v _ => v = .int (i : Int) := fun H1 e R k =>
  h H1 e _ fun vs H2 e2 p => by
    have hv := RpAll.ints_inv (ns := [n]) p
    subst hv
    refine ⟨n, rfl, by omega, by omega, k _ H2 e2 (fun i _ hi _ => hi) (fun _ _ => Nat.le_refl _) fun i H' x H'' _ r y => ?_⟩
    obtain ⟨rfl, rfl⟩ := y
    exact ⟨Rl.refl r.i, by rw [Int.zero_add]⟩
theorem ew_rng2 {ta : TA} {lo n : Int} (h : EA m ta σ H fun vs H2 => RpAll K H2 vs [.int lo, .int n]) (hn : 0 ≤ lo ∧ lo ≤ 100000 ∧ -100000 ≤ n ∧ n ≤ 100000) : EW m (iRng2 ta) σ H (n - lo).toNat fun i v _ => v = .int (lo + (i : Int)) := fun H1 e R k =>
  h H1 e _ fun vs H2 e2 p => by
    have hv := RpAll.ints_inv (ns := [lo, n]) p
    subst hv
    refine ⟨lo, n, rfl, ⟨by omega, by omega, by omega, by omega⟩, k _ H2 e2 (fun i _ hi _ => hi) (fun _ _ => Nat.le_refl _) fun i H' x H'' _ r y => ?_⟩
    obtain ⟨rfl, rfl⟩ := y
    exact ⟨Rl.refl r.i, rfl⟩
theorem ew_tup {tl : TE} (h : ED K m tl σ H (.tuple ds)) : EW m (iTup K tl) σ H ds.length fun i v H' => ∃ d, ds[i]? = some d ∧ Rp K H' v d := fun H1 e R k =>
  h H1 e _ fun v H2 e2 p => by
    obtain ⟨a, xs, rfl, h1, h2⟩ := p.tup_inv
    have hlen := h2.length
    refine ⟨a, rfl, ⟨xs, h1⟩, k _ H2 e2 (fun i H' hi r => ?_) (fun H' r => ⟨xs, r.tk a xs h1, by omega⟩) fun i H' x H'' hi r y => ?_⟩
    · have hx : i < xs.length := by omega
      exact ⟨xs, xs[i], r.tk a xs h1, List.getElem?_eq_getElem hx⟩
    · obtain ⟨rfl, y⟩ := y
      obtain ⟨d, e1, e3⟩ := h2.get' (y xs (r.tk a xs h1))
      exact ⟨Rl.refl r.i, d, e1, e3.rl r⟩
theorem ew_list {tl : TE} (h : EQ K m tl σ H ds) : EW m (iList K tl) σ H ds.length fun i v H' => ∃ d, ds[i]? = some d ∧ Rp K H' v d := fun H1 e R k =>
  h H1 e _ fun v H2 e2 p => by
    obtain ⟨a, xs, rfl, hm, h1, h2⟩ := p
    have hlen := h2.length
    refine ⟨a, rfl, ⟨xs, .inl (.inl h1)⟩, k _ H2 e2 (fun i H' hi r => ?_) (fun H' r => ⟨xs, .inl (.inl (r.at hm h1)), by omega⟩) fun i H' x H'' hi r y => ?_⟩
    · have hx : i < xs.length := by omega
      exact ⟨xs, xs[i], .inl (.inl (r.at hm h1)), List.getElem?_eq_getElem hx⟩
    · obtain ⟨rfl, y⟩ := y
      obtain ⟨d, e1, e3⟩ := h2.get' (y xs (.inl (.inl (r.at hm h1))))
      exact ⟨Rl.refl r.i, d, e1, e3.rl r⟩
/-- which turns give -/
def kept (n : Nat) (f : Nat → Bool) : List Nat := (List.range n).filter f
theorem kept_yes {n : Nat} {f : Nat → Bool} (h : f n = true) : kept (n + 1) f = kept n f ++ [n] := by
  unfold kept
  rw [List.range_succ, List.filter_append, List.filter_cons, if_pos h, List.filter_nil]
theorem kept_no {n : Nat} {f : Nat → Bool} (h : f n = false) : kept (n + 1) f = kept n f := by
  unfold kept
  rw [List.range_succ, List.filter_append, List.filter_cons, if_neg (by rw [h]; decide), List.filter_nil, List.append_nil]
theorem kept_len (n : Nat) (f : Nat → Bool) : (kept n f).length ≤ n := by
  have h := List.length_filter_le f (List.range n)
  rw [List.length_range] at h
  exact h
theorem kept_all (n : Nat) : kept n (fun _ => true) = List.range n := by
  unfold kept
  exact List.filter_eq_self.mpr fun _ _ => rfl
/-- item by item -/
inductive Each (Ok : Nat → V → Hp → Prop) (H : Hp) : List V → List Nat → Prop
  | nil : Each Ok H [] []
  | cons {v : V} {vs : List V} {i : Nat} {is : List Nat} : Ok i v H → Each Ok H vs is → Each Ok H (v :: vs) (i :: is)
theorem Each.snoc {Ok : Nat → V → Hp → Prop} {v : V} {i : Nat} (h : Ok i v H) : ∀ {vs : List V} {is : List Nat}, Each Ok H vs is → Each Ok H (vs ++ [v]) (is ++ [i])
  | _, _, .nil => .cons h .nil
  | _, _, .cons a b => .cons a (Each.snoc h b)
theorem Each.mono {Ok Ok' : Nat → V → Hp → Prop} (f : ∀ i v, Ok i v H → Ok' i v H') : ∀ {vs : List V} {is : List Nat}, Each Ok H vs is → Each Ok' H' vs is
  | _, _, .nil => .nil
  | _, _, .cons a b => .cons (f _ _ a) (Each.mono f b)
theorem Each.length {Ok : Nat → V → Hp → Prop} : ∀ {vs : List V} {is : List Nat}, Each Ok H vs is → vs.length = is.length
  | _, _, .nil => rfl
  | _, _, .cons a b => by rw [List.length_cons, List.length_cons, Each.length b]
theorem Each.rp {dv : Nat → PyData} : ∀ {vs : List V} {is : List Nat}, Each (fun i v H => Rp K H v (dv i)) H vs is → RpAll K H vs (is.map dv)
  | _, _, .nil => .nil
  | _, _, .cons a b => .cons a (Each.rp b)
theorem Each.at {Ok : Nat → V → Hp → Prop} : ∀ {vs : List V} {is : List Nat}, Each Ok H vs is → ∀ {j : Nat} {v : V}, vs[j]? = some v → ∃ i, is[j]? = some i ∧ Ok i v H
  | _, _, .nil, j, v, h => by simp at h
  | _, _, .cons a b, j, v, h => by
    cases j with
    | zero =>
      have e := Option.some.inj h
      subst e
      exact ⟨_, rfl, a⟩
    | succ j =>
      obtain ⟨i, e1, e2⟩ := Each.at b (j := j) (by simpa using h)
      exact ⟨i, by simpa using e1, e2⟩
theorem wipe1 (σ : L2.St) (j : Nat) (x : V) : (wipe σ [j]).set j (some x) = σ.set j (some x) := by
  show (σ.set j none).set j (some x) = _
  rw [List.set_set]
theorem wipe2 (σ : L2.St) (j : Nat) (x : V) : wipe (σ.set j (some x)) [j] = wipe σ [j] := by
  show (σ.set j (some x)).set j none = σ.set j none
  rw [List.set_set]
/-- a comprehension over one source, its target a name: OkD p tells of an item while the new list p grows -/
theorem ep_lc {wi : TI} {tt : TT} {j n : Nat} {Yt : Nat → V → Hp → Prop} {OkD : Addr → Nat → V → Hp → Prop} (f : Nat → Bool) (hw : EW m wi σ H n Yt) (hz : n ≤ 50000) (st : ∀ p i, St1 m (OkD p i))
    (su : ∀ p i v A xs o, A p = some (.lst xs) → OkD p i v A → OkD p i v (upd A p o))
    (ht : ∀ i x H1, i < n → Rl m H H1 → Yt i x H1 → ET m tt (σ.set j (some x)) H1 (f i)) (he : ∀ i x H1, i < n → Rl m H H1 → Yt i x H1 → f i = true → EvP m te (σ.set j (some x)) H1 fun A v B => ∀ p xs, A p = some (.lst xs) → OkD p i v B) :
    EvP m (tLc wi (gName j) tt te [j]) σ H fun H1 v H2 => ∃ p xs, v = .ref p ∧ H1 p = none ∧ H2 p = some (.lst xs) ∧ Each (OkD p) H2 xs (kept n f) := fun H0 e0 Q q =>
  hw H0 e0 _ fun J H1 e1 hgo hstop hyld Dl hD => by
    refine ⟨fun i k H' => k = n - i ∧ i ≤ n ∧ Rl m H1 H' ∧ ∃ xs, H' Dl = some (.lst xs) ∧ Each (OkD Dl) H' xs (kept i f), ⟨n, by simp, Nat.zero_le _, Rl.new e1.i hD, [], upd_same, .nil⟩, ?_⟩
    rintro i k H' ⟨rfl, hi, r, xs, hx, hE⟩
    by_cases hlt : i < n
    · refine .inr ⟨hgo i H' hlt r, fun H2 => Rl m H1 H2 ∧ ∃ xs, H2 Dl = some (.lst xs) ∧ Each (OkD Dl) H2 xs (kept (i + 1) f), fun H2 h2 => ⟨n - (i + 1), by omega, rfl, hlt, h2⟩, fun x H2 y => ?_⟩
      obtain ⟨r2, hit⟩ := hyld i H' x H2 hlt r y
      have ew : (wipe σ [j]).set j (some x) = σ.set j (some x) := wipe1 σ j x
      show (gName j x (wipe σ [j]) H2 _)
      unfold gName
      rw [ew]
      refine ⟨wipe2 σ j x, ?_⟩
      have rr := ((e0.trans e1).trans r).trans r2
      have nD : ¬ m.M Dl := Md.notM e1.i hD
      refine ht i x H2 hlt rr hit H2 (Rl.refl r2.i) _ fun H3 e3 => ?_
      cases hf : f i with
      | true =>
        refine he i x H2 hlt rr hit hf H3 e3 _ fun v H4 e4 p => ?_
        have r4 := (r2.trans e3).trans e4
        refine ⟨xs, r4.at nD hx, len_lt (by rw [hE.length]; have := kept_len i f; omega), Rl.mut (r.trans r4) hD, xs ++ [v], upd_same, ?_⟩
        rw [kept_yes hf]
        exact Each.snoc (su _ _ _ _ _ _ (r4.at nD hx) (p Dl xs ((r2.trans e3).at nD hx))) (hE.mono fun i v o => su _ _ _ _ _ _ (r4.at nD hx) (st _ i _ _ _ r4 o))
      | false =>
        refine ⟨(r.trans r2).trans e3, xs, (r2.trans e3).at nD hx, ?_⟩
        rw [kept_no hf]
        exact hE.mono fun i v o => st _ i _ _ _ (r2.trans e3) o
    · have e : i = n := by omega
      subst e
      exact .inl ⟨hstop H' r, q _ H' (e1.trans r) ⟨Dl, xs, rfl, e1.back hD, hx, hE⟩⟩
/-- .. of data -/
theorem el_lc {wi : TI} {tt : TT} {j n : Nat} {Yt : Nat → V → Hp → Prop} (f : Nat → Bool) (dv : Nat → PyData) (hw : EW m wi σ H n Yt) (hz : n ≤ 50000)
    (ht : ∀ i x H1, i < n → Rl m H H1 → Yt i x H1 → ET m tt (σ.set j (some x)) H1 (f i)) (he : ∀ i x H1, i < n → Rl m H H1 → Yt i x H1 → f i = true → ED K m te (σ.set j (some x)) H1 (dv i)) :
    EL K m (tLc wi (gName j) tt te [j]) σ H ((kept n f).map dv) :=
  EvP.imp (ep_lc (OkD := fun _ i v H => Rp K H v (dv i)) f hw hz (fun _ _ => st_rp) (fun p i v A xs o ha h => h.tk' (Tk.updL ha)) ht fun i x H1 hi r y hf => EvP.imp (he i x H1 hi r y hf) fun A v B _ p _ _ _ => p) fun A v B _ p => by
    obtain ⟨p, xs, h1, h2, h3, h4⟩ := p
    exact ⟨p, xs, h1, h2, h3, h4.rp⟩
theorem kept_filter {α : Type} (l : List α) (d0 : α) (p : α → Bool) : (kept l.length fun i => p (l.getD i d0)).map (fun i => l.getD i d0) = l.filter p := by
  have e : (List.range l.length).map (fun i => l.getD i d0) = l := by
    apply List.ext_getElem
    · simp
    · intro i h1 h2
      simp at h1
      simp [h1]
  unfold kept
  conv => rhs; rw [← e]
  rw [List.filter_map]
  rfl
/-- [g x for x in a tuple (a list) of data if p x], by the items' data: cd turns a datum of α into data -/
theorem el_lcD {α : Type} {wi : TI} {tt : TT} {j : Nat} {l : List α} (cd : α → PyData) (p : α → Bool) (gd : α → PyData) (hw : EW m wi σ H (l.map cd).length fun i v H' => ∃ d, (l.map cd)[i]? = some d ∧ Rp K H' v d) (hz : l.length ≤ 50000)
    (ht : ∀ a x H1, a ∈ l → Rl m H H1 → Rp K H1 x (cd a) → ET m tt (σ.set j (some x)) H1 (p a)) (he : ∀ a x H1, a ∈ l → Rl m H H1 → Rp K H1 x (cd a) → p a = true → ED K m te (σ.set j (some x)) H1 (gd a)) :
    EL K m (tLc wi (gName j) tt te [j]) σ H ((l.filter p).map gd) := by
  cases l with
  | nil =>
    have h := el_lc (K := K) (tt := tt) (te := te) (j := j) (fun _ => true) (fun _ => .none) hw (Nat.zero_le _) (fun i x H1 hi => absurd hi (Nat.not_lt_zero _)) (fun i x H1 hi => absurd hi (Nat.not_lt_zero _))
    exact h
  | cons a0 l0 =>
    have key : ∀ i x H1, i < ((a0 :: l0).map cd).length → (∃ d, ((a0 :: l0).map cd)[i]? = some d ∧ Rp K H1 x d) → (a0 :: l0).getD i a0 ∈ a0 :: l0 ∧ Rp K H1 x (cd ((a0 :: l0).getD i a0)) := fun i x H1 hi ⟨d, e1, e2⟩ => by
      have hi' : i < (a0 :: l0).length := by simpa using hi
      rw [List.getElem?_map, List.getElem?_eq_getElem hi'] at e1
      have e3 : (a0 :: l0).getD i a0 = (a0 :: l0)[i] := by
        rw [List.getD_eq_getElem?_getD, List.getElem?_eq_getElem hi']
        rfl
      rw [e3]
      have e4 : cd (a0 :: l0)[i] = d := Option.some.inj e1
      rw [e4]
      exact ⟨List.getElem_mem hi', e2⟩
    have h := el_lc (K := K) (tt := tt) (te := te) (j := j) (fun i => p ((a0 :: l0).getD i a0)) (fun i => gd ((a0 :: l0).getD i a0)) hw (by rw [List.length_map]; exact hz)
      (fun i x H1 hi r y => ht _ x H1 (key i x H1 hi y).1 r (key i x H1 hi y).2) (fun i x H1 hi r y hf => he _ x H1 (key i x H1 hi y).1 r (key i x H1 hi y).2 hf)
    have e : (kept ((a0 :: l0).map cd).length fun i => p ((a0 :: l0).getD i a0)).map (fun i => gd ((a0 :: l0).getD i a0)) = ((a0 :: l0).filter p).map gd := by
      rw [List.length_map, ← kept_filter (a0 :: l0) a0 p, List.map_map]
      rfl
    rw [← e]
    exact h
/-- .. over range(n) -/
theorem el_lcR {ta : TA} {tt : TT} {j n : Nat} (f : Nat → Bool) (dv : Nat → PyData) (h : EA m ta σ H fun vs H2 => RpAll K H2 vs [.int (n : Int)]) (hz : n ≤ 50000)
    (ht : ∀ (i : Nat) H1, i < n → Rl m H H1 → ET m tt (σ.set j (some (.int (i : Int)))) H1 (f i)) (he : ∀ (i : Nat) H1, i < n → Rl m H H1 → f i = true → ED K m te (σ.set j (some (.int (i : Int)))) H1 (dv i)) :
    EL K m (tLc (iRng1 ta) (gName j) tt te [j]) σ H (((List.range n).filter f).map dv) := by
  have hw := ew_rng1 h (by omega)
  exact el_lc f dv hw (by omega) (fun i x H1 hi r y => by
    rw [y]
    exact ht i H1 (by omega) r) (fun i x H1 hi r y hf => by
    rw [y]
    exact he i H1 (by omega) r hf)
end
end PT

set_option Elab.async false
set_option linter.all false
set_option maxRecDepth 100000
set_option maxHeartbeats 4000000
namespace PT
open PySem PySem.Spec PyProof.Rows L2
open AutoSeq1 (wpAny_loadPart')

/-! ### enumerate(tuple) -/
theorem meets_enumerate_newT (l : Addr) (items : Array Value) (n : Nat) (dct : Option Addr) (sl : Array (Option Value)) :
    Meets (Builtin.«enumerate.__new__» ⟨[.type "enumerate", .ref l], []⟩) (fun _ R s => s.heap.get? l = some { cls := .type "tuple", dict := dct, data := .seq items n, slots := sl } ∧
      R (.ok (.ret (.ref (s.heap.push { cls := .type "tuple_iterator", data := .fields #[.ref l, .int 0 0] }).objs.size)))
        { s with heap := (s.heap.push { cls := .type "tuple_iterator", data := .fields #[.ref l, .int 0 0] }).push { cls := .type "enumerate", data := .fields #[.none, .bool false, .ref s.heap.objs.size, rawInt 0, .none, .none] } }) :=
  .of_wp fun prog w A R s h => by
    obtain ⟨hp, g, d, tk, os⟩ := s; obtain ⟨hl, h⟩ := h
    have hsub := sub_enumerate
    have hL : Heap.IsTuple (Shared.heap ⟨hp, g, d, tk, os⟩) l items := ⟨_, hl, rfl, n, rfl⟩
    wp_walk using wpAny_loadPart' hl
    refine wpAny_stack_any fun st => wpAny_pure ?_
    split
    · rename_i c _ _ _ _ _
      cases (c == Value.type "enumerate")
      · wp_walk using wpAny_loadPart' hl, wpAny_pyIter_tuple hL
        exact ⟨_, rfl, h⟩
      · wp_walk using wpAny_loadPart' hl, wpAny_pyIter_tuple hL
        exact ⟨_, rfl, h⟩
    · wp_walk using wpAny_loadPart' hl, wpAny_pyIter_tuple hL
      exact ⟨_, rfl, h⟩
section
variable {prog : Program} {w : World} {A : Around} {E : Value → Shared → Prop} {s : Shared}
theorem call_enumerate_tuple {l : Addr} {items : Array Value} {Q : Value → Shared → Prop} (hL : s.heap.IsTuple l items)
    (h : ∀ h', IsEnum h' (s.heap.objs.size + 1) s.heap.objs.size 0 .none → h'.IsTupleIter s.heap.objs.size l 0 → h'.objs.size = s.heap.objs.size + 2 →
      (∀ b o, s.heap.get? b = some o → h'.get? b = some o) → Q (.ref (s.heap.objs.size + 1)) { s with heap := h' }) :
    wpAny (model prog w) A (call (.type "enumerate") [.ref l]) Q E s := by
  obtain ⟨⟨c, dct, dt, sl⟩, hl, hc, n, hd⟩ := hL
  replace hc : c = .type "tuple" := hc
  replace hd : dt = .seq items n := hd
  subst hc hd
  refine callType_new F.called_enumerate (by decide) (F.typeCall_enumerate_1 _) (F.newCall_enumerate_1 _) (fun obj => F.args_object_init_2 obj _) F.entry_enumerate_new
    (meets_enumerate_newT l items n dct sl) ⟨hl, ?_⟩
  have hz : (s.heap.push { cls := .type "tuple_iterator", data := .fields #[.ref l, .int 0 0] }).objs.size = s.heap.objs.size + 1 := Heap.size_push ..
  show _ ∧ _
  rw [hz]
  have he : IsEnum ((s.heap.push { cls := .type "tuple_iterator", data := .fields #[.ref l, .int 0 0] }).push
      { cls := .type "enumerate", data := .fields #[.none, .bool false, .ref s.heap.objs.size, rawInt 0, .none, .none] }) (s.heap.objs.size + 1) s.heap.objs.size 0 .none := by
    have := Heap.get?_push_size (s.heap.push { cls := .type "tuple_iterator", data := .fields #[.ref l, .int 0 0] })
      (o := { cls := .type "enumerate", data := .fields #[.none, .bool false, .ref s.heap.objs.size, rawInt 0, .none, .none] }) rfl
    rw [hz] at this; exact this
  refine ⟨⟨_, he, rfl⟩, h _ he ⟨_, Heap.get?_push_of_some _ (Heap.get?_push_size _ rfl), rfl, rfl⟩ (by rw [Heap.size_push, hz]) fun b o x => Heap.get?_push_of_some _ (Heap.get?_push_of_some _ x)⟩
theorem enum_endT {e it l : Addr} {i : Nat} {items : Array Value} {old : Value} {Q : Option Value → Shared → Prop} (hh : A.handled = none)
    (he : IsEnum s.heap e it i old) (hit : s.heap.IsTupleIter it l i) (hl : s.heap.IsTuple l items) (hx : items[i]? = none)
    (hQ : ∀ h', Heap.ExtBut it s.heap h' → Q none { s with heap := h' }) : wpAny (model prog w) A (pyNext (.ref e)) Q E s := by
  have hT : s.TypeIs (.ref e) "enumerate" := ⟨_, he, rfl⟩
  unfold pyNext
  refine wpAny_bind (wpAny_attempt (wpAny_callSpecial?_slot (name := Str.ofString "__next__") hT F.slot_enumerate_next
    (wpAny_call_entry F.slot_enumerate_next hT F.entry_enumerate_next ?_ (F.args_enumerate_next_1 _))))
  show wpAny _ _ (field (.ref e) 2 >>= _) _ _ _
  refine wpAny_bind (wpAny_field he rfl (x := .ref it) rfl ?_)
  refine wpAny_bind (wpAny_nextOf_tuple_end hh hit hl hx fun h' x he' hx' => ?_)
  obtain ⟨o, ho, hc⟩ := hx'
  refine wpAny_bind (wpAny_isInstance (T := "StopIteration") (b := true) ⟨o, ho, hc⟩ isSubtype_stop ?_)
  exact wpAny_pure (hQ _ he')
end
/-- the tuple at a, each item in a new pair -/
def IteT (K : PySem.W.Frag) (a : Addr) : L2.It :=
  ⟨fun i H => ∃ (xs : List V) (x : V), SqT K H a xs ∧ xs[i]? = some x, fun i H v H' => ∃ T x, v = .ref T ∧ H T = none ∧ H' = upd H T (.tup [.int (i : Nat), x]) ∧ ∀ xs, SqT K H a xs → xs[i]? = some x, fun i H => ∃ xs : List V, SqT K H a xs ∧ xs.length ≤ i⟩
theorem turn_enumT {P : Program} {w : World} {K : PySem.W.Frag} {elts : List Expr} {kk : Nat} {tpos : Pos} (a e it : Addr) :
    Turn P w K (.Tuple elts kk tpos) (IteT K a) [e, it] e (fun i h => (∃ old, IsEnum h e it ((i : Nat) : Int) old) ∧ h.IsTupleIter it a i ∧ e ≠ it) where
  mem := by simp
  obj := fun i h st b hb => by
    obtain ⟨⟨old, he⟩, ⟨o, ho, hc, hd⟩, _⟩ := st
    have e' : b = e ∨ b = it := by simpa using hb
    rcases e' with z | z
    · rw [z]; exact ⟨_, he, fun v q => nomatch q⟩
    · rw [z]; exact ⟨o, ho, fun v q => by rw [hd] at q; cases q⟩
  keep := fun i h h' st k => let ⟨⟨old, he⟩, hi, hne⟩ := st; ⟨⟨old, k e (by simp) _ he⟩, hi.at fun o q => k it (by simp) o q, hne⟩
  item := by
    intro X hP hw hK hc i pins s σ H E I hf st hg
    subst hP hw hK
    obtain ⟨⟨old, he⟩, hit, hne⟩ := st
    obtain ⟨xs, x, hq, hx⟩ := hg
    obtain ⟨its, rv, p, hz⟩ := I.tuple hq
    obtain ⟨u, hu, ru⟩ := rv.get hx
    have hel : e < s.heap.objs.size := Heap.lt_size he
    have hil : it < s.heap.objs.size := by obtain ⟨_, q, _⟩ := hit; exact Heap.lt_size q
    have pt : s.heap.IsTuple a its.toArray := p
    have hae : a ≠ it := by
      rintro rfl
      obtain ⟨o1, q1, c1, _⟩ := hit
      obtain ⟨o2, q2, c2, _⟩ := pt
      rw [q1] at q2
      cases q2
      rw [c1] at c2
      exact absurd c2 (by decide)
    have hee : e ≠ a := by
      rintro rfl
      obtain ⟨o2, q2, c2, _⟩ := pt
      have q3 := he
      unfold IsEnum at q3
      rw [q3] at q2
      cases q2
      exact absurd (show Value.type "enumerate" = Value.type "tuple" from c2) (by decide)
    have hlt : i < its.toArray.size := by
      have h1 := (List.getElem?_eq_some_iff.mp hu).1
      simpa using h1
    refine wpAny_pyNext_enum_itemD (Draws.tuple (A := X.A.in1) (show X.A.in1.handled = none from I.ok.hd hc) it a hae its.toArray) he ⟨hit, pt⟩ hlt hne (by simp [hne, hee]) fun u' h' tk hPx ho hit' hT hsz hk => ?_
    have hu' : u' = u := by
      have h1 : its.toArray[i]? = some u := by simpa using hu
      rw [hPx] at h1
      exact Option.some.inj h1
    subst hu'
    refine ⟨_, rfl, wpAny_letOwnedTupleGo_enum (s := { s with heap := h', toks := tk + 1 }) ho fun h'' he' sb => ?_⟩
    have hT2 : h''.get? s.heap.objs.size = some { cls := .type "tuple", data := .seq #[.int i tk, u'] } := (sb.2 _ (Nat.ne_of_gt hel)).trans hT
    have new : ObjOk X.prog X.w (upd H s.heap.objs.size (.tup [.int (i : Nat), x])) h'' s.heap.objs.size (.tup [.int (i : Nat), x]) :=
      ⟨by show 2 ≤ sizeLine; decide, [.int i tk, u'], .cons ⟨_, rfl⟩ (.cons ru .nil), ⟨_, hT2, rfl, _, rfl⟩⟩
    have I1 : Inv X pins σ (upd H s.heap.objs.size (.tup [.int (i : Nat), x])) { s with heap := h'', toks := tk + 1 } :=
      I.turnedNew (ch := [e, it]) (fun b ob hb q => (sb.2 b (fun z => hb (by simp [z]))).trans (hk b ob (fun z => hb (by simp [z])) (fun z => hb (by simp [z])) q)) hf (Nat.le_refl _) new
    refine ⟨.ref s.heap.objs.size, _, I1, rfl, ⟨_, x, rfl, I.hok.fresh (Nat.le_refl _), rfl, fun ys hy => by rw [I.tuple_inj hy hq]; exact hx⟩, ⟨⟨u', ?_⟩, hit'.1.at fun o q => (sb.2 it (Ne.symm hne)).trans q, hne⟩, fun b hb => ?_⟩
    · have e1 : ((i + 1 : Nat) : Int) = (i : Int) + 1 := by omega
      rw [e1]; exact he'
    · have hb' : b < s.heap.objs.size := by
        have e' : b = e ∨ b = it := by simpa using hb
        rcases e' with z | z
        · rw [z]; exact hel
        · rw [z]; exact hil
      rw [upd_ne (Nat.ne_of_lt hb')]
      exact (hf b hb).1
  done := by
    intro X hP hw hK hc i pins s σ H E I hf st hg
    subst hP hw hK
    obtain ⟨⟨old, he⟩, hit, hne⟩ := st
    obtain ⟨xs, hq, hx⟩ := hg
    obtain ⟨its, rv, p, hz⟩ := I.tuple hq
    obtain ⟨f0, f1, f2, f3, f4, f5⟩ := hf it (by simp)
    have hl := rv.length
    exact enum_endT (I.ok.hd hc) he hit (show s.heap.IsTuple a its.toArray from p) (by simp; omega) fun h' eb => ⟨rfl, I.turned (t' := s.toks) (fun b o hb q => eb b o hb q) f0 f1 f3 f4 f5⟩
  self := fun A i s Q E st h => let ⟨⟨_, he⟩, _⟩ := st; wpAny_pyIter_enum he h
def iEnumT (K : PySem.W.Frag) (ta : TA) : TI := fun σ H R => ta σ H fun vs H1 => ∃ a xs, vs = [.ref a] ∧ SqT K H1 a xs ∧ R (IteT K a) H1
theorem pi_enumT {X : Cx} {e : Expr} {ta : TA} {p pos tpos : Pos} {elts : List Expr} {kk : Nat} (hg : Gl X "enumerate") (hm : X.mg "enumerate" = none) (ha : PA X [e] ta) (hs : starEach [e] X.env = [(false, eval e X.env)] := by rfl) :
    PI X (.Tuple elts kk tpos) (.Call (.Name "enumerate" p) [e] [] pos) (iEnumT X.K ta) := by
  refine ⟨fun pins s σ H R I h => ?_⟩
  refine Call_ (ld_blt I hg hm boot_enumerate (PyProof.Rows.callWith_type1 (thn (ha.run pos pins s σ H _ I h) fun us s1 ⟨vs, H1, I1, r1, q1⟩ => ?_) hs rfl))
  obtain ⟨a, xs, ex, hq, q⟩ := q1
  subst ex
  cases r1 with
  | cons r rr =>
    cases rr
    cases r
    obtain ⟨its, rv, p', hz⟩ := I1.tuple hq
    refine call_enumerate_tuple (show s1.heap.IsTuple a its.toArray from p') fun h' he hit hsz hk => wpAny_pyIter_enum he ?_
    have I2 : Inv X pins σ H1 { s1 with heap := h' } := I1.kept (t' := s1.toks) hk
    refine ⟨s1.heap.objs.size + 1, [s1.heap.objs.size + 1, s1.heap.objs.size], _, _, H1, rfl, I2, turn_enumT a (s1.heap.objs.size + 1) s1.heap.objs.size, ⟨⟨.none, he⟩, hit, Nat.succ_ne_self _⟩, fun b hb => ?_, q⟩
    have e' : b = s1.heap.objs.size + 1 ∨ b = s1.heap.objs.size := by simpa using hb
    have hle : s1.heap.objs.size ≤ b := by
      rcases e' with z | z
      · rw [z]; exact Nat.le_add_right _ _
      · rw [z]; exact Nat.le_refl _
    exact I1.fpOk hle (I1.hok.fresh hle)
section
/-! the for over it: the turn's item is data (i, d) -/
variable {K : PySem.W.Frag} {m : Md} {σ : L2.St} {H : Hp} {tl : TE} {ds : List PyData} {D : Ends} {tu tz : TS} {g : TG}
theorem s_forE {ta : TA} (hI : m.I H) (h : EA m ta σ H fun vs H2 => RpAll K H2 vs [.tuple ds]) (k : ∀ H1, Rl m H H1 → ∃ Pv : Nat → L2.St → Hp → Prop, Pv 0 σ H1 ∧ (∀ i σ' H', i ≤ ds.length → Pv i σ' H' → Tk K H1 H' ) ∧
    (∀ (i : Nat) x d σ' H' H'', ds[i]? = some d → Ex H' H'' → Rp K H'' x (.tuple [.int (i : Int), d]) → Pv i σ' H' → g x σ' H'' fun σ2 H2 => tu { D with nx := Pv (i + 1), ct := Pv (i + 1), bk := D.nx } σ2 H2) ∧ ∀ σ' H', Pv ds.length σ' H' → D.nx σ' H') : tFor (iEnumT K ta) g tu D σ H :=
  h H (Rl.refl hI) _ fun vs H1 e p => by
    cases p with
    | cons p1 pn =>
      cases pn
      obtain ⟨a, xs, rfl, h1, h2⟩ := p1.tup_inv
      obtain ⟨Pv, h0, hl, hs, hd⟩ := k H1 e
      have hlen := h2.length
      refine ⟨a, xs, rfl, h1, fun i n σ' H' => n = xs.length - i ∧ i ≤ xs.length ∧ Pv i σ' H', ⟨xs.length, by simp, Nat.zero_le _, h0⟩, ?_⟩
      rintro i n σ' H' ⟨rfl, hi, p⟩
      have tk := hl i σ' H' (by omega) p
      by_cases hlt : i < xs.length
      · refine .inr ⟨⟨xs, xs[i], tk a xs h1, List.getElem?_eq_getElem hlt⟩, Pv (i + 1), fun σ'' H'' p' => ⟨xs.length - (i + 1), by omega, rfl, hlt, p'⟩, fun v H'' y => ?_⟩
        obtain ⟨T, x, rfl, hT, rfl, hx⟩ := y
        obtain ⟨d, e1, e2⟩ := h2.get' (hx xs (tk a xs h1))
        exact hs i _ d σ' H' _ e1 (Ex.new hT) (rp_tup upd_same (.two (.int _) (e2.tk' (tk.trans (Tk.new hT))))) p
      · have e : i = xs.length := by omega
        subst e
        exact .inl ⟨⟨xs, tk a xs h1, Nat.le_refl _⟩, hd σ' H' (by rw [← hlen]; exact p)⟩
theorem q_forE {ta : TA} (hI : m.I H) (h : EA m ta σ H fun vs H2 => RpAll K H2 vs [.tuple ds]) (k : ∀ H1, Rl m H H1 → ∃ Pv : Nat → L2.St → Hp → Prop, Pv 0 σ H1 ∧ (∀ i σ' H', i ≤ ds.length → Pv i σ' H' → Tk K H1 H' ) ∧
    (∀ (i : Nat) x d σ' H' H'', ds[i]? = some d → Ex H' H'' → Rp K H'' x (.tuple [.int (i : Int), d]) → Pv i σ' H' → g x σ' H'' fun σ2 H2 => tu { D with nx := Pv (i + 1), ct := Pv (i + 1), bk := tz D } σ2 H2) ∧ ∀ σ' H', Pv ds.length σ' H' → tz D σ' H') : tSeq (tFor (iEnumT K ta) g tu) tz D σ H :=
  s_forE (D := { D with nx := tz D }) hI h k
end
end PT

set_option Elab.async false
set_option linter.all false
set_option maxRecDepth 100000
set_option maxHeartbeats 4000000

namespace PT
open PySem PySem.Spec PyProof.Rows PySem.W
/-! ### sorted(tuple), at the library's level -/
section
variable {prog : Program} {w : World} {A : Around} {E : Value → Shared → Prop} {s : Shared}
theorem collect_tupleP {l : Addr} {vs : List Value} {Q : List Value → Shared → Prop} (hl : s.heap.IsTuple l vs.toArray)
    (h : Q vs { s with heap := (s.heap.push (seqObj "list" #[] 0)).update s.heap.objs.size (Obj.mapSeq (· ++ vs.toArray)) }) (hsz : vs.length ≤ sizeLine) :
    wpAny (model prog w) A (collect (.ref l)) Q E s := by
  obtain ⟨o, ho, hc, n, hd⟩ := id hl
  unfold collect
  refine wpAny_bind (wpAny_runValue (codeAny_builtin entry_proto_collect' ?_))
  show wpAny _ _ (do again (.builtin "list.__iadd__" ⟨[← newList [], .ref l], []⟩)) _ _ s
  refine wpAny_bind (wpAny_newList (wpAny_pure ⟨Code.quiet_builtin _ (by decide +kernel), codeAny_builtin entry_list_iadd' ?_⟩))
  show wpAny _ _ (Builtin.List.listExtendWith (.ref s.heap.objs.size) (.ref l) (.ref s.heap.objs.size)) _ _ { s with heap := s.heap.push (seqObj "list" #[] 0) }
  unfold Builtin.List.listExtendWith
  have ho' : (s.heap.push (seqObj "list" #[] 0)).get? l = some o := Heap.get?_push_of_some _ ho
  refine wpAny_bind (wpAny_typeOf (T := "tuple") ⟨o, ho', hc⟩ ?_)
  have ht : (Value.type "tuple" == Value.type "tuple") = true := by rfl
  rw [if_pos (by rw [ht]; simp)]
  refine wpAny_bind (listItems_at ho' hd ?_)
  refine wpAny_bind (listItems_at (xs := #[]) (n := 0) (Heap.get?_push_size _ rfl) rfl ?_)
  rw [if_neg (by simp)]
  refine wpAny_bind (listUpdate_at (xs := #[]) (n := 0) (Heap.get?_push_size _ rfl) rfl ?_ (Nat.zero_le _) (by show (#[] ++ vs.toArray).size ≤ sizeLine + 1; simp only [Array.size_append, List.size_toArray, List.length_nil]; omega))
  refine wpAny_pure ?_
  show wpAny (model prog w) A (do
      let o ← load s.heap.objs.size
      match o.data with
      | .seq xs _ => pure xs.toList
      | _ => unsupported "internal:collect") Q E { s with heap := (s.heap.push (seqObj "list" #[] 0)).update s.heap.objs.size (Obj.mapSeq (· ++ vs.toArray)) }
  refine wpAny_bind (wpAny_load (get?_update_seq (Heap.get?_push_size _ rfl) _) ?_)
  show wpAny _ _ (pure ((#[] : Array Value) ++ vs.toArray).toList) Q E _
  rw [show ((#[] : Array Value) ++ vs.toArray).toList = vs by simp]
  exact wpAny_pure h
theorem sorted_of_sortT {l : Addr} {vs : List Value} {kw : List (Str × Value)} {Q : Value → Shared → Prop} (hl : s.heap.IsTuple l vs.toArray) (hL : vs.length ≤ sizeLine) (ha1 : argsOk "sorted" ⟨[.ref l], kw⟩) (ha2 : ∀ x, argsOk "list.sort" ⟨[.ref x], kw⟩)
    (body : ∀ E' : Value → Shared → Prop, wpAny (model prog w) A.in1.in1 (Builtin.«list.sort» ⟨[.ref (s.heap.objs.size + 1)], kw⟩) (fun f s' => f = .done (.ret .none) ∧ Q (.ref (s.heap.objs.size + 1)) s') E' { s with heap := copyHeap s.heap vs }) :
    wpAny (model prog w) A (call (.builtin "sorted") [.ref l] kw) Q E s := by
  refine call_function_entry_kw kind_sorted plain_sorted entry_sorted ha1 ?_
  unfold Builtin.«sorted»
  refine wpAny_bind (m := checkCount "sorted" 1 1 _) (wpAny_pure ?_)
  refine wpAny_bind (collect_tupleP hl ?_ hL)
  refine wpAny_bind (wpAny_newList ?_ hL)
  have hsz : ((s.heap.push (seqObj "list" #[] 0)).update s.heap.objs.size (Obj.mapSeq (· ++ vs.toArray))).objs.size = s.heap.objs.size + 1 := by
    rw [Heap.size_update, size_push']
  show wpAny _ _ _ _ _ { s with heap := copyHeap s.heap vs }
  rw [hsz]
  refine wpAny_bind (wpAny_holding (wpAny_call_entry_kw slot_list_sort ⟨_, copyHeap_at s.heap vs, rfl⟩ entry_list_sort ?body (ha2 _)))
  case body =>
    show wpAny (model prog w) A.in1.in1 (Builtin.«list.sort» ⟨[.ref (s.heap.objs.size + 1)], kw⟩) _ _ _
    refine wpAny_mono (body _) (fun f s' hf => ?_) fun _ _ e => e
    obtain ⟨rfl, hq⟩ := hf
    exact ⟨_, rfl, wpAny_pure ⟨_, rfl, hq⟩⟩
variable {β : Type} {vs : List Value} {bs : List β} {enc : β → PyData} {R : Value → β → Prop}
theorem sortedT_data {l : Addr} {Q : Value → Shared → Prop} (hl : s.heap.IsTuple l vs.toArray) (e : EachIs R vs bs) (er : EachIs (fun v b => ∃ as, Reads s.heap v (enc b) as) vs bs) (hal : AllAlike (bs.map enc)) (hk : Sortable (bs.map enc)) (hL : bs.length ≤ sizeLine)
    (hu : ∀ b, b ∈ bs → A.units + 2 + (enc b).depth < cLine) (h : ∀ out, out.length = bs.length → EachIs R out (bs.mergeSort (dataLe false enc)) → Q (.ref (s.heap.objs.size + 1)) { s with heap := sortedAll s.heap vs (List.toArray out) }) :
    wpAny (model prog w) A (call (.builtin "sorted") [.ref l]) Q E s := by
  have er' : EachIs (fun v b => ∃ as, Reads (sortingHeap (copyHeap s.heap vs) (s.heap.objs.size + 1) vs) v (enc b) as) vs bs := er.mono fun _ _ ⟨as, r⟩ => ⟨as, PyProof.Rows.Reads.keeps (fun _ _ => sorting_copy_old) r⟩
  have S := SortsAt.data (prog := prog) (w := w) (A := A.in1.in1) (s := { s with heap := sortingHeap (copyHeap s.heap vs) (s.heap.objs.size + 1) vs }) (each_map (R := fun v d => ∃ as, Reads (sortingHeap (copyHeap s.heap vs) (s.heap.objs.size + 1) vs) v d as) enc er') hal hk (bound_map hu)
  have hq := h _ (by rw [sortVals_length false rfl]; exact e.length) (sortVals_data false e er' hal)
  exact sorted_of_sortT hl (by rw [e.length]; exact hL) (args_sorted1 _) (fun _ => args_list_sort _) fun _ => list_sort_vals (s := { s with heap := copyHeap s.heap vs }) (copyHeap_at s.heap vs) S (by rw [e.length]; exact hL) ⟨rfl, hq⟩
end
end PT

namespace PT
open PySem PySem.Spec PyProof.Rows L2
section
variable {X : Cx}
/-! ### repr of data: nothing is shown around it -/
def rRepr (K : PySem.W.Frag) : List V → Hp → VK → Prop := fun vs H Q => ∃ (a : Addr) (d : PyData), vs = [.ref a] ∧ Dp K H (.ref a) d ∧ d.showable = true ∧ d.hasDict = false ∧ d.shown.length ≤ sizeLine ∧ d.depth ≤ 30 ∧ Q (.str d.shown) H
theorem call_repr (hg : X.A.guards = some []) (hu : X.A.units + 64 < cLine) : CallR X (.builtin "repr") (rRepr X.K) := by
  intro pins s σ H vs us Q I r h
  obtain ⟨a, d, rfl, hd, h1, h2, h3, h4, q⟩ := h
  obtain rfl := Vals.ref1 r
  obtain ⟨as, hr⟩ := Dp.reads I d (.ref a) (.ref a) hd rfl
  refine repr_of_reads' hr h1 (fun z => by rw [h2] at z; cases z) hg (by omega) (fun b o e => e) (fun h' u tk hk => ?_) h3
  exact ⟨.str d.shown, H, I.kept (t' := tk) hk, ⟨u, rfl⟩, q⟩
/-! ### in, not in a tuple of data -/
def rInDT (K : PySem.W.Frag) : R2 := fun x y H Q => ∃ d ds, Dp K H x d ∧ Dp K H y (.tuple ds) ∧ SeqAt.shaped d = true ∧ SeqAt.shaped (.tuple ds) = true ∧ Q (.bl (ds.any fun z => PyData.eqv z d)) H
def rNotInDT (K : PySem.W.Frag) : R2 := fun x y H Q => ∃ d ds, Dp K H x d ∧ Dp K H y (.tuple ds) ∧ SeqAt.shaped d = true ∧ SeqAt.shaped (.tuple ds) = true ∧ Q (.bl (!ds.any fun z => PyData.eqv z d)) H
theorem op_inDT (hu : X.A.units + 65 < cLine) : OpR X (compareOp .In) (rInDT X.K) := by
  intro pins s σ H x y v u Q I rx ry h
  obtain ⟨d, ds, hd, he, sd, se, q⟩ := h
  obtain ⟨as, r1⟩ := Dp.reads I d x v hd rx
  obtain ⟨bs, r2⟩ := Dp.reads I (.tuple ds) y u he ry
  exact SeqAt.in_tuple_reads r2 r1 (SeqAt.canLay_of_shaped se) (SeqAt.canLay_of_shaped sd) (room_in_shaped sd hu) ⟨.bl _, H, I, rfl, q⟩
theorem op_notInDT (hu : X.A.units + 65 < cLine) : OpR X (compareOp .NotIn) (rNotInDT X.K) := by
  intro pins s σ H x y v u Q I rx ry h
  obtain ⟨d, ds, hd, he, sd, se, q⟩ := h
  obtain ⟨as, r1⟩ := Dp.reads I d x v hd rx
  obtain ⟨bs, r2⟩ := Dp.reads I (.tuple ds) y u he ry
  exact SeqAt.notIn_tuple_reads r2 r1 (SeqAt.canLay_of_shaped se) (SeqAt.canLay_of_shaped sd) (room_in_shaped sd hu) ⟨.bl _, H, I, rfl, q⟩
/-! ### sorted -/
/-- tuples of ints as data -/
def dT (ns : List Int) : PyData := .tuple (ns.map .int)
theorem dT_depth (ns : List Int) : (dT ns).depth = 1 := by
  show PyData.depth (.tuple (ns.map .int)) = 1
  simp only [PyData.depth]
  rw [PySem.W.depth_ints]
theorem dT_alike (a b : List Int) : PySem.W.alike (dT a) (dT b) = true := by
  show PySem.W.alike (.tuple (a.map .int)) (.tuple (b.map .int)) = true
  simp only [PySem.W.alike]
  exact PySem.W.alike_ints a b
/-- an item: what it is in the layer, what it reads as -/
def RIt (X : Cx) (H : Hp) (cd : List Int → PyData) (u : Value) (b : V × List Int) : Prop := RelV b.1 u ∧ Rp X.K H b.1 (cd b.2)
theorem rit_mk {H : Hp} {cd : List Int → PyData} : ∀ {xs : List V} {its : List Value} {nss : List (List Int)}, Vals xs its → RpAll X.K H xs (nss.map cd) → ∃ bs : List (V × List Int), bs.map (·.1) = xs ∧ bs.map (·.2) = nss ∧ PySem.W.EachIs (RIt X H cd) its bs
  | [], _, [], .nil, _ => ⟨[], rfl, rfl, .nil⟩
  | [], _, _ :: _, .nil, h => by cases h
  | x :: xs, _, [], .cons r t, h => by cases h
  | x :: xs, _, ns :: nss, .cons r t, h => by
    cases h with
    | cons h1 h2 =>
      obtain ⟨bs, e1, e2, e3⟩ := rit_mk t h2
      exact ⟨(x, ns) :: bs, by rw [List.map_cons, e1], by rw [List.map_cons, e2], .cons ⟨r, h1⟩ e3⟩
theorem rit_back {H : Hp} {cd : List Int → PyData} : ∀ {its : List Value} {bs : List (V × List Int)}, PySem.W.EachIs (RIt X H cd) its bs → Vals (bs.map (·.1)) its ∧ RpAll X.K H (bs.map (·.1)) ((bs.map (·.2)).map cd)
  | _, _, .nil => ⟨.nil, .nil⟩
  | _, _, .cons a b => by
    obtain ⟨h1, h2⟩ := rit_back b
    exact ⟨.cons a.1 h1, .cons a.2 h2⟩
theorem rit_reads {pins : List (Addr × Obj)} {s : Shared} {σ : L2.St} {H : Hp} {cd : List Int → PyData} (I : Inv X pins σ H s) : ∀ {its : List Value} {bs : List (V × List Int)}, PySem.W.EachIs (RIt X H cd) its bs → PySem.W.EachIs (fun v b => ∃ as, Reads s.heap v (cd b.2) as) its bs
  | _, _, .nil => .nil
  | _, _, .cons a b => .cons (Dp.reads I _ _ _ (Rp.dp _ _ a.2) a.1) (rit_reads I b)
/-- sorted(a list of tuples of ints, none of them empty): some arrangement -/
def rSortTs (K : PySem.W.Frag) : List V → Hp → VK → Prop := fun vs H Q => ∃ (a : Addr) (xs : List V) (nss : List (List Int)), vs = [.ref a] ∧ SqL K H a xs ∧ RpAll K H xs (nss.map dT) ∧ (∀ ns ∈ nss, ns ≠ []) ∧ nss.length ≤ 1000 ∧
  ∀ (ys : List V) (mss : List (List Int)) (p : Addr), mss.Perm nss → RpAll K H ys (mss.map dT) → H p = none → Q (.ref p) (upd H p (.lst ys))
theorem cr_sortTs (hu : X.A.units + 64 < cLine) : CallR X (.builtin "sorted") (rSortTs X.K) := by
  intro pins s σ H vs us Q I r h
  obtain ⟨a, xs, nss, rfl, hs, hx, hne, hlen, q⟩ := h
  obtain rfl := Vals.ref1 r
  obtain ⟨its, rv, hl, hz⟩ := I.list hs
  obtain ⟨bs, e1, e2, e3⟩ := rit_mk rv hx
  have hbl : bs.length = nss.length := by rw [← e2, List.length_map]
  refine PySem.W.sorted_data (enc := fun b : V × List Int => dT b.2) hl.isList e3 (rit_reads I e3) (PySem.W.AllAlike.of fun b b' => dT_alike _ _) (.inl fun d hd => ?_) (by rw [hbl]; exact len_ok (by omega)) (fun b _ => by rw [dT_depth]; omega) fun out ho hE => ?_
  · obtain ⟨b, hb, rfl⟩ := List.mem_map.mp hd
    have hb2 : b.2 ∈ nss := by
      rw [← e2]
      exact List.mem_map.mpr ⟨b, hb, rfl⟩
    cases hb3 : b.2 with
    | nil => exact absurd hb3 (hne _ hb2)
    | cons n ns => exact ⟨.int n, ns.map .int, rfl⟩
  · obtain ⟨h1, h2⟩ := rit_back hE
    obtain ⟨ep, he'⟩ := PyProof.Rows.sortedAll_at s.heap its out.toArray
    have hp : (bs.mergeSort (PySem.W.dataLe false fun b : V × List Int => dT b.2)).Perm bs := List.mergeSort_perm _ _
    have hol : ((bs.mergeSort (PySem.W.dataLe false fun b : V × List Int => dT b.2)).map (·.1)).length ≤ sizeLine := by
      rw [List.length_map, hp.length_eq, hbl]
      exact len_ok (by omega)
    refine ⟨.ref _, upd H (s.heap.objs.size + 1) (.lst ((bs.mergeSort (PySem.W.dataLe false fun b : V × List Int => dT b.2)).map (·.1))), I.laid (t' := s.toks) (fun _ _ => PyProof.Rows.sortedAll_old) (Nat.le_succ _) ⟨hol, out, ep, h1, ?_⟩, rfl,
      q _ _ _ (by rw [← e2]; exact hp.map _) h2 (I.hok.fresh (Nat.le_succ _))⟩
    exact he'
/-- sorted(a tuple of ints) -/
def rSortT (K : PySem.W.Frag) : List V → Hp → VK → Prop := fun vs H Q => ∃ (a : Addr) (ns : List Int), vs = [.ref a] ∧ SqT K H a (ns.map V.int) ∧ ns.length ≤ 1000 ∧
  ∀ (ms : List Int) (p : Addr), ms.Perm ns → ms.Pairwise (· ≤ ·) → H p = none → Q (.ref p) (upd H p (.lst (ms.map V.int)))
theorem cr_sortT (hu : X.A.units + 64 < cLine) : CallR X (.builtin "sorted") (rSortT X.K) := by
  intro pins s σ H vs us Q I r h
  obtain ⟨a, ns, rfl, hs, hlen, q⟩ := h
  obtain rfl := Vals.ref1 r
  obtain ⟨its, rv, hl, hz⟩ := I.tuple hs
  have key : ∀ {ns : List Int} {its : List Value}, Vals (ns.map V.int) its → PySem.W.EachIs (fun u n => RelV (V.int n) u) its ns := by
    intro ns
    induction ns with
    | nil =>
      intro its r
      cases r
      exact .nil
    | cons n ns ih =>
      intro its r
      cases r with
      | cons r1 r2 => exact .cons r1 (ih r2)
  have back : ∀ {ns : List Int} {its : List Value}, PySem.W.EachIs (fun u n => RelV (V.int n) u) its ns → Vals (ns.map V.int) its := by
    intro ns
    induction ns with
    | nil =>
      intro its r
      cases r
      exact .nil
    | cons n ns ih =>
      intro its r
      cases r with
      | cons r1 r2 => exact .cons r1 (ih r2)
  refine sortedT_data (enc := PyData.int) (show s.heap.IsTuple a its.toArray from hl) (key rv) ((key rv).mono fun u n hr => ?_) (PySem.W.AllAlike.of fun b b' => by simp [PySem.W.alike]) (PySem.W.Sortable.others fun b => ⟨(by intro z; cases z), (by intro xs z; cases z)⟩) (len_ok (by omega)) (fun b _ => by simp only [PyData.depth]; omega) fun out ho hE => ?_
  · obtain ⟨t, rfl⟩ := hr
    exact ⟨_, Reads.int n t⟩
  · have h1 := back hE
    obtain ⟨ep, he'⟩ := PyProof.Rows.sortedAll_at s.heap its out.toArray
    have hp : (ns.mergeSort (PySem.W.dataLe false PyData.int)).Perm ns := List.mergeSort_perm _ _
    have e0 : PySem.W.dataLe false PyData.int = fun a b : Int => decide (a ≤ b) := PySem.W.dataLe_int (fun n : Int => n)
    have hs2 : (ns.mergeSort (PySem.W.dataLe false PyData.int)).Pairwise (· ≤ ·) := by
      rw [e0]
      have := List.pairwise_mergeSort (le := fun a b : Int => decide (a ≤ b)) (fun a b c h1 h2 => by simp at h1 h2 ⊢; omega) (fun a b => by simp; omega) ns
      exact this.imp fun h => by simpa using h
    refine ⟨.ref _, upd H (s.heap.objs.size + 1) (.lst ((ns.mergeSort (PySem.W.dataLe false PyData.int)).map V.int)), I.laid (t' := s.toks) (fun _ _ => PyProof.Rows.sortedAll_old) (Nat.le_succ _) ⟨by rw [List.length_map, hp.length_eq]; exact len_ok (by omega), out, ep, h1, he'⟩, rfl,
      q _ _ hp hs2 (I.hok.fresh (Nat.le_succ _))⟩
end
end PT

set_option Elab.async false
set_option linter.all false
set_option maxRecDepth 100000
set_option maxHeartbeats 4000000

namespace PT
open PySem PySem.Spec PyProof.Rows L2
/-! ### the text -/
def topS (i : Nat) : Stmt := PySem.Challenge.pw_piecetrees_k74_whole_pieces_of_tables_to.main.body.getD i (.Pass ⟨0, 0, 0, 0⟩)
abbrev sKey : Stmt := topS 4

/-! ### the key of a lot -/
def kD (ns : List Int) : PyData := .tuple [.int (ns.length : Nat), dT ns]
theorem reads_ints {h : Heap} : ∀ {ns : List Int} {its : List Value}, Vals (ns.map V.int) its → ReadsAll h its (ns.map PyData.int) []
  | [], _, .nil => .nil
  | n :: ns, _, .cons r t => by
    obtain ⟨k, rfl⟩ := r
    exact ReadsAll.cons (Reads.int n k) (reads_ints t)
section
variable {X : Cx}
/-- the key's def, called: nothing else is touched -/
theorem call_key {fk : Addr} {fd : FuncData} (FK : Fun X.K "lot_key" "lot_key" sKey fk fd) (ml : X.mg "len" = none) {pins : List (Addr × Obj)} {s : Shared} {σ : L2.St} {H : Hp} (I : Inv X pins σ H s) (A : Around) (hA : A.depth < recursionLimit)
    {h : Heap} {tk : Nat} (hk : ∀ b o, s.heap.get? b = some o → h.get? b = some o) {v : V} {u : Value} {ns : List Int} (hz : ns.length ≤ 1000) (rv : RelV v u) (hv : Rp X.K H v (dT ns)) {E : Value → Shared → Prop} :
    wpAny (model X.prog X.w) A (call (.ref fk) [u]) (PySem.W.KeyPure (kD ns) { s with heap := h, toks := tk }) E { s with heap := h, toks := tk } := by
  obtain ⟨a, xs, rfl, hs, hx⟩ := hv.tup_inv
  obtain rfl : u = Value.ref a := rv
  have e3 := hx.ints_inv
  subst e3
  obtain ⟨its, r, ⟨o, ho, hc, n, hd⟩, hz2⟩ := I.tuple hs
  obtain ⟨oc, od, kV, doc, pm, an, cdv, ct, osl, rfl, lk, hcd⟩ := FK.ex
  have KX : X.K.In h := I.kIn.keeps hk
  refine wpAny_call (Att.call_fn (binds := [("lot", Value.ref a)]) KX (I.nolimit.keeps hk) lk hcd hA (.of_eq rfl) rfl (fun s1 x => ?_) rfl rfl rfl)
  obtain ⟨h1, tk1, rfl, hk1⟩ := x.done
  have hloc := x.toInCall.ns
  have hm : bindL (envOfC "lot_key" (defScope sKey) h.objs.size fk cdv).kindOf [("lot", Value.ref a)] (fun _ => none) "lot" = some (Value.ref a) :=
    bindL_get (P := ["lot"]) (vs := [Value.ref a]) (i := 0) (by decide) rfl rfl rfl
  have lot_ : ∀ {pos : Pos} {Q : Value → Shared → Prop} {E : Value → Shared → Prop} {tk' : Nat}, Q (.ref a) { s with heap := h1, toks := tk' } → wpAny (model X.prog X.w) (A.deeper (envOfC "lot_key" (defScope sKey) h.objs.size fk cdv)) (eval (.Name "lot" pos) (envOfC "lot_key" (defScope sKey) h.objs.size fk cdv)) Q E { s with heap := h1, toks := tk' } := fun {pos Q E tk'} q =>
    wpAny_Name (wpAny_loadName_local rfl rfl (show ({ s with heap := h1, toks := tk' } : Shared).heap.Ns _ _ from hloc) hm q) (by decide)
  have up : ∀ b o, s.heap.get? b = some o → h1.get? b = some o := fun b o e => hk1 b o (hk b o e)
  obtain ⟨mb, b1, b2⟩ := I.mod.blt
  have up0 : ∀ b o, X.base.get? b = some o → h1.get? b = some o := fun b o e => up b o (I.bk b o e)
  have hb1 : h1.Ns builtinsNs mb := b1.keeps up0
  have hg1 : h1.Ns mainGlobals X.mg := I.mod.glob.keeps up0
  refine wpAny_execs_cons (wpAny_Return_some (wpAny_Tuple_spliced (Calls.spliced_cons ?_)))
  refine Call_ (Calls.Name_function_global rfl rfl (Calls.loadGlobal_builtin (mb := mb) (v := .builtin "len") hg1 ml hb1 ((b2 "len" (by decide)).trans PySem.boot_len) ?_) (by decide))
  refine PyProof.Rows.callWith_builtin1 (PyProof.Rows.args_cons (lot_ (PyProof.Rows.args_nil ?_)) rfl) rfl rfl
  have ht : IsTup h1 a its.toArray := ⟨o, up a o ho, hc, n, hd⟩
  have hil : its.length = ns.length := by rw [← r.length, List.length_map]
  refine len_tuple ht (by rw [List.size_toArray, hil]; omega) ?_
  refine Calls.spliced_cons (lot_ (Calls.spliced_nil ?_))
  refine ⟨by show 2 ≤ sizeLine; decide, ?_⟩
  refine ⟨_, _, rfl, fun b ob e => Heap.get?_push_of_some _ (hk1 b ob e), ?_⟩
  have e1 : (its.toArray.size : Int) = (ns.length : Nat) := by rw [List.size_toArray, hil]
  have kk : ∀ b ob, h1.get? b = some ob → (h1.push { cls := .type "tuple", data := .seq ([Value.int (its.toArray.size : Int) (tk1 + 1), Value.ref a] : List Value).toArray }).get? b = some ob := fun b ob e => Heap.get?_push_of_some _ e
  refine Reads.tuple (Heap.get?_push_size _ rfl) rfl rfl (ReadsAll.cons (as := []) (bs := []) ?_ (ReadsAll.cons (as := []) (bs := []) ?_ .nil))
  · rw [← e1]
    exact Reads.int _ _
  · exact Reads.tuple (kk _ _ (up a o ho)) hc hd (reads_ints r)
end
end PT

set_option Elab.async false
set_option linter.all false
set_option maxRecDepth 100000
set_option maxHeartbeats 4000000

namespace PT
open PySem PySem.Spec PyProof.Rows L2
section
variable {X : Cx}
/-! ### sorted(lots, key=lot_key) -/
def rSortK (K : PySem.W.Frag) (fk : Addr) : List V → List V → Hp → VK → Prop := fun vs zs H Q => ∃ (a : Addr) (xs : List V) (nss : List (List Int)), vs = [.ref a] ∧ zs = [.ref fk] ∧ SqL K H a xs ∧ RpAll K H xs (nss.map dT) ∧ (∀ ns ∈ nss, ns.length ≤ 1000) ∧ nss.length ≤ 1000 ∧
  ∀ (ys : List V) (mss : List (List Int)) (p : Addr), mss.Perm nss → mss.Pairwise (fun a b => PySem.W.dataLe false kD a b = true) → RpAll K H ys (mss.map dT) → H p = none → Q (.ref p) (upd H p (.lst ys))
theorem kD_alike (a b : List Int) : PySem.W.alike (kD a) (kD b) = true := by
  show PySem.W.alike (.tuple [.int _, dT a]) (.tuple [.int _, dT b]) = true
  simp only [PySem.W.alike, PySem.W.alikeAll, dT_alike, Bool.and_self]
theorem kD_depth (a : List Int) : (kD a).depth ≤ 3 := by
  show PyData.depth (.tuple [.int _, dT a]) ≤ 3
  simp only [PyData.depth, PyData.depthAll, dT_depth]
  omega
theorem cr_sortK {fk : Addr} {fd : FuncData} (FK : Fun X.K "lot_key" "lot_key" sKey fk fd) (ml : X.mg "len" = none) (hA : X.A.depth < recursionLimit) (hu : X.A.units + 64 < cLine) :
    CallRK X (.builtin "sorted") [Str.ofString "key"] (rSortK X.K fk) := by
  intro pins s σ H vs zs us ws Q I r rz h
  obtain ⟨a, xs, nss, rfl, rfl, hs, hx, hlen, hl2, q⟩ := h
  obtain rfl := Vals.ref1 r
  obtain ⟨w1, rfl, ew⟩ := vals1 rz
  obtain rfl : w1 = Value.ref fk := ew
  obtain ⟨its, rv, hl, hz⟩ := I.list hs
  obtain ⟨bs, e1, e2, e3⟩ := rit_mk rv hx
  have hbl : bs.length = nss.length := by rw [← e2, List.length_map]
  have hbm : ∀ b ∈ bs, b.2 ∈ nss := fun b hb => by
    rw [← e2]
    exact List.mem_map.mpr ⟨b, hb, rfl⟩
  show wpAny _ _ (call (.builtin "sorted") [.ref a] [(Str.ofString "key", .ref fk)]) _ _ _
  refine PySem.W.sorted_key_data (f := .ref fk) (b := false) (fun b : V × List Int => kD b.2) hl.isList e3 (PySem.W.AllAlike.of fun b b' => kD_alike _ _) (.inl fun d hd => ?_) (by rw [hbl]; exact len_ok (by omega)) (fun b _ => by have := kD_depth b.2; omega)
    (PyProof.Rows.ksk_s1 _ _) (fun _ => PyProof.Rows.ksk_l1 _ _) (fun x => PyProof.Rows.ksk_t1 _ _) (fun v b hR hb h tk hk => call_key FK ml I X.A.in1.in1 hA hk (hlen _ (hbm b hb)) hR.1 hR.2) fun out c h' tk hk hfree hD ho hE => ?_
  · obtain ⟨b, hb, rfl⟩ := List.mem_map.mp hd
    exact ⟨_, _, rfl⟩
  · obtain ⟨h1, h2⟩ := rit_back hE
    have hp : (bs.mergeSort (PySem.W.dataLe false fun b : V × List Int => kD b.2)).Perm bs := List.mergeSort_perm _ _
    have hol : ((bs.mergeSort (PySem.W.dataLe false fun b : V × List Int => kD b.2)).map (·.1)).length ≤ sizeLine := by
      rw [List.length_map, hp.length_eq, hbl]
      exact len_ok (by omega)
    have hpw : (bs.mergeSort (PySem.W.dataLe false fun b : V × List Int => kD b.2)).Pairwise fun a b => PySem.W.dataLe false (fun b : V × List Int => kD b.2) a b = true :=
      PySem.W.sort_pairwise (PySem.W.sortLe_total _ false _) bs
    refine ⟨.ref _, upd H (s.heap.objs.size + 1) (.lst ((bs.mergeSort (PySem.W.dataLe false fun b : V × List Int => kD b.2)).map (·.1))), I.laid (t' := tk) hk (Nat.le_succ _) ⟨hol, out, c, h1, ?_⟩, rfl,
      q _ ((bs.mergeSort (PySem.W.dataLe false fun b : V × List Int => kD b.2)).map (·.2)) _ (by rw [← e2]; exact hp.map _) (by rw [List.pairwise_map]; exact hpw) h2 (I.hok.fresh (Nat.le_succ _))⟩
    exact hD
/-! ### len(set(xs)) > 1: two of the ints differ -/
theorem firstMet_sub (f : Nat → Int) : ∀ n, ∀ z ∈ PyProof.Rows.firstMet f n, ∃ i, i < n ∧ z = f i
  | 0, z, h => by
    rw [PyProof.Rows.firstMet_zero] at h
    cases h
  | n + 1, z, h => by
    rw [PyProof.Rows.firstMet_succ] at h
    unfold PyProof.Rows.step_dedup at h
    split at h
    · obtain ⟨i, h1, h2⟩ := firstMet_sub f n z h
      exact ⟨i, by omega, h2⟩
    · rcases List.mem_append.mp h with h | h
      · obtain ⟨i, h1, h2⟩ := firstMet_sub f n z h
        exact ⟨i, by omega, h2⟩
      · exact ⟨n, by omega, List.mem_singleton.mp h⟩
theorem firstMet_has (f : Nat → Int) : ∀ n i, i < n → f i ∈ PyProof.Rows.firstMet f n
  | 0, i, h => absurd h (Nat.not_lt_zero _)
  | n + 1, i, h => by
    rw [PyProof.Rows.firstMet_succ]
    unfold PyProof.Rows.step_dedup
    by_cases hi : i < n
    · have := firstMet_has f n i hi
      split
      · exact this
      · exact List.mem_append_left _ this
    · have e : i = n := by omega
      subst e
      split
      · rename_i hb
        obtain ⟨y, h1, h2⟩ := List.any_eq_true.mp hb
        rw [← eq_of_beq h2]
        exact h1
      · exact List.mem_append_right _ (List.mem_singleton.mpr rfl)
theorem firstMet_nd (f : Nat → Int) : ∀ n, (PyProof.Rows.firstMet f n).Nodup
  | 0 => by
    rw [PyProof.Rows.firstMet_zero]
    exact List.nodup_nil
  | n + 1 => by
    rw [PyProof.Rows.firstMet_succ]
    unfold PyProof.Rows.step_dedup
    split
    · exact firstMet_nd f n
    · rename_i hb
      refine List.nodup_append.mpr ⟨firstMet_nd f n, (by simp), fun a ha b hb' => ?_⟩
      rw [List.mem_singleton.mp hb']
      rintro rfl
      exact hb (List.any_eq_true.mpr ⟨_, ha, by simp⟩)
theorem firstMet_one (ns : List Int) : ((PyProof.Rows.firstMet (fun i => ns.getD i 0) ns.length).length ≤ 1 ↔ ∀ a ∈ ns, ∀ b ∈ ns, a = b) := by
  have mem : ∀ z, z ∈ PyProof.Rows.firstMet (fun i => ns.getD i 0) ns.length ↔ z ∈ ns := fun z => by
    constructor
    · intro h
      obtain ⟨i, h1, h2⟩ := firstMet_sub _ _ z h
      rw [h2]
      show ns.getD i 0 ∈ ns
      rw [List.getD_eq_getElem?_getD, List.getElem?_eq_getElem h1]
      exact List.getElem_mem h1
    · intro h
      obtain ⟨i, h1, h2⟩ := List.mem_iff_getElem.mp h
      have h3 := firstMet_has (fun i => ns.getD i 0) ns.length i h1
      have e : ns.getD i 0 = z := by
        rw [List.getD_eq_getElem?_getD, List.getElem?_eq_getElem h1]
        exact h2
      have h4 : ns.getD i 0 ∈ PyProof.Rows.firstMet (fun i => ns.getD i 0) ns.length := h3
      rw [e] at h4
      exact h4
  have nd := firstMet_nd (fun i => ns.getD i 0) ns.length
  generalize PyProof.Rows.firstMet (fun i => ns.getD i 0) ns.length = l at mem nd ⊢
  constructor
  · intro h a ha b hb
    have ha' := (mem a).mpr ha
    have hb' := (mem b).mpr hb
    match l, h, ha', hb' with
    | [x], _, ha', hb' => rw [List.mem_singleton.mp ha', List.mem_singleton.mp hb']
    | [], _, ha', _ => cases ha'
  · intro h
    match l, mem, nd with
    | [], _, _ => exact Nat.zero_le _
    | [x], _, _ => exact Nat.le_refl _
    | x :: y :: r, mem, nd =>
      have e := h x ((mem x).mp List.mem_cons_self) y ((mem y).mp (List.mem_cons_of_mem _ List.mem_cons_self))
      subst e
      exact absurd List.mem_cons_self (List.nodup_cons.mp nd).1
def tLenSet (K : PySem.W.Frag) (ta : TE) : TE := fun σ H Q => ta σ H fun x H1 => ∃ (l : Addr) (ns : List Int), x = .ref l ∧ SqL K H1 l (ns.map V.int) ∧ ns.length ≤ 4000 ∧ ∀ n : Nat, (n ≤ 1 ↔ ∀ a ∈ ns, ∀ b ∈ ns, a = b) → Q (.int (n : Nat)) H1
theorem pe_lenSet {a : Expr} {ta : TE} {p p2 q pos : Pos} (hg : Gl X "len") (hm : X.mg "len" = none) (hg2 : Gl X "set") (hm2 : X.mg "set" = none) (ha : PE X a ta) (hc : X.calm = true := by rfl)
    (na : starEach [a] X.env = (false, eval a X.env) :: starEach [] X.env := by rfl) : PE X (.Call (.Name "len" p) [.Call (.Name "set" p2) [a] [] q] [] pos) (tLenSet X.K ta) := by
  refine ⟨fun pins s σ H Q I h => ?_⟩
  refine Call_ (ld_blt I hg hm boot_len ?_)
  refine PyProof.Rows.callWith_builtin1 (PyProof.Rows.args_cons ?_ rfl) rfl rfl
  refine Call_ (ld_blt I hg2 hm2 boot_set ?_)
  refine PyProof.Rows.callWith_type1 (PyProof.Rows.args_cons (thn (ha.run pins s σ H _ I h) fun v s1 ⟨x, H1, I1, r1, q1⟩ => PyProof.Rows.args_nil ?_) na) na rfl
  obtain ⟨l, ns, rfl, hq, hl, q1⟩ := q1
  cases r1
  obtain ⟨its, r, pl, hz⟩ := I1.list hq
  have hlen : its.toArray.size = ns.length := by rw [List.size_toArray, ← r.length, List.length_map]
  refine call_set_list (I1.ok.hd hc) pl.isList (by simpa using RZ.intsAre_vals r) (by rw [hlen]; unfold scanBound; omega) fun h' tk hS hk => ?_
  refine PyProof.Rows.args_nil ?_
  rw [hlen] at hS
  obtain ⟨o, es, ep, t, ho, hex, hd, _, _, _, hf, hn⟩ := hS
  have I2 : Inv X pins σ H1 { s1 with heap := h', toks := tk } := I1.kept fun b o e => hk b o (Heap.lt_size e) e
  have hle := PyProof.Rows.firstMet_length_le (fun i => ns.getD i 0) ns.length
  exact call_len_set ho hex hd hf (by rw [hn] <;> omega) ⟨.int (((PyProof.Rows.firstMet (fun i => ns.getD i 0) ns.length).length : Nat) : Int), H1, I2.tok _, ⟨_, by rw [hn]⟩, q1 _ (firstMet_one ns)⟩
/-! ### min of a list of tuples of ints -/
theorem minOf_eq {α : Type} [DecidableEq α] [PySem.W.DatumOrd α] {a : α} : ∀ (xs : List α) (x : α), a ∈ x :: xs → (∀ b ∈ x :: xs, b = a ∨ (PySem.W.DatumOrd.lt a b = true ∧ PySem.W.DatumOrd.lt b a = false)) → PySem.W.minOf x xs = a
  | [], x, ha, _ => (List.mem_singleton.mp ha).symm
  | y :: ys, x, ha, h => by
    show PySem.W.minOf (if PySem.W.DatumOrd.lt y x = true then y else x) ys = a
    have irr : PySem.W.DatumOrd.lt a a = false := by
      rw [← PySem.W.DatumOrd.lt_eq]
      exact PySem.W.dataLt_self _
    refine minOf_eq ys _ ?_ fun b hb => ?_
    · by_cases hx : x = a
      · subst hx
        have hy : PySem.W.DatumOrd.lt y x = false := by
          rcases h y (by simp) with e | e
          · rw [e]
            exact irr
          · exact e.2
        rw [if_neg (by rw [hy]; decide)]
        exact List.mem_cons_self
      · by_cases hy : y = a
        · subst hy
          rcases h x (by simp) with e | e
          · exact absurd e hx
          · rw [if_pos e.1]
            exact List.mem_cons_self
        · rcases List.mem_cons.mp ha with e | e
          · exact absurd e.symm hx
          · rcases List.mem_cons.mp e with e | e
            · exact absurd e.symm hy
            · exact List.mem_cons_of_mem _ e
    · rcases List.mem_cons.mp hb with e | e
      · rw [e]
        split
        · exact h y (by simp)
        · exact h x (by simp)
      · exact h b (by simp [e])
def rMinT (K : PySem.W.Frag) : List V → Hp → VK → Prop := fun vs H Q => ∃ (a : Addr) (xs : List V) (nss : List (List Int)) (m : List Int), vs = [.ref a] ∧ SqL K H a xs ∧ RpAll K H xs (nss.map dT) ∧ m ∈ nss ∧
  (∀ b ∈ nss, b = m ∨ (PySem.W.listLt m b = true ∧ PySem.W.listLt b m = false)) ∧ ∀ x, Rp K H x (dT m) → Q x H
theorem dT_toD (ns : List Int) : PySem.W.Datum.toD (PySem.W.Tup.mk ns) = dT ns := rfl
theorem cr_minT (hc : X.calm = true) (hu : X.A.units + 64 < cLine) : CallR X (.builtin "min") (rMinT X.K) := by
  intro pins s σ H vs us Q I r h
  obtain ⟨a, xs, nss, m, rfl, hs, hx, hm, hmin, q⟩ := h
  obtain rfl := Vals.ref1 r
  obtain ⟨its, rv, hl, hz⟩ := I.list hs
  obtain ⟨as, hR⟩ := Dp.readsAll I _ _ its (RpAll.dp _ _ hx) rv
  cases nss with
  | nil => cases hm
  | cons n0 nss =>
    have hH : PySem.W.HoldAll s.heap its.toArray.toList ((PySem.W.Tup.mk n0) :: nss.map PySem.W.Tup.mk) := ⟨as, by
      have e : ((PySem.W.Tup.mk n0) :: nss.map PySem.W.Tup.mk).map PySem.W.Datum.toD = (n0 :: nss).map dT := by
        rw [List.map_cons, List.map_cons, List.map_map]
        rfl
      rw [e]
      simpa using hR⟩
    refine PySem.W.min_list_datum (I.ok.hd hc) hl.isList hH (by show X.A.units + 1 + 1 < cLine; omega) fun i v h' tk hv hmn hk => ?_
    have em : PySem.W.minOf (PySem.W.Tup.mk n0) (nss.map PySem.W.Tup.mk) = PySem.W.Tup.mk m := by
      refine minOf_eq _ _ ?_ fun b hb => ?_
      · rcases List.mem_cons.mp hm with e | e
        · rw [e]
          exact List.mem_cons_self
        · exact List.mem_cons_of_mem _ (List.mem_map.mpr ⟨m, e, rfl⟩)
      · have hb' : ∃ b0 ∈ n0 :: nss, b = PySem.W.Tup.mk b0 := by
          rcases List.mem_cons.mp hb with e | e
          · exact ⟨n0, List.mem_cons_self, e⟩
          · obtain ⟨b0, h1, h2⟩ := List.mem_map.mp e
            exact ⟨b0, List.mem_cons_of_mem _ h1, h2.symm⟩
        obtain ⟨b0, h1, rfl⟩ := hb'
        rcases hmin b0 h1 with e | e
        · exact .inl (by rw [e])
        · exact .inr e
    rw [em] at hmn
    have hv' : its[i]? = some v := by simpa using hv
    have hil : i < its.length := (List.getElem?_eq_some_iff.mp hv').1
    have hxl := rv.length
    obtain ⟨x, hxi⟩ : ∃ x, xs[i]? = some x := ⟨_, List.getElem?_eq_getElem (by omega)⟩
    obtain ⟨u, hu1, ru⟩ := rv.get hxi
    rw [hv'] at hu1
    cases hu1
    obtain ⟨d, hd1, hd2⟩ := hx.get' hxi
    rw [List.getElem?_map] at hd1
    obtain ⟨ns, hns, hd3⟩ := Option.map_eq_some_iff.mp hd1
    subst hd3
    obtain ⟨bs, hr1⟩ := Dp.reads I _ _ _ (Rp.dp _ _ hd2) ru
    obtain ⟨cs, hr2⟩ := hmn
    have hr1' := PyProof.Rows.Reads.keeps hk hr1
    have e2 : dT ns = dT m := PySem.W.alike_unique _ _ _ _ _ (dT_alike ns m) hr1' hr2
    rw [e2] at hd2
    exact ⟨x, H, I.kept (t' := tk) hk, ru, q x hd2⟩
end
/-! ### a call by keywords alone -/
section
variable {X : Cx} {CX : CXT} {k : Nat} {f : Addr} {fd : FuncData} {ps ks : List Str} {sp : Sp} {E : XK} {x : Str} {p pos : Pos} {kws : List Keyword} {tk : TA} {g : List Value → List Value → List Value} {gV : List V → List V → List V}
theorem pe_callK0 (F : FnOk X.prog X.w X.K X.mg X.base CX k f fd ps sp) (hr : Room k X.A) (hg : Gl X x) (hm : X.mg x = some (.ref f)) (hk : PySem.W.keepIn X.K (.ref f) = true) (hb : KBinds X.K fd ps ks g gV) (hx : Passes CX X E)
    (hkw : PK X kws tk) (hall : (backToKw pos (keywordEach kws X.env)).all (·.1.isSome) = true := by rfl) (hks : (backToKw pos (keywordEach kws X.env)).filterMap (·.1) = ks := by rfl)
    (hdb : (x == ("__debug__" : Str)) = false := by decide)
    (hpl : ((backTo pos (starEach [] X.env)).any (·.1) || (backToKw pos (keywordEach kws X.env)).any (·.1.isNone)) = false := by rfl) :
    PE X (.Call (.Name x p) [] kws pos) (tCallK sp gV E tNil tk) := by
  refine ⟨fun pins s σ H Q I h => ?_⟩
  refine wpAny_Call_Name_kw (ld_glob I hg hm ?_ hdb)
  refine PySem.W.callWith_KW0 (h₀ := X.base) I.ok.mod.kin hk hall ?_ hpl
  refine thn (hkw.run pos pins s σ H _ I h) fun ws s2 ⟨zs, H2, I2, rz, q2⟩ => ⟨I2.kIn, ?_⟩
  rw [hks]
  exact run_fnk F hr hb hx I2 .nil rz q2
end
end PT

set_option Elab.async false
set_option linter.all false
set_option maxRecDepth 100000
set_option maxHeartbeats 4000000

namespace PT
open PySem PySem.Spec PyProof.Rows L2
theorem vals_kt {F : List Key × V → List Key × Addr × Value → Prop} (hF : ∀ p q, F p q → RelV p.2 q.2.2) : ∀ {kvs : List (List Key × V)} {ks : List (List Key × Addr × Value)}, Paired F kvs ks → Vals (kvs.map (·.2)) (ks.map fun x => x.2.2)
  | _, _, .nil => .nil
  | _, _, .cons a b => .cons (hF _ _ a) (vals_kt hF b)
section
variable {X : Cx}
/-! ### list(d.values()) of a dict with tuple keys -/
def tListVals (te : TE) : TE := fun σ H Q => te σ H fun x H1 => ∃ d kvs, x = V.ref d ∧ H1 d = some (.dT kvs) ∧ ∀ p, H1 p = none → Q (.ref p) (upd H1 p (.lst (kvs.map (·.2))))
theorem pe_listVals {e : Expr} {te : TE} {p apos cpos pos : Pos} (hc : X.calm = true) (hg : Gl X "list") (hm : X.mg "list" = none) (he : PE X e te)
    (hbase : attributeBase e "values" X.env (eval e X.env) = eval e X.env := by rfl) (hline : (apos.endLine == cpos.line) = true := by rfl)
    (na : starEach [.Call (.Attribute e "values" apos) [] [] cpos] X.env = (false, eval (.Call (.Attribute e "values" apos) [] [] cpos) X.env) :: starEach [] X.env := by rfl) :
    PE X (.Call (.Name "list" p) [.Call (.Attribute e "values" apos) [] [] cpos] [] pos) (tListVals te) := by
  refine ⟨fun pins s σ H Q I h => ?_⟩
  refine Call_ (ld_blt I hg hm boot_list ?_)
  refine PyProof.Rows.callWith_type1 (PyProof.Rows.args_cons ?_ na) na rfl
  refine wpAny_Call_method (T := "dict") (id := "dict.values") hbase rfl hline F.plainAttrs_dict F.slot_dict_values F.type_dict_values (thn (he.run pins s σ H _ I h) fun u s1 ⟨x, H1, I1, rx, d, kvs, ex, hd, q⟩ => ?_)
  subst ex
  obtain rfl : u = Value.ref d := rx
  obtain ⟨z, hs, ks, pr, o, es, ep, ho, hx, hdt, hee, hn⟩ := (show ObjOk X.prog X.w H1 s1.heap d (.dT kvs) from I1.hok d _ hd)
  obtain ⟨_, _, xs, kt, hm2⟩ := dt_of I1.hok hd
  have raw : s1.heap.DictRaw d es ep := ⟨o, ho, hx, hdt⟩
  refine ⟨hm2.typeIs, PyProof.Rows.dictOfH_noDict hm2, ?_⟩
  have l1 : es.size = ks.length := size_of_entries hee
  have l2 : kvs.length = ks.length := Paired.length pr
  have I2 : Inv X pins σ H1 { s1 with heap := s1.heap.push { cls := .type "dict_values", data := .fields #[.ref d] } } := I1.kept (t' := s1.toks) fun b ob q => Heap.get?_push_of_some _ q
  refine method_meetsIn F.slot_dict_values F.entry_dict_values rfl (PySem.evalArgs_none ⟨rfl, hm2.typeIs, F.args_dict_values_1 _, _, meets_dict_values_raw d hs, ⟨es, ep, raw⟩, PyProof.Rows.args_nil ?_⟩)
  refine PySem.W.kdl_call (KdlSrc.rawValues (r := s1.heap.objs.size) (d := d) (es := es) (ep := ep)) (I1.ok.hd hc) ⟨⟨_, Heap.get?_push_size _ rfl, rfl, rfl⟩, raw.at fun ob e => Heap.get?_push_of_some _ e⟩ (by omega) fun h' tk acc' c' kp e it => ?_
  have ea : acc'.toList = ks.map fun x => x.2.2 := by
    have hl : acc'.toList.length = ks.length := by rw [Array.length_toList, it.1]; exact l1
    apply List.ext_getElem?
    intro j
    rw [List.getElem?_map]
    cases hj : acc'.toList[j]? with
    | none =>
      have h1 := List.getElem?_eq_none_iff.mp hj
      rw [List.getElem?_eq_none (by omega)]
      all_goals rfl
    | some v =>
      obtain ⟨hi, hv⟩ := it.2 j v (by rw [← Array.getElem?_toList]; exact hj)
      have qe := entry_at hee j
      rw [Array.getElem?_eq_getElem hi] at qe
      cases hb : ks[j]? with
      | none =>
        rw [hb] at qe
        cases qe
      | some b =>
        rw [hb] at qe
        have e2 : es[j] = entryOfKey (tupleKind (mixKind X.prog X.w)) b := Option.some.inj qe
        rw [hv, e2]
        all_goals rfl
  have rv : Vals (kvs.map (·.2)) acc'.toList := by
    rw [ea]
    exact vals_kt (fun p q h => h.2.2) pr
  have hz : (kvs.map (·.2)).length ≤ sizeLine := by rw [List.length_map]; exact z
  have I3 := I2.laid (t' := tk) (a := (s1.heap.push { cls := .type "dict_values", data := .fields #[.ref d] }).objs.size) (o := .lst (kvs.map (·.2))) kp (Nat.le_refl _) ⟨hz, acc'.toList, c', rv, by rw [Array.toArray_toList]; exact e⟩
  exact ⟨.ref _, _, I3, rfl, q _ (I2.hok.fresh (Nat.le_refl _))⟩
/-! ### sorted(a list of tuples of ints): the same tuples, some arrangement -/
def rSortTs2 (K : PySem.W.Frag) : List V → Hp → VK → Prop := fun vs H Q => ∃ (a : Addr) (bs : List (V × List Int)), vs = [.ref a] ∧ SqL K H a (bs.map (·.1)) ∧ (∀ b ∈ bs, Rp K H b.1 (dT b.2)) ∧ (∀ b ∈ bs, b.2 ≠ []) ∧ bs.length ≤ 1000 ∧
  ∀ (cs : List (V × List Int)) (p : Addr), cs.Perm bs → H p = none → Q (.ref p) (upd H p (.lst (cs.map (·.1))))
theorem rit_mk2 {H : Hp} {cd : List Int → PyData} : ∀ {bs : List (V × List Int)} {its : List Value}, Vals (bs.map (·.1)) its → (∀ b ∈ bs, Rp X.K H b.1 (cd b.2)) → PySem.W.EachIs (RIt X H cd) its bs
  | [], _, .nil, _ => .nil
  | b :: bs, _, .cons r t, h => .cons ⟨r, h b List.mem_cons_self⟩ (rit_mk2 t fun c hc => h c (List.mem_cons_of_mem _ hc))
theorem cr_sortTs2 (hu : X.A.units + 64 < cLine) : CallR X (.builtin "sorted") (rSortTs2 X.K) := by
  intro pins s σ H vs us Q I r h
  obtain ⟨a, bs, rfl, hs, hx, hne, hlen, q⟩ := h
  obtain rfl := Vals.ref1 r
  obtain ⟨its, rv, hl, hz⟩ := I.list hs
  have e3 := rit_mk2 (X := X) (cd := dT) rv hx
  refine PySem.W.sorted_data (enc := fun b : V × List Int => dT b.2) hl.isList e3 (rit_reads I e3) (PySem.W.AllAlike.of fun b b' => dT_alike _ _) (.inl fun d hd => ?_) (len_ok (by omega)) (fun b _ => by rw [dT_depth]; omega) fun out ho hE => ?_
  · obtain ⟨b, hb, rfl⟩ := List.mem_map.mp hd
    cases hb3 : b.2 with
    | nil => exact absurd hb3 (hne _ hb)
    | cons n ns => exact ⟨.int n, ns.map .int, rfl⟩
  · obtain ⟨h1, h2⟩ := rit_back hE
    obtain ⟨ep, he'⟩ := PyProof.Rows.sortedAll_at s.heap its out.toArray
    have hp : (bs.mergeSort (PySem.W.dataLe false fun b : V × List Int => dT b.2)).Perm bs := List.mergeSort_perm _ _
    have hol : ((bs.mergeSort (PySem.W.dataLe false fun b : V × List Int => dT b.2)).map (·.1)).length ≤ sizeLine := by
      rw [List.length_map, hp.length_eq]
      exact len_ok (by omega)
    refine ⟨.ref _, upd H (s.heap.objs.size + 1) (.lst ((bs.mergeSort (PySem.W.dataLe false fun b : V × List Int => dT b.2)).map (·.1))), I.laid (t' := s.toks) (fun _ _ => PyProof.Rows.sortedAll_old) (Nat.le_succ _) ⟨hol, out, ep, h1, ?_⟩, rfl,
      q _ _ hp (I.hok.fresh (Nat.le_succ _))⟩
    exact he'
end
end PT

set_option Elab.async false
set_option linter.all false
set_option maxRecDepth 100000
set_option maxHeartbeats 4000000

namespace PT
open PySem PySem.Spec PyProof.Rows L2

/-! ### promises of defs over data -/
def SpF (K : PySem.W.Frag) {α : Type} (Pre : α → Prop) (args : α → List PyData) (res : α → PyData) : Sp := fun vs H Q _ => ∃ x : α, Pre x ∧ RpAll K H vs (args x) ∧ ∀ v H', Ex H H' → Rp K H' v (res x) → Q v H'
/-- the answer told by a relation -/
def SpR (K : PySem.W.Frag) {α : Type} (Pre : α → Prop) (args : α → List PyData) (res : α → PyData → Prop) : Sp := fun vs H Q _ => ∃ x : α, Pre x ∧ RpAll K H vs (args x) ∧ ∀ v H' d, Ex H H' → res x d → Rp K H' v d → Q v H'
section
variable {K : PySem.W.Frag} {m : Md} {σ : L2.St} {H H' : Hp} {ta tb te : TE} {d : PyData} {ds : List PyData} {α : Type} {Pre : α → Prop} {args : α → List PyData} {D : Ends} {tz : TS}
theorem ed_call {res : α → PyData} {E : XK} {t : TA} (x : α) (hx : Pre x) (ha : EA m t σ H fun vs H2 => RpAll K H2 vs (args x)) : ED K m (tCall (SpF K Pre args res) [] E t) σ H (res x) := fun H1 e Q q =>
  ha H1 e _ fun vs H2 e2 p => ⟨x, hx, by rw [List.append_nil]; exact p, fun v H3 e3 p3 => q v H3 (e2.trans (Rl.ex e2.i e3)) p3⟩
theorem ep_call {res : α → PyData → Prop} {E : XK} {t : TA} (x : α) (hx : Pre x) (ha : EA m t σ H fun vs H2 => RpAll K H2 vs (args x)) : EvP m (tCall (SpR K Pre args res) [] E t) σ H fun _ v H2 => ∃ d, res x d ∧ Rp K H2 v d := fun H1 e Q q =>
  ha H1 e _ fun vs H2 e2 p => ⟨x, hx, by rw [List.append_nil]; exact p, fun v H3 d e3 r3 p3 => q v H3 (e2.trans (Rl.ex e2.i e3)) ⟨d, r3, p3⟩⟩
/-- by keywords alone -/
theorem ed_callK {res : α → PyData} {E : XK} {tk : TA} {gV : List V → List V → List V} (x : α) (hx : Pre x) (ha : EA m tk σ H fun vs H2 => RpAll K H2 (gV [] vs) (args x)) : ED K m (tCallK (SpF K Pre args res) gV E tNil tk) σ H (res x) := fun H1 e Q q =>
  ha H1 e _ fun vs H2 e2 p => ⟨x, hx, p, fun v H3 e3 p3 => q v H3 (e2.trans (Rl.ex e2.i e3)) p3⟩
theorem ep_callK {res : α → PyData → Prop} {E : XK} {tk : TA} {gV : List V → List V → List V} (x : α) (hx : Pre x) (ha : EA m tk σ H fun vs H2 => RpAll K H2 (gV [] vs) (args x)) : EvP m (tCallK (SpR K Pre args res) gV E tNil tk) σ H fun _ v H2 => ∃ d, res x d ∧ Rp K H2 v d := fun H1 e Q q =>
  ha H1 e _ fun vs H2 e2 p => ⟨x, hx, p, fun v H3 d e3 r3 p3 => q v H3 (e2.trans (Rl.ex e2.i e3)) ⟨d, r3, p3⟩⟩
theorem RpAll.inv1 {vs : List V} {a : PyData} (h : RpAll K H vs [a]) : ∃ v1, vs = [v1] ∧ Rp K H v1 a := by
  cases h with
  | cons h1 h => cases h; exact ⟨_, rfl, h1⟩
theorem RpAll.inv2 {vs : List V} {a b : PyData} (h : RpAll K H vs [a, b]) : ∃ v1 v2, vs = [v1, v2] ∧ Rp K H v1 a ∧ Rp K H v2 b := by
  cases h with
  | cons h1 h => obtain ⟨w, rfl, h2⟩ := h.inv1; exact ⟨_, _, rfl, h1, h2⟩
theorem RpAll.inv3 {vs : List V} {a b c : PyData} (h : RpAll K H vs [a, b, c]) : ∃ v1 v2 v3, vs = [v1, v2, v3] ∧ Rp K H v1 a ∧ Rp K H v2 b ∧ Rp K H v3 c := by
  cases h with
  | cons h1 h => obtain ⟨w, u, rfl, h2, h3⟩ := h.inv2; exact ⟨_, _, _, rfl, h1, h2, h3⟩
theorem RpAll.inv4 {vs : List V} {a b c d : PyData} (h : RpAll K H vs [a, b, c, d]) : ∃ v1 v2 v3 v4, vs = [v1, v2, v3, v4] ∧ Rp K H v1 a ∧ Rp K H v2 b ∧ Rp K H v3 c ∧ Rp K H v4 d := by
  cases h with
  | cons h1 h => obtain ⟨w, u, z, rfl, h2, h3, h4⟩ := h.inv3; exact ⟨_, _, _, _, rfl, h1, h2, h3, h4⟩
theorem q_unp2 {i j : Nat} {d1 d2 : PyData} (hI : m.I H) (h : ED K m te σ H (.tuple [d1, d2])) (k : ∀ v1 v2 H1, Rl m H H1 → Rp K H1 v1 d1 → Rp K H1 v2 d2 → tz D ((σ.set i (some v1)).set j (some v2)) H1) : tSeq (tAsg te (gTup K 2 (gCons (gName i) (gCons (gName j) gNil)))) tz D σ H :=
  h H (Rl.refl hI) _ fun v H1 e p => g_two p fun v1 v2 p1 p2 => k v1 v2 H1 e p1 p2
/-- calls of built-ins -/
theorem ed_any {bs : List Bool} (h : EQ K m te σ H (bs.map .bool)) : ED K m (tCB (rAny K) (tCons te tNil)) σ H (.bool (bs.any id)) := fun H1 e Q q =>
  h H1 e _ fun v H2 e2 p => by
    obtain ⟨a, xs, rfl, hn, h1, h2⟩ := p
    have e3 := h2.bls_inv
    subst e3
    exact ⟨a, bs, rfl, .inl (.inl h1), q _ _ e2 (.bl _)⟩
def rTupOf (K : PySem.W.Frag) : List V → Hp → VK → Prop := fun xs H Q => ∃ p ys, xs = [.ref p] ∧ ((SqL K H p ys ∧ ∀ l, H l = none → Q (.ref l) (upd H l (.tup ys))) ∨ (SqT K H p ys ∧ Q (.ref p) H))
theorem ed_tupL (h : EQ K m te σ H ds) : ED K m (tCB (rTupOf K) (tCons te tNil)) σ H (.tuple ds) := fun H1 e Q q =>
  h H1 e _ fun v H2 e2 p => by
    obtain ⟨a, xs, rfl, hn, h1, h2⟩ := p
    exact ⟨a, xs, rfl, .inl ⟨.inl (.inl h1), fun l hl => q _ _ (e2.trans (Rl.new e2.i hl)) (rp_tup upd_same (h2.tk' (Tk.new hl)))⟩⟩
def rLenS (K : PySem.W.Frag) : List V → Hp → VK → Prop := fun xs H Q => ∃ p ys, xs = [.ref p] ∧ (SqL K H p ys ∨ SqT K H p ys) ∧ Q (.int ys.length) H
theorem ed_lenT (h : ED K m te σ H (.tuple ds)) : ED K m (tCB (rLenS K) (tCons te tNil)) σ H (.int (ds.length : Nat)) := fun H1 e Q q =>
  h H1 e _ fun v H2 e2 p => by
    obtain ⟨a, xs, rfl, h1, h2⟩ := p.tup_inv
    refine ⟨a, xs, rfl, .inr h1, ?_⟩
    rw [h2.length]
    exact q _ _ e2 (.int _)
theorem ed_lenL (h : EQ K m te σ H ds) : ED K m (tCB (rLenS K) (tCons te tNil)) σ H (.int (ds.length : Nat)) := fun H1 e Q q =>
  h H1 e _ fun v H2 e2 p => by
    obtain ⟨a, xs, rfl, hn, h1, h2⟩ := p
    refine ⟨a, xs, rfl, .inl (.inl (.inl h1)), ?_⟩
    rw [h2.length]
    exact q _ _ e2 (.int _)
end

/-! ### tables, lots -/
abbrev Tb := Nat → Nat → Int
def iN (l : List Nat) : List Int := l.map fun k => ((k : Nat) : Int)
def dN (l : List Nat) : PyData := dT (iN l)
def dRow (n : Nat) (r : Tb) (x : Nat) : PyData := dT ((List.range n).map (r x))
def dRows (n : Nat) (r : Tb) : PyData := .tuple ((List.range n).map (dRow n r))
def dTab (n : Nat) (r : Tb) : PyData := .tuple [.int (n : Nat), dRows n r]
theorem range_at {α : Type} {n i : Nat} (f : Nat → α) (h : i < n) : ((List.range n).map f)[i]? = some (f i) := by
  simp [h]
theorem dT_at {ns : List Int} {i : Nat} {k : Int} (h : ns[i]? = some k) : (ns.map PyData.int)[i]? = some (.int k) := by
  rw [List.getElem?_map, h]
  rfl
theorem iN_mem {x : Nat} {l : List Nat} : ((x : Nat) : Int) ∈ iN l ↔ x ∈ l := by
  unfold iN
  rw [List.mem_map]
  constructor
  · rintro ⟨y, h1, h2⟩
    have : y = x := by omega
    rw [← this]
    exact h1
  · exact fun h => ⟨x, h, rfl⟩
section
variable {K : PySem.W.Frag} {m : Md} {σ : L2.St} {H : Hp} {ta tb tc : TE}
theorem ed_rows {n : Nat} {r : Tb} {z x : Nat} (h0 : ED K m ta σ H (dRows n r)) (h1 : ED K m tb σ H (.int (z : Nat))) (h2 : ED K m tc σ H (.int (x : Nat))) (hz : z < n) (hx : x < n) : ED K m (tOp (rIxT K) (tOp (rIxT K) ta tb) tc) σ H (.int (r z x)) :=
  ed_ixT (ed_ixT h0 h1 (range_at (dRow n r) hz)) h2 (dT_at (range_at (r z) hx))
end
/-- a thing tells two others apart -/
def ap (r : Tb) (z x y : Nat) : Bool := decide (r z x ≠ r z y) || decide (r x z ≠ r y z)
/-- what is told: the first triple -/
def tz (r : Tb) (lot : List Nat) (z : Nat) : Option (Nat × Nat × Nat) :=
  (List.range lot.length).findSome? fun i => (lot.drop (i + 1)).findSome? fun y => if ap r z (lot.getD i 0) y = true then some (z, lot.getD i 0, y) else none
def told (n : Nat) (r : Tb) (lot : List Nat) : Option (Nat × Nat × Nat) := (List.range n).findSome? fun z => if z ∈ lot then none else tz r lot z
def dTold : Option (Nat × Nat × Nat) → PyData
  | none => .none
  | some (z, x, y) => dT [(z : Int), (x : Int), (y : Int)]
/-- whether a lot is a piece, as the program looks -/
def isP (n : Nat) (r : Tb) (lot : List Nat) : Bool := (List.range n).all fun z => decide (z ∈ lot) || !((lot.drop 1).any fun y => ap r z (lot.getD 0 0) y)
theorem find_succ {α : Type} (f : Nat → Option α) {i : Nat} (h : (List.range i).findSome? f = none) : (List.range (i + 1)).findSome? f = f i := by
  rw [List.range_succ, List.findSome?_append, h]
  simp
theorem find_pre {α : Type} (f : Nat → Option α) {n i : Nat} (hi : i < n) (h : (List.range i).findSome? f = none) {a : α} (ha : f i = some a) : (List.range n).findSome? f = some a := by
  have e : List.range n = List.range (i + 1) ++ (List.range (n - (i + 1))).map (fun j => i + 1 + j) := by
    rw [← List.range_add]
    congr 1
    omega
  rw [e, List.findSome?_append, find_succ f h, ha]
  rfl
/-- the same along a list -/
theorem findl_succ {α β : Type} (l : List β) (f : β → Option α) {i : Nat} {b : β} (hb : l[i]? = some b) (h : (l.take i).findSome? f = none) : (l.take (i + 1)).findSome? f = f b := by
  rw [List.take_add_one, hb, List.findSome?_append, h]
  simp
theorem findl_pre {α β : Type} (l : List β) (f : β → Option α) {i : Nat} {b : β} (hb : l[i]? = some b) (h : (l.take i).findSome? f = none) {a : α} (ha : f b = some a) : l.findSome? f = some a := by
  have e : l = l.take (i + 1) ++ l.drop (i + 1) := (List.take_append_drop _ _).symm
  rw [e, List.findSome?_append, findl_succ l f hb h, ha]
  rfl
end PT

set_option Elab.async false
set_option linter.all false
set_option maxRecDepth 100000
set_option maxHeartbeats 4000000
namespace PT
open PySem PySem.Spec PyProof.Rows L2
/-! ### the defs of the text, their names by slot (printed by gen.py) -/
abbrev s_lot_key : Stmt := topS 4
abbrev N_lot_key : List Str := ["lot"]
abbrev P_lot_key : List Str := ["lot"]
theorem sc_lot_key : FnScope N_lot_key P_lot_key (defScope s_lot_key) := ⟨rfl, rfl, rfl, by decide +kernel, rfl, by decide +kernel, by decide +kernel⟩
abbrev s_parts_two : Stmt := topS 5
abbrev N_parts_two : List Str := ["rows", "outer", "thing", "other"]
abbrev P_parts_two : List Str := ["rows", "outer", "thing", "other"]
theorem sc_parts_two : FnScope N_parts_two P_parts_two (defScope s_parts_two) := ⟨rfl, rfl, rfl, by decide +kernel, rfl, by decide +kernel, by decide +kernel⟩
abbrev s_telling : Stmt := topS 6
abbrev N_telling : List Str := ["table", "lot", "size", "rows", "outer", "place", "thing", "other"]
abbrev P_telling : List Str := ["table", "lot"]
theorem sc_telling : FnScope N_telling P_telling (defScope s_telling) := ⟨rfl, rfl, rfl, by decide +kernel, rfl, by decide +kernel, by decide +kernel⟩
abbrev s_is_piece : Stmt := topS 7
abbrev N_is_piece : List Str := ["table", "lot", "size", "rows", "outer", "other"]
abbrev P_is_piece : List Str := ["table", "lot"]
theorem sc_is_piece : FnScope N_is_piece P_is_piece (defScope s_is_piece) := ⟨rfl, rfl, rfl, by decide +kernel, rfl, by decide +kernel, by decide +kernel⟩
abbrev s_growing : Stmt := topS 8
abbrev N_growing : List Str := ["table", "lot", "held", "triples", "triple"]
abbrev P_growing : List Str := ["table", "lot"]
theorem sc_growing : FnScope N_growing P_growing (defScope s_growing) := ⟨rfl, rfl, rfl, by decide +kernel, rfl, by decide +kernel, by decide +kernel⟩
abbrev s_least_piece : Stmt := topS 9
abbrev N_least_piece : List Str := ["table", "lot", "triple"]
abbrev P_least_piece : List Str := ["table", "lot"]
theorem sc_least_piece : FnScope N_least_piece P_least_piece (defScope s_least_piece) := ⟨rfl, rfl, rfl, by decide +kernel, rfl, by decide +kernel, by decide +kernel⟩
abbrev s_pieces : Stmt := topS 10
abbrev N_pieces : List Str := ["table", "size", "lots", "bits", "lot", "thing"]
abbrev P_pieces : List Str := ["table"]
theorem sc_pieces : FnScope N_pieces P_pieces (defScope s_pieces) := ⟨rfl, rfl, rfl, by decide +kernel, rfl, by decide +kernel, by decide +kernel⟩
abbrev s_glances : Stmt := topS 12
abbrev N_glances : List Str := ["size", "x", "y"]
abbrev P_glances : List Str := ["size"]
theorem sc_glances : FnScope N_glances P_glances (defScope s_glances) := ⟨rfl, rfl, rfl, by decide +kernel, rfl, by decide +kernel, by decide +kernel⟩
abbrev s_need_one_size : Stmt := topS 13
abbrev N_need_one_size : List Str := ["tables", "table"]
abbrev P_need_one_size : List Str := ["tables"]
theorem sc_need_one_size : FnScope N_need_one_size P_need_one_size (defScope s_need_one_size) := ⟨rfl, rfl, rfl, by decide +kernel, rfl, by decide +kernel, by decide +kernel⟩
abbrev s_together : Stmt := topS 14
abbrev N_together : List Str := ["tables", "size", "known", "x", "y", "numbers", "looks", "rows", "table", "row"]
abbrev P_together : List Str := ["tables"]
theorem sc_together : FnScope N_together P_together (defScope s_together) := ⟨rfl, rfl, rfl, by decide +kernel, rfl, by decide +kernel, by decide +kernel⟩
abbrev s_both : Stmt := topS 15
abbrev N_both : List Str := ["table", "other"]
abbrev P_both : List Str := ["table", "other"]
theorem sc_both : FnScope N_both P_both (defScope s_both) := ⟨rfl, rfl, rfl, by decide +kernel, rfl, by decide +kernel, by decide +kernel⟩
abbrev s_law_deck : Stmt := topS 17
abbrev N_law_deck : List Str := ["_law_script", "_law_cells", "_law_blend", "_law_cell", "_law_far"]
abbrev P_law_deck : List Str := ["_law_script"]
theorem sc_law_deck : FnScope N_law_deck P_law_deck (defScope s_law_deck) := ⟨rfl, rfl, rfl, by decide +kernel, rfl, by decide +kernel, by decide +kernel⟩
abbrev s_law_draw : Stmt := topS 18
abbrev N_law_draw : List Str := ["_law_deck_here", "_law_many", "_law_far", "_law_rest", "_law_turn", "_law_near", "_law_cell", "_law_mixed_here"]
abbrev P_law_draw : List Str := ["_law_deck_here", "_law_many"]
theorem sc_law_draw : FnScope N_law_draw P_law_draw (defScope s_law_draw) := ⟨rfl, rfl, rfl, by decide +kernel, rfl, by decide +kernel, by decide +kernel⟩
abbrev s_law_one : Stmt := topS 19
abbrev N_law_one : List Str := ["_law_deck_here", "_law_items"]
abbrev P_law_one : List Str := ["_law_deck_here", "_law_items"]
theorem sc_law_one : FnScope N_law_one P_law_one (defScope s_law_one) := ⟨rfl, rfl, rfl, by decide +kernel, rfl, by decide +kernel, by decide +kernel⟩
abbrev s_law_mixed : Stmt := topS 20
abbrev N_law_mixed : List Str := ["_law_deck_here", "_law_items", "_law_rest", "_law_found", "_law_step"]
abbrev P_law_mixed : List Str := ["_law_deck_here", "_law_items"]
theorem sc_law_mixed : FnScope N_law_mixed P_law_mixed (defScope s_law_mixed) := ⟨rfl, rfl, rfl, by decide +kernel, rfl, by decide +kernel, by decide +kernel⟩
abbrev s_law_block : Stmt := topS 21
abbrev N_law_block : List Str := ["_law_deck_here", "_law_looks_here", "_law_room", "_law_way", "_law_one_here", "_law_two", "_law_many", "_law_found", "_law_x", "_law_row", "_law_y"]
abbrev P_law_block : List Str := ["_law_deck_here", "_law_looks_here", "_law_room"]
theorem sc_law_block : FnScope N_law_block P_law_block (defScope s_law_block) := ⟨rfl, rfl, rfl, by decide +kernel, rfl, by decide +kernel, by decide +kernel⟩
abbrev s_law_put : Stmt := topS 22
abbrev N_law_put : List Str := ["_law_rows", "_law_at", "_law_block_here", "_law_olds", "_law_found", "_law_x", "_law_row", "_law_y", "_law_is_own"]
abbrev P_law_put : List Str := ["_law_rows", "_law_at", "_law_block_here"]
theorem sc_law_put : FnScope N_law_put P_law_put (defScope s_law_put) := ⟨rfl, rfl, rfl, by decide +kernel, rfl, by decide +kernel, by decide +kernel⟩
abbrev s_law_seated : Stmt := topS 23
abbrev N_law_seated : List Str := ["_law_rows", "_law_seats", "_law_found", "_law_x", "_law_y"]
abbrev P_law_seated : List Str := ["_law_rows", "_law_seats"]
theorem sc_law_seated : FnScope N_law_seated P_law_seated (defScope s_law_seated) := ⟨rfl, rfl, rfl, by decide +kernel, rfl, by decide +kernel, by decide +kernel⟩
abbrev s_law_table : Stmt := topS 24
abbrev N_law_table : List Str := ["_law_deck_here", "_law_size", "_law_looks_here", "_law_rows", "_law_step", "_law_x", "_law_y"]
abbrev P_law_table : List Str := ["_law_deck_here", "_law_size", "_law_looks_here"]
theorem sc_law_table : FnScope N_law_table P_law_table (defScope s_law_table) := ⟨rfl, rfl, rfl, by decide +kernel, rfl, by decide +kernel, by decide +kernel⟩
abbrev s_law_looks : Stmt := topS 25
abbrev N_law_looks : List Str := ["_law_deck_here"]
abbrev P_law_looks : List Str := ["_law_deck_here"]
theorem sc_law_looks : FnScope N_law_looks P_law_looks (defScope s_law_looks) := ⟨rfl, rfl, rfl, by decide +kernel, rfl, by decide +kernel, by decide +kernel⟩
abbrev s_law_kin : Stmt := topS 26
abbrev N_law_kin : List Str := ["_law_deck_here", "_law_table_here", "_law_looks_here", "_law_size", "_law_rows", "_law_way", "_law_found", "_law_paints", "_law_x", "_law_y", "_law_row"]
abbrev P_law_kin : List Str := ["_law_deck_here", "_law_table_here", "_law_looks_here"]
theorem sc_law_kin : FnScope N_law_kin P_law_kin (defScope s_law_kin) := ⟨rfl, rfl, rfl, by decide +kernel, rfl, by decide +kernel, by decide +kernel⟩
abbrev s_law_world : Stmt := topS 27
abbrev N_law_world : List Str := ["_law_deck_here", "_law_size", "_law_many", "_law_looks_here", "_law_found", "_law_step"]
abbrev P_law_world : List Str := ["_law_deck_here", "_law_size", "_law_many"]
theorem sc_law_world : FnScope N_law_world P_law_world (defScope s_law_world) := ⟨rfl, rfl, rfl, by decide +kernel, rfl, by decide +kernel, by decide +kernel⟩
abbrev s_law_lots : Stmt := topS 28
abbrev N_law_lots : List Str := ["_law_size", "_law_found", "_law_level", "_law_step", "_law_further", "_law_lot", "_law_thing"]
abbrev P_law_lots : List Str := ["_law_size"]
theorem sc_law_lots : FnScope N_law_lots P_law_lots (defScope s_law_lots) := ⟨rfl, rfl, rfl, by decide +kernel, rfl, by decide +kernel, by decide +kernel⟩
abbrev s_law_is_piece : Stmt := topS 29
abbrev N_law_is_piece : List Str := ["_law_rows", "_law_lot", "_law_z", "_law_x"]
abbrev P_law_is_piece : List Str := ["_law_rows", "_law_lot"]
theorem sc_law_is_piece : FnScope N_law_is_piece P_law_is_piece (defScope s_law_is_piece) := ⟨rfl, rfl, rfl, by decide +kernel, rfl, by decide +kernel, by decide +kernel⟩
abbrev s_law_telling : Stmt := topS 30
abbrev N_law_telling : List Str := ["_law_rows", "_law_lot", "_law_z", "_law_at", "_law_x", "_law_y"]
abbrev P_law_telling : List Str := ["_law_rows", "_law_lot"]
theorem sc_law_telling : FnScope N_law_telling P_law_telling (defScope s_law_telling) := ⟨rfl, rfl, rfl, by decide +kernel, rfl, by decide +kernel, by decide +kernel⟩
abbrev s_law_first_told : Stmt := topS 31
abbrev N_law_first_told : List Str := ["_law_tables", "_law_lot", "_law_found", "_law_table_here", "_law_own"]
abbrev P_law_first_told : List Str := ["_law_tables", "_law_lot"]
theorem sc_law_first_told : FnScope N_law_first_told P_law_first_told (defScope s_law_first_told) := ⟨rfl, rfl, rfl, by decide +kernel, rfl, by decide +kernel, by decide +kernel⟩
abbrev s_law_is_right : Stmt := topS 32
abbrev N_law_is_right : List Str := ["_law_deck_here", "_law_tables", "_law_size", "_law_whole", "_law_lots_here", "_law_due", "_law_owns", "_law_mixed_here", "_law_step", "_law_lot", "_law_least", "_law_told", "_law_first", "_law_singles", "_law_table_here", "_law_own", "_law_thing"]
abbrev P_law_is_right : List Str := ["_law_deck_here", "_law_tables"]
theorem sc_law_is_right : FnScope N_law_is_right P_law_is_right (defScope s_law_is_right) := ⟨rfl, rfl, rfl, by decide +kernel, rfl, by decide +kernel, by decide +kernel⟩
abbrev s_law : Stmt := topS 33
abbrev N_law : List Str := ["_law_script", "_law_deck_here", "_law_step", "_law_many", "_law_size", "_law_one_here", "_law_other", "_law_due", "_law_lot"]
abbrev P_law : List Str := ["_law_script"]
theorem sc_law : FnScope N_law P_law (defScope s_law) := ⟨rfl, rfl, rfl, by decide +kernel, rfl, by decide +kernel, by decide +kernel⟩
/-- the built-ins' names are the built-ins -/
structure Bt (mg : Str → Option Value) : Prop where
  len_ : mg "len" = none
  tuple_ : mg "tuple" = none
  list_ : mg "list" = none
  int_ : mg "int" = none
  abs_ : mg "abs" = none
  any_ : mg "any" = none
  sorted_ : mg "sorted" = none
  min_ : mg "min" = none
  repr_ : mg "repr" = none
  enumerate_ : mg "enumerate" = none
  range_ : mg "range" = none
  set_ : mg "set" = none
end PT

set_option Elab.async false
set_option linter.all false
set_option maxRecDepth 100000
set_option maxHeartbeats 4000000
namespace PT
open PySem PySem.Spec PyProof.Rows L2
section
variable {X : Cx} {K : PySem.W.Frag}
theorem pi_tupK {tg l : Expr} {tl : TE} (hl : PE X l tl) (hK : X.K = K := by rfl) : PI X tg l (iTup K tl) := hK ▸ pi_tup hl
theorem pi_listK {tg l : Expr} {tl : TE} (hl : PE X l tl) (hK : X.K = K := by rfl) : PI X tg l (iList K tl) := hK ▸ pi_list hl
theorem pe_lenSetK {a : Expr} {ta : TE} {p p2 q pos : Pos} (hg : Gl X "len") (hm : X.mg "len" = none) (hg2 : Gl X "set") (hm2 : X.mg "set" = none) (ha : PE X a ta) (hK : X.K = K := by rfl) (hc : X.calm = true := by rfl)
    (na : starEach [a] X.env = (false, eval a X.env) :: starEach [] X.env := by rfl) : PE X (.Call (.Name "len" p) [.Call (.Name "set" p2) [a] [] q] [] pos) (tLenSet K ta) := hK ▸ pe_lenSet hg hm hg2 hm2 ha hc na
def rListOf (K : PySem.W.Frag) : List V → Hp → VK → Prop := fun xs H Q => ∃ p ys, xs = [.ref p] ∧ (SqL K H p ys ∨ SqT K H p ys) ∧ ∀ l, H l = none → Q (.ref l) (upd H l (.lst ys))
theorem EvP.imp2 {m : Md} {te : TE} {σ : L2.St} {H : Hp} {P P' : Hp → V → Hp → Prop} (h : EvP m te σ H P) (f : ∀ H1 v H2, Rl m H H1 → Rl m H1 H2 → P H1 v H2 → P' H1 v H2) : EvP m te σ H P' := fun H1 a Q q => h H1 a Q fun v H2 r p => q v H2 r (f H1 v H2 a r p)
/-- a new list, told of by the heap ahead -/
theorem EL.at {m : Md} {te : TE} {σ : L2.St} {H : Hp} {ds : List PyData} (h : EL K m te σ H ds) : EvP m te σ H fun _ v H2 => ∃ p xs, v = .ref p ∧ H p = none ∧ H2 p = some (.lst xs) ∧ RpAll K H2 xs ds := EvP.imp2 h fun H1 v H2 r _ p => by
  obtain ⟨a, xs, h1, h2, h3, h4⟩ := p
  exact ⟨a, xs, h1, r.back h2, h3, h4⟩
end
end PT

set_option Elab.async false
set_option linter.all false
set_option maxRecDepth 100000
set_option maxHeartbeats 4000000
namespace PT
open PySem PySem.Spec PyProof.Rows L2
section
variable {P : Program} {w : World} {K : PySem.W.Frag} {mg : Str → Option Value} {base : Heap}
/-! ### parts_two -/
structure XPt where
  n : Nat
  r : Tb
  z : Nat
  x : Nat
  y : Nat
def sp_parts_two (K : PySem.W.Frag) : Sp := SpF K (α := XPt) (fun a => a.z < a.n ∧ a.x < a.n ∧ a.y < a.n) (fun a => [dRows a.n a.r, .int (a.z : Nat), .int (a.x : Nat), .int (a.y : Nat)]) (fun a => .bool (ap a.r a.z a.x a.y))
theorem ok_parts_two {f : Addr} {fd : FuncData} (F : Fun K "parts_two" "parts_two" s_parts_two f fd) : FnOk P w K mg base CX0 1 f fd P_parts_two (sp_parts_two K) := by
  refine F.ok sc_parts_two (fun vs H Q E h => ?_) (fun cdv A outer s H vs Q E hr h => ?_)
  · obtain ⟨x, _, ha, _⟩ := h
    exact ha.length
  · obtain ⟨⟨n, r, z, x, y⟩, ⟨hz, hx, hy⟩, ha, q⟩ := h
    obtain ⟨v0, v1, v2, v3, rfl, h0, h1, h2, h3⟩ := ha.inv4
    refine ⟨_, (pss_one (ps_ret (pe_or (pe_cmpR op_ne (pe_ix (r := rIxT K) ix_tup (pe_ix (r := rIxT K) ix_tup (pv 0) (pv 1) (fun _ _ => rfl)) (pv 2) (fun _ _ => rfl)) (pe_ix (r := rIxT K) ix_tup (pe_ix (r := rIxT K) ix_tup (pv 0) (pv 1) (fun _ _ => rfl)) (pv 3) (fun _ _ => rfl)) (nomark _)) (pe_one (pe_cmpR op_ne (pe_ix (r := rIxT K) ix_tup (pe_ix (r := rIxT K) ix_tup (pv 0) (pv 2) (fun _ _ => rfl)) (pv 1) (fun _ _ => rfl)) (pe_ix (r := rIxT K) ix_tup (pe_ix (r := rIxT K) ix_tup (pv 0) (pv 3) (fun _ _ => rfl)) (pv 1) (fun _ _ => rfl)) (nomark _)))))), ?_⟩
    refine s_ret (m := m0) i0 (ed_orV (ed_neI (ed_rows (ed_var rfl h0) (ed_var rfl h1) (ed_var rfl h2) hz hx) (ed_rows (ed_var rfl h0) (ed_var rfl h1) (ed_var rfl h3) hz hy))
      fun _ => ed_neI (ed_rows (ed_var rfl h0) (ed_var rfl h2) (ed_var rfl h1) hx hz) (ed_rows (ed_var rfl h0) (ed_var rfl h3) (ed_var rfl h1) hy hz)) fun v H1 e p => q v H1 e.ex0 p
/-! ### telling -/
structure XLt where
  n : Nat
  r : Tb
  lot : List Nat
def LtOk (a : XLt) : Prop := a.n ≤ 64 ∧ a.lot.length ≤ 64 ∧ ∀ x ∈ a.lot, x < a.n
def sp_telling (K : PySem.W.Frag) : Sp := SpF K LtOk (fun a => [dTab a.n a.r, dN a.lot]) (fun a => dTold (told a.n a.r a.lot))
theorem lot_at {l : List Nat} {i : Nat} {d : PyData} (h : ((iN l).map PyData.int)[i]? = some d) : ∃ x, l[i]? = some x ∧ d = .int (x : Nat) := by
  unfold iN at h
  rw [List.map_map, List.getElem?_map] at h
  obtain ⟨x, h1, h2⟩ := Option.map_eq_some_iff.mp h
  exact ⟨x, h1, h2.symm⟩
theorem lot_len (l : List Nat) : ((iN l).map PyData.int).length = l.length := by
  unfold iN
  rw [List.length_map, List.length_map]
theorem lot_drop (l : List Nat) (k : Nat) : ((iN l).map PyData.int).drop k = (iN (l.drop k)).map PyData.int := by
  unfold iN
  rw [List.map_drop, List.map_drop]
theorem ok_telling {f f1 : Addr} {fd fd1 : FuncData} (B : Bt mg) (F : Fun K "telling" "telling" s_telling f fd) (F_parts_two : Fun K "parts_two" "parts_two" s_parts_two f1 fd1) (b_parts_two : Binds K fd1 P_parts_two []) (g_parts_two : mg "parts_two" = some (.ref f1)) :
    FnOk P w K mg base CX0 2 f fd P_telling (sp_telling K) := by
  have G_parts_two : FnOk P w K mg base CX0 1 f1 fd1 P_parts_two (sp_parts_two K) := ok_parts_two F_parts_two
  have m_range := B.range_
  have m_enumerate := B.enumerate_
  refine F.ok sc_telling (fun vs H Q E h => ?_) (fun cdv A outer s H vs Q E hr h => ?_)
  · obtain ⟨x, _, ha, _⟩ := h
    exact ha.length
  · obtain ⟨⟨n, r, lot⟩, ⟨hn, hl, hlt⟩, ha, q⟩ := h
    obtain ⟨v0, v1, rfl, h0, h1⟩ := ha.inv2
    refine ⟨_, (pss_cons (ps_asg (pv 0) (pg_tup rfl (pgs_cons (pg_name (i := 2) sc_telling.nd rfl (Or.inl rfl)) (pgs_cons (pg_name (i := 3) sc_telling.nd rfl (Or.inl rfl)) pgs_nil))))
      (pss_cons (ps_for PassesOwn.never rfl (pi_range1 (by rfl) m_range (pa_cons (pv 2) pa_nil)) (pg_name (i := 4) sc_telling.nd rfl (Or.inl rfl)) (pss_cons (ps_if (pt_cmpR (r := rIn K false) op_in_seq (pv 4) (pv 1) (by rfl)) (pss_one ps_continue) pss_nil)
      (pss_one (ps_for PassesOwn.never rfl (pi_enumT (by rfl) m_enumerate (pa_cons (pv 1) pa_nil)) (pg_tup rfl (pgs_cons (pg_name (i := 5) sc_telling.nd rfl (Or.inl rfl)) (pgs_cons (pg_name (i := 6) sc_telling.nd rfl (Or.inl rfl)) pgs_nil))) (pss_one (ps_for PassesOwn.never rfl (pi_tupK (K := K) (pe_slice (r := rSlA K) sl_tupA (pv 1) (po_some (pe_op op_add (pv 5) pe_int)) po_none)) (pg_name (i := 7) sc_telling.nd rfl (Or.inl rfl)) (pss_one (ps_if (pt_val (pe_call G_parts_two (hr.mono (by decide)) (by rfl) g_parts_two F_parts_two.kp b_parts_two .nil pass0 (pa_cons (pv 3) (pa_cons (pv 4) (pa_cons (pv 6) (pa_cons (pv 7) pa_nil)))))) (pss_one (ps_ret (pe_tup (pa_cons (pv 4) (pa_cons (pv 6) (pa_cons (pv 7) pa_nil)))))) pss_nil))))))))
      (pss_one (ps_ret pe_non)))), ?_⟩
    have hn : n ≤ 64 := hn
    have hl : lot.length ≤ 64 := hl
    have hlt : ∀ x ∈ lot, x < n := hlt
    refine q_unp2 (m := m0) i0 (ed_var rfl h0) fun v2 v3 H1 e1 p2 p3 => ?_
    refine q_forR1 (m := m0) (n := (n : Int)) i0 (ea_one (ed_var rfl p2)) (by omega)
      (fun i σ H' => (∃ y4 y5 y6 y7, σ = [some v0, some v1, some v2, some v3, y4, y5, y6, y7]) ∧ Ex H1 H' ∧ (List.range i).findSome? (fun z => if z ∈ lot then none else tz r lot z) = none)
      (fun H2 e2 => ⟨⟨none, none, none, none, rfl⟩, e2.ex0, rfl⟩) (fun z σ H2 hz hP => ?_) fun σ H2 hP => ?_
    · obtain ⟨⟨y4, y5, y6, y7, rfl⟩, e2, hf⟩ := hP
      have hz' : z < n := by omega
      have hh1 : Rp K H2 v1 (dN lot) := (h1.rl e1).tk' e2.tk
      have hh3 : Rp K H2 v3 (dRows n r) := p3.tk' e2.tk
      refine q_if (m := m0) i0 (et_test (ed_inT (ns := iN lot) (ed_var rfl (.int _)) (ed_var rfl hh1))) (fun hb H3 e3 => ?_) (fun hb H3 e3 => ?_)
      · have hm : z ∈ lot := iN_mem.mp (of_decide_eq_true hb)
        refine ⟨⟨_, _, _, _, rfl⟩, e2.trans e3.ex0, ?_⟩
        rw [find_succ _ hf, if_pos hm]
      · have hm : z ∉ lot := fun hm => of_decide_eq_false hb (iN_mem.mpr hm)
        refine s_forE (m := m0) (K := K) i0 (ea_one (ed_var rfl (hh1.rl e3))) fun H4 e4 => ?_
        refine ⟨fun i σ H' => (∃ y5 y6 y7, σ = [some v0, some v1, some v2, some v3, some (.int (z : Nat)), y5, y6, y7]) ∧ Ex H4 H' ∧
          (List.range i).findSome? (fun i => (lot.drop (i + 1)).findSome? fun y => if ap r z (lot.getD i 0) y = true then some (z, lot.getD i 0, y) else none) = none, ⟨⟨_, _, _, rfl⟩, Ex.refl _, rfl⟩, fun i σ H' _ hP => hP.2.1.tk, fun i x d σ H' H'' hd ee hx hP => ?_, fun σ H' hP => ?_⟩
        · obtain ⟨⟨y5, y6, y7, rfl⟩, e5, hf2⟩ := hP
          obtain ⟨t, ht, rfl⟩ := lot_at hd
          have hti : i < lot.length := (List.getElem?_eq_some_iff.mp ht).1
          have etd : lot.getD i 0 = t := by
            rw [List.getD_eq_getElem?_getD, ht]
            rfl
          have htn : t < n := hlt t (List.mem_of_getElem? ht)
          have e6 : Ex H1 H'' := (((e2.trans e3.ex0).trans e4.ex0).trans e5).trans ee
          refine g_two hx fun v5 v6 p5 p6 => ?_
          have h51 := p5.int_inv
          have h61 := p6.int_inv
          subst h51 h61
          have k1 : Rp K H'' v1 (dN lot) := (h1.rl e1).tk' e6.tk
          have k3 : Rp K H'' v3 (dRows n r) := p3.tk' e6.tk
          refine s_forT (m := m0) (ds := (iN (lot.drop (i + 1))).map .int) i0 (ed_is (ed_slT (i := i + 1) (ed_var rfl k1) (eo_some (K := K) (ed_is (ed_I0 (g := fun i j => i + j) (ed_var rfl (.int _)) ed_int) rfl)) eo_none) (by rw [← lot_drop])) fun H5 e7 => ?_
          refine ⟨fun j σ H' => (∃ y7, σ = [some v0, some v1, some v2, some v3, some (.int (z : Nat)), some (.int (i : Nat)), some (.int (t : Nat)), y7]) ∧ Ex H5 H' ∧
            ((lot.drop (i + 1)).take j).findSome? (fun y => if ap r z t y = true then some (z, t, y) else none) = none, ⟨⟨_, rfl⟩, Ex.refl _, by rw [List.take_zero]; rfl⟩, fun j σ H' _ hP => hP.2.1.tk, fun j x d σ H' hd hx hP => ?_, fun σ H' hP => ?_⟩
          · obtain ⟨⟨y7, rfl⟩, e8, hf3⟩ := hP
            obtain ⟨y, hy, rfl⟩ := lot_at hd
            have hyn : y < n := hlt y (List.mem_of_mem_drop (List.mem_of_getElem? hy))
            have hx2 := hx.int_inv
            subst hx2
            have e9 : Ex H1 H' := (e6.trans e7.ex0).trans e8
            have l3 : Rp K H' v3 (dRows n r) := p3.tk' e9.tk
            refine s_if (m := m0) (b := ap r z t y) i0 (et_B (ed_call (⟨n, r, z, t, y⟩ : XPt) ⟨hz', htn, hyn⟩ (ea_four (ed_var rfl l3) (ed_var rfl (.int _)) (ed_var rfl (.int _)) (ed_var rfl (.int _))))) (fun hb H6 e10 => ?_) (fun hb H6 e10 => ?_)
            · refine s_ret (m := m0) i0 (ed_tup (K := K) (ea_three (ed_var rfl (.int _)) (ed_var rfl (.int _)) (ed_var rfl (.int _))) (by show 3 ≤ 100000; decide)) fun v H7 e11 p => ?_
              refine q v H7 ((((e1.ex0.trans e9).trans e10.ex0).trans e11.ex0)) ?_
              have hfin : told n r lot = some (z, t, y) := by
                refine find_pre _ hz' hf ?_
                rw [if_neg hm]
                refine find_pre _ hti hf2 ?_
                rw [etd]
                refine findl_pre _ _ hy hf3 ?_
                rw [if_pos hb]
              show Rp K H7 v (dTold (told n r lot))
              rw [hfin]
              exact p
            · refine ⟨⟨_, rfl⟩, e8.trans e10.ex0, ?_⟩
              rw [findl_succ _ _ hy hf3, if_neg (by rw [hb]; decide)]
          · obtain ⟨⟨y7, rfl⟩, e8, hf3⟩ := hP
            rw [lot_len, List.take_length] at hf3
            refine ⟨⟨_, _, _, rfl⟩, (e5.trans ee).trans (e7.ex0.trans e8), ?_⟩
            rw [find_succ _ hf2, etd]
            exact hf3
        · obtain ⟨⟨y5, y6, y7, rfl⟩, e5, hf2⟩ := hP
          rw [lot_len] at hf2
          refine ⟨⟨_, _, _, _, rfl⟩, ((e2.trans e3.ex0).trans e4.ex0).trans e5, ?_⟩
          rw [find_succ _ hf, if_neg hm]
          exact hf2
    · obtain ⟨⟨y4, y5, y6, y7, rfl⟩, e2, hf⟩ := hP
      refine s_ret (m := m0) i0 (ed_non (K := K)) fun v H3 e3 p => q v H3 ((e1.ex0.trans e2).trans e3.ex0) ?_
      have hfin : told n r lot = none := by
        have e : ((n : Int)).toNat = n := by omega
        rw [e] at hf
        exact hf
      show Rp K H3 v (dTold (told n r lot))
      rw [hfin]
      exact p
end
end PT

set_option Elab.async false
set_option linter.all false
set_option maxRecDepth 100000
set_option maxHeartbeats 4000000

namespace PT
open PySem PySem.Spec PyProof.Rows L2
/-! ### sorted lots -/
def srt (l : List Nat) : List Nat := l.mergeSort (fun a b => decide (a ≤ b))
theorem srt_perm (l : List Nat) : (srt l).Perm l := List.mergeSort_perm _ _
theorem srt_le (l : List Nat) : (srt l).Pairwise (· ≤ ·) := by
  have := List.pairwise_mergeSort (le := fun a b : Nat => decide (a ≤ b)) (fun a b c h1 h2 => by simp at h1 h2 ⊢; omega) (fun a b => by simp; omega) l
  exact this.imp fun h => by simpa using h
theorem perm_eq {α : Type} {R : α → α → Prop} : ∀ {l m : List α}, (∀ a ∈ l, ∀ b ∈ l, R a b → R b a → a = b) → l.Pairwise R → m.Pairwise R → l.Perm m → l = m
  | [], m, _, _, _, p => (List.Perm.nil_eq p)
  | a :: l, [], _, _, _, p => by
    have := p.length_eq
    simp at this
  | a :: l, b :: m, anti, h1, h2, p => by
    have hb : b ∈ a :: l := p.mem_iff.mpr List.mem_cons_self
    have ha : a ∈ b :: m := p.mem_iff.mp List.mem_cons_self
    have e : a = b := by
      rcases List.mem_cons.mp hb with e | hb'
      · exact e.symm
      · rcases List.mem_cons.mp ha with e | ha'
        · exact e
        · exact anti a List.mem_cons_self b hb ((List.pairwise_cons.mp h1).1 b hb') ((List.pairwise_cons.mp h2).1 a ha')
    subst e
    rw [perm_eq (fun x hx y hy => anti x (List.mem_cons_of_mem _ hx) y (List.mem_cons_of_mem _ hy)) (List.pairwise_cons.mp h1).2 (List.pairwise_cons.mp h2).2 (p.cons_inv)]
theorem srt_uniq {l : List Nat} {ms : List Int} (p : ms.Perm (iN l)) (h : ms.Pairwise (· ≤ ·)) : ms = iN (srt l) := by
  refine perm_eq (R := (· ≤ ·)) (fun a _ b _ h1 h2 => Int.le_antisymm h1 h2) h ?_ (p.trans ?_)
  · unfold iN
    rw [List.pairwise_map]
    exact (srt_le l).imp fun h => by omega
  · exact ((srt_perm l).map _).symm
theorem srt_mem {x : Nat} {l : List Nat} : x ∈ srt l ↔ x ∈ l := (srt_perm l).mem_iff
theorem srt_lt {l : List Nat} (h : l.Nodup) : (srt l).Pairwise (· < ·) := by
  have h1 := srt_le l
  have h2 : (srt l).Nodup := (srt_perm l).nodup_iff.mpr h
  exact (h1.and h2).imp fun ⟨a, b⟩ => by omega
/-- a list of things below n, each once, is no longer than n -/
theorem nodup_sub {α : Type} [DecidableEq α] : ∀ {l m : List α}, l.Nodup → (∀ x ∈ l, x ∈ m) → l.length ≤ m.length
  | [], _, _, _ => Nat.zero_le _
  | a :: l, m, h, hs => by
    have ha := hs a List.mem_cons_self
    have h2 := nodup_sub (l := l) (m := m.erase a) (List.nodup_cons.mp h).2 fun x hx => by
      refine (List.mem_erase_of_ne ?_).mpr (hs x (List.mem_cons_of_mem _ hx))
      rintro rfl
      exact (List.nodup_cons.mp h).1 hx
    have h3 := List.length_erase_of_mem ha
    have h4 := List.length_pos_of_mem ha
    rw [List.length_cons]
    omega
theorem nodup_len {n : Nat} {l : List Nat} (h : l.Nodup) (hl : ∀ x ∈ l, x < n) : l.length ≤ n := by
  have := nodup_sub h (m := List.range n) fun x hx => List.mem_range.mpr (hl x hx)
  rwa [List.length_range] at this
/-! ### the growing of a lot -/
def gr : Nat → Nat → Tb → List Nat → List (Nat × Nat × Nat)
  | 0, _, _, _ => []
  | k + 1, n, r, held => match told n r held with
    | none => []
    | some t => t :: gr k n r (srt (held ++ [t.1]))
def d3 (t : Nat × Nat × Nat) : PyData := dT [(t.1 : Int), (t.2.1 : Int), (t.2.2 : Int)]
theorem tz_some {r : Tb} {lot : List Nat} {z : Nat} {t : Nat × Nat × Nat} (h : tz r lot z = some t) : t.1 = z ∧ t.2.1 ∈ lot ∧ t.2.2 ∈ lot ∧ ap r z t.2.1 t.2.2 = true := by
  unfold tz at h
  obtain ⟨i, hi, h⟩ := List.exists_of_findSome?_eq_some h
  obtain ⟨y, hy, h⟩ := List.exists_of_findSome?_eq_some h
  have hi' := List.mem_range.mp hi
  split at h
  · rename_i hb
    cases h
    refine ⟨rfl, ?_, List.mem_of_mem_drop hy, hb⟩
    show lot.getD i 0 ∈ lot
    rw [List.getD_eq_getElem?_getD, List.getElem?_eq_getElem hi']
    exact List.getElem_mem hi'
  · cases h
theorem told_some {n : Nat} {r : Tb} {lot : List Nat} {t : Nat × Nat × Nat} (h : told n r lot = some t) : t.1 < n ∧ t.1 ∉ lot ∧ t.2.1 ∈ lot ∧ t.2.2 ∈ lot ∧ ap r t.1 t.2.1 t.2.2 = true := by
  unfold told at h
  obtain ⟨z, hz, h⟩ := List.exists_of_findSome?_eq_some h
  split at h
  · cases h
  · rename_i hm
    obtain ⟨e, h1, h2, h3⟩ := tz_some h
    rw [e]
    exact ⟨List.mem_range.mp hz, hm, h1, h2, h3⟩
/-! ### all lots, in order -/
def ext1 (n : Nat) (lot : List Nat) : List (List Nat) :=
  let lo := match lot.getLast? with | none => 0 | some k => k + 1
  (List.range (n - lo)).map fun j => lot ++ [lo + j]
def lev (n : Nat) : Nat → List (List Nat)
  | 0 => [[]]
  | k + 1 => (lev n k).flatMap (ext1 n)
def lots (n : Nat) : List (List Nat) := (List.range (n + 1)).flatMap (lev n)
def bits (n b : Nat) : List Nat := (List.range n).filter fun t => b / 2 ^ t % 2 == 1
def bitLots (n : Nat) : List (List Nat) := (List.range (2 ^ n)).map (bits n)
/-- by length, then by the first difference -/
def lexN : List Nat → List Nat → Bool
  | [], [] => false
  | [], _ :: _ => true
  | _ :: _, [] => false
  | x :: xs, y :: ys => if x = y then lexN xs ys else decide (x < y)
def keyLt (a b : List Nat) : Bool := if a.length = b.length then lexN a b else decide (a.length < b.length)
def ascB : List Nat → Bool
  | [] => true
  | [_] => true
  | x :: y :: l => decide (x < y) && ascB (y :: l)
def pairB {α : Type} (R : α → α → Bool) : List α → Bool
  | [] => true
  | x :: l => l.all (R x) && pairB R l
theorem pairB_iff {α : Type} (R : α → α → Bool) : ∀ {l : List α}, pairB R l = true → l.Pairwise (fun a b => R a b = true)
  | [], _ => List.Pairwise.nil
  | x :: l, h => by
    simp only [pairB, Bool.and_eq_true, List.all_eq_true] at h
    exact List.Pairwise.cons h.1 (pairB_iff R h.2)
theorem lots_key : ∀ n, n ≤ 6 → (lots n).Pairwise (fun a b => keyLt a b = true) := by
  intro n hn
  have : ∀ n ∈ List.range 7, pairB keyLt (lots n) = true := by decide +kernel
  exact pairB_iff _ (this n (List.mem_range.mpr (by omega)))
theorem lots_bits : ∀ n, n ≤ 6 → (bitLots n).Perm (lots n) := by
  intro n hn
  have : ∀ n ∈ List.range 7, (bitLots n).isPerm (lots n) = true := by decide +kernel
  exact List.isPerm_iff.mp (this n (List.mem_range.mpr (by omega)))
theorem lots_all : ∀ n, n ≤ 6 → ∀ l ∈ lots n, l.Pairwise (· < ·) ∧ (∀ x ∈ l, x < n) ∧ l.length ≤ 6 := by
  intro n hn
  have : ∀ n ∈ List.range 7, (lots n).all (fun l => pairB (fun a b : Nat => decide (a < b)) l && l.all (fun x => decide (x < n)) && decide (l.length ≤ 6)) = true := by decide +kernel
  have h := this n (List.mem_range.mpr (by omega))
  intro l hl
  have h1 := List.all_eq_true.mp h l hl
  simp only [Bool.and_eq_true, List.all_eq_true, decide_eq_true_eq] at h1
  refine ⟨(pairB_iff _ h1.1.1).imp fun h => by simpa using h, h1.1.2, h1.2⟩
theorem lots_len : ∀ n, n ≤ 6 → (lots n).length = 2 ^ n := by
  intro n hn
  rw [← (lots_bits n hn).length_eq]
  unfold bitLots
  rw [List.length_map, List.length_range]
theorem lexN_listLt : ∀ a b : List Nat, PySem.W.listLt (iN a) (iN b) = lexN a b
  | [], [] => rfl
  | [], _ :: _ => rfl
  | _ :: _, [] => rfl
  | x :: xs, y :: ys => by
    show (if ((x : Nat) : Int) = (y : Nat) then PySem.W.listLt (iN xs) (iN ys) else decide (((x : Nat) : Int) < (y : Nat))) = (if x = y then lexN xs ys else decide (x < y))
    by_cases h : x = y
    · rw [if_pos h, if_pos (by omega), lexN_listLt xs ys]
    · rw [if_neg h, if_neg (by omega)]
      exact decide_eq_decide.mpr (by omega)
theorem kD_lt (a b : List Nat) : PySem.W.dataLt (kD (iN a)) (kD (iN b)) = keyLt a b := by
  have h := PySem.W.DatumOrd.lt_eq (((iN a).length : Int), PySem.W.Tup.mk (iN a)) (((iN b).length : Int), PySem.W.Tup.mk (iN b))
  have e : PySem.W.dataLt (kD (iN a)) (kD (iN b)) = PySem.W.DatumOrd.lt (((iN a).length : Int), PySem.W.Tup.mk (iN a)) (((iN b).length : Int), PySem.W.Tup.mk (iN b)) := h
  rw [e]
  show (if ((iN a).length : Int) = ((iN b).length : Int) then PySem.W.listLt (iN a) (iN b) else decide (((iN a).length : Int) < ((iN b).length : Int))) = _
  have la : (iN a).length = a.length := List.length_map ..
  have lb : (iN b).length = b.length := List.length_map ..
  rw [la, lb, lexN_listLt]
  unfold keyLt
  by_cases h : a.length = b.length
  · rw [if_pos h, if_pos (by omega)]
  · rw [if_neg h, if_neg (by omega)]
    exact decide_eq_decide.mpr (by omega)
theorem kD_le (a b : List Nat) : PySem.W.dataLe false kD (iN a) (iN b) = !keyLt b a := by
  rw [← kD_lt]
  rfl
theorem lexN_tri : ∀ a b : List Nat, lexN a b = false → lexN b a = false → a = b
  | [], [], _, _ => rfl
  | [], _ :: _, h, _ => by cases h
  | _ :: _, [], _, h => by cases h
  | x :: xs, y :: ys, h1, h2 => by
    unfold lexN at h1 h2
    by_cases h : x = y
    · subst h
      rw [if_pos rfl] at h1 h2
      rw [lexN_tri xs ys h1 h2]
    · rw [if_neg h] at h1
      rw [if_neg (Ne.symm h)] at h2
      have h1' := of_decide_eq_false h1
      have h2' := of_decide_eq_false h2
      omega
theorem lexN_asy : ∀ a b : List Nat, lexN a b = true → lexN b a = false
  | [], [], h => by cases h
  | [], _ :: _, _ => rfl
  | _ :: _, [], h => by cases h
  | x :: xs, y :: ys, h1 => by
    unfold lexN at h1 ⊢
    by_cases h : x = y
    · subst h
      rw [if_pos rfl] at h1 ⊢
      exact lexN_asy xs ys h1
    · rw [if_neg h] at h1
      rw [if_neg (Ne.symm h)]
      have h1' := of_decide_eq_true h1
      exact decide_eq_false (by omega)
theorem keyLt_asy {a b : List Nat} (h : keyLt a b = true) : keyLt b a = false := by
  unfold keyLt at h ⊢
  by_cases e : a.length = b.length
  · rw [if_pos e] at h
    rw [if_pos e.symm]
    exact lexN_asy a b h
  · rw [if_neg e] at h
    rw [if_neg (Ne.symm e)]
    have h1' := of_decide_eq_true h
    exact decide_eq_false (by omega)
theorem keyLt_tri {a b : List Nat} (h1 : keyLt a b = false) (h2 : keyLt b a = false) : a = b := by
  unfold keyLt at h1 h2
  by_cases e : a.length = b.length
  · rw [if_pos e] at h1
    rw [if_pos e.symm] at h2
    exact lexN_tri a b h1 h2
  · rw [if_neg e] at h1
    rw [if_neg (Ne.symm e)] at h2
    have h1' := of_decide_eq_false h1
    have h2' := of_decide_eq_false h2
    omega
/-- the pieces, in order -/
def pcs (n : Nat) (r : Tb) : List (List Nat) := (lots n).filter (isP n r)
theorem pcs_uniq {n : Nat} (hn : n ≤ 6) (r : Tb) {mss : List (List Int)} (p : mss.Perm (((bitLots n).filter (isP n r)).map iN)) (h : mss.Pairwise fun a b => PySem.W.dataLe false kD a b = true) : mss = (pcs n r).map iN := by
  have hp : mss.Perm ((pcs n r).map iN) := p.trans (((lots_bits n hn).filter _).map _)
  have mem : ∀ a ∈ mss, ∃ l, a = iN l := fun a ha => by
    obtain ⟨l, _, e⟩ := List.mem_map.mp (hp.mem_iff.mp ha)
    exact ⟨l, e.symm⟩
  refine perm_eq (R := fun a b => PySem.W.dataLe false kD a b = true) (fun a ha b hb h1 h2 => ?_) h ?_ hp
  · obtain ⟨l, rfl⟩ := mem a ha
    obtain ⟨m, rfl⟩ := mem b hb
    rw [kD_le] at h1 h2
    have e1 : keyLt m l = false := by simpa using h1
    have e2 : keyLt l m = false := by simpa using h2
    rw [keyLt_tri e2 e1]
  · rw [List.pairwise_map]
    refine ((lots_key n hn).sublist List.filter_sublist).imp fun {a b} h => ?_
    rw [kD_le, keyLt_asy h]
    rfl
end PT

set_option Elab.async false
set_option linter.all false
set_option maxRecDepth 100000
set_option maxHeartbeats 4000000
namespace PT
open PySem PySem.Spec PyProof.Rows L2
theorem iN_map (l : List Nat) : (iN l).map PyData.int = l.map (fun k : Nat => PyData.int ((k : Nat) : Int)) := by
  unfold iN
  rw [List.map_map]
  rfl
theorem range_all_succ (p : Nat → Bool) {i : Nat} (h : (List.range i).all p = true) : (List.range (i + 1)).all p = p i := by
  rw [List.range_succ, List.all_append, h]
  simp
section
variable {K : PySem.W.Frag} {m : Md} {σ : L2.St} {H : Hp} {ta tb te : TE}
theorem el_sortT {l : List Nat} (h : ED K m te σ H (dN l)) (hl : l.length ≤ 1000) : EL K m (tCB (rSortT K) (tCons te tNil)) σ H ((iN (srt l)).map .int) := fun H1 e Q q =>
  h H1 e _ fun v H2 e2 p => by
    obtain ⟨a, xs, rfl, h1, h2⟩ := p.tup_inv
    have e3 := h2.ints_inv
    subst e3
    refine ⟨a, iN l, rfl, h1, by unfold iN; rw [List.length_map]; exact hl, fun ms p hp hs hf => ?_⟩
    have e4 := srt_uniq hp hs
    subst e4
    exact q _ _ (e2.trans (Rl.new e2.i hf)) ⟨p, _, rfl, e2.back hf, upd_same, RpAll.ints _⟩
theorem ed_tupSort {l : List Nat} (h : ED K m te σ H (dN l)) (hl : l.length ≤ 1000) : ED K m (tCB (rTupOf K) (tCons (tCB (rSortT K) (tCons te tNil)) tNil)) σ H (dN (srt l)) := ed_tupL (el_sortT h hl).eq
end
section
variable {P : Program} {w : World} {K : PySem.W.Frag} {mg : Str → Option Value} {base : Heap}
/-! ### is_piece -/
def sp_is_piece (K : PySem.W.Frag) : Sp := SpF K LtOk (fun a => [dTab a.n a.r, dN a.lot]) (fun a => .bool (isP a.n a.r a.lot))
theorem ok_is_piece {f f1 : Addr} {fd fd1 : FuncData} (B : Bt mg) (F : Fun K "is_piece" "is_piece" s_is_piece f fd) (F_parts_two : Fun K "parts_two" "parts_two" s_parts_two f1 fd1) (b_parts_two : Binds K fd1 P_parts_two []) (g_parts_two : mg "parts_two" = some (.ref f1)) :
    FnOk P w K mg base CX0 2 f fd P_is_piece (sp_is_piece K) := by
  have G_parts_two : FnOk P w K mg base CX0 1 f1 fd1 P_parts_two (sp_parts_two K) := ok_parts_two F_parts_two
  have m_range := B.range_
  have m_any := B.any_
  refine F.ok sc_is_piece (fun vs H Q E h => ?_) (fun cdv A outer s H vs Q E hr h => ?_)
  · obtain ⟨x, _, ha, _⟩ := h
    exact ha.length
  · obtain ⟨⟨n, r, lot⟩, ⟨hn, hl, hlt⟩, ha, q⟩ := h
    obtain ⟨v0, v1, rfl, h0, h1⟩ := ha.inv2
    refine ⟨_, (pss_cons (ps_asg (pv 0) (pg_tup rfl (pgs_cons (pg_name (i := 2) sc_is_piece.nd rfl (Or.inl rfl)) (pgs_cons (pg_name (i := 3) sc_is_piece.nd rfl (Or.inr rfl)) pgs_nil))))
      (pss_cons (ps_for PassesOwn.never rfl (pi_range1 (by rfl) m_range (pa_cons (pv 2) pa_nil)) (pg_name (i := 4) sc_is_piece.nd rfl (Or.inr rfl)) (pss_one (ps_if (PW.pt (pw_and (pt_cmpR (r := rIn K true) op_notIn_seq (pv 4) (pv 1) (by rfl)) (pw_and1 (pt_val (pe_callB (r := rAny K) (cr_any rfl) (by rfl) m_any (by decide +kernel) (pa_cons (pe_lc (own := [("other", 5)]) rfl sc_is_piece.nd (pi_tupK (K := K) (pe_slice (r := rSlA K) sl_tupA (pv 1) (po_some pe_int) po_none)) (blkOk_by (N := N_is_piece) (sc := (defScope s_is_piece)) (by decide +kernel)) (fun _ _ _ _ _ => (pg_name (i := 5) sc_is_piece.nd rfl (Or.inl rfl))) (fun _ _ _ _ _ => pts_nil) (fun _ _ _ _ _ => (pe_call G_parts_two (hr.mono (by decide)) (by rfl) g_parts_two F_parts_two.kp b_parts_two .nil pass0 (pa_cons (pv 3) (pa_cons (pv 4) (pa_cons (pe_ix (r := rIxT K) ix_tup (pv 1) pe_int (fun _ _ => rfl)) (pa_cons (pv 5) pa_nil))))))) pa_nil)))))) (pss_one (ps_ret pe_bl)) pss_nil)))
      (pss_one (ps_ret pe_bl)))), ?_⟩
    have hn : n ≤ 64 := hn
    have hl : lot.length ≤ 64 := hl
    have hlt : ∀ x ∈ lot, x < n := hlt
    refine q_unp2 (m := m0) i0 (ed_var rfl h0) fun v2 v3 H1 e1 p2 p3 => ?_
    refine q_forR1 (m := m0) (n := (n : Int)) i0 (ea_one (ed_var rfl p2)) (by omega)
      (fun i σ H' => (∃ y4 y5, σ = [some v0, some v1, some v2, some v3, y4, y5]) ∧ Ex H1 H' ∧ (List.range i).all (fun z => decide (z ∈ lot) || !((lot.drop 1).any fun y => ap r z (lot.getD 0 0) y)) = true)
      (fun H2 e2 => ⟨⟨none, none, rfl⟩, e2.ex0, rfl⟩) (fun z σ H2 hz hP => ?_) fun σ H2 hP => ?_
    · obtain ⟨⟨y4, y5, rfl⟩, e2, hf⟩ := hP
      have hz' : z < n := by omega
      have hh1 : Rp K H2 v1 (dN lot) := (h1.rl e1).tk' e2.tk
      have hh3 : Rp K H2 v3 (dRows n r) := p3.tk' e2.tk
      refine s_if (m := m0) (b := !decide (((z : Nat) : Int) ∈ iN lot) && ((lot.drop 1).map fun y => ap r z (lot.getD 0 0) y).any id) i0
        (et_and (et_test (ed_niT (ns := iN lot) (ed_var rfl (.int _)) (ed_var rfl hh1))) fun _ => et_B (ed_any (EL.eq ?_))) (fun hb H3 e3 => ?_) (fun hb H3 e3 => ?_)
      · -- the comprehension
        have hc := el_lcD (K := K) (m := m0) (σ := [some v0, some v1, some v2, some v3, some (.int (z : Nat)), y5]) (H := H2) (l := lot.drop 1) (j := 5) (fun y : Nat => PyData.int ((y : Nat) : Int)) (fun _ => true) (fun y => .bool (ap r z (lot.getD 0 0) y))
          (tt := tYes) (te := tCall (sp_parts_two K) [] E0 (tCons (tVar 3) (tCons (tVar 4) (tCons (tOp (rIxT K) (tVar 1) (tC (.int 0))) (tCons (tVar 5) tNil)))))
          (wi := iTup K (tSl (rSlA K) (tVar 1) (tPart (tC (.int 1))) tNoPart)) (by
            rw [← iN_map]
            exact ew_tup (ed_is (ed_slT (i := 1) (ed_var rfl hh1) (eo_some (K := K) ed_int) eo_none) (by rw [← lot_drop]))) (by rw [List.length_drop]; omega) (fun a x H4 ha e4 p => et_yes) (fun a x H4 ha e4 p _ => ?_)
        · rw [List.filter_eq_self.mpr (fun _ _ => rfl)] at hc
          rw [List.map_map]
          exact hc
        · have hlen : 1 < lot.length := by
            have := List.length_pos_of_mem ha
            rw [List.length_drop] at this
            omega
          have e0 : lot[0]? = some (lot.getD 0 0) := by
            rw [List.getD_eq_getElem?_getD, List.getElem?_eq_getElem (by omega)]
            rfl
          have hm0 : lot.getD 0 0 < n := hlt _ (List.mem_of_getElem? e0)
          have hma : a < n := hlt a (List.mem_of_mem_drop ha)
          have hx := p.int_inv
          subst hx
          refine ed_call (⟨n, r, z, lot.getD 0 0, a⟩ : XPt) ⟨hz', hm0, hma⟩ (ea_four (ed_var rfl (hh3.rl e4)) (ed_var rfl (.int _)) (ed_ixT (i := 0) (ed_var rfl (hh1.rl e4)) ed_int ?_) (ed_var rfl (.int _)))
          rw [iN_map, List.getElem?_map, e0]
          rfl
      · refine s_ret (m := m0) (P := fun _ v H2 => Rp K H2 v (.bool false)) i0 (Ev.edb ev_c) fun v H4 e4 p => q v H4 ((((e1.ex0.trans e2).trans e3.ex0).trans e4.ex0)) ?_
        have hfin : isP n r lot = false := by
          unfold isP
          rw [List.all_eq_false]
          refine ⟨z, List.mem_range.mpr hz', ?_⟩
          simp only [Bool.and_eq_true, Bool.not_eq_true', decide_eq_false_iff_not, iN_mem] at hb
          have h2 : (lot.drop 1).any (fun y => ap r z (lot.getD 0 0) y) = true := by
            have h3 := hb.2
            rw [List.any_map] at h3
            exact h3
          rw [h2, decide_eq_false hb.1]
          decide
        show Rp K H4 v (.bool (isP n r lot))
        rw [hfin]
        exact p
      · refine ⟨⟨_, _, rfl⟩, e2.trans e3.ex0, ?_⟩
        rw [range_all_succ _ hf]
        rw [List.any_map] at hb
        have hb' : (!decide (((z : Nat) : Int) ∈ iN lot) && (lot.drop 1).any fun y => ap r z (lot.getD 0 0) y) = false := hb
        by_cases hm : z ∈ lot
        · rw [decide_eq_true hm]
          rfl
        · rw [decide_eq_false (fun h => hm (iN_mem.mp h))] at hb'
          have : ((lot.drop 1).any fun y => ap r z (lot.getD 0 0) y) = false := by simpa using hb'
          rw [this]
          simp
    · obtain ⟨⟨y4, y5, rfl⟩, e2, hf⟩ := hP
      refine s_ret (m := m0) (P := fun _ v H2 => Rp K H2 v (.bool true)) i0 (Ev.edb ev_c) fun v H3 e3 p => q v H3 ((e1.ex0.trans e2).trans e3.ex0) ?_
      have e : ((n : Int)).toNat = n := by omega
      rw [e] at hf
      show Rp K H3 v (.bool (isP n r lot))
      unfold isP
      rw [hf]
      exact p
/-! ### growing -/
structure LtAsc (a : XLt) : Prop where
  ok : LtOk a
  nd : a.lot.Nodup
def sp_growing (K : PySem.W.Frag) : Sp := SpF K LtAsc (fun a => [dTab a.n a.r, dN a.lot]) (fun a => .tuple ((gr (a.n + 1) a.n a.r a.lot).map d3))
theorem dTold_d3 (t : Nat × Nat × Nat) : dTold (some t) = d3 t := rfl
theorem gr_some {k n : Nat} {r : Tb} {held : List Nat} {t : Nat × Nat × Nat} (h : told n r held = some t) : gr (k + 1) n r held = t :: gr k n r (srt (held ++ [t.1])) := by
  show (match told n r held with | none => [] | some t => t :: gr k n r (srt (held ++ [t.1]))) = _
  rw [h]
theorem gr_none {k n : Nat} {r : Tb} {held : List Nat} (h : told n r held = none) : gr k n r held = [] := by
  cases k with
  | zero => rfl
  | succ k =>
    show (match told n r held with | none => [] | some t => t :: gr k n r (srt (held ++ [t.1]))) = _
    rw [h]
def GrW (K : PySem.W.Frag) (n : Nat) (r : Tb) (lot : List Nat) (v0 v1 : V) (p : Addr) (H : Hp) (k : Nat) (σ : L2.St) (H' : Hp) : Prop := ∃ vh vt xs held ts, σ = [some v0, some v1, some vh, some (.ref p), some vt] ∧ Ex H H' ∧ Rp K H' vh (dN held) ∧ Rp K H' vt (dTold (told n r held)) ∧ H' p = some (.lst xs) ∧ RpAll K H' xs (ts.map d3) ∧ ts ++ gr k n r held = gr (n + 1) n r lot ∧ held.Nodup ∧ (∀ x ∈ held, x < n) ∧ held.length + k = lot.length + n + 1 ∧ held.length = lot.length + ts.length
theorem ok_growing {f f1 : Addr} {fd fd1 : FuncData} (B : Bt mg) (F : Fun K "growing" "growing" s_growing f fd) {k1 : Nat} (hk : k1 ≤ 2) (G_telling : FnOk P w K mg base CX0 k1 f1 fd1 P_telling (sp_telling K)) (F_telling : Fun K "telling" "telling" s_telling f1 fd1) (b_telling : Binds K fd1 P_telling []) (g_telling : mg "telling" = some (.ref f1)) :
    FnOk P w K mg base CX0 3 f fd P_growing (sp_growing K) := by
  have m_tuple := B.tuple_
  have m_sorted := B.sorted_
  have G_telling := G_telling.mono hk
  refine F.ok sc_growing (fun vs H Q E h => ?_) (fun cdv A outer s H vs Q E hr h => ?_)
  · obtain ⟨x, _, ha, _⟩ := h
    exact ha.length
  · obtain ⟨⟨n, r, lot⟩, ⟨⟨hn, hl, hlt⟩, hnd⟩, ha, q⟩ := h
    obtain ⟨v0, v1, rfl, h0, h1⟩ := ha.inv2
    have hu64 := hr.units
    refine ⟨_, (pss_cons (ps_par (i := 2) (j := 3) (by rfl) sc_growing.nd rfl rfl (by decide) rfl rfl (pa_cons (pv 1) (pa_cons (pe_lst pa_nil) pa_nil)) (by rfl))
      (pss_cons (ps_set (i := 4) sc_growing.nd rfl (Or.inl rfl) (pe_call G_telling (hr.mono (by decide)) (by rfl) g_telling F_telling.kp b_telling .nil pass0 (pa_cons (pv 0) (pa_cons (pv 2) pa_nil))))
      (pss_cons (ps_while PassesOwn.never (pt_cmp (pc_notN (pv 4))) (pss_cons (ps_expr (pe_bm PySem.F.plainAttrs_list PySem.F.slot_list_append PySem.F.type_list_append mt_append (pv 3) (pa_cons (pv 4) pa_nil)))
      (pss_cons (ps_set (i := 2) sc_growing.nd rfl (Or.inl rfl) (pe_callTy (r := rTupOf K) call_tuple_of (by rfl) m_tuple (by decide +kernel) (pa_cons (pe_callB (r := rSortT K) (cr_sortT hu64) (by rfl) m_sorted (by decide +kernel) (pa_cons (pe_op (r := rCatA K) op_catA (pv 2) (pe_tup (pa_cons (pe_ix (r := rIxT K) ix_tup (pv 4) pe_int (fun _ _ => rfl)) pa_nil))) pa_nil)) pa_nil)))
      (pss_one (ps_set (i := 4) sc_growing.nd rfl (Or.inl rfl) (pe_call G_telling (hr.mono (by decide)) (by rfl) g_telling F_telling.kp b_telling .nil pass0 (pa_cons (pv 0) (pa_cons (pv 2) pa_nil))))))))
      (pss_one (ps_ret (pe_callTy (r := rTupOf K) call_tuple_of (by rfl) m_tuple (by decide +kernel) (pa_cons (pv 3) pa_nil))))))), ?_⟩
    have hn : n ≤ 64 := hn
    have hl : lot.length ≤ 64 := hl
    have hlt : ∀ x ∈ lot, x < n := hlt
    have hnd : lot.Nodup := hnd
    refine q_par (m := m0) i0 (eg_cons (P1 := fun v H2 => Rp K H2 v (dN lot)) (ed_var rfl h1) (fun _ _ _ r h => h.rl r) (eg_one (EL.at (el_lst (K := K) (ds := []) ea_nil (Nat.zero_le _))))) fun vs H1 e1 hvs => ?_
    obtain ⟨vh, ws, rfl, hh, vp, rfl, p, xs, rfl, hp, hp1, hxs⟩ := hvs
    cases hxs
    refine ⟨vh, .ref p, rfl, ?_⟩
    refine q_asg (m := m0) i0 (ed_call (⟨n, r, lot⟩ : XLt) ⟨hn, hl, hlt⟩ (ea_two (ed_var rfl (h0.rl e1)) (ed_var rfl hh))) fun vt H2 e2 ht => ?_
    refine s_seq (s_while (m := m0) (GrW K n r lot v0 v1 p H)
      (n + 1) ⟨vh, vt, [], lot, [], rfl, e1.ex0.trans e2.ex0, hh.rl e2, ht, e2.ex0 _ _ hp1, .nil, rfl, hnd, hlt, by omega, by simp⟩ fun k σ H3 hW => ?_)
    obtain ⟨vh, vt, xs, held, ts, rfl, e3, hh, ht, hp3, hxs, hg, hhn, hhl, hlen, hts⟩ := hW
    have hll : held.length ≤ n := nodup_len hhn hhl
    refine ⟨trivial, _, et_B (ed_notN (ed_var rfl ht)), fun hb H4 e4 => ?_, fun hb H4 e4 => ?_⟩
    · cases htd : told n r held with
      | none =>
        rw [htd] at hb
        cases hb
      | some t =>
        rw [htd] at ht
        obtain ⟨t1, t2, t3, t4, t5⟩ := told_some htd
        have hhl2 : ∀ x ∈ srt (held ++ [t.1]), x < n := fun x hx => by
          rw [srt_mem, List.mem_append, List.mem_singleton] at hx
          rcases hx with h | h
          · exact hhl x h
          · rw [h]
            exact t1
        have hhn2 : (srt (held ++ [t.1])).Nodup := (srt_perm _).nodup_iff.mpr (List.nodup_append.mpr ⟨hhn, (List.pairwise_singleton _ _), fun a ha b hb => by
          rw [List.mem_singleton] at hb
          subst hb
          intro h
          exact t2 (h ▸ ha)⟩)
        have hlen2 : (srt (held ++ [t.1])).length = held.length + 1 := by
          rw [(srt_perm _).length_eq, List.length_append]
          rfl
        have hll2 : (srt (held ++ [t.1])).length ≤ n := nodup_len hhn2 hhl2
        have hxl : xs.length = ts.length := by
          rw [hxs.length, List.length_map]
        refine ⟨GrW K n r lot v0 v1 p H (k - 1), fun σ2 H2 h => ⟨k - 1, by omega, h⟩, ?body⟩
        case body =>
          refine s_seq (s_app (m := m0) (P := fun _ v H2 => Rp K H2 v (d3 t)) i0 (fun z => z) (e4.ex0 _ _ hp3) (ev_var rfl) (ed_var rfl (ht.rl e4)) (by omega) (fun v H5 e5 pv hp5 => ?_) fun _ _ _ _ _ p => p)
          have e6 : Ex H (upd H5 p (.lst (xs ++ [v]))) := (Rl.mut (m := m0) (Rl.of0 (e3.trans (e4.ex0.trans e5.ex0))) hp).ex0
          have k6 : Tk K H5 (upd H5 p (.lst (xs ++ [v]))) := Tk.updL hp5
          have k36 : Tk K H3 (upd H5 p (.lst (xs ++ [v]))) := (e4.tk.trans e5.tk).trans k6
          refine q_asg (m := m0) i0 (ed_tupSort (l := held ++ [t.1]) (ed_is (ed_cat (es := [.int (t.1 : Nat)]) (ed_var rfl (hh.tk' k36)) (ed_tup (K := K) (ea_one (ed_ixT (i := 0) (ed_var rfl (ht.tk' k36)) ed_int rfl)) (by show 1 ≤ 100000; decide)) (by rw [lot_len]; show held.length + 1 ≤ 100000; omega)) (by
            show PyData.tuple _ = dT (iN (held ++ [t.1]))
            unfold dT iN
            rw [List.map_append, List.map_append]
            rfl)) (by rw [List.length_append]; show held.length + 1 ≤ 1000; omega)) fun vh2 H7 e7 hh7 => ?_
          refine s_asg (m := m0) i0 (ed_call (⟨n, r, srt (held ++ [t.1])⟩ : XLt) ⟨hn, (by show (srt (held ++ [t.1])).length ≤ 64; omega), hhl2⟩ (ea_two (ed_var rfl (h0.tk' (e6.trans e7.ex0).tk)) (ed_var rfl hh7))) fun vt2 H8 e8 ht8 => ?_
          refine ⟨vh2, vt2, xs ++ [v], srt (held ++ [t.1]), ts ++ [t], rfl, (e6.trans e7.ex0).trans e8.ex0, hh7.rl e8, ht8, e8.ex0 _ _ (e7.ex0 _ _ upd_same), ?_, ?_, hhn2, hhl2, by omega, by rw [List.length_append]; show _ = lot.length + (ts.length + 1); omega⟩
          · rw [List.map_append]
            exact ((hxs.tk' k36).append (RpAll.one (pv.tk' k6))).tk' (e7.tk.trans e8.tk)
          · rw [← hg, List.append_assoc]
            obtain ⟨k0, rfl⟩ : ∃ k0, k = k0 + 1 := ⟨k - 1, by omega⟩
            rw [gr_some htd]
            rfl
    · cases htd : told n r held with
      | some t =>
        rw [htd] at hb
        cases hb
      | none =>
        refine s_ret (m := m0) i0 (ed_tupL (K := K) (eq_var rfl ⟨p, xs, rfl, fun z => z, e4.ex0 _ _ hp3, hxs.rl e4⟩)) fun v H5 e5 pv => q v H5 ((e3.trans e4.ex0).trans e5.ex0) ?_
        rw [gr_none htd, List.append_nil] at hg
        show Rp K H5 v (.tuple ((gr (n + 1) n r lot).map d3))
        rw [← hg]
        exact pv
/-! ### least_piece -/
def sp_least_piece (K : PySem.W.Frag) : Sp := SpF K LtAsc (fun a => [dTab a.n a.r, dN a.lot]) (fun a => dN (srt (a.lot ++ (gr (a.n + 1) a.n a.r a.lot).map (·.1))))
theorem gr_nodup {n : Nat} {r : Tb} : ∀ (k : Nat) (held : List Nat), held.Nodup → (∀ x ∈ held, x < n) → (held ++ (gr k n r held).map (·.1)).Nodup ∧ ∀ x ∈ (gr k n r held).map (·.1), x < n
  | 0, held, h, hl => by
    refine ⟨?_, fun x hx => by cases hx⟩
    show (held ++ []).Nodup
    rw [List.append_nil]
    exact h
  | k + 1, held, h, hl => by
    cases ht : told n r held with
    | none =>
      rw [gr_none ht]
      refine ⟨?_, fun x hx => by cases hx⟩
      show (held ++ []).Nodup
      rw [List.append_nil]
      exact h
    | some t =>
      obtain ⟨t1, t2, _⟩ := told_some ht
      rw [gr_some ht]
      have hp : (srt (held ++ [t.1])).Perm (held ++ [t.1]) := srt_perm _
      have h2 : (held ++ [t.1]).Nodup := List.nodup_append.mpr ⟨h, (List.pairwise_singleton _ _), fun a ha b hb => by
        rw [List.mem_singleton] at hb
        subst hb
        intro h
        exact t2 (h ▸ ha)⟩
      have h3 : ∀ x ∈ held ++ [t.1], x < n := fun x hx => by
        rw [List.mem_append, List.mem_singleton] at hx
        rcases hx with h | h
        · exact hl x h
        · rw [h]
          exact t1
      obtain ⟨i1, i2⟩ := gr_nodup k (srt (held ++ [t.1])) (hp.nodup_iff.mpr h2) (fun x hx => h3 x (hp.mem_iff.mp hx))
      refine ⟨?_, fun x hx => ?_⟩
      · rw [List.map_cons]
        have e : held ++ t.1 :: (gr k n r (srt (held ++ [t.1]))).map (·.1) = (held ++ [t.1]) ++ (gr k n r (srt (held ++ [t.1]))).map (·.1) := by simp
        rw [e]
        exact ((hp.append_right _).nodup_iff).mp i1
      · rw [List.map_cons, List.mem_cons] at hx
        rcases hx with h | h
        · rw [h]
          exact t1
        · exact i2 x h
theorem gr_len {n : Nat} {r : Tb} {lot : List Nat} (h : lot.Nodup) (hl : ∀ x ∈ lot, x < n) (k : Nat) : lot.length + (gr k n r lot).length ≤ n := by
  obtain ⟨h1, h2⟩ := gr_nodup (r := r) k lot h hl
  have := nodup_len h1 fun x hx => by
    rw [List.mem_append] at hx
    exact hx.elim (hl x) (h2 x)
  rw [List.length_append, List.length_map] at this
  exact this
theorem ok_least_piece {f f1 : Addr} {fd fd1 : FuncData} (B : Bt mg) (F : Fun K "least_piece" "least_piece" s_least_piece f fd) (G_growing : FnOk P w K mg base CX0 3 f1 fd1 P_growing (sp_growing K)) (F_growing : Fun K "growing" "growing" s_growing f1 fd1) (b_growing : Binds K fd1 P_growing []) (g_growing : mg "growing" = some (.ref f1)) :
    FnOk P w K mg base CX0 4 f fd P_least_piece (sp_least_piece K) := by
  have m_tuple := B.tuple_
  have m_sorted := B.sorted_
  refine F.ok sc_least_piece (fun vs H Q E h => ?_) (fun cdv A outer s H vs Q E hr h => ?_)
  · obtain ⟨x, _, ha, _⟩ := h
    exact ha.length
  · obtain ⟨⟨n, r, lot⟩, ⟨⟨hn, hl, hlt⟩, hnd⟩, ha, q⟩ := h
    obtain ⟨v0, v1, rfl, h0, h1⟩ := ha.inv2
    have hu64 := hr.units
    refine ⟨_, (pss_one (ps_ret (pe_callTy (r := rTupOf K) call_tuple_of (by rfl) m_tuple (by decide +kernel) (pa_cons (pe_callB (r := rSortT K) (cr_sortT hu64) (by rfl) m_sorted (by decide +kernel) (pa_cons (pe_op (r := rCatA K) op_catA (pv 1) (pe_callTy (r := rTupOf K) call_tuple_of (by rfl) m_tuple (by decide +kernel) (pa_cons (pe_lc (own := [("triple", 2)]) rfl sc_least_piece.nd (pi_tupK (K := K) (pe_call G_growing (hr.mono (by decide)) (by rfl) g_growing F_growing.kp b_growing .nil pass0 (pa_cons (pv 0) (pa_cons (pv 1) pa_nil)))) (blkOk_by (N := N_least_piece) (sc := (defScope s_least_piece)) (by decide +kernel)) (fun _ _ _ _ _ => (pg_name (i := 2) sc_least_piece.nd rfl (Or.inl rfl))) (fun _ _ _ _ _ => pts_nil) (fun _ _ _ _ _ => (pe_ix (r := rIxT K) ix_tup (pv 2) pe_int (fun _ _ => rfl)))) pa_nil))) pa_nil)) pa_nil)))), ?_⟩
    have hn : n ≤ 64 := hn
    have hl : lot.length ≤ 64 := hl
    have hlt : ∀ x ∈ lot, x < n := hlt
    have hnd : lot.Nodup := hnd
    have hgl := gr_len (r := r) hnd hlt (n + 1)
    refine s_ret (m := m0) i0 (ed_tupSort (l := lot ++ (gr (n + 1) n r lot).map (·.1)) (ed_is (ed_cat (ed_var rfl h1) (ed_tupL (EL.eq (el_lcD (K := K) (l := gr (n + 1) n r lot) d3 (fun _ => true) (fun t => .int (t.1 : Nat)) (ew_tup (ed_call (⟨n, r, lot⟩ : XLt) ⟨⟨hn, hl, hlt⟩, hnd⟩ (ea_two (ed_var rfl h0) (ed_var rfl h1)))) (by omega) (fun a x H1 ha e p => et_yes) (fun a x H1 ha e p _ => ed_ixT (i := 0) (ed_var rfl p) ed_int rfl)))) (by rw [lot_len, List.length_map, List.filter_eq_self.mpr (fun _ _ => rfl)]; omega)) ?_) (by rw [List.length_append, List.length_map]; omega)) fun v H1 e1 p => q v H1 e1.ex0 p
    rw [List.filter_eq_self.mpr (fun _ _ => rfl)]
    show PyData.tuple _ = dT (iN (lot ++ _))
    unfold dT iN
    rw [List.map_append, List.map_append, List.map_map, List.map_map, List.map_map]
    rfl
end
end PT

set_option Elab.async false
set_option linter.all false
set_option maxRecDepth 100000
set_option maxHeartbeats 4000000
namespace PT
open PySem PySem.Spec PyProof.Rows L2
section
variable {K : PySem.W.Frag} {m : Md} {σ : L2.St} {H : Hp} {ta tb te tf : TE}
theorem map_dN (l : List (List Nat)) : l.map dN = (l.map iN).map dT := by
  rw [List.map_map]
  rfl
theorem el_sortK {fk : Addr} {l L : List (List Nat)} (h : EQ K m te σ H (l.map dN)) (hf : Ev m tf σ H (.ref fk)) (hz : ∀ x ∈ l, x.length ≤ 1000) (hz2 : l.length ≤ 1000)
    (hu : ∀ mss : List (List Int), mss.Perm (l.map iN) → mss.Pairwise (fun a b => PySem.W.dataLe false kD a b = true) → mss = L.map iN) : EL K m (tCKw (rSortK K fk) (tCons te tNil) (tCons tf tNil)) σ H (L.map dN) := fun H1 e Q q =>
  h H1 e _ fun v H2 e2 p => hf H2 (e.trans e2) _ fun v2 H3 e3 p3 => by
    obtain ⟨a, xs, rfl, hm, h1, h2⟩ := p.rl e3
    refine ⟨a, xs, l.map iN, rfl, by rw [p3], .inl (.inl h1), by rw [← map_dN]; exact h2, fun ns hn => ?_, by rw [List.length_map]; exact hz2, fun ys mss p hp hs hy hf => ?_⟩
    · obtain ⟨x, hx, rfl⟩ := List.mem_map.mp hn
      unfold iN
      rw [List.length_map]
      exact hz x hx
    · have e4 := hu mss hp hs
      subst e4
      have r4 := (e2.trans e3)
      refine q _ _ (r4.trans (Rl.new r4.i hf)) ⟨p, ys, rfl, r4.back hf, upd_same, ?_⟩
      rw [map_dN]
      exact hy.tk' (Tk.new hf)
theorem ed_odd {n : Nat} (ha : ED K m ta σ H (.int (n : Int))) (hb : ED K m tb σ H (.int 1)) : ED K m (tOp (fun x y H Q => ∃ n : Nat, x = .int (n : Int) ∧ y = .int 1 ∧ Q (.int ((n % 2 : Nat) : Int)) H) ta tb) σ H (.int ((n % 2 : Nat) : Int)) :=
  ed_op ha hb fun x y H1 e p1 p2 Q q => ⟨n, p1.int_inv, p2.int_inv, q _ H1 (Rl.refl e.i) (.int _)⟩
theorem ed_shrN {i : Int} {k : Nat} (ha : ED K m ta σ H (.int i)) (hb : ED K m tb σ H (.int (k : Int))) : ED K m (tOp (fun x y H Q => ∃ (i : Int) (k : Nat), x = .int i ∧ y = .int (k : Int) ∧ Q (.int (i / 2 ^ k)) H) ta tb) σ H (.int (i / 2 ^ k)) :=
  ed_op ha hb fun x y H1 e p1 p2 Q q => ⟨i, k, p1.int_inv, p2.int_inv, q _ H1 (Rl.refl e.i) (.int _)⟩
theorem ed_oneShl {k : Nat} (ha : ED K m ta σ H (.int 1)) (hb : ED K m tb σ H (.int (k : Int))) (hk : k ≤ 134217727) : ED K m (tOp (fun x y H Q => ∃ k : Nat, x = .int 1 ∧ y = .int (k : Int) ∧ k ≤ 134217727 ∧ Q (.int (2 ^ k)) H) ta tb) σ H (.int (2 ^ k)) :=
  ed_op ha hb fun x y H1 e p1 p2 Q q => ⟨k, p1.int_inv, p2.int_inv, hk, q _ H1 (Rl.refl e.i) (.int _)⟩
end
section
variable {P : Program} {w : World} {K : PySem.W.Frag} {mg : Str → Option Value} {base : Heap}
/-! ### pieces -/
structure XT where
  n : Nat
  r : Tb
def sp_pieces (K : PySem.W.Frag) : Sp := SpF K (α := XT) (fun a => a.n ≤ 6) (fun a => [dTab a.n a.r]) (fun a => .tuple ((pcs a.n a.r).map dN))
theorem bits_ok {n b : Nat} : ∀ x ∈ bits n b, x < n := fun x hx => List.mem_range.mp (List.mem_filter.mp hx).1
theorem bits_len {n b : Nat} : (bits n b).length ≤ n := by
  have := List.length_filter_le (fun t => b / 2 ^ t % 2 == 1) (List.range n)
  rw [List.length_range] at this
  exact this
theorem ok_pieces {f f1 f_lot_key : Addr} {fd fd1 fdk : FuncData} (B : Bt mg) (F : Fun K "pieces" "pieces" s_pieces f fd) (G_is_piece : FnOk P w K mg base CX0 2 f1 fd1 P_is_piece (sp_is_piece K)) (F_is_piece : Fun K "is_piece" "is_piece" s_is_piece f1 fd1) (b_is_piece : Binds K fd1 P_is_piece []) (g_is_piece : mg "is_piece" = some (.ref f1))
    (F_lot_key : Fun K "lot_key" "lot_key" sKey f_lot_key fdk) (g_lot_key : mg "lot_key" = some (.ref f_lot_key)) :
    FnOk P w K mg base CX0 3 f fd P_pieces (sp_pieces K) := by
  have m_tuple := B.tuple_
  have m_sorted := B.sorted_
  have m_range := B.range_
  have m_len := B.len_
  refine F.ok sc_pieces (fun vs H Q E h => ?_) (fun cdv A outer s H vs Q E hr h => ?_)
  · obtain ⟨x, _, ha, _⟩ := h
    exact ha.length
  · obtain ⟨⟨n, r⟩, hn, ha, q⟩ := h
    obtain ⟨v0, rfl, h0⟩ := ha.inv1
    have hu64 := hr.units
    have hdp := hr.depth
    refine ⟨_, (pss_cons (ps_set (i := 1) sc_pieces.nd rfl (Or.inl rfl) (pe_ix (r := rIxT K) ix_tup (pv 0) pe_int (fun _ _ => rfl)))
      (pss_cons (ps_set (i := 2) sc_pieces.nd rfl (Or.inl rfl) (pe_lst pa_nil))
      (pss_cons (ps_for PassesOwn.never rfl (pi_range1 (by rfl) m_range (pa_cons (pe_op op_oneShl pe_int (pv 1)) pa_nil)) (pg_name (i := 3) sc_pieces.nd rfl (Or.inr rfl)) (pss_one (ps_expr (pe_bm PySem.F.plainAttrs_list PySem.F.slot_list_append PySem.F.type_list_append mt_append (pv 2) (pa_cons (pe_callTy (r := rTupOf K) call_tuple_of (by rfl) m_tuple (by decide +kernel) (pa_cons (pe_lc (own := [("thing", 5)]) rfl sc_pieces.nd (pi_range1 (by rfl) m_range (pa_cons (pv 1) pa_nil)) (blkOk_by (N := N_pieces) (sc := (defScope s_pieces)) (by decide +kernel)) (fun _ _ _ _ _ => (pg_name (i := 5) sc_pieces.nd rfl (Or.inl rfl))) (fun _ _ _ _ _ => (pts_one (pt_cmpR op_eq (pe_op op_odd (pe_op op_shrN (pv 3) (pv 5)) pe_int) pe_int (nomark _)))) (fun _ _ _ _ _ => (pv 5))) pa_nil)) pa_nil)))))
      (pss_one (ps_ret (pe_callTy (r := rTupOf K) call_tuple_of (by rfl) m_tuple (by decide +kernel) (pa_cons (pe_callBK (r := rSortK K f_lot_key) (cr_sortK F_lot_key m_len hdp hu64) (by rfl) m_sorted (by decide +kernel) (pa_cons (pe_lc (own := [("lot", 4)]) rfl sc_pieces.nd (pi_listK (K := K) (pv 2)) (blkOk_by (N := N_pieces) (sc := (defScope s_pieces)) (by decide +kernel)) (fun _ _ _ _ _ => (pg_name (i := 4) sc_pieces.nd rfl (Or.inl rfl))) (fun _ _ _ _ _ => (pts_one (pt_val (pe_call G_is_piece (hr.mono (by decide)) (by rfl) g_is_piece F_is_piece.kp b_is_piece .nil pass0 (pa_cons (pv 0) (pa_cons (pv 4) pa_nil)))))) (fun _ _ _ _ _ => (pv 4))) pa_nil) (pk_cons (pe_glob (v := .ref f_lot_key) rfl g_lot_key rfl) pk_nil)) pa_nil))))))), ?_⟩
    have hn : n ≤ 6 := hn
    have hpow : 2 ^ n ≤ 64 := Nat.pow_le_pow_right (n := 2) (by decide) hn
    refine q_asg (m := m0) i0 (ed_ixT (i := 0) (ed_var rfl h0) ed_int rfl) fun v1 H1 e1 h1 => ?_
    have hv1 := h1.int_inv
    subst hv1
    refine q_asg (m := m0) i0 (EL.at (el_lst (K := K) (ds := []) ea_nil (Nat.zero_le _))) fun v2 H2 e2 h2 => ?_
    obtain ⟨p, xs, rfl, hp, hp2, hxs⟩ := h2
    cases hxs
    refine q_forR1 (K := K) (m := m0) (n := ((2 ^ n : Nat) : Int)) i0 (ea_one (ed_is (ed_oneShl ed_int (ed_var rfl (.int _)) (by omega)) (by norm_cast))) ⟨Int.natCast_nonneg _, Int.le_trans (Int.ofNat_le.mpr hpow) (by decide)⟩
      (fun i σ H' => (∃ y3, σ = [some v0, some (.int (n : Nat)), some (.ref p), y3, none, none]) ∧ Ex H1 H' ∧ ∃ xs, H' p = some (.lst xs) ∧ RpAll K H' xs (((List.range i).map (bits n)).map dN))
      (fun H3 e3 => ⟨⟨none, rfl⟩, e2.ex0.trans e3.ex0, [], e3.ex0 _ _ hp2, .nil⟩) (fun b σ H3 hz hP => ?_) fun σ H3 hP => ?_
    · obtain ⟨⟨y3, rfl⟩, e3, xs, hp3, hxs⟩ := hP
      have hb : b < 2 ^ n := Int.ofNat_lt.mp hz
      have hxl : xs.length = b := by
        rw [hxs.length, List.length_map, List.length_map, List.length_range]
      refine s_app (m := m0) (P := fun _ v H2 => Rp K H2 v (dN (bits n b))) i0 (fun z => z) hp3 (ev_var rfl) (ed_is (ed_tupL (EL.eq (el_lcR (K := K) (n := n) (fun t => b / 2 ^ t % 2 == 1) (fun t => .int (t : Nat)) (ea_one (ed_var rfl (.int _))) (by omega) (fun t H4 ht e4 => et_is (et_test (K := K) (ed_eqI (ed_odd (n := b / 2 ^ t) (ed_is (ed_shrN (ed_var rfl (.int _)) (ed_var rfl (.int _))) (by norm_cast)) ed_int) ed_int)) (by
        rw [Bool.eq_iff_iff]
        simp only [decide_eq_true_eq, beq_iff_eq]
        omega)) (fun t H4 ht e4 _ => ed_var rfl (.int _))))) (by rw [← iN_map]; rfl)) (by omega) (fun v H5 e5 pv hp5 => ?_) fun _ _ _ _ _ p => p
      · refine ⟨⟨_, rfl⟩, (Rl.mut (m := m0) (Rl.of0 (e3.trans e5.ex0)) hp).ex0, _, upd_same, ?_⟩
        rw [List.range_succ, List.map_append, List.map_append]
        exact ((hxs.rl e5).append (RpAll.one pv)).tk' (Tk.updL hp5)
    · obtain ⟨⟨y3, rfl⟩, e3, xs, hp3, hxs⟩ := hP
      rw [Int.toNat_natCast] at hxs
      refine s_ret (m := m0) i0 (ed_tupL (el_sortK (L := pcs n r) (EL.eq (el_lcD (K := K) (l := bitLots n) dN (isP n r) dN (ew_list (eq_var rfl ⟨p, xs, rfl, fun z => z, hp3, hxs⟩)) (by show ((List.range (2 ^ n)).map (bits n)).length ≤ _; rw [List.length_map, List.length_range]; omega) (fun a x H4 ha e4 pa => et_B (ed_call (⟨n, r, a⟩ : XLt) ?_ (ea_two (ed_var rfl (h0.tk' ((e1.ex0.trans e3).trans e4.ex0).tk)) (ed_var rfl pa)))) (fun a x H4 ha e4 pa _ => ed_var rfl pa))) ?_ ?_ ?_ ?_).eq) fun v H5 e5 pv => q v H5 ((e1.ex0.trans e3).trans e5.ex0) pv
      · obtain ⟨b, hb, rfl⟩ := List.mem_map.mp ha
        exact ⟨by show n ≤ 64; omega, by have := bits_len (n := n) (b := b); show (bits n b).length ≤ 64; omega, bits_ok⟩
      · exact ev_c
      · intro x hx
        obtain ⟨b, hb, rfl⟩ := List.mem_map.mp (List.mem_filter.mp hx).1
        have := bits_len (n := n) (b := b)
        omega
      · have h1 := List.length_filter_le (isP n r) (bitLots n)
        have h2 : (bitLots n).length = 2 ^ n := by
          show ((List.range (2 ^ n)).map (bits n)).length = _
          rw [List.length_map, List.length_range]
        omega
      · exact fun mss hp hs => pcs_uniq hn r hp hs
end
end PT

set_option Elab.async false
set_option linter.all false
set_option maxRecDepth 100000
set_option maxHeartbeats 4000000
namespace PT
open PySem PySem.Spec PyProof.Rows L2
/-- a promise, told of by the heap ahead and the result -/
def SpX (K : PySem.W.Frag) {α : Type} (Pre : α → Prop) (args : α → List PyData) (post : α → Hp → V → Hp → Prop) : Sp := fun vs H Q _ => ∃ x : α, Pre x ∧ RpAll K H vs (args x) ∧ ∀ v H', Ex H H' → post x H v H' → Q v H'
section
variable {K : PySem.W.Frag} {m : Md} {σ : L2.St} {H : Hp} {ta tb te tf : TE} {α : Type} {Pre : α → Prop} {args : α → List PyData} {post : α → Hp → V → Hp → Prop}
theorem ep_callX {E : XK} {t : TA} (x : α) (hx : Pre x) (ha : EA m t σ H fun vs H2 => RpAll K H2 vs (args x)) (hm : ∀ A B v C, Rl m A B → post x B v C → post x A v C) : EvP m (tCall (SpX K Pre args post) [] E t) σ H (post x) := fun H1 e Q q =>
  ha H1 e _ fun vs H2 e2 p => ⟨x, hx, by rw [List.append_nil]; exact p, fun v H3 e3 p3 => q v H3 (e2.trans (Rl.ex e2.i e3)) (hm _ _ _ _ e2 p3)⟩
theorem newL_back {ds : List PyData} {A B C : Hp} {v : V} (e : Rl m A B) (h : NewL K ds B v C) : NewL K ds A v C := by
  obtain ⟨p, xs, h1, h2, h3⟩ := h
  exact ⟨p, xs, h1, e.back h2, h3⟩
theorem el_call {E : XK} {t : TA} {ds : α → List PyData} (x : α) (hx : Pre x) (ha : EA m t σ H fun vs H2 => RpAll K H2 vs (args x)) : EL K m (tCall (SpX K Pre args fun x => NewL K (ds x)) [] E t) σ H (ds x) := ep_callX (post := fun x => NewL K (ds x)) x hx ha fun _ _ _ _ e h => newL_back e h
/-- the pairs of two ranges that a test keeps -/
def two (n n' : Nat) (f : Nat → Nat → Bool) : List (Nat × Nat) := (List.range n).flatMap fun x => ((List.range n').filter (f x)).map fun y => (x, y)
theorem two_succ (n n' : Nat) (f : Nat → Nat → Bool) : two (n + 1) n' f = two n n' f ++ ((List.range n').filter (f n)).map fun y => (n, y) := by
  unfold two
  rw [List.range_succ, List.flatMap_append, List.flatMap_singleton]
theorem filt_succ {f : Nat → Bool} (j : Nat) : (List.range (j + 1)).filter f = (List.range j).filter f ++ if f j = true then [j] else [] := by
  rw [List.range_succ, List.filter_append]
  congr 1
  by_cases h : f j = true
  · rw [if_pos h, List.filter_cons_of_pos h]
    rfl
  · rw [if_neg h, List.filter_cons_of_neg h]
    rfl
theorem filt_len {f : Nat → Bool} (j : Nat) : ((List.range j).filter f).length ≤ j := by
  have := List.length_filter_le f (List.range j)
  rw [List.length_range] at this
  exact this
theorem two_len (n n' : Nat) (f : Nat → Nat → Bool) : (two n n' f).length ≤ n * n' := by
  induction n with
  | zero => exact Nat.zero_le _
  | succ n ih =>
    rw [two_succ, List.length_append, List.length_map, Nat.succ_mul]
    have := filt_len (f := f n) n'
    omega
/-- [e for x in range(n) for y in range(n') if f x y] -/
theorem el_lc2R {a1 a2 : TA} {tt1 : TT} {i j n n' : Nat} (f : Nat → Nat → Bool) (dv : Nat × Nat → PyData) (h1 : EA m a1 σ H fun vs H2 => RpAll K H2 vs [.int (n : Int)])
    (h2 : ∀ (x : Nat) H1, x < n → Rl m H H1 → EA m a2 ((wipe σ [i, j]).set i (some (.int (x : Int)))) H1 fun vs H2 => RpAll K H2 vs [.int (n' : Int)]) (hz : n ≤ 200 ∧ n' ≤ 200)
    (hw1 : ∀ v, wipe ((wipe σ [i, j]).set i (some v)) [i, j] = wipe σ [i, j]) (hw2 : ∀ v u, wipe ((wipe ((wipe σ [i, j]).set i (some v)) [j]).set j (some u)) [j] = wipe ((wipe σ [i, j]).set i (some v)) [j])
    (ht : ∀ (x y : Nat) H1, x < n → y < n' → Rl m H H1 → ET m tt1 ((wipe ((wipe σ [i, j]).set i (some (.int (x : Int)))) [j]).set j (some (.int (y : Int)))) H1 (f x y))
    (he : ∀ (x y : Nat) H1, x < n → y < n' → Rl m H H1 → f x y = true → ED K m te ((wipe ((wipe σ [i, j]).set i (some (.int (x : Int)))) [j]).set j (some (.int (y : Int)))) H1 (dv (x, y))) :
    EL K m (tLc2 (iRng1 a1) (gName i) tYes (iRng1 a2) (gName j) tt1 te [i, j] [j]) σ H ((two n n' f).map dv) := fun H0 e0 Q q =>
  ew_rng1 h1 (by omega) H0 e0 _ fun J H1 e1 hgo hstop hyld Dl hD => by
    have en : ((n : Int)).toNat = n := by omega
    rw [en] at hgo hstop hyld
    have nD : ¬ m.M Dl := Md.notM e1.i hD
    refine ⟨fun x k H' => k = n - x ∧ x ≤ n ∧ Rl m H1 H' ∧ ∃ xs, H' Dl = some (.lst xs) ∧ RpAll K H' xs ((two x n' f).map dv), ⟨n, by simp, Nat.zero_le _, Rl.new e1.i hD, [], upd_same, .nil⟩, ?_⟩
    rintro x k H' ⟨rfl, hx, r, xs, hl, hR⟩
    by_cases hlt : x < n
    · refine .inr ⟨hgo x H' hlt r, fun H2 => Rl m H1 H2 ∧ ∃ xs, H2 Dl = some (.lst xs) ∧ RpAll K H2 xs ((two (x + 1) n' f).map dv), fun H2 h2 => ⟨n - (x + 1), by omega, rfl, hlt, h2⟩, fun v H2 yl => ?_⟩
      obtain ⟨r2, hv⟩ := hyld x H' v H2 hlt r yl
      subst hv
      show gName i (V.int (x : Int)) (wipe σ [i, j]) H2 _
      unfold gName
      refine ⟨hw1 _, ?_⟩
      refine et_yes H2 (Rl.refl r2.i) _ fun H3 e3 => ?_
      rw [if_pos rfl]
      have r3 := (r2.trans e3)
      have rr3 := ((e0.trans e1).trans r).trans r3
      refine h2 x H3 hlt rr3 H3 (Rl.refl e3.i) _ fun vs H4 e4 pvs => ?_
      have hvs := RpAll.ints_inv (ns := [(n' : Int)]) pvs
      subst hvs
      have en' : ((n' : Int)).toNat = n' := by omega
      refine ⟨(n' : Int), rfl, by omega, by omega, ?_⟩
      rw [en']
      refine ⟨fun y k H' => k = n' - y ∧ y ≤ n' ∧ Rl m H1 H' ∧ ∃ xs, H' Dl = some (.lst xs) ∧ RpAll K H' xs ((two x n' f ++ ((List.range y).filter (f x)).map fun y => (x, y)).map dv), ⟨n', by simp, Nat.zero_le _, (r.trans r3).trans e4, xs, (r3.trans e4).at nD hl, ?_⟩, ?_⟩
      · show RpAll K H4 xs ((two x n' f ++ []).map dv)
        rw [List.append_nil]
        exact hR.rl (r3.trans e4)
      rintro y k H5 ⟨rfl, hy, r15, ys, hl5, hR5⟩
      by_cases hlt2 : y < n'
      · refine .inr ⟨hlt2, fun H2 => Rl m H1 H2 ∧ ∃ xs, H2 Dl = some (.lst xs) ∧ RpAll K H2 xs ((two x n' f ++ ((List.range (y + 1)).filter (f x)).map fun y => (x, y)).map dv), fun H2 h2 => ⟨n' - (y + 1), by omega, rfl, hlt2, h2⟩, fun v H6 yl1 => ?_⟩
        obtain ⟨rfl, rfl⟩ := yl1
        rw [Int.zero_add]
        refine ⟨hw2 _ _, ?_⟩
        have rr6 : Rl m H H6 := ((e0.trans e1).trans r15)
        refine ht x y H6 hlt hlt2 rr6 H6 (Rl.refl r15.i) _ fun H7 e7 => ?_
        cases hf : f x y with
        | true =>
          rw [if_pos rfl]
          refine he x y H6 hlt hlt2 rr6 hf H7 e7 _ fun z H8 e8 pz => ?_
          have r8 := e7.trans e8
          have hlen : ys.length < 100000 := by
            rw [hR5.length, List.length_map, List.length_append, List.length_map]
            have a1 := two_len x n' f
            have a2 := filt_len (f := f x) y
            have a3 : x * n' ≤ 200 * 200 := Nat.mul_le_mul (by omega) hz.2
            omega
          refine ⟨ys, r8.at nD hl5, len_lt hlen, Rl.mut (r15.trans r8) hD, ys ++ [z], upd_same, ?_⟩
          rw [filt_succ, if_pos hf, List.map_append (f := fun y => (x, y)), ← List.append_assoc, List.map_append]
          exact ((hR5.rl r8).append (RpAll.one pz)).tk' (Tk.updL (r8.at nD hl5))
        | false =>
          rw [if_neg (by decide)]
          refine ⟨r15.trans e7, ys, e7.at nD hl5, ?_⟩
          rw [filt_succ, if_neg (by rw [hf]; decide), List.append_nil]
          exact hR5.rl e7
      · have ey : y = n' := by omega
        subst ey
        refine .inl ⟨Nat.le_refl _, r15, ys, hl5, ?_⟩
        rw [two_succ]
        exact hR5
    · have e : x = n := by omega
      subst e
      exact .inl ⟨hstop H' r, q _ H' (e1.trans r) ⟨Dl, xs, rfl, e1.back hD, hl, hR⟩⟩
end
section
variable {P : Program} {w : World} {K : PySem.W.Frag} {mg : Str → Option Value} {base : Heap}
/-! ### _glances -/
def d2 (p : Nat × Nat) : PyData := dT [(p.1 : Int), (p.2 : Int)]
def gl (n : Nat) : List (Nat × Nat) := two n n fun x y => decide ((x : Int) ≠ (y : Int))
def sp_glances (K : PySem.W.Frag) : Sp := SpX K (α := Nat) (fun n => n ≤ 6) (fun n => [.int (n : Nat)]) (fun n => NewL K ((gl n).map d2))
theorem ok_glances {f : Addr} {fd : FuncData} (B : Bt mg) (F : Fun K "_glances" "_glances" s_glances f fd) : FnOk P w K mg base CX0 1 f fd P_glances (sp_glances K) := by
  have m_range := B.range_
  refine F.ok sc_glances (fun vs H Q E h => ?_) (fun cdv A outer s H vs Q E hr h => ?_)
  · obtain ⟨x, _, ha, _⟩ := h
    exact ha.length
  · obtain ⟨n, hn, ha, q⟩ := h
    obtain ⟨v0, rfl, h0⟩ := ha.inv1
    have hn : n ≤ 6 := hn
    have hv := h0.int_inv
    subst hv
    refine ⟨_, (pss_one (ps_ret (pe_lc2 (own := [("x", 1), ("y", 2)]) (vs1 := [2]) rfl sc_glances.nd (pi_range1 (by rfl) m_range (pa_cons (pv 0) pa_nil)) (blkOk_by (N := N_glances) (sc := (defScope s_glances)) (by decide +kernel)) (by decide) (fun _ _ _ _ _ => (pg_name (i := 1) sc_glances.nd rfl (Or.inl rfl))) (fun _ _ _ _ _ => pts_nil) (fun _ _ _ _ _ => (pi_range1 (by rfl) m_range (pa_cons (pv 0) pa_nil))) (fun _ _ _ _ _ => (pg_name (i := 2) sc_glances.nd rfl (Or.inl rfl))) (fun _ _ _ _ _ => (pts_one (pt_cmpR op_ne (pv 1) (pv 2) (nomark _)))) (fun _ _ _ _ _ => (pe_tup (pa_cons (pv 1) (pa_cons (pv 2) pa_nil))))))), ?_⟩
    refine s_ret (m := m0) i0 (el_lc2R (K := K) (n := n) (n' := n) (fun x y => decide ((x : Int) ≠ (y : Int))) d2 (ea_one (ed_var rfl (.int _))) (fun x H1 hx e => ea_one (ed_var rfl (.int _))) (by omega) (fun _ => rfl) (fun _ _ => rfl)
      (fun x y H1 hx hy e => et_test (ed_neI (K := K) (ed_var rfl (.int _)) (ed_var rfl (.int _)))) (fun x y H1 hx hy e _ => ed_tup (K := K) (ea_two (ed_var rfl (.int _)) (ed_var rfl (.int _))) (by show 2 ≤ 100000; decide))) fun v H1 e1 p => q v H1 e1.ex0 p
/-! ### _need_one_size -/
structure XTs where
  n : Nat
  ts : List Tb
def TsOk (a : XTs) : Prop := a.n ≤ 6 ∧ a.ts ≠ [] ∧ a.ts.length ≤ 100
def dTs (n : Nat) (ts : List Tb) : PyData := .tuple (ts.map (dTab n))
def sp_need_one_size (K : PySem.W.Frag) : Sp := SpF K TsOk (fun a => [dTs a.n a.ts]) (fun _ => .none)
theorem any_false {α : Type} (l : List α) : ((l.map fun _ => false).any id) = false := by
  induction l with
  | nil => rfl
  | cons a l ih => exact ih
theorem ok_need_one_size {f : Addr} {fd : FuncData} (B : Bt mg) (F : Fun K "_need_one_size" "_need_one_size" s_need_one_size f fd) : FnOk P w K mg base CX0 1 f fd P_need_one_size (sp_need_one_size K) := by
  have m_any := B.any_
  refine F.ok sc_need_one_size (fun vs H Q E h => ?_) (fun cdv A outer s H vs Q E hr h => ?_)
  · obtain ⟨x, _, ha, _⟩ := h
    exact ha.length
  · obtain ⟨⟨n, ts⟩, ⟨hn, hne, hl⟩, ha, q⟩ := h
    obtain ⟨v0, rfl, h0⟩ := ha.inv1
    have hn : n ≤ 6 := hn
    have hne : ts ≠ [] := hne
    have hl : ts.length ≤ 100 := hl
    refine ⟨_, (pss_one (ps_if (pt_val (pe_callB (r := rAny K) (cr_any rfl) (by rfl) m_any (by decide +kernel) (pa_cons (pe_lc (own := [("table", 1)]) rfl sc_need_one_size.nd (pi_tupK (K := K) (pv 0)) (blkOk_by (N := N_need_one_size) (sc := (defScope s_need_one_size)) (by decide +kernel)) (fun _ _ _ _ _ => (pg_name (i := 1) sc_need_one_size.nd rfl (Or.inl rfl))) (fun _ _ _ _ _ => pts_nil) (fun _ _ _ _ _ => (pe_cmpR op_ne (pe_ix (r := rIxT K) ix_tup (pv 1) pe_int (fun _ _ => rfl)) (pe_ix (r := rIxT K) ix_tup (pe_ix (r := rIxT K) ix_tup (pv 0) pe_int (fun _ _ => rfl)) pe_int (fun _ _ => rfl)) (nomark _)))) pa_nil))) (pss_one ps_never) pss_nil)), ?_⟩
    obtain ⟨t0, ts0, rfl⟩ : ∃ t0 ts0, ts = t0 :: ts0 := by
      cases ts with
      | nil => exact absurd rfl hne
      | cons a b => exact ⟨a, b, rfl⟩
    refine s_if (m := m0) (b := (((t0 :: ts0).map fun _ : Tb => false).any id)) i0 (et_B (ed_any (K := K) (EL.eq ?_))) (fun hb H1 e1 => ?_) (fun hb H1 e1 => ?_)
    · have hc := el_lcD (K := K) (m := m0) (σ := [some v0, none]) (H := H) (l := t0 :: ts0) (j := 1) (tt := tYes) (dTab n) (fun _ => true) (fun _ => .bool false) (ew_tup (tl := tVar 0) (ed_var rfl h0)) (Nat.le_trans hl (by decide)) (fun a x H4 ha e4 p => et_yes) (fun a x H4 ha e4 p _ =>
        ed_is (ed_neI (K := K) (ed_ixT (i := 0) (ed_var (i := 1) rfl p) ed_int rfl) (ed_ixT (i := 0) (ed_ixT (i := 0) (ed_var (i := 0) rfl (h0.rl e4)) ed_int rfl) ed_int rfl)) (by simp))
      rw [List.filter_eq_self.mpr (fun _ _ => rfl)] at hc
      rw [List.map_map]
      exact hc
    · rw [any_false] at hb
      cases hb
    · exact q _ H1 e1.ex0 .non
end
end PT

set_option Elab.async false
set_option linter.all false
set_option maxRecDepth 100000
set_option maxHeartbeats 4000000
namespace PT
open PySem PySem.Spec PyProof.Rows L2
def kI (ns : List Int) : List Key := ns.map Sum.inl
theorem kI_v (ns : List Int) : (kI ns).map kV = ns.map V.int := by
  unfold kI
  rw [List.map_map]
  rfl
theorem kI_inj : ∀ {ns ms : List Int}, kI ns = kI ms → ns = ms
  | [], [], _ => rfl
  | [], _ :: _, h => by cases h
  | _ :: _, [], h => by cases h
  | a :: ns, b :: ms, h => by
    have h' : (Sum.inl a : Key) :: kI ns = Sum.inl b :: kI ms := h
    injection h' with h1 h2
    injection h1 with h1
    rw [h1, kI_inj h2]
/-- a tuple of ints that is tracked -/
def TI (H : Hp) (v : V) (ns : List Int) : Prop := ∃ b, v = .ref b ∧ H b = some (.tup (ns.map V.int))
section
variable {K : PySem.W.Frag} {m : Md} {σ : L2.St} {H H' : Hp} {ta tb te tf td ty tv tl : TE} {D : Ends} {g : TG} {tu tz : TS}
theorem TI.rp {v : V} {ns : List Int} (h : TI H v ns) : Rp K H v (dT ns) := by
  obtain ⟨b, rfl, h2⟩ := h
  exact rp_tup h2 (RpAll.ints ns)
theorem TI.ex {v : V} {ns : List Int} (h : TI H v ns) (e : Ex H H') : TI H' v ns := by
  obtain ⟨b, h1, h2⟩ := h
  exact ⟨b, h1, e _ _ h2⟩
theorem ep_newT : EvP m tDNewT σ H fun _ v H2 => ∃ p, v = .ref p ∧ H p = none ∧ H2 p = some (.dT []) := fun H1 e Q q p hp => q _ _ (Rl.new e.i hp) ⟨p, rfl, e.back hp, upd_same⟩
theorem ep_tupI {ns : List Int} (h : EQ K m te σ H (ns.map .int)) : EvP m (tCB (rTupOf K) (tCons te tNil)) σ H fun _ v H2 => TI H2 v ns := fun H1 e Q q =>
  h H1 e _ fun v H2 e2 p => by
    obtain ⟨a, xs, rfl, hn, h1, h2⟩ := p
    have e3 := h2.ints_inv
    subst e3
    exact ⟨a, _, rfl, .inl ⟨.inl (.inl h1), fun l hl => q _ _ (e2.trans (Rl.new e2.i hl)) ⟨l, rfl, upd_same⟩⟩⟩
theorem ep_tupV {ta : TA} {ns : List Int} (h : EA m ta σ H fun vs H2 => RpAll K H2 vs (ns.map .int)) (hl : ns.length ≤ 100000) : EvP m (tTup ta) σ H fun _ v H2 => TI H2 v ns := fun H1 e _ q =>
  h H1 e _ fun vs H2 e2 p => by
    have e3 := p.ints_inv
    subst e3
    exact ⟨by rw [List.length_map]; exact len_ok hl, fun a ha => q _ _ (e2.trans (Rl.new e2.i ha)) ⟨a, rfl, upd_same⟩⟩
theorem s_dputT {p : Addr} {kvs : List (List Key × V)} {P : V → Hp → Prop} {k : List Int} (hp : H p = some (.dT kvs)) (hz : kvs.length < 100000) (ht : EvP m0 tv σ H fun _ v H2 => P v H2) (sP : St1 m0 P) (hd : Ev m0 td σ H (.ref p)) (hy : EvP m0 ty σ H fun _ y H2 => TI H2 y k)
    (kk : ∀ v H3, Ex H H3 → P v H3 → H3 p = some (.dT kvs) → D.nx σ (upd H3 p (.dT (putK kvs (kI k) v)))) : sDPut td ty tv D σ H := ht H (Rl.refl trivial) _ fun v H1 e1 p1 => hd H1 e1 _ fun x H2 e2 ex => by
  subst ex
  exact hy H2 (e1.trans e2) _ fun y H3 e3 p3 => by
    obtain ⟨b, rfl, hb⟩ := p3
    have er := (e1.trans e2).trans e3
    exact ⟨p, _, rfl, DPut.t (er.ex0 _ _ hp) (by rw [kI_v]; exact hb) (len_lt hz), kk v H3 er.ex0 (sP _ _ _ (e2.trans e3) p1) (er.ex0 _ _ hp)⟩
theorem ev_dgetT {p : Addr} {kvs : List (List Key × V)} {k : List Int} {v0 : V} (hn : ¬ m.M p) (hp : H p = some (.dT kvs)) (hd : Ev m td σ H (.ref p)) (hy : EvP m ty σ H fun _ y H2 => TI H2 y k) (hv : valV kvs (kI k) = some v0) : Ev m (tDGet td ty) σ H v0 := fun H1 e Q q =>
  hd H1 e _ fun x H2 e2 ex => by
    subst ex
    exact hy H2 (e.trans e2) _ fun y H3 e3 p3 => by
      obtain ⟨b, rfl, hb⟩ := p3
      refine ⟨p, v0, rfl, ?_, q v0 H3 (e2.trans e3) rfl⟩
      rw [← hv]
      exact DGet.t (((e.trans e2).trans e3).at hn hp) (by rw [kI_v]; exact hb)
theorem ed_dniT {p : Addr} {kvs : List (List Key × V)} {k : List Int} (hn : ¬ m.M p) (hp : H p = some (.dT kvs)) (hd : Ev m td σ H (.ref p)) (hy : EvP m ty σ H fun _ y H2 => TI H2 y k) (sy : ∀ y A B, Rl m A B → TI A y k → TI B y k) : ED K m (tDNotIn ty td) σ H (.bool (!(valV kvs (kI k)).isSome)) := fun H1 e Q q =>
  hy H1 e _ fun y H2 e2 p2 => hd H2 (e.trans e2) _ fun x H3 e3 ex => by
    subst ex
    obtain ⟨b, rfl, hb⟩ := sy _ _ _ e3 p2
    exact ⟨p, _, rfl, DGet.t (((e.trans e2).trans e3).at hn hp) (by rw [kI_v]; exact hb), q _ H3 (e2.trans e3) (.bl _)⟩
theorem ed_lenD {p : Addr} {kvs : List (List Key × V)} (hn : ¬ m.M p) (hp : H p = some (.dT kvs)) (hd : Ev m td σ H (.ref p)) : ED K m (tCB rLenT (tCons td tNil)) σ H (.int (kvs.length : Nat)) := fun H1 e Q q =>
  hd H1 e _ fun x H2 e2 ex => by
    subst ex
    exact ⟨p, kvs, rfl, (e.trans e2).at hn hp, q _ H2 e2 (.int _)⟩
theorem ev_ti {i : Nat} {v : V} {ns : List Int} (h : σ[i]? = some (some v)) (t : TI H v ns) : EvP m0 (tVar i) σ H fun _ y H2 => TI H2 y ns := fun H1 e Q q => ⟨v, h, q v H1 (Rl.refl e.i) (t.ex e.ex0)⟩
/-- a for over a list whose items are told of by value -/
theorem s_forL {C : V → Hp → Prop} (hI : m.I H) (h : EvP m tl σ H fun _ v H2 => C v H2) (k : ∀ v H1, Rl m H H1 → C v H1 → ∃ p xs, v = .ref p ∧ H1 p = some (.lst xs) ∧ ∃ Pv : Nat → L2.St → Hp → Prop, Pv 0 σ H1 ∧ (∀ i σ' H', i ≤ xs.length → Pv i σ' H' → H' p = some (.lst xs)) ∧
    (∀ i x σ' H', xs[i]? = some x → Pv i σ' H' → g x σ' H' fun σ2 H2 => tu { D with nx := Pv (i + 1), ct := Pv (i + 1), bk := D.nx } σ2 H2) ∧ ∀ σ' H', Pv xs.length σ' H' → D.nx σ' H') : tFor (iList K tl) g tu D σ H :=
  h H (Rl.refl hI) _ fun v H1 e p => by
    obtain ⟨a, xs, rfl, h1, Pv, h0, hl, hs, hd⟩ := k v H1 e p
    exact ⟨a, rfl, ⟨xs, .inl (.inl h1)⟩, for_list Pv h0 (fun i σ' H' hi q => .inl (.inl (hl i σ' H' hi q))) hs hd⟩
theorem q_forL {C : V → Hp → Prop} (hI : m.I H) (h : EvP m tl σ H fun _ v H2 => C v H2) (k : ∀ v H1, Rl m H H1 → C v H1 → ∃ p xs, v = .ref p ∧ H1 p = some (.lst xs) ∧ ∃ Pv : Nat → L2.St → Hp → Prop, Pv 0 σ H1 ∧ (∀ i σ' H', i ≤ xs.length → Pv i σ' H' → H' p = some (.lst xs)) ∧
    (∀ i x σ' H', xs[i]? = some x → Pv i σ' H' → g x σ' H' fun σ2 H2 => tu { D with nx := Pv (i + 1), ct := Pv (i + 1), bk := tz D } σ2 H2) ∧ ∀ σ' H', Pv xs.length σ' H' → tz D σ' H') : tSeq (tFor (iList K tl) g tu) tz D σ H :=
  s_forL (D := { D with nx := tz D }) hI h k
/-- a source: a list that stays, its items by place -/
theorem ew_lst {p : Addr} {xs : List V} (hn : ¬ m.M p) (hp : H p = some (.lst xs)) (h : Ev m tl σ H (.ref p)) : EW m (iList K tl) σ H xs.length fun i v _ => xs[i]? = some v := fun H1 e R k =>
  h H1 e _ fun v H2 e2 ev => by
    subst ev
    have h2 := (e.trans e2).at hn hp
    refine ⟨p, rfl, ⟨xs, .inl (.inl h2)⟩, k _ H2 e2 (fun i H' hi r => ⟨xs, xs[i], .inl (.inl (r.at hn h2)), List.getElem?_eq_getElem hi⟩) (fun H' r => ⟨xs, .inl (.inl (r.at hn h2)), Nat.le_refl _⟩) fun i H' x H'' hi r y => ?_⟩
    obtain ⟨rfl, y⟩ := y
    exact ⟨Rl.refl r.i, y xs (.inl (.inl (r.at hn h2)))⟩
/-- but for p -/
def Eb (p : Addr) (H H' : Hp) : Prop := ∀ a o, a ≠ p → H a = some o → H' a = some o
theorem Eb.tk {p : Addr} {kvs : List (List Key × V)} (hp : H p = some (.dT kvs)) (e : Eb p H H') : Tk K H H' := fun a ys q => by
  have key : ∀ u, H a = some u → u ≠ .dT kvs → H' a = some u := fun u h n => e a u (fun z => by
    subst z
    rw [hp] at h
    exact n (Option.some.inj h).symm) h
  rcases q with (q | ⟨o, q⟩) | q
  · exact .inl (.inl (key _ q fun z => nomatch z))
  · exact .inl (.inr ⟨o, key _ q fun z => nomatch z⟩)
  · exact .inr q
theorem Eb.put {p : Addr} {H1 : Hp} {o : HO} (e : Eb p H H') (f : Ex H' H1) : Eb p H (upd H1 p o) := fun a u n h => by
  rw [upd_ne n]
  exact f a u (e a u n h)
theorem TI.eb {p : Addr} {kvs : List (List Key × V)} {v : V} {ns : List Int} (hp : H p = some (.dT kvs)) (e : Eb p H H') (h : TI H v ns) : TI H' v ns := by
  obtain ⟨b, h1, h2⟩ := h
  refine ⟨b, h1, e b _ (fun z => ?_) h2⟩
  subst z
  rw [hp] at h2
  cases h2
theorem mem_putK {kvs : List (List Key × V)} {k : List Key} {v : V} {kv : List Key × V} (h : kv ∈ putK kvs k v) : kv ∈ kvs ∨ kv = (k, v) := by
  unfold putK at h
  by_cases q : (kvs.any fun kv => decide (kv.1 = k)) = true
  · rw [if_pos q] at h
    obtain ⟨a, ha, e⟩ := List.mem_map.mp h
    by_cases hk : a.1 = k
    · rw [if_pos hk] at e
      right
      rw [← e, hk]
    · rw [if_neg hk] at e
      left
      rw [← e]
      exact ha
  · rw [if_neg q] at h
    rcases List.mem_append.mp h with h | h
    · exact .inl h
    · exact .inr (List.mem_singleton.mp h)
end
/-! ### what `known` and `numbers` hold -/
def lk (ts : List Tb) (g : Nat × Nat) : List Int := ts.map fun t => t g.1 g.2
def kP (g : Nat × Nat) : List Int := [(g.1 : Int), (g.2 : Int)]
theorem kP_inj {g h : Nat × Nat} (e : kP g = kP h) : g = h := by
  obtain ⟨a, b⟩ := g
  obtain ⟨c, d⟩ := h
  have e' : [(a : Int), (b : Int)] = [(c : Int), (d : Int)] := e
  injection e' with e1 e2
  injection e2 with e2 _
  have h1 : a = c := by omega
  have h2 : b = d := by omega
  rw [h1, h2]
structure KO (ts : List Tb) (H : Hp) (kvs : List (List Key × V)) (gs : List (Nat × Nat)) : Prop where
  all : ∀ kv ∈ kvs, ∃ g ∈ gs, TI H kv.2 (lk ts g)
  get : ∀ g ∈ gs, ∃ v, valV kvs (kI (kP g)) = some v ∧ TI H v (lk ts g)
  len : kvs.length ≤ gs.length
theorem KO.nil {ts : List Tb} {H : Hp} : KO ts H [] [] := ⟨fun _ h => (List.not_mem_nil h).elim, fun _ h => (List.not_mem_nil h).elim, Nat.le_refl _⟩
theorem KO.snoc {ts : List Tb} {H H' : Hp} {kvs : List (List Key × V)} {gs : List (Nat × Nat)} {g : Nat × Nat} {v : V} (h : KO ts H kvs gs) (f : ∀ v ns, TI H v ns → TI H' v ns) (hv : TI H' v (lk ts g)) : KO ts H' (putK kvs (kI (kP g)) v) (gs ++ [g]) := by
  refine ⟨fun kv hk => ?_, fun g' hg => ?_, ?_⟩
  · rcases mem_putK hk with hk | hk
    · obtain ⟨g', h1, h2⟩ := h.all kv hk
      exact ⟨g', List.mem_append_left _ h1, f _ _ h2⟩
    · subst hk
      exact ⟨g, List.mem_append_right _ (List.mem_singleton.mpr rfl), hv⟩
  · rw [valV_put]
    by_cases e : g' = g
    · subst e
      exact ⟨v, if_pos rfl, hv⟩
    · rw [if_neg (fun z => e (kP_inj (kI_inj z)))]
      rcases List.mem_append.mp hg with hg | hg
      · obtain ⟨v', h1, h2⟩ := h.get g' hg
        exact ⟨v', h1, f _ _ h2⟩
      · exact absurd (List.mem_singleton.mp hg) e
  · have := length_putK kvs (kI (kP g)) v
    have := h.len
    rw [List.length_append]
    show _ ≤ _ + 1
    omega
structure NO (kvs : List (List Key × V)) (ls : List (List Int)) : Prop where
  int : ∀ k v, valV kvs k = some v → ∃ c : Nat, v = .int (c : Nat) ∧ c < kvs.length
  inj : ∀ k k' v, valV kvs k = some v → valV kvs k' = some v → k = k'
  get : ∀ l ∈ ls, (valV kvs (kI l)).isSome = true
  len : kvs.length ≤ ls.length
theorem NO.nil : NO [] [] := ⟨fun _ _ h => (by cases h), fun _ _ _ h => (by cases h), fun _ h => (List.not_mem_nil h).elim, Nat.le_refl _⟩
theorem NO.old {kvs : List (List Key × V)} {ls : List (List Int)} {l : List Int} (h : NO kvs ls) (e : (valV kvs (kI l)).isSome = true) : NO kvs (ls ++ [l]) := ⟨h.int, h.inj, fun x hx => by
  rcases List.mem_append.mp hx with hx | hx
  · exact h.get x hx
  · rw [List.mem_singleton.mp hx]
    exact e, by
  have := h.len
  rw [List.length_append]
  omega⟩
theorem NO.new {kvs : List (List Key × V)} {ls : List (List Int)} {l : List Int} (h : NO kvs ls) (e : valV kvs (kI l) = none) : NO (putK kvs (kI l) (.int (kvs.length : Nat))) (ls ++ [l]) := by
  have hv := valV_put kvs (kI l)
  have hl : (putK kvs (kI l) (.int (kvs.length : Nat))).length = kvs.length + 1 := by
    rw [putK_new _ e, List.length_append]
    rfl
  refine ⟨fun k v q => ?_, fun k k' v q q' => ?_, fun x hx => ?_, ?_⟩
  · rw [hv] at q
    rw [hl]
    by_cases ek : k = kI l
    · rw [if_pos ek] at q
      cases q
      exact ⟨_, rfl, Nat.lt_succ_self _⟩
    · rw [if_neg ek] at q
      obtain ⟨c, h1, h2⟩ := h.int k v q
      exact ⟨c, h1, by omega⟩
  · rw [hv] at q q'
    have old : ∀ k, valV kvs k = some v → v ≠ .int (kvs.length : Nat) := fun k q z => by
      obtain ⟨c, h1, h2⟩ := h.int k v q
      rw [h1] at z
      injection z with z
      omega
    by_cases ek : k = kI l
    · rw [if_pos ek] at q
      by_cases ek' : k' = kI l
      · rw [ek, ek']
      · rw [if_neg ek'] at q'
        exact absurd (Option.some.inj q).symm (old _ q')
    · rw [if_neg ek] at q
      by_cases ek' : k' = kI l
      · rw [if_pos ek'] at q'
        exact absurd (Option.some.inj q').symm (old _ q)
      · rw [if_neg ek'] at q'
        exact h.inj k k' v q q'
  · rw [hv]
    by_cases ek : kI x = kI l
    · rw [if_pos ek]
      rfl
    · rw [if_neg ek]
      rcases List.mem_append.mp hx with hx | hx
      · exact h.get x hx
      · exact absurd (by rw [List.mem_singleton.mp hx]) ek
  · have := h.len
    rw [hl, List.length_append]
    show _ ≤ _ + 1
    omega
/-- the values of `known`, with what they are -/
theorem exists_bs {ts : List Tb} {H : Hp} {gs : List (Nat × Nat)} : ∀ kvs : List (List Key × V), (∀ kv ∈ kvs, ∃ g ∈ gs, TI H kv.2 (lk ts g)) → ∃ bs : List (V × List Int), bs.map (·.1) = kvs.map (·.2) ∧ ∀ b ∈ bs, TI H b.1 b.2 ∧ ∃ g ∈ gs, b.2 = lk ts g
  | [], _ => ⟨[], rfl, fun _ h => (List.not_mem_nil h).elim⟩
  | kv :: kvs, h => by
    obtain ⟨bs, h1, h2⟩ := exists_bs kvs fun x hx => h x (List.mem_cons_of_mem _ hx)
    obtain ⟨g, hg, ht⟩ := h kv List.mem_cons_self
    refine ⟨(kv.2, lk ts g) :: bs, by rw [List.map_cons, List.map_cons, h1], fun b hb => ?_⟩
    rcases List.mem_cons.mp hb with e | hb
    · subst e
      exact ⟨ht, g, hg, rfl⟩
    · exact h2 b hb
end PT

set_option Elab.async false
set_option linter.all false
set_option maxRecDepth 100000
set_option maxHeartbeats 4000000
namespace PT
open PySem PySem.Spec PyProof.Rows L2
theorem two_mem {n n' : Nat} {f : Nat → Nat → Bool} {p : Nat × Nat} : p ∈ two n n' f ↔ p.1 < n ∧ p.2 < n' ∧ f p.1 p.2 = true := by
  unfold two
  rw [List.mem_flatMap]
  constructor
  · rintro ⟨x, hx, h⟩
    obtain ⟨y, hy, rfl⟩ := List.mem_map.mp h
    obtain ⟨h1, h2⟩ := List.mem_filter.mp hy
    exact ⟨List.mem_range.mp hx, List.mem_range.mp h1, h2⟩
  · rintro ⟨h1, h2, h3⟩
    exact ⟨p.1, List.mem_range.mpr h1, List.mem_map.mpr ⟨p.2, List.mem_filter.mpr ⟨List.mem_range.mpr h2, h3⟩, rfl⟩⟩
theorem gl_mem {n x y : Nat} : (x, y) ∈ gl n ↔ x < n ∧ y < n ∧ x ≠ y := by
  unfold gl
  rw [two_mem, decide_eq_true_eq]
  show x < n ∧ y < n ∧ ((x : Int) ≠ (y : Int)) ↔ _
  omega
theorem gl_len (n : Nat) : (gl n).length ≤ n * n := two_len n n _
/-- the looks of r are the joint looks of ts -/
def Jn (n : Nat) (ts : List Tb) (r : Tb) : Prop := ∀ x y x' y', x < n → y < n → x' < n → y' < n → x ≠ y → x' ≠ y' → (r x y = r x' y' ↔ lk ts (x, y) = lk ts (x', y'))
def rsJ (a : XTs) (d : PyData) : Prop := ∃ r, d = dTab a.n r ∧ Jn a.n a.ts r
def sp_together (K : PySem.W.Frag) : Sp := SpR K TsOk (fun a => [dTs a.n a.ts]) rsJ
section
variable {P : Program} {w : World} {K : PySem.W.Frag} {mg : Str → Option Value} {base : Heap}
/-- the number of a look -/
def nmb (kns : List (List Key × V)) (ts : List Tb) (x y : Nat) : Int := if x = y then 0 else match valV kns (kI (lk ts (x, y))) with
  | some (.int i) => i
  | _ => 0
theorem TI.uniq {H : Hp} {v : V} {ns ms : List Int} (h : TI H v ns) (h' : TI H v ms) : ns = ms := by
  obtain ⟨b, rfl, h1⟩ := h
  obtain ⟨b', e, h2⟩ := h'
  cases e
  rw [h1] at h2
  injection h2 with h2
  injection h2 with h2
  rw [← kI_v, ← kI_v] at h2
  have key : ∀ (a b : List Int), a.map V.int = b.map V.int → a = b := fun a => by
    induction a with
    | nil => intro b h; cases b with
      | nil => rfl
      | cons _ _ => cases h
    | cons x a ih => intro b h; cases b with
      | nil => cases h
      | cons y b =>
        injection h with h1 h2
        injection h1 with h1
        rw [h1, ih b h2]
  rw [kI_v, kI_v] at h2
  exact key _ _ h2
theorem KO.mono {ts : List Tb} {H H' : Hp} {kvs : List (List Key × V)} {gs : List (Nat × Nat)} (h : KO ts H kvs gs) (f : ∀ v ns, TI H v ns → TI H' v ns) : KO ts H' kvs gs := ⟨fun kv hk => by
  obtain ⟨g, h1, h2⟩ := h.all kv hk
  exact ⟨g, h1, f _ _ h2⟩, fun g hg => by
  obtain ⟨v, h1, h2⟩ := h.get g hg
  exact ⟨v, h1, f _ _ h2⟩, h.len⟩
theorem ok_together {f f1 f2 : Addr} {fd fd1 fd2 : FuncData} (B : Bt mg) (F : Fun K "together" "together" s_together f fd) (G_need_one_size : FnOk P w K mg base CX0 1 f1 fd1 P_need_one_size (sp_need_one_size K)) (F_need_one_size : Fun K "_need_one_size" "_need_one_size" s_need_one_size f1 fd1) (b_need_one_size : Binds K fd1 P_need_one_size []) (g_need_one_size : mg "_need_one_size" = some (.ref f1))
    (G_glances : FnOk P w K mg base CX0 1 f2 fd2 P_glances (sp_glances K)) (F_glances : Fun K "_glances" "_glances" s_glances f2 fd2) (b_glances : Binds K fd2 P_glances []) (g_glances : mg "_glances" = some (.ref f2)) :
    FnOk P w K mg base CX0 2 f fd P_together (sp_together K) := by
  have m_tuple := B.tuple_
  have m_sorted := B.sorted_
  have m_range := B.range_
  have m_len := B.len_
  have m_list := B.list_
  refine F.ok sc_together (fun vs H Q E h => ?_) (fun cdv A outer s H vs Q E hr h => ?_)
  · obtain ⟨x, _, ha, _⟩ := h
    exact ha.length
  · obtain ⟨⟨n, ts⟩, hok, ha, q⟩ := h
    obtain ⟨v0, rfl, h0⟩ := ha.inv1
    have hu64 := hr.units
    have hu := hu_of hr
    obtain ⟨hn, hne, hl⟩ := id hok
    have hn : n ≤ 6 := hn
    have hne : ts ≠ [] := hne
    have hl : ts.length ≤ 100 := hl
    refine ⟨_, (pss_cons (ps_expr (pe_call G_need_one_size (hr.mono (by decide)) (by rfl) g_need_one_size F_need_one_size.kp b_need_one_size .nil pass0 (pa_cons (pv 0) pa_nil)))
      (pss_cons (ps_set (i := 1) sc_together.nd rfl (Or.inr rfl) (pe_ix (r := rIxT K) ix_tup (pe_ix (r := rIxT K) ix_tup (pv 0) pe_int (fun _ _ => rfl)) pe_int (fun _ _ => rfl)))
      (pss_cons (ps_set (i := 2) sc_together.nd rfl (Or.inr rfl) pe_dnewT)
      (pss_cons (ps_for PassesOwn.never rfl (pi_listK (K := K) (pe_call G_glances (hr.mono (by decide)) (by rfl) g_glances F_glances.kp b_glances .nil pass0 (pa_cons (pv 1) pa_nil))) (pg_tup rfl (pgs_cons (pg_name (i := 3) sc_together.nd rfl (Or.inr rfl)) (pgs_cons (pg_name (i := 4) sc_together.nd rfl (Or.inr rfl)) pgs_nil))) (pss_one (ps_dput hu (pv 2) (pe_tup (pa_cons (pv 3) (pa_cons (pv 4) pa_nil))) (pe_callTy (r := rTupOf K) call_tuple_of (by rfl) m_tuple (by decide +kernel) (pa_cons (pe_lc (own := [("table", 8)]) rfl sc_together.nd (pi_tupK (K := K) (pv 0)) (blkOk_by (N := N_together) (sc := (defScope s_together)) (by decide +kernel)) (fun _ _ _ _ _ => (pg_name (i := 8) sc_together.nd rfl (Or.inl rfl))) (fun _ _ _ _ _ => pts_nil) (fun _ _ _ _ _ => (pe_ix (r := rIxT K) ix_tup (pe_ix (r := rIxT K) ix_tup (pe_ix (r := rIxT K) ix_tup (pv 8) pe_int (fun _ _ => rfl)) (pv 3) (fun _ _ => rfl)) (pv 4) (fun _ _ => rfl)))) pa_nil)) rfl)))
      (pss_cons (ps_set (i := 5) sc_together.nd rfl (Or.inr rfl) pe_dnewT)
      (pss_cons (ps_for PassesOwn.never rfl (pi_listK (K := K) (pe_callB (r := rSortTs2 K) (cr_sortTs2 hu64) (by rfl) m_sorted (by decide +kernel) (pa_cons (pe_listVals rfl (by rfl) m_list (pv 2)) pa_nil))) (pg_name (i := 6) sc_together.nd rfl (Or.inl rfl)) (pss_one (ps_if (pt_cmp (pc_dnotin hu (pv 6) (pv 5))) (pss_one (ps_dput hu (pv 5) (pv 6) (pe_callB call_len_dT (by rfl) m_len PySem.boot_len (pa_cons (pv 5) pa_nil)) rfl)) pss_nil)))
      (pss_cons (ps_setLc (i := 7) (own := [("x", 3)]) (by rfl) sc_together.nd rfl rfl (sw_true rfl rfl rfl (by decide +kernel)) (pi_range1 (by rfl) m_range (pa_cons (pv 1) pa_nil)) (blkOk_by (N := N_together) (sc := (defScope s_together)) (by decide +kernel)) (fun _ _ _ _ _ => (pg_name (i := 3) sc_together.nd rfl (Or.inr rfl))) (fun _ _ _ _ _ => pts_nil) (fun _ _ _ _ _ => (pe_lc (own := [("y", 4)]) rfl sc_together.nd (pi_range1 (by rfl) m_range (pa_cons (pv 1) pa_nil)) (blkOk_by (N := N_together) (sc := (relS _ (defScope s_together))) (by decide +kernel)) (fun _ _ _ _ _ => (pg_name (i := 4) sc_together.nd rfl (Or.inl rfl))) (fun _ _ _ _ _ => pts_nil) (fun _ _ _ _ _ => (pe_ifExp (pt_cmpR op_ne (pv 3) (pv 4) (nomark _)) (pe_dget hu (pv 5) (pe_dget hu (pv 2) (pe_tup (pa_cons (pv 3) (pa_cons (pv 4) pa_nil))) (fun _ _ => rfl)) (fun _ _ => rfl)) pe_int)))))
      (pss_one (ps_ret (pe_tup (pa_cons (pv 1) (pa_cons (pe_callTy (r := rTupOf K) call_tuple_of (by rfl) m_tuple (by decide +kernel) (pa_cons (pe_lc (own := [("row", 9)]) rfl sc_together.nd (pi_listK (K := K) (pv 7)) (blkOk_by (N := N_together) (sc := (defScope s_together)) (by decide +kernel)) (fun _ _ _ _ _ => (pg_name (i := 9) sc_together.nd rfl (Or.inl rfl))) (fun _ _ _ _ _ => pts_nil) (fun _ _ _ _ _ => (pe_callTy (r := rTupOf K) call_tuple_of (by rfl) m_tuple (by decide +kernel) (pa_cons (pv 9) pa_nil)))) pa_nil)) pa_nil)))))))))))), ?_⟩
    have h0 : Rp K H v0 (dTs n ts) := h0
    refine q_drop (m := m0) i0 (ed_call (⟨n, ts⟩ : XTs) hok (ea_one (ed_var rfl h0))) fun _ H1 e1 _ => ?_
    obtain ⟨t0, ht0⟩ : ∃ t0, ts[0]? = some t0 := by
      cases ts with
      | nil => exact absurd rfl hne
      | cons a b => exact ⟨a, rfl⟩
    refine q_asg (m := m0) i0 (ed_ixT (i := 0) (d := .int (n : Nat)) (ed_ixT (i := 0) (d := dTab n t0) (ed_var rfl (h0.rl e1)) ed_int (by rw [List.getElem?_map, ht0]; rfl)) ed_int rfl) fun v1 H2 e2 h1 => ?_
    have hv1 := h1.int_inv
    subst hv1
    refine q_asg (m := m0) i0 ep_newT fun v2 H3 e3 h2 => ?_
    obtain ⟨pk, rfl, hpk, hpk3⟩ := h2
    refine q_forQ (m := m0) (K := K) i0 (EL.eq (el_call (K := K) n hn (ea_one (ed_var rfl (.int _))))) fun H4 pg gv e4 _ hpg hgv => ?_
    have hpk4 : H4 pk = some (.dT []) := e4.ex0 _ _ hpk3
    have npg : pg ≠ pk := fun z => by
      rw [z, hpk4] at hpg
      cases hpg
    have e14 : Ex H1 H4 := (e2.ex0.trans e3.ex0).trans e4.ex0
    have h04 : Rp K H4 v0 (dTs n ts) := (h0.rl e1).tk' e14.tk
    refine ⟨fun i σ H' => (∃ y3 y4, σ = [some v0, some (.int (n : Nat)), some (.ref pk), y3, y4, none, none, none, none, none]) ∧ Eb pk H4 H' ∧ ∃ kvs, H' pk = some (.dT kvs) ∧ KO ts H' kvs ((gl n).take i), ⟨⟨none, none, rfl⟩, fun _ _ _ h => h, [], hpk4, KO.nil⟩, fun i σ H' _ hP => ⟨hP.2.1.tk hpk4, hP.2.1 _ _ npg hpg⟩, fun i x d σ H' hd hx hP => ?_, fun σ H' hP => ?_⟩
    · obtain ⟨⟨y3, y4, rfl⟩, eb, kvs, hk, hko⟩ := hP
      rw [List.getElem?_map] at hd
      obtain ⟨g, hg, rfl⟩ := Option.map_eq_some_iff.mp hd
      obtain ⟨gx, gy⟩ := g
      obtain ⟨hgx, hgy, hgn⟩ := gl_mem.mp (List.mem_of_getElem? hg)
      refine g_two hx fun v3 v4 h3 h4 => ?_
      have hv3 := h3.int_inv
      have hv4 := h4.int_inv
      subst hv3 hv4
      have hgl := gl_len n
      have hnn : n * n ≤ 6 * 6 := Nat.mul_le_mul hn hn
      have hkl : kvs.length < 100000 := by
        have a1 := hko.len
        rw [List.length_take] at a1
        omega
      have hh0 : Rp K H' v0 (dTs n ts) := h04.tk' (eb.tk hpk4)
      refine s_dputT (k := kP (gx, gy)) (P := fun v H2 => TI H2 v (lk ts (gx, gy))) hk hkl (ep_tupI (K := K) (EL.eq ?_)) (fun v A B r t => t.ex r.ex0) (ev_var rfl) (ep_tupV (K := K) (ea_two (ed_var rfl (.int _)) (ed_var rfl (.int _))) (by show 2 ≤ 100000; decide)) (fun v H5 e5 hv hk5 => ?_)
      · have hc := el_lcD (K := K) (m := m0) (σ := [some v0, some (.int (n : Nat)), some (.ref pk), some (.int (gx : Nat)), some (.int (gy : Nat)), none, none, none, none, none]) (H := H') (l := ts) (j := 8) (tt := tYes) (dTab n) (fun _ => true) (fun t => .int (t gx gy)) (ew_tup (tl := tVar 0) (ed_var rfl hh0)) (Nat.le_trans hl (by decide)) (fun a x H4 ha e4 p => et_yes) (fun a x H4 ha e4 p _ =>
          ed_rows (n := n) (r := a) (ed_ixT (i := 1) (ed_var (i := 8) rfl p) ed_int rfl) (ed_var (i := 3) rfl (.int _)) (ed_var (i := 4) rfl (.int _)) hgx hgy)
        rw [List.filter_eq_self.mpr (fun _ _ => rfl)] at hc
        unfold lk
        rw [List.map_map]
        exact hc
      · refine ⟨⟨_, _, rfl⟩, eb.put e5, _, upd_same, ?_⟩
        have et : (gl n).take (i + 1) = (gl n).take i ++ [(gx, gy)] := by
          rw [List.take_add_one, hg]
          rfl
        rw [et]
        have kp : Eb pk H5 (upd H5 pk (.dT (putK kvs (kI (kP (gx, gy))) v))) := fun a o n h => by
          rw [upd_ne n]
          exact h
        exact hko.snoc (fun v ns t => (t.ex e5).eb hk5 kp) (hv.eb hk5 kp)
    · obtain ⟨⟨y3, y4, rfl⟩, eb, kvs, hk, hko⟩ := hP
      rw [List.length_map, List.take_length] at hko
      have hpk1 : H1 pk = none := e2.ex0.back hpk
      have e15 : Ex H1 H' := fun a o h => eb a o (fun z => by
        rw [z, hpk1] at h
        cases h) (e14 a o h)
      refine q_asg (m := m0) i0 ep_newT fun v5 H5 e5 h5 => ?_
      obtain ⟨pn, rfl, hpn, hpn5⟩ := h5
      have hk5 : H5 pk = some (.dT kvs) := e5.ex0 _ _ hk
      have hko5 : KO ts H5 kvs (gl n) := hko.mono fun v ns t => t.ex e5.ex0
      obtain ⟨bs, hbs, hbt⟩ := exists_bs kvs hko5.all
      have hkl : kvs.length ≤ 36 := by
        have a1 := hko.len
        have a2 := gl_len n
        have a3 : n * n ≤ 6 * 6 := Nat.mul_le_mul hn hn
        omega
      have hbl : bs.length = kvs.length := by
        have := congrArg List.length hbs
        rwa [List.length_map, List.length_map] at this
      refine q_forL (m := m0) (K := K) (C := fun v H2 => ∃ (p : Addr) (cs : List (V × List Int)), v = .ref p ∧ H5 p = none ∧ H2 p = some (.lst (cs.map (·.1))) ∧ cs.Perm bs) i0 ?src fun v H6 e6 hC => ?loop
      case src =>
        intro Ha ea Q q
        refine ⟨.ref pk, rfl, pk, kvs, rfl, ea.ex0 _ _ hk5, fun p hp => ⟨p, bs, rfl, .inl (.inl (by rw [hbs]; exact upd_same)), fun b hb => ((hbt b hb).1.ex (ea.ex0.trans (Ex.new hp))).rp, fun b hb => ?_, by omega, fun cs p' hperm hp' => q _ _ (Rl.of0 ((Ex.new hp).trans (Ex.new hp'))) ⟨p', cs, rfl, (ea.ex0.trans (Ex.new hp)).back hp', upd_same, hperm⟩⟩⟩
        obtain ⟨g, _, hg⟩ := (hbt b hb).2
        rw [hg]
        unfold lk
        exact fun z => hne (List.map_eq_nil_iff.mp z)
      case loop =>
        obtain ⟨ps, cs, rfl, hps5, hps6, hperm⟩ := hC
        have hpn6 : H6 pn = some (.dT []) := e6.ex0 _ _ hpn5
        have nps : ps ≠ pn := fun z => by
          rw [z, hpn5] at hps5
          cases hps5
        have npk : pk ≠ pn := fun z => by
          rw [z, hpn] at hk
          cases hk
        refine ⟨ps, cs.map (·.1), rfl, hps6, fun i σ H' => (∃ y6, σ = [some v0, some (.int (n : Nat)), some (.ref pk), y3, y4, some (.ref pn), y6, none, none, none]) ∧ Eb pn H6 H' ∧ ∃ kns, H' pn = some (.dT kns) ∧ NO kns ((cs.map (·.2)).take i), ⟨⟨none, rfl⟩, fun _ _ _ h => h, [], hpn6, NO.nil⟩, fun i σ H' _ hP => hP.2.1 _ _ nps hps6, fun i x σ H' hx hP => ?_, fun σ H' hP => ?_⟩
        · obtain ⟨⟨y6, rfl⟩, eb2, kns, hkn, hno⟩ := hP
          rw [List.getElem?_map] at hx
          obtain ⟨c, hc, rfl⟩ := Option.map_eq_some_iff.mp hx
          have hcb : c ∈ bs := hperm.mem_iff.mp (List.mem_of_getElem? hc)
          have htc : TI H' c.1 c.2 := ((hbt c hcb).1.ex e6.ex0).eb hpn6 eb2
          have het : (cs.map (·.2)).take (i + 1) = (cs.map (·.2)).take i ++ [c.2] := by
            rw [List.take_add_one, List.getElem?_map, hc]
            rfl
          have hnl : kns.length < 100000 := by
            have a1 := hno.len
            have a2 := hperm.length_eq
            rw [List.length_take, List.length_map] at a1
            omega
          show tIfS _ _ _ _ _ _
          refine s_if (m := m0) i0 (et_B (ed_dniT (K := K) (fun z => z) hkn (ev_var rfl) (ev_ti rfl htc) (fun y A B r t => t.ex r.ex0))) (fun hb H8 e8 => ?_) (fun hb H8 e8 => ?_)
          · have hv : valV kns (kI c.2) = none := by
              cases hq : valV kns (kI c.2) with
              | none => rfl
              | some u =>
                rw [hq] at hb
                cases hb
            refine s_dputT (k := c.2) (P := fun v _ => v = .int (kns.length : Nat)) (e8.ex0 _ _ hkn) hnl (ED.ev (ed_lenD (K := K) (fun z => z) (e8.ex0 _ _ hkn) (ev_var rfl))) (fun v A B r t => t) (ev_var rfl) (ev_ti rfl (htc.ex e8.ex0)) (fun v H9 e9 hv9 hk9 => ?_)
            subst hv9
            refine ⟨⟨_, rfl⟩, eb2.put (e8.ex0.trans e9), _, upd_same, ?_⟩
            rw [het]
            exact hno.new hv
          · refine ⟨⟨_, rfl⟩, fun a o n h => e8.ex0 _ _ (eb2 a o n h), kns, e8.ex0 _ _ hkn, ?_⟩
            rw [het]
            exact hno.old (by simpa using hb)
        · obtain ⟨⟨y6, rfl⟩, eb2, kns, hkn, hno⟩ := hP
          have hlen : (cs.map (·.1)).length = (cs.map (·.2)).length := by rw [List.length_map, List.length_map]
          rw [hlen, List.take_length] at hno
          have hk7 : H' pk = some (.dT kvs) := eb2 _ _ npk (e6.ex0 _ _ hk5)
          have hko7 : KO ts H' kvs (gl n) := hko5.mono fun v ns t => (t.ex e6.ex0).eb hpn6 eb2
          have e17 : Ex H1 H' := fun a o h => eb2 a o (fun z => by
            rw [z] at h
            rw [e15 _ _ h] at hpn
            cases hpn) (e6.ex0 _ _ (e5.ex0 _ _ (e15 a o h)))
          have num : ∀ g ∈ gl n, ∃ v, valV kvs (kI (kP g)) = some v ∧ TI H' v (lk ts g) ∧ ∃ c : Nat, valV kns (kI (lk ts g)) = some (.int (c : Nat)) := fun g hg => by
            obtain ⟨v, h1, h2⟩ := hko7.get g hg
            obtain ⟨v', h1', h2'⟩ := hko5.get g hg
            rw [h1] at h1'
            cases h1'
            have hm : v ∈ kvs.map (·.2) := by
              unfold valV at h1
              obtain ⟨kv, hkv, e⟩ := Option.map_eq_some_iff.mp h1
              exact List.mem_map.mpr ⟨kv, List.mem_of_find?_eq_some hkv, e⟩
            rw [← hbs] at hm
            obtain ⟨b, hb, rfl⟩ := List.mem_map.mp hm
            have e := TI.uniq (hbt b hb).1 h2'
            have hmem : lk ts g ∈ cs.map (·.2) := List.mem_map.mpr ⟨b, hperm.mem_iff.mpr hb, e⟩
            obtain ⟨u, hu⟩ := Option.isSome_iff_exists.mp (hno.get _ hmem)
            obtain ⟨c, hc, _⟩ := hno.int _ _ hu
            exact ⟨_, h1, h2, c, by rw [hu, hc]⟩
          have hnmb : ∀ x y, x < n → y < n → x ≠ y → ∃ v, valV kvs (kI (kP (x, y))) = some v ∧ TI H' v (lk ts (x, y)) ∧ valV kns (kI (lk ts (x, y))) = some (.int (nmb kns ts x y)) := fun x y hx hy hn => by
            obtain ⟨v, h1, h2, c, h3⟩ := num (x, y) (gl_mem.mpr ⟨hx, hy, hn⟩)
            refine ⟨v, h1, h2, ?_⟩
            unfold nmb
            rw [if_neg hn, h3]
          refine q_asg (m := m0) i0 (ep_lc (OkD := fun p i v H2 => ∃ q, v = .ref q ∧ q ≠ p ∧ H2 q = some (.lst ((List.range n).map fun y => V.int (nmb kns ts i y)))) (fun _ => true) (ew_rng1 (K := K) (n := (n : Int)) (ea_one (ed_var rfl (.int _))) (by omega)) (by omega) (fun p i v A B r h => ?_) (fun p i v A xs o hp h => ?_) (fun i x H8 hi r hx => et_yes) (fun i x H8 hi r hx _ => ?_)) fun v7 H8 e8 h8 => ?_
          · obtain ⟨q, h1, h2, h3⟩ := h
            exact ⟨q, h1, h2, r.ex0 _ _ h3⟩
          · obtain ⟨q, h1, h2, h3⟩ := h
            exact ⟨q, h1, h2, by rw [upd_ne h2]; exact h3⟩
          · subst hx
            have hi' : i < n := by omega
            refine EvP.imp (el_lcR (K := K) (n := n) (fun _ => true) (fun y => .int (nmb kns ts i y)) (ea_one (ed_var rfl (.int _))) (by omega) (fun y H9 hy e9 => et_yes) (fun y H9 hy e9 _ => ?_)) fun A v B r p => ?_
            · have e79 : Ex H' H9 := (r.trans e9).ex0
              refine ed_if (b := decide ((i : Int) ≠ (y : Int))) (et_test (K := K) (ed_neI (ed_var rfl (.int _)) (ed_var rfl (.int _)))) (fun hb => ?_) (fun hb => ?_)
              · have hne : i ≠ y := by
                  have := of_decide_eq_true hb
                  omega
                obtain ⟨v, h1, h2, h3⟩ := hnmb i y hi' hy hne
                have h2' := h2.ex e79
                exact Ev.ed (ev_dgetT (k := lk ts (i, y)) (fun z => z) (e79 _ _ hkn) (ev_var rfl) (EvP.imp2 (ev_dgetT (m := m0) (k := kP (i, y)) (fun z => z) (e79 _ _ hk7) (ev_var rfl) (ep_tupV (K := K) (ea_two (ed_var rfl (.int _)) (ed_var rfl (.int _))) (by show 2 ≤ 100000; decide)) h1) fun A x B r r2 p => by
                  rw [p]
                  exact h2'.ex (r.trans r2).ex0) h3)
              · have hne : i = y := by
                  have := of_decide_eq_false hb
                  omega
                subst hne
                refine ed_is ed_int ?_
                unfold nmb
                rw [if_pos rfl]
            · intro p' xs' hA
              obtain ⟨q, xs, h1, h2, h3, h4⟩ := p
              refine ⟨q, h1, fun z => ?_, ?_⟩
              · rw [z, hA] at h2
                cases h2
              · rw [List.filter_eq_self.mpr (fun _ _ => rfl)] at h4
                have e : (List.range n).map (fun y => PyData.int (nmb kns ts i y)) = ((List.range n).map (nmb kns ts i)).map .int := by
                  rw [List.map_map]
                  rfl
                rw [e] at h4
                have h5 := h4.ints_inv
                rw [List.map_map] at h5
                subst h5
                exact h3
          · obtain ⟨p7, xs7, rfl, hp7, h87, hE⟩ := h8
            have en : ((n : Int)).toNat = n := by omega
            rw [en, kept_all] at hE
            have hx7 : xs7.length = n := by
              rw [hE.length, List.length_range]
            refine s_ret (m := m0) i0 (ed_tup (K := K) (ea_two (ed_var rfl (.int _)) (ed_tupL (EL.eq (el_lc (K := K) (fun _ => true) (fun i => dRow n (nmb kns ts) i) (ew_lst (fun z => z) h87 (ev_var rfl)) (by omega) (fun i x H9 hi r hx => et_yes) (fun i x H9 hi r hx _ => ?_))))) (by show 2 ≤ 100000; decide)) fun v H9 e9 p => ?_
            · obtain ⟨i', hi', q, rfl, hq, hq8⟩ := hE.at hx
              have ei : i' = i := by
                have hlt : i < (List.range n).length := (List.getElem?_eq_some_iff.mp hi').1
                rw [List.getElem?_eq_getElem hlt, List.getElem_range] at hi'
                exact (Option.some.inj hi').symm
              subst ei
              refine ed_tupL (eq_var rfl ⟨q, _, rfl, fun z => z, r.ex0 _ _ hq8, ?_⟩)
              have := RpAll.ints (K := K) (H := H9) ((List.range n).map (nmb kns ts i'))
              rw [List.map_map] at this
              exact this
            · rw [hx7, kept_all] at p
              refine q v H9 (.tuple [.int (n : Nat), dRows n (nmb kns ts)]) (((e1.ex0.trans e17).trans e8.ex0).trans e9.ex0) ⟨nmb kns ts, rfl, fun x y x' y' hx hy hx' hy' hn hn' => ?_⟩ p
              obtain ⟨_, _, _, a1⟩ := hnmb x y hx hy hn
              obtain ⟨_, _, _, a2⟩ := hnmb x' y' hx' hy' hn'
              constructor
              · intro e
                rw [e] at a1
                exact kI_inj (hno.inj _ _ _ a1 a2)
              · intro e
                have e' : lk ts (x, y) = lk ts (x', y') := e
                rw [e', a2] at a1
                injection a1 with a1
                injection a1 with a1
                exact a1.symm
/-! ### both -/
structure XBo where
  n : Nat
  t1 : Tb
  t2 : Tb
def sp_both (K : PySem.W.Frag) : Sp := SpR K (α := XBo) (fun a => a.n ≤ 6) (fun a => [dTab a.n a.t1, dTab a.n a.t2]) (fun a => rsJ ⟨a.n, [a.t1, a.t2]⟩)
theorem ok_both {f f1 : Addr} {fd fd1 : FuncData} (F : Fun K "both" "both" s_both f fd) (G_together : FnOk P w K mg base CX0 2 f1 fd1 P_together (sp_together K)) (F_together : Fun K "together" "together" s_together f1 fd1) (b_together : Binds K fd1 P_together []) (g_together : mg "together" = some (.ref f1)) :
    FnOk P w K mg base CX0 3 f fd P_both (sp_both K) := by
  refine F.ok sc_both (fun vs H Q E h => ?_) (fun cdv A outer s H vs Q E hr h => ?_)
  · obtain ⟨x, _, ha, _⟩ := h
    exact ha.length
  · obtain ⟨⟨n, t1, t2⟩, hn, ha, q⟩ := h
    obtain ⟨v0, v1, rfl, h0, h1⟩ := ha.inv2
    refine ⟨_, (pss_one (ps_ret (pe_call G_together (hr.mono (by decide)) (by rfl) g_together F_together.kp b_together .nil pass0 (pa_cons (pe_tup (pa_cons (pv 0) (pa_cons (pv 1) pa_nil))) pa_nil)))), ?_⟩
    have hn : n ≤ 6 := hn
    refine s_ret (m := m0) i0 (ep_call (K := K) (⟨n, [t1, t2]⟩ : XTs) ⟨hn, List.cons_ne_nil _ _, by show 2 ≤ 100; decide⟩ (ea_one (ed_tup (K := K) (ea_two (ed_var rfl h0) (ed_var rfl h1)) (by show 2 ≤ 100000; decide)))) fun v H1 e1 p => ?_
    obtain ⟨d, hd, hv⟩ := p
    exact q v H1 d e1.ex0 hd hv
end
end PT

set_option Elab.async false
set_option linter.all false
set_option maxRecDepth 100000
set_option maxHeartbeats 4000000
namespace PT
open PySem PySem.Spec PyProof.Rows L2
/-! ### the deck -/
structure DkA where
  d : Addr
  fl : Addr
  nl : Addr
  ns : List Int
abbrev kFar : Key := .inr "far"
abbrev kNear : Key := .inr "near"
abbrev kBlend : Key := .inr "blend"
abbrev kTurn : Key := .inr "turn"
structure DkD (k : DkA) (kvs : List (Key × V)) : Prop where
  far : valV kvs kFar = some (.ref k.fl)
  near : valV kvs kNear = some (.ref k.nl)
  blend : ∃ b : Int, valV kvs kBlend = some (.int b)
  turn : ∃ t : Int, valV kvs kTurn = some (.int t)
  len : kvs.length ≤ 10
def dkI (k : DkA) (H : Hp) : Prop := (∃ kvs, H k.d = some (.dK kvs) ∧ DkD k kvs) ∧ ∃ fs : List Int, H k.fl = some (.lst (fs.map V.int)) ∧ fs.length ≤ 100
def dmd (k : DkA) : Md := ⟨fun a => a = k.d ∨ a = k.fl, dkI k, fun H a h ha => by
  obtain ⟨⟨kvs, h1, _⟩, fs, h2, _⟩ := h
  rcases ha with rfl | rfl
  · exact .inl ⟨_, h1⟩
  · exact .inr ⟨_, h2⟩, fun H H' h e => by
  obtain ⟨⟨kvs, h1, h3⟩, fs, h2, h4⟩ := h
  exact ⟨⟨kvs, by rw [e k.d (.inl rfl)]; exact h1, h3⟩, fs, by rw [e k.fl (.inr rfl)]; exact h2, h4⟩⟩
structure DkOk (k : DkA) (H : Hp) : Prop where
  i : (dmd k).I H
  nd : k.nl ≠ k.d
  nf : k.nl ≠ k.fl
  nr : H k.nl = some (.lst (k.ns.map V.int))
  ne : k.ns ≠ []
  ln : k.ns.length ≤ 100
theorem DkOk.rl {k : DkA} {H H' : Hp} (h : DkOk k H) (r : Rl (dmd k) H H') : DkOk k H' := ⟨r.i, h.nd, h.nf, r.at (fun z => z.elim h.nd h.nf) h.nr, h.ne, h.ln⟩
theorem DkOk.r0 {k : DkA} {H : Hp} (h : DkOk k H) : Rl (dmd k) H H := Rl.refl h.i
theorem DkOk.ex {k : DkA} {H H' : Hp} (h : DkOk k H) (e : Ex H H') : Rl (dmd k) H H' := Rl.ex h.i e
theorem Rl.updM {m : Md} {H H' : Hp} {p : Addr} {o : HO} (r : Rl m H H') (hM : m.M p) (hI : m.I (upd H' p o)) : Rl m H (upd H' p o) := ⟨r.1, hI, fun a u n e => by
  rw [upd_ne fun z => n (by rw [z]; exact hM)]
  exact r.2.2 a u n e⟩
theorem dkI.updF {k : DkA} {H : Hp} {fs : List Int} (h : dkI k H) (hl : fs.length ≤ 100) : dkI k (upd H k.fl (.lst (fs.map V.int))) := by
  obtain ⟨⟨kvs, h1, h3⟩, fs', h2, h4⟩ := h
  have n : k.d ≠ k.fl := fun z => by
    rw [z, h2] at h1
    cases h1
  exact ⟨⟨kvs, by rw [upd_ne n]; exact h1, h3⟩, fs, upd_same, hl⟩
theorem putK_len {κ : Type} [DecidableEq κ] {kvs : List (κ × V)} {j : κ} {v w : V} (h : valV kvs j = some w) : (putK kvs j v).length = kvs.length := by
  unfold putK
  rw [if_pos (by rw [valV_any, h]; rfl), List.length_map]
theorem DkD.turn' {k : DkA} {kvs : List (Key × V)} (h : DkD k kvs) (t : Int) : DkD k (putK kvs kTurn (.int t)) := by
  obtain ⟨t0, ht⟩ := h.turn
  refine ⟨?_, ?_, ?_, ⟨t, ?_⟩, ?_⟩
  · rw [valV_put, if_neg (by decide)]
    exact h.far
  · rw [valV_put, if_neg (by decide)]
    exact h.near
  · rw [valV_put, if_neg (by decide)]
    exact h.blend
  · rw [valV_put, if_pos rfl]
  · rw [putK_len ht]
    exact h.len
theorem dkI.updT {k : DkA} {H : Hp} {kvs : List (Key × V)} (h : dkI k H) (hd : DkD k kvs) : dkI k (upd H k.d (.dK kvs)) := by
  obtain ⟨⟨kvs', h1, h3⟩, fs', h2, h4⟩ := h
  have n : k.fl ≠ k.d := fun z => by
    rw [z, h1] at h2
    cases h2
  exact ⟨⟨kvs, upd_same, hd⟩, fs', by rw [upd_ne n]; exact h2, h4⟩
/-- a promise of a def that gets the deck -/
def SpD {α : Type} (pre : DkA → α → List V → Hp → Prop) (post : DkA → α → Hp → V → Hp → Prop) : Sp := fun vs H Q _ => ∃ k x ws, vs = .ref k.d :: ws ∧ DkOk k H ∧ pre k x ws H ∧ ∀ v H', Rl (dmd k) H H' → post k x H v H' → Q v H'
section
variable {K : PySem.W.Frag} {m : Md} {σ : L2.St} {H H' : Hp} {ta tb te tf td ty tv tl : TE} {D : Ends} {g : TG} {tu tz : TS} {α : Type} {pre : DkA → α → List V → Hp → Prop} {post : DkA → α → Hp → V → Hp → Prop}
theorem ep_callD {k : DkA} {E : XK} {t : TA} (x : α) (hk : DkOk k H) (ha : EA (dmd k) t σ H fun vs H2 => ∃ ws, vs = .ref k.d :: ws ∧ pre k x ws H2) (hm : ∀ A B v C, Rl (dmd k) A B → Rl (dmd k) B C → post k x B v C → post k x A v C) : EvP (dmd k) (tCall (SpD pre post) [] E t) σ H (post k x) := fun H1 e Q q =>
  ha H1 e _ fun vs H2 e2 p => by
    obtain ⟨ws, rfl, hp⟩ := p
    exact ⟨k, x, ws, by rw [List.append_nil], hk.rl (e.trans e2), hp, fun v H3 e3 p3 => q v H3 (e2.trans e3) (hm _ _ _ _ e2 e3 p3)⟩
/-- an int of which C is told -/
def EZ (m : Md) (te : TE) (σ : L2.St) (H : Hp) (C : Int → Prop) : Prop := EvP m te σ H fun _ v _ => ∃ i : Int, v = .int i ∧ C i
theorem ED.z {i : Int} {C : Int → Prop} (h : ED K m te σ H (.int i)) (hc : C i) : EZ m te σ H C := EvP.imp h fun _ v _ _ p => ⟨i, p.int_inv, hc⟩
theorem ez_op {C : Int → Int → Prop} {g : Int → Int → Int} {P1 P2 R : Int → Prop} (ha : EZ m ta σ H P1) (hb : EZ m tb σ H P2) (hc : ∀ i j, P1 i → P2 j → C i j ∧ R (g i j)) : EZ m (tOp (rI C fun i j => .int (g i j)) ta tb) σ H R :=
  ep_op (P1 := fun v _ => ∃ i : Int, v = .int i ∧ P1 i) (P2 := fun v _ => ∃ i : Int, v = .int i ∧ P2 i) ha (fun _ _ _ _ h => h) hb (fun x y H1 hI e p1 p2 Q q => by
    obtain ⟨i, rfl, h1⟩ := p1
    obtain ⟨j, rfl, h2⟩ := p2
    exact ⟨i, j, rfl, rfl, (hc i j h1 h2).1, q _ H1 (Rl.refl e.i) ⟨_, rfl, (hc i j h1 h2).2⟩⟩) fun _ _ _ _ _ p => p
theorem ez_op0 {g : Int → Int → Int} {P1 P2 R : Int → Prop} (ha : EZ m ta σ H P1) (hb : EZ m tb σ H P2) (hc : ∀ i j, P1 i → P2 j → R (g i j)) : EZ m (tOp (rI0 fun i j => .int (g i j)) ta tb) σ H R :=
  ep_op (P1 := fun v _ => ∃ i : Int, v = .int i ∧ P1 i) (P2 := fun v _ => ∃ i : Int, v = .int i ∧ P2 i) ha (fun _ _ _ _ h => h) hb (fun x y H1 hI e p1 p2 Q q => by
    obtain ⟨i, rfl, h1⟩ := p1
    obtain ⟨j, rfl, h2⟩ := p2
    exact ⟨i, j, rfl, rfl, q _ H1 (Rl.refl e.i) ⟨_, rfl, hc i j h1 h2⟩⟩) fun _ _ _ _ _ p => p
def rInt1 : List V → Hp → VK → Prop := fun xs H Q => (∃ i, xs = [.int i] ∧ Q (.int i) H) ∨ ∃ k, xs = [.bl k] ∧ Q (.int (if k then 1 else 0)) H
theorem ez_int1 {C : Int → Prop} (h : EZ m te σ H C) : EZ m (tCB rInt1 (tCons te tNil)) σ H C := fun H1 e Q q => h H1 e _ fun v H2 e2 p => by
  obtain ⟨i, rfl, hc⟩ := p
  exact .inl ⟨i, rfl, q _ H2 e2 ⟨i, rfl, hc⟩⟩
theorem ez_any {i : Int} (h : ED K m te σ H (.int i)) : EZ m te σ H fun _ => True := h.z trivial
/-- far.pop() to a name -/
theorem s_popL {l : Addr} {xs : List V} {y : V} {i : Nat} (hl : H l = some (.lst xs)) (hy : xs[xs.length - 1]? = some y) (ha : Ev m0 ta σ H (.ref l)) (k : ∀ H1, Ex H H1 → D.nx (σ.set i (some y)) (upd H1 l (.lst xs.dropLast))) : tAsg (tBM0 K "list" rPop ta) (gName i) D σ H := ha H (Rl.refl trivial) _ fun v H1 e1 e0 => by
  subst e0
  exact ⟨Or.inl ⟨rfl, xs, .inl (.inl (e1.ex0 _ _ hl))⟩, l, xs, y, rfl, rfl, e1.ex0 _ _ hl, hy, k H1 e1.ex0⟩
/-- d["x"] = e -/
theorem s_dputK {p : Addr} {kvs : List (Key × V)} {P : V → Hp → Prop} {x : Str} (hp : H p = some (.dK kvs)) (hz : kvs.length < 100000) (ht : EvP m0 tv σ H fun _ v H2 => P v H2) (sP : St1 m0 P) (hd : Ev m0 td σ H (.ref p))
    (kk : ∀ v H3, Ex H H3 → P v H3 → H3 p = some (.dK kvs) → D.nx σ (upd H3 p (.dK (putK kvs (.inr x) v)))) : sDPut td (tC (.str x)) tv D σ H := ht H (Rl.refl trivial) _ fun v H1 e1 p1 => hd H1 e1 _ fun y H2 e2 ex => by
  subst ex
  have er := (e1.trans e2).ex0 _ _ hp
  exact ⟨p, _, rfl, DPut.k (k := .inr x) er (len_lt hz), kk v H2 (e1.trans e2).ex0 (sP _ _ _ e2 p1) er⟩
theorem ev_dgetK {p : Addr} {kvs : List (Key × V)} {x : Str} {v0 : V} (hn : ¬ m.M p) (hp : H p = some (.dK kvs)) (hd : Ev m td σ H (.ref p)) (hv : valV kvs (.inr x) = some v0) : Ev m (tDGet td (tC (.str x))) σ H v0 := fun H1 e Q q =>
  hd H1 e _ fun y H2 e2 ex => by
    subst ex
    refine ⟨p, v0, rfl, ?_, q v0 H2 e2 rfl⟩
    rw [← hv]
    exact DGet.k (k := .inr x) ((e.trans e2).at hn hp)
end
/-! ### data: laid, equal -/
section
variable {K : PySem.W.Frag} {m : Md} {σ : L2.St} {H : Hp} {ta tb te tf td ty tv tl : TE}
mutual
theorem Rp.lay : ∀ (d : PyData) (v : V), Rp K H v d → d.canLay0 = true
  | .none, _, _ => rfl
  | .bool b, _, _ => rfl
  | .int i, _, _ => rfl
  | .str x, _, h => by cases h
  | .list _, _, h => by cases h
  | .dict _, _, h => by cases h
  | .tuple ds, _, h => by
    cases h with
    | tup hs ha =>
      show PyData.canLayAll0 ds = true
      exact RpAll.lay ds _ ha
theorem RpAll.lay : ∀ (ds : List PyData) (vs : List V), RpAll K H vs ds → PyData.canLayAll0 ds = true
  | [], _, _ => rfl
  | d :: ds, _, h => by
    cases h with
    | cons h1 h2 =>
      show (PyData.canLay0 d && PyData.canLayAll0 ds) = true
      rw [Rp.lay d _ h1, RpAll.lay ds _ h2]
      rfl
end
mutual
theorem eqv_refl : ∀ d : PyData, d.canLay0 = true → PyData.eqv d d = true
  | .none, _ => rfl
  | .bool b, _ => by simp [PyData.eqv]
  | .int i, _ => by simp [PyData.eqv]
  | .str x, _ => by simp [PyData.eqv]
  | .list ds, h => eqvAll_refl ds h
  | .tuple ds, h => eqvAll_refl ds h
  | .dict _, h => by cases h
theorem eqvAll_refl : ∀ ds : List PyData, PyData.canLayAll0 ds = true → PyData.eqvAll ds ds = true
  | [], _ => rfl
  | d :: ds, h => by
    have h' : (PyData.canLay0 d && PyData.canLayAll0 ds) = true := h
    rw [Bool.and_eq_true] at h'
    show (PyData.eqv d d && PyData.eqvAll ds ds) = true
    rw [eqv_refl d h'.1, eqvAll_refl ds h'.2]
    rfl
end
theorem eqv_ints : ∀ a b : List Int, PyData.eqvAll (a.map .int) (b.map .int) = decide (a = b)
  | [], [] => rfl
  | [], _ :: _ => rfl
  | _ :: _, [] => rfl
  | x :: a, y :: b => by
    show ((x == y) && PyData.eqvAll (a.map .int) (b.map .int)) = _
    rw [eqv_ints a b]
    by_cases h : x = y <;> by_cases h2 : a = b <;> simp [h, h2]
theorem iN_inj : ∀ {a b : List Nat}, iN a = iN b → a = b
  | [], [], _ => rfl
  | [], _ :: _, h => by cases h
  | _ :: _, [], h => by cases h
  | x :: a, y :: b, h => by
    have h' : ((x : Int)) :: iN a = (y : Int) :: iN b := h
    injection h' with h1 h2
    have h3 : x = y := by omega
    rw [h3, iN_inj h2]
theorem eqv_dN (a b : List Nat) : PyData.eqv (dN a) (dN b) = decide (a = b) := by
  show PyData.eqvAll _ _ = _
  rw [eqv_ints]
  by_cases h : a = b
  · rw [h, decide_eq_true rfl, decide_eq_true rfl]
  · rw [decide_eq_false h, decide_eq_false fun z => h (iN_inj z)]
theorem depthAll_le {n : Nat} : ∀ {ds : List PyData}, (∀ d ∈ ds, d.depth ≤ n) → PyData.depthAll ds ≤ n
  | [], _ => by simp [PyData.depthAll]
  | d :: ds, h => by
    have h1 := h d List.mem_cons_self
    have h2 := depthAll_le (n := n) (ds := ds) fun x hx => h x (List.mem_cons_of_mem _ hx)
    simp only [PyData.depthAll]
    omega
theorem depth_dT (ns : List Int) : PyData.depth (dT ns) ≤ 2 := by
  have := depthAll_le (n := 1) (ds := ns.map .int) fun d hd => by
    obtain ⟨i, _, rfl⟩ := List.mem_map.mp hd
    simp [PyData.depth]
  show PyData.depth (.tuple _) ≤ 2
  simp only [PyData.depth]
  omega
theorem depth_lots (l : List (List Nat)) : PyData.depthAll (l.map dN) ≤ 2 := depthAll_le fun d hd => by
  obtain ⟨x, _, rfl⟩ := List.mem_map.mp hd
  exact depth_dT _
theorem shape_of {d : PyData} (h : d.canLay0 = true) (h2 : d.depth ≤ 64) : SeqAt.shaped d = true := by
  unfold SeqAt.shaped
  rw [h, decide_eq_true h2]
  rfl
/-- lists compared -/
theorem ed_neL {ds es : List PyData} (ha : EQ K m ta σ H ds) (hb : EQ K m tb σ H es) (h1 : PyData.depthAll ds ≤ 60) (h2 : PyData.depthAll es ≤ 60) : ED K m (tOp (rNeD K) ta tb) σ H (.bool (!PyData.eqvAll ds es)) :=
  ep_op ha st_lq hb (fun x y H1 _ e p1 p2 Q q => by
    obtain ⟨a, xs, rfl, _, hx, hX⟩ := p1
    obtain ⟨b, ys, rfl, _, hy, hY⟩ := p2
    exact ⟨.list ds, .list es, .lst (.inl (.inl hx)) (RpAll.dp _ _ hX), .lst (.inl (.inl hy)) (RpAll.dp _ _ hY), shape_of (RpAll.lay _ _ hX) (by simp only [PyData.depth]; omega), shape_of (RpAll.lay _ _ hY) (by simp only [PyData.depth]; omega), q _ H1 (Rl.refl e.i) (.bl _)⟩) fun _ _ _ _ _ p => p
theorem ed_eqL {ds es : List PyData} (ha : EQ K m ta σ H ds) (hb : EQ K m tb σ H es) (h1 : PyData.depthAll ds ≤ 60) (h2 : PyData.depthAll es ≤ 60) : ED K m (tOp (rEqD K) ta tb) σ H (.bool (PyData.eqvAll ds es)) :=
  ep_op ha st_lq hb (fun x y H1 _ e p1 p2 Q q => by
    obtain ⟨a, xs, rfl, _, hx, hX⟩ := p1
    obtain ⟨b, ys, rfl, _, hy, hY⟩ := p2
    exact ⟨.list ds, .list es, .lst (.inl (.inl hx)) (RpAll.dp _ _ hX), .lst (.inl (.inl hy)) (RpAll.dp _ _ hY), shape_of (RpAll.lay _ _ hX) (by simp only [PyData.depth]; omega), shape_of (RpAll.lay _ _ hY) (by simp only [PyData.depth]; omega), q _ H1 (Rl.refl e.i) (.bl _)⟩) fun _ _ _ _ _ p => p
theorem ed_neD {d e : PyData} (ha : ED K m ta σ H d) (hb : ED K m tb σ H e) (h1 : d.depth ≤ 60) (h2 : e.depth ≤ 60) : ED K m (tOp (rNeD K) ta tb) σ H (.bool (!PyData.eqv d e)) :=
  ed_op ha hb fun x y H1 r p1 p2 Q q => ⟨d, e, Rp.dp _ _ p1, Rp.dp _ _ p2, shape_of (Rp.lay _ _ p1) (by omega), shape_of (Rp.lay _ _ p2) (by omega), q _ H1 (Rl.refl r.i) (.bl _)⟩
theorem eqvAll_nil : ∀ ds : List PyData, PyData.eqvAll ds [] = ds.isEmpty
  | [] => rfl
  | _ :: _ => rfl
end
end PT

set_option Elab.async false
set_option linter.all false
set_option maxRecDepth 100000
set_option maxHeartbeats 4000000
namespace PT
open PySem PySem.Spec PyProof.Rows L2
theorem cut_ints (ns : List Int) (lo hi : Option Int) : ∃ zs : List Int, cutV (ns.map V.int) lo hi = zs.map V.int ∧ zs.length ≤ ns.length := by
  refine ⟨(ns.drop (HT.sIx (ns.map V.int).length 0 lo)).take (HT.sIx (ns.map V.int).length (ns.map V.int).length hi - HT.sIx (ns.map V.int).length 0 lo), ?_, ?_⟩
  · unfold cutV
    rw [List.map_take, List.map_drop]
  · rw [List.length_take, List.length_drop]
    omega
section
variable {P : Program} {w : World} {K : PySem.W.Frag} {mg : Str → Option Value} {base : Heap}
/-! ### _law_deck -/
def sp_law_deck (K : PySem.W.Frag) : Sp := fun vs H Q _ => ∃ (a : Addr) (ns : List Int), vs = [.ref a] ∧ SqL K H a (ns.map V.int) ∧ ns.length ≤ 63 ∧ ∀ v H' k, Ex H H' → v = .ref k.d → DkOk k H' → Q v H'
theorem ok_law_deck {f : Addr} {fd : FuncData} (B : Bt mg) (F : Fun K "_law_deck" "_law_deck" s_law_deck f fd) : FnOk P w K mg base CX0 1 f fd P_law_deck (sp_law_deck K) := by
  have m_int := B.int_
  have m_len := B.len_
  refine F.ok sc_law_deck (fun vs H Q E h => ?_) (fun cdv A outer s H vs Q E hr h => ?_)
  · obtain ⟨x, ns, rfl, _⟩ := h
    rfl
  · obtain ⟨a, ns, rfl, hS, hl, q⟩ := h
    refine ⟨_, (pss_cons (ps_setLc (i := 1) (own := [("_law_cell", 3)]) (by rfl) sc_law_deck.nd rfl rfl (sw_true rfl rfl rfl (by decide +kernel)) (pi_listK (K := K) (pe_slice (r := rSlL K) sl_list (pv 0) po_none (po_some pe_int))) (blkOk_by (N := N_law_deck) (sc := (defScope s_law_deck)) (by decide +kernel)) (fun _ _ _ _ _ => (pg_name (i := 3) sc_law_deck.nd rfl (Or.inl rfl))) (fun _ _ _ _ _ => pts_nil) (fun _ _ _ _ _ => (pe_ifExp (pt_cmpR op_ge (pv 3) pe_int (nomark _)) (pe_op op_add (pe_op op_mul pe_int (pv 3)) pe_int) (pe_op op_sub pe_int (pe_op op_mul pe_int (pv 3))))))
      (pss_cons (ps_set (i := 2) sc_law_deck.nd rfl (Or.inl rfl) pe_int)
      (pss_cons (ps_for PassesOwn.never rfl (pi_listK (K := K) (pv 1)) (pg_name (i := 3) sc_law_deck.nd rfl (Or.inl rfl)) (pss_one (ps_set (i := 2) sc_law_deck.nd rfl (Or.inl rfl) (pe_op op_mod (pe_callTy call_int1 (by rfl) m_int (by decide +kernel) (pa_cons (pe_op op_add (pe_op op_mul (pv 2) pe_int) (pv 3)) pa_nil)) pe_int))))
      (pss_cons (ps_setLc (i := 4) (own := [("_law_cell", 3)]) (by rfl) sc_law_deck.nd rfl rfl (sw_true rfl rfl rfl (by decide +kernel)) (pi_listK (K := K) (pv 1)) (blkOk_by (N := N_law_deck) (sc := (defScope s_law_deck)) (by decide +kernel)) (fun _ _ _ _ _ => (pg_name (i := 3) sc_law_deck.nd rfl (Or.inl rfl))) (fun _ _ _ _ _ => (pts_one (pt_cmpR op_gt (pv 3) (pe_op op_pow pe_int pe_int) (nomark _)))) (fun _ _ _ _ _ => (pv 3)))
      (pss_one (ps_ret (pe_disp (pps_cons pe_str (pv 4) (pps_cons pe_str (pe_op op_cat (pv 1) (pe_lst (pa_cons (pe_op op_add pe_int (pe_callB (r := rLenS K) call_len_seq (by rfl) m_len PySem.boot_len (pa_cons (pv 1) pa_nil))) pa_nil))) (pps_cons pe_str (pv 2) (pps_cons pe_str pe_int pps_nil)))) (by rfl) (by rfl) (fun z => by cases z) (by decide)))))))), ?_⟩
    obtain ⟨zs, hz1, hz2⟩ := cut_ints ns none (some 63)
    have hsl : EQ K m0 (tSl (rSlL K) (tVar 0) tNoPart (tPart (tC (.int 63)))) (start N_law_deck [.ref a]) H (zs.map .int) := by
      intro H1 e Q q
      have hS1 : SqL K H1 a (ns.map V.int) := by
        rcases hS with (h | ⟨o, h⟩) | h
        · exact .inl (.inl (e.ex0 _ _ h))
        · exact .inl (.inr ⟨o, e.ex0 _ _ h⟩)
        · exact .inr h
      refine ⟨.ref a, rfl, 63, rfl, a, _, rfl, hS1, fun p hp => q _ _ (Rl.of0 (Ex.new hp)) ⟨p, _, rfl, fun z => z, upd_same, ?_⟩⟩
      rw [hz1]
      exact RpAll.ints zs
    refine q_asg (m := m0) i0 (EL.at (el_lcD (K := K) (l := zs) PyData.int (fun _ => true) (fun z => .int (if z ≥ 0 then 3 * z + 2 else 1 - 3 * z)) (ew_list hsl) (by omega) (fun z x H1 hz e p => et_yes) (fun z x H1 hz e p _ => ?_))) fun v1 H1 e1 h1 => ?_
    · have hx := p.int_inv
      subst hx
      refine ed_if (b := decide (z ≥ 0)) (et_test (K := K) (ed_B0 (g := fun i j => decide (i ≥ j)) (ed_var rfl (.int _)) ed_int)) (fun hb => ?_) (fun hb => ?_)
      · rw [if_pos (of_decide_eq_true hb)]
        exact ed_I0 (g := fun i j => i + j) (ed_I (g := fun i j => i * j) ed_int (ed_var rfl (.int _)) (.inl (by decide))) ed_int
      · rw [if_neg (of_decide_eq_false hb)]
        exact ed_I0 (g := fun i j => i - j) ed_int (ed_I (g := fun i j => i * j) ed_int (ed_var rfl (.int _)) (.inl (by decide)))
    obtain ⟨pc, xc, rfl, hpc, hpc1, hxc⟩ := h1
    rw [List.filter_eq_self.mpr (fun _ _ => rfl)] at hxc
    obtain ⟨cs, hcs, hcl⟩ : ∃ cs : List Int, (zs.map fun z : Int => PyData.int (if z ≥ 0 then 3 * z + 2 else 1 - 3 * z)) = cs.map .int ∧ cs.length ≤ 63 := ⟨zs.map fun z => if z ≥ 0 then 3 * z + 2 else 1 - 3 * z, by rw [List.map_map]; rfl, by rw [List.length_map]; omega⟩
    rw [hcs] at hxc
    have hq : ∀ H', Ex H1 H' → Lq K m0 H' (.ref pc) (cs.map .int) := fun H' e => ⟨pc, xc, rfl, fun z => z, e _ _ hpc1, hxc.tk' e.tk⟩
    refine q_asg (m := m0) i0 ev_c fun v2 H2 e2 h2 => ?_
    subst h2
    refine q_forQ (m := m0) (K := K) i0 (eq_var rfl (hq _ e2.ex0)) fun H3 p xs e3 hp hp3 hxs => ?_
    refine ⟨fun i σ H' => (∃ b y3, σ = [some (.ref a), some (.ref pc), some (.int b), y3, none]) ∧ Ex H3 H', ⟨⟨_, _, rfl⟩, Ex.refl _⟩, fun i σ H' _ hP => ⟨hP.2.tk, hP.2 _ _ hp3⟩, fun i x d σ H' hd hx hP => ?_, fun σ H' hP => ?_⟩
    · obtain ⟨⟨b, y3, rfl⟩, e4⟩ := hP
      obtain ⟨c, _, rfl⟩ : ∃ c, cs[i]? = some c ∧ d = .int c := by
        rw [List.getElem?_map] at hd
        obtain ⟨c, h1, h2⟩ := Option.map_eq_some_iff.mp hd
        exact ⟨c, h1, h2.symm⟩
      have hx := hx.int_inv
      subst hx
      show tAsg _ _ _ _ _
      refine s_asg (m := m0) i0 (ez_op (R := fun _ => True) (ez_int1 (ED.z (K := K) (C := fun _ => True) (ed_I0 (g := fun i j => i + j) (ed_I (g := fun i j => i * j) (ed_var rfl (.int _)) ed_int (.inr (by decide))) (ed_var rfl (.int _))) trivial)) (ED.z (K := K) (C := fun j => j = 2147483563) ed_int rfl) fun i j _ h => ⟨by omega, trivial⟩) fun v H5 e5 h5 => ?_
      obtain ⟨b', rfl, _⟩ := h5
      exact ⟨⟨b', _, rfl⟩, e4.trans e5.ex0⟩
    · obtain ⟨⟨b, y3, rfl⟩, e4⟩ := hP
      have e14 : Ex H1 H' := (e2.ex0.trans e3.ex0).trans e4
      refine q_asg (m := m0) i0 (EL.at (el_lcD (K := K) (l := cs) PyData.int (fun c => decide (c > 10 ^ 18)) .int (ew_list (eq_var rfl (hq _ e14))) (by omega) (fun z x H1 hz e p => ?_) (fun z x H1 hz e p _ => ?_))) fun v4 H5 e5 h5 => ?_
      · have hx := p.int_inv
        subst hx
        exact et_test (K := K) (ed_B0 (g := fun i j => decide (i > j)) (ed_var rfl (.int _)) (ed_I (g := fun i j => i ^ j.toNat) ed_int ed_int (by unfold CPow; decide)))
      · exact ed_var rfl p
      obtain ⟨pf, xf, rfl, hpf, hpf5, hxf⟩ := h5
      have hxf' := RpAll.ints_inv hxf
      subst hxf'
      have hfl := List.length_filter_le (fun c : Int => decide (c > 10 ^ 18)) cs
      have hxc' := RpAll.ints_inv hxc
      subst hxc'
      have hpc5 : H5 pc = some (.lst (cs.map V.int)) := e5.ex0 _ _ (e14 _ _ hpc1)
      intro p hp
      have hpf6 : upd H5 p (.dK []) pf = some (.lst ((cs.filter fun c => decide (c > 10 ^ 18)).map V.int)) := Ex.new hp _ _ hpf5
      have hpc6 : upd H5 p (.dK []) pc = some (.lst (cs.map V.int)) := Ex.new hp _ _ hpc5
      refine ⟨.ref pf, rfl, .ref pc, rfl, ?_⟩
      have hH6 : Ex H5 (upd H5 p (.dK [])) := Ex.new hp
      refine el_lst (K := K) (m := m0) (ds := [.int (5 + ((cs.map PyData.int).length : Nat))]) (ea_one (ed_I0 (g := fun i j => i + j) ed_int (ed_lenL (eq_var rfl ⟨pc, _, rfl, fun z => z, hpc6, RpAll.ints cs⟩)))) (by show 1 ≤ 100000; decide) _ (Rl.refl trivial) _ fun y H7 e7 h7 => ?_
      obtain ⟨pl, xl, rfl, hpl, hpl7, hxl⟩ := h7
      have hxl' := RpAll.ints_inv (ns := [5 + (((cs.map PyData.int).length : Nat) : Int)]) hxl
      subst hxl'
      refine ⟨pc, pl, cs.map V.int, _, rfl, rfl, e7.ex0 _ _ hpc6, hpl7, ?_, fun pn hpn => ?_⟩
      · rw [List.length_map]
        show cs.length + 1 ≤ sizeLine
        exact len_ok (by omega)
      have hpf7 := e7.ex0 _ _ hpf6
      have hp7 : H7 p = some (.dK []) := e7.ex0 _ _ upd_same
      refine ⟨.int b, rfl, Ex.new hpn _ _ hp7, [(kFar, .ref pf), (kNear, .ref pn), (kBlend, .int b), (kTurn, .int 0)], rfl, by show 4 ≤ 15; decide, ?_⟩
      have npn : pn ≠ p := fun z => by
        rw [z, hp7] at hpn
        cases hpn
      have npf : pf ≠ p := fun z => by
        rw [z, hp] at hpf5
        cases hpf5
      have npf2 : pf ≠ pn := fun z => by
        rw [← z, hpf7] at hpn
        cases hpn
      have e57 : Ex H5 (upd H7 pn (.lst (cs.map V.int ++ [5 + (((cs.map PyData.int).length : Nat) : Int)].map V.int))) := (hH6.trans e7.ex0).trans (Ex.new hpn)
      have eF : Ex H5 (upd (upd H7 pn (.lst (cs.map V.int ++ [5 + (((cs.map PyData.int).length : Nat) : Int)].map V.int))) p (.dK (mergeK [] [(kFar, .ref pf), (kNear, .ref pn), (kBlend, .int b), (kTurn, .int 0)]))) := (Rl.mut (m := m0) (Rl.of0 e57) hp).ex0
      refine q (.ref p) _ ⟨p, pf, pn, cs ++ [5 + (((cs.map PyData.int).length : Nat) : Int)]⟩ (((e1.ex0.trans e14).trans e5.ex0).trans eF) rfl ⟨⟨⟨_, upd_same, ?_, ?_, ⟨b, ?_⟩, ⟨0, ?_⟩, ?_⟩, (cs.filter fun c => decide (c > 10 ^ 18)), ?_, by omega⟩, npn, fun z => npf2 z.symm, ?_, ?_, ?_⟩
      · show valV (putK (putK (putK (putK [] kFar _) kNear _) kBlend _) kTurn _) kFar = _
        rw [valV_put, if_neg (by decide), valV_put, if_neg (by decide), valV_put, if_neg (by decide), valV_put, if_pos rfl]
      · show valV (putK (putK (putK (putK [] kFar _) kNear _) kBlend _) kTurn _) kNear = _
        rw [valV_put, if_neg (by decide), valV_put, if_neg (by decide), valV_put, if_pos rfl]
      · show valV (putK (putK (putK (putK [] kFar _) kNear _) kBlend _) kTurn _) kBlend = _
        rw [valV_put, if_neg (by decide), valV_put, if_pos rfl]
      · show valV (putK (putK (putK (putK [] kFar _) kNear _) kBlend _) kTurn _) kTurn = _
        rw [valV_put, if_pos rfl]
      · have a1 := length_putK ([] : List (Key × V)) kFar (.ref pf)
        have a2 := length_putK (putK ([] : List (Key × V)) kFar (.ref pf)) kNear (.ref pn)
        have a3 := length_putK (putK (putK ([] : List (Key × V)) kFar (.ref pf)) kNear (.ref pn)) kBlend (.int b)
        have a4 := length_putK (putK (putK (putK ([] : List (Key × V)) kFar (.ref pf)) kNear (.ref pn)) kBlend (.int b)) kTurn (.int 0)
        have a5 : ([] : List (Key × V)).length = 0 := rfl
        exact Nat.le_trans (n := (putK (putK (putK (putK ([] : List (Key × V)) kFar (.ref pf)) kNear (.ref pn)) kBlend (.int b)) kTurn (.int 0)).length) (Nat.le_refl _) (by omega)
      · rw [upd_ne npf, upd_ne npf2]
        exact hpf7
      · show upd _ p _ pn = _
        rw [upd_ne npn, upd_same, List.map_append]
      · show cs ++ _ ≠ []
        simp
      · show (cs ++ [_]).length ≤ 100
        rw [List.length_append]
        show cs.length + 1 ≤ 100
        omega
/-! ### _law_draw -/
def sp_law_draw : Sp := SpD (α := Nat) (fun _ n ws _ => ws = [.int (n : Nat)] ∧ 1 ≤ n ∧ n ≤ 100000) (fun _ n _ v _ => ∃ r : Nat, v = .int (r : Nat) ∧ r < n)
theorem ok_law_draw {f : Addr} {fd : FuncData} (B : Bt mg) (F : Fun K "_law_draw" "_law_draw" s_law_draw f fd) : FnOk P w K mg base CX0 1 f fd P_law_draw sp_law_draw := by
  have m_int := B.int_
  have m_len := B.len_
  refine F.ok sc_law_draw (fun vs H Q E h => ?_) (fun cdv A outer s H vs Q E hr h => ?_)
  · obtain ⟨k, x, ws, rfl, _, ⟨rfl, _⟩, _⟩ := h
    rfl
  · obtain ⟨k, n, ws, rfl, hk, ⟨rfl, hn1, hn2⟩, q⟩ := h
    have hu64 := hr.units
    have hu := hu_of hr
    refine ⟨_, (pss_cons (ps_set (i := 2) sc_law_draw.nd rfl (Or.inl rfl) (pe_dget hu (pv 0) pe_str (fun _ _ => rfl)))
      (pss_cons (ps_if (pt_cmpR (r := rNeD K) (op_neD hu64) (pv 2) (pe_lst pa_nil) (nomark _)) (pss_cons (ps_set (i := 3) sc_law_draw.nd rfl (Or.inl rfl) (pe_bm0 PySem.F.plainAttrs_list PySem.F.slot_list_pop PySem.F.type_list_pop mt_pop (pv 2)))
      (pss_cons (ps_if (pt_cmpR op_ge (pv 3) (pv 1) (nomark _)) (pss_one (ps_expr (pe_bm PySem.F.plainAttrs_list PySem.F.slot_list_append PySem.F.type_list_append mt_append (pv 2) (pa_cons (pe_op op_fdivN (pv 3) (pv 1)) pa_nil)))) pss_nil)
      (pss_one (ps_ret (pe_op op_mod (pe_callTy call_int1 (by rfl) m_int (by decide +kernel) (pa_cons (pv 3) pa_nil)) (pv 1)))))) pss_nil)
      (pss_cons (ps_dput hu (pv 0) pe_str (pe_op op_add (pe_dget hu (pv 0) pe_str (fun _ _ => rfl)) pe_int) rfl)
      (pss_cons (ps_par (i := 4) (j := 5) (by rfl) sc_law_draw.nd rfl rfl (by decide) rfl rfl (pa_cons (pe_dget hu (pv 0) pe_str (fun _ _ => rfl)) (pa_cons (pe_dget hu (pv 0) pe_str (fun _ _ => rfl)) pa_nil)) (by rfl))
      (pss_cons (ps_set (i := 6) sc_law_draw.nd rfl (Or.inl rfl) (pe_ix (r := rIxL K) ix_list (pv 5) (pe_op op_mod (pe_callTy call_int1 (by rfl) m_int (by decide +kernel) (pa_cons (pv 4) pa_nil)) (pe_callB (r := rLenS K) call_len_seq (by rfl) m_len PySem.boot_len (pa_cons (pv 5) pa_nil))) (fun _ _ => rfl)))
      (pss_cons (ps_set (i := 7) sc_law_draw.nd rfl (Or.inl rfl) (pe_op op_mod (pe_callTy call_int1 (by rfl) m_int (by decide +kernel) (pa_cons (pe_op op_add (pe_op op_add (pe_op op_mul (pv 6) pe_int) (pe_op op_mul (pe_dget hu (pv 0) pe_str (fun _ _ => rfl)) pe_int)) (pe_op op_mul (pv 4) pe_int)) pa_nil)) pe_int))
      (pss_cons (ps_set (i := 7) sc_law_draw.nd rfl (Or.inl rfl) (pe_op op_mod (pe_callTy call_int1 (by rfl) m_int (by decide +kernel) (pa_cons (pe_op op_add (pe_op op_add (pe_op op_mul (pv 7) (pv 7)) (pe_op op_mul (pv 4) pe_int)) (pv 6)) pa_nil)) pe_int))
      (pss_cons (ps_set (i := 7) sc_law_draw.nd rfl (Or.inl rfl) (pe_op op_mod (pe_callTy call_int1 (by rfl) m_int (by decide +kernel) (pa_cons (pe_op op_add (pe_op op_add (pe_op op_mul (pv 7) (pv 7)) (pe_dget hu (pv 0) pe_str (fun _ _ => rfl))) (pv 4)) pa_nil)) pe_int))
      (pss_one (ps_ret (pe_op op_mod (pe_callTy call_int1 (by rfl) m_int (by decide +kernel) (pa_cons (pe_op op_fdivN (pv 7) pe_int) pa_nil)) (pv 1)))))))))))), ?_⟩
    have hk0 := hk
    obtain ⟨⟨⟨kvs, hd, hkd⟩, fs, hf, hfl⟩, nd, nf, hnr, hne, hln⟩ := hk
    have fin : ∀ (te : TE) (σ : L2.St) (H1 : Hp), Rl (dmd k) H H1 → σ[1]? = some (some (.int (n : Nat))) → EZ m0 te σ H1 (fun _ => True) → tRet (tOp (rI (fun _ j => 0 < j) fun i j => .int (i % j)) (tCB rInt1 (tCons te tNil)) (tVar 1)) { nx := fun _ H' => Q .non H', rt := Q } σ H1 := fun te σ H1 r h1 h => by
      refine s_ret (m := m0) i0 (ez_op (R := fun j => 0 ≤ j ∧ j < n) (ez_int1 h) (ED.z (K := K) (C := fun j => j = n) (ed_var h1 (.int _)) rfl) fun i j _ hj => ?_) fun v H2 e2 hv => ?_
      · subst hj
        exact ⟨by omega, Int.emod_nonneg _ (by omega), Int.emod_lt_of_pos _ (by omega)⟩
      · obtain ⟨j, rfl, h1, h2⟩ := hv
        exact q _ _ (r.trans (Rl.ex r.i e2.ex0)) ⟨j.toNat, by rw [Int.toNat_of_nonneg h1], by omega⟩
    refine q_asg (m := m0) i0 (ev_dgetK (x := "far") (fun z => z) hd (ev_var rfl) hkd.far) fun v2 H1 e1 h2 => ?_
    subst h2
    have hf1 := e1.ex0 _ _ hf
    refine q_if (m := m0) i0 (et_test (ed_neL (K := K) (ds := fs.map .int) (es := []) (eq_var rfl ⟨k.fl, _, rfl, fun z => z, hf1, RpAll.ints fs⟩) (EL.eq (el_lst (K := K) (ds := []) ea_nil (Nat.zero_le _))) (Nat.le_trans (depthAll_le (n := 1) fun d hd => by
      obtain ⟨i, _, rfl⟩ := List.mem_map.mp hd
      simp [PyData.depth]) (by decide)) (by decide))) (fun hb H2 e2 => ?_) (fun hb H2 e2 => ?_)
    · have hne2 : fs ≠ [] := fun z => by
        rw [z] at hb
        cases hb
      have hr12 : Rl (dmd k) H H2 := hk0.ex (e1.ex0.trans e2.ex0)
      have hf2 := e2.ex0 _ _ hf1
      have hlast : (fs.map V.int)[(fs.map V.int).length - 1]? = some (.int (fs.getLast hne2)) := by
        rw [List.length_map, List.getElem?_map, ← List.getLast?_eq_getElem?, List.getLast?_eq_getLast hne2]
        rfl
      refine s_seq (s_popL (K := K) hf2 hlast (ev_var rfl) fun H3 e3 => ?_)
      have hr3 : Rl (dmd k) H (upd H3 k.fl (.lst (fs.dropLast.map V.int))) := by
        have hr3 := hr12.trans (Rl.ex hr12.i e3)
        exact hr3.updM (.inr rfl) (dkI.updF hr3.i (by rw [List.length_dropLast]; omega))
      rw [← List.map_dropLast]
      refine q_if (m := m0) i0 (et_test (K := K) (ed_B0 (g := fun i j => decide (i ≥ j)) (ed_var rfl (.int _)) (ed_var rfl (.int _)))) (fun hb H4 e4 => ?_) (fun hb H4 e4 => ?_)
      · have hr4 := hr3.trans (Rl.ex hr3.i e4.ex0)
        refine s_app (m := m0) (K := K) (P := fun _ v _ => ∃ i : Int, v = .int i ∧ True) i0 (fun z => z) (e4.ex0 _ _ upd_same) (ev_var rfl) (ez_op (R := fun _ => True) (ED.z (K := K) (C := fun _ => True) (ed_var rfl (.int _)) trivial) (ED.z (K := K) (C := fun j => j = n) (ed_var rfl (.int _)) rfl) fun i j _ hj => ⟨by subst hj; exact ⟨by omega, by omega⟩, trivial⟩) (by rw [List.length_map, List.length_dropLast]; omega) (fun v H5 e5 hv h5 => ?_) fun _ _ _ _ _ p => p
        obtain ⟨i, rfl, _⟩ := hv
        have hr5 := hr4.trans (Rl.ex hr4.i e5.ex0)
        refine fin _ _ _ (hr5.updM (.inr rfl) ?_) rfl (ED.z (K := K) (ed_var rfl (.int _)) trivial)
        have e : fs.dropLast.map V.int ++ [V.int i] = (fs.dropLast ++ [i]).map V.int := by
          rw [List.map_append]
          rfl
        rw [e]
        exact dkI.updF hr5.i (by rw [List.length_append, List.length_dropLast]; show fs.length - 1 + 1 ≤ 100; omega)
      · exact fin _ _ _ (hr3.trans (Rl.ex hr3.i e4.ex0)) rfl (ED.z (K := K) (ed_var rfl (.int _)) trivial)
    · have hr2 : Rl (dmd k) H H2 := hk0.ex (e1.ex0.trans e2.ex0)
      have hd2 := (e1.ex0.trans e2.ex0) _ _ hd
      obtain ⟨t0, ht0⟩ := hkd.turn
      obtain ⟨b0, hb0⟩ := hkd.blend
      refine s_seq (s_dputK (P := fun v _ => ∃ i : Int, v = .int i ∧ True) (x := "turn") hd2 (by have := hkd.len; omega) (ez_op0 (R := fun _ => True) (ED.z (K := K) (C := fun _ => True) (Ev.ed (ev_dgetK (x := "turn") (fun z => z) hd2 (ev_var rfl) ht0)) trivial) (ED.z (K := K) (C := fun _ => True) ed_int trivial) fun _ _ _ _ => trivial) (fun _ _ _ _ h => h) (ev_var rfl) fun v H3 e3 hv hd3 => ?_)
      obtain ⟨t, rfl, _⟩ := hv
      have hkd' := hkd.turn' t
      have hr3 : Rl (dmd k) H (upd H3 k.d (.dK (putK kvs kTurn (.int t)))) := by
        have hr3 := hr2.trans (Rl.ex hr2.i e3)
        exact hr3.updM (.inl rfl) (dkI.updT hr3.i hkd')
      have hnr3 : upd H3 k.d (.dK (putK kvs kTurn (.int t))) k.nl = some (.lst (k.ns.map V.int)) := (hk0.rl hr3).nr
      have ht3 : valV (putK kvs kTurn (.int t)) kTurn = some (.int t) := by rw [valV_put, if_pos rfl]
      have hb3 : valV (putK kvs kTurn (.int t)) kBlend = some (.int b0) := by
        rw [valV_put, if_neg (by decide)]
        exact hb0
      refine q_par (m := m0) i0 (eg_cons (P1 := fun v _ => v = .int t) (ev_dgetK (x := "turn") (fun z => z) upd_same (ev_var rfl) ht3) (fun _ _ _ _ h => h) (eg_one (P1 := fun v _ => v = .ref k.nl) (ev_dgetK (x := "near") (fun z => z) upd_same (ev_var rfl) hkd'.near))) fun vs H4 e4 hvs => ?_
      obtain ⟨_, _, rfl, rfl, _, rfl, rfl⟩ := hvs
      refine ⟨_, _, rfl, ?_⟩
      have hr4 := hr3.trans (Rl.ex hr3.i e4.ex0)
      have hd4 := e4.ex0 _ _ upd_same
      have hnr4 := e4.ex0 _ _ hnr3
      have hl0 : 0 < k.ns.length := List.length_pos_iff.mpr hne
      have hcell : EZ m0 (tOp (rIxL K) (tVar 5) (tOp (rI (fun _ j => 0 < j) fun i j => .int (i % j)) (tCB rInt1 (tCons (tVar 4) tNil)) (tCB (rLenS K) (tCons (tVar 5) tNil)))) [some (.ref k.d), some (.int (n : Nat)), some (.ref k.fl), none, some (.int t), some (.ref k.nl), none, none] H4 fun _ => True := by
        have hm1 := Int.emod_nonneg t (b := (k.ns.length : Int)) (by omega)
        have hm2 := Int.emod_lt_of_pos t (b := (k.ns.length : Int)) (by omega)
        have hlt : (t % (k.ns.length : Int)).toNat < k.ns.length := by omega
        refine ED.z (K := K) (i := k.ns[(t % (k.ns.length : Int)).toNat]) (ed_ixL (ds := k.ns.map .int) (i := (t % (k.ns.length : Int)).toNat) (eq_var rfl ⟨k.nl, _, rfl, fun z => z, hnr4, RpAll.ints _⟩) (ed_is (ed_I (C := fun _ j => 0 < j) (g := fun i j => i % j) (i := t) (j := ((k.ns.map PyData.int).length : Nat)) (fun H1 e Q q => ?_) (ed_lenL (eq_var rfl ⟨k.nl, _, rfl, fun z => z, hnr4, RpAll.ints _⟩)) (by rw [List.length_map]; omega)) (by rw [List.length_map, Int.toNat_of_nonneg hm1])) (by rw [List.getElem?_map, List.getElem?_eq_getElem hlt]; rfl)) trivial
        exact ⟨.int t, rfl, .inl ⟨t, rfl, q _ H1 (Rl.refl e.i) (.int _)⟩⟩
      refine q_asg (m := m0) i0 hcell fun v6 H5 e5 h6 => ?_
      obtain ⟨c, rfl, _⟩ := h6
      have hd5 := e5.ex0 _ _ hd4
      have hr5 := hr4.trans (Rl.ex hr4.i e5.ex0)
      refine q_asg (m := m0) i0 (ez_op (R := fun j => 0 ≤ j ∧ j < 2 ^ 31) (ez_int1 (ED.z (K := K) (C := fun _ => True) (ed_I0 (g := fun i j => i + j) (ed_I0 (g := fun i j => i + j) (ed_I (g := fun i j => i * j) (ed_var rfl (.int _)) ed_int (.inr (by decide))) (ed_I (g := fun i j => i * j) (Ev.ed (ev_dgetK (x := "blend") (fun z => z) hd5 (ev_var rfl) hb3)) ed_int (.inr (by decide)))) (ed_I (g := fun i j => i * j) (ed_var rfl (.int _)) ed_int (.inr (by decide)))) trivial)) (ED.z (K := K) (C := fun j => j = 2147483399) ed_int rfl) fun i j _ h => ?_) fun v7 H6 e6 h7 => ?_
      · subst h
        have a1 := Int.emod_nonneg i (b := 2147483399) (by decide)
        have a2 := Int.emod_lt_of_pos i (b := 2147483399) (by decide)
        exact ⟨by decide, a1, by omega⟩
      obtain ⟨x, rfl, hx1, hx2⟩ := h7
      have hd6 := e6.ex0 _ _ hd5
      have hr6 := hr5.trans (Rl.ex hr5.i e6.ex0)
      refine q_asg (m := m0) i0 (ez_op (R := fun j => 0 ≤ j ∧ j < 2 ^ 31) (ez_int1 (ED.z (K := K) (C := fun _ => True) (ed_I0 (g := fun i j => i + j) (ed_I0 (g := fun i j => i + j) (ed_I (g := fun i j => i * j) (ed_var rfl (.int _)) (ed_var rfl (.int _)) (.inr (by omega))) (ed_I (g := fun i j => i * j) (ed_var rfl (.int _)) ed_int (.inr (by decide)))) (ed_var rfl (.int _))) trivial)) (ED.z (K := K) (C := fun j => j = 2147483629) ed_int rfl) fun i j _ h => ?_) fun v7 H7 e7 h7 => ?_
      · subst h
        have a1 := Int.emod_nonneg i (b := 2147483629) (by decide)
        have a2 := Int.emod_lt_of_pos i (b := 2147483629) (by decide)
        exact ⟨by decide, a1, by omega⟩
      obtain ⟨y, rfl, hy1, hy2⟩ := h7
      have hd7 := e7.ex0 _ _ hd6
      have hr7 := hr6.trans (Rl.ex hr6.i e7.ex0)
      refine q_asg (m := m0) i0 (ez_op (R := fun _ => True) (ez_int1 (ED.z (K := K) (C := fun _ => True) (ed_I0 (g := fun i j => i + j) (ed_I0 (g := fun i j => i + j) (ed_I (g := fun i j => i * j) (ed_var rfl (.int _)) (ed_var rfl (.int _)) (.inr (by omega))) (Ev.ed (ev_dgetK (x := "blend") (fun z => z) hd7 (ev_var rfl) hb3))) (ed_var rfl (.int _))) trivial)) (ED.z (K := K) (C := fun j => j = 2147483647) ed_int rfl) fun i j _ h => ⟨by subst h; decide, trivial⟩) fun v7 H8 e8 h7 => ?_
      obtain ⟨z, rfl, _⟩ := h7
      refine fin _ _ _ (hr7.trans (Rl.ex hr7.i e8.ex0)) rfl (ED.z (K := K) (ed_I (g := fun i j => i.fdiv j) (ed_var rfl (.int _)) ed_int ⟨by decide, by decide⟩) trivial)
end
end PT

set_option Elab.async false
set_option linter.all false
set_option maxRecDepth 100000
set_option maxHeartbeats 4000000
namespace PT
open PySem PySem.Spec PyProof.Rows L2
def IsI (v : V) : Prop := ∃ i : Int, v = .int i
/-- a fresh list of k ints; a fresh list of n such -/
def FR (A B : Hp) (x : V) (k : Nat) : Prop := ∃ (q : Addr) (ns : List Int), x = .ref q ∧ A q = none ∧ B q = some (.lst (ns.map V.int)) ∧ ns.length = k
def Gr (A B : Hp) (v : V) (n k : Nat) : Prop := ∃ (p : Addr) (qs : List V), v = .ref p ∧ A p = none ∧ B p = some (.lst qs) ∧ qs.length = n ∧ ∀ x ∈ qs, FR A B x k
def no0 : Hp := fun _ => none
section
variable {K : PySem.W.Frag} {m : Md} {σ : L2.St} {H H' A B C : Hp} {ta tb tc te tf td ty tv tl : TE} {D : Ends} {g : TG} {tu tw tz : TS} {α : Type} {pre : DkA → α → List V → Hp → Prop} {post : DkA → α → Hp → V → Hp → Prop} {v x : V} {n k : Nat} {t : TT}
theorem FR.rl (hA : m.I A) (r : Rl m B C) (h : FR A B x k) : FR A C x k := by
  obtain ⟨q, ns, h1, h2, h3, h4⟩ := h
  exact ⟨q, ns, h1, h2, r.at (Md.notM hA h2) h3, h4⟩
theorem FR.ex (r : Ex B C) (h : FR A B x k) : FR A C x k := by
  obtain ⟨q, ns, h1, h2, h3, h4⟩ := h
  exact ⟨q, ns, h1, h2, r _ _ h3, h4⟩
theorem FR.back (e : Rl m A B) (h : FR B C x k) : FR A C x k := by
  obtain ⟨q, ns, h1, h2, h3, h4⟩ := h
  exact ⟨q, ns, h1, e.back h2, h3, h4⟩
theorem FR.no (h : FR A B x k) : FR no0 B x k := by
  obtain ⟨q, ns, h1, h2, h3, h4⟩ := h
  exact ⟨q, ns, h1, rfl, h3, h4⟩
theorem FR.set {q : Addr} {ns : List Int} (h : FR A B x k) (hn : ns.length = k) : FR A (upd B q (.lst (ns.map V.int))) x k := by
  obtain ⟨q', ns', h1, h2, h3, h4⟩ := h
  by_cases e : q' = q
  · subst e
    exact ⟨q', ns, h1, h2, upd_same, hn⟩
  · exact ⟨q', ns', h1, h2, by rw [upd_ne e]; exact h3, h4⟩
theorem FR.other {q : Addr} {o : HO} (h : FR A B x k) (hn : x ≠ .ref q) : FR A (upd B q o) x k := by
  obtain ⟨q', ns', h1, h2, h3, h4⟩ := h
  exact ⟨q', ns', h1, h2, by rw [upd_ne fun z => hn (by rw [h1, z])]; exact h3, h4⟩
theorem Gr.rl (hA : m.I A) (r : Rl m B C) (h : Gr A B v n k) : Gr A C v n k := by
  obtain ⟨p, qs, h1, h2, h3, h4, h5⟩ := h
  exact ⟨p, qs, h1, h2, r.at (Md.notM hA h2) h3, h4, fun x hx => (h5 x hx).rl hA r⟩
theorem Gr.back (e : Rl m A B) (h : Gr B C v n k) : Gr A C v n k := by
  obtain ⟨p, qs, h1, h2, h3, h4, h5⟩ := h
  exact ⟨p, qs, h1, e.back h2, h3, h4, fun x hx => (h5 x hx).back e⟩
theorem Gr.no (h : Gr A B v n k) : Gr no0 B v n k := by
  obtain ⟨p, qs, h1, h2, h3, h4, h5⟩ := h
  exact ⟨p, qs, h1, rfl, h3, h4, fun x hx => (h5 x hx).no⟩
/-- a cell -/
theorem ez_grid {i j : Nat} (hA : m.I A) (h : Gr A H v n k) (ha : Ev m ta σ H v) (hb : ED K m tb σ H (.int (i : Nat))) (hc : ED K m tc σ H (.int (j : Nat))) (hi : i < n) (hj : j < k) : EZ m (tOp (rIxL K) (tOp (rIxL K) ta tb) tc) σ H fun _ => True := by
  obtain ⟨p, qs, rfl, hp, hq, hl, hall⟩ := h
  have hi' : i < qs.length := by omega
  obtain ⟨q, ns, e1, e2, e3, e4⟩ := hall _ (List.getElem_mem hi')
  have h1 : Ev m (tOp (rIxL K) ta tb) σ H qs[i] := ep_op (P1 := fun v _ => v = .ref p) (P2 := fun v _ => v = .int (i : Nat)) ha (fun _ _ _ _ h => h) hb.ev (fun x y H1 _ e p1 p2 Q q => by
    subst p1 p2
    exact ⟨p, qs, _, _, rfl, rfl, .inl (.inl (e.at (Md.notM hA hp) hq)), atI_nat (List.getElem?_eq_getElem hi'), q _ H1 (Rl.refl e.i) rfl⟩) fun _ _ _ _ _ p => p
  have hj' : j < (ns.map V.int).length := by rw [List.length_map]; omega
  exact ep_op (P1 := fun v _ => v = qs[i]) (P2 := fun v _ => v = .int (j : Nat)) h1 (fun _ _ _ _ h => h) hc.ev (fun x y H1 _ e p1 p2 Q q' => by
    subst p1 p2
    exact ⟨q, _, _, _, e1, rfl, .inl (.inl (e.at (Md.notM hA e2) e3)), atI_nat (List.getElem?_eq_getElem hj'), q' _ H1 (Rl.refl e.i) ⟨_, List.getElem_map .., trivial⟩⟩) fun _ _ _ _ _ p => p
/-- a comprehension of ints -/
theorem each_ints {is : List Nat} : ∀ {vs : List V}, Each (fun _ v _ => IsI v) H vs is → ∃ ns : List Int, vs = ns.map V.int := fun {vs} h => by
  induction h with
  | nil => exact ⟨[], rfl⟩
  | cons a b ih =>
    obtain ⟨i, rfl⟩ := a
    obtain ⟨ns, e⟩ := ih
    exact ⟨i :: ns, by rw [e]; rfl⟩
theorem fr_lc {wi : L2.TI} {j n : Nat} {Yt : Nat → V → Hp → Prop} (hw : EW m wi σ H n Yt) (hz : n ≤ 50000) (he : ∀ i x H1, i < n → Rl m H H1 → Yt i x H1 → EvP m te (σ.set j (some x)) H1 fun _ v _ => IsI v) :
    EvP m (tLc wi (gName j) tYes te [j]) σ H fun A v B => FR A B v n :=
  EvP.imp (ep_lc (OkD := fun _ _ v _ => IsI v) (fun _ => true) hw hz (fun _ _ _ _ _ _ h => h) (fun _ _ _ _ _ _ _ h => h) (fun i x H1 hi r y => et_yes) fun i x H1 hi r y _ => EvP.imp (he i x H1 hi r y) fun A v B _ p _ _ _ => p) fun A v B _ p => by
    obtain ⟨p, xs, h1, h2, h3, h4⟩ := p
    have hl := h4.length
    rw [kept_all, List.length_range] at hl
    obtain ⟨ns, rfl⟩ := each_ints h4
    exact ⟨p, ns, h1, h2, h3, by rw [← hl, List.length_map]⟩
theorem EZ.isI {C : Int → Prop} (h : EZ m te σ H C) : EvP m te σ H fun _ v _ => IsI v := EvP.imp h fun _ v _ _ p => by
  obtain ⟨i, h, _⟩ := p
  exact ⟨i, h⟩
/-- a test whose answer is not told -/
def EX (m : Md) (t : TT) (σ : L2.St) (H : Hp) : Prop := ∀ H1, Rl m H H1 → ∀ Q : Bool → Hp → Prop, (∀ b H2, Rl m H1 H2 → Q b H2) → t σ H1 Q
theorem ET.toX {b : Bool} (h : ET m t σ H b) : EX m t σ H := fun H1 e Q q => h H1 e Q fun H2 e2 => q b H2 e2
theorem ex_eq {P1 P2 : Int → Prop} (ha : EZ m ta σ H P1) (hb : EZ m tb σ H P2) : EX m (tTest (tOp rEq ta tb)) σ H := fun H1 e Q q => ha H1 e _ fun x H2 e2 p1 => hb H2 (e.trans e2) _ fun y H3 e3 p2 => by
  obtain ⟨i, rfl, _⟩ := p1
  obtain ⟨j, rfl, _⟩ := p2
  exact ⟨rfl, _, rfl, q _ H3 (e2.trans e3)⟩
theorem ep_ifx {P : Hp → V → Hp → Prop} (h : EX m t σ H) (h1 : EvP m ta σ H P) (h2 : EvP m tb σ H P) (hP : ∀ A B C v, Rl m A B → P B v C → P A v C) : EvP m (tIf t ta tb) σ H P := fun H1 e Q q => h H1 e _ fun b H2 e2 => by
  cases b with
  | true => exact h1 H2 (e.trans e2) Q fun v H3 e3 p => q v H3 (e2.trans e3) (hP _ _ _ _ e2 p)
  | false => exact h2 H2 (e.trans e2) Q fun v H3 e3 p => q v H3 (e2.trans e3) (hP _ _ _ _ e2 p)
theorem s_ifx (hI : m.I H) (h : EX m t σ H) (h1 : ∀ H1, Rl m H H1 → tu D σ H1) (h2 : ∀ H1, Rl m H H1 → tw D σ H1) : tIfS t tu tw D σ H := h H (Rl.refl hI) _ fun b H1 e => by
  cases b with
  | true => exact h1 H1 e
  | false => exact h2 H1 e
theorem q_ifx (hI : m.I H) (h : EX m t σ H) (h1 : ∀ H1, Rl m H H1 → tu { D with nx := tz D } σ H1) (h2 : ∀ H1, Rl m H H1 → tw { D with nx := tz D } σ H1) : tSeq (tIfS t tu tw) tz D σ H := s_ifx (D := { D with nx := tz D }) hI h h1 h2
/-- arguments told of with the heap ahead -/
theorem EA.imp {ta : TA} {P P' : List V → Hp → Prop} (h : EA m ta σ H P) (f : ∀ vs H2, Rl m H H2 → P vs H2 → P' vs H2) : EA m ta σ H P' := fun H1 e Q q => h H1 e Q fun vs H2 e2 p => q vs H2 e2 (f vs H2 (e.trans e2) p)
theorem ep_callD2 {k : DkA} {E : XK} {t : TA} {R : V → Hp → Prop} (hk : DkOk k H) (ha : EA (dmd k) t σ H fun vs H2 => ∃ x ws, vs = .ref k.d :: ws ∧ pre k x ws H2 ∧ ∀ v H3, Rl (dmd k) H2 H3 → post k x H2 v H3 → R v H3) : EvP (dmd k) (tCall (SpD pre post) [] E t) σ H fun _ v H2 => R v H2 := fun H1 e Q q =>
  ha H1 e _ fun vs H2 e2 p => by
    obtain ⟨x, ws, rfl, hp, hr⟩ := p
    exact ⟨k, x, ws, by rw [List.append_nil], hk.rl (e.trans e2), hp, fun v H3 e3 p3 => q v H3 (e2.trans e3) (hr v H3 e3 p3)⟩
theorem ep_draw {k : DkA} {E : XK} {i n : Nat} (hk : DkOk k H) (hv : σ[i]? = some (some (.ref k.d))) (h : ED K (dmd k) te σ H (.int (n : Nat))) (h1 : 1 ≤ n ∧ n ≤ 100000) : EvP (dmd k) (tCall sp_law_draw [] E (tCons (tVar i) (tCons te tNil))) σ H fun _ v _ => ∃ r : Nat, v = .int (r : Nat) ∧ r < n :=
  ep_callD2 (R := fun v _ => ∃ r : Nat, v = .int (r : Nat) ∧ r < n) hk (EA.imp (eg_cons (P1 := fun v _ => v = .ref k.d) (ev_var hv) (fun _ _ _ _ h => h) (eg_one (P1 := fun v _ => v = .int (n : Nat)) h.ev)) fun vs H2 _ p => by
    obtain ⟨_, _, rfl, rfl, _, rfl, rfl⟩ := p
    exact ⟨n, _, rfl, ⟨rfl, h1⟩, fun v H3 _ p => p⟩)
/-- items of a list that stays -/
theorem ep_ixV {p : Addr} {xs : List V} (hn : ¬ m.M p) (hp : H p = some (.lst xs)) (ha : Ev m ta σ H (.ref p)) (hb : EvP m tb σ H fun _ v _ => ∃ r : Nat, v = .int (r : Nat) ∧ r < xs.length) : EvP m (tOp (rIxL K) ta tb) σ H fun _ v _ => v ∈ xs :=
  ep_op (P1 := fun v _ => v = .ref p) (P2 := fun v _ => ∃ r : Nat, v = .int (r : Nat) ∧ r < xs.length) ha (fun _ _ _ _ h => h) hb (fun x y H1 _ e p1 p2 Q q => by
    subst p1
    obtain ⟨r, rfl, hr⟩ := p2
    exact ⟨p, xs, _, _, rfl, rfl, .inl (.inl (e.at hn hp)), atI_nat (List.getElem?_eq_getElem hr), q _ H1 (Rl.refl e.i) (List.getElem_mem hr)⟩) fun _ _ _ _ _ p => p
theorem ed_lenV {p : Addr} {xs : List V} (hn : ¬ m.M p) (hp : H p = some (.lst xs)) (ha : Ev m ta σ H (.ref p)) : ED K m (tCB (rLenS K) (tCons ta tNil)) σ H (.int (xs.length : Nat)) := fun H1 e Q q => ha H1 e _ fun v H2 e2 p' => by
  subst p'
  exact ⟨p, xs, rfl, .inl (.inl (.inl ((e.trans e2).at hn hp))), q _ _ e2 (.int _)⟩
end
section
variable {P : Program} {w : World} {K : PySem.W.Frag} {mg : Str → Option Value} {base : Heap}
/-! ### _law_one -/
def sp_law_one : Sp := SpD (α := Addr × List V) (fun k a ws H => ws = [.ref a.1] ∧ ¬ (dmd k).M a.1 ∧ H a.1 = some (.lst a.2) ∧ 1 ≤ a.2.length ∧ a.2.length ≤ 100000) (fun _ a _ v _ => v ∈ a.2)
theorem ok_law_one {f f1 : Addr} {fd fd1 : FuncData} (B : Bt mg) (F : Fun K "_law_one" "_law_one" s_law_one f fd) (G_law_draw : FnOk P w K mg base CX0 1 f1 fd1 P_law_draw sp_law_draw) (F_law_draw : Fun K "_law_draw" "_law_draw" s_law_draw f1 fd1) (b_law_draw : Binds K fd1 P_law_draw []) (g_law_draw : mg "_law_draw" = some (.ref f1)) :
    FnOk P w K mg base CX0 2 f fd P_law_one sp_law_one := by
  have m_len := B.len_
  refine F.ok sc_law_one (fun vs H Q E h => ?_) (fun cdv A outer s H vs Q E hr h => ?_)
  · obtain ⟨k, x, ws, rfl, _, ⟨rfl, _⟩, _⟩ := h
    rfl
  · obtain ⟨k, ⟨p, xs⟩, ws, rfl, hk, ⟨rfl, hp, hx, hl⟩, q⟩ := h
    refine ⟨_, (pss_one (ps_ret (pe_ix (r := rIxL K) ix_list (pv 1) (pe_call G_law_draw (hr.mono (by decide)) (by rfl) g_law_draw F_law_draw.kp b_law_draw .nil pass0 (pa_cons (pv 0) (pa_cons (pe_callB (r := rLenS K) call_len_seq (by rfl) m_len PySem.boot_len (pa_cons (pv 1) pa_nil)) pa_nil))) (fun _ _ => rfl)))), ?_⟩
    have hp : ¬ (dmd k).M p := hp
    have hx : H p = some (.lst xs) := hx
    have hl : 1 ≤ xs.length ∧ xs.length ≤ 100000 := hl
    exact s_ret (m := dmd k) hk.i (ep_ixV (K := K) hp hx (ev_var rfl) (ep_draw (K := K) hk rfl (ed_lenV (K := K) hp hx (ev_var rfl)) hl)) fun v H1 e1 h1 => q v H1 e1 h1
/-! ### _law_mixed -/
def sp_law_mixed : Sp := SpD (α := Addr × List V) (fun k a ws H => ws = [.ref a.1] ∧ ¬ (dmd k).M a.1 ∧ H a.1 = some (.lst a.2) ∧ a.2.length ≤ 1000) (fun _ a H v H' => ∃ q ys, v = .ref q ∧ H q = none ∧ H' q = some (.lst ys) ∧ ys.Perm a.2)
theorem erase_perm {xs : List V} {k : Nat} {y : V} (h : xs[k]? = some y) : (y :: xs.eraseIdx k).Perm xs := by
  induction xs generalizing k with
  | nil => simp at h
  | cons a xs ih =>
    cases k with
    | zero =>
      have e := Option.some.inj h
      subst e
      exact List.Perm.refl _
    | succ k =>
      have h' : xs[k]? = some y := by simpa using h
      exact (List.Perm.swap _ _ _).trans ((ih h').cons a)
theorem ok_law_mixed {f f1 : Addr} {fd fd1 : FuncData} (B : Bt mg) (F : Fun K "_law_mixed" "_law_mixed" s_law_mixed f fd) (G_law_draw : FnOk P w K mg base CX0 1 f1 fd1 P_law_draw sp_law_draw) (F_law_draw : Fun K "_law_draw" "_law_draw" s_law_draw f1 fd1) (b_law_draw : Binds K fd1 P_law_draw []) (g_law_draw : mg "_law_draw" = some (.ref f1)) :
    FnOk P w K mg base CX0 2 f fd P_law_mixed sp_law_mixed := by
  have m_len := B.len_
  have m_list := B.list_
  have m_range := B.range_
  refine F.ok sc_law_mixed (fun vs H Q E h => ?_) (fun cdv A outer s H vs Q E hr h => ?_)
  · obtain ⟨k, x, ws, rfl, _, ⟨rfl, _⟩, _⟩ := h
    rfl
  · obtain ⟨k, ⟨p, xs⟩, ws, rfl, hk, ⟨rfl, hp, hx, hl⟩, q⟩ := h
    refine ⟨_, (pss_cons (ps_par (i := 2) (j := 3) (by rfl) sc_law_mixed.nd rfl rfl (by decide) rfl rfl (pa_cons (pe_callTy (r := rListOf K) call_list_of (by rfl) m_list (by decide +kernel) (pa_cons (pv 1) pa_nil)) (pa_cons (pe_lst pa_nil) pa_nil)) (by rfl))
      (pss_cons (ps_for PassesOwn.never rfl (pi_range1 (by rfl) m_range (pa_cons (pe_callB (r := rLenS K) call_len_seq (by rfl) m_len PySem.boot_len (pa_cons (pv 1) pa_nil)) pa_nil)) (pg_name (i := 4) sc_law_mixed.nd rfl (Or.inl rfl)) (pss_one (ps_expr (pe_bm PySem.F.plainAttrs_list PySem.F.slot_list_append PySem.F.type_list_append mt_append (pv 3) (pa_cons (pe_bm PySem.F.plainAttrs_list PySem.F.slot_list_pop PySem.F.type_list_pop mt_popAt (pv 2) (pa_cons (pe_call G_law_draw (hr.mono (by decide)) (by rfl) g_law_draw F_law_draw.kp b_law_draw .nil pass0 (pa_cons (pv 0) (pa_cons (pe_callB (r := rLenS K) call_len_seq (by rfl) m_len PySem.boot_len (pa_cons (pv 2) pa_nil)) pa_nil))) pa_nil)) pa_nil)))))
      (pss_one (ps_ret (pv 3))))), ?_⟩
    have hp : ¬ (dmd k).M p := hp
    have hx : H p = some (.lst xs) := hx
    have hl : xs.length ≤ 1000 := hl
    refine s_seq ?_
    refine ⟨.ref p, rfl, p, xs, rfl, .inl (.inl (.inl hx)), fun pr hpr => ⟨Nat.zero_le _, fun pf hpf => ⟨.ref pr, .ref pf, rfl, ?_⟩⟩⟩
    have hprH : H pr = none := hpr
    have npr : pf ≠ pr := fun z => by
      rw [z, upd_same] at hpf
      cases hpf
    have hpfH : H pf = none := (Ex.new hpr).back hpf
    have e0 : Ex H (upd (upd H pr (.lst xs)) pf (.lst [])) := (Ex.new hpr).trans (Ex.new hpf)
    have r0 : Rl (dmd k) H (upd (upd H pr (.lst xs)) pf (.lst [])) := hk.ex e0
    refine q_forR1 (m := dmd k) (K := K) (n := (xs.length : Nat)) r0.i (ea_one (ed_lenV (K := K) hp (e0 _ _ hx) (ev_var rfl))) (by omega)
      (fun i σ H' => (∃ y4, σ = [some (.ref k.d), some (.ref p), some (.ref pr), some (.ref pf), y4]) ∧ Rl (dmd k) H H' ∧ ∃ rs ys, H' pr = some (.lst rs) ∧ H' pf = some (.lst ys) ∧ (ys ++ rs).Perm xs ∧ ys.length = i)
      (fun H1 e1 => ⟨⟨none, rfl⟩, r0.trans e1, xs, [], e1.at (Md.notM hk.i hprH) (by rw [upd_ne npr.symm]; exact upd_same), e1.at (Md.notM hk.i hpfH) upd_same, List.Perm.refl _, rfl⟩) (fun i σ H1 hi hP => ?_) fun σ H1 hP => ?_
    · obtain ⟨⟨y4, rfl⟩, r1, rs, ys, hr1, hf1, hperm, hyl⟩ := hP
      have hlen := hperm.length_eq
      rw [List.length_append] at hlen
      have hrl : 1 ≤ rs.length := by omega
      refine ⟨.ref pf, rfl, Or.inl ⟨rfl, ys, .inl (.inl hf1)⟩, .ref pr, rfl, Or.inl ⟨rfl, rs, .inl (.inl hr1)⟩, ?_⟩
      refine ep_draw (K := K) (hk.rl r1) rfl (ed_lenV (K := K) (Md.notM hk.i hprH) hr1 (ev_var rfl)) (by omega) H1 (Rl.refl r1.i) _ fun v H2 e2 hv => ?_
      obtain ⟨j, rfl, hj⟩ := hv
      have hr2 := e2.at (Md.notM hk.i hprH) hr1
      have hf2 := e2.at (Md.notM hk.i hpfH) hf1
      have r2 := r1.trans e2
      have hix : seqIndex? (j : Int) rs.length = some j := (ixN_seq (by
        unfold ixN
        rw [if_pos (by omega), if_pos (by omega)]
        simp)).1
      have hget : rs[j]? = some rs[j] := List.getElem?_eq_getElem hj
      refine ⟨pr, rs, (j : Int), j, rs[j], rfl, rfl, hr2, by omega, by omega, hix, hget, pf, ys, rs[j], rfl, rfl, by rw [upd_ne npr]; exact hf2, len_lt (by omega), ⟨_, rfl⟩, (r2.mut hprH).mut hpfH, rs.eraseIdx j, ys ++ [rs[j]], by rw [upd_ne npr.symm]; exact upd_same, upd_same, ?_, by rw [List.length_append, hyl]; rfl⟩
      rw [List.append_assoc]
      exact ((erase_perm hget).append_left ys).trans hperm
    · obtain ⟨⟨y4, rfl⟩, r1, rs, ys, hr1, hf1, hperm, hyl⟩ := hP
      rw [Int.toNat_natCast] at hyl
      have hlen := hperm.length_eq
      rw [List.length_append] at hlen
      have hrs : rs = [] := List.eq_nil_of_length_eq_zero (by omega)
      subst hrs
      rw [List.append_nil] at hperm
      exact ⟨.ref pf, rfl, q _ H1 r1 ⟨pf, ys, rfl, hpfH, hf1, hperm⟩⟩
end
end PT

set_option Elab.async false
set_option linter.all false
set_option maxRecDepth 100000
set_option maxHeartbeats 4000000
namespace PT
open PySem PySem.Spec PyProof.Rows L2
section
variable {K : PySem.W.Frag} {m : Md} {σ : L2.St} {H H' A B C : Hp} {ta tb tc te tf td ty tv tl : TE} {D : Ends} {g : TG} {tu tw tz : TS} {v x : V} {n k : Nat} {ds es : List PyData}
theorem el_rg1 (h : ED K m te σ H (.int (n : Nat))) (hn : n ≤ 100000) : EL K m (tLstRg (tRg1 te)) σ H ((List.range n).map fun i => .int ((i : Nat) : Int)) := fun H1 e Q q => h H1 e _ fun v H2 e2 p => by
  have e3 := p.int_inv
  subst e3
  refine ⟨_, rfl, RgOk.of_le (by omega) (by omega) (by omega) (by omega), fun p hp => q _ _ (e2.trans (Rl.new e2.i hp)) ⟨p, _, rfl, e2.back hp, upd_same, ?_⟩⟩
  have this : ∀ Hx, RpAll K Hx ((List.range n).map (V.int ∘ fun i => ((i : Nat) : Int))) ((List.range n).map (PyData.int ∘ fun i => ((i : Nat) : Int))) := fun Hx => by
    have := RpAll.ints (K := K) (H := Hx) ((List.range n).map fun i => ((i : Nat) : Int))
    rw [List.map_map, List.map_map] at this
    exact this
  unfold rgV
  have en : ((n : Int) - 0).toNat = n := by omega
  rw [en]
  have e4 : ((List.range n).map fun i => V.int (0 + ((i : Nat) : Int))) = (List.range n).map (V.int ∘ fun i => ((i : Nat) : Int)) := List.map_congr_left fun i _ => by
    show V.int (0 + _) = V.int _
    rw [Int.zero_add]
  rw [e4]
  exact this _
theorem el_rg2 {a b : Nat} (ha : ED K m ta σ H (.int (a : Nat))) (hb : ED K m tb σ H (.int (b : Nat))) (hn : a ≤ 100000 ∧ b ≤ 100000) : EL K m (tLstRg (tRg2 ta tb)) σ H ((List.range (b - a)).map fun i => .int ((a + i : Nat) : Int)) := fun H1 e Q q => ha H1 e _ fun v H2 e2 p => hb H2 (e.trans e2) _ fun v' H3 e3 p' => by
  have h3 := p.int_inv
  have h4 := p'.int_inv
  subst h3 h4
  have e23 := e2.trans e3
  refine ⟨_, _, rfl, rfl, RgOk.of_le (by omega) (by omega) (by omega) (by omega), fun p hp => q _ _ (e23.trans (Rl.new e23.i hp)) ⟨p, _, rfl, e23.back hp, upd_same, ?_⟩⟩
  have this : ∀ Hx, RpAll K Hx ((List.range (b - a)).map (V.int ∘ fun i => ((a + i : Nat) : Int))) ((List.range (b - a)).map (PyData.int ∘ fun i => ((a + i : Nat) : Int))) := fun Hx => by
    have := RpAll.ints (K := K) (H := Hx) ((List.range (b - a)).map fun i => ((a + i : Nat) : Int))
    rw [List.map_map, List.map_map] at this
    exact this
  unfold rgV
  have en : ((b : Int) - (a : Int)).toNat = b - a := by omega
  rw [en]
  have e4 : ((List.range (b - a)).map fun i => V.int (((a : Nat) : Int) + ((i : Nat) : Int))) = (List.range (b - a)).map (V.int ∘ fun i => ((a + i : Nat) : Int)) := List.map_congr_left fun i _ => by
    show V.int _ = V.int _
    congr 1
  rw [e4]
  exact this _
theorem el_cat (ha : EQ K m ta σ H ds) (hb : EQ K m tb σ H es) (hl : ds.length + es.length ≤ 100000) : EL K m (tOp rCat ta tb) σ H (ds ++ es) :=
  ep_op ha st_lq hb (fun x y H1 _ e p1 p2 Q q => by
    obtain ⟨a, xs, rfl, n1, h1, h2⟩ := p1
    obtain ⟨b, ys, rfl, n2, g1, g2⟩ := p2
    exact ⟨a, b, xs, ys, rfl, rfl, h1, g1, by rw [h2.length, g2.length]; exact len_ok hl, fun p hp => q _ _ (Rl.new e.i hp) ⟨p, _, rfl, hp, upd_same, (h2.append g2).tk' (Tk.new hp)⟩⟩) fun _ _ _ _ e p => newL_back e p
theorem RpAll.rep {vs : List V} (h : RpAll K H vs ds) : ∀ n, RpAll K H (List.replicate n vs).flatten (List.replicate n ds).flatten
  | 0 => .nil
  | n + 1 => by
    rw [List.replicate_succ, List.replicate_succ, List.flatten_cons, List.flatten_cons]
    exact h.append (RpAll.rep h n)
theorem el_rep (ha : EQ K m ta σ H ds) (hb : ED K m tb σ H (.int (n : Nat))) (hl : ds.length * n ≤ 100000) (hn : n ≤ 100000) : EL K m (tOp rRep ta tb) σ H (List.replicate n ds).flatten :=
  ep_op ha st_lq hb (fun x y H1 _ e p1 p2 Q q => by
    obtain ⟨a, xs, rfl, n1, h1, h2⟩ := p1
    have e3 := p2.int_inv
    subst e3
    have en : ((n : Int)).toNat = n := by omega
    refine ⟨a, _, xs, rfl, rfl, h1, by omega, by omega, by rw [en, h2.length]; exact len_ok hl, fun p hp => q _ _ (Rl.new e.i hp) ⟨p, _, rfl, hp, upd_same, ?_⟩⟩
    rw [en]
    exact (h2.rep n).tk' (Tk.new hp)) fun _ _ _ _ e p => newL_back e p
theorem q_unp2V {ta : TA} {i j : Nat} {P : List V → Hp → Prop} (hI : m.I H) (h : EA m ta σ H P) (k : ∀ vs H1, Rl m H H1 → P vs H1 → ∃ v w, vs = [v, w] ∧ ∀ H2, Rl m H1 H2 → tz D ((σ.set i (some v)).set j (some w)) H2) : tSeq (tAsg (tTup ta) (gTup K 2 (gCons (gName i) (gCons (gName j) gNil)))) tz D σ H := h H (Rl.refl hI) _ fun vs H1 e p => by
  obtain ⟨v, w, rfl, k⟩ := k vs H1 e p
  exact ⟨by show 2 ≤ sizeLine; decide, fun a ha => ⟨a, _, rfl, .inl (.inl upd_same), rfl, _, _, rfl, _, _, rfl, rfl, k _ (Rl.new e.i ha)⟩⟩
theorem q_unp3V {ta : TA} {i j l : Nat} {P : List V → Hp → Prop} (hI : m.I H) (h : EA m ta σ H P) (k : ∀ vs H1, Rl m H H1 → P vs H1 → ∃ v w u, vs = [v, w, u] ∧ ∀ H2, Rl m H1 H2 → tz D (((σ.set i (some v)).set j (some w)).set l (some u)) H2) : tSeq (tAsg (tTup ta) (gTup K 3 (gCons (gName i) (gCons (gName j) (gCons (gName l) gNil))))) tz D σ H := h H (Rl.refl hI) _ fun vs H1 e p => by
  obtain ⟨v, w, u, rfl, k⟩ := k vs H1 e p
  exact ⟨by show 3 ≤ sizeLine; decide, fun a ha => ⟨a, _, rfl, .inl (.inl upd_same), rfl, _, _, rfl, _, _, rfl, _, _, rfl, rfl, k _ (Rl.new e.i ha)⟩⟩
theorem ep_tupFR (h : EvP m te σ H fun A v B => FR A B v n) : EvP m (tCB (rTupOf K) (tCons te tNil)) σ H fun _ v B => ∃ ns : List Int, ns.length = n ∧ Rp K B v (dT ns) := fun H1 e Q q =>
  h H1 e _ fun v H2 e2 p => by
    obtain ⟨a, ns, rfl, h1, h2, h3⟩ := p
    exact ⟨a, _, rfl, .inl ⟨.inl (.inl h2), fun l hl => q _ _ (e2.trans (Rl.new e2.i hl)) ⟨ns, h3, rp_tup upd_same (RpAll.ints ns)⟩⟩⟩
end
/-! ### the old places -/
def oldL (n k a : Nat) : List Nat := (List.range a ++ List.replicate k a) ++ (List.range (n - (a + 1))).map (a + 1 + ·)
theorem oldL_len {n k a : Nat} (h : a < n) : (oldL n k a).length = n + k - 1 := by
  unfold oldL
  rw [List.length_append, List.length_append, List.length_range, List.length_replicate, List.length_map, List.length_range]
  omega
theorem oldL_at {n k a x o : Nat} (h : a < n) (hx : (oldL n k a)[x]? = some o) : o < n ∧ (o = a → a ≤ x ∧ x < a + k) := by
  unfold oldL at hx
  have l1 : (List.range a ++ List.replicate k a).length = a + k := by rw [List.length_append, List.length_range, List.length_replicate]
  by_cases h1 : x < a + k
  · rw [List.getElem?_append_left (by omega)] at hx
    by_cases h2 : x < a
    · rw [List.getElem?_append_left (by rw [List.length_range]; omega), List.getElem?_range h2] at hx
      cases hx
      exact ⟨by omega, by omega⟩
    · rw [List.getElem?_append_right (by rw [List.length_range]; omega), List.length_range, List.getElem?_replicate, if_pos (by omega)] at hx
      cases hx
      exact ⟨h, fun _ => ⟨by omega, h1⟩⟩
  · rw [List.getElem?_append_right (by omega), l1, List.getElem?_map] at hx
    obtain ⟨y, hy, rfl⟩ := Option.map_eq_some_iff.mp hx
    have hlt := (List.getElem?_eq_some_iff.mp hy).1
    rw [List.length_range] at hlt
    rw [List.getElem?_range hlt] at hy
    cases hy
    exact ⟨by omega, by omega⟩
theorem flat_rep (a : Nat) : ∀ k : Nat, (List.replicate k [PyData.int (a : Nat)]).flatten = (List.replicate k a).map (fun x : Nat => PyData.int ((x : Nat) : Int))
  | 0 => rfl
  | k + 1 => by
    rw [List.replicate_succ, List.replicate_succ, List.flatten_cons, flat_rep a k]
    rfl
theorem rows_tab {n : Nat} {nss : List (List Int)} (h1 : nss.length = n) (h2 : ∀ ns ∈ nss, ns.length = n) : ∃ r : Tb, PyData.tuple (nss.map dT) = dRows n r := by
  refine ⟨fun x y => (nss.getD x []).getD y 0, ?_⟩
  unfold dRows
  congr 1
  apply List.ext_getElem
  · simp [h1]
  · intro i a1 a2
    rw [List.length_map] at a1
    rw [List.getElem_map, List.getElem_map, List.getElem_range]
    unfold dRow
    congr 1
    have e : nss.getD i [] = nss[i] := by
      rw [List.getD_eq_getElem?_getD, List.getElem?_eq_getElem a1]
      rfl
    have hl := h2 _ (List.getElem_mem a1)
    apply List.ext_getElem
    · simp [hl]
    · intro j b1 b2
      rw [List.getElem_map, List.getElem_range]
      show _ = (nss.getD i []).getD j 0
      rw [e, List.getD_eq_getElem?_getD, List.getElem?_eq_getElem b1]
      rfl
section
variable {P : Program} {w : World} {K : PySem.W.Frag} {mg : Str → Option Value} {base : Heap}
/-! ### _law_put -/
def sp_law_put : Sp := fun vs H Q _ => ∃ (n k a : Nat) (vr vb : V), vs = [vr, .int (a : Nat), vb] ∧ Gr no0 H vr n n ∧ Gr no0 H vb k k ∧ a < n ∧ 1 ≤ k ∧ n + k ≤ 200 ∧ ∀ v H', Ex H H' → Gr H H' v (n + k - 1) (n + k - 1) → Q v H'
theorem ok_law_put {f : Addr} {fd : FuncData} (B : Bt mg) (F : Fun K "_law_put" "_law_put" s_law_put f fd) : FnOk P w K mg base CX0 1 f fd P_law_put sp_law_put := by
  have m_len := B.len_
  have m_list := B.list_
  have m_range := B.range_
  refine F.ok sc_law_put (fun vs H Q E h => ?_) (fun cdv A outer s H vs Q E hr h => ?_)
  · obtain ⟨n, k, a, vr, vb, rfl, _⟩ := h
    rfl
  · obtain ⟨n, k, a, vr, vb, rfl, hgr, hgb, han, hk1, hnk, q⟩ := h
    refine ⟨_, (pss_cons (ps_par (i := 3) (j := 4) (by rfl) sc_law_put.nd rfl rfl (by decide) rfl rfl (pa_cons (pe_op op_cat (pe_op op_cat (pe_listRg rfl (by rfl) m_list (prg_1 (by rfl) m_range (pv 1))) (pe_op op_rep (pe_lst (pa_cons (pv 1) pa_nil)) (pe_callB (r := rLenS K) call_len_seq (by rfl) m_len PySem.boot_len (pa_cons (pv 2) pa_nil)))) (pe_listRg rfl (by rfl) m_list (prg_2 (by rfl) m_range (pe_op op_add (pv 1) pe_int) (pe_callB (r := rLenS K) call_len_seq (by rfl) m_len PySem.boot_len (pa_cons (pv 0) pa_nil))))) (pa_cons (pe_lst pa_nil) pa_nil)) (by rfl))
      (pss_cons (ps_for PassesOwn.never rfl (pi_range1 (by rfl) m_range (pa_cons (pe_callB (r := rLenS K) call_len_seq (by rfl) m_len PySem.boot_len (pa_cons (pv 3) pa_nil)) pa_nil)) (pg_name (i := 5) sc_law_put.nd rfl (Or.inl rfl)) (pss_cons (ps_set (i := 6) sc_law_put.nd rfl (Or.inl rfl) (pe_lst pa_nil))
      (pss_cons (ps_for PassesOwn.never rfl (pi_range1 (by rfl) m_range (pa_cons (pe_callB (r := rLenS K) call_len_seq (by rfl) m_len PySem.boot_len (pa_cons (pv 3) pa_nil)) pa_nil)) (pg_name (i := 7) sc_law_put.nd rfl (Or.inl rfl)) (pss_cons (ps_set (i := 8) sc_law_put.nd rfl (Or.inl rfl) (pe_and (pe_cmpR op_eq (pe_ix (r := rIxL K) ix_list (pv 3) (pv 5) (fun _ _ => rfl)) (pv 1) (nomark _)) (pe_one (pe_cmpR op_eq (pe_ix (r := rIxL K) ix_list (pv 3) (pv 7) (fun _ _ => rfl)) (pv 1) (nomark _)))))
      (pss_one (ps_expr (pe_bm PySem.F.plainAttrs_list PySem.F.slot_list_append PySem.F.type_list_append mt_append (pv 6) (pa_cons (pe_ifExp (pt_val (pv 8)) (pe_ix (r := rIxL K) ix_list (pe_ix (r := rIxL K) ix_list (pv 2) (pe_op op_sub (pv 5) (pv 1)) (fun _ _ => rfl)) (pe_op op_sub (pv 7) (pv 1)) (fun _ _ => rfl)) (pe_ix (r := rIxL K) ix_list (pe_ix (r := rIxL K) ix_list (pv 0) (pe_ix (r := rIxL K) ix_list (pv 3) (pv 5) (fun _ _ => rfl)) (fun _ _ => rfl)) (pe_ix (r := rIxL K) ix_list (pv 3) (pv 7) (fun _ _ => rfl)) (fun _ _ => rfl))) pa_nil))))))
      (pss_one (ps_expr (pe_bm PySem.F.plainAttrs_list PySem.F.slot_list_append PySem.F.type_list_append mt_append (pv 4) (pa_cons (pv 6) pa_nil)))))))
      (pss_one (ps_ret (pv 4))))), ?_⟩
    have hgr0 := hgr
    have hgb0 := hgb
    obtain ⟨pr, qr, rfl, _, hpr, hqr, _⟩ := hgr0
    obtain ⟨pb, qb, rfl, _, hpb, hqb, _⟩ := hgb0
    have hol := oldL_len (k := k) han
    refine q_par (m := m0) i0 (eg_cons (P1 := fun v H2 => ∃ p, v = .ref p ∧ H2 p = some (.lst ((iN (oldL n k a)).map V.int))) (EvP.imp (EL.at (el_cat (K := K) (EL.eq (el_cat (EL.eq (el_rg1 (K := K) (n := a) (ed_var rfl (.int _)) (by omega))) (EL.eq (el_rep (ds := [.int (a : Nat)]) (EL.eq (el_lst (K := K) (ea_one (ed_var rfl (.int _))) (by show 1 ≤ 100000; decide))) (ed_lenV (K := K) (fun z => z) hpb (ev_var rfl)) (by show 1 * qb.length ≤ 100000; omega) (by omega))) ?_)) (EL.eq (el_rg2 (a := a + 1) (b := qr.length) (ed_is (ed_I0 (g := fun i j => i + j) (ed_var rfl (.int _)) ed_int) (by norm_cast)) (ed_lenV (K := K) (fun z => z) hpr (ev_var rfl)) (by omega))) ?_)) ?_) (fun v A B r h => by
        obtain ⟨p, h1, h2⟩ := h
        exact ⟨p, h1, r.ex0 _ _ h2⟩) (eg_one (EL.at (el_lst (K := K) (ds := []) ea_nil (Nat.zero_le _))))) fun vs H1 e1 hvs => ?_
    · rw [List.length_map, List.length_range, List.length_flatten, List.map_replicate]
      simp
      omega
    · rw [List.length_append, List.length_map, List.length_map, List.length_range, List.length_range, List.length_flatten, List.map_replicate]
      simp
      omega
    · intro A v B _ h
      obtain ⟨p, xs, h1, h2, h3, h4⟩ := h
      refine ⟨p, h1, ?_⟩
      have e : ((List.range a).map (fun i => PyData.int ((i : Nat) : Int)) ++ (List.replicate qb.length [PyData.int (a : Nat)]).flatten) ++ (List.range (qr.length - (a + 1))).map (fun i => PyData.int ((a + 1 + i : Nat) : Int)) = (iN (oldL n k a)).map .int := by
        rw [hqb, hqr, iN_map]
        unfold oldL
        rw [List.map_append, List.map_append, List.map_map]
        rw [flat_rep]
        rfl
      rw [e] at h4
      rw [← h4.ints_inv]
      exact h3
    obtain ⟨_, _, rfl, ⟨po, rfl, hpo⟩, _, rfl, pf, xf, rfl, hpf, hpf1, hxf⟩ := hvs
    cases hxf
    refine ⟨_, _, rfl, ?_⟩
    have npo : po ≠ pf := fun z => by
      rw [z, hpf1] at hpo
      have e : ([] : List V) = (iN (oldL n k a)).map V.int := by
        injection hpo with hpo
        injection hpo
      have := congrArg List.length e
      rw [List.length_map] at this
      unfold iN at this
      rw [List.length_map, hol] at this
      have : 0 = n + k - 1 := this
      omega
    have hlen1 : ((iN (oldL n k a)).map V.int).length = n + k - 1 := by
      unfold iN
      rw [List.length_map, List.length_map, hol]
    have olds : ∀ (H2 : Hp) (σ : L2.St) (te : TE) (x o : Nat), H2 po = some (.lst ((iN (oldL n k a)).map V.int)) → σ[3]? = some (some (.ref po)) → ED K m0 te σ H2 (.int (x : Nat)) → (oldL n k a)[x]? = some o → ED K m0 (tOp (rIxL K) (tVar 3) te) σ H2 (.int (o : Nat)) := fun H2 σ te x o h h3 ht hx => ed_ixL (ds := (iN (oldL n k a)).map .int) (eq_var h3 ⟨po, _, rfl, fun z => z, h, RpAll.ints _⟩) ht (by rw [iN_map, List.getElem?_map, hx]; rfl)
    refine q_forR1 (m := m0) (K := K) (n := (((iN (oldL n k a)).map V.int).length : Nat)) i0 (ea_one (ed_lenV (K := K) (fun z => z) hpo (ev_var rfl))) (by omega)
      (fun i σ H' => (∃ y5 y6 y7 y8, σ = [some (.ref pr), some (.int (a : Nat)), some (.ref pb), some (.ref po), some (.ref pf), y5, y6, y7, y8]) ∧ Ex H H' ∧ H' po = some (.lst ((iN (oldL n k a)).map V.int)) ∧ ∃ qs, H' pf = some (.lst qs) ∧ qs.length = i ∧ ∀ x ∈ qs, FR H H' x (n + k - 1) ∧ x ≠ .ref pf)
      (fun H2 e2 => ⟨⟨none, none, none, none, rfl⟩, e1.ex0.trans e2.ex0, e2.ex0 _ _ hpo, [], e2.ex0 _ _ hpf1, rfl, fun x hx => by cases hx⟩) (fun x σ H2 hx hP => ?_) fun σ H2 hP => ?_
    · obtain ⟨⟨y5, y6, y7, y8, rfl⟩, e2, ho2, qs, hq2, hql, hall⟩ := hP
      rw [hlen1] at hx
      have hxl : x < (oldL n k a).length := by omega
      obtain ⟨hox, hoxa⟩ := oldL_at (k := k) han (List.getElem?_eq_getElem hxl)
      refine q_asg (m := m0) i0 (EL.at (el_lst (K := K) (ds := []) ea_nil (Nat.zero_le _))) fun v6 H3 e3 h6 => ?_
      obtain ⟨pw, xw, rfl, hpw, hpw3, hxw⟩ := h6
      cases hxw
      refine q_forR1 (m := m0) (K := K) (n := (((iN (oldL n k a)).map V.int).length : Nat)) i0 (ea_one (ed_lenV (K := K) (fun z => z) (e3.ex0 _ _ ho2) (ev_var rfl))) (by omega)
        (fun j σ H' => (∃ y7 y8, σ = [some (.ref pr), some (.int (a : Nat)), some (.ref pb), some (.ref po), some (.ref pf), some (.int (x : Nat)), some (.ref pw), y7, y8]) ∧ Ex H2 H' ∧ ∃ ns : List Int, H' pw = some (.lst (ns.map V.int)) ∧ ns.length = j)
        (fun H4 e4 => ⟨⟨_, _, rfl⟩, e3.ex0.trans e4.ex0, [], e4.ex0 _ _ hpw3, rfl⟩) (fun y σ H4 hy hP => ?_) fun σ H4 hP => ?_
      · obtain ⟨⟨y7, y8, rfl⟩, e4, ns, hns, hnl⟩ := hP
        rw [hlen1] at hy
        have hyl : y < (oldL n k a).length := by omega
        obtain ⟨hoy, hoya⟩ := oldL_at (k := k) han (List.getElem?_eq_getElem hyl)
        have ho4 := e4 _ _ ho2
        refine q_asg (m := m0) i0 (ed_andV (K := K) (a := decide ((((oldL n k a)[x] : Nat) : Int) = (a : Nat))) (b := decide ((((oldL n k a)[y] : Nat) : Int) = (a : Nat))) (ed_eqI (olds _ _ _ x _ ho4 rfl (ed_var rfl (.int _)) (List.getElem?_eq_getElem hxl)) (ed_var rfl (.int _))) fun _ => ed_eqI (olds _ _ _ y _ ho4 rfl (ed_var rfl (.int _)) (List.getElem?_eq_getElem hyl)) (ed_var rfl (.int _))) fun v8 H5 e5 h8 => ?_
        have h8 := h8.bl_inv
        subst h8
        have e25 := e4.trans e5.ex0
        have g5 : Ex H H5 := e2.trans e25
        refine s_app (m := m0) (K := K) (P := fun _ v _ => IsI v) i0 (fun z => z) (e5.ex0 _ _ hns) (ev_var rfl) (ep_if (et_B (K := K) (ed_var rfl (.bl _))) (fun hb => ?_) (fun hb => ?_) fun _ _ _ _ _ h => h) (by rw [List.length_map]; omega) (fun v H6 e6 hv h6 => ?_) fun _ _ _ _ _ h => h
        · rw [Bool.and_eq_true, decide_eq_true_eq, decide_eq_true_eq] at hb
          obtain ⟨b1, b2⟩ := hoxa (by omega)
          obtain ⟨b3, b4⟩ := hoya (by omega)
          exact EZ.isI (ez_grid (K := K) (i := x - a) (j := y - a) (A := no0) (m := m0) trivial (hgb.rl (m := m0) trivial (Rl.of0 g5)) (ev_var rfl) (ed_is (ed_I0 (g := fun i j => i - j) (ed_var rfl (.int _)) (ed_var rfl (.int _))) (by congr 1; omega)) (ed_is (ed_I0 (g := fun i j => i - j) (ed_var rfl (.int _)) (ed_var rfl (.int _))) (by congr 1; omega)) (by omega) (by omega))
        · exact EZ.isI (ez_grid (K := K) (A := no0) (m := m0) trivial (hgr.rl (m := m0) trivial (Rl.of0 g5)) (ev_var rfl) (olds _ _ _ x _ (e25 _ _ ho2) rfl (ed_var rfl (.int _)) (List.getElem?_eq_getElem hxl)) (olds _ _ _ y _ (e25 _ _ ho2) rfl (ed_var rfl (.int _)) (List.getElem?_eq_getElem hyl)) hox hoy)
        · obtain ⟨i, rfl⟩ := hv
          refine ⟨⟨_, _, rfl⟩, (Rl.mut (m := m0) (Rl.of0 (e25.trans e6.ex0)) hpw).ex0, ns ++ [i], ?_, by rw [List.length_append, hnl]; rfl⟩
          rw [upd_same, List.map_append]
          rfl
      · obtain ⟨⟨y7, y8, rfl⟩, e4, ns, hns, hnl⟩ := hP
        rw [Int.toNat_natCast, hlen1] at hnl
        have npw : pw ≠ pf := fun z => by
          rw [z, hq2] at hpw
          cases hpw
        refine s_app (m := m0) (K := K) (P := fun _ v _ => v = .ref pw) i0 (fun z => z) (e4 _ _ hq2) (ev_var rfl) (ev_var rfl) (by omega) (fun v H6 e6 hv h6 => ?_) fun _ _ _ _ _ h => h
        subst hv
        have e26 := e4.trans e6.ex0
        refine ⟨⟨_, _, _, _, rfl⟩, (Rl.mut (m := m0) (Rl.of0 (e2.trans e26)) hpf).ex0, by rw [upd_ne npo]; exact e26 _ _ ho2, qs ++ [.ref pw], upd_same, by rw [List.length_append, hql]; rfl, fun z hz => ?_⟩
        rcases List.mem_append.mp hz with hz | hz
        · obtain ⟨a1, a2⟩ := hall z hz
          exact ⟨(a1.ex e26).other a2, a2⟩
        · rw [List.mem_singleton.mp hz]
          exact ⟨⟨pw, ns, rfl, e2.back hpw, by rw [upd_ne npw]; exact e6.ex0 _ _ hns, hnl⟩, fun z => npw (by injection z)⟩
    · obtain ⟨⟨y5, y6, y7, y8, rfl⟩, e2, ho2, qs, hq2, hql, hall⟩ := hP
      rw [Int.toNat_natCast, hlen1] at hql
      exact ⟨_, rfl, q _ H2 e2 ⟨pf, qs, rfl, hpf, hq2, hql, fun x hx => (hall x hx).1⟩⟩
end
end PT

set_option Elab.async false
set_option linter.all false
set_option maxRecDepth 100000
set_option maxHeartbeats 4000000
namespace PT
open PySem PySem.Spec PyProof.Rows L2
section
variable {P : Program} {w : World} {K : PySem.W.Frag} {mg : Str → Option Value} {base : Heap}
/-! ### _law_seated -/
def sp_law_seated (K : PySem.W.Frag) : Sp := fun vs H Q _ => ∃ (n : Nat) (vr : V) (p : Addr) (ss : List Nat), vs = [vr, .ref p] ∧ Gr no0 H vr n n ∧ H p = some (.lst ((iN ss).map V.int)) ∧ ss.length = n ∧ (∀ s ∈ ss, s < n) ∧ n ≤ 100 ∧ ∀ v H' r, Ex H H' → Rp K H' v (dTab n r) → Q v H'
theorem ok_law_seated {f : Addr} {fd : FuncData} (B : Bt mg) (F : Fun K "_law_seated" "_law_seated" s_law_seated f fd) : FnOk P w K mg base CX0 1 f fd P_law_seated (sp_law_seated K) := by
  have m_len := B.len_
  have m_tuple := B.tuple_
  refine F.ok sc_law_seated (fun vs H Q E h => ?_) (fun cdv A outer s H vs Q E hr h => ?_)
  · obtain ⟨n, vr, p, ss, rfl, _⟩ := h
    rfl
  · obtain ⟨n, vr, p, ss, rfl, hgr, hp, hsl, hss, hn, q⟩ := h
    refine ⟨_, (pss_cons (ps_set (i := 2) sc_law_seated.nd rfl (Or.inl rfl) (pe_lst pa_nil))
      (pss_cons (ps_for PassesOwn.never rfl (pi_listK (K := K) (pv 1)) (pg_name (i := 3) sc_law_seated.nd rfl (Or.inr rfl)) (pss_one (ps_expr (pe_bm PySem.F.plainAttrs_list PySem.F.slot_list_append PySem.F.type_list_append mt_append (pv 2) (pa_cons (pe_callTy (r := rTupOf K) call_tuple_of (by rfl) m_tuple (by decide +kernel) (pa_cons (pe_lc (own := [("_law_y", 4)]) rfl sc_law_seated.nd (pi_listK (K := K) (pv 1)) (blkOk_by (N := N_law_seated) (sc := (defScope s_law_seated)) (by decide +kernel)) (fun _ _ _ _ _ => (pg_name (i := 4) sc_law_seated.nd rfl (Or.inl rfl))) (fun _ _ _ _ _ => pts_nil) (fun _ _ _ _ _ => (pe_ix (r := rIxL K) ix_list (pe_ix (r := rIxL K) ix_list (pv 0) (pv 3) (fun _ _ => rfl)) (pv 4) (fun _ _ => rfl)))) pa_nil)) pa_nil)))))
      (pss_one (ps_ret (pe_tup (pa_cons (pe_callB (r := rLenS K) call_len_seq (by rfl) m_len PySem.boot_len (pa_cons (pv 1) pa_nil)) (pa_cons (pe_callTy (r := rTupOf K) call_tuple_of (by rfl) m_tuple (by decide +kernel) (pa_cons (pv 2) pa_nil)) pa_nil))))))), ?_⟩
    refine q_asg (m := m0) i0 (EL.at (el_lst (K := K) (ds := []) ea_nil (Nat.zero_le _))) fun v2 H1 e1 h2 => ?_
    obtain ⟨pf, xf, rfl, hpf, hpf1, hxf⟩ := h2
    cases hxf
    have hseat : ∀ H', Ex H H' → Lq K m0 H' (.ref p) ((iN ss).map .int) := fun H' e => ⟨p, _, rfl, fun z => z, e _ _ hp, RpAll.ints _⟩
    have hsat : ∀ {i : Nat} {d : PyData}, ((iN ss).map PyData.int)[i]? = some d → ∃ x, x < n ∧ d = .int (x : Nat) := fun h => by
      obtain ⟨x, h1, h2⟩ := lot_at h
      exact ⟨x, hss x (List.mem_of_getElem? h1), h2⟩
    have hl1 : ((iN ss).map PyData.int).length = n := by rw [lot_len, hsl]
    have npf : p ≠ pf := fun z => by
      rw [z, hpf] at hp
      cases hp
    have hpl : ((iN ss).map V.int).length = n := by
      unfold iN
      rw [List.length_map, List.length_map, hsl]
    refine q_forL (m := m0) (K := K) (C := fun v _ => v = .ref p) i0 (ev_var rfl) fun v H2 e2 hv => ?_
    subst hv
    have hpf2 := e2.ex0 _ _ hpf1
    refine ⟨p, _, rfl, e2.ex0 _ _ (e1.ex0 _ _ hp), fun i σ H' => (∃ y3, σ = [some vr, some (.ref p), some (.ref pf), y3, none]) ∧ Ex H H' ∧ ∃ (xs : List V) (nss : List (List Int)), H' pf = some (.lst xs) ∧ RpAll K H' xs (nss.map dT) ∧ nss.length = i ∧ ∀ ns ∈ nss, ns.length = n,
      ⟨⟨none, rfl⟩, e1.ex0.trans e2.ex0, [], [], hpf2, .nil, rfl, fun x hx => by cases hx⟩, fun i σ H' _ hP => hP.2.1 _ _ hp, fun i x σ H' hx hP => ?_, fun σ H' hP => ?_⟩
    · obtain ⟨⟨y3, rfl⟩, eH, xs, nss, h1, h2, h3, h4⟩ := hP
      obtain ⟨sx, hsx, rfl⟩ : ∃ sx, sx < n ∧ x = .int (sx : Nat) := by
        unfold iN at hx
        rw [List.map_map, List.getElem?_map] at hx
        obtain ⟨y, hy, e⟩ := Option.map_eq_some_iff.mp hx
        exact ⟨y, hss y (List.mem_of_getElem? hy), e.symm⟩
      have hi : i < n := by
        have := (List.getElem?_eq_some_iff.mp hx).1
        omega
      show tDrop _ _ _ _
      refine s_app (m := m0) (K := K) (P := fun _ v B => ∃ ns : List Int, ns.length = n ∧ Rp K B v (dT ns)) i0 (fun z => z) h1 (ev_var rfl) (ep_tupFR (n := n) (K := K) ?_) (by have := h2.length; rw [List.length_map] at this; omega) (fun v H6 e6 hv h6 => ?_) fun _ _ _ _ _ h => h
      · have hw := ew_list (K := K) (m := m0) (tl := tVar 1) (σ := [some vr, some (.ref p), some (.ref pf), some (.int (sx : Nat)), none]) (H := H') (ds := (iN ss).map .int) (eq_var rfl (hseat _ eH))
        rw [hl1] at hw
        refine fr_lc hw (by omega) (fun j y H5 hj r hy => ?_)
        obtain ⟨d, hd, hy⟩ := hy
        obtain ⟨sy, hsy, rfl⟩ := hsat hd
        have hy := hy.int_inv
        subst hy
        exact EZ.isI (ez_grid (K := K) (A := no0) (m := m0) trivial (hgr.rl (m := m0) trivial (Rl.of0 (eH.trans r.ex0))) (ev_var rfl) (ed_var rfl (.int _)) (ed_var rfl (.int _)) hsx hsy)
      · obtain ⟨ns, hn1, hv⟩ := hv
        refine ⟨⟨_, rfl⟩, (Rl.mut (m := m0) (Rl.of0 (eH.trans e6.ex0)) hpf).ex0, xs ++ [v], nss ++ [ns], upd_same, ?_, by rw [List.length_append, h3]; rfl, fun z hz => ?_⟩
        · rw [List.map_append]
          exact ((h2.rl e6).append (RpAll.one hv)).tk' (Tk.updL h6)
        · rcases List.mem_append.mp hz with hz | hz
          · exact h4 z hz
          · rw [List.mem_singleton.mp hz]
            exact hn1
    · obtain ⟨⟨y3, rfl⟩, eH, xs, nss, h1, h2, h3, h4⟩ := hP
      rw [hpl] at h3
      obtain ⟨r, hr⟩ := rows_tab h3 h4
      refine s_ret (m := m0) i0 (ed_tup (K := K) (ea_two (ed_lenL (eq_var rfl (hseat _ eH))) (ed_tupL (eq_var rfl ⟨pf, xs, rfl, fun z => z, h1, h2⟩))) (by show 2 ≤ 100000; decide)) fun v H5 e5 hv => q v H5 r (eH.trans e5.ex0) ?_
      rw [hl1, hr] at hv
      exact hv
/-! ### _law_block -/
def sp_law_block : Sp := SpD (α := Addr × List Int × Nat) (fun k a ws H => ws = [.ref a.1, .int (a.2.2 : Nat)] ∧ ¬ (dmd k).M a.1 ∧ H a.1 = some (.lst (a.2.1.map V.int)) ∧ 1 ≤ a.2.1.length ∧ a.2.1.length ≤ 100000 ∧ 2 ≤ a.2.2 ∧ a.2.2 ≤ 100) (fun _ a H v H' => ∃ n, 2 ≤ n ∧ n ≤ a.2.2 ∧ Gr H H' v n n)
theorem ep_oneI {k : DkA} {σ : L2.St} {H : Hp} {te : TE} {E : XK} {i : Nat} {p : Addr} {ns : List Int} (hk : DkOk k H) (hv : σ[i]? = some (some (.ref k.d))) (h : Ev (dmd k) te σ H (.ref p)) (hn : ¬ (dmd k).M p) (hp : H p = some (.lst (ns.map V.int))) (hl : 1 ≤ ns.length ∧ ns.length ≤ 100000) : EvP (dmd k) (tCall sp_law_one [] E (tCons (tVar i) (tCons te tNil))) σ H fun _ v _ => IsI v :=
  ep_callD2 (R := fun v _ => IsI v) hk (EA.imp (eg_cons (P1 := fun v _ => v = .ref k.d) (ev_var hv) (fun _ _ _ _ h => h) (eg_one (P1 := fun v _ => v = .ref p) h)) fun vs H2 r pp => by
    obtain ⟨_, _, rfl, rfl, _, rfl, rfl⟩ := pp
    refine ⟨(p, ns.map V.int), _, rfl, ⟨rfl, hn, r.at hn hp, by show 1 ≤ (ns.map V.int).length; rw [List.length_map]; exact hl.1, by show (ns.map V.int).length ≤ _; rw [List.length_map]; exact hl.2⟩, fun v H3 _ p => ?_⟩
    obtain ⟨j, _, e⟩ := List.mem_map.mp (show v ∈ ns.map V.int from p)
    exact ⟨j, e.symm⟩)
theorem ok_law_block {f f1 f2 : Addr} {fd fd1 fd2 : FuncData} (B : Bt mg) (F : Fun K "_law_block" "_law_block" s_law_block f fd) (G_law_draw : FnOk P w K mg base CX0 1 f1 fd1 P_law_draw sp_law_draw) (F_law_draw : Fun K "_law_draw" "_law_draw" s_law_draw f1 fd1) (b_law_draw : Binds K fd1 P_law_draw []) (g_law_draw : mg "_law_draw" = some (.ref f1))
    (G_law_one : FnOk P w K mg base CX0 2 f2 fd2 P_law_one sp_law_one) (F_law_one : Fun K "_law_one" "_law_one" s_law_one f2 fd2) (b_law_one : Binds K fd2 P_law_one []) (g_law_one : mg "_law_one" = some (.ref f2)) :
    FnOk P w K mg base CX0 3 f fd P_law_block sp_law_block := by
  have m_int := B.int_
  have m_abs := B.abs_
  have m_range := B.range_
  refine F.ok sc_law_block (fun vs H Q E h => ?_) (fun cdv A outer s H vs Q E hr h => ?_)
  · obtain ⟨k, x, ws, rfl, _, ⟨rfl, _⟩, _⟩ := h
    rfl
  · obtain ⟨k, ⟨pl, ls, room⟩, ws, rfl, hk, ⟨rfl, hpM, hpl, hl1, hl2, hr2, hr3⟩, q⟩ := h
    refine ⟨_, (pss_cons (ps_asg (pe_tup (pa_cons (pe_call G_law_draw (hr.mono (by decide)) (by rfl) g_law_draw F_law_draw.kp b_law_draw .nil pass0 (pa_cons (pv 0) (pa_cons pe_int pa_nil))) (pa_cons (pe_call G_law_one (hr.mono (by decide)) (by rfl) g_law_one F_law_one.kp b_law_one .nil pass0 (pa_cons (pv 0) (pa_cons (pv 1) pa_nil))) (pa_cons (pe_call G_law_one (hr.mono (by decide)) (by rfl) g_law_one F_law_one.kp b_law_one .nil pass0 (pa_cons (pv 0) (pa_cons (pv 1) pa_nil))) pa_nil)))) (pg_tup rfl (pgs_cons (pg_name (i := 3) sc_law_block.nd rfl (Or.inl rfl)) (pgs_cons (pg_name (i := 4) sc_law_block.nd rfl (Or.inr rfl)) (pgs_cons (pg_name (i := 5) sc_law_block.nd rfl (Or.inr rfl)) pgs_nil)))))
      (pss_cons (ps_asg (pe_tup (pa_cons (pe_op op_add pe_int (pe_call G_law_draw (hr.mono (by decide)) (by rfl) g_law_draw F_law_draw.kp b_law_draw .nil pass0 (pa_cons (pv 0) (pa_cons (pe_op op_sub (pv 2) pe_int) pa_nil)))) (pa_cons (pe_lst pa_nil) pa_nil))) (pg_tup rfl (pgs_cons (pg_name (i := 6) sc_law_block.nd rfl (Or.inr rfl)) (pgs_cons (pg_name (i := 7) sc_law_block.nd rfl (Or.inl rfl)) pgs_nil))))
      (pss_cons (ps_for PassesOwn.never rfl (pi_range1 (by rfl) m_range (pa_cons (pv 6) pa_nil)) (pg_name (i := 8) sc_law_block.nd rfl (Or.inr rfl)) (pss_cons (ps_setLc (i := 9) (own := [("_law_y", 10)]) (by rfl) sc_law_block.nd rfl rfl (sw_true rfl rfl rfl (by decide +kernel)) (pi_range1 (by rfl) m_range (pa_cons (pv 6) pa_nil)) (blkOk_by (N := N_law_block) (sc := (defScope s_law_block)) (by decide +kernel)) (fun _ _ _ _ _ => (pg_name (i := 10) sc_law_block.nd rfl (Or.inl rfl))) (fun _ _ _ _ _ => pts_nil) (fun _ _ _ _ _ => (pe_ifExp (pt_cmpR op_gt (pv 10) (pv 8) (nomark _)) (pv 4) (pv 5))))
      (pss_cons (ps_if (pt_cmpR op_eq (pv 3) pe_int (nomark _)) (pss_one (ps_setLc (i := 9) (own := [("_law_y", 10)]) (by rfl) sc_law_block.nd rfl rfl (sw_true rfl rfl rfl (by decide +kernel)) (pi_range1 (by rfl) m_range (pa_cons (pv 6) pa_nil)) (blkOk_by (N := N_law_block) (sc := (defScope s_law_block)) (by decide +kernel)) (fun _ _ _ _ _ => (pg_name (i := 10) sc_law_block.nd rfl (Or.inl rfl))) (fun _ _ _ _ _ => pts_nil) (fun _ _ _ _ _ => (pe_ifExp (pt_cmpR op_eq (pe_op op_mod (pe_callTy call_int1 (by rfl) m_int (by decide +kernel) (pa_cons (pe_op op_add (pe_op op_sub (pv 10) (pv 8)) (pv 6)) pa_nil)) (pv 6)) pe_int (nomark _)) (pv 4) (pv 5))))) pss_nil)
      (pss_cons (ps_if (pt_cmpR op_eq (pv 3) pe_int (nomark _)) (pss_one (ps_setLc (i := 9) (own := [("_law_y", 10)]) (by rfl) sc_law_block.nd rfl rfl (sw_true rfl rfl rfl (by decide +kernel)) (pi_range1 (by rfl) m_range (pa_cons (pv 6) pa_nil)) (blkOk_by (N := N_law_block) (sc := (defScope s_law_block)) (by decide +kernel)) (fun _ _ _ _ _ => (pg_name (i := 10) sc_law_block.nd rfl (Or.inl rfl))) (fun _ _ _ _ _ => pts_nil) (fun _ _ _ _ _ => (pe_ifExp (pt_cmpR op_eq (pe_callB call_abs (by rfl) m_abs (by decide +kernel) (pa_cons (pe_op op_sub (pv 10) (pv 8)) pa_nil)) pe_int (nomark _)) (pv 4) (pv 5))))) pss_nil)
      (pss_cons (ps_if (pt_cmpR op_gt (pv 3) pe_int (nomark _)) (pss_one (ps_setLc (i := 9) (own := [("_law_y", 10)]) (by rfl) sc_law_block.nd rfl rfl (sw_true rfl rfl rfl (by decide +kernel)) (pi_range1 (by rfl) m_range (pa_cons (pv 6) pa_nil)) (blkOk_by (N := N_law_block) (sc := (defScope s_law_block)) (by decide +kernel)) (fun _ _ _ _ _ => (pg_name (i := 10) sc_law_block.nd rfl (Or.inl rfl))) (fun _ _ _ _ _ => pts_nil) (fun _ _ _ _ _ => (pe_call G_law_one (hr.mono (by decide)) (by rfl) g_law_one F_law_one.kp b_law_one .nil pass0 (pa_cons (pv 0) (pa_cons (pv 1) pa_nil)))))) pss_nil)
      (pss_cons (ps_asg pe_int (pg_sub (pv 9) (pv 8) set_list))
      (pss_one (ps_expr (pe_bm PySem.F.plainAttrs_list PySem.F.slot_list_append PySem.F.type_list_append mt_append (pv 7) (pa_cons (pv 9) pa_nil))))))))))
      (pss_one (ps_ret (pv 7)))))), ?_⟩
    have hk0 := hk
    have hpM : ¬ (dmd k).M pl := hpM
    have hpl : H pl = some (.lst (ls.map V.int)) := hpl
    have hl : 1 ≤ ls.length ∧ ls.length ≤ 100000 := ⟨hl1, hl2⟩
    have hr2 : 2 ≤ room := hr2
    have hr3 : room ≤ 100 := hr3
    refine q_unp3V (m := dmd k) (K := K) hk.i (eg_cons (P1 := fun v _ => IsI v) (EvP.imp (ep_draw (K := K) (n := 7) hk rfl ed_int (by decide)) fun _ v _ _ p => by
      obtain ⟨r, e, _⟩ := p
      exact ⟨_, e⟩) (fun _ _ _ _ h => h) (eg_cons (P1 := fun v _ => IsI v) (ep_oneI hk rfl (ev_var rfl) hpM hpl hl) (fun _ _ _ _ h => h) (eg_one (P1 := fun v _ => IsI v) (ep_oneI hk rfl (ev_var rfl) hpM hpl hl)))) fun vs H1 e1 hvs => ?_
    obtain ⟨_, _, rfl, ⟨way, rfl⟩, _, _, rfl, ⟨one, rfl⟩, _, rfl, ⟨two, rfl⟩⟩ := hvs
    refine ⟨_, _, _, rfl, fun H2 e2 => ?_⟩
    have r2 := e1.trans e2
    refine q_unp2V (m := dmd k) (K := K) r2.i (eg_cons (P1 := fun v _ => ∃ n : Nat, v = .int (n : Nat) ∧ 2 ≤ n ∧ n ≤ room) (ep_op (P1 := fun v _ => v = .int 2) (P2 := fun v _ => ∃ r : Nat, v = .int (r : Nat) ∧ r < room - 1) ev_c (fun _ _ _ _ h => h) (ep_draw (K := K) (n := room - 1) (hk.rl r2) rfl (ed_is (ed_I0 (g := fun i j => i - j) (ed_var rfl (.int _)) ed_int) (by show PyData.int ((room : Int) - 1) = _; congr 1; omega)) (by omega)) (fun x y H3 _ e p1 p2 Q q => ?_) fun _ _ _ _ _ p => p) (fun _ _ _ _ h => h) (eg_one (EL.at (el_lst (K := K) (ds := []) ea_nil (Nat.zero_le _))))) fun vs H3 e3 hvs => ?_
    · subst p1
      obtain ⟨r, rfl, hr⟩ := p2
      exact ⟨2, _, rfl, rfl, q _ H3 (Rl.refl e.i) ⟨2 + r, by norm_cast, by omega, by omega⟩⟩
    obtain ⟨_, _, rfl, ⟨n, rfl, hn2, hn3⟩, _, rfl, pf, xf, rfl, hpf, hpf3, hxf⟩ := hvs
    cases hxf
    refine ⟨_, _, rfl, fun H4 e4 => ?_⟩
    have hpf0 : H pf = none := r2.back hpf
    have r4 := (r2.trans e3).trans e4
    have hpf4 : H4 pf = some (.lst []) := e4.at (Md.notM (r2.trans e3).1 hpf0) hpf3
    refine q_forR1 (m := dmd k) (K := K) (n := (n : Nat)) r4.i (ea_one (ed_var rfl (.int _))) (by omega)
      (fun i σ H' => (∃ y8 y9, σ = [some (.ref k.d), some (.ref pl), some (.int (room : Nat)), some (.int way), some (.int one), some (.int two), some (.int (n : Nat)), some (.ref pf), y8, y9, none]) ∧ Rl (dmd k) H H' ∧ ∃ qs, H' pf = some (.lst qs) ∧ qs.length = i ∧ ∀ x ∈ qs, FR H H' x n ∧ x ≠ .ref pf)
      (fun H5 e5 => ⟨⟨none, none, rfl⟩, r4.trans e5, [], e5.at (Md.notM hk.i hpf0) hpf4, rfl, fun x hx => by cases hx⟩) (fun x σ H5 hx hP => ?_) fun σ H5 hP => ?_
    · obtain ⟨⟨y8, y9, rfl⟩, r5, qs, hq5, hql, hall⟩ := hP
      have hx' : x < n := by omega
      have isv : ∀ (σ : L2.St) (H' : Hp) (i : Nat) (c : Int), σ[i]? = some (some (.int c)) → EvP (dmd k) (tVar i) σ H' fun _ v _ => IsI v := fun σ H' i c h => EvP.imp (ev_var h) fun _ v _ _ p => ⟨c, p⟩
      have ht : ∀ (b c : TE) (t : TT) (σ : L2.St) (H' : Hp), EX (dmd k) t σ H' → EvP (dmd k) b σ H' (fun _ v _ => IsI v) → EvP (dmd k) c σ H' (fun _ v _ => IsI v) → EvP (dmd k) (tIf t b c) σ H' fun _ v _ => IsI v := fun b c t σ H' h h1 h2 => ep_ifx h h1 h2 fun _ _ _ _ _ h => h
      have key : ∀ {te : TE} {σ : L2.St} {H' : Hp}, σ[6]? = some (some (.int (n : Nat))) → Rl (dmd k) H5 H' → (∀ (y : Nat) H6, y < n → Rl (dmd k) H' H6 → EvP (dmd k) te (σ.set 10 (some (.int (y : Nat)))) H6 fun _ v _ => IsI v) → EvP (dmd k) (tLc (iRng1 (tCons (tVar 6) tNil)) (gName 10) tYes te [10]) σ H' fun A v B => FR A B v n := fun {te σ H'} h6 r h => by
        have hw := ew_rng1 (K := K) (m := dmd k) (σ := σ) (H := H') (n := (n : Nat)) (ea_one (ed_var h6 (.int _))) (by omega)
        rw [Int.toNat_natCast] at hw
        exact fr_lc hw (by omega) fun y v H6 hy r6 hv => by
          subst hv
          exact h y H6 hy r6
      have fresh : ∀ {A B : Hp} {v : V}, Rl (dmd k) H5 A → Rl (dmd k) A B → FR A B v n → FR H B v n ∧ v ≠ .ref pf := fun {A B v} ra rb h => ⟨h.back (r5.trans ra), fun z => by
        obtain ⟨q, ns, h1, h2, _⟩ := h
        rw [z] at h1
        injection h1 with h1
        rw [← h1, ra.at (Md.notM hk.i hpf0) hq5] at h2
        cases h2⟩
      let J : Hp → L2.St → Prop := fun H' σ => ∃ v9, σ = [some (.ref k.d), some (.ref pl), some (.int (room : Nat)), some (.int way), some (.int one), some (.int two), some (.int (n : Nat)), some (.ref pf), some (.int (x : Nat)), some v9, none] ∧ Rl (dmd k) H5 H' ∧ FR H H' v9 n ∧ v9 ≠ .ref pf
      refine q_asg (m := dmd k) r5.i (key rfl (Rl.refl r5.i) fun y H6 hy r6 => ht _ _ _ _ _ (ET.toX (et_test (K := K) (ed_B0 (g := fun i j => decide (i > j)) (ed_var rfl (.int _)) (ed_var rfl (.int _))))) (isv _ _ _ _ rfl) (isv _ _ _ _ rfl)) fun v9 H6 e6 h9 => ?_
      have j6 := fresh (Rl.refl r5.i) e6 h9
      have J6 : J H6 _ := ⟨v9, rfl, e6, j6⟩
      have step : ∀ (t : TT) (te : TE) (tz : TS) (D : Ends) (σ : L2.St) (H' : Hp), J H' σ → EX (dmd k) t σ H' → (∀ H7, Rl (dmd k) H' H7 → EvP (dmd k) te σ H7 fun A v B => FR A B v n) → (∀ σ' H8, J H8 σ' → tz D σ' H8) → tSeq (tIfS t (tAsg te (gName 9)) tNext) tz D σ H' := fun t te tz D σ H' hJ hx he hk => by
        obtain ⟨v9, rfl, rj, fj⟩ := hJ
        refine q_ifx (m := dmd k) rj.i hx (fun H7 e7 => ?_) (fun H7 e7 => ?_)
        · refine s_asg (m := dmd k) e7.i (he H7 e7) fun v H8 e8 h8 => hk _ _ ?_
          have r7 := rj.trans e7
          exact ⟨v, rfl, r7.trans e8, fresh r7 e8 h8⟩
        · exact hk _ _ ⟨v9, rfl, rj.trans e7, fj.1.rl hk0.i e7, fj.2⟩
      refine step _ _ _ _ _ _ J6 (ET.toX (et_test (K := K) (ed_eqI (ed_var rfl (.int _)) ed_int))) (fun H7 e7 => key rfl (e6.trans e7) fun y H8 hy e8 => ht _ _ _ _ _ (ex_eq (P1 := fun _ => True) (P2 := fun _ => True) (ez_op (ez_int1 (ED.z (K := K) (C := fun _ => True) (ed_I0 (g := fun i j => i + j) (ed_I0 (g := fun i j => i - j) (ed_var rfl (.int _)) (ed_var rfl (.int _))) (ed_var rfl (.int _))) trivial)) (ED.z (K := K) (C := fun j => j = n) (ed_var rfl (.int _)) rfl) fun i j _ hj => ⟨by subst hj; omega, trivial⟩) (ED.z (K := K) ed_int trivial)) (isv _ _ _ _ rfl) (isv _ _ _ _ rfl)) fun σ H7 hJ => ?_
      obtain ⟨v7, rfl, rj, fj⟩ := id hJ
      refine step _ _ _ _ _ _ hJ (ET.toX (et_test (K := K) (ed_eqI (ed_var rfl (.int _)) ed_int))) (fun H8 e8 => key rfl (rj.trans e8) fun y H9 hy e9 => ht _ _ _ _ _ (ex_eq (P1 := fun _ => True) (P2 := fun _ => True) (fun H10 e10 Q q => (ed_I0 (K := K) (m := dmd k) (g := fun i j => i - j) (ed_var rfl (.int _)) (ed_var rfl (.int _))) H10 e10 _ fun v H11 e11 p => ⟨_, congrArg (fun z => [z]) p.int_inv, q _ H11 e11 ⟨_, rfl, trivial⟩⟩) (ED.z (K := K) ed_int trivial)) (isv _ _ _ _ rfl) (isv _ _ _ _ rfl)) fun σ H8 hJ => ?_
      obtain ⟨v8, rfl, rj8, fj8⟩ := id hJ
      refine step _ _ _ _ _ _ hJ (ET.toX (et_test (K := K) (ed_B0 (g := fun i j => decide (i > j)) (ed_var rfl (.int _)) ed_int))) (fun H9 e9 => key rfl (rj8.trans e9) fun y H10 hy e10 => by
        have r10 := ((r5.trans rj8).trans e9).trans e10
        exact ep_oneI (hk0.rl r10) rfl (ev_var rfl) hpM (r10.at hpM hpl) hl) fun σ H9 hJ => ?_
      obtain ⟨v9', rfl, rj9, fj9, nj9⟩ := hJ
      obtain ⟨qw, nw, rfl, hqw, hqw9, hnw⟩ := fj9
      have r9 := r5.trans rj9
      refine s_seq (s_setL (m := dmd k) (K := K) (j := x) (P := fun _ v _ => v = .int 0) rj9.i (Md.notM hk0.i hqw) hqw9 ev_c (ev_var rfl) (ed_var rfl (.int _)) (by rw [List.length_map]; omega) fun v H10 H11 e10 hv e11 h11 => ?_)
      subst hv
      have r11 := (r9.trans e10).trans e11
      have hset : (nw.map V.int).set x (.int 0) = (nw.set x 0).map V.int := by rw [List.map_set]
      rw [hset]
      have r12 : Rl (dmd k) H (upd H11 qw (.lst ((nw.set x 0).map V.int))) := r11.mut hqw
      have npw : qw ≠ pf := fun z => nj9 (by rw [z])
      have hq12 : upd H11 qw (.lst ((nw.set x 0).map V.int)) pf = some (.lst qs) := by
        rw [upd_ne npw.symm]
        exact ((rj9.trans e10).trans e11).at (Md.notM hk0.i hpf0) hq5
      have hall12 : ∀ z ∈ qs, FR H (upd H11 qw (.lst ((nw.set x 0).map V.int))) z n ∧ z ≠ .ref pf := fun z hz => ⟨((hall z hz).1.rl hk0.i ((rj9.trans e10).trans e11)).set (by rw [List.length_set]; exact hnw), (hall z hz).2⟩
      refine s_app (m := dmd k) (K := K) (P := fun _ v _ => v = .ref qw) r12.i (Md.notM hk0.i hpf0) hq12 (ev_var rfl) (ev_var rfl) (by omega) (fun v H13 e13 hv h13 => ?_) fun _ _ _ _ _ h => h
      subst hv
      refine ⟨⟨_, _, rfl⟩, (r12.trans e13).mut hpf0, qs ++ [.ref qw], upd_same, by rw [List.length_append, hql]; rfl, fun z hz => ?_⟩
      rcases List.mem_append.mp hz with hz | hz
      · exact ⟨((hall12 z hz).1.rl hk0.i e13).other (hall12 z hz).2, (hall12 z hz).2⟩
      · rw [List.mem_singleton.mp hz]
        exact ⟨⟨qw, nw.set x 0, rfl, hqw, by rw [upd_ne npw]; exact e13.at (Md.notM hk0.i hqw) upd_same, by rw [List.length_set]; exact hnw⟩, fun z => npw (by injection z)⟩
    · obtain ⟨⟨y8, y9, rfl⟩, r5, qs, hq5, hql, hall⟩ := hP
      rw [Int.toNat_natCast] at hql
      exact ⟨_, rfl, q _ H5 r5 ⟨n, hn2, hn3, pf, qs, rfl, hpf0, hq5, hql, fun x hx => (hall x hx).1⟩⟩
end
end PT

set_option Elab.async false
set_option linter.all false
set_option maxRecDepth 100000
set_option maxHeartbeats 4000000
namespace PT
open PySem PySem.Spec PyProof.Rows L2
section
variable {K : PySem.W.Frag} {m : Md} {σ : L2.St} {H H' A B C : Hp} {ta tb tc te tf td ty tv tl : TE} {D : Ends} {g : TG} {tu tw tz : TS} {v x : V} {n k : Nat} {ds es : List PyData} {t u : TT}
theorem q_ifJ {J : L2.St → Hp → Prop} (hI : m.I H) (h : EX m t σ H) (h1 : ∀ H1, Rl m H H1 → ∀ D' : Ends, (∀ σ' H', J σ' H' → D'.nx σ' H') → D'.rt = D.rt → tu D' σ H1) (h2 : ∀ H1, Rl m H H1 → ∀ D' : Ends, (∀ σ' H', J σ' H' → D'.nx σ' H') → D'.rt = D.rt → tw D' σ H1) (kk : ∀ σ' H', J σ' H' → tz D σ' H') : tSeq (tIfS t tu tw) tz D σ H :=
  q_ifx hI h (fun H1 e => h1 H1 e { D with nx := tz D } kk rfl) (fun H1 e => h2 H1 e { D with nx := tz D } kk rfl)
theorem ex_and (h1 : EX m t σ H) (h2 : EX m u σ H) : EX m (tAnd t u) σ H := fun H1 e Q q => h1 H1 e _ fun b H2 e2 => by
  cases b with
  | true => exact h2 H2 (e.trans e2) Q fun b H3 e3 => q b H3 (e2.trans e3)
  | false => exact q false H2 e2
def EC (m : Md) (t : TT) (σ : L2.St) (H : Hp) (C : Prop) : Prop := ∀ H1, Rl m H H1 → ∀ Q : Bool → Hp → Prop, (∀ b H2, (b = true → C) → Rl m H1 H2 → Q b H2) → t σ H1 Q
theorem EX.c (h : EX m t σ H) : EC m t σ H True := fun H1 e Q q => h H1 e Q fun b H2 e2 => q b H2 (fun _ => trivial) e2
theorem ec_and {a : Bool} (h1 : ET m t σ H a) (h2 : a = true → EX m u σ H) : EC m (tAnd t u) σ H (a = true) := fun H1 e Q q => h1 H1 e _ fun H2 e2 => by
  cases a with
  | true => exact h2 rfl H2 (e.trans e2) Q fun b H3 e3 => q b H3 (fun _ => rfl) (e2.trans e3)
  | false => exact q false H2 (fun z => z) e2
theorem q_ifC {J : L2.St → Hp → Prop} {C : Prop} (hI : m.I H) (h : EC m t σ H C) (h1 : C → ∀ H1, Rl m H H1 → ∀ D' : Ends, (∀ σ' H', J σ' H' → D'.nx σ' H') → D'.rt = D.rt → tu D' σ H1) (h2 : ∀ H1, Rl m H H1 → ∀ D' : Ends, (∀ σ' H', J σ' H' → D'.nx σ' H') → D'.rt = D.rt → tw D' σ H1) (kk : ∀ σ' H', J σ' H' → tz D σ' H') : tSeq (tIfS t tu tw) tz D σ H := h H (Rl.refl hI) _ fun b H1 hc e => by
  cases b with
  | true => exact h1 (hc rfl) H1 e { D with nx := tz D } kk rfl
  | false => exact h2 H1 e { D with nx := tz D } kk rfl
/-- rows[i][j] = e -/
theorem s_setGK {i j : Nat} (hA : m.I A) (r : Rl m A H) (hg : Gr A H v n k) (h : EvP m te σ H fun _ v _ => IsI v) (ho : Ev m ta σ H v) (hi : ED K m tb σ H (.int (i : Nat))) (hj : ED K m tc σ H (.int (j : Nat))) (hin : i < n) (hjk : j < k) (kk : ∀ H', Rl m A H' → Gr A H' v n k → (∀ a kvs, ¬ m.M a → H a = some (.dK kvs) → H' a = some (.dK kvs)) → D.nx σ H') :
    tAsg te (gSub (tOp (rIxL K) ta tb) tc rSetL) D σ H := h H (Rl.refl r.i) _ fun z H1 e1 hz => by
  obtain ⟨c, rfl⟩ := hz
  obtain ⟨p, qs, rfl, hp, hq, hl, hall⟩ := hg
  have hi' : i < qs.length := by omega
  obtain ⟨q, ns, e1', e2', e3', e4'⟩ := hall _ (List.getElem_mem hi')
  refine ho H1 e1 _ fun x H2 e2 ex => ?_
  subst ex
  refine hi H2 (e1.trans e2) _ fun y H3 e3 py => ?_
  have py := py.int_inv
  subst py
  have e13 := (e1.trans e2).trans e3
  have r3 := r.trans e13
  refine ⟨p, qs, _, _, rfl, rfl, .inl (.inl (e13.at (Md.notM hA hp) hq)), atI_nat (List.getElem?_eq_getElem hi'), ?_⟩
  refine hj H3 e13 _ fun w H4 e4 pw => ?_
  have pw := pw.int_inv
  subst pw
  have e14 := e13.trans e4
  have hq4 := e14.at (Md.notM hA e2') e3'
  have hp4 := e14.at (Md.notM hA hp) hq
  refine ⟨q, ns.map V.int, (j : Int), j, e1', rfl, hq4, ?_, ?_⟩
  · unfold ixN
    rw [List.length_map, if_pos (by omega), if_pos (by omega)]
    simp
  · have hset : (ns.map V.int).set j (.int c) = (ns.set j c).map V.int := by rw [List.map_set]
    rw [hset]
    have npq : p ≠ q := fun z => by
      rw [z, hq4] at hp4
      injection hp4 with hp4
      injection hp4 with hp4
      have h5 : qs[i] ∈ ns.map V.int := by
        rw [hp4]
        exact List.getElem_mem hi'
      rw [e1'] at h5
      obtain ⟨_, _, h6⟩ := List.mem_map.mp h5
      cases h6
    exact kk _ ((r.trans e14).mut e2') ⟨p, qs, rfl, hp, by rw [upd_ne npq]; exact hp4, hl, fun x hx => ((hall x hx).rl hA e14).set (by rw [List.length_set]; exact e4')⟩ fun a kvs ha hk => by
      rw [upd_ne fun z => by
        have h7 := e14.at ha hk
        rw [z, hq4] at h7
        cases h7]
      exact e14.at ha hk
theorem s_setG {i j : Nat} (hA : m.I A) (r : Rl m A H) (hg : Gr A H v n k) (h : EvP m te σ H fun _ v _ => IsI v) (ho : Ev m ta σ H v) (hi : ED K m tb σ H (.int (i : Nat))) (hj : ED K m tc σ H (.int (j : Nat))) (hin : i < n) (hjk : j < k) (kk : ∀ H', Rl m A H' → Gr A H' v n k → D.nx σ H') :
    tAsg te (gSub (tOp (rIxL K) ta tb) tc rSetL) D σ H := s_setGK hA r hg h ho hi hj hin hjk fun H' h1 h2 _ => kk H' h1 h2
theorem ed_lenG (hA : m.I A) (hg : Gr A H v n k) (ha : Ev m ta σ H v) : ED K m (tCB (rLenS K) (tCons ta tNil)) σ H (.int (n : Nat)) := by
  obtain ⟨p, qs, rfl, hp, hq, hl, hall⟩ := hg
  subst hl
  exact ed_lenV (Md.notM hA hp) hq ha
theorem int_back {ys : List V} {l : List Nat} (h : ys.Perm ((iN l).map V.int)) : ∃ ss : List Nat, ys = (iN ss).map V.int ∧ ss.Perm l := by
  let gb : V → Nat := fun v => match v with
    | .int i => i.toNat
    | _ => 0
  have e : ((iN l).map V.int).map gb = l := by
    unfold iN
    rw [List.map_map, List.map_map]
    conv => rhs; rw [← List.map_id l]
    exact List.map_congr_left fun a _ => by
      show ((a : Int)).toNat = a
      omega
  refine ⟨ys.map gb, ?_, ?_⟩
  · unfold iN
    rw [List.map_map, List.map_map]
    conv => lhs; rw [← List.map_id ys]
    refine List.map_congr_left fun a ha => ?_
    have h2 := h.mem_iff.mp ha
    unfold iN at h2
    rw [List.map_map] at h2
    obtain ⟨x, _, rfl⟩ := List.mem_map.mp h2
    show V.int ((x : Nat) : Int) = V.int (((((x : Nat) : Int)).toNat : Nat) : Int)
    rw [Int.toNat_natCast]
  · have := h.map gb
    rwa [e] at this
/-- looks, as an argument -/
structure LI (k : DkA) (H : Hp) (p : Addr) (ns : List Int) : Prop where
  nm : ¬ (dmd k).M p
  at_ : H p = some (.lst (ns.map V.int))
  l1 : 1 ≤ ns.length
  l2 : ns.length ≤ 1000
theorem LI.rl {k : DkA} {p : Addr} {ns : List Int} (h : LI k H p ns) (r : Rl (dmd k) H H') : LI k H' p ns := ⟨h.nm, r.at h.nm h.at_, h.l1, h.l2⟩
theorem ep_oneL {k : DkA} {E : XK} {i : Nat} {p : Addr} {ns : List Int} (hk : DkOk k H) (hv : σ[i]? = some (some (.ref k.d))) (h : Ev (dmd k) te σ H (.ref p)) (hL : LI k H p ns) : EvP (dmd k) (tCall sp_law_one [] E (tCons (tVar i) (tCons te tNil))) σ H fun _ v _ => IsI v := ep_oneI hk hv h hL.nm hL.at_ ⟨hL.l1, Nat.le_trans hL.l2 (by decide)⟩
theorem ez_draw {k : DkA} {E : XK} {i n : Nat} (hk : DkOk k H) (hv : σ[i]? = some (some (.ref k.d))) (h : ED K (dmd k) te σ H (.int (n : Nat))) (h1 : 1 ≤ n ∧ n ≤ 100000) : EZ (dmd k) (tCall sp_law_draw [] E (tCons (tVar i) (tCons te tNil))) σ H fun _ => True :=
  EvP.imp (ep_draw hk hv h h1) fun _ v _ _ p => by
    obtain ⟨r, e, _⟩ := p
    exact ⟨_, e, trivial⟩
theorem isI_var {i : Nat} {c : Int} (h : σ[i]? = some (some (.int c))) : EvP m (tVar i) σ H fun _ v _ => IsI v := EvP.imp (ev_var h) fun _ v _ _ p => ⟨c, p⟩
end
section
variable {P : Program} {w : World} {K : PySem.W.Frag} {mg : Str → Option Value} {base : Heap}
/-! ### _law_table -/
def sp_law_table (K : PySem.W.Frag) : Sp := SpD (α := Addr × List Int × Nat) (fun k a ws H => ws = [.int (a.2.2 : Nat), .ref a.1] ∧ LI k H a.1 a.2.1 ∧ a.2.2 ≤ 10) (fun _ a _ v H' => ∃ r, Rp K H' v (dTab a.2.2 r))
theorem ok_law_table {f f1 f2 f3 f4 f5 f6 : Addr} {fd fd1 fd2 fd3 fd4 fd5 fd6 : FuncData} (B : Bt mg) (F : Fun K "_law_table" "_law_table" s_law_table f fd) (G_law_draw : FnOk P w K mg base CX0 1 f1 fd1 P_law_draw sp_law_draw) (F_law_draw : Fun K "_law_draw" "_law_draw" s_law_draw f1 fd1) (b_law_draw : Binds K fd1 P_law_draw []) (g_law_draw : mg "_law_draw" = some (.ref f1))
    (G_law_one : FnOk P w K mg base CX0 2 f2 fd2 P_law_one sp_law_one) (F_law_one : Fun K "_law_one" "_law_one" s_law_one f2 fd2) (b_law_one : Binds K fd2 P_law_one []) (g_law_one : mg "_law_one" = some (.ref f2))
    (G_law_mixed : FnOk P w K mg base CX0 2 f3 fd3 P_law_mixed sp_law_mixed) (F_law_mixed : Fun K "_law_mixed" "_law_mixed" s_law_mixed f3 fd3) (b_law_mixed : Binds K fd3 P_law_mixed []) (g_law_mixed : mg "_law_mixed" = some (.ref f3))
    (G_law_block : FnOk P w K mg base CX0 3 f4 fd4 P_law_block sp_law_block) (F_law_block : Fun K "_law_block" "_law_block" s_law_block f4 fd4) (b_law_block : Binds K fd4 P_law_block []) (g_law_block : mg "_law_block" = some (.ref f4))
    (G_law_put : FnOk P w K mg base CX0 1 f5 fd5 P_law_put sp_law_put) (F_law_put : Fun K "_law_put" "_law_put" s_law_put f5 fd5) (b_law_put : Binds K fd5 P_law_put []) (g_law_put : mg "_law_put" = some (.ref f5))
    (G_law_seated : FnOk P w K mg base CX0 1 f6 fd6 P_law_seated (sp_law_seated K)) (F_law_seated : Fun K "_law_seated" "_law_seated" s_law_seated f6 fd6) (b_law_seated : Binds K fd6 P_law_seated []) (g_law_seated : mg "_law_seated" = some (.ref f6)) :
    FnOk P w K mg base CX0 4 f fd P_law_table (sp_law_table K) := by
  have m_len := B.len_
  have m_list := B.list_
  have m_range := B.range_
  refine F.ok sc_law_table (fun vs H Q E h => ?_) (fun cdv A outer s H vs Q E hr h => ?_)
  · obtain ⟨k, x, ws, rfl, _, ⟨rfl, _⟩, _⟩ := h
    rfl
  · obtain ⟨k, ⟨pl, ls, n⟩, ws, rfl, hk, ⟨rfl, hL, hn⟩, q⟩ := h
    refine ⟨_, (pss_cons (ps_set (i := 3) sc_law_table.nd rfl (Or.inl rfl) (pe_ifExp (pt_cmpR op_gt (pv 1) pe_int (nomark _)) (pe_lst (pa_cons (pe_lst (pa_cons pe_int pa_nil)) pa_nil)) (pe_lst pa_nil)))
      (pss_cons (ps_for PassesOwn.never rfl (pi_range1 (by rfl) m_range (pa_cons (pv 1) pa_nil)) (pg_name (i := 4) sc_law_table.nd rfl (Or.inl rfl)) (pss_one (ps_if (pt_cmpR op_lt (pe_callB (r := rLenS K) call_len_seq (by rfl) m_len PySem.boot_len (pa_cons (pv 3) pa_nil)) (pv 1) (nomark _)) (pss_one (ps_set (i := 3) sc_law_table.nd rfl (Or.inl rfl) (pe_call G_law_put (hr.mono (by decide)) (by rfl) g_law_put F_law_put.kp b_law_put .nil pass0 (pa_cons (pv 3) (pa_cons (pe_call G_law_draw (hr.mono (by decide)) (by rfl) g_law_draw F_law_draw.kp b_law_draw .nil pass0 (pa_cons (pv 0) (pa_cons (pe_callB (r := rLenS K) call_len_seq (by rfl) m_len PySem.boot_len (pa_cons (pv 3) pa_nil)) pa_nil))) (pa_cons (pe_call G_law_block (hr.mono (by decide)) (by rfl) g_law_block F_law_block.kp b_law_block .nil pass0 (pa_cons (pv 0) (pa_cons (pv 2) (pa_cons (pe_op op_add (pe_op op_sub (pv 1) (pe_callB (r := rLenS K) call_len_seq (by rfl) m_len PySem.boot_len (pa_cons (pv 3) pa_nil))) pe_int) pa_nil)))) pa_nil)))))) pss_nil)))
      (pss_cons (ps_if (PW.pt (pw_and (pt_cmpR op_gt (pv 1) pe_int (nomark _)) (pw_and1 (pt_cmpR op_eq (pe_call G_law_draw (hr.mono (by decide)) (by rfl) g_law_draw F_law_draw.kp b_law_draw .nil pass0 (pa_cons (pv 0) (pa_cons pe_int pa_nil))) pe_int (nomark _))))) (pss_cons (ps_par (i := 5) (j := 6) (by rfl) sc_law_table.nd rfl rfl (by decide) rfl rfl (pa_cons (pe_call G_law_draw (hr.mono (by decide)) (by rfl) g_law_draw F_law_draw.kp b_law_draw .nil pass0 (pa_cons (pv 0) (pa_cons (pv 1) pa_nil))) (pa_cons (pe_call G_law_draw (hr.mono (by decide)) (by rfl) g_law_draw F_law_draw.kp b_law_draw .nil pass0 (pa_cons (pv 0) (pa_cons (pv 1) pa_nil))) pa_nil)) (by rfl))
      (pss_one (ps_asg (pe_ifExp (pt_cmpR op_eq (pv 5) (pv 6) (nomark _)) pe_int (pe_call G_law_one (hr.mono (by decide)) (by rfl) g_law_one F_law_one.kp b_law_one .nil pass0 (pa_cons (pv 0) (pa_cons (pv 2) pa_nil)))) (pg_sub (pe_ix (r := rIxL K) ix_list (pv 3) (pv 5) (fun _ _ => rfl)) (pv 6) set_list)))) pss_nil)
      (pss_cons (ps_if (pt_cmpR op_eq (pe_call G_law_draw (hr.mono (by decide)) (by rfl) g_law_draw F_law_draw.kp b_law_draw .nil pass0 (pa_cons (pv 0) (pa_cons pe_int pa_nil))) pe_int (nomark _)) (pss_one (ps_for PassesOwn.never rfl (pi_range1 (by rfl) m_range (pa_cons (pv 1) pa_nil)) (pg_name (i := 5) sc_law_table.nd rfl (Or.inl rfl)) (pss_one (ps_for PassesOwn.never rfl (pi_range1 (by rfl) m_range (pa_cons (pv 5) pa_nil)) (pg_name (i := 6) sc_law_table.nd rfl (Or.inl rfl)) (pss_one (ps_asg (pe_ix (r := rIxL K) ix_list (pe_ix (r := rIxL K) ix_list (pv 3) (pv 6) (fun _ _ => rfl)) (pv 5) (fun _ _ => rfl)) (pg_sub (pe_ix (r := rIxL K) ix_list (pv 3) (pv 5) (fun _ _ => rfl)) (pv 6) set_list))))))) pss_nil)
      (pss_one (ps_ret (pe_call G_law_seated (hr.mono (by decide)) (by rfl) g_law_seated F_law_seated.kp b_law_seated .nil pass0 (pa_cons (pv 3) (pa_cons (pe_call G_law_mixed (hr.mono (by decide)) (by rfl) g_law_mixed F_law_mixed.kp b_law_mixed .nil pass0 (pa_cons (pv 0) (pa_cons (pe_listRg rfl (by rfl) m_list (prg_1 (by rfl) m_range (pv 1))) pa_nil))) pa_nil))))))))), ?_⟩
    have hL : LI k H pl ls := hL
    have hn : n ≤ 10 := hn
    have hI := hk.i
    refine q_asg (m := dmd k) hI (ep_if (m := dmd k) (P := fun A v B => Gr A B v (min 1 n) (min 1 n)) (et_test (K := K) (ed_B0 (g := fun i j => decide (i > j)) (ed_var (d := .int (n : Nat)) rfl (.int _)) ed_int)) (fun hb H1 e Q q => ?_) (fun hb H1 e Q q => ?_) fun A B C v r h => Gr.back r h) fun v3 H1 e1 h3 => ?_
    · have h1 : min 1 n = 1 := by have := of_decide_eq_true hb; omega
      refine ⟨by show 1 ≤ sizeLine; decide, fun a ha => ⟨by show 1 ≤ sizeLine; decide, fun b hb' => q _ _ (Rl.ex e.i ((Ex.new ha).trans (Ex.new hb'))) ?_⟩⟩
      rw [h1]
      exact ⟨b, _, rfl, (Ex.new ha).back hb', upd_same, rfl, fun x hx => by
        rw [List.mem_singleton.mp hx]
        exact ⟨a, [0], rfl, ha, Ex.new hb' _ _ upd_same, rfl⟩⟩
    · have h1 : min 1 n = 0 := by have := of_decide_eq_false hb; omega
      refine ⟨by show 0 ≤ sizeLine; decide, fun a ha => q _ _ (Rl.ex e.i (Ex.new ha)) ?_⟩
      rw [h1]
      exact ⟨a, _, rfl, ha, upd_same, rfl, fun x hx => by cases hx⟩
    refine q_forR1 (m := dmd k) (K := K) (n := (n : Nat)) e1.i (ea_one (ed_var rfl (.int _))) (by omega)
      (fun i σ H' => ∃ v3 y4 j, σ = [some (.ref k.d), some (.int (n : Nat)), some (.ref pl), some v3, y4, none, none] ∧ Rl (dmd k) H H' ∧ Gr H H' v3 j j ∧ j ≤ n ∧ min (i + 1) n ≤ j)
      (fun H2 e2 => ⟨v3, none, _, rfl, e1.trans e2, h3.rl hI e2, by omega, by omega⟩) (fun i σ H2 hi hP => ?_) fun σ H2 hP => ?_
    · obtain ⟨v3, y4, j, rfl, r2, g2, hj, hij⟩ := hP
      have hi' : i < n := by omega
      show tIfS _ _ _ _ _ _
      refine s_if (m := dmd k) r2.i (et_test (K := K) (ed_B0 (g := fun i j => decide (i < j)) (ed_lenG (K := K) hI g2 (ev_var rfl)) (ed_var rfl (.int _)))) (fun hb H3 e3 => ?_) (fun hb H3 e3 => ?_)
      · have hjn : j < n := by have := of_decide_eq_true hb; omega
        have r3 := r2.trans e3
        have g3 := g2.rl hI e3
        have hput : EvP (dmd k) (tCall sp_law_put [] E0 (tCons (tVar 3) (tCons (tCall sp_law_draw [] E0 (tCons (tVar 0) (tCons (tCB (rLenS K) (tCons (tVar 3) tNil)) tNil))) (tCons (tCall sp_law_block [] E0 (tCons (tVar 0) (tCons (tVar 2) (tCons (tOp (rI0 fun i j => .int (i + j)) (tOp (rI0 fun i j => .int (i - j)) (tVar 1) (tCB (rLenS K) (tCons (tVar 3) tNil))) (tC (.int 1))) tNil)))) tNil)))) [some (.ref k.d), some (.int (n : Nat)), some (.ref pl), some v3, some (.int (i : Nat)), none, none] H3 (fun _ v B => ∃ N, j < N ∧ N ≤ n ∧ Gr H B v N N) := by
          intro H4 e4 Q q
          refine eg_cons (m := dmd k) (P1 := fun v _ => v = v3) (ev_var rfl) (fun _ _ _ _ h => h) (eg_cons (P1 := fun v _ => ∃ a : Nat, v = .int (a : Nat) ∧ a < j) (ep_draw (K := K) (hk.rl r3) rfl (ed_lenG (K := K) hI g3 (ev_var rfl)) (by omega)) (fun _ _ _ _ h => h) (eg_one (P1 := fun v B => ∃ b, 2 ≤ b ∧ b ≤ n - j + 1 ∧ Gr no0 B v b b) (ep_callD2 (R := fun v B => ∃ b, 2 ≤ b ∧ b ≤ n - j + 1 ∧ Gr no0 B v b b) (hk.rl r3) (EA.imp (eg_cons (P1 := fun v _ => v = .ref k.d) (ev_var rfl) (fun _ _ _ _ h => h) (eg_cons (P1 := fun v _ => v = .ref pl) (ev_var rfl) (fun _ _ _ _ h => h) (eg_one (P1 := fun v _ => v = .int ((n - j + 1 : Nat) : Int)) (ED.ev (ed_is (ed_I0 (K := K) (g := fun i j => i + j) (ed_I0 (g := fun i j => i - j) (ed_var rfl (.int _)) (ed_lenG (K := K) hI g3 (ev_var rfl))) ed_int) ?_))))) fun vs H5 r5 pp => ?_)))) H4 e4 _ fun vs H5 e5 pp => ?_
          · show PyData.int _ = PyData.int _
            congr 1
            omega
          · obtain ⟨_, _, rfl, rfl, _, _, rfl, rfl, _, rfl, rfl⟩ := pp
            have hL5 := hL.rl (r3.trans r5)
            exact ⟨(pl, ls, n - j + 1), _, rfl, ⟨rfl, hL5.nm, hL5.at_, hL5.l1, Nat.le_trans hL5.l2 (by decide), by show 2 ≤ n - j + 1; omega, by show n - j + 1 ≤ 100; omega⟩, fun v H6 r6 p => by
              obtain ⟨b, b1, b2, b3⟩ := p
              exact ⟨b, b1, b2, b3.no⟩⟩
          · obtain ⟨_, _, rfl, rfl, _, _, rfl, ⟨a, rfl, ha⟩, vb, rfl, b, b1, b2, b3⟩ := pp
            have r5 := r3.trans (e4.trans e5)
            refine ⟨j, b, a, _, vb, rfl, (g3.rl hI (e4.trans e5)).no, b3, ha, by omega, by omega, fun v H6 e6 g6 => q v H6 (e5.trans (Rl.ex e5.i e6)) ⟨j + b - 1, by omega, by omega, g6.back r5⟩⟩
        refine s_asg (m := dmd k) e3.i hput fun v H4 e4 hv => ?_
        obtain ⟨N, hN1, hN2, gN⟩ := hv
        exact ⟨v, _, N, rfl, r3.trans e4, gN, hN2, by omega⟩
      · have hjn : ¬ j < n := by have := of_decide_eq_false hb; omega
        exact ⟨v3, _, j, rfl, r2.trans e3, g2.rl hI e3, hj, by omega⟩
    · obtain ⟨v3, y4, j, rfl, r2, g2, hj, hij⟩ := hP
      rw [Int.toNat_natCast] at hij
      have hjn : j = n := by omega
      subst hjn
      refine q_ifC (m := dmd k) (J := fun σ H' => ∃ y5 y6, σ = [some (.ref k.d), some (.int (j : Nat)), some (.ref pl), some v3, y4, y5, y6] ∧ Rl (dmd k) H H' ∧ Gr H H' v3 j j) r2.i (ec_and (et_test (K := K) (ed_B0 (g := fun i j => decide (i > j)) (ed_var (d := .int (j : Nat)) rfl (.int _)) ed_int)) fun _ => ex_eq (ez_draw (K := K) (n := 3) (hk.rl r2) rfl ed_int (by decide)) (ED.z (K := K) (C := fun _ => True) ed_int trivial)) (fun hb H3 e3 D' hD' _ => ?_) (fun H3 e3 D' hD' _ => hD' _ _ ⟨_, _, rfl, r2.trans e3, g2.rl hI e3⟩) fun σ H3 hJ => ?_
      · have hj1 : 1 < j := by have := of_decide_eq_true hb; omega
        have r3 := r2.trans e3
        refine q_par (m := dmd k) r3.i (eg_cons (P1 := fun v _ => ∃ r : Nat, v = .int (r : Nat) ∧ r < j) (ep_draw (K := K) (hk.rl r3) rfl (ed_var rfl (.int _)) (by omega)) (fun _ _ _ _ h => h) (eg_one (P1 := fun v _ => ∃ r : Nat, v = .int (r : Nat) ∧ r < j) (ep_draw (K := K) (hk.rl r3) rfl (ed_var rfl (.int _)) (by omega)))) fun vs H4 e4 hvs => ?_
        obtain ⟨_, _, rfl, ⟨x, rfl, hx⟩, _, rfl, ⟨y, rfl, hy⟩⟩ := hvs
        refine ⟨_, _, rfl, ?_⟩
        have r4 := r3.trans e4
        exact s_setG (K := K) hI r4 (g2.rl hI (e3.trans e4)) (ep_ifx (ET.toX (et_test (K := K) (ed_eqI (ed_var rfl (.int _)) (ed_var rfl (.int _))))) (EZ.isI (ED.z (K := K) (C := fun _ => True) ed_int trivial)) (ep_oneL (hk.rl r4) rfl (ev_var rfl) (hL.rl r4)) fun _ _ _ _ _ h => h) (ev_var rfl) (ed_var rfl (.int _)) (ed_var rfl (.int _)) hx hy fun H5 r5 g5 => hD' _ _ ⟨_, _, rfl, r5, g5⟩
      obtain ⟨y5, y6, rfl, r3, g3⟩ := hJ
      refine q_ifJ (m := dmd k) (J := fun σ H' => ∃ y5 y6, σ = [some (.ref k.d), some (.int (j : Nat)), some (.ref pl), some v3, y4, y5, y6] ∧ Rl (dmd k) H H' ∧ Gr H H' v3 j j) r3.i (ex_eq (ez_draw (K := K) (n := 3) (hk.rl r3) rfl ed_int (by decide)) (ED.z (K := K) (C := fun _ => True) ed_int trivial)) (fun H4 e4 D' hD' _ => ?_) (fun H4 e4 D' hD' _ => hD' _ _ ⟨_, _, rfl, r3.trans e4, g3.rl hI e4⟩) fun σ H4 hJ => ?_
      · have r4 := r3.trans e4
        refine s_forR1 (m := dmd k) (K := K) (n := (j : Nat)) e4.i (ea_one (ed_var rfl (.int _))) (by omega)
          (fun i σ H' => ∃ y5 y6, σ = [some (.ref k.d), some (.int (j : Nat)), some (.ref pl), some v3, y4, y5, y6] ∧ Rl (dmd k) H H' ∧ Gr H H' v3 j j)
          (fun H5 e5 => ⟨_, _, rfl, r4.trans e5, g3.rl hI (e4.trans e5)⟩) (fun x σ H5 hx hP => ?_) fun σ H5 hP => hD' _ _ hP
        obtain ⟨y5, y6, rfl, r5, g5⟩ := hP
        refine s_forR1 (m := dmd k) (K := K) (n := (x : Nat)) r5.i (ea_one (ed_var rfl (.int _))) (by omega)
          (fun i σ H' => ∃ y6, σ = [some (.ref k.d), some (.int (j : Nat)), some (.ref pl), some v3, y4, some (.int (x : Nat)), y6] ∧ Rl (dmd k) H H' ∧ Gr H H' v3 j j)
          (fun H6 e6 => ⟨_, rfl, r5.trans e6, g5.rl hI e6⟩) (fun y σ H6 hy hP => ?_) fun σ H6 hP => ?_
        · obtain ⟨y6, rfl, r6, g6⟩ := hP
          exact s_setG (K := K) hI r6 g6 (EZ.isI (ez_grid (K := K) (i := y) (j := x) hI g6 (ev_var rfl) (ed_var rfl (.int _)) (ed_var rfl (.int _)) (by omega) (by omega))) (ev_var rfl) (ed_var rfl (.int _)) (ed_var rfl (.int _)) (show x < j by omega) (show y < j by omega) fun H7 r7 g7 => ⟨_, rfl, r7, g7⟩
        · obtain ⟨y6, rfl, r6, g6⟩ := hP
          exact ⟨_, _, rfl, r6, g6⟩
      obtain ⟨y5, y6, rfl, r4, g4⟩ := hJ
      have hmix : EvP (dmd k) (tCall sp_law_mixed [] E0 (tCons (tVar 0) (tCons (tLstRg (tRg1 (tVar 1))) tNil))) [some (.ref k.d), some (.int (j : Nat)), some (.ref pl), some v3, y4, y5, y6] H4 fun _ v B => ∃ q ss, v = .ref q ∧ B q = some (.lst ((iN ss).map V.int)) ∧ ss.Perm (List.range j) :=
        ep_callD2 (R := fun v B => ∃ q ss, v = .ref q ∧ B q = some (.lst ((iN ss).map V.int)) ∧ ss.Perm (List.range j)) (hk.rl r4) (EA.imp (eg_cons (P1 := fun v _ => v = .ref k.d) (ev_var rfl) (fun _ _ _ _ h => h) (eg_one (P1 := fun v B => ∃ p, v = .ref p ∧ H4 p = none ∧ B p = some (.lst ((iN (List.range j)).map V.int))) (EvP.imp (EL.at (el_rg1 (K := K) (n := j) (ed_var rfl (.int _)) (by omega))) fun A v B _ h => by
          obtain ⟨p, xs, h1, h2, h3, h4⟩ := h
          refine ⟨p, h1, h2, ?_⟩
          rw [← iN_map] at h4
          rw [← h4.ints_inv]
          exact h3))) fun vs H5 r5 pp => by
          obtain ⟨_, _, rfl, rfl, _, rfl, p, rfl, hp1, hp2⟩ := pp
          refine ⟨(p, (iN (List.range j)).map V.int), _, rfl, ⟨rfl, Md.notM r5.1 hp1, hp2, ?_⟩, fun v H6 r6 hp => ?_⟩
          · show ((iN (List.range j)).map V.int).length ≤ 1000
            unfold iN
            rw [List.length_map, List.length_map, List.length_range]
            omega
          · obtain ⟨qa, ys, e1, _, e3, e4⟩ := hp
            obtain ⟨ss, rfl, hss⟩ := int_back e4
            exact ⟨qa, ss, e1, e3, hss⟩)
      have hcall : EvP (dmd k) (tCall (sp_law_seated K) [] E0 (tCons (tVar 3) (tCons (tCall sp_law_mixed [] E0 (tCons (tVar 0) (tCons (tLstRg (tRg1 (tVar 1))) tNil))) tNil))) [some (.ref k.d), some (.int (j : Nat)), some (.ref pl), some v3, y4, y5, y6] H4 fun _ v B => ∃ r, Rp K B v (dTab j r) := by
        intro H5 e5 Q q
        refine eg_cons (m := dmd k) (P1 := fun v _ => v = v3) (ev_var rfl) (fun _ _ _ _ h => h) (eg_one hmix) H5 e5 _ fun vs H6 e6 pp => ?_
        obtain ⟨_, _, rfl, rfl, vq, rfl, qa, ss, rfl, hq, hss⟩ := pp
        exact ⟨j, _, qa, ss, rfl, (g4.rl hI (e5.trans e6)).no, hq, by rw [hss.length_eq, List.length_range], fun x hx => List.mem_range.mp (hss.mem_iff.mp hx), by omega, fun v H7 r e7 hv => q v H7 (e6.trans (Rl.ex e6.i e7)) ⟨r, hv⟩⟩
      exact s_ret (m := dmd k) r4.i hcall fun v H5 e5 hv => q v H5 (r4.trans e5) hv
/-! ### _law_looks -/
def sp_law_looks : Sp := SpD (α := Unit) (fun _ _ ws _ => ws = []) (fun k _ H v H' => ∃ (p : Addr) (ns : List Int), v = .ref p ∧ H p = none ∧ H' p = some (.lst (ns.map V.int)) ∧ 1 ≤ ns.length ∧ ns.length ≤ 10)
theorem ok_law_looks {f f2 : Addr} {fd fd2 : FuncData} (F : Fun K "_law_looks" "_law_looks" s_law_looks f fd) (G_law_one : FnOk P w K mg base CX0 2 f2 fd2 P_law_one sp_law_one) (F_law_one : Fun K "_law_one" "_law_one" s_law_one f2 fd2) (b_law_one : Binds K fd2 P_law_one []) (g_law_one : mg "_law_one" = some (.ref f2)) :
    FnOk P w K mg base CX0 3 f fd P_law_looks sp_law_looks := by
  refine F.ok sc_law_looks (fun vs H Q E h => ?_) (fun cdv A outer s H vs Q E hr h => ?_)
  · obtain ⟨k, x, ws, rfl, _, rfl, _⟩ := h
    rfl
  · obtain ⟨k, x, ws, rfl, hk, rfl, q⟩ := h
    refine ⟨_, (pss_one (ps_ret (pe_call G_law_one (hr.mono (by decide)) (by rfl) g_law_one F_law_one.kp b_law_one .nil pass0 (pa_cons (pv 0) (pa_cons (pe_lst (pa_cons (pe_lst (pa_cons pe_int (pa_cons pe_int pa_nil))) (pa_cons (pe_lst (pa_cons pe_int (pa_cons pe_int (pa_cons pe_int pa_nil)))) (pa_cons (pe_lst (pa_cons pe_int (pa_cons pe_int (pa_cons pe_int pa_nil)))) (pa_cons (pe_lst (pa_cons pe_int (pa_cons pe_int (pa_cons pe_int pa_nil)))) (pa_cons (pe_lst (pa_cons pe_int (pa_cons pe_int (pa_cons pe_int (pa_cons pe_int (pa_cons pe_int pa_nil)))))) (pa_cons (pe_lst (pa_cons pe_int pa_nil)) pa_nil))))))) pa_nil))))), ?_⟩
    have hI := hk.i
    let LK : V → Hp → Prop := fun v B => ∃ (p : Addr) (ns : List Int), v = .ref p ∧ H p = none ∧ B p = some (.lst (ns.map V.int)) ∧ 1 ≤ ns.length ∧ ns.length ≤ 10
    have sLK : St1 (dmd k) LK := fun v A B r h => by
      obtain ⟨p, ns, h1, h2, h3, h4⟩ := h
      exact ⟨p, ns, h1, h2, r.at (Md.notM hI h2) h3, h4⟩
    have lk : ∀ {ta : TA} {ns : List Int} {σ : L2.St}, EA (dmd k) ta σ H (fun vs H2 => RpAll K H2 vs (ns.map .int)) → 1 ≤ ns.length ∧ ns.length ≤ 10 → EvP (dmd k) (tLst ta) σ H fun _ v B => LK v B := fun {ta ns σ} h hl => EvP.imp (EL.at (el_lst (K := K) h (by rw [List.length_map]; omega))) fun A v B _ p => by
      obtain ⟨p, xs, h1, h2, h3, h4⟩ := p
      refine ⟨p, ns, h1, h2, ?_, hl⟩
      rw [← h4.ints_inv]
      exact h3
    refine s_ret (m := dmd k) hI (ep_callD2 (R := LK) hk (EA.imp (eg_cons (P1 := fun v _ => v = .ref k.d) (ev_var rfl) (fun _ _ _ _ h => h) (eg_one (P1 := fun v B => ∃ p xs, v = .ref p ∧ H p = none ∧ B p = some (.lst xs) ∧ xs.length = 6 ∧ ∀ x ∈ xs, LK x B) (fun H1 e Q q => ?_))) fun vs H5 r5 pp => ?_)) fun v H1 e1 hv => q v H1 e1 hv
    · refine eg_cons (m := dmd k) (lk (ns := [0, 1]) (ea_two ed_int ed_int) (by decide)) sLK (eg_cons (lk (ns := [1, 0, 1]) (ea_three ed_int ed_int ed_int) (by decide)) sLK (eg_cons (lk (ns := [0, 1, 2]) (ea_three ed_int ed_int ed_int) (by decide)) sLK (eg_cons (lk (ns := [2, 0, 99]) (ea_three ed_int ed_int ed_int) (by decide)) sLK (eg_cons (lk (ns := [0, 1, 2, 3, 7]) (ea_cons ed_int (ea_four ed_int ed_int ed_int ed_int)) (by decide)) sLK (eg_one (lk (ns := [5]) (ea_one ed_int) (by decide))))))) H1 e _ fun vs H2 e2 pp => ?_
      obtain ⟨a, _, rfl, h1, b, _, rfl, h2, c, _, rfl, h3, d, _, rfl, h4, e', _, rfl, h5, f', rfl, h6⟩ := pp
      refine ⟨by show 6 ≤ sizeLine; decide, fun p hp => q _ _ (e2.trans (Rl.new e2.i hp)) ⟨p, _, rfl, (e.trans e2).back hp, upd_same, rfl, fun x hx => ?_⟩⟩
      have sn : LK x H2 → LK x _ := fun h => sLK _ _ _ (Rl.new (o := .lst [a, b, c, d, e', f']) e2.i hp) h
      simp only [List.mem_cons, List.not_mem_nil, or_false] at hx
      rcases hx with rfl | rfl | rfl | rfl | rfl | rfl
      · exact sn h1
      · exact sn h2
      · exact sn h3
      · exact sn h4
      · exact sn h5
      · exact sn h6
    · obtain ⟨_, _, rfl, rfl, _, rfl, p, xs, rfl, h1, h2, h3, h4⟩ := pp
      exact ⟨(p, xs), _, rfl, ⟨rfl, Md.notM hI h1, h2, by show 1 ≤ xs.length; omega, by show xs.length ≤ 100000; omega⟩, fun v H6 r6 hv => sLK _ _ _ r6 (h4 v hv)⟩
end
end PT

set_option Elab.async false
set_option linter.all false
set_option maxRecDepth 100000
set_option maxHeartbeats 4000000
namespace PT
open PySem PySem.Spec PyProof.Rows L2
section
variable {K : PySem.W.Frag} {m : Md} {σ : L2.St} {H H' A B C : Hp} {ta tb tc te tf td ty tv tl : TE} {D : Ends} {n : Nat}
theorem each_rows {is : List Nat} : ∀ {vs : List V}, Each (fun _ v H => ∃ ns : List Int, ns.length = n ∧ Rp K H v (dT ns)) H vs is → ∃ nss : List (List Int), RpAll K H vs (nss.map dT) ∧ nss.length = is.length ∧ ∀ ns ∈ nss, ns.length = n := fun {vs} h => by
  induction h with
  | nil => exact ⟨[], .nil, rfl, fun x hx => by cases hx⟩
  | cons a b ih =>
    obtain ⟨ns, h1, h2⟩ := a
    obtain ⟨nss, e1, e2, e3⟩ := ih
    exact ⟨ns :: nss, .cons h2 e1, by rw [List.length_cons, List.length_cons, e2], fun x hx => by
      rcases List.mem_cons.mp hx with h | h
      · rw [h]
        exact h1
      · exact e3 x h⟩
/-- a dict with int keys, its values ints -/
structure PK (kvs : List (Key × V)) (c : Nat) : Prop where
  iv : ∀ k v, valV kvs k = some v → IsI v
  len : kvs.length ≤ c
theorem s_dputI {p : Addr} {kvs : List (Key × V)} {i : Int} (hI : m.I H) (hn : ¬ m.M p) (hp : H p = some (.dK kvs)) (hz : kvs.length < 100000) (ht : EvP m tv σ H fun _ v _ => IsI v) (hd : Ev m td σ H (.ref p)) (hy : ED K m ty σ H (.int i))
    (kk : ∀ (z : Int) H3, Rl m H H3 → H3 p = some (.dK kvs) → D.nx σ (upd H3 p (.dK (putK kvs (.inl i) (.int z))))) : sDPut td ty tv D σ H := ht H (Rl.refl hI) _ fun v H1 e1 p1 => hd H1 e1 _ fun x H2 e2 ex => by
  obtain ⟨z, rfl⟩ := p1
  subst ex
  exact hy H2 (e1.trans e2) _ fun y H3 e3 p3 => by
    have p3 := p3.int_inv
    subst p3
    have er := (e1.trans e2).trans e3
    exact ⟨p, _, rfl, DPut.k (k := .inl i) (er.at hn hp) (len_lt hz), kk z H3 er (er.at hn hp)⟩
theorem ev_dgetI {p : Addr} {kvs : List (Key × V)} {i : Int} {v0 : V} (hn : ¬ m.M p) (hp : H p = some (.dK kvs)) (hd : Ev m td σ H (.ref p)) (hy : ED K m ty σ H (.int i)) (hv : valV kvs (.inl i) = some v0) : Ev m (tDGet td ty) σ H v0 := fun H1 e Q q =>
  hd H1 e _ fun x H2 e2 ex => by
    subst ex
    refine hy H2 (e.trans e2) _ fun y H3 e3 p3 => ?_
    have p3 := p3.int_inv
    subst p3
    refine ⟨p, v0, rfl, ?_, q v0 H3 (e2.trans e3) rfl⟩
    rw [← hv]
    exact DGet.k (k := .inl i) (((e.trans e2).trans e3).at hn hp)
theorem ed_dniI {p : Addr} {kvs : List (Key × V)} {i : Int} (hn : ¬ m.M p) (hp : H p = some (.dK kvs)) (hd : Ev m td σ H (.ref p)) (hy : ED K m ty σ H (.int i)) : ED K m (tDNotIn ty td) σ H (.bool (!(valV kvs (.inl i)).isSome)) := fun H1 e Q q =>
  hy H1 e _ fun y H2 e2 p2 => hd H2 (e.trans e2) _ fun x H3 e3 ex => by
    subst ex
    have p2 := p2.int_inv
    subst p2
    exact ⟨p, _, rfl, DGet.k (k := .inl i) (((e.trans e2).trans e3).at hn hp), q _ H3 (e2.trans e3) (.bl _)⟩
theorem q_ifE {tu tw tz : TS} {t : TT} {b : Bool} {J : L2.St → Hp → Prop} (hI : m.I H) (h : ET m t σ H b) (h1 : b = true → ∀ H1, Rl m H H1 → ∀ D' : Ends, (∀ σ' H', J σ' H' → D'.nx σ' H') → D'.rt = D.rt → tu D' σ H1) (h2 : b = false → ∀ H1, Rl m H H1 → ∀ D' : Ends, (∀ σ' H', J σ' H' → D'.nx σ' H') → D'.rt = D.rt → tw D' σ H1) (kk : ∀ σ' H', J σ' H' → tz D σ' H') : tSeq (tIfS t tu tw) tz D σ H :=
  q_if hI h (fun hb H1 e => h1 hb H1 e { D with nx := tz D } kk rfl) (fun hb H1 e => h2 hb H1 e { D with nx := tz D } kk rfl)
theorem PK.put {kvs : List (Key × V)} {c : Nat} (h : PK kvs c) (k : Key) (z : Int) : PK (putK kvs k (.int z)) (c + 1) := ⟨fun k' v e => by
  rw [valV_put] at e
  by_cases q : k' = k
  · rw [if_pos q] at e
    cases e
    exact ⟨z, rfl⟩
  · rw [if_neg q] at e
    exact h.iv k' v e, by
  have := length_putK kvs k (.int z)
  have := h.len
  omega⟩
theorem PK.up {kvs : List (Key × V)} {c d : Nat} (h : PK kvs c) (hc : c ≤ d) : PK kvs d := ⟨h.iv, Nat.le_trans h.len hc⟩
theorem cb1 {r : List V → Hp → VK → Prop} {Q : VK} (h : te σ H fun v H1 => r [v] H1 Q) : tCB r (tCons te tNil) σ H Q := h
theorem ep_newK : EvP m tDNewK σ H fun _ v H2 => ∃ p, v = .ref p ∧ H p = none ∧ H2 p = some (.dK []) := fun H1 e Q q p hp => q _ _ (Rl.new e.i hp) ⟨p, rfl, e.back hp, upd_same⟩
theorem ep_listFR {ns : List Int} (h : ED K m te σ H (dT ns)) : EvP m (tCB (rListOf K) (tCons te tNil)) σ H fun A v B => FR A B v ns.length := fun H1 e Q q => h H1 e _ fun v H2 e2 p => by
  obtain ⟨a, xs, rfl, h1, h2⟩ := p.tup_inv
  have h3 := h2.ints_inv
  subst h3
  exact ⟨a, _, rfl, .inr h1, fun l hl => q _ _ (e2.trans (Rl.new e2.i hl)) ⟨l, ns, rfl, e2.back hl, upd_same, rfl⟩⟩
end
section
variable {P : Program} {w : World} {K : PySem.W.Frag} {mg : Str → Option Value} {base : Heap}
/-! ### _law_kin -/
def sp_law_kin (K : PySem.W.Frag) : Sp := SpD (α := Tb × Addr × List Int × Nat) (fun k a ws H => ∃ vt, ws = [vt, .ref a.2.1] ∧ Rp K H vt (dTab a.2.2.2 a.1) ∧ LI k H a.2.1 a.2.2.1 ∧ a.2.2.2 ≤ 10) (fun _ a _ v H' => ∃ r, Rp K H' v (dTab a.2.2.2 r))
theorem ok_law_kin {f f1 f2 f3 : Addr} {fd fd1 fd2 fd3 : FuncData} (B : Bt mg) (F : Fun K "_law_kin" "_law_kin" s_law_kin f fd) (G_law_draw : FnOk P w K mg base CX0 1 f1 fd1 P_law_draw sp_law_draw) (F_law_draw : Fun K "_law_draw" "_law_draw" s_law_draw f1 fd1) (b_law_draw : Binds K fd1 P_law_draw []) (g_law_draw : mg "_law_draw" = some (.ref f1))
    (G_law_one : FnOk P w K mg base CX0 2 f2 fd2 P_law_one sp_law_one) (F_law_one : Fun K "_law_one" "_law_one" s_law_one f2 fd2) (b_law_one : Binds K fd2 P_law_one []) (g_law_one : mg "_law_one" = some (.ref f2))
    (G_law_table : FnOk P w K mg base CX0 4 f3 fd3 P_law_table (sp_law_table K)) (F_law_table : Fun K "_law_table" "_law_table" s_law_table f3 fd3) (b_law_table : Binds K fd3 P_law_table []) (g_law_table : mg "_law_table" = some (.ref f3)) :
    FnOk P w K mg base CX0 5 f fd P_law_kin (sp_law_kin K) := by
  have m_list := B.list_
  have m_tuple := B.tuple_
  have m_range := B.range_
  refine F.ok sc_law_kin (fun vs H Q E h => ?_) (fun cdv A outer s H vs Q E hr h => ?_)
  · obtain ⟨k, x, ws, rfl, _, ⟨vt, rfl, _⟩, _⟩ := h
    rfl
  · obtain ⟨k, ⟨r, pl, ls, n⟩, ws, rfl, hk, ⟨vt, rfl, ht, hL, hn⟩, q⟩ := h
    have hu64 := hr.units
    have hu := hu_of hr
    refine ⟨_, (pss_cons (ps_asg (pv 1) (pg_tup rfl (pgs_cons (pg_name (i := 3) sc_law_kin.nd rfl (Or.inl rfl)) (pgs_cons (pg_name (i := 4) sc_law_kin.nd rfl (Or.inl rfl)) pgs_nil))))
      (pss_cons (ps_par (i := 5) (j := 6) (by rfl) sc_law_kin.nd rfl rfl (by decide) rfl rfl (pa_cons (pe_call G_law_draw (hr.mono (by decide)) (by rfl) g_law_draw F_law_draw.kp b_law_draw .nil pass0 (pa_cons (pv 0) (pa_cons pe_int pa_nil))) (pa_cons (pe_lc (own := [("_law_row", 10)]) rfl sc_law_kin.nd (pi_tupK (K := K) (pv 4)) (blkOk_by (N := N_law_kin) (sc := (defScope s_law_kin)) (by decide +kernel)) (fun _ _ _ _ _ => (pg_name (i := 10) sc_law_kin.nd rfl (Or.inl rfl))) (fun _ _ _ _ _ => pts_nil) (fun _ _ _ _ _ => (pe_callTy (r := rListOf K) call_list_of (by rfl) m_list (by decide +kernel) (pa_cons (pv 10) pa_nil)))) pa_nil)) (by rfl))
      (pss_cons (ps_if (pt_cmpR op_eq (pv 5) pe_int (nomark _)) (pss_one (ps_ret (pe_call G_law_table (hr.mono (by decide)) (by rfl) g_law_table F_law_table.kp b_law_table .nil pass0 (pa_cons (pv 0) (pa_cons (pv 3) (pa_cons (pv 2) pa_nil)))))) pss_nil)
      (pss_cons (ps_set (i := 7) sc_law_kin.nd rfl (Or.inl rfl) pe_dnewK)
      (pss_cons (ps_for PassesOwn.never rfl (pi_range1 (by rfl) m_range (pa_cons (pv 3) pa_nil)) (pg_name (i := 8) sc_law_kin.nd rfl (Or.inl rfl)) (pss_one (ps_for PassesOwn.never rfl (pi_range1 (by rfl) m_range (pa_cons (pv 3) pa_nil)) (pg_name (i := 9) sc_law_kin.nd rfl (Or.inl rfl)) (pss_cons (ps_if (pt_cmp (pc_dnotin hu (pe_ix (r := rIxT K) ix_tup (pe_ix (r := rIxT K) ix_tup (pv 4) (pv 8) (fun _ _ => rfl)) (pv 9) (fun _ _ => rfl)) (pv 7))) (pss_one (ps_dput hu (pv 7) (pe_ix (r := rIxT K) ix_tup (pe_ix (r := rIxT K) ix_tup (pv 4) (pv 8) (fun _ _ => rfl)) (pv 9) (fun _ _ => rfl)) (pe_call G_law_one (hr.mono (by decide)) (by rfl) g_law_one F_law_one.kp b_law_one .nil pass0 (pa_cons (pv 0) (pa_cons (pv 2) pa_nil))) rfl)) pss_nil)
      (pss_one (ps_if (PW.pt (pw_and (pt_cmpR (r := rIn K false) op_in_seq (pv 5) (pe_tup (pa_cons pe_int (pa_cons pe_int (pa_cons pe_int pa_nil)))) (by rfl)) (pw_and1 (pt_cmpR op_ne (pv 8) (pv 9) (nomark _))))) (pss_one (ps_asg (pe_ifExp (pt_cmpR op_eq (pv 5) pe_int (nomark _)) (pe_ix (r := rIxT K) ix_tup (pe_ix (r := rIxT K) ix_tup (pv 4) (pv 9) (fun _ _ => rfl)) (pv 8) (fun _ _ => rfl)) (pe_ifExp (pt_cmpR op_eq (pv 5) pe_int (nomark _)) (pe_dget hu (pv 7) (pe_ix (r := rIxT K) ix_tup (pe_ix (r := rIxT K) ix_tup (pv 4) (pv 8) (fun _ _ => rfl)) (pv 9) (fun _ _ => rfl)) (fun _ _ => rfl)) (pe_ix (r := rIxL K) ix_list (pv 2) pe_int (fun _ _ => rfl)))) (pg_sub (pe_ix (r := rIxL K) ix_list (pv 6) (pv 8) (fun _ _ => rfl)) (pv 9) set_list))) pss_nil))))))
      (pss_cons (ps_if (PW.pt (pw_and (pt_cmpR op_eq (pv 5) pe_int (nomark _)) (pw_and1 (pt_cmpR op_gt (pv 3) pe_int (nomark _))))) (pss_cons (ps_par (i := 8) (j := 9) (by rfl) sc_law_kin.nd rfl rfl (by decide) rfl rfl (pa_cons (pe_call G_law_draw (hr.mono (by decide)) (by rfl) g_law_draw F_law_draw.kp b_law_draw .nil pass0 (pa_cons (pv 0) (pa_cons (pv 3) pa_nil))) (pa_cons (pe_call G_law_draw (hr.mono (by decide)) (by rfl) g_law_draw F_law_draw.kp b_law_draw .nil pass0 (pa_cons (pv 0) (pa_cons (pv 3) pa_nil))) pa_nil)) (by rfl))
      (pss_one (ps_asg (pe_ifExp (pt_cmpR op_eq (pv 8) (pv 9) (nomark _)) pe_int (pe_call G_law_one (hr.mono (by decide)) (by rfl) g_law_one F_law_one.kp b_law_one .nil pass0 (pa_cons (pv 0) (pa_cons (pv 2) pa_nil)))) (pg_sub (pe_ix (r := rIxL K) ix_list (pv 6) (pv 8) (fun _ _ => rfl)) (pv 9) set_list)))) pss_nil)
      (pss_one (ps_ret (pe_tup (pa_cons (pv 3) (pa_cons (pe_callTy (r := rTupOf K) call_tuple_of (by rfl) m_tuple (by decide +kernel) (pa_cons (pe_lc (own := [("_law_row", 10)]) rfl sc_law_kin.nd (pi_listK (K := K) (pv 6)) (blkOk_by (N := N_law_kin) (sc := (defScope s_law_kin)) (by decide +kernel)) (fun _ _ _ _ _ => (pg_name (i := 10) sc_law_kin.nd rfl (Or.inl rfl))) (fun _ _ _ _ _ => pts_nil) (fun _ _ _ _ _ => (pe_callTy (r := rTupOf K) call_tuple_of (by rfl) m_tuple (by decide +kernel) (pa_cons (pv 10) pa_nil)))) pa_nil)) pa_nil))))))))))), ?_⟩
    have hL : LI k H pl ls := hL
    have hn : n ≤ 10 := hn
    have ht : Rp K H vt (dTab n r) := ht
    have hI := hk.i
    refine q_unp2 (m := dmd k) hI (ed_var rfl ht) fun v3 v4 H1 e1 h3 h4 => ?_
    have h3 := h3.int_inv
    subst h3
    have hk1 := hk.rl e1
    have hL1 := hL.rl e1
    have hI1 := e1.i
    refine q_par (m := dmd k) hI1 (eg_cons (P1 := fun v _ => ∃ r : Nat, v = .int (r : Nat) ∧ r < 6) (ep_draw (K := K) (n := 6) hk1 rfl ed_int (by decide)) (fun _ _ _ _ h => h) (eg_one (P1 := fun v B => Gr H1 B v n n) (EvP.imp2 (ep_lc (OkD := fun p _ v B => FR H1 B v n ∧ v ≠ .ref p) (fun _ => true) (ew_tup (K := K) (ed_var rfl h4)) ?_ ?_ ?_ (fun i x H5 hi rr y => et_yes) (fun i x H5 hi rr y _ => ?_)) (fun A v B rA rB h => ?_)))) fun vs H2 e2 hvs => ?_
    · rw [List.length_map, List.length_range]
      omega
    · exact fun p i v A B rr h => ⟨h.1.rl hI1 rr, h.2⟩
    · exact fun p i v A xs o hp h => ⟨h.1.other h.2, h.2⟩
    · obtain ⟨d, hd, hx⟩ := y
      rw [List.getElem?_map] at hd
      obtain ⟨i', hi', rfl⟩ := Option.map_eq_some_iff.mp hd
      refine EvP.imp2 (ep_listFR (K := K) (ns := (List.range n).map (r i')) (ed_var rfl hx)) fun A v B rA rB h p xs hp => ?_
      rw [List.length_map, List.length_range] at h
      refine ⟨h.back (rr.trans rA), fun z => ?_⟩
      obtain ⟨qa, _, e, h2, _⟩ := h
      rw [z] at e
      injection e with e
      rw [← e, hp] at h2
      cases h2
    · obtain ⟨p, xs, rfl, h1, h2, h5⟩ := h
      have hl := h5.length
      rw [kept_all, List.length_range, List.length_map, List.length_range] at hl
      refine ⟨p, xs, rfl, rA.back h1, h2, hl, fun x hx => ?_⟩
      obtain ⟨j, hj, rfl⟩ := List.getElem_of_mem hx
      obtain ⟨i, _, ho⟩ := h5.at (List.getElem?_eq_getElem hj)
      exact ho.1
    obtain ⟨_, _, rfl, ⟨way, rfl, _⟩, vf, rfl, g2⟩ := hvs
    refine ⟨_, _, rfl, ?_⟩
    refine q_ifJ (m := dmd k) (J := fun σ H' => σ = [some (.ref k.d), some vt, some (.ref pl), some (.int (n : Nat)), some v4, some (.int (way : Nat)), some vf, none, none, none, none] ∧ Rl (dmd k) H1 H' ∧ Gr H1 H' vf n n) e2.i (ET.toX (et_test (K := K) (ed_eqI (ed_var rfl (.int _)) ed_int))) (fun H3 e3 D' _ hrt => ?_) (fun H3 e3 D' hD' _ => hD' _ _ ⟨rfl, e2.trans e3, g2.rl hI1 e3⟩) fun σ H3 hJ => ?_
    · have r3 := e2.trans e3
      refine s_ret (m := dmd k) r3.i (ep_callD2 (R := fun v B => ∃ r, Rp K B v (dTab n r)) (hk1.rl r3) (EA.imp (eg_cons (P1 := fun v _ => v = .ref k.d) (ev_var rfl) (fun _ _ _ _ h => h) (eg_cons (P1 := fun v _ => v = .int (n : Nat)) (ev_var rfl) (fun _ _ _ _ h => h) (eg_one (P1 := fun v _ => v = .ref pl) (ev_var rfl)))) fun vs H5 r5 pp => ?_)) fun v H4 e4 hv => ?_
      · obtain ⟨_, _, rfl, rfl, _, _, rfl, rfl, _, rfl, rfl⟩ := pp
        exact ⟨(pl, ls, n), _, rfl, ⟨rfl, hL1.rl (r3.trans r5), hn⟩, fun v H6 r6 h => h⟩
      · rw [hrt]
        exact q v H4 ((e1.trans r3).trans e4) hv
    obtain ⟨rfl, r3, g3⟩ := hJ
    refine q_asg (m := dmd k) r3.i ep_newK fun v7 H4 e4 h7 => ?_
    obtain ⟨pp, rfl, hpp3, hpp4⟩ := h7
    have hpp1 : H1 pp = none := r3.back hpp3
    have npp := Md.notM hI1 hpp1
    have r4 := r3.trans e4
    have cell : ∀ (σ : L2.St) (H' : Hp) (tx ty : TE) (x y : Nat), Rl (dmd k) H1 H' → σ[4]? = some (some v4) → ED K (dmd k) tx σ H' (.int (x : Nat)) → ED K (dmd k) ty σ H' (.int (y : Nat)) → x < n → y < n → ED K (dmd k) (tOp (rIxT K) (tOp (rIxT K) (tVar 4) tx) ty) σ H' (.int (r x y)) := fun σ H' tx ty x y rr h4v hx hy hxn hyn => ed_rows (ed_var h4v (h4.rl rr)) hx hy hxn hyn
    let Pv : Nat → L2.St → Hp → Prop := fun c σ H' => (∃ y8 y9, σ = [some (.ref k.d), some vt, some (.ref pl), some (.int (n : Nat)), some v4, some (.int (way : Nat)), some vf, some (.ref pp), y8, y9, none]) ∧ Rl (dmd k) H1 H' ∧ Gr H1 H' vf n n ∧ ∃ kvs, H' pp = some (.dK kvs) ∧ PK kvs c
    refine q_forR1 (m := dmd k) (K := K) (n := (n : Nat)) r4.i (ea_one (ed_var rfl (.int _))) (by omega) (fun i => Pv (i * n))
      (fun H5 e5 => ⟨⟨none, none, rfl⟩, r4.trans e5, g3.rl hI1 (e4.trans e5), [], e5.at npp hpp4, ⟨fun _ _ h => (by cases h), Nat.zero_le _⟩⟩) (fun x σ H5 hx hP => ?_) fun σ H5 hP => ?_
    · obtain ⟨⟨y8, y9, rfl⟩, r5, g5, kvs, hk5, pk5⟩ := hP
      have hxn : x < n := by omega
      refine s_forR1 (m := dmd k) (K := K) (n := (n : Nat)) r5.i (ea_one (ed_var rfl (.int _))) (by omega)
        (fun j σ H' => (∃ y9, σ = [some (.ref k.d), some vt, some (.ref pl), some (.int (n : Nat)), some v4, some (.int (way : Nat)), some vf, some (.ref pp), some (.int (x : Nat)), y9, none]) ∧ Rl (dmd k) H1 H' ∧ Gr H1 H' vf n n ∧ ∃ kvs, H' pp = some (.dK kvs) ∧ PK kvs (x * n + j))
        (fun H6 e6 => ⟨⟨_, rfl⟩, r5.trans e6, g5.rl hI1 e6, kvs, e6.at npp hk5, pk5⟩) (fun y σ H6 hy hP => ?_) fun σ H6 hP => ?_
      · obtain ⟨⟨y9, rfl⟩, r6, g6, kvs, hk6, pk6⟩ := hP
        have hyn : y < n := by omega
        have hkl : kvs.length < 100000 := by
          have a1 := pk6.len
          have a2 : x * n ≤ 10 * 10 := Nat.mul_le_mul (by omega) hn
          omega
        refine q_ifE (m := dmd k) (J := fun σ H' => σ = [some (.ref k.d), some vt, some (.ref pl), some (.int (n : Nat)), some v4, some (.int (way : Nat)), some vf, some (.ref pp), some (.int (x : Nat)), some (.int (y : Nat)), none] ∧ Rl (dmd k) H1 H' ∧ Gr H1 H' vf n n ∧ ∃ kvs, H' pp = some (.dK kvs) ∧ PK kvs (x * n + (y + 1)) ∧ (valV kvs (.inl (r x y))).isSome = true) r6.i (et_B (ed_dniI (K := K) (i := r x y) npp hk6 (ev_var rfl) (cell _ _ _ _ x y r6 rfl (ed_var rfl (.int _)) (ed_var rfl (.int _)) hxn hyn))) (fun hb H7 e7 D' hD' _ => ?_) (fun hb H7 e7 D' hD' _ => hD' _ _ ⟨rfl, r6.trans e7, g6.rl hI1 e7, kvs, e7.at npp hk6, pk6.up (by omega), by simpa using hb⟩) fun σ H7 hJ => ?_
        · have r7 := r6.trans e7
          refine s_dputI (K := K) (m := dmd k) (i := r x y) e7.i npp (e7.at npp hk6) hkl (ep_oneL (hk1.rl r7) rfl (ev_var rfl) (hL1.rl r7)) (ev_var rfl) (cell _ _ _ _ x y r7 rfl (ed_var rfl (.int _)) (ed_var rfl (.int _)) hxn hyn) fun z H8 e8 h8 => ?_
          have r8 := r7.trans e8
          have npv : vf ≠ .ref pp := fun z => by
            obtain ⟨p, qs, e, _, h, _⟩ := (g6.rl hI1 (e7.trans e8))
            rw [z] at e
            injection e with e
            rw [← e, h8] at h
            cases h
          refine hD' _ _ ⟨rfl, r8.mut hpp1, ?_, _, upd_same, (pk6.put _ _).up (by omega), by rw [valV_put, if_pos rfl]; rfl⟩
          obtain ⟨p, qs, e, a1, a2, a3, a4⟩ := g6.rl hI1 (e7.trans e8)
          refine ⟨p, qs, e, a1, by rw [upd_ne fun z => npv (by rw [e, z])]; exact a2, a3, fun w hw => (a4 w hw).other fun z => ?_⟩
          obtain ⟨_, _, e1, _, e3, _⟩ := a4 w hw
          rw [z] at e1
          injection e1 with e1
          rw [← e1, h8] at e3
          cases e3
        obtain ⟨rfl, r7, g7, kvs, hk7, pk7, hs7⟩ := hJ
        obtain ⟨pv7, hpv7⟩ := Option.isSome_iff_exists.mp hs7
        obtain ⟨pz, rfl⟩ := pk7.iv _ _ hpv7
        show tIfS _ _ _ _ _ _
        refine s_if (m := dmd k) r7.i (et_and (et_test (K := K) (ed_inT (ns := [1, 2, 4]) (ed_var rfl (.int _)) (ed_tup (K := K) (ea_three ed_int ed_int ed_int) (by show 3 ≤ 100000; decide)))) fun _ => et_test (K := K) (ed_neI (ed_var rfl (.int _)) (ed_var rfl (.int _)))) (fun _ H8 e8 => ?_) (fun _ H8 e8 => ⟨⟨_, rfl⟩, r7.trans e8, g7.rl hI1 e8, kvs, e8.at npp hk7, pk7⟩)
        have r8 := r7.trans e8
        have hl0 : ∃ l0, ls[0]? = some l0 := ⟨ls[0]'(by have := hL.l1; omega), List.getElem?_eq_getElem _⟩
        obtain ⟨l0, hl0⟩ := hl0
        refine s_setGK (K := K) hI1 r8 (g7.rl hI1 e8) (ep_if (et_test (K := K) (ed_eqI (ed_var rfl (.int _)) ed_int)) (fun _ => EZ.isI (ED.z (K := K) (C := fun _ => True) (cell _ _ _ _ y x r8 rfl (ed_var rfl (.int _)) (ed_var rfl (.int _)) hyn hxn) trivial)) (fun _ => ep_if (et_test (K := K) (ed_eqI (ed_var rfl (.int _)) ed_int)) (fun _ => EvP.imp (ev_dgetI (K := K) (i := r x y) npp (e8.at npp hk7) (ev_var rfl) (cell _ _ _ _ x y r8 rfl (ed_var rfl (.int _)) (ed_var rfl (.int _)) hxn hyn) hpv7) fun _ v _ _ p => ⟨pz, p⟩) (fun _ => EZ.isI (ED.z (K := K) (i := l0) (C := fun _ => True) (ed_ixL (i := 0) (ds := ls.map .int) (eq_var rfl ⟨pl, _, rfl, hL1.nm, (hL1.rl r8).at_, RpAll.ints ls⟩) ed_int (by rw [List.getElem?_map, hl0]; rfl)) trivial)) fun _ _ _ _ _ h => h) fun _ _ _ _ _ h => h) (ev_var rfl) (ed_var rfl (.int _)) (ed_var rfl (.int _)) hxn hyn fun H9 r9 g9 hd9 => ?_
        exact ⟨⟨_, rfl⟩, r9, g9, kvs, hd9 pp kvs npp (e8.at npp hk7), pk7⟩
      · obtain ⟨⟨y9, rfl⟩, r6, g6, kvs, hk6, pk6⟩ := hP
        rw [Int.toNat_natCast] at pk6
        exact ⟨⟨_, _, rfl⟩, r6, g6, kvs, hk6, pk6.up (Nat.le_of_eq (Nat.succ_mul x n).symm)⟩
    · obtain ⟨⟨y8, y9, rfl⟩, r5, g5, _⟩ := hP
      refine q_ifC (m := dmd k) (J := fun σ H' => ∃ y8 y9, σ = [some (.ref k.d), some vt, some (.ref pl), some (.int (n : Nat)), some v4, some (.int (way : Nat)), some vf, some (.ref pp), y8, y9, none] ∧ Rl (dmd k) H1 H' ∧ Gr H1 H' vf n n) (C := 1 < n) r5.i (fun H6 e6 Q q => et_and (m := dmd k) (et_test (K := K) (ed_eqI (ed_var rfl (.int _)) ed_int)) (fun _ => et_test (K := K) (ed_B0 (g := fun i j => decide (i > j)) (ed_var (d := .int (n : Nat)) rfl (.int _)) ed_int)) H6 e6 Q fun H7 e7 => q _ H7 (fun hb => by
          rw [Bool.and_eq_true] at hb
          have := of_decide_eq_true hb.2
          omega) e7) (fun hn1 H6 e6 D' hD' _ => ?_) (fun H6 e6 D' hD' _ => hD' _ _ ⟨_, _, rfl, r5.trans e6, g5.rl hI1 e6⟩) fun σ H6 hJ => ?_
      · have r6 := r5.trans e6
        refine q_par (m := dmd k) r6.i (eg_cons (P1 := fun v _ => ∃ r : Nat, v = .int (r : Nat) ∧ r < n) (ep_draw (K := K) (hk1.rl r6) rfl (ed_var rfl (.int _)) (by omega)) (fun _ _ _ _ h => h) (eg_one (P1 := fun v _ => ∃ r : Nat, v = .int (r : Nat) ∧ r < n) (ep_draw (K := K) (hk1.rl r6) rfl (ed_var rfl (.int _)) (by omega)))) fun vs H7 e7 hvs => ?_
        obtain ⟨_, _, rfl, ⟨x, rfl, hx⟩, _, rfl, ⟨y, rfl, hy⟩⟩ := hvs
        refine ⟨_, _, rfl, ?_⟩
        have r7 := r6.trans e7
        exact s_setG (K := K) hI1 r7 (g5.rl hI1 (e6.trans e7)) (ep_ifx (ET.toX (et_test (K := K) (ed_eqI (ed_var rfl (.int _)) (ed_var rfl (.int _))))) (EZ.isI (ED.z (K := K) (C := fun _ => True) ed_int trivial)) (ep_oneL (hk1.rl r7) rfl (ev_var rfl) (hL1.rl r7)) fun _ _ _ _ _ h => h) (ev_var rfl) (ed_var rfl (.int _)) (ed_var rfl (.int _)) hx hy fun H8 r8 g8 => hD' _ _ ⟨_, _, rfl, r8, g8⟩
      obtain ⟨y8, y9, rfl, r6, g6⟩ := hJ
      obtain ⟨pf, qs, rfl, f1, f2, f3, f4⟩ := id g6
      have hn7 := Md.notM hI1 f1
      have hrow : EvP (dmd k) (tCB (rTupOf K) (tCons (tLc (iList K (tVar 6)) (gName 10) tYes (tCB (rTupOf K) (tCons (tVar 10) tNil)) [10]) tNil)) [some (.ref k.d), some vt, some (.ref pl), some (.int (n : Nat)), some v4, some (.int (way : Nat)), some (.ref pf), some (.ref pp), y8, y9, none] H6 fun _ v B => ∃ r, Rp K B v (dRows n r) := by
        intro H7 e7 Q q
        have hw := ew_lst (K := K) (m := dmd k) (tl := tVar 6) (σ := [some (.ref k.d), some vt, some (.ref pl), some (.int (n : Nat)), some v4, some (.int (way : Nat)), some (.ref pf), some (.ref pp), y8, y9, none]) (H := H6) hn7 f2 (ev_var rfl)
        refine cb1 ?_
        refine ep_lc (m := dmd k) (OkD := fun _ _ v H => ∃ ns : List Int, ns.length = n ∧ Rp K H v (dT ns)) (fun _ => true) hw (by omega) (fun p i v A B rr h => ?_) (fun p i v A xs o hp h => ?_) (fun i x H8 hi rr y => et_yes) (fun i x H8 hi rr y _ => ?_) H7 e7 _ fun v H8 e8 hv => ?_
        · obtain ⟨ns, h1, h2⟩ := h
          exact ⟨ns, h1, h2.rl rr⟩
        · obtain ⟨ns, h1, h2⟩ := h
          exact ⟨ns, h1, h2.tk' (Tk.updL hp)⟩
        · obtain ⟨qa, ns, rfl, a1, a2, a3⟩ := (f4 x (List.mem_of_getElem? y)).rl hI1 rr
          exact EvP.imp (ed_tupL (K := K) (eq_var rfl ⟨qa, _, rfl, Md.notM hI1 a1, a2, RpAll.ints ns⟩)) fun A v B _ h p xs hp => ⟨ns, a3, h⟩
        · obtain ⟨p, xs, rfl, h1, h2, h3⟩ := hv
          obtain ⟨nss, a1, a2, a3⟩ := each_rows h3
          rw [kept_all, List.length_range, f3] at a2
          obtain ⟨r', hr'⟩ := rows_tab a2 a3
          refine ⟨p, xs, rfl, .inl ⟨.inl (.inl h2), fun l hl => q _ _ (e8.trans (Rl.new e8.i hl)) ⟨r', ?_⟩⟩⟩
          rw [← hr']
          exact rp_tup upd_same (a1.tk' (Tk.new hl))
      refine s_ret (m := dmd k) (P := fun _ v B => ∃ r, Rp K B v (dTab n r)) r6.i (fun H7 e7 Q q => ?_) fun v H7 e7 hv => q v H7 ((e1.trans r6).trans e7) hv
      refine eg_cons (m := dmd k) (P1 := fun v _ => v = .int (n : Nat)) (ev_var rfl) (fun _ _ _ _ h => h) (eg_one hrow) H7 e7 _ fun vs H8 e8 pp => ?_
      obtain ⟨_, _, rfl, rfl, vr, rfl, r', hr'⟩ := pp
      exact ⟨by show 2 ≤ sizeLine; decide, fun a ha => q _ _ (e8.trans (Rl.new e8.i ha)) ⟨r', rp_tup upd_same (.cons (.int _) (.cons (hr'.tk' (Tk.new ha)) .nil))⟩⟩
end
end PT

set_option Elab.async false
set_option linter.all false
set_option maxRecDepth 100000
set_option maxHeartbeats 4000000
namespace PT
open PySem PySem.Spec PyProof.Rows L2
theorem lev_len (n : Nat) (hn : n ≤ 6) : ∀ k, k ≤ 6 → ∀ l ∈ lev n k, l.length ≤ 6 ∧ ∀ x ∈ l, x < 6 := by
  intro k hk
  have : ∀ n ∈ List.range 7, ∀ k ∈ List.range 7, (lev n k).all (fun l => decide (l.length ≤ 6) && l.all fun x => decide (x < 6)) = true := by decide +kernel
  have h := this n (List.mem_range.mpr (by omega)) k (List.mem_range.mpr (by omega))
  intro l hl
  have h1 := List.all_eq_true.mp h l hl
  rw [Bool.and_eq_true, decide_eq_true_eq, List.all_eq_true] at h1
  exact ⟨h1.1, fun x hx => by simpa using h1.2 x hx⟩
theorem lev_cnt (n : Nat) (hn : n ≤ 6) : ∀ k, k ≤ 6 → (lev n k).length ≤ 64 ∧ ((List.range (k + 1)).flatMap (lev n)).length ≤ 64 := by
  intro k hk
  have : ∀ n ∈ List.range 7, ∀ k ∈ List.range 7, decide ((lev n k).length ≤ 64 ∧ ((List.range (k + 1)).flatMap (lev n)).length ≤ 64) = true := by decide +kernel
  exact of_decide_eq_true (this n (List.mem_range.mpr (by omega)) k (List.mem_range.mpr (by omega)))
theorem ext1_len (n : Nat) (l : List Nat) : (ext1 n l).length ≤ n := by
  unfold ext1
  rw [List.length_map, List.length_range]
  omega
theorem ed_neg1 {K : PySem.W.Frag} {m : Md} {σ : L2.St} {H : Hp} : ED K m (tUn (rU fun i => .int (-i)) (tC (.int 1))) σ H (.int (-1)) := fun H1 e Q q => ⟨1, rfl, q _ H1 (Rl.refl e.i) (.int _)⟩
section
variable {P : Program} {w : World} {K : PySem.W.Frag} {mg : Str → Option Value} {base : Heap}
/-! ### _law_world -/
def sp_law_world (K : PySem.W.Frag) : Sp := SpD (α := Nat × Nat) (fun k a ws H => ws = [.int (a.1 : Nat), .int (a.2 : Nat)] ∧ a.1 ≤ 10 ∧ 1 ≤ a.2 ∧ a.2 ≤ 50) (fun _ a _ v H' => ∃ ts : List Tb, ts.length = a.2 ∧ Rp K H' v (dTs a.1 ts))
theorem ok_law_world {f f1 f2 f3 f4 : Addr} {fd fd1 fd2 fd3 fd4 : FuncData} (B : Bt mg) (F : Fun K "_law_world" "_law_world" s_law_world f fd) (G_law_looks : FnOk P w K mg base CX0 3 f1 fd1 P_law_looks sp_law_looks) (F_law_looks : Fun K "_law_looks" "_law_looks" s_law_looks f1 fd1) (b_law_looks : Binds K fd1 P_law_looks []) (g_law_looks : mg "_law_looks" = some (.ref f1))
    (G_law_one : FnOk P w K mg base CX0 2 f2 fd2 P_law_one sp_law_one) (F_law_one : Fun K "_law_one" "_law_one" s_law_one f2 fd2) (b_law_one : Binds K fd2 P_law_one []) (g_law_one : mg "_law_one" = some (.ref f2))
    (G_law_table : FnOk P w K mg base CX0 4 f3 fd3 P_law_table (sp_law_table K)) (F_law_table : Fun K "_law_table" "_law_table" s_law_table f3 fd3) (b_law_table : Binds K fd3 P_law_table []) (g_law_table : mg "_law_table" = some (.ref f3))
    (G_law_kin : FnOk P w K mg base CX0 5 f4 fd4 P_law_kin (sp_law_kin K)) (F_law_kin : Fun K "_law_kin" "_law_kin" s_law_kin f4 fd4) (b_law_kin : Binds K fd4 P_law_kin []) (g_law_kin : mg "_law_kin" = some (.ref f4)) :
    FnOk P w K mg base CX0 6 f fd P_law_world (sp_law_world K) := by
  have m_tuple := B.tuple_
  have m_range := B.range_
  refine F.ok sc_law_world (fun vs H Q E h => ?_) (fun cdv A outer s H vs Q E hr h => ?_)
  · obtain ⟨k, x, ws, rfl, _, ⟨rfl, _⟩, _⟩ := h
    rfl
  · obtain ⟨k, ⟨n, many⟩, ws, rfl, hk, ⟨rfl, hn, hm1, hm2⟩, q⟩ := h
    refine ⟨_, (pss_cons (ps_set (i := 3) sc_law_world.nd rfl (Or.inl rfl) (pe_call G_law_looks (hr.mono (by decide)) (by rfl) g_law_looks F_law_looks.kp b_law_looks .nil pass0 (pa_cons (pv 0) pa_nil)))
      (pss_cons (ps_set (i := 4) sc_law_world.nd rfl (Or.inl rfl) (pe_lst (pa_cons (pe_call G_law_table (hr.mono (by decide)) (by rfl) g_law_table F_law_table.kp b_law_table .nil pass0 (pa_cons (pv 0) (pa_cons (pv 1) (pa_cons (pv 3) pa_nil)))) pa_nil)))
      (pss_cons (ps_for PassesOwn.never rfl (pi_range1 (by rfl) m_range (pa_cons (pe_op op_sub (pv 2) pe_int) pa_nil)) (pg_name (i := 5) sc_law_world.nd rfl (Or.inl rfl)) (pss_one (ps_expr (pe_bm PySem.F.plainAttrs_list PySem.F.slot_list_append PySem.F.type_list_append mt_append (pv 4) (pa_cons (pe_call G_law_kin (hr.mono (by decide)) (by rfl) g_law_kin F_law_kin.kp b_law_kin .nil pass0 (pa_cons (pv 0) (pa_cons (pe_call G_law_one (hr.mono (by decide)) (by rfl) g_law_one F_law_one.kp b_law_one .nil pass0 (pa_cons (pv 0) (pa_cons (pv 4) pa_nil))) (pa_cons (pv 3) pa_nil)))) pa_nil)))))
      (pss_one (ps_ret (pe_callTy (r := rTupOf K) call_tuple_of (by rfl) m_tuple (by decide +kernel) (pa_cons (pv 4) pa_nil))))))), ?_⟩
    have hn : n ≤ 10 := hn
    have hm1 : 1 ≤ many := hm1
    have hm2 : many ≤ 50 := hm2
    have hI := hk.i
    refine q_asg (m := dmd k) (P := fun _ v B => ∃ p ns, v = .ref p ∧ LI k B p ns) hI (ep_callD2 (R := fun v B => ∃ p ns, v = .ref p ∧ LI k B p ns) hk (EA.imp (eg_one (P1 := fun v _ => v = .ref k.d) (ev_var rfl)) fun vs H5 r5 pp => ?_)) fun v3 H1 e1 h3 => ?_
    · obtain ⟨_, rfl, rfl⟩ := pp
      refine ⟨(), [], rfl, rfl, fun v H6 r6 hp => ?_⟩
      obtain ⟨p, ns, h1, h2, h3, h4, h5⟩ := hp
      exact ⟨p, ns, h1, Md.notM r5.i h2, h3, h4, by omega⟩
    obtain ⟨pl, ls, rfl, hL⟩ := h3
    have hk1 := hk.rl e1
    have htab : ∀ (σ : L2.St) (H' : Hp), Rl (dmd k) H1 H' → σ[0]? = some (some (.ref k.d)) → σ[1]? = some (some (.int (n : Nat))) → σ[3]? = some (some (.ref pl)) → EvP (dmd k) (tCall (sp_law_table K) [] E0 (tCons (tVar 0) (tCons (tVar 1) (tCons (tVar 3) tNil)))) σ H' fun _ v B => ∃ r, Rp K B v (dTab n r) := fun σ H' rr s0 s1 s3 =>
      ep_callD2 (R := fun v B => ∃ r, Rp K B v (dTab n r)) (hk1.rl rr) (EA.imp (eg_cons (P1 := fun v _ => v = .ref k.d) (ev_var s0) (fun _ _ _ _ h => h) (eg_cons (P1 := fun v _ => v = .int (n : Nat)) (ev_var s1) (fun _ _ _ _ h => h) (eg_one (P1 := fun v _ => v = .ref pl) (ev_var s3)))) fun vs H5 r5 pp => by
        obtain ⟨_, _, rfl, rfl, _, _, rfl, rfl, _, rfl, rfl⟩ := pp
        exact ⟨(pl, ls, n), _, rfl, ⟨rfl, hL.rl (rr.trans r5), hn⟩, fun v H6 r6 h => h⟩)
    refine q_asg (m := dmd k) (P := fun _ v B => ∃ p x, v = .ref p ∧ H1 p = none ∧ B p = some (.lst [x]) ∧ ∃ r, Rp K B x (dTab n r)) e1.i (fun H2 e2 Q q => ?_) fun v4 H2 e2 h4 => ?_
    · refine eg_one (m := dmd k) (htab _ _ (Rl.refl e1.i) rfl rfl rfl) H2 e2 _ fun vs H3 e3 pp => ?_
      obtain ⟨x, rfl, r, hx⟩ := pp
      exact ⟨by show 1 ≤ sizeLine; decide, fun a ha => q _ _ (e3.trans (Rl.new e3.i ha)) ⟨a, x, rfl, (e2.trans e3).back ha, upd_same, r, hx.tk' (Tk.new ha)⟩⟩
    obtain ⟨pf, x0, rfl, hpf, hpf2, t0, hx0⟩ := h4
    have nf := Md.notM e1.i hpf
    refine q_forR1 (m := dmd k) (K := K) (n := ((many - 1 : Nat) : Int)) e2.i (ea_one (ed_is (ed_I0 (g := fun i j => i - j) (ed_var rfl (.int _)) ed_int) (by show PyData.int _ = PyData.int _; congr 1; show (many : Int) - 1 = _; omega))) (by omega)
      (fun i σ H' => (∃ y5, σ = [some (.ref k.d), some (.int (n : Nat)), some (.int (many : Nat)), some (.ref pl), some (.ref pf), y5]) ∧ Rl (dmd k) H1 H' ∧ ∃ (xs : List V) (ts : List Tb), H' pf = some (.lst xs) ∧ RpAll K H' xs (ts.map (dTab n)) ∧ ts.length = i + 1)
      (fun H3 e3 => ⟨⟨none, rfl⟩, e2.trans e3, [x0], [t0], e3.at nf hpf2, RpAll.one (hx0.rl e3), rfl⟩) (fun i σ H3 hi hP => ?_) fun σ H3 hP => ?_
    · obtain ⟨⟨y5, rfl⟩, r3, xs, ts, h1, h2, h3⟩ := hP
      have hxl : xs.length = i + 1 := by rw [h2.length, List.length_map, h3]
      refine s_app (m := dmd k) (K := K) (P := fun _ v B => ∃ r, Rp K B v (dTab n r)) r3.i nf h1 (ev_var rfl) (ep_callD2 (R := fun v B => ∃ r, Rp K B v (dTab n r)) (hk1.rl r3) (EA.imp (eg_cons (P1 := fun v _ => v = .ref k.d) (ev_var rfl) (fun _ _ _ _ h => h) (eg_cons (P1 := fun v B => ∃ r, Rp K B v (dTab n r)) (ep_callD2 (R := fun v B => ∃ r, Rp K B v (dTab n r)) (hk1.rl r3) (EA.imp (eg_cons (P1 := fun v _ => v = .ref k.d) (ev_var rfl) (fun _ _ _ _ h => h) (eg_one (P1 := fun v _ => v = .ref pf) (ev_var rfl))) fun vs H5 r5 pp => ?_)) (fun v A B rr h => ?_) (eg_one (P1 := fun v _ => v = .ref pl) (ev_var rfl)))) fun vs H5 r5 pp => ?_)) (by omega) (fun v H6 e6 hv h6 => ?_) fun _ _ _ _ _ h => h
      · obtain ⟨_, _, rfl, rfl, _, rfl, rfl⟩ := pp
        refine ⟨(pf, xs), _, rfl, ⟨rfl, nf, r5.at nf h1, by show 1 ≤ xs.length; omega, by show xs.length ≤ 100000; omega⟩, fun v H6 r6 hv => ?_⟩
        obtain ⟨j, hj, rfl⟩ := List.getElem_of_mem (show v ∈ xs from hv)
        obtain ⟨d, hd, hx⟩ := h2.get' (List.getElem?_eq_getElem hj)
        rw [List.getElem?_map] at hd
        obtain ⟨t, _, rfl⟩ := Option.map_eq_some_iff.mp hd
        exact ⟨t, hx.rl (r5.trans r6)⟩
      · obtain ⟨r, h⟩ := h
        exact ⟨r, h.rl rr⟩
      · obtain ⟨_, _, rfl, rfl, vt, _, rfl, ⟨r, hr⟩, _, rfl, rfl⟩ := pp
        exact ⟨(r, pl, ls, n), _, rfl, ⟨vt, rfl, hr, hL.rl (r3.trans r5), hn⟩, fun v H6 r6 h => h⟩
      · obtain ⟨r, hr⟩ := hv
        refine ⟨⟨_, rfl⟩, (r3.trans e6).mut hpf, xs ++ [v], ts ++ [r], upd_same, ?_, by rw [List.length_append, h3]; rfl⟩
        rw [List.map_append]
        exact ((h2.rl e6).append (RpAll.one hr)).tk' (Tk.updL h6)
    · obtain ⟨⟨y5, rfl⟩, r3, xs, ts, h1, h2, h3⟩ := hP
      refine s_ret (m := dmd k) r3.i (ed_tupL (K := K) (eq_var rfl ⟨pf, xs, rfl, nf, h1, h2⟩)) fun v H4 e4 hv => q v H4 ((e1.trans r3).trans e4) ⟨ts, by rw [h3]; show (((many - 1 : Nat) : Int)).toNat + 1 = many; omega, hv⟩
/-! ### _law_lots -/
def sp_law_lots (K : PySem.W.Frag) : Sp := SpX K (α := Nat) (fun n => n ≤ 6) (fun n => [.int (n : Nat)]) (fun n => NewL K ((lots n).map dN))
theorem ok_law_lots {f : Addr} {fd : FuncData} (B : Bt mg) (F : Fun K "_law_lots" "_law_lots" s_law_lots f fd) : FnOk P w K mg base CX0 1 f fd P_law_lots (sp_law_lots K) := by
  have m_range := B.range_
  refine F.ok sc_law_lots (fun vs H Q E h => ?_) (fun cdv A outer s H vs Q E hr h => ?_)
  · obtain ⟨x, _, ha, _⟩ := h
    exact ha.length
  · obtain ⟨n, hn, ha, q⟩ := h
    obtain ⟨v0, rfl, h0⟩ := ha.inv1
    have hu64 := hr.units
    have hn : n ≤ 6 := hn
    have hv := h0.int_inv
    subst hv
    refine ⟨_, (pss_cons (ps_par (i := 1) (j := 2) (by rfl) sc_law_lots.nd rfl rfl (by decide) rfl rfl (pa_cons (pe_lst (pa_cons (pe_tup pa_nil) pa_nil)) (pa_cons (pe_lst (pa_cons (pe_tup pa_nil) pa_nil)) pa_nil)) (by rfl))
      (pss_cons (ps_for PassesOwn.never rfl (pi_range1 (by rfl) m_range (pa_cons (pv 0) pa_nil)) (pg_name (i := 3) sc_law_lots.nd rfl (Or.inl rfl)) (pss_cons (ps_set (i := 4) sc_law_lots.nd rfl (Or.inl rfl) (pe_lst pa_nil))
      (pss_cons (ps_for PassesOwn.never rfl (pi_listK (K := K) (pv 2)) (pg_name (i := 5) sc_law_lots.nd rfl (Or.inr rfl)) (pss_one (ps_set (i := 4) sc_law_lots.nd rfl (Or.inl rfl) (pe_op op_cat (pv 4) (pe_lc (own := [("_law_thing", 6)]) rfl sc_law_lots.nd (pi_range2 (by rfl) m_range (pa_cons (pe_ifExp (pt_cmpR (r := rNeD K) (op_neD hu64) (pv 5) (pe_tup pa_nil) (nomark _)) (pe_op op_add (pe_ix (r := rIxT K) ix_tup (pv 5) (pe_un un_neg pe_int) (fun _ _ => rfl)) pe_int) pe_int) (pa_cons (pv 0) pa_nil))) (blkOk_by (N := N_law_lots) (sc := (defScope s_law_lots)) (by decide +kernel)) (fun _ _ _ _ _ => (pg_name (i := 6) sc_law_lots.nd rfl (Or.inl rfl))) (fun _ _ _ _ _ => pts_nil) (fun _ _ _ _ _ => (pe_op (r := rCatA K) op_catA (pv 5) (pe_tup (pa_cons (pv 6) pa_nil)))))))))
      (pss_one (ps_par (i := 1) (j := 2) (by rfl) sc_law_lots.nd rfl rfl (by decide) rfl rfl (pa_cons (pe_op op_cat (pv 1) (pv 4)) (pa_cons (pv 4) pa_nil)) (by rfl))))))
      (pss_one (ps_ret (pv 1))))), ?_⟩
    let FL : List (List Nat) → V → Hp → Prop := fun l v B => ∃ p xs, v = .ref p ∧ H p = none ∧ B p = some (.lst xs) ∧ RpAll K B xs (l.map dN)
    have fl_rl : ∀ {l : List (List Nat)} {v : V} {A B : Hp}, Ex A B → FL l v A → FL l v B := fun {l v A B} e h => by
      obtain ⟨p, xs, h1, h2, h3, h4⟩ := h
      exact ⟨p, xs, h1, h2, e _ _ h3, h4.tk' e.tk⟩
    have fl_lq : ∀ {l : List (List Nat)} {v : V} {A : Hp}, FL l v A → Lq K m0 A v (l.map dN) := fun {l v A} h => by
      obtain ⟨p, xs, h1, h2, h3, h4⟩ := h
      exact ⟨p, xs, h1, fun z => z, h3, h4⟩
    have fl_of : ∀ {l : List (List Nat)} {te : TE} {σ : L2.St} {H1 : Hp}, Ex H H1 → EL K m0 te σ H1 (l.map dN) → EvP m0 te σ H1 fun _ v B => FL l v B := fun {l te σ H1} e h => EvP.imp2 h fun A v B rA rB p => by
      obtain ⟨p, xs, h1, h2, h3, h4⟩ := p
      exact ⟨p, xs, h1, (e.trans rA.ex0).back h2, h3, h4⟩
    have one : ∀ (σ : L2.St) (H1 : Hp), Ex H H1 → EvP m0 (tLst (tCons (tTup tNil) tNil)) σ H1 fun _ v B => FL [[]] v B := fun σ H1 e => fl_of e (el_lst (K := K) (ds := [dN []]) (ea_one (ed_tup (K := K) ea_nil (Nat.zero_le _))) (by show 1 ≤ 100000; decide))
    refine q_par (m := m0) i0 (eg_cons (one _ _ (Ex.refl _)) (fun v A B r h => fl_rl r.ex0 h) (eg_one (one _ _ (Ex.refl _)))) fun vs H1 e1 hvs => ?_
    obtain ⟨v1, _, rfl, h1, v2, rfl, h2⟩ := hvs
    refine ⟨_, _, rfl, ?_⟩
    refine q_forR1 (m := m0) (K := K) (n := (n : Nat)) i0 (ea_one (ed_var rfl (.int _))) (by omega)
      (fun i σ H' => (∃ v1 v2 y3 y4 y5, σ = [some (.int (n : Nat)), some v1, some v2, y3, y4, y5, none] ∧ FL ((List.range (i + 1)).flatMap (lev n)) v1 H' ∧ FL (lev n i) v2 H') ∧ Ex H H')
      (fun H2 e2 => ⟨⟨v1, v2, none, none, none, rfl, fl_rl e2.ex0 h1, fl_rl e2.ex0 h2⟩, e1.ex0.trans e2.ex0⟩) (fun i σ H2 hi hP => ?_) fun σ H2 hP => ?_
    · obtain ⟨⟨v1, v2, y3, y4, y5, rfl, h1, h2⟩, e2⟩ := hP
      have hi' : i < n := by omega
      obtain ⟨c1, c2⟩ := lev_cnt n hn i (by omega)
      obtain ⟨c3, _⟩ := lev_cnt n hn (i + 1) (by omega)
      refine q_asg (m := m0) i0 (fl_of (l := []) e2 (el_lst (K := K) (ds := []) ea_nil (Nat.zero_le _))) fun v4 H3 e3 h4 => ?_
      have h2' := fl_rl e3.ex0 h2
      obtain ⟨p2, xs2, rfl, hp2, hp23, hx2⟩ := h2'
      refine q_forL (m := m0) (K := K) (C := fun v _ => v = .ref p2) i0 (ev_var rfl) fun v H4 e4 hv => ?_
      subst hv
      have hp24 := e4.ex0 _ _ hp23
      have hx24 := hx2.rl e4
      have hxl : xs2.length = (lev n i).length := by rw [hx2.length, List.length_map]
      refine ⟨p2, xs2, rfl, hp24, fun j σ H' => (∃ v4 y5, σ = [some (.int (n : Nat)), some v1, some (.ref p2), some (.int (i : Nat)), some v4, y5, none] ∧ FL (((lev n i).take j).flatMap (ext1 n)) v4 H') ∧ Ex H4 H', ⟨⟨v4, _, rfl, fl_rl e4.ex0 h4⟩, Ex.refl _⟩, fun j σ H' _ hP => hP.2 _ _ hp24, fun j x σ H' hx hP => ?_, fun σ H' hP => ?_⟩
      · obtain ⟨⟨v4, y5, rfl, h4⟩, e5⟩ := hP
        have e25 := (e3.ex0.trans e4.ex0).trans e5
        obtain ⟨d, hd, hrx⟩ := hx24.get' hx
        rw [List.getElem?_map] at hd
        obtain ⟨lot, hlot, rfl⟩ := Option.map_eq_some_iff.mp hd
        obtain ⟨l1, l2⟩ := lev_len n hn i (by omega) lot (List.mem_of_getElem? hlot)
        have hrx := hrx.tk' e5.tk
        have hjl : j < (lev n i).length := (List.getElem?_eq_some_iff.mp hlot).1
        have etk : ((lev n i).take (j + 1)).flatMap (ext1 n) = ((lev n i).take j).flatMap (ext1 n) ++ ext1 n lot := by
          rw [List.take_add_one, hlot]
          simp
        have hcount : (((lev n i).take j).flatMap (ext1 n)).length ≤ 64 * 6 := by
          have : ∀ l : List (List Nat), (l.flatMap (ext1 n)).length ≤ l.length * 6 := fun l => by
            induction l with
            | nil => exact Nat.zero_le _
            | cons a l ih =>
              rw [List.flatMap_cons, List.length_append, List.length_cons]
              have := ext1_len n a
              omega
          have a1 := this ((lev n i).take j)
          rw [List.length_take] at a1
          omega
        show tAsg _ _ _ _ _
        let lo : Nat := match lot.getLast? with | none => 0 | some k => k + 1
        have hlo : lo ≤ 6 := by
          show (match lot.getLast? with | none => 0 | some k => k + 1) ≤ 6
          cases hg : lot.getLast? with
          | none => exact Nat.zero_le _
          | some k => exact l2 k (List.mem_of_getLast? hg)
        have hext : ext1 n lot = (List.range (n - lo)).map fun j => lot ++ [lo + j] := rfl
        refine s_asg (m := m0) i0 (fl_of (l := ((lev n i).take j).flatMap (ext1 n) ++ ext1 n lot) (e2.trans e25) ?_) fun v H6 e6 hv => ?_
        · rw [List.map_append]
          refine el_cat (K := K) (eq_var rfl (fl_lq h4)) (EL.eq ?_) (by rw [List.length_map, List.length_map]; have := ext1_len n lot; omega)
          have hA : ED K m0 (tIf (tTest (tOp (rNeD K) (tVar 5) (tTup tNil))) (tOp (rI0 fun i j => .int (i + j)) (tOp (rIxT K) (tVar 5) (tUn (rU fun i => .int (-i)) (tC (.int 1)))) (tC (.int 1))) (tC (.int 0))) [some (.int (n : Nat)), some v1, some (.ref p2), some (.int (i : Nat)), some v4, some x, none] H' (.int (lo : Nat)) := by
            refine ed_if (b := !decide (lot = [])) (et_test (ed_is (ed_neD (ed_var rfl hrx) (ed_tup (K := K) (ds := []) ea_nil (Nat.zero_le _)) (Nat.le_trans (depth_dT _) (by decide)) (by decide)) (by show PyData.bool (!PyData.eqv (dN lot) (dN [])) = _; rw [eqv_dN]))) (fun hb => ?_) (fun hb => ?_)
            · have hne : lot ≠ [] := by simpa using hb
              obtain ⟨l0, kk, rfl⟩ : ∃ l0 kk, lot = l0 ++ [kk] := ⟨lot.dropLast, lot.getLast hne, (List.dropLast_concat_getLast hne).symm⟩
              have elo : lo = kk + 1 := by
                show (match (l0 ++ [kk]).getLast? with | none => 0 | some k => k + 1) = kk + 1
                rw [List.getLast?_concat]
              rw [elo]
              exact ed_is (ed_I0 (g := fun i j => i + j) (ed_ixTl (n := l0.length) (d := .int (kk : Nat)) (ed_var rfl hrx) (ed_neg1 (K := K)) (by rw [lot_len, List.length_append]; rfl) (by rw [iN_map, List.getElem?_map, List.getElem?_append_right (Nat.le_refl _), Nat.sub_self]; rfl)) ed_int) (by norm_cast)
            · have hne : lot = [] := by simpa using hb
              subst hne
              exact ed_int
          have hw := ew_rng2 (K := K) (m := m0) (H := H') (σ := [some (.int (n : Nat)), some v1, some (.ref p2), some (.int (i : Nat)), some v4, some x, none]) (lo := (lo : Nat)) (n := (n : Nat)) (ea_two hA (ed_var (i := 0) rfl (.int _))) (by omega)
          have en : ((n : Int) - (lo : Int)).toNat = n - lo := by omega
          rw [en] at hw
          have hlc := el_lc (K := K) (tt := tYes) (te := tOp (rCatA K) (tVar 5) (tTup (tCons (tVar 6) tNil))) (j := 6) (fun _ => true) (fun i => dN (lot ++ [lo + i])) hw (by omega) (fun i x H1 hi r y => et_yes) (fun i x H1 hi r y _ => by
              have ex : x = .int (((lo + i : Nat)) : Int) := by
                rw [y]
                congr 1
              subst ex
              exact ed_is (ed_cat (K := K) (es := [.int ((lo + i : Nat) : Int)]) (ed_var rfl (hrx.rl r)) (ed_tup (K := K) (ea_one (ed_var rfl (.int _))) (by show 1 ≤ 100000; decide)) (by rw [lot_len]; show lot.length + 1 ≤ 100000; omega)) (by
                show PyData.tuple _ = dT (iN (lot ++ [lo + i]))
                unfold dT iN
                rw [List.map_append, List.map_append]
                rfl))
          rw [kept_all] at hlc
          rw [hext, List.map_map]
          exact hlc
        · refine ⟨⟨v, _, rfl, ?_⟩, e5.trans e6.ex0⟩
          rw [etk]
          exact hv
      · obtain ⟨⟨v4, y5, rfl, h4⟩, e5⟩ := hP
        rw [hxl, List.take_length] at h4
        have e25 := (e3.ex0.trans e4.ex0).trans e5
        have h1' := fl_rl e25 h1
        show tPar _ _ _ _ _ _
        refine s_par (m := m0) i0 (eg_cons (fl_of (l := (List.range (i + 1 + 1)).flatMap (lev n)) (e2.trans e25) (by
          have er : (List.range (i + 1 + 1)).flatMap (lev n) = (List.range (i + 1)).flatMap (lev n) ++ (lev n i).flatMap (ext1 n) := by
            rw [List.range_succ, List.flatMap_append, List.flatMap_singleton]
            rfl
          rw [er, List.map_append]
          refine el_cat (K := K) (eq_var rfl (fl_lq h1')) (eq_var rfl (fl_lq h4)) ?_
          rw [List.length_map, List.length_map]
          have : ((lev n i).flatMap (ext1 n)).length ≤ 64 := c3
          omega)) (fun v A B r h => fl_rl r.ex0 h) (eg_one (P1 := fun v B => v = v4) (ev_var rfl))) fun vs H6 e6 hvs => ?_
        obtain ⟨v1', _, rfl, h1'', _, rfl, rfl⟩ := hvs
        exact ⟨_, _, rfl, ⟨v1', _, _, _, _, rfl, h1'', fl_rl e6.ex0 h4⟩, e2.trans (e25.trans e6.ex0)⟩
    · obtain ⟨⟨v1, v2, y3, y4, y5, rfl, h1, h2⟩, e2⟩ := hP
      rw [Int.toNat_natCast] at h1
      obtain ⟨p, xs, rfl, a1, a2, a3⟩ := h1
      exact ⟨_, rfl, q _ H2 e2 ⟨p, xs, rfl, a1, a2, a3⟩⟩
end
end PT

set_option Elab.async false
set_option linter.all false
set_option maxRecDepth 100000
set_option maxHeartbeats 4000000
namespace PT
open PySem PySem.Spec PyProof.Rows L2
def allEq (ns : List Int) : Bool := ns.all fun a => ns.all fun b => a == b
theorem allEq_iff {ns : List Int} : allEq ns = true ↔ ∀ a ∈ ns, ∀ b ∈ ns, a = b := by
  unfold allEq
  simp [List.all_eq_true]
def isPl (n : Nat) (r : Tb) (lot : List Nat) : Bool := (List.range n).all fun z => decide (z ∈ lot) || (allEq (lot.map (r z)) && allEq (lot.map fun x => r x z))
section
variable {K : PySem.W.Frag} {m : Md} {σ : L2.St} {H H' : Hp} {ta tb te : TE}
theorem et_lenSet {ns : List Int} (h : EQ K m te σ H (ns.map .int)) (hl : ns.length ≤ 4000) : ET m (tTest (tOp (rI0 fun i j => .bl (decide (i > j))) (tLenSet K te) (tC (.int 1)))) σ H (!allEq ns) := fun H1 e Q q => h H1 e _ fun v H2 e2 p => by
  obtain ⟨a, xs, rfl, _, h1, h2⟩ := p
  have e3 := h2.ints_inv
  subst e3
  refine ⟨a, ns, rfl, .inl (.inl h1), hl, fun n hn => ⟨(n : Int), 1, rfl, rfl, decide ((n : Int) > 1), rfl, ?_⟩⟩
  have : decide ((n : Int) > 1) = !allEq ns := by
    cases hb : allEq ns with
    | true =>
      have := hn.mpr (allEq_iff.mp hb)
      rw [Bool.not_true, decide_eq_false_iff_not]
      omega
    | false =>
      have : ¬ n ≤ 1 := fun z => by
        rw [allEq_iff.mpr (hn.mp z)] at hb
        cases hb
      rw [Bool.not_false, decide_eq_true_eq]
      omega
  rw [this]
  exact q H2 e2
theorem q_range {n : Nat} {r : Tb} : ((List.range n).map (dRow n r)).length = n := by rw [List.length_map, List.length_range]
end
section
variable {P : Program} {w : World} {K : PySem.W.Frag} {mg : Str → Option Value} {base : Heap}
/-! ### _law_is_piece -/
def sp_law_is_piece (K : PySem.W.Frag) : Sp := SpF K LtOk (fun a => [dRows a.n a.r, dN a.lot]) (fun a => .bool (isPl a.n a.r a.lot))
theorem ok_law_is_piece {f : Addr} {fd : FuncData} (B : Bt mg) (F : Fun K "_law_is_piece" "_law_is_piece" s_law_is_piece f fd) : FnOk P w K mg base CX0 1 f fd P_law_is_piece (sp_law_is_piece K) := by
  have m_len := B.len_
  have m_set := B.set_
  have m_range := B.range_
  refine F.ok sc_law_is_piece (fun vs H Q E h => ?_) (fun cdv A outer s H vs Q E hr h => ?_)
  · obtain ⟨x, _, ha, _⟩ := h
    exact ha.length
  · obtain ⟨⟨n, r, lot⟩, ⟨hn, hl, hlt⟩, ha, q⟩ := h
    obtain ⟨v0, v1, rfl, h0, h1⟩ := ha.inv2
    refine ⟨_, (pss_cons (ps_for PassesOwn.never rfl (pi_range1 (by rfl) m_range (pa_cons (pe_callB (r := rLenS K) call_len_seq (by rfl) m_len PySem.boot_len (pa_cons (pv 0) pa_nil)) pa_nil)) (pg_name (i := 2) sc_law_is_piece.nd rfl (Or.inr rfl)) (pss_one (ps_if (pt_cmpR (r := rIn K true) op_notIn_seq (pv 2) (pv 1) (by rfl)) (pss_one (ps_if (PW.pt (pw_or (pt_cmpR op_gt (pe_lenSetK (K := K) (by rfl) m_len (by rfl) m_set (pe_lc (own := [("_law_x", 3)]) rfl sc_law_is_piece.nd (pi_tupK (K := K) (pv 1)) (blkOk_by (N := N_law_is_piece) (sc := (defScope s_law_is_piece)) (by decide +kernel)) (fun _ _ _ _ _ => (pg_name (i := 3) sc_law_is_piece.nd rfl (Or.inl rfl))) (fun _ _ _ _ _ => pts_nil) (fun _ _ _ _ _ => (pe_ix (r := rIxT K) ix_tup (pe_ix (r := rIxT K) ix_tup (pv 0) (pv 2) (fun _ _ => rfl)) (pv 3) (fun _ _ => rfl))))) pe_int (nomark _)) (pw_or1 (pt_cmpR op_gt (pe_lenSetK (K := K) (by rfl) m_len (by rfl) m_set (pe_lc (own := [("_law_x", 3)]) rfl sc_law_is_piece.nd (pi_tupK (K := K) (pv 1)) (blkOk_by (N := N_law_is_piece) (sc := (defScope s_law_is_piece)) (by decide +kernel)) (fun _ _ _ _ _ => (pg_name (i := 3) sc_law_is_piece.nd rfl (Or.inl rfl))) (fun _ _ _ _ _ => pts_nil) (fun _ _ _ _ _ => (pe_ix (r := rIxT K) ix_tup (pe_ix (r := rIxT K) ix_tup (pv 0) (pv 3) (fun _ _ => rfl)) (pv 2) (fun _ _ => rfl))))) pe_int (nomark _))))) (pss_one (ps_ret pe_bl)) pss_nil)) pss_nil)))
      (pss_one (ps_ret pe_bl))), ?_⟩
    have hn : n ≤ 64 := hn
    have hl : lot.length ≤ 64 := hl
    have hlt : ∀ x ∈ lot, x < n := hlt
    have h0 : Rp K H v0 (dRows n r) := h0
    have h1 : Rp K H v1 (dN lot) := h1
    refine q_forR1 (m := m0) (K := K) (n := (n : Nat)) i0 (ea_one (ed_is (ed_lenT (ed_var rfl h0)) (by rw [q_range]))) (by omega)
      (fun i σ H' => (∃ y2 y3, σ = [some v0, some v1, y2, y3]) ∧ Ex H H' ∧ (List.range i).all (fun z => decide (z ∈ lot) || (allEq (lot.map (r z)) && allEq (lot.map fun x => r x z))) = true)
      (fun H2 e2 => ⟨⟨none, none, rfl⟩, e2.ex0, rfl⟩) (fun z σ H2 hz hP => ?_) fun σ H2 hP => ?_
    · obtain ⟨⟨y2, y3, rfl⟩, e2, hf⟩ := hP
      have hz' : z < n := by omega
      have hh1 := h1.tk' e2.tk
      show tIfS _ _ _ _ _ _
      refine s_if (m := m0) i0 (et_test (K := K) (ed_niT (ns := iN lot) (ed_var rfl (.int _)) (ed_var rfl hh1))) (fun hb H3 e3 => ?_) (fun hb H3 e3 => ?_)
      · have hm : z ∉ lot := fun hm => by
          rw [decide_eq_true (iN_mem.mpr hm)] at hb
          cases hb
        have g1 := hh1.rl e3
        have g0 := (h0.tk' e2.tk).rl e3
        have comp : ∀ (te : TE) (gx : Nat → Int), (∀ (x : Nat) H4, x ∈ lot → Ex H3 H4 → ED K m0 te [some v0, some v1, some (.int (z : Nat)), some (.int (x : Nat))] H4 (.int (gx x))) → EQ K m0 (tLc (iTup K (tVar 1)) (gName 3) tYes te [3]) [some v0, some v1, some (.int (z : Nat)), y3] H3 ((lot.map gx).map .int) := fun te gx h => by
          have hw := ew_tup (K := K) (m := m0) (tl := tVar 1) (σ := [some v0, some v1, some (.int (z : Nat)), y3]) (H := H3) (ed_var rfl g1)
          rw [iN_map] at hw
          have hc := el_lcD (K := K) (m := m0) (j := 3) (tt := tYes) (te := te) (l := lot) (fun y : Nat => PyData.int ((y : Nat) : Int)) (fun _ => true) (fun x => .int (gx x)) hw (by omega) (fun a x H4 ha e p => et_yes) (fun a x H4 ha e p _ => by
            have p := p.int_inv
            subst p
            exact h a H4 ha e.ex0)
          rw [List.filter_eq_self.mpr (fun _ _ => rfl)] at hc
          rw [List.map_map]
          exact hc.eq
        show tIfS _ _ _ _ _ _
        refine s_if (m := m0) i0 (et_or (et_lenSet (K := K) (ns := lot.map (r z)) (comp _ (r z) fun x H4 hx e => ed_rows (ed_var rfl (g0.tk' e.tk)) (ed_var rfl (.int _)) (ed_var rfl (.int _)) hz' (hlt x hx)) (by rw [List.length_map]; omega)) fun _ => et_lenSet (K := K) (ns := lot.map fun x => r x z) (comp _ (fun x => r x z) fun x H4 hx e => ed_rows (ed_var rfl (g0.tk' e.tk)) (ed_var rfl (.int _)) (ed_var rfl (.int _)) (hlt x hx) hz') (by rw [List.length_map]; omega)) (fun hb2 H4 e4 => ?_) (fun hb2 H4 e4 => ?_)
        · refine s_ret (m := m0) (P := fun _ v H2 => Rp K H2 v (.bool false)) i0 (Ev.edb ev_c) fun v H5 e5 p => q v H5 (((e2.trans e3.ex0).trans e4.ex0).trans e5.ex0) ?_
          have hfin : isPl n r lot = false := by
            unfold isPl
            rw [List.all_eq_false]
            refine ⟨z, List.mem_range.mpr hz', ?_⟩
            rw [decide_eq_false hm, Bool.false_or]
            intro h
            rw [Bool.and_eq_true] at h
            rw [h.1, h.2] at hb2
            cases hb2
          show Rp K H5 v (.bool (isPl n r lot))
          rw [hfin]
          exact p
        · refine ⟨⟨_, _, rfl⟩, (e2.trans e3.ex0).trans e4.ex0, ?_⟩
          rw [range_all_succ _ hf, decide_eq_false hm, Bool.false_or]
          rw [← Bool.not_and] at hb2
          simpa using hb2
      · have hm : z ∈ lot := by
          have : decide (((z : Nat) : Int) ∈ iN lot) = true := by simpa using hb
          exact iN_mem.mp (of_decide_eq_true this)
        refine ⟨⟨_, _, rfl⟩, e2.trans e3.ex0, ?_⟩
        rw [range_all_succ _ hf, decide_eq_true hm]
        rfl
    · obtain ⟨⟨y2, y3, rfl⟩, e2, hf⟩ := hP
      rw [Int.toNat_natCast] at hf
      refine s_ret (m := m0) (P := fun _ v H2 => Rp K H2 v (.bool true)) i0 (Ev.edb ev_c) fun v H5 e5 p => q v H5 (e2.trans e5.ex0) ?_
      show Rp K H5 v (.bool (isPl n r lot))
      unfold isPl
      rw [hf]
      exact p
/-! ### _law_telling -/
def sp_law_telling (K : PySem.W.Frag) : Sp := SpF K LtOk (fun a => [dRows a.n a.r, dN a.lot]) (fun a => dTold (told a.n a.r a.lot))
theorem ok_law_telling {f : Addr} {fd : FuncData} (B : Bt mg) (F : Fun K "_law_telling" "_law_telling" s_law_telling f fd) : FnOk P w K mg base CX0 1 f fd P_law_telling (sp_law_telling K) := by
  have m_len := B.len_
  have m_enumerate := B.enumerate_
  have m_range := B.range_
  refine F.ok sc_law_telling (fun vs H Q E h => ?_) (fun cdv A outer s H vs Q E hr h => ?_)
  · obtain ⟨x, _, ha, _⟩ := h
    exact ha.length
  · obtain ⟨⟨n, r, lot⟩, ⟨hn, hl, hlt⟩, ha, q⟩ := h
    obtain ⟨v0, v1, rfl, h0, h1⟩ := ha.inv2
    refine ⟨_, (pss_cons (ps_for PassesOwn.never rfl (pi_range1 (by rfl) m_range (pa_cons (pe_callB (r := rLenS K) call_len_seq (by rfl) m_len PySem.boot_len (pa_cons (pv 0) pa_nil)) pa_nil)) (pg_name (i := 2) sc_law_telling.nd rfl (Or.inl rfl)) (pss_one (ps_if (pt_cmpR (r := rIn K true) op_notIn_seq (pv 2) (pv 1) (by rfl)) (pss_one (ps_for PassesOwn.never rfl (pi_enumT (by rfl) m_enumerate (pa_cons (pv 1) pa_nil)) (pg_tup rfl (pgs_cons (pg_name (i := 3) sc_law_telling.nd rfl (Or.inl rfl)) (pgs_cons (pg_name (i := 4) sc_law_telling.nd rfl (Or.inl rfl)) pgs_nil))) (pss_one (ps_for PassesOwn.never rfl (pi_tupK (K := K) (pe_slice (r := rSlA K) sl_tupA (pv 1) (po_some (pe_op op_add (pv 3) pe_int)) po_none)) (pg_name (i := 5) sc_law_telling.nd rfl (Or.inl rfl)) (pss_one (ps_if (PW.pt (pw_or (pt_cmpR op_ne (pe_ix (r := rIxT K) ix_tup (pe_ix (r := rIxT K) ix_tup (pv 0) (pv 2) (fun _ _ => rfl)) (pv 4) (fun _ _ => rfl)) (pe_ix (r := rIxT K) ix_tup (pe_ix (r := rIxT K) ix_tup (pv 0) (pv 2) (fun _ _ => rfl)) (pv 5) (fun _ _ => rfl)) (nomark _)) (pw_or1 (pt_cmpR op_ne (pe_ix (r := rIxT K) ix_tup (pe_ix (r := rIxT K) ix_tup (pv 0) (pv 4) (fun _ _ => rfl)) (pv 2) (fun _ _ => rfl)) (pe_ix (r := rIxT K) ix_tup (pe_ix (r := rIxT K) ix_tup (pv 0) (pv 5) (fun _ _ => rfl)) (pv 2) (fun _ _ => rfl)) (nomark _))))) (pss_one (ps_ret (pe_tup (pa_cons (pv 2) (pa_cons (pv 4) (pa_cons (pv 5) pa_nil)))))) pss_nil)))))) pss_nil)))
      (pss_one (ps_ret pe_non))), ?_⟩
    have hn : n ≤ 64 := hn
    have hl : lot.length ≤ 64 := hl
    have hlt : ∀ x ∈ lot, x < n := hlt
    have h0 : Rp K H v0 (dRows n r) := h0
    have h1 : Rp K H v1 (dN lot) := h1
    refine q_forR1 (m := m0) (K := K) (n := (n : Nat)) i0 (ea_one (ed_is (ed_lenT (ed_var rfl h0)) (by rw [q_range]))) (by omega)
      (fun i σ H' => (∃ y2 y3 y4 y5, σ = [some v0, some v1, y2, y3, y4, y5]) ∧ Ex H H' ∧ (List.range i).findSome? (fun z => if z ∈ lot then none else tz r lot z) = none)
      (fun H2 e2 => ⟨⟨none, none, none, none, rfl⟩, e2.ex0, rfl⟩) (fun z σ H2 hz hP => ?_) fun σ H2 hP => ?_
    · obtain ⟨⟨y2, y3, y4, y5, rfl⟩, e2, hf⟩ := hP
      have hz' : z < n := by omega
      have hh1 : Rp K H2 v1 (dN lot) := h1.tk' e2.tk
      show tIfS _ _ _ _ _ _
      refine s_if (m := m0) i0 (et_test (K := K) (ed_niT (ns := iN lot) (ed_var rfl (.int _)) (ed_var rfl hh1))) (fun hb H3 e3 => ?_) (fun hb H3 e3 => ?_)
      · have hm : z ∉ lot := fun hm => by
          rw [decide_eq_true (iN_mem.mpr hm)] at hb
          cases hb
        show tFor _ _ _ _ _ _
        refine s_forE (m := m0) (K := K) i0 (ea_one (ed_var rfl (hh1.rl e3))) fun H4 e4 => ?_
        refine ⟨fun i σ H' => (∃ y3 y4 y5, σ = [some v0, some v1, some (.int (z : Nat)), y3, y4, y5]) ∧ Ex H4 H' ∧
          (List.range i).findSome? (fun i => (lot.drop (i + 1)).findSome? fun y => if ap r z (lot.getD i 0) y = true then some (z, lot.getD i 0, y) else none) = none, ⟨⟨_, _, _, rfl⟩, Ex.refl _, rfl⟩, fun i σ H' _ hP => hP.2.1.tk, fun i x d σ H' H'' hd ee hx hP => ?_, fun σ H' hP => ?_⟩
        · obtain ⟨⟨y3, y4, y5, rfl⟩, e5, hf2⟩ := hP
          obtain ⟨t, ht, rfl⟩ := lot_at hd
          have hti : i < lot.length := (List.getElem?_eq_some_iff.mp ht).1
          have etd : lot.getD i 0 = t := by
            rw [List.getD_eq_getElem?_getD, ht]
            rfl
          have htn : t < n := hlt t (List.mem_of_getElem? ht)
          have e6 : Ex H H'' := (((e2.trans e3.ex0).trans e4.ex0).trans e5).trans ee
          refine g_two hx fun v5 v6 p5 p6 => ?_
          have h51 := p5.int_inv
          have h61 := p6.int_inv
          subst h51 h61
          have k1 : Rp K H'' v1 (dN lot) := h1.tk' e6.tk
          show tFor _ _ _ _ _ _
          refine s_forT (m := m0) (ds := (iN (lot.drop (i + 1))).map .int) i0 (ed_is (ed_slT (i := i + 1) (ed_var rfl k1) (eo_some (K := K) (ed_is (ed_I0 (g := fun i j => i + j) (ed_var rfl (.int _)) ed_int) rfl)) eo_none) (by rw [← lot_drop])) fun H5 e7 => ?_
          refine ⟨fun j σ H' => (∃ y7, σ = [some v0, some v1, some (.int (z : Nat)), some (.int (i : Nat)), some (.int (t : Nat)), y7]) ∧ Ex H5 H' ∧
            ((lot.drop (i + 1)).take j).findSome? (fun y => if ap r z t y = true then some (z, t, y) else none) = none, ⟨⟨_, rfl⟩, Ex.refl _, by rw [List.take_zero]; rfl⟩, fun j σ H' _ hP => hP.2.1.tk, fun j x d σ H' hd hx hP => ?_, fun σ H' hP => ?_⟩
          · obtain ⟨⟨y7, rfl⟩, e8, hf3⟩ := hP
            obtain ⟨y, hy, rfl⟩ := lot_at hd
            have hyn : y < n := hlt y (List.mem_of_mem_drop (List.mem_of_getElem? hy))
            have hx2 := hx.int_inv
            subst hx2
            have e9 : Ex H H' := (e6.trans e7.ex0).trans e8
            have l3 : ∀ {H6}, Rl m0 H' H6 → Rp K H6 v0 (dRows n r) := fun rr => (h0.tk' e9.tk).rl rr
            have lr : Rp K H' v0 (dRows n r) := h0.tk' e9.tk
            show tIfS _ _ _ _ _ _
            refine s_if (m := m0) (b := ap r z t y) i0 (et_or (et_test (K := K) (ed_neI (ed_rows (ed_var rfl lr) (ed_var rfl (.int _)) (ed_var rfl (.int _)) hz' htn) (ed_rows (ed_var rfl lr) (ed_var rfl (.int _)) (ed_var rfl (.int _)) hz' hyn))) fun _ => et_test (K := K) (ed_neI (ed_rows (ed_var rfl lr) (ed_var rfl (.int _)) (ed_var rfl (.int _)) htn hz') (ed_rows (ed_var rfl lr) (ed_var rfl (.int _)) (ed_var rfl (.int _)) hyn hz'))) (fun hb H6 e10 => ?_) (fun hb H6 e10 => ?_)
            · refine s_ret (m := m0) i0 (ed_tup (K := K) (ea_three (ed_var rfl (.int _)) (ed_var rfl (.int _)) (ed_var rfl (.int _))) (by show 3 ≤ 100000; decide)) fun v H7 e11 p => ?_
              refine q v H7 ((e9.trans e10.ex0).trans e11.ex0) ?_
              have hfin : told n r lot = some (z, t, y) := by
                refine find_pre _ hz' hf ?_
                rw [if_neg hm]
                refine find_pre _ hti hf2 ?_
                rw [etd]
                refine findl_pre _ _ hy hf3 ?_
                rw [if_pos hb]
              show Rp K H7 v (dTold (told n r lot))
              rw [hfin]
              exact p
            · refine ⟨⟨_, rfl⟩, e8.trans e10.ex0, ?_⟩
              rw [findl_succ _ _ hy hf3, if_neg (by rw [hb]; decide)]
          · obtain ⟨⟨y7, rfl⟩, e8, hf3⟩ := hP
            rw [lot_len, List.take_length] at hf3
            refine ⟨⟨_, _, _, rfl⟩, (e5.trans ee).trans (e7.ex0.trans e8), ?_⟩
            rw [find_succ _ hf2, etd]
            exact hf3
        · obtain ⟨⟨y3, y4, y5, rfl⟩, e5, hf2⟩ := hP
          rw [lot_len] at hf2
          refine ⟨⟨_, _, _, _, rfl⟩, ((e2.trans e3.ex0).trans e4.ex0).trans e5, ?_⟩
          rw [find_succ _ hf, if_neg hm]
          exact hf2
      · have hm : z ∈ lot := by
          have : decide (((z : Nat) : Int) ∈ iN lot) = true := by simpa using hb
          exact iN_mem.mp (of_decide_eq_true this)
        refine ⟨⟨_, _, _, _, rfl⟩, e2.trans e3.ex0, ?_⟩
        rw [find_succ _ hf, if_pos hm]
    · obtain ⟨⟨y2, y3, y4, y5, rfl⟩, e2, hf⟩ := hP
      rw [Int.toNat_natCast] at hf
      refine s_ret (m := m0) i0 (ed_non (K := K)) fun v H3 e3 p => q v H3 (e2.trans e3.ex0) ?_
      show Rp K H3 v (dTold (told n r lot))
      rw [show told n r lot = none from hf]
      exact p
/-! ### _law_first_told -/
def iT (t : Nat × Nat × Nat) : List Int := [(t.1 : Int), (t.2.1 : Int), (t.2.2 : Int)]
def tl3 (t : Nat × Nat × Nat) : List Nat := [t.1, t.2.1, t.2.2]
theorem lexN_trans : ∀ a b c : List Nat, lexN a b = true → lexN b c = true → lexN a c = true
  | [], [], _, h, _ => by cases h
  | [], _ :: _, [], _, h => by cases h
  | [], _ :: _, _ :: _, _, _ => rfl
  | _ :: _, [], _, h, _ => by cases h
  | _ :: _, _ :: _, [], _, h => by cases h
  | x :: a, y :: b, z :: c, h1, h2 => by
    unfold lexN at h1 h2 ⊢
    by_cases e1 : x = y
    · subst e1
      rw [if_pos rfl] at h1
      by_cases e2 : x = z
      · rw [if_pos e2] at h2 ⊢
        exact lexN_trans a b c h1 h2
      · rw [if_neg e2] at h2 ⊢
        exact h2
    · rw [if_neg e1] at h1
      have h1 := of_decide_eq_true h1
      by_cases e2 : y = z
      · subst e2
        rw [if_neg e1]
        exact decide_eq_true h1
      · rw [if_neg e2] at h2
        have h2 := of_decide_eq_true h2
        rw [if_neg (by omega)]
        exact decide_eq_true (by omega)
theorem tl3_inj {x y : Nat × Nat × Nat} (h : tl3 x = tl3 y) : x = y := by
  obtain ⟨a, b, c⟩ := x
  obtain ⟨d, e, f⟩ := y
  have h' : [a, b, c] = [d, e, f] := h
  injection h' with h1 h
  injection h with h2 h
  injection h with h3 _
  rw [h1, h2, h3]
def leT (x y : Nat × Nat × Nat) : Prop := y = x ∨ (lexN (tl3 x) (tl3 y) = true ∧ lexN (tl3 y) (tl3 x) = false)
theorem leT_tot (x y : Nat × Nat × Nat) : leT x y ∨ leT y x := by
  cases h1 : lexN (tl3 x) (tl3 y) with
  | true => exact .inl (.inr ⟨h1, lexN_asy _ _ h1⟩)
  | false =>
    cases h2 : lexN (tl3 y) (tl3 x) with
    | true => exact .inr (.inr ⟨h2, h1⟩)
    | false => exact .inl (.inl (tl3_inj (lexN_tri _ _ h1 h2)).symm)
theorem leT_trans {x y z : Nat × Nat × Nat} (h1 : leT x y) (h2 : leT y z) : leT x z := by
  rcases h1 with rfl | ⟨a1, _⟩
  · exact h2
  · rcases h2 with rfl | ⟨b1, _⟩
    · exact .inr ⟨a1, lexN_asy _ _ a1⟩
    · have := lexN_trans _ _ _ a1 b1
      exact .inr ⟨this, lexN_asy _ _ this⟩
theorem leT_anti {x y : Nat × Nat × Nat} (h1 : leT x y) (h2 : leT y x) : x = y := by
  rcases h1 with rfl | ⟨a1, a2⟩
  · rfl
  · rcases h2 with rfl | ⟨b1, b2⟩
    · rfl
    · rw [b1] at a2
      cases a2
theorem leastT : ∀ l : List (Nat × Nat × Nat), l ≠ [] → ∃ x ∈ l, ∀ y ∈ l, leT x y
  | [], h => absurd rfl h
  | [x], _ => ⟨x, List.mem_cons_self, fun y hy => by
    rw [List.mem_singleton.mp hy]
    exact .inl rfl⟩
  | x :: y :: l, _ => by
    obtain ⟨m, hm, hl⟩ := leastT (y :: l) (List.cons_ne_nil _ _)
    rcases leT_tot x m with h | h
    · refine ⟨x, List.mem_cons_self, fun z hz => ?_⟩
      rcases List.mem_cons.mp hz with rfl | hz
      · exact .inl rfl
      · exact leT_trans h (hl z hz)
    · refine ⟨m, List.mem_cons_of_mem _ hm, fun z hz => ?_⟩
      rcases List.mem_cons.mp hz with rfl | hz
      · exact h
      · exact hl z hz
/-- the least of what the tables tell -/
def FirstT (n : Nat) (ts : List Tb) (lot : List Nat) : Option (Nat × Nat × Nat) → Prop
  | none => ∀ t ∈ ts, told n t lot = none
  | some x => (∃ t ∈ ts, told n t lot = some x) ∧ ∀ t ∈ ts, ∀ y, told n t lot = some y → leT x y
structure XTl where
  n : Nat
  ts : List Tb
  lot : List Nat
def sp_law_first_told (K : PySem.W.Frag) : Sp := SpR K (α := XTl) (fun a => a.n ≤ 64 ∧ a.lot.length ≤ 64 ∧ (∀ x ∈ a.lot, x < a.n) ∧ a.ts.length ≤ 1000) (fun a => [dTs a.n a.ts, dN a.lot]) (fun a d => ∃ o, d = dTold o ∧ FirstT a.n a.ts a.lot o)
theorem ok_law_first_told {f f1 : Addr} {fd fd1 : FuncData} (B : Bt mg) (F : Fun K "_law_first_told" "_law_first_told" s_law_first_told f fd) (G_law_telling : FnOk P w K mg base CX0 1 f1 fd1 P_law_telling (sp_law_telling K)) (F_law_telling : Fun K "_law_telling" "_law_telling" s_law_telling f1 fd1) (b_law_telling : Binds K fd1 P_law_telling []) (g_law_telling : mg "_law_telling" = some (.ref f1)) :
    FnOk P w K mg base CX0 2 f fd P_law_first_told (sp_law_first_told K) := by
  have m_min := B.min_
  refine F.ok sc_law_first_told (fun vs H Q E h => ?_) (fun cdv A outer s H vs Q E hr h => ?_)
  · obtain ⟨x, _, ha, _⟩ := h
    exact ha.length
  · obtain ⟨⟨n, ts, lot⟩, ⟨hn, hl, hlt, hts⟩, ha, q⟩ := h
    obtain ⟨v0, v1, rfl, h0, h1⟩ := ha.inv2
    have hu64 := hr.units
    refine ⟨_, (pss_cons (ps_setLc (i := 2) (own := [("_law_table_here", 3)]) (by rfl) sc_law_first_told.nd rfl rfl (sw_true rfl rfl rfl (by decide +kernel)) (pi_tupK (K := K) (pv 0)) (blkOk_by (N := N_law_first_told) (sc := (defScope s_law_first_told)) (by decide +kernel)) (fun _ _ _ _ _ => (pg_name (i := 3) sc_law_first_told.nd rfl (Or.inl rfl))) (fun _ _ _ _ _ => pts_nil) (fun _ _ _ _ _ => (pe_call G_law_telling (hr.mono (by decide)) (by rfl) g_law_telling F_law_telling.kp b_law_telling .nil pass0 (pa_cons (pe_ix (r := rIxT K) ix_tup (pv 3) pe_int (fun _ _ => rfl)) (pa_cons (pv 1) pa_nil)))))
      (pss_cons (ps_setLc (i := 2) (own := [("_law_own", 4)]) (by rfl) sc_law_first_told.nd rfl rfl (sw_true rfl rfl rfl (by decide +kernel)) (pi_listK (K := K) (pv 2)) (blkOk_by (N := N_law_first_told) (sc := (defScope s_law_first_told)) (by decide +kernel)) (fun _ _ _ _ _ => (pg_name (i := 4) sc_law_first_told.nd rfl (Or.inl rfl))) (fun _ _ _ _ _ => (pts_one (pt_cmp (pc_notN (pv 4))))) (fun _ _ _ _ _ => (pv 4)))
      (pss_one (ps_ret (pe_ifExp (pt_cmpR (r := rNeD K) (op_neD hu64) (pv 2) (pe_lst pa_nil) (nomark _)) (pe_callB (r := rMinT K) (cr_minT rfl hu64) (by rfl) m_min (by decide +kernel) (pa_cons (pv 2) pa_nil)) pe_non))))), ?_⟩
    have hn : n ≤ 64 := hn
    have hl : lot.length ≤ 64 := hl
    have hlt : ∀ x ∈ lot, x < n := hlt
    have hts : ts.length ≤ 1000 := hts
    have h0 : Rp K H v0 (dTs n ts) := h0
    have h1 : Rp K H v1 (dN lot) := h1
    refine q_asg (m := m0) i0 (EL.at (el_lcD (K := K) (l := ts) (dTab n) (fun _ => true) (fun t => dTold (told n t lot)) (ew_tup (ed_var rfl h0)) (by omega) (fun t x H4 ht e p => et_yes) (fun t x H4 ht e p _ => ed_call (⟨n, t, lot⟩ : XLt) ⟨hn, hl, hlt⟩ (ea_two (ed_ixT (i := 1) (ed_var rfl p) ed_int rfl) (ed_var rfl (h1.rl e)))))) fun v2 H1 e1 h2 => ?_
    obtain ⟨p, xs, rfl, hp, hp1, hxs⟩ := h2
    rw [List.filter_eq_self.mpr (fun _ _ => rfl)] at hxs
    have em : ts.map (fun t => dTold (told n t lot)) = (ts.map fun t => told n t lot).map dTold := by
      rw [List.map_map]
      rfl
    rw [em] at hxs
    refine q_asg (m := m0) i0 (EL.at (el_lcD (K := K) (l := ts.map fun t => told n t lot) dTold (fun o => o.isSome) dTold (ew_list (eq_var rfl ⟨p, xs, rfl, fun z => z, hp1, hxs⟩)) (by rw [List.length_map]; omega) (fun o x H4 ho e p => et_B (K := K) (ed_is (ed_notN (ed_var rfl p)) (by cases o <;> rfl))) (fun o x H4 ho e p _ => ed_var rfl p))) fun v2 H2 e2 h2 => ?_
    obtain ⟨p2, xs2, rfl, hp2, hp22, hxs2⟩ := h2
    let zs := (ts.map fun t => told n t lot).filterMap id
    have ez : ((ts.map fun t => told n t lot).filter fun o => o.isSome).map dTold = (zs.map iT).map dT := by
      show _ = (((ts.map fun t => told n t lot).filterMap id).map iT).map dT
      generalize (ts.map fun t => told n t lot) = os
      induction os with
      | nil => rfl
      | cons o os ih =>
        cases o with
        | none => exact ih
        | some t =>
          rw [List.filter_cons_of_pos rfl, List.map_cons, ih]
          rfl
    have mz : ∀ {x}, x ∈ zs ↔ ∃ t ∈ ts, told n t lot = some x := fun {x} => by
      show x ∈ (ts.map fun t => told n t lot).filterMap id ↔ _
      rw [List.mem_filterMap]
      constructor
      · rintro ⟨o, ho, e⟩
        obtain ⟨t, ht, rfl⟩ := List.mem_map.mp ho
        exact ⟨t, ht, e⟩
      · rintro ⟨t, ht, e⟩
        exact ⟨_, List.mem_map.mpr ⟨t, ht, rfl⟩, e⟩
    rw [ez] at hxs2
    have hq2 : ∀ H', Ex H2 H' → Lq K m0 H' (.ref p2) ((zs.map iT).map dT) := fun H' e => ⟨p2, xs2, rfl, fun z => z, e _ _ hp22, hxs2.tk' e.tk⟩
    have hfin : EvP m0 (tIf (tTest (tOp (rNeD K) (tVar 2) (tLst tNil))) (tCB (rMinT K) (tCons (tVar 2) tNil)) (tC .non)) [some v0, some v1, some (.ref p2), none, none] H2 fun _ v B => ∃ o, Rp K B v (dTold o) ∧ FirstT n ts lot o := by
      refine ep_if (b := !PyData.eqvAll ((zs.map iT).map dT) []) (et_test (ed_neL (K := K) (eq_var rfl (hq2 _ (Ex.refl _))) (EL.eq (el_lst (K := K) (ds := []) ea_nil (Nat.zero_le _))) (Nat.le_trans (depthAll_le (n := 2) fun d hd => by
        obtain ⟨i, _, rfl⟩ := List.mem_map.mp hd
        exact depth_dT _) (by decide)) (by decide))) (fun hb => ?_) (fun hb => ?_) fun _ _ _ _ _ h => h
      · have hne : zs ≠ [] := fun z => by
          rw [z] at hb
          cases hb
        obtain ⟨x, hx, hle⟩ := leastT zs hne
        intro H3 e3 Q q
        refine ⟨.ref p2, rfl, p2, xs2, zs.map iT, iT x, rfl, .inl (.inl (e3.ex0 _ _ hp22)), hxs2.rl e3, List.mem_map.mpr ⟨x, hx, rfl⟩, fun b hb => ?_, fun w hw => q w H3 (Rl.refl trivial) ⟨some x, hw, mz.mp hx, fun t ht y hy => hle y (mz.mpr ⟨t, ht, hy⟩)⟩⟩
        obtain ⟨y, hy, rfl⟩ := List.mem_map.mp hb
        rcases hle y hy with rfl | ⟨a1, a2⟩
        · exact .inl rfl
        · refine .inr ⟨?_, ?_⟩
          · show PySem.W.listLt (iN (tl3 x)) (iN (tl3 y)) = true
            rw [lexN_listLt]
            exact a1
          · show PySem.W.listLt (iN (tl3 y)) (iN (tl3 x)) = false
            rw [lexN_listLt]
            exact a2
      · have hne : zs = [] := by
          cases hz : zs with
          | nil => rfl
          | cons a l =>
            rw [hz] at hb
            cases hb
        refine EvP.imp (ed_non (K := K)) fun A v B _ h => ⟨none, h, fun t ht => ?_⟩
        cases ho : told n t lot with
        | none => rfl
        | some x =>
          have := mz.mpr ⟨t, ht, ho⟩
          rw [hne] at this
          cases this
    exact s_ret (m := m0) i0 hfin fun v H3 e3 hv => by
      obtain ⟨o, h1, h2⟩ := hv
      exact q v H3 _ ((e1.ex0.trans e2.ex0).trans e3.ex0) ⟨o, rfl, h2⟩ h1
end
end PT

set_option Elab.async false
set_option linter.all false
set_option maxRecDepth 100000
set_option maxHeartbeats 4000000
/-! PtG: the promise of a def that calls repr: it holds where no repr is open (guards = some []). The proofs follow the layer's own for FnOk, with that one fact handed down. -/
namespace PT
open PySem PySem.Spec PyProof.Rows L2
structure FnG (P : Program) (w : World) (K : PySem.W.Frag) (mg : Str → Option Value) (base : Heap) (k : Nat) (f : Addr) (fd : FuncData) (ps : List Str) (sp : Sp) : Prop where
  len : ∀ vs H Q E, sp vs H Q E → vs.length = ps.length
  run : ∀ (A : Around) (outer : List Env) (s : Shared) (H : Hp) (args : Args) (us : List Value) (vs : List V) (Q : VK) (E : XK), A.guards = some [] → Room k A → Env0 P w K mg base A outer s H → BindsTo s fd args (ps.zip us) → Vals vs us → sp vs H Q E →
    codeAny (model P w) A (.call (.ref f) args) (CR CX0 outer P w H s Q E) s
theorem FnG.mono {P : Program} {w : World} {K : PySem.W.Frag} {mg : Str → Option Value} {base : Heap} {j k : Nat} {f : Addr} {fd : FuncData} {ps : List Str} {sp : Sp} (F : FnG P w K mg base j f fd ps sp) (h : j ≤ k) : FnG P w K mg base k f fd ps sp :=
  ⟨F.len, fun A outer s H args us vs Q E hg hr => F.run A outer s H args us vs Q E hg (hr.mono h)⟩
section
variable {P : Program} {w : World} {K : PySem.W.Frag} {mg : Str → Option Value} {base : Heap}
theorem fnG {x qual : Str} {st : Stmt} {f : Addr} {fd : FuncData} {N ps : List Str} {k : Nat} {sp : Sp} (F : L2.Fun K x qual st f fd) (S : FnScope N ps (defScope st)) (len : ∀ vs H Q E, sp vs H Q E → vs.length = ps.length)
    (hbody : ∀ (cdv : Value) (A : Around) (outer : List Env) (s : Shared) (H : Hp) (vs : List V) (Q : VK) (E : XK), A.guards = some [] → Room k (A.deeper (envOfC qual (defScope st) s.heap.objs.size f cdv)) → sp vs H Q E →
      ∃ t, PSs (cxOf CX0 P w K mg base N qual (defScope st) f cdv A outer s H E).nox (defBody st) t ∧ t { nx := fun _ H' => Q .non H', rt := Q } (start N vs) H) : FnG P w K mg base (k + 1) f fd ps sp := by
  obtain ⟨oc, od, kV, doc, pm, an, cdv, ct, osl, rfl, lk, hcd⟩ := F.ex
  refine ⟨len, fun A outer s H args us vs Q E hgd hr e0 hb r hsp => ?_⟩
  have hl := len _ _ _ _ hsp
  have KX : K.In s.heap := e0.mod.kin.keeps fun b o e => (e0.bs b o e).1
  have lim : s.heap.NoLimit := e0.mod.nolimit.keeps fun b o e => (e0.bs b o e).1
  refine codeAny_call_function hr.depth (KX _ _ lk) rfl S.co S.gen rfl (PySem.W.codeRec_of KX hcd) (hb _ _ _ _ ?_)
  refine wpAny_newFunctionEnv_cells S.kind (fun ⟨n, v⟩ hy => ?_) fun env he s1 x => ?_
  · rcases S.par n (List.of_mem_zip hy).1 with q | q
    · exact .inl q
    · exact .inr ⟨q, PySem.W.cellsFrom_some _ _ _ (.inl q)⟩
  subst he
  refine ⟨lim.keeps x.toInCall.keep, codeAny_func ?_⟩
  obtain ⟨t, ht, hq⟩ := hbody cdv A outer s H vs Q E hgd (hr.deeper _) hsp
  refine wpAny_mono (ht.nox.run [] s1 (start N vs) H _ (inv_start (CX := CX0) S hr.hd e0 hl r x) hq) (fun fl s' hs => ?_) fun e s' hs => hs
  cases fl with
  | ret u =>
    obtain ⟨v, σ', H', J, rv, q⟩ := hs
    exact ⟨v, H', J.os, J.bare, J.base, J.hok, rv, q⟩
  | next =>
    obtain ⟨σ', H', J, q⟩ := hs
    exact ⟨V.non, H', J.os, J.bare, J.base, J.hok, rfl, q⟩
  | brk =>
    obtain ⟨_, _, _, q⟩ := hs
    exact False.elim q
  | cont =>
    obtain ⟨_, _, _, q⟩ := hs
    exact False.elim q
end
section
variable {X : Cx} {x : Str} {p pos : Pos} {e : Expr} {es : List Expr} {t : TA} {k : Nat} {f : Addr} {fd : FuncData} {ps : List Str} {ds : List Value} {dvs : List V} {sp : Sp} {E : XK}
theorem pe_callG (F : FnG X.prog X.w X.K X.mg X.base k f fd ps sp) (hr : Room k X.A) (hgd : X.A.guards = some []) (hg : Gl X x) (hm : X.mg x = some (.ref f)) (hk : PySem.W.keepIn X.K (.ref f) = true) (hb : L2.Binds X.K fd ps ds) (hd : Vals dvs ds) (hx : Passes CX0 X E)
    (ha : PA X (e :: es) t) (hdb : (x == ("__debug__" : Str)) = false := by decide) (he : starEach (e :: es) X.env = (false, eval e X.env) :: starEach es X.env := by rfl) (hpl : (backTo pos (starEach es X.env)).any (·.1) = false := by rfl) :
    PE X (.Call (.Name x p) (e :: es) [] pos) (tCall sp dvs E t) := by
  refine ⟨fun pins s σ H Q I h => ?_⟩
  refine wpAny_Call_Name_kw (ld_glob I hg hm ?_ hdb)
  refine PySem.W.callWith_K (h₀ := X.base) I.ok.mod.kin hk (thn (ha.run pos pins s σ H _ I h) fun us s1 ⟨vs, H1, I1, r, q⟩ => ⟨I1.kIn, ?_⟩) he hpl
  have r2 : Vals (vs ++ dvs) (us ++ ds) := r.append hd
  have hl : (us ++ ds).length = ps.length := by
    rw [← r2.length]
    exact F.len _ _ _ _ q
  refine wpAny_call (codeAny_mono (F.run X.A X.stack s1 H1 ⟨us, []⟩ (us ++ ds) (vs ++ dvs) Q E hgd hr I1.env0 (hb s1 us I1.kIn hl) r2 q) fun r s' hq => ?_)
  cases r with
  | error e => exact hx pins σ H1 s1 e s' I1 hq
  | ok fl =>
    cases fl with
    | ret u => exact I1.after hq
    | next => exact False.elim hq
    | brk => exact False.elim hq
    | cont => exact False.elim hq
end
/-- the law's call, from a promise that needs the guards; the heap is the layer's -/
theorem law_callG {P : Program} {w : World} {K : PySem.W.Frag} {mg mb : Str → Option Value} {k : Nat} {fa a : Addr} {fd : FuncData} {x : Str} {sp : Sp} {s₁ : Shared} {vs : List Value} {ns : List Int}
    (KX : K.In s₁.heap) (hns : s₁.heap.Ns mainGlobals mg) (hb : s₁.heap.Ns builtinsNs mb) (hbb : ∀ x : Str, x ≠ "__name__" → mb x = bootBuiltins x) (hlim : s₁.heap.NoLimit) (hg : s₁.gens = #[])
    (ha : s₁.heap.get? a = some { cls := .type "list", data := .seq vs.toArray }) (hi : IntsAre vs ns) (hl : ns.length ≤ sizeLine) (hr : Room k callerA)
    (F : ∀ base : Heap, K.In base → base.Ns mainGlobals mg → FnG P w K mg base k fa fd [x] sp) (hbind : ∀ (s : Shared) (u : Value), BindsTo s fd ⟨[u], []⟩ [(x, u)])
    (hsp : ∀ H : Hp, SqL K H a (ns.map V.int) → sp [.ref a] H (fun v _ => v = .bl true) fun _ _ _ => False) :
    codeAny (model P w) callerA (.call (.ref fa) ⟨[.ref a], []⟩) (fun r s' => r = .ok (.ret (.bool true)) ∧ OldK s₁.heap s'.heap ∧ s'.os = s₁.os ∧ AllBare s'.gens) s₁ := by
  have rv := vals_ints hi
  let ob : Obj := { cls := .type "list", data := .seq vs.toArray }
  have core : ∀ H : Hp, (∀ b u, H b = some u → b = a ∧ K.lookup a = none ∧ u = .frz ob (.lst (ns.map V.int))) → SqL K H a (ns.map V.int) → HOk P w H s₁.heap →
      codeAny (model P w) callerA (.call (.ref fa) ⟨[.ref a], []⟩) (fun r s' => r = .ok (.ret (.bool true)) ∧ OldK s₁.heap s'.heap ∧ s'.os = s₁.os ∧ AllBare s'.gens) s₁ := by
    intro H hA hS hok
    have free : ∀ {b : Addr}, (b = a → False) → H b = none := fun {b} h => by
      cases q : H b with
      | none => rfl
      | some u => exact (h (hA b u q).1).elim
    have noDict : ∀ {b : Addr} {o : Obj} {es : Array DictEntry} {ep : Nat}, s₁.heap.get? b = some o → o.data = .dict es ep → H b = none := fun {b o es ep} e d => free fun z => by
      subst z
      rw [ha] at e
      cases e
      have d' : Data.seq vs.toArray 0 = Data.dict es ep := d
      cases d'
    have nsK : ∀ {b : Addr} {m : Str → Option Value}, s₁.heap.Ns b m → (hidT s₁.heap H).Ns b m := fun {b m} ⟨o, es, ep, e, d, r⟩ => ⟨o, es, ep, hidT_get e (noDict e d), d, r⟩
    have hKb : K.In (hidT s₁.heap H) := fun b o e => hidT_get (KX b o e) (by
      cases q : H b with
      | none => rfl
      | some u =>
        obtain ⟨z1, z2, _⟩ := hA b u q
        rw [z1, z2] at e
        cases e)
    have hM : Mod K mg (hidT s₁.heap H) := ⟨hKb, nsK hns, ⟨mb, nsK hb, hbb⟩, let ⟨mc, h1, h2⟩ := hlim; ⟨mc, nsK h1, h2⟩⟩
    have e0 : Env0 P w K mg (hidT s₁.heap H) callerA [] s₁ H := ⟨rfl, hM, fun b o e => of_hidT e, Nat.le_of_eq (hidT_size _ _), trivial, fun b hb => (List.not_mem_nil (show b ∈ ([] : List Addr) from hb)).elim, hok, AllBare.of_eq hg⟩
    refine codeAny_mono ((F _ hKb (nsK hns)).run callerA [] s₁ H ⟨[.ref a], []⟩ [.ref a] [.ref a] _ _ rfl hr e0 (hbind s₁ (.ref a)) (.cons rfl .nil) (hsp H hS)) fun r s' h => ?_
    cases r with
    | error e => exact False.elim h
    | ok fl =>
      cases fl with
      | next => exact False.elim h
      | brk => exact False.elim h
      | cont => exact False.elim h
      | ret u =>
        obtain ⟨v, H', os, bare, un, hok', r', q⟩ := h
        have q' : v = .bl true := q
        subst q'
        obtain rfl : u = Value.bool true := r'
        refine ⟨rfl, OldK.of_keep fun b o e => ?_, os, bare⟩
        cases q : H b with
        | none => exact un.keep b o e q (fun z => (List.not_mem_nil (show b ∈ ([] : List Addr) from z)).elim) List.not_mem_nil
        | some u =>
          obtain ⟨_, _, rfl⟩ := hA b u q
          obtain ⟨e1, _⟩ := hok b _ q
          obtain ⟨e2, _⟩ := hok' b _ (un.frzs b _ _ q)
          rw [e] at e1
          cases e1
          exact e2
  cases hk : K.lookup a with
  | some o =>
    have e := KX a o hk
    rw [ha] at e
    cases e
    exact core (fun _ => none) (fun b u z => by cases z) (.inr ⟨_, vs.toArray, _, hk, rfl, rfl, rfl, by rw [List.size_toArray, hi.length]; exact hl, by simpa using rv⟩) (fun b u z => by cases z)
  | none =>
    have at_ : ∀ b, (if b = a then some (HO.frz ob (.lst (ns.map V.int))) else none) = none ∨ b = a := fun b => by
      by_cases h : b = a
      · exact .inr h
      · exact .inl (if_neg h)
    refine core (fun b => if b = a then some (.frz ob (.lst (ns.map V.int))) else none) (fun b u z => ?_) (.inl (.inr ⟨ob, if_pos rfl⟩)) (fun b u z => ?_)
    · by_cases h : b = a
      · exact ⟨h, hk, (Option.some.inj ((if_pos h).symm.trans z)).symm⟩
      · cases (if_neg h).symm.trans z
    · by_cases h : b = a
      · have z' := Option.some.inj ((if_pos h).symm.trans z)
        subst z'
        subst h
        exact ⟨ha, by rw [List.length_map]; exact hl, vs, _, rv, ha⟩
      · cases (if_neg h).symm.trans z
theorem walk_ofG {l : PySem.W.OpenLaw} {n k : Nat} {q : Program} {loose : List Str} {XP : (Str → Option Value) → Heap → Prop} {YP : World → Heap → Prop} {d : DefRec} {K : Params → PySem.W.Frag} {sp : World → Sp} {x : Str}
    (hn : l.most = some n) (hn2 : n ≤ sizeLine) (hdf : d.params.defaults = []) (hr : Room k callerA)
    (hY : ∀ (w : World) (h : Heap), YP w h → (K w.params).In h)
    (F : ∀ (w : World) (mg : Str → Option Value) (fa : Addr) (h : Heap), (K w.params).In h → h.Ns mainGlobals mg → mg d.name = some (.ref fa) →
      ∃ fd : FuncData, (∀ (s : Shared) (u : Value), BindsTo s fd ⟨[u], []⟩ [(x, u)]) ∧ ∀ base : Heap, (K w.params).In base → base.Ns mainGlobals mg → FnG l.prog w (K w.params) mg base k fa fd [x] (sp w))
    (hsp : ∀ (w : World) (H : Hp) (a : Addr) (ns : List Int), ns.length ≤ n → SqL (K w.params) H a (ns.map V.int) → sp w [.ref a] H (fun v _ => v = .bl true) fun _ _ _ => False) :
    PySem.W.WalkO q loose XP YP l.row.toRowW d [] (fun f vs => PySem.call f vs) := by
  refine Att.attach_call hn hdf fun w s₀ s₁ mg mb fa o pm cd doc a vs ns G Y ho hd hcd hmg hobj hints hlen hg => ?_
  have KX := hY w _ Y
  obtain ⟨fd, hb, hF⟩ := F w mg fa _ KX G.T.g hmg
  exact law_callG KX G.T.g G.T.b G.T.builtins G.T.nolimit hg hobj hints (Nat.le_trans hlen hn2) hr hF hb fun H hS => hsp w H a ns hlen hS
end PT

set_option Elab.async false
set_option linter.all false
set_option maxRecDepth 100000
set_option maxHeartbeats 4000000
/-! PtN: the plain law. -/
namespace PT
open PySem PySem.Spec PyProof.Rows L2
def Pc (n : Nat) (r : Tb) (lot : List Nat) : Prop := ∀ z, z < n → z ∉ lot → ∀ x ∈ lot, ∀ y ∈ lot, r z x = r z y ∧ r x z = r y z
theorem ap_false {r : Tb} {z x y : Nat} : ap r z x y = false ↔ r z x = r z y ∧ r x z = r y z := by
  unfold ap
  rw [Bool.or_eq_false_iff, decide_eq_false_iff_not, decide_eq_false_iff_not]
  constructor
  · rintro ⟨h1, h2⟩
    exact ⟨Classical.not_not.mp h1, Classical.not_not.mp h2⟩
  · rintro ⟨h1, h2⟩
    exact ⟨fun h => h h1, fun h => h h2⟩
theorem ap_true {r : Tb} {z x y : Nat} : ap r z x y = true ↔ ¬ (r z x = r z y ∧ r x z = r y z) := by
  rw [← ap_false]
  cases ap r z x y <;> simp
theorem isPl_iff {n : Nat} {r : Tb} {lot : List Nat} : isPl n r lot = true ↔ Pc n r lot := by
  unfold isPl Pc
  rw [List.all_eq_true]
  constructor
  · intro h z hz hm x hx y hy
    have h1 := h z (List.mem_range.mpr hz)
    rw [decide_eq_false hm, Bool.false_or, Bool.and_eq_true, allEq_iff, allEq_iff] at h1
    exact ⟨h1.1 _ (List.mem_map.mpr ⟨x, hx, rfl⟩) _ (List.mem_map.mpr ⟨y, hy, rfl⟩), h1.2 _ (List.mem_map.mpr ⟨x, hx, rfl⟩) _ (List.mem_map.mpr ⟨y, hy, rfl⟩)⟩
  · intro h z hz
    have hz := List.mem_range.mp hz
    by_cases hm : z ∈ lot
    · rw [decide_eq_true hm]
      rfl
    · rw [decide_eq_false hm, Bool.false_or, Bool.and_eq_true, allEq_iff, allEq_iff]
      refine ⟨fun a ha b hb => ?_, fun a ha b hb => ?_⟩
      · obtain ⟨x, hx, rfl⟩ := List.mem_map.mp ha
        obtain ⟨y, hy, rfl⟩ := List.mem_map.mp hb
        exact (h z hz hm x hx y hy).1
      · obtain ⟨x, hx, rfl⟩ := List.mem_map.mp ha
        obtain ⟨y, hy, rfl⟩ := List.mem_map.mp hb
        exact (h z hz hm x hx y hy).2
theorem isP_iff {n : Nat} {r : Tb} {lot : List Nat} : isP n r lot = true ↔ Pc n r lot := by
  unfold isP Pc
  rw [List.all_eq_true]
  constructor
  · intro h z hz hm
    have h1 := h z (List.mem_range.mpr hz)
    rw [decide_eq_false hm, Bool.false_or, Bool.not_eq_true', List.any_eq_false] at h1
    have key : ∀ x ∈ lot, r z (lot.getD 0 0) = r z x ∧ r (lot.getD 0 0) z = r x z := fun x hx => by
      cases lot with
      | nil => cases hx
      | cons a l =>
        rcases List.mem_cons.mp hx with rfl | hx
        · exact ⟨rfl, rfl⟩
        · have := h1 x hx
          have h2 : ap r z ((a :: l).getD 0 0) x = false := by
            cases hq : ap r z ((a :: l).getD 0 0) x with
            | false => rfl
            | true => exact absurd hq this
          exact ap_false.mp h2
    intro x hx y hy
    obtain ⟨a1, a2⟩ := key x hx
    obtain ⟨b1, b2⟩ := key y hy
    exact ⟨a1.symm.trans b1, a2.symm.trans b2⟩
  · intro h z hz
    have hz := List.mem_range.mp hz
    by_cases hm : z ∈ lot
    · rw [decide_eq_true hm]
      rfl
    · rw [decide_eq_false hm, Bool.false_or, Bool.not_eq_true', List.any_eq_false]
      intro y hy
      cases lot with
      | nil => cases hy
      | cons a l =>
        have := h z hz hm a List.mem_cons_self y (List.mem_cons_of_mem _ hy)
        intro hq
        exact ap_true.mp hq this
theorem isP_isPl (n : Nat) (r : Tb) (lot : List Nat) : isP n r lot = isPl n r lot := by
  rw [Bool.eq_iff_iff, isP_iff, isPl_iff]
/-! ### told -/
/-- what may be told of a lot -/
def Cand (n : Nat) (r : Tb) (lot : List Nat) (t : Nat × Nat × Nat) : Prop := t.1 < n ∧ t.1 ∉ lot ∧ t.2.1 ∈ lot ∧ t.2.2 ∈ lot ∧ t.2.1 < t.2.2 ∧ ap r t.1 t.2.1 t.2.2 = true
theorem find_none {α β : Type} {f : α → Option β} {l : List α} : l.findSome? f = none ↔ ∀ x ∈ l, f x = none := List.findSome?_eq_none_iff
/-- the first answer, and nothing before it -/
theorem find_first {α β : Type} {f : α → Option β} : ∀ {l : List α} {b : β}, l.findSome? f = some b → ∃ l1 a l2, l = l1 ++ a :: l2 ∧ f a = some b ∧ ∀ x ∈ l1, f x = none
  | [], b, h => by cases h
  | x :: l, b, h => by
    rw [List.findSome?_cons] at h
    cases hx : f x with
    | some c =>
      rw [hx] at h
      exact ⟨[], x, l, rfl, by rw [hx]; exact h, fun y hy => by cases hy⟩
    | none =>
      rw [hx] at h
      obtain ⟨l1, a, l2, e, h1, h2⟩ := find_first h
      refine ⟨x :: l1, a, l2, by rw [e]; rfl, h1, fun y hy => ?_⟩
      rcases List.mem_cons.mp hy with rfl | hy
      · exact hx
      · exact h2 y hy
theorem asc_at {lot : List Nat} (h : lot.Pairwise (· < ·)) {i j : Nat} {x y : Nat} (hi : lot[i]? = some x) (hj : lot[j]? = some y) : i < j ↔ x < y := by
  obtain ⟨h1, rfl⟩ := List.getElem?_eq_some_iff.mp hi
  obtain ⟨h2, rfl⟩ := List.getElem?_eq_some_iff.mp hj
  rw [List.pairwise_iff_getElem] at h
  constructor
  · intro hij
    exact h i j h1 h2 hij
  · intro hxy
    rcases Nat.lt_trichotomy i j with a | a | a
    · exact a
    · subst a
      omega
    · have := h j i h2 h1 a
      omega
/-- the row of a place -/
def rowT (r : Tb) (lot : List Nat) (z i : Nat) : Option (Nat × Nat × Nat) := (lot.drop (i + 1)).findSome? fun y => if ap r z (lot.getD i 0) y = true then some (z, lot.getD i 0, y) else none
theorem tz_row (r : Tb) (lot : List Nat) (z : Nat) : tz r lot z = (List.range lot.length).findSome? (rowT r lot z) := rfl
theorem range_split {n : Nat} {l1 l2 : List Nat} {a : Nat} (h : List.range n = l1 ++ a :: l2) : a < n ∧ ∀ x, x < a → x ∈ l1 := by
  have ha : a ∈ List.range n := by rw [h]; simp
  refine ⟨List.mem_range.mp ha, fun x hx => ?_⟩
  have hs : (List.range n).Pairwise (· < ·) := List.pairwise_lt_range
  have hx2 : x ∈ List.range n := List.mem_range.mpr (by have := List.mem_range.mp ha; omega)
  rw [h] at hx2 hs
  rcases List.mem_append.mp hx2 with h1 | h1
  · exact h1
  · rw [List.pairwise_append] at hs
    rcases List.mem_cons.mp h1 with rfl | h2
    · omega
    · have := (List.pairwise_cons.mp hs.2.1).1 x h2
      omega
theorem getD_at {lot : List Nat} {i x : Nat} (h : lot[i]? = some x) : lot.getD i 0 = x := by
  rw [List.getD_eq_getElem?_getD, h]
  rfl
theorem told_spec {n : Nat} {r : Tb} {lot : List Nat} (ha : lot.Pairwise (· < ·)) : (told n r lot = none → ∀ t, ¬ Cand n r lot t) ∧ ∀ t, told n r lot = some t → Cand n r lot t ∧ ∀ t', Cand n r lot t' → leT t t' := by
  have place : ∀ t, Cand n r lot t → ∃ i j, lot[i]? = some t.2.1 ∧ lot[j]? = some t.2.2 ∧ i < j := fun t ht => by
    obtain ⟨_, _, h3, h4, h5, _⟩ := ht
    obtain ⟨i, hi⟩ := List.getElem?_of_mem h3
    obtain ⟨j, hj⟩ := List.getElem?_of_mem h4
    exact ⟨i, j, hi, hj, (asc_at ha hi hj).mpr h5⟩
  have indrop : ∀ {i j y : Nat}, lot[j]? = some y → i < j → y ∈ lot.drop (i + 1) := fun {i j y} hj hij => by
    have : (lot.drop (i + 1))[j - (i + 1)]? = some y := by
      rw [List.getElem?_drop]
      have e : i + 1 + (j - (i + 1)) = j := by omega
      rw [e]
      exact hj
    exact List.mem_of_getElem? this
  refine ⟨fun hn t ht => ?_, fun t ht => ?_⟩
  · obtain ⟨i, j, hi, hj, hij⟩ := place t ht
    obtain ⟨h1, h2, h3, h4, h5, h6⟩ := ht
    have hz := find_none.mp hn t.1 (List.mem_range.mpr h1)
    rw [if_neg h2, tz_row] at hz
    have hr := find_none.mp hz i (List.mem_range.mpr (List.getElem?_eq_some_iff.mp hi).1)
    have hy := find_none.mp hr t.2.2 (indrop hj hij)
    rw [getD_at hi, if_pos h6] at hy
    cases hy
  · obtain ⟨l1, z, l2, e1, f1, n1⟩ := find_first ht
    by_cases hm : z ∈ lot
    · rw [if_pos hm] at f1
      cases f1
    rw [if_neg hm, tz_row] at f1
    obtain ⟨m1, i, m2, e2, f2, n2⟩ := find_first f1
    obtain ⟨k1, y, k2, e3, f3, n3⟩ := find_first f2
    obtain ⟨hzn, hz1⟩ := range_split e1
    obtain ⟨hil, hi1⟩ := range_split e2
    have hix : lot[i]? = some (lot.getD i 0) := by
      rw [List.getD_eq_getElem?_getD, List.getElem?_eq_getElem hil]
      rfl
    have hap : ap r z (lot.getD i 0) y = true := by
      cases hq : ap r z (lot.getD i 0) y with
      | true => rfl
      | false =>
        rw [hq] at f3
        cases f3
    rw [if_pos hap] at f3
    have et := (Option.some.inj f3).symm
    subst et
    have hyd : y ∈ lot.drop (i + 1) := by rw [e3]; simp
    obtain ⟨j0, hj0⟩ := List.getElem?_of_mem hyd
    rw [List.getElem?_drop] at hj0
    have hxy : lot.getD i 0 < y := (asc_at ha hix hj0).mp (by omega)
    refine ⟨⟨hzn, hm, List.mem_of_getElem? hix, List.mem_of_mem_drop hyd, hxy, hap⟩, fun t' ht' => ?_⟩
    obtain ⟨i', j', hi', hj', hij'⟩ := place t' ht'
    obtain ⟨z', x', y'⟩ := t'
    obtain ⟨h1, h2, h3, h4, h5, h6⟩ := ht'
    simp only at h1 h2 h3 h4 h5 h6 hi' hj'
    have hzz : z ≤ z' := by
      rcases Nat.lt_or_ge z' z with h | h
      · have hz := n1 z' (hz1 z' h)
        rw [if_neg h2, tz_row] at hz
        have hr := find_none.mp hz i' (List.mem_range.mpr (List.getElem?_eq_some_iff.mp hi').1)
        have hy := find_none.mp hr y' (indrop hj' hij')
        rw [getD_at hi', if_pos h6] at hy
        cases hy
      · exact h
    rcases Nat.lt_or_eq_of_le hzz with h | h
    · right
      have e : lexN (tl3 (z, lot.getD i 0, y)) (tl3 (z', x', y')) = true := by
        show (if z = z' then _ else decide (z < z')) = true
        rw [if_neg (by omega)]
        exact decide_eq_true h
      exact ⟨e, lexN_asy _ _ e⟩
    · subst h
      have hii : i ≤ i' := by
        rcases Nat.lt_or_ge i' i with h | h
        · have hr := n2 i' (hi1 i' h)
          have hy := find_none.mp hr y' (indrop hj' hij')
          rw [getD_at hi', if_pos h6] at hy
          cases hy
        · exact h
      rcases Nat.lt_or_eq_of_le hii with h | h
      · right
        have hlt := (asc_at ha hix hi').mp h
        have e : lexN (tl3 (z, lot.getD i 0, y)) (tl3 (z, x', y')) = true := by
          show (if z = z then (if lot.getD i 0 = x' then _ else decide (lot.getD i 0 < x')) else _) = true
          rw [if_pos rfl, if_neg (by omega)]
          exact decide_eq_true hlt
        exact ⟨e, lexN_asy _ _ e⟩
      · subst h
        have ex : x' = lot.getD i 0 := (getD_at hi').symm
        subst ex
        have hy' := indrop hj' hij'
        rw [e3] at hy'
        have hs : (lot.drop (i + 1)).Pairwise (· < ·) := ha.sublist (List.drop_sublist _ _)
        rw [e3, List.pairwise_append] at hs
        rcases List.mem_append.mp hy' with h | h
        · have := n3 y' h
          rw [if_pos h6] at this
          cases this
        · rcases List.mem_cons.mp h with rfl | h
          · exact .inl rfl
          · right
            have hlt := (List.pairwise_cons.mp hs.2.1).1 y' h
            have e : lexN (tl3 (z, lot.getD i 0, y)) (tl3 (z, lot.getD i 0, y')) = true := by
              show (if z = z then (if lot.getD i 0 = lot.getD i 0 then (if y = y' then _ else decide (y < y')) else _) else _) = true
              rw [if_pos rfl, if_pos rfl, if_neg (by omega)]
              exact decide_eq_true hlt
            exact ⟨e, lexN_asy _ _ e⟩
theorem told_none {n : Nat} {r : Tb} {lot : List Nat} (ha : lot.Pairwise (· < ·)) : told n r lot = none → Pc n r lot := fun h z hz hm x hx y hy => by
  have hn := (told_spec ha).1 h
  rcases Nat.lt_trichotomy x y with a | a | a
  · have := hn (z, x, y)
    cases hq : ap r z x y with
    | true => exact absurd ⟨hz, hm, hx, hy, a, hq⟩ this
    | false => exact ap_false.mp hq
  · subst a
    exact ⟨rfl, rfl⟩
  · have := hn (z, y, x)
    cases hq : ap r z y x with
    | true => exact absurd ⟨hz, hm, hy, hx, a, hq⟩ this
    | false =>
      obtain ⟨a1, a2⟩ := ap_false.mp hq
      exact ⟨a1.symm, a2.symm⟩
/-! ### the joint table -/
theorem lk_eq {ts : List Tb} {p q : Nat × Nat} : lk ts p = lk ts q ↔ ∀ t ∈ ts, t p.1 p.2 = t q.1 q.2 := by
  unfold lk
  rw [List.map_inj_left]
theorem jn_ap {n : Nat} {ts : List Tb} {r : Tb} (h : Jn n ts r) {z x y : Nat} (hz : z < n) (hx : x < n) (hy : y < n) (zx : z ≠ x) (zy : z ≠ y) : ap r z x y = true ↔ ∃ t ∈ ts, ap t z x y = true := by
  have h1 := h z x z y hz hx hz hy zx zy
  have h2 := h x z y z hx hz hy hz zx.symm zy.symm
  rw [lk_eq] at h1 h2
  rw [ap_true, h1, h2]
  constructor
  · intro hn
    apply Classical.byContradiction
    intro hc
    refine hn ⟨fun t ht => ?_, fun t ht => ?_⟩
    · cases hq : ap t z x y with
      | true => exact (hc ⟨t, ht, hq⟩).elim
      | false => exact (ap_false.mp hq).1
    · cases hq : ap t z x y with
      | true => exact (hc ⟨t, ht, hq⟩).elim
      | false => exact (ap_false.mp hq).2
  · rintro ⟨t, ht, hq⟩ ⟨a1, a2⟩
    exact ap_true.mp hq ⟨a1 t ht, a2 t ht⟩
theorem jn_pc {n : Nat} {ts : List Tb} {r : Tb} (h : Jn n ts r) {lot : List Nat} (hl : ∀ x ∈ lot, x < n) : Pc n r lot ↔ ∀ t ∈ ts, Pc n t lot := by
  have key : ∀ z x y, z < n → z ∉ lot → x ∈ lot → y ∈ lot → ((r z x = r z y ∧ r x z = r y z) ↔ ∀ t ∈ ts, t z x = t z y ∧ t x z = t y z) := fun z x y hz hm hx hy => by
    have zx : z ≠ x := fun e => hm (e ▸ hx)
    have zy : z ≠ y := fun e => hm (e ▸ hy)
    have h1 := h z x z y hz (hl x hx) hz (hl y hy) zx zy
    have h2 := h x z y z (hl x hx) hz (hl y hy) hz zx.symm zy.symm
    rw [lk_eq] at h1 h2
    rw [h1, h2]
    exact ⟨fun a t ht => ⟨a.1 t ht, a.2 t ht⟩, fun a => ⟨fun t ht => (a t ht).1, fun t ht => (a t ht).2⟩⟩
  exact ⟨fun a t ht z hz hm x hx y hy => (key z x y hz hm hx hy).mp (a z hz hm x hx y hy) t ht, fun a z hz hm x hx y hy => (key z x y hz hm hx hy).mpr fun t ht => a t ht z hz hm x hx y hy⟩
/-- the lots that are pieces of every table, in order -/
def dues (n : Nat) (ts : List Tb) : List (List Nat) := (lots n).filter fun lot => ts.all fun t => isPl n t lot
theorem isP_all {n : Nat} {ts : List Tb} {r : Tb} (h : Jn n ts r) {lot : List Nat} (hl : ∀ x ∈ lot, x < n) : isP n r lot = ts.all fun t => isPl n t lot := by
  rw [Bool.eq_iff_iff, isP_iff, jn_pc h hl, List.all_eq_true]
  exact ⟨fun a t ht => isPl_iff.mpr (a t ht), fun a t ht => isPl_iff.mp (a t ht)⟩
theorem pcs_dues {n : Nat} (hn : n ≤ 6) {ts : List Tb} {r : Tb} (h : Jn n ts r) : pcs n r = dues n ts := by
  unfold pcs dues
  exact List.filter_congr fun lot hl => isP_all h (lots_all n hn lot hl).2.1
theorem dues_perm {n : Nat} {ts us : List Tb} (h : us.Perm ts) : dues n us = dues n ts := by
  unfold dues
  refine List.filter_congr fun lot _ => ?_
  rw [Bool.eq_iff_iff, List.all_eq_true, List.all_eq_true]
  exact ⟨fun a t ht => a t (h.mem_iff.mpr ht), fun a t ht => a t (h.mem_iff.mp ht)⟩
theorem told_first {n : Nat} {ts : List Tb} {r : Tb} (h : Jn n ts r) {lot : List Nat} (ha : lot.Pairwise (· < ·)) (hl : ∀ x ∈ lot, x < n) {o : Option (Nat × Nat × Nat)} (ho : FirstT n ts lot o) : told n r lot = o := by
  have cj : ∀ t, Cand n r lot t ↔ ∃ u ∈ ts, Cand n u lot t := fun t => by
    constructor
    · rintro ⟨h1, h2, h3, h4, h5, h6⟩
      obtain ⟨u, hu, hq⟩ := (jn_ap h h1 (hl _ h3) (hl _ h4) (fun e => h2 (e ▸ h3)) (fun e => h2 (e ▸ h4))).mp h6
      exact ⟨u, hu, h1, h2, h3, h4, h5, hq⟩
    · rintro ⟨u, hu, h1, h2, h3, h4, h5, hq⟩
      exact ⟨h1, h2, h3, h4, h5, (jn_ap h h1 (hl _ h3) (hl _ h4) (fun e => h2 (e ▸ h3)) (fun e => h2 (e ▸ h4))).mpr ⟨u, hu, hq⟩⟩
  cases hr : told n r lot with
  | none =>
    have hn := (told_spec ha).1 hr
    cases o with
    | none => rfl
    | some x =>
      obtain ⟨⟨u, hu, hx⟩, _⟩ := ho
      exact absurd ((cj x).mpr ⟨u, hu, ((told_spec ha).2 x hx).1⟩) (hn x)
  | some t =>
    obtain ⟨hc, hle⟩ := (told_spec ha).2 t hr
    obtain ⟨u, hu, hcu⟩ := (cj t).mp hc
    cases hq : told n u lot with
    | none => exact absurd hcu ((told_spec ha).1 hq t)
    | some s =>
      obtain ⟨hs1, hs2⟩ := (told_spec ha).2 s hq
      cases o with
      | none => rw [ho u hu] at hq; cases hq
      | some x =>
        obtain ⟨⟨v, hv, hx⟩, hxl⟩ := ho
        have a1 := hxl u hu s hq
        have a2 := hs2 t hcu
        have a3 := hle x ((cj x).mpr ⟨v, hv, ((told_spec ha).2 x hx).1⟩)
        rw [leT_anti a3 (leT_trans a1 a2)]
/-! ### the least piece -/
def allBs : Nat → List (List Bool)
  | 0 => [[]]
  | n + 1 => (allBs n).flatMap fun l => [l ++ [true], l ++ [false]]
theorem allBs_mem (p : Nat → Bool) : ∀ n, (List.range n).map p ∈ allBs n
  | 0 => List.mem_singleton.mpr rfl
  | n + 1 => by
    rw [List.range_succ, List.map_append]
    refine List.mem_flatMap.mpr ⟨_, allBs_mem p n, ?_⟩
    cases hp : p n <;> simp [hp]
theorem lots_sur {n : Nat} (hn : n ≤ 6) {lot : List Nat} (ha : lot.Pairwise (· < ·)) (hl : ∀ x ∈ lot, x < n) : lot ∈ lots n := by
  have hall : ∀ n ∈ List.range 7, (allBs n).all (fun bs => decide ((List.range n).filter (fun i => bs.getD i false) ∈ lots n)) = true := by decide +kernel
  have h := List.all_eq_true.mp (hall n (List.mem_range.mpr (by omega))) _ (allBs_mem (fun i => decide (i ∈ lot)) n)
  have h := of_decide_eq_true h
  have e : (List.range n).filter (fun i => ((List.range n).map fun i => decide (i ∈ lot)).getD i false) = lot := by
    have e1 : (List.range n).filter (fun i => ((List.range n).map fun i => decide (i ∈ lot)).getD i false) = (List.range n).filter fun i => decide (i ∈ lot) := List.filter_congr fun i hi => by
      have hi := List.mem_range.mp hi
      rw [List.getD_eq_getElem?_getD, List.getElem?_map, List.getElem?_range hi]
      rfl
    rw [e1]
    refine perm_eq (R := (· < ·)) (fun a _ b _ h1 h2 => by omega) (List.pairwise_lt_range.sublist List.filter_sublist) ha ?_
    rw [List.perm_ext_iff_of_nodup ((List.pairwise_lt_range.sublist List.filter_sublist).imp fun h => Nat.ne_of_lt h) (ha.imp fun h => Nat.ne_of_lt h)]
    intro a
    rw [List.mem_filter, decide_eq_true_eq]
    exact ⟨fun h => h.2, fun h => ⟨List.mem_range.mpr (hl a h), h⟩⟩
  rw [e] at h
  exact h
/-- what is added lies in every piece around the lot -/
theorem gr_in {n : Nat} {r : Tb} {own : List Nat} (hp : Pc n r own) : ∀ (k : Nat) (held : List Nat), (∀ x ∈ held, x ∈ own) → ∀ t ∈ gr k n r held, t.1 ∈ own
  | 0, _, _, t, ht => by cases ht
  | k + 1, held, hh, t, ht => by
    cases htd : told n r held with
    | none =>
      rw [gr_none htd] at ht
      cases ht
    | some s =>
      obtain ⟨h1, h2, h3, h4, h5⟩ := told_some htd
      have hs : s.1 ∈ own := by
        apply Classical.byContradiction
        intro hm
        exact ap_true.mp h5 (hp s.1 h1 hm s.2.1 (hh _ h3) s.2.2 (hh _ h4))
      rw [gr_some htd] at ht
      rcases List.mem_cons.mp ht with rfl | ht
      · exact hs
      · refine gr_in hp k _ (fun x hx => ?_) t ht
        rw [srt_mem, List.mem_append, List.mem_singleton] at hx
        rcases hx with hx | rfl
        · exact hh x hx
        · exact hs
/-- grown to the end, nothing parts it -/
theorem gr_end {n : Nat} {r : Tb} : ∀ (k : Nat) (held : List Nat), held.Pairwise (· < ·) → (∀ x ∈ held, x < n) → n < held.length + k → told n r (srt (held ++ (gr k n r held).map (·.1))) = none
  | 0, held, ha, hl, hk => by
    have := nodup_len (ha.imp fun h => Nat.ne_of_lt h) hl
    omega
  | k + 1, held, ha, hl, hk => by
    cases htd : told n r held with
    | none =>
      rw [gr_none htd]
      have e : srt (held ++ List.map (fun x : Nat × Nat × Nat => x.1) []) = held := by
        rw [List.map_nil, List.append_nil]
        exact perm_eq (R := (· ≤ ·)) (fun a _ b _ h1 h2 => by omega) (srt_le held) (ha.imp fun h => Nat.le_of_lt h) (srt_perm held)
      rw [e]
      exact htd
    | some t =>
      obtain ⟨t1, t2, _⟩ := told_some htd
      have hnd : (held ++ [t.1]).Nodup := List.nodup_append.mpr ⟨ha.imp fun h => Nat.ne_of_lt h, List.pairwise_singleton _ _, fun a ha' b hb => by
        rw [List.mem_singleton] at hb
        subst hb
        intro h
        exact t2 (h ▸ ha')⟩
      have ih := gr_end (r := r) k (srt (held ++ [t.1])) (srt_lt hnd) (fun x hx => by
        rw [srt_mem, List.mem_append, List.mem_singleton] at hx
        rcases hx with h | h
        · exact hl x h
        · rw [h]
          exact t1) (by
        rw [(srt_perm _).length_eq, List.length_append]
        show n < held.length + 1 + k
        omega)
      rw [gr_some htd, List.map_cons]
      have e : srt (held ++ t.1 :: (gr k n r (srt (held ++ [t.1]))).map (·.1)) = srt (srt (held ++ [t.1]) ++ (gr k n r (srt (held ++ [t.1]))).map (·.1)) := by
        refine perm_eq (R := (· ≤ ·)) (fun a _ b _ h1 h2 => by omega) (srt_le _) (srt_le _) ?_
        refine (srt_perm _).trans (List.Perm.trans ?_ (srt_perm _).symm)
        have e2 : held ++ t.1 :: (gr k n r (srt (held ++ [t.1]))).map (·.1) = (held ++ [t.1]) ++ (gr k n r (srt (held ++ [t.1]))).map (·.1) := by simp
        rw [e2]
        exact (srt_perm _).symm.append_right _
      rw [e]
      exact ih
def leastP (n : Nat) (r : Tb) (lot : List Nat) : List Nat := srt (lot ++ (gr (n + 1) n r lot).map (·.1))
def sup (lot own : List Nat) : Bool := lot.all fun x => decide (x ∈ own)
/-- the first of the pieces around the lot -/
theorem least_first {n : Nat} (hn : n ≤ 6) {ts : List Tb} {r : Tb} (h : Jn n ts r) {lot : List Nat} (ha : lot.Pairwise (· < ·)) (hl : ∀ x ∈ lot, x < n) : ((dues n ts).filter (sup lot)).head? = some (leastP n r lot) := by
  obtain ⟨hnd, hlt⟩ := gr_nodup (r := r) (n + 1) lot (ha.imp fun h => Nat.ne_of_lt h) hl
  have hS : (leastP n r lot).Pairwise (· < ·) := srt_lt hnd
  have hSl : ∀ x ∈ leastP n r lot, x < n := fun x hx => by
    unfold leastP at hx
    rw [srt_mem, List.mem_append] at hx
    rcases hx with hx | hx
    · exact hl x hx
    · exact hlt x hx
  have hSp : Pc n r (leastP n r lot) := told_none hS (gr_end (n + 1) lot ha hl (by omega))
  have hin : leastP n r lot ∈ (dues n ts).filter (sup lot) := by
    rw [← pcs_dues hn h]
    refine List.mem_filter.mpr ⟨List.mem_filter.mpr ⟨lots_sur hn hS hSl, isP_iff.mpr hSp⟩, ?_⟩
    unfold sup
    rw [List.all_eq_true]
    intro x hx
    rw [decide_eq_true_eq]
    unfold leastP
    rw [srt_mem, List.mem_append]
    exact .inl hx
  cases hf : (dues n ts).filter (sup lot) with
  | nil =>
    rw [hf] at hin
    cases hin
  | cons a l =>
    rw [hf] at hin
    rcases List.mem_cons.mp hin with e | hin'
    · rw [e]
      rfl
    · exfalso
      have hk : ((dues n ts).filter (sup lot)).Pairwise (fun a b => keyLt a b = true) := (lots_key n hn).sublist (List.filter_sublist.trans List.filter_sublist)
      rw [hf] at hk
      have hlt2 := (List.pairwise_cons.mp hk).1 _ hin'
      have ham : a ∈ (dues n ts).filter (sup lot) := by
        rw [hf]
        exact List.mem_cons_self
      rw [← pcs_dues hn h] at ham
      obtain ⟨h1, h2⟩ := List.mem_filter.mp ham
      obtain ⟨h3, h4⟩ := List.mem_filter.mp h1
      obtain ⟨b1, b2, b3⟩ := lots_all n hn a h3
      have hsub : ∀ x ∈ leastP n r lot, x ∈ a := fun x hx => by
        unfold leastP at hx
        rw [srt_mem, List.mem_append] at hx
        have hla : ∀ x ∈ lot, x ∈ a := fun x hx => of_decide_eq_true (List.all_eq_true.mp h2 x hx)
        rcases hx with hx | hx
        · exact hla x hx
        · obtain ⟨t, ht, rfl⟩ := List.mem_map.mp hx
          exact gr_in (isP_iff.mp h4) (n + 1) lot hla t ht
      have hlen := nodup_sub (hS.imp fun h => Nat.ne_of_lt h) hsub
      have hlen2 : a.length ≤ (leastP n r lot).length := by
        unfold keyLt at hlt2
        by_cases e : a.length = (leastP n r lot).length
        · omega
        · rw [if_neg e] at hlt2
          have := of_decide_eq_true hlt2
          omega
      have he : leastP n r lot = a := by
        refine perm_eq (R := (· < ·)) (fun a _ b _ h1 h2 => by omega) hS b1 ?_
        rw [List.perm_ext_iff_of_nodup (hS.imp fun h => Nat.ne_of_lt h) (b1.imp fun h => Nat.ne_of_lt h)]
        intro y
        refine ⟨hsub y, fun hy => Classical.byContradiction fun hc => ?_⟩
        have := nodup_sub (l := y :: leastP n r lot) (m := a) (List.nodup_cons.mpr ⟨hc, hS.imp fun h => Nat.ne_of_lt h⟩) (fun x hx => by
          rcases List.mem_cons.mp hx with rfl | hx
          · exact hy
          · exact hsub x hx)
        rw [List.length_cons] at this
        omega
      rw [he] at hlt2
      have := keyLt_asy hlt2
      rw [hlt2] at this
      cases this
end PT

set_option Elab.async false
set_option linter.all false
set_option maxRecDepth 100000
set_option maxHeartbeats 4000000
namespace PT
open PySem PySem.Spec PyProof.Rows L2
/-! ### calls by keywords: one, two (swapped) -/
def g1 {α : Type} : List α → List α → List α := fun us ws => match us, ws with
  | [], [a] => [a]
  | _, _ => []
def g2 {α : Type} : List α → List α → List α := fun us ws => match us, ws with
  | [], [a, b] => [b, a]
  | _, _ => []
section
variable {K : PySem.W.Frag} {x qual : Str} {st : Stmt} {f : Addr} {fd : FuncData}
theorem kb1 {p : Str} (F : L2.Fun K x qual st f fd) (h : ∀ (kV doc pm : Value) (an : Option Addr) (cdv ct a : Value), bindArgs (PySem.W.fnOf x qual (defArgs st) (defBody st) (defScope st) .none kV doc pm an cdv ct) ⟨[], [(p, a)]⟩ = pure [(p, a)]) : KBinds K fd [p] [p] g1 g1 := by
  obtain ⟨oc, od, kV, doc, pm, an, cdv, ct, osl, rfl, lk, hcd⟩ := F.ex
  refine ⟨fun s us ws _ hl => ?_, fun {vs us zs ws} r rz => ?_⟩
  · match us, ws, hl with
    | [], [a], _ => exact BindsTo.of_eq (h kV doc pm an cdv ct a)
  · cases r with
    | cons a b => exact .nil
    | nil =>
      cases rz with
      | nil => exact .nil
      | cons a b =>
        cases b with
        | nil => exact .cons a .nil
        | cons c d => exact .nil
theorem kb2 {p q : Str} (F : L2.Fun K x qual st f fd) (h : ∀ (kV doc pm : Value) (an : Option Addr) (cdv ct a b : Value), bindArgs (PySem.W.fnOf x qual (defArgs st) (defBody st) (defScope st) .none kV doc pm an cdv ct) ⟨[], [(q, a), (p, b)]⟩ = pure [(p, b), (q, a)]) : KBinds K fd [p, q] [q, p] g2 g2 := by
  obtain ⟨oc, od, kV, doc, pm, an, cdv, ct, osl, rfl, lk, hcd⟩ := F.ex
  refine ⟨fun s us ws _ hl => ?_, fun {vs us zs ws} r rz => ?_⟩
  · match us, ws, hl with
    | [], [a, b], _ => exact BindsTo.of_eq (h kV doc pm an cdv ct a b)
  · cases r with
    | cons a b => exact .nil
    | nil =>
      cases rz with
      | nil => exact .nil
      | cons a b =>
        cases b with
        | nil => exact .nil
        | cons c d =>
          cases d with
          | nil => exact .cons c (.cons a .nil)
          | cons e f => exact .nil
end
theorem kb_together {K : PySem.W.Frag} {f : Addr} {fd : FuncData} (F : L2.Fun K "together" "together" s_together f fd) : KBinds K fd P_together ["tables"] g1 g1 := kb1 F fun _ _ _ _ _ _ _ => rfl
theorem kb_telling {K : PySem.W.Frag} {f : Addr} {fd : FuncData} (F : L2.Fun K "telling" "telling" s_telling f fd) : KBinds K fd P_telling ["lot", "table"] g2 g2 := kb2 F fun _ _ _ _ _ _ _ _ => rfl
theorem kb_both {K : PySem.W.Frag} {f : Addr} {fd : FuncData} (F : L2.Fun K "both" "both" s_both f fd) : KBinds K fd P_both ["other", "table"] g2 g2 := kb2 F fun _ _ _ _ _ _ _ _ => rfl
/-! ### small data, shown -/
mutual
def sml : PyData → Bool
  | .none => true
  | .bool _ => true
  | .int i => decide (0 ≤ i ∧ i < 16)
  | .str _ => false
  | .list ds => smlAll ds
  | .tuple ds => smlAll ds
  | .dict _ => false
def smlAll : List PyData → Bool
  | [] => true
  | d :: ds => sml d && smlAll ds
end
theorem smlAll_of : ∀ {ds : List PyData}, (∀ d ∈ ds, sml d = true) → smlAll ds = true
  | [], _ => rfl
  | d :: ds, h => by
    show (sml d && smlAll ds) = true
    rw [h d List.mem_cons_self, smlAll_of fun x hx => h x (List.mem_cons_of_mem _ hx)]
    rfl
theorem small_int {i : Int} (h : 0 ≤ i ∧ i < 16) : (PyData.shown (.int i)).length ≤ 8 ∧ decide (i.natAbs.log2 < 1920) = true := by
  have hall : ∀ k ∈ List.range 16, decide ((PyData.shown (.int (k : Nat))).length ≤ 8) && decide (((k : Nat) : Int).natAbs.log2 < 1920) = true := by decide +kernel
  have := hall i.toNat (List.mem_range.mpr (by omega))
  rw [Bool.and_eq_true, Int.toNat_of_nonneg h.1] at this
  exact ⟨of_decide_eq_true this.1, of_decide_eq_true this.2⟩
mutual
theorem sml_ok : ∀ d : PyData, sml d = true → d.showable = true ∧ d.hasDict = false ∧ d.leavesShort 8 = true
  | .none, _ => ⟨rfl, rfl, rfl⟩
  | .bool _, _ => ⟨rfl, rfl, rfl⟩
  | .int i, h => by
    have h' := of_decide_eq_true (show decide (0 ≤ i ∧ i < 16) = true from h)
    obtain ⟨a, b⟩ := small_int h'
    exact ⟨b, rfl, decide_eq_true a⟩
  | .str _, h => by cases h
  | .list ds, h => smlAll_ok ds h
  | .tuple ds, h => smlAll_ok ds h
  | .dict _, h => by cases h
theorem smlAll_ok : ∀ ds : List PyData, smlAll ds = true → PyData.showableAll ds = true ∧ PyData.hasDictAll ds = false ∧ PyData.leavesShortAll 8 ds = true
  | [], _ => ⟨rfl, rfl, rfl⟩
  | d :: ds, h => by
    have h' : (sml d && smlAll ds) = true := h
    rw [Bool.and_eq_true] at h'
    obtain ⟨a1, a2, a3⟩ := sml_ok d h'.1
    obtain ⟨b1, b2, b3⟩ := smlAll_ok ds h'.2
    refine ⟨?_, ?_, ?_⟩
    · show (PyData.showable d && PyData.showableAll ds) = true
      rw [a1, b1]
      rfl
    · show (PyData.hasDict d || PyData.hasDictAll ds) = false
      rw [a2, b2]
      rfl
    · show (PyData.leavesShort 8 d && PyData.leavesShortAll 8 ds) = true
      rw [a3, b3]
      rfl
end
theorem bulkAll_le {c : Nat} : ∀ {ds : List PyData}, (∀ d ∈ ds, d.bulk ≤ c) → PyData.bulkAll ds ≤ ds.length * (c + 1)
  | [], _ => by simp [PyData.bulkAll]
  | d :: ds, h => by
    have h1 := h d List.mem_cons_self
    have h2 := bulkAll_le (c := c) (ds := ds) fun x hx => h x (List.mem_cons_of_mem _ hx)
    show d.bulk + 1 + PyData.bulkAll ds ≤ (ds.length + 1) * (c + 1)
    rw [Nat.succ_mul]
    omega
structure Shw (d : PyData) : Prop where
  s : sml d = true
  b : d.bulk ≤ 100000
  dp : d.depth ≤ 30
theorem Shw.len {d : PyData} (h : Shw d) : d.shown.length ≤ sizeLine := by
  have h1 := PyData.shown_le_bulk 8 (Nat.le_refl _) d (sml_ok d h.s).2.2
  have h2 := h.b
  have h3 : sizeLine = 16777216 := by decide
  omega
theorem sml_dN {l : List Nat} (h : ∀ x ∈ l, x < 16) : sml (dN l) = true := smlAll_of fun d hd => by
  rw [iN_map] at hd
  obtain ⟨x, hx, rfl⟩ := List.mem_map.mp hd
  exact decide_eq_true ⟨Int.natCast_nonneg _, by have := h x hx; omega⟩
theorem bulk_dN (l : List Nat) : (dN l).bulk ≤ l.length := by
  have := bulkAll_le (c := 0) (ds := (iN l).map .int) fun d hd => by
    obtain ⟨i, _, rfl⟩ := List.mem_map.mp hd
    exact Nat.le_refl _
  rw [lot_len] at this
  show PyData.bulkAll _ ≤ _
  omega
theorem shw_told {n : Nat} (hn : n ≤ 6) {r : Tb} {lot : List Nat} (hl : ∀ x ∈ lot, x < n) : sml (dTold (told n r lot)) = true ∧ (dTold (told n r lot)).bulk ≤ 3 ∧ (dTold (told n r lot)).depth ≤ 2 := by
  cases h : told n r lot with
  | none => exact ⟨rfl, Nat.zero_le _, by decide⟩
  | some t =>
    obtain ⟨h1, _, h3, h4, _⟩ := told_some h
    have a3 := hl _ h3
    have a4 := hl _ h4
    refine ⟨sml_dN (l := [t.1, t.2.1, t.2.2]) fun x hx => ?_, bulk_dN [t.1, t.2.1, t.2.2], depth_dT _⟩
    simp only [List.mem_cons, List.not_mem_nil, or_false] at hx
    rcases hx with rfl | rfl | rfl <;> omega
theorem lots_lt {n : Nat} (hn : n ≤ 6) {l : List (List Nat)} (h : ∀ x ∈ l, x ∈ lots n) : (∀ d ∈ l.map dN, sml d = true ∧ d.bulk ≤ 6 ∧ d.depth ≤ 2) := fun d hd => by
  obtain ⟨x, hx, rfl⟩ := List.mem_map.mp hd
  obtain ⟨_, b2, b3⟩ := lots_all n hn x (h x hx)
  exact ⟨sml_dN fun y hy => by have := b2 y hy; omega, Nat.le_trans (bulk_dN x) b3, depth_dT _⟩
theorem shw_lots {n : Nat} (hn : n ≤ 6) {l : List (List Nat)} (h : ∀ x ∈ l, x ∈ lots n) (hl : l.length ≤ 64) : Shw (.tuple (l.map dN)) ∧ (PyData.tuple (l.map dN)).bulk ≤ 448 := by
  have h1 := lots_lt hn h
  have h2 := bulkAll_le (c := 6) fun d hd => (h1 d hd).2.1
  rw [List.length_map] at h2
  have h3 := depthAll_le (n := 2) fun d hd => (h1 d hd).2.2
  have h4 : (PyData.tuple (l.map dN)).bulk ≤ 448 := by
    show PyData.bulkAll _ ≤ _
    omega
  refine ⟨⟨smlAll_of fun d hd => (h1 d hd).1, by omega, ?_⟩, h4⟩
  simp only [PyData.depth]
  omega
/-! ### repr, compared -/
section
variable {K : PySem.W.Frag} {m : Md} {σ : L2.St} {H H' : Hp} {ta tb te : TE} {d : PyData}
/-- what repr is called with: data, or a list of data -/
def EDp (K : PySem.W.Frag) (m : Md) (te : TE) (σ : L2.St) (H : Hp) (d : PyData) : Prop := EvP m te σ H fun _ v B => ∃ a, v = .ref a ∧ Dp K B (.ref a) d
theorem ED.dpT {ds : List PyData} (h : ED K m te σ H (.tuple ds)) : EDp K m te σ H (.tuple ds) := EvP.imp h fun A v B _ p => by
  obtain ⟨a, xs, rfl, h1, h2⟩ := p.tup_inv
  exact ⟨a, rfl, .tup h1 (RpAll.dp _ _ h2)⟩
theorem EQ.dpL {ds : List PyData} (h : EQ K m te σ H ds) : EDp K m te σ H (.list ds) := EvP.imp h fun A v B _ p => by
  obtain ⟨a, xs, rfl, _, h1, h2⟩ := p
  exact ⟨a, rfl, .lst (.inl (.inl h1)) (RpAll.dp _ _ h2)⟩
theorem ev_repr (h : EDp K m te σ H d) (hs : Shw d) : Ev m (tCB (rRepr K) (tCons te tNil)) σ H (.str d.shown) := fun H1 e Q q => h H1 e _ fun v H2 e2 p => by
  obtain ⟨a, rfl, hd⟩ := p
  obtain ⟨b1, b2, _⟩ := sml_ok d hs.s
  exact ⟨a, d, rfl, hd, b1, b2, hs.len, hs.dp, q _ H2 e2 rfl⟩
theorem et_reprNe (ha : EDp K m ta σ H d) (hb : EDp K m tb σ H d) (hs : Shw d) : ET m (tTest (tOp rNe (tCB (rRepr K) (tCons ta tNil)) (tCB (rRepr K) (tCons tb tNil)))) σ H false := fun H1 e Q q =>
  ev_repr ha hs H1 e _ fun v H2 e2 p => ev_repr hb hs H2 (e.trans e2) _ fun w H3 e3 p' => by
    subst p p'
    exact ⟨rfl, false, by rw [decide_eq_true rfl]; rfl, q H3 (e2.trans e3)⟩
theorem ed_reprEq (ha : EDp K m ta σ H d) (hb : EDp K m tb σ H d) (hs : Shw d) : ED K m (tOp rEq (tCB (rRepr K) (tCons ta tNil)) (tCB (rRepr K) (tCons tb tNil))) σ H (.bool true) := fun H1 e Q q =>
  ev_repr ha hs H1 e _ fun v H2 e2 p => ev_repr hb hs H2 (e.trans e2) _ fun w H3 e3 p' => by
    subst p p'
    exact ⟨rfl, by rw [decide_eq_true rfl]; exact q _ H3 (e2.trans e3) (.bl _)⟩
/-! ### calls nested in calls, whose inner answer is told by a relation -/
theorem ep_callR1 {α : Type} {Pre : α → Prop} {args : α → List PyData} {res : α → PyData} {E : XK} {D : PyData} (h : EvP m te σ H fun _ v B => ∃ x, Pre x ∧ RpAll K B [v] (args x) ∧ res x = D) : ED K m (tCall (SpF K Pre args res) [] E (tCons te tNil)) σ H D := fun H1 e Q q => h H1 e _ fun v H2 e2 p => by
  obtain ⟨x, h1, h2, h3⟩ := p
  subst h3
  exact ⟨x, h1, h2, fun w H3 e3 p3 => q w H3 (e2.trans (Rl.ex e2.i e3)) p3⟩
end
end PT

set_option Elab.async false
set_option linter.all false
set_option maxRecDepth 100000
set_option maxHeartbeats 4000000
namespace PT
open PySem PySem.Spec PyProof.Rows L2
theorem perm_map_inv {α β : Type} {f : α → β} {es l : List β} (p : es.Perm l) : ∀ ts : List α, l = ts.map f → ∃ us : List α, es = us.map f ∧ us.Perm ts := by
  induction p with
  | nil =>
    intro ts h
    cases ts with
    | nil => exact ⟨[], rfl, List.Perm.refl _⟩
    | cons a b => cases h
  | cons x p ih =>
    intro ts h
    cases ts with
    | nil => cases h
    | cons a b =>
      injection h with h1 h2
      obtain ⟨us, e1, e2⟩ := ih b h2
      exact ⟨a :: us, by rw [e1, h1]; rfl, e2.cons a⟩
  | swap x y l =>
    intro ts h
    match ts, h with
    | a :: b :: c, h =>
      injection h with h1 h2
      injection h2 with h2 h3
      exact ⟨b :: a :: c, by rw [h1, h2, h3]; rfl, List.Perm.swap _ _ _⟩
  | trans p1 p2 ih1 ih2 =>
    intro ts h
    obtain ⟨us, e1, e2⟩ := ih2 ts h
    obtain ⟨ws, e3, e4⟩ := ih1 us e1
    exact ⟨ws, e3, e4.trans e2⟩
theorem empty_all {α β : Type} (l : List α) (p : α → Bool) (f : α → β) : ((l.filter fun a => !p a).map f).isEmpty = l.all p := by
  induction l with
  | nil => rfl
  | cons a l ih =>
    cases h : p a with
    | true =>
      rw [List.filter_cons_of_neg (by rw [h]; decide), List.all_cons, h, ih]
      rfl
    | false =>
      rw [List.filter_cons_of_pos (by rw [h]; rfl), List.all_cons, h]
      rfl
theorem depth_ones {α : Type} (l : List α) : PyData.depthAll (l.map fun _ => PyData.int 1) ≤ 60 := Nat.le_trans (depthAll_le (n := 1) fun d hd => by
  obtain ⟨i, _, rfl⟩ := List.mem_map.mp hd
  simp [PyData.depth]) (by decide)
theorem owns_dues {n : Nat} {t0 : Tb} {ts : List Tb} (h : t0 ∈ ts) : (pcs n t0).filter (fun lot => ts.all fun t => decide (lot ∈ pcs n t)) = dues n ts := by
  unfold pcs dues
  rw [List.filter_filter]
  refine List.filter_congr fun lot hl => ?_
  rw [Bool.eq_iff_iff, Bool.and_eq_true, List.all_eq_true, List.all_eq_true]
  constructor
  · rintro ⟨h1, _⟩ t ht
    have := of_decide_eq_true (h1 t ht)
    rw [← isP_isPl]
    exact (List.mem_filter.mp this).2
  · intro h1
    refine ⟨fun t ht => decide_eq_true (List.mem_filter.mpr ⟨hl, by rw [isP_isPl]; exact h1 t ht⟩), ?_⟩
    rw [isP_isPl]
    exact h1 t0 h
section
variable {K : PySem.W.Frag} {m : Md} {σ : L2.St} {H H' : Hp} {ta tb te : TE}
theorem any_dN (lot : List Nat) (l : List (List Nat)) : (l.map dN).any (fun z => PyData.eqv z (dN lot)) = decide (lot ∈ l) := by
  rw [Bool.eq_iff_iff, List.any_eq_true, decide_eq_true_eq]
  constructor
  · rintro ⟨d, hd, h⟩
    obtain ⟨x, hx, rfl⟩ := List.mem_map.mp hd
    rw [eqv_dN] at h
    rw [← of_decide_eq_true h]
    exact hx
  · intro h
    exact ⟨dN lot, List.mem_map.mpr ⟨lot, h, rfl⟩, by rw [eqv_dN, decide_eq_true rfl]⟩
theorem ed_niDT {lot : List Nat} {l : List (List Nat)} (ha : ED K m ta σ H (dN lot)) (hb : ED K m tb σ H (.tuple (l.map dN))) : ED K m (tOp (rNotInDT K) ta tb) σ H (.bool (!decide (lot ∈ l))) :=
  ed_op ha hb fun x y H1 e p1 p2 Q q => by
    have h1 := depth_dT (iN lot)
    have h2 := depth_lots l
    refine ⟨dN lot, l.map dN, Rp.dp _ _ p1, Rp.dp _ _ p2, shape_of (Rp.lay _ _ p1) (Nat.le_trans h1 (by decide)), shape_of (Rp.lay _ _ p2) (by simp only [PyData.depth]; omega), ?_⟩
    rw [any_dN]
    exact q _ H1 (Rl.refl e.i) (.bl _)
theorem ed_inL {lot : List Nat} {l : List (List Nat)} (ha : ED K m ta σ H (dN lot)) (hb : EQ K m tb σ H (l.map dN)) : ED K m (tOp (rInD K) ta tb) σ H (.bool (decide (lot ∈ l))) :=
  ep_op ha st_rp hb (fun x y H1 _ e p1 p2 Q q => by
    obtain ⟨a, xs, rfl, _, hx, hX⟩ := p2
    have h1 := depth_dT (iN lot)
    have h2 := depth_lots l
    refine ⟨dN lot, l.map dN, Rp.dp _ _ p1, .lst (.inl (.inl hx)) (RpAll.dp _ _ hX), shape_of (Rp.lay _ _ p1) (Nat.le_trans h1 (by decide)), shape_of (RpAll.lay _ _ hX) (by simp only [PyData.depth]; omega), ?_⟩
    rw [any_dN]
    exact q _ H1 (Rl.refl e.i) (.bl _)) fun _ _ _ _ _ p => p
theorem ea_g1 {ds : List PyData} {tr : TA} (h : EA m tr σ H fun vs H2 => RpAll K H2 vs ds) (hl : ds.length = 1) : EA m tr σ H fun vs H2 => RpAll K H2 (g1 [] vs) ds := EA.imp h fun vs H2 _ p => by
  match ds, hl with
  | [d], _ =>
    obtain ⟨v, rfl, _⟩ := p.inv1
    exact p
theorem ea_g2 {d1 d2 : PyData} {tr : TA} (h : EA m tr σ H fun vs H2 => RpAll K H2 vs [d1, d2]) : EA m tr σ H fun vs H2 => RpAll K H2 (g2 [] vs) [d2, d1] := EA.imp h fun vs H2 _ p => by
  obtain ⟨v, w, rfl, a, b⟩ := p.inv2
  exact .cons b (.cons a .nil)
end
theorem t_next {D : Ends} {σ : L2.St} {H : Hp} (h : D.nx σ H) : tNext D σ H := h
section
variable {P : Program} {w : World} {K : PySem.W.Frag} {mg : Str → Option Value} {base : Heap}
/-! ### _law_is_right -/
def sp_law_is_right (K : PySem.W.Frag) : Sp := SpD (α := XTs) (fun _ a ws H => ∃ vt, ws = [vt] ∧ Rp K H vt (dTs a.n a.ts) ∧ TsOk a) (fun _ _ _ v _ => v = .bl true)
structure Fns (P : Program) (w : World) (K : PySem.W.Frag) (mg : Str → Option Value) (base : Heap) (k : Nat) (x : Str) (st : Stmt) (ps : List Str) (sp : Sp) (f : Addr) (fd : FuncData) : Prop where
  G : FnOk P w K mg base CX0 k f fd ps sp
  F : L2.Fun K x x st f fd
  b : L2.Binds K fd ps []
  g : mg x = some (.ref f)
theorem ok_law_is_right {f f1 f2 f3 f4 f5 f6 f7 f8 f9 f10 f11 : Addr} {fd fd1 fd2 fd3 fd4 fd5 fd6 fd7 fd8 fd9 fd10 fd11 : FuncData} (B : Bt mg) (F : L2.Fun K "_law_is_right" "_law_is_right" s_law_is_right f fd)
    (A1 : Fns P w K mg base 2 "together" s_together P_together (sp_together K) f1 fd1) (A2 : Fns P w K mg base 1 "_law_lots" s_law_lots P_law_lots (sp_law_lots K) f2 fd2)
    (A3 : Fns P w K mg base 1 "_law_is_piece" s_law_is_piece P_law_is_piece (sp_law_is_piece K) f3 fd3) (A4 : Fns P w K mg base 3 "pieces" s_pieces P_pieces (sp_pieces K) f4 fd4)
    (A5 : Fns P w K mg base 2 "_law_mixed" s_law_mixed P_law_mixed sp_law_mixed f5 fd5) (A6 : Fns P w K mg base 2 "is_piece" s_is_piece P_is_piece (sp_is_piece K) f6 fd6)
    (A7 : Fns P w K mg base 2 "_law_one" s_law_one P_law_one sp_law_one f7 fd7) (A8 : Fns P w K mg base 2 "telling" s_telling P_telling (sp_telling K) f8 fd8)
    (A9 : Fns P w K mg base 4 "least_piece" s_least_piece P_least_piece (sp_least_piece K) f9 fd9) (A10 : Fns P w K mg base 2 "_law_first_told" s_law_first_told P_law_first_told (sp_law_first_told K) f10 fd10)
    (A11 : Fns P w K mg base 1 "_law_telling" s_law_telling P_law_telling (sp_law_telling K) f11 fd11) :
    FnG P w K mg base 5 f fd P_law_is_right (sp_law_is_right K) := by
  have G_together := A1.G; have F_together := A1.F; have b_together := A1.b; have g_together := A1.g
  have G_law_lots := A2.G; have F_law_lots := A2.F; have b_law_lots := A2.b; have g_law_lots := A2.g
  have G_law_is_piece := A3.G; have F_law_is_piece := A3.F; have b_law_is_piece := A3.b; have g_law_is_piece := A3.g
  have G_pieces := A4.G; have F_pieces := A4.F; have b_pieces := A4.b; have g_pieces := A4.g
  have G_law_mixed := A5.G; have F_law_mixed := A5.F; have b_law_mixed := A5.b; have g_law_mixed := A5.g
  have G_is_piece := A6.G; have F_is_piece := A6.F; have b_is_piece := A6.b; have g_is_piece := A6.g
  have G_law_one := A7.G; have F_law_one := A7.F; have b_law_one := A7.b; have g_law_one := A7.g
  have G_telling := A8.G; have F_telling := A8.F; have b_telling := A8.b; have g_telling := A8.g
  have G_least_piece := A9.G; have F_least_piece := A9.F; have b_least_piece := A9.b; have g_least_piece := A9.g
  have G_law_first_told := A10.G; have F_law_first_told := A10.F; have b_law_first_told := A10.b; have g_law_first_told := A10.g
  have G_law_telling := A11.G; have F_law_telling := A11.F; have b_law_telling := A11.b; have g_law_telling := A11.g
  have k_together := kb_together F_together
  have k_telling := kb_telling F_telling
  have m_tuple := B.tuple_
  have m_list := B.list_
  have m_repr := B.repr_
  have m_range := B.range_
  refine fnG F sc_law_is_right (fun vs H Q E h => ?_) (fun cdv A outer s H vs Q E hgd hr h => ?_)
  · obtain ⟨k, x, ws, rfl, _, ⟨vt, rfl, _⟩, _⟩ := h
    rfl
  · obtain ⟨k, ⟨n, ts⟩, ws, rfl, hk, ⟨vt, rfl, ht, hok⟩, q⟩ := h
    have hu64 := hr.units
    have hu65 : (A.deeper (envOfC "_law_is_right" (defScope s_law_is_right) s.heap.objs.size f cdv)).units + 65 < cLine := by have := hr.un; omega
    refine ⟨_, (pss_cons (ps_asg (pe_tup (pa_cons (pe_ix (r := rIxT K) ix_tup (pe_ix (r := rIxT K) ix_tup (pv 1) pe_int (fun _ _ => rfl)) pe_int (fun _ _ => rfl)) (pa_cons (pe_call G_together (hr.mono (by decide)) (by rfl) g_together F_together.kp b_together .nil pass0 (pa_cons (pv 1) pa_nil)) pa_nil))) (pg_tup rfl (pgs_cons (pg_name (i := 2) sc_law_is_right.nd rfl (Or.inl rfl)) (pgs_cons (pg_name (i := 3) sc_law_is_right.nd rfl (Or.inr rfl)) pgs_nil))))
      (pss_cons (ps_set (i := 4) sc_law_is_right.nd rfl (Or.inl rfl) (pe_call G_law_lots (hr.mono (by decide)) (by rfl) g_law_lots F_law_lots.kp b_law_lots .nil pass0 (pa_cons (pv 2) pa_nil)))
      (pss_cons (ps_set (i := 5) sc_law_is_right.nd rfl (Or.inr rfl) (pe_lc (own := [("_law_lot", 9)]) rfl sc_law_is_right.nd (pi_listK (K := K) (pv 4)) (blkOk_by (N := N_law_is_right) (sc := (defScope s_law_is_right)) (by decide +kernel)) (fun _ _ _ _ _ => (pg_name (i := 9) sc_law_is_right.nd rfl (Or.inr rfl))) (fun _ _ _ _ _ => (pts_one (pt_cmpR (r := rEqD K) (op_eqD hu64) (pe_lc (own := [("_law_table_here", 14)]) rfl sc_law_is_right.nd (pi_tupK (K := K) (pv 1)) (blkOk_by (N := N_law_is_right) (sc := (relS _ (defScope s_law_is_right))) (by decide +kernel)) (fun _ _ _ _ _ => (pg_name (i := 14) sc_law_is_right.nd rfl (Or.inl rfl))) (fun _ _ _ _ _ => (pts_one (pt_not (pt_val (pe_call G_law_is_piece (hr.mono (by decide)) (by rfl) g_law_is_piece F_law_is_piece.kp b_law_is_piece .nil pass0 (pa_cons (pe_ix (r := rIxT K) ix_tup (pv 14) pe_int (fun _ _ => rfl)) (pa_cons (pv 9) pa_nil))))))) (fun _ _ _ _ _ => pe_int)) (pe_lst pa_nil) (nomark _)))) (fun _ _ _ _ _ => (pv 9))))
      (pss_cons (ps_if (PW.pt (pw_or (pt_cmpR op_ne (pe_callB (r := rRepr K) (call_repr hgd hu64) (by rfl) m_repr (by decide +kernel) (pa_cons (pe_call G_pieces (hr.mono (by decide)) (by rfl) g_pieces F_pieces.kp b_pieces .nil pass0 (pa_cons (pv 3) pa_nil)) pa_nil)) (pe_callB (r := rRepr K) (call_repr hgd hu64) (by rfl) m_repr (by decide +kernel) (pa_cons (pe_callTy (r := rTupOf K) call_tuple_of (by rfl) m_tuple (by decide +kernel) (pa_cons (pv 5) pa_nil)) pa_nil)) (nomark _)) (pw_or1 (pt_cmpR op_ne (pe_callB (r := rRepr K) (call_repr hgd hu64) (by rfl) m_repr (by decide +kernel) (pa_cons (pe_call G_pieces (hr.mono (by decide)) (by rfl) g_pieces F_pieces.kp b_pieces .nil pass0 (pa_cons (pe_callK0 G_together (hr.mono (by decide)) (by rfl) g_together F_together.kp k_together pass0 (pk_cons (pv 1) pk_nil)) pa_nil)) pa_nil)) (pe_callB (r := rRepr K) (call_repr hgd hu64) (by rfl) m_repr (by decide +kernel) (pa_cons (pe_callTy (r := rTupOf K) call_tuple_of (by rfl) m_tuple (by decide +kernel) (pa_cons (pv 5) pa_nil)) pa_nil)) (nomark _))))) (pss_one (ps_ret pe_bl)) pss_nil)
      (pss_cons (ps_set (i := 6) sc_law_is_right.nd rfl (Or.inr rfl) (pe_lc (own := [("_law_table_here", 14)]) rfl sc_law_is_right.nd (pi_tupK (K := K) (pv 1)) (blkOk_by (N := N_law_is_right) (sc := (defScope s_law_is_right)) (by decide +kernel)) (fun _ _ _ _ _ => (pg_name (i := 14) sc_law_is_right.nd rfl (Or.inl rfl))) (fun _ _ _ _ _ => pts_nil) (fun _ _ _ _ _ => (pe_call G_pieces (hr.mono (by decide)) (by rfl) g_pieces F_pieces.kp b_pieces .nil pass0 (pa_cons (pv 14) pa_nil)))))
      (pss_cons (ps_if (pt_cmpR (r := rNeD K) (op_neD hu64) (pe_lc (own := [("_law_lot", 9)]) rfl sc_law_is_right.nd (pi_tupK (K := K) (pe_ix (r := rIxL K) ix_list (pv 6) pe_int (fun _ _ => rfl))) (blkOk_by (N := N_law_is_right) (sc := (defScope s_law_is_right)) (by decide +kernel)) (fun _ _ _ _ _ => (pg_name (i := 9) sc_law_is_right.nd rfl (Or.inr rfl))) (fun _ _ _ _ _ => (pts_one (pt_cmpR (r := rEqD K) (op_eqD hu64) (pe_lc (own := [("_law_own", 15)]) rfl sc_law_is_right.nd (pi_listK (K := K) (pv 6)) (blkOk_by (N := N_law_is_right) (sc := (relS _ (defScope s_law_is_right))) (by decide +kernel)) (fun _ _ _ _ _ => (pg_name (i := 15) sc_law_is_right.nd rfl (Or.inl rfl))) (fun _ _ _ _ _ => (pts_one (pt_cmpR (r := rNotInDT K) (op_notInDT hu65) (pv 9) (pv 15) (by rfl)))) (fun _ _ _ _ _ => pe_int)) (pe_lst pa_nil) (nomark _)))) (fun _ _ _ _ _ => (pv 9))) (pv 5) (nomark _)) (pss_one (ps_ret pe_bl)) pss_nil)
      (pss_cons (ps_set (i := 7) sc_law_is_right.nd rfl (Or.inl rfl) (pe_callTy (r := rTupOf K) call_tuple_of (by rfl) m_tuple (by decide +kernel) (pa_cons (pe_call G_law_mixed (hr.mono (by decide)) (by rfl) g_law_mixed F_law_mixed.kp b_law_mixed .nil pass0 (pa_cons (pv 0) (pa_cons (pe_callTy (r := rListOf K) call_list_of (by rfl) m_list (by decide +kernel) (pa_cons (pv 1) pa_nil)) pa_nil))) pa_nil)))
      (pss_cons (ps_if (pt_cmpR op_ne (pe_callB (r := rRepr K) (call_repr hgd hu64) (by rfl) m_repr (by decide +kernel) (pa_cons (pe_call G_pieces (hr.mono (by decide)) (by rfl) g_pieces F_pieces.kp b_pieces .nil pass0 (pa_cons (pe_call G_together (hr.mono (by decide)) (by rfl) g_together F_together.kp b_together .nil pass0 (pa_cons (pv 7) pa_nil)) pa_nil)) pa_nil)) (pe_callB (r := rRepr K) (call_repr hgd hu64) (by rfl) m_repr (by decide +kernel) (pa_cons (pe_callTy (r := rTupOf K) call_tuple_of (by rfl) m_tuple (by decide +kernel) (pa_cons (pv 5) pa_nil)) pa_nil)) (nomark _)) (pss_one (ps_ret pe_bl)) pss_nil)
      (pss_cons (ps_if (pt_cmpR op_ne (pe_callB (r := rRepr K) (call_repr hgd hu64) (by rfl) m_repr (by decide +kernel) (pa_cons (pe_lc (own := [("_law_lot", 9)]) rfl sc_law_is_right.nd (pi_listK (K := K) (pv 4)) (blkOk_by (N := N_law_is_right) (sc := (defScope s_law_is_right)) (by decide +kernel)) (fun _ _ _ _ _ => (pg_name (i := 9) sc_law_is_right.nd rfl (Or.inl rfl))) (fun _ _ _ _ _ => pts_nil) (fun _ _ _ _ _ => (pe_call G_is_piece (hr.mono (by decide)) (by rfl) g_is_piece F_is_piece.kp b_is_piece .nil pass0 (pa_cons (pv 3) (pa_cons (pv 9) pa_nil))))) pa_nil)) (pe_callB (r := rRepr K) (call_repr hgd hu64) (by rfl) m_repr (by decide +kernel) (pa_cons (pe_lc (own := [("_law_lot", 9)]) rfl sc_law_is_right.nd (pi_listK (K := K) (pv 4)) (blkOk_by (N := N_law_is_right) (sc := (defScope s_law_is_right)) (by decide +kernel)) (fun _ _ _ _ _ => (pg_name (i := 9) sc_law_is_right.nd rfl (Or.inl rfl))) (fun _ _ _ _ _ => pts_nil) (fun _ _ _ _ _ => (pe_cmpR (r := rInD K) (op_inD hu65) (pv 9) (pv 5) (by rfl)))) pa_nil)) (nomark _)) (pss_one (ps_ret pe_bl)) pss_nil)
      (pss_cons (ps_for PassesOwn.never rfl (pi_range1 (by rfl) m_range (pa_cons pe_int pa_nil)) (pg_name (i := 8) sc_law_is_right.nd rfl (Or.inl rfl)) (pss_cons (ps_set (i := 9) sc_law_is_right.nd rfl (Or.inr rfl) (pe_call G_law_one (hr.mono (by decide)) (by rfl) g_law_one F_law_one.kp b_law_one .nil pass0 (pa_cons (pv 0) (pa_cons (pv 4) pa_nil))))
      (pss_cons (ps_set (i := 10) sc_law_is_right.nd rfl (Or.inl rfl) (pe_ix (r := rIxL K) ix_list (pe_lc (own := [("_law_own", 15)]) rfl sc_law_is_right.nd (pi_listK (K := K) (pv 5)) (blkOk_by (N := N_law_is_right) (sc := (defScope s_law_is_right)) (by decide +kernel)) (fun _ _ _ _ _ => (pg_name (i := 15) sc_law_is_right.nd rfl (Or.inr rfl))) (fun _ _ _ _ _ => (pts_one (pt_cmpR (r := rEqD K) (op_eqD hu64) (pe_lc (own := [("_law_thing", 16)]) rfl sc_law_is_right.nd (pi_tupK (K := K) (pv 9)) (blkOk_by (N := N_law_is_right) (sc := (relS _ (defScope s_law_is_right))) (by decide +kernel)) (fun _ _ _ _ _ => (pg_name (i := 16) sc_law_is_right.nd rfl (Or.inl rfl))) (fun _ _ _ _ _ => (pts_one (pt_cmpR (r := rIn K true) op_notIn_seq (pv 16) (pv 15) (by rfl)))) (fun _ _ _ _ _ => pe_int)) (pe_lst pa_nil) (nomark _)))) (fun _ _ _ _ _ => (pv 15))) pe_int (fun _ _ => rfl)))
      (pss_cons (ps_set (i := 11) sc_law_is_right.nd rfl (Or.inl rfl) (pe_lst (pa_cons (pe_call G_telling (hr.mono (by decide)) (by rfl) g_telling F_telling.kp b_telling .nil pass0 (pa_cons (pv 3) (pa_cons (pv 9) pa_nil))) (pa_cons (pe_callK0 G_telling (hr.mono (by decide)) (by rfl) g_telling F_telling.kp k_telling pass0 (pk_cons (pv 9) (pk_cons (pv 3) pk_nil))) (pa_cons (pe_call G_least_piece (hr.mono (by decide)) (by rfl) g_least_piece F_least_piece.kp b_least_piece .nil pass0 (pa_cons (pv 3) (pa_cons (pv 9) pa_nil))) pa_nil)))))
      (pss_cons (ps_set (i := 12) sc_law_is_right.nd rfl (Or.inl rfl) (pe_call G_law_first_told (hr.mono (by decide)) (by rfl) g_law_first_told F_law_first_told.kp b_law_first_told .nil pass0 (pa_cons (pv 1) (pa_cons (pv 9) pa_nil))))
      (pss_cons (ps_if (pt_cmpR op_ne (pe_callB (r := rRepr K) (call_repr hgd hu64) (by rfl) m_repr (by decide +kernel) (pa_cons (pv 11) pa_nil)) (pe_callB (r := rRepr K) (call_repr hgd hu64) (by rfl) m_repr (by decide +kernel) (pa_cons (pe_lst (pa_cons (pv 12) (pa_cons (pv 12) (pa_cons (pv 10) pa_nil)))) pa_nil)) (nomark _)) (pss_one (ps_ret pe_bl)) pss_nil)
      (pss_cons (ps_setLc (i := 13) (own := [("_law_table_here", 14)]) (by rfl) sc_law_is_right.nd rfl rfl (sw_true rfl rfl rfl (by decide +kernel)) (pi_tupK (K := K) (pv 1)) (blkOk_by (N := N_law_is_right) (sc := (defScope s_law_is_right)) (by decide +kernel)) (fun _ _ _ _ _ => (pg_name (i := 14) sc_law_is_right.nd rfl (Or.inl rfl))) (fun _ _ _ _ _ => pts_nil) (fun _ _ _ _ _ => (pe_call G_telling (hr.mono (by decide)) (by rfl) g_telling F_telling.kp b_telling .nil pass0 (pa_cons (pv 14) (pa_cons (pv 9) pa_nil)))))
      (pss_one (ps_if (pt_cmpR op_ne (pe_callB (r := rRepr K) (call_repr hgd hu64) (by rfl) m_repr (by decide +kernel) (pa_cons (pv 13) pa_nil)) (pe_callB (r := rRepr K) (call_repr hgd hu64) (by rfl) m_repr (by decide +kernel) (pa_cons (pe_lc (own := [("_law_table_here", 14)]) rfl sc_law_is_right.nd (pi_tupK (K := K) (pv 1)) (blkOk_by (N := N_law_is_right) (sc := (defScope s_law_is_right)) (by decide +kernel)) (fun _ _ _ _ _ => (pg_name (i := 14) sc_law_is_right.nd rfl (Or.inl rfl))) (fun _ _ _ _ _ => pts_nil) (fun _ _ _ _ _ => (pe_call G_law_telling (hr.mono (by decide)) (by rfl) g_law_telling F_law_telling.kp b_law_telling .nil pass0 (pa_cons (pe_ix (r := rIxT K) ix_tup (pv 14) pe_int (fun _ _ => rfl)) (pa_cons (pv 9) pa_nil))))) pa_nil)) (nomark _)) (pss_one (ps_ret pe_bl)) pss_nil)))))))))
      (pss_one (ps_ret pe_bl)))))))))))), ?_⟩
    obtain ⟨hn, hne, hl⟩ := id hok
    have hn : n ≤ 6 := hn
    have hne : ts ≠ [] := hne
    have hl : ts.length ≤ 100 := hl
    have ht : Rp K H vt (dTs n ts) := ht
    obtain ⟨t0, ht0⟩ : ∃ t0, ts[0]? = some t0 := by
      cases ts with
      | nil => exact absurd rfl hne
      | cons a b => exact ⟨a, rfl⟩
    have lotok : ∀ {lot}, lot ∈ lots n → n ≤ 64 ∧ lot.length ≤ 64 ∧ ∀ x ∈ lot, x < n := fun {lot} h => by
      obtain ⟨_, b2, b3⟩ := lots_all n hn lot h
      exact ⟨by omega, by omega, b2⟩
    have hcount := lots_len n hn
    have hpow : 2 ^ n ≤ 64 := Nat.pow_le_pow_right (n := 2) (by decide) hn
    have hdl : (dues n ts).length ≤ 64 := by
      have : (dues n ts).length ≤ (lots n).length := List.length_filter_le _ _
      omega
    have hdm : ∀ x ∈ dues n ts, x ∈ lots n := fun x hx => (List.mem_filter.mp hx).1
    refine q_unp2V (m := dmd k) (K := K) hk.i (eg_cons (P1 := fun v _ => v = .int (n : Nat)) (ED.ev (ed_ixT (i := 0) (d := .int (n : Nat)) (ed_ixT (i := 0) (d := dTab n t0) (ed_var rfl ht) ed_int (by rw [List.getElem?_map, ht0]; rfl)) ed_int rfl)) (fun _ _ _ _ h => h) (eg_one (P1 := fun v B => ∃ r, Rp K B v (dTab n r) ∧ Jn n ts r) (EvP.imp (ep_call (K := K) (⟨n, ts⟩ : XTs) hok (ea_one (ed_var rfl ht))) fun A v B _ p => ?_))) fun vs H1 e1 hvs => ?_
    · obtain ⟨d, ⟨r, rfl, hj⟩, hv⟩ := p
      exact ⟨r, hv, hj⟩
    obtain ⟨_, _, rfl, rfl, vw, rfl, r, hw1, hJ⟩ := hvs
    refine ⟨_, _, rfl, fun H2 e2 => ?_⟩
    have r2 := e1.trans e2
    have hw2 := hw1.rl e2
    refine q_asg (m := dmd k) r2.i (EL.eq (el_call (K := K) n hn (ea_one (ed_var rfl (.int _))))) fun v4 H3 e3 h4 => ?_
    have r3 := r2.trans e3
    have ht3 := ht.rl r3
    have hw3 := hw2.rl e3
    refine q_asg (m := dmd k) r3.i (EL.eq (el_lcD (K := K) (l := lots n) dN (fun lot => ts.all fun t => isPl n t lot) dN (ew_list (eq_var rfl h4)) (by omega) (fun lot x H4 hlot e p => ?_) (fun lot x H4 hlot e p _ => ed_var rfl p))) fun v5 H4 e4 h5 => ?_
    · refine et_test (ed_is (ed_eqL (K := K) (EL.eq (el_lcD (K := K) (l := ts) (dTab n) (fun t => !isPl n t lot) (fun _ => .int 1) (ew_tup (ed_var rfl (ht3.rl e))) (by omega) (fun t y H5 htt e' p' => et_not (et_B (ed_call (⟨n, t, lot⟩ : XLt) (lotok hlot) (ea_two (ed_ixT (i := 1) (ed_var rfl p') ed_int rfl) (ed_var rfl (p.rl e')))))) (fun t y H5 htt e' p' _ => ed_int))) (EL.eq (el_lst (K := K) (ds := []) ea_nil (Nat.zero_le _))) (depth_ones _) (by decide)) ?_)
      rw [eqvAll_nil, empty_all]
    have r4 := r3.trans e4
    have h5 : Lq K (dmd k) H4 v5 ((dues n ts).map dN) := h5
    obtain ⟨sD, bD⟩ := shw_lots hn hdm hdl
    have dueT : ∀ {σ : L2.St} {H' : Hp}, Rl (dmd k) H4 H' → σ[5]? = some (some v5) → EDp K (dmd k) (tCB (rTupOf K) (tCons (tVar 5) tNil)) σ H' (.tuple ((dues n ts).map dN)) := fun rr h => ED.dpT (ed_tupL (eq_var h (h5.rl rr)))
    have ht4 := ht.rl r4
    have hw4 := hw3.rl e4
    refine q_if (m := dmd k) r4.i (et_or (et_reprNe (ED.dpT (ed_is (ed_call (⟨n, r⟩ : XT) hn (ea_one (ed_var rfl hw4))) (by show PyData.tuple ((pcs n r).map dN) = _; rw [pcs_dues hn hJ]))) (dueT (Rl.refl r4.i) rfl) sD) fun _ => et_reprNe (ED.dpT (ep_callR1 (EvP.imp (ep_callK (K := K) (⟨n, ts⟩ : XTs) hok (ea_g1 (ea_one (ed_var rfl ht4)) rfl)) fun A v B _ p => ?_))) (dueT (Rl.refl r4.i) rfl) sD) (fun hb => absurd hb (by decide)) fun _ H5 e5 => ?_
    · obtain ⟨d, ⟨r', rfl, hj⟩, hv⟩ := p
      exact ⟨(⟨n, r'⟩ : XT), hn, RpAll.one hv, by show PyData.tuple ((pcs n r').map dN) = _; rw [pcs_dues hn hj]⟩
    have r5 := r4.trans e5
    refine q_asg (m := dmd k) r5.i (EL.eq (el_lcD (K := K) (l := ts) (dTab n) (fun _ => true) (fun t => .tuple ((pcs n t).map dN)) (ew_tup (ed_var rfl (ht.rl r5))) (by omega) (fun t x H6 htt e p => et_yes) (fun t x H6 htt e p _ => ed_call (⟨n, t⟩ : XT) hn (ea_one (ed_var rfl p))))) fun v6 H6 e6 h6 => ?_
    rw [List.filter_eq_self.mpr (fun _ _ => rfl)] at h6
    have r6 := r5.trans e6
    have r46 : Rl (dmd k) H4 H6 := e5.trans e6
    refine q_if (m := dmd k) r6.i (b := false) (et_test (ed_is (ed_neL (K := K) (EL.eq (el_lcD (K := K) (l := pcs n t0) dN (fun lot => ts.all fun t => decide (lot ∈ pcs n t)) dN (ew_tup (ed_ixL (i := 0) (eq_var rfl h6) ed_int (by rw [List.getElem?_map, ht0]; rfl))) (Nat.le_trans (List.length_filter_le _ _) (by omega)) (fun lot x H7 hlot e p => ?_) (fun lot x H7 hlot e p _ => ed_var rfl p))) (eq_var rfl (h5.rl r46)) (Nat.le_trans (depth_lots _) (by decide)) (Nat.le_trans (depth_lots _) (by decide))) ?_)) (fun hb => absurd hb (by decide)) fun _ H7 e7 => ?_
    · refine et_test (ed_is (ed_eqL (K := K) (EL.eq (el_lcD (K := K) (l := ts) (fun t => PyData.tuple ((pcs n t).map dN)) (fun t => !decide (lot ∈ pcs n t)) (fun _ => .int 1) (ew_list (eq_var rfl (h6.rl e))) (by omega) (fun t y H8 htt e' p' => et_test (K := K) (ed_niDT (ed_var rfl (p.rl e')) (ed_var rfl p'))) (fun t y H8 htt e' p' _ => ed_int))) (EL.eq (el_lst (K := K) (ds := []) ea_nil (Nat.zero_le _))) (depth_ones _) (by decide)) ?_)
      rw [eqvAll_nil, empty_all]
    · rw [owns_dues (List.mem_of_getElem? ht0), eqvAll_refl _ ?_]
      · rfl
      · obtain ⟨_, xs5, _, _, _, ha5⟩ := h5
        exact RpAll.lay _ _ ha5
    have r7 := r6.trans e7
    have r47 := r46.trans e7
    have hmix : EvP (dmd k) (tCall sp_law_mixed [] E0 (tCons (tVar 0) (tCons (tCB (rListOf K) (tCons (tVar 1) tNil)) tNil))) [some (.ref k.d), some vt, some (.int (n : Nat)), some vw, some v4, some v5, some v6, none, none, none, none, none, none, none, none, none, none] H7 fun _ v B => ∃ us : List Tb, us.Perm ts ∧ Lq K (dmd k) B v (us.map (dTab n)) := by
      refine ep_callD2 (R := fun v B => ∃ us : List Tb, us.Perm ts ∧ Lq K (dmd k) B v (us.map (dTab n))) (hk.rl r7) (EA.imp (eg_cons (P1 := fun v _ => v = .ref k.d) (ev_var rfl) (fun _ _ _ _ h => h) (eg_one (P1 := fun v B => ∃ p xs, v = .ref p ∧ ¬ (dmd k).M p ∧ B p = some (.lst xs) ∧ RpAll K B xs (ts.map (dTab n))) (fun H8 e8 Q q => ?_))) fun vs H8 r8 pp => ?_)
      · obtain ⟨a, xs, rfl, h1, h2⟩ := (ht.rl (r7.trans e8)).tup_inv
        exact ⟨.ref a, rfl, a, xs, rfl, .inr h1, fun l hl => q _ _ (Rl.new e8.i hl) ⟨l, xs, rfl, Md.notM e8.i hl, upd_same, h2.tk' (Tk.new hl)⟩⟩
      · obtain ⟨_, _, rfl, rfl, _, rfl, p, xs, rfl, hp1, hp2, hp3⟩ := pp
        have hxl : xs.length = ts.length := by rw [hp3.length, List.length_map]
        refine ⟨(p, xs), _, rfl, ⟨rfl, hp1, hp2, by show xs.length ≤ 1000; omega⟩, fun v H9 r9 hv => ?_⟩
        obtain ⟨qa, ys, rfl, g1, g2, g3⟩ := hv
        obtain ⟨es, a1, a2⟩ := RpAll.perm g3 (hp3.rl r9)
        obtain ⟨us, rfl, hus⟩ := perm_map_inv a1 ts rfl
        exact ⟨us, hus, qa, ys, rfl, Md.notM r8.i g1, g2, a2⟩
    refine q_asg (m := dmd k) (P := fun _ v B => ∃ us : List Tb, us.Perm ts ∧ Rp K B v (dTs n us)) r7.i (fun H8 e8 Q q => cb1 (hmix H8 e8 _ fun v H9 e9 hv => ?_)) fun v7 H8 e8 h7 => ?_
    · obtain ⟨us, hus, p, xs, rfl, hp1, hp2, hp3⟩ := hv
      exact ⟨p, xs, rfl, .inl ⟨.inl (.inl hp2), fun l hl => q _ _ (e9.trans (Rl.new e9.i hl)) ⟨us, hus, rp_tup upd_same (hp3.tk' (Tk.new hl))⟩⟩⟩
    obtain ⟨us, hus, h7⟩ := h7
    have r8 := r7.trans e8
    have r48 := r47.trans e8
    have huok : TsOk ⟨n, us⟩ := ⟨hn, fun z => hne (by
      have := hus.length_eq
      rw [show us = [] from z] at this
      exact List.eq_nil_of_length_eq_zero this.symm), by show us.length ≤ 100; rw [hus.length_eq]; exact hl⟩
    refine q_if (m := dmd k) r8.i (et_reprNe (ED.dpT (ep_callR1 (EvP.imp (ep_call (K := K) (⟨n, us⟩ : XTs) huok (ea_one (ed_var rfl h7))) fun A v B _ p => ?_))) (dueT r48 rfl) sD) (fun hb => absurd hb (by decide)) fun _ H9 e9 => ?_
    · obtain ⟨d, ⟨r', rfl, hj⟩, hv⟩ := p
      exact ⟨(⟨n, r'⟩ : XT), hn, RpAll.one hv, by show PyData.tuple ((pcs n r').map dN) = _; rw [pcs_dues hn hj, dues_perm hus]⟩
    have r9 := r8.trans e9
    have r49 := r48.trans e9
    have r39 : Rl (dmd k) H3 H9 := e4.trans r49
    have ebool : (lots n).map (fun lot => PyData.bool (decide (lot ∈ dues n ts))) = (lots n).map fun lot => PyData.bool (isP n r lot) := List.map_congr_left fun lot hlot => by
      congr 1
      rw [Bool.eq_iff_iff, decide_eq_true_eq, isP_all hJ (lotok hlot).2.2]
      exact ⟨fun h => (List.mem_filter.mp h).2, fun h => List.mem_filter.mpr ⟨hlot, h⟩⟩
    have sB : Shw (.list ((lots n).map fun lot => PyData.bool (isP n r lot))) := by
      refine ⟨smlAll_of fun d hd => ?_, ?_, ?_⟩
      · obtain ⟨x, _, rfl⟩ := List.mem_map.mp hd
        rfl
      · have := bulkAll_le (c := 0) (ds := (lots n).map fun lot => PyData.bool (isP n r lot)) fun d hd => by
          obtain ⟨x, _, rfl⟩ := List.mem_map.mp hd
          exact Nat.le_refl _
        rw [List.length_map] at this
        show PyData.bulkAll _ ≤ _
        omega
      · have := depthAll_le (n := 1) (ds := (lots n).map fun lot => PyData.bool (isP n r lot)) fun d hd => by
          obtain ⟨x, _, rfl⟩ := List.mem_map.mp hd
          simp [PyData.depth]
        simp only [PyData.depth]
        omega
    have hw9 := hw3.rl r39
    have h49 := h4.rl r39
    have hc1 := el_lcD (K := K) (m := dmd k) (σ := [some (.ref k.d), some vt, some (.int (n : Nat)), some vw, some v4, some v5, some v6, some v7, none, none, none, none, none, none, none, none, none]) (H := H9) (l := lots n) (j := 9) (tt := tYes) (te := tCall (sp_is_piece K) [] E0 (tCons (tVar 3) (tCons (tVar 9) tNil))) dN (fun _ => true) (fun lot => .bool (isP n r lot)) (ew_list (tl := tVar 4) (eq_var rfl h49)) (by omega) (fun lot x H10 hlot e p => et_yes) (fun lot x H10 hlot e p _ => ed_call (⟨n, r, lot⟩ : XLt) (lotok hlot) (ea_two (ed_var rfl (hw9.rl e)) (ed_var rfl p)))
    rw [List.filter_eq_self.mpr (fun _ _ => rfl)] at hc1
    have hc2 := el_lcD (K := K) (m := dmd k) (σ := [some (.ref k.d), some vt, some (.int (n : Nat)), some vw, some v4, some v5, some v6, some v7, none, none, none, none, none, none, none, none, none]) (H := H9) (l := lots n) (j := 9) (tt := tYes) (te := tOp (rInD K) (tVar 9) (tVar 5)) dN (fun _ => true) (fun lot => .bool (decide (lot ∈ dues n ts))) (ew_list (tl := tVar 4) (eq_var rfl h49)) (by omega) (fun lot x H10 hlot e p => et_yes) (fun lot x H10 hlot e p _ => ed_inL (ed_var rfl p) (eq_var rfl (h5.rl (r49.trans e))))
    rw [List.filter_eq_self.mpr (fun _ _ => rfl), ebool] at hc2
    refine t_next ?_
    refine q_if (m := dmd k) r9.i (et_reprNe (EQ.dpL (EL.eq hc1)) (EQ.dpL (EL.eq hc2)) sB) (fun hb => absurd hb (by decide)) fun _ H10 e10 => ?_
    have r10 := r9.trans e10
    have r410 := r49.trans e10
    have r310 := r39.trans e10
    refine t_next ?_
    refine q_forR1 (m := dmd k) (K := K) (n := 6) r10.i (ea_one ed_int) (by decide)
      (fun i σ H' => (∃ y8 y9 y10 y11 y12 y13, σ = [some (.ref k.d), some vt, some (.int (n : Nat)), some vw, some v4, some v5, some v6, some v7, y8, y9, y10, y11, y12, y13, none, none, none]) ∧ Rl (dmd k) H10 H')
      (fun H11 e11 => ⟨⟨none, none, none, none, none, none, rfl⟩, e11⟩) (fun i σ H11 hi hP => ?_) fun σ H11 hP => ?_
    · obtain ⟨⟨y8, y9, y10, y11, y12, y13, rfl⟩, r11⟩ := hP
      have q3 : Rl (dmd k) H3 H11 := r310.trans r11
      have q4 : Rl (dmd k) H4 H11 := r410.trans r11
      have q0 : Rl (dmd k) H H11 := r10.trans r11
      obtain ⟨p4, xs4, rfl, hp4, hp41, hx4⟩ := h4.rl q3
      have hx4l : xs4.length = (lots n).length := by rw [hx4.length, List.length_map]
      have hpos : 1 ≤ 2 ^ n := Nat.one_le_two_pow
      refine q_asg (m := dmd k) (P := fun _ v B => ∃ lot, lot ∈ lots n ∧ Rp K B v (dN lot)) q0.i (ep_callD2 (R := fun v B => ∃ lot, lot ∈ lots n ∧ Rp K B v (dN lot)) (hk.rl q0) (EA.imp (eg_cons (P1 := fun v _ => v = .ref k.d) (ev_var rfl) (fun _ _ _ _ h => h) (eg_one (P1 := fun v _ => v = .ref p4) (ev_var rfl))) fun vs H12 r12 pp => ?_)) fun v9 H12 e12 h9 => ?_
      · obtain ⟨_, _, rfl, rfl, _, rfl, rfl⟩ := pp
        refine ⟨(p4, xs4), _, rfl, ⟨rfl, hp4, r12.at hp4 hp41, by show 1 ≤ xs4.length; omega, by show xs4.length ≤ 100000; omega⟩, fun v H13 r13 hv => ?_⟩
        obtain ⟨j, hj, rfl⟩ := List.getElem_of_mem (show v ∈ xs4 from hv)
        obtain ⟨d, hd, hx⟩ := hx4.get' (List.getElem?_eq_getElem hj)
        rw [List.getElem?_map] at hd
        obtain ⟨lot, hlot, rfl⟩ := Option.map_eq_some_iff.mp hd
        exact ⟨lot, List.mem_of_getElem? hlot, hx.rl (r12.trans r13)⟩
      obtain ⟨lot, hlot, h9⟩ := h9
      obtain ⟨c1, c2, c3⟩ := lotok hlot
      have casc := (lots_all n hn lot hlot).1
      have q12 := q4.trans e12
      have hleast := least_first hn hJ casc c3
      refine q_asg (m := dmd k) (P := fun _ v B => Rp K B v (dN (leastP n r lot))) e12.i (ed_ixL (i := 0) (EL.eq (el_lcD (K := K) (l := dues n ts) dN (sup lot) dN (ew_list (eq_var rfl (h5.rl q12))) (by omega) (fun own x H13 hown e p => ?_) (fun own x H13 hown e p _ => ed_var rfl p))) ed_int ?_) fun v10 H13 e13 h10 => ?_
      · refine et_test (ed_is (ed_eqL (K := K) (EL.eq (el_lcD (K := K) (l := lot) (fun y : Nat => PyData.int ((y : Nat) : Int)) (fun y => !decide (y ∈ own)) (fun _ => .int 1) ?_ (by omega) (fun y v H14 hy e' p' => ?_) (fun y v H14 hy e' p' _ => ed_int))) (EL.eq (el_lst (K := K) (ds := []) ea_nil (Nat.zero_le _))) (depth_ones _) (by decide)) ?_)
        · rw [← iN_map]
          exact ew_tup (ed_var rfl (h9.rl e))
        · have hv := p'.int_inv
          subst hv
          refine et_test (K := K) (ed_is (ed_niT (ns := iN own) (ed_var rfl (.int _)) (ed_var rfl (p.rl e'))) ?_)
          congr 2
          exact decide_eq_decide.mpr iN_mem
        · rw [eqvAll_nil, empty_all]
          rfl
      · rw [List.getElem?_map, ← List.head?_eq_getElem?, hleast]
        rfl
      have q13 := (q3.trans e12).trans e13
      have hw13 := hw3.rl q13
      have h913 := h9.rl e13
      refine q_asg (m := dmd k) e13.i (EL.eq (el_lst (K := K) (ds := [dTold (told n r lot), dTold (told n r lot), dN (leastP n r lot)]) (ea_three (ed_call (⟨n, r, lot⟩ : XLt) ⟨c1, c2, c3⟩ (ea_two (ed_var rfl hw13) (ed_var rfl h913))) (ed_callK (⟨n, r, lot⟩ : XLt) ⟨c1, c2, c3⟩ (ea_g2 (ea_two (ed_var rfl h913) (ed_var rfl hw13)))) (ed_call (⟨n, r, lot⟩ : XLt) ⟨⟨c1, c2, c3⟩, casc.imp fun h => Nat.ne_of_lt h⟩ (ea_two (ed_var rfl hw13) (ed_var rfl h913)))) (by show 3 ≤ 100000; decide))) fun v11 H14 e14 h11 => ?_
      have r014 : Rl (dmd k) H H14 := ((q0.trans e12).trans e13).trans e14
      have ht14 := ht.rl r014
      have h914 := h913.rl e14
      refine q_asg (m := dmd k) (P := fun _ v B => Rp K B v (dTold (told n r lot))) r014.i (EvP.imp (ep_call (K := K) (⟨n, ts, lot⟩ : XTl) ⟨c1, c2, c3, by show ts.length ≤ 1000; omega⟩ (ea_two (ed_var rfl ht14) (ed_var rfl h914))) fun A v B _ p => ?_) fun v12 H15 e15 h12 => ?_
      · obtain ⟨d, ⟨o, rfl, ho⟩, hv⟩ := p
        rw [told_first hJ casc c3 ho]
        exact hv
      have r015 := r014.trans e15
      obtain ⟨s1, s2, s3⟩ := shw_told (r := r) hn c3
      have hS : sml (dN (leastP n r lot)) = true ∧ (dN (leastP n r lot)).bulk ≤ 6 := by
        obtain ⟨hnd, hlt⟩ := gr_nodup (r := r) (n + 1) lot (casc.imp fun h => Nat.ne_of_lt h) c3
        have hmem : ∀ x ∈ leastP n r lot, x < n := fun x hx => by
          unfold leastP at hx
          rw [srt_mem, List.mem_append] at hx
          exact hx.elim (c3 x) (hlt x)
        have hlen : (leastP n r lot).length ≤ n := nodup_len ((srt_perm _).nodup_iff.mpr hnd) hmem
        exact ⟨sml_dN fun x hx => by have := hmem x hx; omega, Nat.le_trans (bulk_dN _) (by omega)⟩
      have sT : Shw (.list [dTold (told n r lot), dTold (told n r lot), dN (leastP n r lot)]) := by
        have hd3 := depth_dT (iN (leastP n r lot))
        refine ⟨smlAll_of fun d hd => ?_, ?_, ?_⟩
        · simp only [List.mem_cons, List.not_mem_nil, or_false] at hd
          rcases hd with rfl | rfl | rfl
          · exact s1
          · exact s1
          · exact hS.1
        · show (dTold (told n r lot)).bulk + 1 + ((dTold (told n r lot)).bulk + 1 + ((dN (leastP n r lot)).bulk + 1 + 0)) ≤ _
          have := hS.2
          omega
        · have := depthAll_le (n := 2) (ds := [dTold (told n r lot), dTold (told n r lot), dN (leastP n r lot)]) fun d hd => by
            simp only [List.mem_cons, List.not_mem_nil, or_false] at hd
            rcases hd with rfl | rfl | rfl
            · exact s3
            · exact s3
            · exact hd3
          simp only [PyData.depth]
          omega
      have h10' := h10.rl (e14.trans e15)
      refine q_if (m := dmd k) r015.i (et_reprNe (EQ.dpL (eq_var rfl (h11.rl e15))) (EQ.dpL (EL.eq (el_lst (K := K) (ea_three (ed_var rfl h12) (ed_var rfl h12) (ed_var rfl h10')) (by show 3 ≤ 100000; decide)))) sT) (fun hb => absurd hb (by decide)) fun _ H16 e16 => ?_
      have r016 := r015.trans e16
      have ht16 := ht.rl r016
      have h916 := h914.rl (e15.trans e16)
      refine q_asg (m := dmd k) r016.i (EL.eq (el_lcD (K := K) (l := ts) (dTab n) (fun _ => true) (fun t => dTold (told n t lot)) (ew_tup (ed_var rfl ht16)) (by omega) (fun t x H17 htt e p => et_yes) (fun t x H17 htt e p _ => ed_call (⟨n, t, lot⟩ : XLt) ⟨c1, c2, c3⟩ (ea_two (ed_var rfl p) (ed_var rfl (h916.rl e)))))) fun v13 H17 e17 h13 => ?_
      rw [List.filter_eq_self.mpr (fun _ _ => rfl)] at h13
      have r017 := r016.trans e17
      have ht17 := ht.rl r017
      have h917 := h916.rl e17
      have sS : Shw (.list (ts.map fun t => dTold (told n t lot))) := by
        have hall : ∀ d ∈ ts.map (fun t => dTold (told n t lot)), sml d = true ∧ d.bulk ≤ 3 ∧ d.depth ≤ 2 := fun d hd => by
          obtain ⟨t, _, rfl⟩ := List.mem_map.mp hd
          exact shw_told hn c3
        refine ⟨smlAll_of fun d hd => (hall d hd).1, ?_, ?_⟩
        · have := bulkAll_le (c := 3) fun d hd => (hall d hd).2.1
          rw [List.length_map] at this
          show PyData.bulkAll _ ≤ _
          omega
        · have := depthAll_le (n := 2) fun d hd => (hall d hd).2.2
          simp only [PyData.depth]
          omega
      show tIfS _ _ _ _ _ _
      refine s_if (m := dmd k) r017.i (et_reprNe (d := .list (ts.map fun t => dTold (told n t lot))) (EQ.dpL (eq_var rfl h13)) (EQ.dpL (EL.eq ?c3)) sS) (fun hb => absurd hb (by decide)) fun _ H18 e18 => ?_
      case c3 =>
        have hc := el_lcD (K := K) (m := dmd k) (σ := [some (.ref k.d), some vt, some (.int (n : Nat)), some vw, some (.ref p4), some v5, some v6, some v7, some (.int (i : Nat)), some v9, some v10, some v11, some v12, some v13, none, none, none]) (H := H17) (l := ts) (j := 14) (tt := tYes) (te := tCall (sp_law_telling K) [] E0 (tCons (tOp (rIxT K) (tVar 14) (tC (.int 1))) (tCons (tVar 9) tNil))) (dTab n) (fun _ => true) (fun t => dTold (told n t lot)) (ew_tup (tl := tVar 1) (ed_var rfl ht17)) (by omega) (fun t x H18 htt e p => et_yes) (fun t x H18 htt e p _ => ed_call (⟨n, t, lot⟩ : XLt) ⟨c1, c2, c3⟩ (ea_two (ed_ixT (i := 1) (ed_var rfl p) ed_int rfl) (ed_var rfl (h917.rl e))))
        rw [List.filter_eq_self.mpr (fun _ _ => rfl)] at hc
        exact hc
      exact ⟨⟨_, _, _, _, _, _, rfl⟩, ((((((r11.trans e12).trans e13).trans e14).trans e15).trans e16).trans e17).trans e18⟩
    · obtain ⟨⟨y8, y9, y10, y11, y12, y13, rfl⟩, r11⟩ := hP
      exact s_ret (m := dmd k) (P := fun _ v _ => v = .bl true) r11.i ev_c fun v H12 e12 hv => q v H12 ((r10.trans r11).trans e12) hv
end
end PT

set_option Elab.async false
set_option linter.all false
set_option maxRecDepth 100000
set_option maxHeartbeats 4000000
namespace PT
open PySem PySem.Spec PyProof.Rows L2
section
variable {K : PySem.W.Frag} {m : Md} {σ : L2.St} {H H' : Hp} {ta tb te : TE}
theorem ex_cmp {g : Int → Int → Bool} {P1 P2 : Int → Prop} (ha : EZ m ta σ H P1) (hb : EZ m tb σ H P2) : EX m (tTest (tOp (rI0 fun i j => .bl (g i j)) ta tb)) σ H := fun H1 e Q q => ha H1 e _ fun x H2 e2 p1 => hb H2 (e.trans e2) _ fun y H3 e3 p2 => by
  obtain ⟨i, rfl, _⟩ := p1
  obtain ⟨j, rfl, _⟩ := p2
  exact ⟨i, j, rfl, rfl, _, rfl, q _ H3 (e2.trans e3)⟩
end
section
variable {P : Program} {w : World} {K : PySem.W.Frag} {mg : Str → Option Value} {base : Heap}
def spLaw (K : PySem.W.Frag) : Sp := fun vs H Q _ => ∃ (a : Addr) (ns : List Int), vs = [.ref a] ∧ SqL K H a (ns.map V.int) ∧ ns.length ≤ 63 ∧ ∀ H', Q (.bl true) H'
theorem ok_law {f f1 f2 f3 f4 f5 f6 f7 f8 : Addr} {fd fd1 fd2 fd3 fd4 fd5 fd6 fd7 fd8 : FuncData} (B : Bt mg) (F : L2.Fun K "law" "law" s_law f fd)
    (A1 : Fns P w K mg base 1 "_law_deck" s_law_deck P_law_deck (sp_law_deck K) f1 fd1) (A2 : Fns P w K mg base 1 "_law_draw" s_law_draw P_law_draw sp_law_draw f2 fd2)
    (A3 : Fns P w K mg base 6 "_law_world" s_law_world P_law_world (sp_law_world K) f3 fd3) (A4 : Fns P w K mg base 1 "_law_lots" s_law_lots P_law_lots (sp_law_lots K) f4 fd4)
    (A5 : Fns P w K mg base 1 "_law_is_piece" s_law_is_piece P_law_is_piece (sp_law_is_piece K) f5 fd5) (A6 : Fns P w K mg base 3 "pieces" s_pieces P_pieces (sp_pieces K) f6 fd6)
    (A7 : Fns P w K mg base 3 "both" s_both P_both (sp_both K) f7 fd7)
    (G_law_is_right : FnG P w K mg base 5 f8 fd8 P_law_is_right (sp_law_is_right K)) (F_law_is_right : L2.Fun K "_law_is_right" "_law_is_right" s_law_is_right f8 fd8) (b_law_is_right : L2.Binds K fd8 P_law_is_right []) (g_law_is_right : mg "_law_is_right" = some (.ref f8)) :
    FnG P w K mg base 7 f fd P_law (spLaw K) := by
  have G_law_deck := A1.G; have F_law_deck := A1.F; have b_law_deck := A1.b; have g_law_deck := A1.g
  have G_law_draw := A2.G; have F_law_draw := A2.F; have b_law_draw := A2.b; have g_law_draw := A2.g
  have G_law_world := A3.G; have F_law_world := A3.F; have b_law_world := A3.b; have g_law_world := A3.g
  have G_law_lots := A4.G; have F_law_lots := A4.F; have b_law_lots := A4.b; have g_law_lots := A4.g
  have G_law_is_piece := A5.G; have F_law_is_piece := A5.F; have b_law_is_piece := A5.b; have g_law_is_piece := A5.g
  have G_pieces := A6.G; have F_pieces := A6.F; have b_pieces := A6.b; have g_pieces := A6.g
  have G_both := A7.G; have F_both := A7.F; have b_both := A7.b; have g_both := A7.g
  have k_both := kb_both F_both
  have m_tuple := B.tuple_
  have m_repr := B.repr_
  have m_range := B.range_
  refine fnG F sc_law (fun vs H Q E h => ?_) (fun cdv A outer s H vs Q E hgd hr h => ?_)
  · obtain ⟨a, ns, rfl, _⟩ := h
    rfl
  · obtain ⟨a, ns, rfl, hS, hl, q⟩ := h
    have hu64 := hr.units
    refine ⟨_, (pss_cons (ps_set (i := 1) sc_law.nd rfl (Or.inl rfl) (pe_call G_law_deck (hr.mono (by decide)) (by rfl) g_law_deck F_law_deck.kp b_law_deck .nil pass0 (pa_cons (pv 0) pa_nil)))
      (pss_cons (ps_for PassesOwn.never rfl (pi_range1 (by rfl) m_range (pa_cons pe_int pa_nil)) (pg_name (i := 2) sc_law.nd rfl (Or.inl rfl)) (pss_cons (ps_set (i := 3) sc_law.nd rfl (Or.inl rfl) (pe_ifExp (pt_cmpR op_gt (pe_call G_law_draw (hr.mono (by decide)) (by rfl) g_law_draw F_law_draw.kp b_law_draw .nil pass0 (pa_cons (pv 1) (pa_cons pe_int pa_nil))) pe_int (nomark _)) (pe_ix (r := rIxL K) ix_list (pe_lst (pa_cons pe_int (pa_cons pe_int (pa_cons (pe_op op_add pe_int (pe_call G_law_draw (hr.mono (by decide)) (by rfl) g_law_draw F_law_draw.kp b_law_draw .nil pass0 (pa_cons (pv 1) (pa_cons pe_int pa_nil)))) pa_nil)))) (pv 2) (fun _ _ => rfl)) (pe_op op_add pe_int (pe_call G_law_draw (hr.mono (by decide)) (by rfl) g_law_draw F_law_draw.kp b_law_draw .nil pass0 (pa_cons (pv 1) (pa_cons pe_int pa_nil))))))
      (pss_cons (ps_set (i := 4) sc_law.nd rfl (Or.inl rfl) (pe_ifExp (pt_cmpR op_gt (pe_call G_law_draw (hr.mono (by decide)) (by rfl) g_law_draw F_law_draw.kp b_law_draw .nil pass0 (pa_cons (pv 1) (pa_cons pe_int pa_nil))) pe_int (nomark _)) (pe_ix (r := rIxL K) ix_list (pe_lst (pa_cons pe_int (pa_cons pe_int (pa_cons pe_int pa_nil)))) (pv 2) (fun _ _ => rfl)) (pe_call G_law_draw (hr.mono (by decide)) (by rfl) g_law_draw F_law_draw.kp b_law_draw .nil pass0 (pa_cons (pv 1) (pa_cons pe_int pa_nil)))))
      (pss_one (ps_if (pt_not (pt_val (pe_callG G_law_is_right (hr.mono (by decide)) hgd (by rfl) g_law_is_right F_law_is_right.kp b_law_is_right .nil pass0 (pa_cons (pv 1) (pa_cons (pe_call G_law_world (hr.mono (by decide)) (by rfl) g_law_world F_law_world.kp b_law_world .nil pass0 (pa_cons (pv 1) (pa_cons (pv 4) (pa_cons (pv 3) pa_nil)))) pa_nil))))) (pss_one (ps_ret pe_bl)) pss_nil)))))
      (pss_cons (ps_asg (pe_call G_law_world (hr.mono (by decide)) (by rfl) g_law_world F_law_world.kp b_law_world .nil pass0 (pa_cons (pv 1) (pa_cons pe_int (pa_cons pe_int pa_nil)))) (pg_tup rfl (pgs_cons (pg_name (i := 5) sc_law.nd rfl (Or.inr rfl)) (pgs_cons (pg_name (i := 6) sc_law.nd rfl (Or.inr rfl)) pgs_nil))))
      (pss_cons (ps_setLc (i := 7) (own := [("_law_lot", 8)]) (by rfl) sc_law.nd rfl rfl (sw_true rfl rfl rfl (by decide +kernel)) (pi_listK (K := K) (pe_call G_law_lots (hr.mono (by decide)) (by rfl) g_law_lots F_law_lots.kp b_law_lots .nil pass0 (pa_cons pe_int pa_nil))) (blkOk_by (N := N_law) (sc := (defScope s_law)) (by decide +kernel)) (fun _ _ _ _ _ => (pg_name (i := 8) sc_law.nd rfl (Or.inl rfl))) (fun _ _ _ _ _ => (pts_one (PW.pt (pw_and (pt_val (pe_call G_law_is_piece (hr.mono (by decide)) (by rfl) g_law_is_piece F_law_is_piece.kp b_law_is_piece .nil pass0 (pa_cons (pe_ix (r := rIxT K) ix_tup (pv 5) pe_int (fun _ _ => rfl)) (pa_cons (pv 8) pa_nil)))) (pw_and1 (pt_val (pe_call G_law_is_piece (hr.mono (by decide)) (by rfl) g_law_is_piece F_law_is_piece.kp b_law_is_piece .nil pass0 (pa_cons (pe_ix (r := rIxT K) ix_tup (pv 6) pe_int (fun _ _ => rfl)) (pa_cons (pv 8) pa_nil))))))))) (fun _ _ _ _ _ => (pv 8)))
      (pss_one (ps_ret (pe_cmpR op_eq (pe_callB (r := rRepr K) (call_repr hgd hu64) (by rfl) m_repr (by decide +kernel) (pa_cons (pe_lst (pa_cons (pe_call G_pieces (hr.mono (by decide)) (by rfl) g_pieces F_pieces.kp b_pieces .nil pass0 (pa_cons (pe_call G_both (hr.mono (by decide)) (by rfl) g_both F_both.kp b_both .nil pass0 (pa_cons (pv 5) (pa_cons (pv 6) pa_nil))) pa_nil)) (pa_cons (pe_call G_pieces (hr.mono (by decide)) (by rfl) g_pieces F_pieces.kp b_pieces .nil pass0 (pa_cons (pe_callK0 G_both (hr.mono (by decide)) (by rfl) g_both F_both.kp k_both pass0 (pk_cons (pv 5) (pk_cons (pv 6) pk_nil))) pa_nil)) pa_nil))) pa_nil)) (pe_callB (r := rRepr K) (call_repr hgd hu64) (by rfl) m_repr (by decide +kernel) (pa_cons (pe_op op_rep (pe_lst (pa_cons (pe_callTy (r := rTupOf K) call_tuple_of (by rfl) m_tuple (by decide +kernel) (pa_cons (pv 7) pa_nil)) pa_nil)) pe_int) pa_nil)) (nomark _)))))))), ?_⟩
    refine q_asg (m := m0) (P := fun _ v B => ∃ k : DkA, v = .ref k.d ∧ DkOk k B) i0 (fun H1 e Q q => ?_) fun v1 H1 e1 h1 => ?_
    · have hS1 : SqL K H1 a (ns.map V.int) := by
        rcases hS with (h | ⟨o, h⟩) | h
        · exact .inl (.inl (e.ex0 _ _ h))
        · exact .inl (.inr ⟨o, e.ex0 _ _ h⟩)
        · exact .inr h
      exact ⟨.ref a, rfl, a, ns, rfl, hS1, hl, fun v H2 k e2 ev hk => q v H2 (Rl.of0 e2) ⟨k, ev, hk⟩⟩
    obtain ⟨k, rfl, hk⟩ := h1
    have hworld : ∀ {σ : L2.St} {H' : Hp} {tn tm : TE} {n many : Nat}, Rl (dmd k) H1 H' → σ[1]? = some (some (.ref k.d)) → ED K (dmd k) tn σ H' (.int (n : Nat)) → ED K (dmd k) tm σ H' (.int (many : Nat)) → n ≤ 6 → 1 ≤ many → many ≤ 10 → EvP (dmd k) (tCall (sp_law_world K) [] E0 (tCons (tVar 1) (tCons tn (tCons tm tNil)))) σ H' fun _ v B => ∃ ts : List Tb, ts.length = many ∧ Rp K B v (dTs n ts) := fun {σ H' tn tm n many} rr h1 hn hm a1 a2 a3 =>
      ep_callD2 (R := fun v B => ∃ ts : List Tb, ts.length = many ∧ Rp K B v (dTs n ts)) (hk.rl rr) (EA.imp (eg_cons (P1 := fun v _ => v = .ref k.d) (ev_var h1) (fun _ _ _ _ h => h) (eg_cons (P1 := fun v _ => v = .int (n : Nat)) hn.ev (fun _ _ _ _ h => h) (eg_one (P1 := fun v _ => v = .int (many : Nat)) hm.ev))) fun vs H5 r5 pp => by
        obtain ⟨_, _, rfl, rfl, _, _, rfl, rfl, _, rfl, rfl⟩ := pp
        exact ⟨(n, many), _, rfl, ⟨rfl, by show n ≤ 10; omega, a2, by show many ≤ 50; omega⟩, fun v H6 r6 h => h⟩)
    refine q_forR1 (m := dmd k) (K := K) (n := 3) hk.i (ea_one ed_int) (by decide)
      (fun i σ H' => (∃ y2 y3 y4, σ = [some (.ref a), some (.ref k.d), y2, y3, y4, none, none, none, none]) ∧ Rl (dmd k) H1 H')
      (fun H2 e2 => ⟨⟨none, none, none, rfl⟩, e2⟩) (fun i σ H2 hi hP => ?_) fun σ H2 hP => ?_
    · obtain ⟨⟨y2, y3, y4, rfl⟩, r2⟩ := hP
      have hi3 : i < 3 := by omega
      refine q_asg (m := dmd k) (P := fun _ v _ => ∃ z : Nat, v = .int (z : Nat) ∧ 1 ≤ z ∧ z ≤ 10) r2.i (ep_ifx (ex_cmp (g := fun i j => decide (i > j)) (ez_draw (K := K) (n := 3) (hk.rl r2) rfl ed_int (by decide)) (ED.z (K := K) (C := fun _ => True) ed_int trivial)) ?_ ?_ fun _ _ _ _ _ h => h) fun v3 H3 e3 h3 => ?_
      · refine ep_op (P1 := fun v B => ∃ (p : Addr) (z : Nat), v = .ref p ∧ ¬ (dmd k).M p ∧ B p = some (.lst [.int 2, .int 3, .int (z : Nat)]) ∧ 1 ≤ z ∧ z ≤ 10) (P2 := fun v _ => v = .int (i : Nat)) (fun H3 e3 Q q => ?_) (fun v A B r h => ?_) (ev_var rfl) (fun x y H3 hI e p1 p2 Q q => ?_) fun _ _ _ _ _ h => h
        · refine eg_cons (m := dmd k) (P1 := fun v _ => v = .int 2) ev_c (fun _ _ _ _ h => h) (eg_cons (P1 := fun v _ => v = .int 3) ev_c (fun _ _ _ _ h => h) (eg_one (P1 := fun v _ => ∃ z : Nat, v = .int (z : Nat) ∧ 1 ≤ z ∧ z ≤ 10) (ep_op (P1 := fun v _ => v = .int 4) (P2 := fun v _ => ∃ r : Nat, v = .int (r : Nat) ∧ r < 3) ev_c (fun _ _ _ _ h => h) (ep_draw (K := K) (n := 3) (hk.rl r2) rfl ed_int (by decide)) (fun x y H4 hI e p1 p2 Q q => ?_) fun _ _ _ _ _ h => h))) H3 e3 _ fun vs H4 e4 pp => ?_
          · subst p1
            obtain ⟨r, rfl, hr⟩ := p2
            exact ⟨4, _, rfl, rfl, q _ H4 (Rl.refl e.i) ⟨4 + r, by norm_cast, by omega, by omega⟩⟩
          · obtain ⟨_, _, rfl, rfl, _, _, rfl, rfl, _, rfl, z, rfl, hz1, hz2⟩ := pp
            exact ⟨by show 3 ≤ sizeLine; decide, fun p hp => q _ _ (e4.trans (Rl.new e4.i hp)) ⟨p, z, rfl, Md.notM e4.i hp, upd_same, hz1, hz2⟩⟩
        · obtain ⟨p, z, h1, h2, h3, h4⟩ := h
          exact ⟨p, z, h1, h2, r.at h2 h3, h4⟩
        · subst p2
          obtain ⟨p, z, rfl, h2, h3, h4, h5⟩ := p1
          match i, hi3 with
          | 0, _ => exact ⟨p, _, _, _, rfl, rfl, .inl (.inl h3), atI_nat (j := 0) rfl, q _ H3 (Rl.refl e.i) ⟨2, rfl, by decide, by decide⟩⟩
          | 1, _ => exact ⟨p, _, _, _, rfl, rfl, .inl (.inl h3), atI_nat (j := 1) rfl, q _ H3 (Rl.refl e.i) ⟨3, rfl, by decide, by decide⟩⟩
          | 2, _ => exact ⟨p, _, _, _, rfl, rfl, .inl (.inl h3), atI_nat (j := 2) rfl, q _ H3 (Rl.refl e.i) ⟨z, rfl, h4, h5⟩⟩
      · exact ep_op (P1 := fun v _ => v = .int 1) (P2 := fun v _ => ∃ r : Nat, v = .int (r : Nat) ∧ r < 3) ev_c (fun _ _ _ _ h => h) (ep_draw (K := K) (n := 3) (hk.rl r2) rfl ed_int (by decide)) (fun x y H4 hI e p1 p2 Q q => by
          subst p1
          obtain ⟨r, rfl, hr⟩ := p2
          exact ⟨1, _, rfl, rfl, q _ H4 (Rl.refl e.i) ⟨1 + r, by norm_cast, by omega, by omega⟩⟩) fun _ _ _ _ _ h => h
      obtain ⟨many, rfl, hm1, hm2⟩ := h3
      have r3 := r2.trans e3
      refine q_asg (m := dmd k) (P := fun _ v _ => ∃ z : Nat, v = .int (z : Nat) ∧ z ≤ 6) r3.i (ep_ifx (ex_cmp (g := fun i j => decide (i > j)) (ez_draw (K := K) (n := 3) (hk.rl r3) rfl ed_int (by decide)) (ED.z (K := K) (C := fun _ => True) ed_int trivial)) ?_ ?_ fun _ _ _ _ _ h => h) fun v4 H4 e4 h4 => ?_
      · have hix : ∃ z : Nat, ([PyData.int 5, .int 5, .int 4])[i]? = some (.int (z : Nat)) ∧ z ≤ 6 := by
          match i, hi3 with
          | 0, _ => exact ⟨5, rfl, by decide⟩
          | 1, _ => exact ⟨5, rfl, by decide⟩
          | 2, _ => exact ⟨4, rfl, by decide⟩
        obtain ⟨z, hz1, hz2⟩ := hix
        exact EvP.imp (ed_ixL (K := K) (i := i) (EL.eq (el_lst (K := K) (ea_three ed_int ed_int ed_int) (by show 3 ≤ 100000; decide))) (ed_var rfl (.int _)) hz1) fun A v B _ p => ⟨z, p.int_inv, hz2⟩
      · exact EvP.imp (ep_draw (K := K) (n := 5) (hk.rl r3) rfl ed_int (by decide)) fun A v B _ p => by
          obtain ⟨r, e, h⟩ := p
          exact ⟨r, e, by omega⟩
      obtain ⟨n, rfl, hn⟩ := h4
      have r4 := r3.trans e4
      have hright : Ev (dmd k) (tCall (sp_law_is_right K) [] E0 (tCons (tVar 1) (tCons (tCall (sp_law_world K) [] E0 (tCons (tVar 1) (tCons (tVar 4) (tCons (tVar 3) tNil)))) tNil))) [some (.ref a), some (.ref k.d), some (.int (i : Nat)), some (.int (many : Nat)), some (.int (n : Nat)), none, none, none, none] H4 (.bl true) :=
        ep_callD2 (R := fun v _ => v = .bl true) (hk.rl r4) (EA.imp (eg_cons (P1 := fun v _ => v = .ref k.d) (ev_var rfl) (fun _ _ _ _ h => h) (eg_one (P1 := fun v B => ∃ ts : List Tb, ts.length = many ∧ Rp K B v (dTs n ts)) (hworld r4 rfl (ed_var rfl (.int _)) (ed_var rfl (.int _)) hn hm1 hm2))) fun vs H5 r5 pp => by
          obtain ⟨_, _, rfl, rfl, vt, rfl, ts, hts, hv⟩ := pp
          exact ⟨(⟨n, ts⟩ : XTs), _, rfl, ⟨vt, rfl, hv, hn, (fun z => by
            rw [show ts = [] from z] at hts
            have : 0 = many := hts
            omega), by show ts.length ≤ 100; omega⟩, fun v H6 r6 h => h⟩)
      show tIfS _ _ _ _ _ _
      refine s_if (m := dmd k) r4.i (et_not (et_B (K := K) (Ev.edb hright))) (fun hb => absurd hb (by decide)) fun _ H5 e5 => ?_
      exact ⟨⟨_, _, _, rfl⟩, r4.trans e5⟩
    · obtain ⟨⟨y2, y3, y4, rfl⟩, r2⟩ := hP
      refine hworld (n := 6) (many := 2) r2 rfl ed_int ed_int (Nat.le_refl _) (by decide) (by decide) H2 (Rl.refl r2.i) _ fun v H3 e3 hv => ?_
      obtain ⟨ts, hts, hv⟩ := hv
      obtain ⟨t1, t2, rfl⟩ : ∃ t1 t2, ts = [t1, t2] := by
        match ts, hts with
        | [t1, t2], _ => exact ⟨t1, t2, rfl⟩
      refine g_two (K := K) hv fun v5 v6 h5 h6 => ?_
      have r3 := r2.trans e3
      have lotok : ∀ {lot}, lot ∈ lots 6 → 6 ≤ 64 ∧ lot.length ≤ 64 ∧ ∀ x ∈ lot, x < 6 := fun {lot} h => by
        obtain ⟨_, b2, b3⟩ := lots_all 6 (Nat.le_refl _) lot h
        exact ⟨by omega, by omega, b2⟩
      have hcount := lots_len 6 (Nat.le_refl _)
      have hdl : (dues 6 [t1, t2]).length ≤ 64 := by
        have : (dues 6 [t1, t2]).length ≤ (lots 6).length := List.length_filter_le _ _
        have e64 : 2 ^ 6 = 64 := by decide
        omega
      have hdm : ∀ x ∈ dues 6 [t1, t2], x ∈ lots 6 := fun x hx => (List.mem_filter.mp hx).1
      obtain ⟨sD, bD⟩ := shw_lots (Nat.le_refl 6) hdm hdl
      have hq : EQ K (dmd k) (tCall (sp_law_lots K) [] E0 (tCons (tC (.int 6)) tNil)) [some (.ref a), some (.ref k.d), y2, y3, y4, some v5, some v6, none, none] H3 ((lots 6).map dN) := EL.eq (el_call (K := K) 6 (Nat.le_refl _) (ea_one ed_int))
      have hc0 := el_lcD (K := K) (m := dmd k) (σ := [some (.ref a), some (.ref k.d), y2, y3, y4, some v5, some v6, none, none]) (H := H3) (j := 8) (tt := tAnd (tB (tCall (sp_law_is_piece K) [] E0 (tCons (tOp (rIxT K) (tVar 5) (tC (.int 1))) (tCons (tVar 8) tNil)))) (tB (tCall (sp_law_is_piece K) [] E0 (tCons (tOp (rIxT K) (tVar 6) (tC (.int 1))) (tCons (tVar 8) tNil))))) (te := tVar 8) (l := lots 6) dN (fun lot => isPl 6 t1 lot && isPl 6 t2 lot) dN (ew_list hq) (by rw [hcount]; decide) (fun lot x H4 hlot e p => et_and (et_B (K := K) (ed_call (⟨6, t1, lot⟩ : XLt) (lotok hlot) (ea_two (ed_ixT (i := 1) (ed_var rfl (h5.rl e)) ed_int rfl) (ed_var rfl p)))) fun _ => et_B (K := K) (ed_call (⟨6, t2, lot⟩ : XLt) (lotok hlot) (ea_two (ed_ixT (i := 1) (ed_var rfl (h6.rl e)) ed_int rfl) (ed_var rfl p)))) (fun lot x H4 hlot e p _ => ed_var rfl p)
      have e0 : (lots 6).filter (fun lot => isPl 6 t1 lot && isPl 6 t2 lot) = dues 6 [t1, t2] := List.filter_congr fun lot _ => by
        show _ = (isPl 6 t1 lot && (isPl 6 t2 lot && true))
        rw [Bool.and_true]
      rw [e0] at hc0
      refine q_asg (m := dmd k) r3.i (EL.eq hc0) fun v7 H4 e4 h7 => ?_
      have r4 := r3.trans e4
      have h54 := h5.rl e4
      have h64 := h6.rl e4
      have sL : Shw (.list [.tuple ((dues 6 [t1, t2]).map dN), .tuple ((dues 6 [t1, t2]).map dN)]) := by
        refine ⟨smlAll_of fun d hd => ?_, ?_, ?_⟩
        · simp only [List.mem_cons, List.not_mem_nil, or_false, or_self] at hd
          rw [hd]
          exact sD.s
        · show (PyData.tuple ((dues 6 [t1, t2]).map dN)).bulk + 1 + ((PyData.tuple ((dues 6 [t1, t2]).map dN)).bulk + 1 + 0) ≤ _
          omega
        · have h1 := depth_lots (dues 6 [t1, t2])
          have := depthAll_le (n := 3) (ds := [PyData.tuple ((dues 6 [t1, t2]).map dN), .tuple ((dues 6 [t1, t2]).map dN)]) fun d hd => by
            simp only [List.mem_cons, List.not_mem_nil, or_false, or_self] at hd
            rw [hd]
            simp only [PyData.depth]
            omega
          simp only [PyData.depth] at this ⊢
          omega
      have hc1 : ED K (dmd k) (tCall (sp_pieces K) [] E0 (tCons (tCall (sp_both K) [] E0 (tCons (tVar 5) (tCons (tVar 6) tNil))) tNil)) [some (.ref a), some (.ref k.d), y2, y3, y4, some v5, some v6, some v7, none] H4 (.tuple ((dues 6 [t1, t2]).map dN)) := ep_callR1 (EvP.imp (ep_call (K := K) (⟨6, t1, t2⟩ : XBo) (Nat.le_refl _) (ea_two (ed_var rfl h54) (ed_var rfl h64))) fun A v B _ p => by
        obtain ⟨d, ⟨r', rfl, hj⟩, hv⟩ := p
        exact ⟨(⟨6, r'⟩ : XT), Nat.le_refl _, RpAll.one hv, by show PyData.tuple ((pcs 6 r').map dN) = _; rw [pcs_dues (Nat.le_refl _) hj]⟩)
      have hc2 : ED K (dmd k) (tCall (sp_pieces K) [] E0 (tCons (tCallK (sp_both K) g2 E0 tNil (tCons (tVar 5) (tCons (tVar 6) tNil))) tNil)) [some (.ref a), some (.ref k.d), y2, y3, y4, some v5, some v6, some v7, none] H4 (.tuple ((dues 6 [t1, t2]).map dN)) := ep_callR1 (EvP.imp (ep_callK (K := K) (⟨6, t2, t1⟩ : XBo) (Nat.le_refl _) (ea_g2 (ea_two (ed_var rfl h54) (ed_var rfl h64)))) fun A v B _ p => by
        obtain ⟨d, ⟨r', rfl, hj⟩, hv⟩ := p
        exact ⟨(⟨6, r'⟩ : XT), Nat.le_refl _, RpAll.one hv, by show PyData.tuple ((pcs 6 r').map dN) = _; rw [pcs_dues (Nat.le_refl _) hj, dues_perm (List.Perm.swap _ _ _)]⟩)
      refine s_ret (m := dmd k) r4.i (ed_reprEq (K := K) (EQ.dpL (EL.eq (el_lst (K := K) (ea_two hc1 hc2) (by show 2 ≤ 100000; decide)))) (EQ.dpL (EL.eq (el_rep (K := K) (n := 2) (ds := [.tuple ((dues 6 [t1, t2]).map dN)]) (EL.eq (el_lst (K := K) (ea_one (ed_tupL (eq_var rfl h7))) (by show 1 ≤ 100000; decide))) ed_int (by show 1 * 2 ≤ 100000; decide) (by decide)))) sL) fun v H5 e5 hv => ?_
      rw [hv.bl_inv]
      exact q H5
end
end PT

set_option Elab.async false
set_option linter.all false
set_option maxRecDepth 100000
set_option maxHeartbeats 4000000
namespace PT
open PySem PySem.Spec PyProof.Rows L2

/-! ### what the top has written (printed by mkend.py) -/
theorem all_mk {P : Program} {w : World} {K : PySem.W.Frag} {h : Heap} {mg : Str → Option Value} {fa f1 f2 f3 f4 f5 f6 f7 f8 f9 f10 f11 f12 f13 f14 f15 f16 f17 f18 f19 f20 f21 f22 f23 f24 f25 f26 f27 f28 : Addr} (X : K.In h) (G : h.Ns mainGlobals mg) (hfa : mg "law" = some (.ref fa))
    {od1 an1 od2 an2 od3 an3 od4 an4 od5 an5 od6 an6 od7 an7 od8 an8 od9 an9 od10 an10 od11 an11 od12 an12 od13 an13 od14 an14 od15 an15 od16 an16 od17 an17 od18 an18 od19 an19 od20 an20 od21 an21 od22 an22 od23 an23 od24 an24 od25 an25 od26 an26 od27 an27 od28 an28 : Option Addr} {sl1 sl2 sl3 sl4 sl5 sl6 sl7 sl8 sl9 sl10 sl11 sl12 sl13 sl14 sl15 sl16 sl17 sl18 sl19 sl20 sl21 sl22 sl23 sl24 sl25 sl26 sl27 sl28 : Array (Option Value)} {oc1 kV1 dc1 pm1 cd1 ct1 oc2 kV2 dc2 pm2 cd2 ct2 oc3 kV3 dc3 pm3 cd3 ct3 oc4 kV4 dc4 pm4 cd4 ct4 oc5 kV5 dc5 pm5 cd5 ct5 oc6 kV6 dc6 pm6 cd6 ct6 oc7 kV7 dc7 pm7 cd7 ct7 oc8 kV8 dc8 pm8 cd8 ct8 oc9 kV9 dc9 pm9 cd9 ct9 oc10 kV10 dc10 pm10 cd10 ct10 oc11 kV11 dc11 pm11 cd11 ct11 oc12 kV12 dc12 pm12 cd12 ct12 oc13 kV13 dc13 pm13 cd13 ct13 oc14 kV14 dc14 pm14 cd14 ct14 oc15 kV15 dc15 pm15 cd15 ct15 oc16 kV16 dc16 pm16 cd16 ct16 oc17 kV17 dc17 pm17 cd17 ct17 oc18 kV18 dc18 pm18 cd18 ct18 oc19 kV19 dc19 pm19 cd19 ct19 oc20 kV20 dc20 pm20 cd20 ct20 oc21 kV21 dc21 pm21 cd21 ct21 oc22 kV22 dc22 pm22 cd22 ct22 oc23 kV23 dc23 pm23 cd23 ct23 oc24 kV24 dc24 pm24 cd24 ct24 oc25 kV25 dc25 pm25 cd25 ct25 oc26 kV26 dc26 pm26 cd26 ct26 oc27 kV27 dc27 pm27 cd27 ct27 oc28 kV28 dc28 pm28 cd28 ct28 : Value}
    (a1 : PySem.W.nsIn K mainGlobals "lot_key" = some (some (.ref f1))) (l1 : K.lookup f1 = some ⟨oc1, od1, .func (PySem.W.fnOf "lot_key" "lot_key" (defArgs s_lot_key) (defBody s_lot_key) (defScope s_lot_key) .none kV1 dc1 pm1 an1 cd1 ct1), sl1⟩) (c1 : PySem.W.codeIn K cd1 "lot_key" = true) (k1 : PySem.W.keepIn K (.ref f1) = true)
    (a2 : PySem.W.nsIn K mainGlobals "parts_two" = some (some (.ref f2))) (l2 : K.lookup f2 = some ⟨oc2, od2, .func (PySem.W.fnOf "parts_two" "parts_two" (defArgs s_parts_two) (defBody s_parts_two) (defScope s_parts_two) .none kV2 dc2 pm2 an2 cd2 ct2), sl2⟩) (c2 : PySem.W.codeIn K cd2 "parts_two" = true) (k2 : PySem.W.keepIn K (.ref f2) = true)
    (a3 : PySem.W.nsIn K mainGlobals "telling" = some (some (.ref f3))) (l3 : K.lookup f3 = some ⟨oc3, od3, .func (PySem.W.fnOf "telling" "telling" (defArgs s_telling) (defBody s_telling) (defScope s_telling) .none kV3 dc3 pm3 an3 cd3 ct3), sl3⟩) (c3 : PySem.W.codeIn K cd3 "telling" = true) (k3 : PySem.W.keepIn K (.ref f3) = true)
    (a4 : PySem.W.nsIn K mainGlobals "is_piece" = some (some (.ref f4))) (l4 : K.lookup f4 = some ⟨oc4, od4, .func (PySem.W.fnOf "is_piece" "is_piece" (defArgs s_is_piece) (defBody s_is_piece) (defScope s_is_piece) .none kV4 dc4 pm4 an4 cd4 ct4), sl4⟩) (c4 : PySem.W.codeIn K cd4 "is_piece" = true) (k4 : PySem.W.keepIn K (.ref f4) = true)
    (a5 : PySem.W.nsIn K mainGlobals "growing" = some (some (.ref f5))) (l5 : K.lookup f5 = some ⟨oc5, od5, .func (PySem.W.fnOf "growing" "growing" (defArgs s_growing) (defBody s_growing) (defScope s_growing) .none kV5 dc5 pm5 an5 cd5 ct5), sl5⟩) (c5 : PySem.W.codeIn K cd5 "growing" = true) (k5 : PySem.W.keepIn K (.ref f5) = true)
    (a6 : PySem.W.nsIn K mainGlobals "least_piece" = some (some (.ref f6))) (l6 : K.lookup f6 = some ⟨oc6, od6, .func (PySem.W.fnOf "least_piece" "least_piece" (defArgs s_least_piece) (defBody s_least_piece) (defScope s_least_piece) .none kV6 dc6 pm6 an6 cd6 ct6), sl6⟩) (c6 : PySem.W.codeIn K cd6 "least_piece" = true) (k6 : PySem.W.keepIn K (.ref f6) = true)
    (a7 : PySem.W.nsIn K mainGlobals "pieces" = some (some (.ref f7))) (l7 : K.lookup f7 = some ⟨oc7, od7, .func (PySem.W.fnOf "pieces" "pieces" (defArgs s_pieces) (defBody s_pieces) (defScope s_pieces) .none kV7 dc7 pm7 an7 cd7 ct7), sl7⟩) (c7 : PySem.W.codeIn K cd7 "pieces" = true) (k7 : PySem.W.keepIn K (.ref f7) = true)
    (a8 : PySem.W.nsIn K mainGlobals "_glances" = some (some (.ref f8))) (l8 : K.lookup f8 = some ⟨oc8, od8, .func (PySem.W.fnOf "_glances" "_glances" (defArgs s_glances) (defBody s_glances) (defScope s_glances) .none kV8 dc8 pm8 an8 cd8 ct8), sl8⟩) (c8 : PySem.W.codeIn K cd8 "_glances" = true) (k8 : PySem.W.keepIn K (.ref f8) = true)
    (a9 : PySem.W.nsIn K mainGlobals "_need_one_size" = some (some (.ref f9))) (l9 : K.lookup f9 = some ⟨oc9, od9, .func (PySem.W.fnOf "_need_one_size" "_need_one_size" (defArgs s_need_one_size) (defBody s_need_one_size) (defScope s_need_one_size) .none kV9 dc9 pm9 an9 cd9 ct9), sl9⟩) (c9 : PySem.W.codeIn K cd9 "_need_one_size" = true) (k9 : PySem.W.keepIn K (.ref f9) = true)
    (a10 : PySem.W.nsIn K mainGlobals "together" = some (some (.ref f10))) (l10 : K.lookup f10 = some ⟨oc10, od10, .func (PySem.W.fnOf "together" "together" (defArgs s_together) (defBody s_together) (defScope s_together) .none kV10 dc10 pm10 an10 cd10 ct10), sl10⟩) (c10 : PySem.W.codeIn K cd10 "together" = true) (k10 : PySem.W.keepIn K (.ref f10) = true)
    (a11 : PySem.W.nsIn K mainGlobals "both" = some (some (.ref f11))) (l11 : K.lookup f11 = some ⟨oc11, od11, .func (PySem.W.fnOf "both" "both" (defArgs s_both) (defBody s_both) (defScope s_both) .none kV11 dc11 pm11 an11 cd11 ct11), sl11⟩) (c11 : PySem.W.codeIn K cd11 "both" = true) (k11 : PySem.W.keepIn K (.ref f11) = true)
    (a12 : PySem.W.nsIn K mainGlobals "_law_deck" = some (some (.ref f12))) (l12 : K.lookup f12 = some ⟨oc12, od12, .func (PySem.W.fnOf "_law_deck" "_law_deck" (defArgs s_law_deck) (defBody s_law_deck) (defScope s_law_deck) .none kV12 dc12 pm12 an12 cd12 ct12), sl12⟩) (c12 : PySem.W.codeIn K cd12 "_law_deck" = true) (k12 : PySem.W.keepIn K (.ref f12) = true)
    (a13 : PySem.W.nsIn K mainGlobals "_law_draw" = some (some (.ref f13))) (l13 : K.lookup f13 = some ⟨oc13, od13, .func (PySem.W.fnOf "_law_draw" "_law_draw" (defArgs s_law_draw) (defBody s_law_draw) (defScope s_law_draw) .none kV13 dc13 pm13 an13 cd13 ct13), sl13⟩) (c13 : PySem.W.codeIn K cd13 "_law_draw" = true) (k13 : PySem.W.keepIn K (.ref f13) = true)
    (a14 : PySem.W.nsIn K mainGlobals "_law_one" = some (some (.ref f14))) (l14 : K.lookup f14 = some ⟨oc14, od14, .func (PySem.W.fnOf "_law_one" "_law_one" (defArgs s_law_one) (defBody s_law_one) (defScope s_law_one) .none kV14 dc14 pm14 an14 cd14 ct14), sl14⟩) (c14 : PySem.W.codeIn K cd14 "_law_one" = true) (k14 : PySem.W.keepIn K (.ref f14) = true)
    (a15 : PySem.W.nsIn K mainGlobals "_law_mixed" = some (some (.ref f15))) (l15 : K.lookup f15 = some ⟨oc15, od15, .func (PySem.W.fnOf "_law_mixed" "_law_mixed" (defArgs s_law_mixed) (defBody s_law_mixed) (defScope s_law_mixed) .none kV15 dc15 pm15 an15 cd15 ct15), sl15⟩) (c15 : PySem.W.codeIn K cd15 "_law_mixed" = true) (k15 : PySem.W.keepIn K (.ref f15) = true)
    (a16 : PySem.W.nsIn K mainGlobals "_law_block" = some (some (.ref f16))) (l16 : K.lookup f16 = some ⟨oc16, od16, .func (PySem.W.fnOf "_law_block" "_law_block" (defArgs s_law_block) (defBody s_law_block) (defScope s_law_block) .none kV16 dc16 pm16 an16 cd16 ct16), sl16⟩) (c16 : PySem.W.codeIn K cd16 "_law_block" = true) (k16 : PySem.W.keepIn K (.ref f16) = true)
    (a17 : PySem.W.nsIn K mainGlobals "_law_put" = some (some (.ref f17))) (l17 : K.lookup f17 = some ⟨oc17, od17, .func (PySem.W.fnOf "_law_put" "_law_put" (defArgs s_law_put) (defBody s_law_put) (defScope s_law_put) .none kV17 dc17 pm17 an17 cd17 ct17), sl17⟩) (c17 : PySem.W.codeIn K cd17 "_law_put" = true) (k17 : PySem.W.keepIn K (.ref f17) = true)
    (a18 : PySem.W.nsIn K mainGlobals "_law_seated" = some (some (.ref f18))) (l18 : K.lookup f18 = some ⟨oc18, od18, .func (PySem.W.fnOf "_law_seated" "_law_seated" (defArgs s_law_seated) (defBody s_law_seated) (defScope s_law_seated) .none kV18 dc18 pm18 an18 cd18 ct18), sl18⟩) (c18 : PySem.W.codeIn K cd18 "_law_seated" = true) (k18 : PySem.W.keepIn K (.ref f18) = true)
    (a19 : PySem.W.nsIn K mainGlobals "_law_table" = some (some (.ref f19))) (l19 : K.lookup f19 = some ⟨oc19, od19, .func (PySem.W.fnOf "_law_table" "_law_table" (defArgs s_law_table) (defBody s_law_table) (defScope s_law_table) .none kV19 dc19 pm19 an19 cd19 ct19), sl19⟩) (c19 : PySem.W.codeIn K cd19 "_law_table" = true) (k19 : PySem.W.keepIn K (.ref f19) = true)
    (a20 : PySem.W.nsIn K mainGlobals "_law_looks" = some (some (.ref f20))) (l20 : K.lookup f20 = some ⟨oc20, od20, .func (PySem.W.fnOf "_law_looks" "_law_looks" (defArgs s_law_looks) (defBody s_law_looks) (defScope s_law_looks) .none kV20 dc20 pm20 an20 cd20 ct20), sl20⟩) (c20 : PySem.W.codeIn K cd20 "_law_looks" = true) (k20 : PySem.W.keepIn K (.ref f20) = true)
    (a21 : PySem.W.nsIn K mainGlobals "_law_kin" = some (some (.ref f21))) (l21 : K.lookup f21 = some ⟨oc21, od21, .func (PySem.W.fnOf "_law_kin" "_law_kin" (defArgs s_law_kin) (defBody s_law_kin) (defScope s_law_kin) .none kV21 dc21 pm21 an21 cd21 ct21), sl21⟩) (c21 : PySem.W.codeIn K cd21 "_law_kin" = true) (k21 : PySem.W.keepIn K (.ref f21) = true)
    (a22 : PySem.W.nsIn K mainGlobals "_law_world" = some (some (.ref f22))) (l22 : K.lookup f22 = some ⟨oc22, od22, .func (PySem.W.fnOf "_law_world" "_law_world" (defArgs s_law_world) (defBody s_law_world) (defScope s_law_world) .none kV22 dc22 pm22 an22 cd22 ct22), sl22⟩) (c22 : PySem.W.codeIn K cd22 "_law_world" = true) (k22 : PySem.W.keepIn K (.ref f22) = true)
    (a23 : PySem.W.nsIn K mainGlobals "_law_lots" = some (some (.ref f23))) (l23 : K.lookup f23 = some ⟨oc23, od23, .func (PySem.W.fnOf "_law_lots" "_law_lots" (defArgs s_law_lots) (defBody s_law_lots) (defScope s_law_lots) .none kV23 dc23 pm23 an23 cd23 ct23), sl23⟩) (c23 : PySem.W.codeIn K cd23 "_law_lots" = true) (k23 : PySem.W.keepIn K (.ref f23) = true)
    (a24 : PySem.W.nsIn K mainGlobals "_law_is_piece" = some (some (.ref f24))) (l24 : K.lookup f24 = some ⟨oc24, od24, .func (PySem.W.fnOf "_law_is_piece" "_law_is_piece" (defArgs s_law_is_piece) (defBody s_law_is_piece) (defScope s_law_is_piece) .none kV24 dc24 pm24 an24 cd24 ct24), sl24⟩) (c24 : PySem.W.codeIn K cd24 "_law_is_piece" = true) (k24 : PySem.W.keepIn K (.ref f24) = true)
    (a25 : PySem.W.nsIn K mainGlobals "_law_telling" = some (some (.ref f25))) (l25 : K.lookup f25 = some ⟨oc25, od25, .func (PySem.W.fnOf "_law_telling" "_law_telling" (defArgs s_law_telling) (defBody s_law_telling) (defScope s_law_telling) .none kV25 dc25 pm25 an25 cd25 ct25), sl25⟩) (c25 : PySem.W.codeIn K cd25 "_law_telling" = true) (k25 : PySem.W.keepIn K (.ref f25) = true)
    (a26 : PySem.W.nsIn K mainGlobals "_law_first_told" = some (some (.ref f26))) (l26 : K.lookup f26 = some ⟨oc26, od26, .func (PySem.W.fnOf "_law_first_told" "_law_first_told" (defArgs s_law_first_told) (defBody s_law_first_told) (defScope s_law_first_told) .none kV26 dc26 pm26 an26 cd26 ct26), sl26⟩) (c26 : PySem.W.codeIn K cd26 "_law_first_told" = true) (k26 : PySem.W.keepIn K (.ref f26) = true)
    (a27 : PySem.W.nsIn K mainGlobals "_law_is_right" = some (some (.ref f27))) (l27 : K.lookup f27 = some ⟨oc27, od27, .func (PySem.W.fnOf "_law_is_right" "_law_is_right" (defArgs s_law_is_right) (defBody s_law_is_right) (defScope s_law_is_right) .none kV27 dc27 pm27 an27 cd27 ct27), sl27⟩) (c27 : PySem.W.codeIn K cd27 "_law_is_right" = true) (k27 : PySem.W.keepIn K (.ref f27) = true)
    (a28 : PySem.W.nsIn K mainGlobals "law" = some (some (.ref f28))) (l28 : K.lookup f28 = some ⟨oc28, od28, .func (PySem.W.fnOf "law" "law" (defArgs s_law) (defBody s_law) (defScope s_law) .none kV28 dc28 pm28 an28 cd28 ct28), sl28⟩) (c28 : PySem.W.codeIn K cd28 "law" = true) (k28 : PySem.W.keepIn K (.ref f28) = true)
    (z1 : PySem.W.nsIn K mainGlobals "len" = some none)
    (z2 : PySem.W.nsIn K mainGlobals "tuple" = some none)
    (z3 : PySem.W.nsIn K mainGlobals "list" = some none)
    (z4 : PySem.W.nsIn K mainGlobals "int" = some none)
    (z5 : PySem.W.nsIn K mainGlobals "abs" = some none)
    (z6 : PySem.W.nsIn K mainGlobals "any" = some none)
    (z7 : PySem.W.nsIn K mainGlobals "sorted" = some none)
    (z8 : PySem.W.nsIn K mainGlobals "min" = some none)
    (z9 : PySem.W.nsIn K mainGlobals "repr" = some none)
    (z10 : PySem.W.nsIn K mainGlobals "enumerate" = some none)
    (z11 : PySem.W.nsIn K mainGlobals "range" = some none)
    (z12 : PySem.W.nsIn K mainGlobals "set" = some none)
    : ∃ fd : FuncData, (∀ (s : Shared) (v : Value), BindsTo s fd ⟨[v], []⟩ [("_law_script", v)]) ∧ ∀ base : Heap, K.In base → base.Ns mainGlobals mg → FnG P w K mg base 7 fa fd ["_law_script"] (spLaw K) := by
  have e := hfa.symm.trans (PySem.W.mg_of X G a28)
  cases e
  have F1 := fun_mk (st := s_lot_key) l1 c1 k1
  have g1 := PySem.W.mg_of X G a1
  have F2 := fun_mk (st := s_parts_two) l2 c2 k2
  have b2 := F2.binds (ps := P_parts_two) fun _ _ _ _ _ _ us hl => match us, hl with | [_, _, _, _], _ => rfl
  have g2 := PySem.W.mg_of X G a2
  have F3 := fun_mk (st := s_telling) l3 c3 k3
  have b3 := F3.binds (ps := P_telling) fun _ _ _ _ _ _ us hl => match us, hl with | [_, _], _ => rfl
  have g3 := PySem.W.mg_of X G a3
  have F4 := fun_mk (st := s_is_piece) l4 c4 k4
  have b4 := F4.binds (ps := P_is_piece) fun _ _ _ _ _ _ us hl => match us, hl with | [_, _], _ => rfl
  have g4 := PySem.W.mg_of X G a4
  have F5 := fun_mk (st := s_growing) l5 c5 k5
  have b5 := F5.binds (ps := P_growing) fun _ _ _ _ _ _ us hl => match us, hl with | [_, _], _ => rfl
  have g5 := PySem.W.mg_of X G a5
  have F6 := fun_mk (st := s_least_piece) l6 c6 k6
  have b6 := F6.binds (ps := P_least_piece) fun _ _ _ _ _ _ us hl => match us, hl with | [_, _], _ => rfl
  have g6 := PySem.W.mg_of X G a6
  have F7 := fun_mk (st := s_pieces) l7 c7 k7
  have b7 := F7.binds (ps := P_pieces) fun _ _ _ _ _ _ us hl => match us, hl with | [_], _ => rfl
  have g7 := PySem.W.mg_of X G a7
  have F8 := fun_mk (st := s_glances) l8 c8 k8
  have b8 := F8.binds (ps := P_glances) fun _ _ _ _ _ _ us hl => match us, hl with | [_], _ => rfl
  have g8 := PySem.W.mg_of X G a8
  have F9 := fun_mk (st := s_need_one_size) l9 c9 k9
  have b9 := F9.binds (ps := P_need_one_size) fun _ _ _ _ _ _ us hl => match us, hl with | [_], _ => rfl
  have g9 := PySem.W.mg_of X G a9
  have F10 := fun_mk (st := s_together) l10 c10 k10
  have b10 := F10.binds (ps := P_together) fun _ _ _ _ _ _ us hl => match us, hl with | [_], _ => rfl
  have g10 := PySem.W.mg_of X G a10
  have F11 := fun_mk (st := s_both) l11 c11 k11
  have b11 := F11.binds (ps := P_both) fun _ _ _ _ _ _ us hl => match us, hl with | [_, _], _ => rfl
  have g11 := PySem.W.mg_of X G a11
  have F12 := fun_mk (st := s_law_deck) l12 c12 k12
  have b12 := F12.binds (ps := P_law_deck) fun _ _ _ _ _ _ us hl => match us, hl with | [_], _ => rfl
  have g12 := PySem.W.mg_of X G a12
  have F13 := fun_mk (st := s_law_draw) l13 c13 k13
  have b13 := F13.binds (ps := P_law_draw) fun _ _ _ _ _ _ us hl => match us, hl with | [_, _], _ => rfl
  have g13 := PySem.W.mg_of X G a13
  have F14 := fun_mk (st := s_law_one) l14 c14 k14
  have b14 := F14.binds (ps := P_law_one) fun _ _ _ _ _ _ us hl => match us, hl with | [_, _], _ => rfl
  have g14 := PySem.W.mg_of X G a14
  have F15 := fun_mk (st := s_law_mixed) l15 c15 k15
  have b15 := F15.binds (ps := P_law_mixed) fun _ _ _ _ _ _ us hl => match us, hl with | [_, _], _ => rfl
  have g15 := PySem.W.mg_of X G a15
  have F16 := fun_mk (st := s_law_block) l16 c16 k16
  have b16 := F16.binds (ps := P_law_block) fun _ _ _ _ _ _ us hl => match us, hl with | [_, _, _], _ => rfl
  have g16 := PySem.W.mg_of X G a16
  have F17 := fun_mk (st := s_law_put) l17 c17 k17
  have b17 := F17.binds (ps := P_law_put) fun _ _ _ _ _ _ us hl => match us, hl with | [_, _, _], _ => rfl
  have g17 := PySem.W.mg_of X G a17
  have F18 := fun_mk (st := s_law_seated) l18 c18 k18
  have b18 := F18.binds (ps := P_law_seated) fun _ _ _ _ _ _ us hl => match us, hl with | [_, _], _ => rfl
  have g18 := PySem.W.mg_of X G a18
  have F19 := fun_mk (st := s_law_table) l19 c19 k19
  have b19 := F19.binds (ps := P_law_table) fun _ _ _ _ _ _ us hl => match us, hl with | [_, _, _], _ => rfl
  have g19 := PySem.W.mg_of X G a19
  have F20 := fun_mk (st := s_law_looks) l20 c20 k20
  have b20 := F20.binds (ps := P_law_looks) fun _ _ _ _ _ _ us hl => match us, hl with | [_], _ => rfl
  have g20 := PySem.W.mg_of X G a20
  have F21 := fun_mk (st := s_law_kin) l21 c21 k21
  have b21 := F21.binds (ps := P_law_kin) fun _ _ _ _ _ _ us hl => match us, hl with | [_, _, _], _ => rfl
  have g21 := PySem.W.mg_of X G a21
  have F22 := fun_mk (st := s_law_world) l22 c22 k22
  have b22 := F22.binds (ps := P_law_world) fun _ _ _ _ _ _ us hl => match us, hl with | [_, _, _], _ => rfl
  have g22 := PySem.W.mg_of X G a22
  have F23 := fun_mk (st := s_law_lots) l23 c23 k23
  have b23 := F23.binds (ps := P_law_lots) fun _ _ _ _ _ _ us hl => match us, hl with | [_], _ => rfl
  have g23 := PySem.W.mg_of X G a23
  have F24 := fun_mk (st := s_law_is_piece) l24 c24 k24
  have b24 := F24.binds (ps := P_law_is_piece) fun _ _ _ _ _ _ us hl => match us, hl with | [_, _], _ => rfl
  have g24 := PySem.W.mg_of X G a24
  have F25 := fun_mk (st := s_law_telling) l25 c25 k25
  have b25 := F25.binds (ps := P_law_telling) fun _ _ _ _ _ _ us hl => match us, hl with | [_, _], _ => rfl
  have g25 := PySem.W.mg_of X G a25
  have F26 := fun_mk (st := s_law_first_told) l26 c26 k26
  have b26 := F26.binds (ps := P_law_first_told) fun _ _ _ _ _ _ us hl => match us, hl with | [_, _], _ => rfl
  have g26 := PySem.W.mg_of X G a26
  have F27 := fun_mk (st := s_law_is_right) l27 c27 k27
  have b27 := F27.binds (ps := P_law_is_right) fun _ _ _ _ _ _ us hl => match us, hl with | [_, _], _ => rfl
  have g27 := PySem.W.mg_of X G a27
  have F28 := fun_mk (st := s_law) l28 c28 k28
  have g28 := PySem.W.mg_of X G a28
  have B : Bt mg := ⟨PySem.W.mg_none_of X G z1, PySem.W.mg_none_of X G z2, PySem.W.mg_none_of X G z3, PySem.W.mg_none_of X G z4, PySem.W.mg_none_of X G z5, PySem.W.mg_none_of X G z6, PySem.W.mg_none_of X G z7, PySem.W.mg_none_of X G z8, PySem.W.mg_none_of X G z9, PySem.W.mg_none_of X G z10, PySem.W.mg_none_of X G z11, PySem.W.mg_none_of X G z12⟩
  refine ⟨PySem.W.fnOf "law" "law" (defArgs s_law) (defBody s_law) (defScope s_law) .none kV28 dc28 pm28 an28 cd28 ct28, fun s v => .of_eq rfl, fun base _ _ => ?_⟩
  have G2 : FnOk P w K mg base CX0 1 f2 _ P_parts_two (sp_parts_two K) := ok_parts_two F2
  have G3 : FnOk P w K mg base CX0 2 f3 _ P_telling (sp_telling K) := ok_telling B F3 F2 b2 g2
  have G4 : FnOk P w K mg base CX0 2 f4 _ P_is_piece (sp_is_piece K) := ok_is_piece B F4 F2 b2 g2
  have G5 : FnOk P w K mg base CX0 3 f5 _ P_growing (sp_growing K) := ok_growing B F5 (Nat.le_refl 2) G3 F3 b3 g3
  have G6 : FnOk P w K mg base CX0 4 f6 _ P_least_piece (sp_least_piece K) := ok_least_piece B F6 G5 F5 b5 g5
  have G7 : FnOk P w K mg base CX0 3 f7 _ P_pieces (sp_pieces K) := ok_pieces B F7 G4 F4 b4 g4 F1 g1
  have G8 : FnOk P w K mg base CX0 1 f8 _ P_glances (sp_glances K) := ok_glances B F8
  have G9 : FnOk P w K mg base CX0 1 f9 _ P_need_one_size (sp_need_one_size K) := ok_need_one_size B F9
  have G10 : FnOk P w K mg base CX0 2 f10 _ P_together (sp_together K) := ok_together B F10 G9 F9 b9 g9 G8 F8 b8 g8
  have G11 : FnOk P w K mg base CX0 3 f11 _ P_both (sp_both K) := ok_both F11 G10 F10 b10 g10
  have G12 : FnOk P w K mg base CX0 1 f12 _ P_law_deck (sp_law_deck K) := ok_law_deck B F12
  have G13 : FnOk P w K mg base CX0 1 f13 _ P_law_draw (sp_law_draw) := ok_law_draw B F13
  have G14 : FnOk P w K mg base CX0 2 f14 _ P_law_one (sp_law_one) := ok_law_one B F14 G13 F13 b13 g13
  have G15 : FnOk P w K mg base CX0 2 f15 _ P_law_mixed (sp_law_mixed) := ok_law_mixed B F15 G13 F13 b13 g13
  have G16 : FnOk P w K mg base CX0 3 f16 _ P_law_block (sp_law_block) := ok_law_block B F16 G13 F13 b13 g13 G14 F14 b14 g14
  have G17 : FnOk P w K mg base CX0 1 f17 _ P_law_put (sp_law_put) := ok_law_put B F17
  have G18 : FnOk P w K mg base CX0 1 f18 _ P_law_seated (sp_law_seated K) := ok_law_seated B F18
  have G19 : FnOk P w K mg base CX0 4 f19 _ P_law_table (sp_law_table K) := ok_law_table B F19 G13 F13 b13 g13 G14 F14 b14 g14 G15 F15 b15 g15 G16 F16 b16 g16 G17 F17 b17 g17 G18 F18 b18 g18
  have G20 : FnOk P w K mg base CX0 3 f20 _ P_law_looks (sp_law_looks) := ok_law_looks F20 G14 F14 b14 g14
  have G21 : FnOk P w K mg base CX0 5 f21 _ P_law_kin (sp_law_kin K) := ok_law_kin B F21 G13 F13 b13 g13 G14 F14 b14 g14 G19 F19 b19 g19
  have G22 : FnOk P w K mg base CX0 6 f22 _ P_law_world (sp_law_world K) := ok_law_world B F22 G20 F20 b20 g20 G14 F14 b14 g14 G19 F19 b19 g19 G21 F21 b21 g21
  have G23 : FnOk P w K mg base CX0 1 f23 _ P_law_lots (sp_law_lots K) := ok_law_lots B F23
  have G24 : FnOk P w K mg base CX0 1 f24 _ P_law_is_piece (sp_law_is_piece K) := ok_law_is_piece B F24
  have G25 : FnOk P w K mg base CX0 1 f25 _ P_law_telling (sp_law_telling K) := ok_law_telling B F25
  have G26 : FnOk P w K mg base CX0 2 f26 _ P_law_first_told (sp_law_first_told K) := ok_law_first_told B F26 G25 F25 b25 g25
  have G27 : FnG P w K mg base 5 f27 _ P_law_is_right (sp_law_is_right K) := ok_law_is_right B F27 ⟨G10, F10, b10, g10⟩ ⟨G23, F23, b23, g23⟩ ⟨G24, F24, b24, g24⟩ ⟨G7, F7, b7, g7⟩ ⟨G15, F15, b15, g15⟩ ⟨G4, F4, b4, g4⟩ ⟨G14, F14, b14, g14⟩ ⟨G3, F3, b3, g3⟩ ⟨G6, F6, b6, g6⟩ ⟨G26, F26, b26, g26⟩ ⟨G25, F25, b25, g25⟩
  exact ok_law B F28 ⟨G12, F12, b12, g12⟩ ⟨G13, F13, b13, g13⟩ ⟨G22, F22, b22, g22⟩ ⟨G23, F23, b23, g23⟩ ⟨G24, F24, b24, g24⟩ ⟨G7, F7, b7, g7⟩ ⟨G11, F11, b11, g11⟩ G27 F27 b27 g27
end PT

set_option Elab.async false
set_option linter.all false
set_option maxRecDepth 100000
open PySem PySem.W PyProof.Rows
set_option maxHeartbeats 0 in
theorem PySem.Challenge.cw_piecetrees_k74_whole_pieces_of_tables_to_holds : PySem.Challenge.rw_piecetrees_k74_whole_pieces_of_tables_to.Holds := by
  w_on; o_law; k_head; (case hw => w_witness2)
  k_fill
  refine PT.walk_ofG (l := PySem.Challenge.rw_piecetrees_k74_whole_pieces_of_tables_to) (n := 63) (k := 7) (x := "_law_script") (sp := fun w => PT.spLaw _) rfl (by decide) rfl ⟨rfl, by decide, by decide⟩ (fun w h Y => PySem.W.kIn_of Y) ?F (fun _ _ a ns hl hS => ⟨a, ns, rfl, hS, hl, fun _ => rfl⟩)
  case F =>
    intro w mg fa h KX G hmg
    refine' PT.all_mk KX G hmg ?a1 ?l1 ?c1 ?k1 ?a2 ?l2 ?c2 ?k2 ?a3 ?l3 ?c3 ?k3 ?a4 ?l4 ?c4 ?k4 ?a5 ?l5 ?c5 ?k5 ?a6 ?l6 ?c6 ?k6 ?a7 ?l7 ?c7 ?k7 ?a8 ?l8 ?c8 ?k8 ?a9 ?l9 ?c9 ?k9 ?a10 ?l10 ?c10 ?k10 ?a11 ?l11 ?c11 ?k11 ?a12 ?l12 ?c12 ?k12 ?a13 ?l13 ?c13 ?k13 ?a14 ?l14 ?c14 ?k14 ?a15 ?l15 ?c15 ?k15 ?a16 ?l16 ?c16 ?k16 ?a17 ?l17 ?c17 ?k17 ?a18 ?l18 ?c18 ?k18 ?a19 ?l19 ?c19 ?k19 ?a20 ?l20 ?c20 ?k20 ?a21 ?l21 ?c21 ?k21 ?a22 ?l22 ?c22 ?k22 ?a23 ?l23 ?c23 ?k23 ?a24 ?l24 ?c24 ?k24 ?a25 ?l25 ?c25 ?k25 ?a26 ?l26 ?c26 ?k26 ?a27 ?l27 ?c27 ?k27 ?a28 ?l28 ?c28 ?k28 ?z1 ?z2 ?z3 ?z4 ?z5 ?z6 ?z7 ?z8 ?z9 ?z10 ?z11 ?z12
    (case a1 => k_is); (case l1 => k_is); (case c1 => k_is); (case k1 => k_is); (case a2 => k_is); (case l2 => k_is); (case c2 => k_is); (case k2 => k_is); (case a3 => k_is); (case l3 => k_is); (case c3 => k_is); (case k3 => k_is); (case a4 => k_is); (case l4 => k_is); (case c4 => k_is); (case k4 => k_is); (case a5 => k_is); (case l5 => k_is); (case c5 => k_is); (case k5 => k_is); (case a6 => k_is); (case l6 => k_is); (case c6 => k_is); (case k6 => k_is); (case a7 => k_is); (case l7 => k_is); (case c7 => k_is); (case k7 => k_is); (case a8 => k_is); (case l8 => k_is); (case c8 => k_is); (case k8 => k_is); (case a9 => k_is); (case l9 => k_is); (case c9 => k_is); (case k9 => k_is); (case a10 => k_is); (case l10 => k_is); (case c10 => k_is); (case k10 => k_is); (case a11 => k_is); (case l11 => k_is); (case c11 => k_is); (case k11 => k_is); (case a12 => k_is); (case l12 => k_is); (case c12 => k_is); (case k12 => k_is); (case a13 => k_is); (case l13 => k_is); (case c13 => k_is); (case k13 => k_is); (case a14 => k_is); (case l14 => k_is); (case c14 => k_is); (case k14 => k_is); (case a15 => k_is); (case l15 => k_is); (case c15 => k_is); (case k15 => k_is); (case a16 => k_is); (case l16 => k_is); (case c16 => k_is); (case k16 => k_is); (case a17 => k_is); (case l17 => k_is); (case c17 => k_is); (case k17 => k_is); (case a18 => k_is); (case l18 => k_is); (case c18 => k_is); (case k18 => k_is); (case a19 => k_is); (case l19 => k_is); (case c19 => k_is); (case k19 => k_is); (case a20 => k_is); (case l20 => k_is); (case c20 => k_is); (case k20 => k_is); (case a21 => k_is); (case l21 => k_is); (case c21 => k_is); (case k21 => k_is); (case a22 => k_is); (case l22 => k_is); (case c22 => k_is); (case k22 => k_is); (case a23 => k_is); (case l23 => k_is); (case c23 => k_is); (case k23 => k_is); (case a24 => k_is); (case l24 => k_is); (case c24 => k_is); (case k24 => k_is); (case a25 => k_is); (case l25 => k_is); (case c25 => k_is); (case k25 => k_is); (case a26 => k_is); (case l26 => k_is); (case c26 => k_is); (case k26 => k_is); (case a27 => k_is); (case l27 => k_is); (case c27 => k_is); (case k27 => k_is); (case a28 => k_is); (case l28 => k_is); (case c28 => k_is); (case k28 => k_is); (case z1 => k_is); (case z2 => k_is); (case z3 => k_is); (case z4 => k_is); (case z5 => k_is); (case z6 => k_is); (case z7 => k_is); (case z8 => k_is); (case z9 => k_is); (case z10 => k_is); (case z11 => k_is); (case z12 => k_is)
