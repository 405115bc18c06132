import PyProof.Rows.All
import HandS.ForMost
import HandS.IsInst
import HandS.Style
import HandS.Flow
import HandS.Zip
import HandS.TupAny
import HandS.SortInts
import HandS.Defaults
import HandS.Lambda
import HandS.EndTab
import HandS.DictComp
import HandS.Wide
import KE.SortKeyHeap
import PySem.Challenge.RW_plainstore_k16_whole_missed_papers
import HandS.Star
import HandS.SetFor
import HandS.Conv
import KE.KRevSl
import KE.GoesMore
import HandS.Dict
import KE.KDictSum
import HandS.TryOnly
import HandS.Head0
import HandS.Head1
import HandS.Head2
import HandS.HeadHook4
import HandS.HeadWalk
import HandS.Codes
set_option Elab.async false
set_option linter.all false
set_option maxRecDepth 100000
set_option maxHeartbeats 4000000
/-! A data level: what an expression, a block, a def makes of plain data. -/
namespace KM
open PySem PySem.Spec PyProof.Rows L2

/-! ### heaps that grow -/
abbrev Tbl : Type := List (Addr × Str)
/-- what was known is known, the lambdas' tables stay tables -/
def Gr (T : Tbl) (H H' : Hp) : Prop := LamX.ExtN H H' ∧ (LamX.Tabs T H → LamX.Tabs T H')
/-- p is no known object (but perhaps a table) -/
def New (H : Hp) (p : Addr) : Prop := ∀ o, H p = some o → ∃ ps, o = .tbl ps
theorem Gr.refl {T : Tbl} (H : Hp) : Gr T H H := ⟨LamX.ExtN.refl H, id⟩
theorem Gr.trans {T : Tbl} {H H1 H2 : Hp} (a : Gr T H H1) (b : Gr T H1 H2) : Gr T H H2 := ⟨a.1.trans b.1, fun t => b.2 (a.2 t)⟩
theorem Gr.all {T : Tbl} {H H' : Hp} (e : ∀ b o, H b = some o → H' b = some o) : Gr T H H' := ⟨LamX.ExtN.of e, fun t => t.ext e⟩
theorem Gr.new {T : Tbl} {H : Hp} {p : Addr} {o : HO} (h : H p = none) : Gr T H (upd H p o) := Gr.all fun b u e => by rw [upd_ne (ne_of_none e h)]; exact e
theorem New.of {H : Hp} {p : Addr} (h : H p = none) : New H p := fun o e => by rw [h] at e; cases e
theorem New.back {T : Tbl} {H H' : Hp} {p : Addr} (g : Gr T H H') (h : New H' p) : New H p := fun o e => by
  cases o with
  | tbl ps => exact ⟨ps, rfl⟩
  | _ => exact h _ (g.1 p _ e (fun ps z => by cases z))
theorem Gr.back {T : Tbl} {H H' : Hp} {p : Addr} (g : Gr T H H') (h : H' p = none) : New H p := New.back g (New.of h)
theorem New.ne {H : Hp} {p b : Addr} {o : HO} (h : New H p) (e : H b = some o) (n : ∀ ps, o ≠ .tbl ps) : b ≠ p := fun z => by
  subst z
  obtain ⟨ps, q⟩ := h o e
  exact n ps q
theorem tabs_late {T : Tbl} {H : Hp} {p : Addr} {o u : HO} (hp : H p = some u) (n1 : ∀ ps, u ≠ .tbl ps) (n2 : ∀ q, u ≠ LamX.CodeO p q) (t : LamX.Tabs T H) : LamX.Tabs T (upd H p o) := fun x hx => by
  obtain ⟨ps, a, b, c⟩ := t x hx
  refine ⟨ps, ?_, b, fun pos cv hc => ?_⟩
  · rw [upd_ne (fun z => n1 ps (by rw [← z, a] at hp; exact (Option.some.inj hp).symm))]
    exact a
  · obtain ⟨d, e1, e2⟩ := c pos cv hc
    refine ⟨d, e1, ?_⟩
    rw [upd_ne (fun z => n2 x.2 (by rw [z] at e2; rw [hp] at e2; exact Option.some.inj e2))]
    exact e2
/-- an object that H does not know (u now) is changed -/
theorem Gr.late {T : Tbl} {H H' : Hp} {p : Addr} {o u : HO} (g : Gr T H H') (h : New H p) (hp : H' p = some u) (n1 : ∀ ps, u ≠ .tbl ps := by intro _ z; cases z) (n2 : ∀ q, u ≠ LamX.CodeO p q := by intro _ z; cases z) : Gr T H (upd H' p o) :=
  ⟨fun b v e n => by rw [upd_ne (h.ne e n)]; exact g.1 b v e n, fun z => tabs_late hp n1 n2 (g.2 z)⟩
theorem Gr.lst {T : Tbl} {H H' : Hp} (g : Gr T H H') {a : Addr} {xs : List V} (h : H a = some (.lst xs)) : H' a = some (.lst xs) := g.1 a _ h (fun _ z => by cases z)
theorem Gr.tup {T : Tbl} {H H' : Hp} (g : Gr T H H') {a : Addr} {xs : List V} (h : H a = some (.tup xs)) : H' a = some (.tup xs) := g.1 a _ h (fun _ z => by cases z)
theorem Gr.ins {T : Tbl} {H H' : Hp} (g : Gr T H H') {a C dx : Addr} {fs : List (Str × V)} (h : H a = some (.ins C dx fs)) : H' a = some (.ins C dx fs) := g.1 a _ h (fun _ z => by cases z)
theorem Gr.dK {T : Tbl} {H H' : Hp} (g : Gr T H H') {a : Addr} {kvs : List (Key × V)} (h : H a = some (.dK kvs)) : H' a = some (.dK kvs) := g.1 a _ h (fun _ z => by cases z)
section
variable {K : PySem.W.Frag} {T : Tbl} {H H' : Hp}
theorem gr_rd {a : Addr} {u : HO} (g : Gr T H H') (h : Rd H a u) (n : ∀ ps, u ≠ .tbl ps) : Rd H' a u := by
  rcases h with h | ⟨o, h⟩
  · exact .inl (g.1 a _ h n)
  · exact .inr ⟨o, g.1 a _ h (fun ps z => by cases z)⟩
theorem Gr.sqL {a : Addr} {xs : List V} (g : Gr T H H') (h : SqL K H a xs) : SqL K H' a xs := h.imp (fun h => gr_rd g h (fun _ z => by cases z)) id
theorem Gr.sqT {a : Addr} {xs : List V} (g : Gr T H H') (h : SqT K H a xs) : SqT K H' a xs := h.imp (fun h => gr_rd g h (fun _ z => by cases z)) id
mutual
theorem Gr.dp (g : Gr T H H') : ∀ (d : PyData) {v : V}, Dp K H v d → Dp K H' v d
  | .none, _, h => by cases h; exact .non
  | .bool b, _, h => by cases h; exact .bl b
  | .int i, _, h => by cases h; exact .int i
  | .str x, _, h => by cases h; exact .str x
  | .list ds, _, h => by cases h with | lst hs ha => exact .lst (g.sqL hs) (Gr.dpAll g ds ha)
  | .tuple ds, _, h => by cases h with | tup hs ha => exact .tup (g.sqT hs) (Gr.dpAll g ds ha)
  | .dict _, _, h => by cases h
theorem Gr.dpAll (g : Gr T H H') : ∀ (ds : List PyData) {vs : List V}, DpAll K H vs ds → DpAll K H' vs ds
  | [], _, h => by cases h; exact .nil
  | d :: ds, _, h => by cases h with | cons h1 h2 => exact .cons (Gr.dp g d h1) (Gr.dpAll g ds h2)
end
theorem dpAll_len : ∀ {vs : List V} {ds : List PyData}, DpAll K H vs ds → vs.length = ds.length
  | _, _, .nil => rfl
  | _, _, .cons _ h => congrArg Nat.succ (dpAll_len h)
theorem dpAll_get : ∀ {vs : List V} {ds : List PyData} {i : Nat} {v : V}, DpAll K H vs ds → vs[i]? = some v → ∃ d, ds[i]? = some d ∧ Dp K H v d
  | _, _, _, _, .nil, h => by simp at h
  | _, _, 0, _, .cons h1 _, h => by simp at h; subst h; exact ⟨_, rfl, h1⟩
  | _, _, i + 1, v, .cons _ h2, h => by
    obtain ⟨d, e, q⟩ := dpAll_get (i := i) h2 (by simpa using h)
    exact ⟨d, by simpa using e, q⟩
theorem dpAll_at : ∀ {vs : List V} {ds : List PyData} {i : Nat} {d : PyData}, DpAll K H vs ds → ds[i]? = some d → ∃ v, vs[i]? = some v ∧ Dp K H v d
  | _, _, _, _, .nil, h => by simp at h
  | _, _, 0, _, .cons h1 _, h => by simp at h; subst h; exact ⟨_, rfl, h1⟩
  | _, _, i + 1, v, .cons _ h2, h => by
    obtain ⟨d, e, q⟩ := dpAll_at (i := i) h2 (by simpa using h)
    exact ⟨d, by simpa using e, q⟩
theorem dpAll_app : ∀ {vs ws : List V} {ds es : List PyData}, DpAll K H vs ds → DpAll K H ws es → DpAll K H (vs ++ ws) (ds ++ es)
  | _, _, _, _, .nil, h => h
  | _, _, _, _, .cons h1 h2, h => .cons h1 (dpAll_app h2 h)
theorem dpAll_take : ∀ {vs : List V} {ds : List PyData} (n : Nat), DpAll K H vs ds → DpAll K H (vs.take n) (ds.take n)
  | _, _, 0, _ => by simp; exact .nil
  | _, _, _ + 1, .nil => .nil
  | _, _, n + 1, .cons h1 h2 => .cons h1 (dpAll_take n h2)
theorem dpAll_drop : ∀ {vs : List V} {ds : List PyData} (n : Nat), DpAll K H vs ds → DpAll K H (vs.drop n) (ds.drop n)
  | _, _, 0, h => h
  | _, _, _ + 1, .nil => .nil
  | _, _, n + 1, .cons h1 h2 => dpAll_drop n h2
theorem dpAll_rev : ∀ {vs : List V} {ds : List PyData}, DpAll K H vs ds → DpAll K H vs.reverse ds.reverse
  | _, _, .nil => .nil
  | _, _, .cons h1 h2 => by
    rw [List.reverse_cons, List.reverse_cons]
    exact dpAll_app (dpAll_rev h2) (.cons h1 .nil)
theorem dp_int {v : V} {i : Int} (h : Dp K H v (.int i)) : v = .int i := by cases h; rfl
theorem dp_bl {v : V} {b : Bool} (h : Dp K H v (.bool b)) : v = .bl b := by cases h; rfl
theorem dp_str {v : V} {x : Str} (h : Dp K H v (.str x)) : v = .str x := by cases h; rfl
theorem dp_non {v : V} (h : Dp K H v .none) : v = .non := by cases h; rfl
theorem dp_tup {v : V} {ds : List PyData} (h : Dp K H v (.tuple ds)) : ∃ a xs, v = .ref a ∧ SqT K H a xs ∧ DpAll K H xs ds := by cases h with | tup a b => exact ⟨_, _, rfl, a, b⟩
theorem dp_lst {v : V} {ds : List PyData} (h : Dp K H v (.list ds)) : ∃ a xs, v = .ref a ∧ SqL K H a xs ∧ DpAll K H xs ds := by cases h with | lst a b => exact ⟨_, _, rfl, a, b⟩
/-- ints as data -/
abbrev di (ns : List Int) : List PyData := ns.map PyData.int
abbrev db (bs : List Bool) : List PyData := bs.map PyData.bool
theorem dpAll_ints : ∀ {ns : List Int} {vs : List V}, DpAll K H vs (di ns) → vs = ns.map V.int
  | [], _, .nil => rfl
  | n :: ns, _, .cons h1 h2 => by rw [dp_int h1, dpAll_ints h2]; rfl
theorem ints_dpAll : ∀ (ns : List Int), DpAll K H (ns.map V.int) (di ns)
  | [] => .nil
  | n :: ns => .cons (.int n) (ints_dpAll ns)
theorem dpAll_bools : ∀ {ns : List Bool} {vs : List V}, DpAll K H vs (db ns) → vs = ns.map V.bl
  | [], _, .nil => rfl
  | n :: ns, _, .cons h1 h2 => by rw [dp_bl h1, dpAll_bools h2]; rfl
theorem bools_dpAll : ∀ (ns : List Bool), DpAll K H (ns.map V.bl) (db ns)
  | [] => .nil
  | n :: ns => .cons (.bl n) (bools_dpAll ns)
end

/-- what stays true as the heap grows -/
structure Mono where
  f : Hp → V → Prop
  mono : ∀ (T : Tbl) (H H' : Hp) (v : V), Gr T H H' → f H v → f H' v

/-! ### slots -/
/-- what is known of a slot: nothing, a datum, the very value, a list of its own that holds these data -/
inductive Sl where
  | un | dt (d : PyData) | rw (v : V) | nl (ds : List PyData) | ob (p : Addr) (o : HO) | ol (a : Addr) (ds : List PyData) | pr (φ : Mono)
/-- the heap without the object at a -/
def cutH (H : Hp) (a : Addr) : Hp := fun b => if b = a then none else H b
def SlOk (K : PySem.W.Frag) (H : Hp) : Sl → V → Prop
  | .un, _ => True
  | .dt d, v => Dp K H v d
  | .rw u, v => v = u
  | .ob p o, v => v = .ref p ∧ H p = some o ∧ ∀ ps, o ≠ .tbl ps
  | .pr φ, v => φ.f H v
  | .ol a ds, v => v = .ref a ∧ ∃ xs, H a = some (.lst xs) ∧ DpAll K (cutH H a) xs ds
  | .nl ds, v => ∃ a xs, v = .ref a ∧ H a = some (.lst xs) ∧ DpAll K H xs ds
def SlO (K : PySem.W.Frag) (H : Hp) : Sl → Option V → Prop
  | .un, _ => True
  | r, o => ∃ v, o = some v ∧ SlOk K H r v
def Slots (K : PySem.W.Frag) (H : Hp) : List Sl → L2.St → Prop
  | [], [] => True
  | r :: ρ, o :: σ => SlO K H r o ∧ Slots K H ρ σ
  | _, _ => False
structure Env (K : PySem.W.Frag) (T : Tbl) (ρ : List Sl) (σ : L2.St) (H : Hp) : Prop where
  tabs : LamX.Tabs T H
  sl : Slots K H ρ σ
section
variable {K : PySem.W.Frag} {T : Tbl} {H H' : Hp}
theorem Gr.cut (g : Gr T H H') (a : Addr) : Gr [] (cutH H a) (cutH H' a) := ⟨fun b o e n => by
    unfold cutH at e ⊢
    by_cases z : b = a
    · rw [if_pos z] at e
      cases e
    · rw [if_neg z] at e ⊢
      exact g.1 b o e n, fun _ p hp => by cases hp⟩
theorem cut_le (H : Hp) (a : Addr) : Gr [] (cutH H a) H := ⟨fun b o e n => by
    unfold cutH at e
    by_cases z : b = a
    · rw [if_pos z] at e
      cases e
    · rw [if_neg z] at e
      exact e, fun _ p hp => by cases hp⟩
theorem Gr.sl (g : Gr T H H') {r : Sl} {v : V} (h : SlOk K H r v) : SlOk K H' r v := by
  cases r with
  | un => trivial
  | dt d => exact g.dp d h
  | rw u => exact h
  | ob p o => exact ⟨h.1, g.1 p _ h.2.1 h.2.2, h.2.2⟩
  | pr φ => exact φ.mono T H H' v g h
  | ol a ds => obtain ⟨e, xs, h1, h2⟩ := h; exact ⟨e, xs, g.lst h1, (g.cut a).dpAll ds h2⟩
  | nl ds => obtain ⟨a, xs, e, h1, h2⟩ := h; exact ⟨a, xs, e, g.lst h1, g.dpAll ds h2⟩
theorem Gr.slO (g : Gr T H H') {r : Sl} {o : Option V} (h : SlO K H r o) : SlO K H' r o := by
  cases r with
  | un => trivial
  | dt d => obtain ⟨v, e, q⟩ := h; exact ⟨v, e, g.dp d q⟩
  | rw u => exact h
  | ob p o => obtain ⟨v, e, q⟩ := h; exact ⟨v, e, g.sl q⟩
  | ol a ds => obtain ⟨v, e, q⟩ := h; exact ⟨v, e, g.sl q⟩
  | pr φ => obtain ⟨v, e, q⟩ := h; exact ⟨v, e, g.sl q⟩
  | nl ds => obtain ⟨v, e, q⟩ := h; exact ⟨v, e, g.sl q⟩
theorem Gr.slots (g : Gr T H H') : ∀ {ρ : List Sl} {σ : L2.St}, Slots K H ρ σ → Slots K H' ρ σ
  | [], [], _ => trivial
  | r :: ρ, o :: σ, h => ⟨g.slO h.1, Gr.slots g h.2⟩
  | [], _ :: _, h => h.elim
  | _ :: _, [], h => h.elim
theorem Env.gr {ρ : List Sl} {σ : L2.St} (e : Env K T ρ σ H) (g : Gr T H H') : Env K T ρ σ H' := ⟨g.2 e.tabs, g.slots e.sl⟩
theorem slots_len : ∀ {ρ : List Sl} {σ : L2.St}, Slots K H ρ σ → ρ.length = σ.length
  | [], [], _ => rfl
  | r :: ρ, o :: σ, h => congrArg Nat.succ (slots_len h.2)
  | [], _ :: _, h => h.elim
  | _ :: _, [], h => h.elim
theorem slots_get : ∀ {ρ : List Sl} {σ : L2.St} {i : Nat} {r : Sl}, Slots K H ρ σ → ρ[i]? = some r → ∃ o, σ[i]? = some o ∧ SlO K H r o
  | [], [], _, _, _, e => by simp at e
  | r :: ρ, o :: σ, 0, _, h, e => by simp at e; subst e; exact ⟨o, rfl, h.1⟩
  | r :: ρ, o :: σ, i + 1, _, h, e => by
    obtain ⟨o, e1, q⟩ := slots_get (i := i) h.2 (by simpa using e)
    exact ⟨o, by simpa using e1, q⟩
  | [], _ :: _, _, _, h, _ => h.elim
  | _ :: _, [], _, _, h, _ => h.elim
theorem slots_set {r : Sl} {o : Option V} (q : SlO K H r o) : ∀ {ρ : List Sl} {σ : L2.St} (i : Nat), Slots K H ρ σ → Slots K H (ρ.set i r) (σ.set i o)
  | [], [], _, _ => trivial
  | _ :: _, _ :: _, 0, h => ⟨q, h.2⟩
  | _ :: _, _ :: _, i + 1, h => ⟨h.1, slots_set q i h.2⟩
  | [], _ :: _, _, h => h.elim
  | _ :: _, [], _, h => h.elim
theorem SlOk.o {r : Sl} {v : V} (h : SlOk K H r v) : SlO K H r (some v) := by
  cases r with
  | un => trivial
  | dt d => exact ⟨v, rfl, h⟩
  | rw u => exact ⟨v, rfl, h⟩
  | ob p o => exact ⟨v, rfl, h⟩
  | ol a ds => exact ⟨v, rfl, h⟩
  | pr φ => exact ⟨v, rfl, h⟩
  | nl ds => exact ⟨v, rfl, h⟩
theorem Env.set {ρ : List Sl} {σ : L2.St} (e : Env K T ρ σ H) {r : Sl} {v : V} (i : Nat) (q : SlOk K H r v) : Env K T (ρ.set i r) (σ.set i (some v)) H := ⟨e.tabs, slots_set q.o i e.sl⟩
/-- slots forgotten -/
def wipeR (ρ : List Sl) : List Nat → List Sl
  | [] => ρ
  | i :: is => (wipeR ρ is).set i .un
theorem slots_wipe : ∀ (is : List Nat) {ρ : List Sl} {σ : L2.St}, Slots K H ρ σ → Slots K H (wipeR ρ is) (wipe σ is)
  | [], _, _, h => h
  | i :: is, ρ, σ, h => slots_set (r := .un) (o := none) trivial i (slots_wipe is h)
theorem Env.wipe {ρ : List Sl} {σ : L2.St} (e : Env K T ρ σ H) (is : List Nat) : Env K T (wipeR ρ is) (L2.wipe σ is) H := ⟨e.tabs, slots_wipe is e.sl⟩
theorem slots_un : ∀ (n : Nat), Slots K H (List.replicate n .un) (List.replicate n (none : Option V))
  | 0 => trivial
  | n + 1 => ⟨trivial, slots_un n⟩
theorem slots_app : ∀ {ρ ρ' : List Sl} {σ σ' : L2.St}, Slots K H ρ σ → Slots K H ρ' σ' → Slots K H (ρ ++ ρ') (σ ++ σ')
  | [], _, [], _, _, h => h
  | _ :: _, _, _ :: _, _, h, h' => ⟨h.1, slots_app h.2 h'⟩
  | [], _, _ :: _, _, h, _ => h.elim
  | _ :: _, _, [], _, h, _ => h.elim
theorem slots_data : ∀ {ds : List PyData} {vs : List V}, DpAll K H vs ds → Slots K H (ds.map Sl.dt) (vs.map some)
  | [], _, .nil => trivial
  | _ :: _, _, .cons h1 h2 => ⟨⟨_, rfl, h1⟩, slots_data h2⟩
end

/-! ### readings -/
/-- evaluates to what r tells -/
def tE (K : PySem.W.Frag) (T : Tbl) (ρ : List Sl) (r : Sl) : TE := fun σ H Q => Env K T ρ σ H ∧ ∀ v H2, Gr T H H2 → SlOk K H2 r v → Q v H2
/-- a new list of these data -/
def tF (K : PySem.W.Frag) (T : Tbl) (ρ : List Sl) (ds : List PyData) : TE := fun σ H Q => Env K T ρ σ H ∧ ∀ a xs H2, Gr T H H2 → New H a → H2 a = some (.lst xs) → DpAll K (cutH H2 a) xs ds → Q (.ref a) H2
/-- a test -/
def tT (K : PySem.W.Frag) (T : Tbl) (ρ : List Sl) (b : Bool) : TT := fun σ H Q => Env K T ρ σ H ∧ ∀ H2, Gr T H H2 → Q b H2
/-- arguments -/
def tA (K : PySem.W.Frag) (T : Tbl) (ρ : List Sl) (ds : List PyData) : TA := fun σ H Q => Env K T ρ σ H ∧ ∀ vs H2, Gr T H H2 → DpAll K H2 vs ds → Q vs H2
/-- a block: it gives d (fl: by running to its end, too) -/
def tS (K : PySem.W.Frag) (T : Tbl) (ρ : List Sl) (fl : Bool) (d : PyData) : TS := fun D σ H => Env K T ρ σ H ∧ (∀ v H2, Gr T H H2 → Dp K H2 v d → D.rt v H2) ∧ (fl = true → d = .none → ∀ σ2 H2, Gr T H H2 → D.nx σ2 H2)
/-- values and heap: an operation -/
def r2D (K : PySem.W.Frag) (T : Tbl) (R : PyData → PyData → PyData → Prop) : R2 := fun x y H Q => LamX.Tabs T H ∧ ∃ a b d, Dp K H x a ∧ Dp K H y b ∧ R a b d ∧ ∀ v H2, Gr T H H2 → Dp K H2 v d → Q v H2
def r1D (K : PySem.W.Frag) (T : Tbl) (R : PyData → PyData → Prop) : V → Hp → VK → Prop := fun x H Q => LamX.Tabs T H ∧ ∃ a d, Dp K H x a ∧ R a d ∧ ∀ v H2, Gr T H H2 → Dp K H2 v d → Q v H2
def rD (K : PySem.W.Frag) (T : Tbl) (R : List PyData → PyData → Prop) : List V → Hp → VK → Prop := fun vs H Q => LamX.Tabs T H ∧ ∃ ds d, DpAll K H vs ds ∧ R ds d ∧ ∀ v H2, Gr T H H2 → Dp K H2 v d → Q v H2
/-- a def's promise -/
def spD (K : PySem.W.Frag) (T : Tbl) (R : List PyData → PyData → Prop) : Sp := fun vs H Q _ => rD K T R vs H Q

section
variable {X : Cx} {T : Tbl} {ρ : List Sl}
theorem pe_imp {e : Expr} {t t' : TE} (h : PE X e t) (i : ∀ σ H Q, t' σ H Q → t σ H Q) : PE X e t' := ⟨fun pins s σ H Q I q => h.run pins s σ H Q I (i σ H Q q)⟩
theorem pt_imp {e : Expr} {t t' : TT} (h : PT X e t) (i : ∀ σ H Q, t' σ H Q → t σ H Q) : PT X e t' := ⟨fun pins s σ H Q I q => h.run pins s σ H Q I (i σ H Q q)⟩
theorem pa_imp {es : List Expr} {t t' : TA} (h : PA X es t) (i : ∀ σ H Q, t' σ H Q → t σ H Q) : PA X es t' := ⟨fun pos pins s σ H Q I q => h.run pos pins s σ H Q I (i σ H Q q)⟩
theorem pss_imp {st : List Stmt} {t t' : TS} (h : PSs X st t) (i : ∀ D σ H, t' D σ H → t D σ H) : PSs X st t' := ⟨fun pins s σ H D I q => h.run pins s σ H D I (i D σ H q)⟩
theorem ps_imp {st : Stmt} {t t' : TS} (h : PS X st t) (i : ∀ D σ H, t' D σ H → t D σ H) : PS X st t' := ⟨fun pins s σ H D I q => h.run pins s σ H D I (i D σ H q)⟩
/-- under a condition -/
theorem pe_if {e : Expr} {t : TE} {c : Prop} (h : c → PE X e t) : PE X e (fun σ H Q => c ∧ t σ H Q) := ⟨fun pins s σ H Q I q => (h q.1).run pins s σ H Q I q.2⟩
theorem pt_if {e : Expr} {t : TT} {c : Prop} (h : c → PT X e t) : PT X e (fun σ H Q => c ∧ t σ H Q) := ⟨fun pins s σ H Q I q => (h q.1).run pins s σ H Q I q.2⟩
theorem pss_if {e : List Stmt} {t : TS} {c : Prop} (h : c → PSs X e t) : PSs X e (fun D σ H => c ∧ t D σ H) := ⟨fun pins s σ H D I q => (h q.1).run pins s σ H D I q.2⟩
theorem ps_ifc {e : Stmt} {t : TS} {c : Prop} (h : c → PS X e t) : PS X e (fun D σ H => c ∧ t D σ H) := ⟨fun pins s σ H D I q => (h q.1).run pins s σ H D I q.2⟩
theorem pe_ex {ι : Type} {e : Expr} {t : ι → TE} {c : ι → Prop} (h : ∀ i, c i → PE X e (t i)) : PE X e (fun σ H Q => ∃ i, c i ∧ t i σ H Q) := ⟨fun pins s σ H Q I ⟨i, ci, q⟩ => (h i ci).run pins s σ H Q I q⟩
theorem pt_ex {ι : Type} {e : Expr} {t : ι → TT} {c : ι → Prop} (h : ∀ i, c i → PT X e (t i)) : PT X e (fun σ H Q => ∃ i, c i ∧ t i σ H Q) := ⟨fun pins s σ H Q I ⟨i, ci, q⟩ => (h i ci).run pins s σ H Q I q⟩

abbrev DE (X : Cx) (T : Tbl) (ρ : List Sl) (e : Expr) (r : Sl) : Prop := PE X e (tE X.K T ρ r)
abbrev DF (X : Cx) (T : Tbl) (ρ : List Sl) (e : Expr) (ds : List PyData) : Prop := PE X e (tF X.K T ρ ds)
theorem tF_nl {K : PySem.W.Frag} {ds : List PyData} {σ : L2.St} {H : Hp} {Q : VK} (k : tE K T ρ (.nl ds) σ H Q) : tF K T ρ ds σ H Q := ⟨k.1, fun a xs H2 g n h d => k.2 _ H2 g ⟨a, xs, rfl, h, (cut_le H2 a).dpAll _ d⟩⟩
theorem df_nl {e : Expr} {ds : List PyData} (h : DF X T ρ e ds) : DE X T ρ e (.nl ds) := pe_imp h fun _ _ _ k => tF_nl k
/-- what was readable before a came is readable without it -/
theorem cut_new {K : PySem.W.Frag} {H : Hp} {a : Addr} {o : HO} {xs : List V} {ds : List PyData} (h : H a = none) (d : DpAll K H xs ds) : DpAll K (cutH (upd H a o) a) xs ds := by
  refine Gr.dpAll (T := []) ⟨fun b u e _ => ?_, fun _ p hp => by cases hp⟩ ds d
  unfold cutH
  have z : b ≠ a := ne_of_none e h
  rw [if_neg z, upd_ne z]
  exact e
abbrev DD (X : Cx) (T : Tbl) (ρ : List Sl) (e : Expr) (d : PyData) : Prop := DE X T ρ e (.dt d)
abbrev DT (X : Cx) (T : Tbl) (ρ : List Sl) (e : Expr) (b : Bool) : Prop := PT X e (tT X.K T ρ b)
abbrev DA (X : Cx) (T : Tbl) (ρ : List Sl) (es : List Expr) (ds : List PyData) : Prop := PA X es (tA X.K T ρ ds)
abbrev DS (X : Cx) (T : Tbl) (ρ : List Sl) (st : List Stmt) (fl : Bool) (d : PyData) : Prop := PSs X st (tS X.K T ρ fl d)

/-! ### names, constants -/
theorem de_name (i : Nat) {x : Str} {pos : Pos} {r : Sl} (hr : ρ[i]? = some r) (hn : r ≠ .un) (hN : X.N[i]? = some x := by rfl) (hv : Vis X.env.scope x := by first | exact Or.inl rfl | exact Or.inr (Or.inl rfl) | exact Or.inr (Or.inr rfl)) (hd : (x == ("__debug__" : Str)) = false := by decide)
    (hcd : (x == ("__classdict__" : Str)) = false := by decide) : DE X T ρ (.Name x pos) r :=
  pe_imp (pe_var hN hv hd hcd) fun σ H Q ⟨e, k⟩ => by
    obtain ⟨o, e1, q⟩ := slots_get e.sl hr
    cases r with
    | un => exact absurd rfl hn
    | dt d => obtain ⟨v, e2, q2⟩ := q; exact ⟨v, by rw [e1, e2], k v H (Gr.refl H) q2⟩
    | rw u => obtain ⟨v, e2, q2⟩ := q; exact ⟨v, by rw [e1, e2], k v H (Gr.refl H) q2⟩
    | ob p o => obtain ⟨v, e2, q2⟩ := q; exact ⟨v, by rw [e1, e2], k v H (Gr.refl H) q2⟩
    | ol a ds => obtain ⟨v, e2, q2⟩ := q; exact ⟨v, by rw [e1, e2], k v H (Gr.refl H) q2⟩
    | pr φ => obtain ⟨v, e2, q2⟩ := q; exact ⟨v, by rw [e1, e2], k v H (Gr.refl H) q2⟩
    | nl ds => obtain ⟨v, e2, q2⟩ := q; exact ⟨v, by rw [e1, e2], k v H (Gr.refl H) q2⟩
/-- a list of its own is a list -/
theorem SlOk.lst {K : PySem.W.Frag} {H : Hp} {ds : List PyData} {v : V} (h : SlOk K H (.nl ds) v) : Dp K H v (.list ds) := by
  obtain ⟨a, xs, e, h1, h2⟩ := h
  subst e
  exact .lst (.of h1) h2
theorem de_l {e : Expr} {ds : List PyData} (h : DE X T ρ e (.nl ds)) : DD X T ρ e (.list ds) := pe_imp h fun _ _ _ k => ⟨k.1, fun v H2 g hv => k.2 v H2 g hv.lst⟩
theorem dn (i : Nat) {x : Str} {pos : Pos} {d : PyData} (hr : ρ[i]? = some (.dt d) := by rfl) (hN : X.N[i]? = some x := by rfl) (hv : Vis X.env.scope x := by first | exact Or.inl rfl | exact Or.inr (Or.inl rfl) | exact Or.inr (Or.inr rfl)) (hd : (x == ("__debug__" : Str)) = false := by decide)
    (hcd : (x == ("__classdict__" : Str)) = false := by decide) : DD X T ρ (.Name x pos) d := de_name i hr (fun z => by cases z) hN hv hd hcd
theorem dnl (i : Nat) {x : Str} {pos : Pos} {ds : List PyData} (hr : ρ[i]? = some (.nl ds) := by rfl) (hN : X.N[i]? = some x := by rfl) (hv : Vis X.env.scope x := by first | exact Or.inl rfl | exact Or.inr (Or.inl rfl) | exact Or.inr (Or.inr rfl)) (hd : (x == ("__debug__" : Str)) = false := by decide)
    (hcd : (x == ("__classdict__" : Str)) = false := by decide) : DE X T ρ (.Name x pos) (.nl ds) := de_name i hr (fun z => by cases z) hN hv hd hcd
theorem dr (i : Nat) {x : Str} {pos : Pos} {v : V} (hr : ρ[i]? = some (.rw v) := by rfl) (hN : X.N[i]? = some x := by rfl) (hv : Vis X.env.scope x := by first | exact Or.inl rfl | exact Or.inr (Or.inl rfl) | exact Or.inr (Or.inr rfl)) (hd : (x == ("__debug__" : Str)) = false := by decide)
    (hcd : (x == ("__classdict__" : Str)) = false := by decide) : DE X T ρ (.Name x pos) (.rw v) := de_name i hr (fun z => by cases z) hN hv hd hcd
theorem dob (i : Nat) {x : Str} {pos : Pos} {p : Addr} {o : HO} (hr : ρ[i]? = some (.ob p o) := by rfl) (hN : X.N[i]? = some x := by rfl) (hv : Vis X.env.scope x := by first | exact Or.inl rfl | exact Or.inr (Or.inl rfl) | exact Or.inr (Or.inr rfl)) (hd : (x == ("__debug__" : Str)) = false := by decide)
    (hcd : (x == ("__classdict__" : Str)) = false := by decide) : DE X T ρ (.Name x pos) (.ob p o) := de_name i hr (fun z => by cases z) hN hv hd hcd
theorem dpr (i : Nat) {x : Str} {pos : Pos} {φ : Mono} (hr : ρ[i]? = some (.pr φ) := by rfl) (hN : X.N[i]? = some x := by rfl) (hv : Vis X.env.scope x := by first | exact Or.inl rfl | exact Or.inr (Or.inl rfl) | exact Or.inr (Or.inr rfl)) (hd : (x == ("__debug__" : Str)) = false := by decide)
    (hcd : (x == ("__classdict__" : Str)) = false := by decide) : DE X T ρ (.Name x pos) (.pr φ) := de_name i hr (fun z => by cases z) hN hv hd hcd
theorem dol (i : Nat) {x : Str} {pos : Pos} {a : Addr} {ds : List PyData} (hr : ρ[i]? = some (.ol a ds) := by rfl) (hN : X.N[i]? = some x := by rfl) (hv : Vis X.env.scope x := by first | exact Or.inl rfl | exact Or.inr (Or.inl rfl) | exact Or.inr (Or.inr rfl)) (hd : (x == ("__debug__" : Str)) = false := by decide)
    (hcd : (x == ("__classdict__" : Str)) = false := by decide) : DD X T ρ (.Name x pos) (.list ds) :=
  pe_imp (de_name (X := X) (T := T) (pos := pos) i hr (fun z => by cases z) hN hv hd hcd) fun _ _ _ k => ⟨k.1, fun v H2 g hv => by
    obtain ⟨e, xs, h1, h2⟩ := hv
    subst e
    exact k.2 _ H2 g (Dp.lst (.of h1) ((cut_le H2 a).dpAll _ h2))⟩
theorem d_int {i j pos} : DD X T ρ (.Constant (.int i) j pos) (.int i) := pe_imp pe_int fun _ H _ ⟨_, k⟩ => k _ H (Gr.refl H) (.int i)
theorem d_bl {b j pos} : DD X T ρ (.Constant (.bool b) j pos) (.bool b) := pe_imp pe_bl fun _ H _ ⟨_, k⟩ => k _ H (Gr.refl H) (.bl b)
theorem d_non {j pos} : DD X T ρ (.Constant .none j pos) .none := pe_imp pe_non fun _ H _ ⟨_, k⟩ => k _ H (Gr.refl H) .non
theorem d_str {x j pos} : DD X T ρ (.Constant (.str x) j pos) (.str x) := pe_imp pe_str fun _ H _ ⟨_, k⟩ => k _ H (Gr.refl H) (.str x)
/-- a constant of the module -/
theorem d_gint {x : Str} {pos : Pos} {i : Int} (hm : ∃ t, X.mg x = some (.int i t)) (hg : Gl X x := by rfl) (hd : (x == ("__debug__" : Str)) = false := by decide) : DD X T ρ (.Name x pos) (.int i) := by
  obtain ⟨t, hm⟩ := hm
  exact pe_imp (pe_glob (v := .int i) hg hm ⟨t, rfl⟩ hd) fun _ H _ ⟨_, k⟩ => k _ H (Gr.refl H) (.int i)
theorem d_gstr {x : Str} {pos : Pos} {i : Str} (hm : ∃ t, X.mg x = some (.str i t)) (hg : Gl X x := by rfl) (hd : (x == ("__debug__" : Str)) = false := by decide) : DD X T ρ (.Name x pos) (.str i) := by
  obtain ⟨t, hm⟩ := hm
  exact pe_imp (pe_glob (v := .str i) hg hm ⟨t, rfl⟩ hd) fun _ H _ ⟨_, k⟩ => k _ H (Gr.refl H) (.str i)

/-! ### operators, comparisons -/
section
variable {a b : Expr} {pos : Pos} {x y d : PyData}
def OpD (X : Cx) (T : Tbl) (f : Value → Value → Sem Value) (R : PyData → PyData → PyData → Prop) : Prop := OpR X f (r2D X.K T R)
theorem opD_of {f : Value → Value → Sem Value} {r : R2} {R : PyData → PyData → PyData → Prop} (h : OpR X f r) (i : ∀ x y H Q, r2D X.K T R x y H Q → r x y H Q) : OpD X T f R :=
  fun pins s σ H x y v u Q I rx ry q => h pins s σ H x y v u Q I rx ry (i x y H Q q)
theorem two {R : PyData → PyData → PyData → Prop} (h : R x y d) {σ : L2.St} {H : Hp} {Q : VK} (q : tE X.K T ρ (.dt d) σ H Q) : tOp (r2D X.K T R) (tE X.K T ρ (.dt x)) (tE X.K T ρ (.dt y)) σ H Q :=
  ⟨q.1, fun _ _ g1 h1 => ⟨q.1.gr g1, fun _ _ g2 h2 => ⟨g2.2 (g1.2 q.1.tabs), _, _, _, g2.dp _ h1, h2, h, fun v H3 g3 h3 => q.2 v H3 ((g1.trans g2).trans g3) h3⟩⟩⟩
theorem d_op {op : Operator} {R : PyData → PyData → PyData → Prop} (ho : OpD X T (binaryOp op) R) (ha : DD X T ρ a x) (hb : DD X T ρ b y) (h : R x y d) : DD X T ρ (.BinOp a op b pos) d := pe_imp (pe_op ho ha hb) fun _ _ _ q => two h q
theorem d_cmp {op : CmpOp} {R : PyData → PyData → PyData → Prop} (ho : OpD X T (compareOp op) R) (ha : DD X T ρ a x) (hb : DD X T ρ b y) (h : R x y d) (hm : behindInMarks op b = false) : DD X T ρ (.Compare a [op] [b] pos) d :=
  pe_imp (pe_cmpR ho ha hb hm) fun _ _ _ q => two h q
theorem t_cmp {op : CmpOp} {R : PyData → PyData → PyData → Prop} {c : Bool} (ho : OpD X T (compareOp op) R) (ha : DD X T ρ a x) (hb : DD X T ρ b y) (h : R x y (.bool c)) (hm : behindInMarks op b = false) : DT X T ρ (.Compare a [op] [b] pos) c :=
  pt_imp (pt_cmpR ho ha hb hm) fun _ _ _ q => two h ⟨q.1, fun _ H2 g h2 => ⟨c, dp_bl h2, q.2 H2 g⟩⟩
def UnD (X : Cx) (T : Tbl) (f : Value → Sem Value) (R : PyData → PyData → Prop) : Prop := UnR X f (r1D X.K T R)
theorem d_un {op : UnaryOp} {R : PyData → PyData → Prop} (ho : UnD X T (unaryOp op) R) (ha : DD X T ρ a x) (h : R x d) : DD X T ρ (.UnaryOp op a pos) d :=
  pe_imp (pe_un ho ha) fun _ _ _ q => ⟨q.1, fun _ _ g1 h1 => ⟨g1.2 q.1.tabs, _, _, h1, h, fun v H3 g3 h3 => q.2 v H3 (g1.trans g3) h3⟩⟩
/-- a < b <= c -/
theorem chain2 {op op' : CmpOp} {R R' : PyData → PyData → PyData → Prop} {z : PyData} {p q : Bool} (h : R x y (.bool p)) (h' : R' y z (.bool q)) {σ : L2.St} {H : Hp} {Q : VK} (k : Env X.K T ρ σ H ∧ ∀ H2, Gr T H H2 → Q (.bl (p && q)) H2) :
    tChain (r2D X.K T R) (r2D X.K T R') (tE X.K T ρ (.dt x)) (tE X.K T ρ (.dt y)) (tE X.K T ρ (.dt z)) σ H Q := by
  refine ⟨k.1, fun v1 H1 g1 h1 => ⟨k.1.gr g1, fun v2 H2 g2 h2 => ⟨g2.2 (g1.2 k.1.tabs), _, _, _, g2.dp _ h1, h2, h, fun v3 H3 g3 h3 => ?_⟩⟩⟩
  refine ⟨p, dp_bl h3, ?_⟩
  cases p with
  | false =>
    rw [if_neg Bool.false_ne_true]
    exact k.2 H3 ((g1.trans g2).trans g3)
  | true =>
    rw [if_pos rfl]
    refine ⟨k.1.gr ((g1.trans g2).trans g3), fun v4 H4 g4 h4 => ⟨g4.2 (g3.2 (g2.2 (g1.2 k.1.tabs))), _, _, _, (g3.trans g4).dp _ h2, h4, h', fun v5 H5 g5 h5 => ?_⟩⟩
    rw [dp_bl h5]
    exact k.2 H5 ((((g1.trans g2).trans g3).trans g4).trans g5)
theorem d_chain {op op' : CmpOp} {R R' : PyData → PyData → PyData → Prop} {c : Expr} {z : PyData} {p q : Bool} (ho : OpD X T (compareOp op) R) (ho' : OpD X T (compareOp op') R') (ha : DD X T ρ a x) (hb : DD X T ρ b y) (hc : DD X T ρ c z) (h : R x y (.bool p)) (h' : R' y z (.bool q))
    (hm : lastMarks [op, op'] [b, c] = false := by with_unfolding_all rfl) : DD X T ρ (.Compare a [op, op'] [b, c] pos) (.bool (p && q)) :=
  pe_imp (pe_chain ho ho' ha hb hc hm) fun σ H Q k => chain2 (op := op) (op' := op') h h' ⟨k.1, fun H2 g => k.2 _ H2 g (.bl _)⟩
theorem t_chain {op op' : CmpOp} {R R' : PyData → PyData → PyData → Prop} {c : Expr} {z : PyData} {p q : Bool} (ho : OpD X T (compareOp op) R) (ho' : OpD X T (compareOp op') R') (ha : DD X T ρ a x) (hb : DD X T ρ b y) (hc : DD X T ρ c z) (h : R x y (.bool p)) (h' : R' y z (.bool q))
    (hm : lastMarks [op, op'] [b, c] = false := by with_unfolding_all rfl) : DT X T ρ (.Compare a [op, op'] [b, c] pos) (p && q) :=
  pt_imp (pt_chain ho ho' ha hb hc hm) fun σ H Q k => chain2 (op := op) (op' := op') h h' ⟨k.1, fun H2 g => ⟨_, rfl, k.2 H2 g⟩⟩
end

/-! ### tests -/
section
variable {a b : Expr} {rest : List Expr} {pos : Pos} {p q : Bool}
theorem t_val {e : Expr} {c : Bool} (h : DD X T ρ e (.bool c)) (he : ∀ whole, isTrue e X.env whole = (do let v ← whole; standAt e.pos; holding [v] (truthy v)) := by intro _; rfl) : DT X T ρ e c :=
  pt_imp (pt_val h he) fun _ _ _ k => ⟨k.1, fun _ H2 g h2 => ⟨c, dp_bl h2, k.2 H2 g⟩⟩
theorem t_not (h : DT X T ρ a p) : DT X T ρ (.UnaryOp .Not a pos) (!p) := pt_imp (pt_not h) fun _ _ _ k => k
abbrev DW (X : Cx) (T : Tbl) (ρ : List Sl) (e : Expr) (b : Bool) : Prop := PW X e (tT X.K T ρ b)
theorem pw_imp {e : Expr} {t t' : TT} (h : PW X e t) (i : ∀ σ H Q, t' σ H Q → t σ H Q) : PW X e t' := ⟨fun wh pins s σ H Q I q => h.run wh pins s σ H Q I (i σ H Q q)⟩
theorem pw_if {e : Expr} {t : TT} {c : Prop} (h : c → PW X e t) : PW X e (fun σ H Q => c ∧ t σ H Q) := ⟨fun wh pins s σ H Q I k => (h k.1).run wh pins s σ H Q I k.2⟩
theorem w_and1 (h : DT X T ρ a p) : DW X T ρ (.BoolOp .And [a] pos) p := pw_and1 h
theorem w_or1 (h : DT X T ρ a p) : DW X T ρ (.BoolOp .Or [a] pos) p := pw_or1 h
theorem w_and (h : DT X T ρ a p) (h2 : p = true → DW X T ρ (.BoolOp .And (b :: rest) pos) q) : DW X T ρ (.BoolOp .And (a :: b :: rest) pos) (p && q) := by
  refine pw_imp (pw_and h (pw_if h2)) fun σ H Q k => ⟨k.1, fun H2 g => ?_⟩
  cases p with
  | false =>
    rw [if_neg Bool.false_ne_true]
    exact k.2 H2 g
  | true =>
    rw [if_pos rfl]
    exact ⟨rfl, k.1.gr g, fun H3 g3 => k.2 H3 (g.trans g3)⟩
theorem w_or (h : DT X T ρ a p) (h2 : p = false → DW X T ρ (.BoolOp .Or (b :: rest) pos) q) : DW X T ρ (.BoolOp .Or (a :: b :: rest) pos) (p || q) := by
  refine pw_imp (pw_or h (pw_if h2)) fun σ H Q k => ⟨k.1, fun H2 g => ?_⟩
  cases p with
  | true =>
    rw [if_pos rfl]
    exact k.2 H2 g
  | false =>
    rw [if_neg Bool.false_ne_true]
    exact ⟨rfl, k.1.gr g, fun H3 g3 => k.2 H3 (g.trans g3)⟩
theorem t_w {e : Expr} (h : DW X T ρ e p) : DT X T ρ e p := h.pt
/-- as values -/
theorem d_one {op} {d : PyData} (h : DD X T ρ a d) : DD X T ρ (.BoolOp op [a] pos) d := pe_one h
theorem d_and (h : DD X T ρ a (.bool p)) (h2 : p = true → DD X T ρ (.BoolOp .And (b :: rest) pos) (.bool q)) : DD X T ρ (.BoolOp .And (a :: b :: rest) pos) (.bool (p && q)) := by
  refine pe_imp (pe_and h (pe_if h2)) fun σ H Q k => ⟨k.1, fun v H2 g hv => ⟨p, dp_bl hv, ?_⟩⟩
  cases p with
  | false =>
    rw [if_neg Bool.false_ne_true]
    exact k.2 _ H2 g (.bl _)
  | true =>
    rw [if_pos rfl]
    exact ⟨rfl, k.1.gr g, fun w H3 g3 hw => k.2 w H3 (g.trans g3) hw⟩
theorem d_or (h : DD X T ρ a (.bool p)) (h2 : p = false → DD X T ρ (.BoolOp .Or (b :: rest) pos) (.bool q)) : DD X T ρ (.BoolOp .Or (a :: b :: rest) pos) (.bool (p || q)) := by
  refine pe_imp (pe_or h (pe_if h2)) fun σ H Q k => ⟨k.1, fun v H2 g hv => ⟨p, dp_bl hv, ?_⟩⟩
  cases p with
  | true =>
    rw [if_pos rfl]
    exact k.2 _ H2 g (.bl _)
  | false =>
    rw [if_neg Bool.false_ne_true]
    exact ⟨rfl, k.1.gr g, fun w H3 g3 hw => k.2 w H3 (g.trans g3) hw⟩
theorem d_not (h : DD X T ρ a (.bool p)) : DD X T ρ (.UnaryOp .Not a pos) (.bool (!p)) := pe_imp (pe_not h) fun _ _ _ k => ⟨k.1, fun _ H2 g hv => ⟨p, dp_bl hv, k.2 _ H2 g (.bl _)⟩⟩
theorem d_ifx {c : Expr} {d : PyData} (hc : DT X T ρ c p) (h1 : p = true → DD X T ρ a d) (h2 : p = false → DD X T ρ b d) : DD X T ρ (.IfExp c a b pos) d := by
  refine pe_imp (pe_ifExp hc (pe_if h1) (pe_if h2)) fun σ H Q k => ⟨k.1, fun H2 g => ?_⟩
  cases p with
  | true =>
    rw [if_pos rfl]
    exact ⟨rfl, k.1.gr g, fun v H3 g3 hv => k.2 v H3 (g.trans g3) hv⟩
  | false =>
    rw [if_neg Bool.false_ne_true]
    exact ⟨rfl, k.1.gr g, fun v H3 g3 hv => k.2 v H3 (g.trans g3) hv⟩
end

/-! ### arguments, displays -/
section
variable {e : Expr} {es : List Expr} {pos : Pos} {d : PyData} {ds : List PyData}
theorem a_nil : DA X T ρ [] [] := pa_imp pa_nil fun _ H _ k => k.2 _ H (Gr.refl H) .nil
theorem a_cons (h : DD X T ρ e d) (h2 : DA X T ρ es ds) (hs : starEach (e :: es) X.env = (false, eval e X.env) :: starEach es X.env := by rfl) : DA X T ρ (e :: es) (d :: ds) :=
  pa_imp (pa_cons h h2 hs) fun _ _ _ k => ⟨k.1, fun _ _ g1 h1 => ⟨k.1.gr g1, fun _ H2 g2 h2 => k.2 _ H2 (g1.trans g2) (.cons (g2.dp _ h1) h2)⟩⟩
theorem size_ok {n : Nat} (h : n ≤ 1000) : n ≤ sizeLine := Nat.le_of_lt (small1000 h)
theorem d_tup {x1} (h : DA X T ρ es ds) (hl : ds.length ≤ 1000) : DD X T ρ (.Tuple es x1 pos) (.tuple ds) :=
  pe_imp (pe_tup h) fun _ _ _ k => ⟨k.1, fun _ _ g hv => ⟨by rw [dpAll_len hv]; exact size_ok hl, fun _ hp => k.2 _ _ (g.trans (Gr.new hp)) (.tup (.of upd_same) ((Gr.new (T := T) hp).dpAll _ hv))⟩⟩
theorem f_lst (h : DA X T ρ es ds) (hl : ds.length ≤ 1000) : DF X T ρ (.List es pos) ds :=
  pe_imp (pe_lst h) fun _ _ _ k => ⟨k.1, fun _ _ g hv => ⟨by rw [dpAll_len hv]; exact size_ok hl, fun _ hp => k.2 _ _ _ (g.trans (Gr.new hp)) (g.back hp) upd_same (cut_new hp hv)⟩⟩
theorem d_lst (h : DA X T ρ es ds) (hl : ds.length ≤ 1000) : DE X T ρ (.List es pos) (.nl ds) :=
  pe_imp (pe_lst h) fun _ _ _ k => ⟨k.1, fun _ _ g hv => ⟨by rw [dpAll_len hv]; exact size_ok hl, fun _ hp => k.2 _ _ (g.trans (Gr.new hp)) ⟨_, _, rfl, upd_same, (Gr.new (T := T) hp).dpAll _ hv⟩⟩⟩
/-! ### calls -/
theorem d_callB {id : String} {x : Str} {p : Pos} {R : List PyData → PyData → Prop} (hc : CallR X (.builtin id) (rD X.K T R)) (hm : X.mg x = none) (hv : bootBuiltins x = some (.builtin id)) (ha : DA X T ρ (e :: es) ds) (h : R ds d) (hg : Gl X x := by rfl) (hn : x ≠ "__name__" := by decide) (hdb : (x == ("__debug__" : Str)) = false := by decide)
    (he : starEach (e :: es) X.env = (false, eval e X.env) :: starEach es X.env := by rfl) (hpl : (backTo pos (starEach es X.env)).any (·.1) = false := by rfl) : DD X T ρ (.Call (.Name x p) (e :: es) [] pos) d :=
  pe_imp (pe_callB hc hg hm hv ha hn hdb he hpl) fun _ _ _ k => ⟨k.1, fun _ _ g hv => ⟨g.2 k.1.tabs, _, _, hv, h, fun v H3 g3 h3 => k.2 v H3 (g.trans g3) h3⟩⟩
theorem d_callT {id : String} {x : Str} {p : Pos} {R : List PyData → PyData → Prop} (hc : CallR X (.type id) (rD X.K T R)) (hm : X.mg x = none) (hv : bootBuiltins x = some (.type id)) (ha : DA X T ρ (e :: es) ds) (h : R ds d) (hg : Gl X x := by rfl) (hn : x ≠ "__name__" := by decide) (hdb : (x == ("__debug__" : Str)) = false := by decide)
    (he : starEach (e :: es) X.env = (false, eval e X.env) :: starEach es X.env := by rfl) (hpl : (backTo pos (starEach es X.env)).any (·.1) = false := by rfl) : DD X T ρ (.Call (.Name x p) (e :: es) [] pos) d :=
  pe_imp (pe_callTy hc hg hm hv ha hn hdb he hpl) fun _ _ _ k => ⟨k.1, fun _ _ g hv => ⟨g.2 k.1.tabs, _, _, hv, h, fun v H3 g3 h3 => k.2 v H3 (g.trans g3) h3⟩⟩
end
/-! ### defs -/
/-- a def of the module that keeps R of plain data, at level k -/
structure Df (P : Program) (w : World) (K : PySem.W.Frag) (mg : Str → Option Value) (base : Heap) (T : Tbl) (x : Str) (k : Nat) (ps : List Str) (R : List PyData → PyData → Prop) : Prop where
  ex : ∃ (f : Addr) (fd : FuncData), FnOk P w K mg base CX0 k f fd ps (spD K T R) ∧ mg x = some (.ref f) ∧ PySem.W.keepIn K (.ref f) = true ∧ Binds K fd ps []
theorem d_call {x : Str} {p pos : Pos} {k j : Nat} {ps : List Str} {R : List PyData → PyData → Prop} {e : Expr} {es : List Expr} {ds : List PyData} {d : PyData} (D : Df X.prog X.w X.K X.mg X.base T x k ps R) (hr : Room j X.A) (hk : k ≤ j) (ha : DA X T ρ (e :: es) ds) (h : R ds d) (hg : Gl X x := by rfl)
    (hdb : (x == ("__debug__" : Str)) = false := by decide) (he : starEach (e :: es) X.env = (false, eval e X.env) :: starEach es X.env := by rfl) (hpl : (backTo pos (starEach es X.env)).any (·.1) = false := by rfl) : DD X T ρ (.Call (.Name x p) (e :: es) [] pos) d := by
  obtain ⟨f, fd, F, hm, kp, hb⟩ := D.ex
  refine pe_imp (pe_call (dvs := []) (E := E0) F (hr.mono hk) hg hm kp hb .nil pass0 ha hdb he hpl) fun σ H Q q => ⟨q.1, fun vs H2 g hv => ?_⟩
  show spD X.K T R (vs ++ []) H2 Q E0
  rw [List.append_nil]
  exact ⟨g.2 q.1.tabs, _, _, hv, h, fun v H3 g3 h3 => q.2 v H3 (g.trans g3) h3⟩

/-! ### blocks -/
section
variable {rest : List Stmt} {fl : Bool} {d : PyData} {e : Expr} {pos : Pos}
theorem s_nil : DS X T ρ [] true .none := pss_imp pss_nil fun D σ H k => k.2.2 rfl rfl σ H (Gr.refl H)
theorem s_ret (h : DD X T ρ e d) : DS X T ρ (.Return (some e) pos :: rest) fl d :=
  pss_imp (pss_cons (ps_ret h) pss_never) fun D σ H k => ⟨k.1, fun v H2 g hv => k.2.1 v H2 g hv⟩
theorem s_retN : DS X T ρ (.Return none pos :: rest) fl .none := pss_imp (pss_cons ps_retN pss_never) fun D σ H k => k.2.1 _ H (Gr.refl H) .non
theorem s_asg (i : Nat) {x : Str} {px : Pos} {r : Sl} (hN : X.N.Nodup) (h : DE X T ρ e r) (h2 : DS X T (ρ.set i r) rest fl d) (hi : X.N[i]? = some x := by rfl) (hx : Loc X.env.scope x := by first | exact Or.inl rfl | exact Or.inr rfl)
    (hs : swapsWith e (some (.Name x px)) pos.line X.env = pure false := by rfl) (hf : X.fn x = true ∨ X.env.scope.names.lookup x = some .local := by first | exact .inl rfl | exact .inr rfl) : DS X T ρ (.Assign [.Name x px] e pos :: rest) fl d :=
  pss_imp (pss_cons (ps_set hN hi hx h hs hf) h2) fun D σ H k => ⟨k.1, fun v H2 g hv => ⟨(k.1.gr g).set i hv, fun w H3 g3 hw => k.2.1 w H3 (g.trans g3) hw, fun f z σ2 H3 g3 => k.2.2 f z σ2 H3 (g.trans g3)⟩⟩
theorem s_expr {r : Sl} (h : DE X T ρ e r) (h2 : DS X T ρ rest fl d) (hs : swapsWith e none pos.line X.env = pure false := by rfl) : DS X T ρ (.Expr e pos :: rest) fl d :=
  pss_imp (pss_cons (ps_expr h hs) h2) fun D σ H k => ⟨k.1, fun v H2 g hv => ⟨k.1.gr g, fun w H3 g3 hw => k.2.1 w H3 (g.trans g3) hw, fun f z σ2 H3 g3 => k.2.2 f z σ2 H3 (g.trans g3)⟩⟩
/-- if c: a block that leaves; then the rest -/
theorem s_if {c : Expr} {thn els : List Stmt} {b : Bool} (hc : DT X T ρ c b) (h1 : b = true → DS X T ρ thn false d) (h2 : b = false → DS X T ρ rest fl d) (he : els = []) : DS X T ρ (.If c thn els pos :: rest) fl d := by
  subst he
  refine pss_imp (pss_cons (ps_if hc (pss_if h1) pss_nil) (pss_if h2)) fun D σ H k => ⟨k.1, fun H2 g => ?_⟩
  cases b with
  | true =>
    rw [if_pos rfl]
    exact ⟨rfl, k.1.gr g, fun w H3 g3 hw => k.2.1 w H3 (g.trans g3) hw, fun f => by cases f⟩
  | false =>
    rw [if_neg Bool.false_ne_true]
    exact ⟨rfl, k.1.gr g, fun w H3 g3 hw => k.2.1 w H3 (g.trans g3) hw, fun f z σ2 H3 g3 => k.2.2 f z σ2 H3 (g.trans g3)⟩
/-- if c: ..: never -/
theorem s_ifF {c : Expr} {thn : List Stmt} (hc : DT X T ρ c false) (h2 : DS X T ρ rest fl d) : DS X T ρ (.If c thn [] pos :: rest) fl d := by
  refine pss_imp (pss_cons (ps_if hc pss_never pss_nil) h2) fun D σ H k => ⟨k.1, fun H2 g => ?_⟩
  refine iteF ?_
  exact ⟨k.1.gr g, fun w H3 g3 hw => k.2.1 w H3 (g.trans g3) hw, fun f z σ2 H3 g3 => k.2.2 f z σ2 H3 (g.trans g3)⟩
theorem s_ifT {c : Expr} {thn els : List Stmt} (hc : DT X T ρ c true) (h1 : DS X T ρ thn false d) : DS X T ρ (.If c thn els pos :: rest) fl d := by
  refine pss_imp (pss_cons (ps_if hc h1 pss_never) pss_never) fun D σ H k => ⟨k.1, fun H2 g => ?_⟩
  refine iteT ?_
  exact ⟨k.1.gr g, fun w H3 g3 hw => k.2.1 w H3 (g.trans g3) hw, fun f => by cases f⟩
end
end
/-! ### a def's promise from its body -/
abbrev startD (N : List Str) (ds : List PyData) : List Sl := ds.map Sl.dt ++ List.replicate (N.length - ds.length) .un
abbrev bodyX (P : Program) (w : World) (K : PySem.W.Frag) (mg : Str → Option Value) (base : Heap) (N : List Str) (qual : Str) (sc : Scope) (f : Addr) (cdv : Value) (A : Around) (outer : List PySem.Env) (s : Shared) (H : Hp) (E : XK) : Cx :=
  (cxOf CX0 P w K mg base N qual sc f cdv A outer s H E).nox
theorem start_env {K : PySem.W.Frag} {T : Tbl} {N : List Str} {vs : List V} {ds : List PyData} {H : Hp} (t : LamX.Tabs T H) (h : DpAll K H vs ds) : Env K T (startD N ds) (L2.start N vs) H := by
  refine ⟨t, slots_app (slots_data h) ?_⟩
  rw [← dpAll_len h]
  exact slots_un _
section
variable {P : Program} {w : World} {K : PySem.W.Frag} {mg : Str → Option Value} {base : Heap} {T : Tbl} {x qual : Str} {st : Stmt} {dvs : List V} {kws : List (Str × V)} {f : Addr} {fd : FuncData} {N ps : List Str} {k : Nat} {R : List PyData → PyData → Prop}
theorem ok_of (F : FunD K x qual (defArgs st) (defBody st) (defScope st) dvs kws f fd) (S : FnScope N ps (defScope st)) (len : ∀ ds d, R ds d → ds.length = ps.length)
    (hbody : ∀ (cdv : Value) (A : Around) (outer : List PySem.Env) (s : Shared) (H : Hp) (E : XK) (ds : List PyData) (d : PyData), Room k (A.deeper (envOfC qual (defScope st) s.heap.objs.size f cdv)) → R ds d →
      DS (bodyX P w K mg base N qual (defScope st) f cdv A outer s H E) T (startD N ds) (defBody st) true d) : FnOk P w K mg base CX0 (k + 1) f fd ps (spD K T R) := by
  refine F.ok S (fun vs H Q E h => ?_) (fun cdv A outer s H vs Q E hr h => ?_)
  · obtain ⟨_, ds, d, hv, hR, _⟩ := h
    rw [dpAll_len hv]
    exact len ds d hR
  · obtain ⟨ht, ds, d, hv, hR, q⟩ := h
    refine ⟨_, PSs.nox (hbody cdv A outer s H E ds d hr hR), start_env ht hv, fun v H2 g h2 => q v H2 g h2, fun _ z σ2 H2 g => ?_⟩
    subst z
    exact q .non H2 g .non
theorem df_of (F : FunD K x qual (defArgs st) (defBody st) (defScope st) [] [] f fd) (hm : mg x = some (.ref f)) (S : FnScope N ps (defScope st)) (len : ∀ ds d, R ds d → ds.length = ps.length)
    (hb : ∀ (kV doc pm : Value) (an : Option Addr) (cdv ct : Value) (us : List Value), us.length = ps.length → bindArgs (PySem.W.fnOf x qual (defArgs st) (defBody st) (defScope st) .none kV doc pm an cdv ct) ⟨us, []⟩ = pure (ps.zip us))
    (hbody : ∀ (cdv : Value) (A : Around) (outer : List PySem.Env) (s : Shared) (H : Hp) (E : XK) (ds : List PyData) (d : PyData), Room k (A.deeper (envOfC qual (defScope st) s.heap.objs.size f cdv)) → R ds d →
      DS (bodyX P w K mg base N qual (defScope st) f cdv A outer s H E) T (startD N ds) (defBody st) true d) : Df P w K mg base T x (k + 1) ps R :=
  ⟨f, fd, ok_of F S len hbody, hm, F.kp, F.bindsN hb⟩
end
end KM
set_option Elab.async false
set_option linter.all false
set_option maxRecDepth 100000
set_option maxHeartbeats 4000000
/-! Operators, built-ins and comprehensions at the data level. -/
namespace KM
open PySem PySem.Spec PyProof.Rows L2
/-! ### relations -/
inductive RI (g : Int → Int → PyData) : PyData → PyData → PyData → Prop where
  | mk (i j : Int) : RI g (.int i) (.int j) (g i j)
inductive RIc (c : Int → Int → Prop) (g : Int → Int → PyData) : PyData → PyData → PyData → Prop where
  | mk (i j : Int) (h : c i j) : RIc c g (.int i) (.int j) (g i j)
inductive RB (g : Bool → Bool → Bool) : PyData → PyData → PyData → Prop where
  | mk (i j : Bool) : RB g (.bool i) (.bool j) (.bool (g i j))
inductive RS (g : Str → Str → Bool) : PyData → PyData → PyData → Prop where
  | mk (i j : Str) : RS g (.str i) (.str j) (.bool (g i j))
def REq (n : Bool) (x y d : PyData) : Prop := (SeqAt.shaped x = true ∧ SeqAt.shaped y = true) ∧ d = .bool (xor n (PyData.eqv x y))
inductive RIn (n : Bool) : PyData → PyData → PyData → Prop where
  | tup (i : Int) (ns : List Int) : RIn n (.int i) (.tuple (di ns)) (.bool (xor n (decide (i ∈ ns))))
  | lst (i : Int) (ns : List Int) : RIn n (.int i) (.list (di ns)) (.bool (xor n (decide (i ∈ ns))))
inductive RSign : PyData → PyData → PyData → Prop where
  | mk (c : Nat) (z : Str) : RSign (.str ⟨#[c]⟩) (.str z) (.bool (decide (c ∈ z.cps.toList)))
def isN : PyData → Bool
  | .none => true
  | _ => false
inductive RNone (n : Bool) : PyData → PyData → PyData → Prop where
  | mk (x : PyData) : RNone n x .none (.bool (xor n (isN x)))
inductive RIx : PyData → PyData → PyData → Prop where
  | tup (ds : List PyData) (i : Int) (d : PyData) (h : atI ds i = some d) : RIx (.tuple ds) (.int i) d
  | lst (ds : List PyData) (i : Int) (d : PyData) (h : atI ds i = some d) : RIx (.list ds) (.int i) d
inductive RCat : PyData → PyData → PyData → Prop where
  | mk (a b : List PyData) (h : a.length + b.length ≤ 1000) : RCat (.tuple a) (.tuple b) (.tuple (a ++ b))
inductive RNeg : PyData → PyData → Prop where
  | mk (i : Int) : RNeg (.int i) (.int (-i))

theorem inV_ints (i : Int) : ∀ ns : List Int, inV (.int i) (ns.map V.int) = decide (i ∈ ns)
  | [] => rfl
  | n :: ns => by
    have e : inV (.int i) ((n :: ns).map V.int) = (eqV (.int n) (.int i) || inV (.int i) (ns.map V.int)) := rfl
    rw [e, inV_ints i ns]
    have e2 : eqV (.int n) (.int i) = decide (n = i) := by
      first
        | rfl
        | (show (n == i) = _; exact Bool.beq_eq_decide_eq n i)
    rw [e2]
    by_cases h : n = i
    · subst h
      simp
    · have h' : ¬ i = n := fun z => h z.symm
      simp [h, h']
theorem flat_ints : ∀ ns : List Int, (ns.map V.int).all flatV = true
  | [] => rfl
  | n :: ns => by
    show (flatV (.int n) && (ns.map V.int).all flatV) = true
    rw [flat_ints ns]
    rfl
section
variable {X : Cx} {T : Tbl}
theorem opI_of {f : Value → Value → Sem Value} {g : Int → Int → V} {g' : Int → Int → PyData} (h : OpR X f (rI0 g)) (e : ∀ i j H, Dp X.K H (g i j) (g' i j)) : OpD X T f (RI g') := opD_of h fun x y H Q k => by
  obtain ⟨t, a, b, d, hx, hy, ⟨i, j⟩, q⟩ := k
  exact ⟨i, j, dp_int hx, dp_int hy, q _ H (Gr.refl H) (e i j H)⟩
theorem o_add : OpD X T (binaryOp .Add) (RI fun i j => .int (i + j)) := opI_of op_add fun _ _ _ => .int _
theorem o_sub : OpD X T (binaryOp .Sub) (RI fun i j => .int (i - j)) := opI_of op_sub fun _ _ _ => .int _
theorem o_lt : OpD X T (compareOp .Lt) (RI fun i j => .bool (decide (i < j))) := opI_of op_lt fun _ _ _ => .bl _
theorem o_le : OpD X T (compareOp .LtE) (RI fun i j => .bool (decide (i ≤ j))) := opI_of op_le fun _ _ _ => .bl _
theorem o_gt : OpD X T (compareOp .Gt) (RI fun i j => .bool (decide (j < i))) := opI_of op_gt fun _ _ _ => .bl _
theorem o_ge : OpD X T (compareOp .GtE) (RI fun i j => .bool (decide (j ≤ i))) := opI_of op_ge fun _ _ _ => .bl _
theorem o_eqI : OpD X T (compareOp .Eq) (RI fun i j => .bool (decide (i = j))) := opD_of op_eq fun x y H Q k => by
  obtain ⟨t, a, b, d, hx, hy, ⟨i, j⟩, q⟩ := k
  rw [dp_int hx, dp_int hy]
  refine ⟨rfl, ?_⟩
  have e : decide (V.int i = V.int j) = decide (i = j) := by simp
  rw [e]
  exact q _ H (Gr.refl H) (.bl _)
theorem o_neI : OpD X T (compareOp .NotEq) (RI fun i j => .bool (!decide (i = j))) := opD_of op_ne fun x y H Q k => by
  obtain ⟨t, a, b, d, hx, hy, ⟨i, j⟩, q⟩ := k
  rw [dp_int hx, dp_int hy]
  refine ⟨rfl, ?_⟩
  have e : decide (V.int i = V.int j) = decide (i = j) := by simp
  rw [e]
  exact q _ H (Gr.refl H) (.bl _)
theorem o_eqS : OpD X T (compareOp .Eq) (RS fun i j => decide (i = j)) := opD_of op_eq fun x y H Q k => by
  obtain ⟨t, a, b, d, hx, hy, ⟨i, j⟩, q⟩ := k
  rw [dp_str hx, dp_str hy]
  refine ⟨rfl, ?_⟩
  have e : decide (V.str i = V.str j) = decide (i = j) := by simp
  rw [e]
  exact q _ H (Gr.refl H) (.bl _)
theorem o_neS : OpD X T (compareOp .NotEq) (RS fun i j => !decide (i = j)) := opD_of op_ne fun x y H Q k => by
  obtain ⟨t, a, b, d, hx, hy, ⟨i, j⟩, q⟩ := k
  rw [dp_str hx, dp_str hy]
  refine ⟨rfl, ?_⟩
  have e : decide (V.str i = V.str j) = decide (i = j) := by simp
  rw [e]
  exact q _ H (Gr.refl H) (.bl _)
theorem o_neB : OpD X T (compareOp .NotEq) (RB fun i j => !decide (i = j)) := opD_of op_ne fun x y H Q k => by
  obtain ⟨t, a, b, d, hx, hy, ⟨i, j⟩, q⟩ := k
  rw [dp_bl hx, dp_bl hy]
  refine ⟨rfl, ?_⟩
  have e : decide (V.bl i = V.bl j) = decide (i = j) := by simp
  rw [e]
  exact q _ H (Gr.refl H) (.bl _)
theorem o_isB : OpD X T (compareOp .Is) (RB fun i j => decide (i = j)) := opD_of op_isBl fun x y H Q k => by
  obtain ⟨t, a, b, d, hx, hy, ⟨i, j⟩, q⟩ := k
  exact ⟨i, j, dp_bl hx, dp_bl hy, q _ H (Gr.refl H) (.bl _)⟩
theorem o_eq (hu : X.A.units + 64 < cLine) : OpD X T (compareOp .Eq) (REq false) := opD_of (op_eqD hu) fun x y H Q k => by
  obtain ⟨t, a, b, d, hx, hy, h, q⟩ := k
  obtain ⟨⟨sx, sy⟩, e⟩ := h
  subst e
  refine ⟨a, b, hx, hy, sx, sy, ?_⟩
  have := q _ H (Gr.refl H) (.bl _)
  rw [Bool.false_xor] at this
  exact this
theorem o_ne (hu : X.A.units + 64 < cLine) : OpD X T (compareOp .NotEq) (REq true) := opD_of (op_neD hu) fun x y H Q k => by
  obtain ⟨t, a, b, d, hx, hy, h, q⟩ := k
  obtain ⟨⟨sx, sy⟩, e⟩ := h
  subst e
  refine ⟨a, b, hx, hy, sx, sy, ?_⟩
  have := q _ H (Gr.refl H) (.bl _)
  rw [Bool.true_xor] at this
  exact this
theorem o_in : OpD X T (compareOp .In) (RIn false) := opD_of op_in_seq fun x y H Q k => by
  obtain ⟨t, a, b, d, hx, hy, h, q⟩ := k
  have fin : ∀ (i : Int) (ns : List Int), Dp X.K H x (.int i) → ∀ p xs, y = .ref p → (SqL X.K H p xs ∨ SqT X.K H p xs) → DpAll X.K H xs (di ns) → (∀ v H2, Gr T H H2 → Dp X.K H2 v (.bool (xor false (decide (i ∈ ns)))) → Q v H2) → rIn X.K false x y H Q := fun i ns hi p xs e1 e2 e3 q => by
    rw [dp_int hi]
    rw [dpAll_ints e3] at e2
    refine ⟨p, ns.map V.int, e1, e2, rfl, flat_ints ns, ?_⟩
    have z := q _ H (Gr.refl H) (.bl _)
    rw [Bool.false_xor, ← inV_ints] at z
    exact z
  cases h with
  | tup i ns =>
    obtain ⟨p, xs, e1, e2, e3⟩ := dp_tup hy
    exact fin i ns hx p xs e1 (.inr e2) e3 q
  | lst i ns =>
    obtain ⟨p, xs, e1, e2, e3⟩ := dp_lst hy
    exact fin i ns hx p xs e1 (.inl e2) e3 q
theorem o_nin : OpD X T (compareOp .NotIn) (RIn true) := opD_of op_notIn_seq fun x y H Q k => by
  obtain ⟨t, a, b, d, hx, hy, h, q⟩ := k
  have fin : ∀ (i : Int) (ns : List Int), Dp X.K H x (.int i) → ∀ p xs, y = .ref p → (SqL X.K H p xs ∨ SqT X.K H p xs) → DpAll X.K H xs (di ns) → (∀ v H2, Gr T H H2 → Dp X.K H2 v (.bool (xor true (decide (i ∈ ns)))) → Q v H2) → rIn X.K true x y H Q := fun i ns hi p xs e1 e2 e3 q => by
    rw [dp_int hi]
    rw [dpAll_ints e3] at e2
    refine ⟨p, ns.map V.int, e1, e2, rfl, flat_ints ns, ?_⟩
    have z := q _ H (Gr.refl H) (.bl _)
    rw [Bool.true_xor, ← inV_ints] at z
    exact z
  cases h with
  | tup i ns =>
    obtain ⟨p, xs, e1, e2, e3⟩ := dp_tup hy
    exact fin i ns hx p xs e1 (.inr e2) e3 q
  | lst i ns =>
    obtain ⟨p, xs, e1, e2, e3⟩ := dp_lst hy
    exact fin i ns hx p xs e1 (.inl e2) e3 q
theorem o_sign : OpD X T (compareOp .In) RSign := opD_of op_in_sign fun x y H Q k => by
  obtain ⟨t, a, b, d, hx, hy, ⟨c, z⟩, q⟩ := k
  exact ⟨c, z, dp_str hx, dp_str hy, q _ H (Gr.refl H) (.bl _)⟩
theorem isN_v {K : PySem.W.Frag} {H : Hp} {v : V} {d : PyData} (h : Dp K H v d) : decide (v = V.non) = isN d := by
  cases h <;> rfl
theorem o_isN : OpD X T (compareOp .Is) (RNone false) := opD_of op_isN fun x y H Q k => by
  obtain ⟨t, a, b, d, hx, hy, ⟨_⟩, q⟩ := k
  refine ⟨dp_non hy, ?_⟩
  have z := q _ H (Gr.refl H) (.bl _)
  rw [Bool.false_xor, ← isN_v hx] at z
  exact z
theorem o_notN : OpD X T (compareOp .IsNot) (RNone true) := opD_of op_notN fun x y H Q k => by
  obtain ⟨t, a, b, d, hx, hy, ⟨_⟩, q⟩ := k
  refine ⟨dp_non hy, ?_⟩
  have z := q _ H (Gr.refl H) (.bl _)
  rw [Bool.true_xor, ← isN_v hx] at z
  exact z
theorem o_cat : OpD X T (binaryOp .Add) RCat := opD_of op_catA fun x y H Q k => by
  obtain ⟨t, a, b, d, hx, hy, ⟨ds, es, hl⟩, q⟩ := k
  obtain ⟨p, xs, e1, e2, e3⟩ := dp_tup hx
  obtain ⟨p', ys, f1, f2, f3⟩ := dp_tup hy
  refine ⟨p, p', xs, ys, e1, f1, e2, f2, ?_, fun z => ?_, fun z1 z2 => ?_, fun z1 z2 l hl => ?_⟩
  · rw [dpAll_len e3, dpAll_len f3]
    exact size_ok hl
  · subst z
    cases e3
    exact q _ H (Gr.refl H) (.tup f2 f3)
  · subst z2
    cases f3
    rw [List.append_nil] at q
    exact q _ H (Gr.refl H) (.tup e2 e3)
  · exact q _ _ (Gr.new hl) (.tup (.of upd_same) ((Gr.new (T := T) hl).dpAll _ (dpAll_app e3 f3)))
theorem u_neg : UnD X T (unaryOp .USub) RNeg := fun pins s σ H x v Q I r k => by
  obtain ⟨t, a, d, hx, ⟨i⟩, q⟩ := k
  exact un_neg pins s σ H x v Q I r ⟨i, dp_int hx, q _ H (Gr.refl H) (.int _)⟩
/-! ### items, slices -/
theorem atI_dp {K : PySem.W.Frag} {H : Hp} {xs : List V} {ds : List PyData} {i : Int} {d : PyData} (h : DpAll K H xs ds) (e : atI ds i = some d) : ∃ v, atI xs i = some v ∧ Dp K H v d := by
  unfold atI at e ⊢
  rw [dpAll_len h]
  cases z : ixN ds.length i with
  | none => rw [z] at e; cases e
  | some j =>
    rw [z] at e
    exact dpAll_at h e
theorem ix_D : IxR X (r2D X.K T RIx) := fun value slice pins s σ H x y v u Q I rx ry k hs => by
  obtain ⟨t, a, b, d, hx, hy, h, q⟩ := k
  cases h with
  | tup ds i d h =>
    obtain ⟨p, xs, e1, e2, e3⟩ := dp_tup hx
    obtain ⟨w, h1, h2⟩ := atI_dp e3 h
    exact ix_tup value slice pins s σ H x y v u Q I rx ry ⟨p, xs, i, w, e1, dp_int hy, e2, h1, q w H (Gr.refl H) h2⟩ hs
  | lst ds i d h =>
    obtain ⟨p, xs, e1, e2, e3⟩ := dp_lst hx
    obtain ⟨w, h1, h2⟩ := atI_dp e3 h
    exact ix_list value slice pins s σ H x y v u Q I rx ry ⟨p, xs, i, w, e1, dp_int hy, e2, h1, q w H (Gr.refl H) h2⟩ hs
variable {ρ : List Sl}
theorem d_ix {a b : Expr} {pos : Pos} {x y d : PyData} (ha : DD X T ρ a x) (hb : DD X T ρ b y) (h : RIx x y d) (hs : PlainIx b := by intro _ _; rfl) : DD X T ρ (.Subscript a b pos) d :=
  pe_imp (pe_ix ix_D ha hb hs) fun _ _ _ q => two h q
/-- the items of ds[lo:hi] -/
def cutD (xs : List PyData) (lo hi : Option Int) : List PyData := (xs.drop (HT.sIx xs.length 0 lo)).take (HT.sIx xs.length xs.length hi - HT.sIx xs.length 0 lo)
theorem cut_dp {K : PySem.W.Frag} {H : Hp} {xs : List V} {ds : List PyData} (lo hi : Option Int) (h : DpAll K H xs ds) : DpAll K H (cutV xs lo hi) (cutD ds lo hi) := by
  unfold cutV cutD
  rw [dpAll_len h]
  exact dpAll_take _ (dpAll_drop _ h)
def tO (K : PySem.W.Frag) (T : Tbl) (ρ : List Sl) (o : Option Int) : TO := fun σ H Q => Env K T ρ σ H ∧ ∀ H2, Gr T H H2 → Q o H2
abbrev DO (X : Cx) (T : Tbl) (ρ : List Sl) (e : Option Expr) (o : Option Int) : Prop := PO X e (tO X.K T ρ o)
theorem po_imp {e : Option Expr} {t t' : TO} (h : PO X e t) (i : ∀ σ H Q, t' σ H Q → t σ H Q) : PO X e t' := ⟨fun pins s σ H Q I q => h.run pins s σ H Q I (i σ H Q q)⟩
theorem o_no : DO X T ρ none none := po_imp po_none fun _ H _ k => k.2 H (Gr.refl H)
theorem o_some {e : Expr} {i : Int} (h : DD X T ρ e (.int i)) : DO X T ρ (some e) (some i) := po_imp (po_some h) fun _ _ _ k => ⟨k.1, fun _ H2 g hv => ⟨i, dp_int hv, k.2 H2 g⟩⟩
theorem d_slT {e : Expr} {lo hi : Option Expr} {p2 pos : Pos} {ds : List PyData} {l h : Option Int} (he : DD X T ρ e (.tuple ds)) (hl : DO X T ρ lo l) (hh : DO X T ρ hi h) : DD X T ρ (.Subscript e (.Slice lo hi none p2) pos) (.tuple (cutD ds l h)) :=
  pe_imp (pe_slice sl_tupA he hl hh) fun _ _ _ k => ⟨k.1, fun v H1 g1 h1 => ⟨k.1.gr g1, fun H2 g2 => ⟨k.1.gr (g1.trans g2), fun H3 g3 => by
    obtain ⟨p, xs, e1, e2, e3⟩ := dp_tup ((g2.trans g3).dp _ h1)
    have e4 := cut_dp l h e3
    refine ⟨p, xs, e1, e2, fun z => ?_, fun _ q hq => ?_⟩
    · refine k.2 _ H3 ((g1.trans g2).trans g3) ?_
      have e5 : cutD ds l h = ds := by
        unfold cutD
        rw [← dpAll_len e3, z.1, z.2, List.drop_zero, Nat.sub_zero, dpAll_len e3, List.take_length]
      rw [e5]
      exact .tup e2 e3
    · exact k.2 _ _ (((g1.trans g2).trans g3).trans (Gr.new hq)) (.tup (.of upd_same) ((Gr.new (T := T) hq).dpAll _ e4))⟩⟩⟩
theorem f_slL {e : Expr} {lo hi : Option Expr} {p2 pos : Pos} {ds : List PyData} {l h : Option Int} (he : DD X T ρ e (.list ds)) (hl : DO X T ρ lo l) (hh : DO X T ρ hi h) : DF X T ρ (.Subscript e (.Slice lo hi none p2) pos) (cutD ds l h) :=
  pe_imp (pe_slice sl_list he hl hh) fun _ _ _ k => ⟨k.1, fun v H1 g1 h1 => ⟨k.1.gr g1, fun H2 g2 => ⟨k.1.gr (g1.trans g2), fun H3 g3 => by
    obtain ⟨p, xs, e1, e2, e3⟩ := dp_lst ((g2.trans g3).dp _ h1)
    exact ⟨p, xs, e1, e2, fun q hq => k.2 _ _ _ (((g1.trans g2).trans g3).trans (Gr.new hq)) (((g1.trans g2).trans g3).back hq) upd_same (cut_new hq (cut_dp l h e3))⟩⟩⟩⟩
theorem d_slL {e : Expr} {lo hi : Option Expr} {p2 pos : Pos} {ds : List PyData} {l h : Option Int} (he : DD X T ρ e (.list ds)) (hl : DO X T ρ lo l) (hh : DO X T ρ hi h) : DE X T ρ (.Subscript e (.Slice lo hi none p2) pos) (.nl (cutD ds l h)) := df_nl (f_slL he hl hh)
/-- xs + ys, both lists of their own -/
theorem f_catL {a b : Expr} {pos : Pos} {ds es : List PyData} (ha : DE X T ρ a (.nl ds)) (hb : DE X T ρ b (.nl es)) (hl : ds.length + es.length ≤ 1000) : DF X T ρ (.BinOp a .Add b pos) (ds ++ es) :=
  pe_imp (pe_op op_cat ha hb) fun _ _ _ k => ⟨k.1, fun v H1 g1 h1 => ⟨k.1.gr g1, fun w H2 g2 h2 => by
    obtain ⟨p, xs, e1, e2, e3⟩ := h1
    obtain ⟨q, ys, f1, f2, f3⟩ := h2
    refine ⟨p, q, xs, ys, e1, f1, g2.lst e2, f2, ?_, fun r hr => ?_⟩
    · rw [dpAll_len e3, dpAll_len f3]
      exact size_ok hl
    · exact k.2 _ _ _ ((g1.trans g2).trans (Gr.new hr)) ((g1.trans g2).back hr) upd_same (cut_new hr (dpAll_app (g2.dpAll _ e3) f3))⟩⟩
theorem d_catL {a b : Expr} {pos : Pos} {ds es : List PyData} (ha : DE X T ρ a (.nl ds)) (hb : DE X T ρ b (.nl es)) (hl : ds.length + es.length ≤ 1000) : DE X T ρ (.BinOp a .Add b pos) (.nl (ds ++ es)) := df_nl (f_catL ha hb hl)
end
/-! ### built-ins -/
inductive RLen : List PyData → PyData → Prop where
  | lst (ds : List PyData) : RLen [.list ds] (.int ds.length)
  | tup (ds : List PyData) : RLen [.tuple ds] (.int ds.length)
  | str (x : Str) (h : x.length ≤ 1000) : RLen [.str x] (.int x.length)
inductive RAll : List PyData → PyData → Prop where
  | mk (bs : List Bool) : RAll [.list (db bs)] (.bool (bs.all id))
inductive RAny : List PyData → PyData → Prop where
  | mk (bs : List Bool) : RAny [.list (db bs)] (.bool (bs.any id))
inductive RSum : List PyData → PyData → Prop where
  | lst (ns : List Int) : RSum [.list (di ns)] (.int ns.sum)
  | tup (ns : List Int) : RSum [.tuple (di ns)] (.int ns.sum)
inductive RMax : List PyData → PyData → Prop where
  | mk (ns : List Int) (m : Int) (h1 : m ∈ ns) (h2 : ∀ y, y ∈ ns → y ≤ m) : RMax [.list (di ns)] (.int m)
inductive RMax2 : List PyData → PyData → Prop where
  | mk (i j : Int) : RMax2 [.int i, .int j] (.int (if j > i then j else i))
inductive RMin2 : List PyData → PyData → Prop where
  | mk (i j : Int) : RMin2 [.int i, .int j] (.int (if j < i then j else i))
inductive RInt : List PyData → PyData → Prop where
  | int (i : Int) : RInt [.int i] (.int i)
  | bl (b : Bool) : RInt [.bool b] (.int (if b then 1 else 0))
inductive RTup : List PyData → PyData → Prop where
  | lst (ds : List PyData) : RTup [.list ds] (.tuple ds)
  | tup (ds : List PyData) : RTup [.tuple ds] (.tuple ds)
inductive RSorted : List PyData → PyData → Prop where
  | mk (ns ns' : List Int) (h1 : ns'.Perm ns) (h2 : ns'.Pairwise (· ≤ ·)) : RSorted [.list (di ns)] (.list (di ns'))
theorem one_of {K : PySem.W.Frag} {H : Hp} {vs : List V} {d : PyData} (h : DpAll K H vs [d]) : ∃ v, vs = [v] ∧ Dp K H v d := by
  cases h with
  | cons h1 h2 =>
    cases h2
    exact ⟨_, rfl, h1⟩
theorem two_of {K : PySem.W.Frag} {H : Hp} {vs : List V} {d e : PyData} (h : DpAll K H vs [d, e]) : ∃ v w, vs = [v, w] ∧ Dp K H v d ∧ Dp K H w e := by
  cases h with
  | cons h1 h2 =>
    obtain ⟨w, e, h3⟩ := one_of h2
    subst e
    exact ⟨_, _, rfl, h1, h3⟩
section
variable {prog : Program} {w : World} {A : Around} {E : Value → Shared → Prop} {s : Shared} {l : Addr} {xs : Array (Int × Tok)} {its : List Value} {ns : List Int} {Q : Value → Shared → Prop}
theorem sum_tupRaw (hh : A.handled = none) (hl : s.heap.IsTuple l its.toArray) (hi : IntsAre its ns)
    (h : ∀ h' tk t', (∀ b o, s.heap.get? b = some o → h'.get? b = some o) → Q (.int ns.sum t') { s with heap := h', toks := tk }) : wpAny (model prog w) A (call (.builtin "sum") [.ref l]) Q E s := by
  obtain ⟨xs, e⟩ := hi.allInts.items
  have hn : numsOf (intItems xs).toList = ns := by rw [← e]; exact hi.numsOf
  rw [nums_intItems] at hn
  rw [e] at hl
  refine call_sum_walkG (wpAny_pyIter_tuple hl ?_)
  have hlt : l < s.heap.objs.size := by
    obtain ⟨o, ho, _⟩ := id hl
    exact Heap.lt_size ho
  refine ⟨_, _, _, _, _, _, numAt xs, rfl, Walks.tuple (A := A.in1) hh s.heap.objs.size l (Nat.ne_of_lt hlt) (intItems xs), ⟨⟨_, Heap.get?_push_size _ rfl, rfl, rfl⟩, hl.at fun o e => Heap.get?_push_of_some _ e⟩, fun b hb => ?_, (fun _ _ => intItems_at), fun h' tk t' hk => ?_⟩
  · have z : b = s.heap.objs.size ∨ b = l := by simpa using hb
    rw [Heap.size_push]
    rcases z with z | z
    · rw [z]; exact Nat.lt_succ_self _
    · rw [z]; exact Nat.lt_succ_of_lt hlt
  · have q := h h' tk t' (fun b o e => hk b o (fun z => by
      have z' : b = s.heap.objs.size := by simpa using z
      rw [z'] at e
      exact absurd (Heap.lt_size e) (Nat.lt_irrefl _)) (Heap.get?_push_of_some _ e))
    have e2 : preSum (numAt xs) (intItems xs).size = ns.sum := by
      rw [preSum_eq]
      have e3 : (intItems xs).size = xs.size := by simp [intItems]
      rw [e3, List.take_of_length_le (by simp), hn]
    rw [e2]
    exact q
end
section
variable {X : Cx} {T : Tbl}
theorem crD {f : Value} {r : List V → Hp → VK → Prop} {R : List PyData → PyData → Prop} (h : CallR X f r) (i : ∀ vs H Q, rD X.K T R vs H Q → r vs H Q) : CallR X f (rD X.K T R) := fun pins s σ H xs us Q I r k => h pins s σ H xs us Q I r (i xs H Q k)
theorem c_len : CallR X (.builtin "len") (rD X.K T RLen) := crD (call_len_seq.or call_len_str) fun vs H Q k => by
  obtain ⟨t, ds, d, hv, h, q⟩ := k
  cases h with
  | lst ds =>
    obtain ⟨v, e, hv⟩ := one_of hv
    obtain ⟨p, xs, e1, e2, e3⟩ := dp_lst hv
    subst e e1
    exact .inl ⟨p, xs, rfl, .inl e2, by rw [dpAll_len e3]; exact q _ H (Gr.refl H) (.int _)⟩
  | tup ds =>
    obtain ⟨v, e, hv⟩ := one_of hv
    obtain ⟨p, xs, e1, e2, e3⟩ := dp_tup hv
    subst e e1
    exact .inl ⟨p, xs, rfl, .inr e2, by rw [dpAll_len e3]; exact q _ H (Gr.refl H) (.int _)⟩
  | str x hx =>
    obtain ⟨v, e, hv⟩ := one_of hv
    rw [e, dp_str hv]
    exact .inr ⟨x, rfl, size_ok hx, q _ H (Gr.refl H) (.int _)⟩
theorem c_all (hc : X.calm = true) : CallR X (.builtin "all") (rD X.K T RAll) := crD (cr_all hc) fun vs H Q k => by
  obtain ⟨t, ds, d, hv, ⟨bs⟩, q⟩ := k
  obtain ⟨v, e, hv⟩ := one_of hv
  obtain ⟨p, xs, e1, e2, e3⟩ := dp_lst hv
  subst e e1
  rw [dpAll_bools e3] at e2
  exact ⟨p, bs, rfl, e2, q _ H (Gr.refl H) (.bl _)⟩
theorem c_any (hc : X.calm = true) : CallR X (.builtin "any") (rD X.K T RAny) := crD (cr_any hc) fun vs H Q k => by
  obtain ⟨t, ds, d, hv, ⟨bs⟩, q⟩ := k
  obtain ⟨v, e, hv⟩ := one_of hv
  obtain ⟨p, xs, e1, e2, e3⟩ := dp_lst hv
  subst e e1
  rw [dpAll_bools e3] at e2
  exact ⟨p, bs, rfl, e2, q _ H (Gr.refl H) (.bl _)⟩
theorem c_sum (hc : X.calm = true) : CallR X (.builtin "sum") (rD X.K T RSum) := fun pins s σ H xs us Q I r k => by
  obtain ⟨t, ds, d, hv, h, q⟩ := k
  cases h with
  | lst ns =>
    obtain ⟨v, e, hv⟩ := one_of hv
    obtain ⟨p, ys, e1, e2, e3⟩ := dp_lst hv
    subst e e1
    rw [dpAll_ints e3] at e2
    exact cr_sum hc pins s σ H _ us Q I r ⟨p, ns, rfl, e2, q _ H (Gr.refl H) (.int _)⟩
  | tup ns =>
    obtain ⟨v, e, hv⟩ := one_of hv
    obtain ⟨p, ys, e1, e2, e3⟩ := dp_tup hv
    subst e e1
    rw [dpAll_ints e3] at e2
    obtain ⟨its, rv, hl, _⟩ := I.tuple e2
    rw [Vals.ref1 r]
    exact sum_tupRaw (I.ok.hd hc) hl rv.ints fun h' tk t' hk => ⟨.int _, H, I.kept hk, ⟨_, rfl⟩, q _ H (Gr.refl H) (.int _)⟩
theorem c_max (hc : X.calm = true) : CallR X (.builtin "max") (rD X.K T RMax) := crD (cr_max hc) fun vs H Q k => by
  obtain ⟨t, ds, d, hv, ⟨ns, m, h1, h2⟩, q⟩ := k
  obtain ⟨v, e, hv⟩ := one_of hv
  obtain ⟨p, xs, e1, e2, e3⟩ := dp_lst hv
  subst e e1
  rw [dpAll_ints e3] at e2
  refine ⟨p, ns, rfl, e2, List.length_pos_of_mem h1, fun m' k1 k2 => ?_⟩
  have em : m' = m := Int.le_antisymm (h2 m' k1) (k2 m h1)
  rw [em]
  exact q _ H (Gr.refl H) (.int _)
theorem c_max2 (hc : X.calm = true) : CallR X (.builtin "max") (rD X.K T RMax2) := crD (call_max2 hc) fun vs H Q k => by
  obtain ⟨t, ds, d, hv, ⟨i, j⟩, q⟩ := k
  obtain ⟨v, w, e, h1, h2⟩ := two_of hv
  rw [e, dp_int h1, dp_int h2]
  exact ⟨i, j, rfl, q _ H (Gr.refl H) (.int _)⟩
theorem c_min2 (hc : X.calm = true) : CallR X (.builtin "min") (rD X.K T RMin2) := crD (call_min2 hc) fun vs H Q k => by
  obtain ⟨t, ds, d, hv, ⟨i, j⟩, q⟩ := k
  obtain ⟨v, w, e, h1, h2⟩ := two_of hv
  rw [e, dp_int h1, dp_int h2]
  exact ⟨i, j, rfl, q _ H (Gr.refl H) (.int _)⟩
theorem c_int : CallR X (.type "int") (rD X.K T RInt) := crD call_int1 fun vs H Q k => by
  obtain ⟨t, ds, d, hv, h, q⟩ := k
  cases h with
  | int i =>
    obtain ⟨v, e, hv⟩ := one_of hv
    rw [e, dp_int hv]
    exact .inl ⟨i, rfl, q _ H (Gr.refl H) (.int _)⟩
  | bl b =>
    obtain ⟨v, e, hv⟩ := one_of hv
    rw [e, dp_bl hv]
    exact .inr ⟨b, rfl, q _ H (Gr.refl H) (.int _)⟩
theorem c_tup : CallR X (.type "tuple") (rD X.K T RTup) := crD call_tuple_of fun vs H Q k => by
  obtain ⟨t, ds, d, hv, h, q⟩ := k
  cases h with
  | lst ds =>
    obtain ⟨v, e, hv⟩ := one_of hv
    obtain ⟨p, xs, e1, e2, e3⟩ := dp_lst hv
    subst e e1
    exact ⟨p, xs, rfl, .inl ⟨e2, fun l hl => q _ _ (Gr.new hl) (.tup (.of upd_same) ((Gr.new (T := T) hl).dpAll _ e3))⟩⟩
  | tup ds =>
    obtain ⟨v, e, hv⟩ := one_of hv
    obtain ⟨p, xs, e1, e2, e3⟩ := dp_tup hv
    subst e e1
    exact ⟨p, xs, rfl, .inr ⟨e2, q _ H (Gr.refl H) (.tup e2 e3)⟩⟩
theorem c_sorted : CallR X (.builtin "sorted") (rD X.K T RSorted) := crD cr_sortedI fun vs H Q k => by
  obtain ⟨t, ds, d, hv, ⟨ns, ns', h1, h2⟩, q⟩ := k
  obtain ⟨v, e, hv⟩ := one_of hv
  obtain ⟨p, xs, e1, e2, e3⟩ := dp_lst hv
  subst e e1
  rw [dpAll_ints e3] at e2
  refine ⟨p, ns, rfl, e2, fun ms l k1 k2 hl => ?_⟩
  have em : ms = ns' := ((k1.trans h1.symm).eq_of_pairwise (le := fun a b => a ≤ b) (fun a b _ _ => Int.le_antisymm) k2 h2)
  subst em
  exact q _ _ (Gr.new hl) (.lst (.of upd_same) (ints_dpAll _))
end
end KM
set_option Elab.async false
set_option linter.all false
set_option maxRecDepth 100000
set_option maxHeartbeats 4000000
/-! Comprehensions, loops, isinstance at the data level. -/
namespace KM
open PySem PySem.Spec PyProof.Rows L2
mutual
/-- no list within: nothing that may change -/
def noL : PyData → Bool
  | .list _ => false
  | .dict _ => false
  | .tuple ds => noLs ds
  | _ => true
def noLs : List PyData → Bool
  | [] => true
  | d :: ds => noL d && noLs ds
end
/-- tuples stay -/
def Im (H H' : Hp) : Prop := (∀ b xs, H b = some (.tup xs) → H' b = some (.tup xs)) ∧ ∀ b o u, H b = some (.frz o u) → H' b = some (.frz o u)
theorem Im.upd {H : Hp} {p : Addr} {o u : HO} (h : H p = some u) (n1 : ∀ xs, u ≠ .tup xs := by intro _ z; cases z) (n2 : ∀ a b, u ≠ .frz a b := by intro _ _ z; cases z) : Im H (upd H p o) :=
  ⟨fun b xs e => by rw [upd_ne (fun z => n1 xs (by rw [z, h] at e; exact Option.some.inj e))]; exact e, fun b a c e => by rw [upd_ne (fun z => n2 a c (by rw [z, h] at e; exact Option.some.inj e))]; exact e⟩
theorem Im.trans {H H1 H2 : Hp} (a : Im H H1) (b : Im H1 H2) : Im H H2 := ⟨fun x xs e => b.1 x xs (a.1 x xs e), fun x o u e => b.2 x o u (a.2 x o u e)⟩
theorem Im.refl (H : Hp) : Im H H := ⟨fun _ _ e => e, fun _ _ _ e => e⟩
theorem Gr.im {T : Tbl} {H H' : Hp} (g : Gr T H H') : Im H H' := ⟨fun b xs e => g.tup e, fun b o u e => g.1 b _ e (fun _ z => by cases z)⟩
section
variable {K : PySem.W.Frag} {H H' : Hp}
theorem Im.sqT {a : Addr} {xs : List V} (g : Im H H') (h : SqT K H a xs) : SqT K H' a xs := by
  rcases h with (h | ⟨o, h⟩) | h
  · exact .inl (.inl (g.1 _ _ h))
  · exact .inl (.inr ⟨o, g.2 _ _ _ h⟩)
  · exact .inr h
mutual
theorem Im.dp (g : Im H H') : ∀ (d : PyData) {v : V}, noL d = true → Dp K H v d → Dp K H' v d
  | .none, _, _, h => by cases h; exact .non
  | .bool b, _, _, h => by cases h; exact .bl b
  | .int i, _, _, h => by cases h; exact .int i
  | .str x, _, _, h => by cases h; exact .str x
  | .list ds, _, n, h => by
    have z : false = true := n
    cases z
  | .tuple ds, _, n, h => by
    cases h with
    | tup hs ha => exact .tup (g.sqT hs) (Im.dpAll g ds n ha)
  | .dict _, _, _, h => by cases h
theorem Im.dpAll (g : Im H H') : ∀ (ds : List PyData) {vs : List V}, noLs ds = true → DpAll K H vs ds → DpAll K H' vs ds
  | [], _, _, h => by cases h; exact .nil
  | d :: ds, _, n, h => by
    have n' : (noL d && noLs ds) = true := n
    rw [Bool.and_eq_true] at n'
    cases h with | cons h1 h2 => exact .cons (Im.dp g d n'.1 h1) (Im.dpAll g ds n'.2 h2)
end
end
theorem noLs_all : ∀ {ds : List PyData}, (∀ d ∈ ds, noL d = true) → noLs ds = true
  | [], _ => rfl
  | d :: ds, h => by
    show (noL d && noLs ds) = true
    rw [h d List.mem_cons_self, noLs_all fun e he => h e (List.mem_cons_of_mem _ he)]
    rfl
theorem noLs_app : ∀ {ds es : List PyData}, noLs ds = true → noLs es = true → noLs (ds ++ es) = true
  | [], _, _, h => h
  | d :: ds, es, h, h' => by
    have n' : (noL d && noLs ds) = true := h
    rw [Bool.and_eq_true] at n'
    show (noL d && noLs (ds ++ es)) = true
    rw [n'.1, noLs_app n'.2 h']
    rfl
theorem noLs_ints : ∀ ns : List Int, noLs (di ns) = true
  | [] => rfl
  | n :: ns => noLs_ints ns
theorem noL_tup (ns : List Int) : noL (.tuple (di ns)) = true := noLs_ints ns

/-! ### a comprehension's list as it grows -/
/-- the list at D holds ds; all else since H1 stands -/
def Grows (K : PySem.W.Frag) (T : Tbl) (H1 : Hp) (D : Addr) (ds : List PyData) (H : Hp) : Prop := Gr T H1 H ∧ ∃ acc, H D = some (.lst acc) ∧ DpAll K H acc ds ∧ noLs ds = true
theorem Grows.start {K : PySem.W.Frag} {T : Tbl} {H1 : Hp} {D : Addr} (h : H1 D = none) : Grows K T H1 D [] (upd H1 D (.lst [])) := ⟨Gr.new h, [], upd_same, .nil, rfl⟩
theorem Grows.add {K : PySem.W.Frag} {T : Tbl} {H1 H H4 : Hp} {D : Addr} {ds : List PyData} {d : PyData} {y : V} (h0 : H1 D = none) (h : Grows K T H1 D ds H) (g : Gr T H H4) (hy : Dp K H4 y d) (n : noL d = true) (hl : ds.length < 1000) :
    ∃ acc, H4 D = some (.lst acc) ∧ acc.length < sizeLine ∧ Grows K T H1 D (ds ++ [d]) (upd H4 D (.lst (acc ++ [y]))) := by
  obtain ⟨g0, acc, e, hd, hn⟩ := h
  have e4 := g.lst e
  have im : Im H4 (upd H4 D (.lst (acc ++ [y]))) := Im.upd e4
  refine ⟨acc, e4, ?_, (g0.trans g).late (New.of h0) e4, acc ++ [y], upd_same, dpAll_app (im.dpAll _ hn (g.dpAll _ hd)) (.cons (im.dp _ n hy) .nil), noLs_app hn ?_⟩
  · rw [dpAll_len hd]
    exact small1000 (Nat.le_of_lt hl)
  · show (noL d && true) = true
    rw [n]
    rfl
theorem Grows.gr {K : PySem.W.Frag} {T : Tbl} {H1 H H4 : Hp} {D : Addr} {ds : List PyData} (h : Grows K T H1 D ds H) (g : Gr T H H4) : Grows K T H1 D ds H4 := by
  obtain ⟨g0, acc, e, hd, hn⟩ := h
  exact ⟨g0.trans g, acc, g.lst e, g.dpAll _ hd, hn⟩
theorem im_cut {H : Hp} {a : Addr} {xs : List V} (h : H a = some (.lst xs)) : Im H (cutH H a) := ⟨fun b ys e => by
    unfold cutH
    rw [if_neg (fun z => by rw [z, h] at e; cases e)]
    exact e, fun b o u e => by
    unfold cutH
    rw [if_neg (fun z => by rw [z, h] at e; cases e)]
    exact e⟩
theorem Grows.fin {K : PySem.W.Frag} {T : Tbl} {ρ : List Sl} {H0 H1 H : Hp} {D : Addr} {ds ds' : List PyData} {σ : L2.St} {Q : VK} (h : Grows K T H1 D ds H) (e : ds = ds') (hD : H1 D = none) (g : Gr T H0 H1) (k : tF K T ρ ds' σ H0 Q) : Q (.ref D) H := by
  subst e
  obtain ⟨g0, acc, e, hd, hn⟩ := h
  exact k.2 D acc H (g.trans g0) (g.back hD) e ((im_cut e).dpAll _ hn hd)
theorem Grows.done {K : PySem.W.Frag} {T : Tbl} {H1 H : Hp} {D : Addr} {ds : List PyData} (h : Grows K T H1 D ds H) : SlOk K H (.nl ds) (.ref D) := by
  obtain ⟨g0, acc, e, hd, hn⟩ := h
  exact ⟨D, acc, rfl, e, hd⟩
theorem wipe_one (σ : L2.St) (j : Nat) (x : V) : wipe ((wipe σ [j]).set j (some x)) [j] = wipe σ [j] := by
  show ((σ.set j none).set j (some x)).set j none = σ.set j none
  rw [List.set_set, List.set_set]
theorem take_filter {p : PyData → Bool} {f : PyData → PyData} {ds : List PyData} {i : Nat} {d : PyData} (h : ds[i]? = some d) : (((ds.take (i + 1)).filter p).map f) = (((ds.take i).filter p).map f) ++ (if p d then [f d] else []) := by
  rw [List.take_add_one, h, List.filter_append, List.map_append]
  congr 1
  cases hp : p d <;> simp [hp]
/-- an item's test, an item's element -/
def ttC (K : PySem.W.Frag) (T : Tbl) (ρ : List Sl) (j : Nat) (ds : List PyData) (p : PyData → Bool) : TT := fun σ H Q => ∃ d, d ∈ ds ∧ tT K T ((wipeR ρ [j]).set j (.dt d)) (p d) σ H Q
def teC (K : PySem.W.Frag) (T : Tbl) (ρ : List Sl) (j : Nat) (ds : List PyData) (p : PyData → Bool) (f : PyData → PyData) : TE := fun σ H Q => ∃ d, (d ∈ ds ∧ p d = true) ∧ tE K T ((wipeR ρ [j]).set j (.dt d)) (.dt (f d)) σ H Q
section
variable {X : Cx} {T : Tbl} {ρ : List Sl}
/-- one turn -/
theorem lc_step {K : PySem.W.Frag} {H1 H : Hp} {D : Addr} {σ2 : L2.St} {ds : List PyData} {p : PyData → Bool} {f : PyData → PyData} {i : Nat} {d : PyData} {ρ' : PyData → List Sl} (h0 : H1 D = none) (hd : ds[i]? = some d) (hl : ds.length ≤ 1000) (hn : ∀ d ∈ ds, p d = true → noL (f d) = true)
    (P : Grows K T H1 D (((ds.take i).filter p).map f) H) (e : Env K T (ρ' d) σ2 H) :
    (∃ d, d ∈ ds ∧ tT K T (ρ' d) (p d) σ2 H fun b H3 => if b = true then (∃ d, (d ∈ ds ∧ p d = true) ∧ tE K T (ρ' d) (.dt (f d)) σ2 H3 fun y H4 => ∃ acc, H4 D = some (.lst acc) ∧ acc.length < sizeLine ∧ Grows K T H1 D (((ds.take (i + 1)).filter p).map f) (upd H4 D (.lst (acc ++ [y])))) else Grows K T H1 D (((ds.take (i + 1)).filter p).map f) H3) := by
  have hm : d ∈ ds := List.mem_of_getElem? hd
  refine ⟨d, hm, e, fun H3 g3 => ?_⟩
  rw [take_filter hd]
  cases hp : p d with
  | true =>
    rw [if_pos rfl]
    refine ⟨d, ⟨hm, hp⟩, e.gr g3, fun y H4 g4 hy => ?_⟩
    rw [if_pos rfl]
    refine P.add h0 (g3.trans g4) hy (hn d hm hp) ?_
    have h1 := List.length_filter_le p (ds.take i)
    have h2 := (List.getElem?_eq_some_iff.mp hd).1
    rw [List.length_map]
    rw [List.length_take] at h1
    omega
  | false =>
    rw [if_neg Bool.false_ne_true, if_neg Bool.false_ne_true, List.append_nil]
    exact P.gr g3
/-- the readings of [elt for x in t if ..]: t a tuple, a list, range(n) -/
theorem lc_rdT {K : PySem.W.Frag} {j : Nat} {ds : List PyData} {p : PyData → Bool} {f : PyData → PyData} {σ : L2.St} {H : Hp} {Q : VK} (hn : ∀ d ∈ ds, p d = true → noL (f d) = true) (hl : ds.length ≤ 1000) (k : tF K T ρ ((ds.filter p).map f) σ H Q) :
    tLc (iTup K (tE K T ρ (.dt (.tuple ds)))) (gName j) (ttC K T ρ j ds p) (teC K T ρ j ds p f) [j] σ H Q := by
  refine ⟨k.1, fun v H1 g1 h1 => ?_⟩
  obtain ⟨a, xs, e1, e2, e3⟩ := dp_tup h1
  refine ⟨a, e1, ⟨xs, e2⟩, fun D hD => lc_tup (xs := xs) (g := gName j) (tt := ttC K T ρ j ds p) (te := teC K T ρ j ds p f) (vs := [j]) (σ := σ) (Qd := fun H => Q (.ref D) H) (fun i H => Grows K T H1 D (((ds.take i).filter p).map f) H) (Grows.start hD) (fun i H' _ P => P.1.sqT e2) (fun i w H' hx P => ?_) (fun H' P => ?_)⟩
  · obtain ⟨d, hd, hw⟩ := dpAll_get e3 hx
    refine ⟨wipe_one σ j w, lc_step (ρ' := fun d => (wipeR ρ [j]).set j (.dt d)) hD hd hl hn P ?_⟩
    exact ((k.1.gr (g1.trans P.1)).wipe [j]).set (r := .dt d) j (P.1.dp _ hw)
  · exact P.fin (by rw [dpAll_len e3, List.take_length]) hD g1 k
theorem lc_rdL {K : PySem.W.Frag} {j : Nat} {ds : List PyData} {p : PyData → Bool} {f : PyData → PyData} {σ : L2.St} {H : Hp} {Q : VK} (hn : ∀ d ∈ ds, p d = true → noL (f d) = true) (hl : ds.length ≤ 1000) (k : tF K T ρ ((ds.filter p).map f) σ H Q) :
    tLc (iList K (tE K T ρ (.dt (.list ds)))) (gName j) (ttC K T ρ j ds p) (teC K T ρ j ds p f) [j] σ H Q := by
  refine ⟨k.1, fun v H1 g1 h1 => ?_⟩
  obtain ⟨a, xs, e1, e2, e3⟩ := dp_lst h1
  refine ⟨a, e1, ⟨xs, e2⟩, fun D hD => lc_list (xs := xs) (g := gName j) (tt := ttC K T ρ j ds p) (te := teC K T ρ j ds p f) (vs := [j]) (σ := σ) (Qd := fun H => Q (.ref D) H) (fun i H => Grows K T H1 D (((ds.take i).filter p).map f) H) (Grows.start hD) (fun i H' _ P => P.1.sqL e2) (fun i w H' hx P => ?_) (fun H' P => ?_)⟩
  · obtain ⟨d, hd, hw⟩ := dpAll_get e3 hx
    refine ⟨wipe_one σ j w, lc_step (ρ' := fun d => (wipeR ρ [j]).set j (.dt d)) hD hd hl hn P ?_⟩
    exact ((k.1.gr (g1.trans P.1)).wipe [j]).set (r := .dt d) j (P.1.dp _ hw)
  · exact P.fin (by rw [dpAll_len e3, List.take_length]) hD g1 k
/-- range(n) as data -/
abbrev upTo (n : Int) : List Int := (List.range n.toNat).map fun (i : Nat) => (i : Int)
theorem lc_rdR {K : PySem.W.Frag} {j : Nat} {n : Int} {p : PyData → Bool} {f : PyData → PyData} {σ : L2.St} {H : Hp} {Q : VK} (hlo : 0 ≤ n) (hhi : n ≤ 1000) (hn : ∀ d ∈ di (upTo n), p d = true → noL (f d) = true) (k : tF K T ρ (((di (upTo n)).filter p).map f) σ H Q) :
    tLc (iRng1 (tA K T ρ [.int n])) (gName j) (ttC K T ρ j (di (upTo n)) p) (teC K T ρ j (di (upTo n)) p f) [j] σ H Q := by
  refine ⟨k.1, fun vs H1 g1 h1 => ?_⟩
  obtain ⟨v, e, hv⟩ := one_of h1
  refine ⟨n, by rw [e, dp_int hv], by omega, by omega, fun D hD => lc_range (lo := 0) (n := n.toNat) (g := gName j) (tt := ttC K T ρ j (di (upTo n)) p) (te := teC K T ρ j (di (upTo n)) p f) (vs := [j]) (σ := σ) (Qd := fun H => Q (.ref D) H) (fun i H => Grows K T H1 D ((((di (upTo n)).take i).filter p).map f) H) (Grows.start hD) (fun i H' hlt P => ?_) (fun H' P => ?_)⟩
  · have hd : (di (upTo n))[i]? = some (.int (i : Int)) := by simp [di, upTo, hlt]
    have e0 : (0 : Int) + (i : Int) = (i : Int) := Int.zero_add _
    rw [e0]
    refine ⟨wipe_one σ j _, lc_step (ρ' := fun d => (wipeR ρ [j]).set j (.dt d)) hD hd (by simp [di, upTo]; omega) hn P ?_⟩
    exact ((k.1.gr (g1.trans P.1)).wipe [j]).set (r := .dt (.int (i : Int))) j (.int _)
  · have e1 : (di (upTo n)).take n.toNat = di (upTo n) := List.take_of_length_le (by simp [di, upTo])
    exact P.fin (by rw [e1]) hD g1 k
theorem pts_imp {es : List Expr} {t t' : TT} (h : PTs X es t) (i : ∀ σ H Q, t' σ H Q → t σ H Q) : PTs X es t' := ⟨fun pins s σ H Q I q => h.run pins s σ H Q I (i σ H Q q)⟩
theorem filter_yes (ds : List PyData) : ds.filter (fun _ => true) = ds := by induction ds <;> simp_all
/-- the block's test, by its items -/
abbrev HT1 (X : Cx) (T : Tbl) (ρ : List Sl) (scope : Scope) (j : Nat) (ds : List PyData) (ifs : List Expr) (p : PyData → Bool) : Prop := ∀ (s : Shared) (H : Hp) (C : Addr) (cl : List (Str × Addr)) (fp : List Addr), PTs (X.blk s H scope (compEnvC scope cl C X.env) fp) ifs (ttC X.K T ρ j ds p)
abbrev HE1 (X : Cx) (T : Tbl) (ρ : List Sl) (scope : Scope) (j : Nat) (ds : List PyData) (elt : Expr) (p : PyData → Bool) (f : PyData → PyData) : Prop := ∀ (s : Shared) (H : Hp) (C : Addr) (cl : List (Str × Addr)) (fp : List Addr), PE (X.blk s H scope (compEnvC scope cl C X.env) fp) elt (teC X.K T ρ j ds p f)
abbrev HG1 (X : Cx) (scope : Scope) (tg : Expr) (j : Nat) : Prop := ∀ (s : Shared) (H : Hp) (C : Addr) (cl : List (Str × Addr)) (fp : List Addr), PG (X.blk s H scope (compEnvC scope cl C X.env) fp) tg (gName j)
theorem ht_yes {scope : Scope} {j : Nat} {ds : List PyData} : HT1 X T ρ scope j ds [] (fun _ => true) := fun _ _ _ _ _ => pts_imp pts_nil fun _ H _ ⟨_, _, _, k⟩ => k H (Gr.refl H)
theorem ht_one {scope : Scope} {j : Nat} {ds : List PyData} {c : Expr} {p : PyData → Bool} (h : ∀ (s : Shared) (H : Hp) (C : Addr) (cl : List (Str × Addr)) (fp : List Addr) (d : PyData), d ∈ ds → DT (X.blk s H scope (compEnvC scope cl C X.env) fp) T ((wipeR ρ [j]).set j (.dt d)) c (p d)) : HT1 X T ρ scope j ds [c] p :=
  fun s H C cl fp => pts_one (pt_ex (c := fun d => d ∈ ds) (h s H C cl fp))
theorem he_of {scope : Scope} {j : Nat} {ds : List PyData} {e : Expr} {p : PyData → Bool} {f : PyData → PyData} (h : ∀ (s : Shared) (H : Hp) (C : Addr) (cl : List (Str × Addr)) (fp : List Addr) (d : PyData), d ∈ ds → p d = true → DD (X.blk s H scope (compEnvC scope cl C X.env) fp) T ((wipeR ρ [j]).set j (.dt d)) e (f d)) : HE1 X T ρ scope j ds e p f :=
  fun s H C cl fp => pe_ex (c := fun d => d ∈ ds ∧ p d = true) fun d hd => h s H C cl fp d hd.1 hd.2
section
variable {elt tg iter a : Expr} {ifs : List Expr} {scope : Scope} {x y : Str} {i j : Nat} {pr pos pos2 py spos : Pos} {ds : List PyData} {n : Int} {p : PyData → Bool} {f : PyData → PyData}
theorem lcT (hc : X.calm = true) (hN : X.N.Nodup) (hi : DD X T ρ iter (.tuple ds)) (ok : BlkOk X.N X.env.scope scope [(x, j)]) (hg : HG1 X scope tg j) (ht : HT1 X T ρ scope j ds ifs p) (he : HE1 X T ρ scope j ds elt p f)
    (hn : ∀ d ∈ ds, p d = true → noL (f d) = true) (hl : ds.length ≤ 1000) (hs : ∀ x, foldedSetIterable iter X.env x = pure x := by intro _; rfl) : DE X T ρ (.ListComp elt [⟨tg, iter, ifs, 0⟩] scope pos) (.nl ((ds.filter p).map f)) :=
  pe_imp (pe_lc (own := [(x, j)]) hc hN (pi_tup hi) ok hg ht he hs) fun _ _ _ k => lc_rdT hn hl (tF_nl k)
theorem lcL (hc : X.calm = true) (hN : X.N.Nodup) (hi : DD X T ρ iter (.list ds)) (ok : BlkOk X.N X.env.scope scope [(x, j)]) (hg : HG1 X scope tg j) (ht : HT1 X T ρ scope j ds ifs p) (he : HE1 X T ρ scope j ds elt p f)
    (hn : ∀ d ∈ ds, p d = true → noL (f d) = true) (hl : ds.length ≤ 1000) (hs : ∀ x, foldedSetIterable iter X.env x = pure x := by intro _; rfl) : DE X T ρ (.ListComp elt [⟨tg, iter, ifs, 0⟩] scope pos) (.nl ((ds.filter p).map f)) :=
  pe_imp (pe_lc (own := [(x, j)]) hc hN (pi_list hi) ok hg ht he hs) fun _ _ _ k => lc_rdL hn hl (tF_nl k)
theorem lcR (hc : X.calm = true) (hN : X.N.Nodup) (hm : X.mg "range" = none) (hi : DD X T ρ a (.int n)) (hlo : 0 ≤ n) (hhi : n ≤ 1000) (ok : BlkOk X.N X.env.scope scope [(x, j)]) (hg : HG1 X scope tg j) (ht : HT1 X T ρ scope j (di (upTo n)) ifs p) (he : HE1 X T ρ scope j (di (upTo n)) elt p f)
    (hn : ∀ d ∈ di (upTo n), p d = true → noL (f d) = true) (hgr : Gl X "range" := by rfl) (hst : starEach [a] X.env = [(false, eval a X.env)] := by rfl) (hs : ∀ x, foldedSetIterable (.Call (.Name "range" pr) [a] [] pos2) X.env x = pure x := by intro _; rfl) :
    DE X T ρ (.ListComp elt [⟨tg, .Call (.Name "range" pr) [a] [] pos2, ifs, 0⟩] scope pos) (.nl (((di (upTo n)).filter p).map f)) :=
  pe_imp (pe_lc (own := [(x, j)]) hc hN (pi_range1 hgr hm (a_cons hi a_nil (by rw [hst]; rfl)) hst) ok hg ht he hs) fun _ _ _ k => lc_rdR hlo hhi hn (tF_nl k)
/-- y = [..] -/
theorem asg_nl {rest : List Stmt} {fl : Bool} {d : PyData} {ds : List PyData} {st : Stmt} {t : TE} (h : PS X st (tAsg t (gName i))) (hr : ∀ σ H Q, tE X.K T ρ (.nl ds) σ H Q → t σ H Q) (h2 : DS X T (ρ.set i (.nl ds)) rest fl d) : DS X T ρ (st :: rest) fl d :=
  pss_imp (pss_cons h h2) fun D σ H k => hr _ _ _ ⟨k.1, fun v H2 g hv => ⟨(k.1.gr g).set i hv, fun w H3 g3 hw => k.2.1 w H3 (g.trans g3) hw, fun f z σ2 H3 g3 => k.2.2 f z σ2 H3 (g.trans g3)⟩⟩
theorem s_lcT {rest : List Stmt} {fl : Bool} {d : PyData} (hc : X.calm = true) (hN : X.N.Nodup) (hi : DD X T ρ iter (.tuple ds)) (ok : BlkOk X.N X.env.scope scope [(x, j)]) (hg : HG1 X scope tg j) (ht : HT1 X T ρ scope j ds ifs p) (he : HE1 X T ρ scope j ds elt p f)
    (hn : ∀ d ∈ ds, p d = true → noL (f d) = true) (hl : ds.length ≤ 1000) (h2 : DS X T (ρ.set i (.nl ((ds.filter p).map f))) rest fl d) (hy : X.N[i]? = some y) (hyl : X.env.scope.names.lookup y = some .local)
    (hsw : swapsWith (.ListComp elt [⟨tg, iter, ifs, 0⟩] scope pos) (some (.Name y py)) spos.line X.env = pure true) (hs : ∀ x, foldedSetIterable iter X.env x = pure x := by intro _; rfl) : DS X T ρ (.Assign [.Name y py] (.ListComp elt [⟨tg, iter, ifs, 0⟩] scope pos) spos :: rest) fl d :=
  asg_nl (ps_setLc (own := [(x, j)]) hc hN hy hyl hsw (pi_tup hi) ok hg ht he hs) (fun _ _ _ k => lc_rdT hn hl (tF_nl k)) h2
theorem s_lcR {rest : List Stmt} {fl : Bool} {d : PyData} (hc : X.calm = true) (hN : X.N.Nodup) (hm : X.mg "range" = none) (hi : DD X T ρ a (.int n)) (hlo : 0 ≤ n) (hhi : n ≤ 1000) (ok : BlkOk X.N X.env.scope scope [(x, j)]) (hg : HG1 X scope tg j) (ht : HT1 X T ρ scope j (di (upTo n)) ifs p) (he : HE1 X T ρ scope j (di (upTo n)) elt p f)
    (hn : ∀ d ∈ di (upTo n), p d = true → noL (f d) = true) (h2 : DS X T (ρ.set i (.nl (((di (upTo n)).filter p).map f))) rest fl d) (hy : X.N[i]? = some y) (hyl : X.env.scope.names.lookup y = some .local)
    (hsw : swapsWith (.ListComp elt [⟨tg, .Call (.Name "range" pr) [a] [] pos2, ifs, 0⟩] scope pos) (some (.Name y py)) spos.line X.env = pure true) (hgr : Gl X "range" := by rfl) (hst : starEach [a] X.env = [(false, eval a X.env)] := by rfl)
    (hs : ∀ x, foldedSetIterable (.Call (.Name "range" pr) [a] [] pos2) X.env x = pure x := by intro _; rfl) : DS X T ρ (.Assign [.Name y py] (.ListComp elt [⟨tg, .Call (.Name "range" pr) [a] [] pos2, ifs, 0⟩] scope pos) spos :: rest) fl d :=
  asg_nl (ps_setLc (own := [(x, j)]) hc hN hy hyl hsw (pi_range1 hgr hm (a_cons hi a_nil (by rw [hst]; rfl)) hst) ok hg ht he hs) (fun _ _ _ k => lc_rdR hlo hhi hn (tF_nl k)) h2
end
end
end KM
set_option Elab.async false
set_option linter.all false
set_option maxRecDepth 100000
set_option maxHeartbeats 4000000
/-! isinstance, zip, a call of a key at the data level. -/
namespace KM
open PySem PySem.Spec PyProof.Rows L2 RZ
def tyN : PyData → String
  | .none => "NoneType"
  | .bool _ => "bool"
  | .int _ => "int"
  | .str _ => "str"
  | .list _ => "list"
  | .tuple _ => "tuple"
  | .dict _ => "dict"
theorem ty_of {K : PySem.W.Frag} {H : Hp} {v : V} {d : PyData} (h : Dp K H v d) : TyX K H v (.type (tyN d)) := by
  cases h with
  | non => exact .base .non
  | bl b => exact .base (.bl b)
  | int i => exact .base (.int i)
  | str x => exact .base (.str x)
  | lst hs _ =>
    rcases hs with (h | ⟨o, h⟩) | ⟨o, its, n, h1, h2, _⟩
    · exact .base (.lst h)
    · exact .base (.frz h)
    · exact .kList h1 h2
  | tup hs _ =>
    rcases hs with (h | ⟨o, h⟩) | ⟨o, its, n, h1, h2, _⟩
    · exact .base (.tup h)
    · exact .fTuple h
    · exact .kTuple h1 h2
section
variable {X : Cx} {T : Tbl} {ρ : List Sl}
/-- isinstance(e, C), C a built-in class -/
theorem d_isi {e : Expr} {nm : Str} {c : String} {p p2 pos : Pos} {d : PyData} {b : Bool} (he : DD X T ρ e d) (hm : X.mg "isinstance" = none) (hmC : X.mg nm = none) (h : kitB (tyN d) c = some b) (hg : Gl X "isinstance" := by rfl) (hgC : Gl X nm := by rfl) (hbC : bootBuiltins nm = some (.type c) := by decide +kernel)
    (hd : (nm == ("__debug__" : Str)) = false := by decide) (hn : nm ≠ "__name__" := by decide) (hs : starEach [e, .Name nm p2] X.env = (false, eval e X.env) :: starEach [.Name nm p2] X.env := by rfl) (hs2 : starEach [.Name nm p2] X.env = (false, eval (.Name nm p2) X.env) :: starEach [] X.env := by rfl)
    (hpl : (backTo pos (starEach [.Name nm p2] X.env)).any (·.1) = false := by rfl) : DD X T ρ (.Call (.Name "isinstance" p) [e, .Name nm p2] [] pos) (.bool b) := by
  refine pe_imp (pe_callB call_isi hg hm (by decide +kernel) (pa_cons he (pa_cons (pe_bltn (v := .ty c) hgC hmC hbC rfl hn hd) pa_nil hs2) hs) (by decide) (by decide) hs hpl) fun σ H Q k => ⟨k.1, fun v H2 g hv => ?_⟩
  exact ⟨v, .ty c, .type (tyN d), .type c, b, rfl, .ty c, ty_of hv, kit_ty h, k.2 _ H2 g (.bl b)⟩
/-! ### zip of two tuples -/
theorem wipe_two {α : Type} (σ : List (Option α)) {j l : Nat} (h : j ≠ l) (x y : α) : (((((σ.set l none).set j none).set j (some x)).set l (some y)).set l none).set j none = (σ.set l none).set j none := by
  rw [List.set_set, List.set_set, List.set_comm _ _ h, List.set_set, List.set_set]
def teZ (K : PySem.W.Frag) (T : Tbl) (ρ : List Sl) (j l : Nat) (ps : List (PyData × PyData)) (f : PyData → PyData → PyData) : TE := fun σ H Q => ∃ p, p ∈ ps ∧ tE K T (((wipeR ρ [j, l]).set j (.dt p.1)).set l (.dt p.2)) (.dt (f p.1 p.2)) σ H Q
theorem lc_rdZ {K : PySem.W.Frag} {j l : Nat} {ds es : List PyData} {f : PyData → PyData → PyData} {σ : L2.St} {H : Hp} {Q : VK} (hjl : j ≠ l) (hn : ∀ p ∈ ds.zip es, noL (f p.1 p.2) = true) (hl : ds.length ≤ 1000) (k : tF K T ρ ((ds.zip es).map fun p => f p.1 p.2) σ H Q) :
    tLc (iZipA K (tA K T ρ [.tuple ds, .tuple es])) (gTup K 2 (gCons (gName j) (gCons (gName l) gNil))) tYes (teZ K T ρ j l (ds.zip es) f) [j, l] σ H Q := by
  refine ⟨k.1, fun vs H1 g1 h1 => ?_⟩
  obtain ⟨v, w, e, hv, hw⟩ := two_of h1
  obtain ⟨a, xs, e1, e2, e3⟩ := dp_tup hv
  obtain ⟨b, ys, f1, f2, f3⟩ := dp_tup hw
  subst e e1 f1
  refine ⟨a, b, xs, ys, rfl, .inr ⟨e2, f2, fun D hD => ?_⟩⟩
  have l1 := dpAll_len e3
  have l2 := dpAll_len f3
  refine ⟨fun i m H => m = (ds.zip es).length - i ∧ i ≤ (ds.zip es).length ∧ Grows K T H1 D (((ds.zip es).take i).map fun p => f p.1 p.2) H, ⟨(ds.zip es).length, rfl, Nat.zero_le _, Grows.start hD⟩, ?_⟩
  rintro i m H' ⟨rfl, hi, P⟩
  have qx := P.1.sqT e2
  have qy := P.1.sqT f2
  by_cases hlt : i < (ds.zip es).length
  · have hlt' := hlt
    rw [List.length_zip] at hlt'
    have hx : xs[i]? = some xs[i] := List.getElem?_eq_getElem (by omega)
    have hy : ys[i]? = some ys[i] := List.getElem?_eq_getElem (by omega)
    refine .inr ⟨⟨xs, ys, _, _, qx, qy, hx, hy⟩, fun H => Grows K T H1 D (((ds.zip es).take (i + 1)).map fun p => f p.1 p.2) H, fun H2 P2 => ⟨_, by omega, rfl, hlt, P2⟩, fun u H2 hy' => ?_⟩
    obtain ⟨Tp, x', y', rfl, hT, rfl, q1, q2⟩ := hy'
    obtain ⟨d, hd, hdx⟩ := dpAll_get e3 (q1 xs qx)
    obtain ⟨d', hd', hdy⟩ := dpAll_get f3 (q2 ys qy)
    have gT : Gr T H' (upd H' Tp (.tup [x', y'])) := Gr.new hT
    refine ⟨Tp, [x', y'], rfl, .of upd_same, rfl, x', [y'], rfl, y', [], rfl, rfl, wipe_two σ hjl x' y', ?_⟩
    have hz : (ds.zip es)[i]? = some (d, d') := by
      rw [List.getElem?_zip_eq_some]
      exact ⟨hd, hd'⟩
    have hm : (d, d') ∈ ds.zip es := List.mem_of_getElem? hz
    refine ⟨(d, d'), hm, ?_, fun y H4 g4 hy4 => ?_⟩
    · exact (((k.1.gr ((g1.trans P.1).trans gT)).wipe [j, l]).set (r := .dt d) j ((P.1.trans gT).dp _ hdx)).set (r := .dt d') l ((P.1.trans gT).dp _ hdy)
    · have z := P.add hD (gT.trans g4) hy4 (hn _ hm) (by rw [List.length_map, List.length_take]; omega)
      rw [List.take_add_one, hz, List.map_append]
      exact z
  · have e : i = (ds.zip es).length := by omega
    refine .inl ⟨⟨xs, ys, qx, qy, ?_⟩, P.fin ?_ hD g1 k⟩
    · rw [List.length_zip] at e
      omega
    · rw [e, List.take_length]
section
variable {elt e1 e2 : Expr} {scope : Scope} {x y : Str} {j l kk : Nat} {pz pos pos2 px py pt : Pos} {ds es : List PyData} {f : PyData → PyData → PyData}
theorem lcZ (hc : X.calm = true) (hN : X.N.Nodup) (hm : X.mg "zip" = none) (h1 : DD X T ρ e1 (.tuple ds)) (h2 : DD X T ρ e2 (.tuple es)) (ok : BlkOk X.N X.env.scope scope [(x, j), (y, l)]) (hjl : j ≠ l)
    (hg : ∀ (s : Shared) (H : Hp) (C : Addr) (cl : List (Str × Addr)) (fp : List Addr), PG (X.blk s H scope (compEnvC scope cl C X.env) fp) (.Tuple [.Name x px, .Name y py] kk pt) (gTup X.K 2 (gCons (gName j) (gCons (gName l) gNil))))
    (he : ∀ (s : Shared) (H : Hp) (C : Addr) (cl : List (Str × Addr)) (fp : List Addr) (p : PyData × PyData), p ∈ ds.zip es → DD (X.blk s H scope (compEnvC scope cl C X.env) fp) T (((wipeR ρ [j, l]).set j (.dt p.1)).set l (.dt p.2)) elt (f p.1 p.2))
    (hn : ∀ p ∈ ds.zip es, noL (f p.1 p.2) = true) (hl : ds.length ≤ 1000) (hgz : Gl X "zip" := by rfl) (hst : starEach [e1, e2] X.env = (false, eval e1 X.env) :: starEach [e2] X.env := by rfl) (hst2 : starEach [e2] X.env = (false, eval e2 X.env) :: starEach [] X.env := by rfl) (hpl : (backTo pos2 (starEach [e2] X.env)).any (·.1) = false := by rfl)
    (hs : ∀ v, foldedSetIterable (.Call (.Name "zip" pz) [e1, e2] [] pos2) X.env v = pure v := by intro _; rfl) :
    DE X T ρ (.ListComp elt [⟨.Tuple [.Name x px, .Name y py] kk pt, .Call (.Name "zip" pz) [e1, e2] [] pos2, [], 0⟩] scope pos) (.nl ((ds.zip es).map fun p => f p.1 p.2)) :=
  pe_imp (pe_lc (own := [(x, j), (y, l)]) (te := teZ X.K T ρ j l (ds.zip es) f) hc hN (pi_zipA hgz hm (a_cons h1 (a_cons h2 a_nil hst2) hst) hst hpl) ok hg (fun _ _ _ _ _ => pts_nil) (fun s H C cl fp => pe_ex (c := fun p => p ∈ ds.zip es) (he s H C cl fp)) hs) fun _ _ _ k => lc_rdZ hjl hn hl (tF_nl k)
end
end
end KM
set_option Elab.async false
set_option linter.all false
set_option maxRecDepth 100000
set_option maxHeartbeats 4000000
/-! The text by places; the names of each def. -/
namespace KM
open PySem PySem.Spec PyProof.Rows L2
def top (i : Nat) : Stmt := PySem.Challenge.pw_plainstore_k16_whole_missed_papers.main.body.getD i (.Pass ⟨0, 0, 0, 0⟩)
abbrev s_is_whole : Stmt := top 20
abbrev n_is_whole : List Str := ["value"]
theorem sc_is_whole : FnScope n_is_whole ["value"] (defScope s_is_whole) := ⟨rfl, rfl, rfl, by decide +kernel, rfl, by decide +kernel, by decide +kernel⟩
abbrev s_is_number : Stmt := top 21
abbrev n_is_number : List Str := ["value", "low", "high"]
theorem sc_is_number : FnScope n_is_number ["value", "low", "high"] (defScope s_is_number) := ⟨rfl, rfl, rfl, by decide +kernel, rfl, by decide +kernel, by decide +kernel⟩
abbrev s_is_line : Stmt := top 22
abbrev n_is_line : List Str := ["value"]
theorem sc_is_line : FnScope n_is_line ["value"] (defScope s_is_line) := ⟨rfl, rfl, rfl, by decide +kernel, rfl, by decide +kernel, by decide +kernel⟩
abbrev s_is_moment : Stmt := top 23
abbrev n_is_moment : List Str := ["value"]
theorem sc_is_moment : FnScope n_is_moment ["value"] (defScope s_is_moment) := ⟨rfl, rfl, rfl, by decide +kernel, rfl, by decide +kernel, by decide +kernel⟩
abbrev s_is_cell : Stmt := top 25
abbrev n_is_cell : List Str := ["value"]
theorem sc_is_cell : FnScope n_is_cell ["value"] (defScope s_is_cell) := ⟨rfl, rfl, rfl, by decide +kernel, rfl, by decide +kernel, by decide +kernel⟩
abbrev s_is_ascending : Stmt := top 27
abbrev n_is_ascending : List Str := ["value", "one", "other"]
theorem sc_is_ascending : FnScope n_is_ascending ["value"] (defScope s_is_ascending) := ⟨rfl, rfl, rfl, by decide +kernel, rfl, by decide +kernel, by decide +kernel⟩
abbrev s_is_lot : Stmt := top 28
abbrev n_is_lot : List Str := ["value", "count", "copy"]
theorem sc_is_lot : FnScope n_is_lot ["value", "count"] (defScope s_is_lot) := ⟨rfl, rfl, rfl, by decide +kernel, rfl, by decide +kernel, by decide +kernel⟩
abbrev s_is_votes : Stmt := top 31
abbrev n_is_votes : List Str := ["value", "one"]
theorem sc_is_votes : FnScope n_is_votes ["value"] (defScope s_is_votes) := ⟨rfl, rfl, rfl, by decide +kernel, rfl, by decide +kernel, by decide +kernel⟩
abbrev s_look_at_votes : Stmt := top 32
abbrev n_look_at_votes : List Str := ["votes"]
theorem sc_look_at_votes : FnScope n_look_at_votes ["votes"] (defScope s_look_at_votes) := ⟨rfl, rfl, rfl, by decide +kernel, rfl, by decide +kernel, by decide +kernel⟩
abbrev s_look_at_need : Stmt := top 33
abbrev n_look_at_need : List Str := ["votes", "need"]
theorem sc_look_at_need : FnScope n_look_at_need ["votes", "need"] (defScope s_look_at_need) := ⟨rfl, rfl, rfl, by decide +kernel, rfl, by decide +kernel, by decide +kernel⟩
abbrev s_look_at_unruly : Stmt := top 34
abbrev n_look_at_unruly : List Str := ["votes", "need", "unruly"]
theorem sc_look_at_unruly : FnScope n_look_at_unruly ["votes", "need", "unruly"] (defScope s_look_at_unruly) := ⟨rfl, rfl, rfl, by decide +kernel, rfl, by decide +kernel, by decide +kernel⟩
abbrev s_look_at_lot_of : Stmt := top 35
abbrev n_look_at_lot_of : List Str := ["votes", "lot"]
theorem sc_look_at_lot_of : FnScope n_look_at_lot_of ["votes", "lot"] (defScope s_look_at_lot_of) := ⟨rfl, rfl, rfl, by decide +kernel, rfl, by decide +kernel, by decide +kernel⟩
abbrev s_votes_in : Stmt := top 36
abbrev n_votes_in : List Str := ["votes", "lot", "copy"]
theorem sc_votes_in : FnScope n_votes_in ["votes", "lot"] (defScope s_votes_in) := ⟨rfl, rfl, rfl, by decide +kernel, rfl, by decide +kernel, by decide +kernel⟩
abbrev s_by_votes : Stmt := top 37
abbrev n_by_votes : List Str := ["votes", "lot"]
theorem sc_by_votes : FnScope n_by_votes ["votes", "lot"] (defScope s_by_votes) := ⟨rfl, rfl, rfl, by decide +kernel, rfl, by decide +kernel, by decide +kernel⟩
abbrev s_can_write : Stmt := top 38
abbrev n_can_write : List Str := ["votes", "need", "lot"]
theorem sc_can_write : FnScope n_can_write ["votes", "need", "lot"] (defScope s_can_write) := ⟨rfl, rfl, rfl, by decide +kernel, rfl, by decide +kernel, by decide +kernel⟩
abbrev s_can_read : Stmt := top 39
abbrev n_can_read : List Str := ["votes", "need", "unruly", "lot", "sure"]
theorem sc_can_read : FnScope n_can_read ["votes", "need", "unruly", "lot"] (defScope s_can_read) := ⟨rfl, rfl, rfl, by decide +kernel, rfl, by decide +kernel, by decide +kernel⟩
abbrev s_is_enough : Stmt := top 40
abbrev n_is_enough : List Str := ["votes", "need", "unruly", "lot"]
theorem sc_is_enough : FnScope n_is_enough ["votes", "need", "unruly", "lot"] (defScope s_is_enough) := ⟨rfl, rfl, rfl, by decide +kernel, rfl, by decide +kernel, by decide +kernel⟩
abbrev s_missed_paper : Stmt := top 41
abbrev n_missed_paper : List Str := ["votes", "need", "unruly", "lot", "outside", "other", "copy"]
theorem sc_missed_paper : FnScope n_missed_paper ["votes", "need", "unruly", "lot"] (defScope s_missed_paper) := ⟨rfl, rfl, rfl, by decide +kernel, rfl, by decide +kernel, by decide +kernel⟩
abbrev s_accepts_missed : Stmt := top 42
abbrev n_accepts_missed : List Str := ["votes", "need", "unruly", "paper", "common", "lot", "copy"]
theorem sc_accepts_missed : FnScope n_accepts_missed ["votes", "need", "unruly", "paper"] (defScope s_accepts_missed) := ⟨rfl, rfl, rfl, by decide +kernel, rfl, by decide +kernel, by decide +kernel⟩
abbrev s_is_name : Stmt := top 45
abbrev n_is_name : List Str := ["value", "sign"]
theorem sc_is_name : FnScope n_is_name ["value"] (defScope s_is_name) := ⟨rfl, rfl, rfl, by decide +kernel, rfl, by decide +kernel, by decide +kernel⟩
abbrev s_has_word : Stmt := top 48
abbrev n_has_word : List Str := ["value", "word", "many"]
theorem sc_has_word : FnScope n_has_word ["value", "word", "many"] (defScope s_has_word) := ⟨rfl, rfl, rfl, by decide +kernel, rfl, by decide +kernel, by decide +kernel⟩
abbrev s_is_row_deed : Stmt := top 49
abbrev n_is_row_deed : List Str := ["value"]
theorem sc_is_row_deed : FnScope n_is_row_deed ["value"] (defScope s_is_row_deed) := ⟨rfl, rfl, rfl, by decide +kernel, rfl, by decide +kernel, by decide +kernel⟩
abbrev s_is_column_deed : Stmt := top 50
abbrev n_is_column_deed : List Str := ["value"]
theorem sc_is_column_deed : FnScope n_is_column_deed ["value"] (defScope s_is_column_deed) := ⟨rfl, rfl, rfl, by decide +kernel, rfl, by decide +kernel, by decide +kernel⟩
abbrev s_is_deed : Stmt := top 51
abbrev n_is_deed : List Str := ["value"]
theorem sc_is_deed : FnScope n_is_deed ["value"] (defScope s_is_deed) := ⟨rfl, rfl, rfl, by decide +kernel, rfl, by decide +kernel, by decide +kernel⟩
abbrev s_check_deed : Stmt := top 52
abbrev n_check_deed : List Str := ["deed"]
theorem sc_check_deed : FnScope n_check_deed ["deed"] (defScope s_check_deed) := ⟨rfl, rfl, rfl, by decide +kernel, rfl, by decide +kernel, by decide +kernel⟩
abbrev s_in_name_order : Stmt := top 54
abbrev n_in_name_order : List Str := ["deed"]
theorem sc_in_name_order : FnScope n_in_name_order ["deed"] (defScope s_in_name_order) := ⟨rfl, rfl, rfl, by decide +kernel, rfl, by decide +kernel, by decide +kernel⟩
abbrev s_in_order : Stmt := top 55
abbrev n_in_order : List Str := ["deed"]
theorem sc_in_order : FnScope n_in_order ["deed"] (defScope s_in_order) := ⟨rfl, rfl, rfl, by decide +kernel, rfl, by decide +kernel, by decide +kernel⟩
abbrev s_checked_deeds : Stmt := top 57
abbrev n_checked_deeds : List Str := ["deeds", "known", "index", "deed", "moment", "one"]
theorem sc_checked_deeds : FnScope n_checked_deeds ["deeds"] (defScope s_checked_deeds) := ⟨rfl, rfl, rfl, by decide +kernel, rfl, by decide +kernel, by decide +kernel⟩
abbrev s_Past___init__ : Stmt := inClass (top 58) 0
abbrev n_Past___init__ : List Str := ["self", "deeds"]
theorem sc_Past___init__ : FnScope n_Past___init__ ["self", "deeds"] (defScope s_Past___init__) := ⟨rfl, rfl, rfl, by decide +kernel, rfl, by decide +kernel, by decide +kernel⟩
abbrev s_Past_deeds : Stmt := inClass (top 58) 7
abbrev n_Past_deeds : List Str := ["self", "moment"]
theorem sc_Past_deeds : FnScope n_Past_deeds ["self"] (defScope s_Past_deeds) := ⟨rfl, rfl, rfl, by decide +kernel, rfl, by decide +kernel, by decide +kernel⟩
abbrev s_Past_with_deed : Stmt := inClass (top 58) 8
abbrev n_Past_with_deed : List Str := ["self", "deed"]
theorem sc_Past_with_deed : FnScope n_Past_with_deed ["self", "deed"] (defScope s_Past_with_deed) := ⟨rfl, rfl, rfl, by decide +kernel, rfl, by decide +kernel, by decide +kernel⟩
abbrev s_check_past : Stmt := top 59
abbrev n_check_past : List Str := ["past"]
theorem sc_check_past : FnScope n_check_past ["past"] (defScope s_check_past) := ⟨rfl, rfl, rfl, by decide +kernel, rfl, by decide +kernel, by decide +kernel⟩
abbrev s_has_moment : Stmt := top 61
abbrev n_has_moment : List Str := ["some", "value", "deed"]
theorem sc_has_moment : FnScope n_has_moment ["some", "value"] (defScope s_has_moment) := ⟨rfl, rfl, rfl, by decide +kernel, rfl, by decide +kernel, by decide +kernel⟩
abbrev s_is_change_of : Stmt := top 62
abbrev n_is_change_of : List Str := ["some", "value"]
theorem sc_is_change_of : FnScope n_is_change_of ["some", "value"] (defScope s_is_change_of) := ⟨rfl, rfl, rfl, by decide +kernel, rfl, by decide +kernel, by decide +kernel⟩
abbrev s_is_change : Stmt := top 64
abbrev n_is_change : List Str := ["past", "value"]
theorem sc_is_change : FnScope n_is_change ["past", "value"] (defScope s_is_change) := ⟨rfl, rfl, rfl, by decide +kernel, rfl, by decide +kernel, by decide +kernel⟩
abbrev s_check_change : Stmt := top 65
abbrev n_check_change : List Str := ["past", "change"]
theorem sc_check_change : FnScope n_check_change ["past", "change"] (defScope s_check_change) := ⟨rfl, rfl, rfl, by decide +kernel, rfl, by decide +kernel, by decide +kernel⟩
abbrev s_changed : Stmt := top 66
abbrev n_changed : List Str := ["past", "change"]
theorem sc_changed : FnScope n_changed ["past", "change"] (defScope s_changed) := ⟨rfl, rfl, rfl, by decide +kernel, rfl, by decide +kernel, by decide +kernel⟩
abbrev s_opposite : Stmt := top 67
abbrev n_opposite : List Str := ["past", "change"]
theorem sc_opposite : FnScope n_opposite ["past", "change"] (defScope s_opposite) := ⟨rfl, rfl, rfl, by decide +kernel, rfl, by decide +kernel, by decide +kernel⟩
abbrev s_kept_change : Stmt := top 69
abbrev n_kept_change : List Str := ["change"]
theorem sc_kept_change : FnScope n_kept_change ["change"] (defScope s_kept_change) := ⟨rfl, rfl, rfl, by decide +kernel, rfl, by decide +kernel, by decide +kernel⟩
abbrev s_last_by_moments : Stmt := top 70
abbrev n_last_by_moments : List Str := ["records", "found", "record"]
theorem sc_last_by_moments : FnScope n_last_by_moments ["records"] (defScope s_last_by_moments) := ⟨rfl, rfl, rfl, by decide +kernel, rfl, by decide +kernel, by decide +kernel⟩
abbrev s_deeds_of : Stmt := top 71
abbrev n_deeds_of : List Str := ["records", "record"]
theorem sc_deeds_of : FnScope n_deeds_of ["records"] (defScope s_deeds_of) := ⟨rfl, rfl, rfl, by decide +kernel, rfl, by decide +kernel, by decide +kernel⟩
abbrev s_Copies___init__ : Stmt := inClass (top 72) 0
abbrev n_Copies___init__ : List Str := ["self", "count", "past"]
theorem sc_Copies___init__ : FnScope n_Copies___init__ ["self", "count", "past"] (defScope s_Copies___init__) := ⟨rfl, rfl, rfl, by decide +kernel, rfl, by decide +kernel, by decide +kernel⟩
abbrev s_Copies_look_at_lot : Stmt := inClass (top 72) 2
abbrev n_Copies_look_at_lot : List Str := ["self", "lot"]
theorem sc_Copies_look_at_lot : FnScope n_Copies_look_at_lot ["self", "lot"] (defScope s_Copies_look_at_lot) := ⟨rfl, rfl, rfl, by decide +kernel, rfl, by decide +kernel, by decide +kernel⟩
abbrev s_Copies_look_at_room : Stmt := inClass (top 72) 3
abbrev n_Copies_look_at_room : List Str := ["self"]
theorem sc_Copies_look_at_room : FnScope n_Copies_look_at_room ["self"] (defScope s_Copies_look_at_room) := ⟨rfl, rfl, rfl, by decide +kernel, rfl, by decide +kernel, by decide +kernel⟩
abbrev s_Copies_put : Stmt := inClass (top 72) 4
abbrev n_Copies_put : List Str := ["self", "lot", "change", "word", "later"]
theorem sc_Copies_put : FnScope n_Copies_put ["self", "lot", "change", "word"] (defScope s_Copies_put) := ⟨rfl, rfl, rfl, by decide +kernel, rfl, by decide +kernel, by decide +kernel⟩
abbrev s_Copies_edit : Stmt := inClass (top 72) 5
abbrev n_Copies_edit : List Str := ["self", "lot", "change"]
theorem sc_Copies_edit : FnScope n_Copies_edit ["self", "lot", "change"] (defScope s_Copies_edit) := ⟨rfl, rfl, rfl, by decide +kernel, rfl, by decide +kernel, by decide +kernel⟩
abbrev s_Copies_first_records : Stmt := inClass (top 72) 12
abbrev n_Copies_first_records : List Str := ["self", "deed"]
theorem sc_Copies_first_records : FnScope n_Copies_first_records ["self"] (defScope s_Copies_first_records) := ⟨rfl, rfl, rfl, by decide +kernel, rfl, by decide +kernel, by decide +kernel⟩
abbrev s_Copies_records_on : Stmt := inClass (top 72) 14
abbrev n_Copies_records_on : List Str := ["self", "lot", "found", "number", "copy"]
theorem sc_Copies_records_on : FnScope n_Copies_records_on ["self", "lot"] (defScope s_Copies_records_on) := ⟨rfl, rfl, rfl, by decide +kernel, rfl, by decide +kernel, by decide +kernel⟩
abbrev s_Copies_seen : Stmt := inClass (top 72) 16
abbrev n_Copies_seen : List Str := ["self", "lot"]
theorem sc_Copies_seen : FnScope n_Copies_seen ["self", "lot"] (defScope s_Copies_seen) := ⟨rfl, rfl, rfl, by decide +kernel, rfl, by decide +kernel, by decide +kernel⟩
abbrev s_Copies_lacks : Stmt := inClass (top 72) 17
abbrev n_Copies_lacks : List Str := ["self", "lot", "seen_here", "due", "moments", "deed", "moment"]
theorem sc_Copies_lacks : FnScope n_Copies_lacks ["self", "lot"] (defScope s_Copies_lacks) := ⟨rfl, rfl, rfl, by decide +kernel, rfl, by decide +kernel, by decide +kernel⟩
abbrev s__law_pool : Stmt := top 74
abbrev n__law_pool : List Str := ["_law_script", "_law_k", "_law_cell", "_law_big", "_law_mixed"]
theorem sc__law_pool : FnScope n__law_pool ["_law_script", "_law_k"] (defScope s__law_pool) := ⟨rfl, rfl, rfl, by decide +kernel, rfl, by decide +kernel, by decide +kernel⟩
abbrev s__law_take : Stmt := top 75
abbrev n__law_take : List Str := ["_law_source", "_law_top", "_law_told"]
theorem sc__law_take : FnScope n__law_take ["_law_source", "_law_top"] (defScope s__law_take) := ⟨rfl, rfl, rfl, by decide +kernel, rfl, by decide +kernel, by decide +kernel⟩
abbrev s__law_one : Stmt := top 76
abbrev n__law_one : List Str := ["_law_source", "_law_things"]
theorem sc__law_one : FnScope n__law_one ["_law_source", "_law_things"] (defScope s__law_one) := ⟨rfl, rfl, rfl, by decide +kernel, rfl, by decide +kernel, by decide +kernel⟩
abbrev s__law_rounds : Stmt := top 77
abbrev n__law_rounds : List Str := ["_law_script"]
theorem sc__law_rounds : FnScope n__law_rounds ["_law_script"] (defScope s__law_rounds) := ⟨rfl, rfl, rfl, by decide +kernel, rfl, by decide +kernel, by decide +kernel⟩
abbrev s__law_all_lots : Stmt := top 78
abbrev n__law_all_lots : List Str := ["_law_many", "_law_found", "_law_copy", "_law_lot"]
theorem sc__law_all_lots : FnScope n__law_all_lots ["_law_many"] (defScope s__law_all_lots) := ⟨rfl, rfl, rfl, by decide +kernel, rfl, by decide +kernel, by decide +kernel⟩
abbrev s__law_votes : Stmt := top 79
abbrev n__law_votes : List Str := ["_law_source", "_law_many", "_law_found", "_law_copy"]
theorem sc__law_votes : FnScope n__law_votes ["_law_source", "_law_many"] (defScope s__law_votes) := ⟨rfl, rfl, rfl, by decide +kernel, rfl, by decide +kernel, by decide +kernel⟩
abbrev s__law_sum : Stmt := top 80
abbrev n__law_sum : List Str := ["_law_votes_here", "_law_lot", "_law_copy"]
theorem sc__law_sum : FnScope n__law_sum ["_law_votes_here", "_law_lot"] (defScope s__law_sum) := ⟨rfl, rfl, rfl, by decide +kernel, rfl, by decide +kernel, by decide +kernel⟩
abbrev s__law_sure : Stmt := top 81
abbrev n__law_sure : List Str := ["_law_votes_here", "_law_lot", "_law_unruly_here", "_law_left", "_law_turn", "_law_copy", "_law_one_here"]
theorem sc__law_sure : FnScope n__law_sure ["_law_votes_here", "_law_lot", "_law_unruly_here"] (defScope s__law_sure) := ⟨rfl, rfl, rfl, by decide +kernel, rfl, by decide +kernel, by decide +kernel⟩
abbrev s__law_is_enough : Stmt := top 82
abbrev n__law_is_enough : List Str := ["_law_votes_here", "_law_need_here", "_law_unruly_here", "_law_lot"]
theorem sc__law_is_enough : FnScope n__law_is_enough ["_law_votes_here", "_law_need_here", "_law_unruly_here", "_law_lot"] (defScope s__law_is_enough) := ⟨rfl, rfl, rfl, by decide +kernel, rfl, by decide +kernel, by decide +kernel⟩
abbrev s__law_case : Stmt := top 83
abbrev n__law_case : List Str := ["_law_source", "_law_most", "_law_many", "_law_votes_here"]
theorem sc__law_case : FnScope n__law_case ["_law_source", "_law_most"] (defScope s__law_case) := ⟨rfl, rfl, rfl, by decide +kernel, rfl, by decide +kernel, by decide +kernel⟩
abbrev s__law_by_votes : Stmt := top 84
abbrev n__law_by_votes : List Str := ["_law_votes_here", "_law_lot", "_law_left", "_law_found", "_law_most", "_law_copy"]
theorem sc__law_by_votes : FnScope n__law_by_votes ["_law_votes_here", "_law_lot"] (defScope s__law_by_votes) := ⟨rfl, rfl, rfl, by decide +kernel, rfl, by decide +kernel, by decide +kernel⟩
abbrev s__law_other : Stmt := top 85
abbrev n__law_other : List Str := ["_law_votes_here", "_law_lot", "_law_unruly_here", "_law_some", "_law_copy"]
theorem sc__law_other : FnScope n__law_other ["_law_votes_here", "_law_lot", "_law_unruly_here"] (defScope s__law_other) := ⟨rfl, rfl, rfl, by decide +kernel, rfl, by decide +kernel, by decide +kernel⟩
abbrev s__law_lacks_it : Stmt := top 86
abbrev n__law_lacks_it : List Str := ["_law_many", "_law_lot", "_law_other_here", "_law_copies_here", "_law_ruly", "_law_copy"]
theorem sc__law_lacks_it : FnScope n__law_lacks_it ["_law_many", "_law_lot", "_law_other_here"] (defScope s__law_lacks_it) := ⟨rfl, rfl, rfl, by decide +kernel, rfl, by decide +kernel, by decide +kernel⟩
abbrev s__law_odd_papers : Stmt := top 87
abbrev n__law_odd_papers : List Str := ["_law_source", "_law_votes_here", "_law_need_here", "_law_unruly_here", "_law_shown", "_law_word", "_law_lot", "_law_other_here", "_law_some"]
theorem sc__law_odd_papers : FnScope n__law_odd_papers ["_law_source", "_law_votes_here", "_law_need_here", "_law_unruly_here", "_law_shown"] (defScope s__law_odd_papers) := ⟨rfl, rfl, rfl, by decide +kernel, rfl, by decide +kernel, by decide +kernel⟩
abbrev s_law : Stmt := top 88
abbrev n_law : List Str := ["_law_script", "_law_k", "_law_source", "_law_many", "_law_votes_here", "_law_need_here", "_law_unruly_here", "_law_lot", "_law_shown", "_law_other_here", "_law_due", "_law_copy"]
theorem sc_law : FnScope n_law ["_law_script"] (defScope s_law) := ⟨rfl, rfl, rfl, by decide +kernel, rfl, by decide +kernel, by decide +kernel⟩
/-- what the module's names hold -/
structure Glob (mg : Str → Option Value) : Prop where
  f_isinstance : mg "isinstance" = none
  f_int : mg "int" = none
  f_bool : mg "bool" = none
  f_str : mg "str" = none
  f_list : mg "list" = none
  f_tuple : mg "tuple" = none
  f_all : mg "all" = none
  f_any : mg "any" = none
  f_sum : mg "sum" = none
  f_len : mg "len" = none
  f_zip : mg "zip" = none
  f_range : mg "range" = none
  f_sorted : mg "sorted" = none
  f_enumerate : mg "enumerate" = none
  f_max : mg "max" = none
  f_min : mg "min" = none
  c_LAST_MOMENT : ∃ t, mg "LAST_MOMENT" = some (.int 999 t)
  c_MOST_VALUE : ∃ t, mg "MOST_VALUE" = some (.int 99 t)
  c_MOST_COPIES : ∃ t, mg "MOST_COPIES" = some (.int 5 t)
  c_MOST_DEEDS : ∃ t, mg "MOST_DEEDS" = some (.int 60 t)
  c_MOST_EDITS : ∃ t, mg "MOST_EDITS" = some (.int 60 t)
  c_MOST_VOTES : ∃ t, mg "MOST_VOTES" = some (.int 9 t)
  c_LETTERS : ∃ t, mg "LETTERS" = some (.str "abcdefghijklmnopqrstuvwxyz" t)
/-- how plain parameters bind: h is by «fun _ _ _ _ _ _ us hl => match us, hl with | [_], _ => rfl» -/
abbrev FnP (K : PySem.W.Frag) (x : Str) (st : Stmt) (f : Addr) (fd : FuncData) : Prop := FunD K x x (defArgs st) (defBody st) (defScope st) [] [] f fd
end KM
set_option Elab.async false
set_option linter.all false
set_option maxRecDepth 100000
set_option maxHeartbeats 4000000
/-! plainstore.kinds -/
namespace KM
open PySem PySem.Spec PyProof.Rows L2
def isI : PyData → Bool
  | .int _ => true
  | .bool _ => true
  | _ => false
def isB : PyData → Bool
  | .bool _ => true
  | _ => false
def isT : PyData → Bool
  | .tuple _ => true
  | _ => false
def isS : PyData → Bool
  | .str _ => true
  | _ => false
def whole (x : PyData) : Bool := isI x && !isB x
def num (x : PyData) (lo hi : Int) : Bool := match x with
  | .int i => decide (lo ≤ i) && decide (i ≤ hi)
  | _ => false
theorem kit_I (x : PyData) : kitB (tyN x) "int" = some (isI x) := by cases x <;> kernel_rfl
theorem kit_B (x : PyData) : kitB (tyN x) "bool" = some (isB x) := by cases x <;> kernel_rfl
theorem kit_T (x : PyData) : kitB (tyN x) "tuple" = some (isT x) := by cases x <;> kernel_rfl
theorem kit_S (x : PyData) : kitB (tyN x) "str" = some (isS x) := by cases x <;> kernel_rfl
def Rwhole : List PyData → PyData → Prop := fun ds d => ∃ x, ds = [x] ∧ d = .bool (whole x)
def Rnum : List PyData → PyData → Prop := fun ds d => ∃ x lo hi, ds = [x, .int lo, .int hi] ∧ d = .bool (num x lo hi)
def Rnum1 (lo hi : Int) : List PyData → PyData → Prop := fun ds d => ∃ x, ds = [x] ∧ d = .bool (num x lo hi)
/-- one < other all along -/
def asc (ns : List Int) : Bool := (ns.zip (ns.drop 1)).all fun p => decide (p.1 < p.2)
def lotB (ns : List Int) (n : Int) : Bool := (ns.all fun i => decide (0 ≤ i) && decide (i ≤ n - 1)) && asc ns
def Rasc : List PyData → PyData → Prop := fun ds d => ∃ ns : List Int, ds = [.tuple (di ns)] ∧ ns.length ≤ 1000 ∧ d = .bool (asc ns)
def Rlot : List PyData → PyData → Prop := fun ds d => ∃ (x : PyData) (n : Int), ds = [x, .int n] ∧ ((∃ ns : List Int, x = .tuple (di ns) ∧ ns.length ≤ 1000 ∧ d = .bool (lotB ns n)) ∨ (isT x = false ∧ d = .bool false))
/-- a < b of data -/
def ltD : PyData → PyData → PyData
  | .int i, .int j => .bool (decide (i < j))
  | _, _ => .none
theorem cut_from1 (ds : List PyData) : cutD ds (some 1) none = ds.drop 1 := by
  unfold cutD
  rw [show HT.sIx ds.length 0 (some 1) = min 1 ds.length from HT.sIx_nat ds.length 0 1, HT.sIx_none]
  cases ds with
  | nil => rfl
  | cons x r =>
    rw [show min 1 (x :: r).length = 1 by rw [List.length_cons]; omega]
    exact List.take_of_length_le (by rw [List.length_drop]; exact Nat.le_refl _)
theorem zip_ints (ns ms : List Int) : ((di ns).zip (di ms)).map (fun p => ltD p.1 p.2) = db ((ns.zip ms).map fun p => decide (p.1 < p.2)) := by
  rw [List.zip_map, List.map_map]
  show _ = List.map _ (List.map _ _)
  rw [List.map_map]
  rfl
theorem mem_di {d : PyData} {ns : List Int} (h : d ∈ di ns) : ∃ i, i ∈ ns ∧ d = .int i := by
  obtain ⟨i, h1, h2⟩ := List.mem_map.mp h
  exact ⟨i, h1, h2.symm⟩
theorem mem_zip_di {p : PyData × PyData} {ns ms : List Int} (h : p ∈ (di ns).zip (di ms)) : ∃ i j, p = (.int i, .int j) := by
  obtain ⟨a, b⟩ := p
  obtain ⟨h1, h2⟩ := List.of_mem_zip h
  obtain ⟨i, _, e1⟩ := mem_di h1
  obtain ⟨j, _, e2⟩ := mem_di h2
  exact ⟨i, j, by rw [e1, e2]⟩
/-- how a number's data is told -/
def numD (lo hi : Int) (d : PyData) : PyData := .bool (num d lo hi)
theorem map_num (ns : List Int) (lo hi : Int) : (di ns).map (numD lo hi) = db (ns.map fun i => decide (lo ≤ i) && decide (i ≤ hi)) := by
  rw [List.map_map]
  show _ = List.map _ (List.map _ _)
  rw [List.map_map]
  rfl
section
variable {P : Program} {w : World} {K : PySem.W.Frag} {mg : Str → Option Value} {base : Heap} {T : Tbl} {f : Addr} {fd : FuncData}
theorem df_is_whole (G : Glob mg) (F : FnP K "is_whole" s_is_whole f fd) (hm : mg "is_whole" = some (.ref f)) : Df P w K mg base T "is_whole" 1 ["value"] Rwhole := by
  refine df_of F hm sc_is_whole (fun ds d ⟨x, e, _⟩ => by rw [e]; rfl) (fun _ _ _ _ _ _ us hl => match us, hl with | [_], _ => rfl) fun cdv A outer s H E ds d hr h => ?_
  obtain ⟨x, rfl, rfl⟩ := h
  exact s_ret (d_and (d_isi (dn 0) G.f_isinstance G.f_int (kit_I x)) fun _ => d_one (d_not (d_isi (dn 0) G.f_isinstance G.f_bool (kit_B x))))
theorem df_is_number (G : Glob mg) (F : FnP K "is_number" s_is_number f fd) (hm : mg "is_number" = some (.ref f)) (W : Df P w K mg base T "is_whole" 1 ["value"] Rwhole) : Df P w K mg base T "is_number" 2 ["value", "low", "high"] Rnum := by
  refine df_of F hm sc_is_number (fun ds d ⟨x, lo, hi, e, _⟩ => by rw [e]; rfl) (fun _ _ _ _ _ _ us hl => match us, hl with | [_, _, _], _ => rfl) fun cdv A outer s H E ds d hr h => ?_
  obtain ⟨x, lo, hi, rfl, rfl⟩ := h
  have e : num x lo hi = (whole x && num x lo hi) := by cases x <;> rfl
  rw [e]
  refine s_ret (d_and (d_call W hr (Nat.le_refl _) (a_cons (dn 0) a_nil) ⟨x, rfl, rfl⟩) fun hw => d_one ?_)
  cases x with
  | int i => exact d_chain o_le o_le (dn 1) (dn 0) (dn 2) (.mk lo i) (.mk i hi)
  | _ => cases hw
theorem df_is_moment (G : Glob mg) (F : FnP K "is_moment" s_is_moment f fd) (hm : mg "is_moment" = some (.ref f)) (W : Df P w K mg base T "is_number" 2 ["value", "low", "high"] Rnum) : Df P w K mg base T "is_moment" 3 ["value"] (Rnum1 1 999) := by
  refine df_of F hm sc_is_moment (fun ds d ⟨x, e, _⟩ => by rw [e]; rfl) (fun _ _ _ _ _ _ us hl => match us, hl with | [_], _ => rfl) fun cdv A outer s H E ds d hr h => ?_
  obtain ⟨x, rfl, rfl⟩ := h
  exact s_ret (d_call W hr (Nat.le_refl _) (a_cons (dn 0) (a_cons d_int (a_cons (d_gint G.c_LAST_MOMENT) a_nil))) ⟨x, 1, 999, rfl, rfl⟩)
theorem df_is_cell (G : Glob mg) (F : FnP K "is_cell" s_is_cell f fd) (hm : mg "is_cell" = some (.ref f)) (W : Df P w K mg base T "is_number" 2 ["value", "low", "high"] Rnum) : Df P w K mg base T "is_cell" 3 ["value"] (Rnum1 0 99) := by
  refine df_of F hm sc_is_cell (fun ds d ⟨x, e, _⟩ => by rw [e]; rfl) (fun _ _ _ _ _ _ us hl => match us, hl with | [_], _ => rfl) fun cdv A outer s H E ds d hr h => ?_
  obtain ⟨x, rfl, rfl⟩ := h
  exact s_ret (d_call W hr (Nat.le_refl _) (a_cons (dn 0) (a_cons d_int (a_cons (d_gint G.c_MOST_VALUE) a_nil))) ⟨x, 0, 99, rfl, rfl⟩)
theorem df_is_ascending (G : Glob mg) (F : FnP K "is_ascending" s_is_ascending f fd) (hm : mg "is_ascending" = some (.ref f)) : Df P w K mg base T "is_ascending" 1 ["value"] Rasc := by
  refine df_of F hm sc_is_ascending (fun ds d ⟨x, e, _⟩ => by rw [e]; rfl) (fun _ _ _ _ _ _ us hl => match us, hl with | [_], _ => rfl) fun cdv A outer s H E ds d hr h => ?_
  obtain ⟨ns, rfl, hl, rfl⟩ := h
  have e : asc ns = ((ns.zip (ns.drop 1)).map fun p => decide (p.1 < p.2)).all id := by unfold asc; rw [List.all_map]; rfl
  rw [e]
  refine s_ret (d_callB (c_all rfl) G.f_all (by decide +kernel) (a_cons (de_l (lcZ (x := "one") (y := "other") (j := 1) (l := 2) (f := ltD) rfl sc_is_ascending.nd G.f_zip (dn 0) (d_slT (dn 0) (o_some d_int) o_no) (blkOk_by (N := n_is_ascending) (sc := defScope s_is_ascending) (by decide +kernel)) (by decide)
    (fun _ _ _ _ _ => pg_tup rfl (pgs_cons (pg_name (i := 1) sc_is_ascending.nd rfl (Or.inl rfl)) (pgs_cons (pg_name (i := 2) sc_is_ascending.nd rfl (Or.inl rfl)) pgs_nil)))
    (fun s H C cl fp p hp => ?_) (fun p hp => ?_) (by rw [List.length_map]; exact hl))) a_nil) ?_)
  · rw [cut_from1, ← List.map_drop] at hp
    obtain ⟨i, j, e⟩ := mem_zip_di hp
    subst e
    exact d_cmp o_lt (dn 1) (dn 2) (.mk i j) (nomark _)
  · rw [cut_from1, ← List.map_drop] at hp
    obtain ⟨i, j, e⟩ := mem_zip_di hp
    subst e
    rfl
  · rw [cut_from1, ← List.map_drop, zip_ints]
    exact .mk _
theorem df_is_lot (G : Glob mg) (F : FnP K "is_lot" s_is_lot f fd) (hm : mg "is_lot" = some (.ref f)) (WN : Df P w K mg base T "is_number" 2 ["value", "low", "high"] Rnum) (WA : Df P w K mg base T "is_ascending" 1 ["value"] Rasc) : Df P w K mg base T "is_lot" 3 ["value", "count"] Rlot := by
  refine df_of F hm sc_is_lot (fun ds d ⟨x, n, e, _⟩ => by rw [e]; rfl) (fun _ _ _ _ _ _ us hl => match us, hl with | [_, _], _ => rfl) fun cdv A outer s H E ds d hr h => ?_
  obtain ⟨x, n, rfl, h⟩ := h
  rcases h with ⟨ns, rfl, hl, rfl⟩ | ⟨hx, rfl⟩
  · refine s_if (b := !true || !((ns.map fun i => decide (0 ≤ i) && decide (i ≤ n - 1)).all id)) (t_w (w_or (t_not (t_val (d_isi (dn 0) G.f_isinstance G.f_tuple (kit_T _)))) fun _ => w_or1 (t_not (t_val (d_callB (c_all rfl) G.f_all (by decide +kernel) (a_cons (de_l (lcT (x := "copy") (j := 2) (f := numD 0 (n - 1)) rfl sc_is_lot.nd (dn 0) (blkOk_by (N := n_is_lot) (sc := defScope s_is_lot) (by decide +kernel))
      (fun _ _ _ _ _ => pg_name (i := 2) sc_is_lot.nd rfl (Or.inl rfl)) ht_yes (he_of fun s H C cl fp d hd _ => ?_) (fun d _ _ => rfl) (by rw [List.length_map]; exact hl))) a_nil) ?_))))) (fun hb => ?_) (fun hb => ?_) rfl
    · exact d_call WN hr (by decide) (a_cons (dn 2) (a_cons d_int (a_cons (d_op o_sub (dn 1) d_int (.mk _ _)) a_nil))) ⟨d, 0, n - 1, rfl, rfl⟩
    · rw [filter_yes, map_num]
      exact .mk _
    · have e : lotB ns n = false := by
        unfold lotB
        have z : (ns.map fun i => decide (0 ≤ i) && decide (i ≤ n - 1)).all id = false := by simpa using hb
        rw [List.all_map] at z
        have z2 : (ns.all fun i => decide (0 ≤ i) && decide (i ≤ n - 1)) = false := z
        rw [z2]
        rfl
      rw [e]
      exact s_ret d_bl
    · have e : lotB ns n = asc ns := by
        unfold lotB
        have z : (ns.map fun i => decide (0 ≤ i) && decide (i ≤ n - 1)).all id = true := by simpa using hb
        rw [List.all_map] at z
        have z2 : (ns.all fun i => decide (0 ≤ i) && decide (i ≤ n - 1)) = true := z
        rw [z2]
        rfl
      rw [e]
      exact s_ret (d_call WA hr (by decide) (a_cons (dn 0) a_nil) ⟨ns, rfl, hl, rfl⟩)
  · exact s_if (b := !false || false) (t_w (w_or (t_not (t_val (d_isi (dn 0) G.f_isinstance G.f_tuple ((kit_T x).trans (congrArg some hx))))) fun z => by cases z)) (fun hb => s_ret d_bl) (fun hb => by cases hb) rfl
end
end KM
set_option Elab.async false
set_option linter.all false
set_option maxRecDepth 100000
set_option maxHeartbeats 4000000
/-! sorted(t, key=lambda ..): the list, the lambda made and called -/
namespace KM
open PySem PySem.Spec PyProof.Rows L2 PySem.W
section
variable {prog : Program} {w : World} {A : Around} {E : Value → Shared → Prop} {s : Shared}
theorem collect_tup {l : Addr} {vs : List Value} {Q : List Value → Shared → Prop} (hl : s.heap.IsTuple l vs.toArray) (hz : vs.length ≤ sizeLine)
    (k : Q vs { s with heap := (s.heap.push (seqObj "list" #[] 0)).update s.heap.objs.size (Obj.mapSeq (· ++ vs.toArray)) }) : wpAny (model prog w) A (collect (.ref l)) Q E s := by
  obtain ⟨o, e1, e2, n, e3⟩ := id hl
  have new1 : (s.heap.push (seqObj "list" #[] 0)).get? s.heap.objs.size = some (seqObj "list" #[] 0) := Heap.get?_push_size _ rfl
  have old1 : (s.heap.push (seqObj "list" #[] 0)).get? l = some o := Heap.get?_push_of_some _ e1
  have all1 : ((#[] : Array Value) ++ vs.toArray).toList = vs := by simp
  unfold collect
  refine wpAny_bind ?_
  refine wpAny_runValue (codeAny_builtin (entry_proto_collect') ?_)
  show wpAny _ _ (newList [] >>= fun made => again (.builtin "list.__iadd__" ⟨[made, .ref l], []⟩)) _ _ s
  refine wpAny_bind (wpAny_newList ?_)
  refine wpAny_pure ⟨Code.quiet_builtin _ (by decide +kernel), codeAny_builtin (entry_list_iadd') ?_⟩
  show wpAny _ _ (Builtin.List.listExtendWith (.ref s.heap.objs.size) (.ref l) (.ref s.heap.objs.size)) _ _ ({ s with heap := s.heap.push (seqObj "list" #[] 0) })
  unfold Builtin.List.listExtendWith
  refine wpAny_bind (wpAny_typeOf (T := "tuple") ⟨o, old1, e2⟩ ?_)
  rw [if_pos (by rw [show (Value.type "tuple" == Value.type "tuple") = true from rfl]; simp)]
  refine wpAny_bind (listItems_at old1 e3 (wpAny_bind (listItems_at new1 rfl ?_)))
  rw [if_neg (by simp)]
  refine wpAny_bind (listUpdate_at new1 rfl ?_ (Nat.zero_le _) (by show (#[] ++ vs.toArray).size ≤ sizeLine + 1; rw [Array.size_append, List.size_toArray]; show 0 + vs.length ≤ _; omega))
  refine wpAny_pure ?_
  show wpAny (model prog w) A (load s.heap.objs.size >>= fun o => match o.data with
    | .seq xs _ => pure xs.toList
    | _ => unsupported "internal:collect") Q E ({ s with heap := (s.heap.push (seqObj "list" #[] 0)).update s.heap.objs.size (Obj.mapSeq (· ++ vs.toArray)) })
  refine wpAny_bind (wpAny_load (get?_update_seq new1 _) (wpAny_pure ?_))
  rw [all1]
  exact k
theorem sorted_ofT {l : Addr} {vs : List Value} {kw : List (Str × Value)} {Q : Value → Shared → Prop} (hl : s.heap.IsTuple l vs.toArray) (hz : vs.length ≤ sizeLine) (ha1 : argsOk "sorted" ⟨[.ref l], kw⟩) (ha2 : ∀ x, argsOk "list.sort" ⟨[.ref x], kw⟩)
    (body : ∀ E' : Value → Shared → Prop, wpAny (model prog w) A.in1.in1 (Builtin.«list.sort» ⟨[.ref (s.heap.objs.size + 1)], kw⟩) (fun f s' => f = .done (.ret .none) ∧ Q (.ref (s.heap.objs.size + 1)) s') E' ({ s with heap := copyHeap s.heap vs })) :
    wpAny (model prog w) A (call (.builtin "sorted") [.ref l] kw) Q E s := by
  refine call_function_entry_kw kind_sorted plain_sorted (entry_sorted) ha1 ?_
  unfold Builtin.«sorted»
  refine wpAny_bind (m := checkCount "sorted" 1 1 _) (wpAny_pure (wpAny_bind (collect_tup hl hz (wpAny_bind (wpAny_newList ?_ hz)))))
  have sz : ((s.heap.push (seqObj "list" #[] 0)).update s.heap.objs.size (Obj.mapSeq (· ++ vs.toArray))).objs.size = s.heap.objs.size + 1 := by rw [Heap.size_update, size_push']
  show wpAny _ _ _ _ _ ({ s with heap := copyHeap s.heap vs })
  rw [sz]
  refine wpAny_bind (wpAny_holding (wpAny_call_entry_kw (slot_list_sort) ⟨_, copyHeap_at s.heap vs, rfl⟩ (entry_list_sort) ?_ (ha2 _)))
  refine wpAny_mono (body _) (fun f s' hf => ?_) (fun _ _ x => x)
  obtain ⟨e, q⟩ := hf
  subst e
  exact ⟨_, rfl, wpAny_pure ⟨_, rfl, q⟩⟩
variable {β : Type} {vs : List Value} {bs : List β} {R : Value → β → Prop}
/-- sorted(t, key=f), t a tuple -/
theorem sorted_keyT {l : Addr} {f : Value} {kw : List (Str × Value)} {Q : Value → Shared → Prop} (k : β → PyData) (hl : s.heap.IsTuple l vs.toArray) (e : EachIs R vs bs) (hal : AllAlike (bs.map k)) (hk : Sortable (bs.map k)) (hL : bs.length ≤ sizeLine)
    (hu : ∀ x, x ∈ bs → A.units + 2 + (k x).depth < cLine) (ha1 : argsOk "sorted" ⟨[.ref l], kw⟩) (ha2 : ∀ x, argsOk "list.sort" ⟨[.ref x], kw⟩) (ht : ∀ x, Builtin.«list.sort» ⟨[.ref x], kw⟩ = ksk_tree x f false)
    (turn : ∀ (v : Value) (x : β), R v x → x ∈ bs → ∀ (h : Heap) (tk : Nat), (∀ b o, s.heap.get? b = some o → h.get? b = some o) →
      wpAny (model prog w) A.in1.in1 (call f [v]) (KeyPure (k x) { s with heap := h, toks := tk }) (fun _ _ => False) { s with heap := h, toks := tk })
    (q : ∀ out c h' tk, (∀ b o, s.heap.get? b = some o → h'.get? b = some o) → h'.get? (s.heap.objs.size + 1) = some (seqObj "list" (List.toArray out) c) → EachIs R out (bs.mergeSort (dataLe false k)) → Q (.ref (s.heap.objs.size + 1)) { s with heap := h', toks := tk }) :
    wpAny (model prog w) A (call (.builtin "sorted") [.ref l] kw) Q E s := by
  have up : ∀ {g : Heap}, KeepsBut (s.heap.objs.size + 1) (copyHeap s.heap vs) g → ∀ b o, s.heap.get? b = some o → g.get? b = some o := fun {g} kp b o z => kp b o (Nat.ne_of_lt (Nat.lt_succ_of_lt (Heap.lt_size z))) (copyHeap_old z)
  refine sorted_ofT hl (by rw [e.length]; exact hL) ha1 ha2 fun E' => ?_
  rw [ht]
  refine keyH_tree (kz := bs.map k) (s := { s with heap := copyHeap s.heap vs }) (copyHeap_at s.heap vs) (by rw [List.length_map, e.length]) (by rw [e.length]; exact hL) hal hk (fun d hd => ?_)
    (keyH_turns (s := { s with heap := copyHeap s.heap vs }) e fun v x hR hx h tk kp => turn v x hR hx h tk (up kp)) (fun h' tk out c kp hD ko => ⟨rfl, q out c h' tk (up kp) hD (keyedOut_each k ko e)⟩)
  obtain ⟨x, hx, ex⟩ := List.mem_map.mp hd
  rw [← ex]
  exact hu x hx
end
end KM
set_option Elab.async false
set_option linter.all false
set_option maxRecDepth 100000
set_option maxHeartbeats 4000000
/-! sorted(t, key=lambda x: (-v[x], x)) -/
namespace KM
open PySem PySem.Spec PyProof.Rows L2 PySem.W
/-- v[i], of whole numbers -/
def voteAt (vs : List Int) (i : Int) : Int := vs.getD i.toNat 0
def keyAt (vs : List Int) (i : Int) : PyData := .tuple [.int (-voteAt vs i), .int i]
section
variable {prog : Program} {w : World} {A : Around} {E : Value → Shared → Prop} {s : Shared} {v x : Str} {qual : Str} {scope : Scope} {L f cv t : Addr} {cd : Value} {clos : List (Str × Addr)} {its : List Value} {m : Str → Option Value} {i n : Int} {ti tn : Tok} {p1 p2 p3 p4 p5 p6 : Pos}
theorem key_body {x1} (hk : scope.kind = .function) (hv : scope.names.lookup v = some .free) (hx : scope.names.lookup x = some .local) (hvd : (v == ("__debug__" : Str)) = false) (hxd : (x == ("__debug__" : Str)) = false) (hvc : (v == ("__classdict__" : Str)) = false)
    (hc : clos.lookup v = some cv) (hcell : s.heap.IsCell cv (some (.ref t))) (ht : IsTup s.heap t its.toArray) (hn : s.heap.Ns L m) (hm : m x = some (.int i ti)) (h0 : 0 ≤ i) (hi : i < 2 ^ 63) (hget : its[i.toNat]? = some (.int n tn)) :
    wpAny (model prog w) A (eval (.Tuple [.UnaryOp .USub (.Subscript (.Name v p1) (.Name x p2) p3) p4, .Name x p5] x1 p6) (envX qual scope L f cd clos)) (KeyPure (.tuple [.int (-n), .int i]) s) E s := by
  have hlt : i.toNat < its.length := (List.getElem?_eq_some_iff.mp hget).1
  have hsi : seqIndex? i its.toArray.size = some i.toNat := by
    rw [List.size_toArray]
    unfold seqIndex?
    simp only [Int.not_lt.mpr h0]
    first
      | (rw [if_neg (by omega), if_pos (by omega)])
      | (simp; omega)
  refine wpAny_Tuple_spliced (args_cons (wpAny_UnaryOp (PyProof.Rows.Subscript_ (wpAny_Name (wpAny_loadName_free hk hv hc hcell ?_ hvc) hvd))))
  refine wpAny_Name (wpAny_loadName_local hk hx hn hm ?_) hxd
  refine subscriptTail_builtinR (x := .int n tn) ht.typeIs slot_tuple_getitem.lookup (PyProof.Rows.getItem_tuple (j := i.toNat) ht (by omega) hi hsi (by simpa using hget) ⟨rfl, ?_⟩)
  refine PyProof.Rows.neg_int (args_cons (wpAny_Name (wpAny_loadName_local hk hx hn hm (args_nil ?_)) hxd))
  refine ⟨by show 2 ≤ sizeLine; rw [sizeLine_eq]; omega, _, _, rfl, fun b o e => Heap.get?_push_of_some _ e, ?_⟩
  exact .tuple (as := []) (Heap.get?_push_size _ rfl) rfl rfl (.cons (.int _ _) (.cons (.int _ _) .nil))
theorem key_call {x1} {c' : Addr} {q : Str} {params : Arguments} {pm ctv : Value} (hk : scope.kind = .function) (hco : scope.isCoroutine = false) (hgen : scope.isGenerator = false) (hcl : ∀ y ∈ scope.names, y.2 ≠ .cell) (hv : scope.names.lookup v = some .free) (hx : scope.names.lookup x = some .local)
    (hvd : (v == ("__debug__" : Str)) = false) (hxd : (x == ("__debug__" : Str)) = false) (hvc : (v == ("__classdict__" : Str)) = false) (hc : clos.lookup v = some cv)
    (hf : s.heap.get? f = some (kla_obj "<lambda>" q params (.Tuple [.UnaryOp .USub (.Subscript (.Name v p1) (.Name x p2) p3) p4, .Name x p5] x1 p6) scope clos pm c' ctv)) (hcd : s.heap.CodeRec (.ref c') q) (hroom : A.depth < recursionLimit) (lim : s.heap.NoLimit)
    (hbind : bindArgs (kla_fn "<lambda>" q params (.Tuple [.UnaryOp .USub (.Subscript (.Name v p1) (.Name x p2) p3) p4, .Name x p5] x1 p6) scope clos pm (.ref c') ctv) ⟨[.int i ti], []⟩ = pure [(x, .int i ti)])
    (hcell : s.heap.IsCell cv (some (.ref t))) (ht : IsTup s.heap t its.toArray) (h0 : 0 ≤ i) (hi : i < 2 ^ 63) (hget : its[i.toNat]? = some (.int n tn)) :
    wpAny (model prog w) A (call (.ref f) [.int i ti]) (KeyPure (.tuple [.int (-n), .int i]) s) (fun _ _ => False) s := by
  have rc : codeAny (model prog w) A (.call (.ref f) ⟨[.int i ti], []⟩) (fun r s' => ∃ u, r = .ok (.ret u) ∧ KeyPure (.tuple [.int (-n), .int i]) s u s') s := by
    refine kla_callFunE hroom hf rfl hco hgen rfl hcd ?_
    rw [hbind]
    refine wpAny_pure (wpAny_newFunctionEnv hcl (fun y hy => ?_) (fun h₁ hns hsb => ⟨lim.fresh _ hsb, ?_⟩) hk)
    · have e : y = (x, .int i ti) := by simpa using hy
      rw [e]
      exact hx
    have kp : ∀ b o, s.heap.get? b = some o → h₁.get? b = some o := fun b o e => hsb.extBut b o (Nat.ne_of_lt (Heap.lt_size e)) (Heap.get?_push_of_some _ e)
    refine kla_codeExpr (wpAny_mono (key_body (L := s.heap.objs.size) (t := t) (ti := ti) hk hv hx hvd hxd hvc hc ?_ ?_ hns ?_ h0 hi hget) (fun u s' hu => ?_) fun e s' hq => hq)
    · obtain ⟨o, ho, hd⟩ := hcell
      exact ⟨o, kp _ _ ho, hd⟩
    · obtain ⟨o, ho, hr⟩ := ht
      exact ⟨o, kp _ _ ho, hr⟩
    · show (List.lookup x [(x, Value.int i ti)].reverse) = _
      simp
    · obtain ⟨h2, tk, e, k2, r⟩ := hu
      subst e
      exact ⟨u, rfl, h2, tk, rfl, fun b o e => k2 b o (kp b o e), r⟩
  refine wpAny_call (codeAny_mono rc fun r s' hq => ?_)
  obtain ⟨u, rfl, hq⟩ := hq
  exact hq
end
theorem keys_alike (vs ns : List Int) : AllAlike (ns.map (keyAt vs)) := AllAlike.of fun _ _ => rfl
theorem keys_sortable (vs ns : List Int) : Sortable (ns.map (keyAt vs)) := .inl fun d hd => by
  obtain ⟨i, _, e⟩ := List.mem_map.mp hd
  exact ⟨_, _, e.symm⟩
/-- the order: more votes first, then the lower copy -/
def byV (vs : List Int) (p q : Int) : Bool := decide (-voteAt vs p < -voteAt vs q ∨ (-voteAt vs p = -voteAt vs q ∧ p ≤ q))
theorem each_ints : ∀ {its : List Value} {ns : List Int}, Vals (ns.map V.int) its → EachIs (fun v i => ∃ t, v = .int i t) its ns
  | [], [], _ => .nil
  | u :: us, n :: ns, h => by
    cases h with
    | cons h1 h2 => exact .cons h1 (each_ints h2)
  | [], n :: ns, h => by cases h
  | u :: us, [], h => by cases h
theorem ints_each : ∀ {its : List Value} {ns : List Int}, EachIs (fun v i => ∃ t, v = Value.int i t) its ns → Vals (ns.map V.int) its
  | _, _, .nil => .nil
  | _, _, .cons h1 h2 => .cons h1 (ints_each h2)
section
variable {X : Cx} {T : Tbl} {ρ : List Sl}
theorem d_sortV {x1} {v x : Str} {iv : Nat} {c P : Addr} {vs ns : List Int} {params : Arguments} {scope : Scope} {e : Expr} {p pl pos kp p1 p2 p3 p4 p5 p6 : Pos} (TB : LamX.TabB X.base X.mg c P) (hcode : X.env.code = .ref c) (hmT : (P, X.env.qual ++ "<lambda>") ∈ T) (hu : ∀ p ∈ T, p.1 = P → p.2 = X.env.qual ++ "<lambda>")
    (hms : X.mg "sorted" = none) (he : DD X T ρ e (.tuple (di ns))) (hr : ρ[iv]? = some (.dt (.tuple (di vs)))) (hN : X.N[iv]? = some v) (hcl : X.env.scope.names.lookup v = some .cell) (hlo : ∀ i ∈ ns, 0 ≤ i ∧ i < vs.length) (hvl : vs.length ≤ 1000) (hl : ns.length ≤ 1000)
    (hun : X.A.units + 64 < cLine) (hdep : X.A.depth < recursionLimit) (hdef : defaultsOf params X.env = ([], [])) (hk : scope.kind = .function) (hco : scope.isCoroutine = false) (hgen : scope.isGenerator = false) (hnc : ∀ y ∈ scope.names, y.2 ≠ .cell)
    (hfr : ∀ y ∈ scope.names, y.2 = .free → X.env.scope.names.lookup y.1 = some .cell ∨ X.env.scope.names.lookup y.1 = some .free) (hv : scope.names.lookup v = some .free) (hx : scope.names.lookup x = some .local)
    (hbind : ∀ (q : Str) (clos : List (Str × Addr)) (pm cdv ctv : Value) (i : Int) (ti : Tok), bindArgs (kla_fn "<lambda>" q params (.Tuple [.UnaryOp .USub (.Subscript (.Name v p1) (.Name x p2) p3) p4, .Name x p5] x1 p6) scope clos pm cdv ctv) ⟨[.int i ti], []⟩ = pure [(x, .int i ti)])
    (hg : Gl X "sorted" := by rfl) (hvd : (v == ("__debug__" : Str)) = false := by decide) (hxd : (x == ("__debug__" : Str)) = false := by decide) (hvc : (v == ("__classdict__" : Str)) = false := by decide) (hst : starEach [e] X.env = (false, eval e X.env) :: starEach [] X.env := by rfl)
    (hst2 : backTo pos (starEach [e] X.env) = (false, eval e X.env) :: backTo pos (starEach [] X.env) := by rfl) :
    DE X T ρ (.Call (.Name "sorted" p) [e] [⟨some "key", .Lambda params (.Tuple [.UnaryOp .USub (.Subscript (.Name v p1) (.Name x p2) p3) p4, .Name x p5] x1 p6) scope pl, kp⟩] pos) (.nl (di (ns.mergeSort (byV vs)))) := by
  refine ⟨fun pins s σ H Q I h => ?_⟩
  refine wpAny_Call_Name_kw (ld_blt (u := .builtin "sorted") I hg hms (by decide +kernel) ?_ (by decide) (by decide))
  refine PyProof.Rows.callWith_kw (thn ((a_cons he a_nil hst).run pos pins s σ H (fun us H2 => Gr T H H2 ∧ DpAll X.K H2 us [.tuple (di ns)]) I ⟨h.1, fun us H2 g hv => ⟨g, hv⟩⟩) fun us s1 ⟨xs, H1, I1, r1, g1, d1⟩ => ?_) hst2 (by rw [hst2]; rfl) (by rfl) (by rfl)
  show wpAny _ _ (evalAll ((do let v ← eval (.Lambda params (.Tuple [.UnaryOp .USub (.Subscript (.Name v p1) (.Name x p2) p3) p4, .Name x p5] x1 p6) scope pl) X.env; standAt pos; pure v) :: [])) _ _ s1
  have hfree : ∀ y ∈ scope.names, y.2 = .free → ∃ c, X.env.cells.lookup y.1 = some c := fun y hy z => by
    rcases hfr y hy z with k | k
    · exact I1.ok.has _ (.inl k)
    · exact I1.ok.has _ (.inr k)
  refine wpAny_evalAll_cons (wpAny_bind (LamX.lam_make2 I1 TB hcode hmT hu (g1.2 h.1.tabs) hdef hfree fun f c' pm ctv H2 s2 I2 ext tabs2 hf hfn hffr hcoo => wpAny_bind (wpAny_standAt (wpAny_pure (wpAny_evalAll_nil ?_)))))
  have g2 : Gr T H1 H2 := ⟨ext, fun _ => tabs2⟩
  have g12 := g1.trans g2
  obtain ⟨v1, e1, hv1⟩ := one_of (g2.dpAll _ d1)
  subst e1
  obtain ⟨a, ys, rfl, hq, hd⟩ := dp_tup hv1
  rw [dpAll_ints hd] at hq
  rw [Vals.ref1 r1]
  obtain ⟨its, rv, hit, hz⟩ := I2.tuple hq
  obtain ⟨o, eo, v0, e2, hv0⟩ := slots_get h.1.sl hr
  subst e2
  obtain ⟨b, zs, rfl, hqb, hdb⟩ := dp_tup (g12.dp _ hv0)
  rw [dpAll_ints hdb] at hqb
  obtain ⟨jts, rvj, hjt, _⟩ := I2.tuple hqb
  obtain ⟨m, hn, hloc⟩ := I2.loc
  obtain ⟨u, ru, hlook⟩ := hloc iv v _ hN eo (.inr (.inl hcl))
  obtain rfl : u = Value.ref b := ru
  obtain ⟨cv, hcv, hcell⟩ : ∃ cv, X.env.cells.lookup v = some cv ∧ s2.heap.IsCell cv (some (.ref b)) := by
    rcases hlook with ⟨k, _⟩ | ⟨_, cv, h1, h2⟩
    · have k : X.env.scope.names.lookup v = some .local := k
      rw [hcl] at k
      cases k
    · exact ⟨cv, h1, h2⟩
  have hclos : (cloFrom X.env.cells scope.names []).lookup v = some cv := by
    have h1 : (v, NameKind.free) ∈ scope.names := PySem.mem_of_lookup hv
    obtain ⟨c2, h2⟩ := L2.mem_lookup (cloFrom_has (cells := X.env.cells) (acc := []) h1)
    rcases cloFrom_mem (PySem.mem_of_lookup h2) with hm | ⟨_, h3⟩
    · cases hm
    · rw [h2, h3, hcv]
      rfl
  obtain ⟨⟨oc, vc, tq, hoc, hdc, hvcc⟩, _, _⟩ := I2.hok c' _ hcoo
  refine sorted_keyT (vs := its) (bs := ns) (R := fun v i => ∃ t, v = Value.int i t) (keyAt vs) hit (each_ints rv) (keys_alike vs ns) (keys_sortable vs ns) (size_ok hl) (fun y hy => ?_) (PyProof.Rows.ksk_s1 _ _) (fun _ => PyProof.Rows.ksk_l1 _ _) (fun _ => PyProof.Rows.ksk_t1 _ _)
    (fun v' y hR hy h' tk kp => ?_) fun out ce h' tk kp hD ea => ?_
  · have hdd : (keyAt vs y).depth ≤ 10 := by
      show PyData.depth _ ≤ 10
      first
        | decide
        | (simp [keyAt, PyData.depth, PyData.depthAll])
    omega
  · obtain ⟨ti, rfl⟩ := hR
    obtain ⟨h0, hlt⟩ := hlo y hy
    have hyl : y.toNat < vs.length := by omega
    have hget : (vs.map V.int)[y.toNat]? = some (.int (voteAt vs y)) := by
      unfold voteAt
      rw [List.getElem?_map, List.getElem?_eq_getElem hyl, List.getD_eq_getElem?_getD, List.getElem?_eq_getElem hyl]
      rfl
    obtain ⟨u, eu, tn, rfl⟩ := rvj.get hget
    refine key_call (cv := cv) (t := b) (its := jts) (tn := tn) hk hco hgen hnc hv hx hvd hxd hvc hclos (kp _ _ hf) ⟨c', oc, vc, tq, rfl, kp _ _ hoc, hdc, hvcc⟩ hdep (I2.nolimit.keeps kp) (hbind _ _ _ _ _ _ _) ?_ ?_ h0 (by omega) eu
    · obtain ⟨o, ho, hd⟩ := hcell
      exact ⟨o, kp _ _ ho, hd⟩
    · obtain ⟨o, ho, hr⟩ := hjt
      exact ⟨o, kp _ _ ho, hr⟩
  · have hds : dataLe false (keyAt vs) = byV vs := dataLe_ii (fun i => -voteAt vs i) id
    rw [hds] at ea
    have hlen : ((ns.mergeSort (byV vs)).map V.int).length ≤ sizeLine := by
      rw [List.length_map, List.length_mergeSort]
      exact size_ok hl
    exact ⟨.ref _, upd H2 (s2.heap.objs.size + 1) (.lst ((ns.mergeSort (byV vs)).map V.int)), I2.laid (t' := tk) kp (Nat.le_succ _) ⟨hlen, out, ce, ints_each ea, hD⟩, rfl, h.2 _ _ (g12.trans (Gr.new (I2.hok.fresh (Nat.le_succ _)))) ⟨_, _, rfl, upd_same, ints_dpAll _⟩⟩
end
end KM
set_option Elab.async false
set_option linter.all false
set_option maxRecDepth 100000
set_option maxHeartbeats 4000000
/-! plainstore.votes -/
namespace KM
open PySem PySem.Spec PyProof.Rows L2
section
variable {X : Cx} {T : Tbl} {ρ : List Sl} {e : Expr} {es : List Expr}
theorem t_to {b c : Bool} (h : DT X T ρ e b) (z : b = c) : DT X T ρ e c := z ▸ h
theorem d_to {b c : PyData} (h : DD X T ρ e b) (z : b = c) : DD X T ρ e c := z ▸ h
theorem de_to {b c : List PyData} (h : DE X T ρ e (.nl b)) (z : b = c) : DE X T ρ e (.nl c) := z ▸ h
theorem t_notF {pos : Pos} (h : DT X T ρ e true) : DT X T ρ (.UnaryOp .Not e pos) false := t_not h
theorem t_notT {pos : Pos} (h : DT X T ρ e false) : DT X T ρ (.UnaryOp .Not e pos) true := t_not h
theorem a_star {ds ds' : List PyData} {p : Pos} (h : DD X T ρ e (.list ds)) (h2 : DA X T ρ es ds') (hs : starEach (.Starred e p :: es) X.env = (true, eval e X.env) :: starEach es X.env := by rfl) : DA X T ρ (.Starred e p :: es) (ds ++ ds') :=
  pa_imp (StX.pa_star h h2 hs) fun σ H Q k => ⟨k.1, fun v H1 g1 h1 => by
    obtain ⟨a, xs, e1, e2, e3⟩ := dp_lst h1
    exact ⟨a, xs, e1, .inr e2, k.1.gr g1, fun vs H2 g2 h2 => k.2 _ H2 (g1.trans g2) (dpAll_app (g2.dpAll _ e3) h2)⟩⟩
theorem a_starT {ds ds' : List PyData} {p : Pos} (h : DD X T ρ e (.tuple ds)) (h2 : DA X T ρ es ds') (hs : starEach (.Starred e p :: es) X.env = (true, eval e X.env) :: starEach es X.env := by rfl) : DA X T ρ (.Starred e p :: es) (ds ++ ds') :=
  pa_imp (StX.pa_star h h2 hs) fun σ H Q k => ⟨k.1, fun v H1 g1 h1 => by
    obtain ⟨a, xs, e1, e2, e3⟩ := dp_tup h1
    exact ⟨a, xs, e1, .inl e2, k.1.gr g1, fun vs H2 g2 h2 => k.2 _ H2 (g1.trans g2) (dpAll_app (g2.dpAll _ e3) h2)⟩⟩
end
/-- votes as the law draws them -/
structure VOk (vs : List Int) : Prop where
  lo : 1 ≤ vs.length
  hi : vs.length ≤ 5
  each : ∀ v ∈ vs, 0 ≤ v ∧ v ≤ 9
  pos : 0 < vs.sum
def InV (vs ns : List Int) : Prop := (∀ i ∈ ns, 0 ≤ i ∧ i < vs.length) ∧ ns.length ≤ 100
def votesIn (vs ns : List Int) : Int := (ns.map (voteAt vs)).sum
def byVotes (vs ns : List Int) : List Int := ns.mergeSort (byV vs)
def sureOf (vs : List Int) (u : Nat) (ns : List Int) : Int := votesIn vs ns - votesIn vs ((byVotes vs ns).take u)
def canRead (vs : List Int) (need : Int) (u : Nat) (ns : List Int) : Bool := decide (vs.sum - need < sureOf vs u ns)
def Rvotes : List PyData → PyData → Prop := fun ds d => ∃ vs, VOk vs ∧ ds = [.tuple (di vs)] ∧ d = .bool true
def RlookV : List PyData → PyData → Prop := fun ds d => ∃ vs, VOk vs ∧ ds = [.tuple (di vs)] ∧ d = .none
def NeedOk (vs : List Int) (need : Int) : Prop := 1 ≤ need ∧ need ≤ vs.sum
def RlookN : List PyData → PyData → Prop := fun ds d => ∃ vs need, VOk vs ∧ NeedOk vs need ∧ ds = [.tuple (di vs), .int need] ∧ d = .none
def RlookU : List PyData → PyData → Prop := fun ds d => ∃ vs need, ∃ u : Nat, VOk vs ∧ NeedOk vs need ∧ u ≤ vs.length ∧ ds = [.tuple (di vs), .int need, .int u] ∧ d = .none
def LotOk (vs ns : List Int) : Prop := lotB ns vs.length = true ∧ ns.length ≤ 100
def RlookL : List PyData → PyData → Prop := fun ds d => ∃ vs ns, LotOk vs ns ∧ ds = [.tuple (di vs), .tuple (di ns)] ∧ d = .none
def RvotesIn : List PyData → PyData → Prop := fun ds d => ∃ vs ns x, InV vs ns ∧ (x = .tuple (di ns) ∨ x = .list (di ns)) ∧ ds = [.tuple (di vs), x] ∧ d = .int (votesIn vs ns)
def RbyVotes : List PyData → PyData → Prop := fun ds d => ∃ vs ns, VOk vs ∧ InV vs ns ∧ ds = [.tuple (di vs), .tuple (di ns)] ∧ d = .list (di (byVotes vs ns))
def RcanWrite : List PyData → PyData → Prop := fun ds d => ∃ vs need ns, InV vs ns ∧ ds = [.tuple (di vs), .int need, .tuple (di ns)] ∧ d = .bool (decide (need ≤ votesIn vs ns))
def RcanRead : List PyData → PyData → Prop := fun ds d => ∃ vs need ns, ∃ u : Nat, VOk vs ∧ InV vs ns ∧ u ≤ vs.length ∧ ds = [.tuple (di vs), .int need, .int u, .tuple (di ns)] ∧ d = .bool (canRead vs need u ns)
def RisEnough : List PyData → PyData → Prop := fun ds d => ∃ vs need ns, ∃ u : Nat, VOk vs ∧ NeedOk vs need ∧ LotOk vs ns ∧ u ≤ vs.length ∧ ds = [.tuple (di vs), .int need, .int u, .tuple (di ns)] ∧ d = .bool (canRead vs need u ns)
theorem LotOk.inV {vs ns : List Int} (h : LotOk vs ns) : InV vs ns := by
  obtain ⟨h1, h2⟩ := h
  unfold lotB at h1
  rw [Bool.and_eq_true, List.all_eq_true] at h1
  refine ⟨fun i hi => ?_, h2⟩
  have z := h1.1 i hi
  rw [Bool.and_eq_true, decide_eq_true_eq, decide_eq_true_eq] at z
  omega
theorem votes_all {vs : List Int} (h : VOk vs) : (vs.map fun i => decide (0 ≤ i) && decide (i ≤ 9)).all id = true := by
  rw [List.all_map, List.all_eq_true]
  intro v hv
  have := h.each v hv
  simp [this.1, this.2]
theorem InV.by {vs ns : List Int} (h : InV vs ns) : InV vs (byVotes vs ns) := by
  refine ⟨fun i hi => h.1 i ?_, ?_⟩
  · unfold byVotes at hi
    rw [List.mem_mergeSort] at hi
    exact hi
  · unfold byVotes
    rw [List.length_mergeSort]
    exact h.2
theorem InV.take {vs ns : List Int} (h : InV vs ns) (u : Nat) : InV vs (ns.take u) := ⟨fun i hi => h.1 i (List.mem_of_mem_take hi), by have h2 := h.2; rw [List.length_take]; omega⟩
theorem voteAt_get {vs : List Int} {i : Int} (h0 : 0 ≤ i) (h1 : i < vs.length) : atI (di vs) i = some (.int (voteAt vs i)) := by
  have hlt : i.toNat < vs.length := by omega
  unfold atI
  have e : ixN (di vs).length i = some i.toNat := by
    rw [List.length_map]
    unfold ixN
    rw [if_pos h0, if_pos h1]
  rw [e]
  unfold voteAt
  show (di vs)[i.toNat]? = _
  rw [List.getElem?_map, List.getElem?_eq_getElem hlt, List.getD_eq_getElem?_getD, List.getElem?_eq_getElem hlt]
  rfl
def voteD (vs : List Int) : PyData → PyData
  | .int i => .int (voteAt vs i)
  | _ => .none
theorem map_voteD (vs ns : List Int) : (di ns).map (voteD vs) = di (ns.map (voteAt vs)) := by
  show List.map _ (List.map _ _) = List.map _ (List.map _ _)
  rw [List.map_map, List.map_map]
  rfl
theorem cut_to (ds : List PyData) (u : Nat) : cutD ds none (some u) = ds.take u := by
  unfold cutD
  rw [HT.sIx_none, show HT.sIx ds.length ds.length (some (u : Int)) = min u ds.length from HT.sIx_nat ds.length ds.length u, List.drop_zero, Nat.sub_zero]
  rcases Nat.le_total u ds.length with h | h
  · rw [Nat.min_eq_left h]
  · rw [Nat.min_eq_right h, List.take_of_length_le (Nat.le_refl _), List.take_of_length_le h]
section
variable {P : Program} {w : World} {K : PySem.W.Frag} {mg : Str → Option Value} {base : Heap} {T : Tbl} {f : Addr} {fd : FuncData}
abbrev Ws (P : Program) (w : World) (K : PySem.W.Frag) (mg : Str → Option Value) (base : Heap) (T : Tbl) (x : Str) (k : Nat) (ps : List Str) (R : List PyData → PyData → Prop) : Prop := Df P w K mg base T x k ps R
theorem df_is_votes (G : Glob mg) (F : FnP K "is_votes" s_is_votes f fd) (hm : mg "is_votes" = some (.ref f)) (WN : Df P w K mg base T "is_number" 2 ["value", "low", "high"] Rnum) : Df P w K mg base T "is_votes" 3 ["value"] Rvotes := by
  refine df_of F hm sc_is_votes (fun ds d ⟨vs, _, e, _⟩ => by rw [e]; rfl) (fun _ _ _ _ _ _ us hl => match us, hl with | [_], _ => rfl) fun cdv A outer s H E ds d hr h => ?_
  obtain ⟨vs, V, rfl, rfl⟩ := h
  refine s_ifF (t_to (t_w (w_or (t_not (t_val (d_isi (dn 0) G.f_isinstance G.f_tuple (kit_T _)))) fun _ => w_or1 (t_not (t_chain o_le o_le d_int (d_callB c_len G.f_len (by decide +kernel) (a_cons (dn 0) a_nil) (.tup _)) (d_gint G.c_MOST_COPIES) (.mk _ _) (.mk _ _))))) ?_) (s_ret (d_to (b := .bool ((vs.map fun i => decide (0 ≤ i) && decide (i ≤ 9)).all id && decide (0 < vs.sum))) (d_and (d_callB (c_all rfl) G.f_all (by decide +kernel)
    (a_cons (de_l (lcT (x := "one") (j := 1) (f := numD 0 9) rfl sc_is_votes.nd (dn 0) (blkOk_by (N := n_is_votes) (sc := defScope s_is_votes) (by decide +kernel)) (fun _ _ _ _ _ => pg_name (i := 1) sc_is_votes.nd rfl (Or.inl rfl)) ht_yes (he_of fun s H C cl fp d hd _ => ?_) (fun d _ _ => rfl) (by rw [List.length_map]; have := V.hi; omega))) a_nil) ?_) fun _ => d_one (d_cmp o_gt (d_callB (c_sum rfl) G.f_sum (by decide +kernel) (a_cons (dn 0) a_nil) (.tup _)) d_int (.mk _ _) (nomark _))) ?_))
  · have h1 := V.lo
    have h2 := V.hi
    rw [List.length_map]
    simp [isT]
    omega
  · exact d_call WN hr (by decide) (a_cons (dn 1) (a_cons d_int (a_cons (d_gint G.c_MOST_VOTES) a_nil))) ⟨d, 0, 9, rfl, rfl⟩
  · rw [filter_yes, map_num]
    exact .mk _
  · rw [votes_all V]
    have := V.pos
    simp [this]
theorem df_look_at_votes (G : Glob mg) (F : FnP K "look_at_votes" s_look_at_votes f fd) (hm : mg "look_at_votes" = some (.ref f)) (W : Df P w K mg base T "is_votes" 3 ["value"] Rvotes) : Df P w K mg base T "look_at_votes" 4 ["votes"] RlookV := by
  refine df_of F hm sc_look_at_votes (fun ds d ⟨vs, _, e, _⟩ => by rw [e]; rfl) (fun _ _ _ _ _ _ us hl => match us, hl with | [_], _ => rfl) fun cdv A outer s H E ds d hr h => ?_
  obtain ⟨vs, V, rfl, rfl⟩ := h
  exact s_ifF (t_notF (t_val (d_call W hr (by decide) (a_cons (dn 0) a_nil) ⟨vs, V, rfl, rfl⟩))) s_nil
theorem df_look_at_need (G : Glob mg) (F : FnP K "look_at_need" s_look_at_need f fd) (hm : mg "look_at_need" = some (.ref f)) (W : Df P w K mg base T "look_at_votes" 4 ["votes"] RlookV) (WN : Df P w K mg base T "is_number" 2 ["value", "low", "high"] Rnum) : Df P w K mg base T "look_at_need" 5 ["votes", "need"] RlookN := by
  refine df_of F hm sc_look_at_need (fun ds d ⟨vs, _, _, _, e, _⟩ => by rw [e]; rfl) (fun _ _ _ _ _ _ us hl => match us, hl with | [_, _], _ => rfl) fun cdv A outer s H E ds d hr h => ?_
  obtain ⟨vs, need, V, ⟨n1, n2⟩, rfl, rfl⟩ := h
  exact s_expr (d_call W hr (by decide) (a_cons (dn 0) a_nil) ⟨vs, V, rfl, rfl⟩) (s_ifF (t_to (t_not (t_val (d_call WN hr (by decide) (a_cons (dn 1) (a_cons d_int (a_cons (d_callB (c_sum rfl) G.f_sum (by decide +kernel) (a_cons (dn 0) a_nil) (.tup _)) a_nil))) ⟨_, _, _, rfl, rfl⟩))) (by simp [num, n1, n2])) s_nil)
theorem df_look_at_unruly (G : Glob mg) (F : FnP K "look_at_unruly" s_look_at_unruly f fd) (hm : mg "look_at_unruly" = some (.ref f)) (W : Df P w K mg base T "look_at_need" 5 ["votes", "need"] RlookN) (WN : Df P w K mg base T "is_number" 2 ["value", "low", "high"] Rnum) : Df P w K mg base T "look_at_unruly" 6 ["votes", "need", "unruly"] RlookU := by
  refine df_of F hm sc_look_at_unruly (fun ds d ⟨vs, _, _, _, _, _, e, _⟩ => by rw [e]; rfl) (fun _ _ _ _ _ _ us hl => match us, hl with | [_, _, _], _ => rfl) fun cdv A outer s H E ds d hr h => ?_
  obtain ⟨vs, need, u, V, N, U, rfl, rfl⟩ := h
  exact s_expr (d_call W hr (by decide) (a_cons (dn 0) (a_cons (dn 1) a_nil)) ⟨vs, need, V, N, rfl, rfl⟩) (s_ifF (t_to (t_not (t_val (d_call WN hr (by decide) (a_cons (dn 2) (a_cons d_int (a_cons (d_callB c_len G.f_len (by decide +kernel) (a_cons (dn 0) a_nil) (.tup _)) a_nil))) ⟨_, _, _, rfl, rfl⟩))) (by rw [List.length_map]; simp [num]; omega)) s_nil)
theorem df_look_at_lot_of (G : Glob mg) (F : FnP K "look_at_lot_of" s_look_at_lot_of f fd) (hm : mg "look_at_lot_of" = some (.ref f)) (W : Df P w K mg base T "is_lot" 3 ["value", "count"] Rlot) : Df P w K mg base T "look_at_lot_of" 4 ["votes", "lot"] RlookL := by
  refine df_of F hm sc_look_at_lot_of (fun ds d ⟨vs, _, _, e, _⟩ => by rw [e]; rfl) (fun _ _ _ _ _ _ us hl => match us, hl with | [_, _], _ => rfl) fun cdv A outer s H E ds d hr h => ?_
  obtain ⟨vs, ns, L, rfl, rfl⟩ := h
  exact s_ifF (t_notF (t_val (d_call (d := .bool true) W hr (by decide) (a_cons (dn 1) (a_cons (d_callB c_len G.f_len (by decide +kernel) (a_cons (dn 0) a_nil) (.tup _)) a_nil)) ⟨_, _, rfl, .inl ⟨ns, rfl, by have := L.2; omega, by rw [List.length_map, L.1]⟩⟩))) s_nil
theorem df_votes_in (G : Glob mg) (F : FnP K "votes_in" s_votes_in f fd) (hm : mg "votes_in" = some (.ref f)) : Df P w K mg base T "votes_in" 1 ["votes", "lot"] RvotesIn := by
  refine df_of F hm sc_votes_in (fun ds d ⟨vs, _, _, _, _, e, _⟩ => by rw [e]; rfl) (fun _ _ _ _ _ _ us hl => match us, hl with | [_, _], _ => rfl) fun cdv A outer s H E ds d hr h => ?_
  obtain ⟨vs, ns, x, I, hx, rfl, rfl⟩ := h
  have hs : RSum [.list ((List.filter (fun _ => true) (di ns)).map (voteD vs))] (.int (votesIn vs ns)) := by
    rw [filter_yes, map_voteD]
    exact .lst _
  refine s_ret (d_callB (c_sum rfl) G.f_sum (by decide +kernel) (a_cons (de_l ?_) a_nil) hs)
  rcases hx with rfl | rfl
  · refine lcT (x := "copy") (j := 2) (f := voteD vs) rfl sc_votes_in.nd (dn 1) (blkOk_by (N := n_votes_in) (sc := defScope s_votes_in) (by decide +kernel)) (fun _ _ _ _ _ => pg_name (i := 2) sc_votes_in.nd rfl (Or.inl rfl)) ht_yes (he_of fun s H C cl fp d hd _ => ?_) (fun d hd _ => ?_) (by rw [List.length_map]; have := I.2; omega)
    · obtain ⟨i, hi, rfl⟩ := mem_di hd
      exact d_ix (dn 0) (dn 2) (.tup _ _ _ (voteAt_get (I.1 i hi).1 (I.1 i hi).2))
    · obtain ⟨i, hi, rfl⟩ := mem_di hd
      rfl
  · refine lcL (x := "copy") (j := 2) (f := voteD vs) rfl sc_votes_in.nd (dn 1) (blkOk_by (N := n_votes_in) (sc := defScope s_votes_in) (by decide +kernel)) (fun _ _ _ _ _ => pg_name (i := 2) sc_votes_in.nd rfl (Or.inl rfl)) ht_yes (he_of fun s H C cl fp d hd _ => ?_) (fun d hd _ => ?_) (by rw [List.length_map]; have := I.2; omega)
    · obtain ⟨i, hi, rfl⟩ := mem_di hd
      exact d_ix (dn 0) (dn 2) (.tup _ _ _ (voteAt_get (I.1 i hi).1 (I.1 i hi).2))
    · obtain ⟨i, hi, rfl⟩ := mem_di hd
      rfl
/-- as ok_of, the code object known -/
theorem df_ofC {x qual : Str} {st : Stmt} {N ps : List Str} {k : Nat} {R : List PyData → PyData → Prop} {c : Addr} (F : FunD K x qual (defArgs st) (defBody st) (defScope st) [] [] f fd) (hcd : fd.code = .ref c) (hm : mg x = some (.ref f)) (S : FnScope N ps (defScope st)) (len : ∀ ds d, R ds d → ds.length = ps.length)
    (hb : ∀ (kV doc pm : Value) (an : Option Addr) (cdv ct : Value) (us : List Value), us.length = ps.length → bindArgs (PySem.W.fnOf x qual (defArgs st) (defBody st) (defScope st) .none kV doc pm an cdv ct) ⟨us, []⟩ = pure (ps.zip us))
    (hbody : ∀ (A : Around) (outer : List PySem.Env) (s : Shared) (H : Hp) (E : XK) (ds : List PyData) (d : PyData), Room k (A.deeper (envOfC qual (defScope st) s.heap.objs.size f (.ref c))) → R ds d →
      DS (bodyX P w K mg base N qual (defScope st) f (.ref c) A outer s H E) T (startD N ds) (defBody st) true d) : Df P w K mg base T x (k + 1) ps R := by
  refine ⟨f, fd, ?_, hm, F.kp, F.bindsN hb⟩
  obtain ⟨oc, od, dV, kV, doc, pm, an, cdv, ct, osl, rfl, lk, hcd2, _, _⟩ := F.ex
  have hcd : cdv = .ref c := hcd
  subst hcd
  refine fn_of lk hcd2 S (fun vs H Q E h => ?_) fun A outer s H vs Q E hr h => ?_
  · obtain ⟨_, ds, d, hv, hR, _⟩ := h
    rw [dpAll_len hv]
    exact len ds d hR
  · obtain ⟨ht, ds, d, hv, hR, q⟩ := h
    refine ⟨_, PSs.nox (hbody A outer s H E ds d hr hR), start_env ht hv, fun v H2 g h2 => q v H2 g h2, fun _ z σ2 H2 g => ?_⟩
    subst z
    exact q .non H2 g .non
end
end KM
set_option Elab.async false
set_option linter.all false
set_option maxRecDepth 100000
set_option maxHeartbeats 4000000
/-! plainstore.votes: the order, reading, the missed paper -/
namespace KM
open PySem PySem.Spec PyProof.Rows L2
/-- the table of a def's lambdas -/
structure LamT (base : Heap) (mg : Str → Option Value) (T : Tbl) (c P : Addr) (q : Str) : Prop where
  tb : LamX.TabB base mg c P
  mem : (P, q) ∈ T
  uni : ∀ p ∈ T, p.1 = P → p.2 = q
def outsideOf (vs ns : List Int) : List Int := (upTo vs.length).filter fun i => !decide (i ∈ ns)
def otherOf (vs : List Int) (u : Nat) (ns : List Int) : List Int := (outsideOf vs ns ++ (byVotes vs ns).take u).mergeSort fun a b => decide (a ≤ b)
def paperOf (vs : List Int) (u : Nat) (ns : List Int) : PyData := .tuple [.str "missed", .tuple (di ns), .tuple (di (otherOf vs u ns))]
def Rmissed : List PyData → PyData → Prop := fun ds d => ∃ vs need ns, ∃ u : Nat, VOk vs ∧ NeedOk vs need ∧ LotOk vs ns ∧ u ≤ vs.length ∧ ds = [.tuple (di vs), .int need, .int u, .tuple (di ns)] ∧ d = if canRead vs need u ns then .none else paperOf vs u ns
def ninD (ns : List Int) : PyData → Bool
  | .int i => xor true (decide (i ∈ ns))
  | _ => false
def inD (ns : List Int) : PyData → Bool
  | .int i => xor false (decide (i ∈ ns))
  | _ => false
theorem filter_nin (ns ms : List Int) : (((di ms).filter (ninD ns)).map id) = di (ms.filter fun i => !decide (i ∈ ns)) := by
  rw [List.map_id]
  show List.filter _ (List.map _ _) = List.map _ (List.filter _ _)
  rw [List.filter_map]
  congr 1
  congr 1
  funext i
  show xor true (decide (i ∈ ns)) = _
  rw [Bool.true_xor]
theorem filter_in (ns ms : List Int) : (((di ms).filter (inD ns)).map id) = di (ms.filter fun i => decide (i ∈ ns)) := by
  rw [List.map_id]
  show List.filter _ (List.map _ _) = List.map _ (List.filter _ _)
  rw [List.filter_map]
  congr 1
  congr 1
  funext i
  show xor false (decide (i ∈ ns)) = _
  rw [Bool.false_xor]
theorem upTo_len (n : Nat) : (upTo n).length = n := by simp [upTo]
theorem outside_len (vs ns : List Int) : (outsideOf vs ns).length ≤ vs.length := by
  have h := List.length_filter_le (fun i => !decide (i ∈ ns)) (upTo vs.length)
  rw [upTo_len] at h
  exact h
theorem di_app (a b : List Int) : di a ++ di b = di (a ++ b) := (List.map_append).symm
theorem di_take (a : List Int) (n : Nat) : (di a).take n = di (a.take n) := (List.map_take).symm
theorem sorted_is (l : List Int) : RSorted [.list (di l)] (.list (di (l.mergeSort fun a b => decide (a ≤ b)))) := by
  refine .mk _ _ (List.mergeSort_perm _ _) ?_
  have h := List.pairwise_mergeSort (le := fun a b : Int => decide (a ≤ b)) (fun a b c h1 h2 => by simp at h1 h2 ⊢; omega) (fun a b => by simp; omega) l
  exact h.imp fun h => by simpa using h
/-- what is taken for a lot -/
def intsD : PyData → List Int
  | .tuple xs => xs.map fun
    | .int i => i
    | _ => 0
  | _ => []
theorem intsD_tup (ns : List Int) : intsD (.tuple (di ns)) = ns := by
  show List.map _ (List.map _ _) = ns
  rw [List.map_map]
  induction ns with
  | nil => rfl
  | cons n r ih => exact congrArg (List.cons n) ih
def isLotD (n : Int) (d : PyData) : Bool := isT d && lotB (intsD d) n
def LotLike (d : PyData) : Prop := (∃ ns : List Int, d = .tuple (di ns) ∧ ns.length ≤ 200) ∨ isT d = false
theorem LotLike.r {d : PyData} (h : LotLike d) (n : Int) : Rlot [d, .int n] (.bool (isLotD n d)) := by
  rcases h with ⟨ns, rfl, hl⟩ | h
  · exact ⟨_, _, rfl, .inl ⟨ns, rfl, by omega, by unfold isLotD; rw [intsD_tup]; rfl⟩⟩
  · exact ⟨_, _, rfl, .inr ⟨h, by unfold isLotD; rw [h]; rfl⟩⟩
inductive PaperR (vs : List Int) (need : Int) (u : Nat) : PyData → Bool → Prop where
  | notT (p : PyData) (h : isT p = false) : PaperR vs need u p false
  | len (xs : List PyData) (h : xs.length ≠ 3) : PaperR vs need u (.tuple xs) false
  | notS (a b c : PyData) (h : isS a = false) : PaperR vs need u (.tuple [a, b, c]) false
  | word (x : Str) (b c : PyData) (h : x ≠ "missed") : PaperR vs need u (.tuple [.str x, b, c]) false
  | lots (b c : PyData) (hb : LotLike b) (hc : LotLike c) (h : (isLotD vs.length b && isLotD vs.length c) = false) : PaperR vs need u (.tuple [.str "missed", b, c]) false
  | good (ns ms : List Int) (hb : LotOk vs ns) (hc : LotOk vs ms) : PaperR vs need u (.tuple [.str "missed", .tuple (di ns), .tuple (di ms)]) (decide (need ≤ votesIn vs ms) && decide ((ns.filter fun i => decide (i ∈ ms)).length ≤ u))
def Raccepts : List PyData → PyData → Prop := fun ds d => ∃ vs need paper b, ∃ u : Nat, VOk vs ∧ NeedOk vs need ∧ u ≤ vs.length ∧ PaperR vs need u paper b ∧ ds = [.tuple (di vs), .int need, .int u, paper] ∧ d = .bool b
section
variable {P : Program} {w : World} {K : PySem.W.Frag} {mg : Str → Option Value} {base : Heap} {T : Tbl} {f : Addr} {fd : FuncData}
theorem df_by_votes {c Pt : Addr} (G : Glob mg) (F : FnP K "by_votes" s_by_votes f fd) (hm : mg "by_votes" = some (.ref f)) (hcd : fd.code = .ref c) (L : LamT base mg T c Pt (((("by_votes" : Str) ++ ".<locals>.") ++ "<lambda>"))) : Df P w K mg base T "by_votes" 1 ["votes", "lot"] RbyVotes := by
  refine df_ofC F hcd hm sc_by_votes (fun ds d ⟨vs, _, _, _, e, _⟩ => by rw [e]; rfl) (fun _ _ _ _ _ _ us hl => match us, hl with | [_, _], _ => rfl) fun A outer s H E ds d hr h => ?_
  obtain ⟨vs, ns, V, I, rfl, rfl⟩ := h
  exact s_ret (de_l (d_sortV (iv := 0) L.tb rfl L.mem L.uni G.f_sorted (dn 1) rfl rfl rfl I.1 (by have := V.hi; omega) (by have := I.2; omega) hr.units hr.depth rfl rfl rfl rfl (by decide +kernel) (by show ∀ y : Str × NameKind, y ∈ _ → y.2 = _ → (defScope s_by_votes).names.lookup y.1 = _ ∨ (defScope s_by_votes).names.lookup y.1 = _; decide +kernel) rfl rfl (fun _ _ _ _ _ _ _ => rfl)))
theorem df_can_write (G : Glob mg) (F : FnP K "can_write" s_can_write f fd) (hm : mg "can_write" = some (.ref f)) (W : Df P w K mg base T "votes_in" 1 ["votes", "lot"] RvotesIn) : Df P w K mg base T "can_write" 2 ["votes", "need", "lot"] RcanWrite := by
  refine df_of F hm sc_can_write (fun ds d ⟨vs, _, _, _, e, _⟩ => by rw [e]; rfl) (fun _ _ _ _ _ _ us hl => match us, hl with | [_, _, _], _ => rfl) fun cdv A outer s H E ds d hr h => ?_
  obtain ⟨vs, need, ns, I, rfl, rfl⟩ := h
  exact s_ret (d_cmp o_ge (d_call W hr (by decide) (a_cons (dn 0) (a_cons (dn 2) a_nil)) ⟨vs, ns, _, I, .inl rfl, rfl, rfl⟩) (dn 1) (.mk _ _) (nomark _))
theorem df_can_read (G : Glob mg) (F : FnP K "can_read" s_can_read f fd) (hm : mg "can_read" = some (.ref f)) (W : Df P w K mg base T "votes_in" 1 ["votes", "lot"] RvotesIn) (WB : Df P w K mg base T "by_votes" 1 ["votes", "lot"] RbyVotes) : Df P w K mg base T "can_read" 2 ["votes", "need", "unruly", "lot"] RcanRead := by
  refine df_of F hm sc_can_read (fun ds d ⟨vs, _, _, _, _, _, _, e, _⟩ => by rw [e]; rfl) (fun _ _ _ _ _ _ us hl => match us, hl with | [_, _, _, _], _ => rfl) fun cdv A outer s H E ds d hr h => ?_
  obtain ⟨vs, need, ns, u, V, I, U, rfl, rfl⟩ := h
  have hcut : cutD (di (byVotes vs ns)) none (some (u : Int)) = di ((byVotes vs ns).take u) := by rw [cut_to, di_take]
  refine s_asg 4 (r := .dt (.int (sureOf vs u ns))) sc_can_read.nd (d_op o_sub (d_call W hr (by decide) (a_cons (dn 0) (a_cons (dn 3) a_nil)) ⟨vs, ns, _, I, .inl rfl, rfl, rfl⟩)
    (d_call W hr (by decide) (a_cons (dn 0) (a_cons (de_l (de_to (d_slL (d_call WB hr (by decide) (a_cons (dn 0) (a_cons (dn 3) a_nil)) ⟨vs, ns, V, I, rfl, rfl⟩) o_no (o_some (dn 2))) hcut)) a_nil)) ⟨vs, (byVotes vs ns).take u, _, I.by.take u, .inr rfl, rfl, rfl⟩) (.mk _ _)) ?_
  exact s_ret (d_cmp o_gt (dn 4) (d_op o_sub (d_callB (c_sum rfl) G.f_sum (by decide +kernel) (a_cons (dn 0) a_nil) (.tup _)) (dn 1) (.mk _ _)) (.mk _ _) (nomark _))
theorem df_is_enough (G : Glob mg) (F : FnP K "is_enough" s_is_enough f fd) (hm : mg "is_enough" = some (.ref f)) (W1 : Df P w K mg base T "look_at_unruly" 6 ["votes", "need", "unruly"] RlookU) (W2 : Df P w K mg base T "look_at_lot_of" 4 ["votes", "lot"] RlookL) (W3 : Df P w K mg base T "can_read" 2 ["votes", "need", "unruly", "lot"] RcanRead) :
    Df P w K mg base T "is_enough" 7 ["votes", "need", "unruly", "lot"] RisEnough := by
  refine df_of F hm sc_is_enough (fun ds d ⟨vs, _, _, _, _, _, _, _, e, _⟩ => by rw [e]; rfl) (fun _ _ _ _ _ _ us hl => match us, hl with | [_, _, _, _], _ => rfl) fun cdv A outer s H E ds d hr h => ?_
  obtain ⟨vs, need, ns, u, V, N, L, U, rfl, rfl⟩ := h
  exact s_expr (d_call W1 hr (by decide) (a_cons (dn 0) (a_cons (dn 1) (a_cons (dn 2) a_nil))) ⟨vs, need, u, V, N, U, rfl, rfl⟩) (s_expr (d_call W2 hr (by decide) (a_cons (dn 0) (a_cons (dn 3) a_nil)) ⟨vs, ns, L, rfl, rfl⟩)
    (s_ret (d_call W3 hr (by decide) (a_cons (dn 0) (a_cons (dn 1) (a_cons (dn 2) (a_cons (dn 3) a_nil)))) ⟨vs, need, ns, u, V, L.inV, U, rfl, rfl⟩)))
theorem df_missed_paper (G : Glob mg) (F : FnP K "missed_paper" s_missed_paper f fd) (hm : mg "missed_paper" = some (.ref f)) (W1 : Df P w K mg base T "is_enough" 7 ["votes", "need", "unruly", "lot"] RisEnough) (WB : Df P w K mg base T "by_votes" 1 ["votes", "lot"] RbyVotes) :
    Df P w K mg base T "missed_paper" 8 ["votes", "need", "unruly", "lot"] Rmissed := by
  refine df_of F hm sc_missed_paper (fun ds d ⟨vs, _, _, _, _, _, _, _, e, _⟩ => by rw [e]; rfl) (fun _ _ _ _ _ _ us hl => match us, hl with | [_, _, _, _], _ => rfl) fun cdv A outer s H E ds d hr h => ?_
  obtain ⟨vs, need, ns, u, V, N, L, U, rfl, rfl⟩ := h
  have hcut : cutD (di (byVotes vs ns)) none (some (u : Int)) = di ((byVotes vs ns).take u) := by rw [cut_to, di_take]
  have hvs := V.hi
  have hns := L.2
  refine s_if (b := canRead vs need u ns) (t_val (d_call W1 hr (by decide) (a_cons (dn 0) (a_cons (dn 1) (a_cons (dn 2) (a_cons (dn 3) a_nil)))) ⟨vs, need, ns, u, V, N, L, U, rfl, rfl⟩)) (fun hb => ?_) (fun hb => ?_) rfl
  · rw [hb, if_pos rfl]
    exact s_ret d_non
  · rw [hb, if_neg Bool.false_ne_true]
    refine s_lcR (x := "copy") (i := 4) (j := 6) (n := vs.length) (p := ninD ns) (f := id) rfl sc_missed_paper.nd G.f_range (d_to (d_callB c_len G.f_len (by decide +kernel) (a_cons (dn 0) a_nil) (.tup _)) (by rw [List.length_map])) (by omega) (by omega) (blkOk_by (N := n_missed_paper) (sc := defScope s_missed_paper) (by decide +kernel))
      (fun _ _ _ _ _ => pg_name (i := 6) sc_missed_paper.nd rfl (Or.inl rfl)) (ht_one fun s H C cl fp d hd => ?_) (he_of fun s H C cl fp d hd _ => dn 6) (fun d hd _ => ?_) ?_ rfl rfl rfl
    · obtain ⟨i, hi, rfl⟩ := mem_di hd
      exact t_cmp o_nin (dn 6) (dn 3) (.tup i ns) rfl
    · obtain ⟨i, hi, rfl⟩ := mem_di hd
      rfl
    · rw [filter_nin]
      have hlen := outside_len vs ns
      refine s_asg 5 (r := .dt (.list (di (otherOf vs u ns)))) sc_missed_paper.nd (d_callB c_sorted G.f_sorted (by decide +kernel) (a_cons (de_l (de_to (d_lst (a_star (de_l (dnl 4)) (a_star (de_l (de_to (d_slL (d_call WB hr (by decide) (a_cons (dn 0) (a_cons (dn 3) a_nil)) ⟨vs, ns, V, L.inV, rfl, rfl⟩) o_no (o_some (dn 2))) hcut)) a_nil)) ?_) ?_)) a_nil) (sorted_is _)) ?_
      · rw [List.append_nil, di_app, List.length_map, List.length_append, List.length_take]
        unfold byVotes
        rw [List.length_mergeSort]
        have h3 : (List.filter (fun i => !decide (i ∈ ns)) (upTo vs.length)).length ≤ vs.length := hlen
        omega
      · rw [List.append_nil, di_app]
        rfl
      · exact s_ret (d_tup (a_cons d_str (a_cons (dn 3) (a_cons (d_callT c_tup G.f_tuple (by decide +kernel) (a_cons (dn 5) a_nil) (.lst _)) a_nil))) (by show 3 ≤ 1000; omega))
theorem df_accepts (G : Glob mg) (F : FnP K "accepts_missed" s_accepts_missed f fd) (hm : mg "accepts_missed" = some (.ref f)) (W1 : Df P w K mg base T "look_at_unruly" 6 ["votes", "need", "unruly"] RlookU) (WL : Df P w K mg base T "is_lot" 3 ["value", "count"] Rlot) (WC : Df P w K mg base T "can_write" 2 ["votes", "need", "lot"] RcanWrite) :
    Df P w K mg base T "accepts_missed" 7 ["votes", "need", "unruly", "paper"] Raccepts := by
  refine df_of F hm sc_accepts_missed (fun ds d ⟨vs, _, _, _, _, _, _, _, _, e, _⟩ => by rw [e]; rfl) (fun _ _ _ _ _ _ us hl => match us, hl with | [_, _, _, _], _ => rfl) fun cdv A outer s H E ds d hr h => ?_
  obtain ⟨vs, need, paper, b, u, V, N, U, hp, rfl, rfl⟩ := h
  refine s_expr (d_call W1 hr (by decide) (a_cons (dn 0) (a_cons (dn 1) (a_cons (dn 2) a_nil))) ⟨vs, need, u, V, N, U, rfl, rfl⟩) ?_
  have hvs := V.hi
  cases hp with
  | notT p hp => exact s_ifT (t_to (b := !false || false) (t_w (w_or (t_not (t_val (d_isi (dn 3) G.f_isinstance G.f_tuple ((kit_T _).trans (congrArg some hp))))) fun z => by cases z)) rfl) (s_ret d_bl)
  | len xs hl =>
    refine s_ifT (t_to (b := !true || (!decide ((xs.length : Int) = 3) || false)) (t_w (w_or (t_not (t_val (d_isi (dn 3) G.f_isinstance G.f_tuple (kit_T _)))) fun _ => w_or (t_cmp o_neI (d_callB c_len G.f_len (by decide +kernel) (a_cons (dn 3) a_nil) (.tup _)) d_int (.mk _ _) (nomark _)) fun z => ?_)) ?_) (s_ret d_bl)
    · have hl' : ¬ (xs.length : Int) = 3 := by omega
      rw [decide_eq_false hl'] at z
      cases z
    · have hl' : ¬ (xs.length : Int) = 3 := by omega
      rw [decide_eq_false hl']
      rfl
  | notS a b c ha =>
    exact s_ifT (t_to (b := !true || (!decide (((([a, b, c] : List PyData).length : Nat) : Int) = 3) || (!false || false))) (t_w (w_or (t_not (t_val (d_isi (dn 3) G.f_isinstance G.f_tuple (kit_T _)))) fun _ => w_or (t_cmp o_neI (d_callB c_len G.f_len (by decide +kernel) (a_cons (dn 3) a_nil) (.tup _)) d_int (.mk _ _) (nomark _)) fun _ =>
      w_or (t_not (t_val (d_isi (d_ix (dn 3) d_int (.tup _ _ _ rfl)) G.f_isinstance G.f_str ((kit_S _).trans (congrArg some ha))))) fun z => by cases z)) rfl) (s_ret d_bl)
  | word x b c hx =>
    refine s_ifT (t_to (b := !true || (!decide (((([.str x, b, c] : List PyData).length : Nat) : Int) = 3) || (!true || !decide (x = "missed")))) (t_w (w_or (t_not (t_val (d_isi (dn 3) G.f_isinstance G.f_tuple (kit_T _)))) fun _ => w_or (t_cmp o_neI (d_callB c_len G.f_len (by decide +kernel) (a_cons (dn 3) a_nil) (.tup _)) d_int (.mk _ _) (nomark _)) fun _ =>
      w_or (t_not (t_val (d_isi (d_ix (dn 3) d_int (.tup _ _ _ rfl)) G.f_isinstance G.f_str (kit_S _)))) fun _ => w_or1 (t_cmp o_neS (d_ix (dn 3) d_int (.tup _ _ _ rfl)) d_str (.mk _ _) (nomark _)))) ?_) (s_ret d_bl)
    rw [decide_eq_false hx]
    rfl
  | lots b c hb hc hh =>
    refine s_ifF (t_to (b := !true || (!decide (((([.str "missed", b, c] : List PyData).length : Nat) : Int) = 3) || (!true || !decide (("missed" : Str) = "missed")))) (t_w (w_or (t_not (t_val (d_isi (dn 3) G.f_isinstance G.f_tuple (kit_T _)))) fun _ => w_or (t_cmp o_neI (d_callB c_len G.f_len (by decide +kernel) (a_cons (dn 3) a_nil) (.tup _)) d_int (.mk _ _) (nomark _)) fun _ =>
      w_or (t_not (t_val (d_isi (d_ix (dn 3) d_int (.tup _ _ _ rfl)) G.f_isinstance G.f_str (kit_S _)))) fun _ => w_or1 (t_cmp o_neS (d_ix (dn 3) d_int (.tup _ _ _ rfl)) d_str (.mk _ _) (nomark _)))) (by rw [decide_eq_true (rfl : ("missed" : Str) = "missed")]; rfl)) ?_
    refine s_ifT (t_to (b := !([isLotD vs.length b, isLotD vs.length c].all id)) (t_not (t_val (d_callB (c_all rfl) G.f_all (by decide +kernel) (a_cons (de_l (lcT (x := "lot") (j := 5) (ds := [b, c]) (f := fun d => .bool (isLotD vs.length d)) rfl sc_accepts_missed.nd (d_to (d_slT (dn 3) (o_some d_int) o_no) (congrArg PyData.tuple (cut_from1 _)))
      (blkOk_by (N := n_accepts_missed) (sc := defScope s_accepts_missed) (by decide +kernel)) (fun _ _ _ _ _ => pg_name (i := 5) sc_accepts_missed.nd rfl (Or.inl rfl)) ht_yes (he_of fun s H C cl fp d hd _ => ?_) (fun d hd _ => rfl) (by show 2 ≤ 1000; omega))) a_nil) (.mk [isLotD vs.length b, isLotD vs.length c])))) ?_) (s_ret d_bl)
    · have hd' : LotLike d := by
        rcases List.mem_cons.mp hd with rfl | hd
        · exact hb
        · rcases List.mem_cons.mp hd with rfl | hd
          · exact hc
          · cases hd
      exact d_call WL hr (by decide) (a_cons (dn 5) (a_cons (d_to (d_callB c_len G.f_len (by decide +kernel) (a_cons (dn 0) a_nil) (.tup _)) (by rw [List.length_map])) a_nil)) (hd'.r vs.length)
    · show (!(isLotD vs.length b && (isLotD vs.length c && true))) = true
      rw [Bool.and_true, hh]
      rfl
  | good ns ms hb hc =>
    refine s_ifF (t_to (b := !true || (!decide (((([.str "missed", .tuple (di ns), .tuple (di ms)] : List PyData).length : Nat) : Int) = 3) || (!true || !decide (("missed" : Str) = "missed")))) (t_w (w_or (t_not (t_val (d_isi (dn 3) G.f_isinstance G.f_tuple (kit_T _)))) fun _ => w_or (t_cmp o_neI (d_callB c_len G.f_len (by decide +kernel) (a_cons (dn 3) a_nil) (.tup _)) d_int (.mk _ _) (nomark _)) fun _ =>
      w_or (t_not (t_val (d_isi (d_ix (dn 3) d_int (.tup _ _ _ rfl)) G.f_isinstance G.f_str (kit_S _)))) fun _ => w_or1 (t_cmp o_neS (d_ix (dn 3) d_int (.tup _ _ _ rfl)) d_str (.mk _ _) (nomark _)))) (by rw [decide_eq_true (rfl : ("missed" : Str) = "missed")]; rfl)) ?_
    have hb' : LotLike (.tuple (di ns)) := .inl ⟨ns, rfl, by have := hb.2; omega⟩
    have hc' : LotLike (.tuple (di ms)) := .inl ⟨ms, rfl, by have := hc.2; omega⟩
    refine s_ifF (t_to (b := !([isLotD vs.length (.tuple (di ns)), isLotD vs.length (.tuple (di ms))].all id)) (t_not (t_val (d_callB (c_all rfl) G.f_all (by decide +kernel) (a_cons (de_l (lcT (x := "lot") (j := 5) (ds := [.tuple (di ns), .tuple (di ms)]) (f := fun d => .bool (isLotD vs.length d)) rfl sc_accepts_missed.nd (d_to (d_slT (dn 3) (o_some d_int) o_no) (congrArg PyData.tuple (cut_from1 _)))
      (blkOk_by (N := n_accepts_missed) (sc := defScope s_accepts_missed) (by decide +kernel)) (fun _ _ _ _ _ => pg_name (i := 5) sc_accepts_missed.nd rfl (Or.inl rfl)) ht_yes (he_of fun s H C cl fp d hd _ => ?_) (fun d hd _ => rfl) (by show 2 ≤ 1000; omega))) a_nil) (.mk [isLotD vs.length (.tuple (di ns)), isLotD vs.length (.tuple (di ms))])))) ?_) ?_
    · have hd' : LotLike d := by
        rcases List.mem_cons.mp hd with rfl | hd
        · exact hb'
        · rcases List.mem_cons.mp hd with rfl | hd
          · exact hc'
          · cases hd
      exact d_call WL hr (by decide) (a_cons (dn 5) (a_cons (d_to (d_callB c_len G.f_len (by decide +kernel) (a_cons (dn 0) a_nil) (.tup _)) (by rw [List.length_map])) a_nil)) (hd'.r vs.length)
    · have h1 : isLotD vs.length (.tuple (di ns)) = true := by unfold isLotD; rw [intsD_tup]; exact hb.1
      have h2 : isLotD vs.length (.tuple (di ms)) = true := by unfold isLotD; rw [intsD_tup]; exact hc.1
      rw [h1, h2]
      rfl
    · have hnl := hb.2
      refine s_lcT (x := "copy") (i := 4) (j := 6) (ds := di ns) (p := inD ms) (f := id) rfl sc_accepts_missed.nd (d_ix (dn 3) d_int (.tup _ _ _ rfl)) (blkOk_by (N := n_accepts_missed) (sc := defScope s_accepts_missed) (by decide +kernel)) (fun _ _ _ _ _ => pg_name (i := 6) sc_accepts_missed.nd rfl (Or.inl rfl))
        (ht_one fun s H C cl fp d hd => ?_) (he_of fun s H C cl fp d hd _ => dn 6) (fun d hd _ => ?_) (by rw [List.length_map]; omega) ?_ rfl rfl rfl
      · obtain ⟨i, hi, rfl⟩ := mem_di hd
        exact t_cmp o_in (dn 6) (d_ix (dn 3) d_int (.tup _ _ _ rfl)) (.tup i ms) rfl
      · obtain ⟨i, hi, rfl⟩ := mem_di hd
        rfl
      · rw [filter_in]
        refine s_ret (d_to (d_and (d_call WC hr (by decide) (a_cons (dn 0) (a_cons (dn 1) (a_cons (d_ix (dn 3) d_int (.tup _ _ _ rfl)) a_nil))) ⟨vs, need, ms, hc.inV, rfl, rfl⟩) fun _ => d_one (d_cmp o_le (d_callB c_len G.f_len (by decide +kernel) (a_cons (de_l (dnl 4)) a_nil) (.lst _)) (dn 2) (.mk _ _) (nomark _))) ?_)
        rw [List.length_map]
        congr 2
        simp
end
end KM
set_option Elab.async false
set_option linter.all false
set_option maxRecDepth 100000
set_option maxHeartbeats 4000000
/-! Steps told of one very state; the law's source of draws. -/
namespace KM
open PySem PySem.Spec PyProof.Rows L2
def xE (σ : L2.St) (H : Hp) (v : V) : TE := fun σ' H' Q => σ' = σ ∧ H' = H ∧ Q v H
def xT (σ : L2.St) (H : Hp) (b : Bool) : TT := fun σ' H' Q => σ' = σ ∧ H' = H ∧ Q b H
def xA (σ : L2.St) (H : Hp) (vs : List V) : TA := fun σ' H' Q => σ' = σ ∧ H' = H ∧ Q vs H
abbrev XV (X : Cx) (σ : L2.St) (H : Hp) (e : Expr) (v : V) : Prop := PE X e (xE σ H v)
/-- at σ, H the block does t -/
def xS (σ : L2.St) (H : Hp) (t : Ends → Prop) : TS := fun D σ' H' => σ' = σ ∧ H' = H ∧ t D
abbrev XB (X : Cx) (σ : L2.St) (H : Hp) (st : List Stmt) (t : Ends → Prop) : Prop := PSs X st (xS σ H t)
section
variable {X : Cx} {σ : L2.St} {H : Hp} {a b e : Expr} {x y v : V} {pos : Pos} {rest : List Stmt} {t u : Ends → Prop}
theorem x_name (i : Nat) {n : Str} (h : σ[i]? = some (some v) := by rfl) (hN : X.N[i]? = some n := by rfl) (hv : Vis X.env.scope n := by first | exact Or.inl rfl | exact Or.inr (Or.inl rfl) | exact Or.inr (Or.inr rfl)) (hd : (n == ("__debug__" : Str)) = false := by decide) (hcd : (n == ("__classdict__" : Str)) = false := by decide) : XV X σ H (.Name n pos) v :=
  pe_imp (pe_var (i := i) hN hv hd hcd) fun _ _ _ k => ⟨v, by rw [k.1]; exact h, by rw [k.2.1]; exact k.2.2⟩
theorem x_int {i : Int} {j} : XV X σ H (.Constant (.int i) j pos) (.int i) := pe_imp pe_int fun _ _ _ k => by
  obtain ⟨rfl, rfl, k⟩ := k
  exact k
theorem x_op {op : Operator} {r : R2} (ho : OpR X (binaryOp op) r) (ha : XV X σ H a x) (hb : XV X σ H b y) (h : ∀ Q : VK, Q v H → r x y H Q) : XV X σ H (.BinOp a op b pos) v :=
  pe_imp (pe_op ho ha hb) fun _ _ _ k => ⟨k.1, k.2.1, k.1, rfl, h _ k.2.2⟩
theorem x_cmp {op : CmpOp} {r : R2} {c : Bool} (ho : OpR X (compareOp op) r) (ha : XV X σ H a x) (hb : XV X σ H b y) (h : ∀ Q : VK, Q (.bl c) H → r x y H Q) (hm : behindInMarks op b = false) : PT X (.Compare a [op] [b] pos) (xT σ H c) :=
  pt_imp (pt_cmpR ho ha hb hm) fun _ _ _ k => ⟨k.1, k.2.1, k.1, rfl, h _ ⟨c, rfl, k.2.2⟩⟩
theorem x_ix {r : R2} (hr : IxR X r) (ha : XV X σ H a x) (hb : XV X σ H b y) (h : ∀ Q : VK, Q v H → r x y H Q) (hs : PlainIx b := by intro _ _; rfl) : XV X σ H (.Subscript a b pos) v :=
  pe_imp (pe_ix hr ha hb hs) fun _ _ _ k => ⟨k.1, k.2.1, k.1, rfl, h _ k.2.2⟩
theorem x_nil : PA X [] (xA σ H []) := pa_imp pa_nil fun _ _ _ k => by
  obtain ⟨rfl, rfl, k⟩ := k
  exact k
theorem x_cons {es : List Expr} {vs : List V} (ha : XV X σ H e v) (hb : PA X es (xA σ H vs)) (hs : starEach (e :: es) X.env = (false, eval e X.env) :: starEach es X.env := by rfl) : PA X (e :: es) (xA σ H (v :: vs)) :=
  pa_imp (pa_cons ha hb hs) fun _ _ _ k => ⟨k.1, k.2.1, k.1, rfl, k.2.2⟩
theorem x_callT {id : String} {n : Str} {p : Pos} {es : List Expr} {vs : List V} {r : List V → Hp → VK → Prop} (hc : CallR X (.type id) r) (hm : X.mg n = none) (hv : bootBuiltins n = some (.type id)) (ha : PA X (e :: es) (xA σ H vs)) (h : ∀ Q : VK, Q v H → r vs H Q) (hg : Gl X n := by rfl) (hn : n ≠ "__name__" := by decide)
    (hdb : (n == ("__debug__" : Str)) = false := by decide) (he : starEach (e :: es) X.env = (false, eval e X.env) :: starEach es X.env := by rfl) (hpl : (backTo pos (starEach es X.env)).any (·.1) = false := by rfl) : XV X σ H (.Call (.Name n p) (e :: es) [] pos) v :=
  pe_imp (pe_callTy hc hg hm hv ha hn hdb he hpl) fun _ _ _ k => ⟨k.1, k.2.1, h _ k.2.2⟩
theorem x_callB {id : String} {n : Str} {p : Pos} {es : List Expr} {vs : List V} {r : List V → Hp → VK → Prop} (hc : CallR X (.builtin id) r) (hm : X.mg n = none) (hv : bootBuiltins n = some (.builtin id)) (ha : PA X (e :: es) (xA σ H vs)) (h : ∀ Q : VK, Q v H → r vs H Q) (hg : Gl X n := by rfl) (hn : n ≠ "__name__" := by decide)
    (hdb : (n == ("__debug__" : Str)) = false := by decide) (he : starEach (e :: es) X.env = (false, eval e X.env) :: starEach es X.env := by rfl) (hpl : (backTo pos (starEach es X.env)).any (·.1) = false := by rfl) : XV X σ H (.Call (.Name n p) (e :: es) [] pos) v :=
  pe_imp (pe_callB hc hg hm hv ha hn hdb he hpl) fun _ _ _ k => ⟨k.1, k.2.1, h _ k.2.2⟩
theorem xs_ret (h : XV X σ H e v) : XB X σ H (.Return (some e) pos :: rest) (fun D => D.rt v H) := pss_imp (pss_cons (ps_ret h) pss_never) fun D _ _ k => ⟨k.1, k.2.1, k.2.2⟩
theorem xs_imp {st : List Stmt} {t' : Ends → Prop} (h : XB X σ H st t) (i : ∀ D, t' D → t D) : XB X σ H st t' := pss_imp h fun D _ _ k => ⟨k.1, k.2.1, i D k.2.2⟩
theorem xs_nil : XB X σ H [] (fun D => D.nx σ H) := pss_imp pss_nil fun D _ _ k => by
  obtain ⟨rfl, rfl, k⟩ := k
  exact k
theorem xs_set (i : Nat) {n : Str} {px : Pos} (hN : X.N.Nodup) (h : XV X σ H e v) (h2 : XB X (σ.set i (some v)) H rest t) (hi : X.N[i]? = some n := by rfl) (hx : Loc X.env.scope n := by first | exact Or.inl rfl | exact Or.inr rfl)
    (hs : swapsWith e (some (.Name n px)) pos.line X.env = pure false := by rfl) (hf : X.fn n = true ∨ X.env.scope.names.lookup n = some .local := by first | exact .inl rfl | exact .inr rfl) : XB X σ H (.Assign [.Name n px] e pos :: rest) t :=
  pss_imp (pss_cons (ps_set hN hi hx h hs hf) h2) fun D _ _ k => by
    obtain ⟨rfl, rfl, k⟩ := k
    exact ⟨rfl, rfl, rfl, rfl, k⟩
theorem xs_expr (h : XV X σ H e v) (h2 : XB X σ H rest t) (hs : swapsWith e none pos.line X.env = pure false := by rfl) : XB X σ H (.Expr e pos :: rest) t :=
  pss_imp (pss_cons (ps_expr h hs) h2) fun D _ _ k => by
    obtain ⟨rfl, rfl, k⟩ := k
    exact ⟨rfl, rfl, rfl, rfl, k⟩
/-- o[k] = e, o a list at p -/
theorem xs_sub {o i : Expr} {p : Addr} {xs : List V} {k : Int} {j : Nat} {tpos : Pos} (ho : XV X σ H o (.ref p)) (hi : XV X σ H i (.int k)) (he : XV X σ H e v) (hp : H p = some (.lst xs)) (hj : ixN xs.length k = some j) (h2 : XB X σ (upd H p (.lst (xs.set j v))) rest t)
    (ha : ∀ v, assign (.Subscript o i tpos) X.env v = (do
      let ov ← holding [v] (eval o X.env)
      let iv ← holding [v, ov] (eval i X.env)
      standAt tpos
      holding [v, ov, iv] (setItem ov iv v)
      release [v, ov, iv] []) := by intro _; rfl) (hs : swapsWithSole [.Subscript o i tpos] e pos.line X.env = pure false := by rfl) (hw : swappedStores [.Subscript o i tpos] e X.env = pure none := by rfl)
    (h1 : (assignEach [.Subscript o i tpos] X.env).map (·.2) = [assign (.Subscript o i tpos) X.env] := by rfl) : XB X σ H (.Assign [.Subscript o i tpos] e pos :: rest) t :=
  pss_imp (pss_cons (ps_asg he (pg_sub ho hi set_list ha) hs hw h1) h2) fun D _ _ z => by
    obtain ⟨rfl, rfl, z⟩ := z
    exact ⟨rfl, rfl, rfl, rfl, rfl, rfl, p, xs, k, j, rfl, rfl, hp, hj, rfl, rfl, z⟩
theorem xs_ifR {c : Expr} {thn els : List Stmt} {t : VK → Prop} (hc : PT X c (xT σ H true)) (h1 : XB X σ H thn (fun D => t D.rt)) : XB X σ H (.If c thn els pos :: rest) (fun D => t D.rt) :=
  pss_imp (pss_cons (ps_if hc h1 pss_never) pss_never) fun D _ _ k => by
    obtain ⟨rfl, rfl, k⟩ := k
    refine ⟨rfl, rfl, iteT ?_⟩
    exact ⟨rfl, rfl, k⟩
theorem xs_ifF {c : Expr} {thn : List Stmt} (hc : PT X c (xT σ H false)) (h2 : XB X σ H rest t) : XB X σ H (.If c thn [] pos :: rest) t :=
  pss_imp (pss_cons (ps_if hc pss_never pss_nil) h2) fun D _ _ k => by
    obtain ⟨rfl, rfl, k⟩ := k
    refine ⟨rfl, rfl, iteF ?_⟩
    exact ⟨rfl, rfl, k⟩
end
/-! ### the source: some list of two whole numbers -/
def SrcP (p : Addr) (h : Heap) : Prop := ∃ (a b : Int) (ta tb : Tok) (n : Nat), h.get? p = some { cls := .type "list", data := .seq #[.int a ta, .int b tb] n }
abbrev srcO (p : Addr) : HO := .ext (SrcP p)
abbrev pairO (a b : Int) : HO := .lst [.int a, .int b]
theorem upd_id {H : Hp} {p : Addr} {o : HO} (h : H p = some o) : upd H p o = H := by
  funext b
  unfold upd
  split
  · next e => rw [e, h]
  · rfl
section
variable {X : Cx} {pins : List (Addr × Obj)} {σ : L2.St} {H : Hp} {s : Shared} {p : Addr}
/-- the source is looked into -/
theorem src_open (I : Inv X pins σ H s) (h : H p = some (srcO p)) : ∃ a b, Inv X pins σ (upd H p (pairO a b)) s := by
  obtain ⟨⟨a, b, ta, tb, n, e⟩, _, _⟩ := I.hok p _ h
  refine ⟨a, b, ?_⟩
  have J := I.write (x := p) (e := p) (o := pairO a b) (h' := s.heap) (t' := s.toks) (by rw [h]; trivial) (.inl rfl) (fun _ _ _ q => q) ⟨_, e⟩ ⟨size_ok (n := 2) (by omega), [.int a ta, .int b tb], n, .cons ⟨ta, rfl⟩ (.cons ⟨tb, rfl⟩ .nil), e⟩
  exact J
/-- .. and put away -/
theorem src_shut {a b : Int} (I : Inv X pins σ H s) (h : H p = some (pairO a b)) : Inv X pins σ (upd H p (srcO p)) s := by
  obtain ⟨_, its, n, r, e⟩ := I.hok p _ h
  have hx : ∃ ta tb, its = [.int a ta, .int b tb] := by
    cases r with
    | cons r1 r2 =>
      cases r2 with
      | cons r3 r4 =>
        cases r4
        obtain ⟨ta, rfl⟩ := r1
        obtain ⟨tb, rfl⟩ := r3
        exact ⟨ta, tb, rfl⟩
  obtain ⟨ta, tb, rfl⟩ := hx
  refine I.write (x := p) (e := p) (o := srcO p) (h' := s.heap) (t' := s.toks) (by rw [h]; trivial) (.inl rfl) (fun _ _ _ q => q) ⟨_, e⟩ ⟨⟨a, b, ta, tb, n, e⟩, ⟨_, e⟩, ?_⟩
  intro h1 h2 hp st
  obtain ⟨a', b', ta', tb', n', e'⟩ := hp
  exact ⟨a', b', ta', tb', n', st _ e'⟩
end
section
variable {X : Cx}
theorem pss_exi {ι : Type} {st : List Stmt} {t : ι → TS} (h : ∀ i, PSs X st (t i)) : PSs X st (fun D σ H => ∃ i, t i D σ H) := ⟨fun pins s σ H D I ⟨i, q⟩ => (h i).run pins s σ H D I q⟩
/-- a block that ends by return, run with the source open -/
theorem pss_src {st : List Stmt} {t : TS} {p : Addr} (h : PSs X st t) : PSs X st (fun D σ H => H p = some (srcO p) ∧ ∀ a b, t { nx := fun _ _ => False, rt := fun v H2 => ∃ a' b', H2 p = some (pairO a' b') ∧ D.rt v (upd H2 p (srcO p)) } σ (upd H p (pairO a b))) := by
  refine ⟨fun pins s σ H D I k => ?_⟩
  obtain ⟨a, b, J⟩ := src_open I k.1
  refine thn (h.run pins s σ _ _ J (k.2 a b)) fun f s1 q => ?_
  cases f with
  | next =>
    obtain ⟨_, _, _, q⟩ := q
    exact q.elim
  | brk =>
    obtain ⟨_, _, _, q⟩ := q
    exact q.elim
  | cont =>
    obtain ⟨_, _, _, q⟩ := q
    exact q.elim
  | ret u =>
    obtain ⟨v, σ', H', J', r, a', b', e, q⟩ := q
    exact ⟨v, σ', _, src_shut J' e, r, q⟩
/-- a draw: some whole number below top -/
def spTake (K : PySem.W.Frag) (T : Tbl) : Sp := fun vs H Q _ => ∃ (p : Addr) (top : Int), vs = [.ref p, .int top] ∧ H p = some (srcO p) ∧ 0 < top ∧ top ≤ 1000000 ∧ ∀ r : Int, 0 ≤ r → r < top → Q (.int r) H
end
section
variable {P : Program} {w : World} {K : PySem.W.Frag} {mg : Str → Option Value} {base : Heap} {T : Tbl} {f : Addr} {fd : FuncData}
theorem mod_range (i : Int) {t : Int} (h : 0 < t) : 0 ≤ i % t ∧ i % t < t := ⟨Int.emod_nonneg i (by omega), Int.emod_lt_of_pos i h⟩
theorem ok_take (G : Glob mg) (F : FnP K "_law_take" s__law_take f fd) : FnOk P w K mg base CX0 1 f fd ["_law_source", "_law_top"] (spTake K T) := by
  refine F.ok sc__law_take (fun vs H Q E h => ?_) (fun cdv A outer s H vs Q E hr h => ?_)
  · obtain ⟨p, top, e, _⟩ := h
    rw [e]
    rfl
  obtain ⟨p, top, rfl, hp, ht, htm, q⟩ := h
  have hdiv : ∀ i : Int, CDivW i top := fun i => wide_div (b := 64) ht (by omega) (by omega) (by omega)
  have core : ∀ a b : Int, XB (bodyX P w K mg base n__law_take "_law_take" (defScope s__law_take) f cdv A outer s H E) [some (.ref p), some (.int top), none] (upd H p (pairO a b)) (defBody s__law_take)
      (fun D => ∀ r a' b', 0 ≤ r → r < top → D.rt (.int r) (upd H p (pairO a' b'))) := fun a b => by
    by_cases ha : 0 < a
    · refine xs_ifR (t := fun rt => ∀ r a' b', 0 ≤ r → r < top → rt (.int r) (upd H p (pairO a' b'))) (x_cmp (c := true) op_gt (x_ix ix_list (x_name 0) x_int (v := .int a) (fun Q k => ⟨p, _, 0, _, rfl, rfl, .of upd_same, rfl, k⟩)) x_int (fun Q k => ⟨a, 0, rfl, rfl, by show Q (.bl (decide (0 < a))) _; rw [decide_eq_true ha]; exact k⟩) (nomark _)) ?_
      refine xs_set 2 (v := .int (a % top)) sc__law_take.nd (x_op op_mod (x_callT call_int1 G.f_int (by decide +kernel) (x_cons (x_ix ix_list (x_name 0) x_int (v := .int a) (fun Q k => ⟨p, _, 0, _, rfl, rfl, .of upd_same, rfl, k⟩)) x_nil) (v := .int a) (fun Q k => .inl ⟨a, rfl, k⟩)) (x_name 1) (fun Q k => ⟨_, _, rfl, rfl, ht, k⟩)) ?_
      refine xs_sub (p := p) (xs := [.int a, .int b]) (k := 0) (j := 0) (v := .int (a / top)) (x_name 0) x_int (x_op op_fdivW (x_ix ix_list (x_name 0) x_int (v := .int a) (fun Q k => ⟨p, _, 0, _, rfl, rfl, .of upd_same, rfl, k⟩)) (x_name 1) (fun Q k => ⟨_, _, rfl, rfl, hdiv _, k⟩)) upd_same rfl ?_
      refine xs_imp (xs_ret (x_name 2)) fun D k => ?_
      rw [upd_upd]
      exact k _ _ _ (mod_range a ht).1 (mod_range a ht).2
    · refine xs_ifF (x_cmp (c := false) op_gt (x_ix ix_list (x_name 0) x_int (v := .int a) (fun Q k => ⟨p, _, 0, _, rfl, rfl, .of upd_same, rfl, k⟩)) x_int (fun Q k => ⟨a, 0, rfl, rfl, by show Q (.bl (decide (0 < a))) _; rw [decide_eq_false ha]; exact k⟩) (nomark _)) ?_
      have hb := mod_range (b * 39373 + 7) (show (0 : Int) < 2147483647 by omega)
      refine xs_sub (p := p) (xs := [.int a, .int b]) (k := 1) (j := 1) (v := .int ((b * 39373 + 7) % 2147483647)) (x_name 0) x_int (x_op op_mod (x_callT call_int1 G.f_int (by decide +kernel) (x_cons (x_op op_add (x_op op_mul (x_ix ix_list (x_name 0) x_int (v := .int b) (fun Q k => ⟨p, _, 1, _, rfl, rfl, .of upd_same, rfl, k⟩)) x_int
        (v := .int (b * 39373)) (fun Q k => ⟨_, _, rfl, rfl, .inr ⟨by omega, by omega⟩, k⟩)) x_int (v := .int (b * 39373 + 7)) (fun Q k => ⟨_, _, rfl, rfl, k⟩)) x_nil) (v := .int (b * 39373 + 7)) (fun Q k => .inl ⟨_, rfl, k⟩)) x_int (fun Q k => ⟨_, _, rfl, rfl, by omega, k⟩)) upd_same rfl ?_
      generalize (b * 39373 + 7) % 2147483647 = c at hb ⊢
      refine xs_imp (xs_ret (v := .int ((c * c) % 2147483629 / 32 % top)) (x_op op_mod (x_callT call_int1 G.f_int (by decide +kernel) (x_cons (x_op op_fdivW (x_op op_mod (x_callT call_int1 G.f_int (by decide +kernel) (x_cons (x_op op_mul (x_ix ix_list (x_name 0) x_int (v := .int c) (fun Q k => ⟨p, _, 1, _, rfl, rfl, .of upd_same, rfl, k⟩))
        (x_ix ix_list (x_name 0) x_int (v := .int c) (fun Q k => ⟨p, _, 1, _, rfl, rfl, .of upd_same, rfl, k⟩)) (v := .int (c * c)) (fun Q k => ⟨_, _, rfl, rfl, .inl ⟨by omega, by omega⟩, k⟩)) x_nil) (v := .int (c * c)) (fun Q k => .inl ⟨_, rfl, k⟩)) x_int (v := .int ((c * c) % 2147483629)) (fun Q k => ⟨_, _, rfl, rfl, by omega, k⟩)) x_int
        (v := .int ((c * c) % 2147483629 / 32)) (fun Q k => ⟨_, _, rfl, rfl, ⟨by omega, by decide⟩, k⟩)) x_nil) (v := .int ((c * c) % 2147483629 / 32)) (fun Q k => .inl ⟨_, rfl, k⟩)) (x_name 1) (fun Q k => ⟨_, _, rfl, rfl, ht, k⟩))) fun D k => ?_
      rw [upd_upd]
      exact k _ _ _ (mod_range _ ht).1 (mod_range _ ht).2
  refine ⟨_, pss_src (p := p) (PSs.nox (pss_exi fun a => pss_exi fun b => core a b)), hp, fun a b => ⟨a, b, rfl, rfl, fun r a' b' h0 h1 => ⟨a', b', upd_same, ?_⟩⟩⟩
  rw [upd_upd, upd_id hp]
  exact q r h0 h1
end
end KM
set_option Elab.async false
set_option linter.all false
set_option maxRecDepth 100000
set_option maxHeartbeats 4000000
/-! Drawn values; blocks over a base heap; loops; own lists changed. -/
namespace KM
open PySem PySem.Spec PyProof.Rows L2
/-- evaluates to some datum of C -/
def tX (K : PySem.W.Frag) (T : Tbl) (ρ : List Sl) (C : PyData → Prop) : TE := fun σ H Q => Env K T ρ σ H ∧ ∀ d v H2, C d → Gr T H H2 → Dp K H2 v d → Q v H2
def tXT (K : PySem.W.Frag) (T : Tbl) (ρ : List Sl) (C : Bool → Prop) : TT := fun σ H Q => Env K T ρ σ H ∧ ∀ b H2, C b → Gr T H H2 → Q b H2
def tXA (K : PySem.W.Frag) (T : Tbl) (ρ : List Sl) (C : List PyData → Prop) : TA := fun σ H Q => Env K T ρ σ H ∧ ∀ ds vs H2, C ds → Gr T H H2 → DpAll K H2 vs ds → Q vs H2
abbrev DX (X : Cx) (T : Tbl) (ρ : List Sl) (e : Expr) (C : PyData → Prop) : Prop := PE X e (tX X.K T ρ C)
abbrev AX (X : Cx) (T : Tbl) (ρ : List Sl) (es : List Expr) (C : List PyData → Prop) : Prop := PA X es (tXA X.K T ρ C)
/-- a block that returns some datum of C; HB: the heap it began with -/
def tB (K : PySem.W.Frag) (T : Tbl) (HB : Hp) (ρ : List Sl) (C : PyData → Prop) : TS := fun D σ H => Env K T ρ σ H ∧ Gr T HB H ∧ ∀ d v H2, C d → Gr T HB H2 → Dp K H2 v d → D.rt v H2
/-- a block that goes on -/
def tN (K : PySem.W.Frag) (T : Tbl) (HB : Hp) (ρ ρ' : List Sl) : TS := fun D σ H => Env K T ρ σ H ∧ Gr T HB H ∧ ∀ σ2 H2, Env K T ρ' σ2 H2 → Gr T HB H2 → D.nx σ2 H2
abbrev DB (X : Cx) (T : Tbl) (HB : Hp) (ρ : List Sl) (st : List Stmt) (C : PyData → Prop) : Prop := PSs X st (tB X.K T HB ρ C)
abbrev DN (X : Cx) (T : Tbl) (HB : Hp) (ρ : List Sl) (st : List Stmt) (ρ' : List Sl) : Prop := PSs X st (tN X.K T HB ρ ρ')
abbrev D1 (X : Cx) (T : Tbl) (HB : Hp) (ρ : List Sl) (st : Stmt) (ρ' : List Sl) : Prop := PS X st (tN X.K T HB ρ ρ')
/-- less is known -/
def LeR : List Sl → List Sl → Prop
  | [], [] => True
  | r :: ρ, r' :: ρ' => (r' = .un ∨ r' = r) ∧ LeR ρ ρ'
  | _, _ => False
theorem LeR.refl : ∀ ρ : List Sl, LeR ρ ρ
  | [] => trivial
  | r :: ρ => ⟨.inr rfl, LeR.refl ρ⟩
theorem LeR.slots {K : PySem.W.Frag} {H : Hp} : ∀ {ρ ρ' : List Sl} {σ : L2.St}, LeR ρ ρ' → Slots K H ρ σ → Slots K H ρ' σ
  | [], [], [], _, h => h
  | r :: ρ, r' :: ρ', o :: σ, l, h => ⟨by
      rcases l.1 with e | e
      · rw [e]
        trivial
      · rw [e]
        exact h.1, LeR.slots l.2 h.2⟩
  | [], [], _ :: _, _, h => h.elim
  | _ :: _, _ :: _, [], _, h => h.elim
  | [], _ :: _, _, l, _ => l.elim
  | _ :: _, [], _, l, _ => l.elim
theorem LeR.env {K : PySem.W.Frag} {T : Tbl} {H : Hp} {ρ ρ' : List Sl} {σ : L2.St} (l : LeR ρ ρ') (e : Env K T ρ σ H) : Env K T ρ' σ H := ⟨e.tabs, l.slots e.sl⟩
section
variable {X : Cx} {T : Tbl} {HB : Hp} {ρ ρ1 ρ2 : List Sl} {e : Expr} {es : List Expr} {rest thn : List Stmt} {s : Stmt} {C A B : PyData → Prop} {pos : Pos}
theorem dx_of {d : PyData} (h : DD X T ρ e d) : DX X T ρ e (fun x => x = d) := pe_imp h fun _ _ _ k => ⟨k.1, fun v H2 g hv => k.2 d v H2 rfl g hv⟩
theorem dx_mono (h : DX X T ρ e A) (i : ∀ d, A d → B d) : DX X T ρ e B := pe_imp h fun _ _ _ k => ⟨k.1, fun d v H2 c g hv => k.2 d v H2 (i d c) g hv⟩
theorem dx_op {a b : Expr} {op : Operator} {R : PyData → PyData → PyData → Prop} (ho : OpD X T (binaryOp op) R) (ha : DX X T ρ a A) (hb : DX X T ρ b B) (h : ∀ x y, A x → B y → ∃ d, R x y d ∧ C d) : DX X T ρ (.BinOp a op b pos) C :=
  pe_imp (pe_op ho ha hb) fun _ _ _ q => ⟨q.1, fun x _ _ cx g1 h1 => ⟨q.1.gr g1, fun y _ _ cy g2 h2 => by
    obtain ⟨d, r, c⟩ := h x y cx cy
    exact ⟨g2.2 (g1.2 q.1.tabs), _, _, d, g2.dp _ h1, h2, r, fun v H3 g3 h3 => q.2 d v H3 c ((g1.trans g2).trans g3) h3⟩⟩⟩
theorem dx_cmp {a b : Expr} {op : CmpOp} {R : PyData → PyData → PyData → Prop} (ho : OpD X T (compareOp op) R) (ha : DX X T ρ a A) (hb : DX X T ρ b B) (h : ∀ x y, A x → B y → ∃ d, R x y d ∧ C d) (hm : behindInMarks op b = false) : DX X T ρ (.Compare a [op] [b] pos) C :=
  pe_imp (pe_cmpR ho ha hb hm) fun _ _ _ q => ⟨q.1, fun x _ _ cx g1 h1 => ⟨q.1.gr g1, fun y _ _ cy g2 h2 => by
    obtain ⟨d, r, c⟩ := h x y cx cy
    exact ⟨g2.2 (g1.2 q.1.tabs), _, _, d, g2.dp _ h1, h2, r, fun v H3 g3 h3 => q.2 d v H3 c ((g1.trans g2).trans g3) h3⟩⟩⟩
theorem dx_ix {a b : Expr} (ha : DX X T ρ a A) (hb : DX X T ρ b B) (h : ∀ x y, A x → B y → ∃ d, RIx x y d ∧ C d) (hs : PlainIx b := by intro _ _; rfl) : DX X T ρ (.Subscript a b pos) C :=
  pe_imp (pe_ix ix_D ha hb hs) fun _ _ _ q => ⟨q.1, fun x _ _ cx g1 h1 => ⟨q.1.gr g1, fun y _ _ cy g2 h2 => by
    obtain ⟨d, r, c⟩ := h x y cx cy
    exact ⟨g2.2 (g1.2 q.1.tabs), _, _, d, g2.dp _ h1, h2, r, fun v H3 g3 h3 => q.2 d v H3 c ((g1.trans g2).trans g3) h3⟩⟩⟩
theorem ax_nil : AX X T ρ [] (fun ds => ds = []) := pa_imp pa_nil fun _ H _ k => k.2 _ _ H rfl (Gr.refl H) .nil
theorem ax_cons {C : List PyData → Prop} (h : DX X T ρ e A) (h2 : AX X T ρ es C) (hs : starEach (e :: es) X.env = (false, eval e X.env) :: starEach es X.env := by rfl) : AX X T ρ (e :: es) (fun ds => ∃ d r, ds = d :: r ∧ A d ∧ C r) :=
  pa_imp (pa_cons h h2 hs) fun _ _ _ k => ⟨k.1, fun d _ _ c1 g1 h1 => ⟨k.1.gr g1, fun ds _ H2 c2 g2 h2 => k.2 _ _ H2 ⟨d, ds, rfl, c1, c2⟩ (g1.trans g2) (.cons (g2.dp _ h1) h2)⟩⟩
theorem ax_of {ds : List PyData} (h : DA X T ρ es ds) : AX X T ρ es (fun x => x = ds) := pa_imp h fun _ _ _ k => ⟨k.1, fun vs H2 g hv => k.2 ds vs H2 rfl g hv⟩
theorem dx_lst {C : List PyData → Prop} (h : AX X T ρ es C) (hl : ∀ ds, C ds → ds.length ≤ 1000) : DX X T ρ (.List es pos) (fun d => ∃ ds, d = .list ds ∧ C ds) :=
  pe_imp (pe_lst h) fun _ _ _ k => ⟨k.1, fun ds _ _ c g hv => ⟨by rw [dpAll_len hv]; exact size_ok (hl ds c), fun _ hp => k.2 _ _ _ ⟨ds, rfl, c⟩ (g.trans (Gr.new hp)) (Dp.lst (.of upd_same) ((Gr.new (T := T) hp).dpAll _ hv))⟩⟩
theorem dx_callT {id : String} {x : Str} {p : Pos} {R : List PyData → PyData → Prop} {C' : List PyData → Prop} (hc : CallR X (.type id) (rD X.K T R)) (hm : X.mg x = none) (hv : bootBuiltins x = some (.type id)) (ha : AX X T ρ (e :: es) C') (h : ∀ ds, C' ds → ∃ d, R ds d ∧ C d) (hg : Gl X x := by rfl) (hn : x ≠ "__name__" := by decide) (hdb : (x == ("__debug__" : Str)) = false := by decide)
    (he : starEach (e :: es) X.env = (false, eval e X.env) :: starEach es X.env := by rfl) (hpl : (backTo pos (starEach es X.env)).any (·.1) = false := by rfl) : DX X T ρ (.Call (.Name x p) (e :: es) [] pos) C :=
  pe_imp (pe_callTy hc hg hm hv ha hn hdb he hpl) fun _ _ _ k => ⟨k.1, fun ds _ _ c g hv => by
    obtain ⟨d, r, c2⟩ := h ds c
    exact ⟨g.2 k.1.tabs, _, _, hv, r, fun v H3 g3 h3 => k.2 d v H3 c2 (g.trans g3) h3⟩⟩
theorem dx_call {x : Str} {p : Pos} {k j : Nat} {ps : List Str} {R : List PyData → PyData → Prop} {C' : List PyData → Prop} (D : Df X.prog X.w X.K X.mg X.base T x k ps R) (hr : Room j X.A) (hk : k ≤ j) (ha : AX X T ρ (e :: es) C') (h : ∀ ds, C' ds → ∃ d, R ds d ∧ C d) (hg : Gl X x := by rfl)
    (hdb : (x == ("__debug__" : Str)) = false := by decide) (he : starEach (e :: es) X.env = (false, eval e X.env) :: starEach es X.env := by rfl) (hpl : (backTo pos (starEach es X.env)).any (·.1) = false := by rfl) : DX X T ρ (.Call (.Name x p) (e :: es) [] pos) C := by
  obtain ⟨f, fd, F, hm, kp, hb⟩ := D.ex
  refine pe_imp (pe_call (dvs := []) (E := E0) F (hr.mono hk) hg hm kp hb .nil pass0 ha hdb he hpl) fun σ H Q q => ⟨q.1, fun ds vs H2 c g hv => ?_⟩
  obtain ⟨d, r, c2⟩ := h ds c
  show spD X.K T R (vs ++ []) H2 Q E0
  rw [List.append_nil]
  exact ⟨g.2 q.1.tabs, _, _, hv, r, fun v H3 g3 h3 => q.2 d v H3 c2 (g.trans g3) h3⟩
/-! ### defs that draw: the source first -/
def spX (K : PySem.W.Frag) (T : Tbl) (Pre : List PyData → Prop) (Post : List PyData → PyData → Prop) : Sp := fun vs H Q _ => LamX.Tabs T H ∧ ∃ p ws ds, vs = .ref p :: ws ∧ H p = some (srcO p) ∧ DpAll K H ws ds ∧ Pre ds ∧ ∀ d v H2, Post ds d → Gr T H H2 → Dp K H2 v d → Q v H2
end
structure DfX (P : Program) (w : World) (K : PySem.W.Frag) (mg : Str → Option Value) (base : Heap) (T : Tbl) (x : Str) (k : Nat) (ps : List Str) (Pre : List PyData → Prop) (Post : List PyData → PyData → Prop) : Prop where
  ex : ∃ (f : Addr) (fd : FuncData), FnOk P w K mg base CX0 k f fd ps (spX K T Pre Post) ∧ mg x = some (.ref f) ∧ PySem.W.keepIn K (.ref f) = true ∧ Binds K fd ps []
section
variable {X : Cx} {T : Tbl} {HB : Hp} {ρ ρ1 ρ2 : List Sl} {e : Expr} {es : List Expr} {rest thn : List Stmt} {s : Stmt} {C A B : PyData → Prop} {pos : Pos}
theorem dx_callX {x : Str} {src : Expr} {p : Pos} {q : Addr} {k j : Nat} {ps : List Str} {Pre : List PyData → Prop} {Post : List PyData → PyData → Prop} {C' : List PyData → Prop} (D : DfX X.prog X.w X.K X.mg X.base T x k ps Pre Post) (hr : Room j X.A) (hk : k ≤ j) (hs : DE X T ρ src (.ob q (srcO q))) (ha : AX X T ρ es C') (h : ∀ ds, C' ds → Pre ds ∧ ∀ d, Post ds d → C d) (hg : Gl X x := by rfl)
    (hdb : (x == ("__debug__" : Str)) = false := by decide) (he : starEach (src :: es) X.env = (false, eval src X.env) :: starEach es X.env := by rfl) (hpl : (backTo pos (starEach es X.env)).any (·.1) = false := by rfl) : DX X T ρ (.Call (.Name x p) (src :: es) [] pos) C := by
  obtain ⟨f, fd, F, hm, kp, hb⟩ := D.ex
  refine pe_imp (pe_call (dvs := []) (E := E0) F (hr.mono hk) hg hm kp hb .nil pass0 (pa_cons hs ha he) hdb he hpl) fun σ H Q k => ⟨k.1, fun v H1 g1 h1 => ⟨k.1.gr g1, fun ds ws H2 c g2 hv => ?_⟩⟩
  obtain ⟨e1, e2, _⟩ := h1
  subst e1
  obtain ⟨pr, po⟩ := h ds c
  show spX X.K T Pre Post ((.ref q :: ws) ++ []) H2 Q E0
  rw [List.append_nil]
  exact ⟨g2.2 (g1.2 k.1.tabs), q, ws, ds, rfl, g2.1 q _ e2 (fun _ z => by cases z), hv, pr, fun d u H3 p3 g3 h3 => k.2 d u H3 (po d p3) ((g1.trans g2).trans g3) h3⟩
/-! ### blocks -/
theorem n_nil : DN X T HB ρ [] ρ := pss_imp pss_nil fun D σ H k => k.2.2 σ H k.1 k.2.1
theorem n_weak (h : DN X T HB ρ rest ρ1) (l : LeR ρ1 ρ2) : DN X T HB ρ rest ρ2 := pss_imp h fun D σ H k => ⟨k.1, k.2.1, fun σ2 H2 e g => k.2.2 σ2 H2 (l.env e) g⟩
theorem n_le (l : LeR ρ ρ1) : DN X T HB ρ [] ρ1 := n_weak n_nil l
theorem n_cons (h : D1 X T HB ρ s ρ1) (h2 : DN X T HB ρ1 rest ρ2) : DN X T HB ρ (s :: rest) ρ2 := pss_imp (pss_cons h h2) fun D σ H k => ⟨k.1, k.2.1, fun σ2 H2 e g => ⟨e, g, k.2.2⟩⟩
theorem b_cons (h : D1 X T HB ρ s ρ1) (h2 : DB X T HB ρ1 rest C) : DB X T HB ρ (s :: rest) C := pss_imp (pss_cons h h2) fun D σ H k => ⟨k.1, k.2.1, fun σ2 H2 e g => ⟨e, g, k.2.2⟩⟩
theorem b_ret (h : DX X T ρ e C) : DB X T HB ρ (.Return (some e) pos :: rest) C := pss_imp (pss_cons (ps_ret h) pss_never) fun D σ H k => ⟨k.1, fun d v H2 c g hv => k.2.2 d v H2 c (k.2.1.trans g) hv⟩
theorem b_retD {d : PyData} (h : DD X T ρ e d) : DB X T HB ρ (.Return (some e) pos :: rest) (fun x => x = d) := b_ret (dx_of h)
theorem b_mono (h : DB X T HB ρ rest A) (i : ∀ d, A d → B d) : DB X T HB ρ rest B := pss_imp h fun D σ H k => ⟨k.1, k.2.1, fun d v H2 c g hv => k.2.2 d v H2 (i d c) g hv⟩
section
variable {i : Nat} {x : Str} {px : Pos} {r : Sl} {ds : List PyData}
theorem n1_asg (i : Nat) {x : Str} {px : Pos} {r : Sl} (hN : X.N.Nodup) (h : DE X T ρ e r) (hi : X.N[i]? = some x := by rfl) (hx : Loc X.env.scope x := by first | exact Or.inl rfl | exact Or.inr rfl)
    (hs : swapsWith e (some (.Name x px)) pos.line X.env = pure false := by rfl) (hf : X.fn x = true ∨ X.env.scope.names.lookup x = some .local := by first | exact .inl rfl | exact .inr rfl) : D1 X T HB ρ (.Assign [.Name x px] e pos) (ρ.set i r) :=
  ps_imp (ps_set hN hi hx h hs hf) fun D σ H k => ⟨k.1, fun v H2 g hv => k.2.2 _ _ ((k.1.gr g).set i hv) (k.2.1.trans g)⟩
/-- x = e, e drawn -/
theorem b_asgX (i : Nat) {x : Str} {px : Pos} (hN : X.N.Nodup) (h : DX X T ρ e A) (h2 : ∀ d, A d → DB X T HB (ρ.set i (.dt d)) rest C) (hi : X.N[i]? = some x := by rfl) (hx : Loc X.env.scope x := by first | exact Or.inl rfl | exact Or.inr rfl)
    (hs : swapsWith e (some (.Name x px)) pos.line X.env = pure false := by rfl) (hf : X.fn x = true ∨ X.env.scope.names.lookup x = some .local := by first | exact .inl rfl | exact .inr rfl) : DB X T HB ρ (.Assign [.Name x px] e pos :: rest) C :=
  pss_imp (pss_cons (ps_set hN hi hx h hs hf) (pss_exi fun d => pss_if (c := A d) fun c => h2 d c)) fun D σ H k => ⟨k.1, fun d v H2 c g hv => ⟨d, c, (k.1.gr g).set (r := .dt d) i hv, k.2.1.trans g, k.2.2⟩⟩
theorem n_asgX (i : Nat) {x : Str} {px : Pos} (hN : X.N.Nodup) (h : DX X T ρ e A) (h2 : ∀ d, A d → DN X T HB (ρ.set i (.dt d)) rest ρ2) (hi : X.N[i]? = some x := by rfl) (hx : Loc X.env.scope x := by first | exact Or.inl rfl | exact Or.inr rfl)
    (hs : swapsWith e (some (.Name x px)) pos.line X.env = pure false := by rfl) (hf : X.fn x = true ∨ X.env.scope.names.lookup x = some .local := by first | exact .inl rfl | exact .inr rfl) : DN X T HB ρ (.Assign [.Name x px] e pos :: rest) ρ2 :=
  pss_imp (pss_cons (ps_set hN hi hx h hs hf) (pss_exi fun d => pss_if (c := A d) fun c => h2 d c)) fun D σ H k => ⟨k.1, fun d v H2 c g hv => ⟨d, c, (k.1.gr g).set (r := .dt d) i hv, k.2.1.trans g, k.2.2⟩⟩
/-- a statement that puts a new list into slot i -/
theorem b_new {t : TE} (i : Nat) (h : PS X s (tAsg t (gName i))) (hr : ∀ σ H Q, tF X.K T ρ ds σ H Q → t σ H Q) (h2 : ∀ a, New HB a → DB X T HB (ρ.set i (.ol a ds)) rest C) : DB X T HB ρ (s :: rest) C :=
  pss_imp (pss_cons h (pss_exi fun a => pss_if (c := New HB a) fun c => h2 a c)) fun D σ H k => hr _ _ _ ⟨k.1, fun a xs H2 g n e d => ⟨a, New.back k.2.1 n, (k.1.gr g).set (r := .ol a ds) i ⟨rfl, xs, e, d⟩, k.2.1.trans g, k.2.2⟩⟩
theorem n_new {t : TE} (i : Nat) (h : PS X s (tAsg t (gName i))) (hr : ∀ σ H Q, tF X.K T ρ ds σ H Q → t σ H Q) (h2 : ∀ a, New HB a → DN X T HB (ρ.set i (.ol a ds)) rest ρ2) : DN X T HB ρ (s :: rest) ρ2 :=
  pss_imp (pss_cons h (pss_exi fun a => pss_if (c := New HB a) fun c => h2 a c)) fun D σ H k => hr _ _ _ ⟨k.1, fun a xs H2 g n e d => ⟨a, New.back k.2.1 n, (k.1.gr g).set (r := .ol a ds) i ⟨rfl, xs, e, d⟩, k.2.1.trans g, k.2.2⟩⟩
theorem asgF (i : Nat) {x : Str} {px : Pos} (hN : X.N.Nodup) (h : DF X T ρ e ds) (hi : X.N[i]? = some x := by rfl) (hx : Loc X.env.scope x := by first | exact Or.inl rfl | exact Or.inr rfl)
    (hs : swapsWith e (some (.Name x px)) pos.line X.env = pure false := by rfl) (hf : X.fn x = true ∨ X.env.scope.names.lookup x = some .local := by first | exact .inl rfl | exact .inr rfl) : PS X (.Assign [.Name x px] e pos) (tAsg (tF X.K T ρ ds) (gName i)) := ps_set hN hi hx h hs hf
end
theorem n1_expr {r : Sl} (h : DE X T ρ e r) (hs : swapsWith e none pos.line X.env = pure false := by rfl) : D1 X T HB ρ (.Expr e pos) ρ :=
  ps_imp (ps_expr h hs) fun D σ H k => ⟨k.1, fun v H2 g hv => k.2.2 σ H2 (k.1.gr g) (k.2.1.trans g)⟩
theorem n1_ifF {c : Expr} (hc : DT X T ρ c false) : D1 X T HB ρ (.If c thn [] pos) ρ :=
  ps_imp (ps_if hc pss_never pss_nil) fun D σ H k => ⟨k.1, fun H2 g => iteF (k.2.2 σ H2 (k.1.gr g) (k.2.1.trans g))⟩
theorem n1_if {c : Expr} {b : Bool} (hc : DT X T ρ c b) (h1 : b = true → DN X T HB ρ thn ρ1) (h2 : b = false → LeR ρ ρ1) : D1 X T HB ρ (.If c thn [] pos) ρ1 :=
  ps_imp (ps_if hc (pss_if h1) (pss_if fun z => n_le (h2 z))) fun D σ H k => ⟨k.1, fun H2 g => by
    cases b with
    | true => exact iteT ⟨rfl, k.1.gr g, k.2.1.trans g, k.2.2⟩
    | false => exact iteF ⟨rfl, k.1.gr g, k.2.1.trans g, k.2.2⟩⟩
/-! ### loops -/
theorem for_L {iter tg : Expr} {body : List Stmt} {ds : List PyData} {j : Nat} (hp : PassesOwn (model X.prog X.w) X.A X.env X.xe) (hc : X.calm = true) (hi : DD X T ρ iter (.list ds)) (hg : PG X tg (gName j)) (hl : LeR ρ ρ1) (hb : ∀ HB d, d ∈ ds → DN X T HB (ρ1.set j (.dt d)) body ρ1)
    (hs : ∀ x, foldedSetIterable iter X.env x = pure x := by intro _; rfl) : D1 X T HB ρ (.For tg iter body [] pos) ρ1 := by
  refine ps_imp (ps_for hp hc (pi_list hi) hg (pss_exi fun H1 => pss_exi fun d => pss_if (c := d ∈ ds) fun h => hb H1 d h) hs) fun D σ H k => ⟨k.1, fun v H1 g1 h1 => ?_⟩
  obtain ⟨a, xs, e1, e2, e3⟩ := dp_lst h1
  refine ⟨a, e1, ⟨xs, e2⟩, for_list (xs := xs) (g := gName j) (tb := fun D σ H => ∃ H1 d, d ∈ ds ∧ tN X.K T H1 (ρ1.set j (.dt d)) ρ1 D σ H) (fun i σ H => Env X.K T ρ1 σ H ∧ Gr T H1 H) ⟨hl.env (k.1.gr g1), Gr.refl H1⟩ (fun i σ H _ P => P.2.sqL e2) (fun i x σ' H' hx P => ?_) fun σ' H' P => k.2.2 σ' H' P.1 ((k.2.1.trans g1).trans P.2)⟩
  obtain ⟨d, hd, hw⟩ := dpAll_get e3 hx
  exact ⟨H1, d, List.mem_of_getElem? hd, P.1.set (r := .dt d) j (P.2.dp _ hw), P.2, fun σ2 H2 e2 g2 => ⟨e2, g2⟩⟩
theorem for_R {a tg : Expr} {body : List Stmt} {n : Nat} {j : Nat} {p1 p2 : Pos} {I : Nat → List Sl} (hp : PassesOwn (model X.prog X.w) X.A X.env X.xe) (hc : X.calm = true) (hm : X.mg "range" = none) (hi : DD X T ρ a (.int n)) (hn : n ≤ 1000) (hg : PG X tg (gName j)) (hl : LeR ρ (I 0)) (hb : ∀ i, i < n → DN X T HB ((I i).set j (.dt (.int i))) body (I (i + 1)))
    (hgr : Gl X "range" := by rfl) (hst : starEach [a] X.env = [(false, eval a X.env)] := by rfl) (hs : ∀ x, foldedSetIterable (.Call (.Name "range" p1) [a] [] p2) X.env x = pure x := by intro _; rfl) : D1 X T HB ρ (.For tg (.Call (.Name "range" p1) [a] [] p2) body [] pos) (I n) := by
  refine ps_imp (ps_for hp hc (pi_range1 hgr hm (a_cons hi a_nil (by rw [hst]; rfl)) hst) hg (pss_exi fun i => pss_if (c := i < n) fun h => hb i h) hs) fun D σ H k => ⟨k.1, fun vs H1 g1 h1 => ?_⟩
  obtain ⟨v, e, hv⟩ := one_of h1
  refine ⟨n, by rw [e, dp_int hv], by omega, by omega, ?_⟩
  rw [Int.toNat_natCast]
  refine for_range (lo := 0) (n := n) (g := gName j) (tb := fun D σ H => ∃ i, i < n ∧ tN X.K T HB ((I i).set j (.dt (.int i))) (I (i + 1)) D σ H) (fun i σ H => Env X.K T (I i) σ H ∧ Gr T HB H) ⟨hl.env (k.1.gr g1), k.2.1.trans g1⟩ (fun i σ' H' hlt P => ?_) fun σ' H' P => k.2.2 σ' H' P.1 P.2
  have e0 : (0 : Int) + (i : Int) = (i : Int) := Int.zero_add _
  rw [e0]
  exact ⟨i, hlt, P.1.set (r := .dt (.int (i : Int))) j (.int _), P.2, fun σ2 H2 e2 g2 => ⟨e2, g2⟩⟩
theorem while_D {c : Expr} {body : List Stmt} {n : Nat} {I : Nat → List Sl} (hp : PassesOwn (model X.prog X.w) X.A X.env X.xe) (hl : LeR ρ (I n)) (hc : ∀ i, i ≤ n → DT X T (I i) c (decide (0 < i))) (hb : ∀ i, i < n → DN X T HB (I (i + 1)) body (I i)) : D1 X T HB ρ (.While c body [] pos) (I 0) := by
  have hc' : PT X c (fun σ H Q => ∃ i, i ≤ n ∧ tT X.K T (I i) (decide (0 < i)) σ H Q) := pt_ex (c := fun i => i ≤ n) hc
  refine ps_imp (ps_while hp hc' (pss_exi fun i => pss_if (c := i < n) fun h => hb i h)) fun D σ H k => ?_
  refine ⟨fun m σ H => m ≤ n ∧ Env X.K T (I m) σ H ∧ Gr T HB H, ⟨n, Nat.le_refl _, hl.env k.1, k.2.1⟩, ?_⟩
  rintro m σ' H' ⟨hm, em, gm⟩
  refine ⟨m, hm, em, fun H2 g2 => ?_⟩
  cases m with
  | zero => exact iteF (k.2.2 σ' H2 (em.gr g2) (gm.trans g2))
  | succ m =>
    refine iteT ?_
    exact ⟨fun σ H => Env X.K T (I m) σ H ∧ Gr T HB H, fun σ3 H3 q => ⟨m, Nat.lt_succ_self m, by omega, q.1, q.2⟩, m, by omega, em.gr g2, gm.trans g2, fun σ3 H3 e3 g3 => ⟨e3, g3⟩⟩
/-! ### own lists changed -/
/-- what stands when the list at a changes -/
def keepS (a : Addr) : Sl → Prop
  | .un => True
  | .rw _ => True
  | .dt d => noL d = true
  | .nl _ => False
  | .ob p _ => p ≠ a
  | .ol b ds => b ≠ a ∧ noLs ds = true
  | .pr _ => False
def keepL (a : Addr) : List Sl → Prop
  | [] => True
  | r :: ρ => keepS a r ∧ keepL a ρ
end
section
variable {K : PySem.W.Frag} {T : Tbl} {H : Hp} {a : Addr} {ys zs : List V} {ds : List PyData}
theorem keepS.sl {r : Sl} {v : V} (k : keepS a r) (h : H a = some (.lst zs)) (q : SlOk K H r v) : SlOk K (upd H a (.lst ys)) r v := by
  have im : Im H (upd H a (.lst ys)) := Im.upd h
  cases r with
  | un => trivial
  | rw u => exact q
  | dt d => exact im.dp _ k q
  | nl ds => exact k.elim
  | pr φ => exact k.elim
  | ob p o =>
    obtain ⟨e1, e2, e3⟩ := q
    exact ⟨e1, by rw [upd_ne k]; exact e2, e3⟩
  | ol b es =>
    obtain ⟨e1, xs, e2, e3⟩ := q
    refine ⟨e1, xs, by rw [upd_ne k.1]; exact e2, ?_⟩
    refine Im.dpAll ⟨fun c us z => ?_, fun c o u z => ?_⟩ es k.2 e3
    all_goals
      unfold cutH at z ⊢
      by_cases hc : c = b
      · rw [if_pos hc] at z
        cases z
      · rw [if_neg hc] at z ⊢
        have hca : c ≠ a := fun w => by
          rw [w, h] at z
          cases z
        rw [upd_ne hca]
        exact z
theorem keepS.slO {r : Sl} {v : Option V} (k : keepS a r) (h : H a = some (.lst zs)) (q : SlO K H r v) : SlO K (upd H a (.lst ys)) r v := by
  cases r with
  | un => trivial
  | rw u => obtain ⟨v, e, q⟩ := q; exact ⟨v, e, k.sl h q⟩
  | dt d => obtain ⟨v, e, q⟩ := q; exact ⟨v, e, k.sl h q⟩
  | nl ds => obtain ⟨v, e, q⟩ := q; exact ⟨v, e, k.sl h q⟩
  | ob p o => obtain ⟨v, e, q⟩ := q; exact ⟨v, e, k.sl h q⟩
  | ol b es => obtain ⟨v, e, q⟩ := q; exact ⟨v, e, k.sl h q⟩
  | pr φ => exact k.elim
theorem slots_mut (h : H a = some (.lst zs)) (hd : DpAll K (cutH H a) ys ds) : ∀ {ρ : List Sl} {σ : L2.St} (i : Nat) {es : List PyData}, Slots K H ρ σ → ρ[i]? = some (.ol a es) → keepL a (ρ.set i .un) → Slots K (upd H a (.lst ys)) (ρ.set i (.ol a ds)) σ
  | [], _, _, _, _, e, _ => by simp at e
  | _ :: _, [], _, _, s, _, _ => s.elim
  | r :: ρ, o :: σ, 0, es, s, e, k => by
    have e' : r = .ol a es := by simpa using e
    subst e'
    have all : ∀ {ρ : List Sl} {σ : L2.St}, keepL a ρ → Slots K H ρ σ → Slots K (upd H a (.lst ys)) ρ σ := by
      intro ρ
      induction ρ with
      | nil => intro σ _ s; cases σ with | nil => trivial | cons _ _ => exact s.elim
      | cons r ρ ih => intro σ k s; cases σ with | nil => exact s.elim | cons o σ => exact ⟨k.1.slO h s.1, ih k.2 s.2⟩
    obtain ⟨v, ev, q1, _⟩ := s.1
    refine ⟨⟨v, ev, q1, ys, upd_same, ?_⟩, all k.2 s.2⟩
    have ec : cutH (upd H a (.lst ys)) a = cutH H a := by
      funext b
      unfold cutH
      split
      · rfl
      · next z => exact upd_ne z
    rw [ec]
    exact hd
  | r :: ρ, o :: σ, i + 1, es, s, e, k => ⟨k.1.slO h s.1, slots_mut h hd i s.2 (by simpa using e) k.2⟩
theorem Env.mut {ρ : List Sl} {σ : L2.St} {i : Nat} {es : List PyData} (e : Env K T ρ σ H) (h : H a = some (.lst zs)) (hd : DpAll K (cutH H a) ys ds) (hi : ρ[i]? = some (.ol a es)) (k : keepL a (ρ.set i .un)) : Env K T (ρ.set i (.ol a ds)) σ (upd H a (.lst ys)) :=
  ⟨tabs_late h (fun _ z => by cases z) (fun _ z => by unfold LamX.CodeO at z; cases z) e.tabs, slots_mut h hd i e.sl hi k⟩
end
end KM
set_option Elab.async false
set_option linter.all false
set_option maxRecDepth 100000
set_option maxHeartbeats 4000000
/-! Own lists changed by statements. -/
namespace KM
open PySem PySem.Spec PyProof.Rows L2
/-- a call of a method of an own list, told by what it does to it -/
def tOwn (K : PySem.W.Frag) (T : Tbl) (ρ : List Sl) (i : Nat) (a : Addr) (C : List PyData → Prop) : TE := fun σ H Q => Env K T ρ σ H ∧ ∀ xs ys ds v H2, C ds → Gr T H H2 → H2 a = some (.lst xs) → DpAll K (cutH H2 a) ys ds → Q v (upd H2 a (.lst ys))
section
variable {X : Cx} {T : Tbl} {HB : Hp} {ρ ρ1 ρ2 : List Sl} {e : Expr} {es : List Expr} {rest : List Stmt} {s : Stmt} {C A B : PyData → Prop} {pos apos cpos px : Pos} {i : Nat} {x : Str} {a : Addr} {ds : List PyData} {d : PyData}
theorem dol_raw (i : Nat) (hr : ρ[i]? = some (.ol a ds)) (hN : X.N[i]? = some x) (hv : Vis X.env.scope x) (hd : (x == ("__debug__" : Str)) = false) (hcd : (x == ("__classdict__" : Str)) = false) : DE X T ρ (.Name x px) (.ol a ds) := de_name i hr (fun z => by cases z) hN hv hd hcd
theorem o_append (hr : ρ[i]? = some (.ol a ds)) (he : DD X T ρ e d) (hd : noL d = true) (hl : ds.length < 1000) (hN : X.N[i]? = some x := by rfl) (hv : Vis X.env.scope x := by first | exact Or.inl rfl | exact Or.inr (Or.inl rfl) | exact Or.inr (Or.inr rfl)) (hdb : (x == ("__debug__" : Str)) = false := by decide) (hcd : (x == ("__classdict__" : Str)) = false := by decide)
    (hbase : attributeBase (.Name x px) "append" X.env (eval (.Name x px) X.env) = eval (.Name x px) X.env := by rfl)
    (hfew : ((backTo cpos (starEach [e] X.env)).all (fun x => !x.1) && (backToKw cpos (keywordEach [] X.env)).all (fun x => x.1.isSome) && decide ([e].length + ([] : List Keyword).length + (if ([] : List Keyword).isEmpty then 0 else 1) < 30)) = true := by rfl)
    (hline : (apos.endLine == cpos.line) = true := by rfl) (hs : starEach [e] X.env = (false, eval e X.env) :: starEach [] X.env := by rfl) (hpl : (backTo cpos (starEach [] X.env)).any (·.1) = false := by rfl) :
    PE X (.Call (.Attribute (.Name x px) "append" apos) [e] [] cpos) (tOwn X.K T ρ i a (fun r => r = ds ++ [d])) :=
  pe_imp (pe_bm PySem.F.plainAttrs_list PySem.F.slot_list_append PySem.F.type_list_append mt_append (dol_raw i hr hN hv hdb hcd) (a_cons he a_nil hs) hbase hfew hline hs hpl) fun σ H Q k => ⟨k.1, fun v H1 g1 h1 => by
    obtain ⟨e1, xs, h2, h3⟩ := h1
    subst e1
    refine ⟨.inl ⟨rfl, xs, .of h2⟩, k.1.gr g1, fun vs H2 g2 hv2 => ?_⟩
    obtain ⟨y, ey, hy⟩ := one_of hv2
    subst ey
    have h4 := g2.lst h2
    refine ⟨a, xs, y, rfl, rfl, h4, ?_, ?_⟩
    · rw [dpAll_len h3]
      exact small1000 (Nat.le_of_lt hl)
    · exact k.2 xs _ _ _ H2 rfl (g1.trans g2) h4 (dpAll_app ((g2.cut a).dpAll _ h3) (.cons ((im_cut h4).dp _ hd hy) .nil))⟩
theorem o_popAt {k : Int} (hr : ρ[i]? = some (.ol a ds)) (he : DD X T ρ e (.int k)) (h0 : 0 ≤ k) (h1 : k < ds.length) (hl : ds.length ≤ 1000) (hN : X.N[i]? = some x := by rfl) (hv : Vis X.env.scope x := by first | exact Or.inl rfl | exact Or.inr (Or.inl rfl) | exact Or.inr (Or.inr rfl)) (hdb : (x == ("__debug__" : Str)) = false := by decide) (hcd : (x == ("__classdict__" : Str)) = false := by decide)
    (hbase : attributeBase (.Name x px) "pop" X.env (eval (.Name x px) X.env) = eval (.Name x px) X.env := by rfl)
    (hfew : ((backTo cpos (starEach [e] X.env)).all (fun x => !x.1) && (backToKw cpos (keywordEach [] X.env)).all (fun x => x.1.isSome) && decide ([e].length + ([] : List Keyword).length + (if ([] : List Keyword).isEmpty then 0 else 1) < 30)) = true := by rfl)
    (hline : (apos.endLine == cpos.line) = true := by rfl) (hs : starEach [e] X.env = (false, eval e X.env) :: starEach [] X.env := by rfl) (hpl : (backTo cpos (starEach [] X.env)).any (·.1) = false := by rfl) :
    PE X (.Call (.Attribute (.Name x px) "pop" apos) [e] [] cpos) (tOwn X.K T ρ i a (fun r => r = ds.eraseIdx k.toNat)) :=
  pe_imp (pe_bm PySem.F.plainAttrs_list PySem.F.slot_list_pop PySem.F.type_list_pop mt_popAt (dol_raw i hr hN hv hdb hcd) (a_cons he a_nil hs) hbase hfew hline hs hpl) fun σ H Q q => ⟨q.1, fun v H1 g1 h1' => by
    obtain ⟨e1, xs, h2, h3⟩ := h1'
    subst e1
    refine ⟨.inl ⟨rfl, xs, .of h2⟩, q.1.gr g1, fun vs H2 g2 hv2 => ?_⟩
    obtain ⟨y, ey, hy⟩ := one_of hv2
    subst ey
    rw [dp_int hy]
    have h4 := g2.lst h2
    have hlen := dpAll_len h3
    have hlt : k.toNat < xs.length := by omega
    refine ⟨a, xs, k, k.toNat, xs[k.toNat], rfl, rfl, h4, by omega, by omega, PySem.seqIndex_of h0 (by omega), List.getElem?_eq_getElem hlt, ?_⟩
    have er : ∀ {us : List V} {es : List PyData} (n : Nat), DpAll X.K (cutH H2 a) us es → DpAll X.K (cutH H2 a) (us.eraseIdx n) (es.eraseIdx n) := by
      intro us es n hh
      induction n generalizing us es with
      | zero => cases hh with | nil => exact .nil | cons _ t => exact t
      | succ n ih => cases hh with | nil => exact .nil | cons z t => exact .cons z (ih t)
    exact q.2 xs _ _ _ H2 rfl (g1.trans g2) h4 (er _ ((g2.cut a).dpAll _ h3))⟩
/-- x.remove(k), of whole numbers: the first k -/
theorem o_remove {k : Int} {ns : List Int} {j : Nat} (hr : ρ[i]? = some (.ol a (di ns))) (he : DD X T ρ e (.int k)) (hj : ns[j]? = some k) (hno : ∀ m : Nat, m < j → ns[m]? ≠ some k) (hN : X.N[i]? = some x := by rfl) (hv : Vis X.env.scope x := by first | exact Or.inl rfl | exact Or.inr (Or.inl rfl) | exact Or.inr (Or.inr rfl)) (hdb : (x == ("__debug__" : Str)) = false := by decide) (hcd : (x == ("__classdict__" : Str)) = false := by decide)
    (hbase : attributeBase (.Name x px) "remove" X.env (eval (.Name x px) X.env) = eval (.Name x px) X.env := by rfl)
    (hfew : ((backTo cpos (starEach [e] X.env)).all (fun x => !x.1) && (backToKw cpos (keywordEach [] X.env)).all (fun x => x.1.isSome) && decide ([e].length + ([] : List Keyword).length + (if ([] : List Keyword).isEmpty then 0 else 1) < 30)) = true := by rfl)
    (hline : (apos.endLine == cpos.line) = true := by rfl) (hs : starEach [e] X.env = (false, eval e X.env) :: starEach [] X.env := by rfl) (hpl : (backTo cpos (starEach [] X.env)).any (·.1) = false := by rfl) :
    PE X (.Call (.Attribute (.Name x px) "remove" apos) [e] [] cpos) (tOwn X.K T ρ i a (fun r => r = di (ns.eraseIdx j))) :=
  pe_imp (pe_bm PySem.F.plainAttrs_list PySem.F.slot_list_remove PySem.F.type_list_remove mt_remove (dol_raw i hr hN hv hdb hcd) (a_cons he a_nil hs) hbase hfew hline hs hpl) fun σ H Q q => ⟨q.1, fun v H1 g1 h1' => by
    obtain ⟨e1, xs, h2, h3⟩ := h1'
    subst e1
    refine ⟨.inl ⟨rfl, xs, .of h2⟩, q.1.gr g1, fun vs H2 g2 hv2 => ?_⟩
    obtain ⟨y, ey, hy⟩ := one_of hv2
    subst ey
    rw [dp_int hy]
    have h4 := g2.lst h2
    rw [dpAll_ints h3] at h4
    exact ⟨a, ns, k, j, rfl, rfl, h4, hj, hno, q.2 _ _ _ _ H2 rfl (g1.trans g2) h4 (ints_dpAll _)⟩⟩
/-- such a call as a statement -/
theorem n1_own (hr : ρ[i]? = some (.ol a ds)) (hn : New HB a) (hk : keepL a (ρ.set i .un)) {ds' : List PyData} (h : PE X e (tOwn X.K T ρ i a (fun r => r = ds'))) (hs : swapsWith e none pos.line X.env = pure false := by rfl) : D1 X T HB ρ (.Expr e pos) (ρ.set i (.ol a ds')) :=
  ps_imp (ps_expr h hs) fun D σ H k => ⟨k.1, fun xs ys r v H2 er g h4 hd => by
    subst er
    exact k.2.2 σ _ ((k.1.gr g).mut h4 hd hr hk) ((k.2.1.trans g).late hn h4)⟩
/-- x[k] = e: drawn, whole numbers -/
theorem b_setX {idx : Expr} {ns : List Int} {tpos : Pos} (hr : ρ[i]? = some (.ol a (di ns))) (hn : New HB a) (hk : keepL a (ρ.set i .un)) (he : DX X T ρ e (fun d => ∃ n : Int, d = .int n ∧ A d)) (hi : DX X T ρ idx (fun d => ∃ k : Nat, d = .int k ∧ k < ns.length)) (h2 : ∀ (n : Int) (k : Nat), A (.int n) → k < ns.length → DB X T HB (ρ.set i (.ol a (di (ns.set k n)))) rest C)
    (hN : X.N[i]? = some x := by rfl) (hv : Vis X.env.scope x := by first | exact Or.inl rfl | exact Or.inr (Or.inl rfl) | exact Or.inr (Or.inr rfl)) (hdb : (x == ("__debug__" : Str)) = false := by decide) (hcd : (x == ("__classdict__" : Str)) = false := by decide)
    (ha : ∀ v, assign (.Subscript (.Name x px) idx tpos) X.env v = (do
      let ov ← holding [v] (eval (.Name x px) X.env)
      let iv ← holding [v, ov] (eval idx X.env)
      standAt tpos
      holding [v, ov, iv] (setItem ov iv v)
      release [v, ov, iv] []) := by intro _; rfl) (hs : swapsWithSole [.Subscript (.Name x px) idx tpos] e pos.line X.env = pure false := by rfl) (hw : swappedStores [.Subscript (.Name x px) idx tpos] e X.env = pure none := by rfl)
    (h1 : (assignEach [.Subscript (.Name x px) idx tpos] X.env).map (·.2) = [assign (.Subscript (.Name x px) idx tpos) X.env] := by rfl) : DB X T HB ρ (.Assign [.Subscript (.Name x px) idx tpos] e pos :: rest) C :=
  pss_imp (pss_cons (ps_asg he (pg_sub (dol_raw i hr hN hv hdb hcd) hi set_list ha) hs hw h1) (pss_exi fun n => pss_exi fun k => pss_if (c := A (.int n) ∧ k < ns.length) fun c => h2 n k c.1 c.2)) fun D σ H q => ⟨q.1, fun d v H1 cd g1 h1' => ⟨q.1.gr g1, fun u H2 g2 h2' => ⟨q.1.gr (g1.trans g2), fun d3 w H3 c3 g3 h3 => by
    obtain ⟨n, rfl, ca⟩ := cd
    obtain ⟨k, rfl, hk'⟩ := c3
    obtain ⟨e1, xs, h4, h5⟩ := h2'
    subst e1
    have h6 := g3.lst h4
    have ex := dpAll_ints h5
    subst ex
    have g123 := (g1.trans g2).trans g3
    refine ⟨a, _, (k : Int), k, rfl, dp_int h3, h6, ?_, ?_⟩
    · unfold ixN
      rw [if_pos (by omega), List.length_map, if_pos (by omega)]
      simp
    · rw [dp_int h1']
      have em : (ns.map V.int).set k (.int n) = (ns.set k n).map V.int := List.map_set.symm
      rw [em] at *
      exact ⟨n, k, ⟨ca, hk'⟩, (q.1.gr g123).mut h6 (ints_dpAll _) hr hk, (q.2.1.trans g123).late hn h6, q.2.2⟩⟩⟩⟩
end
end KM
set_option Elab.async false
set_option linter.all false
set_option maxRecDepth 100000
set_option maxHeartbeats 4000000
/-! The law's draws: _law_take, _law_one, _law_votes, _law_case. -/
namespace KM
open PySem PySem.Spec PyProof.Rows L2
/-- a new list of data as CL says -/
def tFX (K : PySem.W.Frag) (T : Tbl) (ρ : List Sl) (CL : List PyData → Prop) : TE := fun σ H Q => Env K T ρ σ H ∧ ∀ ds a xs H2, CL ds → Gr T H H2 → New H a → H2 a = some (.lst xs) → DpAll K (cutH H2 a) xs ds → Q (.ref a) H2
def teX (K : PySem.W.Frag) (T : Tbl) (ρ : List Sl) (j n : Nat) (C : PyData → Prop) : TE := fun σ H Q => ∃ i, i < n ∧ tX K T ((wipeR ρ [j]).set j (.dt (.int i))) C σ H Q
theorem lc_rdRX {K : PySem.W.Frag} {T : Tbl} {ρ : List Sl} {j n : Nat} {C : PyData → Prop} {σ : L2.St} {H : Hp} {Q : VK} (hn : n ≤ 1000) (hC : ∀ d, C d → noL d = true) (k : tFX K T ρ (fun ds => ds.length = n ∧ ∀ d ∈ ds, C d) σ H Q) :
    tLc (iRng1 (tA K T ρ [.int n])) (gName j) tYes (teX K T ρ j n C) [j] σ H Q := by
  refine ⟨k.1, fun vs H1 g1 h1 => ?_⟩
  obtain ⟨v, e, hv⟩ := one_of h1
  refine ⟨n, by rw [e, dp_int hv], by omega, by omega, fun D hD => ?_⟩
  rw [Int.toNat_natCast]
  refine lc_range (lo := 0) (n := n) (g := gName j) (tt := tYes) (te := teX K T ρ j n C) (vs := [j]) (σ := σ) (Qd := fun H => Q (.ref D) H) (fun i H => ∃ ds, ds.length = i ∧ (∀ d ∈ ds, C d) ∧ Grows K T H1 D ds H) ⟨[], rfl, (fun d hd => by cases hd), Grows.start hD⟩ (fun i H' hlt P => ?_) (fun H' P => ?_)
  · obtain ⟨ds, hl, hc, P⟩ := P
    have e0 : (0 : Int) + (i : Int) = (i : Int) := Int.zero_add _
    rw [e0]
    refine ⟨wipe_one σ j _, i, hlt, ((k.1.gr (g1.trans P.1)).wipe [j]).set (r := .dt (.int (i : Int))) j (.int _), fun d y H4 cd g4 hy => ?_⟩
    obtain ⟨acc, a1, a2, a3⟩ := P.add hD g4 hy (hC d cd) (by omega)
    refine ⟨acc, a1, a2, ds ++ [d], by rw [List.length_append, hl]; rfl, fun x hx => ?_, a3⟩
    rcases List.mem_append.mp hx with hx | hx
    · exact hc x hx
    · have : x = d := by simpa using hx
      rw [this]
      exact cd
  · obtain ⟨ds, hl, hc, P⟩ := P
    obtain ⟨g0, acc, e, hd, hnl⟩ := P
    exact k.2 ds D acc H' ⟨hl, hc⟩ (g1.trans g0) (g1.back hD) e ((im_cut e).dpAll _ hnl hd)
section
variable {X : Cx} {T : Tbl} {HB : Hp} {ρ ρ1 ρ2 : List Sl} {e : Expr} {es : List Expr} {rest : List Stmt} {s : Stmt} {C A B : PyData → Prop} {pos : Pos}
theorem b_newX {t : TE} {CL : List PyData → Prop} (i : Nat) (h : PS X s (tAsg t (gName i))) (hr : ∀ σ H Q, tFX X.K T ρ CL σ H Q → t σ H Q) (h2 : ∀ a ds, New HB a → CL ds → DB X T HB (ρ.set i (.ol a ds)) rest C) : DB X T HB ρ (s :: rest) C :=
  pss_imp (pss_cons h (pss_exi fun a => pss_exi fun ds => pss_if (c := New HB a ∧ CL ds) fun c => h2 a ds c.1 c.2)) fun D σ H k => hr _ _ _ ⟨k.1, fun ds a xs H2 cl g n e d => ⟨a, ds, ⟨New.back k.2.1 n, cl⟩, (k.1.gr g).set (r := .ol a ds) i ⟨rfl, xs, e, d⟩, k.2.1.trans g, k.2.2⟩⟩
/-- y = [elt for x in range(a)], elt drawn -/
theorem b_lcRX {elt a tg : Expr} {scope : Scope} {x y : Str} {i j n : Nat} {pr pos2 py spos : Pos} (hc : X.calm = true) (hN : X.N.Nodup) (hm : X.mg "range" = none) (hi : DD X T ρ a (.int n)) (hhi : n ≤ 1000) (ok : BlkOk X.N X.env.scope scope [(x, j)]) (hg : HG1 X scope tg j) (hC : ∀ d, A d → noL d = true)
    (he : ∀ (s : Shared) (H : Hp) (C : Addr) (cl : List (Str × Addr)) (fp : List Addr) (i : Nat), i < n → DX (X.blk s H scope (compEnvC scope cl C X.env) fp) T ((wipeR ρ [j]).set j (.dt (.int i))) elt A)
    (h2 : ∀ q ds, New HB q → ds.length = n → (∀ d ∈ ds, A d) → DB X T HB (ρ.set i (.ol q ds)) rest C) (hy : X.N[i]? = some y) (hyl : X.env.scope.names.lookup y = some .local)
    (hsw : swapsWith (.ListComp elt [⟨tg, .Call (.Name "range" pr) [a] [] pos2, [], 0⟩] scope pos) (some (.Name y py)) spos.line X.env = pure true) (hgr : Gl X "range" := by rfl) (hst : starEach [a] X.env = [(false, eval a X.env)] := by rfl)
    (hs : ∀ x, foldedSetIterable (.Call (.Name "range" pr) [a] [] pos2) X.env x = pure x := by intro _; rfl) : DB X T HB ρ (.Assign [.Name y py] (.ListComp elt [⟨tg, .Call (.Name "range" pr) [a] [] pos2, [], 0⟩] scope pos) spos :: rest) C :=
  b_newX (CL := fun ds => ds.length = n ∧ ∀ d ∈ ds, A d) i (ps_setLc (own := [(x, j)]) (te := teX X.K T ρ j n A) hc hN hy hyl hsw (pi_range1 hgr hm (a_cons hi a_nil (by rw [hst]; rfl)) hst) ok hg (fun _ _ _ _ _ => pts_nil) (fun s H C cl fp => ⟨fun pins s' σ' H' Q I ⟨i, hi, q⟩ => (he s H C cl fp i hi).run pins s' σ' H' Q I q⟩) hs)
    (fun _ _ _ k => lc_rdRX hhi hC k) fun q ds nq c => h2 q ds nq c.1 c.2
end
abbrev startX (N : List Str) (p : Addr) (ds : List PyData) : List Sl := .ob p (srcO p) :: (ds.map Sl.dt ++ List.replicate (N.length - (ds.length + 1)) .un)
theorem startX_env {K : PySem.W.Frag} {T : Tbl} {N : List Str} {p : Addr} {ws : List V} {ds : List PyData} {H : Hp} (t : LamX.Tabs T H) (hp : H p = some (srcO p)) (h : DpAll K H ws ds) : Env K T (startX N p ds) (L2.start N (.ref p :: ws)) H := by
  refine ⟨t, ⟨.ref p, rfl, rfl, hp, fun _ z => by cases z⟩, slots_app (slots_data h) ?_⟩
  show Slots K H _ (List.replicate (N.length - (ws.length + 1)) none)
  rw [← dpAll_len h]
  exact slots_un _
section
variable {P : Program} {w : World} {K : PySem.W.Frag} {mg : Str → Option Value} {base : Heap} {T : Tbl} {x qual : Str} {st : Stmt} {f : Addr} {fd : FuncData} {N ps : List Str} {k : Nat}
theorem dfx_of {Pre : List PyData → Prop} {Post : List PyData → PyData → Prop} (F : FunD K x qual (defArgs st) (defBody st) (defScope st) [] [] f fd) (hm : mg x = some (.ref f)) (S : FnScope N ps (defScope st)) (len : ∀ ds, Pre ds → ds.length + 1 = ps.length)
    (hb : ∀ (kV doc pm : Value) (an : Option Addr) (cdv ct : Value) (us : List Value), us.length = ps.length → bindArgs (PySem.W.fnOf x qual (defArgs st) (defBody st) (defScope st) .none kV doc pm an cdv ct) ⟨us, []⟩ = pure (ps.zip us))
    (hbody : ∀ (cdv : Value) (A : Around) (outer : List PySem.Env) (s : Shared) (H : Hp) (E : XK) (p : Addr) (ds : List PyData), Room k (A.deeper (envOfC qual (defScope st) s.heap.objs.size f cdv)) → H p = some (srcO p) → Pre ds →
      DB (bodyX P w K mg base N qual (defScope st) f cdv A outer s H E) T H (startX N p ds) (defBody st) (Post ds)) : DfX P w K mg base T x (k + 1) ps Pre Post := by
  refine ⟨f, fd, F.ok S (fun vs H Q E h => ?_) (fun cdv A outer s H vs Q E hr h => ?_), hm, F.kp, F.bindsN hb⟩
  · obtain ⟨_, p, ws, ds, rfl, _, hv, hp, _⟩ := h
    rw [List.length_cons, dpAll_len hv]
    exact len ds hp
  · obtain ⟨ht, p, ws, ds, rfl, hp, hv, pre, q⟩ := h
    exact ⟨_, PSs.nox (hbody cdv A outer s H E p ds hr hp pre), startX_env ht hp hv, Gr.refl H, fun d v H2 c g h2 => q d v H2 c g h2⟩
end
def PreTake : List PyData → Prop := fun ds => ∃ top : Int, ds = [.int top] ∧ 0 < top ∧ top ≤ 1000000
def PostTake : List PyData → PyData → Prop := fun ds d => ∃ top r : Int, ds = [.int top] ∧ d = .int r ∧ 0 ≤ r ∧ r < top
def PreOne : List PyData → Prop := fun ds => ∃ xs, ds = [.list xs] ∧ 0 < xs.length ∧ xs.length ≤ 1000
def PostOne : List PyData → PyData → Prop := fun ds d => ∃ xs, ds = [.list xs] ∧ d ∈ xs
def PreVotes : List PyData → Prop := fun ds => ∃ m : Nat, ds = [.int m] ∧ 1 ≤ m ∧ m ≤ 4
def PostVotes : List PyData → PyData → Prop := fun ds d => ∃ (m : Nat) (vs : List Int), ds = [.int m] ∧ d = .tuple (di vs) ∧ vs.length = m ∧ VOk vs
def PreCase : List PyData → Prop := fun ds => ds = [.int 4]
def PostCase : List PyData → PyData → Prop := fun _ d => ∃ (vs : List Int) (need : Int) (u : Nat), d = .list [.int vs.length, .tuple (di vs), .int need, .int u] ∧ VOk vs ∧ vs.length ≤ 4 ∧ NeedOk vs need ∧ u ≤ vs.length
theorem sum_le {vs : List Int} (h : ∀ v ∈ vs, 0 ≤ v ∧ v ≤ 9) : 0 ≤ vs.sum ∧ vs.sum ≤ 9 * vs.length := by
  induction vs with
  | nil => simp
  | cons v r ih =>
    have h1 := h v List.mem_cons_self
    have h2 := ih fun x hx => h x (List.mem_cons_of_mem _ hx)
    rw [List.sum_cons, List.length_cons]
    omega
theorem sum_pos {vs : List Int} (h : ∀ v ∈ vs, 0 ≤ v ∧ v ≤ 9) {n : Int} (hm : n ∈ vs) (hn : 1 ≤ n) : 0 < vs.sum := by
  induction vs with
  | nil => cases hm
  | cons v r ih =>
    have h1 := h v List.mem_cons_self
    have h2 := sum_le fun x hx => h x (List.mem_cons_of_mem _ hx)
    rw [List.sum_cons]
    rcases List.mem_cons.mp hm with rfl | hm
    · omega
    · have := ih (fun x hx => h x (List.mem_cons_of_mem _ hx)) hm
      omega
theorem ints_of : ∀ {ds : List PyData} {A : Int → Prop}, (∀ d ∈ ds, ∃ n, d = .int n ∧ A n) → ∃ ns : List Int, ds = di ns ∧ ∀ n ∈ ns, A n
  | [], A, _ => ⟨[], rfl, fun n hn => by cases hn⟩
  | d :: ds, A, h => by
    obtain ⟨n, rfl, ha⟩ := h _ List.mem_cons_self
    obtain ⟨ns, rfl, hs⟩ := ints_of fun e he => h e (List.mem_cons_of_mem _ he)
    exact ⟨n :: ns, rfl, fun m hm => by
      rcases List.mem_cons.mp hm with rfl | hm
      · exact ha
      · exact hs m hm⟩
theorem atI_mem {xs : List PyData} {i : Int} (h0 : 0 ≤ i) (h1 : i < xs.length) : ∃ d, atI xs i = some d ∧ d ∈ xs := by
  have hlt : i.toNat < xs.length := by omega
  refine ⟨xs[i.toNat], ?_, List.getElem_mem hlt⟩
  unfold atI ixN
  rw [if_pos h0, if_pos h1]
  exact List.getElem?_eq_getElem hlt
section
variable {P : Program} {w : World} {K : PySem.W.Frag} {mg : Str → Option Value} {base : Heap} {T : Tbl} {f : Addr} {fd : FuncData}
theorem df_take (G : Glob mg) (F : FnP K "_law_take" s__law_take f fd) (hm : mg "_law_take" = some (.ref f)) : DfX P w K mg base T "_law_take" 1 ["_law_source", "_law_top"] PreTake PostTake := by
  refine ⟨f, fd, (ok_take (T := T) G F).imp fun vs H Q E h => ?_, hm, F.kp, F.bindsN fun _ _ _ _ _ _ us hl => match us, hl with | [_, _], _ => rfl⟩
  obtain ⟨_, p, ws, ds, rfl, hp, hv, ⟨top, rfl, h0, h1⟩, q⟩ := h
  obtain ⟨v, e, hv⟩ := one_of hv
  rw [e, dp_int hv]
  exact ⟨p, top, rfl, hp, h0, h1, fun r r0 r1 => q _ _ H ⟨top, r, rfl, rfl, r0, r1⟩ (Gr.refl H) (.int r)⟩
theorem df_one (G : Glob mg) (F : FnP K "_law_one" s__law_one f fd) (hm : mg "_law_one" = some (.ref f)) (W : DfX P w K mg base T "_law_take" 1 ["_law_source", "_law_top"] PreTake PostTake) : DfX P w K mg base T "_law_one" 2 ["_law_source", "_law_things"] PreOne PostOne := by
  refine dfx_of F hm sc__law_one (fun ds ⟨xs, e, _⟩ => by rw [e]; rfl) (fun _ _ _ _ _ _ us hl => match us, hl with | [_, _], _ => rfl) fun cdv A outer s H E p ds hr hp h => ?_
  obtain ⟨xs, rfl, h0, h1⟩ := h
  refine b_ret (dx_ix (dx_of (dn 1)) (dx_callX (C := fun d => ∃ r : Int, d = .int r ∧ 0 ≤ r ∧ r < xs.length) W hr (by decide) (dob 0) (ax_of (a_cons (d_callB c_len G.f_len (by decide +kernel) (a_cons (dn 1) a_nil) (.lst _)) a_nil)) (fun ds e => ?_)) (fun x y hx hy => ?_))
  · subst e
    refine ⟨⟨_, rfl, by omega, by omega⟩, fun d ⟨top, r, e1, e2, r0, r1⟩ => ?_⟩
    have e3 : (xs.length : Int) = top := by simpa using e1
    exact ⟨r, e2, r0, by omega⟩
  · obtain ⟨r, rfl, r0, r1⟩ := hy
    subst hx
    obtain ⟨d, e, hd⟩ := atI_mem r0 r1
    exact ⟨d, .lst _ _ _ e, xs, rfl, hd⟩
theorem df_draw_votes (G : Glob mg) (F : FnP K "_law_votes" s__law_votes f fd) (hm : mg "_law_votes" = some (.ref f)) (W : DfX P w K mg base T "_law_take" 1 ["_law_source", "_law_top"] PreTake PostTake) (W1 : DfX P w K mg base T "_law_one" 2 ["_law_source", "_law_things"] PreOne PostOne) :
    DfX P w K mg base T "_law_votes" 3 ["_law_source", "_law_many"] PreVotes PostVotes := by
  refine dfx_of F hm sc__law_votes (fun ds ⟨m, e, _⟩ => by rw [e]; rfl) (fun _ _ _ _ _ _ us hl => match us, hl with | [_, _], _ => rfl) fun cdv A outer s H E p ds hr hp h => ?_
  obtain ⟨m, rfl, h0, h1⟩ := h
  refine b_lcRX (A := fun d => ∃ n : Int, d = .int n ∧ 0 ≤ n ∧ n ≤ 9) (x := "_law_copy") (i := 2) (j := 3) (n := m) rfl sc__law_votes.nd G.f_range (dn 1) (by omega) (blkOk_by (N := n__law_votes) (sc := defScope s__law_votes) (by decide +kernel)) (fun _ _ _ _ _ => pg_name (i := 3) sc__law_votes.nd rfl (Or.inl rfl)) (fun d ⟨n, e, _⟩ => by rw [e]; rfl)
    (fun s H C cl fp i hi => ?_) (fun a ds hna hl hd => ?_) rfl rfl rfl
  · refine dx_callX W hr (by decide) (dob 0) (ax_cons (A := fun d => d = .int 2 ∨ d = .int 4 ∨ d = .int 10) (dx_callX W1 hr (by decide) (dob 0) (ax_of (a_cons (de_l (d_lst (a_cons d_int (a_cons d_int (a_cons d_int a_nil))) (by show 3 ≤ 1000; omega))) a_nil)) (fun ds e => ?_)) ax_nil) (fun ds e => ?_)
    · subst e
      refine ⟨⟨_, rfl, by show 0 < 3; omega, by show 3 ≤ 1000; omega⟩, fun d ⟨xs, e1, hd⟩ => ?_⟩
      have e2 : xs = [.int 2, .int 4, .int 10] := by simpa using e1.symm
      subst e2
      simpa using hd
    · obtain ⟨d, r, rfl, hd, rfl⟩ := e
      have hb : ∃ t : Int, d = .int t ∧ 0 < t ∧ t ≤ 10 := by
        rcases hd with e | e | e
        · exact ⟨_, e, by omega, by omega⟩
        · exact ⟨_, e, by omega, by omega⟩
        · exact ⟨_, e, by omega, by omega⟩
      obtain ⟨t, rfl, t0, t1⟩ := hb
      refine ⟨⟨t, rfl, t0, by omega⟩, fun d ⟨top, r, e1, e2, r0, r1⟩ => ?_⟩
      have e3 : t = top := by simpa using e1
      exact ⟨r, e2, r0, by omega⟩
  · obtain ⟨ns, rfl, hns⟩ := ints_of hd
    rw [List.length_map] at hl
    have take3 : ∀ {t : Int} {HB : Hp} {ρ : List Sl} {X : Cx}, True := trivial
    refine b_setX (i := 2) (a := a) (ns := ns) (A := fun d => ∃ n : Int, d = .int n ∧ 1 ≤ n ∧ n ≤ 3) rfl hna ⟨fun z => ?_, rfl, trivial, trivial, trivial⟩ (dx_op (B := fun d => ∃ r : Int, d = .int r ∧ 0 ≤ r ∧ r < 3) o_add (dx_of d_int) (dx_callX W hr (by decide) (dob 0) (ax_of (a_cons d_int a_nil)) (fun ds e => ?_)) (fun x y hx hy => ?_))
      (dx_callX W hr (by decide) (dob 0) (ax_of (a_cons (dn 1) a_nil)) (fun ds e => ?_)) (fun n k hn hk => ?_)
    · have z2 := hna (srcO p) (by rw [← z]; exact hp)
      obtain ⟨_, z3⟩ := z2
      cases z3
    · subst e
      refine ⟨⟨3, rfl, by omega, by omega⟩, fun d ⟨top, r, e1, e2, r0, r1⟩ => ?_⟩
      have e3 : (3 : Int) = top := by simpa using e1
      exact ⟨r, e2, r0, by omega⟩
    · obtain ⟨r, rfl, r0, r1⟩ := hy
      subst hx
      exact ⟨_, .mk _ _, _, rfl, _, rfl, by omega, by omega⟩
    · subst e
      refine ⟨⟨m, rfl, by omega, by omega⟩, fun d ⟨top, r, e1, e2, r0, r1⟩ => ?_⟩
      have e3 : (m : Int) = top := by simpa using e1
      exact ⟨r.toNat, by rw [e2, Int.toNat_of_nonneg r0], by omega⟩
    · obtain ⟨n', e, n0, n1⟩ := hn
      have e : n = n' := by simpa using e
      subst e
      refine b_mono (b_retD (d_callT c_tup G.f_tuple (by decide +kernel) (a_cons (dol 2) a_nil) (.lst _))) fun d e => ?_
      have each : ∀ v ∈ ns.set k n, 0 ≤ v ∧ v ≤ 9 := fun v hv => by
        rcases List.mem_or_eq_of_mem_set hv with hv | rfl
        · exact hns v hv
        · omega
      refine ⟨m, ns.set k n, rfl, e, by rw [List.length_set, hl], by rw [List.length_set]; omega, by rw [List.length_set]; omega, each, sum_pos each (n := n) ?_ n0⟩
      exact List.mem_iff_getElem?.mpr ⟨k, by rw [List.getElem?_set_self hk]⟩
theorem df_case (G : Glob mg) (F : FnP K "_law_case" s__law_case f fd) (hm : mg "_law_case" = some (.ref f)) (W : DfX P w K mg base T "_law_take" 1 ["_law_source", "_law_top"] PreTake PostTake) (WV : DfX P w K mg base T "_law_votes" 3 ["_law_source", "_law_many"] PreVotes PostVotes) :
    DfX P w K mg base T "_law_case" 4 ["_law_source", "_law_most"] PreCase PostCase := by
  refine dfx_of F hm sc__law_case (fun ds e => by rw [e]; rfl) (fun _ _ _ _ _ _ us hl => match us, hl with | [_, _], _ => rfl) fun cdv A outer s H E p ds hr hp h => ?_
  obtain rfl := h
  refine b_asgX (A := fun d => ∃ m : Nat, d = .int m ∧ 1 ≤ m ∧ m ≤ 4) 2 sc__law_case.nd (dx_op (B := fun d => ∃ r : Int, d = .int r ∧ 0 ≤ r ∧ r < 4) o_add (dx_of d_int) (dx_callX W hr (by decide) (dob 0) (ax_of (a_cons (dn 1) a_nil)) (fun ds e => ?_)) (fun x y hx hy => ?_)) (fun d hd => ?_)
  · subst e
    refine ⟨⟨4, rfl, by omega, by omega⟩, fun d ⟨top, r, e1, e2, r0, r1⟩ => ?_⟩
    have e3 : (4 : Int) = top := by simpa using e1
    exact ⟨r, e2, r0, by omega⟩
  · obtain ⟨r, rfl, r0, r1⟩ := hy
    subst hx
    exact ⟨_, .mk _ _, (1 + r).toNat, by rw [Int.toNat_of_nonneg (by omega)], by omega, by omega⟩
  obtain ⟨m, rfl, m0, m1⟩ := hd
  refine b_asgX (A := fun d => ∃ vs, d = .tuple (di vs) ∧ vs.length = m ∧ VOk vs) 3 sc__law_case.nd (dx_callX WV hr (by decide) (dob 0) (ax_of (a_cons (dn 2) a_nil)) (fun ds e => ?_)) (fun d hd => ?_)
  · subst e
    refine ⟨⟨m, rfl, m0, m1⟩, fun d ⟨m', vs, e1, e2, e3, V⟩ => ⟨vs, e2, ?_, V⟩⟩
    have e4 : (m : Int) = (m' : Int) := by simpa using e1
    omega
  obtain ⟨vs, rfl, hl, V⟩ := hd
  have hsum := sum_le V.each
  have hpos := V.pos
  refine b_mono (b_ret (dx_lst (ax_cons (dx_of (dn 2)) (ax_cons (dx_of (dn 3)) (ax_cons (A := fun d => ∃ n : Int, d = .int n ∧ NeedOk vs n) (dx_op (B := fun d => ∃ r : Int, d = .int r ∧ 0 ≤ r ∧ r < vs.sum) o_add (dx_of d_int) (dx_callX W hr (by decide) (dob 0) (ax_of (a_cons (d_callB (c_sum rfl) G.f_sum (by decide +kernel) (a_cons (dn 3) a_nil) (.tup _)) a_nil)) (fun ds e => ?_)) (fun x y hx hy => ?_))
    (ax_cons (A := fun d => ∃ r : Nat, d = .int r ∧ r ≤ m) (dx_callX W hr (by decide) (dob 0) (ax_of (a_cons (d_op o_add (dn 2) d_int (.mk _ _)) a_nil)) (fun ds e => ?_)) ax_nil)))) (fun ds hds => ?_))) (fun d hd => ?_)
  · subst e
    refine ⟨⟨_, rfl, by omega, by omega⟩, fun d ⟨top, r, e1, e2, r0, r1⟩ => ?_⟩
    have e3 : vs.sum = top := by simpa using e1
    exact ⟨r, e2, r0, by omega⟩
  · obtain ⟨r, rfl, r0, r1⟩ := hy
    subst hx
    exact ⟨_, .mk _ _, _, rfl, by omega, by omega⟩
  · subst e
    refine ⟨⟨_, rfl, by omega, by omega⟩, fun d ⟨top, r, e1, e2, r0, r1⟩ => ?_⟩
    have e3 : (m : Int) + 1 = top := by simpa using e1
    exact ⟨r.toNat, by rw [e2, Int.toNat_of_nonneg r0], by omega⟩
  · obtain ⟨_, _, rfl, rfl, _, _, rfl, rfl, _, _, rfl, _, _, _, rfl, _, rfl⟩ := hds
    show 4 ≤ 1000
    omega
  · obtain ⟨ds, rfl, _, _, rfl, rfl, _, _, rfl, rfl, _, _, rfl, ⟨n, rfl, hn⟩, _, _, rfl, ⟨r, rfl, hr'⟩, rfl⟩ := hd
    exact ⟨vs, n, r, by rw [hl], V, by omega, hn, by omega⟩
end
end KM
set_option Elab.async false
set_option linter.all false
set_option maxRecDepth 100000
set_option maxHeartbeats 4000000
/-! The law's own helpers that do not draw. -/
namespace KM
open PySem PySem.Spec PyProof.Rows L2
/-! ### rules -/
section
variable {X : Cx} {T : Tbl} {HB : Hp} {ρ ρ1 ρ2 : List Sl} {e a : Expr} {es : List Expr} {rest : List Stmt} {s : Stmt} {C A B : PyData → Prop} {pos : Pos}
theorem opC_of {f : Value → Value → Sem Value} {c : Int → Int → Prop} {g : Int → Int → Int} (h : OpR X f (rI c fun i j => .int (g i j))) : OpD X T f (RIc c fun i j => .int (g i j)) := opD_of h fun x y H Q k => by
  obtain ⟨t, a, b, d, hx, hy, ⟨i, j, hc⟩, q⟩ := k
  exact ⟨i, j, dp_int hx, dp_int hy, hc, q _ H (Gr.refl H) (.int _)⟩
theorem o_mul : OpD X T (binaryOp .Mult) (RIc CMul fun i j => .int (i * j)) := opC_of op_mul
theorem o_mod : OpD X T (binaryOp .Mod) (RIc (fun _ j => 0 < j) fun i j => .int (i % j)) := opC_of op_mod
theorem o_pow : OpD X T (binaryOp .Pow) (RIc CPow fun i j => .int (i ^ j.toNat)) := opC_of op_pow
/-- list(range(n)) -/
theorem f_listRg {p p2 pos2 : Pos} {n : Nat} (hc : X.calm = true) (hm : X.mg "list" = none) (hm2 : X.mg "range" = none) (h : DD X T ρ a (.int n)) (hn : n ≤ 1000) (hg : Gl X "list" := by rfl) (hg2 : Gl X "range" := by rfl) (na : starEach [a] X.env = (false, eval a X.env) :: starEach [] X.env := by rfl)
    (nb : starEach [.Call (.Name "range" p2) [a] [] pos2] X.env = (false, eval (.Call (.Name "range" p2) [a] [] pos2) X.env) :: starEach [] X.env := by rfl) : DF X T ρ (.Call (.Name "list" p) [.Call (.Name "range" p2) [a] [] pos2] [] pos) (di (upTo n)) :=
  pe_imp (pe_listRg hc hg hm (prg_1 hg2 hm2 h na) nb) fun σ H Q k => ⟨k.1, fun v H1 g1 h1 => ⟨n, dp_int h1, RgOk.of_le (by omega) (by omega) (by omega) (by omega), fun q hq => by
    have e : rgV 0 (n : Int) = (upTo n).map V.int := by
      unfold rgV
      rw [Int.sub_zero, List.map_map]
      apply List.map_congr_left
      intro i _
      show V.int (0 + (i : Int)) = _
      rw [Int.zero_add]
      rfl
    rw [e]
    exact k.2 q _ _ (g1.trans (Gr.new hq)) (g1.back hq) upd_same (cut_new hq (ints_dpAll _))⟩⟩
/-- list(x) -/
theorem f_listOf {p : Pos} {ds : List PyData} (hm : X.mg "list" = none) (h : DD X T ρ a (.tuple ds)) (hg : Gl X "list" := by rfl) (na : starEach [a] X.env = (false, eval a X.env) :: starEach [] X.env := by rfl) (hpl : (backTo pos (starEach [] X.env)).any (·.1) = false := by rfl) : DF X T ρ (.Call (.Name "list" p) [a] [] pos) ds :=
  pe_imp (pe_callTy call_list_of hg hm (by decide +kernel) (a_cons h a_nil na) (by decide) (by decide) na hpl) fun σ H Q k => ⟨k.1, fun vs H1 g1 h1 => by
    obtain ⟨v, e, hv⟩ := one_of h1
    obtain ⟨q, xs, e1, e2, e3⟩ := dp_tup hv
    subst e e1
    exact ⟨q, xs, rfl, .inr e2, fun l hl => k.2 l xs _ (g1.trans (Gr.new hl)) (g1.back hl) upd_same (cut_new hl e3)⟩⟩
/-- x.index(e): of whole numbers -/
theorem d_index {i : Nat} {x : Str} {px apos cpos : Pos} {q : Addr} {ns : List Int} {k : Int} (hr : ρ[i]? = some (.ol q (di ns))) (he : DD X T ρ e (.int k)) (hk : k ∈ ns) (hN : X.N[i]? = some x := by rfl) (hv : Vis X.env.scope x := by first | exact Or.inl rfl | exact Or.inr (Or.inl rfl) | exact Or.inr (Or.inr rfl)) (hdb : (x == ("__debug__" : Str)) = false := by decide) (hcd : (x == ("__classdict__" : Str)) = false := by decide)
    (hbase : attributeBase (.Name x px) "index" X.env (eval (.Name x px) X.env) = eval (.Name x px) X.env := by rfl)
    (hfew : ((backTo cpos (starEach [e] X.env)).all (fun x => !x.1) && (backToKw cpos (keywordEach [] X.env)).all (fun x => x.1.isSome) && decide ([e].length + ([] : List Keyword).length + (if ([] : List Keyword).isEmpty then 0 else 1) < 30)) = true := by rfl)
    (hline : (apos.endLine == cpos.line) = true := by rfl) (hs : starEach [e] X.env = (false, eval e X.env) :: starEach [] X.env := by rfl) (hpl : (backTo cpos (starEach [] X.env)).any (·.1) = false := by rfl) :
    DD X T ρ (.Call (.Attribute (.Name x px) "index" apos) [e] [] cpos) (.int (ns.idxOf k : Nat)) :=
  pe_imp (pe_bm PySem.F.plainAttrs_list PySem.F.slot_list_index PySem.F.type_list_index mt_index (dol_raw i hr hN hv hdb hcd) (a_cons he a_nil hs) hbase hfew hline hs hpl) fun σ H Q q => ⟨q.1, fun v H1 g1 h1' => by
    obtain ⟨e1, xs, h2, h3⟩ := h1'
    subst e1
    refine ⟨.inl ⟨rfl, xs, .of h2⟩, q.1.gr g1, fun vs H2 g2 hv2 => ?_⟩
    obtain ⟨y, ey, hy⟩ := one_of hv2
    subst ey
    rw [dp_int hy]
    have h4 := g2.lst h2
    rw [dpAll_ints h3] at h4
    have hlt := List.idxOf_lt_length_iff.mpr hk
    have hget : ns[ns.idxOf k]? = some k := by
      rw [List.getElem?_eq_getElem hlt]
      exact congrArg some (List.getElem_idxOf hlt)
    have eqV_int : ∀ i j : Int, eqV (.int i) (.int j) = decide (i = j) := fun i j => by
      first
        | rfl
        | (show (i == j) = _; exact Bool.beq_eq_decide_eq i j)
    refine ⟨_, ns.map V.int, .int k, ns.idxOf k, .int k, rfl, rfl, .of h4, rfl, flat_ints ns, by rw [List.getElem?_map, hget]; rfl, by rw [eqV_int]; simp, fun m z hm hz => ?_, q.2 _ H2 (g1.trans g2) (.int _)⟩
    rw [List.getElem?_map] at hz
    obtain ⟨n, hn, rfl⟩ := Option.map_eq_some_iff.mp hz
    rw [eqV_int]
    refine decide_eq_false fun z => ?_
    subst z
    have hml : m < ns.length := (List.getElem?_eq_some_iff.mp hn).1
    have := List.not_of_lt_findIdx (p := fun x => x == n) (xs := ns) (i := m) hm
    have e2 : ns[m] = n := (List.getElem?_eq_some_iff.mp hn).2
    simp [e2] at this⟩
/-- x, y = a, b, both new lists -/
theorem b_par {a b : Expr} {i j : Nat} {x y : Str} {px py pt : Pos} {kt k2 pt2} {ds1 ds2 : List PyData} (hc : X.calm = true) (hN : X.N.Nodup) (hi : X.N[i]? = some x) (hj : X.N[j]? = some y) (hij : i ≠ j) (hx : X.env.scope.names.lookup x = some .local) (hy : X.env.scope.names.lookup y = some .local)
    (h1 : DF X T ρ a ds1) (h2 : DF X T ρ b ds2) (h3 : ∀ q r, New HB q → New HB r → q ≠ r → DB X T HB ((ρ.set i (.ol q ds1)).set j (.ol r ds2)) rest C)
    (hw : swappedStores [.Tuple [.Name x px, .Name y py] kt pt] (.Tuple [a, b] k2 pt2) X.env = pure (some [x, y]))
    (hs : swapsWithSole [.Tuple [.Name x px, .Name y py] kt pt] (.Tuple [a, b] k2 pt2) pos.line X.env = pure false := by rfl) (he1 : starEach [a, b] X.env = (false, eval a X.env) :: starEach [b] X.env := by rfl) (he2 : starEach [b] X.env = (false, eval b X.env) :: starEach [] X.env := by rfl) :
    DB X T HB ρ (.Assign [.Tuple [.Name x px, .Name y py] kt pt] (.Tuple [a, b] k2 pt2) pos :: rest) C :=
  pss_imp (pss_cons (ps_par hc hN hi hj hij hx hy (pa_cons h1 (pa_cons h2 pa_nil he2) he1) hw hs) (pss_exi fun q => pss_exi fun r => pss_if (c := New HB q ∧ New HB r ∧ q ≠ r) fun c => h3 q r c.1 c.2.1 c.2.2)) fun D σ H k =>
    ⟨k.1, fun q xs H1 g1 n1 e1 d1 => ⟨k.1.gr g1, fun r ys H2 g2 n2 e2 d2 => ⟨_, _, rfl, q, r, ⟨New.back k.2.1 n1, New.back (k.2.1.trans g1) n2, fun z => n2.ne e1 (fun _ w => by cases w) z⟩,
      (((k.1.gr (g1.trans g2)).set (r := .ol q ds1) i ⟨rfl, xs, g2.lst e1, (g2.cut q).dpAll _ d1⟩).set (r := .ol r ds2) j ⟨rfl, ys, e2, d2⟩), k.2.1.trans (g1.trans g2), k.2.2⟩⟩⟩
/-- a test of a drawn value that is sure -/
theorem t_valX {c : Bool} (h : DX X T ρ e (fun d => d = .bool c)) (he : ∀ whole, isTrue e X.env whole = (do let v ← whole; standAt e.pos; holding [v] (truthy v)) := by intro _; rfl) : DT X T ρ e c :=
  pt_imp (pt_val h he) fun _ _ _ k => ⟨k.1, fun d v H2 cd g h2 => ⟨c, by subst cd; exact dp_bl h2, k.2 H2 g⟩⟩
end
section
variable {P : Program} {w : World} {K : PySem.W.Frag} {mg : Str → Option Value} {base : Heap} {T : Tbl} {x qual : Str} {st : Stmt} {f : Addr} {fd : FuncData} {N ps : List Str} {k : Nat} {R : List PyData → PyData → Prop}
theorem df_ofB (F : FunD K x qual (defArgs st) (defBody st) (defScope st) [] [] f fd) (hm : mg x = some (.ref f)) (S : FnScope N ps (defScope st)) (len : ∀ ds d, R ds d → ds.length = ps.length)
    (hb : ∀ (kV doc pm : Value) (an : Option Addr) (cdv ct : Value) (us : List Value), us.length = ps.length → bindArgs (PySem.W.fnOf x qual (defArgs st) (defBody st) (defScope st) .none kV doc pm an cdv ct) ⟨us, []⟩ = pure (ps.zip us))
    (hbody : ∀ (cdv : Value) (A : Around) (outer : List PySem.Env) (s : Shared) (H : Hp) (E : XK) (ds : List PyData) (d : PyData), Room k (A.deeper (envOfC qual (defScope st) s.heap.objs.size f cdv)) → R ds d →
      DB (bodyX P w K mg base N qual (defScope st) f cdv A outer s H E) T H (startD N ds) (defBody st) (fun x => x = d)) : Df P w K mg base T x (k + 1) ps R := by
  refine ⟨f, fd, F.ok S (fun vs H Q E h => ?_) (fun cdv A outer s H vs Q E hr h => ?_), hm, F.kp, F.bindsN hb⟩
  · obtain ⟨_, ds, d, hv, hR, _⟩ := h
    rw [dpAll_len hv]
    exact len ds d hR
  · obtain ⟨ht, ds, d, hv, hR, q⟩ := h
    exact ⟨_, PSs.nox (hbody cdv A outer s H E ds d hr hR), start_env ht hv, Gr.refl H, fun d' v H2 e g h2 => by subst e; exact q v H2 g h2⟩
end
/-! ### what they compute -/
def roundsN (n : Nat) : Nat := max 1 (min n 10)
def Rrounds : List PyData → PyData → Prop := fun ds d => ∃ ns : List Int, ds = [.list (di ns)] ∧ d = .list (di (upTo (roundsN ns.length)))
def lotsL : Nat → List (List Int)
  | 0 => [[]]
  | n + 1 => lotsL n ++ (lotsL n).map fun l => l ++ [(n : Int)]
def lotsD (n : Nat) : List PyData := (lotsL n).map fun l => .tuple (di l)
def RallLots : List PyData → PyData → Prop := fun ds d => ∃ m : Nat, m ≤ 4 ∧ ds = [.int m] ∧ d = .list (lotsD m)
def maxI : List Int → Int
  | [] => 0
  | [a] => a
  | a :: b :: r => max a (maxI (b :: r))
theorem maxI_mem : ∀ {l : List Int}, l ≠ [] → maxI l ∈ l
  | [], h => absurd rfl h
  | [a], _ => List.mem_cons_self
  | a :: b :: r, _ => by
    have ih := maxI_mem (l := b :: r) (by simp)
    show max a (maxI (b :: r)) ∈ _
    rcases Int.le_total a (maxI (b :: r)) with h | h
    · rw [Int.max_eq_right h]
      exact List.mem_cons_of_mem _ ih
    · rw [Int.max_eq_left h]
      exact List.mem_cons_self
theorem maxI_ge : ∀ {l : List Int} {y : Int}, y ∈ l → y ≤ maxI l
  | [], _, h => by cases h
  | [a], y, h => by
    have : y = a := by simpa using h
    rw [this]
    exact Int.le_refl _
  | a :: b :: r, y, h => by
    show y ≤ max a (maxI (b :: r))
    rcases List.mem_cons.mp h with rfl | h
    · exact Int.le_max_left ..
    · exact Int.le_trans (maxI_ge h) (Int.le_max_right ..)
def rmMax (l : List Int) : List Int := l.eraseIdx (l.idxOf (maxI l))
def itM : Nat → List Int → List Int
  | 0, l => l
  | n + 1, l => rmMax (itM n l)
def lawSure (vs : List Int) (u : Nat) (ns : List Int) : Int := (itM (min u ns.length) (ns.map (voteAt vs))).sum
theorem itM_len : ∀ (n : Nat) (l : List Int), n ≤ l.length → (itM n l).length = l.length - n
  | 0, l, _ => rfl
  | n + 1, l, h => by
    have ih := itM_len n l (by omega)
    have hne : itM n l ≠ [] := fun z => by rw [z] at ih; simp at ih; omega
    have := List.idxOf_lt_length_iff.mpr (maxI_mem hne)
    show ((itM n l).eraseIdx _).length = _
    rw [List.length_eraseIdx_of_lt this, ih]
    omega
def pick (vs l : List Int) : Int := (l.filter fun c => decide (voteAt vs c = maxI (l.map (voteAt vs)))).headD 0
def stL (vs l : List Int) : Nat → List Int
  | 0 => l
  | n + 1 => (stL vs l n).eraseIdx ((stL vs l n).idxOf (pick vs (stL vs l n)))
def stF (vs l : List Int) : Nat → List Int
  | 0 => []
  | n + 1 => stF vs l n ++ [pick vs (stL vs l n)]
def lawBy (vs l : List Int) : List Int := stF vs l l.length
theorem pick_mem {vs l : List Int} (h : l ≠ []) : pick vs l ∈ l ∧ voteAt vs (pick vs l) = maxI (l.map (voteAt vs)) ∧ ∃ r, l.filter (fun c => decide (voteAt vs c = maxI (l.map (voteAt vs)))) = pick vs l :: r := by
  obtain ⟨c, hc, e⟩ := List.mem_map.mp (maxI_mem (l := l.map (voteAt vs)) (by simpa using h))
  have hm : c ∈ l.filter fun c => decide (voteAt vs c = maxI (l.map (voteAt vs))) := List.mem_filter.mpr ⟨hc, by simpa using e⟩
  unfold pick
  cases hf : l.filter fun c => decide (voteAt vs c = maxI (l.map (voteAt vs))) with
  | nil => rw [hf] at hm; cases hm
  | cons p r =>
    have hp : p ∈ l.filter fun c => decide (voteAt vs c = maxI (l.map (voteAt vs))) := by rw [hf]; exact List.mem_cons_self
    obtain ⟨h1, h2⟩ := List.mem_filter.mp hp
    exact ⟨h1, by simpa using h2, r, rfl⟩
theorem stL_len : ∀ (n : Nat) {vs l : List Int}, n ≤ l.length → (stL vs l n).length = l.length - n
  | 0, vs, l, _ => rfl
  | n + 1, vs, l, h => by
    have ih := stL_len n (vs := vs) (l := l) (by omega)
    have hne : stL vs l n ≠ [] := fun z => by rw [z] at ih; simp at ih; omega
    have := List.idxOf_lt_length_iff.mpr (pick_mem (vs := vs) hne).1
    show ((stL vs l n).eraseIdx _).length = _
    rw [List.length_eraseIdx_of_lt this, ih]
    omega
theorem stF_len : ∀ (n : Nat) {vs l : List Int}, (stF vs l n).length = n
  | 0, _, _ => rfl
  | n + 1, vs, l => by
    show (stF vs l n ++ [_]).length = _
    rw [List.length_append, stF_len n]
    rfl
theorem stL_sub : ∀ (n : Nat) {vs l : List Int} {c : Int}, c ∈ stL vs l n → c ∈ l
  | 0, _, _, _, h => h
  | n + 1, vs, l, c, h => stL_sub n (List.mem_of_mem_eraseIdx h)
def RlawSum : List PyData → PyData → Prop := fun ds d => ∃ vs ns, InV vs ns ∧ ds = [.tuple (di vs), .tuple (di ns)] ∧ d = .int (votesIn vs ns)
def RlawSure : List PyData → PyData → Prop := fun ds d => ∃ vs ns, ∃ u : Nat, InV vs ns ∧ u ≤ 100 ∧ ds = [.tuple (di vs), .tuple (di ns), .int u] ∧ d = .int (lawSure vs u ns)
def RlawEnough : List PyData → PyData → Prop := fun ds d => ∃ vs need ns, ∃ u : Nat, InV vs ns ∧ u ≤ 100 ∧ ds = [.tuple (di vs), .int need, .int u, .tuple (di ns)] ∧ d = .bool (decide (vs.sum - need < lawSure vs u ns))
def RlawBy : List PyData → PyData → Prop := fun ds d => ∃ vs ns, InV vs ns ∧ ds = [.tuple (di vs), .tuple (di ns)] ∧ d = .list (di (lawBy vs ns))
def lawOther (vs : List Int) (u : Nat) (ns : List Int) : List Int := (outsideOf vs ns ++ (lawBy vs ns).take u).mergeSort fun a b => decide (a ≤ b)
def RlawOther : List PyData → PyData → Prop := fun ds d => ∃ vs ns, ∃ u : Nat, InV vs ns ∧ vs.length ≤ 100 ∧ ds = [.tuple (di vs), .tuple (di ns), .int u] ∧ d = .tuple (di (lawOther vs u ns))
section
variable {P : Program} {w : World} {K : PySem.W.Frag} {mg : Str → Option Value} {base : Heap} {T : Tbl} {f : Addr} {fd : FuncData}
theorem df_rounds (G : Glob mg) (F : FnP K "_law_rounds" s__law_rounds f fd) (hm : mg "_law_rounds" = some (.ref f)) : Df P w K mg base T "_law_rounds" 1 ["_law_script"] Rrounds := by
  refine df_of F hm sc__law_rounds (fun ds d ⟨ns, e, _⟩ => by rw [e]; rfl) (fun _ _ _ _ _ _ us hl => match us, hl with | [_], _ => rfl) fun cdv A outer s H E ds d hr h => ?_
  obtain ⟨ns, rfl, rfl⟩ := h
  refine s_ret (de_l (df_nl (f_listRg rfl G.f_list G.f_range (d_to (d_callB (c_max2 rfl) G.f_max (by decide +kernel) (a_cons d_int (a_cons (d_callB (c_min2 rfl) G.f_min (by decide +kernel) (a_cons (d_callB c_len G.f_len (by decide +kernel) (a_cons (dn 0) a_nil) (.lst _)) (a_cons d_int a_nil)) (.mk _ _)) a_nil)) (.mk _ _)) ?_) ?_)))
  · rw [List.length_map]
    unfold roundsN
    congr 1
    split <;> split <;> omega
  · unfold roundsN
    omega
theorem lotsD_len : ∀ n, (lotsD n).length = 2 ^ n
  | 0 => rfl
  | n + 1 => by
    have ih := lotsD_len n
    unfold lotsD at ih ⊢
    rw [List.length_map] at ih ⊢
    show (lotsL n ++ _).length = _
    rw [List.length_append, List.length_map, ih]
    omega
theorem lotsL_small : ∀ (n : Nat) (l : List Int), l ∈ lotsL n → l.length ≤ n
  | 0, l, h => by
    have : l = [] := by simpa [lotsL] using h
    rw [this]
    exact Nat.le_refl 0
  | n + 1, l, h => by
    rcases List.mem_append.mp h with h | h
    · exact Nat.le_succ_of_le (lotsL_small n l h)
    · obtain ⟨r, hr, rfl⟩ := List.mem_map.mp h
      rw [List.length_append]
      have := lotsL_small n r hr
      show r.length + 1 ≤ _
      omega
def catD (i : Nat) : PyData → PyData
  | .tuple xs => .tuple (xs ++ [.int i])
  | _ => .none
theorem lotsD_step (n : Nat) : lotsD n ++ (lotsD n).map (catD n) = lotsD (n + 1) := by
  unfold lotsD
  show _ = List.map _ (lotsL n ++ _)
  rw [List.map_append, List.map_map, List.map_map]
  congr 1
  apply List.map_congr_left
  intro l _
  show PyData.tuple (di l ++ [.int n]) = .tuple (di (l ++ [(n : Int)]))
  rw [← di_app]
  rfl
theorem df_all_lots (G : Glob mg) (F : FnP K "_law_all_lots" s__law_all_lots f fd) (hm : mg "_law_all_lots" = some (.ref f)) : Df P w K mg base T "_law_all_lots" 1 ["_law_many"] RallLots := by
  refine df_ofB F hm sc__law_all_lots (fun ds d ⟨m, _, e, _⟩ => by rw [e]; rfl) (fun _ _ _ _ _ _ us hl => match us, hl with | [_], _ => rfl) fun cdv A outer s H E ds d hr h => ?_
  obtain ⟨m, hm4, rfl, rfl⟩ := h
  refine b_cons (n1_asg 1 (r := .nl (lotsD 0)) sc__law_all_lots.nd (d_lst (a_cons (d_tup a_nil (by show 0 ≤ 1000; omega)) a_nil) (by show 1 ≤ 1000; omega))) (b_cons (for_R (j := 2) (n := m) (I := fun i => [.dt (.int m), .nl (lotsD i), .un, .un]) PassesOwn.never rfl G.f_range (dn 0) (by omega) (pg_name (i := 2) sc__law_all_lots.nd rfl (Or.inr rfl)) ⟨.inr rfl, .inr rfl, .inl rfl, .inl rfl, trivial⟩ (fun i hi => ?_)) (b_retD (de_l (dnl 1))))
  have hp : 2 ^ i ≤ 16 := Nat.le_trans (Nat.pow_le_pow_right (by omega) (show i ≤ 4 by omega)) (by decide)
  refine n_weak (n_cons (n1_asg 1 (r := .nl (lotsD (i + 1))) sc__law_all_lots.nd (by
    rw [← lotsD_step]
    refine d_catL (dnl 1) ?_ ?_
    · refine de_to (b := ((lotsD i).filter (fun _ => true)).map (catD i)) ?_ (by rw [filter_yes])
      refine lcL (x := "_law_lot") (j := 3) (f := catD i) (ds := lotsD i) rfl sc__law_all_lots.nd (de_l (dnl 1)) (blkOk_by (N := n__law_all_lots) (sc := defScope s__law_all_lots) (by decide +kernel)) (fun _ _ _ _ _ => pg_name (i := 3) sc__law_all_lots.nd rfl (Or.inl rfl)) ht_yes (he_of fun s H C cl fp d hd _ => ?_) (fun d hd _ => ?_) (by rw [lotsD_len]; omega)
      · obtain ⟨l, hl, rfl⟩ := List.mem_map.mp hd
        have := lotsL_small i l hl
        exact d_op o_cat (dn 3) (d_tup (a_cons (dn 2) a_nil) (by show 1 ≤ 1000; omega)) (.mk _ _ (by rw [List.length_map]; show l.length + 1 ≤ 1000; omega))
      · obtain ⟨l, hl, rfl⟩ := List.mem_map.mp hd
        show noLs (di l ++ [.int i]) = true
        exact noLs_app (noLs_ints l) rfl
    · rw [List.length_map, lotsD_len]
      omega)) n_nil) ⟨.inr rfl, .inr rfl, .inl rfl, .inl rfl, trivial⟩
theorem df_law_sum (G : Glob mg) (F : FnP K "_law_sum" s__law_sum f fd) (hm : mg "_law_sum" = some (.ref f)) : Df P w K mg base T "_law_sum" 1 ["_law_votes_here", "_law_lot"] RlawSum := by
  refine df_of F hm sc__law_sum (fun ds d ⟨vs, _, _, e, _⟩ => by rw [e]; rfl) (fun _ _ _ _ _ _ us hl => match us, hl with | [_, _], _ => rfl) fun cdv A outer s H E ds d hr h => ?_
  obtain ⟨vs, ns, I, rfl, rfl⟩ := h
  have hs : RSum [.list ((List.filter (fun _ => true) (di ns)).map (voteD vs))] (.int (votesIn vs ns)) := by
    rw [filter_yes, map_voteD]
    exact .lst _
  refine s_ret (d_callB (c_sum rfl) G.f_sum (by decide +kernel) (a_cons (de_l (lcT (x := "_law_copy") (j := 2) (f := voteD vs) rfl sc__law_sum.nd (dn 1) (blkOk_by (N := n__law_sum) (sc := defScope s__law_sum) (by decide +kernel)) (fun _ _ _ _ _ => pg_name (i := 2) sc__law_sum.nd rfl (Or.inl rfl)) ht_yes (he_of fun s H C cl fp d hd _ => ?_) (fun d hd _ => ?_) (by rw [List.length_map]; have := I.2; omega))) a_nil) hs)
  · obtain ⟨i, hi, rfl⟩ := mem_di hd
    exact d_ix (dn 0) (dn 2) (.tup _ _ _ (voteAt_get (I.1 i hi).1 (I.1 i hi).2))
  · obtain ⟨i, hi, rfl⟩ := mem_di hd
    rfl
end
end KM
set_option Elab.async false
set_option linter.all false
set_option maxRecDepth 100000
set_option maxHeartbeats 4000000
/-! _law_sure, _law_is_enough, _law_by_votes, _law_other -/
namespace KM
open PySem PySem.Spec PyProof.Rows L2
section
variable {X : Cx} {T : Tbl} {HB : Hp} {ρ ρ1 ρ2 : List Sl} {rest : List Stmt} {C : PyData → Prop} {elt tg iter : Expr} {ifs : List Expr} {scope : Scope} {x y : Str} {i j : Nat} {pos py spos : Pos} {ds : List PyData} {p : PyData → Bool} {f : PyData → PyData}
/-- y = [elt for x in t if ..], y an own list from now on -/
theorem b_lcT (hc : X.calm = true) (hN : X.N.Nodup) (hi : DD X T ρ iter (.tuple ds)) (ok : BlkOk X.N X.env.scope scope [(x, j)]) (hg : HG1 X scope tg j) (ht : HT1 X T ρ scope j ds ifs p) (he : HE1 X T ρ scope j ds elt p f)
    (hn : ∀ d ∈ ds, p d = true → noL (f d) = true) (hl : ds.length ≤ 1000) (h2 : ∀ q, New HB q → DB X T HB (ρ.set i (.ol q ((ds.filter p).map f))) rest C) (hy : X.N[i]? = some y) (hyl : X.env.scope.names.lookup y = some .local)
    (hsw : swapsWith (.ListComp elt [⟨tg, iter, ifs, 0⟩] scope pos) (some (.Name y py)) spos.line X.env = pure true) (hs : ∀ x, foldedSetIterable iter X.env x = pure x := by intro _; rfl) : DB X T HB ρ (.Assign [.Name y py] (.ListComp elt [⟨tg, iter, ifs, 0⟩] scope pos) spos :: rest) C :=
  b_new i (ps_setLc (own := [(x, j)]) hc hN hy hyl hsw (pi_tup hi) ok hg ht he hs) (fun _ _ _ k => lc_rdT hn hl k) h2
end
theorem itM_sub : ∀ (n : Nat) (l : List Int), (itM n l).length ≤ l.length
  | 0, l => Nat.le_refl _
  | n + 1, l => Nat.le_trans (List.length_eraseIdx_le _ _) (itM_sub n l)
theorem eraseIdx_di (ns : List Int) (k : Nat) : (di ns).eraseIdx k = di (ns.eraseIdx k) := by
  induction ns generalizing k with
  | nil => rfl
  | cons n r ih => cases k with
    | zero => rfl
    | succ k => exact congrArg (List.cons (PyData.int n)) (ih k)
def sameD : PyData → PyData
  | d => d
section
variable {P : Program} {w : World} {K : PySem.W.Frag} {mg : Str → Option Value} {base : Heap} {T : Tbl} {f : Addr} {fd : FuncData}
theorem df_law_sure (G : Glob mg) (F : FnP K "_law_sure" s__law_sure f fd) (hm : mg "_law_sure" = some (.ref f)) : Df P w K mg base T "_law_sure" 1 ["_law_votes_here", "_law_lot", "_law_unruly_here"] RlawSure := by
  refine df_ofB F hm sc__law_sure (fun ds d ⟨vs, _, _, _, _, e, _⟩ => by rw [e]; rfl) (fun _ _ _ _ _ _ us hl => match us, hl with | [_, _, _], _ => rfl) fun cdv A outer s H E ds d hr h => ?_
  obtain ⟨vs, ns, u, I, hu, rfl, rfl⟩ := h
  have hns := I.2
  refine b_lcT (x := "_law_copy") (i := 3) (j := 5) (ds := di ns) (f := voteD vs) (p := fun _ => true) rfl sc__law_sure.nd (dn 1) (blkOk_by (N := n__law_sure) (sc := defScope s__law_sure) (by decide +kernel)) (fun _ _ _ _ _ => pg_name (i := 5) sc__law_sure.nd rfl (Or.inl rfl)) ht_yes (he_of fun s H C cl fp d hd _ => ?_) (fun d hd _ => ?_) (by rw [List.length_map]; omega) (fun q nq => ?_) rfl rfl rfl
  · obtain ⟨i, hi, rfl⟩ := mem_di hd
    exact d_ix (dn 0) (dn 5) (.tup _ _ _ (voteAt_get (I.1 i hi).1 (I.1 i hi).2))
  · obtain ⟨i, hi, rfl⟩ := mem_di hd
    rfl
  rw [filter_yes, map_voteD]
  generalize hL : ns.map (voteAt vs) = L
  have hLl : L.length = ns.length := by rw [← hL, List.length_map]
  refine b_cons (for_R (j := 4) (n := min u ns.length) (I := fun i => [.dt (.tuple (di vs)), .dt (.tuple (di ns)), .dt (.int u), .ol q (di (itM i L)), .un, .un, .un]) PassesOwn.never rfl G.f_range (d_to (d_callB (c_min2 rfl) G.f_min (by decide +kernel) (a_cons (dn 2) (a_cons (d_callB c_len G.f_len (by decide +kernel) (a_cons (dol 3) a_nil) (.lst _)) a_nil)) (.mk _ _)) ?_) (by omega)
    (pg_name (i := 4) sc__law_sure.nd rfl (Or.inl rfl)) ⟨.inr rfl, .inr rfl, .inr rfl, .inr rfl, .inl rfl, .inl rfl, .inl rfl, trivial⟩ (fun i hi => ?_)) (b_retD (d_to (d_callB (c_sum rfl) G.f_sum (by decide +kernel) (a_cons (dol 3) a_nil) (.lst _)) ?_))
  · rw [List.length_map, hLl]
    congr 1
    split <;> omega
  · have hlen := itM_len i L (by omega)
    have hne : itM i L ≠ [] := fun z => by rw [z] at hlen; simp at hlen; omega
    have hmem := maxI_mem hne
    have hix := List.idxOf_lt_length_iff.mpr hmem
    have hle := itM_sub i L
    have hmax : RMax [.list (((di (itM i L)).filter (fun _ => true)).map sameD)] (.int (maxI (itM i L))) := by
      rw [filter_yes, show (di (itM i L)).map sameD = di (itM i L) from List.map_id _]
      exact .mk _ _ hmem fun y hy => maxI_ge hy
    refine n_weak (n_cons (n1_own (i := 3) (a := q) (ds := di (itM i L)) rfl nq (by exact ⟨noL_tup vs, noL_tup ns, rfl, trivial, rfl, trivial, trivial, trivial⟩) (o_popAt (k := ((itM i L).idxOf (maxI (itM i L)) : Nat)) rfl (d_index (i := 3) (q := q) (ns := itM i L) rfl (d_callB (c_max rfl) G.f_max (by decide +kernel) (a_cons (de_l (lcL (x := "_law_one_here") (j := 6) (ds := di (itM i L)) (f := sameD) (p := fun _ => true) rfl sc__law_sure.nd (dol 3) (blkOk_by (N := n__law_sure) (sc := defScope s__law_sure) (by decide +kernel))
      (fun _ _ _ _ _ => pg_name (i := 6) sc__law_sure.nd rfl (Or.inl rfl)) ht_yes (he_of fun s H C cl fp d hd _ => ?_) (fun d hd _ => ?_) (by rw [List.length_map]; omega))) a_nil) hmax) hmem) (by omega) (by rw [List.length_map]; omega) (by rw [List.length_map]; omega))) n_nil) ⟨.inr rfl, .inr rfl, .inr rfl, .inr ?_, .inl rfl, .inl rfl, .inl rfl, trivial⟩
    · obtain ⟨n, hn, rfl⟩ := mem_di hd
      exact d_callT c_int G.f_int (by decide +kernel) (a_cons (dn 6) a_nil) (.int n)
    · obtain ⟨n, hn, rfl⟩ := mem_di hd
      rfl
    · rw [Int.toNat_natCast, eraseIdx_di]
      rfl
  · unfold lawSure
    rw [hL]
theorem df_law_enough (G : Glob mg) (F : FnP K "_law_is_enough" s__law_is_enough f fd) (hm : mg "_law_is_enough" = some (.ref f)) (W : Df P w K mg base T "_law_sure" 1 ["_law_votes_here", "_law_lot", "_law_unruly_here"] RlawSure) : Df P w K mg base T "_law_is_enough" 2 ["_law_votes_here", "_law_need_here", "_law_unruly_here", "_law_lot"] RlawEnough := by
  refine df_of F hm sc__law_is_enough (fun ds d ⟨vs, _, _, _, _, _, e, _⟩ => by rw [e]; rfl) (fun _ _ _ _ _ _ us hl => match us, hl with | [_, _, _, _], _ => rfl) fun cdv A outer s H E ds d hr h => ?_
  obtain ⟨vs, need, ns, u, I, hu, rfl, rfl⟩ := h
  exact s_ret (d_cmp o_gt (d_call W hr (by decide) (a_cons (dn 0) (a_cons (dn 3) (a_cons (dn 2) a_nil))) ⟨vs, ns, u, I, hu, rfl, rfl⟩) (d_op o_sub (d_callB (c_sum rfl) G.f_sum (by decide +kernel) (a_cons (dn 0) a_nil) (.tup _)) (dn 1) (.mk _ _)) (.mk _ _) (nomark _))
def isMaxD (vs : List Int) (m : Int) : PyData → Bool
  | .int c => decide (voteAt vs c = m)
  | _ => false
theorem filter_max (vs l : List Int) (m : Int) : (((di l).filter (isMaxD vs m)).map sameD) = di (l.filter fun c => decide (voteAt vs c = m)) := by
  rw [show ∀ xs : List PyData, xs.map sameD = xs from fun xs => List.map_id xs]
  show List.filter _ (List.map _ _) = List.map _ (List.filter _ _)
  rw [List.filter_map]
  congr 1
theorem first_ix {l : List Int} {c : Int} (h : c ∈ l) : l[l.idxOf c]? = some c ∧ ∀ m, m < l.idxOf c → l[m]? ≠ some c := by
  have hlt := List.idxOf_lt_length_iff.mpr h
  refine ⟨by rw [List.getElem?_eq_getElem hlt]; exact congrArg some (List.getElem_idxOf hlt), fun m hm z => ?_⟩
  have h2 := List.not_of_lt_findIdx (p := fun x => x == c) (xs := l) (i := m) hm
  have e2 : l[m]'(Nat.lt_trans hm hlt) = c := (List.getElem?_eq_some_iff.mp z).2
  simp [e2] at h2
theorem lay_ints : ∀ ns : List Int, PyData.canLayAll0 (di ns) = true
  | [] => rfl
  | n :: r => lay_ints r
theorem dep_ints : ∀ ns : List Int, PyData.depthAll (di ns) ≤ 1
  | [] => by simp [PyData.depthAll]
  | n :: r => by
    have : PyData.depthAll (List.map PyData.int r) ≤ 1 := dep_ints r
    simp only [List.map_cons, PyData.depthAll, PyData.depth]
    omega
theorem shaped_of {d : PyData} (h1 : d.canLay0 = true) (h2 : d.depth ≤ 64) : SeqAt.shaped d = true := by
  show (PyData.canLay0 d && decide (PyData.depth d ≤ 64)) = true
  rw [h1, decide_eq_true h2]
  rfl
theorem shaped_ints (ns : List Int) : SeqAt.shaped (.list (di ns)) = true := by
  have h := dep_ints ns
  refine shaped_of (by simp only [PyData.canLay0]; exact lay_ints ns) ?_
  simp only [PyData.depth]
  omega
theorem eqv_nil (ns : List Int) : PyData.eqv (.list (di ns)) (.list []) = ns.isEmpty := by
  cases ns with
  | nil => rfl
  | cons n r => rfl
theorem atI_head (d : PyData) (r : List PyData) : atI (d :: r) 0 = some d := by
  unfold atI ixN
  rw [if_pos (Int.le_refl 0), if_pos (by rw [List.length_cons]; omega)]
  rfl
theorem df_law_by (G : Glob mg) (F : FnP K "_law_by_votes" s__law_by_votes f fd) (hm : mg "_law_by_votes" = some (.ref f)) : Df P w K mg base T "_law_by_votes" 1 ["_law_votes_here", "_law_lot"] RlawBy := by
  refine df_ofB F hm sc__law_by_votes (fun ds d ⟨vs, _, _, e, _⟩ => by rw [e]; rfl) (fun _ _ _ _ _ _ us hl => match us, hl with | [_, _], _ => rfl) fun cdv A outer s H E ds d hr h => ?_
  obtain ⟨vs, ns, I, rfl, rfl⟩ := h
  have hns := I.2
  refine b_par (i := 2) (j := 3) (x := "_law_left") (y := "_law_found") (ds1 := di ns) (ds2 := di []) rfl sc__law_by_votes.nd rfl rfl (by decide) rfl rfl (f_listOf G.f_list (dn 1)) (f_lst a_nil (by show 0 ≤ 1000; omega)) (fun q r nq nr hqr => ?_) rfl
  refine b_cons (while_D (n := ns.length) (I := fun k => [.dt (.tuple (di vs)), .dt (.tuple (di ns)), .ol q (di (stL vs ns (ns.length - k))), .ol r (di (stF vs ns (ns.length - k))), .un, .un]) PassesOwn.never ⟨.inr rfl, .inr rfl, .inr (by rw [Nat.sub_self]; rfl), .inr (by rw [Nat.sub_self]; rfl), .inl rfl, .inl rfl, trivial⟩ (fun k hk => ?_) (fun k hk => ?_)) (b_retD (dol 3))
  · refine t_to (t_cmp (o_ne hr.units) (dol 2) (de_l (d_lst a_nil (by show 0 ≤ 1000; omega))) ⟨⟨shaped_ints _, rfl⟩, rfl⟩ (nomark _)) ?_
    have hlen := stL_len (ns.length - k) (vs := vs) (l := ns) (by omega)
    rw [eqv_nil]
    cases hst : stL vs ns (ns.length - k) with
    | nil =>
      rw [hst] at hlen
      have : k = 0 := by
        simp at hlen
        omega
      subst this
      rfl
    | cons c r =>
      rw [hst] at hlen
      have : 0 < k := by
        simp at hlen
        omega
      rw [decide_eq_true this]
      rfl
  · obtain ⟨n, hn⟩ : ∃ n, ns.length = k + 1 + n := ⟨ns.length - (k + 1), by omega⟩
    have e1 : ns.length - (k + 1) = n := by omega
    have e2 : ns.length - k = n + 1 := by omega
    rw [e1, e2]
    have hlen := stL_len n (vs := vs) (l := ns) (by omega)
    have hne : stL vs ns n ≠ [] := fun z => by rw [z] at hlen; simp at hlen; omega
    obtain ⟨pm, pv, r', hf⟩ := pick_mem (vs := vs) hne
    have hsub : ∀ c ∈ stL vs ns n, 0 ≤ c ∧ c < vs.length := fun c hc => I.1 c (stL_sub n hc)
    have hmax : RMax [.list (((di (stL vs ns n)).filter (fun _ => true)).map (voteD vs))] (.int (maxI ((stL vs ns n).map (voteAt vs)))) := by
      rw [filter_yes, map_voteD]
      exact .mk _ _ (maxI_mem (by simpa using hne)) fun y hy => maxI_ge hy
    have hfl := stF_len n (vs := vs) (l := ns)
    refine n_weak (n_cons (n1_asg 4 (r := .dt (.int (maxI ((stL vs ns n).map (voteAt vs))))) sc__law_by_votes.nd (d_callB (c_max rfl) G.f_max (by decide +kernel) (a_cons (de_l (lcL (x := "_law_copy") (j := 5) (ds := di (stL vs ns n)) (f := voteD vs) (p := fun _ => true) rfl sc__law_by_votes.nd (dol 2) (blkOk_by (N := n__law_by_votes) (sc := defScope s__law_by_votes) (by decide +kernel))
      (fun _ _ _ _ _ => pg_name (i := 5) sc__law_by_votes.nd rfl (Or.inl rfl)) ht_yes (he_of fun s H C cl fp d hd _ => ?_) (fun d hd _ => ?_) (by rw [List.length_map]; omega))) a_nil) hmax)) (n_cons (n1_own (i := 3) (a := r) (ds := di (stF vs ns n)) rfl nr (by exact ⟨noL_tup vs, noL_tup ns, ⟨hqr, noLs_ints _⟩, trivial, rfl, trivial, trivial⟩) (o_append (d := .int (pick vs (stL vs ns n))) rfl (d_ix (de_l (lcL (x := "_law_copy") (j := 5) (ds := di (stL vs ns n)) (f := sameD) (p := isMaxD vs (maxI ((stL vs ns n).map (voteAt vs)))) rfl sc__law_by_votes.nd (dol 2) (blkOk_by (N := n__law_by_votes) (sc := defScope s__law_by_votes) (by decide +kernel))
      (fun _ _ _ _ _ => pg_name (i := 5) sc__law_by_votes.nd rfl (Or.inl rfl)) (ht_one fun s H C cl fp d hd => ?_) (he_of fun s H C cl fp d hd _ => dn 5) (fun d hd _ => ?_) (by rw [List.length_map]; omega))) d_int (.lst _ _ _ ?_)) rfl (by rw [List.length_map]; omega)))
      (n_cons (n1_own (i := 2) (a := q) (ds := di (stL vs ns n)) rfl nq (by exact ⟨noL_tup vs, noL_tup ns, trivial, ⟨fun z => hqr z.symm, noLs_app (noLs_ints _) rfl⟩, rfl, trivial, trivial⟩) (o_remove (k := pick vs (stL vs ns n)) (j := (stL vs ns n).idxOf (pick vs (stL vs ns n))) rfl (d_ix (dol 3) (d_un u_neg d_int (.mk 1)) (.lst _ _ _ ?_)) (first_ix pm).1 (first_ix pm).2)) n_nil))) ⟨.inr rfl, .inr rfl, .inr rfl, .inr ?_, .inl rfl, .inl rfl, trivial⟩
    · obtain ⟨i, hi, rfl⟩ := mem_di hd
      exact d_callT c_int G.f_int (by decide +kernel) (a_cons (d_ix (dn 0) (dn 5) (.tup _ _ _ (voteAt_get (hsub i hi).1 (hsub i hi).2))) a_nil) (.int _)
    · obtain ⟨i, hi, rfl⟩ := mem_di hd
      rfl
    · obtain ⟨i, hi, rfl⟩ := mem_di hd
      exact t_cmp o_eqI (d_ix (dn 0) (dn 5) (.tup _ _ _ (voteAt_get (hsub i hi).1 (hsub i hi).2))) (dn 4) (.mk _ _) (nomark _)
    · obtain ⟨i, hi, rfl⟩ := mem_di hd
      rfl
    · rw [filter_max, hf]
      exact atI_head _ _
    · unfold atI ixN
      rw [if_neg (by omega), List.length_append, List.length_map, hfl]
      show (if -(((n + 1 : Nat) : Int)) ≤ -1 then some _ else none).bind _ = _
      rw [if_pos (by omega)]
      show (di (stF vs ns n) ++ [PyData.int (pick vs (stL vs ns n))])[((-1 : Int) + ((n + 1 : Nat) : Int)).toNat]? = _
      rw [show ((-1 : Int) + ((n + 1 : Nat) : Int)).toNat = n by omega, List.getElem?_append_right (by rw [List.length_map, hfl]; exact Nat.le_refl _), List.length_map, hfl, Nat.sub_self]
      rfl
    · rw [show ([PyData.int (pick vs (stL vs ns n))] : List PyData) = di [pick vs (stL vs ns n)] from rfl, di_app]
      rfl
theorem df_law_other (G : Glob mg) (F : FnP K "_law_other" s__law_other f fd) (hm : mg "_law_other" = some (.ref f)) (W : Df P w K mg base T "_law_by_votes" 1 ["_law_votes_here", "_law_lot"] RlawBy) : Df P w K mg base T "_law_other" 2 ["_law_votes_here", "_law_lot", "_law_unruly_here"] RlawOther := by
  refine df_of F hm sc__law_other (fun ds d ⟨vs, _, _, _, _, e, _⟩ => by rw [e]; rfl) (fun _ _ _ _ _ _ us hl => match us, hl with | [_, _, _], _ => rfl) fun cdv A outer s H E ds d hr h => ?_
  obtain ⟨vs, ns, u, I, hv, rfl, rfl⟩ := h
  have hns := I.2
  have hcut : cutD (di (lawBy vs ns)) none (some (u : Int)) = di ((lawBy vs ns).take u) := by rw [cut_to, di_take]
  have hol := outside_len vs ns
  have hll : ((lawBy vs ns).take u).length ≤ 100 := by
    rw [List.length_take]
    have : (lawBy vs ns).length = ns.length := stF_len _
    omega
  refine s_asg 3 (r := .nl (di (outsideOf vs ns ++ (lawBy vs ns).take u))) sc__law_other.nd (de_to (d_catL (lcR (x := "_law_copy") (j := 4) (n := vs.length) (p := ninD ns) (f := id) rfl sc__law_other.nd G.f_range (d_to (d_callB c_len G.f_len (by decide +kernel) (a_cons (dn 0) a_nil) (.tup _)) (by rw [List.length_map])) (by omega) (by omega) (blkOk_by (N := n__law_other) (sc := defScope s__law_other) (by decide +kernel))
    (fun _ _ _ _ _ => pg_name (i := 4) sc__law_other.nd rfl (Or.inl rfl)) (ht_one fun s H C cl fp d hd => ?_) (he_of fun s H C cl fp d hd _ => dn 4) (fun d hd _ => ?_)) (de_to (d_slL (d_call W hr (by decide) (a_cons (dn 0) (a_cons (dn 1) a_nil)) ⟨vs, ns, I, rfl, rfl⟩) o_no (o_some (dn 2))) hcut) ?_) ?_) ?_
  · obtain ⟨i, hi, rfl⟩ := mem_di hd
    exact t_cmp o_nin (dn 4) (dn 1) (.tup i ns) rfl
  · obtain ⟨i, hi, rfl⟩ := mem_di hd
    rfl
  · rw [filter_nin, List.length_map, List.length_map]
    have h3 : (List.filter (fun i => !decide (i ∈ ns)) (upTo vs.length)).length ≤ vs.length := hol
    omega
  · rw [filter_nin, di_app]
    rfl
  · have hsrt : RSorted [.list (((di (outsideOf vs ns ++ (lawBy vs ns).take u)).filter (fun _ => true)).map sameD)] (.list (di (lawOther vs u ns))) := by
      rw [filter_yes, show ∀ xs : List PyData, xs.map sameD = xs from fun xs => List.map_id xs]
      exact sorted_is _
    refine s_ret (d_callT c_tup G.f_tuple (by decide +kernel) (a_cons (d_callB c_sorted G.f_sorted (by decide +kernel) (a_cons (de_l (lcL (x := "_law_copy") (j := 4) (ds := di (outsideOf vs ns ++ (lawBy vs ns).take u)) (f := sameD) (p := fun _ => true) rfl sc__law_other.nd (de_l (dnl 3)) (blkOk_by (N := n__law_other) (sc := defScope s__law_other) (by decide +kernel))
      (fun _ _ _ _ _ => pg_name (i := 4) sc__law_other.nd rfl (Or.inl rfl)) ht_yes (he_of fun s H C cl fp d hd _ => ?_) (fun d hd _ => ?_) (by rw [List.length_map, List.length_append]; omega))) a_nil) hsrt) a_nil) (.lst _))
    · obtain ⟨n, hn, rfl⟩ := mem_di hd
      exact d_callT c_int G.f_int (by decide +kernel) (a_cons (dn 4) a_nil) (.int n)
    · obtain ⟨n, hn, rfl⟩ := mem_di hd
      rfl
end
end KM
set_option Elab.async false
set_option linter.all false
set_option maxRecDepth 100000
set_option maxHeartbeats 4000000
/-! t[::-1] -/
namespace KM
open PySem PySem.Spec PyProof.Rows L2
theorem fm_congr {α β : Type} {f g : α → Option β} : ∀ {l : List α}, (∀ a ∈ l, f a = g a) → l.filterMap f = l.filterMap g
  | [], _ => rfl
  | a :: r, h => by
    have ih := fm_congr (l := r) fun b hb => h b (List.mem_cons_of_mem _ hb)
    rw [List.filterMap_cons, List.filterMap_cons, h a List.mem_cons_self, ih]
section
variable {prog : Program} {w : World} {A : Around} {E : Value → Shared → Prop} {s : Shared}
theorem rev_items (items : Array Value) : (List.range items.size).filterMap (fun (k : Nat) => items[((items.size : Int) - 1 + (k : Int) * (-1)).toNat]?) = items.toList.reverse := by
  have e : (List.range items.size).filterMap (fun (k : Nat) => items[((items.size : Int) - 1 + (k : Int) * (-1)).toNat]?) = ((List.range items.size).map fun k => items.size - 1 - k).filterMap (items[·]?) := by
    rw [List.filterMap_map]
    refine fm_congr fun k hk => ?_
    have hlt := List.mem_range.mp hk
    show items[((items.size : Int) - 1 + (k : Int) * (-1)).toNat]? = items[items.size - 1 - k]?
    rw [show ((items.size : Int) - 1 + (k : Int) * (-1)).toNat = items.size - 1 - k by omega]
  rw [e, PySem.W.krv_range, List.filterMap_reverse, PySem.W.krv_all]
theorem applied_rev {sl : Addr} {vl vu vs : Value} {n : Nat} {Q : Int × Int × Nat → Shared → Prop} (hs : s.heap.IsSliceOf sl vl vu vs) (pl : IsPart vl none) (pu : IsPart vu none) (ps : IsPart vs (some (-1))) (h : Q ((n : Int) - 1, -1, n) s) :
    wpAny (model prog w) A (Builtin.Slice.sliceApplied (.ref sl) (pure (n : Int))) Q E s := by
  obtain ⟨os, hos, hcs, hds⟩ := id hs
  unfold Builtin.Slice.sliceApplied Builtin.Slice.sliceFields
  refine wpAny_bind (wpAny_bind (wpAny_field hos hds (x := vl) rfl (wpAny_bind (wpAny_field hos hds (x := vu) rfl (wpAny_bind (wpAny_field hos hds (x := vs) rfl (wpAny_pure ?_)))))))
  refine wpAny_bind (HT.slicePart_ ps ?_)
  show wpAny _ _ (if ((-1 : Int) == 0) = true then _ else _) _ _ s
  rw [if_neg (by decide)]
  refine wpAny_bind (HT.slicePart_ pl (wpAny_bind (HT.slicePart_ pu (wpAny_bind (wpAny_pure ?_)))))
  show wpAny _ _ (pure ((n : Int) - 1, (-1 : Int), Builtin.Slice.slicePlaces ((n : Int) - 1) (-1) (-1))) _ _ s
  have e : Builtin.Slice.slicePlaces ((n : Int) - 1) (-1) (-1) = n := by
    unfold Builtin.Slice.slicePlaces
    rw [if_neg (by omega), show (- -1 : Int) = 1 by decide, Int.ediv_one]
    split <;> omega
  rw [e]
  exact wpAny_pure h
theorem getItem_tupRev {t sl : Addr} {items : Array Value} {vl vu vs : Value} {Q : Value → Shared → Prop} (ht : IsTup s.heap t items) (hs : s.heap.IsSliceOf sl vl vu vs) (pl : IsPart vl none) (pu : IsPart vu none) (ps : IsPart vs (some (-1)))
    (h : Q (.ref s.heap.objs.size) { s with heap := s.heap.push { cls := .type "tuple", data := .seq items.toList.reverse.toArray } }) (hsz : items.size ≤ sizeLine) : wpAny (model prog w) A (getItem (.ref t) (.ref sl)) Q E s := by
  have htake : sizeOk (.seq items.toList.reverse.toArray) := by
    show items.toList.reverse.toArray.size ≤ sizeLine
    rw [List.size_toArray, List.length_reverse, Array.length_toList]
    exact hsz
  obtain ⟨os, hos, hcs, hds⟩ := id hs
  have hTs : s.TypeIs (.ref sl) "slice" := ⟨os, hos, hcs⟩
  unfold getItem
  try with_reducible refine wpAny_holding ?_
  first | refine wpAny_bind (wpAny_pure ?_) | skip
  refine wpAny_bind (wpAny_sequenceKey ht.typeIs (by decide) ?_)
  refine wpAny_bind (wpAny_callSpecial?_slot (name := Str.ofString "__getitem__") ht.typeIs PyProof.Rows.slot_tuple_getitem
    (wpAny_call_entry PyProof.Rows.slot_tuple_getitem ht.typeIs entry_tuple_getitem ?_ (args_tuple_getitem _ _)))
  show wpAny _ _ (Builtin.Tuple.tupleItemsOf (.ref t) >>= _) _ _ s
  refine wpAny_bind (tupleItemsOf_ ht ?_)
  refine wpAny_bind (wpAny_typeOf hTs ?_)
  rw [if_pos (by decide)]
  refine wpAny_bind (applied_rev hs pl pu ps ?_)
  have hno : ¬ ((((items.size : Int) - 1) == 0 && (-1 : Int) == 1 && items.size == items.size) = true) := by
    simp
  show wpAny _ _ (if (((items.size : Int) - 1) == 0 && (-1 : Int) == 1 && items.size == items.size) = true then _ else _) _ _ s
  rw [if_neg hno]
  show wpAny _ _ ((Builtin.Tuple.tupleExact ((List.range items.size).filterMap (fun (k : Nat) => items[((items.size : Int) - 1 + (k : Int) * (-1)).toNat]?)).toArray) >>= _) _ _ s
  rw [rev_items]
  first
    | exact wpAny_bind (m := Builtin.Tuple.tupleExact _) (wpAny_newObj_type (wpAny_pure ⟨_, rfl, wpAny_pure h⟩) htake)
    | exact wpAny_bind (m := Builtin.Tuple.tupleExact _) (wpAny_newObj_type (wpAny_bind (wpAny_pure (wpAny_pure ⟨_, rfl, wpAny_pure h⟩))) htake)
end
section
variable {X : Cx} {T : Tbl} {ρ : List Sl}
theorem d_revT {e : Expr} {ds : List PyData} {k : Nat} {p1 p2 p3 pos : Pos} (he : DD X T ρ e (.tuple ds)) : DD X T ρ (.Subscript e (.Slice none none (some (.UnaryOp .USub (.Constant (.int 1) k p1) p2)) p3) pos) (.tuple ds.reverse) := by
  refine ⟨fun pins s σ H Q I h => ?_⟩
  refine PyProof.Rows.Subscript_ (thn (he.run pins s σ H (fun v H2 => Gr T H H2 ∧ Dp X.K H2 v (.tuple ds)) I ⟨h.1, fun v H2 g hv => ⟨g, hv⟩⟩) fun v s1 ⟨x, H1, I1, r1, g1, q1⟩ => ?_)
  obtain ⟨a, xs, ex, hx, hd⟩ := dp_tup q1
  subst ex
  cases r1
  have hst : PO X (some (.UnaryOp .USub (.Constant (.int 1) k p1) p2)) (tPart (tUn (rU fun i => .int (-i)) (tC (.int 1)))) := po_some (pe_un un_neg pe_int)
  refine wpAny_Slice (thn (po_none.run pins s1 σ H1 (fun o H2 => o = none ∧ H2 = H1) I1 ⟨rfl, rfl⟩) fun vl s2 ⟨l, H2, I2, pl, el, e2⟩ => ?_)
  subst el e2
  refine thn (po_none.run pins s2 σ H2 (fun o H3 => o = none ∧ H3 = H2) I2 ⟨rfl, rfl⟩) fun vu s3 ⟨u, H3, I3, pu, eu, e3⟩ => ?_
  subst eu e3
  refine thn (hst.run pins s3 σ H3 (fun o H4 => o = some (-1) ∧ H4 = H3) I3 ⟨1, rfl, -1, rfl, rfl, rfl⟩) fun vs s4 ⟨o, H4, I4, ps, eo, e4⟩ => ?_
  subst eo e4
  have I5 : Inv X pins σ H4 { s4 with heap := s4.heap.push { cls := .type "slice", data := .fields #[vl, vu, vs] } } := I4.kept (t' := s4.toks) fun b ob q => Heap.get?_push_of_some _ q
  obtain ⟨its, r, ht, hz⟩ := I5.tuple hx
  have hlen := r.length
  show wpAny (model X.prog X.w) X.A (subscriptTail e (.Slice none none (some (.UnaryOp .USub (.Constant (.int 1) k p1) p2)) p3) (.ref a) (.ref s4.heap.objs.size)) (EP X pins σ Q) X.xe { s4 with heap := s4.heap.push { cls := .type "slice", data := .fields #[vl, vu, vs] } }
  refine tail_any (ops := [.ref a, .ref s4.heap.objs.size]) ht.typeIs (PyProof.Rows.slot_tuple_getitem.lookup) ?_ (by with_unfolding_all rfl)
  refine getItem_tupRev ht (Heap.IsSliceOf.new _ vl vu vs) pl pu ps ?_ (by rw [List.size_toArray]; omega)
  have hf := I5.hok.fresh (Nat.le_refl _)
  refine ⟨.ref _, _, I5.laid (t' := s4.toks) (o := .tup xs.reverse) (fun b ob q => Heap.get?_push_of_some _ q) (Nat.le_refl _) ?_, rfl, h.2 _ _ (g1.trans (Gr.new hf)) (.tup (.of upd_same) ((Gr.new (T := T) hf).dpAll _ (dpAll_rev hd)))⟩
  exact ⟨by rw [List.length_reverse]; exact hz, _, by simpa using r.reverse, IsTup.new _ _⟩
end
end KM
set_option Elab.async false
set_option linter.all false
set_option maxRecDepth 100000
set_option maxHeartbeats 4000000
/-! _law_pool, _law_odd_papers -/
namespace KM
open PySem PySem.Spec PyProof.Rows L2
/-! ### defs that return a new list -/
def spF (K : PySem.W.Frag) (T : Tbl) (Pre : List PyData → Prop) (CL : List PyData → List PyData → Prop) : Sp := fun vs H Q _ => LamX.Tabs T H ∧ ∃ ds, DpAll K H vs ds ∧ Pre ds ∧ ∀ rs a xs H2, CL ds rs → Gr T H H2 → New H a → H2 a = some (.lst xs) → DpAll K (cutH H2 a) xs rs → Q (.ref a) H2
structure DfF (P : Program) (w : World) (K : PySem.W.Frag) (mg : Str → Option Value) (base : Heap) (T : Tbl) (x : Str) (k : Nat) (ps : List Str) (Pre : List PyData → Prop) (CL : List PyData → List PyData → Prop) : Prop where
  ex : ∃ (f : Addr) (fd : FuncData), FnOk P w K mg base CX0 k f fd ps (spF K T Pre CL) ∧ mg x = some (.ref f) ∧ PySem.W.keepIn K (.ref f) = true ∧ Binds K fd ps []
def tBF (K : PySem.W.Frag) (T : Tbl) (HB : Hp) (ρ : List Sl) (CL : List PyData → Prop) : TS := fun D σ H => Env K T ρ σ H ∧ Gr T HB H ∧ ∀ rs a xs H2, CL rs → Gr T HB H2 → New HB a → H2 a = some (.lst xs) → DpAll K (cutH H2 a) xs rs → D.rt (.ref a) H2
abbrev DBF (X : Cx) (T : Tbl) (HB : Hp) (ρ : List Sl) (st : List Stmt) (CL : List PyData → Prop) : Prop := PSs X st (tBF X.K T HB ρ CL)
section
variable {X : Cx} {T : Tbl} {HB : Hp} {ρ ρ1 ρ2 : List Sl} {e : Expr} {es : List Expr} {rest : List Stmt} {s : Stmt} {C A B : PyData → Prop} {CL : List PyData → Prop} {pos : Pos}
theorem fx_call {x : Str} {p : Pos} {k j : Nat} {ps : List Str} {Pre : List PyData → Prop} {CL' : List PyData → List PyData → Prop} {ds : List PyData} (D : DfF X.prog X.w X.K X.mg X.base T x k ps Pre CL') (hr : Room j X.A) (hk : k ≤ j) (ha : DA X T ρ (e :: es) ds) (hp : Pre ds) (hg : Gl X x := by rfl)
    (hdb : (x == ("__debug__" : Str)) = false := by decide) (he : starEach (e :: es) X.env = (false, eval e X.env) :: starEach es X.env := by rfl) (hpl : (backTo pos (starEach es X.env)).any (·.1) = false := by rfl) : PE X (.Call (.Name x p) (e :: es) [] pos) (tFX X.K T ρ (CL' ds)) := by
  obtain ⟨f, fd, F, hm, kp, hb⟩ := D.ex
  refine pe_imp (pe_call (dvs := []) (E := E0) F (hr.mono hk) hg hm kp hb .nil pass0 ha hdb he hpl) fun σ H Q q => ⟨q.1, fun vs H2 g hv => ?_⟩
  show spF X.K T Pre CL' (vs ++ []) H2 Q E0
  rw [List.append_nil]
  exact ⟨g.2 q.1.tabs, ds, hv, hp, fun rs a xs H3 c g3 n e d => q.2 rs a xs H3 c (g.trans g3) (New.back g n) e d⟩
theorem bf_cons (h : D1 X T HB ρ s ρ1) (h2 : DBF X T HB ρ1 rest CL) : DBF X T HB ρ (s :: rest) CL := pss_imp (pss_cons h h2) fun D σ H k => ⟨k.1, k.2.1, fun σ2 H2 e g => ⟨e, g, k.2.2⟩⟩
theorem bf_ret {rs : List PyData} (h : DF X T ρ e rs) (c : CL rs) : DBF X T HB ρ (.Return (some e) pos :: rest) CL := pss_imp (pss_cons (ps_ret h) pss_never) fun D σ H k => ⟨k.1, fun a xs H2 g n e d => k.2.2 rs a xs H2 c (k.2.1.trans g) (New.back k.2.1 n) e d⟩
end
section
variable {P : Program} {w : World} {K : PySem.W.Frag} {mg : Str → Option Value} {base : Heap} {T : Tbl} {x qual : Str} {st : Stmt} {f : Addr} {fd : FuncData} {N ps : List Str} {k : Nat}
theorem dff_of {Pre : List PyData → Prop} {CL : List PyData → List PyData → Prop} (F : FunD K x qual (defArgs st) (defBody st) (defScope st) [] [] f fd) (hm : mg x = some (.ref f)) (S : FnScope N ps (defScope st)) (len : ∀ ds, Pre ds → ds.length = ps.length)
    (hb : ∀ (kV doc pm : Value) (an : Option Addr) (cdv ct : Value) (us : List Value), us.length = ps.length → bindArgs (PySem.W.fnOf x qual (defArgs st) (defBody st) (defScope st) .none kV doc pm an cdv ct) ⟨us, []⟩ = pure (ps.zip us))
    (hbody : ∀ (cdv : Value) (A : Around) (outer : List PySem.Env) (s : Shared) (H : Hp) (E : XK) (ds : List PyData), Room k (A.deeper (envOfC qual (defScope st) s.heap.objs.size f cdv)) → Pre ds →
      DBF (bodyX P w K mg base N qual (defScope st) f cdv A outer s H E) T H (startD N ds) (defBody st) (CL ds)) : DfF P w K mg base T x (k + 1) ps Pre CL := by
  refine ⟨f, fd, F.ok S (fun vs H Q E h => ?_) (fun cdv A outer s H vs Q E hr h => ?_), hm, F.kp, F.bindsN hb⟩
  · obtain ⟨_, ds, hv, hp, _⟩ := h
    rw [dpAll_len hv]
    exact len ds hp
  · obtain ⟨ht, ds, hv, pre, q⟩ := h
    exact ⟨_, PSs.nox (hbody cdv A outer s H E ds hr pre), start_env ht hv, Gr.refl H, q⟩
end
def PrePool : List PyData → Prop := fun ds => ∃ (ns : List Int) (k : Nat), ds = [.list (di ns), .int k] ∧ k ≤ 1000
def ClPool : List PyData → List PyData → Prop := fun _ rs => ∃ x y : Int, rs = [.int x, .int y]
def PreOdd : List PyData → Prop := fun ds => ∃ vs need ns ms, ∃ u : Nat, VOk vs ∧ NeedOk vs need ∧ u ≤ vs.length ∧ LotOk vs ns ∧ LotOk vs ms ∧ ds = [.tuple (di vs), .int need, .int u, .tuple [.str "missed", .tuple (di ns), .tuple (di ms)]]
theorem get_or (ns : List Int) (k : Nat) (h : k < ns.length) : atI (di ns) k = some (.int (ns.getD k 0)) := by
  unfold atI ixN
  rw [if_pos (by omega), List.length_map, if_pos (by omega)]
  show (di ns)[(k : Int).toNat]? = _
  rw [Int.toNat_natCast, List.getElem?_map, List.getElem?_eq_getElem h, List.getD_eq_getElem?_getD, List.getElem?_eq_getElem h]
  rfl
theorem lotB_not9 {n : Int} {ms : List Int} (h : n ≤ 5) : lotB (ms ++ [9]) n = false := by
  unfold lotB
  rw [List.all_append]
  have : decide ((9 : Int) ≤ n - 1) = false := decide_eq_false (by omega)
  simp [this]
section
variable {P : Program} {w : World} {K : PySem.W.Frag} {mg : Str → Option Value} {base : Heap} {T : Tbl} {f : Addr} {fd : FuncData}
theorem df_pool (G : Glob mg) (F : FnP K "_law_pool" s__law_pool f fd) (hm : mg "_law_pool" = some (.ref f)) : DfF P w K mg base T "_law_pool" 1 ["_law_script", "_law_k"] PrePool ClPool := by
  refine dff_of F hm sc__law_pool (fun ds ⟨_, _, e, _⟩ => by rw [e]; rfl) (fun _ _ _ _ _ _ us hl => match us, hl with | [_, _], _ => rfl) fun cdv A outer s H E ds hr h => ?_
  obtain ⟨ns, k, rfl, hk⟩ := h
  have hc : ∃ c : Int, D1 (bodyX P w K mg base n__law_pool "_law_pool" (defScope s__law_pool) f cdv A outer s H E) T H [.dt (.list (di ns)), .dt (.int k), .dt (.int 0), .un, .un] ((defBody s__law_pool).getD 1 (.Pass default)) [.dt (.list (di ns)), .dt (.int k), .dt (.int c), .un, .un] := by
    by_cases hlt : k < ns.length
    · exact ⟨ns.getD k 0, n1_if (b := true) (t_to (t_cmp o_lt (dn 1) (d_callB c_len G.f_len (by decide +kernel) (a_cons (dn 0) a_nil) (.lst _)) (.mk _ _) (nomark _)) (by rw [List.length_map]; exact decide_eq_true (by omega))) (fun _ => n_cons (n1_asg 2 sc__law_pool.nd (d_ix (dn 0) (dn 1) (.lst _ _ _ (get_or ns k hlt)))) n_nil) (fun z => by cases z)⟩
    · exact ⟨0, n1_ifF (t_to (t_cmp o_lt (dn 1) (d_callB c_len G.f_len (by decide +kernel) (a_cons (dn 0) a_nil) (.lst _)) (.mk _ _) (nomark _)) (by rw [List.length_map]; exact decide_eq_false (by omega)))⟩
  obtain ⟨c, hc⟩ := hc
  refine bf_cons (n1_asg 2 (r := .dt (.int 0)) sc__law_pool.nd d_int) (bf_cons hc ?_)
  refine bf_cons (n1_asg 3 (r := .dt (.int (if -1 - c > c then -1 - c else c))) sc__law_pool.nd (d_callB (c_max2 rfl) G.f_max (by decide +kernel) (a_cons (d_callT c_int G.f_int (by decide +kernel) (a_cons (dn 2) a_nil) (.int _)) (a_cons (d_callT c_int G.f_int (by decide +kernel) (a_cons (d_op o_sub (d_un u_neg d_int (.mk 1)) (dn 2) (.mk _ _)) a_nil) (.int _)) a_nil)) (.mk _ _))) ?_
  generalize (if -1 - c > c then -1 - c else c) = b
  refine bf_cons (n1_asg 4 (r := .dt (.int ((b % 2147483629 + 7919 * (k : Int) * k + 31 * k + 17) * 48271 % 2147483647))) sc__law_pool.nd (d_op o_mod (d_callT c_int G.f_int (by decide +kernel) (a_cons (d_op o_mul
    (d_op o_add (d_op o_add (d_op o_add (d_op o_mod (d_callT c_int G.f_int (by decide +kernel) (a_cons (dn 3) a_nil) (.int _)) d_int (.mk _ _ (by omega))) (d_op o_mul (d_op o_mul d_int (dn 1) (.mk _ _ (.inl ⟨by omega, by omega⟩))) (dn 1) (.mk _ _ (.inr ⟨by omega, by omega⟩))) (.mk _ _)) (d_op o_mul d_int (dn 1) (.mk _ _ (.inl ⟨by omega, by omega⟩))) (.mk _ _)) d_int (.mk _ _))
    d_int (.mk _ _ (.inr ⟨by omega, by omega⟩))) a_nil) (.int _)) d_int (.mk _ _ (by omega)))) ?_
  generalize (b % 2147483629 + 7919 * (k : Int) * k + 31 * k + 17) * 48271 % 2147483647 = m
  refine bf_ret (f_lst (a_cons (d_op o_mul (dn 3) (d_callT c_int G.f_int (by decide +kernel) (a_cons (d_cmp o_ge (dn 3) (d_op o_pow d_int d_int (.mk _ _ ⟨by omega, by omega, by decide⟩)) (.mk _ _) (nomark _)) a_nil) (.bl _)) (.mk _ _ (.inr ?_))) (a_cons (dn 4) a_nil)) (by show 2 ≤ 1000; omega)) ⟨_, _, rfl⟩
  split <;> exact ⟨by omega, by omega⟩
end
end KM
set_option Elab.async false
set_option linter.all false
set_option maxRecDepth 100000
set_option maxHeartbeats 4000000
/-! _law_odd_papers -/
namespace KM
open PySem PySem.Spec PyProof.Rows L2
section
variable {X : Cx} {T : Tbl} {HB : Hp} {ρ ρ1 ρ2 : List Sl} {e : Expr} {es : List Expr} {rest : List Stmt} {s : Stmt} {C A B : PyData → Prop} {pos : Pos}
/-- x, y, z = a tuple -/
theorem n1_unp3 {i j l : Nat} {x y z : Str} {px py pz pt : Pos} {kt} {a b c : PyData} (hc : X.calm = true) (hN : X.N.Nodup) (h : DD X T ρ e (.tuple [a, b, c])) (hi : X.N[i]? = some x) (hj : X.N[j]? = some y) (hl : X.N[l]? = some z) (hx : Loc X.env.scope x) (hy : Loc X.env.scope y) (hz : Loc X.env.scope z)
    (fx : X.fn x = true ∨ X.env.scope.names.lookup x = some .local) (fy : X.fn y = true ∨ X.env.scope.names.lookup y = some .local) (fz : X.fn z = true ∨ X.env.scope.names.lookup z = some .local)
    (hs : swapsWithSole [.Tuple [.Name x px, .Name y py, .Name z pz] kt pt] e pos.line X.env = pure false := by rfl) (hw : swappedStores [.Tuple [.Name x px, .Name y py, .Name z pz] kt pt] e X.env = pure none := by rfl)
    (h1 : (assignEach [.Tuple [.Name x px, .Name y py, .Name z pz] kt pt] X.env).map (·.2) = [assign (.Tuple [.Name x px, .Name y py, .Name z pz] kt pt) X.env] := by rfl) :
    D1 X T HB ρ (.Assign [.Tuple [.Name x px, .Name y py, .Name z pz] kt pt] e pos) (((ρ.set i (.dt a)).set j (.dt b)).set l (.dt c)) :=
  ps_imp (ps_asg h (pg_tup (n := 3) hc (pgs_cons (pg_name hN hi hx fx) (pgs_cons (pg_name hN hj hy fy) (pgs_cons (pg_name hN hl hz fz) pgs_nil)))) hs hw h1) fun D σ H k => ⟨k.1, fun v H2 g hv => by
    obtain ⟨p, xs, e1, e2, e3⟩ := dp_tup hv
    subst e1
    cases e3 with
    | cons q1 e3 => cases e3 with
      | cons q2 e3 => cases e3 with
        | cons q3 e3 =>
          cases e3
          exact ⟨p, _, rfl, e2, rfl, _, _, rfl, _, _, rfl, _, _, rfl, rfl, k.2.2 _ H2 (((( k.1.gr g).set (r := .dt a) i q1).set (r := .dt b) j q2).set (r := .dt c) l q3) (k.2.1.trans g)⟩⟩
end
theorem noL_paper (x : Str) (ns ms : List Int) : noL (.tuple [.str x, .tuple (di ns), .tuple (di ms)]) = true := by
  show (true && (noLs (di ns) && (noLs (di ms) && true))) = true
  rw [noLs_ints, noLs_ints]
  rfl
theorem noL_paper0 (x : Str) (ms : List Int) : noL (.tuple [.str x, .none, .tuple (di ms)]) = true := by
  show (true && (true && (noLs (di ms) && true))) = true
  rw [noLs_ints]
  rfl
/-- the papers that are no papers -/
def oddL (ns ms : List Int) : List PyData :=
  (([.none, .list [.str "missed", .tuple (di ns), .tuple (di ms)], .tuple [.str "missed", .tuple (di ns)], .tuple [.str "missed", .tuple (di ns), .tuple (di ms), .tuple []], .tuple [.str "miss", .tuple (di ns), .tuple (di ms)], .tuple [.none, .tuple (di ns), .tuple (di ms)]] : List PyData) ++
    [.tuple [.str "missed", .list (di ns), .tuple (di ms)], .tuple [.str "missed", .tuple (di ns), .list (di ms)], .tuple [.str "missed", .tuple (di ns), .tuple (di ms.reverse ++ [.int 9])]]) ++ [.tuple [.str "missed", .none, .tuple (di ms)]]
theorem odd_no {vs : List Int} {need : Int} {u : Nat} {ns ms : List Int} (V : VOk vs) (hn : LotOk vs ns) (hm : LotOk vs ms) {d : PyData} (h : d ∈ oddL ns ms) : PaperR vs need u d false := by
  have ln : LotLike (.tuple (di ns)) := .inl ⟨ns, rfl, by have := hn.2; omega⟩
  have lm : LotLike (.tuple (di ms)) := .inl ⟨ms, rfl, by have := hm.2; omega⟩
  have hv := V.hi
  simp only [oddL, List.mem_append, List.mem_cons, List.not_mem_nil, or_false] at h
  rcases h with ((h | h | h | h | h | h) | (h | h | h)) | h
  · rw [h]; exact .notT _ rfl
  · rw [h]; exact .notT _ rfl
  · rw [h]; exact .len _ (by show (2 : Nat) ≠ 3; omega)
  · rw [h]; exact .len _ (by show (4 : Nat) ≠ 3; omega)
  · rw [h]; exact .word _ _ _ (by decide)
  · rw [h]; exact .notS _ _ _ rfl
  · rw [h]; exact .lots _ _ (.inr rfl) lm rfl
  · rw [h]; exact .lots _ _ ln (.inr rfl) (by rw [show isLotD vs.length (.list (di ms)) = false from rfl, Bool.and_false])
  · rw [h]
    have e : (di ms.reverse ++ [PyData.int 9] : List PyData) = di (ms.reverse ++ [9]) := by
      show di ms.reverse ++ di [9] = _
      exact di_app _ _
    rw [e]
    refine .lots _ _ ln (.inl ⟨_, rfl, ?_⟩) ?_
    · have h2 := hm.2
      rw [List.length_append, List.length_reverse]
      show ms.length + 1 ≤ 200
      omega
    · have e2 : isLotD vs.length (.tuple (di (ms.reverse ++ [9]))) = false := by
        unfold isLotD
        rw [intsD_tup, lotB_not9 (by omega)]
        rfl
      rw [e2, Bool.and_false]
  · rw [h]; exact .lots _ _ (.inr rfl) lm rfl
section
variable {P : Program} {w : World} {K : PySem.W.Frag} {mg : Str → Option Value} {base : Heap} {T : Tbl} {f : Addr} {fd : FuncData}
theorem df_odd (G : Glob mg) (F : FnP K "_law_odd_papers" s__law_odd_papers f fd) (hm : mg "_law_odd_papers" = some (.ref f)) (W1 : DfX P w K mg base T "_law_one" 2 ["_law_source", "_law_things"] PreOne PostOne) (WA : Df P w K mg base T "accepts_missed" 7 ["votes", "need", "unruly", "paper"] Raccepts) :
    DfX P w K mg base T "_law_odd_papers" 8 ["_law_source", "_law_votes_here", "_law_need_here", "_law_unruly_here", "_law_shown"] PreOdd (fun _ d => d = .bool true) := by
  refine dfx_of F hm sc__law_odd_papers (fun ds ⟨_, _, _, _, _, _, _, _, _, _, e⟩ => by rw [e]; rfl) (fun _ _ _ _ _ _ us hl => match us, hl with | [_, _, _, _, _], _ => rfl) fun cdv A outer s H E p ds hr hp h => ?_
  obtain ⟨vs, need, ns, ms, u, V, N, U, Ln, Lm, rfl⟩ := h
  have hn := Ln.2
  have hm := Lm.2
  refine b_cons (n1_unp3 (i := 5) (j := 6) (l := 7) rfl sc__law_odd_papers.nd (dn 4) rfl rfl rfl (Or.inl rfl) (Or.inl rfl) (Or.inl rfl) (Or.inr rfl) (Or.inr rfl) (Or.inr rfl)) ?_
  refine b_cons (n1_asg 8 sc__law_odd_papers.nd (d_lst (a_cons d_non (a_cons (de_l (d_lst (a_cons (dn 5) (a_cons (dn 6) (a_cons (dn 7) a_nil))) (by show 3 ≤ 1000; omega))) (a_cons (d_tup (a_cons (dn 5) (a_cons (dn 6) a_nil)) (by show 2 ≤ 1000; omega)) (a_cons (d_tup (a_cons (dn 5) (a_cons (dn 6) (a_cons (dn 7) (a_cons (d_tup a_nil (by show 0 ≤ 1000; omega)) a_nil)))) (by show 4 ≤ 1000; omega))
    (a_cons (d_tup (a_cons d_str (a_cons (dn 6) (a_cons (dn 7) a_nil))) (by show 3 ≤ 1000; omega)) (a_cons (d_tup (a_cons d_non (a_cons (dn 6) (a_cons (dn 7) a_nil))) (by show 3 ≤ 1000; omega)) a_nil)))))) (by show 6 ≤ 1000; omega))) ?_
  refine b_new 8 (asgF 8 sc__law_odd_papers.nd (f_catL (dnl 8) (d_lst (a_cons (d_tup (a_cons (dn 5) (a_cons (de_l (df_nl (f_listOf G.f_list (dn 6)))) (a_cons (dn 7) a_nil))) (by show 3 ≤ 1000; omega)) (a_cons (d_tup (a_cons (dn 5) (a_cons (dn 6) (a_cons (de_l (df_nl (f_listOf G.f_list (dn 7)))) a_nil))) (by show 3 ≤ 1000; omega))
    (a_cons (d_tup (a_cons (dn 5) (a_cons (dn 6) (a_cons (d_op o_cat (d_to (d_revT (dn 7)) (congrArg PyData.tuple (List.map_reverse (f := PyData.int) (l := ms)).symm)) (d_tup (a_cons d_int a_nil) (by show 1 ≤ 1000; omega)) (.mk _ _ (by rw [List.length_map, List.length_reverse]; show ms.length + 1 ≤ 1000; omega))) a_nil))) (by show 3 ≤ 1000; omega)) a_nil))) (by show 3 ≤ 1000; omega)) (by show 6 + 3 ≤ 1000; omega))) (fun _ _ _ k => k) (fun a na => ?_)
  have hpa : p ≠ a := fun z => by
    obtain ⟨_, z3⟩ := na (srcO p) (by rw [← z]; exact hp)
    cases z3
  refine b_cons (n1_own (i := 8) (a := a) rfl na (by exact ⟨hpa, noL_tup vs, rfl, rfl, noL_paper _ ns ms, rfl, noL_tup ns, noL_tup ms, trivial, trivial⟩)
    (o_append (d := .tuple [.str "missed", .none, .tuple (di ms)]) rfl (d_tup (a_cons (dn 5) (a_cons d_non (a_cons (dn 7) a_nil))) (by show 3 ≤ 1000; omega)) (noL_paper0 _ ms) (by show 9 < 1000; omega))) ?_
  refine b_ret (dx_cmp (A := fun d => d = .bool false) o_isB (dx_call WA hr (by decide) (ax_cons (dx_of (dn 1)) (ax_cons (dx_of (dn 2)) (ax_cons (dx_of (dn 3)) (ax_cons (A := fun d => d ∈ oddL ns ms) (dx_callX W1 hr (by decide) (dob 0) (ax_of (a_cons (dol 8) a_nil)) (fun ds e => ?_)) ax_nil)))) (fun ds hds => ?_)) (dx_of d_bl) (fun x y hx hy => ?_) (nomark _))
  · subst e
    refine ⟨⟨_, rfl, by show 0 < 10; omega, by show 10 ≤ 1000; omega⟩, fun d ⟨xs, e1, hd⟩ => ?_⟩
    have e2 : xs = oddL ns ms := by
      have z := congrArg (fun l : List PyData => l.head?) e1
      have z2 : some (PyData.list _) = some (PyData.list xs) := z
      exact (PyData.list.inj (Option.some.inj z2)).symm
    rw [← e2]
    exact hd
  · obtain ⟨_, _, rfl, rfl, _, _, rfl, rfl, _, _, rfl, rfl, d, _, rfl, hd, rfl⟩ := hds
    exact ⟨_, ⟨vs, need, d, false, u, V, N, U, odd_no V Ln Lm hd, rfl, rfl⟩, rfl⟩
  · subst hx hy
    exact ⟨_, .mk _ _, rfl⟩
end
end KM
set_option Elab.async false
set_option linter.all false
set_option maxRecDepth 100000
set_option maxHeartbeats 4000000
/-! enumerate(()) -/
namespace KM
open PySem PySem.Spec PyProof.Rows L2 PySem.W
open AutoSeq1 (wpAny_loadPart')
theorem meets_enumT (l : Addr) (items : Array Value) :
    Meets (Builtin.«enumerate.__new__» ⟨[.type "enumerate", .ref l], []⟩) (fun _ R s => s.heap.IsTuple l items ∧
      R (.ok (.ret (.ref (s.heap.push { cls := .type "tuple_iterator", data := .fields #[.ref l, .int 0 0] }).objs.size)))
        { s with heap := (s.heap.push { cls := .type "tuple_iterator", data := .fields #[.ref l, .int 0 0] }).push { cls := .type "enumerate", data := .fields #[.none, .bool false, .ref s.heap.objs.size, rawInt 0, .none, .none] } }) :=
  .of_wp fun prog w A R s h => by
    obtain ⟨hp, g, d, tk, os⟩ := s
    obtain ⟨h1, h⟩ := h
    have hsub := sub_enumerate
    have q1 : ∀ {A' : Around} {E : Value → Shared → Prop} {Q : Value → Shared → Prop}, Q (.ref hp.objs.size) ⟨hp.push { cls := .type "tuple_iterator", data := .fields #[.ref l, .int 0 0] }, g, d, tk, os⟩ → wpAny (model prog w) A' (pyIter (.ref l)) Q E ⟨hp, g, d, tk, os⟩ :=
      fun q => wpAny_pyIter_tuple (s := ⟨hp, g, d, tk, os⟩) h1 q
    wp_walk using q1
    refine wpAny_stack_any fun st => wpAny_pure ?_
    split
    · rename_i c _ _ _ _ _
      cases (c == Value.type "enumerate")
      all_goals
        wp_walk using q1
        exact ⟨_, rfl, h⟩
    · wp_walk using q1
      exact ⟨_, rfl, h⟩
section
variable {prog : Program} {w : World} {A : Around} {E : Value → Shared → Prop} {s : Shared}
theorem call_enumT {l : Addr} {items : Array Value} {Q : Value → Shared → Prop} (hL : s.heap.IsTuple l items)
    (h : ∀ h', IsEnum h' (s.heap.objs.size + 1) s.heap.objs.size 0 .none → h'.IsTupleIter s.heap.objs.size l 0 → (∀ b o, s.heap.get? b = some o → h'.get? b = some o) → Q (.ref (s.heap.objs.size + 1)) { s with heap := h' }) :
    wpAny (model prog w) A (call (.type "enumerate") [.ref l]) Q E s := by
  refine callType_new F.called_enumerate (by decide) (F.typeCall_enumerate_1 _) (F.newCall_enumerate_1 _) (fun obj => F.args_object_init_2 obj _) F.entry_enumerate_new (meets_enumT l items) ⟨hL, ?_⟩
  have hz : (s.heap.push { cls := .type "tuple_iterator", data := .fields #[.ref l, .int 0 0] }).objs.size = s.heap.objs.size + 1 := Heap.size_push ..
  show _ ∧ _
  rw [hz]
  have he : IsEnum ((s.heap.push { cls := .type "tuple_iterator", data := .fields #[.ref l, .int 0 0] }).push { cls := .type "enumerate", data := .fields #[.none, .bool false, .ref s.heap.objs.size, rawInt 0, .none, .none] }) (s.heap.objs.size + 1) s.heap.objs.size 0 .none := by
    have z := Heap.get?_push_size (s.heap.push { cls := .type "tuple_iterator", data := .fields #[.ref l, .int 0 0] }) (o := { cls := .type "enumerate", data := .fields #[.none, .bool false, .ref s.heap.objs.size, rawInt 0, .none, .none] }) rfl
    rw [hz] at z
    exact z
  exact ⟨⟨_, he, rfl⟩, h _ he ⟨_, Heap.get?_push_of_some _ (Heap.get?_push_size _ rfl), rfl, rfl⟩ fun b o x => Heap.get?_push_of_some _ (Heap.get?_push_of_some _ x)⟩
end
/-- no turn at all -/
def It0 (K : PySem.W.Frag) (a : Addr) : It := ⟨fun _ _ => False, fun _ _ _ _ => False, fun _ H => SqT K H a []⟩
theorem turn_enum0 {P : Program} {w : World} {K : PySem.W.Frag} {elts : List Expr} {kk : Nat} {tpos : Pos} (a e it : Addr) (hai : a ≠ it) :
    Turn P w K (.Tuple elts kk tpos) (It0 K a) [e, it] e (fun _ h => (∃ old, IsEnum h e it 0 old) ∧ h.IsTupleIter it a 0 ∧ e ≠ it) where
  mem := by simp
  obj := fun i h st b hb => by
    obtain ⟨⟨old, he⟩, ⟨o, ho, hc, hd⟩, _⟩ := st
    have e' : b = e ∨ b = it := by simpa using hb
    rcases e' with z | z
    · rw [z]; exact ⟨_, he, fun v q => nomatch q⟩
    · rw [z]; exact ⟨o, ho, fun v q => by rw [hd] at q; cases q⟩
  keep := fun i h h' st k => by
    obtain ⟨⟨old, he⟩, ⟨o, ho, r⟩, hne⟩ := st
    exact ⟨⟨old, k e (by simp) _ he⟩, ⟨o, k it (by simp) _ ho, r⟩, hne⟩
  item := by
    intro X hP hw hK hc i pins s σ H E I hf st hg
    exact hg.elim
  done := by
    intro X hP hw hK hc i pins s σ H E I hf st hg
    subst hP hw hK
    obtain ⟨⟨old, he⟩, hit, hne⟩ := st
    obtain ⟨its, rv, ht, _⟩ := I.tuple hg
    cases rv
    obtain ⟨f0, f1, f2, f3, f4, f5⟩ := hf it (by simp)
    have hh : X.A.in1.handled = none := I.ok.hd hc
    have hT : s.heap.IsTuple a #[] := ht
    exact wpAny_pyNext_enum_endD (n := 0) (Draws.tuple hh it a hai #[]) he ⟨hit, hT⟩ fun h' eb => ⟨rfl, I.turned (t' := s.toks) (fun b o hb q => eb b o hb q) f0 f1 f3 f4 f5⟩
  self := fun A i s Q E st h => let ⟨⟨_, he⟩, _⟩ := st; wpAny_pyIter_enum he h
def iEnum0 (K : PySem.W.Frag) (ta : TA) : TI := fun σ H R => ta σ H fun vs H1 => ∃ a, vs = [.ref a] ∧ SqT K H1 a [] ∧ R (It0 K a) H1
theorem pi_enum0 {X : Cx} {e : Expr} {ta : TA} {p pos tpos : Pos} {elts : List Expr} {kk : Nat} (hg : Gl X "enumerate") (hm : X.mg "enumerate" = none) (ha : PA X [e] ta) (hs : starEach [e] X.env = [(false, eval e X.env)] := by rfl) :
    PI X (.Tuple elts kk tpos) (.Call (.Name "enumerate" p) [e] [] pos) (iEnum0 X.K ta) := by
  refine ⟨fun pins s σ H R I h => ?_⟩
  refine Call_ (ld_blt I hg hm boot_enumerate (PyProof.Rows.callWith_type1 (thn (ha.run pos pins s σ H _ I h) fun us s1 ⟨vs, H1, I1, r1, q1⟩ => ?_) hs rfl))
  obtain ⟨a, ex, hq, q⟩ := q1
  subst ex
  cases r1 with
  | cons r rr =>
    cases rr
    cases r
    obtain ⟨its, rv, ht, hz⟩ := I1.tuple hq
    cases rv
    have hal : a < s1.heap.objs.size := ht.lt
    refine call_enumT (items := #[]) ht fun h' he hit hk => wpAny_pyIter_enum he ?_
    have I2 : Inv X pins σ H1 { s1 with heap := h' } := I1.kept (t' := s1.toks) hk
    refine ⟨s1.heap.objs.size + 1, [s1.heap.objs.size + 1, s1.heap.objs.size], _, _, H1, rfl, I2, turn_enum0 a (s1.heap.objs.size + 1) s1.heap.objs.size (Nat.ne_of_lt hal), ⟨⟨.none, he⟩, hit, Nat.succ_ne_self _⟩, fun b hb => ?_, q⟩
    have e' : b = s1.heap.objs.size + 1 ∨ b = s1.heap.objs.size := by simpa using hb
    have hle : s1.heap.objs.size ≤ b := by
      rcases e' with z | z <;> rw [z] <;> omega
    exact I1.fpOk hle (I1.hok.fresh hle)
end KM
set_option Elab.async false
set_option linter.all false
set_option maxRecDepth 100000
set_option maxHeartbeats 4000000
/-! {**a, **b} of an empty dict and one of at most one entry; sorted(d); sorted([], key=lambda ..) -/
namespace KM
open PySem PySem.Spec PyProof.Rows L2 PySem.W
section
variable {prog : Program} {w : World} {A : Around} {E : Value → Shared → Prop} {s : Shared}
section
variable {K : Type} [DecidableEq K] {knd : KeyKind prog w K}
/-- a pair is put into an empty dict -/
theorem wpAny_put0 {d : Addr} {k : K} {key v : Value} {Q : Unit → Shared → Prop} (hkey : knd.is k key = true) (hm : s.heap.DictOf knd d []) (h : ∀ h', h'.DictOf knd d [(k, v)] → Heap.SameBut d s.heap h' → Q () { s with heap := h' }) :
    wpAny (model prog w) A (dictPut d (knd.hash k) key v) Q E s := by
  obtain ⟨o, es, ep, ho, hc, hd, hk, hp, hn⟩ := hm
  have he0 : es = #[] := by
    cases es with
    | mk l =>
      cases l with
      | nil => rfl
      | cons e r => cases hp
  subst he0
  unfold dictPut
  refine wpAny_bind (wpAny_dictFind_of hkey ho hd hk ?_)
  have hi : ((#[] : Array DictEntry).findIdx? fun e => knd.is k e.key) = none := by simp
  rw [hi]
  refine wpAny_updateDictKeys (hz := Nat.zero_le _) ho hd (h _ ⟨_, _, ep + 1, Heap.get?_update_self _ ho (Obj.isFreed_of_dict (Obj.data_mapDictKeys hd _)), hc.mapDictKeys _, Obj.data_mapDictKeys hd _, hk.push hkey _, ?_, by simp⟩ (Heap.SameBut.update ..))
  show Pairs knd ((#[] : Array DictEntry).push _).toList _
  simpa using Pairs.cons (knd := knd) (e := ⟨knd.hash k, key, v⟩) (kv := (k, v)) hkey rfl .nil
theorem wpAny_merge00 {d a : Addr} {Q : Unit → Shared → Prop} (hd : s.heap.DictOf knd d []) (hda : a ≠ d) (hs : (a == sysModules) = false) (ha : s.heap.DictOf knd a []) (h : Q () s) : wpAny (model prog w) A (mergeMapping d (.ref a) false) Q E s := by
  obtain ⟨o, es, ep, ho, hc, hdat, hk, hp, hn⟩ := id ha
  obtain ⟨o2, es2, ep2, ho2, hc2, hdat2, hk2, hp2, hn2⟩ := id hd
  have he0 : es2 = #[] := by
    cases es2 with
    | mk l =>
      cases l with
      | nil => rfl
      | cons e r => cases hp2
  subst he0
  have hT : s.TypeIs (.ref a) "dict" := ha.typeIs
  have he1 : es = #[] := by
    cases es with
    | mk l =>
      cases l with
      | nil => rfl
      | cons e r => cases hp
  subst he1
  unfold mergeMapping
  refine wpAny_bind (wpAny_isInstance (T := "dict") (U := "dict") (b := true) hT isSubtype_dict_dict ?_)
  simp only [if_true]
  refine wpAny_bind (wpAny_specialOf hT F.slot_dict_iter.lookup (wpAny_bind (wpAny_pure ?_)))
  simp only [beq_self_eq_true, hs, Bool.false_eq_true, if_false]
  refine wpAny_bind (wpAny_dictEntries ho2 hdat2 ?_)
  simp only [Array.isEmpty_empty, if_true]
  refine wpAny_bind (wpAny_dictEntries ho hdat ?_)
  refine wpAny_bind ?_
  rw [show (#[] : Array DictEntry) = ([] : List DictEntry).toArray from rfl, List.forIn_toArray, List.forIn_nil]
  refine wpAny_pure ?_
  refine wpAny_bind (wpAny_dictEntries ho hdat (wpAny_bind (wpAny_dictEpoch ho hdat ?_)))
  refine wpAny_bind ?_
  rw [show (#[] : Array DictEntry).size = 0 from rfl, List.range_zero, List.forIn_nil]
  exact wpAny_pure (wpAny_pure h)
theorem wpAny_merge01 {d a : Addr} {k : K} {v : Value} {Q : Unit → Shared → Prop} (hd : s.heap.DictOf knd d []) (hda : a ≠ d) (hs : (a == sysModules) = false) (ha : s.heap.DictOf knd a [(k, v)]) (hnr : ∀ u, knd.is k u = true → ∃ i t, u = .int i t)
    (h : ∀ h', h'.DictOf knd d [(k, v)] → Heap.SameBut d s.heap h' → Q () { s with heap := h' }) : wpAny (model prog w) A (mergeMapping d (.ref a) false) Q E s := by
  obtain ⟨o, es, ep, ho, hc, hdat, hk, hp, hn⟩ := id ha
  obtain ⟨o2, es2, ep2, ho2, hc2, hdat2, hk2, hp2, hn2⟩ := id hd
  have he0 : es2 = #[] := by
    cases es2 with
    | mk l =>
      cases l with
      | nil => rfl
      | cons e r => cases hp2
  subst he0
  have hT : s.TypeIs (.ref a) "dict" := ha.typeIs
  obtain ⟨e, e0, hke, hve⟩ : ∃ e, es = #[e] ∧ knd.is k e.key = true ∧ e.val = v := by
    cases es with
    | mk l => cases hp with
      | cons h1 h2 h3 =>
        cases h3
        exact ⟨_, rfl, h1, h2⟩
  subst e0
  obtain ⟨k', hk1, hk2⟩ := hk e (by simp)
  obtain ⟨i, t, hkey⟩ := hnr _ hke
  have hkk : k' = k := knd.inj e.key k' k hk1 hke
  subst hkk
  unfold mergeMapping
  refine wpAny_bind (wpAny_isInstance (T := "dict") (U := "dict") (b := true) hT isSubtype_dict_dict ?_)
  simp only [if_true]
  refine wpAny_bind (wpAny_specialOf hT F.slot_dict_iter.lookup (wpAny_bind (wpAny_pure ?_)))
  simp only [beq_self_eq_true, hs, Bool.false_eq_true, if_false]
  refine wpAny_bind (wpAny_dictEntries ho2 hdat2 ?_)
  simp only [Array.isEmpty_empty, if_true]
  refine wpAny_bind (wpAny_dictEntries ho hdat ?_)
  refine wpAny_bind ?_
  rw [show (#[e] : Array DictEntry) = ([e] : List DictEntry).toArray from rfl, List.forIn_toArray, List.forIn_cons]
  obtain ⟨hsh, key, val⟩ := e
  have hkey : key = .int i t := hkey
  subst hkey
  refine wpAny_bind (wpAny_pure ?_)
  dsimp only
  rw [List.forIn_nil]
  refine wpAny_pure ?_
  refine wpAny_bind (wpAny_dictEntries ho hdat (wpAny_bind (wpAny_dictEpoch ho hdat ?_)))
  refine wpAny_bind ?_
  have hsz : (([(⟨hsh, .int i t, val⟩ : DictEntry)] : List DictEntry).toArray).size = 1 := rfl
  rw [hsz, show List.range 1 = [0] from rfl, List.forIn_cons]
  refine wpAny_bind (wpAny_bind (wpAny_dictEntries ho hdat ?_))
  have hg : ((([(⟨hsh, .int i t, val⟩ : DictEntry)] : List DictEntry).toArray) : Array DictEntry)[0]? = some ⟨hsh, .int i t, val⟩ := rfl
  rw [hg]
  dsimp only
  have hk2 : hsh = knd.hash k' := hk2
  subst hk2
  refine wpAny_bind (wpAny_holding (wpAny_put0 hke hd fun h' hd' sb => ?_))
  have ho' : h'.get? a = some o := (sb.2 a hda).trans ho
  refine wpAny_bind (wpAny_dictEpoch (s := { s with heap := h' }) ho' hdat ?_)
  rw [bne_self_eq_false, if_neg Bool.false_ne_true]
  refine wpAny_pure ?_
  dsimp only
  rw [List.forIn_nil]
  have hve : val = v := hve
  subst hve
  exact wpAny_pure (wpAny_pure (h h' hd' sb))
end
theorem wpAny_disp2 {ta tb : Sem Value} {Q : Value → Shared → Prop}
    (h : ∀ h' d, d = s.heap.objs.size → h' = s.heap.push { cls := .type "dict", data := .dict #[] } → wpAny (model prog w) A ta (fun m s2 => wpAny (model prog w) A (mergeMapping d m false) (fun _ s3 => wpAny (model prog w) A tb (fun m2 s4 => wpAny (model prog w) A (mergeMapping d m2 false) (fun _ s5 => Q (.ref d) s5) (fun _ _ => False) s4) E s3) (fun _ _ => False) s2) E { s with heap := h' }) :
    wpAny (model prog w) A (dictDisplay [(none, ta), (none, tb)]) Q E s := by
  unfold dictDisplay
  dsimp only
  rw [List.forIn_cons]
  refine wpAny_bind (wpAny_bind ?_)
  simp only [List.isEmpty_nil, if_true]
  refine wpAny_bind (wpAny_pure (wpAny_bind (wpAny_alloc (wpAny_bind (wpAny_holding ?_)))))
  refine wpAny_mono (h _ _ rfl rfl) (fun m s2 h2 => ?_) (fun _ _ x => x)
  refine wpAny_bind (wpAny_onRaise (wpAny_tryCatch (wpAny_onRaise (wpAny_holding (wpAny_mono h2 (fun _ s3 h3 => ?_) (fun _ _ x => x.elim))))))
  refine wpAny_pure ?_
  dsimp only
  rw [List.forIn_cons]
  refine wpAny_bind ?_
  simp only [List.isEmpty_nil, if_true]
  refine wpAny_bind (wpAny_pure (wpAny_bind (wpAny_pure (wpAny_bind (wpAny_holding ?_)))))
  refine wpAny_mono h3 (fun m2 s4 h4 => ?_) (fun _ _ x => x)
  refine wpAny_bind (wpAny_onRaise (wpAny_tryCatch (wpAny_onRaise (wpAny_holding (wpAny_mono h4 (fun _ s5 h5 => ?_) (fun _ _ x => x.elim))))))
  refine wpAny_pure ?_
  dsimp only
  rw [List.forIn_nil]
  refine wpAny_pure ?_
  simp only [List.isEmpty_nil, if_true]
  exact wpAny_bind (wpAny_pure (wpAny_pure h5))
end
end KM
set_option Elab.async false
set_option linter.all false
set_option maxRecDepth 100000
set_option maxHeartbeats 4000000
/-! the rules over them -/
namespace KM
open PySem PySem.Spec PyProof.Rows L2 PySem.W
def tDisp2 (ta tb : TE) : TE := fun σ H Q => ∀ p, H p = none → ta σ (upd H p (.dK [])) fun x H1 => H1 p = some (.dK []) ∧ ∃ a, x = .ref a ∧ a ≠ p ∧ Rd H1 a (.dK []) ∧ tb σ H1 fun y H2 => H2 p = some (.dK []) ∧ ∃ (b : Addr) (i : Int) (v : V), y = .ref b ∧ b ≠ p ∧ Rd H2 b (.dK [(.inl i, v)]) ∧ Q (.ref p) (upd H2 p (.dK [(.inl i, v)]))
section
variable {X : Cx}
theorem pe_disp2 {ea eb : Expr} {ta tb : TE} {pos : Pos} (ha : PE X ea ta) (hb : PE X eb tb) : PE X (.Dict [none, none] [ea, eb] pos) (tDisp2 ta tb) := by
  refine ⟨fun pins s σ H Q I h => ?_⟩
  rw [arm_eval_Dict]
  refine wpAny_bind (wpAny_standAt ?_)
  show wpAny _ _ (dictDisplay [(none, do let x ← eval ea X.env; standAt pos; pure x), (none, do let x ← eval eb X.env; standAt pos; pure x)]) _ _ s
  refine wpAny_disp2 fun h' d hd hh => ?_
  subst hd hh
  have hf := I.hok.fresh (Nat.le_refl s.heap.objs.size)
  have I1 : Inv X pins σ (upd H s.heap.objs.size (.dK [])) { s with heap := s.heap.push { cls := .type "dict", data := .dict #[] } } :=
    I.laid (t' := s.toks) (fun b o e => Heap.get?_push_of_some _ e) (Nat.le_refl _) (dk_empty s.heap I.big)
  refine wpAny_bind (thn (ha.run pins _ σ _ _ I1 (h _ hf)) fun u s2 ⟨x, H1, I2, r1, e1, a, ex, hap, hra, q1⟩ => wpAny_bind (wpAny_standAt (wpAny_pure ?_)))
  subst ex
  obtain rfl : u = Value.ref a := r1
  obtain ⟨_, _, vd, rd, dd⟩ := dk_of I2.hok e1
  cases rd
  obtain ⟨_, sa, va, ra, da⟩ := dk_rd I2.hok hra
  cases ra
  refine wpAny_merge00 dd hap sa da ?_
  refine wpAny_bind (thn (hb.run pins _ σ _ _ I2 q1) fun u s4 ⟨y, H2, I4, r2, e2, b, i, v, ey, hbp, hrb, q2⟩ => wpAny_bind (wpAny_standAt (wpAny_pure ?_)))
  subst ey
  obtain rfl : u = Value.ref b := r2
  obtain ⟨_, sd, vd2, rd2, dd2⟩ := dk_of I4.hok e2
  cases rd2
  obtain ⟨zb, sb, vb, rb, db⟩ := dk_rd I4.hok hrb
  obtain ⟨kv, evb, rel⟩ : ∃ kv : Key × Value, vb = [kv] ∧ (Sum.inl i = kv.1 ∧ RelV v kv.2) := by
    cases rb with
    | cons h1 h2 =>
      cases h2
      exact ⟨_, rfl, h1⟩
  subst evb
  obtain ⟨k', v'⟩ := kv
  obtain ⟨ek, rv⟩ := rel
  have ek : Sum.inl i = k' := ek
  subst ek
  refine wpAny_merge01 dd2 hbp sb db (fun u hu => ?_) fun h3 d3 same => ?_
  · rcases keyIs_shape (show keyIs (Sum.inl i) u = true from hu) with ⟨j, t, _, e⟩ | ⟨z, t, e, _⟩
    · exact ⟨j, t, e⟩
    · cases e
  · have he : ∃ q, h3.get? s.heap.objs.size = some q := let ⟨q, _, _, hq, _⟩ := d3; ⟨q, hq⟩
    exact ⟨.ref _, _, d_write (t' := s4.toks) I4 (by rw [e2]; trivial) same he (dk_new zb sd (.cons ⟨rfl, rv⟩ .nil) d3), rfl, q2⟩
/-! ### sorted(d) -/
theorem ints_get : ∀ {l : List Value} {ms : List Int}, l.length = ms.length → (∀ (j : Nat) (v : Value), l[j]? = some v → ∃ m t, ms[j]? = some m ∧ v = .int m t) → IntsAre l ms
  | [], [], _, _ => .nil
  | [], _ :: _, h, _ => by simp at h
  | _ :: _, [], h, _ => by simp at h
  | v :: l, m :: ms, h, q => by
    obtain ⟨m', t, e, ev⟩ := q 0 v rfl
    have e : m = m' := by simpa using e
    subst e
    subst ev
    exact .cons _ _ (ints_get (by simpa using h) fun j u hu => q (j + 1) u hu)
def rSortedD : List V → Hp → VK → Prop := fun xs H Q => ∃ (d : Addr) (kvs : List (Key × V)) (ms : List Int), xs = [.ref d] ∧ Rd H d (.dK kvs) ∧ kvs.map (·.1) = ms.map Sum.inl ∧ ∀ (ms' : List Int) (l : Addr), ms'.Perm ms → ms'.Pairwise (· ≤ ·) → H l = none → Q (.ref l) (upd H l (.lst (ms'.map V.int)))
theorem call_sortedD (hc : X.calm = true) : CallR X (.builtin "sorted") rSortedD := by
  intro pins s σ H xs us Q I r h
  obtain ⟨p, kvs, ms, rfl, hk, hms, q⟩ := h
  obtain ⟨u, rfl, rx⟩ := vals1 r
  obtain rfl : u = Value.ref p := rx
  obtain ⟨z, lo, vs, rk, hd⟩ := dk_rd I.hok hk
  obtain ⟨ep, hat⟩ := hd.dictAt
  have hl : kvs.length = vs.length := Paired.length rk
  have hml : ms.length = kvs.length := by
    have := congrArg List.length hms
    simpa using this.symm
  have hh : X.A.in1.handled = none := I.ok.hd hc
  refine Calls.call_function_entry kind_sorted plain_sorted entry_sorted (args_sorted1 _) ?_
  unfold Builtin.«sorted»
  refine wpAny_bind (m := checkCount "sorted" 1 1 _) (wpAny_pure ?_)
  refine wpAny_bind (PySem.W.kdu_collect (A := X.A.in1) (PySem.W.kdl_dict (knd := mixKind X.prog X.w) (kvs := vs) (ep := ep) lo) hh hat (by rw [← hl]; exact z) fun h' tk acc keeps hacc => ?_)
  have hsz : acc.size = ms.length := by rw [hacc.1, hml, hl]
  have hlen : acc.toList.length ≤ sizeLine := by
    rw [Array.length_toList, hacc.1, ← hl]
    exact z
  have hints : IntsAre acc.toList ms := by
    refine ints_get (by rw [Array.length_toList]; exact hsz) fun j v hj => ?_
    obtain ⟨k, y, hky, hi⟩ := hacc.2 j v (by rw [← Array.getElem?_toList]; exact hj)
    have e1 : (kvs.map (·.1))[j]? = some k := by
      rw [KV.keys rk, List.getElem?_map, hky] <;> rfl
    rw [hms, List.getElem?_map] at e1
    obtain ⟨m, hm, hmk⟩ := Option.map_eq_some_iff.mp e1
    subst hmk
    rcases keyIs_shape (show keyIs (Sum.inl m) v = true from hi) with ⟨j', t, e2, e⟩ | ⟨z', t, e, _⟩
    · have e3 : m = j' := Sum.inl.inj e2
      exact ⟨m, t, hm, by rw [e3]; exact e⟩
    · cases e
  refine wpAny_bind (wpAny_newList ?_ hlen)
  have ho : (h'.push { cls := .type "list", data := .seq acc.toList.toArray }).get? h'.objs.size = some (seqObj "list" acc.toList.toArray 0) := Heap.get?_push_size _ rfl
  have I1 : Inv X pins σ H { s with heap := h', toks := tk } := I.kept keeps
  refine wpAny_bind (wpAny_holding (wpAny_call_entry PyProof.Rows.slot_list_sort ⟨_, ho, rfl⟩ PyProof.Rows.entry_list_sort
    (SrtO.list_sort_ord (s := { s with heap := h'.push { cls := .type "list", data := .seq acc.toList.toArray }, toks := tk }) SrtO.swo_int ho hlen (fun h2 => SrtO.ints_sortable hints h2) fun out h1 h2 => ⟨_, rfl, ?_⟩) (PyProof.Rows.args_list_sort _)))
  obtain ⟨k1, k2, k3⟩ := SrtO.ints_out hints h1 h2
  obtain ⟨e2, he2⟩ := PyProof.Rows.sortedHeap_at (vs := acc.toList) (out := out.toArray) ho
  have hl2 : ((out.map SrtO.iv).map V.int).length ≤ sizeLine := by
    rw [List.length_map, k2.length_eq, ← hsz, ← Array.length_toList]
    exact hlen
  refine wpAny_pure ⟨_, rfl, ?_⟩
  have hfr : H h'.objs.size = none := I1.hok.fresh (Nat.le_refl _)
  refine ⟨.ref h'.objs.size, upd H h'.objs.size (.lst ((out.map SrtO.iv).map V.int)), I1.laid (t' := tk) (fun b o e => ?_) (Nat.le_refl _) ⟨hl2, out, e2, vals_of_ints k1, he2⟩, rfl, q _ _ k2 k3 hfr⟩
  have hb : b < h'.objs.size := Heap.lt_size e
  exact (PyProof.Rows.sortedHeap_old (Nat.ne_of_lt hb) (Heap.lt_size (Heap.get?_push_of_some _ e))).trans (Heap.get?_push_of_some _ e)
/-! ### sorted([], key=lambda ..) -/
variable {T : Tbl} {ρ : List Sl}
theorem d_sort0 {c P : Addr} {params : Arguments} {body : Expr} {scope : Scope} {e : Expr} {p pl pos kp : Pos} (TB : LamX.TabB X.base X.mg c P) (hcode : X.env.code = .ref c) (hmT : (P, X.env.qual ++ "<lambda>") ∈ T) (hu : ∀ p ∈ T, p.1 = P → p.2 = X.env.qual ++ "<lambda>")
    (hms : X.mg "sorted" = none) (he : DD X T ρ e (.list [])) (hdef : defaultsOf params X.env = ([], [])) (hfr : ∀ y ∈ scope.names, y.2 ≠ .free) (hg : Gl X "sorted" := by rfl) (hst : starEach [e] X.env = (false, eval e X.env) :: starEach [] X.env := by rfl)
    (hst2 : backTo pos (starEach [e] X.env) = (false, eval e X.env) :: backTo pos (starEach [] X.env) := by rfl) :
    DE X T ρ (.Call (.Name "sorted" p) [e] [⟨some "key", .Lambda params body scope pl, kp⟩] pos) (.nl []) := by
  refine ⟨fun pins s σ H Q I h => ?_⟩
  refine wpAny_Call_Name_kw (ld_blt (u := .builtin "sorted") I hg hms (by decide +kernel) ?_ (by decide) (by decide))
  refine PyProof.Rows.callWith_kw (thn ((a_cons he a_nil hst).run pos pins s σ H (fun us H2 => Gr T H H2 ∧ DpAll X.K H2 us [.list []]) I ⟨h.1, fun us H2 g hv => ⟨g, hv⟩⟩) fun us s1 ⟨xs, H1, I1, r1, g1, d1⟩ => ?_) hst2 (by rw [hst2]; rfl) (by rfl) (by rfl)
  show wpAny _ _ (evalAll ((do let v ← eval (.Lambda params body scope pl) X.env; standAt pos; pure v) :: [])) _ _ s1
  refine wpAny_evalAll_cons (wpAny_bind (LamX.lam_make2 I1 TB hcode hmT hu (g1.2 h.1.tabs) hdef (fun y hy z => absurd z (hfr y hy)) fun f c' pm ctv H2 s2 I2 ext tabs2 hf hfn hffr hcoo => wpAny_bind (wpAny_standAt (wpAny_pure (wpAny_evalAll_nil ?_)))))
  have g2 : Gr T H1 H2 := ⟨ext, fun _ => tabs2⟩
  have g12 := g1.trans g2
  obtain ⟨v1, e1, hv1⟩ := one_of (g2.dpAll _ d1)
  subst e1
  obtain ⟨a, ys, rfl, hq, hd⟩ := dp_lst hv1
  cases hd
  rw [Vals.ref1 r1]
  obtain ⟨its, rv, hit, hz⟩ := I2.list hq
  cases rv
  refine PySem.W.sorted_key_data (vs := []) (bs := ([] : List Int)) (b := false) (R := fun _ _ => True) (fun _ => .int 0) hit.isList .nil (fun d hd => by cases hd) (.inr fun d hd => by cases hd) (Nat.zero_le _) (fun x hx => by cases hx) (PyProof.Rows.ksk_s1 _ _) (fun _ => PyProof.Rows.ksk_l1 _ _) (fun _ => PyProof.Rows.ksk_t1 _ _)
    (fun v' y hR hy => by cases hy) fun out ce h' tk kp hfre hD hol ea => ?_
  have ho : out = [] := List.length_eq_zero_iff.mp hol
  subst ho
  exact ⟨.ref _, upd H2 (s2.heap.objs.size + 1) (.lst []), I2.laid (t' := tk) kp (Nat.le_succ _) ⟨Nat.zero_le _, [], ce, .nil, hD⟩, rfl, h.2 _ _ (g12.trans (Gr.new (I2.hok.fresh (Nat.le_succ _)))) ⟨_, _, rfl, upd_same, .nil⟩⟩
end
end KM
set_option Elab.async false
set_option linter.all false
set_option maxRecDepth 100000
set_option maxHeartbeats 4000000
/-! plainstore.deeds, for the one deed that the law writes -/
namespace KM
open PySem PySem.Spec PyProof.Rows L2
/-- the law's deed, the law's change -/
abbrev D5 : PyData := .tuple [.int 5, .str "add", .str "a", .int 1]
abbrev CH5 : PyData := .tuple [.str "in", D5]
def isLn : PyData → Bool
  | .list _ => true
  | .tuple _ => true
  | _ => false
theorem kit_Ln {K : PySem.W.Frag} (x : PyData) : PySem.W.kitAny K (.type (tyN x)) [.type "list", .type "tuple"] = some (isLn x) := by
  cases x with
  | list ds => exact kitAny_cons (b := true) (kit_ty (by kernel_rfl)) (fun z => by cases z) (fun _ => rfl)
  | tuple ds => exact kitAny_cons (b := false) (kit_ty (by kernel_rfl)) (fun _ => kitAny_cons (b := true) (kit_ty (by kernel_rfl)) (fun z => by cases z) (fun _ => rfl)) (fun z => by cases z)
  | _ => exact kitAny_cons (b := false) (kit_ty (by kernel_rfl)) (fun _ => kitAny_cons (b := false) (kit_ty (by kernel_rfl)) (fun _ => kitAny_nil) (fun z => by cases z)) (fun z => by cases z)
def Rln : List PyData → PyData → Prop := fun ds d => ∃ x, ds = [x] ∧ d = .bool (isLn x)
def Rname : List PyData → PyData → Prop := fun ds d => ds = [.str "a"] ∧ d = .bool true
def hasW (w : Str) (m : Int) : Bool := decide (m = 4) && decide (w = "add")
def Rhas : List PyData → PyData → Prop := fun ds d => ∃ w m, ds = [D5, .str w, .int m] ∧ d = .bool (hasW w m)
def R5 (b : PyData) : List PyData → PyData → Prop := fun ds d => ds = [D5] ∧ d = b
section
variable {X : Cx} {T : Tbl} {ρ : List Sl}
/-- isinstance(e, (list, tuple)) -/
theorem d_isLn {e : Expr} {k : Nat} {p p2 p3 p4 pos : Pos} {x : PyData} (he : DD X T ρ e x) (hm : X.mg "isinstance" = none) (hm1 : X.mg "list" = none) (hm2 : X.mg "tuple" = none) (hg : Gl X "isinstance" := by rfl) (hg1 : Gl X "list" := by rfl) (hg2 : Gl X "tuple" := by rfl)
    (hs : starEach [e, .Tuple [.Name "list" p2, .Name "tuple" p3] k p4] X.env = (false, eval e X.env) :: starEach [.Tuple [.Name "list" p2, .Name "tuple" p3] k p4] X.env := by rfl) (hpl : (backTo pos (starEach [.Tuple [.Name "list" p2, .Name "tuple" p3] k p4] X.env)).any (·.1) = false := by rfl) :
    DD X T ρ (.Call (.Name "isinstance" p) [e, .Tuple [.Name "list" p2, .Name "tuple" p3] k p4] [] pos) (.bool (isLn x)) := by
  refine pe_imp (pe_callB call_isiT hg hm (by decide +kernel) (pa_cons he (pa_cons (pe_tup (pa_cons (pe_bltn (v := .ty "list") hg1 hm1 (by decide +kernel) rfl (by decide) (by decide)) (pa_cons (pe_bltn (v := .ty "tuple") hg2 hm2 (by decide +kernel) rfl (by decide) (by decide)) pa_nil))) pa_nil) hs) (by decide) (by decide) hs hpl) fun σ H Q k => ⟨k.1, fun v H2 g hv => ?_⟩
  refine ⟨by show 2 ≤ sizeLine; rw [sizeLine_eq]; omega, fun q hq => ?_⟩
  exact ⟨v, q, [.ty "list", .ty "tuple"], .type (tyN x), [.type "list", .type "tuple"], isLn x, rfl, upd_same, .cons (.ty _) (.cons (.ty _) .nil), ty_of ((Gr.new (T := T) hq).dp _ hv), kit_Ln x, k.2 _ _ (g.trans (Gr.new hq)) (.bl _)⟩
/-! ### [elt for x in "c"] -/
def teS (K : PySem.W.Frag) (T : Tbl) (ρ : List Sl) (j : Nat) (c : Nat) (d : PyData) : TE := tE K T ((wipeR ρ [j]).set j (.dt (.str ⟨#[c]⟩))) (.dt d)
theorem lc_rdS {K : PySem.W.Frag} {j c : Nat} {d : PyData} {σ : L2.St} {H : Hp} {Q : VK} (hn : noL d = true) (k : tE K T ρ (.nl [d]) σ H Q) :
    tLc (iStr (tE K T ρ (.dt (.str ⟨#[c]⟩)))) (gName j) tYes (teS K T ρ j c d) [j] σ H Q := by
  refine ⟨k.1, fun v H1 g1 h1 => ⟨_, dp_str h1, fun D hD => ⟨fun i m H => (m = 1 ∧ i = 0 ∧ Grows K T H1 D [] H) ∨ (m = 0 ∧ i = 1 ∧ Grows K T H1 D [d] H), ⟨1, .inl ⟨rfl, rfl, Grows.start hD⟩⟩, ?_⟩⟩⟩
  rintro i m H' (⟨rfl, rfl, P⟩ | ⟨rfl, rfl, P⟩)
  · refine .inr ⟨by show 0 < 1; omega, fun H => Grows K T H1 D [d] H, fun H2 P2 => ⟨0, by omega, .inr ⟨rfl, rfl, P2⟩⟩, fun x H2 hy => ?_⟩
    obtain ⟨e, c', hc, ex⟩ := hy
    subst e ex
    have hc' : c = c' := by simpa using hc
    subst hc'
    refine ⟨wipe_one σ j _, ((k.1.gr (g1.trans P.1)).wipe [j]).set (r := .dt (.str ⟨#[c]⟩)) j (.str _), fun y H4 g4 hy => ?_⟩
    exact P.add hD g4 hy hn (by show 0 < 1000; omega)
  · exact .inl ⟨by show 1 ≤ 1; omega, k.2 _ H' (g1.trans P.1) P.done⟩
theorem lcS {elt tg iter : Expr} {scope : Scope} {x : Str} {j c : Nat} {pos : Pos} {d : PyData} (hc : X.calm = true) (hN : X.N.Nodup) (hi : DD X T ρ iter (.str ⟨#[c]⟩)) (ok : BlkOk X.N X.env.scope scope [(x, j)]) (hg : HG1 X scope tg j)
    (he : ∀ (s : Shared) (H : Hp) (C : Addr) (cl : List (Str × Addr)) (fp : List Addr), DD (X.blk s H scope (compEnvC scope cl C X.env) fp) T ((wipeR ρ [j]).set j (.dt (.str ⟨#[c]⟩))) elt d) (hn : noL d = true) (hs : ∀ x, foldedSetIterable iter X.env x = pure x := by intro _; rfl) :
    DE X T ρ (.ListComp elt [⟨tg, iter, [], 0⟩] scope pos) (.nl [d]) :=
  pe_imp (pe_lc (own := [(x, j)]) (te := teS X.K T ρ j c d) hc hN (pi_str hi) ok hg (fun _ _ _ _ _ => pts_nil) (fun s H C cl fp => he s H C cl fp) hs) fun _ _ _ k => lc_rdS hn k
end
section
variable {P : Program} {w : World} {K : PySem.W.Frag} {mg : Str → Option Value} {base : Heap} {T : Tbl} {f : Addr} {fd : FuncData}
theorem df_is_line (G : Glob mg) (F : FnP K "is_line" s_is_line f fd) (hm : mg "is_line" = some (.ref f)) : Df P w K mg base T "is_line" 1 ["value"] Rln := by
  refine df_of F hm sc_is_line (fun ds d ⟨x, e, _⟩ => by rw [e]; rfl) (fun _ _ _ _ _ _ us hl => match us, hl with | [_], _ => rfl) fun cdv A outer s H E ds d hr h => ?_
  obtain ⟨x, rfl, rfl⟩ := h
  exact s_ret (d_isLn (dn 0) G.f_isinstance G.f_list G.f_tuple)
theorem df_is_name (G : Glob mg) (F : FnP K "is_name" s_is_name f fd) (hm : mg "is_name" = some (.ref f)) : Df P w K mg base T "is_name" 1 ["value"] Rname := by
  refine df_of F hm sc_is_name (fun ds d ⟨e, _⟩ => by rw [e]; rfl) (fun _ _ _ _ _ _ us hl => match us, hl with | [_], _ => rfl) fun cdv A outer s H E ds d hr h => ?_
  obtain ⟨rfl, rfl⟩ := h
  refine s_ret (d_to (b := .bool (isS (.str "a") && ((decide ((1 : Int) ≤ ((("a" : Str).length : Nat) : Int)) && decide (((("a" : Str).length : Nat) : Int) ≤ 4)) && [true].all id))) (d_and (d_isi (dn 0) G.f_isinstance G.f_str (kit_S _)) fun _ => d_and (d_chain o_le o_le d_int (d_callB c_len G.f_len (by decide +kernel) (a_cons (dn 0) a_nil) (.str _ (by decide +kernel))) d_int (.mk _ _) (.mk _ _)) fun _ =>
    d_one (d_callB (c_all rfl) G.f_all (by decide +kernel) (a_cons (de_l (lcS (x := "sign") (j := 1) (c := 97) (d := .bool true) rfl sc_is_name.nd (dn 0) (blkOk_by (N := n_is_name) (sc := defScope s_is_name) (by decide +kernel)) (fun _ _ _ _ _ => pg_name (i := 1) sc_is_name.nd rfl (Or.inl rfl)) (fun s H C cl fp => ?_) rfl)) a_nil) (.mk [true]))) (congrArg PyData.bool ?_))
  · exact d_to (d_cmp o_sign (dn 1) (d_gstr G.c_LETTERS) (.mk 97 _) rfl) (congrArg PyData.bool (by decide +kernel))
  · decide +kernel
theorem df_has_word (G : Glob mg) (F : FnP K "has_word" s_has_word f fd) (hm : mg "has_word" = some (.ref f)) (W : Df P w K mg base T "is_moment" 3 ["value"] (Rnum1 1 999)) : Df P w K mg base T "has_word" 4 ["value", "word", "many"] Rhas := by
  refine df_of F hm sc_has_word (fun ds d ⟨_, _, e, _⟩ => by rw [e]; rfl) (fun _ _ _ _ _ _ us hl => match us, hl with | [_, _, _], _ => rfl) fun cdv A outer s H E ds d hr h => ?_
  obtain ⟨wd, m, rfl, rfl⟩ := h
  by_cases hm4 : m = 4
  · subst hm4
    refine s_ifF (t_to (b := !true || (!decide (((([.int 5, .str "add", .str "a", .int 1] : List PyData).length : Nat) : Int) = 4) || !(num (.int 5) 1 999))) (t_w (w_or (t_not (t_val (d_isi (dn 0) G.f_isinstance G.f_tuple (kit_T _)))) fun _ => w_or (t_cmp o_neI (d_callB c_len G.f_len (by decide +kernel) (a_cons (dn 0) a_nil) (.tup _)) (dn 2) (.mk _ _) (nomark _)) fun _ =>
      w_or1 (t_not (t_val (d_call W hr (by decide) (a_cons (d_ix (dn 0) d_int (.tup _ _ _ rfl)) a_nil) ⟨_, rfl, rfl⟩))))) (by decide +kernel)) ?_
    refine s_ret (d_to (d_and (d_isi (d_ix (dn 0) d_int (.tup _ _ _ rfl)) G.f_isinstance G.f_str (kit_S _)) fun _ => d_one (d_cmp o_eqS (d_ix (dn 0) d_int (.tup _ _ _ rfl)) (dn 1) (.mk _ _) (nomark _))) ?_)
    show PyData.bool (true && decide (("add" : Str) = wd)) = .bool (hasW wd 4)
    unfold hasW
    rw [Bool.true_and]
    congr 1
    by_cases h : ("add" : Str) = wd
    · have h2 : wd = "add" := h.symm
      rw [decide_eq_true h, decide_eq_true h2]
      rfl
    · have h2 : ¬ wd = "add" := fun z => h z.symm
      rw [decide_eq_false h, decide_eq_false h2]
      rfl
  · refine s_ifT (t_to (b := !true || (!decide (((([.int 5, .str "add", .str "a", .int 1] : List PyData).length : Nat) : Int) = m) || false)) (t_w (w_or (t_not (t_val (d_isi (dn 0) G.f_isinstance G.f_tuple (kit_T _)))) fun _ => w_or (t_cmp o_neI (d_callB c_len G.f_len (by decide +kernel) (a_cons (dn 0) a_nil) (.tup _)) (dn 2) (.mk _ _) (nomark _)) fun z => ?_)) ?_) (s_ret (d_to d_bl ?_))
    · have h4 : ¬ (((([.int 5, .str "add", .str "a", .int 1] : List PyData).length : Nat) : Int) = m) := fun z => hm4 z.symm
      rw [decide_eq_false h4] at z
      cases z
    · have h4 : ¬ (((([.int 5, .str "add", .str "a", .int 1] : List PyData).length : Nat) : Int) = m) := fun z => hm4 z.symm
      rw [decide_eq_false h4]
      rfl
    · unfold hasW
      rw [decide_eq_false hm4]
      rfl
theorem df_is_row (G : Glob mg) (F : FnP K "is_row_deed" s_is_row_deed f fd) (hm : mg "is_row_deed" = some (.ref f)) (W : Df P w K mg base T "has_word" 4 ["value", "word", "many"] Rhas) : Df P w K mg base T "is_row_deed" 5 ["value"] (R5 (.bool false)) := by
  refine df_of F hm sc_is_row_deed (fun ds d ⟨e, _⟩ => by rw [e]; rfl) (fun _ _ _ _ _ _ us hl => match us, hl with | [_], _ => rfl) fun cdv A outer s H E ds d hr h => ?_
  obtain ⟨rfl, rfl⟩ := h
  refine s_ifF (t_to (t_val (d_call W hr (by decide) (a_cons (dn 0) (a_cons d_str (a_cons d_int a_nil))) ⟨_, _, rfl, rfl⟩)) (by decide +kernel)) (s_ret (d_to (b := .bool (hasW "strike" 3 && false)) (d_and (d_call W hr (by decide) (a_cons (dn 0) (a_cons d_str (a_cons d_int a_nil))) ⟨_, _, rfl, rfl⟩) fun z => ?_) rfl))
  exact absurd z (by decide +kernel)
theorem df_is_col (G : Glob mg) (F : FnP K "is_column_deed" s_is_column_deed f fd) (hm : mg "is_column_deed" = some (.ref f)) (W : Df P w K mg base T "has_word" 4 ["value", "word", "many"] Rhas) (WN : Df P w K mg base T "is_name" 1 ["value"] Rname) (WC : Df P w K mg base T "is_cell" 3 ["value"] (Rnum1 0 99)) :
    Df P w K mg base T "is_column_deed" 5 ["value"] (R5 (.bool true)) := by
  refine df_of F hm sc_is_column_deed (fun ds d ⟨e, _⟩ => by rw [e]; rfl) (fun _ _ _ _ _ _ us hl => match us, hl with | [_], _ => rfl) fun cdv A outer s H E ds d hr h => ?_
  obtain ⟨rfl, rfl⟩ := h
  exact s_ifT (t_to (t_val (d_call W hr (by decide) (a_cons (dn 0) (a_cons d_str (a_cons d_int a_nil))) ⟨_, _, rfl, rfl⟩)) (by decide +kernel)) (s_ret (d_to (b := .bool (true && num (.int 1) 0 99)) (d_and (d_call WN hr (by decide) (a_cons (d_ix (dn 0) d_int (.tup _ _ _ rfl)) a_nil) ⟨rfl, rfl⟩) fun _ => d_one (d_call WC hr (by decide) (a_cons (d_ix (dn 0) d_int (.tup _ _ _ rfl)) a_nil) ⟨_, rfl, rfl⟩)) (congrArg PyData.bool (by decide +kernel))))
theorem df_is_deed (G : Glob mg) (F : FnP K "is_deed" s_is_deed f fd) (hm : mg "is_deed" = some (.ref f)) (W1 : Df P w K mg base T "is_row_deed" 5 ["value"] (R5 (.bool false))) (W2 : Df P w K mg base T "is_column_deed" 5 ["value"] (R5 (.bool true))) : Df P w K mg base T "is_deed" 6 ["value"] (R5 (.bool true)) := by
  refine df_of F hm sc_is_deed (fun ds d ⟨e, _⟩ => by rw [e]; rfl) (fun _ _ _ _ _ _ us hl => match us, hl with | [_], _ => rfl) fun cdv A outer s H E ds d hr h => ?_
  obtain ⟨rfl, rfl⟩ := h
  exact s_ret (d_to (b := .bool (false || true)) (d_or (d_call W1 hr (by decide) (a_cons (dn 0) a_nil) ⟨rfl, rfl⟩) fun _ => d_one (d_call W2 hr (by decide) (a_cons (dn 0) a_nil) ⟨rfl, rfl⟩)) rfl)
theorem df_check_deed (G : Glob mg) (F : FnP K "check_deed" s_check_deed f fd) (hm : mg "check_deed" = some (.ref f)) (W : Df P w K mg base T "is_deed" 6 ["value"] (R5 (.bool true))) : Df P w K mg base T "check_deed" 7 ["deed"] (R5 .none) := by
  refine df_of F hm sc_check_deed (fun ds d ⟨e, _⟩ => by rw [e]; rfl) (fun _ _ _ _ _ _ us hl => match us, hl with | [_], _ => rfl) fun cdv A outer s H E ds d hr h => ?_
  obtain ⟨rfl, rfl⟩ := h
  exact s_ifF (t_notF (t_val (d_call W hr (by decide) (a_cons (dn 0) a_nil) ⟨rfl, rfl⟩))) s_nil
theorem df_name_order (G : Glob mg) (F : FnP K "in_name_order" s_in_name_order f fd) (hm : mg "in_name_order" = some (.ref f)) : Df P w K mg base T "in_name_order" 1 ["deed"] (R5 D5) := by
  refine df_of F hm sc_in_name_order (fun ds d ⟨e, _⟩ => by rw [e]; rfl) (fun _ _ _ _ _ _ us hl => match us, hl with | [_], _ => rfl) fun cdv A outer s H E ds d hr h => ?_
  obtain ⟨rfl, rfl⟩ := h
  exact s_ret (d_ifx (p := false) (t_to (t_cmp o_eqS (d_ix (dn 0) d_int (.tup _ _ _ rfl)) d_str (.mk _ _) (nomark _)) (by decide +kernel)) (fun z => by cases z) (fun _ => dn 0))
theorem df_in_order (G : Glob mg) (F : FnP K "in_order" s_in_order f fd) (hm : mg "in_order" = some (.ref f)) (W1 : Df P w K mg base T "check_deed" 7 ["deed"] (R5 .none)) (W2 : Df P w K mg base T "in_name_order" 1 ["deed"] (R5 D5)) : Df P w K mg base T "in_order" 8 ["deed"] (R5 D5) := by
  refine df_of F hm sc_in_order (fun ds d ⟨e, _⟩ => by rw [e]; rfl) (fun _ _ _ _ _ _ us hl => match us, hl with | [_], _ => rfl) fun cdv A outer s H E ds d hr h => ?_
  obtain ⟨rfl, rfl⟩ := h
  exact s_expr (d_call W1 hr (by decide) (a_cons (dn 0) a_nil) ⟨rfl, rfl⟩) (s_ret (d_call W2 hr (by decide) (a_cons (dn 0) a_nil) ⟨rfl, rfl⟩))
def RhasM : List PyData → PyData → Prop := fun ds d => ds = [.list [], .int 5] ∧ d = .bool false
def RchOf : List PyData → PyData → Prop := fun ds d => ds = [.list [], CH5] ∧ d = .bool true
def Rkept : List PyData → PyData → Prop := fun ds d => ds = [CH5] ∧ d = CH5
theorem df_has_moment (G : Glob mg) (F : FnP K "has_moment" s_has_moment f fd) (hm : mg "has_moment" = some (.ref f)) (W : Df P w K mg base T "is_moment" 3 ["value"] (Rnum1 1 999)) : Df P w K mg base T "has_moment" 4 ["some", "value"] RhasM := by
  refine df_of F hm sc_has_moment (fun ds d ⟨e, _⟩ => by rw [e]; rfl) (fun _ _ _ _ _ _ us hl => match us, hl with | [_, _], _ => rfl) fun cdv A outer s H E ds d hr h => ?_
  obtain ⟨rfl, rfl⟩ := h
  exact s_ret (d_to (b := .bool (num (.int 5) 1 999 && xor false (decide ((5 : Int) ∈ ([] : List Int))))) (d_and (d_call W hr (by decide) (a_cons (dn 1) a_nil) ⟨_, rfl, rfl⟩) fun _ => d_one (d_cmp o_in (dn 1) (de_l (lcL (x := "deed") (j := 2) (ds := []) (f := id) (p := fun _ => true) rfl sc_has_moment.nd (dn 0) (blkOk_by (N := n_has_moment) (sc := defScope s_has_moment) (by decide +kernel))
    (fun _ _ _ _ _ => pg_name (i := 2) sc_has_moment.nd rfl (Or.inl rfl)) ht_yes (he_of fun s H C cl fp d hd _ => by cases hd) (fun d hd _ => by cases hd) (by show 0 ≤ 1000; omega))) (.lst 5 []) rfl)) (congrArg PyData.bool (by decide +kernel)))
theorem df_change_of (G : Glob mg) (F : FnP K "is_change_of" s_is_change_of f fd) (hm : mg "is_change_of" = some (.ref f)) (W1 : Df P w K mg base T "is_deed" 6 ["value"] (R5 (.bool true))) (W2 : Df P w K mg base T "has_moment" 4 ["some", "value"] RhasM) : Df P w K mg base T "is_change_of" 7 ["some", "value"] RchOf := by
  refine df_of F hm sc_is_change_of (fun ds d ⟨e, _⟩ => by rw [e]; rfl) (fun _ _ _ _ _ _ us hl => match us, hl with | [_, _], _ => rfl) fun cdv A outer s H E ds d hr h => ?_
  obtain ⟨rfl, rfl⟩ := h
  refine s_ifF (t_to (b := !true || (!decide (((([.str "in", D5] : List PyData).length : Nat) : Int) = 2) || !true)) (t_w (w_or (t_not (t_val (d_isi (dn 1) G.f_isinstance G.f_tuple (kit_T _)))) fun _ => w_or (t_cmp o_neI (d_callB c_len G.f_len (by decide +kernel) (a_cons (dn 1) a_nil) (.tup _)) d_int (.mk _ _) (nomark _)) fun _ => w_or1 (t_not (t_val (d_isi (d_ix (dn 1) d_int (.tup _ _ _ rfl)) G.f_isinstance G.f_str (kit_S _)))))) (by decide +kernel)) ?_
  exact s_ifT (t_to (t_cmp o_eqS (d_ix (dn 1) d_int (.tup _ _ _ rfl)) d_str (.mk _ _) (nomark _)) (by decide +kernel)) (s_ret (d_to (b := .bool (true && !false)) (d_and (d_call W1 hr (by decide) (a_cons (d_ix (dn 1) d_int (.tup _ _ _ rfl)) a_nil) ⟨rfl, rfl⟩) fun _ => d_one (d_not (d_call W2 hr (by decide) (a_cons (dn 0) (a_cons (d_ix (d_ix (dn 1) d_int (.tup _ _ _ rfl)) d_int (.tup _ _ _ rfl)) a_nil)) ⟨rfl, rfl⟩))) rfl))
theorem df_kept (G : Glob mg) (F : FnP K "kept_change" s_kept_change f fd) (hm : mg "kept_change" = some (.ref f)) (W : Df P w K mg base T "in_order" 8 ["deed"] (R5 D5)) : Df P w K mg base T "kept_change" 9 ["change"] Rkept := by
  refine df_of F hm sc_kept_change (fun ds d ⟨e, _⟩ => by rw [e]; rfl) (fun _ _ _ _ _ _ us hl => match us, hl with | [_], _ => rfl) fun cdv A outer s H E ds d hr h => ?_
  obtain ⟨rfl, rfl⟩ := h
  exact s_ret (d_ifx (p := true) (t_to (t_cmp o_eqS (d_ix (dn 0) d_int (.tup _ _ _ rfl)) d_str (.mk _ _) (nomark _)) (by decide +kernel)) (fun _ => d_tup (a_cons d_str (a_cons (d_call W hr (by decide) (a_cons (d_ix (dn 0) d_int (.tup _ _ _ rfl)) a_nil) ⟨rfl, rfl⟩) a_nil)) (by show 2 ≤ 1000; omega)) (fun z => by cases z))
end
end KM
set_option Elab.async false
set_option linter.all false
set_option maxRecDepth 100000
set_option maxHeartbeats 4000000
/-! Dicts of whole numbers and Past objects as slots; rules over them. -/
namespace KM
open PySem PySem.Spec PyProof.Rows L2
/-- lists and tuples stay -/
def ImL (H H' : Hp) : Prop := (∀ b xs, H b = some (.lst xs) → H' b = some (.lst xs)) ∧ (∀ b xs, H b = some (.tup xs) → H' b = some (.tup xs)) ∧ ∀ b o u, H b = some (.frz o u) → H' b = some (.frz o u)
theorem ImL.of {H : Hp} {p : Addr} {o u : HO} (h : H p = some u) (n0 : ∀ xs, u ≠ .lst xs := by intro _ z; cases z) (n1 : ∀ xs, u ≠ .tup xs := by intro _ z; cases z) (n2 : ∀ a b, u ≠ .frz a b := by intro _ _ z; cases z) : ImL H (upd H p o) :=
  ⟨fun b xs e => by rw [upd_ne (fun z => n0 xs (by rw [z, h] at e; exact Option.some.inj e))]; exact e, fun b xs e => by rw [upd_ne (fun z => n1 xs (by rw [z, h] at e; exact Option.some.inj e))]; exact e, fun b a c e => by rw [upd_ne (fun z => n2 a c (by rw [z, h] at e; exact Option.some.inj e))]; exact e⟩
section
variable {K : PySem.W.Frag} {H H' : Hp}
mutual
theorem dp_re (l : ∀ {a xs}, SqL K H a xs → SqL K H' a xs) (t : ∀ {a xs}, SqT K H a xs → SqT K H' a xs) : ∀ (d : PyData) {v : V}, Dp K H v d → Dp K H' v d
  | .none, _, h => by cases h; exact .non
  | .bool b, _, h => by cases h; exact .bl b
  | .int i, _, h => by cases h; exact .int i
  | .str x, _, h => by cases h; exact .str x
  | .list ds, _, h => by cases h with | lst hs ha => exact .lst (l hs) (dpAll_re l t ds ha)
  | .tuple ds, _, h => by cases h with | tup hs ha => exact .tup (t hs) (dpAll_re l t ds ha)
  | .dict _, _, h => by cases h
theorem dpAll_re (l : ∀ {a xs}, SqL K H a xs → SqL K H' a xs) (t : ∀ {a xs}, SqT K H a xs → SqT K H' a xs) : ∀ (ds : List PyData) {vs : List V}, DpAll K H vs ds → DpAll K H' vs ds
  | [], _, h => by cases h; exact .nil
  | d :: ds, _, h => by cases h with | cons h1 h2 => exact .cons (dp_re l t d h1) (dpAll_re l t ds h2)
end
theorem ImL.dp (i : ImL H H') (d : PyData) {v : V} (h : Dp K H v d) : Dp K H' v d :=
  dp_re (fun h => h.imp (fun h => h.elim (fun h => .inl (i.1 _ _ h)) fun ⟨o, h⟩ => .inr ⟨o, i.2.2 _ _ _ h⟩) id) (fun h => h.imp (fun h => h.elim (fun h => .inl (i.2.1 _ _ h)) fun ⟨o, h⟩ => .inr ⟨o, i.2.2 _ _ _ h⟩) id) d h
theorem ImL.dpAll (i : ImL H H') (ds : List PyData) {vs : List V} (h : DpAll K H vs ds) : DpAll K H' vs ds :=
  dpAll_re (fun h => h.imp (fun h => h.elim (fun h => .inl (i.1 _ _ h)) fun ⟨o, h⟩ => .inr ⟨o, i.2.2 _ _ _ h⟩) id) (fun h => h.imp (fun h => h.elim (fun h => .inl (i.2.1 _ _ h)) fun ⟨o, h⟩ => .inr ⟨o, i.2.2 _ _ _ h⟩) id) ds h
end
/-! ### dicts -/
abbrev Ents : Type := List (Int × PyData)
def KvD (K : PySem.W.Frag) (H : Hp) : List (Key × V) → Ents → Prop
  | [], [] => True
  | (k, v) :: r, (m, d) :: t => (k = .inl m ∧ Dp K H v d) ∧ KvD K H r t
  | _, _ => False
section
variable {K : PySem.W.Frag} {H H' : Hp}
theorem KvD.re (f : ∀ (d : PyData) {v : V}, Dp K H v d → Dp K H' v d) : ∀ {kvs : List (Key × V)} {es : Ents}, KvD K H kvs es → KvD K H' kvs es
  | [], [], _ => trivial
  | (_, _) :: _, (_, _) :: _, h => ⟨⟨h.1.1, f _ h.1.2⟩, KvD.re f h.2⟩
  | [], _ :: _, h => h.elim
  | _ :: _, [], h => h.elim
theorem KvD.gr {T : Tbl} (g : Gr T H H') {kvs : List (Key × V)} {es : Ents} (h : KvD K H kvs es) : KvD K H' kvs es := h.re fun d _ => g.dp d
theorem KvD.len : ∀ {kvs : List (Key × V)} {es : Ents}, KvD K H kvs es → kvs.length = es.length
  | [], [], _ => rfl
  | (_, _) :: _, (_, _) :: _, h => congrArg Nat.succ (KvD.len h.2)
  | [], _ :: _, h => h.elim
  | _ :: _, [], h => h.elim
theorem KvD.keys : ∀ {kvs : List (Key × V)} {es : Ents}, KvD K H kvs es → kvs.map (·.1) = (es.map (·.1)).map Sum.inl
  | [], [], _ => rfl
  | (k, _) :: r, (m, _) :: t, h => by
    show k :: r.map _ = Sum.inl m :: _
    rw [h.1.1, KvD.keys h.2] <;> rfl
  | [], _ :: _, h => h.elim
  | _ :: _, [], h => h.elim
theorem KvD.get : ∀ {kvs : List (Key × V)} {es : Ents} {i : Nat} {k : Key} {v : V}, KvD K H kvs es → kvs[i]? = some (k, v) → ∃ m d, es[i]? = some (m, d) ∧ k = .inl m ∧ Dp K H v d
  | [], _, _, _, _, _, e => by simp at e
  | (k, v) :: r, (m, d) :: t, 0, k', v', h, e => by
    have e : k = k' ∧ v = v' := by simpa using e
    obtain ⟨e1, e2⟩ := e
    rw [← e1, ← e2]
    exact ⟨m, d, rfl, h.1.1, h.1.2⟩
  | (k, v) :: r, (m, d) :: t, i + 1, _, _, h, e => by
    obtain ⟨m', d', q1, q2, q3⟩ := KvD.get (i := i) h.2 (by simpa using e)
    exact ⟨m', d', by simpa using q1, q2, q3⟩
  | _ :: _, [], _, _, _, h, _ => h.elim
end
def E5 : Ents := [(5, D5)]
/-- a dict that changes no more -/
def ddM (K : PySem.W.Frag) (es : Ents) : Mono := ⟨fun H v => ∃ d o kvs, v = .ref d ∧ H d = some (.frz o (.dK kvs)) ∧ KvD K H kvs es,
  fun T H H' v g ⟨d, o, kvs, e, h, q⟩ => ⟨d, o, kvs, e, g.1 d _ h (fun _ z => by cases z), q.gr g⟩⟩
/-- a Past -/
def ptM (K : PySem.W.Frag) (C : Addr) (es : Ents) : Mono := ⟨fun H v => ∃ p dx w, v = .ref p ∧ H p = some (.ins C dx [("by_moment", w)]) ∧ (ddM K es).f H w,
  fun T H H' v g ⟨p, dx, w, e, h, q⟩ => ⟨p, dx, w, e, g.ins h, (ddM K es).mono T H H' w g q⟩⟩
/-- this very value, and its datum -/
def eqM (K : PySem.W.Frag) (u : V) (d : PyData) : Mono := ⟨fun H v => v = u ∧ Dp K H v d, fun T H H' v g ⟨e, q⟩ => ⟨e, g.dp d q⟩⟩
section
variable {X : Cx} {T : Tbl} {ρ : List Sl}
theorem d_eqM {e : Expr} {u : V} {d : PyData} (h : DE X T ρ e (.pr (eqM X.K u d))) : DD X T ρ e d := pe_imp h fun _ _ _ k => ⟨k.1, fun v H2 g hv => k.2 v H2 g hv.2⟩
/-- the dict that e gives is left alone from now on -/
theorem pe_frz {e : Expr} {te : TE} (h : PE X e te) : PE X e (fun σ H Q => te σ H fun v H1 => ∃ d kvs, v = .ref d ∧ H1 d = some (.dK kvs) ∧ ∀ o, Q v (upd H1 d (.frz o (.dK kvs)))) := by
  refine ⟨fun pins s σ H Q I k => thn (h.run pins s σ H _ I k) fun u s1 ⟨v, H1, I1, r, d, kvs, e, hd, q⟩ => ?_⟩
  obtain ⟨z, hs, vs, rel, o, es, ep, ho, c⟩ := I1.hok d _ hd
  refine ⟨v, _, ?_, r, q o⟩
  exact I1.write (x := d) (e := d) (o := .frz o (.dK kvs)) (h' := s1.heap) (t' := s1.toks) (by rw [hd]; trivial) (.inl rfl) (fun _ _ _ w => w) ⟨_, ho⟩ ⟨ho, z, hs, vs, rel, o, es, ep, ho, c⟩
/-- the same of a dict that a block was given -/
theorem pss_frz {st : List Stmt} {t : TS} {d : Addr} (h : PSs X st t) : PSs X st (fun D σ H => ∃ kvs, H d = some (.dK kvs) ∧ ∀ o, t D σ (upd H d (.frz o (.dK kvs)))) := by
  refine ⟨fun pins s σ H D I ⟨kvs, hd, k⟩ => ?_⟩
  obtain ⟨z, hs, vs, rel, o, es, ep, ho, c⟩ := I.hok d _ hd
  exact h.run pins s σ _ D (I.write (x := d) (e := d) (o := .frz o (.dK kvs)) (h' := s.heap) (t' := s.toks) (by rw [hd]; trivial) (.inl rfl) (fun _ _ _ w => w) ⟨_, ho⟩ ⟨ho, z, hs, vs, rel, o, es, ep, ho, c⟩) (k o)
theorem op_inK (hu : X.A.units + 1 < cLine) : OpR X (compareOp .In) (fun x y H Q => ∃ d kvs k, y = .ref d ∧ Rd H d (.dK kvs) ∧ x = kV k ∧ Q (.bl (valV kvs k).isSome) H) := by
  intro pins s σ H x y v u Q I rx ry h
  obtain ⟨d, kvs, k, rfl, hd, rfl, q⟩ := h
  cases ry
  exact d_in hu I (.inl ⟨kvs, k, hd, rfl, rfl⟩) rx fun s' I' => ⟨.bl _, H, I', rfl, q⟩
theorem call_lenK : CallR X (.builtin "len") (fun xs H Q => ∃ d kvs, xs = [.ref d] ∧ Rd H d (.dK kvs) ∧ Q (.int kvs.length) H) := by
  intro pins s σ H xs us Q I r h
  obtain ⟨d, kvs, rfl, hd, q⟩ := h
  rw [Vals.ref1 r]
  exact d_len I hd fun t s' I' => ⟨.int _, H, I', ⟨t, rfl⟩, q⟩
/-! ### rules -/
theorem d_lenD {e : Expr} {p pos : Pos} {es : Ents} (he : DE X T ρ e (.pr (ddM X.K es))) (hm : X.mg "len" = none) (hg : Gl X "len" := by rfl) (hs : starEach [e] X.env = (false, eval e X.env) :: starEach [] X.env := by rfl) (hpl : (backTo pos (starEach [] X.env)).any (·.1) = false := by rfl) : DD X T ρ (.Call (.Name "len" p) [e] [] pos) (.int es.length) :=
  pe_imp (pe_callB (call_lenK (X := X)) hg hm (by decide +kernel) (pa_cons he pa_nil hs) (by decide) (by decide) hs hpl) fun σ H Q k => ⟨k.1, fun v H2 g hv => by
    obtain ⟨d, o, kvs, e1, h1, q⟩ := hv
    subst e1
    exact ⟨d, kvs, rfl, .inr ⟨o, h1⟩, by rw [q.len]; exact k.2 _ H2 g (.int _)⟩⟩
/-- a key's entry -/
theorem valV_cons {k k' : Key} {v : V} {r : List (Key × V)} : valV ((k', v) :: r) k = if k' = k then some v else valV r k := by
  by_cases h : k' = k
  · rw [if_pos h]
    exact valV_pos (p := (k', v)) h
  · rw [if_neg h]
    exact valV_neg (p := (k', v)) h
theorem KvD.val {K : PySem.W.Frag} {H : Hp} (m : Int) : ∀ {kvs : List (Key × V)} {es : Ents}, KvD K H kvs es → (valV kvs (.inl m)).isSome = (es.lookup m).isSome ∧ ∀ d, es.lookup m = some d → ∃ v, valV kvs (.inl m) = some v ∧ Dp K H v d
  | [], [], _ => ⟨rfl, fun d e => by cases e⟩
  | (k, v) :: r, (n, d) :: t, h => by
    obtain ⟨⟨ek, hd⟩, h2⟩ := h
    subst ek
    obtain ⟨q1, q2⟩ := KvD.val m h2
    rw [valV_cons, List.lookup_cons]
    by_cases e : m = n
    · subst e
      simp only [if_true, beq_self_eq_true]
      exact ⟨rfl, fun d' e' => ⟨v, rfl, by rw [← Option.some.inj e']; exact hd⟩⟩
    · have e2 : ¬ (Sum.inl n : Key) = Sum.inl m := fun z => e (Sum.inl.inj z).symm
      have e3 : (m == n) = false := by simpa using e
      rw [if_neg e2, e3]
      exact ⟨q1, q2⟩
  | [], _ :: _, h => h.elim
  | _ :: _, [], h => h.elim
theorem t_inD {a b : Expr} {pos : Pos} {m : Int} {es : Ents} {c : Bool} (hu : X.A.units + 64 < cLine) (ha : DD X T ρ a (.int m)) (hb : DE X T ρ b (.pr (ddM X.K es))) (hc : (es.lookup m).isSome = c) (hm : behindInMarks .In b = false := by rfl) : DT X T ρ (.Compare a [.In] [b] pos) c :=
  pt_imp (pt_cmpR (op_inK (by omega)) ha hb hm) fun σ H Q k => ⟨k.1, fun x H1 g1 h1 => ⟨k.1.gr g1, fun y H2 g2 h2 => by
    obtain ⟨d, o, kvs, e1, hd, q⟩ := h2
    subst e1
    rw [dp_int h1]
    refine ⟨d, kvs, .inl m, rfl, .inr ⟨o, hd⟩, rfl, c, ?_, k.2 H2 (g1.trans g2)⟩
    rw [(q.val m).1, hc]⟩⟩
theorem d_getD {a b : Expr} {pos : Pos} {m : Int} {es : Ents} {d : PyData} (hu : X.A.units + 64 < cLine) (ha : DE X T ρ a (.pr (ddM X.K es))) (hb : DD X T ρ b (.int m)) (hd : es.lookup m = some d) (hs : NoSl b := by intro _ _; rfl) : DD X T ρ (.Subscript a b pos) d :=
  pe_imp (pe_dget (by omega) ha hb hs) fun σ H Q k => ⟨k.1, fun x H1 g1 h1 => ⟨k.1.gr g1, fun y H2 g2 h2 => by
    obtain ⟨a', o, kvs, e1, hd', q⟩ := (ddM X.K es).mono T _ _ _ g2 h1
    subst e1
    rw [dp_int h2]
    obtain ⟨v, hv, hp⟩ := (q.val m).2 d hd
    exact ⟨a', v, rfl, .inl ⟨kvs, .inl m, .inr ⟨o, hd'⟩, rfl, hv.symm⟩, k.2 v H2 (g1.trans g2) hp⟩⟩⟩
/-- self.by_moment -/
theorem e_by {e : Expr} {pos : Pos} {C : Addr} {es : Ents} (c : Cls X.K C) (n : NoAttr X.K C "by_moment") (he : DE X T ρ e (.pr (ptM X.K C es))) (hb : attributeBase e "by_moment" X.env (eval e X.env) = eval e X.env := by rfl) : DE X T ρ (.Attribute e "by_moment" pos) (.pr (ddM X.K es)) :=
  pe_imp (pe_fld he hb) fun σ H Q k => ⟨k.1, fun x H1 g1 h1 => by
    obtain ⟨p, dx, w, e1, hp, q⟩ := h1
    exact ⟨p, C, dx, _, w, e1, hp, c, n, rfl, k.2 w H1 g1 q⟩⟩
/-- [elt for x in d] -/
def teK (K : PySem.W.Frag) (T : Tbl) (ρ : List Sl) (j : Nat) (es : Ents) (f : Int → PyData) : TE := fun σ H Q => ∃ m, m ∈ es.map (·.1) ∧ tE K T ((wipeR ρ [j]).set j (.dt (.int m))) (.dt (f m)) σ H Q
theorem lc_rdD {K : PySem.W.Frag} {j : Nat} {es : Ents} {f : Int → PyData} {σ : L2.St} {H : Hp} {Q : VK} (hn : ∀ m, noL (f m) = true) (hl : es.length ≤ 1000) (k : tE K T ρ (.nl (es.map fun p => f p.1)) σ H Q) :
    tLc (iKeys (tE K T ρ (.pr (ddM K es)))) (gName j) tYes (teK K T ρ j es f) [j] σ H Q := by
  refine ⟨k.1, fun v H1 g1 h1 => ?_⟩
  obtain ⟨d, o, kvs, e1, hd, q⟩ := h1
  have hlen := q.len
  refine ⟨d, o, e1, .inl ⟨kvs, hd, fun D hD => ⟨fun i m H => m = es.length - i ∧ i ≤ es.length ∧ Grows K T H1 D ((es.take i).map fun p => f p.1) H, ⟨es.length, rfl, Nat.zero_le _, Grows.start hD⟩, ?_⟩⟩⟩
  rintro i m H' ⟨rfl, hi, P⟩
  have hd' := P.1.1 d _ hd (fun _ z => by cases z)
  by_cases hlt : i < es.length
  · refine .inr ⟨⟨hd', by omega⟩, fun H => Grows K T H1 D ((es.take (i + 1)).map fun p => f p.1) H, fun H2 P2 => ⟨_, by omega, rfl, hlt, P2⟩, fun x H2 hy => ?_⟩
    obtain ⟨e, kk, w, hk, ex⟩ := hy
    subst e ex
    obtain ⟨m, dd, q1, q2, q3⟩ := q.get hk
    subst q2
    have hm : m ∈ es.map (·.1) := List.mem_map.mpr ⟨_, List.mem_of_getElem? q1, rfl⟩
    refine ⟨wipe_one σ j _, m, hm, ((k.1.gr (g1.trans P.1)).wipe [j]).set (r := .dt (.int m)) j (.int _), fun y H4 g4 hy => ?_⟩
    have z := P.add hD g4 hy (hn m) (by rw [List.length_map, List.length_take]; omega)
    rw [List.take_add_one, q1, List.map_append]
    exact z
  · have e : i = es.length := by omega
    refine .inl ⟨⟨hd', by omega⟩, k.2 _ H' (g1.trans P.1) ?_⟩
    have z := P.done
    rw [e, List.take_length] at z
    exact z
theorem lcD {elt tg iter : Expr} {scope : Scope} {x : Str} {j : Nat} {pos : Pos} {es : Ents} {f : Int → PyData} (hc : X.calm = true) (hN : X.N.Nodup) (hi : DE X T ρ iter (.pr (ddM X.K es))) (ok : BlkOk X.N X.env.scope scope [(x, j)]) (hg : HG1 X scope tg j)
    (he : ∀ (s : Shared) (H : Hp) (C : Addr) (cl : List (Str × Addr)) (fp : List Addr) (m : Int), m ∈ es.map (·.1) → DD (X.blk s H scope (compEnvC scope cl C X.env) fp) T ((wipeR ρ [j]).set j (.dt (.int m))) elt (f m)) (hn : ∀ m, noL (f m) = true) (hl : es.length ≤ 1000) (hs : ∀ x, foldedSetIterable iter X.env x = pure x := by intro _; rfl) :
    DE X T ρ (.ListComp elt [⟨tg, iter, [], 0⟩] scope pos) (.nl (es.map fun p => f p.1)) :=
  pe_imp (pe_lc (own := [(x, j)]) (te := teK X.K T ρ j es f) hc hN (pi_keys hi) ok hg (fun _ _ _ _ _ => pts_nil) (fun s H C cl fp => ⟨fun pins s' σ' H' Q I ⟨m, hm, q⟩ => (he s H C cl fp m hm).run pins s' σ' H' Q I q⟩) hs) fun _ _ _ k => lc_rdD hn hl k
end
end KM
set_option Elab.async false
set_option linter.all false
set_option maxRecDepth 100000
set_option maxHeartbeats 4000000
/-! {k: v for x in L}, L of at most one item; defs over slots. -/
namespace KM
open PySem PySem.Spec PyProof.Rows L2
section
variable {X : Cx} {T : Tbl} {ρ : List Sl}
def tkC (K : PySem.W.Frag) (T : Tbl) (ρ : List Sl) (j : Nat) (ds : List PyData) (f : PyData → PyData) : TE := fun σ H Q => ∃ d, d ∈ ds ∧ tE K T ((wipeR ρ [j]).set j (.dt d)) (.dt (f d)) σ H Q
theorem putK_nil (k : Key) (v : V) : putK ([] : List (Key × V)) k v = [(k, v)] := by
  rw [putK_new v rfl]
  rfl
theorem dc_rd {K : PySem.W.Frag} {j : Nat} {ds : List PyData} {fk : PyData → Int} {fv : PyData → PyData} {σ : L2.St} {H : Hp} {Q : VK} (hl : ds.length ≤ 1) (k : tE K T ρ (.pr (ddM K (ds.map fun d => (fk d, fv d)))) σ H Q) :
    tDc (iList K (tE K T ρ (.dt (.list ds)))) (gName j) tYes (tkC K T ρ j ds (fun d => .int (fk d))) (tkC K T ρ j ds fv) [j] σ H (fun v H1 => ∃ d kvs, v = .ref d ∧ H1 d = some (.dK kvs) ∧ ∀ o, Q v (upd H1 d (.frz o (.dK kvs)))) := by
  refine ⟨k.1, fun v H1 g1 h1 => ?_⟩
  obtain ⟨a, xs, e1, e2, e3⟩ := dp_lst h1
  have hlen := dpAll_len e3
  refine ⟨a, e1, ⟨xs, e2⟩, fun D hD => ⟨fun i m H => m = ds.length - i ∧ i ≤ ds.length ∧ Gr T H1 H ∧ ∃ kvs, H D = some (.dK kvs) ∧ KvD K H kvs ((ds.take i).map fun d => (fk d, fv d)), ⟨ds.length, rfl, Nat.zero_le _, Gr.new hD, [], upd_same, trivial⟩, ?_⟩⟩
  rintro i m H' ⟨rfl, hi, P, kvs, hk, q⟩
  by_cases hlt : i < ds.length
  · have i0 : i = 0 := by omega
    subst i0
    have hkn : kvs = [] := List.length_eq_zero_iff.mp (by have := q.len; simpa using this)
    subst hkn
    have hx : xs[0]? = some xs[0] := List.getElem?_eq_getElem (by omega)
    obtain ⟨d, hd, hw⟩ := dpAll_get e3 hx
    have hm : d ∈ ds := List.mem_of_getElem? hd
    refine .inr ⟨⟨xs, _, P.sqL e2, hx⟩, fun H => Gr T H1 H ∧ ∃ kvs, H D = some (.dK kvs) ∧ KvD K H kvs ((ds.take 1).map fun d => (fk d, fv d)), fun H2 P2 => ⟨_, by omega, rfl, hlt, P2.1, P2.2⟩, fun x H2 hy => ?_⟩
    obtain ⟨e, hy⟩ := hy
    subst e
    have ex := hy xs (P.sqL e2)
    rw [hx] at ex
    have ex : xs[0] = x := Option.some.inj ex
    have E1 : Env K T ((wipeR ρ [j]).set j (.dt d)) ((wipe σ [j]).set j (some x)) H2 := ((k.1.gr (g1.trans P)).wipe [j]).set (r := .dt d) j (by rw [← ex]; exact P.dp _ hw)
    refine ⟨wipe_one σ j _, d, hm, E1, fun y H4 g4 h4 => ⟨d, hm, E1.gr g4, fun z H5 g5 h5 => ?_⟩⟩
    have hk5 : H5 D = some (.dK []) := (g4.trans g5).dK hk
    refine ⟨[], .inl (fk d), dp_int h4, hk5, Nat.lt_of_lt_of_le (Nat.zero_lt_succ _) (size_ok (n := 1) (by omega)), (P.trans (g4.trans g5)).late (New.of hD) hk5, _, upd_same, ?_⟩
    rw [putK_nil, show ds.take 1 = [d] by
      cases ds with
      | nil => cases hm
      | cons d' r =>
        have : d' = d := by simpa using hd
        rw [this]
        rfl]
    exact ⟨⟨rfl, (ImL.of hk5).dp _ h5⟩, trivial⟩
  · have e : i = ds.length := by omega
    subst e
    refine .inl ⟨⟨xs, P.sqL e2, by omega⟩, D, kvs, rfl, hk, fun o => k.2 _ _ (g1.trans (P.late (New.of hD) hk)) ⟨D, o, kvs, rfl, upd_same, ?_⟩⟩
    rw [List.take_length] at q
    exact q.re fun d _ h => (ImL.of hk).dp d h
theorem e_dc {kx vx tg iter : Expr} {scope : Scope} {x : Str} {j : Nat} {pos : Pos} {ds : List PyData} {fk : PyData → Int} {fv : PyData → PyData} (hc : X.calm = true) (hN : X.N.Nodup) (hi : DD X T ρ iter (.list ds)) (ok : BlkOk X.N X.env.scope scope [(x, j)]) (hg : HG1 X scope tg j) (hl : ds.length ≤ 1)
    (hk : ∀ (s : Shared) (H : Hp) (C : Addr) (cl : List (Str × Addr)) (fp : List Addr) (d : PyData), d ∈ ds → DD (X.blk s H scope (compEnvC scope cl C X.env) fp) T ((wipeR ρ [j]).set j (.dt d)) kx (.int (fk d)))
    (hv : ∀ (s : Shared) (H : Hp) (C : Addr) (cl : List (Str × Addr)) (fp : List Addr) (d : PyData), d ∈ ds → DD (X.blk s H scope (compEnvC scope cl C X.env) fp) T ((wipeR ρ [j]).set j (.dt d)) vx (fv d)) (hs : ∀ x, foldedSetIterable iter X.env x = pure x := by intro _; rfl) :
    DE X T ρ (.DictComp kx vx [⟨tg, iter, [], 0⟩] scope pos) (.pr (ddM X.K (ds.map fun d => (fk d, fv d)))) :=
  pe_imp (pe_frz (pe_dc (own := [(x, j)]) (tk := tkC X.K T ρ j ds (fun d => .int (fk d))) (tv := tkC X.K T ρ j ds fv) hc hN (pi_list hi) ok hg (fun _ _ _ _ _ => pts_nil) (fun s H C cl fp => pe_ex (c := fun d => d ∈ ds) (hk s H C cl fp)) (fun s H C cl fp => pe_ex (c := fun d => d ∈ ds) (hv s H C cl fp)) hs)) fun _ _ _ k => dc_rd hl k
end
end KM
set_option Elab.async false
set_option linter.all false
set_option maxRecDepth 100000
set_option maxHeartbeats 4000000
/-! Defs and methods over slots. -/
namespace KM
open PySem PySem.Spec PyProof.Rows L2
def SlAll (K : PySem.W.Frag) (H : Hp) : List V → List Sl → Prop
  | [], [] => True
  | v :: vs, r :: rs => SlOk K H r v ∧ SlAll K H vs rs
  | _, _ => False
section
variable {K : PySem.W.Frag} {T : Tbl} {H H' : Hp}
theorem SlAll.len : ∀ {vs : List V} {rs : List Sl}, SlAll K H vs rs → vs.length = rs.length
  | [], [], _ => rfl
  | _ :: _, _ :: _, h => congrArg Nat.succ (SlAll.len h.2)
  | [], _ :: _, h => h.elim
  | _ :: _, [], h => h.elim
theorem SlAll.slots : ∀ {vs : List V} {rs : List Sl}, SlAll K H vs rs → Slots K H rs (vs.map some)
  | [], [], _ => trivial
  | _ :: _, _ :: _, h => ⟨h.1.o, SlAll.slots h.2⟩
  | [], _ :: _, h => h.elim
  | _ :: _, [], h => h.elim
end
def tAG (K : PySem.W.Frag) (T : Tbl) (ρ : List Sl) (rs : List Sl) : TA := fun σ H Q => Env K T ρ σ H ∧ ∀ vs H2, Gr T H H2 → SlAll K H2 vs rs → Q vs H2
abbrev AG (X : Cx) (T : Tbl) (ρ : List Sl) (es : List Expr) (rs : List Sl) : Prop := PA X es (tAG X.K T ρ rs)
/-- a def's promise over slots -/
def spG (K : PySem.W.Frag) (T : Tbl) (R : List Sl → Sl → Prop) : Sp := fun vs H Q _ => LamX.Tabs T H ∧ ∃ rs r, SlAll K H vs rs ∧ R rs r ∧ ∀ v H2, Gr T H H2 → SlOk K H2 r v → Q v H2
structure DfG (P : Program) (w : World) (K : PySem.W.Frag) (mg : Str → Option Value) (base : Heap) (T : Tbl) (k : Nat) (ps : List Str) (f : Addr) (fd : FuncData) (R : List Sl → Sl → Prop) : Prop where
  ok : FnOk P w K mg base CX0 k f fd ps (spG K T R)
  kp : PySem.W.keepIn K (.ref f) = true
  hb : Binds K fd ps []
/-- a block that gives r -/
def tG (K : PySem.W.Frag) (T : Tbl) (HB : Hp) (ρ : List Sl) (r : Sl) : TS := fun D σ H => Env K T ρ σ H ∧ Gr T HB H ∧ (∀ v H2, Gr T HB H2 → SlOk K H2 r v → D.rt v H2) ∧ (r = .dt .none → ∀ σ2 H2, Gr T HB H2 → D.nx σ2 H2)
abbrev DG (X : Cx) (T : Tbl) (HB : Hp) (ρ : List Sl) (st : List Stmt) (r : Sl) : Prop := PSs X st (tG X.K T HB ρ r)
section
variable {X : Cx} {T : Tbl} {HB : Hp} {ρ ρ1 ρ2 : List Sl} {e o : Expr} {es : List Expr} {rest : List Stmt} {s : Stmt} {r : Sl} {rs : List Sl} {pos apos : Pos}
theorem ag_nil : AG X T ρ [] [] := pa_imp pa_nil fun _ H _ k => k.2 _ H (Gr.refl H) trivial
theorem ag_cons (h : DE X T ρ e r) (h2 : AG X T ρ es rs) (hs : starEach (e :: es) X.env = (false, eval e X.env) :: starEach es X.env := by rfl) : AG X T ρ (e :: es) (r :: rs) :=
  pa_imp (pa_cons h h2 hs) fun _ _ _ k => ⟨k.1, fun _ _ g1 h1 => ⟨k.1.gr g1, fun _ H2 g2 h2 => k.2 _ H2 (g1.trans g2) ⟨g2.sl h1, h2⟩⟩⟩
theorem e_call {x : Str} {p : Pos} {k j : Nat} {ps : List Str} {f : Addr} {fd : FuncData} {R : List Sl → Sl → Prop} (D : DfG X.prog X.w X.K X.mg X.base T k ps f fd R) (hm : X.mg x = some (.ref f)) (hr : Room j X.A) (hk : k ≤ j) (ha : AG X T ρ (e :: es) rs) (h : R rs r) (hg : Gl X x := by rfl)
    (hdb : (x == ("__debug__" : Str)) = false := by decide) (he : starEach (e :: es) X.env = (false, eval e X.env) :: starEach es X.env := by rfl) (hpl : (backTo pos (starEach es X.env)).any (·.1) = false := by rfl) : DE X T ρ (.Call (.Name x p) (e :: es) [] pos) r := by
  refine pe_imp (pe_call (dvs := []) (E := E0) D.ok (hr.mono hk) hg hm D.kp D.hb .nil pass0 ha hdb he hpl) fun σ H Q q => ⟨q.1, fun vs H2 g hv => ?_⟩
  show spG X.K T R (vs ++ []) H2 Q E0
  rw [List.append_nil]
  exact ⟨g.2 q.1.tabs, rs, r, hv, h, fun v H3 g3 h3 => q.2 v H3 (g.trans g3) h3⟩
/-- an object of the class C -/
def IsObj (K : PySem.W.Frag) (C : Addr) (m : Str) (rself : Sl) : Prop := ∀ H v, SlOk K H rself v → ∃ a dx fs, v = .ref a ∧ H a = some (.ins C dx fs) ∧ fs.lookup m = none
theorem obj_pt {K : PySem.W.Frag} {C : Addr} {es : Ents} {m : Str} (hm : (m == ("by_moment" : Str)) = false) : IsObj K C m (.pr (ptM K C es)) := fun H v ⟨p, dx, w, e, h, _⟩ => ⟨p, dx, _, e, h, by rw [List.lookup_cons, hm]; rfl⟩
theorem e_meth {C : Addr} {m : Str} {k j : Nat} {ps : List Str} {f : Addr} {fd : FuncData} {R : List Sl → Sl → Prop} {rself : Sl} {pl : Sem Bool} (D : DfG X.prog X.w X.K X.mg X.base T k ps f fd R) (c : Cls X.K C) (hm : Meth X.K C m f) (hr : Room j X.A) (hk : k ≤ j) (ho : DE X T ρ o rself) (hO : IsObj X.K C m rself) (ha : AG X T ρ (e :: es) rs) (h : R (rself :: rs) r)
    (hst : starEach (e :: es) X.env = (false, eval e X.env) :: starEach es X.env := by rfl) (hpl : (backTo pos (starEach es X.env)).any (·.1) = false := by rfl)
    (ht : eval (.Call (.Attribute o m apos) (e :: es) [] pos) X.env = (do
      let ov ← eval o X.env
      standAt apos.atName
      let (f, first) ← holding [ov] (getMethod ov m pl)
      callWith pos f first (backTo pos (starEach (e :: es) X.env)) (backToKw pos (keywordEach [] X.env))) := by rfl) : DE X T ρ (.Call (.Attribute o m apos) (e :: es) [] pos) r := by
  refine pe_imp (pe_meth (dvs := []) (E := E0) ho c hm D.ok (hr.mono hk) D.hb .nil pass0 ha hst hpl ht) fun σ H Q q => ⟨q.1, fun v H1 g1 h1 => ?_⟩
  obtain ⟨a, dx, fs, e1, h2, h3⟩ := hO H1 v h1
  refine ⟨a, dx, fs, e1, h2, h3, q.1.gr g1, fun vs H2 g2 hv => ?_⟩
  show spG X.K T R (v :: (vs ++ [])) H2 Q E0
  rw [List.append_nil]
  exact ⟨g2.2 (g1.2 q.1.tabs), rself :: rs, r, ⟨g2.sl h1, hv⟩, h, fun u H3 g3 h4 => q.2 u H3 ((g1.trans g2).trans g3) h4⟩
theorem e_meth0 {C : Addr} {m : Str} {k j : Nat} {ps : List Str} {f : Addr} {fd : FuncData} {R : List Sl → Sl → Prop} {rself : Sl} {pl : Sem Bool} (D : DfG X.prog X.w X.K X.mg X.base T k ps f fd R) (c : Cls X.K C) (hm : Meth X.K C m f) (hr : Room j X.A) (hk : k ≤ j) (ho : DE X T ρ o rself) (hO : IsObj X.K C m rself) (h : R [rself] r)
    (ht : eval (.Call (.Attribute o m apos) [] [] pos) X.env = (do
      let ov ← eval o X.env
      standAt apos.atName
      let (f, first) ← holding [ov] (getMethod ov m pl)
      callWith pos f first (backTo pos (starEach [] X.env)) (backToKw pos (keywordEach [] X.env))) := by rfl) : DE X T ρ (.Call (.Attribute o m apos) [] [] pos) r := by
  refine pe_imp (pe_meth0 (dvs := []) (E := E0) ho c hm D.ok (hr.mono hk) D.hb .nil pass0 ht) fun σ H Q q => ⟨q.1, fun v H1 g1 h1 => ?_⟩
  obtain ⟨a, dx, fs, e1, h2, h3⟩ := hO H1 v h1
  refine ⟨a, dx, fs, e1, h2, h3, ?_⟩
  show spG X.K T R (v :: ([] ++ [])) H1 Q E0
  exact ⟨g1.2 q.1.tabs, [rself], r, ⟨h1, trivial⟩, h, fun u H3 g3 h4 => q.2 u H3 (g1.trans g3) h4⟩
theorem e_if {c a b : Expr} {p : Bool} (hc : DT X T ρ c p) (h1 : p = true → DE X T ρ a r) (h2 : p = false → DE X T ρ b r) : DE X T ρ (.IfExp c a b pos) r := by
  refine pe_imp (pe_ifExp hc (pe_if h1) (pe_if h2)) fun σ H Q k => ⟨k.1, fun H2 g => ?_⟩
  cases p with
  | true =>
    rw [if_pos rfl]
    exact ⟨rfl, k.1.gr g, fun v H3 g3 hv => k.2 v H3 (g.trans g3) hv⟩
  | false =>
    rw [if_neg Bool.false_ne_true]
    exact ⟨rfl, k.1.gr g, fun v H3 g3 hv => k.2 v H3 (g.trans g3) hv⟩
theorem g_cons (h : D1 X T HB ρ s ρ1) (h2 : DG X T HB ρ1 rest r) : DG X T HB ρ (s :: rest) r := pss_imp (pss_cons h h2) fun D σ H k => ⟨k.1, k.2.1, fun σ2 H2 e g => ⟨e, g, k.2.2⟩⟩
theorem g_ret (h : DE X T ρ e r) : DG X T HB ρ (.Return (some e) pos :: rest) r := pss_imp (pss_cons (ps_ret h) pss_never) fun D σ H k => ⟨k.1, fun v H2 g hv => k.2.2.1 v H2 (k.2.1.trans g) hv⟩
theorem g_nil : DG X T HB ρ [] (.dt .none) := pss_imp pss_nil fun D σ H k => k.2.2.2 rfl σ H k.2.1
end
abbrev startG (N : List Str) (rs : List Sl) : List Sl := rs ++ List.replicate (N.length - rs.length) .un
theorem startG_env {K : PySem.W.Frag} {T : Tbl} {N : List Str} {vs : List V} {rs : List Sl} {H : Hp} (t : LamX.Tabs T H) (h : SlAll K H vs rs) : Env K T (startG N rs) (L2.start N vs) H := by
  refine ⟨t, slots_app h.slots ?_⟩
  show Slots K H _ (List.replicate (N.length - vs.length) none)
  rw [← h.len]
  exact slots_un _
section
variable {P : Program} {w : World} {K : PySem.W.Frag} {mg : Str → Option Value} {base : Heap} {T : Tbl} {x qual : Str} {st : Stmt} {f : Addr} {fd : FuncData} {N ps : List Str} {k : Nat} {R : List Sl → Sl → Prop}
theorem dfg_of (F : FunD K x qual (defArgs st) (defBody st) (defScope st) [] [] f fd) (S : FnScope N ps (defScope st)) (len : ∀ rs r, R rs r → rs.length = ps.length)
    (hb : ∀ (kV doc pm : Value) (an : Option Addr) (cdv ct : Value) (us : List Value), us.length = ps.length → bindArgs (PySem.W.fnOf x qual (defArgs st) (defBody st) (defScope st) .none kV doc pm an cdv ct) ⟨us, []⟩ = pure (ps.zip us))
    (hbody : ∀ (cdv : Value) (A : Around) (outer : List PySem.Env) (s : Shared) (H : Hp) (E : XK) (rs : List Sl) (r : Sl), Room k (A.deeper (envOfC qual (defScope st) s.heap.objs.size f cdv)) → R rs r →
      DG (bodyX P w K mg base N qual (defScope st) f cdv A outer s H E) T H (startG N rs) (defBody st) r) : DfG P w K mg base T (k + 1) ps f fd R := by
  refine ⟨F.ok S (fun vs H Q E h => ?_) (fun cdv A outer s H vs Q E hr h => ?_), F.kp, F.bindsN hb⟩
  · obtain ⟨_, rs, r, hv, hR, _⟩ := h
    rw [hv.len]
    exact len rs r hR
  · obtain ⟨ht, rs, r, hv, hR, q⟩ := h
    refine ⟨_, PSs.nox (hbody cdv A outer s H E rs r hr hR), startG_env ht hv, Gr.refl H, q, fun z σ2 H2 g => ?_⟩
    subst z
    exact q .non H2 g .non
end
end KM
set_option Elab.async false
set_option linter.all false
set_option maxRecDepth 100000
set_option maxHeartbeats 4000000
/-! plainstore.pasts, plainstore.changes -/
namespace KM
open PySem PySem.Spec PyProof.Rows L2
section
variable {X : Cx} {T : Tbl} {HB : Hp} {ρ ρ1 ρ2 : List Sl} {e : Expr} {rest body : List Stmt} {r : Sl} {pos : Pos}
/-- x = {} -/
theorem g_newD (i : Nat) {x : Str} {px p2 : Pos} (hN : X.N.Nodup) (h2 : ∀ d, New HB d → DG X T HB (ρ.set i (.ob d (.dK []))) rest r) (hi : X.N[i]? = some x := by rfl) (hx : Loc X.env.scope x := by first | exact Or.inl rfl | exact Or.inr rfl)
    (hs : swapsWith (.Dict [] [] p2) (some (.Name x px)) pos.line X.env = pure false := by rfl) (hf : X.fn x = true ∨ X.env.scope.names.lookup x = some .local := by first | exact .inl rfl | exact .inr rfl) : DG X T HB ρ (.Assign [.Name x px] (.Dict [] [] p2) pos :: rest) r :=
  pss_imp (pss_cons (ps_set hN hi hx pe_dnewK hs hf) (pss_exi fun d => pss_if (c := New HB d) fun c => h2 d c)) fun D σ H k => fun p hp => ⟨p, k.2.1.back hp, (k.1.gr (Gr.new hp)).set (r := .ob p (.dK [])) i ⟨rfl, upd_same, fun _ z => by cases z⟩, k.2.1.trans (Gr.new hp), k.2.2⟩
/-- for .. in enumerate(()) -/
theorem for_E0 {p pos2 tpos : Pos} {elts : List Expr} {kk : Nat} {g : TG} {u : V} (hp : PassesOwn (model X.prog X.w) X.A X.env X.xe) (hc : X.calm = true) (hm : X.mg "enumerate" = none) (hi : DE X T ρ e (.pr (eqM X.K u (.tuple [])))) (hg : PG X (.Tuple elts kk tpos) g)
    (hb : PSs X body tNever := by exact pss_never) (hge : Gl X "enumerate" := by rfl) (hst : starEach [e] X.env = [(false, eval e X.env)] := by rfl) (hs : ∀ x, foldedSetIterable (.Call (.Name "enumerate" p) [e] [] pos2) X.env x = pure x := by intro _; rfl) : D1 X T HB ρ (.For (.Tuple elts kk tpos) (.Call (.Name "enumerate" p) [e] [] pos2) body [] pos) ρ := by
  refine ps_imp (ps_for hp hc (pi_enum0 hge hm (a_cons (d_eqM hi) a_nil (by rw [hst]; rfl)) hst) hg hb hs) fun D σ H k => ⟨k.1, fun vs H1 g1 h1 => ?_⟩
  obtain ⟨v, e1, hv⟩ := one_of h1
  obtain ⟨a, xs, e2, hs, hd⟩ := dp_tup hv
  subst e1 e2
  cases hd
  exact ⟨a, rfl, hs, fun i m σ' H' => σ' = σ ∧ H' = H1, ⟨0, rfl, rfl⟩, fun i m σ' H' ⟨e1, e2⟩ => by
    subst e1 e2
    exact .inl ⟨hs, k.2.2 _ _ (k.1.gr g1) (k.2.1.trans g1)⟩⟩
/-- for i, x in enumerate([d0]) -/
theorem for_E1 {p pos2 tpos : Pos} {elts : List Expr} {kk i j : Nat} {u : V} {d0 : PyData} (hp : PassesOwn (model X.prog X.w) X.A X.env X.xe) (hc : X.calm = true) (hm : X.mg "enumerate" = none) (hi : DE X T ρ e (.pr (eqM X.K u (.list [d0])))) (hu : Dp X.K HB u (.list [d0])) (hg : PG X (.Tuple elts kk tpos) (gTup X.K 2 (gCons (gName i) (gCons (gName j) gNil))))
    (hb : DN X T HB ((ρ.set i (.dt (.int 0))).set j (.dt d0)) body ρ1) (hge : Gl X "enumerate" := by rfl) (hst : starEach [e] X.env = [(false, eval e X.env)] := by rfl) (hs : ∀ x, foldedSetIterable (.Call (.Name "enumerate" p) [e] [] pos2) X.env x = pure x := by intro _; rfl) : D1 X T HB ρ (.For (.Tuple elts kk tpos) (.Call (.Name "enumerate" p) [e] [] pos2) body [] pos) ρ1 := by
  refine ps_imp (ps_for hp hc (pi_enum hge hm (pa_cons hi pa_nil (by rw [hst]; rfl)) hst) hg hb hs) fun D σ H k => ⟨k.1, fun v H1 g1 h1 => ?_⟩
  obtain ⟨e1, hv⟩ := h1
  subst e1
  obtain ⟨a, xs, e2, hq, hd⟩ := dp_lst hu
  subst e2
  obtain ⟨x0, e3, hx0⟩ := one_of hd
  subst e3
  have sq : ∀ {H' : Hp}, Gr T HB H' → SqL X.K H' a [x0] := fun g => g.sqL hq
  refine ⟨a, [x0], rfl, sq (k.2.1.trans g1), fun n m σ' H' => (m = 1 ∧ n = 0 ∧ Env X.K T ρ σ' H' ∧ Gr T HB H') ∨ (m = 0 ∧ n = 1 ∧ Env X.K T ρ1 σ' H' ∧ Gr T HB H'), ⟨1, .inl ⟨rfl, rfl, k.1.gr g1, k.2.1.trans g1⟩⟩, ?_⟩
  rintro n m σ' H' (⟨rfl, rfl, E1, G1⟩ | ⟨rfl, rfl, E1, G1⟩)
  · refine .inr ⟨⟨[x0], x0, sq G1, rfl⟩, fun σ2 H2 => Env X.K T ρ1 σ2 H2 ∧ Gr T HB H2, fun σ2 H2 q => ⟨0, by omega, .inr ⟨rfl, rfl, q.1, q.2⟩⟩, fun x H2 hy => ?_⟩
    obtain ⟨Tp, x', rfl, hT, rfl, hx⟩ := hy
    have hx' : x0 = x' := by simpa using hx [x0] (sq G1)
    subst hx'
    have gT : Gr T H' (upd H' Tp (.tup [.int ((0 : Nat) : Int), x0])) := Gr.new hT
    refine ⟨Tp, [.int ((0 : Nat) : Int), x0], rfl, .of upd_same, rfl, .int _, [x0], rfl, x0, [], rfl, rfl, ?_, G1.trans gT, fun σ2 H2 e2 g2 => ⟨e2, g2⟩⟩
    exact (((E1.gr gT).set (r := .dt (.int 0)) i (.int 0))).set (r := .dt d0) j ((G1.trans gT).dp _ hx0)
  · exact .inl ⟨⟨[x0], sq G1, by show 1 ≤ 1; omega⟩, k.2.2 σ' H' E1 G1⟩
end
/-- an own dict, still growing -/
def odM (K : PySem.W.Frag) (d : Addr) (es : Ents) : Mono := ⟨fun H v => v = .ref d ∧ ∃ kvs, H d = some (.dK kvs) ∧ KvD K H kvs es, fun T H H' v g ⟨e, kvs, h, q⟩ => ⟨e, kvs, g.dK h, q.gr g⟩⟩
section
variable {X : Cx} {T : Tbl} {HB : Hp} {rest : List Stmt} {r : Sl}
/-- the dict of the second slot is left alone from now on -/
theorem g_frz2 {u : V} {x : PyData} {d : Addr} {es : Ents} {n : Nat} (hn : New HB d) (h : DG X T HB (.pr (eqM X.K u x) :: .pr (ddM X.K es) :: List.replicate n .un) rest r) : DG X T HB (.pr (eqM X.K u x) :: .pr (odM X.K d es) :: List.replicate n .un) rest r := by
  refine pss_imp (pss_frz (d := d) h) fun D σ H k => ?_
  obtain ⟨⟨t, sl⟩, g, q1, q2⟩ := k
  cases σ with
  | nil => exact sl.elim
  | cons o1 σ =>
    cases σ with
    | nil => exact sl.2.elim
    | cons o2 σ =>
      obtain ⟨⟨v1, e1, f1, f2⟩, ⟨v2, e2, f3, kvs, f4, f5⟩, sl⟩ := sl
      refine ⟨kvs, f4, fun o => ⟨⟨tabs_late f4 (fun _ z => by cases z) (fun _ z => by unfold LamX.CodeO at z; cases z) t, ⟨v1, e1, f1, (ImL.of f4).dp _ f2⟩, ⟨v2, e2, d, o, kvs, f3, upd_same, f5.re fun d' _ h => (ImL.of f4).dp d' h⟩, ?_⟩, g.late hn f4, q1, q2⟩⟩
      clear h q1 q2
      induction n generalizing σ with
      | zero =>
        cases σ with
        | nil => trivial
        | cons _ _ => exact sl.elim
      | succ n ih =>
        cases σ with
        | nil => exact sl.elim
        | cons o σ => exact ⟨trivial, ih σ sl.2⟩
theorem env_od {K : PySem.W.Frag} {s1 : Sl} {d : Addr} {ρ : List Sl} {σ : L2.St} {H : Hp} (e : Env K T (s1 :: .ob d (.dK []) :: ρ) σ H) : Env K T (s1 :: .pr (odM K d []) :: ρ) σ H := by
  obtain ⟨t, sl⟩ := e
  cases σ with
  | nil => exact sl.elim
  | cons o1 σ =>
    cases σ with
    | nil => exact sl.2.elim
    | cons o2 σ =>
      obtain ⟨a, ⟨v, e1, e2, e3, _⟩, c⟩ := sl
      exact ⟨t, a, ⟨v, e1, e2, [], e3, trivial⟩, c⟩
theorem g_od {s1 : Sl} {d : Addr} {ρ : List Sl} (h : DG X T HB (s1 :: .pr (odM X.K d []) :: ρ) rest r) : DG X T HB (s1 :: .ob d (.dK []) :: ρ) rest r := pss_imp h fun D σ H k => ⟨env_od k.1, k.2⟩
end
end KM
set_option Elab.async false
set_option linter.all false
set_option maxRecDepth 100000
set_option maxHeartbeats 4000000
/-! checked_deeds -/
namespace KM
open PySem PySem.Spec PyProof.Rows L2
section
variable {P : Program} {w : World} {K : PySem.W.Frag} {mg : Str → Option Value} {base : Heap} {T : Tbl} {x qual : Str} {st : Stmt} {f : Addr} {fd : FuncData} {N ps : List Str} {k : Nat} {R : List Sl → Sl → Prop}
/-- as dfg_of, the arguments known at the start -/
theorem dfg_of2 (F : FunD K x qual (defArgs st) (defBody st) (defScope st) [] [] f fd) (S : FnScope N ps (defScope st)) (len : ∀ rs r, R rs r → rs.length = ps.length)
    (hb : ∀ (kV doc pm : Value) (an : Option Addr) (cdv ct : Value) (us : List Value), us.length = ps.length → bindArgs (PySem.W.fnOf x qual (defArgs st) (defBody st) (defScope st) .none kV doc pm an cdv ct) ⟨us, []⟩ = pure (ps.zip us))
    (hbody : ∀ (cdv : Value) (A : Around) (outer : List PySem.Env) (s : Shared) (H : Hp) (E : XK) (vs : List V) (rs : List Sl) (r : Sl), Room k (A.deeper (envOfC qual (defScope st) s.heap.objs.size f cdv)) → R rs r → SlAll K H vs rs →
      DG (bodyX P w K mg base N qual (defScope st) f cdv A outer s H E) T H (startG N rs) (defBody st) r) : DfG P w K mg base T (k + 1) ps f fd R := by
  refine ⟨F.ok S (fun vs H Q E h => ?_) (fun cdv A outer s H vs Q E hr h => ?_), F.kp, F.bindsN hb⟩
  · obtain ⟨_, rs, r, hv, hR, _⟩ := h
    rw [hv.len]
    exact len rs r hR
  · obtain ⟨ht, rs, r, hv, hR, q⟩ := h
    refine ⟨_, PSs.nox (hbody cdv A outer s H E vs rs r hr hR hv), startG_env ht hv, Gr.refl H, q, fun z σ2 H2 g => ?_⟩
    subst z
    exact q .non H2 g .non
end
section
variable {X : Cx} {T : Tbl} {HB : Hp} {ρ ρ1 ρ2 : List Sl}
theorem t_in0 {a b : Expr} {pos : Pos} {m : Int} {d : Addr} (hu : X.A.units + 64 < cLine) (ha : DD X T ρ a (.int m)) (hb : DE X T ρ b (.ob d (.dK []))) (hm : behindInMarks .In b = false := by rfl) : DT X T ρ (.Compare a [.In] [b] pos) false :=
  pt_imp (pt_cmpR (op_inK (by omega)) ha hb hm) fun σ H Q k => ⟨k.1, fun x H1 g1 h1 => ⟨k.1.gr g1, fun y H2 g2 h2 => by
    obtain ⟨e1, hd, _⟩ := h2
    subst e1
    rw [dp_int h1]
    exact ⟨d, [], .inl m, rfl, .inl hd, rfl, false, rfl, k.2 H2 (g1.trans g2)⟩⟩⟩
/-- known[k] = e -/
theorem n1_put {o i value : Expr} {pos pos' : Pos} {u : V} {x : PyData} {d : Addr} {m : Int} {dv : PyData} {s2 s3 : Sl} {n : Nat} (hu : X.A.units + 64 < cLine) (hn : New HB d) (hv : DD X T (.pr (eqM X.K u x) :: .ob d (.dK []) :: s2 :: s3 :: List.replicate n .un) value dv) (ho : DE X T (.pr (eqM X.K u x) :: .ob d (.dK []) :: s2 :: s3 :: List.replicate n .un) o (.ob d (.dK [])))
    (hi : DD X T (.pr (eqM X.K u x) :: .ob d (.dK []) :: s2 :: s3 :: List.replicate n .un) i (.int m)) (hs : swapsWith value (some (.Subscript o i pos')) pos.line X.env = pure false := by rfl) :
    D1 X T HB (.pr (eqM X.K u x) :: .ob d (.dK []) :: s2 :: s3 :: List.replicate n .un) (.Assign [.Subscript o i pos'] value pos) (.pr (eqM X.K u x) :: .pr (odM X.K d [(m, dv)]) :: List.replicate (n + 2) .un) :=
  ps_imp (ps_dput (by omega) ho hi hv hs) fun D σ H k => ⟨k.1, fun v H1 g1 h1 => ⟨k.1.gr g1, fun y H2 g2 h2 => ⟨k.1.gr (g1.trans g2), fun z H3 g3 h3 => by
    obtain ⟨e1, hd, _⟩ := h2
    subst e1
    rw [dp_int h3]
    have hd3 : H3 d = some (.dK []) := g3.dK hd
    have g123 := (g1.trans g2).trans g3
    refine ⟨d, _, rfl, DPut.k (k := .inl m) hd3 (Nat.lt_of_lt_of_le (Nat.zero_lt_succ _) (size_ok (n := 1) (by omega))), ?_⟩
    obtain ⟨t, sl⟩ := k.1.gr g123
    have hv3 := (g2.trans g3).dp _ h1
    cases σ with
    | nil => exact sl.elim
    | cons o1 σ =>
      cases σ with
      | nil => exact sl.2.elim
      | cons o2 σ =>
        obtain ⟨⟨v1, e1, f1, f2⟩, ⟨v2, e2, f3, f4, _⟩, sl⟩ := sl
        refine k.2.2 _ _ ⟨tabs_late hd3 (fun _ z => by cases z) (fun _ z => by unfold LamX.CodeO at z; cases z) t, ⟨v1, e1, f1, (ImL.of hd3).dp _ f2⟩, ⟨v2, e2, f3, _, upd_same, ?_⟩, ?_⟩ ((k.2.1.trans g123).late hn hd3)
        · rw [putK_nil]
          exact ⟨⟨rfl, (ImL.of hd3).dp _ hv3⟩, trivial⟩
        · have all : ∀ {ρ : List Sl} {σ : L2.St} {H : Hp}, Slots X.K H ρ σ → Slots X.K (upd H3 d (.dK (putK [] (.inl m) v))) (List.replicate ρ.length .un) σ := by
            intro ρ
            induction ρ with
            | nil => intro σ H s; cases σ with | nil => trivial | cons _ _ => exact s.elim
            | cons r ρ ih => intro σ H s; cases σ with | nil => exact s.elim | cons o σ => exact ⟨trivial, ih s.2⟩
          have z := all sl
          simpa using z⟩⟩⟩
end
inductive Rchecked (K : PySem.W.Frag) : List Sl → Sl → Prop where
  | none (u : V) : Rchecked K [.pr (eqM K u (.tuple []))] (.pr (ddM K []))
  | one (u : V) : Rchecked K [.pr (eqM K u (.list [D5]))] (.pr (ddM K E5))
section
variable {P : Program} {w : World} {K : PySem.W.Frag} {mg : Str → Option Value} {base : Heap} {T : Tbl} {f : Addr} {fd : FuncData}
theorem df_checked (G : Glob mg) (F : FnP K "checked_deeds" s_checked_deeds f fd) (WL : Df P w K mg base T "is_line" 1 ["value"] Rln) (WD : Df P w K mg base T "is_deed" 6 ["value"] (R5 (.bool true))) (WO : Df P w K mg base T "in_name_order" 1 ["deed"] (R5 D5)) : DfG P w K mg base T 7 ["deeds"] f fd (Rchecked K) := by
  refine dfg_of2 F sc_checked_deeds (fun rs r h => by cases h <;> rfl) (fun _ _ _ _ _ _ us hl => match us, hl with | [_], _ => rfl) fun cdv A outer s H E vs rs r hr h hv => ?_
  cases h with
  | none u =>
    refine g_cons (n1_ifF (t_notF (t_val (d_call WL hr (by decide) (a_cons (d_eqM (dpr 0)) a_nil) ⟨_, rfl, rfl⟩)))) (g_newD 1 sc_checked_deeds.nd fun d nd => ?_)
    refine g_cons (for_E0 PassesOwn.never rfl G.f_enumerate (dpr 0) (pg_tup rfl (pgs_cons (pg_name (i := 2) sc_checked_deeds.nd rfl (Or.inl rfl)) (pgs_cons (pg_name (i := 3) sc_checked_deeds.nd rfl (Or.inl rfl)) pgs_nil)))) (g_od (g_frz2 (n := 4) nd ?_))
    refine g_cons (n1_ifF (t_to (t_cmp o_gt (d_lenD (dpr 1) G.f_len) (d_gint G.c_MOST_DEEDS) (.mk _ _) (nomark _)) (by decide))) (g_ret (e_dc (x := "moment") (j := 4) (ds := []) (fk := fun _ => 5) (fv := fun _ => D5) rfl sc_checked_deeds.nd (d_callB c_sorted G.f_sorted (by decide +kernel) (a_cons (de_l (lcD (x := "one") (j := 5) (f := fun m => .int m) (es := []) rfl sc_checked_deeds.nd (dpr 1) (blkOk_by (N := n_checked_deeds) (sc := defScope s_checked_deeds) (by decide +kernel))
      (fun _ _ _ _ _ => pg_name (i := 5) sc_checked_deeds.nd rfl (Or.inl rfl)) (fun s H C cl fp m hm => by cases hm) (fun _ => rfl) (by show 0 ≤ 1000; omega))) a_nil) (.mk [] [] (List.Perm.refl _) .nil)) (blkOk_by (N := n_checked_deeds) (sc := defScope s_checked_deeds) (by decide +kernel)) (fun _ _ _ _ _ => pg_name (i := 4) sc_checked_deeds.nd rfl (Or.inl rfl)) (by show 0 ≤ 1; omega)
      (fun s H C cl fp d hd => by cases hd) (fun s H C cl fp d hd => by cases hd)))
  | one u =>
    have hu : Dp K H u (.list [D5]) := by
      cases vs with
      | nil => exact hv.elim
      | cons v vs =>
        obtain ⟨⟨e, q⟩, _⟩ := hv
        rw [← e]
        exact q
    refine g_cons (n1_ifF (t_notF (t_val (d_call WL hr (by decide) (a_cons (d_eqM (dpr 0)) a_nil) ⟨_, rfl, rfl⟩)))) (g_newD 1 sc_checked_deeds.nd fun d nd => ?_)
    refine g_cons (for_E1 (i := 2) (j := 3) (d0 := D5) PassesOwn.never rfl G.f_enumerate (dpr 0) hu (pg_tup rfl (pgs_cons (pg_name (i := 2) sc_checked_deeds.nd rfl (Or.inl rfl)) (pgs_cons (pg_name (i := 3) sc_checked_deeds.nd rfl (Or.inl rfl)) pgs_nil)))
      (n_cons (n1_ifF (t_to (b := !true || false) (t_w (w_or (t_not (t_val (d_call WD hr (by decide) (a_cons (dn 3) a_nil) ⟨rfl, rfl⟩))) fun _ => w_or1 (t_in0 hr.units (d_ix (dn 3) d_int (.tup _ _ _ rfl)) (dob 1)))) rfl)) (n_cons (n1_put (n := 2) (m := 5) (dv := D5) hr.units nd (d_call WO hr (by decide) (a_cons (dn 3) a_nil) ⟨rfl, rfl⟩) (dob 1) (d_ix (dn 3) d_int (.tup _ _ _ rfl))) n_nil))) (g_frz2 (n := 4) nd ?_)
    refine g_cons (n1_ifF (t_to (t_cmp o_gt (d_lenD (dpr 1) G.f_len) (d_gint G.c_MOST_DEEDS) (.mk _ _) (nomark _)) (by decide))) (g_ret (e_dc (x := "moment") (j := 4) (ds := [.int 5]) (fk := fun _ => 5) (fv := fun _ => D5) rfl sc_checked_deeds.nd (d_callB c_sorted G.f_sorted (by decide +kernel) (a_cons (de_l (lcD (x := "one") (j := 5) (f := fun m => .int m) (es := E5) rfl sc_checked_deeds.nd (dpr 1) (blkOk_by (N := n_checked_deeds) (sc := defScope s_checked_deeds) (by decide +kernel))
      (fun _ _ _ _ _ => pg_name (i := 5) sc_checked_deeds.nd rfl (Or.inl rfl)) (fun s H C cl fp m hm => d_callT c_int G.f_int (by decide +kernel) (a_cons (dn 5) a_nil) (.int _)) (fun _ => rfl) (by show 1 ≤ 1000; omega))) a_nil) (.mk [5] [5] (List.Perm.refl _) (by simp))) (blkOk_by (N := n_checked_deeds) (sc := defScope s_checked_deeds) (by decide +kernel)) (fun _ _ _ _ _ => pg_name (i := 4) sc_checked_deeds.nd rfl (Or.inl rfl)) (by show 1 ≤ 1; omega)
      (fun s H C cl fp d hd => ?_) (fun s H C cl fp d hd => ?_)))
    · have e : d = .int 5 := by simpa using hd
      subst e
      exact dn 4
    · have e : d = .int 5 := by simpa using hd
      subst e
      exact d_getD hr.units (dpr 1) (dn 4) rfl
end
end KM
set_option Elab.async false
set_option linter.all false
set_option maxRecDepth 100000
set_option maxHeartbeats 4000000
/-! The class Past; plainstore.changes. -/
namespace KM
open PySem PySem.Spec PyProof.Rows L2
/-- what may be handed to Past -/
inductive PastArg : PyData → Ents → Prop where
  | none : PastArg (.tuple []) []
  | one : PastArg (.list [D5]) E5
def spPast (K : PySem.W.Frag) (T : Tbl) (C : Addr) : Sp := fun vs H Q _ => ∃ (H1 : Hp) (x dx : Addr) (u : V) (d : PyData) (es : Ents), vs = [.ref x, u] ∧ H = upd (upd H1 dx (.own x)) x (.ins C dx []) ∧ H1 x = none ∧ H1 dx = none ∧ dx ≠ x ∧ LamX.Tabs T H1 ∧ Dp K H1 u d ∧ PastArg d es ∧ ∀ H2, Gr T H1 H2 → (ptM K C es).f H2 (.ref x) → Q .non H2
/-- Past may be made -/
structure MkP (P : Program) (w : World) (K : PySem.W.Frag) (mg : Str → Option Value) (base : Heap) (T : Tbl) (k : Nat) (C fI : Addr) (fd : FuncData) (u0 : V) : Prop where
  cl : Cls K C
  nb : NoAttr K C "by_moment"
  mkr : Mk K C fI
  at_ : mg "Past" = some (.ref C)
  ins : C8.InsC K C
  ok : FnOk P w K mg base CX0 k fI fd ["self", "deeds"] (spPast K T C)
  b0 : ∃ ds, Vals [u0] ds ∧ Binds K fd ["self", "deeds"] ds
  b1 : Binds K fd ["self", "deeds"] []
  d0 : ∀ H, Dp K H u0 (.tuple [])
section
variable {X : Cx} {T : Tbl} {ρ : List Sl}
theorem e_past0 {p pos : Pos} {k j : Nat} {C fI : Addr} {fd : FuncData} {u0 : V} (M : MkP X.prog X.w X.K X.mg X.base T k C fI fd u0) (hr : Room j X.A) (hk : k + 1 ≤ j) (hg : Gl X "Past" := by rfl) : DE X T ρ (.Call (.Name "Past" p) [] [] pos) (.pr (ptM X.K C [])) := by
  obtain ⟨ds, hv, hb⟩ := M.b0
  refine pe_imp (pe_make0 (E := E0) M.mkr M.ok (hr.mono hk) hg M.at_ hb hv pass0 (by decide)) fun σ H Q q => fun x dx hx hdx hne => ?_
  exact ⟨H, x, dx, u0, .tuple [], [], rfl, rfl, hx, hdx, hne, q.1.tabs, M.d0 H, .none, fun H2 g hp => ⟨rfl, q.2 _ H2 g hp⟩⟩
theorem e_past1 {e : Expr} {p pos : Pos} {k j : Nat} {C fI : Addr} {fd : FuncData} {u0 : V} (M : MkP X.prog X.w X.K X.mg X.base T k C fI fd u0) (hr : Room j X.A) (hk : k + 1 ≤ j) (he : DD X T ρ e (.list [D5])) (hg : Gl X "Past" := by rfl)
    (hst : starEach [e] X.env = (false, eval e X.env) :: starEach [] X.env := by rfl) (hpl : (backTo pos (starEach [] X.env)).any (·.1) = false := by rfl) : DE X T ρ (.Call (.Name "Past" p) [e] [] pos) (.pr (ptM X.K C E5)) := by
  refine pe_imp (pe_make (dvs := []) (E := E0) M.mkr M.ok (hr.mono hk) hg M.at_ M.b1 .nil pass0 (a_cons he a_nil hst) (by decide) hst hpl) fun σ H Q q => ⟨q.1, fun vs H1 g1 h1 => fun x dx hx hdx hne => ?_⟩
  obtain ⟨v, e1, hv⟩ := one_of h1
  subst e1
  exact ⟨H1, x, dx, v, .list [D5], E5, rfl, rfl, hx, hdx, hne, g1.2 q.1.tabs, hv, .one, fun H2 g hp => ⟨rfl, q.2 _ H2 (g1.trans g) hp⟩⟩
/-- isinstance(e, Past) -/
theorem d_isP {e : Expr} {p p2 pos : Pos} {k : Nat} {C fI : Addr} {fd : FuncData} {u0 : V} {es : Ents} (M : MkP X.prog X.w X.K X.mg X.base T k C fI fd u0) (he : DE X T ρ e (.pr (ptM X.K C es))) (hm : X.mg "isinstance" = none) (hg : Gl X "isinstance" := by rfl) (hgC : Gl X "Past" := by rfl)
    (hs : starEach [e, .Name "Past" p2] X.env = (false, eval e X.env) :: starEach [.Name "Past" p2] X.env := by rfl) (hs2 : starEach [.Name "Past" p2] X.env = (false, eval (.Name "Past" p2) X.env) :: starEach [] X.env := by rfl) (hpl : (backTo pos (starEach [.Name "Past" p2] X.env)).any (·.1) = false := by rfl) :
    DD X T ρ (.Call (.Name "isinstance" p) [e, .Name "Past" p2] [] pos) (.bool true) :=
  pe_imp (pe_callB (C8.call_isC M.ins) hg hm (by decide +kernel) (pa_cons he (pa_cons (pe_glob (v := .ref C) hgC M.at_ rfl (by decide)) pa_nil hs2) hs) (by decide) (by decide) hs hpl) fun σ H Q k => ⟨k.1, fun v H2 g hv => by
    obtain ⟨p, dx, w, e1, h1, _⟩ := hv
    subst e1
    exact ⟨p, dx, _, rfl, h1, k.2 _ H2 g (.bl true)⟩⟩
end
section
variable {P : Program} {w : World} {K : PySem.W.Frag} {mg : Str → Option Value} {base : Heap} {T : Tbl} {f : Addr} {fd : FuncData}
theorem ok_Past_init {C : Addr} {dvs : List V} {fc : Addr} {fdc : FuncData} (F : FunD K "__init__" "Past.__init__" (defArgs s_Past___init__) (defBody s_Past___init__) (defScope s_Past___init__) dvs [] f fd) (c : Cls K C) (nb : NoAttr K C "by_moment")
    (W : DfG P w K mg base T 7 ["deeds"] fc fdc (Rchecked K)) (hm : mg "checked_deeds" = some (.ref fc)) : FnOk P w K mg base CX0 8 f fd ["self", "deeds"] (spPast K T C) := by
  refine F.ok sc_Past___init__ (fun vs H Q E h => ?_) (fun cdv A outer s H vs Q E hr h => ?_)
  · obtain ⟨_, x, dx, u, _, _, e, _⟩ := h
    rw [e]
    rfl
  obtain ⟨H1, x, dx, u, d, es, rfl, rfl, hx, hdx, hne, ht, hd, ha, q⟩ := h
  have gdx : Gr T H1 (upd H1 dx (.own x)) := Gr.new hdx
  have hx2 : upd H1 dx (.own x) x = none := by rw [upd_ne (Ne.symm hne)]; exact hx
  have gH : Gr T H1 (upd (upd H1 dx (.own x)) x (.ins C dx [])) := gdx.trans (Gr.new hx2)
  have hval : DE (bodyX P w K mg base n_Past___init__ "Past.__init__" (defScope s_Past___init__) f cdv A outer s (upd (upd H1 dx (.own x)) x (.ins C dx [])) E) T [.ob x (.ins C dx []), .pr (eqM K u d)] (.Call (.Name "checked_deeds" ((match (defBody s_Past___init__) with | [.Assign _ (.Call (.Name _ p) _ _ _) _] => p | _ => default))) [.Name "deeds" ((match (defBody s_Past___init__) with | [.Assign _ (.Call _ [.Name _ p] _ _) _] => p | _ => default))] [] ((match (defBody s_Past___init__) with | [.Assign _ (.Call _ _ _ p) _] => p | _ => default))) (.pr (ddM K es)) := by
    cases ha with
    | none => exact e_call W hm hr (by decide) (ag_cons (dpr 1) ag_nil) (.none u)
    | one => exact e_call W hm hr (by decide) (ag_cons (dpr 1) ag_nil) (.one u)
  refine ⟨_, PSs.nox (pss_cons (ps_fld (de_name (X := bodyX P w K mg base n_Past___init__ "Past.__init__" (defScope s_Past___init__) f cdv A outer s (upd (upd H1 dx (.own x)) x (.ins C dx [])) E) (T := T) (ρ := [.ob x (.ins C dx []), .pr (eqM K u d)]) (r := .ob x (.ins C dx [])) 0 rfl (fun z => by cases z)) hval rfl) pss_nil), ⟨gH.2 ht, ⟨.ref x, rfl, rfl, upd_same, fun _ z => by cases z⟩, ⟨u, rfl, rfl, gH.dp _ hd⟩, trivial⟩, fun v H3 g3 h3 => ?_⟩
  refine ⟨⟨(gH.trans g3).2 ht, ⟨.ref x, rfl, rfl, g3.ins upd_same, fun _ z => by cases z⟩, ⟨u, rfl, rfl, (gH.trans g3).dp _ hd⟩, trivial⟩, fun w4 H4 g4 h4 => ?_⟩
  obtain ⟨e4, h5, _⟩ := h4
  subst e4
  refine ⟨x, C, dx, [], rfl, h5, c, nb, by show 0 < 1000; omega, ?_⟩
  have hd4 := (ddM K es).mono T _ _ _ g4 h3
  obtain ⟨dd, o, kvs, e6, h6, q6⟩ := hd4
  have hne2 : dd ≠ x := fun z => by rw [z, h5] at h6; cases h6
  refine q _ ((gH.trans (g3.trans g4)).late (New.of hx) h5) ⟨x, dx, v, rfl, upd_same, dd, o, kvs, e6, by rw [upd_ne hne2]; exact h6, q6.re fun d' _ hh => (ImL.of h5).dp d' hh⟩
end
end KM
set_option Elab.async false
set_option linter.all false
set_option maxRecDepth 100000
set_option maxHeartbeats 4000000
/-! Past's methods; plainstore.changes. -/
namespace KM
open PySem PySem.Spec PyProof.Rows L2
section
variable {X : Cx} {T : Tbl} {ρ : List Sl} {r : Sl} {rs : List Sl}
/-- a def whose promise is over data, called on slots -/
theorem d_callS {x : Str} {p pos : Pos} {k j : Nat} {ps : List Str} {f : Addr} {fd : FuncData} {R : List Sl → Sl → Prop} {d : PyData} {e : Expr} {es : List Expr} (D : DfG X.prog X.w X.K X.mg X.base T k ps f fd R) (hm : X.mg x = some (.ref f)) (hr : Room j X.A) (hk : k ≤ j) (ha : AG X T ρ (e :: es) rs) (h : R rs (.dt d)) (hg : Gl X x := by rfl)
    (hdb : (x == ("__debug__" : Str)) = false := by decide) (he : starEach (e :: es) X.env = (false, eval e X.env) :: starEach es X.env := by rfl) (hpl : (backTo pos (starEach es X.env)).any (·.1) = false := by rfl) : DD X T ρ (.Call (.Name x p) (e :: es) [] pos) d :=
  e_call D hm hr hk ha h hg hdb he hpl
end
inductive Rdeeds (K : PySem.W.Frag) (C : Addr) : List Sl → Sl → Prop where
  | zero : Rdeeds K C [.pr (ptM K C [])] (.nl [])
  | one : Rdeeds K C [.pr (ptM K C E5)] (.nl [D5])
inductive Rwith (K : PySem.W.Frag) (C : Addr) : List Sl → Sl → Prop where
  | mk : Rwith K C [.pr (ptM K C []), .dt D5] (.pr (ptM K C E5))
inductive RchkP (K : PySem.W.Frag) (C : Addr) : List Sl → Sl → Prop where
  | mk : RchkP K C [.pr (ptM K C [])] (.dt .none)
inductive Rch (K : PySem.W.Frag) (C : Addr) (r : Sl) : List Sl → Sl → Prop where
  | mk : Rch K C r [.pr (ptM K C []), .dt CH5] r
section
variable {P : Program} {w : World} {K : PySem.W.Frag} {mg : Str → Option Value} {base : Heap} {T : Tbl} {f : Addr} {fd : FuncData} {C fI : Addr} {fdI : FuncData} {u0 : V}
theorem dfg_deeds (F : FunD K "deeds" "Past.deeds" (defArgs s_Past_deeds) (defBody s_Past_deeds) (defScope s_Past_deeds) [] [] f fd) (c : Cls K C) (nb : NoAttr K C "by_moment") : DfG P w K mg base T 1 ["self"] f fd (Rdeeds K C) := by
  refine dfg_of F sc_Past_deeds (fun rs r h => by cases h <;> rfl) (fun _ _ _ _ _ _ us hl => match us, hl with | [_], _ => rfl) fun cdv A outer s H E rs r hr h => ?_
  cases h with
  | zero =>
    exact g_ret (lcD (x := "moment") (j := 1) (f := fun m => D5) (es := []) rfl sc_Past_deeds.nd (e_by c nb (dpr 0)) (blkOk_by (N := n_Past_deeds) (sc := defScope s_Past_deeds) (by decide +kernel)) (fun _ _ _ _ _ => pg_name (i := 1) sc_Past_deeds.nd rfl (Or.inl rfl)) (fun s H C cl fp m hm => by cases hm) (fun _ => rfl) (by show 0 ≤ 1000; omega))
  | one =>
    refine g_ret (lcD (x := "moment") (j := 1) (f := fun m => D5) (es := E5) rfl sc_Past_deeds.nd (e_by c nb (dpr 0)) (blkOk_by (N := n_Past_deeds) (sc := defScope s_Past_deeds) (by decide +kernel)) (fun _ _ _ _ _ => pg_name (i := 1) sc_Past_deeds.nd rfl (Or.inl rfl)) (fun s H C cl fp m hm => ?_) (fun _ => rfl) (by show 1 ≤ 1000; omega))
    have e : m = 5 := by simpa [E5] using hm
    subst e
    exact d_getD hr.units (e_by c nb (dpr 0)) (dn 1) rfl
theorem dfg_with {fD : Addr} {fdD : FuncData} (G : Glob mg) (F : FunD K "with_deed" "Past.with_deed" (defArgs s_Past_with_deed) (defBody s_Past_with_deed) (defScope s_Past_with_deed) [] [] f fd) (M : MkP P w K mg base T 8 C fI fdI u0) (WC : Df P w K mg base T "check_deed" 7 ["deed"] (R5 .none))
    (WD : DfG P w K mg base T 1 ["self"] fD fdD (Rdeeds K C)) (hD : Meth K C "deeds" fD) : DfG P w K mg base T 10 ["self", "deed"] f fd (Rwith K C) := by
  refine dfg_of F sc_Past_with_deed (fun rs r h => by cases h; rfl) (fun _ _ _ _ _ _ us hl => match us, hl with | [_, _], _ => rfl) fun cdv A outer s H E rs r hr h => ?_
  cases h with
  | mk =>
    refine g_cons (n1_expr (d_call WC hr (by decide) (a_cons (dn 1) a_nil) ⟨rfl, rfl⟩)) (g_cons (n1_ifF (t_inD hr.units (d_ix (dn 1) d_int (.tup _ _ _ rfl)) (e_by M.cl M.nb (dpr 0)) rfl)) (g_ret ?_))
    exact e_past1 M hr (by decide) (de_l (d_lst (ds := [D5]) (a_star (ds := []) (de_l (e_meth0 WD M.cl hD hr (by decide) (dpr 0) (obj_pt rfl) .zero)) (a_cons (dn 1) a_nil)) (by show 1 ≤ 1000; omega)))
theorem dfg_check_past (G : Glob mg) (F : FnP K "check_past" s_check_past f fd) (M : MkP P w K mg base T 8 C fI fdI u0) : DfG P w K mg base T 1 ["past"] f fd (RchkP K C) := by
  refine dfg_of F sc_check_past (fun rs r h => by cases h; rfl) (fun _ _ _ _ _ _ us hl => match us, hl with | [_], _ => rfl) fun cdv A outer s H E rs r hr h => ?_
  cases h with
  | mk => exact g_cons (n1_ifF (t_notF (t_val (d_isP M (dpr 0) G.f_isinstance)))) g_nil
theorem dfg_is_change {fP fD : Addr} {fdP fdD : FuncData} (G : Glob mg) (F : FnP K "is_change" s_is_change f fd) (M : MkP P w K mg base T 8 C fI fdI u0) (WP : DfG P w K mg base T 1 ["past"] fP fdP (RchkP K C)) (hP : mg "check_past" = some (.ref fP))
    (WD : DfG P w K mg base T 1 ["self"] fD fdD (Rdeeds K C)) (hD : Meth K C "deeds" fD) (W : Df P w K mg base T "is_change_of" 7 ["some", "value"] RchOf) : DfG P w K mg base T 8 ["past", "value"] f fd (Rch K C (.dt (.bool true))) := by
  refine dfg_of F sc_is_change (fun rs r h => by cases h; rfl) (fun _ _ _ _ _ _ us hl => match us, hl with | [_, _], _ => rfl) fun cdv A outer s H E rs r hr h => ?_
  cases h with
  | mk => exact g_cons (n1_expr (e_call WP hP hr (by decide) (ag_cons (dpr 0) ag_nil) .mk)) (g_ret (d_call W hr (by decide) (a_cons (de_l (e_meth0 WD M.cl hD hr (by decide) (dpr 0) (obj_pt rfl) .zero)) (a_cons (dn 1) a_nil)) ⟨rfl, rfl⟩))
theorem dfg_check_change {fC : Addr} {fdC : FuncData} (G : Glob mg) (F : FnP K "check_change" s_check_change f fd) (WC : DfG P w K mg base T 8 ["past", "value"] fC fdC (Rch K C (.dt (.bool true)))) (hC : mg "is_change" = some (.ref fC)) : DfG P w K mg base T 9 ["past", "change"] f fd (Rch K C (.dt .none)) := by
  refine dfg_of F sc_check_change (fun rs r h => by cases h; rfl) (fun _ _ _ _ _ _ us hl => match us, hl with | [_, _], _ => rfl) fun cdv A outer s H E rs r hr h => ?_
  cases h with
  | mk => exact g_cons (n1_ifF (t_notF (t_val (e_call WC hC hr (by decide) (ag_cons (dpr 0) (ag_cons (dn 1) ag_nil)) .mk)))) g_nil
theorem dfg_changed {fC fW : Addr} {fdC fdW : FuncData} (G : Glob mg) (F : FnP K "changed" s_changed f fd) (M : MkP P w K mg base T 8 C fI fdI u0) (WC : DfG P w K mg base T 9 ["past", "change"] fC fdC (Rch K C (.dt .none))) (hC : mg "check_change" = some (.ref fC))
    (WW : DfG P w K mg base T 10 ["self", "deed"] fW fdW (Rwith K C)) (hW : Meth K C "with_deed" fW) : DfG P w K mg base T 11 ["past", "change"] f fd (Rch K C (.pr (ptM K C E5))) := by
  refine dfg_of F sc_changed (fun rs r h => by cases h; rfl) (fun _ _ _ _ _ _ us hl => match us, hl with | [_, _], _ => rfl) fun cdv A outer s H E rs r hr h => ?_
  cases h with
  | mk => exact g_cons (n1_expr (e_call WC hC hr (by decide) (ag_cons (dpr 0) (ag_cons (dn 1) ag_nil)) .mk)) (g_ret (e_if (p := true) (t_to (t_cmp o_eqS (d_ix (dn 1) d_int (.tup _ _ _ rfl)) d_str (.mk _ _) (nomark _)) (by decide +kernel)) (fun _ => e_meth WW M.cl hW hr (by decide) (dpr 0) (obj_pt rfl) (ag_cons (d_ix (dn 1) d_int (.tup _ _ _ rfl)) ag_nil) .mk) (fun z => by cases z)))
theorem dfg_opposite {fC : Addr} {fdC : FuncData} (G : Glob mg) (F : FnP K "opposite" s_opposite f fd) (WC : DfG P w K mg base T 9 ["past", "change"] fC fdC (Rch K C (.dt .none))) (hC : mg "check_change" = some (.ref fC)) : DfG P w K mg base T 10 ["past", "change"] f fd (Rch K C (.dt (.tuple [.str "out", .int 5]))) := by
  refine dfg_of F sc_opposite (fun rs r h => by cases h; rfl) (fun _ _ _ _ _ _ us hl => match us, hl with | [_, _], _ => rfl) fun cdv A outer s H E rs r hr h => ?_
  cases h with
  | mk => exact g_cons (n1_expr (e_call WC hC hr (by decide) (ag_cons (dpr 0) (ag_cons (dn 1) ag_nil)) .mk)) (g_ret (e_if (p := true) (t_to (t_cmp o_eqS (d_ix (dn 1) d_int (.tup _ _ _ rfl)) d_str (.mk _ _) (nomark _)) (by decide +kernel)) (fun _ => d_tup (a_cons d_str (a_cons (d_ix (d_ix (dn 1) d_int (.tup _ _ _ rfl)) d_int (.tup _ _ _ rfl)) a_nil)) (by show 2 ≤ 1000; omega)) (fun z => by cases z)))
end
end KM
set_option Elab.async false
set_option linter.all false
set_option maxRecDepth 100000
set_option maxHeartbeats 4000000
/-! last_by_moments([]), deeds_of([]) -/
namespace KM
open PySem PySem.Spec PyProof.Rows L2
section
variable {P : Program} {w : World} {K : PySem.W.Frag} {mg : Str → Option Value} {base : Heap} {T : Tbl} {f : Addr} {fd : FuncData}
/-- as dfg_of, the code object known -/
theorem dfg_ofC {x qual : Str} {st : Stmt} {N ps : List Str} {k : Nat} {R : List Sl → Sl → Prop} {c : Addr} (F : FunD K x qual (defArgs st) (defBody st) (defScope st) [] [] f fd) (hcd : fd.code = .ref c) (S : FnScope N ps (defScope st)) (len : ∀ rs r, R rs r → rs.length = ps.length)
    (hb : ∀ (kV doc pm : Value) (an : Option Addr) (cdv ct : Value) (us : List Value), us.length = ps.length → bindArgs (PySem.W.fnOf x qual (defArgs st) (defBody st) (defScope st) .none kV doc pm an cdv ct) ⟨us, []⟩ = pure (ps.zip us))
    (hbody : ∀ (A : Around) (outer : List PySem.Env) (s : Shared) (H : Hp) (E : XK) (rs : List Sl) (r : Sl), Room k (A.deeper (envOfC qual (defScope st) s.heap.objs.size f (.ref c))) → R rs r →
      DG (bodyX P w K mg base N qual (defScope st) f (.ref c) A outer s H E) T H (startG N rs) (defBody st) r) : DfG P w K mg base T (k + 1) ps f fd R := by
  refine ⟨?_, F.kp, F.bindsN hb⟩
  obtain ⟨oc, od, dV, kV, doc, pm, an, cdv, ct, osl, rfl, lk, hcd2, _, _⟩ := F.ex
  have hcd : cdv = .ref c := hcd
  subst hcd
  refine fn_of lk hcd2 S (fun vs H Q E h => ?_) fun A outer s H vs Q E hr h => ?_
  · obtain ⟨_, rs, r, hv, hR, _⟩ := h
    rw [hv.len]
    exact len rs r hR
  · obtain ⟨ht, rs, r, hv, hR, q⟩ := h
    refine ⟨_, PSs.nox (hbody A outer s H E rs r hr hR), startG_env ht hv, Gr.refl H, q, fun z σ2 H2 g => ?_⟩
    subst z
    exact q .non H2 g .non
end
section
variable {X : Cx} {T : Tbl} {HB : Hp} {ρ ρ1 ρ2 : List Sl} {rest : List Stmt} {r : Sl}
/-- the dict of the second slot is left alone from now on -/
theorem g_frzD {x : PyData} {d : Addr} {es : Ents} {n : Nat} (hn : New HB d) (h : DG X T HB (.dt x :: .pr (ddM X.K es) :: List.replicate n .un) rest r) : DG X T HB (.dt x :: .pr (odM X.K d es) :: List.replicate n .un) rest r := by
  refine pss_imp (pss_frz (d := d) h) fun D σ H k => ?_
  obtain ⟨⟨t, sl⟩, g, q1, q2⟩ := k
  cases σ with
  | nil => exact sl.elim
  | cons o1 σ =>
    cases σ with
    | nil => exact sl.2.elim
    | cons o2 σ =>
      obtain ⟨⟨v1, e1, f1⟩, ⟨v2, e2, f3, kvs, f4, f5⟩, sl⟩ := sl
      refine ⟨kvs, f4, fun o => ⟨⟨tabs_late f4 (fun _ z => by cases z) (fun _ z => by unfold LamX.CodeO at z; cases z) t, ⟨v1, e1, (ImL.of f4).dp _ f1⟩, ⟨v2, e2, d, o, kvs, f3, upd_same, f5.re fun d' _ h => (ImL.of f4).dp d' h⟩, ?_⟩, g.late hn f4, q1, q2⟩⟩
      clear h q1 q2
      induction n generalizing σ with
      | zero =>
        cases σ with
        | nil => trivial
        | cons _ _ => exact sl.elim
      | succ n ih =>
        cases σ with
        | nil => exact sl.elim
        | cons o σ => exact ⟨trivial, ih σ sl.2⟩
/-- for .. in []: no round -/
theorem for_0 {iter tg : Expr} {body : List Stmt} {g : TG} {pos : Pos} (hp : PassesOwn (model X.prog X.w) X.A X.env X.xe) (hc : X.calm = true) (hi : DD X T ρ iter (.list [])) (hg : PG X tg g)
    (hs : ∀ x, foldedSetIterable iter X.env x = pure x := by intro _; rfl) : D1 X T HB ρ (.For tg iter body [] pos) ρ := by
  refine ps_imp (ps_for hp hc (pi_list hi) hg pss_never hs) fun D σ H k => ⟨k.1, fun v H1 g1 h1 => ?_⟩
  obtain ⟨a, xs, e1, e2, e3⟩ := dp_lst h1
  cases e3
  exact ⟨a, e1, ⟨[], e2⟩, fun i m σ' H' => σ' = σ ∧ H' = H1, ⟨0, rfl, rfl⟩, fun i m σ' H' ⟨e1, e4⟩ => by
    subst e1 e4
    exact .inl ⟨⟨[], e2, Nat.zero_le _⟩, k.2.2 _ _ (k.1.gr g1) (k.2.1.trans g1)⟩⟩
theorem pts_any0 {cs : List Expr} : PTs X cs (fun _ _ _ => False) := ⟨fun _ _ _ _ _ _ h => h.elim⟩
theorem pe_any0 {e : Expr} : PE X e (fun _ _ _ => False) := ⟨fun _ _ _ _ _ _ h => h.elim⟩
/-- [.. for x in d.values() if ..], d empty -/
theorem lcV0 {elt tg e : Expr} {ifs : List Expr} {scope : Scope} {x : Str} {j : Nat} {pos cpos apos : Pos} (hc : X.calm = true) (hN : X.N.Nodup) (hi : DE X T ρ e (.pr (ddM X.K []))) (ok : BlkOk X.N X.env.scope scope [(x, j)]) (hg : HG1 X scope tg j)
    (hbase : attributeBase e "values" X.env (eval e X.env) = eval e X.env := by rfl) (hline : (apos.endLine == cpos.line) = true := by rfl) (hs : ∀ x, foldedSetIterable (.Call (.Attribute e "values" apos) [] [] cpos) X.env x = pure x := by intro _; rfl) :
    DE X T ρ (.ListComp elt [⟨tg, .Call (.Attribute e "values" apos) [] [] cpos, ifs, 0⟩] scope pos) (.nl []) :=
  pe_imp (pe_lc (own := [(x, j)]) hc hN (pi_values hi hbase hline) ok hg (fun _ _ _ _ _ => pts_any0) (fun _ _ _ _ _ => pe_any0) hs) fun σ H Q k => ⟨k.1, fun v H1 g1 h1 => by
    obtain ⟨d, o, kvs, e1, hd, q⟩ := h1
    have hk : kvs = [] := List.length_eq_zero_iff.mp q.len
    subst hk
    refine ⟨d, o, [], e1, hd, fun D hD => ⟨fun i m H => H = upd H1 D (.lst []), ⟨0, rfl⟩, fun i m H' e2 => ?_⟩⟩
    subst e2
    exact .inl ⟨⟨by rw [upd_ne (fun z => by rw [z, hD] at hd; cases hd)]; exact hd, Nat.zero_le _⟩, k.2 _ _ (g1.trans (Gr.new hD)) ⟨D, _, rfl, upd_same, .nil⟩⟩⟩
end
inductive Rlast (K : PySem.W.Frag) : List Sl → Sl → Prop where
  | mk : Rlast K [.dt (.list [])] (.pr (ddM K []))
inductive RdeedsOf : List Sl → Sl → Prop where
  | mk : RdeedsOf [.dt (.list [])] (.nl [])
section
variable {P : Program} {w : World} {K : PySem.W.Frag} {mg : Str → Option Value} {base : Heap} {T : Tbl} {f : Addr} {fd : FuncData}
theorem dfg_last {c Pt : Addr} (G : Glob mg) (F : FnP K "last_by_moments" s_last_by_moments f fd) (hcd : fd.code = .ref c) (L : LamT base mg T c Pt (((("last_by_moments" : Str) ++ ".<locals>.") ++ "<lambda>"))) : DfG P w K mg base T 1 ["records"] f fd (Rlast K) := by
  refine dfg_ofC F hcd sc_last_by_moments (fun rs r h => by cases h; rfl) (fun _ _ _ _ _ _ us hl => match us, hl with | [_], _ => rfl) fun A outer s H E rs r hr h => ?_
  cases h with
  | mk =>
    refine g_newD 1 sc_last_by_moments.nd fun d nd => ?_
    refine g_cons (for_0 (g := gName 2) PassesOwn.never rfl (de_l (d_sort0 L.tb rfl L.mem L.uni G.f_sorted (dn 0) rfl (by decide +kernel))) (pg_name (i := 2) sc_last_by_moments.nd rfl (Or.inl rfl))) (g_od (g_frzD (n := 1) nd (g_ret (dpr 1))))
theorem dfg_deeds_of {fL : Addr} {fdL : FuncData} (F : FnP K "deeds_of" s_deeds_of f fd) (W : DfG P w K mg base T 1 ["records"] fL fdL (Rlast K)) (hL : mg "last_by_moments" = some (.ref fL)) : DfG P w K mg base T 2 ["records"] f fd RdeedsOf := by
  refine dfg_of F sc_deeds_of (fun rs r h => by cases h; rfl) (fun _ _ _ _ _ _ us hl => match us, hl with | [_], _ => rfl) fun cdv A outer s H E rs r hr h => ?_
  cases h with
  | mk => exact g_ret (lcV0 (x := "record") (j := 1) rfl sc_deeds_of.nd (e_call W hL hr (by decide) (ag_cons (dn 0) ag_nil) .mk) (blkOk_by (N := n_deeds_of) (sc := defScope s_deeds_of) (by decide +kernel)) (fun _ _ _ _ _ => pg_name (i := 1) sc_deeds_of.nd rfl (Or.inl rfl)))
end
end KM
set_option Elab.async false
set_option linter.all false
set_option maxRecDepth 100000
set_option maxHeartbeats 4000000
/-! An own object: its fields, its own lists. -/
namespace KM
open PySem PySem.Spec PyProof.Rows L2
/-- an own list or an own object is written -/
inductive StepO (H : Hp) (p : Addr) : HO → Prop where
  | lst {xs ys : List V} (h : H p = some (.lst xs)) : StepO H p (.lst ys)
  | ins {C dx : Addr} {fs fs' : List (Str × V)} (h : H p = some (.ins C dx fs)) (n : fs.lookup ("by_moment" : Str) = none) : StepO H p (.ins C dx fs')
def Steady (K : PySem.W.Frag) (r : Sl) : Prop := ∀ H p o v, StepO H p o → SlOk K H r v → SlOk K (upd H p o) r v
section
variable {K : PySem.W.Frag} {T : Tbl} {H : Hp} {p : Addr} {o : HO}
theorem StepO.im (s : StepO H p o) : Im H (upd H p o) := by
  cases s with
  | lst h => exact Im.upd h
  | ins h _ => exact Im.upd h
theorem StepO.tabs (s : StepO H p o) (t : LamX.Tabs T H) : LamX.Tabs T (upd H p o) := by
  cases s with
  | lst h => exact tabs_late h (fun _ z => by cases z) (fun _ z => by unfold LamX.CodeO at z; cases z) t
  | ins h _ => exact tabs_late h (fun _ z => by cases z) (fun _ z => by unfold LamX.CodeO at z; cases z) t
theorem StepO.late {HB : Hp} (s : StepO H p o) (n : New HB p) (g : Gr T HB H) : Gr T HB (upd H p o) := by
  cases s with
  | lst h => exact g.late n h
  | ins h _ => exact g.late n h
theorem steady_un : Steady K .un := fun _ _ _ _ _ _ => trivial
theorem steady_rw {u : V} : Steady K (.rw u) := fun _ _ _ _ _ h => h
theorem steady_dt {d : PyData} (h : noL d = true) : Steady K (.dt d) := fun _ _ _ _ s q => s.im.dp d h q
theorem KvD.reN {H' : Hp} (f : ∀ (d : PyData) {v : V}, noL d = true → Dp K H v d → Dp K H' v d) : ∀ {kvs : List (Key × V)} {es : Ents}, (∀ q ∈ es, noL q.2 = true) → KvD K H kvs es → KvD K H' kvs es
  | [], [], _, _ => trivial
  | (_, _) :: _, (m, d) :: _, n, h => ⟨⟨h.1.1, f _ (n (m, d) (List.mem_cons_self ..)) h.1.2⟩, KvD.reN f (fun q hq => n q (List.mem_cons_of_mem _ hq)) h.2⟩
  | [], _ :: _, _, h => h.elim
  | _ :: _, [], _, h => h.elim
theorem steady_pt {C : Addr} {es : Ents} (n : ∀ q ∈ es, noL q.2 = true) : Steady K (.pr (ptM K C es)) := by
  intro H p o v s q
  obtain ⟨a, dx, w, e, h, d, od, kvs, e2, h2, q2⟩ := q
  have ha : a ≠ p := by
    rintro rfl
    cases s with
    | lst z => rw [h] at z; cases z
    | ins z nz =>
      rw [h] at z
      cases z
      cases nz
  have hd : d ≠ p := by
    rintro rfl
    cases s with
    | lst z => rw [h2] at z; cases z
    | ins z nz => rw [h2] at z; cases z
  exact ⟨a, dx, w, e, by rw [upd_ne ha]; exact h, d, od, kvs, e2, by rw [upd_ne hd]; exact h2, q2.reN (fun d _ hn hh => s.im.dp d hn hh) n⟩
theorem steady_es0 : ∀ q ∈ ([] : Ents), noL q.2 = true := fun q h => by cases h
theorem steady_es5 : ∀ q ∈ E5, noL q.2 = true := fun q h => by
  have e : q = (5, D5) := by simpa [E5] using h
  rw [e]
  rfl
end
def SteadyL (K : PySem.W.Frag) : List Sl → Prop
  | [] => True
  | r :: ρ => Steady K r ∧ SteadyL K ρ
/-! ### the object -/
abbrev Flds : Type := List (Str × Sl)
abbrev Lsts : Type := List (Addr × List PyData)
def FsOk (K : PySem.W.Frag) (H : Hp) : List (Str × V) → Flds → Prop
  | [], [] => True
  | (f, v) :: fs, (g, r) :: rs => (f = g ∧ SlOk K H r v) ∧ FsOk K H fs rs
  | _, _ => False
def LsOk (K : PySem.W.Frag) (H : Hp) (L : Lsts) : Prop := ∀ (i : Nat) (a : Addr) (ds : List PyData), L[i]? = some (a, ds) → ∃ xs, H a = some (.lst xs) ∧ DpAll K H xs ds ∧ noLs ds = true
def LsD (L : Lsts) : Prop := ∀ (i j : Nat) (a : Addr) (ds ds' : List PyData), L[i]? = some (a, ds) → L[j]? = some (a, ds') → i = j
def putR (f : Str) (r : Sl) : Flds → Flds
  | [] => [(f, r)]
  | (g, x) :: t => if g = f then (g, r) :: t else (g, x) :: putR f r t
def SteadyF (K : PySem.W.Frag) : Flds → Prop
  | [] => True
  | q :: rs => Steady K q.2 ∧ SteadyF K rs
section
variable {K : PySem.W.Frag} {T : Tbl} {H H' : Hp} {p : Addr} {o : HO}
theorem FsOk.re (f : ∀ r v, SlOk K H r v → SlOk K H' r v) : ∀ {fs : List (Str × V)} {rs : Flds}, FsOk K H fs rs → FsOk K H' fs rs
  | [], [], _ => trivial
  | (_, _) :: _, (_, _) :: _, h => ⟨⟨h.1.1, f _ _ h.1.2⟩, FsOk.re f h.2⟩
  | [], _ :: _, h => h.elim
  | _ :: _, [], h => h.elim
theorem FsOk.step (s : StepO H p o) : ∀ {fs : List (Str × V)} {rs : Flds}, SteadyF K rs → FsOk K H fs rs → FsOk K (upd H p o) fs rs
  | [], [], _, _ => trivial
  | (_, _) :: _, (_, _) :: _, k, h => ⟨⟨h.1.1, k.1 _ _ _ _ s h.1.2⟩, FsOk.step s k.2 h.2⟩
  | [], _ :: _, _, h => h.elim
  | _ :: _, [], _, h => h.elim
theorem FsOk.len : ∀ {fs : List (Str × V)} {rs : Flds}, FsOk K H fs rs → fs.length = rs.length
  | [], [], _ => rfl
  | (_, _) :: _, (_, _) :: _, h => congrArg Nat.succ (FsOk.len h.2)
  | [], _ :: _, h => h.elim
  | _ :: _, [], h => h.elim
theorem FsOk.get {f : Str} : ∀ {fs : List (Str × V)} {rs : Flds}, FsOk K H fs rs → (∀ r, rs.lookup f = some r → ∃ v, fs.lookup f = some v ∧ SlOk K H r v) ∧ (rs.lookup f = none → fs.lookup f = none)
  | [], [], _ => ⟨fun r z => (by cases z), fun _ => rfl⟩
  | (g, v) :: fs, (g', r) :: rs, h => by
    obtain ⟨⟨e, q⟩, h2⟩ := h
    subst e
    obtain ⟨i1, i2⟩ := FsOk.get (f := f) h2
    rw [List.lookup_cons, List.lookup_cons]
    cases hb : (f == g) with
    | true => exact ⟨fun r' z => ⟨v, rfl, by rw [← Option.some.inj z]; exact q⟩, fun z => by cases z⟩
    | false => exact ⟨i1, i2⟩
  | [], _ :: _, h => h.elim
  | _ :: _, [], h => h.elim
theorem FsOk.put {f : Str} {r : Sl} {v : V} (hv : SlOk K H r v) : ∀ {fs : List (Str × V)} {rs : Flds}, FsOk K H fs rs → FsOk K H (putF f v fs) (putR f r rs)
  | [], [], _ => ⟨⟨rfl, hv⟩, trivial⟩
  | (g, u) :: fs, (g', x) :: rs, h => by
    obtain ⟨⟨e, q⟩, h2⟩ := h
    subst e
    show FsOk K H (if g = f then (g, v) :: fs else (g, u) :: putF f v fs) (if g = f then (g, r) :: rs else (g, x) :: putR f r rs)
    by_cases hg : g = f
    · rw [if_pos hg, if_pos hg]
      exact ⟨⟨rfl, hv⟩, h2⟩
    · rw [if_neg hg, if_neg hg]
      exact ⟨⟨rfl, q⟩, FsOk.put hv h2⟩
  | [], _ :: _, h => h.elim
  | _ :: _, [], h => h.elim
theorem LsOk.step {L : Lsts} (s : StepO H p o) (h : LsOk K H L) (n : ∀ (i : Nat) (a : Addr) (ds : List PyData), L[i]? = some (a, ds) → a ≠ p) : LsOk K (upd H p o) L := fun i a ds e => by
  obtain ⟨xs, q1, q2, q3⟩ := h i a ds e
  exact ⟨xs, by rw [upd_ne (n i a ds e)]; exact q1, s.im.dpAll ds q3 q2, q3⟩
theorem LsOk.gr {L : Lsts} (g : Gr T H H') (h : LsOk K H L) : LsOk K H' L := fun i a ds e => by
  obtain ⟨xs, q1, q2, q3⟩ := h i a ds e
  exact ⟨xs, g.lst q1, g.dpAll ds q2, q3⟩
theorem LsOk.app {L : Lsts} {i : Nat} {a : Addr} {ds : List PyData} {d : PyData} {xs : List V} {v : V} (h : LsOk K H L) (D : LsD L) (hi : L[i]? = some (a, ds)) (hx : H a = some (.lst xs)) (hv : Dp K H v d) (hd : noL d = true) : LsOk K (upd H a (.lst (xs ++ [v]))) (L.set i (a, ds ++ [d])) := fun j b es e => by
  have s : StepO H a (.lst (xs ++ [v])) := .lst hx
  by_cases hj : i = j
  · subst hj
    have hl : i < L.length := by
      rcases Nat.lt_or_ge i L.length with z | z
      · exact z
      · rw [List.getElem?_eq_none z] at hi
        cases hi
    rw [List.getElem?_set_self hl] at e
    cases e
    obtain ⟨ys, q1, q2, q3⟩ := h i a ds hi
    rw [hx] at q1
    cases q1
    refine ⟨_, upd_same, dpAll_app (s.im.dpAll ds q3 q2) (.cons (s.im.dp d hd hv) .nil), ?_⟩
    have nl : ∀ {us ws : List PyData}, noLs us = true → noLs ws = true → noLs (us ++ ws) = true := by
      intro us ws h1 h2
      induction us with
      | nil => exact h2
      | cons u us ih =>
        obtain ⟨a1, a2⟩ := Bool.and_eq_true_iff.mp (show (noL u && noLs us) = true from h1)
        exact Bool.and_eq_true_iff.mpr ⟨a1, ih a2⟩
    exact nl q3 (Bool.and_eq_true_iff.mpr ⟨hd, rfl⟩)
  · rw [List.getElem?_set_ne hj] at e
    obtain ⟨ys, q1, q2, q3⟩ := h j b es e
    have nb : b ≠ a := fun z => hj (D i j a ds es hi (by rw [← z]; exact e))
    exact ⟨ys, by rw [upd_ne nb]; exact q1, s.im.dpAll es q3 q2, q3⟩
end
/-- an own object -/
def objM (K : PySem.W.Frag) (C x dx : Addr) (rs : Flds) (L : Lsts) : Mono := ⟨fun H v => v = .ref x ∧ (∃ fs, H x = some (.ins C dx fs) ∧ FsOk K H fs rs) ∧ LsOk K H L ∧ LsD L,
  fun T H H' v g ⟨e, ⟨fs, h, q⟩, l, D⟩ => ⟨e, ⟨fs, g.ins h, q.re fun r v hh => g.sl hh⟩, l.gr g, D⟩⟩
/-- a class with such fields -/
structure FldC (K : PySem.W.Frag) (C : Addr) (ns : List Str) : Prop where
  cl : Cls K C
  no : ∀ f ∈ ns, NoAttr K C f
section
variable {X : Cx} {T : Tbl} {HB : Hp} {ρ ρ1 ρ2 : List Sl} {e : Expr} {rest : List Stmt} {r : Sl} {pos : Pos} {C x dx : Addr} {rs : Flds} {L : Lsts}
theorem obj_of {m : Str} (h : rs.lookup m = none) : IsObj X.K C m (.pr (objM X.K C x dx rs L)) := fun H v ⟨e, ⟨fs, h1, q⟩, _⟩ => ⟨x, dx, fs, e, h1, q.get.2 h⟩
theorem e_fldO {f : Str} {ns : List Str} (c : FldC X.K C ns) (hf : f ∈ ns) (he : DE X T ρ e (.pr (objM X.K C x dx rs L))) (hr : rs.lookup f = some r) (hb : attributeBase e f X.env (eval e X.env) = eval e X.env := by rfl) : DE X T ρ (.Attribute e f pos) r :=
  pe_imp (pe_fld he hb) fun σ H Q k => ⟨k.1, fun v H1 g1 h1 => by
    obtain ⟨e1, ⟨fs, hp, q⟩, _⟩ := h1
    obtain ⟨w, hw, q2⟩ := q.get.1 r hr
    exact ⟨x, C, dx, fs, w, e1, hp, c.cl, c.no f hf, hw, k.2 w H1 g1 q2⟩⟩
/-- a field that is a list of its own, read as data -/
theorem e_lstO {a : Addr} {i : Nat} {f : Str} {ns : List Str} {ds : List PyData} (c : FldC X.K C ns) (hf : f ∈ ns) (he : DE X T ρ e (.pr (objM X.K C x dx rs L))) (hr : rs.lookup f = some (.rw (.ref a))) (hi : L[i]? = some (a, ds)) (hb : attributeBase e f X.env (eval e X.env) = eval e X.env := by rfl) : DE X T ρ (.Attribute e f pos) (.nl ds) :=
  pe_imp (pe_fld he hb) fun σ H Q k => ⟨k.1, fun v H1 g1 h1 => by
    obtain ⟨e1, ⟨fs, hp, q⟩, l, _⟩ := h1
    obtain ⟨w, hw, q2⟩ := q.get.1 _ hr
    obtain ⟨xs, q3, q4, _⟩ := l i a ds hi
    exact ⟨x, C, dx, fs, w, e1, hp, c.cl, c.no f hf, hw, k.2 w H1 g1 ⟨a, xs, q2, q3, q4⟩⟩⟩
/-! the slots behind it -/
theorem slots_step {K : PySem.W.Frag} {H : Hp} {p : Addr} {o : HO} (s : StepO H p o) : ∀ {ρ : List Sl} {σ : L2.St}, SteadyL K ρ → Slots K H ρ σ → Slots K (upd H p o) ρ σ
  | [], [], _, _ => trivial
  | r :: ρ, u :: σ, k, h => by
    refine ⟨?_, slots_step s k.2 h.2⟩
    have h1 := h.1
    cases r with
    | un => trivial
    | dt d => obtain ⟨v, e, q⟩ := h1; exact ⟨v, e, k.1 _ _ _ _ s q⟩
    | rw d => obtain ⟨v, e, q⟩ := h1; exact ⟨v, e, k.1 _ _ _ _ s q⟩
    | nl d => obtain ⟨v, e, q⟩ := h1; exact ⟨v, e, k.1 _ _ _ _ s q⟩
    | ob a b => obtain ⟨v, e, q⟩ := h1; exact ⟨v, e, k.1 _ _ _ _ s q⟩
    | ol a b => obtain ⟨v, e, q⟩ := h1; exact ⟨v, e, k.1 _ _ _ _ s q⟩
    | pr d => obtain ⟨v, e, q⟩ := h1; exact ⟨v, e, k.1 _ _ _ _ s q⟩
  | [], _ :: _, _, h => h.elim
  | _ :: _, [], _, h => h.elim
/-- self.f.append(e) -/
theorem n1_app {a : Addr} {i : Nat} {ob : Expr} {apos cpos : Pos} {d : PyData} {ds : List PyData} (hn : New HB a) (hx : New HB x) (hi : L[i]? = some (a, ds)) (hl : ds.length < 1000) (hs : SteadyF X.K rs) (hk : SteadyL X.K ρ) (hd : noL d = true) (ho : DE X T (.pr (objM X.K C x dx rs L) :: ρ) ob (.rw (.ref a))) (he : DD X T (.pr (objM X.K C x dx rs L) :: ρ) e d)
    (hbase : attributeBase ob "append" X.env (eval ob X.env) = eval ob X.env := by rfl)
    (hfew : ((backTo cpos (starEach [e] X.env)).all (fun x => !x.1) && (backToKw cpos (keywordEach [] X.env)).all (fun x => x.1.isSome) && decide ([e].length + ([] : List Keyword).length + (if ([] : List Keyword).isEmpty then 0 else 1) < 30)) = true := by rfl)
    (hline : (apos.endLine == cpos.line) = true := by rfl) (hst : starEach [e] X.env = (false, eval e X.env) :: starEach [] X.env := by rfl) (hpl : (backTo cpos (starEach [] X.env)).any (·.1) = false := by rfl)
    (hsw : swapsWith (.Call (.Attribute ob "append" apos) [e] [] cpos) none pos.line X.env = pure false := by rfl) :
    D1 X T HB (.pr (objM X.K C x dx rs L) :: ρ) (.Expr (.Call (.Attribute ob "append" apos) [e] [] cpos) pos) (.pr (objM X.K C x dx rs (L.set i (a, ds ++ [d]))) :: ρ) :=
  ps_imp (ps_expr (pe_bm PySem.F.plainAttrs_list PySem.F.slot_list_append PySem.F.type_list_append mt_append ho (a_cons he a_nil hst) hbase hfew hline hst hpl) hsw) fun D σ H k => ⟨k.1, fun v H1 g1 h1 => by
    subst h1
    have lsx : ∀ {H' : Hp}, Env X.K T (.pr (objM X.K C x dx rs L) :: ρ) σ H' → ∃ xs, H' a = some (.lst xs) ∧ xs.length < 1000 := fun ⟨t, s⟩ => by
      cases σ with
      | nil => exact s.elim
      | cons o1 σ =>
        obtain ⟨⟨v1, _, _, _, l, _⟩, _⟩ := s
        obtain ⟨xs, q1, q2, _⟩ := l i a ds hi
        exact ⟨xs, q1, by rw [dpAll_len q2]; exact hl⟩
    obtain ⟨xs, h2, hlen⟩ := lsx (k.1.gr g1)
    refine ⟨.inl ⟨rfl, xs, .of h2⟩, k.1.gr g1, fun vs H2 g2 hv2 => ?_⟩
    obtain ⟨y, ey, hy⟩ := one_of hv2
    subst ey
    have h4 := g2.lst h2
    refine ⟨a, xs, y, rfl, rfl, h4, small1000 (Nat.le_of_lt hlen), ?_⟩
    have st : StepO H2 a (.lst (xs ++ [y])) := .lst h4
    obtain ⟨t, sl⟩ := k.1.gr (g1.trans g2)
    refine k.2.2 σ _ ⟨st.tabs t, ?_⟩ (st.late hn (k.2.1.trans (g1.trans g2)))
    cases σ with
    | nil => exact sl.elim
    | cons o1 σ =>
      obtain ⟨⟨v1, e1, e2, ⟨fs, q1, q2⟩, l, Dl⟩, sl⟩ := sl
      have hxa : x ≠ a := fun z => by rw [z, h4] at q1; cases q1
      refine ⟨⟨v1, e1, e2, ⟨fs, by rw [upd_ne hxa]; exact q1, q2.step st hs⟩, l.app Dl hi h4 hy hd, ?_⟩, slots_step st hk sl⟩
      intro i1 j1 b es es' w1 w2
      have go : ∀ {n : Nat} {b : Addr} {es : List PyData}, (L.set i (a, ds ++ [d]))[n]? = some (b, es) → ∃ es', L[n]? = some (b, es') := by
        intro n b es w
        by_cases hn : i = n
        · subst hn
          have hl : i < L.length := by
            rcases Nat.lt_or_ge i L.length with z | z
            · exact z
            · rw [List.getElem?_eq_none z] at hi
              cases hi
          rw [List.getElem?_set_self hl] at w
          cases w
          exact ⟨ds, hi⟩
        · rw [List.getElem?_set_ne hn] at w
          exact ⟨es, w⟩
      obtain ⟨_, z1⟩ := go w1
      obtain ⟨_, z2⟩ := go w2
      exact Dl i1 j1 b _ _ z1 z2⟩
/-- self.f = e -/
theorem n1_setO {ob value : Expr} {f : Str} {pos' : Pos} {ns : List Str} (c : FldC X.K C ns) (hf : f ∈ ns) (hx : New HB x) (hlen : rs.length < 1000) (hb : rs.lookup ("by_moment" : Str) = none) (hs : SteadyF X.K rs) (hr : Steady X.K r) (hk : SteadyL X.K ρ) (ho : DE X T (.pr (objM X.K C x dx rs L) :: ρ) ob (.pr (objM X.K C x dx rs L))) (hv : DE X T (.pr (objM X.K C x dx rs L) :: ρ) value r)
    (hsw : swapsWith value (some (.Attribute ob f pos')) pos.line X.env = pure false := by rfl) : D1 X T HB (.pr (objM X.K C x dx rs L) :: ρ) (.Assign [.Attribute ob f pos'] value pos) (.pr (objM X.K C x dx (putR f r rs) L) :: ρ) :=
  ps_imp (ps_fld ho hv hsw) fun D σ H k => ⟨k.1, fun v H1 g1 h1 => ⟨k.1.gr g1, fun w H2 g2 h2 => by
    obtain ⟨e0, ⟨fs, q1, q2⟩, l0, _⟩ := h2
    subst e0
    refine ⟨x, C, dx, fs, rfl, q1, c.cl, c.no f hf, by rw [q2.len]; exact hlen, ?_⟩
    have st : StepO H2 x (.ins C dx (putF f v fs)) := .ins q1 (q2.get.2 hb)
    obtain ⟨t, sl⟩ := k.1.gr (g1.trans g2)
    refine k.2.2 σ _ ⟨st.tabs t, ?_⟩ (st.late hx (k.2.1.trans (g1.trans g2)))
    cases σ with
    | nil => exact sl.elim
    | cons o1 σ =>
      obtain ⟨⟨v1, e1, e2, ⟨fs', q3, q4⟩, l, Dl⟩, sl⟩ := sl
      rw [q1] at q3
      cases q3
      exact ⟨⟨v1, e1, e2, ⟨_, upd_same, (q4.step st hs).put (hr _ _ _ _ st (g2.sl h1))⟩, l.step st (fun i a ds e z => by
        obtain ⟨xs, w, _⟩ := l i a ds e
        rw [z, q1] at w
        cases w), Dl⟩, slots_step st hk sl⟩⟩⟩
/-- self.f = [] -/
theorem n_setL {ob : Expr} {f : Str} {p2 pos' : Pos} {ns : List Str} (c : FldC X.K C ns) (hf : f ∈ ns) (hx : New HB x) (hlen : rs.length < 1000) (hb : rs.lookup ("by_moment" : Str) = none) (hs : SteadyF X.K rs) (hk : SteadyL X.K ρ) (ho : DE X T (.pr (objM X.K C x dx rs L) :: ρ) ob (.pr (objM X.K C x dx rs L)))
    (h : ∀ a, New HB a → DN X T HB (.pr (objM X.K C x dx (putR f (.rw (.ref a)) rs) (L ++ [(a, [])])) :: ρ) rest ρ2)
    (hsw : swapsWith (.List [] p2) (some (.Attribute ob f pos')) pos.line X.env = pure false := by rfl) : DN X T HB (.pr (objM X.K C x dx rs L) :: ρ) (.Assign [.Attribute ob f pos'] (.List [] p2) pos :: rest) ρ2 := by
  refine pss_imp (pss_cons (ps_fld ho (pe_lst (a_nil (X := X) (T := T) (ρ := .pr (objM X.K C x dx rs L) :: ρ))) hsw) (pss_exi fun a => pss_if (c := New HB a) fun z => h a z)) fun D σ H k => ⟨k.1, fun vs H1 g1 h1 => ?_⟩
  cases h1
  refine ⟨Nat.zero_le _, fun a ha => ⟨k.1.gr (g1.trans (Gr.new ha)), fun w H2 g2 h2 => ?_⟩⟩
  obtain ⟨e0, ⟨fs, q1, q2⟩, l0, _⟩ := h2
  subst e0
  have gA : Gr T H H2 := (g1.trans (Gr.new ha)).trans g2
  refine ⟨x, C, dx, fs, rfl, q1, c.cl, c.no f hf, by rw [q2.len]; exact hlen, a, (k.2.1.trans g1).back ha, ?_⟩
  have st : StepO H2 x (.ins C dx (putF f (.ref a) fs)) := .ins q1 (q2.get.2 hb)
  have h2a : H2 a = some (.lst []) := g2.lst upd_same
  obtain ⟨t, sl⟩ := k.1.gr gA
  obtain ⟨_, slH⟩ := k.1.gr g1
  refine ⟨⟨st.tabs t, ?_⟩, st.late hx (k.2.1.trans gA), k.2.2⟩
  cases σ with
  | nil => exact sl.elim
  | cons o1 σ =>
    obtain ⟨⟨v1, e1, e2, ⟨fs', q3, q4⟩, l, Dl⟩, sl⟩ := sl
    obtain ⟨⟨_, _, _, _, lH, _⟩, _⟩ := slH
    rw [q1] at q3
    cases q3
    have nin : ∀ (i : Nat) (ds : List PyData), L[i]? ≠ some (a, ds) := fun i ds e => by
      obtain ⟨xs, w, _⟩ := lH i a ds e
      rw [ha] at w
      cases w
    have cut : ∀ {n : Nat} {b : Addr} {es : List PyData}, (L ++ [(a, [])])[n]? = some (b, es) → (n < L.length ∧ L[n]? = some (b, es)) ∨ (n = L.length ∧ b = a ∧ es = []) := by
      intro n b es w
      by_cases hn : n < L.length
      · rw [List.getElem?_append_left hn] at w
        exact .inl ⟨hn, w⟩
      · rw [List.getElem?_append_right (Nat.le_of_not_lt hn)] at w
        have : n - L.length = 0 := by
          rcases Nat.eq_zero_or_pos (n - L.length) with z | z
          · exact z
          · rw [List.getElem?_eq_none (by show 1 ≤ _; omega)] at w
            cases w
        rw [this] at w
        cases w
        exact .inr ⟨by omega, rfl, rfl⟩
    refine ⟨⟨v1, e1, e2, ⟨_, upd_same, (q4.step st hs).put (r := .rw (.ref a)) (show SlOk X.K _ (.rw (.ref a)) (.ref a) from rfl)⟩, fun i b es w => ?_, fun i j b es es' w1 w2 => ?_⟩, slots_step st hk sl⟩
    · rcases cut w with ⟨_, w⟩ | ⟨_, rfl, rfl⟩
      · obtain ⟨xs, z1, z2, z3⟩ := l i b es w
        have hbx : b ≠ x := fun z => by rw [z, q1] at z1; cases z1
        exact ⟨xs, by rw [upd_ne hbx]; exact z1, st.im.dpAll es z3 z2, z3⟩
      · have hbx : b ≠ x := fun z => by rw [z, q1] at h2a; cases h2a
        exact ⟨[], by rw [upd_ne hbx]; exact h2a, .nil, rfl⟩
    · rcases cut w1 with ⟨_, z1⟩ | ⟨z1, rfl, rfl⟩
      · rcases cut w2 with ⟨_, z2⟩ | ⟨_, rfl, rfl⟩
        · exact Dl i j b es es' z1 z2
        · exact (nin _ _ z1).elim
      · rcases cut w2 with ⟨_, z2⟩ | ⟨z2, _⟩
        · exact (nin _ _ z2).elim
        · rw [z1, z2]
end
end KM
set_option Elab.async false
set_option linter.all false
set_option maxRecDepth 100000
set_option maxHeartbeats 4000000
/-! class Copies: made, looked at, edited. -/
namespace KM
open PySem PySem.Spec PyProof.Rows L2
abbrev fldN : List Str := ["own_count", "own_first", "current", "own_edits", "answers_back", "own_words", "own_line"]
abbrev flds (K : PySem.W.Frag) (CP : Addr) (m : Int) (l1 l2 l3 : Addr) (es : Ents) (ld : PyData) : Flds :=
  [("own_count", .dt (.int m)), ("own_first", .pr (ptM K CP [])), ("current", .pr (ptM K CP es)), ("own_edits", .rw (.ref l1)), ("answers_back", .rw (.ref l2)), ("own_words", .rw (.ref l3)), ("own_line", .dt ld)]
abbrev copM (K : PySem.W.Frag) (C CP x dx : Addr) (m : Int) (l1 l2 l3 : Addr) (es : Ents) (ld : PyData) (E A O : List PyData) : Mono := objM K C x dx (flds K CP m l1 l2 l3 es ld) [(l1, E), (l2, A), (l3, O)]
abbrev ld0 : PyData := .tuple [.tuple [], .tuple []]
abbrev ld1 : PyData := .tuple [.tuple [.int 1], .tuple []]
abbrev edD (ms : List Int) : PyData := .tuple [.tuple (di ms), CH5]
abbrev opD : PyData := .tuple [.str "out", .int 5]
theorem flds_steady {K : PySem.W.Frag} {CP : Addr} {m : Int} {l1 l2 l3 : Addr} {es : Ents} {ld : PyData} (h : ∀ q ∈ es, noL q.2 = true) (hl : noL ld = true) : SteadyF K (flds K CP m l1 l2 l3 es ld) :=
  ⟨steady_dt rfl, steady_pt steady_es0, steady_pt h, steady_rw, steady_rw, steady_rw, steady_dt hl, trivial⟩
/-- of some addresses -/
def exM (HB : Hp) (f : Addr → Addr → Addr → Mono) : Mono := ⟨fun H v => ∃ l1 l2 l3, New HB l1 ∧ New HB l2 ∧ New HB l3 ∧ (f l1 l2 l3).f H v, fun T H H' v g ⟨l1, l2, l3, a, b, c, h⟩ => ⟨l1, l2, l3, a, b, c, (f l1 l2 l3).mono T H H' v g h⟩⟩
section
variable {X : Cx} {T : Tbl} {HB : Hp} {ρ : List Sl}
theorem n_ex {f : Addr → Addr → Addr → Mono} {l1 l2 l3 : Addr} (h1 : New HB l1) (h2 : New HB l2) (h3 : New HB l3) : DN X T HB (.pr (f l1 l2 l3) :: ρ) [] (.pr (exM HB f) :: ρ) := pss_imp pss_nil fun D σ H ⟨⟨t, sl⟩, g, k⟩ => by
  cases σ with
  | nil => exact sl.elim
  | cons o σ =>
    obtain ⟨⟨v, e, q⟩, sl⟩ := sl
    exact k _ H ⟨t, ⟨v, e, l1, l2, l3, h1, h2, h3, q⟩, sl⟩ g
end
def spCop (K : PySem.W.Frag) (T : Tbl) (C CP : Addr) : Sp := fun vs H Q _ => ∃ (H1 : Hp) (x dx : Addr) (u : V) (m : Int), vs = [.ref x, u, .non] ∧ H = upd (upd H1 dx (.own x)) x (.ins C dx []) ∧ H1 x = none ∧ H1 dx = none ∧ dx ≠ x ∧ LamX.Tabs T H1 ∧ 1 ≤ m ∧ m ≤ 5 ∧ Dp K H1 u (.int m) ∧
  ∀ l1 l2 l3 H2, Gr T H1 H2 → New H1 l1 → New H1 l2 → New H1 l3 → (copM K C CP x dx m l1 l2 l3 [] ld0 [] [] []).f H2 (.ref x) → Q .non H2
section
variable {P : Program} {w : World} {K : PySem.W.Frag} {mg : Str → Option Value} {base : Heap} {T : Tbl} {f : Addr} {fd : FuncData} {CP fI : Addr} {fdI : FuncData} {u0 : V}
theorem ok_Copies_init {C : Addr} {dvs : List V} (G : Glob mg) (F : FunD K "__init__" "Copies.__init__" (defArgs s_Copies___init__) (defBody s_Copies___init__) (defScope s_Copies___init__) dvs [] f fd) (c : FldC K C fldN) (M : MkP P w K mg base T 8 CP fI fdI u0)
    (WN : Df P w K mg base T "is_number" 2 ["value", "low", "high"] Rnum) : FnOk P w K mg base CX0 10 f fd ["self", "count", "past"] (spCop K T C CP) := by
  refine F.ok sc_Copies___init__ (fun vs H Q E h => ?_) (fun cdv A outer s H vs Q E hr h => ?_)
  · obtain ⟨_, x, dx, u, _, e, _⟩ := h
    rw [e]
    rfl
  obtain ⟨H1, x, dx, u, m, rfl, rfl, hx, hdx, hne, ht, m1, m5, hd, q⟩ := h
  have gdx : Gr T H1 (upd H1 dx (.own x)) := Gr.new hdx
  have hx2 : upd H1 dx (.own x) x = none := by rw [upd_ne (Ne.symm hne)]; exact hx
  have gH : Gr T H1 (upd (upd H1 dx (.own x)) x (.ins C dx [])) := gdx.trans (Gr.new hx2)
  have nx : New H1 x := New.of hx
  have body : DN (bodyX P w K mg base n_Copies___init__ "Copies.__init__" (defScope s_Copies___init__) f cdv A outer s (upd (upd H1 dx (.own x)) x (.ins C dx [])) E) T H1 [.pr (objM K C x dx [] []), .dt (.int m), .dt .none] (defBody s_Copies___init__) [.pr (exM H1 fun l1 l2 l3 => copM K C CP x dx m l1 l2 l3 [] ld0 [] [] []), .dt (.int m), .dt .none] := by
    have hk : SteadyL K [.dt (.int m), .dt .none] := ⟨steady_dt rfl, steady_dt rfl, trivial⟩
    refine n_cons (n1_ifF (t_notF (t_val (d_call WN hr (by decide) (a_cons (dn 1) (a_cons d_int (a_cons (d_gint G.c_MOST_COPIES) a_nil))) ⟨.int m, 1, 5, rfl, congrArg PyData.bool (show true = (decide (1 ≤ m) && decide (m ≤ 5)) by rw [decide_eq_true m1, decide_eq_true m5]; rfl)⟩)))) ?_
    refine n_cons (n1_ifF (t_to (b := xor true true && true) (t_w (w_and (t_cmp o_notN (dn 2) d_non (.mk _) (nomark _)) fun z => by cases z)) rfl)) ?_
    refine n_cons (n1_setO c (by simp) nx (by show 0 < 1000; omega) rfl trivial (steady_dt rfl) hk (dpr 0) (dn 1)) ?_
    refine n_cons (n1_setO c (by simp) nx (by show 1 < 1000; omega) rfl ⟨steady_dt rfl, trivial⟩ (steady_pt steady_es0) hk (dpr 0) (e_if (p := xor false true) (t_cmp o_isN (dn 2) d_non (.mk _) (nomark _)) (fun _ => e_past0 M hr (by decide)) (fun z => by cases z))) ?_
    refine n_cons (n1_setO c (by simp) nx (by show 2 < 1000; omega) rfl ⟨steady_dt rfl, steady_pt steady_es0, trivial⟩ (steady_pt steady_es0) hk (dpr 0) (e_fldO (r := .pr (ptM K CP [])) c (by simp) (dpr 0) rfl)) ?_
    refine n_setL c (by simp) nx (by show 3 < 1000; omega) rfl ⟨steady_dt rfl, steady_pt steady_es0, steady_pt steady_es0, trivial⟩ hk (dpr 0) fun l1 n1 => ?_
    refine n_setL c (by simp) nx (by show 4 < 1000; omega) rfl ⟨steady_dt rfl, steady_pt steady_es0, steady_pt steady_es0, steady_rw, trivial⟩ hk (dpr 0) fun l2 n2 => ?_
    refine n_setL c (by simp) nx (by show 5 < 1000; omega) rfl ⟨steady_dt rfl, steady_pt steady_es0, steady_pt steady_es0, steady_rw, steady_rw, trivial⟩ hk (dpr 0) fun l3 n3 => ?_
    refine n_cons (n1_setO c (by simp) nx (by show 6 < 1000; omega) rfl ⟨steady_dt rfl, steady_pt steady_es0, steady_pt steady_es0, steady_rw, steady_rw, steady_rw, trivial⟩ (steady_dt (d := ld0) rfl) hk (dpr 0) (d_tup (a_cons (d_tup a_nil (Nat.zero_le _)) (a_cons (d_tup a_nil (Nat.zero_le _)) a_nil)) (by show 2 ≤ 1000; omega))) ?_
    exact n_ex (f := fun l1 l2 l3 => copM K C CP x dx m l1 l2 l3 [] ld0 [] [] []) n1 n2 n3
  refine ⟨_, PSs.nox body, ⟨gH.2 ht, ⟨.ref x, rfl, rfl, ⟨[], upd_same, trivial⟩, (fun i a ds e => by simp at e), (fun i j a ds ds' e => by simp at e)⟩, ⟨u, rfl, gH.dp _ hd⟩, ⟨.non, rfl, .non⟩, trivial⟩, gH, fun σ2 H2 e g => ?_⟩
  obtain ⟨_, sl⟩ := e
  cases σ2 with
  | nil => exact sl.elim
  | cons o σ2 =>
    obtain ⟨⟨v, _, l1, l2, l3, n1, n2, n3, h⟩, _⟩ := sl
    obtain rfl : v = .ref x := h.1
    exact q l1 l2 l3 H2 g n1 n2 n3 h
end
inductive Rlk (K : PySem.W.Frag) (C CP : Addr) : List Sl → Sl → Prop where
  | mk (x dx : Addr) (m : Int) (l1 l2 l3 : Addr) (es : Ents) (ld : PyData) (E A O : List PyData) (ns : List Int) (hl : ns.length ≤ 1000) (h : lotB ns m = true) : Rlk K C CP [.pr (copM K C CP x dx m l1 l2 l3 es ld E A O), .dt (.tuple (di ns))] (.dt .none)
inductive Rroom (K : PySem.W.Frag) (C CP : Addr) : List Sl → Sl → Prop where
  | mk (x dx : Addr) (m : Int) (l1 l2 l3 : Addr) (es : Ents) (ld : PyData) (A O : List PyData) : Rroom K C CP [.pr (copM K C CP x dx m l1 l2 l3 es ld [] A O)] (.dt .none)
/-- the object changes -/
def spMut (K : PySem.W.Frag) (T : Tbl) (C CP : Addr) (us : List Int → List PyData) (es2 : Ents) (ld2 : PyData) : Sp := fun vs H Q _ => ∃ (HB : Hp) (x dx : Addr) (m : Int) (l1 l2 l3 : Addr) (ms : List Int) (ws : List V), vs = .ref x :: ws ∧ LamX.Tabs T HB ∧ Gr T HB H ∧ New HB x ∧ New HB l1 ∧ New HB l2 ∧ New HB l3 ∧ lotB ms m = true ∧ ms.length ≤ 900 ∧
  (copM K C CP x dx m l1 l2 l3 [] ld0 [] [] []).f H (.ref x) ∧ DpAll K H ws (us ms) ∧ ∀ H2, Gr T HB H2 → (copM K C CP x dx m l1 l2 l3 es2 ld2 [edD ms] [opD] [.str "edit"]).f H2 (.ref x) → Q .non H2
abbrev usPut (ms : List Int) : List PyData := [.tuple (di ms), CH5, .str "edit"]
abbrev usEdit (ms : List Int) : List PyData := [.tuple (di ms), CH5]
section
variable {P : Program} {w : World} {K : PySem.W.Frag} {mg : Str → Option Value} {base : Heap} {T : Tbl} {f : Addr} {fd : FuncData} {C CP : Addr}
theorem dfg_look (F : FunD K "look_at_lot" "Copies.look_at_lot" (defArgs s_Copies_look_at_lot) (defBody s_Copies_look_at_lot) (defScope s_Copies_look_at_lot) [] [] f fd) (c : FldC K C fldN) (WL : Df P w K mg base T "is_lot" 3 ["value", "count"] Rlot) : DfG P w K mg base T 4 ["self", "lot"] f fd (Rlk K C CP) := by
  refine dfg_of F sc_Copies_look_at_lot (fun rs r h => by cases h; rfl) (fun _ _ _ _ _ _ us hl => match us, hl with | [_, _], _ => rfl) fun cdv A outer s H E rs r hr h => ?_
  cases h with
  | mk x dx m l1 l2 l3 es ld E A O ns hl hB =>
    exact g_cons (n1_ifF (t_notF (t_val (d_call WL hr (by decide) (a_cons (dn 1) (a_cons (e_fldO (r := .dt (.int m)) c (by simp) (dpr 0) rfl) a_nil)) ⟨_, _, rfl, .inl ⟨ns, rfl, hl, by rw [hB]⟩⟩)))) g_nil
theorem dfg_room (G : Glob mg) (F : FunD K "look_at_room" "Copies.look_at_room" (defArgs s_Copies_look_at_room) (defBody s_Copies_look_at_room) (defScope s_Copies_look_at_room) [] [] f fd) (c : FldC K C fldN) : DfG P w K mg base T 1 ["self"] f fd (Rroom K C CP) := by
  refine dfg_of F sc_Copies_look_at_room (fun rs r h => by cases h; rfl) (fun _ _ _ _ _ _ us hl => match us, hl with | [_], _ => rfl) fun cdv A outer s H E rs r hr h => ?_
  cases h with
  | mk x dx m l1 l2 l3 es ld A O =>
    exact g_cons (n1_ifF (t_to (t_cmp o_ge (d_callB c_len G.f_len (by decide +kernel) (a_cons (de_l (e_lstO (i := 0) (ds := []) c (by simp) (dpr 0) rfl rfl)) a_nil) (.lst _)) (d_gint G.c_MOST_EDITS) (.mk _ _) (nomark _)) (by decide))) g_nil
theorem ok_put {fC fO : Addr} {fdC fdO : FuncData} (F : FunD K "put" "Copies.put" (defArgs s_Copies_put) (defBody s_Copies_put) (defScope s_Copies_put) [] [] f fd) (c : FldC K C fldN) (WC : DfG P w K mg base T 11 ["past", "change"] fC fdC (Rch K CP (.pr (ptM K CP E5)))) (hC : mg "changed" = some (.ref fC))
    (WO : DfG P w K mg base T 10 ["past", "change"] fO fdO (Rch K CP (.dt opD))) (hO : mg "opposite" = some (.ref fO)) (WK : Df P w K mg base T "kept_change" 9 ["change"] Rkept) : FnOk P w K mg base CX0 12 f fd ["self", "lot", "change", "word"] (spMut K T C CP usPut E5 ld0) := by
  refine F.ok sc_Copies_put (fun vs H Q E h => ?_) (fun cdv A outer s H vs Q E hr h => ?_)
  · obtain ⟨_, _, _, _, _, _, _, ms, ws, e, _, _, _, _, _, _, _, _, _, hw, _⟩ := h
    rw [e]
    exact congrArg Nat.succ (dpAll_len hw)
  obtain ⟨HB, x, dx, m, l1, l2, l3, ms, ws, rfl, ht, gB, nx, n1, n2, n3, hB, hl, hs, hw, q⟩ := h
  have hno : noL (edD ms) = true := show (noLs (di ms) && (true && true)) = true by rw [noLs_ints]; rfl
  have hn1 : noL (.tuple (di ms)) = true := noLs_ints ms
  have hk : SteadyL K [.dt (.tuple (di ms)), .dt CH5, .dt (.str "edit"), .pr (ptM K CP E5)] := ⟨steady_dt hn1, steady_dt rfl, steady_dt rfl, steady_pt steady_es5, trivial⟩
  have hf : SteadyF K (flds K CP m l1 l2 l3 [] ld0) := flds_steady steady_es0 rfl
  have body : DN (bodyX P w K mg base n_Copies_put "Copies.put" (defScope s_Copies_put) f cdv A outer s H E) T HB [.pr (copM K C CP x dx m l1 l2 l3 [] ld0 [] [] []), .dt (.tuple (di ms)), .dt CH5, .dt (.str "edit"), .un] (defBody s_Copies_put) [.pr (copM K C CP x dx m l1 l2 l3 E5 ld0 [edD ms] [opD] [.str "edit"]), .dt (.tuple (di ms)), .dt CH5, .dt (.str "edit"), .pr (ptM K CP E5)] := by
    refine n_cons (n1_asg 4 (r := .pr (ptM K CP E5)) sc_Copies_put.nd (e_call WC hC hr (by decide) (ag_cons (e_fldO (r := .pr (ptM K CP [])) c (by simp) (dpr 0) rfl) (ag_cons (dn 2) ag_nil)) .mk)) ?_
    refine n_cons (n1_app (ρ := [.dt (.tuple (di ms)), .dt CH5, .dt (.str "edit"), .pr (ptM K CP E5)]) (i := 1) (a := l2) (ds := []) (d := opD) n2 nx rfl (by show 0 < 1000; omega) hf hk rfl (e_fldO (r := .rw (.ref l2)) c (by simp) (dpr 0) rfl) (e_call WO hO hr (by decide) (ag_cons (e_fldO (r := .pr (ptM K CP [])) c (by simp) (dpr 0) rfl) (ag_cons (dn 2) ag_nil)) .mk)) ?_
    refine n_cons (n1_app (ρ := [.dt (.tuple (di ms)), .dt CH5, .dt (.str "edit"), .pr (ptM K CP E5)]) (i := 0) (a := l1) (ds := []) (d := edD ms) n1 nx rfl (by show 0 < 1000; omega) hf hk hno (e_fldO (r := .rw (.ref l1)) c (by simp) (dpr 0) rfl) (d_tup (a_cons (dn 1) (a_cons (d_call WK hr (by decide) (a_cons (dn 2) a_nil) ⟨rfl, rfl⟩) a_nil)) (by show 2 ≤ 1000; omega))) ?_
    refine n_cons (n1_app (ρ := [.dt (.tuple (di ms)), .dt CH5, .dt (.str "edit"), .pr (ptM K CP E5)]) (i := 2) (a := l3) (ds := []) (d := .str "edit") n3 nx rfl (by show 0 < 1000; omega) hf hk rfl (e_fldO (r := .rw (.ref l3)) c (by simp) (dpr 0) rfl) (dn 3)) ?_
    exact n_cons (n1_setO (r := .pr (ptM K CP E5)) c (by simp) nx (by show 7 < 1000; omega) rfl hf (steady_pt steady_es5) hk (dpr 0) (dpr 4)) n_nil
  cases hw with
  | cons a1 hw =>
    cases hw with
    | cons a2 hw =>
      cases hw with
      | cons a3 hw =>
        cases hw
        refine ⟨_, PSs.nox body, ⟨gB.2 ht, ⟨.ref x, rfl, hs⟩, ⟨_, rfl, a1⟩, ⟨_, rfl, a2⟩, ⟨_, rfl, a3⟩, trivial, trivial⟩, gB, fun σ2 H2 e g => ?_⟩
        obtain ⟨_, sl⟩ := e
        cases σ2 with
        | nil => exact sl.elim
        | cons o σ2 =>
          obtain ⟨⟨v, _, h⟩, _⟩ := sl
          obtain rfl : v = .ref x := h.1
          exact q H2 g h
end
end KM
set_option Elab.async false
set_option linter.all false
set_option maxRecDepth 100000
set_option maxHeartbeats 4000000
/-! class Copies: edit, seen. -/
namespace KM
open PySem PySem.Spec PyProof.Rows L2
/-- slots that a base heap knows -/
def KnownL (K : PySem.W.Frag) (HB : Hp) : List Sl → Prop
  | [] => True
  | r :: ρ => (r = .un ∨ ∃ u d, r = .pr (eqM K u d) ∧ Dp K HB u d) ∧ KnownL K HB ρ
section
variable {K : PySem.W.Frag} {T : Tbl} {HB H H' : Hp}
theorem known_slots (g : Gr T HB H') : ∀ {ρ : List Sl} {σ : L2.St}, KnownL K HB ρ → Slots K H ρ σ → Slots K H' ρ σ
  | [], [], _, _ => trivial
  | r :: ρ, o :: σ, k, h => by
    refine ⟨?_, known_slots g k.2 h.2⟩
    rcases k.1 with e | ⟨u, d, e, hd⟩
    · subst e
      trivial
    · subst e
      obtain ⟨v, e1, e2, _⟩ := h.1
      exact ⟨v, e1, e2, by rw [e2]; exact g.dp d hd⟩
  | [], _ :: _, _, h => h.elim
  | _ :: _, [], _, h => h.elim
end
section
variable {X : Cx} {T : Tbl} {HB : Hp} {ρ ρ1 ρ2 : List Sl} {e o : Expr} {es : List Expr} {rest : List Stmt} {pos apos cpos : Pos} {C CP x dx : Addr}
/-- a method that changes the object -/
theorem n1_mut {m : Str} {k j : Nat} {n : Int} {l1 l2 l3 : Addr} {ps : List Str} {f : Addr} {fd : FuncData} {us : List Int → List PyData} {es2 : Ents} {ld2 : PyData} {ms : List Int} {pl : Sem Bool} (F : FnOk X.prog X.w X.K X.mg X.base CX0 k f fd ps (spMut X.K T C CP us es2 ld2)) (hb : Binds X.K fd ps []) (c : Cls X.K C) (hm : Meth X.K C m f) (hr : Room j X.A) (hk : k ≤ j)
    (hT : LamX.Tabs T HB) (nx : New HB x) (n1 : New HB l1) (n2 : New HB l2) (n3 : New HB l3) (hB : lotB ms n = true) (hl : ms.length ≤ 900) (hle : LeR ρ ρ2) (hKn : KnownL X.K HB ρ2) (ho : DE X T (.pr (copM X.K C CP x dx n l1 l2 l3 [] ld0 [] [] []) :: ρ) o (.pr (copM X.K C CP x dx n l1 l2 l3 [] ld0 [] [] [])))
    (ha : DA X T (.pr (copM X.K C CP x dx n l1 l2 l3 [] ld0 [] [] []) :: ρ) (e :: es) (us ms)) (hno : (flds X.K CP n l1 l2 l3 [] ld0).lookup m = none)
    (hst : starEach (e :: es) X.env = (false, eval e X.env) :: starEach es X.env := by rfl) (hpl : (backTo cpos (starEach es X.env)).any (·.1) = false := by rfl)
    (ht : eval (.Call (.Attribute o m apos) (e :: es) [] cpos) X.env = (do
      let ov ← eval o X.env
      standAt apos.atName
      let (f, first) ← holding [ov] (getMethod ov m pl)
      callWith cpos f first (backTo cpos (starEach (e :: es) X.env)) (backToKw cpos (keywordEach [] X.env))) := by rfl)
    (hsw : swapsWith (.Call (.Attribute o m apos) (e :: es) [] cpos) none pos.line X.env = pure false := by rfl) :
    D1 X T HB (.pr (copM X.K C CP x dx n l1 l2 l3 [] ld0 [] [] []) :: ρ) (.Expr (.Call (.Attribute o m apos) (e :: es) [] cpos) pos) (.pr (copM X.K C CP x dx n l1 l2 l3 es2 ld2 [edD ms] [opD] [.str "edit"]) :: ρ2) :=
  ps_imp (ps_expr (pe_meth (dvs := []) (E := E0) ho c hm F (hr.mono hk) hb .nil pass0 ha hst hpl ht) hsw) fun D σ H k => ⟨k.1, fun v H1 g1 h1 => by
    obtain ⟨e1, ⟨fs, q1, q2⟩, q3, q4⟩ := h1
    subst e1
    refine ⟨x, dx, fs, rfl, q1, q2.get.2 hno, k.1.gr g1, fun vs H2 g2 hv => ?_⟩
    show spMut X.K T C CP us es2 ld2 (.ref x :: (vs ++ [])) H2 _ E0
    rw [List.append_nil]
    refine ⟨HB, x, dx, n, l1, l2, l3, ms, vs, rfl, hT, k.2.1.trans (g1.trans g2), nx, n1, n2, n3, hB, hl, (copM X.K C CP x dx n l1 l2 l3 [] ld0 [] [] []).mono T H1 H2 _ g2 ⟨rfl, ⟨fs, q1, q2⟩, q3, q4⟩, hv, fun H3 g3 h3 => k.2.2 σ H3 ⟨g3.2 hT, ?_⟩ g3⟩
    obtain ⟨_, sl⟩ := k.1
    cases σ with
    | nil => exact sl.elim
    | cons o1 σ =>
      obtain ⟨⟨v1, e1, e2, _⟩, sl⟩ := sl
      subst e2
      exact ⟨⟨_, e1, h3⟩, known_slots g3 hKn (hle.slots sl)⟩⟩
/-- for i in range(1, 2) -/
theorem for_12 {a b tg : Expr} {body : List Stmt} {j : Nat} {p1 p2 : Pos} (hp : PassesOwn (model X.prog X.w) X.A X.env X.xe) (hc : X.calm = true) (hm : X.mg "range" = none) (ha : DD X T ρ a (.int 1)) (hb : DD X T ρ b (.int 2)) (hg : PG X tg (gName j)) (hbody : DN X T HB (ρ.set j (.dt (.int 1))) body ρ1)
    (hgr : Gl X "range" := by rfl) (hst : starEach [a, b] X.env = [(false, eval a X.env), (false, eval b X.env)] := by rfl) (hst2 : starEach [b] X.env = [(false, eval b X.env)] := by rfl) (hs : ∀ x, foldedSetIterable (.Call (.Name "range" p1) [a, b] [] p2) X.env x = pure x := by intro _; rfl) : D1 X T HB ρ (.For tg (.Call (.Name "range" p1) [a, b] [] p2) body [] pos) ρ1 := by
  refine ps_imp (ps_for hp hc (pi_range2 hgr hm (a_cons ha (a_cons hb a_nil (by rw [hst2]; rfl)) (by rw [hst, hst2])) hst hst2) hg hbody hs) fun D σ H k => ⟨k.1, fun vs H1 g1 h1 => ?_⟩
  obtain ⟨v1, v2, e, hv1, hv2⟩ : ∃ v1 v2, vs = [v1, v2] ∧ Dp X.K H1 v1 (.int 1) ∧ Dp X.K H1 v2 (.int 2) := by
    cases h1 with
    | cons z h1 =>
      cases h1 with
      | cons z2 h1 =>
        cases h1
        exact ⟨_, _, rfl, z, z2⟩
  refine ⟨1, 2, by rw [e, dp_int hv1, dp_int hv2], by omega, ?_⟩
  refine for_range (lo := 1) (n := 1) (g := gName j) (tb := tN X.K T HB (ρ.set j (.dt (.int 1))) ρ1) (fun i σ H => ((i = 0 ∧ Env X.K T ρ σ H) ∨ (i = 1 ∧ Env X.K T ρ1 σ H)) ∧ Gr T HB H) ⟨.inl ⟨rfl, k.1.gr g1⟩, k.2.1.trans g1⟩ (fun i σ' H' hlt P => ?_) fun σ' H' P => ?_
  · have i0 : i = 0 := by omega
    subst i0
    obtain ⟨⟨_, E1⟩ | ⟨z, _⟩, G1⟩ := P
    · exact ⟨E1.set (r := .dt (.int 1)) j (.int _), G1, fun σ2 H2 e2 g2 => ⟨.inr ⟨rfl, e2⟩, g2⟩⟩
    · cases z
  · obtain ⟨⟨z, _⟩ | ⟨_, E1⟩, G1⟩ := P
    · cases z
    · exact k.2.2 σ' H' E1 G1
end
inductive Rfirst (K : PySem.W.Frag) (C CP : Addr) : List Sl → Sl → Prop where
  | mk (x dx : Addr) (m : Int) (l1 l2 l3 : Addr) (es : Ents) (ld : PyData) (E A O : List PyData) : Rfirst K C CP [.pr (copM K C CP x dx m l1 l2 l3 es ld E A O)] (.nl [])
/-- a lot apart from the one of the only edit -/
inductive Rrec (K : PySem.W.Frag) (C CP : Addr) (r : Sl) : List Sl → Sl → Prop where
  | mk (x dx : Addr) (m : Int) (l1 l2 l3 : Addr) (es : Ents) (ld : PyData) (A O : List PyData) (ms ns : List Int) (hm : ms.length ≤ 900) (hn : ns.length ≤ 900) (hd : ∀ i ∈ ms, i ∉ ns) (hB : lotB ns m = true) : Rrec K C CP r [.pr (copM K C CP x dx m l1 l2 l3 es ld [edD ms] A O), .dt (.tuple (di ns))] r
section
variable {P : Program} {w : World} {K : PySem.W.Frag} {mg : Str → Option Value} {base : Heap} {T : Tbl} {f : Addr} {fd : FuncData} {C CP : Addr}
theorem ok_edit {fL fI fR fP : Addr} {fdL fdI fdR fdP : FuncData} (G : Glob mg) (F : FunD K "edit" "Copies.edit" (defArgs s_Copies_edit) (defBody s_Copies_edit) (defScope s_Copies_edit) [] [] f fd) (c : FldC K C fldN) (WL : DfG P w K mg base T 4 ["self", "lot"] fL fdL (Rlk K C CP)) (hL : Meth K C "look_at_lot" fL)
    (WI : DfG P w K mg base T 8 ["past", "value"] fI fdI (Rch K CP (.dt (.bool true)))) (hI : mg "is_change" = some (.ref fI)) (WR : DfG P w K mg base T 1 ["self"] fR fdR (Rroom K C CP)) (hR : Meth K C "look_at_room" fR)
    (WP : FnOk P w K mg base CX0 12 fP fdP ["self", "lot", "change", "word"] (spMut K T C CP usPut E5 ld0)) (bP : Binds K fdP ["self", "lot", "change", "word"] []) (hP : Meth K C "put" fP) : FnOk P w K mg base CX0 13 f fd ["self", "lot", "change"] (spMut K T C CP usEdit E5 ld1) := by
  refine F.ok sc_Copies_edit (fun vs H Q E h => ?_) (fun cdv A outer s H vs Q E hr h => ?_)
  · obtain ⟨_, _, _, _, _, _, _, ms, ws, e, _, _, _, _, _, _, _, _, _, hw, _⟩ := h
    rw [e]
    exact congrArg Nat.succ (dpAll_len hw)
  obtain ⟨HB, x, dx, m, l1, l2, l3, ms, ws, rfl, ht, gB, nx, n1, n2, n3, hB, hl, hs, hw, q⟩ := h
  have body : DN (bodyX P w K mg base n_Copies_edit "Copies.edit" (defScope s_Copies_edit) f cdv A outer s H E) T HB [.pr (copM K C CP x dx m l1 l2 l3 [] ld0 [] [] []), .dt (.tuple (di ms)), .dt CH5] (defBody s_Copies_edit) [.pr (copM K C CP x dx m l1 l2 l3 E5 ld1 [edD ms] [opD] [.str "edit"]), .un, .un] := by
    refine n_cons (n1_expr (e_meth WL c.cl hL hr (by decide) (dpr 0) (obj_of rfl) (ag_cons (dn 1) ag_nil) (.mk x dx m l1 l2 l3 [] ld0 [] [] [] ms (by omega) hB))) ?_
    refine n_cons (n1_ifF (t_notF (t_val (e_call WI hI hr (by decide) (ag_cons (e_fldO (r := .pr (ptM K CP [])) c (by simp) (dpr 0) rfl) (ag_cons (dn 2) ag_nil)) .mk)))) ?_
    refine n_cons (n1_expr (e_meth0 WR c.cl hR hr (by decide) (dpr 0) (obj_of rfl) (.mk x dx m l1 l2 l3 [] ld0 [] []))) ?_
    refine n_cons (n1_mut (ρ := [.dt (.tuple (di ms)), .dt CH5]) (ρ2 := [.un, .un]) (us := usPut) WP bP c.cl hP hr (by decide) ht nx n1 n2 n3 hB hl ⟨.inl rfl, .inl rfl, trivial⟩ ⟨.inl rfl, .inl rfl, trivial⟩ (dpr 0) (a_cons (dn 1) (a_cons (dn 2) (a_cons d_str a_nil))) rfl) ?_
    exact n_cons (n1_setO (ρ := [.un, .un]) c (by simp) nx (by show 7 < 1000; omega) rfl (flds_steady steady_es5 rfl) (steady_dt (d := ld1) rfl) ⟨steady_un, steady_un, trivial⟩ (dpr 0) (d_tup (a_cons (d_tup (ds := [.int 1]) (a_starT (ds := []) (d_ix (x := ld0) (e_fldO (r := .dt ld0) c (by simp) (dpr 0) rfl) d_int (.tup _ _ _ rfl)) (a_cons (d_callB c_len G.f_len (by decide +kernel) (a_cons (de_l (e_lstO (i := 0) (ds := [edD ms]) c (by simp) (dpr 0) rfl rfl)) a_nil) (.lst _)) a_nil)) (by show 1 ≤ 1000; omega)) (a_cons (d_tup a_nil (Nat.zero_le _)) a_nil)) (by show 2 ≤ 1000; omega))) n_nil
  cases hw with
  | cons a1 hw =>
    cases hw with
    | cons a2 hw =>
      cases hw
      refine ⟨_, PSs.nox body, ⟨gB.2 ht, ⟨.ref x, rfl, hs⟩, ⟨_, rfl, a1⟩, ⟨_, rfl, a2⟩, trivial⟩, gB, fun σ2 H2 e g => ?_⟩
      obtain ⟨_, sl⟩ := e
      cases σ2 with
      | nil => exact sl.elim
      | cons o σ2 =>
        obtain ⟨⟨v, _, h⟩, _⟩ := sl
        obtain rfl : v = .ref x := h.1
        exact q H2 g h
theorem dfg_first {fD : Addr} {fdD : FuncData} (F : FunD K "first_records" "Copies.first_records" (defArgs s_Copies_first_records) (defBody s_Copies_first_records) (defScope s_Copies_first_records) [] [] f fd) (c : FldC K C fldN) (cP : Cls K CP) (WD : DfG P w K mg base T 1 ["self"] fD fdD (Rdeeds K CP)) (hD : Meth K CP "deeds" fD) : DfG P w K mg base T 2 ["self"] f fd (Rfirst K C CP) := by
  refine dfg_of F sc_Copies_first_records (fun rs r h => by cases h; rfl) (fun _ _ _ _ _ _ us hl => match us, hl with | [_], _ => rfl) fun cdv A outer s H E rs r hr h => ?_
  cases h with
  | mk x dx m l1 l2 l3 es ld E A O =>
    exact g_ret (lcL (x := "deed") (j := 1) (ds := []) (f := id) (p := fun _ => true) rfl sc_Copies_first_records.nd (de_l (e_meth0 WD cP hD hr (by decide) (e_fldO (r := .pr (ptM K CP [])) c (by simp) (dpr 0) rfl) (obj_pt rfl) .zero)) (blkOk_by (N := n_Copies_first_records) (sc := defScope s_Copies_first_records) (by decide +kernel))
      (fun _ _ _ _ _ => pg_name (i := 1) sc_Copies_first_records.nd rfl (Or.inl rfl)) ht_yes (he_of fun s H C cl fp d hd _ => by cases hd) (fun d hd _ => by cases hd) (by show 0 ≤ 1000; omega))
theorem dfg_records {fF : Addr} {fdF : FuncData} (G : Glob mg) (F : FunD K "records_on" "Copies.records_on" (defArgs s_Copies_records_on) (defBody s_Copies_records_on) (defScope s_Copies_records_on) [] [] f fd) (c : FldC K C fldN) (WF : DfG P w K mg base T 2 ["self"] fF fdF (Rfirst K C CP)) (hF : Meth K C "first_records" fF) : DfG P w K mg base T 3 ["self", "lot"] f fd (Rrec K C CP (.dt (.list []))) := by
  refine dfg_of F sc_Copies_records_on (fun rs r h => by cases h; rfl) (fun _ _ _ _ _ _ us hl => match us, hl with | [_, _], _ => rfl) fun cdv A outer s H E rs r hr h => ?_
  cases h with
  | mk x dx m l1 l2 l3 es ld A O ms ns hm hn hd hB =>
    refine g_cons (n1_asg 2 (r := .dt (.list [])) sc_Copies_records_on.nd (e_if (p := decide ((0 : Int) < (((di ns).length : Nat) : Int))) (t_cmp o_gt (d_callB c_len G.f_len (by decide +kernel) (a_cons (dn 1) a_nil) (.tup _)) d_int (.mk _ _) (nomark _)) (fun _ => de_l (e_meth0 WF c.cl hF hr (by decide) (dpr 0) (obj_of rfl) (.mk x dx m l1 l2 l3 es ld [edD ms] A O))) (fun _ => de_l (d_lst a_nil (Nat.zero_le _))))) ?_
    refine g_cons (for_12 (j := 3) (ρ1 := [.pr (copM K C CP x dx m l1 l2 l3 es ld [edD ms] A O), .dt (.tuple (di ns)), .dt (.list []), .dt (.int 1), .un]) PassesOwn.never rfl G.f_range d_int (d_op o_add (d_callB c_len G.f_len (by decide +kernel) (a_cons (de_l (e_lstO (i := 0) (ds := [edD ms]) c (by simp) (dpr 0) rfl rfl)) a_nil) (.lst _)) d_int (.mk _ _)) (pg_name (i := 3) sc_Copies_records_on.nd rfl (Or.inl rfl)) ?_) (g_ret (dn 2))
    refine n_cons (n1_ifF (t_to (b := (ms.map fun i => xor false (decide (i ∈ ns))).any id) (t_val (d_callB (c_any rfl) G.f_any (by decide +kernel) (a_cons (de_l (de_to (lcT (x := "copy") (j := 4) (ds := di ms) (f := fun d => match d with | .int i => .bool (xor false (decide (i ∈ ns))) | _ => .none) (p := fun _ => true) rfl sc_Copies_records_on.nd (d_ix (d_ix (x := .list [edD ms]) (de_l (e_lstO (i := 0) (ds := [edD ms]) c (by simp) (dpr 0) rfl rfl)) (d_op o_sub (dn 3) d_int (.mk _ _)) (.lst _ _ _ rfl)) d_int (.tup _ _ _ rfl)) (blkOk_by (N := n_Copies_records_on) (sc := defScope s_Copies_records_on) (by decide +kernel))
      (fun _ _ _ _ _ => pg_name (i := 4) sc_Copies_records_on.nd rfl (Or.inl rfl)) ht_yes (he_of fun s H C cl fp d hd _ => ?_) (fun d hd _ => ?_) ?_) ?_)) a_nil) (.mk _))) ?_)) n_nil
    · obtain ⟨i, hi, rfl⟩ := mem_di hd
      exact d_cmp o_in (dn 4) (dn 1) (.tup _ _) rfl
    · obtain ⟨i, hi, rfl⟩ := mem_di hd
      rfl
    · rw [List.length_map]
      omega
    · show List.map _ (List.filter _ (di ms)) = db _
      rw [List.filter_eq_self.mpr (fun _ _ => rfl)]
      unfold db
      rw [List.map_map, List.map_map]
      rfl
    · rw [List.any_map, List.any_eq_false]
      intro i hi
      have := hd i hi
      simp [this]
theorem dfg_seen {fL fR fO : Addr} {fdL fdR fdO : FuncData} (F : FunD K "seen" "Copies.seen" (defArgs s_Copies_seen) (defBody s_Copies_seen) (defScope s_Copies_seen) [] [] f fd) (c : FldC K C fldN) (WL : DfG P w K mg base T 4 ["self", "lot"] fL fdL (Rlk K C CP)) (hL : Meth K C "look_at_lot" fL)
    (WR : DfG P w K mg base T 3 ["self", "lot"] fR fdR (Rrec K C CP (.dt (.list [])))) (hR : Meth K C "records_on" fR) (WO : DfG P w K mg base T 2 ["records"] fO fdO RdeedsOf) (hO : mg "deeds_of" = some (.ref fO)) : DfG P w K mg base T 5 ["self", "lot"] f fd (Rrec K C CP (.nl [])) := by
  refine dfg_of F sc_Copies_seen (fun rs r h => by cases h; rfl) (fun _ _ _ _ _ _ us hl => match us, hl with | [_, _], _ => rfl) fun cdv A outer s H E rs r hr h => ?_
  cases h with
  | mk x dx m l1 l2 l3 es ld A O ms ns hm hn hd hB =>
    refine g_cons (n1_expr (e_meth WL c.cl hL hr (by decide) (dpr 0) (obj_of rfl) (ag_cons (dn 1) ag_nil) (.mk x dx m l1 l2 l3 es ld [edD ms] A O ns (by omega) hB))) (g_ret ?_)
    exact e_call WO hO hr (by decide) (ag_cons (e_meth WR c.cl hR hr (by decide) (dpr 0) (obj_of rfl) (ag_cons (dn 1) ag_nil) (.mk x dx m l1 l2 l3 es ld A O ms ns hm hn hd hB)) ag_nil) .mk
end
end KM
set_option Elab.async false
set_option linter.all false
set_option maxRecDepth 100000
set_option maxHeartbeats 4000000
/-! class Copies: lacks. -/
namespace KM
open PySem PySem.Spec PyProof.Rows L2
section
variable {X : Cx} {T : Tbl} {HB : Hp} {ρ : List Sl}
/-- e.get(k) -/
theorem d_dget {a b : Expr} {apos cpos : Pos} {m : Int} {es : Ents} (hu : X.A.units + 64 < cLine) (ha : DE X T ρ a (.pr (ddM X.K es))) (hb : DD X T ρ b (.int m))
    (hm : M1 X a "get" apos b cpos := by exact ⟨rfl, rfl, rfl, rfl⟩) : DD X T ρ (.Call (.Attribute a "get" apos) [b] [] cpos) ((es.lookup m).getD .none) :=
  pe_imp (pe_dget1 (by omega) ha hb hm) fun σ H Q k => ⟨k.1, fun x H1 g1 h1 => by
    obtain ⟨a', o, kvs, e1, hd', q⟩ := h1
    subst e1
    refine ⟨a', rfl, .inl ⟨kvs, .inr ⟨o, hd'⟩⟩, k.1.gr g1, fun y H2 g2 h2 => ?_⟩
    rw [dp_int h2]
    have hd2 := g2.1 a' _ hd' (fun _ z => by cases z)
    have q2 := q.gr g2
    refine ⟨valV kvs (.inl m), .inl ⟨kvs, .inl m, .inr ⟨o, hd2⟩, rfl, rfl⟩, ?_⟩
    obtain ⟨z1, z2⟩ := q2.val m
    cases he : es.lookup m with
    | some d =>
      obtain ⟨v, hv, hp⟩ := z2 d he
      rw [hv]
      exact k.2 v H2 (g1.trans g2) (by rw [he]; exact hp)
    | none =>
      rw [he] at z1
      cases hv : valV kvs (.inl m) with
      | some v => rw [hv] at z1; cases z1
      | none => exact k.2 .non H2 (g1.trans g2) (by rw [he]; exact .non)⟩
/-- sorted({**a, **b}), a empty, b of one key -/
theorem d_sort2 {a b : Expr} {p p2 pos : Pos} {m : Int} {d : PyData} (hc : X.calm = true) (hms : X.mg "sorted" = none) (ha : DE X T ρ a (.pr (ddM X.K []))) (hb : DE X T ρ b (.pr (ddM X.K [(m, d)]))) (hg : Gl X "sorted" := by rfl)
    (hs : starEach [.Dict [none, none] [a, b] p2] X.env = (false, eval (.Dict [none, none] [a, b] p2) X.env) :: starEach [] X.env := by rfl) (hpl : (backTo pos (starEach [] X.env)).any (·.1) = false := by rfl) : DE X T ρ (.Call (.Name "sorted" p) [.Dict [none, none] [a, b] p2] [] pos) (.nl [.int m]) :=
  pe_imp (pe_callB (call_sortedD hc) hg hms (by decide +kernel) (pa_cons (pe_disp2 ha hb) pa_nil hs) (by decide) (by decide) hs hpl) fun σ H Q k => fun p hp => ⟨k.1.gr (Gr.new hp), fun v H1 g1 h1 => by
    obtain ⟨a', o, kvs, e1, hd, q⟩ := h1
    subst e1
    have hk : kvs = [] := List.length_eq_zero_iff.mp q.len
    subst hk
    have h1p : H1 p = some (.dK []) := g1.dK upd_same
    refine ⟨h1p, a', rfl, (fun z => by rw [z, h1p] at hd; cases hd), .inr ⟨o, hd⟩, k.1.gr ((Gr.new hp).trans g1), fun w H2 g2 h2 => ?_⟩
    obtain ⟨b', o2, kvs, e2, hd2, q2⟩ := h2
    subst e2
    have h2p : H2 p = some (.dK []) := g2.dK h1p
    cases kvs with
    | nil => exact q2.elim
    | cons c r =>
      obtain ⟨k0, v0⟩ := c
      obtain ⟨⟨e3, hv0⟩, q3⟩ := q2
      cases r with
      | cons _ _ => exact q3.elim
      | nil =>
        subst e3
        refine ⟨h2p, b', m, v0, rfl, (fun z => by rw [z, h2p] at hd2; cases hd2), .inr ⟨o2, hd2⟩, p, _, [m], rfl, .inl upd_same, rfl, fun ms' l hperm _ hl => ?_⟩
        have em : ms' = [m] := List.perm_singleton.mp hperm
        subst em
        have g : Gr T H H2 := ((Gr.new hp).trans g1).trans g2
        exact k.2 _ _ ((g.late (New.of hp) h2p).trans (Gr.new hl)) ⟨l, [.int m], rfl, upd_same, .cons (.int m) .nil⟩⟩
end
section
variable {P : Program} {w : World} {K : PySem.W.Frag} {mg : Str → Option Value} {base : Heap} {T : Tbl} {f : Addr} {fd : FuncData} {C CP : Addr}
/-- a lot apart, after the edit -/
inductive Rlacks (K : PySem.W.Frag) (C CP : Addr) : List Sl → Sl → Prop where
  | mk (x dx : Addr) (m : Int) (l1 l2 l3 : Addr) (ld : PyData) (A O : List PyData) (ms ns : List Int) (hm : ms.length ≤ 900) (hn : ns.length ≤ 900) (hd : ∀ i ∈ ms, i ∉ ns) (hB : lotB ns m = true) : Rlacks K C CP [.pr (copM K C CP x dx m l1 l2 l3 E5 ld [edD ms] A O), .dt (.tuple (di ns))] (.nl [.int 5])
theorem dfg_lacks {fS fD : Addr} {fdS fdD : FuncData} (G : Glob mg) (F : FunD K "lacks" "Copies.lacks" (defArgs s_Copies_lacks) (defBody s_Copies_lacks) (defScope s_Copies_lacks) [] [] f fd) (c : FldC K C fldN) (cP : Cls K CP) (WS : DfG P w K mg base T 5 ["self", "lot"] fS fdS (Rrec K C CP (.nl []))) (hS : Meth K C "seen" fS)
    (WD : DfG P w K mg base T 1 ["self"] fD fdD (Rdeeds K CP)) (hD : Meth K CP "deeds" fD) : DfG P w K mg base T 6 ["self", "lot"] f fd (Rlacks K C CP) := by
  refine dfg_of F sc_Copies_lacks (fun rs r h => by cases h; rfl) (fun _ _ _ _ _ _ us hl => match us, hl with | [_, _], _ => rfl) fun cdv A outer s H E rs r hr h => ?_
  cases h with
  | mk x dx m l1 l2 l3 ld A O ms ns hm hn hd hB =>
    refine g_cons (n1_asg 2 (r := .pr (ddM K [])) sc_Copies_lacks.nd (e_dc (x := "deed") (j := 5) (ds := []) (fk := fun _ => 5) (fv := fun _ => D5) rfl sc_Copies_lacks.nd (de_l (e_meth WS c.cl hS hr (by decide) (dpr 0) (obj_of rfl) (ag_cons (dn 1) ag_nil) (.mk x dx m l1 l2 l3 E5 ld A O ms ns hm hn hd hB))) (blkOk_by (N := n_Copies_lacks) (sc := defScope s_Copies_lacks) (by decide +kernel)) (fun _ _ _ _ _ => pg_name (i := 5) sc_Copies_lacks.nd rfl (Or.inl rfl)) (by show 0 ≤ 1; omega)
      (fun s H C cl fp d hd => by cases hd) (fun s H C cl fp d hd => by cases hd))) ?_
    refine g_cons (n1_asg 3 (r := .pr (ddM K E5)) sc_Copies_lacks.nd (e_dc (x := "deed") (j := 5) (ds := [D5]) (fk := fun _ => 5) (fv := fun _ => D5) rfl sc_Copies_lacks.nd (de_l (e_meth0 WD cP hD hr (by decide) (e_fldO (r := .pr (ptM K CP E5)) c (by simp) (dpr 0) rfl) (obj_pt rfl) .one)) (blkOk_by (N := n_Copies_lacks) (sc := defScope s_Copies_lacks) (by decide +kernel)) (fun _ _ _ _ _ => pg_name (i := 5) sc_Copies_lacks.nd rfl (Or.inl rfl)) (by show 1 ≤ 1; omega)
      (fun s H C cl fp d hd => ?_) (fun s H C cl fp d hd => ?_))) ?_
    · have e : d = D5 := by simpa using hd
      subst e
      exact d_ix (dn 5) d_int (.tup _ _ _ rfl)
    · have e : d = D5 := by simpa using hd
      subst e
      exact dn 5
    refine g_cons (n1_asg 4 (r := .dt (.list [.int 5])) sc_Copies_lacks.nd (de_l (d_sort2 (m := 5) (d := D5) rfl G.f_sorted (dpr 2) (dpr 3)))) (g_ret ?_)
    refine lcL (x := "moment") (j := 6) (ds := [.int 5]) (f := id) (p := fun _ => true) rfl sc_Copies_lacks.nd (dn 4) (blkOk_by (N := n_Copies_lacks) (sc := defScope s_Copies_lacks) (by decide +kernel)) (fun _ _ _ _ _ => pg_name (i := 6) sc_Copies_lacks.nd rfl (Or.inl rfl)) (ht_one fun s H C cl fp d hd => ?_) (he_of fun s H C cl fp d hd _ => dn 6) (fun d hd _ => ?_) (by show 1 ≤ 1000; omega)
    · have e : d = .int 5 := by simpa using hd
      subst e
      exact t_to (b := xor true (PyData.eqv .none D5)) (t_cmp (o_ne hr.units) (d_dget (m := 5) (es := []) hr.units (dpr 2) (dn 6)) (d_dget (m := 5) (es := E5) hr.units (dpr 3) (dn 6)) ⟨⟨shaped_of (by simp [PyData.canLay0]) (by simp [PyData.depth]), shaped_of (d := D5) (by simp only [PyData.canLay0, PyData.canLayAll0]; decide +kernel) (by simp [PyData.depth, PyData.depthAll])⟩, rfl⟩ (nomark _)) (by simp [PyData.eqv])
    · have e : d = .int 5 := by simpa using hd
      subst e
      rfl
end
end KM
set_option Elab.async false
set_option linter.all false
set_option maxRecDepth 100000
set_option maxHeartbeats 4000000
/-! _law_lacks_it -/
namespace KM
open PySem PySem.Spec PyProof.Rows L2
theorem asc_iff : ∀ ns : List Int, asc ns = true ↔ ns.Pairwise (· < ·)
  | [] => by simp [asc]
  | [a] => by simp [asc]
  | a :: b :: r => by
    have ih := asc_iff (b :: r)
    show (decide (a < b) && asc (b :: r)) = true ↔ _
    rw [Bool.and_eq_true, ih, decide_eq_true_iff, List.pairwise_cons (a := a)]
    constructor
    · rintro ⟨h, p⟩
      refine ⟨fun x hx => ?_, p⟩
      rcases List.mem_cons.mp hx with e | e
      · rw [e]
        exact h
      · exact Int.lt_trans h ((List.pairwise_cons.mp p).1 x e)
    · rintro ⟨h, p⟩
      exact ⟨h b (List.mem_cons_self ..), p⟩
theorem lotB_iff {ns : List Int} {n : Int} : lotB ns n = true ↔ (∀ i ∈ ns, 0 ≤ i ∧ i ≤ n - 1) ∧ ns.Pairwise (· < ·) := by
  unfold lotB
  rw [Bool.and_eq_true, asc_iff, List.all_eq_true]
  constructor
  · rintro ⟨h, p⟩
    exact ⟨fun i hi => by simpa using h i hi, p⟩
  · rintro ⟨h, p⟩
    exact ⟨fun i hi => by simpa using h i hi, p⟩
theorem lotB_filter {ns : List Int} {n : Int} (p : Int → Bool) (h : lotB ns n = true) : lotB (ns.filter p) n = true := by
  obtain ⟨a, b⟩ := lotB_iff.mp h
  exact lotB_iff.mpr ⟨fun i hi => a i (List.mem_filter.mp hi).1, b.filter p⟩
/-- Copies may be made -/
structure MkC (P : Program) (w : World) (K : PySem.W.Frag) (mg : Str → Option Value) (base : Heap) (T : Tbl) (k : Nat) (C CP fI : Addr) (fd : FuncData) : Prop where
  fc : FldC K C fldN
  mkr : Mk K C fI
  at_ : mg "Copies" = some (.ref C)
  ok : FnOk P w K mg base CX0 k fI fd ["self", "count", "past"] (spCop K T C CP)
  b1 : ∃ ds, Vals [.non] ds ∧ Binds K fd ["self", "count", "past"] ds
section
variable {X : Cx} {T : Tbl} {HB : Hp} {ρ ρ1 ρ2 : List Sl} {e o : Expr} {es : List Expr} {rest : List Stmt} {pos apos cpos : Pos} {C CP x dx : Addr} {A : PyData → Prop}
/-- y = Copies(e) -/
theorem b_newC {k j : Nat} {y : Str} {px p pos2 : Pos} {m : Int} {fI : Addr} {fd : FuncData} (i : Nat) (M : MkC X.prog X.w X.K X.mg X.base T k C CP fI fd) (hr : Room j X.A) (hk : k + 1 ≤ j) (hN : X.N.Nodup) (he : DD X T ρ e (.int m)) (m1 : 1 ≤ m) (m5 : m ≤ 5)
    (h2 : ∀ x dx l1 l2 l3, New HB x → New HB l1 → New HB l2 → New HB l3 → DB X T HB (ρ.set i (.pr (copM X.K C CP x dx m l1 l2 l3 [] ld0 [] [] []))) rest A) (hi : X.N[i]? = some y := by rfl) (hx : Loc X.env.scope y := by first | exact Or.inl rfl | exact Or.inr rfl) (hg : Gl X "Copies" := by rfl)
    (hst : starEach [e] X.env = (false, eval e X.env) :: starEach [] X.env := by rfl) (hpl : (backTo pos2 (starEach [] X.env)).any (·.1) = false := by rfl)
    (hs : swapsWith (.Call (.Name "Copies" p) [e] [] pos2) (some (.Name y px)) pos.line X.env = pure false := by rfl) (hf : X.fn y = true ∨ X.env.scope.names.lookup y = some .local := by first | exact .inl rfl | exact .inr rfl) : DB X T HB ρ (.Assign [.Name y px] (.Call (.Name "Copies" p) [e] [] pos2) pos :: rest) A := by
  obtain ⟨ds, hv, hb⟩ := M.b1
  refine pss_imp (pss_cons (ps_set hN hi hx (pe_make (dvs := [.non]) (E := E0) M.mkr M.ok (hr.mono hk) hg M.at_ hb hv pass0 (a_cons he a_nil hst) (by decide) hst hpl) hs hf)
    (pss_exi fun x => pss_exi fun dx => pss_exi fun l1 => pss_exi fun l2 => pss_exi fun l3 => pss_if (c := New HB x ∧ New HB l1 ∧ New HB l2 ∧ New HB l3) fun c => h2 x dx l1 l2 l3 c.1 c.2.1 c.2.2.1 c.2.2.2)) fun D σ H k => ⟨k.1, fun vs H1 g1 h1 => fun x dx hx hdx hne => ?_⟩
  obtain ⟨v, ev, hv⟩ := one_of h1
  subst ev
  refine ⟨H1, x, dx, v, m, rfl, rfl, hx, hdx, hne, g1.2 k.1.tabs, m1, m5, hv, fun l1 l2 l3 H2 g n1 n2 n3 hp => ⟨rfl, x, dx, l1, l2, l3, ⟨(k.2.1.trans g1).back hx, n1.back (k.2.1.trans g1), n2.back (k.2.1.trans g1), n3.back (k.2.1.trans g1)⟩, ?_⟩⟩
  exact ⟨(k.1.gr (g1.trans g)).set (r := .pr (copM X.K C CP x dx m l1 l2 l3 [] ld0 [] [] [])) i hp, k.2.1.trans (g1.trans g), k.2.2⟩
/-- a method that changes the object of the slot i -/
theorem n1_mutI {m : Str} {k j i : Nat} {n : Int} {l1 l2 l3 : Addr} {ps : List Str} {f : Addr} {fd : FuncData} {us : List Int → List PyData} {es2 : Ents} {ld2 : PyData} {ms : List Int} {pl : Sem Bool} (F : FnOk X.prog X.w X.K X.mg X.base CX0 k f fd ps (spMut X.K T C CP us es2 ld2)) (hb : Binds X.K fd ps []) (c : Cls X.K C) (hm : Meth X.K C m f) (hr : Room j X.A) (hk : k ≤ j)
    (hT : LamX.Tabs T HB) (nx : New HB x) (n1 : New HB l1) (n2 : New HB l2) (n3 : New HB l3) (hB : lotB ms n = true) (hl : ms.length ≤ 900) (hi : ρ[i]? = some (.pr (copM X.K C CP x dx n l1 l2 l3 [] ld0 [] [] []))) (hle : LeR ρ ρ2) (hKn : KnownL X.K HB ρ2) (ho : DE X T ρ o (.pr (copM X.K C CP x dx n l1 l2 l3 [] ld0 [] [] [])))
    (ha : DA X T ρ (e :: es) (us ms)) (hno : (flds X.K CP n l1 l2 l3 [] ld0).lookup m = none)
    (hst : starEach (e :: es) X.env = (false, eval e X.env) :: starEach es X.env := by rfl) (hpl : (backTo cpos (starEach es X.env)).any (·.1) = false := by rfl)
    (ht : eval (.Call (.Attribute o m apos) (e :: es) [] cpos) X.env = (do
      let ov ← eval o X.env
      standAt apos.atName
      let (f, first) ← holding [ov] (getMethod ov m pl)
      callWith cpos f first (backTo cpos (starEach (e :: es) X.env)) (backToKw cpos (keywordEach [] X.env))) := by rfl)
    (hsw : swapsWith (.Call (.Attribute o m apos) (e :: es) [] cpos) none pos.line X.env = pure false := by rfl) :
    D1 X T HB ρ (.Expr (.Call (.Attribute o m apos) (e :: es) [] cpos) pos) (ρ2.set i (.pr (copM X.K C CP x dx n l1 l2 l3 es2 ld2 [edD ms] [opD] [.str "edit"]))) :=
  ps_imp (ps_expr (pe_meth (dvs := []) (E := E0) ho c hm F (hr.mono hk) hb .nil pass0 ha hst hpl ht) hsw) fun D σ H k => ⟨k.1, fun v H1 g1 h1 => by
    obtain ⟨e1, ⟨fs, q1, q2⟩, q3, q4⟩ := h1
    subst e1
    refine ⟨x, dx, fs, rfl, q1, q2.get.2 hno, k.1.gr g1, fun vs H2 g2 hv => ?_⟩
    show spMut X.K T C CP us es2 ld2 (.ref x :: (vs ++ [])) H2 _ E0
    rw [List.append_nil]
    refine ⟨HB, x, dx, n, l1, l2, l3, ms, vs, rfl, hT, k.2.1.trans (g1.trans g2), nx, n1, n2, n3, hB, hl, (copM X.K C CP x dx n l1 l2 l3 [] ld0 [] [] []).mono T H1 H2 _ g2 ⟨rfl, ⟨fs, q1, q2⟩, q3, q4⟩, hv, fun H3 g3 h3 => k.2.2 σ H3 ?_ g3⟩
    obtain ⟨_, sl⟩ := k.1
    obtain ⟨o1, e1, v1, e2, e3, _⟩ := slots_get sl hi
    subst e2 e3
    have z := Env.set (K := X.K) (T := T) (H := H3) (σ := σ) ⟨g3.2 hT, known_slots g3 hKn (hle.slots sl)⟩ (r := .pr (copM X.K C CP x dx n l1 l2 l3 es2 ld2 [edD ms] [opD] [.str "edit"])) i h3
    have es : σ.set i (some (.ref x)) = σ := by
      obtain ⟨hlt, hget⟩ := List.getElem?_eq_some_iff.mp e1
      rw [← hget]
      exact List.set_getElem_self hlt
    rw [es] at z
    exact z⟩
end
def Rlacksit : List PyData → PyData → Prop := fun ds d => ∃ (m : Int) (ns ms : List Int), 1 ≤ m ∧ m ≤ 5 ∧ lotB ns m = true ∧ lotB ms m = true ∧ ns.length ≤ 900 ∧ ms.length ≤ 900 ∧ ds = [.int m, .tuple (di ns), .tuple (di ms)] ∧ d = .bool true
section
variable {P : Program} {w : World} {K : PySem.W.Frag} {mg : Str → Option Value} {base : Heap} {T : Tbl} {f : Addr} {fd : FuncData} {C CP : Addr}
theorem df_lacks_it {fI fE fS fL : Addr} {fdI fdE fdS fdL : FuncData} (G : Glob mg) (F : FnP K "_law_lacks_it" s__law_lacks_it f fd) (hm : mg "_law_lacks_it" = some (.ref f)) (M : MkC P w K mg base T 10 C CP fI fdI) (WE : FnOk P w K mg base CX0 13 fE fdE ["self", "lot", "change"] (spMut K T C CP usEdit E5 ld1)) (bE : Binds K fdE ["self", "lot", "change"] []) (hE : Meth K C "edit" fE)
    (WS : DfG P w K mg base T 5 ["self", "lot"] fS fdS (Rrec K C CP (.nl []))) (hS : Meth K C "seen" fS) (WL : DfG P w K mg base T 6 ["self", "lot"] fL fdL (Rlacks K C CP)) (hL : Meth K C "lacks" fL) : Df P w K mg base T "_law_lacks_it" 14 ["_law_many", "_law_lot", "_law_other_here"] Rlacksit := by
  refine ⟨f, fd, F.ok sc__law_lacks_it (fun vs H Q E h => ?_) (fun cdv A outer s H vs Q E hr h => ?_), hm, F.kp, F.bindsN (fun _ _ _ _ _ _ us hl => match us, hl with | [_, _, _], _ => rfl)⟩
  · obtain ⟨_, ds, d, hv, ⟨_, _, _, _, _, _, _, _, _, e, _⟩, _⟩ := h
    rw [dpAll_len hv, e]
    rfl
  obtain ⟨ht, ds, d, hv, ⟨m, ns, ms, m1, m5, hns, hms, l1, l2, rfl, rfl⟩, q⟩ := h
  cases hv with
  | cons a1 hv =>
    cases hv with
    | cons a2 hv =>
      cases hv with
      | cons a3 hv =>
        cases hv
        rename_i v1 v2 v3
        have hru : (ns.filter fun i => !decide (i ∈ ms)).length ≤ 900 := Nat.le_trans (List.length_filter_le _ _) l1
        have hrd : ∀ i ∈ ms, i ∉ ns.filter fun i => !decide (i ∈ ms) := fun i hi z => by
          have := (List.mem_filter.mp z).2
          simp [hi] at this
        have body : DB (bodyX P w K mg base n__law_lacks_it "_law_lacks_it" (defScope s__law_lacks_it) f cdv A outer s H E) T H [.pr (eqM K v1 (.int m)), .pr (eqM K v2 (.tuple (di ns))), .pr (eqM K v3 (.tuple (di ms))), .un, .un, .un] (defBody s__law_lacks_it) (fun x => x = .bool true) := by
          refine b_newC 3 M hr (by decide) sc__law_lacks_it.nd (d_eqM (dpr 0)) m1 m5 fun x dx b1 b2 b3 nx n1 n2 n3 => ?_
          refine b_cons (n1_mutI (i := 3) (ρ2 := [.pr (eqM K v1 (.int m)), .pr (eqM K v2 (.tuple (di ns))), .pr (eqM K v3 (.tuple (di ms))), .un, .un, .un]) (us := usEdit) WE bE M.fc.cl hE hr (by decide) ht nx n1 n2 n3 hms l2 rfl ⟨.inr rfl, .inr rfl, .inr rfl, .inl rfl, .inr rfl, .inr rfl, trivial⟩ ⟨.inr ⟨_, _, rfl, a1⟩, .inr ⟨_, _, rfl, a2⟩, .inr ⟨_, _, rfl, a3⟩, .inl rfl, .inl rfl, .inl rfl, trivial⟩ (dpr 3)
            (a_cons (d_eqM (dpr 2)) (a_cons (d_tup (ds := [.str "in", D5]) (a_cons d_str (a_cons (d_tup (ds := [.int 5, .str "add", .str "a", .int 1]) (a_cons d_int (a_cons d_str (a_cons d_str (a_cons d_int a_nil)))) (by show 4 ≤ 1000; omega)) a_nil)) (by show 2 ≤ 1000; omega)) a_nil)) rfl) ?_
          refine b_cons (n1_asg 4 (r := .dt (.tuple (di (ns.filter fun i => !decide (i ∈ ms))))) sc__law_lacks_it.nd (d_callT c_tup G.f_tuple (by decide +kernel) (a_cons (de_l (de_to (lcT (x := "_law_copy") (j := 5) (ds := di ns) (p := ninD ms) (f := id) rfl sc__law_lacks_it.nd (d_eqM (dpr 1)) (blkOk_by (N := n__law_lacks_it) (sc := defScope s__law_lacks_it) (by decide +kernel))
            (fun _ _ _ _ _ => pg_name (i := 5) sc__law_lacks_it.nd rfl (Or.inl rfl)) (ht_one fun s H C cl fp d hd => ?_) (he_of fun s H C cl fp d hd _ => dn 5) (fun d hd _ => ?_) ?_) (filter_nin ms ns))) a_nil) (.lst _))) ?_
          · obtain ⟨i, hi, rfl⟩ := mem_di hd
            exact t_cmp o_nin (dn 5) (d_eqM (dpr 2)) (.tup _ _) rfl
          · obtain ⟨i, hi, rfl⟩ := mem_di hd
            rfl
          · rw [List.length_map]
            omega
          · refine b_retD (d_to (b := .bool (xor false (PyData.eqv (.list []) (.list [])) && xor false (PyData.eqv (.list (di [5])) (.list (di [5]))))) (d_and (d_cmp (o_eq hr.units) (x := .list []) (y := .list []) (de_l (e_meth WS M.fc.cl hS hr (by decide) (dpr 3) (obj_of rfl) (ag_cons (dn 4) ag_nil) (.mk x dx m b1 b2 b3 E5 ld1 [opD] [.str "edit"] ms _ l2 hru hrd (lotB_filter _ hns)))) (de_l (d_lst a_nil (Nat.zero_le _))) ⟨⟨shaped_ints [], shaped_ints []⟩, rfl⟩ (nomark _)) fun _ => d_one (d_cmp (o_eq hr.units) (x := .list (di [5])) (y := .list (di [5])) (de_l (e_meth WL M.fc.cl hL hr (by decide) (dpr 3) (obj_of rfl) (ag_cons (dn 4) ag_nil) (.mk x dx m b1 b2 b3 ld1 [opD] [.str "edit"] ms _ l2 hru hrd (lotB_filter _ hns)))) (de_l (d_lst (ds := [.int 5]) (a_cons d_int a_nil) (by show 1 ≤ 1000; omega))) ⟨⟨shaped_ints [5], shaped_ints [5]⟩, rfl⟩ (nomark _))) ?_)
            simp [PyData.eqv, PyData.eqvAll, di]
        refine ⟨_, PSs.nox body, ⟨ht, ⟨v1, rfl, rfl, a1⟩, ⟨v2, rfl, rfl, a2⟩, ⟨v3, rfl, rfl, a3⟩, trivial, trivial, trivial, trivial⟩, Gr.refl H, fun d v H2 c g hd => ?_⟩
        subst c
        exact q v H2 g hd
end
end KM
set_option Elab.async false
set_option linter.all false
set_option maxRecDepth 100000
set_option maxHeartbeats 4000000
/-! the plain law -/
namespace KM
open PySem PySem.Spec PyProof.Rows L2
theorem erase_of_idx : ∀ {l : List Int} {a : Int}, a ∈ l → l.eraseIdx (l.idxOf a) = l.erase a
  | [], a, h => by cases h
  | b :: r, a, h => by
    by_cases e : b = a
    · subst e
      simp
    · have hr : a ∈ r := by
        rcases List.mem_cons.mp h with z | z
        · exact absurd z.symm e
        · exact z
      have eb : (b == a) = false := by simpa using e
      rw [List.idxOf_cons, eb, List.erase_cons_tail (by simpa using e)]
      show b :: r.eraseIdx (r.idxOf a) = _
      rw [erase_of_idx hr]
section
variable {vs : List Int}
theorem byV_trans (a b c : Int) (h1 : byV vs a b = true) (h2 : byV vs b c = true) : byV vs a c = true := by
  unfold byV at *
  rw [decide_eq_true_iff] at *
  omega
theorem byV_total (a b : Int) : (byV vs a b || byV vs b a) = true := by
  unfold byV
  rw [Bool.or_eq_true, decide_eq_true_iff, decide_eq_true_iff]
  omega
theorem byV_anti (a b : Int) (h1 : byV vs a b = true) (h2 : byV vs b a = true) : a = b := by
  unfold byV at *
  rw [decide_eq_true_iff] at *
  omega
theorem by_perm (ns : List Int) : (byVotes vs ns).Perm ns := List.mergeSort_perm _ _
theorem by_sorted (ns : List Int) : (byVotes vs ns).Pairwise fun a b => byV vs a b = true := List.pairwise_mergeSort byV_trans byV_total ns
theorem sorted_uniq : ∀ {l l' : List Int}, l.Perm l' → l.Pairwise (fun a b => byV vs a b = true) → l'.Pairwise (fun a b => byV vs a b = true) → l = l'
  | [], l', p, _, _ => (List.Perm.nil_eq p)
  | a :: l, [], p, _, _ => by cases p.eq_nil
  | a :: l, b :: l', p, h1, h2 => by
    have ha : a ∈ b :: l' := p.mem_iff.mp (List.mem_cons_self ..)
    have hb : b ∈ a :: l := p.mem_iff.mpr (List.mem_cons_self ..)
    have e : a = b := by
      rcases List.mem_cons.mp ha with z | z
      · exact z
      · rcases List.mem_cons.mp hb with y | y
        · exact y.symm
        · exact byV_anti a b ((List.pairwise_cons.mp h1).1 b y) ((List.pairwise_cons.mp h2).1 a z)
    subst e
    rw [sorted_uniq (p.cons_inv) (List.pairwise_cons.mp h1).2 (List.pairwise_cons.mp h2).2]
theorem pick_le {l : List Int} (hl : l.Pairwise (· < ·)) (hne : l ≠ []) {b : Int} (hb : b ∈ l) : byV vs (pick vs l) b = true := by
  obtain ⟨h1, h2, r, h3⟩ := pick_mem (vs := vs) hne
  unfold byV
  rw [decide_eq_true_iff, h2]
  have hge : voteAt vs b ≤ maxI (l.map (voteAt vs)) := maxI_ge (List.mem_map.mpr ⟨b, hb, rfl⟩)
  by_cases e : voteAt vs b = maxI (l.map (voteAt vs))
  · right
    refine ⟨by rw [e], ?_⟩
    have hm : b ∈ l.filter fun c => decide (voteAt vs c = maxI (l.map (voteAt vs))) := List.mem_filter.mpr ⟨hb, by simpa using e⟩
    have hp := hl.filter fun c => decide (voteAt vs c = maxI (l.map (voteAt vs)))
    rw [h3] at hm hp
    rcases List.mem_cons.mp hm with z | z
    · omega
    · have := (List.pairwise_cons.mp hp).1 b z
      omega
  · left
    omega
theorem st_inv {l : List Int} (hl : l.Pairwise (· < ·)) : ∀ n, n ≤ l.length → (stL vs l n).length = l.length - n ∧ (stL vs l n).Pairwise (· < ·) ∧ (stF vs l n ++ stL vs l n).Perm l ∧ (stF vs l n).Pairwise (fun a b => byV vs a b = true) ∧ ∀ a ∈ stF vs l n, ∀ b ∈ stL vs l n, byV vs a b = true
  | 0, _ => ⟨rfl, hl, List.Perm.refl _, .nil, fun a h => by cases h⟩
  | n + 1, hn => by
    obtain ⟨i1, i2, i3, i4, i5⟩ := st_inv hl n (by omega)
    have hne : stL vs l n ≠ [] := fun z => by rw [z] at i1; simp at i1; omega
    have hp := (pick_mem (vs := vs) hne).1
    have el : stL vs l (n + 1) = (stL vs l n).erase (pick vs (stL vs l n)) := erase_of_idx hp
    have ef : stF vs l (n + 1) = stF vs l n ++ [pick vs (stL vs l n)] := rfl
    have sub : ∀ {b}, b ∈ stL vs l (n + 1) → b ∈ stL vs l n := fun {b} h => by
      rw [el] at h
      exact List.mem_of_mem_erase h
    refine ⟨?_, ?_, ?_, ?_, ?_⟩
    · rw [el, List.length_erase_of_mem hp, i1]
      omega
    · rw [el]
      exact i2.sublist (List.erase_sublist ..)
    · rw [el, ef, List.append_assoc]
      exact ((List.perm_cons_erase hp).symm.append_left _).trans i3
    · rw [ef]
      exact List.pairwise_append.mpr ⟨i4, by simp, fun a ha b hb => by
        have e : b = pick vs (stL vs l n) := by simpa using hb
        rw [e]
        exact i5 a ha _ hp⟩
    · intro a ha b hb
      rw [ef] at ha
      rcases List.mem_append.mp ha with z | z
      · exact i5 a z b (sub hb)
      · have e : a = pick vs (stL vs l n) := by simpa using z
        rw [e]
        exact pick_le i2 hne (sub hb)
theorem lawBy_eq {l : List Int} (hl : l.Pairwise (· < ·)) : lawBy vs l = byVotes vs l := by
  obtain ⟨i1, _, i3, i4, _⟩ := st_inv (vs := vs) hl l.length (Nat.le_refl _)
  have e : stL vs l l.length = [] := List.length_eq_zero_iff.mp (by omega)
  rw [e, List.append_nil] at i3
  exact sorted_uniq (i3.trans (by_perm l).symm) i4 (by_sorted l)
theorem itM_perm {l s : List Int} (hp : l.Perm s) (hs : s.Pairwise (fun a b => b ≤ a)) : ∀ n, n ≤ s.length → (itM n l).Perm (s.drop n)
  | 0, _ => hp
  | n + 1, hn => by
    have ih := itM_perm hp hs n (by omega)
    have hd : s.drop n = s[n] :: s.drop (n + 1) := List.drop_eq_getElem_cons (by omega)
    rw [hd] at ih
    have hne : itM n l ≠ [] := fun z => by
      rw [z] at ih
      have := ih.length_eq
      simp at this
      omega
    have hm : maxI (itM n l) ∈ itM n l := maxI_mem hne
    have hsd : (s[n] :: s.drop (n + 1)).Pairwise (fun a b => b ≤ a) := by rw [← hd]; exact hs.sublist (List.drop_sublist ..)
    have e : maxI (itM n l) = s[n] := by
      have h1 : s[n] ≤ maxI (itM n l) := maxI_ge (ih.mem_iff.mpr (List.mem_cons_self ..))
      rcases List.mem_cons.mp (ih.mem_iff.mp hm) with z | z
      · exact z
      · exact Int.le_antisymm ((List.pairwise_cons.mp hsd).1 _ z) h1
    show (rmMax (itM n l)).Perm _
    unfold rmMax
    rw [erase_of_idx hm, e]
    have z := ih.erase s[n]
    rw [List.erase_cons_head] at z
    exact z
theorem sum_perm {l l' : List Int} (p : l.Perm l') : l.sum = l'.sum := by
  induction p with
  | nil => rfl
  | cons x _ ih => simp only [List.sum_cons, ih]
  | swap x y l => simp only [List.sum_cons]; omega
  | trans _ _ h1 h2 => exact h1.trans h2
theorem lawSure_eq (u : Nat) (ns : List Int) : lawSure vs u ns = sureOf vs u ns := by
  have hb := (by_perm (vs := vs) ns).map (voteAt vs)
  have hs : ((byVotes vs ns).map (voteAt vs)).Pairwise (fun a b => b ≤ a) := by
    rw [List.pairwise_map]
    refine (by_sorted (vs := vs) ns).imp fun {a b} h => ?_
    unfold byV at h
    rw [decide_eq_true_iff] at h
    omega
  have hlen : ((byVotes vs ns).map (voteAt vs)).length = ns.length := by rw [List.length_map, (by_perm ns).length_eq]
  have z := sum_perm (itM_perm hb.symm hs (min u ns.length) (by omega))
  unfold lawSure sureOf votesIn
  rw [z, ← sum_perm hb]
  have hd : ((byVotes vs ns).map (voteAt vs)).drop (min u ns.length) = ((byVotes vs ns).map (voteAt vs)).drop u := by
    rcases Nat.le_total u ns.length with h | h
    · rw [Nat.min_eq_left h]
    · rw [Nat.min_eq_right h, List.drop_eq_nil_of_le (by omega), List.drop_eq_nil_of_le (by omega)]
  rw [hd]
  have h2 := congrArg List.sum (List.take_append_drop u ((byVotes vs ns).map (voteAt vs)))
  rw [List.sum_append] at h2
  rw [List.map_take]
  omega
end
theorem lawOther_eq {vs ns : List Int} {u : Nat} (h : ns.Pairwise (· < ·)) : lawOther vs u ns = otherOf vs u ns := by
  unfold lawOther otherOf
  rw [lawBy_eq h]
theorem lots_ok : ∀ (m : Nat) (l : List Int), l ∈ lotsL m → lotB l m = true
  | 0, l, h => by
    have e : l = [] := by simpa [lotsL] using h
    subst e
    rfl
  | n + 1, l, h => by
    rcases List.mem_append.mp h with z | z
    · obtain ⟨a, b⟩ := lotB_iff.mp (lots_ok n l z)
      exact lotB_iff.mpr ⟨fun i hi => by have := a i hi; omega, b⟩
    · obtain ⟨l', hl, rfl⟩ := List.mem_map.mp z
      obtain ⟨a, b⟩ := lotB_iff.mp (lots_ok n l' hl)
      refine lotB_iff.mpr ⟨fun i hi => ?_, List.pairwise_append.mpr ⟨b, by simp, fun x hx y hy => ?_⟩⟩
      · rcases List.mem_append.mp hi with w | w
        · have := a i w
          omega
        · have : i = n := by simpa using w
          omega
      · have := a x hx
        have : y = n := by simpa using hy
        omega
theorem other_ok {vs ns : List Int} {u : Nat} (h : lotB ns vs.length = true) : lotB (otherOf vs u ns) vs.length = true ∧ (otherOf vs u ns).length ≤ vs.length + ns.length := by
  obtain ⟨a, b⟩ := lotB_iff.mp h
  have hp : (otherOf vs u ns).Perm (outsideOf vs ns ++ (byVotes vs ns).take u) := List.mergeSort_perm _ _
  have hsort : (otherOf vs u ns).Pairwise (fun a b => decide (a ≤ b) = true) := List.pairwise_mergeSort (fun a b c h1 h2 => by simp at *; omega) (fun a b => by simp; omega) _
  have hin : ∀ i ∈ outsideOf vs ns, (0 ≤ i ∧ i < vs.length) ∧ i ∉ ns := fun i hi => by
    obtain ⟨h1, h2⟩ := List.mem_filter.mp hi
    refine ⟨?_, by simpa using h2⟩
    obtain ⟨j, hj, rfl⟩ := List.mem_map.mp h1
    have := List.mem_range.mp hj
    omega
  have hbs : ∀ i ∈ (byVotes vs ns).take u, i ∈ ns := fun i hi => (by_perm ns).mem_iff.mp (List.mem_of_mem_take hi)
  have nd : (outsideOf vs ns ++ (byVotes vs ns).take u).Nodup := by
    refine List.nodup_append.mpr ⟨List.Nodup.sublist (List.filter_sublist) ?_, List.Nodup.sublist (List.take_sublist ..) ((by_perm ns).nodup_iff.mpr (b.imp fun {x y} h => by omega)), fun x hx y hy e => ?_⟩
    · show ((List.range vs.length).map _).Nodup
      exact List.Pairwise.map _ (fun x y h e => h (by have e : (x : Int) = (y : Int) := e; omega)) List.nodup_range
    · subst e
      exact (hin x hx).2 (hbs x hy)
  refine ⟨lotB_iff.mpr ⟨fun i hi => ?_, ?_⟩, ?_⟩
  · rcases List.mem_append.mp (hp.mem_iff.mp hi) with z | z
    · have := (hin i z).1
      omega
    · exact a i (hbs i z)
  · have n2 : (otherOf vs u ns).Nodup := hp.nodup_iff.mpr nd
    refine (List.pairwise_and_iff.mpr ⟨hsort, n2⟩).imp fun {x y} h => ?_
    obtain ⟨h1, h2⟩ := h
    have := of_decide_eq_true h1
    omega
  · rw [hp.length_eq, List.length_append, List.length_take, (by_perm ns).length_eq]
    have : (outsideOf vs ns).length ≤ vs.length := outside_len vs ns
    omega
end KM
set_option Elab.async false
set_option linter.all false
set_option maxRecDepth 100000
set_option maxHeartbeats 4000000
/-! rules for the law's def -/
namespace KM
open PySem PySem.Spec PyProof.Rows L2
section
variable {X : Cx} {T : Tbl} {HB : Hp} {ρ ρ1 ρ2 : List Sl} {e : Expr} {rest : List Stmt} {s : Stmt} {pos : Pos} {A : PyData → Prop} {CL : List PyData → Prop}
/-- the pair of the slot is put away as a source -/
theorem pss_shut {st : List Stmt} {t : TS} {p : Addr} (h : PSs X st t) : PSs X st (fun D σ H => ∃ a b, H p = some (pairO a b) ∧ t D σ (upd H p (srcO p))) :=
  ⟨fun pins s σ H D I ⟨a, b, e, k⟩ => h.run pins s σ _ D (src_shut I e) k⟩
theorem n_srcX {t : TE} (i : Nat) (h : PS X s (tAsg t (gName i))) (hr : ∀ σ H Q, tFX X.K T ρ CL σ H Q → t σ H Q) (hCL : ∀ ds, CL ds → ∃ x y : Int, ds = [.int x, .int y]) (h2 : ∀ a, New HB a → DN X T HB (ρ.set i (.ob a (srcO a))) rest ρ2) : DN X T HB ρ (s :: rest) ρ2 :=
  pss_imp (pss_cons h (pss_exi fun a => pss_if (c := New HB a) fun c => pss_shut (p := a) (h2 a c))) fun D σ H k => hr _ _ _ ⟨k.1, fun ds a xs H2 c g n e d => by
    obtain ⟨x, y, rfl⟩ := hCL ds c
    have hx : xs = [.int x, .int y] := by
      cases d with
      | cons d1 d =>
        cases d with
        | cons d2 d =>
          cases d
          rw [dp_int d1, dp_int d2]
    subst hx
    have gl : Gr T H (upd H2 a (srcO a)) := g.late n e
    exact ⟨a, New.back k.2.1 n, x, y, e, (k.1.gr gl).set (r := .ob a (srcO a)) i ⟨rfl, upd_same, fun _ z => by cases z⟩, k.2.1.trans gl, k.2.2⟩⟩
/-- a, b, c, d = e, e drawn -/
theorem n_unp4 {i j l m : Nat} {x y z u : Str} {px py pz pu pt : Pos} {kt} {B : PyData → PyData → PyData → PyData → Prop} (hc : X.calm = true) (hN : X.N.Nodup) (h : DX X T ρ e A) (hA : ∀ d, A d → ∃ a b c f, d = .list [a, b, c, f] ∧ B a b c f) (h2 : ∀ a b c f, B a b c f → DN X T HB ((((ρ.set i (.dt a)).set j (.dt b)).set l (.dt c)).set m (.dt f)) rest ρ2)
    (hi : X.N[i]? = some x) (hj : X.N[j]? = some y) (hl : X.N[l]? = some z) (hm : X.N[m]? = some u) (hx : Loc X.env.scope x) (hy : Loc X.env.scope y) (hz : Loc X.env.scope z) (hu : Loc X.env.scope u)
    (fx : X.fn x = true ∨ X.env.scope.names.lookup x = some .local) (fy : X.fn y = true ∨ X.env.scope.names.lookup y = some .local) (fz : X.fn z = true ∨ X.env.scope.names.lookup z = some .local) (fu : X.fn u = true ∨ X.env.scope.names.lookup u = some .local)
    (hs : swapsWithSole [.Tuple [.Name x px, .Name y py, .Name z pz, .Name u pu] kt pt] e pos.line X.env = pure false := by rfl) (hw : swappedStores [.Tuple [.Name x px, .Name y py, .Name z pz, .Name u pu] kt pt] e X.env = pure none := by rfl)
    (h1 : (assignEach [.Tuple [.Name x px, .Name y py, .Name z pz, .Name u pu] kt pt] X.env).map (·.2) = [assign (.Tuple [.Name x px, .Name y py, .Name z pz, .Name u pu] kt pt) X.env] := by rfl) :
    DN X T HB ρ (.Assign [.Tuple [.Name x px, .Name y py, .Name z pz, .Name u pu] kt pt] e pos :: rest) ρ2 :=
  pss_imp (pss_cons (ps_asg h (pg_lst (n := 4) hc (pgs_cons (pg_name hN hi hx fx) (pgs_cons (pg_name hN hj hy fy) (pgs_cons (pg_name hN hl hz fz) (pgs_cons (pg_name hN hm hu fu) pgs_nil))))) hs hw h1)
    (pss_exi fun a => pss_exi fun b => pss_exi fun c => pss_exi fun f => pss_if (c := B a b c f) fun w => h2 a b c f w)) fun D σ H k => ⟨k.1, fun d v H2 cd g hv => by
    obtain ⟨a, b, c, f, rfl, hB⟩ := hA d cd
    obtain ⟨p, xs, e1, e2, e3⟩ := dp_lst hv
    subst e1
    cases e3 with
    | cons q1 e3 => cases e3 with
      | cons q2 e3 => cases e3 with
        | cons q3 e3 => cases e3 with
          | cons q4 e3 =>
            cases e3
            exact ⟨p, _, rfl, e2, rfl, _, _, rfl, _, _, rfl, _, _, rfl, _, _, rfl, rfl, a, b, c, f, hB, ((((k.1.gr g).set (r := .dt a) i q1).set (r := .dt b) j q2).set (r := .dt c) l q3).set (r := .dt f) m q4, k.2.1.trans g, k.2.2⟩⟩
end
theorem eqvAll_ints : ∀ ns : List Int, PyData.eqvAll (di ns) (di ns) = true
  | [] => by simp [di, PyData.eqvAll]
  | n :: r => by
    have ih := eqvAll_ints r
    show PyData.eqvAll (.int n :: di r) (.int n :: di r) = true
    simp [PyData.eqvAll, PyData.eqv, ih]
theorem eqv_paper (ns ms : List Int) : PyData.eqv (.tuple [.str "missed", .tuple (di ns), .tuple (di ms)]) (.tuple [.str "missed", .tuple (di ns), .tuple (di ms)]) = true := by
  simp [PyData.eqv, PyData.eqvAll, eqvAll_ints]
theorem shaped_paper (ns ms : List Int) : SeqAt.shaped (.tuple [.str "missed", .tuple (di ns), .tuple (di ms)]) = true := by
  have h1 := dep_ints ns
  have h2 := dep_ints ms
  refine shaped_of ?_ ?_
  · simp only [PyData.canLay0, PyData.canLayAll0, lay_ints]
    decide +kernel
  · simp only [PyData.depth, PyData.depthAll]
    omega
end KM
set_option Elab.async false
set_option linter.all false
set_option maxRecDepth 100000
set_option maxHeartbeats 4000000
/-! the law's def -/
namespace KM
open PySem PySem.Spec PyProof.Rows L2
def Rlaw : List PyData → PyData → Prop := fun ds d => ∃ ns : List Int, ds = [.list (di ns)] ∧ d = .bool true
section
variable {P : Program} {w : World} {K : PySem.W.Frag} {mg : Str → Option Value} {base : Heap} {T : Tbl} {f : Addr} {fd : FuncData}
theorem ok_law (G : Glob mg) (F : FnP K "law" s_law f fd) (WR : Df P w K mg base T "_law_rounds" 1 ["_law_script"] Rrounds) (WP : DfF P w K mg base T "_law_pool" 1 ["_law_script", "_law_k"] PrePool ClPool) (WC : DfX P w K mg base T "_law_case" 4 ["_law_source", "_law_most"] PreCase PostCase) (WL : Df P w K mg base T "_law_all_lots" 1 ["_law_many"] RallLots)
    (WM : Df P w K mg base T "missed_paper" 8 ["votes", "need", "unruly", "lot"] Rmissed) (WE : Df P w K mg base T "_law_is_enough" 2 ["_law_votes_here", "_law_need_here", "_law_unruly_here", "_law_lot"] RlawEnough) (WO : Df P w K mg base T "_law_other" 2 ["_law_votes_here", "_law_lot", "_law_unruly_here"] RlawOther)
    (WK : Df P w K mg base T "_law_lacks_it" 14 ["_law_many", "_law_lot", "_law_other_here"] Rlacksit) (WD : DfX P w K mg base T "_law_odd_papers" 8 ["_law_source", "_law_votes_here", "_law_need_here", "_law_unruly_here", "_law_shown"] PreOdd (fun _ d => d = .bool true)) (WS : Df P w K mg base T "_law_sum" 1 ["_law_votes_here", "_law_lot"] RlawSum)
    (WA : Df P w K mg base T "accepts_missed" 7 ["votes", "need", "unruly", "paper"] Raccepts) : FnOk P w K mg base CX0 15 f fd ["_law_script"] (spD K T Rlaw) := by
  refine F.ok sc_law (fun vs H Q E h => ?_) (fun cdv A outer s H vs Q E hr h => ?_)
  · obtain ⟨_, ds, d, hv, ⟨_, e, _⟩, _⟩ := h
    rw [dpAll_len hv, e]
    rfl
  obtain ⟨ht, ds, d, hv, h, q⟩ := h
  suffices z : DB (bodyX P w K mg base n_law "law" (defScope s_law) f cdv A outer s H E) T H (startD n_law ds) (defBody s_law) (fun x => x = d) from ⟨_, PSs.nox z, start_env ht hv, Gr.refl H, fun d' v H2 e g h2 => by subst e; exact q v H2 g h2⟩
  obtain ⟨script, rfl, rfl⟩ := h
  refine b_cons (for_L (j := 1) (ds := di (upTo (roundsN script.length))) (ρ1 := [.dt (.list (di script)), .un, .un, .un, .un, .un, .un, .un, .un, .un, .un, .un]) PassesOwn.never rfl (d_call WR hr (by decide) (a_cons (dn 0) a_nil) ⟨script, rfl, rfl⟩) (pg_name (i := 1) sc_law.nd rfl (Or.inl rfl)) (LeR.refl _) fun HB d hd => ?_) (b_retD d_bl)
  obtain ⟨k0, hk0, rfl⟩ := mem_di hd
  obtain ⟨k, hk, rfl⟩ := List.mem_map.mp hk0
  have hk1 := List.mem_range.mp hk
  have hk2 : k ≤ 1000 := by
    unfold roundsN at hk1
    omega
  refine n_srcX 2 (ps_set (i := 2) sc_law.nd rfl (Or.inl rfl) (fx_call WP hr (by decide) (a_cons (dn 0) (a_cons (dn 1) a_nil)) ⟨script, k, rfl, hk2⟩)) (fun _ _ _ q => q) (fun ds c => c) fun a na => ?_
  refine n_unp4 (i := 3) (j := 4) (l := 5) (m := 6) (B := fun d1 d2 d3 d4 => ∃ (vs : List Int) (need : Int) (u : Nat), d1 = .int vs.length ∧ d2 = .tuple (di vs) ∧ d3 = .int need ∧ d4 = .int u ∧ VOk vs ∧ vs.length ≤ 4 ∧ NeedOk vs need ∧ u ≤ vs.length) rfl sc_law.nd (dx_callX (C := PostCase [.int 4]) WC hr (by decide) (dob 2) (ax_of (a_cons d_int a_nil)) (fun ds e => ⟨e, fun d h => h⟩)) (fun d ⟨vs, need, u, e, V, l4, N, U⟩ => ⟨_, _, _, _, e, vs, need, u, rfl, rfl, rfl, rfl, V, l4, N, U⟩) (fun d1 d2 d3 d4 hB => ?_) rfl rfl rfl rfl (Or.inl rfl) (Or.inl rfl) (Or.inl rfl) (Or.inl rfl) (.inl rfl) (.inl rfl) (.inl rfl) (.inl rfl)
  obtain ⟨vs, need, u, rfl, rfl, rfl, rfl, V, l4, N, U⟩ := hB
  have lot : ∀ l ∈ lotsL vs.length, LotOk vs l ∧ l.length ≤ 4 := fun l hl => ⟨⟨lots_ok _ l hl, by have := lotsL_small _ l hl; omega⟩, by have := lotsL_small _ l hl; omega⟩
  refine n_cons (for_L (j := 7) (ds := lotsD vs.length) (ρ1 := [.dt (.list (di script)), .dt (.int k), .ob a (srcO a), .dt (.int vs.length), .dt (.tuple (di vs)), .dt (.int need), .dt (.int u), .un, .un, .un, .un, .un]) PassesOwn.never rfl (d_call WL hr (by decide) (a_cons (dn 3) a_nil) ⟨vs.length, l4, rfl, rfl⟩) (pg_name (i := 7) sc_law.nd rfl (Or.inl rfl)) (LeR.refl _) fun HB d hd => ?_) (n_le ⟨.inr rfl, .inl rfl, .inl rfl, .inl rfl, .inl rfl, .inl rfl, .inl rfl, .inr rfl, .inr rfl, .inr rfl, .inr rfl, .inr rfl, trivial⟩)
  obtain ⟨l, hl, rfl⟩ := List.mem_map.mp hd
  obtain ⟨Lo, ll⟩ := lot l hl
  have hasc := (lotB_iff.mp Lo.1).2
  have hoth := other_ok (u := u) Lo.1
  have Lo2 : LotOk vs (otherOf vs u l) := ⟨hoth.1, by omega⟩
  obtain ⟨sh, hsh⟩ : ∃ sh : PyData, sh = if canRead vs need u l then .none else paperOf vs u l := ⟨_, rfl⟩
  have hN : isN sh = canRead vs need u l := by
    rw [hsh]
    cases canRead vs need u l <;> rfl
  refine n_cons (n1_asg 8 (r := .dt sh) sc_law.nd (d_call WM hr (by decide) (a_cons (dn 4) (a_cons (dn 5) (a_cons (dn 6) (a_cons (dn 7) a_nil)))) ⟨vs, need, l, u, V, N, Lo, U, rfl, hsh⟩)) ?_
  refine n_cons (n1_ifF (t_to (t_cmp o_neB (d_cmp o_isN (dn 8) d_non (.mk _) (nomark _)) (d_call WE hr (by decide) (a_cons (dn 4) (a_cons (dn 5) (a_cons (dn 6) (a_cons (dn 7) a_nil)))) ⟨vs, need, l, u, Lo.inV, by omega, rfl, rfl⟩) (.mk _ _) (nomark _)) ?_)) ?_
  · rw [lawSure_eq, hN]
    show (!decide (xor false (canRead vs need u l) = canRead vs need u l)) = false
    simp
  refine n_cons (n1_if (ρ1 := [.dt (.list (di script)), .dt (.int k), .ob a (srcO a), .dt (.int vs.length), .dt (.tuple (di vs)), .dt (.int need), .dt (.int u), .dt (.tuple (di l)), .dt sh, .un, .un, .un]) (t_cmp o_notN (dn 8) d_non (.mk _) (nomark _)) (fun z => ?_) (fun _ => LeR.refl _)) ?_
  · have hc : canRead vs need u l = false := by
      rw [hN] at z
      cases h : canRead vs need u l with
      | false => rfl
      | true => rw [h] at z; cases z
    have hs2 : sh = paperOf vs u l := by rw [hsh, hc]; rfl
    subst hs2
    refine n_cons (n1_ifF (t_to (t_cmp (o_ne hr.units) (dn 8) (d_tup (a_cons d_str (a_cons (dn 7) (a_cons (d_call WO hr (by decide) (a_cons (dn 4) (a_cons (dn 7) (a_cons (dn 6) a_nil))) ⟨vs, l, u, Lo.inV, by omega, rfl, rfl⟩) a_nil))) (by show 3 ≤ 1000; omega)) ⟨⟨shaped_paper _ _, shaped_paper _ _⟩, rfl⟩ (nomark _)) ?_)) ?_
    · rw [lawOther_eq hasc, eqv_paper]
      rfl
    refine n_cons (n1_ifF (t_notF (t_val (d_call WK hr (by decide) (a_cons (dn 3) (a_cons (dn 7) (a_cons (d_ix (dn 8) d_int (.tup _ _ _ rfl)) a_nil))) ⟨vs.length, l, otherOf vs u l, by have := V.lo; omega, by omega, Lo.1, Lo2.1, by omega, by omega, rfl, rfl⟩)))) ?_
    exact n_cons (n1_ifF (t_notF (t_valX (dx_callX WD hr (by decide) (dob 2) (ax_of (a_cons (dn 4) (a_cons (dn 5) (a_cons (dn 6) (a_cons (dn 8) a_nil))))) (fun ds e => ⟨⟨vs, need, l, otherOf vs u l, u, V, N, U, Lo, Lo2, e⟩, fun d h => h⟩))))) n_nil
  refine n_cons (for_L (j := 9) (ds := lotsD vs.length) (ρ1 := [.dt (.list (di script)), .dt (.int k), .ob a (srcO a), .dt (.int vs.length), .dt (.tuple (di vs)), .dt (.int need), .dt (.int u), .dt (.tuple (di l)), .dt sh, .un, .un, .un]) PassesOwn.never rfl (d_call WL hr (by decide) (a_cons (dn 3) a_nil) ⟨vs.length, l4, rfl, rfl⟩) (pg_name (i := 9) sc_law.nd rfl (Or.inr rfl)) (LeR.refl _) fun HB d hd => ?_) (n_le ⟨.inr rfl, .inr rfl, .inr rfl, .inr rfl, .inr rfl, .inr rfl, .inr rfl, .inl rfl, .inl rfl, .inr rfl, .inr rfl, .inr rfl, trivial⟩)
  obtain ⟨o, ho, rfl⟩ := List.mem_map.mp hd
  obtain ⟨Oo, oo⟩ := lot o ho
  refine n_cons (n1_asg 10 (r := .dt (.bool (decide (need ≤ votesIn vs o)))) sc_law.nd (d_cmp o_ge (d_call WS hr (by decide) (a_cons (dn 4) (a_cons (dn 9) a_nil)) ⟨vs, o, Oo.inV, rfl, rfl⟩) (dn 5) (.mk _ _) (nomark _))) ?_
  refine n_cons (n1_asg 10 (r := .dt (.bool (decide (need ≤ votesIn vs o) && decide ((((di (l.filter fun i => decide (i ∈ o))).length : Nat) : Int) ≤ (u : Int))))) sc_law.nd (d_and (dn 10) fun _ => d_one (d_cmp o_le (d_callB c_len G.f_len (by decide +kernel) (a_cons (de_l (de_to (lcT (x := "_law_copy") (j := 11) (ds := di l) (p := inD o) (f := id) rfl sc_law.nd (dn 7) (blkOk_by (N := n_law) (sc := defScope s_law) (by decide +kernel))
    (fun _ _ _ _ _ => pg_name (i := 11) sc_law.nd rfl (Or.inl rfl)) (ht_one fun s H C cl fp d hd => ?_) (he_of fun s H C cl fp d hd _ => dn 11) (fun d hd _ => ?_) ?_) (filter_in o l))) a_nil) (.lst _)) (dn 6) (.mk _ _) (nomark _)))) ?_
  · obtain ⟨i, hi, rfl⟩ := mem_di hd
    exact t_cmp o_in (dn 11) (dn 9) (.tup _ _) rfl
  · obtain ⟨i, hi, rfl⟩ := mem_di hd
    rfl
  · rw [List.length_map]
    omega
  refine n_cons (n1_ifF (t_to (t_cmp o_neB (d_call WA hr (by decide) (a_cons (dn 4) (a_cons (dn 5) (a_cons (dn 6) (a_cons (d_tup (a_cons d_str (a_cons (dn 7) (a_cons (dn 9) a_nil))) (by show 3 ≤ 1000; omega)) a_nil)))) ⟨vs, need, _, _, u, V, N, U, .good l o Lo Oo, rfl, rfl⟩) (dn 10) (.mk _ _) (nomark _)) ?_)) (n_le ⟨.inr rfl, .inr rfl, .inr rfl, .inr rfl, .inr rfl, .inr rfl, .inr rfl, .inr rfl, .inr rfl, .inl rfl, .inl rfl, .inl rfl, trivial⟩)
  rw [List.length_map]
  have e : decide ((((l.filter fun i => decide (i ∈ o)).length : Nat) : Int) ≤ (u : Int)) = decide ((l.filter fun i => decide (i ∈ o)).length ≤ u) := by
    congr 1
    exact propext Int.ofNat_le
  rw [e]
  simp
end
end KM
set_option Elab.async false
set_option linter.all false
set_option maxRecDepth 100000
set_option maxHeartbeats 0
/-! the head: facts by names, the run -/
namespace KM
open PySem PySem.Spec PyProof.Rows L2
def d_is_whole : He.DefD := ⟨("is_whole", none), "is_whole", "is_whole", defArgs s_is_whole, defBody s_is_whole, defScope s_is_whole, [], []⟩
def d_is_number : He.DefD := ⟨("is_number", none), "is_number", "is_number", defArgs s_is_number, defBody s_is_number, defScope s_is_number, [], []⟩
def d_is_line : He.DefD := ⟨("is_line", none), "is_line", "is_line", defArgs s_is_line, defBody s_is_line, defScope s_is_line, [], []⟩
def d_is_moment : He.DefD := ⟨("is_moment", none), "is_moment", "is_moment", defArgs s_is_moment, defBody s_is_moment, defScope s_is_moment, [], []⟩
def d_is_cell : He.DefD := ⟨("is_cell", none), "is_cell", "is_cell", defArgs s_is_cell, defBody s_is_cell, defScope s_is_cell, [], []⟩
def d_is_ascending : He.DefD := ⟨("is_ascending", none), "is_ascending", "is_ascending", defArgs s_is_ascending, defBody s_is_ascending, defScope s_is_ascending, [], []⟩
def d_is_lot : He.DefD := ⟨("is_lot", none), "is_lot", "is_lot", defArgs s_is_lot, defBody s_is_lot, defScope s_is_lot, [], []⟩
def d_is_votes : He.DefD := ⟨("is_votes", none), "is_votes", "is_votes", defArgs s_is_votes, defBody s_is_votes, defScope s_is_votes, [], []⟩
def d_look_at_votes : He.DefD := ⟨("look_at_votes", none), "look_at_votes", "look_at_votes", defArgs s_look_at_votes, defBody s_look_at_votes, defScope s_look_at_votes, [], []⟩
def d_look_at_need : He.DefD := ⟨("look_at_need", none), "look_at_need", "look_at_need", defArgs s_look_at_need, defBody s_look_at_need, defScope s_look_at_need, [], []⟩
def d_look_at_unruly : He.DefD := ⟨("look_at_unruly", none), "look_at_unruly", "look_at_unruly", defArgs s_look_at_unruly, defBody s_look_at_unruly, defScope s_look_at_unruly, [], []⟩
def d_look_at_lot_of : He.DefD := ⟨("look_at_lot_of", none), "look_at_lot_of", "look_at_lot_of", defArgs s_look_at_lot_of, defBody s_look_at_lot_of, defScope s_look_at_lot_of, [], []⟩
def d_votes_in : He.DefD := ⟨("votes_in", none), "votes_in", "votes_in", defArgs s_votes_in, defBody s_votes_in, defScope s_votes_in, [], []⟩
def d_by_votes : He.DefD := ⟨("by_votes", none), "by_votes", "by_votes", defArgs s_by_votes, defBody s_by_votes, defScope s_by_votes, [], []⟩
def d_can_write : He.DefD := ⟨("can_write", none), "can_write", "can_write", defArgs s_can_write, defBody s_can_write, defScope s_can_write, [], []⟩
def d_can_read : He.DefD := ⟨("can_read", none), "can_read", "can_read", defArgs s_can_read, defBody s_can_read, defScope s_can_read, [], []⟩
def d_is_enough : He.DefD := ⟨("is_enough", none), "is_enough", "is_enough", defArgs s_is_enough, defBody s_is_enough, defScope s_is_enough, [], []⟩
def d_missed_paper : He.DefD := ⟨("missed_paper", none), "missed_paper", "missed_paper", defArgs s_missed_paper, defBody s_missed_paper, defScope s_missed_paper, [], []⟩
def d_accepts_missed : He.DefD := ⟨("accepts_missed", none), "accepts_missed", "accepts_missed", defArgs s_accepts_missed, defBody s_accepts_missed, defScope s_accepts_missed, [], []⟩
def d_is_name : He.DefD := ⟨("is_name", none), "is_name", "is_name", defArgs s_is_name, defBody s_is_name, defScope s_is_name, [], []⟩
def d_has_word : He.DefD := ⟨("has_word", none), "has_word", "has_word", defArgs s_has_word, defBody s_has_word, defScope s_has_word, [], []⟩
def d_is_row_deed : He.DefD := ⟨("is_row_deed", none), "is_row_deed", "is_row_deed", defArgs s_is_row_deed, defBody s_is_row_deed, defScope s_is_row_deed, [], []⟩
def d_is_column_deed : He.DefD := ⟨("is_column_deed", none), "is_column_deed", "is_column_deed", defArgs s_is_column_deed, defBody s_is_column_deed, defScope s_is_column_deed, [], []⟩
def d_is_deed : He.DefD := ⟨("is_deed", none), "is_deed", "is_deed", defArgs s_is_deed, defBody s_is_deed, defScope s_is_deed, [], []⟩
def d_check_deed : He.DefD := ⟨("check_deed", none), "check_deed", "check_deed", defArgs s_check_deed, defBody s_check_deed, defScope s_check_deed, [], []⟩
def d_in_name_order : He.DefD := ⟨("in_name_order", none), "in_name_order", "in_name_order", defArgs s_in_name_order, defBody s_in_name_order, defScope s_in_name_order, [], []⟩
def d_in_order : He.DefD := ⟨("in_order", none), "in_order", "in_order", defArgs s_in_order, defBody s_in_order, defScope s_in_order, [], []⟩
def d_checked_deeds : He.DefD := ⟨("checked_deeds", none), "checked_deeds", "checked_deeds", defArgs s_checked_deeds, defBody s_checked_deeds, defScope s_checked_deeds, [], []⟩
def d_Past___init__ : He.DefD := ⟨("Past", some "__init__"), "__init__", "Past.__init__", defArgs s_Past___init__, defBody s_Past___init__, defScope s_Past___init__, [.adr (He.dflAt ("Past", some "__init__") 0)], []⟩
def d_Past_deeds : He.DefD := ⟨("Past", some "deeds"), "deeds", "Past.deeds", defArgs s_Past_deeds, defBody s_Past_deeds, defScope s_Past_deeds, [], []⟩
def d_Past_with_deed : He.DefD := ⟨("Past", some "with_deed"), "with_deed", "Past.with_deed", defArgs s_Past_with_deed, defBody s_Past_with_deed, defScope s_Past_with_deed, [], []⟩
def d_check_past : He.DefD := ⟨("check_past", none), "check_past", "check_past", defArgs s_check_past, defBody s_check_past, defScope s_check_past, [], []⟩
def d_has_moment : He.DefD := ⟨("has_moment", none), "has_moment", "has_moment", defArgs s_has_moment, defBody s_has_moment, defScope s_has_moment, [], []⟩
def d_is_change_of : He.DefD := ⟨("is_change_of", none), "is_change_of", "is_change_of", defArgs s_is_change_of, defBody s_is_change_of, defScope s_is_change_of, [], []⟩
def d_is_change : He.DefD := ⟨("is_change", none), "is_change", "is_change", defArgs s_is_change, defBody s_is_change, defScope s_is_change, [], []⟩
def d_check_change : He.DefD := ⟨("check_change", none), "check_change", "check_change", defArgs s_check_change, defBody s_check_change, defScope s_check_change, [], []⟩
def d_changed : He.DefD := ⟨("changed", none), "changed", "changed", defArgs s_changed, defBody s_changed, defScope s_changed, [], []⟩
def d_opposite : He.DefD := ⟨("opposite", none), "opposite", "opposite", defArgs s_opposite, defBody s_opposite, defScope s_opposite, [], []⟩
def d_kept_change : He.DefD := ⟨("kept_change", none), "kept_change", "kept_change", defArgs s_kept_change, defBody s_kept_change, defScope s_kept_change, [], []⟩
def d_last_by_moments : He.DefD := ⟨("last_by_moments", none), "last_by_moments", "last_by_moments", defArgs s_last_by_moments, defBody s_last_by_moments, defScope s_last_by_moments, [], []⟩
def d_deeds_of : He.DefD := ⟨("deeds_of", none), "deeds_of", "deeds_of", defArgs s_deeds_of, defBody s_deeds_of, defScope s_deeds_of, [], []⟩
def d_Copies___init__ : He.DefD := ⟨("Copies", some "__init__"), "__init__", "Copies.__init__", defArgs s_Copies___init__, defBody s_Copies___init__, defScope s_Copies___init__, [.non], []⟩
def d_Copies_look_at_lot : He.DefD := ⟨("Copies", some "look_at_lot"), "look_at_lot", "Copies.look_at_lot", defArgs s_Copies_look_at_lot, defBody s_Copies_look_at_lot, defScope s_Copies_look_at_lot, [], []⟩
def d_Copies_look_at_room : He.DefD := ⟨("Copies", some "look_at_room"), "look_at_room", "Copies.look_at_room", defArgs s_Copies_look_at_room, defBody s_Copies_look_at_room, defScope s_Copies_look_at_room, [], []⟩
def d_Copies_put : He.DefD := ⟨("Copies", some "put"), "put", "Copies.put", defArgs s_Copies_put, defBody s_Copies_put, defScope s_Copies_put, [], []⟩
def d_Copies_edit : He.DefD := ⟨("Copies", some "edit"), "edit", "Copies.edit", defArgs s_Copies_edit, defBody s_Copies_edit, defScope s_Copies_edit, [], []⟩
def d_Copies_first_records : He.DefD := ⟨("Copies", some "first_records"), "first_records", "Copies.first_records", defArgs s_Copies_first_records, defBody s_Copies_first_records, defScope s_Copies_first_records, [], []⟩
def d_Copies_records_on : He.DefD := ⟨("Copies", some "records_on"), "records_on", "Copies.records_on", defArgs s_Copies_records_on, defBody s_Copies_records_on, defScope s_Copies_records_on, [], []⟩
def d_Copies_seen : He.DefD := ⟨("Copies", some "seen"), "seen", "Copies.seen", defArgs s_Copies_seen, defBody s_Copies_seen, defScope s_Copies_seen, [], []⟩
def d_Copies_lacks : He.DefD := ⟨("Copies", some "lacks"), "lacks", "Copies.lacks", defArgs s_Copies_lacks, defBody s_Copies_lacks, defScope s_Copies_lacks, [], []⟩
def d__law_pool : He.DefD := ⟨("_law_pool", none), "_law_pool", "_law_pool", defArgs s__law_pool, defBody s__law_pool, defScope s__law_pool, [], []⟩
def d__law_take : He.DefD := ⟨("_law_take", none), "_law_take", "_law_take", defArgs s__law_take, defBody s__law_take, defScope s__law_take, [], []⟩
def d__law_one : He.DefD := ⟨("_law_one", none), "_law_one", "_law_one", defArgs s__law_one, defBody s__law_one, defScope s__law_one, [], []⟩
def d__law_rounds : He.DefD := ⟨("_law_rounds", none), "_law_rounds", "_law_rounds", defArgs s__law_rounds, defBody s__law_rounds, defScope s__law_rounds, [], []⟩
def d__law_all_lots : He.DefD := ⟨("_law_all_lots", none), "_law_all_lots", "_law_all_lots", defArgs s__law_all_lots, defBody s__law_all_lots, defScope s__law_all_lots, [], []⟩
def d__law_votes : He.DefD := ⟨("_law_votes", none), "_law_votes", "_law_votes", defArgs s__law_votes, defBody s__law_votes, defScope s__law_votes, [], []⟩
def d__law_sum : He.DefD := ⟨("_law_sum", none), "_law_sum", "_law_sum", defArgs s__law_sum, defBody s__law_sum, defScope s__law_sum, [], []⟩
def d__law_sure : He.DefD := ⟨("_law_sure", none), "_law_sure", "_law_sure", defArgs s__law_sure, defBody s__law_sure, defScope s__law_sure, [], []⟩
def d__law_is_enough : He.DefD := ⟨("_law_is_enough", none), "_law_is_enough", "_law_is_enough", defArgs s__law_is_enough, defBody s__law_is_enough, defScope s__law_is_enough, [], []⟩
def d__law_case : He.DefD := ⟨("_law_case", none), "_law_case", "_law_case", defArgs s__law_case, defBody s__law_case, defScope s__law_case, [], []⟩
def d__law_by_votes : He.DefD := ⟨("_law_by_votes", none), "_law_by_votes", "_law_by_votes", defArgs s__law_by_votes, defBody s__law_by_votes, defScope s__law_by_votes, [], []⟩
def d__law_other : He.DefD := ⟨("_law_other", none), "_law_other", "_law_other", defArgs s__law_other, defBody s__law_other, defScope s__law_other, [], []⟩
def d__law_lacks_it : He.DefD := ⟨("_law_lacks_it", none), "_law_lacks_it", "_law_lacks_it", defArgs s__law_lacks_it, defBody s__law_lacks_it, defScope s__law_lacks_it, [], []⟩
def d__law_odd_papers : He.DefD := ⟨("_law_odd_papers", none), "_law_odd_papers", "_law_odd_papers", defArgs s__law_odd_papers, defBody s__law_odd_papers, defScope s__law_odd_papers, [], []⟩
def d_law : He.DefD := ⟨("law", none), "law", "law", defArgs s_law, defBody s_law, defScope s_law, [], []⟩
def fn0 : List He.DefD := [d_is_whole, d_is_number, d_is_line, d_is_moment, d_is_cell, d_is_ascending, d_is_lot, d_is_votes, d_look_at_votes, d_look_at_need, d_look_at_unruly, d_look_at_lot_of, d_votes_in, d_by_votes, d_can_write, d_can_read, d_is_enough, d_missed_paper, d_accepts_missed, d_is_name, d_has_word, d_is_row_deed, d_is_column_deed, d_is_deed, d_check_deed]
def fn1 : List He.DefD := [d_in_name_order, d_in_order, d_checked_deeds, d_Past___init__, d_Past_deeds, d_Past_with_deed, d_check_past, d_has_moment, d_is_change_of, d_is_change, d_check_change, d_changed, d_opposite, d_kept_change, d_last_by_moments, d_deeds_of, d_Copies___init__, d_Copies_look_at_lot, d_Copies_look_at_room, d_Copies_put, d_Copies_edit, d_Copies_first_records, d_Copies_records_on, d_Copies_seen, d_Copies_lacks]
def fn2 : List He.DefD := [d__law_pool, d__law_take, d__law_one, d__law_rounds, d__law_all_lots, d__law_votes, d__law_sum, d__law_sure, d__law_is_enough, d__law_case, d__law_by_votes, d__law_other, d__law_lacks_it, d__law_odd_papers, d_law]
def fn : List He.DefD := fn0 ++ fn1 ++ fn2
def fa0 : List He.Fa := [.glo "is_whole", .glo "is_number", .glo "is_line", .glo "is_moment", .glo "is_cell", .glo "is_ascending", .glo "is_lot", .glo "is_votes", .glo "look_at_votes", .glo "look_at_need", .glo "look_at_unruly", .glo "look_at_lot_of", .glo "votes_in", .glo "by_votes", .glo "can_write", .glo "can_read", .glo "is_enough", .glo "missed_paper", .glo "accepts_missed", .glo "is_name", .glo "has_word", .glo "is_row_deed", .glo "is_column_deed", .glo "is_deed", .glo "check_deed"]
def fa1 : List He.Fa := [.glo "in_name_order", .glo "in_order", .glo "checked_deeds", .glo "check_past", .glo "has_moment", .glo "is_change_of", .glo "is_change", .glo "check_change", .glo "changed", .glo "opposite", .glo "kept_change", .glo "last_by_moments", .glo "deeds_of", .glo "_law_pool", .glo "_law_take", .glo "_law_one", .glo "_law_rounds", .glo "_law_all_lots", .glo "_law_votes", .glo "_law_sum", .glo "_law_sure", .glo "_law_is_enough", .glo "_law_case", .glo "_law_by_votes", .glo "_law_other"]
def fa2 : List He.Fa := [.glo "_law_lacks_it", .glo "_law_odd_papers", .glo "law", .glo "Past", .glo "Copies", .cls "Past", .cls "Copies", .mkr "Past", .mkr "Copies", .noat "Past" "by_moment", .noat "Copies" "own_count", .noat "Copies" "own_first", .noat "Copies" "current", .noat "Copies" "own_edits", .noat "Copies" "answers_back", .noat "Copies" "own_words", .noat "Copies" "own_line", .meth "Past" "deeds", .meth "Past" "with_deed", .meth "Copies" "look_at_lot", .meth "Copies" "look_at_room", .meth "Copies" "put", .meth "Copies" "edit", .meth "Copies" "first_records", .meth "Copies" "records_on"]
def fa3 : List He.Fa := [.meth "Copies" "seen", .meth "Copies" "lacks", .int "LAST_MOMENT" 999, .int "MOST_VALUE" 99, .int "MOST_COPIES" 5, .int "MOST_DEEDS" 60, .int "MOST_EDITS" 60, .int "MOST_VOTES" 9, .str "LETTERS" "abcdefghijklmnopqrstuvwxyz", .free "isinstance", .free "int", .free "bool", .free "str", .free "list", .free "tuple", .free "all", .free "any", .free "sum", .free "len", .free "zip", .free "range", .free "sorted", .free "enumerate", .free "max", .free "min"]
def fa : List He.Fa := fa0 ++ fa1 ++ fa2 ++ fa3
def tf : List He.Defn := [("by_votes", none), ("last_by_moments", none)]
def names0 : List Str := ["_wall", "StoreError", "NoDeed", "NoPast", "NoMoment", "NoChange", "NoCount", "NoLot", "NoVotes", "NoNeed", "TooMany", "LAST_MOMENT", "MOST_KEY", "MOST_VALUE", "MOST_COPIES", "MOST_DEEDS", "MOST_EDITS", "LETTERS", "is_whole", "is_number", "is_line", "is_moment", "is_key", "is_cell", "are_unlike"]
def names1 : List Str := ["is_ascending", "is_lot", "MOST_VOTES", "is_votes", "look_at_votes", "look_at_need", "look_at_unruly", "look_at_lot_of", "votes_in", "by_votes", "can_write", "can_read", "is_enough", "missed_paper", "accepts_missed", "MOST_PAIRS", "is_name", "is_pair", "are_pairs", "has_word", "is_row_deed", "is_column_deed", "is_deed", "check_deed", "by_names"]
def names2 : List Str := ["in_name_order", "in_order", "checked_deeds", "Past", "check_past", "has_moment", "is_change_of", "moment_of", "is_change", "check_change", "changed", "opposite", "kept_change", "last_by_moments", "deeds_of", "Copies", "_law_pool", "_law_take", "_law_one", "_law_rounds", "_law_all_lots", "_law_votes", "_law_sum", "_law_sure", "_law_is_enough"]
def names3 : List Str := ["_law_case", "_law_by_votes", "_law_other", "_law_lacks_it", "_law_odd_papers"]
def names : List Str := names0 ++ names1 ++ names2 ++ names3
def gfn0 : List Str := ["is_whole", "is_number", "is_line", "is_moment", "is_cell", "is_ascending", "is_lot", "is_votes", "look_at_votes", "look_at_need", "look_at_unruly", "look_at_lot_of", "votes_in", "by_votes", "can_write", "can_read", "is_enough", "missed_paper", "accepts_missed", "is_name", "has_word", "is_row_deed", "is_column_deed", "is_deed", "check_deed"]
def gfn1 : List Str := ["in_name_order", "in_order", "checked_deeds", "check_past", "has_moment", "is_change_of", "is_change", "check_change", "changed", "opposite", "kept_change", "last_by_moments", "deeds_of", "_law_pool", "_law_take", "_law_one", "_law_rounds", "_law_all_lots", "_law_votes", "_law_sum", "_law_sure", "_law_is_enough", "_law_case", "_law_by_votes", "_law_other"]
def gfn2 : List Str := ["_law_lacks_it", "_law_odd_papers", "law"]
def gfn : List Str := gfn0 ++ gfn1 ++ gfn2
/-! ### where the top's defs, classes, methods lie: looked up by name, one step each -/
def glA (g : Addr → Option Obj) (x : Str) : Addr := He.ga (He.frG g [mainGlobals]) x
def stepA (g : Addr → Option Obj) (a : Addr) : List Addr := match g a with
  | some o => He.refsD o
  | none => []
def whereA (g : Addr → Option Obj) : List Addr :=
  let fs := gfn.map (glA g)
  let cl := [glA g "Past", glA g "Copies"]
  let ns := cl.flatMap (stepA g)
  let ms := ns.flatMap (stepA g)
  let l := mainGlobals :: (cl ++ (ns ++ (fs ++ (fs.flatMap (stepA g) ++ (ms ++ ms.flatMap (stepA g))))))
  He.dflAt ("Past", some "__init__") 0 (He.frG g l) :: l
/-- what else is told -/
def tupD (K : PySem.W.Frag) : Bool := match K.lookup (He.dflAt ("Past", some "__init__") 0 K) with
  | some ⟨.type c, _, .seq its _, _⟩ => decide (c = "tuple") && its.isEmpty
  | _ => false
def exB (K : PySem.W.Frag) : Bool := (!decide ((He.cT K ("by_votes", none)).2 = (He.cT K ("last_by_moments", none)).2)) && (He.eqO (PySem.W.findIn K (.ref (He.ga K "Past")) "__class__") (some (some (.builtin "object.__class__"))) &&
  (He.eqO (PySem.W.specialIn K (.builtin "object.__class__") "__get__") (some (some (.builtin "getset_descriptor.__get__"))) && (decide (PySem.W.takesIn K (.builtin "object.__class__") = some true) &&
  (decide (PySem.W.mroIn K (He.ga K "Past") (.type "object") = some true) && (decide (PySem.W.kitOne K (.ref (He.ga K "Past")) (.ref (He.ga K "Past")) = some true) && tupD K)))))
def obsW (g : Addr → Option Obj) : He.AlX := (He.obsT fa fn [] (He.frT g (whereA g)), He.tabsB g tf (He.frT g (whereA g)) && exB (He.frT g (whereA g)))
theorem says_of {w : World} {h : Heap} (e : obsW h.get? = He.valX fn [] w) : He.SaysX fa fn [] tf exB w h (He.frT h.get? (whereA h.get?)) := by
  obtain ⟨e1, e2⟩ := Prod.mk.inj (show (_, _) = (_, _) from e)
  obtain ⟨e2, e3⟩ := He.ba e2
  have go : ∀ q ∈ tf, _ := fun q hq => List.all_eq_true.mp e2 q hq
  refine ⟨e1, e3, fun q hq => (He.ba (go q hq)).1, fun q hq => ?_, fun q hq => ?_⟩
  · have z := (He.ba (go q hq)).2
    split at z
    · next o ho => exact He.frT_none ho z
    · cases z
  · have z := (He.ba (go q hq)).2
    split at z
    · next o ho => rw [ho, He.emptyTab_eq z]
    · cases z
abbrev R : PySem.W.OpenRow := PySem.W.OpenLaw.row PySem.Challenge.rw_plainstore_k16_whole_missed_papers
abbrev hk : PySem.W.Hook where
  α := He.AlX
  obs := fun s => obsW s.heap.get?
  val := fun w => He.valX fn [] w
  says := fun w h => ∃ K : PySem.W.Frag, K.In h ∧ He.SaysX fa fn [] tf exB w h K
  of := fun _ _ e => ⟨_, He.frT_in, says_of e⟩
  keeps := fun _ _ _ ⟨K, hK, c⟩ k => ⟨K, PySem.W.Frag.In.keeps hK k, ⟨c.t, c.more, c.hd, c.out, fun p hp => k _ _ (c.empty p hp)⟩⟩
def ob (s : PySem.W.SharedT) : He.AlX := obsW (HandSHeadRun.getT s)
theorem ob_eq (s : PySem.W.SharedT) : ob s = hk.obs s.abs := congrArg obsW (funext (HandSHeadRun.getT_eq s))
theorem run (w : World) : HandSHeadRun.RunEq R (PySem.W.view R.prog [88]) hk ob 20000 names w := by
  intro os
  kernel_rfl
end KM
set_option Elab.async false
set_option linter.all false
set_option maxRecDepth 100000
set_option maxHeartbeats 4000000
/-! the facts of the head -/
namespace KM
open PySem PySem.Spec PyProof.Rows L2
/-- the law's promise -/
abbrev tbl (K : PySem.W.Frag) : Tbl := [((He.cT K ("by_votes", none)).2, "by_votes.<locals>.<lambda>"), ((He.cT K ("last_by_moments", none)).2, "last_by_moments.<locals>.<lambda>")]
section
variable {P : Program} {w : World} {K : PySem.W.Frag} {h : Heap} {mg : Str → Option Value} {f : Addr}
theorem glob_of (X : K.In h) (G : h.Ns mainGlobals mg) (d : He.SaysD fa fn K) : Glob mg := by
  refine ⟨He.free_ok X G (d.fact 84 (f := .free "isinstance") rfl), He.free_ok X G (d.fact 85 (f := .free "int") rfl), He.free_ok X G (d.fact 86 (f := .free "bool") rfl), He.free_ok X G (d.fact 87 (f := .free "str") rfl), He.free_ok X G (d.fact 88 (f := .free "list") rfl), He.free_ok X G (d.fact 89 (f := .free "tuple") rfl), He.free_ok X G (d.fact 90 (f := .free "all") rfl), He.free_ok X G (d.fact 91 (f := .free "any") rfl), He.free_ok X G (d.fact 92 (f := .free "sum") rfl), He.free_ok X G (d.fact 93 (f := .free "len") rfl), He.free_ok X G (d.fact 94 (f := .free "zip") rfl), He.free_ok X G (d.fact 95 (f := .free "range") rfl), He.free_ok X G (d.fact 96 (f := .free "sorted") rfl), He.free_ok X G (d.fact 97 (f := .free "enumerate") rfl), He.free_ok X G (d.fact 98 (f := .free "max") rfl), He.free_ok X G (d.fact 99 (f := .free "min") rfl), He.int_ok X G (d.fact 77 (f := .int "LAST_MOMENT" 999) rfl), He.int_ok X G (d.fact 78 (f := .int "MOST_VALUE" 99) rfl), He.int_ok X G (d.fact 79 (f := .int "MOST_COPIES" 5) rfl), He.int_ok X G (d.fact 80 (f := .int "MOST_DEEDS" 60) rfl), He.int_ok X G (d.fact 81 (f := .int "MOST_EDITS" 60) rfl), He.int_ok X G (d.fact 82 (f := .int "MOST_VOTES" 9) rfl), He.str_ok X G (d.fact 83 (f := .str "LETTERS" "abcdefghijklmnopqrstuvwxyz") rfl)⟩
end
end KM
set_option Elab.async false
set_option linter.all false
set_option maxRecDepth 100000
set_option maxHeartbeats 4000000
/-! more of the head's facts -/
namespace KM
open PySem PySem.Spec PyProof.Rows L2
section
variable {P : Program} {w : World} {K : PySem.W.Frag} {h : Heap} {mg : Str → Option Value} {f : Addr} {fd : FuncData}
theorem code_of {x : Str} {st : Stmt} (F : FnP K x st (He.ga K x) fd) : fd.code = .ref (He.cT K (x, none)).1 := by
  obtain ⟨oc, od, dV, kV, doc, pm, an, cdv, ct, osl, rfl, lk, hcd, _, _⟩ := F.ex
  obtain ⟨c, e⟩ := He.codeIn_ref hcd
  subst e
  have z := He.codeOf_eq (p := (x, none)) lk rfl
  show Value.ref c = .ref (He.codeOf K (x, none))
  rw [z]
theorem insP (c : He.SaysX fa fn [] tf exB w h K) : C8.InsC K (He.ga K "Past") := by
  obtain ⟨_, e⟩ := He.ba c.more
  obtain ⟨e1, e⟩ := He.ba e
  obtain ⟨e2, e⟩ := He.ba e
  obtain ⟨e3, e⟩ := He.ba e
  obtain ⟨e4, e⟩ := He.ba e
  obtain ⟨e5, _⟩ := He.ba e
  exact ⟨He.cls_ok (c.t.d.fact 55 (f := .cls "Past") rfl), He.eqO_ok e1, He.eqO_ok e2, of_decide_eq_true e3, of_decide_eq_true e4, of_decide_eq_true e5⟩
theorem d0P (c : He.SaysX fa fn [] tf exB w h K) (H : Hp) : Dp K H (.ref (He.dflAt ("Past", some "__init__") 0 K)) (.tuple []) := by
  obtain ⟨_, e⟩ := He.ba c.more
  obtain ⟨_, e⟩ := He.ba e
  obtain ⟨_, e⟩ := He.ba e
  obtain ⟨_, e⟩ := He.ba e
  obtain ⟨_, e⟩ := He.ba e
  obtain ⟨_, e⟩ := He.ba e
  unfold tupD at e
  cases q : K.lookup (He.dflAt ("Past", some "__init__") 0 K) with
  | none =>
    rw [q] at e
    cases e
  | some o =>
    obtain ⟨oc, od, dt, osl⟩ := o
    rw [q] at e
    cases oc with
    | type t =>
      cases dt with
      | seq its n =>
        obtain ⟨h1, h2⟩ := He.ba (show (decide (t = "tuple") && its.isEmpty) = true from e)
        have e3 := Array.isEmpty_iff.mp h2
        subst e3
        refine .tup (.inr ?_) .nil
        exact ⟨_, #[], n, q, congrArg Value.type (of_decide_eq_true h1), rfl, Nat.zero_le _, .nil⟩
      | _ => cases e
    | _ => cases dt <;> cases e
end
end KM
set_option Elab.async false
set_option linter.all false
set_option maxRecDepth 100000
set_option maxHeartbeats 4000000
/-! how the makers bind -/
namespace KM
open PySem PySem.Spec PyProof.Rows L2
section
variable {K : PySem.W.Frag} {f : Addr} {fd : FuncData} {u : V}
theorem b0P (F : FunD K "__init__" "Past.__init__" (defArgs s_Past___init__) (defBody s_Past___init__) (defScope s_Past___init__) [u] [] f fd) : ∃ ds, Vals [u] ds ∧ Binds K fd ["self", "deeds"] ds :=
  F.binds1 1 0 (by simp) rfl fun T kV doc pm an cdv ct us its hu hi => match us, hu, its, hi with | [_], _, [_], _ => ⟨_, rfl, rfl⟩
theorem b1P (F : FunD K "__init__" "Past.__init__" (defArgs s_Past___init__) (defBody s_Past___init__) (defScope s_Past___init__) [u] [] f fd) : Binds K fd ["self", "deeds"] [] := by
  obtain ⟨ds, hv, hb⟩ := F.binds1 (ps := ["self", "deeds"]) 2 1 (by simp) rfl fun T kV doc pm an cdv ct us its hu hi => match us, hu, its, hi with | [_, _], _, [_], _ => ⟨_, rfl, rfl⟩
  cases hv
  exact hb
theorem b1C (F : FunD K "__init__" "Copies.__init__" (defArgs s_Copies___init__) (defBody s_Copies___init__) (defScope s_Copies___init__) [.non] [] f fd) : ∃ ds, Vals [.non] ds ∧ Binds K fd ["self", "count", "past"] ds :=
  F.binds1 2 0 (by simp) rfl fun T kV doc pm an cdv ct us its hu hi => match us, hu, its, hi with | [_, _], _, [_], _ => ⟨_, rfl, rfl⟩
end
end KM
set_option Elab.async false
set_option linter.all false
set_option maxRecDepth 100000
set_option maxHeartbeats 8000000
/-! the law keeps its promise -/
namespace KM
open PySem PySem.Spec PyProof.Rows L2
section
variable {P : Program} {w : World} {K : PySem.W.Frag} {h : Heap} {mg : Str → Option Value}
theorem facts (X : K.In h) (G : h.Ns mainGlobals mg) (c : He.SaysX fa fn [] tf exB w h K) : ∃ fd : FuncData, (∀ (s : Shared) (v : Value), BindsTo s fd ⟨[v], []⟩ [("_law_script", v)]) ∧ ∀ base : Heap, K.In base → base.Ns mainGlobals mg → (∀ p ∈ tf.map (He.cT K), LamX.TabB base mg p.1 p.2) → FnOk P w K mg base CX0 15 (He.ga K "law") fd ["_law_script"] (spD K (tbl K) Rlaw) := by
  have d := c.t.d
  have G0 := glob_of X G d
  obtain ⟨d_is_whole, F_is_whole⟩ : ∃ fd, FnP K "is_whole" s_is_whole (He.ga K "is_whole") fd := d.def_ 0 (d := d_is_whole) rfl
  obtain ⟨d_is_number, F_is_number⟩ : ∃ fd, FnP K "is_number" s_is_number (He.ga K "is_number") fd := d.def_ 1 (d := d_is_number) rfl
  obtain ⟨d_is_line, F_is_line⟩ : ∃ fd, FnP K "is_line" s_is_line (He.ga K "is_line") fd := d.def_ 2 (d := d_is_line) rfl
  obtain ⟨d_is_moment, F_is_moment⟩ : ∃ fd, FnP K "is_moment" s_is_moment (He.ga K "is_moment") fd := d.def_ 3 (d := d_is_moment) rfl
  obtain ⟨d_is_cell, F_is_cell⟩ : ∃ fd, FnP K "is_cell" s_is_cell (He.ga K "is_cell") fd := d.def_ 4 (d := d_is_cell) rfl
  obtain ⟨d_is_ascending, F_is_ascending⟩ : ∃ fd, FnP K "is_ascending" s_is_ascending (He.ga K "is_ascending") fd := d.def_ 5 (d := d_is_ascending) rfl
  obtain ⟨d_is_lot, F_is_lot⟩ : ∃ fd, FnP K "is_lot" s_is_lot (He.ga K "is_lot") fd := d.def_ 6 (d := d_is_lot) rfl
  obtain ⟨d_is_votes, F_is_votes⟩ : ∃ fd, FnP K "is_votes" s_is_votes (He.ga K "is_votes") fd := d.def_ 7 (d := d_is_votes) rfl
  obtain ⟨d_look_at_votes, F_look_at_votes⟩ : ∃ fd, FnP K "look_at_votes" s_look_at_votes (He.ga K "look_at_votes") fd := d.def_ 8 (d := d_look_at_votes) rfl
  obtain ⟨d_look_at_need, F_look_at_need⟩ : ∃ fd, FnP K "look_at_need" s_look_at_need (He.ga K "look_at_need") fd := d.def_ 9 (d := d_look_at_need) rfl
  obtain ⟨d_look_at_unruly, F_look_at_unruly⟩ : ∃ fd, FnP K "look_at_unruly" s_look_at_unruly (He.ga K "look_at_unruly") fd := d.def_ 10 (d := d_look_at_unruly) rfl
  obtain ⟨d_look_at_lot_of, F_look_at_lot_of⟩ : ∃ fd, FnP K "look_at_lot_of" s_look_at_lot_of (He.ga K "look_at_lot_of") fd := d.def_ 11 (d := d_look_at_lot_of) rfl
  obtain ⟨d_votes_in, F_votes_in⟩ : ∃ fd, FnP K "votes_in" s_votes_in (He.ga K "votes_in") fd := d.def_ 12 (d := d_votes_in) rfl
  obtain ⟨d_by_votes, F_by_votes⟩ : ∃ fd, FnP K "by_votes" s_by_votes (He.ga K "by_votes") fd := d.def_ 13 (d := d_by_votes) rfl
  obtain ⟨d_can_write, F_can_write⟩ : ∃ fd, FnP K "can_write" s_can_write (He.ga K "can_write") fd := d.def_ 14 (d := d_can_write) rfl
  obtain ⟨d_can_read, F_can_read⟩ : ∃ fd, FnP K "can_read" s_can_read (He.ga K "can_read") fd := d.def_ 15 (d := d_can_read) rfl
  obtain ⟨d_is_enough, F_is_enough⟩ : ∃ fd, FnP K "is_enough" s_is_enough (He.ga K "is_enough") fd := d.def_ 16 (d := d_is_enough) rfl
  obtain ⟨d_missed_paper, F_missed_paper⟩ : ∃ fd, FnP K "missed_paper" s_missed_paper (He.ga K "missed_paper") fd := d.def_ 17 (d := d_missed_paper) rfl
  obtain ⟨d_accepts_missed, F_accepts_missed⟩ : ∃ fd, FnP K "accepts_missed" s_accepts_missed (He.ga K "accepts_missed") fd := d.def_ 18 (d := d_accepts_missed) rfl
  obtain ⟨d_is_name, F_is_name⟩ : ∃ fd, FnP K "is_name" s_is_name (He.ga K "is_name") fd := d.def_ 19 (d := d_is_name) rfl
  obtain ⟨d_has_word, F_has_word⟩ : ∃ fd, FnP K "has_word" s_has_word (He.ga K "has_word") fd := d.def_ 20 (d := d_has_word) rfl
  obtain ⟨d_is_row_deed, F_is_row_deed⟩ : ∃ fd, FnP K "is_row_deed" s_is_row_deed (He.ga K "is_row_deed") fd := d.def_ 21 (d := d_is_row_deed) rfl
  obtain ⟨d_is_column_deed, F_is_column_deed⟩ : ∃ fd, FnP K "is_column_deed" s_is_column_deed (He.ga K "is_column_deed") fd := d.def_ 22 (d := d_is_column_deed) rfl
  obtain ⟨d_is_deed, F_is_deed⟩ : ∃ fd, FnP K "is_deed" s_is_deed (He.ga K "is_deed") fd := d.def_ 23 (d := d_is_deed) rfl
  obtain ⟨d_check_deed, F_check_deed⟩ : ∃ fd, FnP K "check_deed" s_check_deed (He.ga K "check_deed") fd := d.def_ 24 (d := d_check_deed) rfl
  obtain ⟨d_in_name_order, F_in_name_order⟩ : ∃ fd, FnP K "in_name_order" s_in_name_order (He.ga K "in_name_order") fd := d.def_ 25 (d := d_in_name_order) rfl
  obtain ⟨d_in_order, F_in_order⟩ : ∃ fd, FnP K "in_order" s_in_order (He.ga K "in_order") fd := d.def_ 26 (d := d_in_order) rfl
  obtain ⟨d_checked_deeds, F_checked_deeds⟩ : ∃ fd, FnP K "checked_deeds" s_checked_deeds (He.ga K "checked_deeds") fd := d.def_ 27 (d := d_checked_deeds) rfl
  obtain ⟨d_Past___init__, F_Past___init__⟩ : ∃ fd, FunD K "__init__" "Past.__init__" (defArgs s_Past___init__) (defBody s_Past___init__) (defScope s_Past___init__) [.ref (He.dflAt ("Past", some "__init__") 0 K)] [] (He.ma K (He.ga K "Past") "__init__") fd := d.def_ 28 (d := d_Past___init__) rfl
  obtain ⟨d_Past_deeds, F_Past_deeds⟩ : ∃ fd, FunD K "deeds" "Past.deeds" (defArgs s_Past_deeds) (defBody s_Past_deeds) (defScope s_Past_deeds) [] [] (He.ma K (He.ga K "Past") "deeds") fd := d.def_ 29 (d := d_Past_deeds) rfl
  obtain ⟨d_Past_with_deed, F_Past_with_deed⟩ : ∃ fd, FunD K "with_deed" "Past.with_deed" (defArgs s_Past_with_deed) (defBody s_Past_with_deed) (defScope s_Past_with_deed) [] [] (He.ma K (He.ga K "Past") "with_deed") fd := d.def_ 30 (d := d_Past_with_deed) rfl
  obtain ⟨d_check_past, F_check_past⟩ : ∃ fd, FnP K "check_past" s_check_past (He.ga K "check_past") fd := d.def_ 31 (d := d_check_past) rfl
  obtain ⟨d_has_moment, F_has_moment⟩ : ∃ fd, FnP K "has_moment" s_has_moment (He.ga K "has_moment") fd := d.def_ 32 (d := d_has_moment) rfl
  obtain ⟨d_is_change_of, F_is_change_of⟩ : ∃ fd, FnP K "is_change_of" s_is_change_of (He.ga K "is_change_of") fd := d.def_ 33 (d := d_is_change_of) rfl
  obtain ⟨d_is_change, F_is_change⟩ : ∃ fd, FnP K "is_change" s_is_change (He.ga K "is_change") fd := d.def_ 34 (d := d_is_change) rfl
  obtain ⟨d_check_change, F_check_change⟩ : ∃ fd, FnP K "check_change" s_check_change (He.ga K "check_change") fd := d.def_ 35 (d := d_check_change) rfl
  obtain ⟨d_changed, F_changed⟩ : ∃ fd, FnP K "changed" s_changed (He.ga K "changed") fd := d.def_ 36 (d := d_changed) rfl
  obtain ⟨d_opposite, F_opposite⟩ : ∃ fd, FnP K "opposite" s_opposite (He.ga K "opposite") fd := d.def_ 37 (d := d_opposite) rfl
  obtain ⟨d_kept_change, F_kept_change⟩ : ∃ fd, FnP K "kept_change" s_kept_change (He.ga K "kept_change") fd := d.def_ 38 (d := d_kept_change) rfl
  obtain ⟨d_last_by_moments, F_last_by_moments⟩ : ∃ fd, FnP K "last_by_moments" s_last_by_moments (He.ga K "last_by_moments") fd := d.def_ 39 (d := d_last_by_moments) rfl
  obtain ⟨d_deeds_of, F_deeds_of⟩ : ∃ fd, FnP K "deeds_of" s_deeds_of (He.ga K "deeds_of") fd := d.def_ 40 (d := d_deeds_of) rfl
  obtain ⟨d_Copies___init__, F_Copies___init__⟩ : ∃ fd, FunD K "__init__" "Copies.__init__" (defArgs s_Copies___init__) (defBody s_Copies___init__) (defScope s_Copies___init__) [.non] [] (He.ma K (He.ga K "Copies") "__init__") fd := d.def_ 41 (d := d_Copies___init__) rfl
  obtain ⟨d_Copies_look_at_lot, F_Copies_look_at_lot⟩ : ∃ fd, FunD K "look_at_lot" "Copies.look_at_lot" (defArgs s_Copies_look_at_lot) (defBody s_Copies_look_at_lot) (defScope s_Copies_look_at_lot) [] [] (He.ma K (He.ga K "Copies") "look_at_lot") fd := d.def_ 42 (d := d_Copies_look_at_lot) rfl
  obtain ⟨d_Copies_look_at_room, F_Copies_look_at_room⟩ : ∃ fd, FunD K "look_at_room" "Copies.look_at_room" (defArgs s_Copies_look_at_room) (defBody s_Copies_look_at_room) (defScope s_Copies_look_at_room) [] [] (He.ma K (He.ga K "Copies") "look_at_room") fd := d.def_ 43 (d := d_Copies_look_at_room) rfl
  obtain ⟨d_Copies_put, F_Copies_put⟩ : ∃ fd, FunD K "put" "Copies.put" (defArgs s_Copies_put) (defBody s_Copies_put) (defScope s_Copies_put) [] [] (He.ma K (He.ga K "Copies") "put") fd := d.def_ 44 (d := d_Copies_put) rfl
  obtain ⟨d_Copies_edit, F_Copies_edit⟩ : ∃ fd, FunD K "edit" "Copies.edit" (defArgs s_Copies_edit) (defBody s_Copies_edit) (defScope s_Copies_edit) [] [] (He.ma K (He.ga K "Copies") "edit") fd := d.def_ 45 (d := d_Copies_edit) rfl
  obtain ⟨d_Copies_first_records, F_Copies_first_records⟩ : ∃ fd, FunD K "first_records" "Copies.first_records" (defArgs s_Copies_first_records) (defBody s_Copies_first_records) (defScope s_Copies_first_records) [] [] (He.ma K (He.ga K "Copies") "first_records") fd := d.def_ 46 (d := d_Copies_first_records) rfl
  obtain ⟨d_Copies_records_on, F_Copies_records_on⟩ : ∃ fd, FunD K "records_on" "Copies.records_on" (defArgs s_Copies_records_on) (defBody s_Copies_records_on) (defScope s_Copies_records_on) [] [] (He.ma K (He.ga K "Copies") "records_on") fd := d.def_ 47 (d := d_Copies_records_on) rfl
  obtain ⟨d_Copies_seen, F_Copies_seen⟩ : ∃ fd, FunD K "seen" "Copies.seen" (defArgs s_Copies_seen) (defBody s_Copies_seen) (defScope s_Copies_seen) [] [] (He.ma K (He.ga K "Copies") "seen") fd := d.def_ 48 (d := d_Copies_seen) rfl
  obtain ⟨d_Copies_lacks, F_Copies_lacks⟩ : ∃ fd, FunD K "lacks" "Copies.lacks" (defArgs s_Copies_lacks) (defBody s_Copies_lacks) (defScope s_Copies_lacks) [] [] (He.ma K (He.ga K "Copies") "lacks") fd := d.def_ 49 (d := d_Copies_lacks) rfl
  obtain ⟨d__law_pool, F__law_pool⟩ : ∃ fd, FnP K "_law_pool" s__law_pool (He.ga K "_law_pool") fd := d.def_ 50 (d := d__law_pool) rfl
  obtain ⟨d__law_take, F__law_take⟩ : ∃ fd, FnP K "_law_take" s__law_take (He.ga K "_law_take") fd := d.def_ 51 (d := d__law_take) rfl
  obtain ⟨d__law_one, F__law_one⟩ : ∃ fd, FnP K "_law_one" s__law_one (He.ga K "_law_one") fd := d.def_ 52 (d := d__law_one) rfl
  obtain ⟨d__law_rounds, F__law_rounds⟩ : ∃ fd, FnP K "_law_rounds" s__law_rounds (He.ga K "_law_rounds") fd := d.def_ 53 (d := d__law_rounds) rfl
  obtain ⟨d__law_all_lots, F__law_all_lots⟩ : ∃ fd, FnP K "_law_all_lots" s__law_all_lots (He.ga K "_law_all_lots") fd := d.def_ 54 (d := d__law_all_lots) rfl
  obtain ⟨d__law_votes, F__law_votes⟩ : ∃ fd, FnP K "_law_votes" s__law_votes (He.ga K "_law_votes") fd := d.def_ 55 (d := d__law_votes) rfl
  obtain ⟨d__law_sum, F__law_sum⟩ : ∃ fd, FnP K "_law_sum" s__law_sum (He.ga K "_law_sum") fd := d.def_ 56 (d := d__law_sum) rfl
  obtain ⟨d__law_sure, F__law_sure⟩ : ∃ fd, FnP K "_law_sure" s__law_sure (He.ga K "_law_sure") fd := d.def_ 57 (d := d__law_sure) rfl
  obtain ⟨d__law_is_enough, F__law_is_enough⟩ : ∃ fd, FnP K "_law_is_enough" s__law_is_enough (He.ga K "_law_is_enough") fd := d.def_ 58 (d := d__law_is_enough) rfl
  obtain ⟨d__law_case, F__law_case⟩ : ∃ fd, FnP K "_law_case" s__law_case (He.ga K "_law_case") fd := d.def_ 59 (d := d__law_case) rfl
  obtain ⟨d__law_by_votes, F__law_by_votes⟩ : ∃ fd, FnP K "_law_by_votes" s__law_by_votes (He.ga K "_law_by_votes") fd := d.def_ 60 (d := d__law_by_votes) rfl
  obtain ⟨d__law_other, F__law_other⟩ : ∃ fd, FnP K "_law_other" s__law_other (He.ga K "_law_other") fd := d.def_ 61 (d := d__law_other) rfl
  obtain ⟨d__law_lacks_it, F__law_lacks_it⟩ : ∃ fd, FnP K "_law_lacks_it" s__law_lacks_it (He.ga K "_law_lacks_it") fd := d.def_ 62 (d := d__law_lacks_it) rfl
  obtain ⟨d__law_odd_papers, F__law_odd_papers⟩ : ∃ fd, FnP K "_law_odd_papers" s__law_odd_papers (He.ga K "_law_odd_papers") fd := d.def_ 63 (d := d__law_odd_papers) rfl
  obtain ⟨d_law, F_law⟩ : ∃ fd, FnP K "law" s_law (He.ga K "law") fd := d.def_ 64 (d := d_law) rfl
  have bL := FunD.bindsA (ps := ["_law_script"]) F_law fun _ _ _ _ _ _ us hl => match us, hl with | [_], _ => rfl
  refine ⟨d_law, fun s v => bL s [v] rfl, fun base _ _ TB => ?_⟩
  have ne : (He.cT K ("by_votes", none)).2 ≠ (He.cT K ("last_by_moments", none)).2 := fun z => by
    have e := (He.ba c.more).1
    rw [z] at e
    simp at e
  have LT1 : LamT base mg (tbl K) (He.cT K ("by_votes", none)).1 (He.cT K ("by_votes", none)).2 "by_votes.<locals>.<lambda>" := ⟨TB _ (List.mem_map.mpr ⟨("by_votes", none), by decide +kernel, rfl⟩), by simp [tbl], fun p hp e => by
    rcases List.mem_cons.mp hp with z | z
    · rw [z]
    · have z2 : p = ((He.cT K ("last_by_moments", none)).2, ("last_by_moments.<locals>.<lambda>" : Str)) := by simpa using z
      rw [z2] at e
      exact absurd e.symm ne⟩
  have LT2 : LamT base mg (tbl K) (He.cT K ("last_by_moments", none)).1 (He.cT K ("last_by_moments", none)).2 "last_by_moments.<locals>.<lambda>" := ⟨TB _ (List.mem_map.mpr ⟨("last_by_moments", none), by decide +kernel, rfl⟩), by simp [tbl], fun p hp e => by
    rcases List.mem_cons.mp hp with z | z
    · rw [z] at e
      exact absurd e ne
    · have z2 : p = ((He.cT K ("last_by_moments", none)).2, ("last_by_moments.<locals>.<lambda>" : Str)) := by simpa using z
      rw [z2]⟩
  have g_is_whole := He.glo_ok X G (d.fact 0 (f := .glo "is_whole") rfl)
  have g_is_number := He.glo_ok X G (d.fact 1 (f := .glo "is_number") rfl)
  have g_is_line := He.glo_ok X G (d.fact 2 (f := .glo "is_line") rfl)
  have g_is_moment := He.glo_ok X G (d.fact 3 (f := .glo "is_moment") rfl)
  have g_is_cell := He.glo_ok X G (d.fact 4 (f := .glo "is_cell") rfl)
  have g_is_ascending := He.glo_ok X G (d.fact 5 (f := .glo "is_ascending") rfl)
  have g_is_lot := He.glo_ok X G (d.fact 6 (f := .glo "is_lot") rfl)
  have g_is_votes := He.glo_ok X G (d.fact 7 (f := .glo "is_votes") rfl)
  have g_look_at_votes := He.glo_ok X G (d.fact 8 (f := .glo "look_at_votes") rfl)
  have g_look_at_need := He.glo_ok X G (d.fact 9 (f := .glo "look_at_need") rfl)
  have g_look_at_unruly := He.glo_ok X G (d.fact 10 (f := .glo "look_at_unruly") rfl)
  have g_look_at_lot_of := He.glo_ok X G (d.fact 11 (f := .glo "look_at_lot_of") rfl)
  have g_votes_in := He.glo_ok X G (d.fact 12 (f := .glo "votes_in") rfl)
  have g_by_votes := He.glo_ok X G (d.fact 13 (f := .glo "by_votes") rfl)
  have g_can_write := He.glo_ok X G (d.fact 14 (f := .glo "can_write") rfl)
  have g_can_read := He.glo_ok X G (d.fact 15 (f := .glo "can_read") rfl)
  have g_is_enough := He.glo_ok X G (d.fact 16 (f := .glo "is_enough") rfl)
  have g_missed_paper := He.glo_ok X G (d.fact 17 (f := .glo "missed_paper") rfl)
  have g_accepts_missed := He.glo_ok X G (d.fact 18 (f := .glo "accepts_missed") rfl)
  have g_is_name := He.glo_ok X G (d.fact 19 (f := .glo "is_name") rfl)
  have g_has_word := He.glo_ok X G (d.fact 20 (f := .glo "has_word") rfl)
  have g_is_row_deed := He.glo_ok X G (d.fact 21 (f := .glo "is_row_deed") rfl)
  have g_is_column_deed := He.glo_ok X G (d.fact 22 (f := .glo "is_column_deed") rfl)
  have g_is_deed := He.glo_ok X G (d.fact 23 (f := .glo "is_deed") rfl)
  have g_check_deed := He.glo_ok X G (d.fact 24 (f := .glo "check_deed") rfl)
  have g_in_name_order := He.glo_ok X G (d.fact 25 (f := .glo "in_name_order") rfl)
  have g_in_order := He.glo_ok X G (d.fact 26 (f := .glo "in_order") rfl)
  have g_checked_deeds := He.glo_ok X G (d.fact 27 (f := .glo "checked_deeds") rfl)
  have g_check_past := He.glo_ok X G (d.fact 28 (f := .glo "check_past") rfl)
  have g_has_moment := He.glo_ok X G (d.fact 29 (f := .glo "has_moment") rfl)
  have g_is_change_of := He.glo_ok X G (d.fact 30 (f := .glo "is_change_of") rfl)
  have g_is_change := He.glo_ok X G (d.fact 31 (f := .glo "is_change") rfl)
  have g_check_change := He.glo_ok X G (d.fact 32 (f := .glo "check_change") rfl)
  have g_changed := He.glo_ok X G (d.fact 33 (f := .glo "changed") rfl)
  have g_opposite := He.glo_ok X G (d.fact 34 (f := .glo "opposite") rfl)
  have g_kept_change := He.glo_ok X G (d.fact 35 (f := .glo "kept_change") rfl)
  have g_last_by_moments := He.glo_ok X G (d.fact 36 (f := .glo "last_by_moments") rfl)
  have g_deeds_of := He.glo_ok X G (d.fact 37 (f := .glo "deeds_of") rfl)
  have g__law_pool := He.glo_ok X G (d.fact 38 (f := .glo "_law_pool") rfl)
  have g__law_take := He.glo_ok X G (d.fact 39 (f := .glo "_law_take") rfl)
  have g__law_one := He.glo_ok X G (d.fact 40 (f := .glo "_law_one") rfl)
  have g__law_rounds := He.glo_ok X G (d.fact 41 (f := .glo "_law_rounds") rfl)
  have g__law_all_lots := He.glo_ok X G (d.fact 42 (f := .glo "_law_all_lots") rfl)
  have g__law_votes := He.glo_ok X G (d.fact 43 (f := .glo "_law_votes") rfl)
  have g__law_sum := He.glo_ok X G (d.fact 44 (f := .glo "_law_sum") rfl)
  have g__law_sure := He.glo_ok X G (d.fact 45 (f := .glo "_law_sure") rfl)
  have g__law_is_enough := He.glo_ok X G (d.fact 46 (f := .glo "_law_is_enough") rfl)
  have g__law_case := He.glo_ok X G (d.fact 47 (f := .glo "_law_case") rfl)
  have g__law_by_votes := He.glo_ok X G (d.fact 48 (f := .glo "_law_by_votes") rfl)
  have g__law_other := He.glo_ok X G (d.fact 49 (f := .glo "_law_other") rfl)
  have g__law_lacks_it := He.glo_ok X G (d.fact 50 (f := .glo "_law_lacks_it") rfl)
  have g__law_odd_papers := He.glo_ok X G (d.fact 51 (f := .glo "_law_odd_papers") rfl)
  have g_law := He.glo_ok X G (d.fact 52 (f := .glo "law") rfl)
  have W_is_whole := df_is_whole (P := P) (w := w) (mg := mg) (base := base) (T := tbl K) G0 F_is_whole g_is_whole 
  have W_is_number := df_is_number (P := P) (w := w) (mg := mg) (base := base) (T := tbl K) G0 F_is_number g_is_number W_is_whole
  have W_is_line := df_is_line (P := P) (w := w) (mg := mg) (base := base) (T := tbl K) G0 F_is_line g_is_line 
  have W_is_moment := df_is_moment (P := P) (w := w) (mg := mg) (base := base) (T := tbl K) G0 F_is_moment g_is_moment W_is_number
  have W_is_cell := df_is_cell (P := P) (w := w) (mg := mg) (base := base) (T := tbl K) G0 F_is_cell g_is_cell W_is_number
  have W_is_ascending := df_is_ascending (P := P) (w := w) (mg := mg) (base := base) (T := tbl K) G0 F_is_ascending g_is_ascending 
  have W_is_lot := df_is_lot (P := P) (w := w) (mg := mg) (base := base) (T := tbl K) G0 F_is_lot g_is_lot W_is_number W_is_ascending
  have W_is_votes := df_is_votes (P := P) (w := w) (mg := mg) (base := base) (T := tbl K) G0 F_is_votes g_is_votes W_is_number
  have W_look_at_votes := df_look_at_votes (P := P) (w := w) (mg := mg) (base := base) (T := tbl K) G0 F_look_at_votes g_look_at_votes W_is_votes
  have W_look_at_need := df_look_at_need (P := P) (w := w) (mg := mg) (base := base) (T := tbl K) G0 F_look_at_need g_look_at_need W_look_at_votes W_is_number
  have W_look_at_unruly := df_look_at_unruly (P := P) (w := w) (mg := mg) (base := base) (T := tbl K) G0 F_look_at_unruly g_look_at_unruly W_look_at_need W_is_number
  have W_look_at_lot_of := df_look_at_lot_of (P := P) (w := w) (mg := mg) (base := base) (T := tbl K) G0 F_look_at_lot_of g_look_at_lot_of W_is_lot
  have W_votes_in := df_votes_in (P := P) (w := w) (mg := mg) (base := base) (T := tbl K) G0 F_votes_in g_votes_in 
  have W_by_votes := df_by_votes (P := P) (w := w) (mg := mg) (base := base) (T := tbl K) G0 F_by_votes g_by_votes (code_of F_by_votes) LT1 
  have W_can_write := df_can_write (P := P) (w := w) (mg := mg) (base := base) (T := tbl K) G0 F_can_write g_can_write W_votes_in
  have W_can_read := df_can_read (P := P) (w := w) (mg := mg) (base := base) (T := tbl K) G0 F_can_read g_can_read W_votes_in W_by_votes
  have W_is_enough := df_is_enough (P := P) (w := w) (mg := mg) (base := base) (T := tbl K) G0 F_is_enough g_is_enough W_look_at_unruly W_look_at_lot_of W_can_read
  have W_missed_paper := df_missed_paper (P := P) (w := w) (mg := mg) (base := base) (T := tbl K) G0 F_missed_paper g_missed_paper W_is_enough W_by_votes
  have W_accepts_missed := df_accepts (P := P) (w := w) (mg := mg) (base := base) (T := tbl K) G0 F_accepts_missed g_accepts_missed W_look_at_unruly W_is_lot W_can_write
  have W_is_name := df_is_name (P := P) (w := w) (mg := mg) (base := base) (T := tbl K) G0 F_is_name g_is_name 
  have W_has_word := df_has_word (P := P) (w := w) (mg := mg) (base := base) (T := tbl K) G0 F_has_word g_has_word W_is_moment
  have W_is_row_deed := df_is_row (P := P) (w := w) (mg := mg) (base := base) (T := tbl K) G0 F_is_row_deed g_is_row_deed W_has_word
  have W_is_column_deed := df_is_col (P := P) (w := w) (mg := mg) (base := base) (T := tbl K) G0 F_is_column_deed g_is_column_deed W_has_word W_is_name W_is_cell
  have W_is_deed := df_is_deed (P := P) (w := w) (mg := mg) (base := base) (T := tbl K) G0 F_is_deed g_is_deed W_is_row_deed W_is_column_deed
  have W_check_deed := df_check_deed (P := P) (w := w) (mg := mg) (base := base) (T := tbl K) G0 F_check_deed g_check_deed W_is_deed
  have W_in_name_order := df_name_order (P := P) (w := w) (mg := mg) (base := base) (T := tbl K) G0 F_in_name_order g_in_name_order 
  have W_in_order := df_in_order (P := P) (w := w) (mg := mg) (base := base) (T := tbl K) G0 F_in_order g_in_order W_check_deed W_in_name_order
  have W_has_moment := df_has_moment (P := P) (w := w) (mg := mg) (base := base) (T := tbl K) G0 F_has_moment g_has_moment W_is_moment
  have W_is_change_of := df_change_of (P := P) (w := w) (mg := mg) (base := base) (T := tbl K) G0 F_is_change_of g_is_change_of W_is_deed W_has_moment
  have W_kept_change := df_kept (P := P) (w := w) (mg := mg) (base := base) (T := tbl K) G0 F_kept_change g_kept_change W_in_order
  have W_checked_deeds := df_checked (P := P) (w := w) (mg := mg) (base := base) (T := tbl K) G0 F_checked_deeds W_is_line W_is_deed W_in_name_order
  have cP := He.cls_ok (d.fact 55 (f := .cls "Past") rfl)
  have nP := He.noat_ok (d.fact 59 (f := .noat "Past" "by_moment") rfl)
  have gP := He.glo_ok X G (d.fact 53 (f := .glo "Past") rfl)
  have gC := He.glo_ok X G (d.fact 54 (f := .glo "Copies") rfl)
  have oP := ok_Past_init (P := P) (w := w) (mg := mg) (base := base) (T := tbl K) F_Past___init__ cP nP W_checked_deeds g_checked_deeds
  have MP : MkP P w K mg base (tbl K) 8 (He.ga K "Past") _ _ _ := ⟨cP, nP, He.mkr_ok (d.fact 57 (f := .mkr "Past") rfl), gP, insP c, oP, b0P F_Past___init__, b1P F_Past___init__, d0P c⟩
  have m_deeds := He.meth_ok (d.fact 67 (f := .meth "Past" "deeds") rfl)
  have m_with_deed := He.meth_ok (d.fact 68 (f := .meth "Past" "with_deed") rfl)
  have m_look_at_lot := He.meth_ok (d.fact 69 (f := .meth "Copies" "look_at_lot") rfl)
  have m_look_at_room := He.meth_ok (d.fact 70 (f := .meth "Copies" "look_at_room") rfl)
  have m_put := He.meth_ok (d.fact 71 (f := .meth "Copies" "put") rfl)
  have m_edit := He.meth_ok (d.fact 72 (f := .meth "Copies" "edit") rfl)
  have m_first_records := He.meth_ok (d.fact 73 (f := .meth "Copies" "first_records") rfl)
  have m_records_on := He.meth_ok (d.fact 74 (f := .meth "Copies" "records_on") rfl)
  have m_seen := He.meth_ok (d.fact 75 (f := .meth "Copies" "seen") rfl)
  have m_lacks := He.meth_ok (d.fact 76 (f := .meth "Copies" "lacks") rfl)
  have W_deeds := dfg_deeds (P := P) (w := w) (mg := mg) (base := base) (T := tbl K) F_Past_deeds cP nP
  have W_with := dfg_with (P := P) (w := w) (mg := mg) (base := base) (T := tbl K) G0 F_Past_with_deed MP W_check_deed W_deeds m_deeds
  have W_check_past := dfg_check_past (P := P) (w := w) (mg := mg) (base := base) (T := tbl K) G0 F_check_past MP
  have W_is_change := dfg_is_change (P := P) (w := w) (mg := mg) (base := base) (T := tbl K) G0 F_is_change MP W_check_past g_check_past W_deeds m_deeds W_is_change_of
  have W_check_change := dfg_check_change (P := P) (w := w) (mg := mg) (base := base) (T := tbl K) G0 F_check_change W_is_change g_is_change
  have W_changed := dfg_changed (P := P) (w := w) (mg := mg) (base := base) (T := tbl K) G0 F_changed MP W_check_change g_check_change W_with m_with_deed
  have W_opposite := dfg_opposite (P := P) (w := w) (mg := mg) (base := base) (T := tbl K) G0 F_opposite W_check_change g_check_change
  have W_last := dfg_last (P := P) (w := w) (mg := mg) (base := base) (T := tbl K) G0 F_last_by_moments (code_of F_last_by_moments) LT2
  have W_deeds_of := dfg_deeds_of (P := P) (w := w) (mg := mg) (base := base) (T := tbl K) F_deeds_of W_last g_last_by_moments
  have cC : FldC K (He.ga K "Copies") fldN := ⟨He.cls_ok (d.fact 56 (f := .cls "Copies") rfl), fun f hf => by
    rcases List.mem_cons.mp hf with rfl | hf
    · exact He.noat_ok (d.fact 60 (f := .noat "Copies" "own_count") rfl)
    rcases List.mem_cons.mp hf with rfl | hf
    · exact He.noat_ok (d.fact 61 (f := .noat "Copies" "own_first") rfl)
    rcases List.mem_cons.mp hf with rfl | hf
    · exact He.noat_ok (d.fact 62 (f := .noat "Copies" "current") rfl)
    rcases List.mem_cons.mp hf with rfl | hf
    · exact He.noat_ok (d.fact 63 (f := .noat "Copies" "own_edits") rfl)
    rcases List.mem_cons.mp hf with rfl | hf
    · exact He.noat_ok (d.fact 64 (f := .noat "Copies" "answers_back") rfl)
    rcases List.mem_cons.mp hf with rfl | hf
    · exact He.noat_ok (d.fact 65 (f := .noat "Copies" "own_words") rfl)
    rcases List.mem_cons.mp hf with rfl | hf
    · exact He.noat_ok (d.fact 66 (f := .noat "Copies" "own_line") rfl)
    cases hf⟩
  have oC := ok_Copies_init (P := P) (w := w) (mg := mg) (base := base) (T := tbl K) G0 F_Copies___init__ cC MP W_is_number
  have MC : MkC P w K mg base (tbl K) 10 (He.ga K "Copies") (He.ga K "Past") _ _ := ⟨cC, He.mkr_ok (d.fact 58 (f := .mkr "Copies") rfl), gC, oC, b1C F_Copies___init__⟩
  have W_look := dfg_look (P := P) (w := w) (mg := mg) (base := base) (T := tbl K) (CP := He.ga K "Past") F_Copies_look_at_lot cC W_is_lot
  have W_room := dfg_room (P := P) (w := w) (mg := mg) (base := base) (T := tbl K) (CP := He.ga K "Past") G0 F_Copies_look_at_room cC
  have O_put := ok_put (P := P) (w := w) (mg := mg) (base := base) (T := tbl K) F_Copies_put cC W_changed g_changed W_opposite g_opposite W_kept_change
  have O_edit := ok_edit (P := P) (w := w) (mg := mg) (base := base) (T := tbl K) G0 F_Copies_edit cC W_look m_look_at_lot W_is_change g_is_change W_room m_look_at_room O_put (F_Copies_put.bindsN fun _ _ _ _ _ _ us hl => match us, hl with | [_, _, _, _], _ => rfl) m_put
  have W_first := dfg_first (P := P) (w := w) (mg := mg) (base := base) (T := tbl K) F_Copies_first_records cC cP W_deeds m_deeds
  have W_records := dfg_records (P := P) (w := w) (mg := mg) (base := base) (T := tbl K) G0 F_Copies_records_on cC W_first m_first_records
  have W_seen := dfg_seen (P := P) (w := w) (mg := mg) (base := base) (T := tbl K) F_Copies_seen cC W_look m_look_at_lot W_records m_records_on W_deeds_of g_deeds_of
  have W_lacks := dfg_lacks (P := P) (w := w) (mg := mg) (base := base) (T := tbl K) G0 F_Copies_lacks cC cP W_seen m_seen W_deeds m_deeds
  have W__law_lacks_it := df_lacks_it (P := P) (w := w) (mg := mg) (base := base) (T := tbl K) G0 F__law_lacks_it g__law_lacks_it MC O_edit (F_Copies_edit.bindsN fun _ _ _ _ _ _ us hl => match us, hl with | [_, _, _], _ => rfl) m_edit W_seen m_seen W_lacks m_lacks
  have W__law_pool := df_pool (P := P) (w := w) (mg := mg) (base := base) (T := tbl K) G0 F__law_pool g__law_pool 
  have W__law_take := df_take (P := P) (w := w) (mg := mg) (base := base) (T := tbl K) G0 F__law_take g__law_take 
  have W__law_one := df_one (P := P) (w := w) (mg := mg) (base := base) (T := tbl K) G0 F__law_one g__law_one W__law_take
  have W__law_rounds := df_rounds (P := P) (w := w) (mg := mg) (base := base) (T := tbl K) G0 F__law_rounds g__law_rounds 
  have W__law_all_lots := df_all_lots (P := P) (w := w) (mg := mg) (base := base) (T := tbl K) G0 F__law_all_lots g__law_all_lots 
  have W__law_votes := df_draw_votes (P := P) (w := w) (mg := mg) (base := base) (T := tbl K) G0 F__law_votes g__law_votes W__law_take W__law_one
  have W__law_sum := df_law_sum (P := P) (w := w) (mg := mg) (base := base) (T := tbl K) G0 F__law_sum g__law_sum 
  have W__law_sure := df_law_sure (P := P) (w := w) (mg := mg) (base := base) (T := tbl K) G0 F__law_sure g__law_sure 
  have W__law_is_enough := df_law_enough (P := P) (w := w) (mg := mg) (base := base) (T := tbl K) G0 F__law_is_enough g__law_is_enough W__law_sure
  have W__law_case := df_case (P := P) (w := w) (mg := mg) (base := base) (T := tbl K) G0 F__law_case g__law_case W__law_take W__law_votes
  have W__law_by_votes := df_law_by (P := P) (w := w) (mg := mg) (base := base) (T := tbl K) G0 F__law_by_votes g__law_by_votes 
  have W__law_other := df_law_other (P := P) (w := w) (mg := mg) (base := base) (T := tbl K) G0 F__law_other g__law_other W__law_by_votes
  have W__law_odd_papers := df_odd (P := P) (w := w) (mg := mg) (base := base) (T := tbl K) G0 F__law_odd_papers g__law_odd_papers W__law_one W_accepts_missed
  exact ok_law (P := P) (w := w) (mg := mg) (base := base) (T := tbl K) G0 F_law W__law_rounds W__law_pool W__law_case W__law_all_lots W_missed_paper W__law_is_enough W__law_other W__law_lacks_it W__law_odd_papers W__law_sum W_accepts_missed
end
end KM
set_option Elab.async false
set_option linter.all false
set_option maxRecDepth 100000
set_option maxHeartbeats 0
/-! the end -/
namespace KM
open PySem PySem.Spec PyProof.Rows L2
theorem tabs0 {K : PySem.W.Frag} {H : Hp} (hH : ∀ p ∈ tf.map (He.cT K), H p.2 = some (.tbl #[])) : LamX.Tabs (tbl K) H := fun p hp => by
  have e : H p.1 = some (.tbl #[]) := by
    rcases List.mem_cons.mp hp with z | z
    · rw [z]
      exact hH _ (List.mem_map.mpr ⟨("by_votes", none), by decide +kernel, rfl⟩)
    · have z2 : p = ((He.cT K ("last_by_moments", none)).2, ("last_by_moments.<locals>.<lambda>" : Str)) := by simpa using z
      rw [z2]
      exact hH _ (List.mem_map.mpr ⟨("last_by_moments", none), by decide +kernel, rfl⟩)
  exact LamX.TabS.nil e
end KM
open PySem PySem.W PySem.Calls PyProof.Rows
theorem PySem.Challenge.cw_plainstore_k16_whole_missed_papers_holds : PySem.Challenge.rw_plainstore_k16_whole_missed_papers.Holds := by
  w_on; o_law
  refine HandSHeadRun.head_any (r := OpenLaw.row PySem.Challenge.rw_plainstore_k16_whole_missed_papers) (q := view (OpenLaw.row PySem.Challenge.rw_plainstore_k16_whole_missed_papers).prog [88]) (H := KM.hk) (ob := KM.ob) (M := 20000) (loose := KM.names) (d := HandSHeadRun.topDef (OpenLaw.row PySem.Challenge.rw_plainstore_k16_whole_missed_papers).prog 88) (kwd := []) KM.ob_eq
    (by kernel_rfl) (fun s => by kernel_rfl) KM.run (by kernel_rfl) (by kernel_rfl) (by kernel_rfl) (by rfl) (by first | assumption | decide +kernel) (by decide +kernel) ⟨rfl, rfl, rfl, rfl, rfl, by decide +kernel⟩ ?hw ?hc
  case hw => w_witness2
  case hc =>
    refine LamX.walk_ofTsE (l := PySem.Challenge.rw_plainstore_k16_whole_missed_papers) (n := 63) (k := 15) (x := "_law_script") (CX := fun _ => L2.CX0) rfl (by decide) (by kernel_rfl) ⟨rfl, by decide, by decide⟩ ?F (fun _ _ _ _ _ z => z)
    intro w mg fa h Y G hmg0
    obtain ⟨K, KX, c⟩ := Y
    have hmg : mg ("law" : PySem.Str) = some (.ref fa) := by
      have e : (HandSHeadRun.topDef (OpenLaw.row PySem.Challenge.rw_plainstore_k16_whole_missed_papers).prog 88).name = ("law" : PySem.Str) := by kernel_rfl
      rw [← e]
      exact hmg0
    have e := hmg.symm.trans (He.glo_ok KX G (c.t.d.fact 52 (f := .glo "law") rfl))
    cases e
    obtain ⟨fd, hb, hF⟩ := KM.facts (P := (PySem.Challenge.rw_plainstore_k16_whole_missed_papers).prog) (w := w) KX G c
    refine ⟨K, KX, fd, KM.tf.map (He.cT K), KM.spD K (KM.tbl K) KM.Rlaw, ?_, ?_, ?_, hb, fun H a ns hl _ hH hS => ?_, hF⟩
    · intro p hp
      obtain ⟨q, hq, rfl⟩ := List.mem_map.mp hp
      exact c.empty q hq
    · intro p hp
      obtain ⟨q, hq, rfl⟩ := List.mem_map.mp hp
      exact c.out q hq
    · intro p hp
      obtain ⟨q, hq, rfl⟩ := List.mem_map.mp hp
      exact PySem.W.codeHd_of_K KX (c.hd q hq)
    · exact ⟨KM.tabs0 hH, _, _, .cons (.lst hS (KM.ints_dpAll ns)) .nil, ⟨ns, rfl, rfl⟩, fun v H2 _ hv => KM.dp_bl hv⟩
