import PyProof.Rows.All
import Wide.All
import OpenK.AllK
import Wide.FinOn
import KE.DataEq
import HandS.ForMost
import HandS.Walk
import HandS.Nested
import HandS.TupAny
import HandS.IsInst
import HandS.EndTab
import HandS.Defaults
import KE.DataMinMax
import KE.GoesMore
import HandS.Text
import HandS.More
import PySem.Challenge.RW_sealedplans_k87_whole_steps_told_of_meet
import HandS.Head2
import HandS.HeadHook4
import HandS.HeadWalk
import KE.SortLaws
import KE.KSortTupAny
import KE.SortKeyHeap
import HandS.SortKw
set_option Elab.async false
set_option linter.all false
set_option maxRecDepth 100000
/-! The layer of this proof: what a reading does, told by data (PyData) alone. -/
namespace K87
open PySem PySem.Spec PyProof.Rows L2

/-! ### values that stand for data -/
mutual
inductive At (K : PySem.W.Frag) (H : Hp) : V → PyData → Prop
  | non : At K H .non .none
  | bl (b : Bool) : At K H (.bl b) (.bool b)
  | int (i : Int) : At K H (.int i) (.int i)
  | str (x : Str) : At K H (.str x) (.str x)
  | tup {a : Addr} {vs : List V} {ds : List PyData} : SqT K H a vs → AtAll K H vs ds → At K H (.ref a) (.tuple ds)
inductive AtAll (K : PySem.W.Frag) (H : Hp) : List V → List PyData → Prop
  | nil : AtAll K H [] []
  | cons {v : V} {vs : List V} {d : PyData} {ds : List PyData} : At K H v d → AtAll K H vs ds → AtAll K H (v :: vs) (d :: ds)
end
mutual
theorem At.dp {K : PySem.W.Frag} {H : Hp} {v : V} {d : PyData} : At K H v d → Dp K H v d
  | .non => .non
  | .bl b => .bl b
  | .int i => .int i
  | .str x => .str x
  | .tup h a => .tup h (AtAll.dp a)
theorem AtAll.dp {K : PySem.W.Frag} {H : Hp} {vs : List V} {ds : List PyData} : AtAll K H vs ds → DpAll K H vs ds
  | .nil => .nil
  | .cons h a => .cons (At.dp h) (AtAll.dp a)
end
mutual
theorem At.mono {K : PySem.W.Frag} {H H' : Hp} (k : ∀ a vs, SqT K H a vs → SqT K H' a vs) {v : V} {d : PyData} : At K H v d → At K H' v d
  | .non => .non
  | .bl b => .bl b
  | .int i => .int i
  | .str x => .str x
  | .tup h a => .tup (k _ _ h) (AtAll.mono k a)
theorem AtAll.mono {K : PySem.W.Frag} {H H' : Hp} (k : ∀ a vs, SqT K H a vs → SqT K H' a vs) {vs : List V} {ds : List PyData} : AtAll K H vs ds → AtAll K H' vs ds
  | .nil => .nil
  | .cons h a => .cons (At.mono k h) (AtAll.mono k a)
end
mutual
theorem At.plain {K : PySem.W.Frag} {H : Hp} {v : V} {d : PyData} : At K H v d → d.plain = true
  | .non => rfl
  | .bl _ => rfl
  | .int _ => rfl
  | .str _ => rfl
  | .tup _ a => AtAll.plain a
theorem AtAll.plain {K : PySem.W.Frag} {H : Hp} {vs : List V} {ds : List PyData} : AtAll K H vs ds → PyData.plainAll ds = true
  | .nil => rfl
  | .cons h a => by
    show (PyData.plain _ && PyData.plainAll _) = true
    rw [At.plain h, AtAll.plain a]
    rfl
end
theorem AtAll.length {K : PySem.W.Frag} {H : Hp} : ∀ {vs : List V} {ds : List PyData}, AtAll K H vs ds → vs.length = ds.length
  | _, _, .nil => rfl
  | _, _, .cons _ a => congrArg (· + 1) a.length
theorem AtAll.get {K : PySem.W.Frag} {H : Hp} : ∀ {vs : List V} {ds : List PyData} {i : Nat} {d : PyData}, AtAll K H vs ds → ds[i]? = some d → ∃ v, vs[i]? = some v ∧ At K H v d
  | _, _, _, _, .nil, e => by simp at e
  | _, _, 0, _, .cons h _, e => by simp at e; subst e; exact ⟨_, rfl, h⟩
  | _, _, i + 1, d, .cons _ a, e => by
    obtain ⟨v, h1, h2⟩ := AtAll.get (i := i) (d := d) a (by simpa using e)
    exact ⟨v, by simpa using h1, h2⟩
theorem AtAll.getv {K : PySem.W.Frag} {H : Hp} : ∀ {vs : List V} {ds : List PyData} {i : Nat} {v : V}, AtAll K H vs ds → vs[i]? = some v → ∃ d, ds[i]? = some d ∧ At K H v d
  | _, _, _, _, .nil, e => by simp at e
  | _, _, 0, _, .cons h _, e => by simp at e; subst e; exact ⟨_, rfl, h⟩
  | _, _, i + 1, v, .cons _ a, e => by
    obtain ⟨d, h1, h2⟩ := AtAll.getv (i := i) (v := v) a (by simpa using e)
    exact ⟨d, by simpa using h1, h2⟩
theorem AtAll.append {K : PySem.W.Frag} {H : Hp} : ∀ {vs ws : List V} {ds es : List PyData}, AtAll K H vs ds → AtAll K H ws es → AtAll K H (vs ++ ws) (ds ++ es)
  | _, _, _, _, .nil, b => b
  | _, _, _, _, .cons h a, b => .cons h (AtAll.append a b)
theorem AtAll.take {K : PySem.W.Frag} {H : Hp} : ∀ (n : Nat) {vs : List V} {ds : List PyData}, AtAll K H vs ds → AtAll K H (vs.take n) (ds.take n)
  | 0, _, _, _ => .nil
  | _ + 1, _, _, .nil => .nil
  | n + 1, _, _, .cons h a => .cons h (AtAll.take n a)
theorem AtAll.drop {K : PySem.W.Frag} {H : Hp} : ∀ (n : Nat) {vs : List V} {ds : List PyData}, AtAll K H vs ds → AtAll K H (vs.drop n) (ds.drop n)
  | 0, _, _, h => h
  | _ + 1, _, _, .nil => .nil
  | n + 1, _, _, .cons _ a => AtAll.drop n a
theorem AtAll.set {K : PySem.W.Frag} {H : Hp} {x : V} {e : PyData} (q : At K H x e) : ∀ (n : Nat) {vs : List V} {ds : List PyData}, AtAll K H vs ds → AtAll K H (vs.set n x) (ds.set n e)
  | _, _, _, .nil => .nil
  | 0, _, _, .cons _ a => .cons q a
  | n + 1, _, _, .cons h a => .cons h (AtAll.set q n a)
theorem AtAll.ints {K : PySem.W.Frag} {H : Hp} : ∀ {vs : List V} {ns : List Int}, AtAll K H vs (ns.map .int) → vs = ns.map V.int
  | _, [], .nil => rfl
  | _, n :: ns, .cons h a => by
    cases h
    rw [List.map_cons, ← AtAll.ints a]
theorem AtAll.of_ints {K : PySem.W.Frag} {H : Hp} : ∀ (ns : List Int), AtAll K H (ns.map V.int) (ns.map .int)
  | [] => .nil
  | n :: ns => .cons (.int n) (AtAll.of_ints ns)
theorem AtAll.bools {K : PySem.W.Frag} {H : Hp} : ∀ {vs : List V} {bs : List Bool}, AtAll K H vs (bs.map .bool) → vs = bs.map V.bl
  | _, [], .nil => rfl
  | _, n :: ns, .cons h a => by
    cases h
    rw [List.map_cons, ← AtAll.bools a]

/-! ### heaps: what is kept -/
/-- inv: what holds throughout; tp: the one list that may change (the law's tape) -/
structure Amb where
  tp : List Addr
  inv : Hp → Prop
  lst : ∀ H a, inv H → a ∈ tp → ∃ xs, H a = some (.lst xs)
  new : ∀ H p o, inv H → H p = none → inv (upd H p o)
  wrt : ∀ H p xs ys, inv H → H p = some (.lst xs) → p ∉ tp → inv (upd H p (.lst ys))
def Kp (tp : List Addr) (H H' : Hp) : Prop := ∀ b o, H b = some o → (∀ ps, o ≠ .tbl ps) → b ∉ tp → H' b = some o
theorem Kp.refl {tp : List Addr} (H : Hp) : Kp tp H H := fun _ _ h _ _ => h
theorem Kp.trans {tp : List Addr} {H H1 H2 : Hp} (a : Kp tp H H1) (b : Kp tp H1 H2) : Kp tp H H2 := fun x o h n t => b x o (a x o h n t) n t
theorem Kp.new {tp : List Addr} {H : Hp} {p : Addr} {o : HO} (h : H p = none) : Kp tp H (upd H p o) := fun b u e _ _ => by
  rw [upd_ne (ne_of_none e h)]
  exact e
/-- a cell that H does not know may change -/
theorem Kp.mut {tp : List Addr} {H H' : Hp} {p : Addr} {o : HO} (e : Kp tp H H') (h : H p = none) : Kp tp H (upd H' p o) := fun b u q n t => by
  rw [upd_ne (ne_of_none q h)]
  exact e b u q n t
/-- H' comes from H by reading, making new things, and what inv allows -/
structure Xt (A : Amb) (H H' : Hp) : Prop where
  kp : Kp A.tp H H'
  inv : A.inv H → A.inv H'
  fr : ∀ b, H' b = none → H b = none
theorem Xt.refl {A : Amb} (H : Hp) : Xt A H H := ⟨Kp.refl H, id, fun _ h => h⟩
theorem Xt.new {A : Amb} {H : Hp} {p : Addr} {o : HO} (h : H p = none) : Xt A H (upd H p o) := ⟨Kp.new h, fun i => A.new H p o i h, fun b e => by
  unfold upd at e
  split at e
  · cases e
  · exact e⟩
theorem Xt.trans {A : Amb} {H H1 H2 : Hp} (a : Xt A H H1) (b : Xt A H1 H2) : Xt A H H2 := ⟨a.kp.trans b.kp, fun h => b.inv (a.inv h), fun c h => a.fr c (b.fr c h)⟩
theorem rd_kp {A : Amb} {H H' : Hp} (i : A.inv H) (k : Kp A.tp H H') {a : Addr} {vs : List V} (r : Rd H a (.tup vs)) : Rd H' a (.tup vs) := by
  have nt : ∀ o, H a = some o → (∀ xs, o ≠ .lst xs) → a ∉ A.tp := fun o e n z => by
    obtain ⟨xs, q⟩ := A.lst H a i z
    rw [e] at q
    exact n xs (Option.some.inj q)
  rcases r with r | ⟨o, r⟩
  · exact .inl (k _ _ r (fun _ z => nomatch z) (nt _ r fun _ z => nomatch z))
  · exact .inr ⟨o, k _ _ r (fun _ z => nomatch z) (nt _ r fun _ z => nomatch z)⟩
theorem sqt_kp {A : Amb} {K : PySem.W.Frag} {H H' : Hp} (i : A.inv H) (k : Kp A.tp H H') (a : Addr) (vs : List V) (h : SqT K H a vs) : SqT K H' a vs := h.elim (fun r => .inl (rd_kp i k r)) .inr
theorem At.kp {A : Amb} {K : PySem.W.Frag} {H H' : Hp} (i : A.inv H) (k : Kp A.tp H H') {v : V} {d : PyData} (h : At K H v d) : At K H' v d := h.mono (sqt_kp i k)
theorem AtAll.kp {A : Amb} {K : PySem.W.Frag} {H H' : Hp} (i : A.inv H) (k : Kp A.tp H H') {vs : List V} {ds : List PyData} (h : AtAll K H vs ds) : AtAll K H' vs ds := h.mono (sqt_kp i k)
/-- a list's content changes -/
theorem sqt_upd {K : PySem.W.Frag} {H : Hp} {p : Addr} {xs : List V} {o : HO} (h : H p = some (.lst xs)) (a : Addr) (vs : List V) (q : SqT K H a vs) : SqT K (upd H p o) a vs := by
  rcases q with (q | ⟨u, q⟩) | q
  · exact .inl (.inl (by rw [upd_ne (ne_of q h fun z => nomatch z)]; exact q))
  · exact .inl (.inr ⟨u, by rw [upd_ne (ne_of q h fun z => nomatch z)]; exact q⟩)
  · exact .inr q
theorem sqt_new {K : PySem.W.Frag} {H : Hp} {p : Addr} {o : HO} (h : H p = none) (a : Addr) (vs : List V) (q : SqT K H a vs) : SqT K (upd H p o) a vs := by
  rcases q with (q | ⟨u, q⟩) | q
  · exact .inl (.inl (by rw [upd_ne (ne_of_none q h)]; exact q))
  · exact .inl (.inr ⟨u, by rw [upd_ne (ne_of_none q h)]; exact q⟩)
  · exact .inr q

/-! ### slots -/
/-- what a slot holds: nothing that is told; a datum; a list that stood at the entry and is only read; a list of the def's own; a value as it is -/
inductive SD where
  | emp | dat (d : PyData) | lst (ds : List PyData) | own (ds : List PyData) | raw (v : V)
def SlotAt (K : PySem.W.Frag) (A : Amb) (H0 H : Hp) (o : Option (Option V)) : SD → Prop
  | .emp => True
  | .dat d => ∃ v, o = some (some v) ∧ At K H v d
  | .lst ds => ∃ a vs, o = some (some (.ref a)) ∧ a ∉ A.tp ∧ Rd H0 a (.lst vs) ∧ Rd H a (.lst vs) ∧ AtAll K H vs ds
  | .own ds => ∃ p vs, o = some (some (.ref p)) ∧ H0 p = none ∧ H p = some (.lst vs) ∧ AtAll K H vs ds
  | .raw v => o = some (some v)
structure En (K : PySem.W.Frag) (A : Amb) (H0 H : Hp) (σ : L2.St) (ds : List SD) : Prop where
  inv0 : A.inv H0
  inv : A.inv H
  kp : Kp A.tp H0 H
  fr : ∀ b, H b = none → H0 b = none
  len : σ.length = ds.length
  slot : ∀ (i : Nat) (d : SD), ds[i]? = some d → SlotAt K A H0 H (σ[i]?) d
section
variable {K : PySem.W.Frag} {A : Amb} {H0 H H' : Hp} {σ : L2.St} {ds : List SD}
theorem own_ne {p : Addr} (i0 : A.inv H0) (e : H0 p = none) : p ∉ A.tp := fun z => by
  obtain ⟨xs, q⟩ := A.lst H0 p i0 z
  rw [e] at q
  cases q
theorem rdl_kp {a : Addr} {vs : List V} (k : Kp A.tp H H') (nt : a ∉ A.tp) (r : Rd H a (.lst vs)) : Rd H' a (.lst vs) := by
  rcases r with r | ⟨u, r⟩
  · exact .inl (k _ _ r (fun _ z => nomatch z) nt)
  · exact .inr ⟨u, k _ _ r (fun _ z => nomatch z) nt⟩
theorem SlotAt.kp {o : Option (Option V)} {d : SD} (i : A.inv H) (i0 : A.inv H0) (k : Kp A.tp H H') (h : SlotAt K A H0 H o d) : SlotAt K A H0 H' o d := by
  cases d with
  | emp => trivial
  | dat d => obtain ⟨v, e, a⟩ := h; exact ⟨v, e, a.kp i k⟩
  | lst es => obtain ⟨a, vs, e, nt, r0, r, q⟩ := h; exact ⟨a, vs, e, nt, r0, rdl_kp k nt r, q.kp i k⟩
  | own es => obtain ⟨p, vs, e, n, r, q⟩ := h; exact ⟨p, vs, e, n, k _ _ r (fun _ z => nomatch z) (own_ne i0 n), q.kp i k⟩
  | raw v => exact h
theorem En.xt (h : En K A H0 H σ ds) (x : Xt A H H') : En K A H0 H' σ ds :=
  ⟨h.inv0, x.inv h.inv, h.kp.trans x.kp, fun b e => h.fr b (x.fr b e), h.len, fun i d e => (h.slot i d e).kp h.inv h.inv0 x.kp⟩
theorem En.set {v : V} {d : SD} (h : En K A H0 H σ ds) (i : Nat) (q : SlotAt K A H0 H (some (some v)) d) : En K A H0 H (σ.set i (some v)) (ds.set i d) := by
  refine ⟨h.inv0, h.inv, h.kp, h.fr, by rw [List.length_set, List.length_set, h.len], fun j e hj => ?_⟩
  by_cases c : i = j
  · subst c
    rw [List.getElem?_set] at hj
    rw [if_pos rfl] at hj
    split at hj
    · rename_i hlt
      cases hj
      rw [List.getElem?_set_self (by rw [h.len]; exact hlt)]
      exact q
    · cases hj
  · rw [List.getElem?_set_ne c] at hj ⊢
    exact h.slot j e hj
/-- less is told -/
def Less (ds es : List SD) : Prop := es.length = ds.length ∧ ∀ (i : Nat) (d : SD), es[i]? = some d → d = .emp ∨ ds[i]? = some d
theorem En.weak {es : List SD} (h : En K A H0 H σ ds) (w : Less ds es) : En K A H0 H σ es :=
  ⟨h.inv0, h.inv, h.kp, h.fr, by rw [h.len, w.1], fun i d e => (w.2 i d e).elim (fun z => by rw [z]; trivial) (h.slot i d)⟩
/-- own lists are forgotten -/
def noOwn : SD → SD
  | .own _ => .emp
  | d => d
/-- slots of a block's own names are forgotten -/
def wipeD (ds : List SD) : List Nat → List SD
  | [] => ds
  | v :: vs => (wipeD ds vs).set v .emp
theorem En.wipe (h : En K A H0 H σ ds) : ∀ vs : List Nat, En K A H0 H (L2.wipe σ vs) (wipeD ds vs)
  | [] => h
  | v :: vs => by
    have ih := En.wipe h vs
    refine ⟨h.inv0, h.inv, h.kp, h.fr, ?_, fun j e hj => ?_⟩
    · show ((L2.wipe σ vs).set v none).length = ((wipeD ds vs).set v .emp).length
      rw [List.length_set, List.length_set, ih.len]
    · have hj : ((wipeD ds vs).set v .emp)[j]? = some e := hj
      show SlotAt K A H0 H (((L2.wipe σ vs).set v none)[j]?) e
      by_cases c : v = j
      · subst c
        rw [List.getElem?_set, if_pos rfl] at hj
        split at hj
        · cases hj
          trivial
        · cases hj
      · rw [List.getElem?_set_ne c] at hj ⊢
        exact ih.slot j e hj
end
/-- an argument's value -/
def AtS (K : PySem.W.Frag) (A : Amb) (H : Hp) (v : V) : SD → Prop
  | .emp => True
  | .dat d => At K H v d
  | .lst es => ∃ a vs, v = .ref a ∧ a ∉ A.tp ∧ Rd H a (.lst vs) ∧ AtAll K H vs es
  | .own _ => False
  | .raw w => v = w
inductive AllS (K : PySem.W.Frag) (A : Amb) (H : Hp) : List V → List SD → Prop
  | nil : AllS K A H [] []
  | cons {v : V} {vs : List V} {d : SD} {ds : List SD} : AtS K A H v d → AllS K A H vs ds → AllS K A H (v :: vs) (d :: ds)
section
variable {K : PySem.W.Frag} {A : Amb} {H H' : Hp}
theorem AtS.xt {v : V} {d : SD} (i : A.inv H) (x : Xt A H H') (h : AtS K A H v d) : AtS K A H' v d := by
  cases d with
  | emp => trivial
  | dat d => exact At.kp i x.kp h
  | lst es => obtain ⟨a, vs, e, nt, r, q⟩ := h; exact ⟨a, vs, e, nt, rdl_kp x.kp nt r, q.kp i x.kp⟩
  | own _ => exact h.elim
  | raw w => exact h
theorem AllS.length : ∀ {vs : List V} {ds : List SD}, AllS K A H vs ds → vs.length = ds.length
  | _, _, .nil => rfl
  | _, _, .cons _ t => congrArg (· + 1) t.length
theorem AllS.get : ∀ {vs : List V} {ds : List SD} {i : Nat} {d : SD}, AllS K A H vs ds → ds[i]? = some d → ∃ v, vs[i]? = some v ∧ AtS K A H v d
  | _, _, _, _, .nil, e => by simp at e
  | _, _, 0, _, .cons h _, e => by simp at e; subst e; exact ⟨_, rfl, h⟩
  | _, _, i + 1, d, .cons _ a, e => by
    obtain ⟨v, h1, h2⟩ := AllS.get (i := i) (d := d) a (by simpa using e)
    exact ⟨v, by simpa using h1, h2⟩
theorem AtS.slot {v : V} {d : SD} (h : AtS K A H v d) : SlotAt K A H H (some (some v)) d := by
  cases d with
  | emp => trivial
  | dat d => exact ⟨v, rfl, h⟩
  | lst es => obtain ⟨a, vs, e, nt, r, q⟩ := h; subst e; exact ⟨a, vs, rfl, nt, r, r, q⟩
  | own _ => exact h.elim
  | raw w => exact congrArg (fun z => some (some z)) h
theorem en_start {N : List Str} {vs : List V} {as : List SD} (i : A.inv H) (h : AllS K A H vs as) : En K A H H (L2.start N vs) (as ++ List.replicate (N.length - as.length) .emp) := by
  have hl := h.length
  refine ⟨i, i, Kp.refl H, fun _ e => e, ?_, fun j d e => ?_⟩
  · unfold L2.start
    rw [List.length_append, List.length_append, List.length_map, List.length_replicate, List.length_replicate, hl]
  · unfold L2.start
    by_cases c : j < as.length
    · rw [List.getElem?_append_left c] at e
      obtain ⟨v, e1, q⟩ := h.get e
      rw [List.getElem?_append_left (by rw [List.length_map, hl]; exact c), List.getElem?_map, e1]
      exact q.slot
    · rw [List.getElem?_append_right (by omega), List.getElem?_replicate] at e
      split at e
      · cases e
        trivial
      · cases e
end
end K87
/-! Rules: readings told by data. -/
namespace K87
open PySem PySem.Spec PyProof.Rows L2
abbrev Is (d : PyData) : PyData → Prop := fun x => x = d
abbrev IsB (b : Bool) : Bool → Prop := fun x => x = b
def Ev (K : PySem.W.Frag) (A : Amb) (t : TE) (ds : List SD) (P : PyData → Prop) : Prop :=
  ∀ (H0 H : Hp) (σ : L2.St) (Q : VK), En K A H0 H σ ds → (∀ v d H', P d → Xt A H H' → At K H' v d → Q v H') → t σ H Q
/-- a new list -/
def EvL (K : PySem.W.Frag) (A : Amb) (t : TE) (ds : List SD) (P : List PyData → Prop) : Prop :=
  ∀ (H0 H : Hp) (σ : L2.St) (Q : VK), En K A H0 H σ ds → (∀ p vs es H', P es → H p = none → Xt A H H' → H' p = some (.lst vs) → AtAll K H' vs es → Q (.ref p) H') → t σ H Q
/-- a list that stands, to be read -/
def EvR (K : PySem.W.Frag) (A : Amb) (t : TE) (ds : List SD) (P : List PyData → Prop) : Prop :=
  ∀ (H0 H : Hp) (σ : L2.St) (Q : VK), En K A H0 H σ ds → (∀ a vs es H', P es → Xt A H H' → a ∉ A.tp → Rd H' a (.lst vs) → AtAll K H' vs es → Q (.ref a) H') → t σ H Q
def EvT (K : PySem.W.Frag) (A : Amb) (t : TT) (ds : List SD) (P : Bool → Prop) : Prop :=
  ∀ (H0 H : Hp) (σ : L2.St) (Q : Bool → Hp → Prop), En K A H0 H σ ds → (∀ b H', P b → Xt A H H' → Q b H') → t σ H Q
def EvA (K : PySem.W.Frag) (A : Amb) (t : TA) (ds : List SD) (P : List SD → Prop) : Prop :=
  ∀ (H0 H : Hp) (σ : L2.St) (Q : List V → Hp → Prop), En K A H0 H σ ds → (∀ vs as H', P as → Xt A H H' → AllS K A H' vs as → Q vs H') → t σ H Q
/-- arguments that are data -/
def EvD (K : PySem.W.Frag) (A : Amb) (t : TA) (ds : List SD) (P : List PyData → Prop) : Prop :=
  ∀ (H0 H : Hp) (σ : L2.St) (Q : List V → Hp → Prop), En K A H0 H σ ds → (∀ vs es H', P es → Xt A H H' → AtAll K H' vs es → Q vs H') → t σ H Q
section
variable {K : PySem.W.Frag} {A : Amb} {ds : List SD} {P P' : PyData → Prop} {ta tb te : TE} {d e : PyData}
theorem Ev.imp (h : Ev K A te ds P) (i : ∀ d, P d → P' d) : Ev K A te ds P' := fun H0 H σ Q n q => h H0 H σ Q n fun v d H' p => q v d H' (i d p)
theorem Ev.to (h : Ev K A te ds (Is d)) (i : P d) : Ev K A te ds P := h.imp fun x hx => by subst hx; exact i
theorem EvT.imp {t : TT} {P P' : Bool → Prop} (h : EvT K A t ds P) (i : ∀ d, P d → P' d) : EvT K A t ds P' := fun H0 H σ Q n q => h H0 H σ Q n fun b H' p => q b H' (i b p)
theorem EvR.imp {P P' : List PyData → Prop} (h : EvR K A te ds P) (i : ∀ d, P d → P' d) : EvR K A te ds P' := fun H0 H σ Q n q => h H0 H σ Q n fun p vs es H' z => q p vs es H' (i es z)
theorem EvL.imp {P P' : List PyData → Prop} (h : EvL K A te ds P) (i : ∀ d, P d → P' d) : EvL K A te ds P' := fun H0 H σ Q n q => h H0 H σ Q n fun p vs es H' z => q p vs es H' (i es z)
theorem ev_var {i : Nat} (h : ds[i]? = some (.dat d)) : Ev K A (tVar i) ds (Is d) := fun H0 H σ Q n q => by
  obtain ⟨v, e, a⟩ := n.slot i _ h
  exact ⟨v, e, q v d H rfl (Xt.refl H) a⟩
theorem ev_int {i : Int} : Ev K A (tC (.int i)) ds (Is (.int i)) := fun H0 H σ Q n q => q _ _ H rfl (Xt.refl H) (.int i)
theorem ev_str {x : Str} : Ev K A (tC (.str x)) ds (Is (.str x)) := fun H0 H σ Q n q => q _ _ H rfl (Xt.refl H) (.str x)
theorem ev_bl {b : Bool} : Ev K A (tC (.bl b)) ds (Is (.bool b)) := fun H0 H σ Q n q => q _ _ H rfl (Xt.refl H) (.bl b)
theorem ev_non : Ev K A (tC .non) ds (Is .none) := fun H0 H σ Q n q => q _ _ H rfl (Xt.refl H) .non
/-- two operands -/
theorem ev_two {r : R2} {Pa Pb : PyData → Prop} (ha : Ev K A ta ds Pa) (hb : ∀ d, Pa d → Ev K A tb ds Pb) (hr : ∀ d e H0 H σ x y Q, Pa d → Pb e → En K A H0 H σ ds → At K H x d → At K H y e → (∀ v c H', P c → Xt A H H' → At K H' v c → Q v H') → r x y H Q) :
    Ev K A (tOp r ta tb) ds P := fun H0 H σ Q n q =>
  ha H0 H σ _ n fun x d H1 p1 x1 a1 => hb d p1 H0 H1 σ _ (n.xt x1) fun y e H2 p2 x2 a2 =>
    hr d e H0 H2 σ x y Q p1 p2 ((n.xt x1).xt x2) (a1.kp (x1.inv n.inv) x2.kp) a2 fun v c H3 p3 x3 a3 => q v c H3 p3 ((x1.trans x2).trans x3) a3
theorem ev_opI {i j : Int} {g : Int → Int → V} {c : PyData} (ha : Ev K A ta ds (Is (.int i))) (hb : Ev K A tb ds (Is (.int j))) (hc : ∀ H, At K H (g i j) c) : Ev K A (tOp (rI0 g) ta tb) ds (Is c) :=
  ev_two ha (fun _ _ => hb) fun d e H0 H σ x y Q p1 p2 n a b q => by
    subst p1 p2
    cases a
    cases b
    exact ⟨i, j, rfl, rfl, q _ _ H rfl (Xt.refl H) (hc H)⟩
theorem ev_opC {i j : Int} {g : Int → Int → V} {C : Int → Int → Prop} {c : PyData} (ha : Ev K A ta ds (Is (.int i))) (hb : Ev K A tb ds (Is (.int j))) (h : C i j) (hc : ∀ H, At K H (g i j) c) : Ev K A (tOp (rI C g) ta tb) ds (Is c) :=
  ev_two ha (fun _ _ => hb) fun d e H0 H σ x y Q p1 p2 n a b q => by
    subst p1 p2
    cases a
    cases b
    exact ⟨i, j, rfl, rfl, h, q _ _ H rfl (Xt.refl H) (hc H)⟩
/-- scalars compared -/
def scalD : PyData → Bool
  | .none | .bool _ | .int _ | .str _ => true
  | _ => false
def toV : PyData → V
  | .none => .non
  | .bool b => .bl b
  | .int i => .int i
  | .str x => .str x
  | _ => .non
theorem toV_at {H : Hp} {v : V} {d : PyData} (h : At K H v d) (s : scalD d = true) : v = toV d := by
  cases h with
  | tup _ _ => cases s
  | _ => rfl
theorem ev_eqS {c d : PyData} (ha : Ev K A ta ds (Is c)) (hb : Ev K A tb ds (Is d)) (sc : scalD c = true) (sd : scalD d = true) (hs : scal (toV c) (toV d) = true) : Ev K A (tOp rEq ta tb) ds (Is (.bool (decide (toV c = toV d)))) :=
  ev_two ha (fun _ _ => hb) fun d' e H0 H σ x y Q p1 p2 n a b q => by
    subst p1 p2
    rw [toV_at a sc, toV_at b sd]
    exact ⟨hs, q _ _ H rfl (Xt.refl H) (.bl _)⟩
theorem ev_neS {c d : PyData} (ha : Ev K A ta ds (Is c)) (hb : Ev K A tb ds (Is d)) (sc : scalD c = true) (sd : scalD d = true) (hs : scal (toV c) (toV d) = true) : Ev K A (tOp rNe ta tb) ds (Is (.bool (!decide (toV c = toV d)))) :=
  ev_two ha (fun _ _ => hb) fun d' e H0 H σ x y Q p1 p2 n a b q => by
    subst p1 p2
    rw [toV_at a sc, toV_at b sd]
    exact ⟨hs, q _ _ H rfl (Xt.refl H) (.bl _)⟩
/-- t[i] -/
theorem ev_ixT {es : List PyData} {i : Int} (ha : Ev K A ta ds (Is (.tuple es))) (hb : Ev K A tb ds (Is (.int i))) (h : atI es i = some d) : Ev K A (tOp (rIxT K) ta tb) ds (Is d) :=
  ev_two ha (fun _ _ => hb) fun c e H0 H σ x y Q p1 p2 n a b q => by
    subst p1 p2
    cases b
    cases a with
    | @tup a vs _ hs ha =>
      obtain ⟨j, h1, h2, h3, h4, h5⟩ := atI_get h
      obtain ⟨v, hv, hav⟩ := ha.get h2
      refine ⟨a, vs, i, v, rfl, rfl, hs, ?_, q v d H rfl (Xt.refl H) hav⟩
      have hl := ha.length
      unfold atI at h ⊢
      rw [hl]
      cases hx : ixN es.length i with
      | none => rw [hx] at h; cases h
      | some k =>
        rw [hx] at h
        obtain ⟨k1, k2, _, _⟩ := ixN_seq hx
        rw [h1] at k1
        cases k1
        exact hv
/-- s[i] -/
theorem ev_ixS {z : Str} {i : Int} {c : Nat} (ha : Ev K A ta ds (Is (.str z))) (hb : Ev K A tb ds (Is (.int i))) (hz : z.length ≤ sizeLine) (h : atI z.cps.toList i = some c) : Ev K A (tOp rIxS ta tb) ds (Is (.str ⟨#[c]⟩)) :=
  ev_two ha (fun _ _ => hb) fun c e H0 H σ x y Q p1 p2 n a b q => by
    subst p1 p2
    cases a
    cases b
    exact ⟨z, i, _, rfl, rfl, hz, h, q _ _ H rfl (Xt.refl H) (.str _)⟩
/-- x in t -/
theorem flat_scal {H : Hp} {v : V} {d : PyData} (h : At K H v d) (s : scalD d = true) : flatV v = true := by
  cases h with
  | tup _ _ => cases s
  | _ => rfl
theorem all_toV {H : Hp} : ∀ {vs : List V} {es : List PyData}, AtAll K H vs es → es.all scalD = true → vs = es.map toV ∧ vs.all flatV = true
  | _, _, .nil, _ => ⟨rfl, rfl⟩
  | _, _, .cons h a, s => by
    rw [List.all_cons, Bool.and_eq_true] at s
    obtain ⟨e1, e2⟩ := all_toV a s.2
    have e3 := toV_at h s.1
    refine ⟨by rw [List.map_cons, ← e1, ← e3], ?_⟩
    rw [List.all_cons, flat_scal h s.1, e2]
    rfl
theorem ev_inT {neg : Bool} {c : PyData} {es : List PyData} (ha : Ev K A ta ds (Is c)) (hb : Ev K A tb ds (Is (.tuple es))) (sc : scalD c = true) (se : es.all scalD = true) : Ev K A (tOp (rIn K neg) ta tb) ds (Is (.bool (if neg then !inV (toV c) (es.map toV) else inV (toV c) (es.map toV)))) :=
  ev_two ha (fun _ _ => hb) fun d' e H0 H σ x y Q p1 p2 n a b q => by
    subst p1 p2
    cases b with
    | @tup p vs _ hs hall =>
      obtain ⟨e1, e2⟩ := all_toV hall se
      have e3 := toV_at a sc
      refine ⟨p, vs, rfl, .inr hs, flat_scal a sc, e2, ?_⟩
      have z := q (V.bl (if neg then !inV (toV d') (es.map toV) else inV (toV d') (es.map toV))) _ H rfl (Xt.refl H) (.bl _)
      rw [e1, e3]
      exact z

/-! ### tests -/
theorem et_B {b : Bool} (h : Ev K A te ds (Is (.bool b))) : EvT K A (tB te) ds (IsB b) := fun H0 H σ Q n q => h H0 H σ _ n fun v d H' p x a => by
  subst p
  cases a
  exact ⟨b, rfl, q b H' rfl x⟩
theorem et_test {b : Bool} (h : Ev K A te ds (Is (.bool b))) : EvT K A (tTest te) ds (IsB b) := fun H0 H σ Q n q => h H0 H σ _ n fun v d H' p x a => by
  subst p
  cases a
  exact ⟨b, rfl, q b H' rfl x⟩
theorem et_testP {P : Bool → Prop} (h : Ev K A te ds (fun d => ∃ b, d = .bool b ∧ P b)) : EvT K A (tTest te) ds P := fun H0 H σ Q n q => h H0 H σ _ n fun v d H' ⟨b, e, p⟩ x a => by
  subst e
  cases a
  exact ⟨b, rfl, q b H' p x⟩
theorem et_BP {P : Bool → Prop} (h : Ev K A te ds (fun d => ∃ b, d = .bool b ∧ P b)) : EvT K A (tB te) ds P := fun H0 H σ Q n q => h H0 H σ _ n fun v d H' ⟨b, e, p⟩ x a => by
  subst e
  cases a
  exact ⟨b, rfl, q b H' p x⟩
theorem et_and {t u : TT} {P Pt : Bool → Prop} (ht : EvT K A t ds Pt) (hu : Pt true → EvT K A u ds P) (hf : Pt false → P false) : EvT K A (tAnd t u) ds P := fun H0 H σ Q n q => ht H0 H σ _ n fun b H1 p x => by
  cases b with
  | true => exact hu p H0 H1 σ Q (n.xt x) fun b H2 p2 x2 => q b H2 p2 (x.trans x2)
  | false => exact q false H1 (hf p) x
theorem et_or {t u : TT} {P Pt : Bool → Prop} (ht : EvT K A t ds Pt) (hu : Pt false → EvT K A u ds P) (hf : Pt true → P true) : EvT K A (tOr t u) ds P := fun H0 H σ Q n q => ht H0 H σ _ n fun b H1 p x => by
  cases b with
  | false => exact hu p H0 H1 σ Q (n.xt x) fun b H2 p2 x2 => q b H2 p2 (x.trans x2)
  | true => exact q true H1 (hf p) x
theorem et_not {t : TT} {P Pt : Bool → Prop} (ht : EvT K A t ds Pt) (i : ∀ b, Pt b → P (!b)) : EvT K A (tNot t) ds P := fun H0 H σ Q n q => ht H0 H σ _ n fun b H1 p x => q _ H1 (i b p) x
theorem et_and1 {t u : TT} {a b : Bool} (ht : EvT K A t ds (IsB a)) (hu : a = true → EvT K A u ds (IsB b)) : EvT K A (tAnd t u) ds (IsB (a && b)) := by
  cases a with
  | true => exact et_and ht (fun _ => hu rfl) fun z => nomatch z
  | false => exact et_and ht (fun z => nomatch z) fun _ => rfl
theorem et_or1 {t u : TT} {a b : Bool} (ht : EvT K A t ds (IsB a)) (hu : a = false → EvT K A u ds (IsB b)) : EvT K A (tOr t u) ds (IsB (a || b)) := by
  cases a with
  | true => exact et_or ht (fun z => nomatch z) fun _ => rfl
  | false => exact et_or ht (fun _ => hu rfl) fun z => nomatch z
theorem et_not1 {t : TT} {a : Bool} (ht : EvT K A t ds (IsB a)) : EvT K A (tNot t) ds (IsB (!a)) := et_not ht fun b p => by
  have p : b = a := p
  rw [p]
theorem EvT.to {t : TT} {b c : Bool} (h : EvT K A t ds (IsB b)) (e : b = c) : EvT K A t ds (IsB c) := e ▸ h
theorem Ev.eq {c : PyData} (h : Ev K A te ds (Is d)) (e : d = c) : Ev K A te ds (Is c) := e ▸ h
/-- and, or, not as values -/
theorem ev_andV {a b : Bool} (ha : Ev K A ta ds (Is (.bool a))) (hb : a = true → Ev K A tb ds (Is (.bool b))) : Ev K A (tAndV ta tb) ds (Is (.bool (a && b))) := fun H0 H σ Q n q => ha H0 H σ _ n fun v d H1 p x z => by
  subst p
  cases z
  refine ⟨a, rfl, ?_⟩
  cases a with
  | true => exact hb rfl H0 H1 σ Q (n.xt x) fun v d H2 p2 x2 a2 => q v d H2 p2 (x.trans x2) a2
  | false => exact q _ _ H1 rfl x (.bl _)
theorem ev_orV {a b : Bool} (ha : Ev K A ta ds (Is (.bool a))) (hb : a = false → Ev K A tb ds (Is (.bool b))) : Ev K A (tOrV ta tb) ds (Is (.bool (a || b))) := fun H0 H σ Q n q => ha H0 H σ _ n fun v d H1 p x z => by
  subst p
  cases z
  refine ⟨a, rfl, ?_⟩
  cases a with
  | false => exact hb rfl H0 H1 σ Q (n.xt x) fun v d H2 p2 x2 a2 => q v d H2 p2 (x.trans x2) a2
  | true => exact q _ _ H1 rfl x (.bl _)
theorem ev_notV {a : Bool} (ha : Ev K A ta ds (Is (.bool a))) : Ev K A (tNotV ta) ds (Is (.bool (!a))) := fun H0 H σ Q n q => ha H0 H σ _ n fun v d H1 p x z => by
  subst p
  cases z
  exact ⟨a, rfl, q _ _ H1 rfl x (.bl _)⟩
theorem ev_if {t : TT} {Pt : Bool → Prop} (ht : EvT K A t ds Pt) (h1 : Pt true → Ev K A ta ds P) (h2 : Pt false → Ev K A tb ds P) : Ev K A (tIf t ta tb) ds P := fun H0 H σ Q n q => ht H0 H σ _ n fun b H1 p x => by
  cases b with
  | true => exact h1 p H0 H1 σ Q (n.xt x) fun v d H2 p2 x2 a2 => q v d H2 p2 (x.trans x2) a2
  | false => exact h2 p H0 H1 σ Q (n.xt x) fun v d H2 p2 x2 a2 => q v d H2 p2 (x.trans x2) a2
/-- a < b < c -/
theorem ev_chain {r r' : R2} {tc : TE} {i j : Int} {a : Bool} {Pb : Bool → Prop} (ha : Ev K A ta ds (Is (.int i))) (hb : Ev K A tb ds (Is (.int j))) (h1 : ∀ H Q, Q (.bl a) H → r (.int i) (.int j) H Q)
    (hc : a = true → ∃ k b, Ev K A tc ds (Is (.int k)) ∧ (∀ H Q, Q (.bl b) H → r' (.int j) (.int k) H Q) ∧ Pb b) (hf : a = false → Pb false) : Ev K A (tChain r r' ta tb tc) ds (fun d => ∃ b, d = .bool b ∧ Pb b) := fun H0 H σ Q n q =>
  ha H0 H σ _ n fun x d H1 p1 x1 a1 => hb H0 H1 σ _ (n.xt x1) fun y e H2 p2 x2 a2 => by
    subst p1 p2
    cases a1
    cases a2
    refine h1 H2 _ ⟨a, rfl, ?_⟩
    cases a with
    | true =>
      obtain ⟨k, b, hk, h2, p⟩ := hc rfl
      refine hk H0 H2 σ _ ((n.xt x1).xt x2) fun z e H3 p3 x3 a3 => ?_
      subst p3
      cases a3
      exact h2 H3 Q (q _ _ H3 ⟨b, rfl, p⟩ ((x1.trans x2).trans x3) (.bl _))
    | false => exact q _ _ H2 ⟨false, rfl, hf rfl⟩ (x1.trans x2) (.bl _)

/-! ### arguments, displays, calls -/
theorem ed_nil {P : List PyData → Prop} (h : P []) : EvD K A tNil ds P := fun H0 H σ Q n q => q [] [] H h (Xt.refl H) .nil
theorem ed_cons {tr : TA} {P : List PyData → Prop} {Pa : PyData → Prop} (ha : Ev K A ta ds Pa) (hr : ∀ d, Pa d → EvD K A tr ds (fun es => P (d :: es))) : EvD K A (tCons ta tr) ds P := fun H0 H σ Q n q =>
  ha H0 H σ _ n fun v d H1 p1 x1 a1 => hr d p1 H0 H1 σ _ (n.xt x1) fun vs es H2 p2 x2 a2 => q (v :: vs) (d :: es) H2 p2 (x1.trans x2) (.cons (a1.kp (x1.inv n.inv) x2.kp) a2)
theorem ed_one {tr : TA} {d : PyData} {P : List PyData → Prop} (ha : Ev K A ta ds (Is d)) (hr : EvD K A tr ds (fun es => P (d :: es))) : EvD K A (tCons ta tr) ds P := ed_cons ha fun x hx => by subst hx; exact hr
theorem ea_nil {P : List SD → Prop} (h : P []) : EvA K A tNil ds P := fun H0 H σ Q n q => q [] [] H h (Xt.refl H) .nil
theorem ea_cons {tr : TA} {P : List SD → Prop} {Pa : PyData → Prop} (ha : Ev K A ta ds Pa) (hr : ∀ d, Pa d → EvA K A tr ds (fun es => P (.dat d :: es))) : EvA K A (tCons ta tr) ds P := fun H0 H σ Q n q =>
  ha H0 H σ _ n fun v d H1 p1 x1 a1 => hr d p1 H0 H1 σ _ (n.xt x1) fun vs es H2 p2 x2 a2 => q (v :: vs) (.dat d :: es) H2 p2 (x1.trans x2) (.cons (AtS.xt (d := .dat d) (x1.inv n.inv) x2 a1) a2)
theorem ea_one {tr : TA} {d : PyData} {P : List SD → Prop} (ha : Ev K A ta ds (Is d)) (hr : EvA K A tr ds (fun es => P (.dat d :: es))) : EvA K A (tCons ta tr) ds P := ea_cons ha fun x hx => by subst hx; exact hr
/-- a list as an argument -/
theorem ea_lst {tr : TA} {P : List SD → Prop} {Pa : List PyData → Prop} (ha : EvR K A ta ds Pa) (hr : ∀ d, Pa d → EvA K A tr ds (fun es => P (.lst d :: es))) : EvA K A (tCons ta tr) ds P := fun H0 H σ Q n q =>
  ha H0 H σ _ n fun a vs d H1 p1 x1 nt r a1 => hr d p1 H0 H1 σ _ (n.xt x1) fun ws es H2 p2 x2 a2 => q (.ref a :: ws) (.lst d :: es) H2 p2 (x1.trans x2) (.cons (AtS.xt (d := .lst d) (x1.inv n.inv) x2 ⟨a, vs, rfl, nt, r, a1⟩) a2)
theorem ea_raw {tr : TA} {P : List SD → Prop} {i : Nat} {v : V} (h : ds[i]? = some (.raw v)) (hr : EvA K A tr ds (fun es => P (.raw v :: es))) : EvA K A (tCons (tVar i) tr) ds P := fun H0 H σ Q n q =>
  ⟨v, n.slot i _ h, hr H0 H σ _ n fun ws es H2 p2 x2 a2 => q (v :: ws) (.raw v :: es) H2 p2 x2 (.cons rfl a2)⟩
theorem er_new {P : List PyData → Prop} (h : EvL K A te ds P) : EvR K A te ds P := fun H0 H σ Q n q => h H0 H σ _ n fun p vs es H' z np x hp a =>
  q p vs es H' z x (own_ne n.inv np) (.inl hp) a
theorem er_own {i : Nat} {es : List PyData} (h : ds[i]? = some (.own es)) : EvR K A (tVar i) ds (fun x => x = es) := fun H0 H σ Q n q => by
  obtain ⟨p, vs, e, np, hp, a⟩ := n.slot i _ h
  exact ⟨_, e, q p vs es H rfl (Xt.refl H) (own_ne n.inv0 np) (.inl hp) a⟩
theorem er_lst {i : Nat} {es : List PyData} (h : ds[i]? = some (.lst es)) : EvR K A (tVar i) ds (fun x => x = es) := fun H0 H σ Q n q => by
  obtain ⟨a, vs, e, nt, _, r, q1⟩ := n.slot i _ h
  exact ⟨_, e, q a vs es H rfl (Xt.refl H) nt r q1⟩
/-- (a, b, ..) -/
theorem ev_tup {t : TA} {Pd : List PyData → Prop} (h : EvD K A t ds Pd) (hl : ∀ es, Pd es → es.length ≤ 100000 ∧ P (.tuple es)) : Ev K A (tTup t) ds P := fun H0 H σ Q n q => h H0 H σ _ n fun vs es H1 p1 x1 a1 => by
  obtain ⟨hl, p⟩ := hl es p1
  refine ⟨by rw [a1.length]; exact Nat.le_trans hl (by decide), fun r hr => ?_⟩
  exact q _ (.tuple es) _ p (x1.trans (Xt.new hr)) (.tup (SqT.of upd_same) (a1.mono (sqt_new hr)))
theorem ev_tup1 {t : TA} {es : List PyData} (h : EvD K A t ds (fun x => x = es)) (hl : es.length ≤ 100000) : Ev K A (tTup t) ds (Is (.tuple es)) := ev_tup h fun x hx => by
  subst hx
  exact ⟨hl, rfl⟩
/-- [a, b, ..] -/
theorem el_lst {t : TA} {Pd P : List PyData → Prop} (h : EvD K A t ds Pd) (hl : ∀ es, Pd es → es.length ≤ 100000 ∧ P es) : EvL K A (tLst t) ds P := fun H0 H σ Q n q => h H0 H σ _ n fun vs es H1 p1 x1 a1 => by
  obtain ⟨hl, p⟩ := hl es p1
  refine ⟨by rw [a1.length]; exact Nat.le_trans hl (by decide), fun r hr => ?_⟩
  exact q r vs es _ p (x1.fr r hr) (x1.trans (Xt.new hr)) upd_same (a1.mono (sqt_new hr))
end
/-! ### promises -/
structure Le (B A : Amb) : Prop where
  tp : B.tp = []
  inv : ∀ H, A.inv H → B.inv H
  xt : ∀ H H', A.inv H → Xt B H H' → Xt A H H'
theorem Le.refl {A : Amb} (h : A.tp = []) : Le A A := ⟨h, fun _ h => h, fun _ _ _ h => h⟩
/-- G as P: called with as it hands back a datum of which P -/
abbrev Gd := List SD → (PyData → Prop) → Prop
abbrev Gl' := List SD → (List PyData → Prop) → Prop
def spD (K : PySem.W.Frag) (A : Amb) (G : Gd) : Sp := fun vs H Q _ => A.inv H ∧ ∃ as P, G as P ∧ AllS K A H vs as ∧ ∀ v d H', P d → Xt A H H' → At K H' v d → Q v H'
/-- .. a new list -/
def spL (K : PySem.W.Frag) (A : Amb) (G : Gl') : Sp := fun vs H Q _ => A.inv H ∧ ∃ as P, G as P ∧ AllS K A H vs as ∧ ∀ p ws es H', P es → H p = none → Xt A H H' → H' p = some (.lst ws) → AtAll K H' ws es → Q (.ref p) H'
section
variable {K : PySem.W.Frag} {A B : Amb} {ds : List SD} {t : TA}
theorem AtS.le {H : Hp} {v : V} {d : SD} (l : Le B A) (h : AtS K A H v d) : AtS K B H v d := by
  cases d with
  | emp => trivial
  | dat d => exact h
  | lst es => obtain ⟨a, vs, e, nt, r, q⟩ := h; exact ⟨a, vs, e, by rw [l.tp]; exact List.not_mem_nil, r, q⟩
  | own _ => exact h.elim
  | raw w => exact h
theorem AllS.le {H : Hp} (l : Le B A) : ∀ {vs : List V} {as : List SD}, AllS K A H vs as → AllS K B H vs as
  | _, _, .nil => .nil
  | _, _, .cons h a => .cons (h.le l) (AllS.le l a)
theorem ev_call {G : Gd} {P : PyData → Prop} {Pa : List SD → Prop} (l : Le B A) (h : EvA K A t ds Pa) (g : ∀ as, Pa as → ∃ P', G as P' ∧ ∀ d, P' d → P d) : Ev K A (tCall (spD K B G) [] E0 t) ds P := fun H0 H σ Q n q => h H0 H σ _ n fun vs as H1 p1 x1 a1 => by
  obtain ⟨P', g1, i⟩ := g as p1
  rw [List.append_nil]
  exact ⟨l.inv H1 (x1.inv n.inv), as, P', g1, a1.le l, fun v d H2 p2 x2 a2 => q v d H2 (i d p2) (x1.trans (l.xt H1 H2 (x1.inv n.inv) x2)) a2⟩
theorem el_call {G : Gl'} {P : List PyData → Prop} {Pa : List SD → Prop} (l : Le B A) (h : EvA K A t ds Pa) (g : ∀ as, Pa as → ∃ P', G as P' ∧ ∀ d, P' d → P d) : EvL K A (tCall (spL K B G) [] E0 t) ds P := fun H0 H σ Q n q => h H0 H σ _ n fun vs as H1 p1 x1 a1 => by
  obtain ⟨P', g1, i⟩ := g as p1
  rw [List.append_nil]
  exact ⟨l.inv H1 (x1.inv n.inv), as, P', g1, a1.le l, fun p ws es H2 p2 np x2 hp a2 => q p ws es H2 (i es p2) (x1.fr p np) (x1.trans (l.xt H1 H2 (x1.inv n.inv) x2)) hp a2⟩
/-- the function f of data, for such as the condition allows -/
def gF (f : List PyData → PyData → Prop) : Gd := fun as P => ∃ es d, f es d ∧ as = es.map .dat ∧ P = Is d
theorem ev_callF {f : List PyData → PyData → Prop} {es : List PyData} {d : PyData} (l : Le B A) (h : EvA K A t ds (fun as => as = es.map .dat)) (g : f es d) : Ev K A (tCall (spD K B (gF f)) [] E0 t) ds (Is d) :=
  ev_call l h fun as e => ⟨Is d, ⟨es, d, g, e, rfl⟩, fun _ p => p⟩
end
end K87
/-! Statements, loops, defs, by data. -/
namespace K87
open PySem PySem.Spec PyProof.Rows L2
/-- what is handed back: a datum, or a new list -/
abbrev RV := PyData ⊕ List PyData
def RetAt (K : PySem.W.Frag) (A : Amb) (H0 H : Hp) (v : V) : RV → Prop
  | .inl d => At K H v d
  | .inr es => ∃ p ws, v = .ref p ∧ H0 p = none ∧ H p = some (.lst ws) ∧ AtAll K H ws es
/-- what is wanted behind a statement, of the slots' data -/
structure Post where
  nx : List SD → Prop
  rt : RV → Prop
  bk : List SD → Prop := fun _ => False
  ct : List SD → Prop := fun _ => False
/-- p is the address of an own list -/
def Own (σ : L2.St) (ds : List SD) (p : Addr) : Prop := ∃ (i : Nat) (es : List PyData), ds[i]? = some (.own es) ∧ σ[i]? = some (some (.ref p))
/-- all is kept but the own lists -/
def Ks (A : Amb) (σ : L2.St) (ds : List SD) (H H' : Hp) : Prop := ∀ b o, H b = some o → (∀ ps, o ≠ .tbl ps) → b ∉ A.tp → ¬ Own σ ds b → H' b = some o
/-- from one state to a later one -/
structure Go (A : Amb) (σ : L2.St) (ds : List SD) (H : Hp) (σ' : L2.St) (es : List SD) (H' : Hp) : Prop where
  keep : Ks A σ ds H H'
  own : ∀ b, Own σ' es b → H b = none ∨ Own σ ds b
  fr : ∀ b, H' b = none → H b = none
def Rn (K : PySem.W.Frag) (A : Amb) (t : TS) (ds : List SD) (Po : Post) : Prop :=
  ∀ (H0 H : Hp) (σ : L2.St) (D : Ends), En K A H0 H σ ds → (∀ es σ' H', Po.nx es → En K A H0 H' σ' es → Go A σ ds H σ' es H' → D.nx σ' H') →
    (∀ v r H', Po.rt r → Xt A H0 H' → RetAt K A H0 H' v r → D.rt v H') → (∀ es σ' H', Po.bk es → En K A H0 H' σ' es → Go A σ ds H σ' es H' → D.bk σ' H') →
    (∀ es σ' H', Po.ct es → En K A H0 H' σ' es → Go A σ ds H σ' es H' → D.ct σ' H') → t D σ H
section
variable {K : PySem.W.Frag} {A : Amb} {ds es fs : List SD} {Po : Post} {te : TE} {t u : TS} {P : PyData → Prop} {d : PyData} {H0 H H1 H2 : Hp} {σ σ1 σ2 : L2.St}
theorem En.x0 (n : En K A H0 H σ ds) : Xt A H0 H := ⟨n.kp, fun _ => n.inv, n.fr⟩
theorem Go.of (x : Xt A H H1) : Go A σ ds H σ ds H1 := ⟨fun b o e n t _ => x.kp b o e n t, fun _ h => .inr h, x.fr⟩
theorem Go.trans (g : Go A σ ds H σ1 es H1) (g2 : Go A σ1 es H1 σ2 fs H2) : Go A σ ds H σ2 fs H2 :=
  ⟨fun b o e n t no => g2.keep b o (g.keep b o e n t no) n t fun z => (g.own b z).elim (fun q => by rw [e] at q; cases q) no,
    fun b z => (g2.own b z).elim (fun q => .inl (g.fr b q)) (g.own b), fun b z => g.fr b (g2.fr b z)⟩
theorem Own.less {p : Addr} (w : Less ds es) (h : Own σ es p) : Own σ ds p := by
  obtain ⟨i, ls, e1, e2⟩ := h
  rcases w.2 i _ e1 with z | z
  · cases z
  · exact ⟨i, ls, z, e2⟩
theorem Own.lst {p : Addr} (n : En K A H0 H σ ds) (h : Own σ ds p) : ∃ vs, H p = some (.lst vs) ∧ H0 p = none := by
  obtain ⟨i, ls, e1, e2⟩ := h
  obtain ⟨q, vs, e3, np, hp, _⟩ := n.slot i _ e1
  rw [e2] at e3
  cases e3
  exact ⟨vs, hp, np⟩
theorem Go.less (w : Less ds es) (g : Go A σ es H σ1 fs H1) : Go A σ ds H σ1 fs H1 :=
  ⟨fun b o e n t no => g.keep b o e n t fun z => no (z.less w), fun b z => (g.own b z).elim .inl fun q => .inr (q.less w), g.fr⟩
theorem Go.set {i : Nat} {v : V} {d : SD} (x : Xt A H H1) (h : ∀ ls, d = .own ls → ∃ p, v = .ref p ∧ H p = none) : Go A σ ds H (σ.set i (some v)) (ds.set i d) H1 :=
  ⟨fun b o e n t _ => x.kp b o e n t, fun b ⟨j, ls, e1, e2⟩ => by
    by_cases c : i = j
    · subst c
      rw [List.getElem?_set, if_pos rfl] at e1 e2
      split at e1
      · cases e1
        split at e2
        · obtain ⟨p, e, np⟩ := h ls rfl
          cases e
          cases e2
          exact .inl np
        · cases e2
      · cases e1
    · rw [List.getElem?_set_ne c] at e1 e2
      exact .inr ⟨j, ls, e1, e2⟩, x.fr⟩
theorem Rn.imp {Po' : Post} (h : Rn K A t ds Po) (h1 : ∀ es, Po.nx es → Po'.nx es) (h2 : ∀ r, Po.rt r → Po'.rt r) (h3 : ∀ es, Po.bk es → Po'.bk es) (h4 : ∀ es, Po.ct es → Po'.ct es) : Rn K A t ds Po' :=
  fun H0 H σ D n a b c e => h H0 H σ D n (fun es σ' H' z => a es σ' H' (h1 es z)) (fun v r H' z => b v r H' (h2 r z)) (fun es σ' H' z => c es σ' H' (h3 es z)) fun es σ' H' z => e es σ' H' (h4 es z)
theorem Rn.weak (h : Rn K A t es Po) (w : Less ds es) : Rn K A t ds Po := fun H0 H σ D n a b c e => h H0 H σ D (n.weak w) (fun fs σ' H' z n' g => a fs σ' H' z n' (g.less w)) b (fun fs σ' H' z n' g => c fs σ' H' z n' (g.less w)) (fun fs σ' H' z n' g => e fs σ' H' z n' (g.less w))
theorem rn_seq {M : List SD → Prop} (h1 : Rn K A t ds { Po with nx := M }) (h2 : ∀ es, M es → Rn K A u es Po) : Rn K A (tSeq t u) ds Po :=
  fun H0 H σ D n a b c e => h1 H0 H σ { D with nx := u D } n (fun es σ' H' m n' g => h2 es m H0 H' σ' D n' (fun fs σ2 H2 z n2 g2 => a fs σ2 H2 z n2 (g.trans g2)) b (fun fs σ2 H2 z n2 g2 => c fs σ2 H2 z n2 (g.trans g2)) (fun fs σ2 H2 z n2 g2 => e fs σ2 H2 z n2 (g.trans g2))) b c e
theorem rn_next (h : Po.nx ds) : Rn K A tNext ds Po := fun H0 H σ D n a _ _ _ => a ds σ H h n (Go.of (Xt.refl H))
theorem rn_break (h : Po.bk ds) : Rn K A tBreak ds Po := fun H0 H σ D n _ _ c _ => c ds σ H h n (Go.of (Xt.refl H))
theorem rn_cont (h : Po.ct ds) : Rn K A tCont ds Po := fun H0 H σ D n _ _ _ c => c ds σ H h n (Go.of (Xt.refl H))
theorem rn_asg {i : Nat} (h : Ev K A te ds P) (k : ∀ d, P d → Po.nx (ds.set i (.dat d))) : Rn K A (tAsg te (gName i)) ds Po := fun H0 H σ D n a _ _ _ =>
  h H0 H σ _ n fun v d H1 p x z => a _ _ H1 (k d p) ((n.xt x).set i ⟨v, rfl, z⟩) (Go.set x fun ls e => nomatch e)
theorem rn_asgS {i : Nat} (h : Ev K A te ds P) (k : ∀ d, P d → Rn K A u (ds.set i (.dat d)) Po) : Rn K A (tSeq (tAsg te (gName i)) u) ds Po :=
  rn_seq (M := fun es => ∃ d, P d ∧ es = ds.set i (.dat d)) (rn_asg h fun d p => ⟨d, p, rfl⟩) fun es ⟨d, p, e⟩ => by subst e; exact k d p
theorem rn_asg1 {i : Nat} (h : Ev K A te ds (Is d)) (k : Rn K A u (ds.set i (.dat d)) Po) : Rn K A (tSeq (tAsg te (gName i)) u) ds Po := rn_asgS h fun x e => by subst e; exact k
/-- a new list in a slot -/
theorem rn_asgL {i : Nat} {P : List PyData → Prop} (h : EvL K A te ds P) (k : ∀ es, P es → Po.nx (ds.set i (.own es))) : Rn K A (tAsg te (gName i)) ds Po := fun H0 H σ D n a _ _ _ =>
  h H0 H σ _ n fun p vs es H1 z np x hp q => a _ _ H1 (k es z) ((n.xt x).set i ⟨p, vs, rfl, n.fr p np, hp, q⟩) (Go.set x fun ls e => ⟨p, rfl, np⟩)
theorem rn_asgLS {i : Nat} {P : List PyData → Prop} (h : EvL K A te ds P) (k : ∀ es, P es → Rn K A u (ds.set i (.own es)) Po) : Rn K A (tSeq (tAsg te (gName i)) u) ds Po :=
  rn_seq (M := fun es => ∃ d, P d ∧ es = ds.set i (.own d)) (rn_asgL h fun d p => ⟨d, p, rfl⟩) fun es ⟨d, p, e⟩ => by subst e; exact k d p
theorem rn_if {tc : TT} {Pb : Bool → Prop} (h : EvT K A tc ds Pb) (h1 : Pb true → Rn K A t ds Po) (h2 : Pb false → Rn K A u ds Po) : Rn K A (tIfS tc t u) ds Po := fun H0 H σ D n a b c e =>
  h H0 H σ _ n fun k H1 p x => by
    have back : ∀ {fs : List SD} {σ' : L2.St} {H' : Hp}, Go A σ ds H1 σ' fs H' → Go A σ ds H σ' fs H' := fun g => (Go.of x).trans g
    cases k with
    | true => exact h1 p H0 H1 σ D (n.xt x) (fun es σ' H' z n' g => a es σ' H' z n' (back g)) b (fun es σ' H' z n' g => c es σ' H' z n' (back g)) (fun es σ' H' z n' g => e es σ' H' z n' (back g))
    | false => exact h2 p H0 H1 σ D (n.xt x) (fun es σ' H' z n' g => a es σ' H' z n' (back g)) b (fun es σ' H' z n' g => c es σ' H' z n' (back g)) (fun es σ' H' z n' g => e es σ' H' z n' (back g))
theorem rn_ifS {tc : TT} {v : TS} {Pb : Bool → Prop} (h : EvT K A tc ds Pb) (h1 : Pb true → Rn K A (tSeq t v) ds Po) (h2 : Pb false → Rn K A (tSeq u v) ds Po) : Rn K A (tSeq (tIfS tc t u) v) ds Po :=
  fun H0 H σ D n a b c e => rn_if (t := tSeq t v) (u := tSeq u v) h h1 h2 H0 H σ D n a b c e
/-- pass, then the rest -/
theorem rn_nextS (h : Rn K A u ds Po) : Rn K A (tSeq tNext u) ds Po := fun H0 H σ D n a b c e => h H0 H σ D n a b c e
/-- what follows a return is not run -/
theorem rn_retS (h : Rn K A (tRet te) ds { Po with nx := fun _ => False }) : Rn K A (tSeq (tRet te) u) ds Po :=
  rn_seq (M := fun _ => False) h fun _ z => z.elim
/-- an if whose branch leaves the def -/
theorem rn_ret (h : Ev K A te ds P) (k : ∀ d, P d → Po.rt (.inl d)) : Rn K A (tRet te) ds Po := fun H0 H σ D n _ b _ _ =>
  h H0 H σ _ n fun v d H1 p x z => b v (.inl d) H1 (k d p) (n.xt x).x0 z
theorem rn_ret1 (h : Ev K A te ds (Is d)) (k : Po.rt (.inl d)) : Rn K A (tRet te) ds Po := rn_ret h fun x e => by subst e; exact k
theorem rn_retL {P : List PyData → Prop} (h : EvL K A te ds P) (k : ∀ d, P d → Po.rt (.inr d)) : Rn K A (tRet te) ds Po := fun H0 H σ D n _ b _ _ =>
  h H0 H σ _ n fun p vs es H1 z np x hp q => b _ (.inr es) H1 (k es z) (n.xt x).x0 ⟨p, vs, rfl, n.fr p np, hp, q⟩
theorem rn_retO {i : Nat} {es : List PyData} (h : ds[i]? = some (.own es)) (k : Po.rt (.inr es)) : Rn K A (tRet (tVar i)) ds Po := fun H0 H σ D n _ b _ _ => by
  obtain ⟨p, vs, e, np, hp, a⟩ := n.slot i _ h
  exact ⟨_, e, b _ (.inr es) H k n.x0 ⟨p, vs, rfl, np, hp, a⟩⟩
theorem rn_retN (k : Po.rt (.inl .none)) : Rn K A tRetN ds Po := fun H0 H σ D n _ b _ _ => b .non (.inl .none) H k n.x0 .non
theorem rn_drop {P : PyData → Prop} (h : Ev K A te ds P) (k : Po.nx ds) : Rn K A (tDrop te) ds Po := fun H0 H σ D n a _ _ _ =>
  h H0 H σ _ n fun v d H1 p x z => a ds σ H1 k (n.xt x) (Go.of x)
theorem rn_never : False → Rn K A tNever ds Po := fun h => h.elim
/-- the one own list changes -/
theorem less_noOwn : ∀ ds : List SD, Less ds (ds.map noOwn)
  | ds => ⟨List.length_map _, fun i d e => by
    rw [List.getElem?_map] at e
    cases q : ds[i]? with
    | none => rw [q] at e; cases e
    | some x =>
      rw [q] at e
      cases x with
      | own es => exact .inl (Option.some.inj e).symm
      | _ => exact .inr e⟩
theorem go_own {i : Nat} {es fs : List PyData} {p : Addr} {ws : List V} (hi : ds[i]? = some (.own es)) (e : σ[i]? = some (some (.ref p))) (x : Xt A H H1) : Go A σ ds H σ ((ds.map noOwn).set i (.own fs)) (upd H1 p (.lst ws)) := by
  refine ⟨fun b o eb n t no => ?_, fun b ⟨j, ls, e1, e2⟩ => ?_, fun b eb => ?_⟩
  · have nb : b ≠ p := fun z => no (by rw [z]; exact ⟨i, es, hi, e⟩)
    rw [upd_ne nb]
    exact x.kp b o eb n t
  · by_cases c : i = j
    · subst c
      rw [e] at e2
      cases e2
      exact .inr ⟨i, es, hi, e⟩
    · rw [List.getElem?_set_ne c] at e1
      exact .inr (Own.less (less_noOwn ds) ⟨j, ls, e1, e2⟩)
  · unfold upd at eb
    split at eb
    · cases eb
    · exact x.fr b eb
theorem En.own {H0 H : Hp} {σ : L2.St} {i : Nat} {es fs : List PyData} {p : Addr} {vs ws : List V} (n : En K A H0 H σ ds) (hi : ds[i]? = some (.own es)) (e : σ[i]? = some (some (.ref p))) (np : H0 p = none) (hp : H p = some (.lst vs)) (q : AtAll K H ws fs) :
    En K A H0 (upd H p (.lst ws)) σ ((ds.map noOwn).set i (.own fs)) := by
  have nt := own_ne n.inv0 np
  refine ⟨n.inv0, A.wrt H p vs ws n.inv hp nt, n.kp.mut np, fun b eb => ?_, by rw [List.length_set, List.length_map]; exact n.len, fun j d hj => ?_⟩
  · unfold upd at eb
    split at eb
    · cases eb
    · exact n.fr b eb
  · by_cases c : i = j
    · subst c
      rw [List.getElem?_set, if_pos rfl] at hj
      split at hj
      · cases hj
        exact ⟨p, ws, e, np, upd_same, q.mono (sqt_upd hp)⟩
      · cases hj
    · rw [List.getElem?_set_ne c] at hj
      rcases (less_noOwn ds).2 j d hj with z | z
      · rw [z]; trivial
      · have s := n.slot j d z
        cases d with
        | emp => trivial
        | dat d => obtain ⟨v, e1, a⟩ := s; exact ⟨v, e1, a.mono (sqt_upd hp)⟩
        | lst ls =>
          obtain ⟨a, us, e1, nt, r0, r, q1⟩ := s
          have nap : a ≠ p := fun z => by
            rw [z] at r0
            rcases r0 with r0 | ⟨u, r0⟩ <;> rw [np] at r0 <;> cases r0
          refine ⟨a, us, e1, nt, r0, ?_, q1.mono (sqt_upd hp)⟩
          rcases r with r | ⟨u, r⟩
          · exact .inl (by rw [upd_ne nap]; exact r)
          · exact .inr ⟨u, by rw [upd_ne nap]; exact r⟩
        | own ls =>
          rw [List.getElem?_map, z] at hj
          cases hj
        | raw v => exact s
theorem rn_app {i : Nat} {es : List PyData} (hi : ds[i]? = some (.own es)) (h : Ev K A te ds P) (hz : es.length < 100000) (k : ∀ d, P d → Po.nx ((ds.map noOwn).set i (.own (es ++ [d])))) : Rn K A (tDrop (tBM K "list" rAppend (tVar i) (tCons te tNil))) ds Po := fun H0 H σ D n a _ _ _ => by
  obtain ⟨p, vs, e, np, hp, q⟩ := n.slot i _ hi
  refine ⟨_, e, .inl ⟨rfl, vs, .inl (.inl hp)⟩, h H0 H σ _ n fun v d H1 p1 x z => ?_⟩
  have n1 := n.xt x
  obtain ⟨p', vs', e', np', hp', q'⟩ := n1.slot i _ hi
  rw [e] at e'
  cases e'
  refine ⟨p, vs', v, rfl, rfl, hp', by rw [q'.length]; exact Nat.lt_of_lt_of_le hz (by decide), a _ _ _ (k d p1) (n1.own hi e np hp' (q'.append (.cons z .nil))) (go_own hi e x)⟩
theorem rn_appS {i : Nat} {es : List PyData} (hi : ds[i]? = some (.own es)) (h : Ev K A te ds P) (hz : es.length < 100000) (k : ∀ d, P d → Rn K A u ((ds.map noOwn).set i (.own (es ++ [d]))) Po) : Rn K A (tSeq (tDrop (tBM K "list" rAppend (tVar i) (tCons te tNil))) u) ds Po :=
  rn_seq (M := fun x => ∃ d, P d ∧ x = (ds.map noOwn).set i (.own (es ++ [d]))) (rn_app hi h hz fun d p => ⟨d, p, rfl⟩) fun es ⟨d, p, e⟩ => by subst e; exact k d p
theorem rn_ext {i : Nat} {es : List PyData} {P : List PyData → Prop} (hi : ds[i]? = some (.own es)) (h : EvL K A te ds P) (hz : ∀ fs, P fs → es.length + fs.length ≤ 100000) (k : ∀ fs, P fs → Po.nx ((ds.map noOwn).set i (.own (es ++ fs)))) : Rn K A (tDrop (tBM K "list" rExtend (tVar i) (tCons te tNil))) ds Po := fun H0 H σ D n a _ _ _ => by
  obtain ⟨p, vs, e, np, hp, q⟩ := n.slot i _ hi
  refine ⟨_, e, .inl ⟨rfl, vs, .inl (.inl hp)⟩, h H0 H σ _ n fun r ws fs H1 p1 nr x hr z => ?_⟩
  have n1 := n.xt x
  obtain ⟨p', vs', e', np', hp', q'⟩ := n1.slot i _ hi
  rw [e] at e'
  cases e'
  refine ⟨p, r, vs', ws, rfl, rfl, hp', hr, by rw [q'.length, z.length]; exact Nat.le_trans (hz fs p1) (by decide), a _ _ _ (k fs p1) (n1.own hi e np hp' (q'.append z)) (go_own hi e x)⟩
/-- a[j] = e on the own list -/
theorem rn_setL {i : Nat} {es : List PyData} {j : Int} {m : Nat} {tj : TE} (hi : ds[i]? = some (.own es)) (h : Ev K A te ds (Is d)) (hj : Ev K A tj ds (Is (.int j))) (hm : ixN es.length j = some m) (k : Po.nx ((ds.map noOwn).set i (.own (es.set m d)))) : Rn K A (tAsg te (gSub (tVar i) tj rSetL)) ds Po := fun H0 H σ D n a _ _ _ =>
  h H0 H σ _ n fun v d H1 p1 x1 z => by
    subst p1
    have n1 := n.xt x1
    obtain ⟨p, vs, e, np, hp, q⟩ := n1.slot i _ hi
    refine ⟨_, e, hj H0 H1 σ _ n1 fun y c H2 p2 x2 zj => ?_⟩
    subst p2
    cases zj
    have n2 := n1.xt x2
    obtain ⟨p', vs', e', np', hp', q'⟩ := n2.slot i _ hi
    rw [e] at e'
    cases e'
    exact ⟨p, vs', j, m, rfl, rfl, hp', by rw [q'.length]; exact hm, a _ _ _ k (n2.own hi e np hp' (q'.set (z.kp n1.inv x2.kp) m)) (go_own hi e (x1.trans x2))⟩
/-- x += e -/
theorem rn_aug {i : Nat} {f : Int → Int → Int} {a b : Int} (hx : ds[i]? = some (.dat (.int a))) (h : Ev K A te ds (Is (.int b))) (k : Po.nx (ds.set i (.dat (.int (f a b))))) : Rn K A (tAug i te (ipI f)) ds Po := fun H0 H σ D n c _ _ _ => by
  obtain ⟨v, e, z⟩ := n.slot i _ hx
  cases z
  exact ⟨_, e, h H0 H σ _ n fun y d H1 p x w => by
    subst p
    cases w
    exact ⟨a, b, rfl, rfl, c _ _ H1 k ((n.xt x).set i ⟨_, rfl, .int _⟩) (Go.set x fun ls e => nomatch e)⟩⟩

/-! ### targets -/
def EvG (K : PySem.W.Frag) (A : Amb) (g : TG) (js : List Nat) (d : PyData) (ds es : List SD) : Prop :=
  ∀ (H0 H : Hp) (σ : L2.St) (v : V) (Q : L2.St → Hp → Prop), En K A H0 H σ ds → At K H v d → (∀ σ', En K A H0 H σ' es → Go A σ ds H σ' es H → (∀ vs : List Nat, (∀ j ∈ js, j ∈ vs) → L2.wipe σ' vs = L2.wipe σ vs) → Q σ' H) → g v σ H Q
def EvGs (K : PySem.W.Frag) (A : Amb) (g : TGs) (js : List Nat) (l : List PyData) (ds es : List SD) : Prop :=
  ∀ (H0 H : Hp) (σ : L2.St) (vs : List V) (Q : L2.St → Hp → Prop), En K A H0 H σ ds → AtAll K H vs l → (∀ σ', En K A H0 H σ' es → Go A σ ds H σ' es H → (∀ vs : List Nat, (∀ j ∈ js, j ∈ vs) → L2.wipe σ' vs = L2.wipe σ vs) → Q σ' H) → g vs σ H Q
theorem wipe_set {x : Option V} : ∀ {vs : List Nat} {j : Nat} {σ : L2.St}, j ∈ vs → L2.wipe (σ.set j x) vs = L2.wipe σ vs
  | v :: vs, j, σ, h => by
    show (L2.wipe (σ.set j x) vs).set v none = (L2.wipe σ vs).set v none
    by_cases c : j ∈ vs
    · rw [wipe_set c]
    · have e : v = j := by
        rcases List.mem_cons.mp h with z | z
        · exact z.symm
        · exact absurd z c
      subst e
      apply List.ext_getElem?
      intro k
      by_cases ck : v = k
      · subst ck
        rw [List.getElem?_set, List.getElem?_set, if_pos rfl, if_pos rfl, wipe_length, wipe_length, List.length_set]
      · rw [List.getElem?_set_ne ck, List.getElem?_set_ne ck]
        by_cases m : k ∈ vs
        · have z : ∀ τ : L2.St, (L2.wipe τ vs)[k]? = if k < τ.length then some none else none := fun τ => by
            have g : ∀ (ws : List Nat), k ∈ ws → (L2.wipe τ ws)[k]? = if k < τ.length then some none else none := by
              intro ws
              induction ws with
              | nil => intro h; cases h
              | cons w ws ih =>
                intro hw
                show ((L2.wipe τ ws).set w none)[k]? = _
                by_cases cw : w = k
                · subst cw
                  rw [List.getElem?_set, if_pos rfl, wipe_length]
                · rw [List.getElem?_set_ne cw]
                  exact ih ((List.mem_cons.mp hw).elim (fun z => absurd z.symm cw) id)
            exact g vs m
          rw [z, z, List.length_set]
        · have z : ∀ τ : L2.St, (L2.wipe τ vs)[k]? = τ[k]? := fun τ => by
            have g : ∀ (ws : List Nat), k ∉ ws → (L2.wipe τ ws)[k]? = τ[k]? := by
              intro ws
              induction ws with
              | nil => intro _; rfl
              | cons w ws ih =>
                intro hw
                rw [List.mem_cons, not_or] at hw
                show ((L2.wipe τ ws).set w none)[k]? = _
                rw [List.getElem?_set_ne (fun z => hw.1 z.symm)]
                exact ih hw.2
            exact g vs m
          rw [z, z, List.getElem?_set_ne ck]
theorem wipe_wipe : ∀ (vs : List Nat) (σ : L2.St), L2.wipe (L2.wipe σ vs) vs = L2.wipe σ vs := by
  intro vs σ
  have g : ∀ (ws : List Nat), (∀ w ∈ ws, w ∈ vs) → L2.wipe (L2.wipe σ ws) vs = L2.wipe σ vs := by
    intro ws
    induction ws with
    | nil => intro _; rfl
    | cons w ws ih =>
      intro h
      show L2.wipe ((L2.wipe σ ws).set w none) vs = _
      rw [wipe_set (h w List.mem_cons_self)]
      exact ih fun x hx => h x (List.mem_cons_of_mem _ hx)
  exact g vs fun _ h => h
theorem eg_name {i : Nat} : EvG K A (gName i) [i] d ds (ds.set i (.dat d)) := fun H0 H σ v Q n a k =>
  k _ (n.set i ⟨v, rfl, a⟩) (Go.set (Xt.refl H) fun ls e => nomatch e) fun vs h => wipe_set (h i List.mem_cons_self)
theorem egs_nil : EvGs K A gNil [] [] ds ds := fun H0 H σ v Q n a k => by
  cases a
  exact ⟨rfl, k σ n (Go.of (Xt.refl H)) fun _ _ => rfl⟩
theorem egs_cons {g : TG} {gs : TGs} {js ks : List Nat} {l : List PyData} (h1 : EvG K A g js d ds es) (h2 : EvGs K A gs ks l es fs) : EvGs K A (gCons g gs) (js ++ ks) (d :: l) ds fs := fun H0 H σ v Q n a k => by
  cases a with
  | cons x a =>
    exact ⟨_, _, rfl, h1 H0 H σ _ _ n x fun σ1 n1 g1 w1 => h2 H0 H σ1 _ Q n1 a fun σ2 n2 g2 w2 => k σ2 n2 (g1.trans g2) fun vs h => (w2 vs fun j hj => h j (List.mem_append_right _ hj)).trans (w1 vs fun j hj => h j (List.mem_append_left _ hj))⟩
theorem eg_tup {gs : TGs} {js : List Nat} {l : List PyData} {m : Nat} (h : EvGs K A gs js l ds es) (hm : l.length = m) : EvG K A (gTup K m gs) js (.tuple l) ds es := fun H0 H σ v Q n a k => by
  cases a with
  | tup s a => exact ⟨_, _, rfl, s, by rw [a.length]; exact hm, h H0 H σ _ Q n a k⟩
/-- target = e, any target -/
theorem rn_asgG {g : TG} {js : List Nat} {P : PyData → Prop} (h : Ev K A te ds P) (k : ∀ d, P d → ∃ es, EvG K A g js d ds es ∧ Po.nx es) : Rn K A (tAsg te g) ds Po := fun H0 H σ D n a _ _ _ =>
  h H0 H σ _ n fun v d H1 p x z => by
    obtain ⟨es, eg, q⟩ := k d p
    exact eg H0 H1 σ v _ (n.xt x) z fun σ' n' g' _ => a es σ' H1 q n' ((Go.of x).trans g')

/-! ### loops -/
/-- what is walked: n turns, the i-th gives a datum of which Y i -/
def EvI (K : PySem.W.Frag) (A : Amb) (wi : TI) (ds : List SD) (n : Nat) (Y : Nat → PyData → Prop) : Prop :=
  ∀ (H0 H : Hp) (σ : L2.St) (R : It → Hp → Prop), En K A H0 H σ ds →
    (∀ (J : It) (H' : Hp) (G : Hp → Prop) (YV : Nat → Hp → V → Hp → Prop), Xt A H H' → Walk J n G YV → (∀ H1, A.inv H1 → Ks A σ ds H' H1 → G H1) →
      (∀ (i : Nat) (H1 : Hp) (x : V) (H2 : Hp), i < n → A.inv H1 → Ks A σ ds H' H1 → YV i H1 x H2 → Xt A H1 H2 ∧ ∃ d, Y i d ∧ At K H2 x d) → R J H') → wi σ H R
theorem ks_tup (n : En K A H0 H σ ds) (k : Ks A σ ds H H1) (a : Addr) (vs : List V) (h : SqT K H a vs) : SqT K H1 a vs := by
  have no : ∀ o, H a = some o → (∀ xs, o ≠ .lst xs) → a ∉ A.tp ∧ ¬ Own σ ds a := fun o e nl => by
    refine ⟨fun z => ?_, fun z => ?_⟩
    · obtain ⟨xs, q⟩ := A.lst H a n.inv z
      rw [e] at q
      exact nl xs (Option.some.inj q)
    · obtain ⟨xs, q, _⟩ := z.lst n
      rw [e] at q
      exact nl xs (Option.some.inj q)
  rcases h with (h | ⟨o, h⟩) | h
  · obtain ⟨n1, n2⟩ := no _ h fun _ z => nomatch z
    exact .inl (.inl (k a _ h (fun _ z => nomatch z) n1 n2))
  · obtain ⟨n1, n2⟩ := no _ h fun _ z => nomatch z
    exact .inl (.inr ⟨o, k a _ h (fun _ z => nomatch z) n1 n2⟩)
  · exact .inr h
theorem ei_tup {l : List PyData} (h : Ev K A te ds (Is (.tuple l))) : EvI K A (iTup K te) ds l.length (fun i d => l[i]? = some d) := fun H0 H σ R n q => h H0 H σ _ n fun v d H1 p x a => by
  subst p
  have n1 := n.xt x
  cases a with
  | @tup a vs _ hs hall =>
    refine ⟨a, rfl, ⟨vs, hs⟩, q _ H1 _ _ x (by rw [← hall.length]; exact walk_tup (xs := vs)) (fun H2 i2 k => ks_tup n1 k a vs hs) fun i H2 y H3 hi i2 k e => ?_⟩
    obtain ⟨e1, e2⟩ := e
    subst e1
    obtain ⟨d, e3, ad⟩ := hall.getv e2
    exact ⟨Xt.refl _, d, e3, ad.mono (ks_tup n1 k)⟩
/-- over a new list -/
theorem ei_new {l : List PyData} (h : EvL K A te ds (fun x => x = l)) : EvI K A (iList K te) ds l.length (fun i d => l[i]? = some d) := fun H0 H σ R n q => h H0 H σ _ n fun a vs es H1 p np x ha hall => by
  subst p
  have n1 := n.xt x
  have na : a ∉ A.tp := own_ne n.inv np
  have no : ¬ Own σ ds a := fun z => by
    obtain ⟨xs, e, _⟩ := z.lst n
    rw [np] at e
    cases e
  refine ⟨a, rfl, ⟨vs, SqL.of ha⟩, q _ H1 _ _ x (by rw [← hall.length]; exact walk_list (xs := vs)) (fun H2 i2 k => SqL.of (k a _ ha (fun _ z => nomatch z) na no)) fun i H2 y H3 hi i2 k e => ?_⟩
  obtain ⟨e1, e2⟩ := e
  subst e1
  obtain ⟨d, e3, ad⟩ := hall.getv e2
  exact ⟨Xt.refl _, d, e3, ad.mono (ks_tup n1 k)⟩
/-- over a list that stood at the entry -/
theorem ei_lst {l : List PyData} {i : Nat} (h : ds[i]? = some (.lst l)) : EvI K A (iList K (tVar i)) ds l.length (fun i d => l[i]? = some d) := fun H0 H σ R n q => by
  obtain ⟨a, vs, e, nt, r0, r, hall⟩ := n.slot i _ h
  have no : ¬ Own σ ds a := fun z => by
    obtain ⟨xs, _, e0⟩ := z.lst n
    rcases r0 with r0 | ⟨u, r0⟩ <;> rw [e0] at r0 <;> cases r0
  refine ⟨_, e, a, rfl, ⟨vs, .inl r⟩, q _ H _ _ (Xt.refl H) (by rw [← hall.length]; exact walk_list (xs := vs)) (fun H2 i2 k => ?_) fun i H2 y H3 hi i2 k e => ?_⟩
  · rcases r with r | ⟨u, r⟩
    · exact .inl (.inl (k a _ r (fun _ z => nomatch z) nt no))
    · exact .inl (.inr ⟨u, k a _ r (fun _ z => nomatch z) nt no⟩)
  · obtain ⟨e1, e2⟩ := e
    subst e1
    obtain ⟨d, e3, ad⟩ := hall.getv e2
    exact ⟨Xt.refl _, d, e3, ad.mono (ks_tup n k)⟩
theorem ei_range {m : Int} (h : Ev K A te ds (Is (.int m))) (h0 : 0 ≤ m) (h1 : m < 2 ^ 62) : EvI K A (iRng1 (tCons te tNil)) ds m.toNat (fun i d => d = .int (i : Int)) := fun H0 H σ R n q => h H0 H σ _ n fun v d H1 p x a => by
  subst p
  cases a
  refine ⟨m, rfl, by omega, h1, q _ H1 _ _ x (walk_range (lo := 0) (n := m.toNat)) (fun _ _ _ => trivial) fun i H2 y H3 hi i2 k e => ?_⟩
  obtain ⟨e1, e2⟩ := e
  subst e1 e2
  refine ⟨Xt.refl _, .int (i : Int), rfl, ?_⟩
  have e0 : (0 : Int) + (i : Int) = (i : Int) := Int.zero_add _
  show At K _ (V.int ((0 : Int) + (i : Int))) _
  rw [e0]
  exact .int _
theorem ei_str {z : Str} (h : Ev K A te ds (Is (.str z))) : EvI K A (iStr te) ds z.cps.size (fun i d => ∃ c, z.cps[i]? = some c ∧ d = .str ⟨#[c]⟩) := fun H0 H σ R n q => h H0 H σ _ n fun v d H1 p x a => by
  subst p
  cases a
  refine ⟨z, rfl, q _ H1 _ _ x (walk_str (z := z)) (fun _ _ _ => trivial) fun i H2 y H3 hi i2 k e => ?_⟩
  obtain ⟨e1, c, e2, e3⟩ := e
  subst e1 e3
  exact ⟨Xt.refl _, _, ⟨c, e2, rfl⟩, .str _⟩
/-- THE for loop: S i holds of the slots ahead of turn i -/
theorem rn_for {wi : TI} {g : TG} {tb : TS} {m : Nat} {Y : Nat → PyData → Prop} (S : Nat → List SD → Prop) (h : EvI K A wi ds m Y) (h0 : S 0 ds)
    (hs : ∀ i es d, i < m → S i es → Y i d → ∃ js fs, EvG K A g js d es fs ∧ Rn K A tb fs { nx := S (i + 1), ct := S (i + 1), bk := Po.nx, rt := Po.rt }) (hd : ∀ es, S m es → Po.nx es) : Rn K A (tFor wi g tb) ds Po :=
  fun H0 H σ D n a b _ _ => h H0 H σ _ n fun J H1 G YV x w hG hY => by
    have n1 := n.xt x
    refine for_it w (fun i σ' H' => ∃ es, S i es ∧ En K A H0 H' σ' es ∧ Go A σ ds H1 σ' es H') ⟨ds, h0, n1, Go.of (Xt.refl H1)⟩ (fun i σ' H' _ ⟨es, _, n', g'⟩ => hG H' n'.inv g'.keep) ?_ ?_
    · rintro i y σ' H' H2 hi ⟨es, si, n', g'⟩ yv
      obtain ⟨x2, d, yd, ad⟩ := hY i H' y H2 hi n'.inv g'.keep yv
      obtain ⟨js, fs, eg, rn⟩ := hs i es d hi si yd
      refine eg H0 H2 σ' y _ (n'.xt x2) ad fun σ3 n3 g3 _ => ?_
      have g4 : Go A σ ds H1 σ3 fs H2 := g'.trans ((Go.of x2).trans g3)
      exact rn H0 H2 σ3 _ n3 (fun es σ' H' z n' g => ⟨es, z, n', g4.trans g⟩) b (fun es σ' H' z n' g => a es σ' H' z n' ((Go.of x).trans (g4.trans g))) (fun es σ' H' z n' g => ⟨es, z, n', g4.trans g⟩)
    · rintro σ' H' ⟨es, si, n', g'⟩
      exact a es σ' H' (hd es si) n' ((Go.of x).trans g')
theorem rn_forS {wi : TI} {g : TG} {tb : TS} {m : Nat} {Y : Nat → PyData → Prop} (S : Nat → List SD → Prop) (h : EvI K A wi ds m Y) (h0 : S 0 ds)
    (hs : ∀ i es d, i < m → S i es → Y i d → ∃ js fs, EvG K A g js d es fs ∧ Rn K A tb fs { nx := S (i + 1), ct := S (i + 1), bk := S m, rt := Po.rt }) (hd : ∀ es, S m es → Rn K A u es Po) : Rn K A (tSeq (tFor wi g tb) u) ds Po :=
  rn_seq (M := S m) (rn_for S h h0 hs fun _ z => z) hd
/-- while: S, its measure falls -/
theorem rn_while {tc : TT} {tb : TS} (S : Nat → List SD → Prop) (m0 : Nat) (h0 : S m0 ds)
    (hs : ∀ m es, S m es → ∃ Pb, EvT K A tc es Pb ∧ (Pb true → Rn K A tb es { nx := fun fs => ∃ k, k < m ∧ S k fs, ct := fun fs => ∃ k, k < m ∧ S k fs, bk := Po.nx, rt := Po.rt }) ∧ (Pb false → Po.nx es)) : Rn K A (tWhile tc tb) ds Po :=
  fun H0 H σ D n a b _ _ => by
    refine ⟨fun m σ' H' => ∃ es, S m es ∧ En K A H0 H' σ' es ∧ Go A σ ds H σ' es H', ⟨m0, ds, h0, n, Go.of (Xt.refl H)⟩, ?_⟩
    rintro m σ' H' ⟨es, si, n', g'⟩
    obtain ⟨Pb, ht, h1, h2⟩ := hs m es si
    refine ht H0 H' σ' _ n' fun k H2 p x => ?_
    have g2 := g'.trans (Go.of (σ := σ') (ds := es) x)
    cases k with
    | true =>
      refine ⟨fun σ3 H3 => ∃ k, k < m ∧ ∃ es, S k es ∧ En K A H0 H3 σ3 es ∧ Go A σ ds H σ3 es H3, fun σ3 H3 z => z, ?_⟩
      exact h1 p H0 H2 σ' _ (n'.xt x) (fun es σ' H' ⟨k, hk, z⟩ n' g => ⟨k, hk, es, z, n', g2.trans g⟩) b (fun es σ' H' z n' g => a es σ' H' z n' (g2.trans g)) (fun es σ' H' ⟨k, hk, z⟩ n' g => ⟨k, hk, es, z, n', g2.trans g⟩)
    | false => exact a es σ' H2 (h2 p) (n'.xt x) g2
/-- [e for .. in .. if ..]: Z i what is made so far -/
theorem el_lc {wi : TI} {g : TG} {tt : TT} {m : Nat} {ws : List Nat} {Y : Nat → PyData → Prop} {P : List PyData → Prop} (Z : Nat → List PyData → Prop) (h : EvI K A wi ds m Y) (hz : Z 0 [])
    (hl : ∀ i acc, i < m → Z i acc → acc.length < 100000)
    (hs : ∀ i acc d, i < m → Z i acc → Y i d → ∃ js fs Pb, EvG K A g js d (wipeD ds ws) fs ∧ (∀ j ∈ js, j ∈ ws) ∧ EvT K A tt fs Pb ∧ (Pb true → Ev K A te fs (fun y => Z (i + 1) (acc ++ [y]))) ∧ (Pb false → Z (i + 1) acc))
    (hd : ∀ acc, Z m acc → P acc) : EvL K A (tLc wi g tt te ws) ds P := fun H0 H σ Q n q => h H0 H σ _ n fun J H1 G YV x w hG hY => by
  have n1 := n.xt x
  intro Dl hD
  have inv : ∀ {H' : Hp}, Xt A H1 H' → Ks A σ ds H1 H' := fun x' b o e nt t _ => x'.kp b o e nt t
  refine lc_it w (fun i H' => ∃ acc us, Z i acc ∧ H' Dl = some (.lst us) ∧ AtAll K H' us acc ∧ Xt A H1 H') ⟨[], [], hz, upd_same, .nil, Xt.new hD⟩ (fun i H' _ ⟨_, _, _, _, _, x'⟩ => hG H' (x'.inv n1.inv) (inv x')) ?_ ?_
  · rintro i y H' H2 hi ⟨acc, us, zi, hus, hacc, x'⟩ yv
    obtain ⟨x2, d, yd, ad⟩ := hY i H' y H2 hi (x'.inv n1.inv) (inv x') yv
    obtain ⟨js, fs, Pb, eg, hj, ht, h1, h2⟩ := hs i acc d hi zi yd
    have n2 : En K A H0 H2 (L2.wipe σ ws) (wipeD ds ws) := ((n1.xt x').xt x2).wipe ws
    refine eg H0 H2 _ y _ n2 ad fun σ3 n3 _ w3 => ?_
    refine ⟨(w3 ws hj).trans (wipe_wipe ws σ), ht H0 H2 σ3 _ n3 fun b H3 pb x3 => ?_⟩
    have x4 : Xt A H1 H3 := x'.trans (x2.trans x3)
    have keep : ∀ {Ha Hb : Hp} {vs : List V}, A.inv Ha → Xt A Ha Hb → Ha Dl = some (.lst vs) → Hb Dl = some (.lst vs) := fun i x e => x.kp Dl _ e (fun _ z => nomatch z) (own_ne n1.inv hD)
    have i' := x'.inv n1.inv
    cases b with
    | true =>
      show te σ3 H3 _
      refine h1 pb H0 H3 σ3 _ (n3.xt x3) fun yv c H4 pz x5 ac => ?_
      have x25 := x2.trans (x3.trans x5)
      have hD4 := keep i' x25 hus
      have hacc4 := hacc.kp i' x25.kp
      refine ⟨us, hD4, by rw [hacc.length]; exact Nat.lt_of_lt_of_le (hl i acc hi zi) (by decide), acc ++ [c], us ++ [yv], pz, upd_same, ((hacc4.append (.cons ac .nil)).mono (sqt_upd hD4)), ?_⟩
      have x15 := x'.trans x25
      exact ⟨x15.kp.mut hD, fun i1 => A.wrt H4 Dl _ _ (x15.inv i1) hD4 (own_ne n1.inv hD), fun b e => by
        unfold upd at e
        split at e
        · cases e
        · exact x15.fr b e⟩
    | false =>
      have x23 := x2.trans x3
      exact ⟨acc, us, h2 pb, keep i' x23 hus, hacc.kp i' x23.kp, x4⟩
  · rintro H' ⟨acc, us, zi, hus, hacc, x'⟩
    exact q Dl us acc H' (hd acc zi) (x.fr Dl hD) (x.trans x') hus hacc
/-- a map over a list of data -/
theorem el_map {wi : TI} {g : TG} {ws js : List Nat} {l : List PyData} {m : Nat} {Y : Nat → PyData → Prop} (f : PyData → PyData) (h : EvI K A wi ds m Y) (hY : ∀ i d, i < m → Y i d → l[i]? = some d) (hm : l.length = m) (hz : m ≤ 100000) (hj : ∀ j ∈ js, j ∈ ws)
    (hs : ∀ d, d ∈ l → ∃ fs, EvG K A g js d (wipeD ds ws) fs ∧ Ev K A te fs (Is (f d))) : EvL K A (tLc wi g tYes te ws) ds (fun r => r = l.map f) :=
  el_lc (fun i acc => acc = (l.take i).map f) h rfl (fun i acc hi e => by rw [e, List.length_map, List.length_take]; omega) (fun i acc d hi e yd => by
    have hd := hY i d hi yd
    obtain ⟨fs, eg, ev⟩ := hs d (List.mem_of_getElem? hd)
    refine ⟨js, fs, IsB true, eg, hj, fun H0 H σ Q n q => q true H rfl (Xt.refl H), fun _ => ev.imp fun y hy => ?_, fun z => nomatch z⟩
    subst e hy
    rw [List.take_add_one, hd, List.map_append]
    rfl) fun acc e => by rw [e, ← hm, List.take_length]
end
end K87
/-! Calls, built-ins, defs, by data. -/
namespace K87
open PySem PySem.Spec PyProof.Rows L2
/-! ### a def of the text -/
/-- x stands for a def that keeps the promise sp -/
def Cal (P : Program) (w : World) (K : PySem.W.Frag) (mg : Str → Option Value) (base : Heap) (k : Nat) (x : Str) (sp : Sp) : Prop :=
  ∃ (f : Addr) (fd : FuncData) (ps : List Str), mg x = some (.ref f) ∧ PySem.W.keepIn K (.ref f) = true ∧ Binds K fd ps [] ∧ FnOk P w K mg base CX0 k f fd ps sp
/-- the text's def x stands at its name -/
def Dfn (K : PySem.W.Frag) (mg : Str → Option Value) (x : Str) (st : Stmt) : Prop :=
  ∃ (f : Addr) (fd : FuncData), mg x = some (.ref f) ∧ FunD K x x (defArgs st) (defBody st) (defScope st) [] [] f fd
theorem Cal.mono {P : Program} {w : World} {K : PySem.W.Frag} {mg : Str → Option Value} {base : Heap} {j k : Nat} {x : Str} {sp : Sp} (c : Cal P w K mg base j x sp) (h : j ≤ k) : Cal P w K mg base k x sp := by
  obtain ⟨f, fd, ps, h1, h2, h3, h4⟩ := c
  exact ⟨f, fd, ps, h1, h2, h3, h4.mono h⟩
section
variable {X : Cx} {x : Str} {k j : Nat} {sp : Sp} {p pos : Pos} {e : Expr} {es : List Expr} {t : TA}
theorem pe_cal (C : Cal X.prog X.w X.K X.mg X.base k x sp) (hr : Room j X.A) (hk : k ≤ j) (hg : Gl X x) (ha : PA X (e :: es) t) (hdb : (x == ("__debug__" : Str)) = false := by decide)
    (he : starEach (e :: es) X.env = (false, eval e X.env) :: starEach es X.env := by rfl) (hpl : (backTo pos (starEach es X.env)).any (·.1) = false := by rfl) : PE X (.Call (.Name x p) (e :: es) [] pos) (tCall sp [] E0 t) := by
  obtain ⟨f, fd, ps, h1, h2, h3, h4⟩ := C
  exact pe_call h4 (hr.mono hk) hg h1 h2 h3 .nil pass0 ha hdb he hpl
theorem pe_gint {i : Int} (hg : Gl X x) (h : ∃ t, X.mg x = some (.int i t)) (hd : (x == ("__debug__" : Str)) = false := by decide) : PE X (.Name x pos) (tC (.int i)) := by
  obtain ⟨t, h⟩ := h
  exact pe_glob hg h ⟨t, rfl⟩ hd
theorem pe_gstr {z : Str} (hg : Gl X x) (h : ∃ t, X.mg x = some (.str z t)) (hd : (x == ("__debug__" : Str)) = false := by decide) : PE X (.Name x pos) (tC (.str z)) := by
  obtain ⟨t, h⟩ := h
  exact pe_glob hg h ⟨t, rfl⟩ hd
theorem pe_gref {a : Addr} (hg : Gl X x) (h : X.mg x = some (.ref a)) (hd : (x == ("__debug__" : Str)) = false := by decide) : PE X (.Name x pos) (tC (.ref a)) := pe_glob hg h rfl hd
/-- a built-in type as a value -/
theorem pe_ty {n : String} (hg : Gl X x) (hm : X.mg x = none) (hv : bootBuiltins x = some (.type n)) (hn : x ≠ "__name__" := by decide) (hd : (x == ("__debug__" : Str)) = false := by decide) : PE X (.Name x pos) (tC (.ty n)) := pe_bltn hg hm hv rfl hn hd
end
/-! ### THE RULE for a def -/
def retD (P : PyData → Prop) : Post := ⟨fun _ => P .none, fun r => match r with | .inl d => P d | .inr _ => False, fun _ => False, fun _ => False⟩
def retL (P : List PyData → Prop) : Post := ⟨fun _ => False, fun r => match r with | .inl _ => False | .inr es => P es, fun _ => False, fun _ => False⟩
abbrev Bx (P : Program) (w : World) (K : PySem.W.Frag) (mg : Str → Option Value) (base : Heap) (N : List Str) (x : Str) (st : Stmt) (f : Addr) (cdv : Value) (A : Around) (outer : List Env) (s : Shared) (H : Hp) (E : XK) : Cx :=
  (cxOf CX0 P w K mg base N x (defScope st) f cdv A outer s H E).nox
section
variable {P : Program} {w : World} {K : PySem.W.Frag} {mg : Str → Option Value} {base : Heap} {x : Str} {st : Stmt} {N ps : List Str} {k : Nat} {A : Amb} {t : TS}
theorem cal_data (D : Dfn K mg x st) (S : FnScope N ps (defScope st)) (G : Gd) (hl : ∀ as P', G as P' → as.length = ps.length)
    (hb : ∀ (dV kV doc pm : Value) (an : Option Addr) (cdv ct : Value) (us : List Value), dV = .none → us.length = ps.length → bindArgs (PySem.W.fnOf x x (defArgs st) (defBody st) (defScope st) .none kV doc pm an cdv ct) ⟨us, []⟩ = pure (ps.zip us))
    (hp : ∀ (f : Addr) (cdv : Value) (A' : Around) (outer : List Env) (s : Shared) (H : Hp) (E : XK), Room k (Bx P w K mg base N x st f cdv A' outer s H E).A → PSs (Bx P w K mg base N x st f cdv A' outer s H E) (defBody st) t)
    (hr : ∀ as P', G as P' → Rn K A t (as ++ List.replicate (N.length - as.length) .emp) (retD P')) : Cal P w K mg base (k + 1) x (spD K A G) := by
  obtain ⟨f, fd, h1, F⟩ := D
  refine ⟨f, fd, ps, h1, F.kp, F.bindsN fun kV doc pm an cdv ct us h => hb .none kV doc pm an cdv ct us rfl h, ?_⟩
  refine F.ok S (fun vs H Q E h => ?_) fun cdv A' outer s H vs Q E room h => ⟨t, (hp f cdv A' outer s H E room).nox, ?_⟩
  · obtain ⟨_, as, P', g, al, _⟩ := h
    rw [al.length]
    exact hl as P' g
  · obtain ⟨i, as, P', g, al, q⟩ := h
    have n := en_start (N := N) i al
    refine hr as P' g H H _ _ n (fun es σ' H' z n' _ => q .non .none H' z n'.x0 .non) (fun v r H' z x' a => ?_) (fun _ _ _ z => z.elim) fun _ _ _ z => z.elim
    cases r with
    | inl d => exact q v d H' z x' a
    | inr es => exact (show False from z).elim
theorem cal_list (D : Dfn K mg x st) (S : FnScope N ps (defScope st)) (G : Gl') (hl : ∀ as P', G as P' → as.length = ps.length)
    (hb : ∀ (dV kV doc pm : Value) (an : Option Addr) (cdv ct : Value) (us : List Value), dV = .none → us.length = ps.length → bindArgs (PySem.W.fnOf x x (defArgs st) (defBody st) (defScope st) .none kV doc pm an cdv ct) ⟨us, []⟩ = pure (ps.zip us))
    (hp : ∀ (f : Addr) (cdv : Value) (A' : Around) (outer : List Env) (s : Shared) (H : Hp) (E : XK), Room k (Bx P w K mg base N x st f cdv A' outer s H E).A → PSs (Bx P w K mg base N x st f cdv A' outer s H E) (defBody st) t)
    (hr : ∀ as P', G as P' → Rn K A t (as ++ List.replicate (N.length - as.length) .emp) (retL P')) : Cal P w K mg base (k + 1) x (spL K A G) := by
  obtain ⟨f, fd, h1, F⟩ := D
  refine ⟨f, fd, ps, h1, F.kp, F.bindsN fun kV doc pm an cdv ct us h => hb .none kV doc pm an cdv ct us rfl h, ?_⟩
  refine F.ok S (fun vs H Q E h => ?_) fun cdv A' outer s H vs Q E room h => ⟨t, (hp f cdv A' outer s H E room).nox, ?_⟩
  · obtain ⟨_, as, P', g, al, _⟩ := h
    rw [al.length]
    exact hl as P' g
  · obtain ⟨i, as, P', g, al, q⟩ := h
    have n := en_start (N := N) i al
    refine hr as P' g H H _ _ n (fun es σ' H' z n' _ => (show False from z).elim) (fun v r H' z x' a => ?_) (fun _ _ _ z => z.elim) fun _ _ _ z => z.elim
    cases r with
    | inl d => exact (show False from z).elim
    | inr es =>
      obtain ⟨p, ws, e, np, hp', q'⟩ := a
      rw [e]
      exact q p ws es H' z np x' hp' q'
end
/-! ### data compared -/
def rEqP (K : PySem.W.Frag) : R2 := fun x y H Q => ∃ d e, At K H x d ∧ At K H y e ∧ min d.depth e.depth ≤ 200 ∧ Q (.bl (PyData.eqv d e)) H
def rNeP (K : PySem.W.Frag) : R2 := fun x y H Q => ∃ d e, At K H x d ∧ At K H y e ∧ min d.depth e.depth ≤ 200 ∧ Q (.bl (!PyData.eqv d e)) H
section
variable {X : Cx}
theorem op_eqP (hu : X.A.units + 200 < cLine) : OpR X (compareOp .Eq) (rEqP X.K) := by
  intro pins s σ H x y v u Q I rx ry ⟨d, e, hd, he, hm, q⟩
  obtain ⟨as, r1⟩ := Dp.reads I d x v hd.dp rx
  obtain ⟨bs, r2⟩ := Dp.reads I e y u he.dp ry
  exact SeqAt.eq_plain r1 r2 hd.plain he.plain (by omega) ⟨.bl _, H, I, rfl, q⟩
theorem op_neP (hu : X.A.units + 200 < cLine) : OpR X (compareOp .NotEq) (rNeP X.K) := by
  intro pins s σ H x y v u Q I rx ry ⟨d, e, hd, he, hm, q⟩
  obtain ⟨as, r1⟩ := Dp.reads I d x v hd.dp rx
  obtain ⟨bs, r2⟩ := Dp.reads I e y u he.dp ry
  exact SeqAt.ne_plain r1 r2 hd.plain he.plain (by omega) ⟨.bl _, H, I, rfl, q⟩
/-- two lists compared -/
def rEqLL (K : PySem.W.Frag) : R2 := fun x y H Q => ∃ a b us vs es fs, x = .ref a ∧ y = .ref b ∧ Rd H a (.lst us) ∧ Rd H b (.lst vs) ∧ AtAll K H us es ∧ AtAll K H vs fs ∧ min (PyData.depthAll es) (PyData.depthAll fs) ≤ 190 ∧ Q (.bl (PyData.eqvAll es fs)) H
theorem op_eqLL (hu : X.A.units + 200 < cLine) : OpR X (compareOp .Eq) (rEqLL X.K) := by
  intro pins s σ H x y v u Q I rx ry ⟨a, b, us, vs, es, fs, e1, e2, ra, rb, ha, hb, hm, q⟩
  subst e1 e2
  obtain ⟨as, r1⟩ := Dp.reads I (.list es) _ v (.lst (.inl ra) ha.dp) rx
  obtain ⟨bs, r2⟩ := Dp.reads I (.list fs) _ u (.lst (.inl rb) hb.dp) ry
  refine SeqAt.eq_plain r1 r2 ha.plain hb.plain ?_ ⟨.bl (PyData.eqvAll es fs), H, I, rfl, q⟩
  show X.A.units + min (PyData.depthAll es + 1) (PyData.depthAll fs + 1) < cLine
  omega
/-- isinstance -/
def tyD : PyData → String
  | .none => "NoneType"
  | .bool _ => "bool"
  | .int _ => "int"
  | .str _ => "str"
  | .list _ => "list"
  | .tuple _ => "tuple"
  | .dict _ => "dict"
theorem At.ty {K : PySem.W.Frag} {H : Hp} {v : V} {d : PyData} (h : At K H v d) : TyX K H v (.type (tyD d)) := by
  cases h with
  | non => exact .base .non
  | bl b => exact .base (.bl b)
  | int i => exact .base (.int i)
  | str x => exact .base (.str x)
  | tup s _ =>
    rcases s with (s | ⟨o, s⟩) | ⟨o, its, n, hk, hc, _⟩
    · exact .base (.tup s)
    · exact .fTuple s
    · exact .kTuple hk hc
theorem Rd.tyl {K : PySem.W.Frag} {H : Hp} {a : Addr} {vs : List V} (h : Rd H a (.lst vs)) : TyX K H (.ref a) (.type "list") := by
  rcases h with h | ⟨o, h⟩
  · exact .base (.lst h)
  · exact .base (.frz h)
end
section
variable {K : PySem.W.Frag} {A : Amb} {ds : List SD} {P : PyData → Prop} {ta tb te : TE} {c d e : PyData}
theorem ev_eqP (ha : Ev K A ta ds (Is d)) (hb : Ev K A tb ds (Is e)) (hm : min d.depth e.depth ≤ 200) : Ev K A (tOp (rEqP K) ta tb) ds (Is (.bool (PyData.eqv d e))) :=
  ev_two ha (fun _ _ => hb) fun d' e' H0 H σ x y Q p1 p2 n a b q => by
    subst p1 p2
    exact ⟨_, _, a, b, hm, q _ _ H rfl (Xt.refl H) (.bl _)⟩
theorem ev_neP (ha : Ev K A ta ds (Is d)) (hb : Ev K A tb ds (Is e)) (hm : min d.depth e.depth ≤ 200) : Ev K A (tOp (rNeP K) ta tb) ds (Is (.bool (!PyData.eqv d e))) :=
  ev_two ha (fun _ _ => hb) fun d' e' H0 H σ x y Q p1 p2 n a b q => by
    subst p1 p2
    exact ⟨_, _, a, b, hm, q _ _ H rfl (Xt.refl H) (.bl _)⟩
theorem ev_eqLL {es fs : List PyData} (ha : EvR K A ta ds (fun x => x = es)) (hb : EvR K A tb ds (fun x => x = fs)) (hm : min (PyData.depthAll es) (PyData.depthAll fs) ≤ 190) : Ev K A (tOp (rEqLL K) ta tb) ds (Is (.bool (PyData.eqvAll es fs))) := fun H0 H σ Q n q =>
  ha H0 H σ _ n fun a us es' H1 p1 x1 nt ra a1 => hb H0 H1 σ _ (n.xt x1) fun b vs fs' H2 p2 x2 nt2 rb a2 => by
    subst p1 p2
    exact ⟨a, b, us, vs, _, _, rfl, rfl, rdl_kp x2.kp nt ra, rb, a1.kp (x1.inv n.inv) x2.kp, a2, hm, q _ _ H2 rfl (x1.trans x2) (.bl _)⟩
/-- isinstance(x, T) -/
theorem ev_isi {T : String} {b : Bool} (ha : Ev K A ta ds (Is d)) (h : kitB (tyD d) T = some b) : Ev K A (tCB (rIsi K) (tCons ta (tCons (tC (.ty T)) tNil))) ds (Is (.bool b)) := fun H0 H σ Q n q => ha H0 H σ _ n fun v d' H1 p x a => by
  subst p
  exact ⟨v, .ty T, .type (tyD d'), .type T, b, rfl, .ty T, a.ty, kit_ty h, q _ _ H1 rfl x (.bl b)⟩
theorem ev_isiL {T : String} {b : Bool} {es : List PyData} (ha : EvR K A ta ds (fun x => x = es)) (h : kitB "list" T = some b) : Ev K A (tCB (rIsi K) (tCons ta (tCons (tC (.ty T)) tNil))) ds (Is (.bool b)) := fun H0 H σ Q n q => ha H0 H σ _ n fun v vs d' H1 p x nt r a => by
  subst p
  exact ⟨_, .ty T, .type "list", .type T, b, rfl, .ty T, Rd.tyl r, kit_ty h, q _ _ H1 rfl x (.bl b)⟩
/-- isinstance(x, (T, U)) -/
theorem ev_isi2 {T U : String} {b1 b2 : Bool} (ha : Ev K A ta ds (Is d)) (h1 : kitB (tyD d) T = some b1) (h2 : kitB (tyD d) U = some b2) : Ev K A (tCB (rIsiT K) (tCons ta (tCons (tTup (tCons (tC (.ty T)) (tCons (tC (.ty U)) tNil))) tNil))) ds (Is (.bool (b1 || b2))) := fun H0 H σ Q n q => ha H0 H σ _ n fun v d' H1 p x a => by
  subst p
  refine ⟨(by show 2 ≤ sizeLine; decide), fun r hr => ?_⟩
  have xn : Xt A H1 (upd H1 r (.tup [.ty T, .ty U])) := Xt.new hr
  refine ⟨v, r, [.ty T, .ty U], .type (tyD d'), [.type T, .type U], b1 || b2, rfl, upd_same, .cons (.ty T) (.cons (.ty U) .nil), (a.mono (sqt_new hr)).ty, ?_, q _ _ _ rfl (x.trans xn) (.bl _)⟩
  refine kitAny_cons (kit_ty h1) (fun z => ?_) fun z => by rw [z]; rfl
  rw [z, Bool.false_or]
  exact kitAny_cons (kit_ty h2) (fun z => by rw [z]; exact kitAny_nil) fun z => z
theorem ev_isi2L {T U : String} {b1 b2 : Bool} {es : List PyData} (ha : EvR K A ta ds (fun x => x = es)) (h1 : kitB "list" T = some b1) (h2 : kitB "list" U = some b2) : Ev K A (tCB (rIsiT K) (tCons ta (tCons (tTup (tCons (tC (.ty T)) (tCons (tC (.ty U)) tNil))) tNil))) ds (Is (.bool (b1 || b2))) := fun H0 H σ Q n q => ha H0 H σ _ n fun v vs d' H1 p x nt r0 a => by
  subst p
  refine ⟨(by show 2 ≤ sizeLine; decide), fun r hr => ?_⟩
  have xn : Xt A H1 (upd H1 r (.tup [.ty T, .ty U])) := Xt.new hr
  refine ⟨_, r, [.ty T, .ty U], .type "list", [.type T, .type U], b1 || b2, rfl, upd_same, .cons (.ty T) (.cons (.ty U) .nil), Rd.tyl (rdl_kp xn.kp nt r0), ?_, q _ _ _ rfl (x.trans xn) (.bl _)⟩
  refine kitAny_cons (kit_ty h1) (fun z => ?_) fun z => by rw [z]; rfl
  rw [z, Bool.false_or]
  exact kitAny_cons (kit_ty h2) (fun z => by rw [z]; exact kitAny_nil) fun z => z
/-- len -/
theorem ev_lenT {es : List PyData} (ha : Ev K A ta ds (Is (.tuple es))) : Ev K A (tCB (fun xs H Q => ∃ p ys, xs = [.ref p] ∧ (SqL K H p ys ∨ SqT K H p ys) ∧ Q (.int ys.length) H) (tCons ta tNil)) ds (Is (.int es.length)) := fun H0 H σ Q n q => ha H0 H σ _ n fun v d' H1 p x a => by
  subst p
  cases a with
  | @tup a vs _ s hall => exact ⟨a, vs, rfl, .inr s, by rw [hall.length]; exact q _ _ H1 rfl x (.int _)⟩
theorem ev_lenL {es : List PyData} (ha : EvR K A ta ds (fun x => x = es)) : Ev K A (tCB (fun xs H Q => ∃ p ys, xs = [.ref p] ∧ (SqL K H p ys ∨ SqT K H p ys) ∧ Q (.int ys.length) H) (tCons ta tNil)) ds (Is (.int es.length)) := fun H0 H σ Q n q => ha H0 H σ _ n fun a vs d' H1 p x nt r hall => by
  subst p
  exact ⟨a, vs, rfl, .inl (.inl r), by rw [hall.length]; exact q _ _ H1 rfl x (.int _)⟩
theorem ev_lenS {z : Str} (ha : Ev K A ta ds (Is (.str z))) (hz : z.length ≤ 100000) : Ev K A (tCB (fun xs H Q => ∃ z, xs = [.str z] ∧ z.length ≤ sizeLine ∧ Q (.int z.length) H) (tCons ta tNil)) ds (Is (.int z.length)) := fun H0 H σ Q n q => ha H0 H σ _ n fun v d' H1 p x a => by
  subst p
  cases a
  exact ⟨z, rfl, Nat.le_trans hz (by decide), q _ _ H1 rfl x (.int _)⟩
/-- list(x) -/
def rListOf (K : PySem.W.Frag) : List V → Hp → VK → Prop := fun xs H Q => ∃ p ys, xs = [.ref p] ∧ (SqL K H p ys ∨ SqT K H p ys) ∧ ∀ l, H l = none → Q (.ref l) (upd H l (.lst ys))
theorem el_listT {es : List PyData} (ha : Ev K A ta ds (Is (.tuple es))) : EvL K A (tCB (rListOf K) (tCons ta tNil)) ds (fun x => x = es) := fun H0 H σ Q n q => ha H0 H σ _ n fun v d' H1 p x a => by
  subst p
  cases a with
  | @tup a vs _ s hall => exact ⟨a, vs, rfl, .inr s, fun l hl => q l vs es _ rfl (x.fr l hl) (x.trans (Xt.new hl)) upd_same (hall.mono (sqt_new hl))⟩
theorem el_listL {es : List PyData} (ha : EvR K A ta ds (fun x => x = es)) : EvL K A (tCB (rListOf K) (tCons ta tNil)) ds (fun x => x = es) := fun H0 H σ Q n q => ha H0 H σ _ n fun a vs d' H1 p x nt r hall => by
  subst p
  exact ⟨a, vs, rfl, .inl (.inl r), fun l hl => q l vs _ _ rfl (x.fr l hl) (x.trans (Xt.new hl)) upd_same (hall.mono (sqt_new hl))⟩
/-- tuple(a list) -/
theorem ev_tupL {Pl : List PyData → Prop} (ha : EvR K A ta ds Pl) (hp : ∀ es, Pl es → P (.tuple es)) : Ev K A (tCB (fun xs H Q => ∃ p ys, xs = [.ref p] ∧ ((SqL K H p ys ∧ ∀ l, H l = none → Q (.ref l) (upd H l (.tup ys))) ∨ (SqT K H p ys ∧ Q (.ref p) H))) (tCons ta tNil)) ds P := fun H0 H σ Q n q => ha H0 H σ _ n fun a vs es H1 p x nt r hall =>
  ⟨a, vs, rfl, .inl ⟨.inl r, fun l hl => q _ (.tuple es) _ (hp es p) (x.trans (Xt.new hl)) (.tup (SqT.of upd_same) (hall.mono (sqt_new hl)))⟩⟩
/-- sum, all, max of a list -/
theorem ev_sum {Pn : List Int → Prop} (ha : EvR K A ta ds (fun x => ∃ ns : List Int, x = ns.map .int ∧ Pn ns)) (hp : ∀ ns, Pn ns → P (.int ns.sum)) : Ev K A (tCB (rSum K) (tCons ta tNil)) ds P := fun H0 H σ Q n q => ha H0 H σ _ n fun a vs es H1 ⟨ns, e, p⟩ x nt r hall => by
  subst e
  have e2 := hall.ints
  subst e2
  exact ⟨a, ns, rfl, .inl r, q _ _ H1 (hp ns p) x (.int _)⟩
theorem ev_all {Pn : List Bool → Prop} (ha : EvR K A ta ds (fun x => ∃ ns : List Bool, x = ns.map .bool ∧ Pn ns)) (hp : ∀ ns, Pn ns → P (.bool (ns.all id))) : Ev K A (tCB (rAll K) (tCons ta tNil)) ds P := fun H0 H σ Q n q => ha H0 H σ _ n fun a vs es H1 ⟨ns, e, p⟩ x nt r hall => by
  subst e
  have e2 := hall.bools
  subst e2
  exact ⟨a, ns, rfl, .inl r, q _ _ H1 (hp ns p) x (.bl _)⟩
theorem ev_maxL {Pn : List Int → Prop} (ha : EvR K A ta ds (fun x => ∃ ns : List Int, x = ns.map .int ∧ Pn ns)) (h0 : ∀ ns, Pn ns → 0 < ns.length) (hp : ∀ ns m, Pn ns → m ∈ ns → (∀ y ∈ ns, y ≤ m) → P (.int m)) : Ev K A (tCB (rMax K) (tCons ta tNil)) ds P := fun H0 H σ Q n q => ha H0 H σ _ n fun a vs es H1 ⟨ns, e, p⟩ x nt r hall => by
  subst e
  have e2 := hall.ints
  subst e2
  exact ⟨a, ns, rfl, .inl r, h0 ns p, fun m hm hle => q _ _ H1 (hp ns m p hm hle) x (.int m)⟩
theorem ev_two2 {r : List V → Hp → VK → Prop} {i j : Int} {c : Int} (ha : Ev K A ta ds (Is (.int i))) (hb : Ev K A tb ds (Is (.int j))) (hr : ∀ H Q, Q (.int c) H → r [.int i, .int j] H Q) : Ev K A (tCB r (tCons ta (tCons tb tNil))) ds (Is (.int c)) := fun H0 H σ Q n q =>
  ha H0 H σ _ n fun v d H1 p1 x1 a1 => hb H0 H1 σ _ (n.xt x1) fun u e H2 p2 x2 a2 => by
    subst p1 p2
    cases a1
    cases a2
    exact hr H2 Q (q _ _ H2 rfl (x1.trans x2) (.int c))
theorem ev_one1 {r : List V → Hp → VK → Prop} {i : Int} {c : Int} (ha : Ev K A ta ds (Is (.int i))) (hr : ∀ H Q, Q (.int c) H → r [.int i] H Q) : Ev K A (tCB r (tCons ta tNil)) ds (Is (.int c)) := fun H0 H σ Q n q =>
  ha H0 H σ _ n fun v d H1 p1 x1 a1 => by
    subst p1
    cases a1
    exact hr H1 Q (q _ _ H1 rfl x1 (.int c))
/-- t + u, tuples -/
theorem ev_cat {es fs : List PyData} (ha : Ev K A ta ds (Is (.tuple es))) (hb : Ev K A tb ds (Is (.tuple fs))) (hz : es.length + fs.length ≤ 100000) : Ev K A (tOp (rCatA K) ta tb) ds (Is (.tuple (es ++ fs))) :=
  ev_two ha (fun _ _ => hb) fun d' e' H0 H σ x y Q p1 p2 n a b q => by
    subst p1 p2
    cases a with
    | @tup a vs _ s ha =>
      cases b with
      | @tup b ws _ s2 hb =>
        refine ⟨a, b, vs, ws, rfl, rfl, s, s2, by rw [ha.length, hb.length]; exact Nat.le_trans hz (by decide), fun z => ?_, fun _ z => ?_, fun _ _ p hp => ?_⟩
        · subst z
          cases ha
          exact q _ _ H rfl (Xt.refl H) (.tup s2 hb)
        · subst z
          cases hb
          rw [List.append_nil] at q
          exact q _ _ H rfl (Xt.refl H) (.tup s ha)
        · exact q _ _ _ rfl (Xt.new hp) (.tup (SqT.of upd_same) ((ha.append hb).mono (sqt_new hp)))
/-- t[lo:hi] -/
def EvO (K : PySem.W.Frag) (A : Amb) (t : TO) (ds : List SD) (o : Option Int) : Prop := ∀ (H0 H : Hp) (σ : L2.St) (Q : Option Int → Hp → Prop), En K A H0 H σ ds → (∀ H', Xt A H H' → Q o H') → t σ H Q
theorem eo_none : EvO K A tNoPart ds none := fun H0 H σ Q n q => q H (Xt.refl H)
theorem eo_some {i : Int} (h : Ev K A te ds (Is (.int i))) : EvO K A (tPart te) ds (some i) := fun H0 H σ Q n q => h H0 H σ _ n fun v d H1 p x a => by
  subst p
  cases a
  exact ⟨i, rfl, q H1 x⟩
def cutD (es : List PyData) (lo hi : Option Int) : List PyData := (es.drop (HT.sIx es.length 0 lo)).take (HT.sIx es.length es.length hi - HT.sIx es.length 0 lo)
theorem ev_slT {es : List PyData} {tl th : TO} {lo hi : Option Int} (ha : Ev K A ta ds (Is (.tuple es))) (hl : EvO K A tl ds lo) (hh : EvO K A th ds hi) : Ev K A (tSl (rSlA K) ta tl th) ds (Is (.tuple (cutD es lo hi))) := fun H0 H σ Q n q =>
  ha H0 H σ _ n fun v d H1 p1 x1 a1 => hl H0 H1 σ _ (n.xt x1) fun H2 x2 => hh H0 H2 σ _ ((n.xt x1).xt x2) fun H3 x3 => by
    subst p1
    have a3 := (a1.kp (x1.inv n.inv) x2.kp).kp (x2.inv (x1.inv n.inv)) x3.kp
    have x := (x1.trans x2).trans x3
    cases a3 with
    | @tup a vs _ s hall =>
      have hlen := hall.length
      refine ⟨a, vs, rfl, s, fun ⟨z1, z2⟩ => ?_, fun _ p hp => ?_⟩
      · rw [hlen] at z1 z2
        have e : cutD es lo hi = es := by
          unfold cutD
          rw [z1, z2]
          simp
        rw [e] at q
        exact q _ _ H3 rfl x (.tup s hall)
      · refine q _ _ _ rfl (x.trans (Xt.new hp)) (.tup (SqT.of upd_same) ?_)
        have hc : AtAll K H3 (cutV vs lo hi) (cutD es lo hi) := by
          unfold cutV cutD
          rw [hlen]
          exact (hall.drop _).take _
        exact hc.mono (sqt_new hp)
/-- xs + ys, lists, both new -/
theorem el_cat {Pa Pb P : List PyData → Prop} (ha : EvL K A ta ds Pa) (hb : EvL K A tb ds Pb) (hp : ∀ es fs, Pa es → Pb fs → es.length + fs.length ≤ 100000 ∧ P (es ++ fs)) : EvL K A (tOp rCat ta tb) ds P := fun H0 H σ Q n q =>
  ha H0 H σ _ n fun a vs es H1 p1 n1 x1 h1 a1 => hb H0 H1 σ _ (n.xt x1) fun b ws fs H2 p2 n2 x2 h2 a2 => by
    obtain ⟨hz, pp⟩ := hp es fs p1 p2
    have h1' := x2.kp a _ h1 (fun _ z => nomatch z) (own_ne n.inv n1)
    have a1' := a1.kp (x1.inv n.inv) x2.kp
    exact ⟨a, b, vs, ws, rfl, rfl, h1', h2, by rw [a1.length, a2.length]; exact Nat.le_trans hz (by decide), fun p hp => q p _ _ _ pp ((x1.trans x2).fr p hp) ((x1.trans x2).trans (Xt.new hp)) upd_same ((a1'.append a2).mono (sqt_new hp))⟩
end
end K87
/-! More built-ins; what the module's top leaves. -/
namespace K87
open PySem PySem.Spec PyProof.Rows L2
theorem Room.u200 {k : Nat} {A : Around} (r : Room k A) : A.units + 200 < cLine := by have := r.un; omega
theorem b_int : bootBuiltins "int" = some (.type "int") := by decide +kernel
theorem b_str : bootBuiltins "str" = some (.type "str") := by decide +kernel
theorem b_bool : bootBuiltins "bool" = some (.type "bool") := by decide +kernel
theorem b_tuple : bootBuiltins "tuple" = some (.type "tuple") := by decide +kernel
theorem b_list : bootBuiltins "list" = some (.type "list") := by decide +kernel
theorem boot_len : bootBuiltins "len" = some (.builtin "len") := by decide +kernel
theorem boot_isinstance : bootBuiltins "isinstance" = some (.builtin "isinstance") := by decide +kernel
theorem boot_all : bootBuiltins "all" = some (.builtin "all") := by decide +kernel
theorem boot_sum : bootBuiltins "sum" = some (.builtin "sum") := by decide +kernel
theorem boot_max : bootBuiltins "max" = some (.builtin "max") := by decide +kernel
theorem boot_min : bootBuiltins "min" = some (.builtin "min") := by decide +kernel
theorem boot_sorted : bootBuiltins "sorted" = some (.builtin "sorted") := by decide +kernel
/-! ### readings with names -/
abbrev rLenSeq (K : PySem.W.Frag) : List V → Hp → VK → Prop := fun xs H Q => ∃ p ys, xs = [.ref p] ∧ (SqL K H p ys ∨ SqT K H p ys) ∧ Q (.int ys.length) H
abbrev rLenStr : List V → Hp → VK → Prop := fun xs H Q => ∃ z, xs = [.str z] ∧ z.length ≤ sizeLine ∧ Q (.int z.length) H
abbrev rTupOf (K : PySem.W.Frag) : List V → Hp → VK → Prop := fun xs H Q => ∃ p ys, xs = [.ref p] ∧ ((SqL K H p ys ∧ ∀ l, H l = none → Q (.ref l) (upd H l (.tup ys))) ∨ (SqT K H p ys ∧ Q (.ref p) H))
abbrev rMax2 : List V → Hp → VK → Prop := fun xs H Q => ∃ i j, xs = [.int i, .int j] ∧ Q (.int (if j > i then j else i)) H
abbrev rMin2 : List V → Hp → VK → Prop := fun xs H Q => ∃ i j, xs = [.int i, .int j] ∧ Q (.int (if j < i then j else i)) H
abbrev rInt1 : List V → Hp → VK → Prop := fun xs H Q => (∃ i, xs = [.int i] ∧ Q (.int i) H) ∨ ∃ k, xs = [.bl k] ∧ Q (.int (if k then 1 else 0)) H
abbrev rIsN : R2 := fun x y H Q => y = .non ∧ Q (.bl (decide (x = .non))) H
abbrev rInSign : R2 := fun x y H Q => ∃ (c : Nat) (z : Str), x = .str ⟨#[c]⟩ ∧ y = .str z ∧ Q (.bl (decide (c ∈ z.cps.toList))) H
/-- max(t), t a tuple of ints -/
def rMaxT (K : PySem.W.Frag) : List V → Hp → VK → Prop := fun vs H Q => ∃ (a : Addr) (n : Int) (ns : List Int), vs = [.ref a] ∧ SqT K H a ((n :: ns).map V.int) ∧ Q (.int (ns.foldl max n)) H
section
variable {X : Cx}
theorem cr_maxT (hc : X.calm = true) (hu : X.A.units + 200 < cLine) : CallR X (.builtin "max") (rMaxT X.K) := by
  intro pins s σ H vs us Q I r ⟨a, n, ns, e, hs, q⟩
  subst e
  obtain ⟨its, rv, ht, _⟩ := I.tuple hs
  rw [Vals.ref1 r]
  obtain ⟨as, hr⟩ := Dp.readsAll I (.int n :: ns.map .int) _ its (AtAll.of_ints (H := H) (K := X.K) (n :: ns)).dp rv
  have hd : ∀ l : List Int, PyData.depthAll (l.map .int) = 0 := fun l => by
    induction l with
    | nil => rfl
    | cons x l ih =>
      show max 0 (PyData.depthAll (l.map .int)) = 0
      rw [ih]
      rfl
  refine PySem.W.max_tuple_data (I.ok.hd hc) (show s.heap.IsTuple a its.toArray from ht) (x := .int n) (xs := ns.map .int) (by simpa using hr) ⟨fun x hx y hy => ?_, fun x hx => ?_⟩ ?_ fun i v h' tk bs hv hrd hk => ?_
  · have hx : x ∈ (n :: ns).map PyData.int := hx
    have hy : y ∈ (n :: ns).map PyData.int := hy
    obtain ⟨_, _, rfl⟩ := List.mem_map.mp hx
    obtain ⟨_, _, rfl⟩ := List.mem_map.mp hy
    rfl
  · have hx : x ∈ (n :: ns).map PyData.int := hx
    obtain ⟨_, _, rfl⟩ := List.mem_map.mp hx
    exact fun z => nomatch z
  · show X.A.units + 1 + PyData.depthAll ((n :: ns).map .int) < cLine
    rw [hd]
    omega
  · rw [PySem.W.maxD_ints] at hrd
    cases hrd
    exact ⟨.int _, H, I.kept (t' := tk) hk, ⟨_, rfl⟩, q⟩
end
/-! ### a dict of the top, texts to ints -/
def DkOk (w : World) (K : PySem.W.Frag) (mg : Str → Option Value) (x : Str) (vs : List (Str × Int)) : Prop :=
  ∃ (d : Addr) (es : Array DictEntry) (n : Nat), mg x = some (.ref d) ∧ KDict K w d es n ∧ ∀ z i, (z, i) ∈ vs → ∃ t, PySem.W.nsIn K d z = some (some (.int i t))
def tDk (vs : List (Str × Int)) (ti : TE) : TE := fun σ H Q => ti σ H fun v H1 => ∃ z i, v = .str z ∧ (z, i) ∈ vs ∧ Q (.int i) H1
section
variable {X : Cx} {x : Str} {vs : List (Str × Int)} {i : Expr} {ti : TE} {p pos apos : Pos}
theorem pe_dk (hg : Gl X x) (h : DkOk X.w X.K X.mg x vs) (hi : PE X i ti) (hs : PlainIx i := by exact fun _ _ => rfl) (hd : (x == ("__debug__" : Str)) = false := by decide) : PE X (.Subscript (.Name x p) i pos) (tDk vs ti) := by
  obtain ⟨d, es, n, hm, D, hv⟩ := h
  refine ⟨fun pins s σ H Q I h => ?_⟩
  have ix : IxR X (fun a b H Q => ∃ z i, a = V.ref d ∧ b = V.str z ∧ (z, i) ∈ vs ∧ Q (V.int i) H) := by
    intro value slice pins s σ H a b v u Q I ra rb ⟨z, i, e1, e2, hz, q⟩ hsub
    subst e1 e2
    cases ra
    obtain ⟨t, rfl⟩ := rb
    obtain ⟨t', e⟩ := hv z i hz
    exact tail_any (kd_type D I) PySem.F.slot_dict_getitem.lookup (wpAny_getItem_of (PySem.strKind_is X.prog X.w z t) (PySem.W.mapOf_K (prog := X.prog) I.kIn D.at_ D.lit) (PySem.W.find_K D.at_ e) ⟨.int i, H, I.tok _, ⟨_, rfl⟩, q⟩) hsub
  exact (pe_ix ix (pe_gref hg hm hd) hi hs).run pins s σ H Q I (show ti σ H _ from (by
    have h' : ti σ H fun v H1 => ∃ z i, v = .str z ∧ (z, i) ∈ vs ∧ Q (.int i) H1 := h
    have e : (fun (v : V) (H1 : Hp) => ∃ z i, v = .str z ∧ (z, i) ∈ vs ∧ Q (.int i) H1) = fun y H2 => ∃ z i, (V.ref d) = V.ref d ∧ y = V.str z ∧ (z, i) ∈ vs ∧ Q (V.int i) H2 := by
      funext v H1
      simp
    rw [e] at h'
    exact h'))
theorem pe_dkget (hg : Gl X x) (h : DkOk X.w X.K X.mg x vs) (hi : PE X i ti) (hd : (x == ("__debug__" : Str)) = false := by decide) (m : M1 X (.Name x p) "get" apos i pos := by exact ⟨rfl, rfl, rfl, rfl⟩) : PE X (.Call (.Attribute (.Name x p) "get" apos) [i] [] pos) (tDk vs ti) := by
  obtain ⟨d, es, n, hm, D, hv⟩ := h
  refine ⟨fun pins s σ H Q I h => ?_⟩
  have h' : ti σ H fun v H1 => ∃ z i, v = .str z ∧ (z, i) ∈ vs ∧ Q (.int i) H1 := h
  refine wpAny_Call_method m.base m.few m.line PySem.F.plainAttrs_dict PySem.F.slot_dict_get PySem.F.type_dict_get (thn ((pe_gref (pos := p) hg hm hd).run pins s σ H (fun v H1 => v = .ref d ∧ H1 = H) I ⟨rfl, rfl⟩) fun u s1 ⟨v, H1, I1, r1, e1, e2⟩ => ?_)
  subst e1 e2
  obtain rfl : u = Value.ref d := r1
  have M0 := PySem.W.mapOf_K (prog := X.prog) (w := X.w) I1.kIn D.at_ D.lit
  refine ⟨M0.typeIs, M0.noDict, ?_⟩
  rw [m.trees]
  refine Calls.callWith_builtin rfl (Calls.evalArgs_plain (Calls.spliced_cons (thn (hi.run pins s1 σ H1 _ I1 h') fun iv s2 ⟨y, H2, I2, ry, z, j, ey, hz, q⟩ => Calls.spliced_nil ?_)))
  subst ey
  obtain ⟨t, rfl⟩ := ry
  obtain ⟨t', e⟩ := hv z j hz
  have M2 := PySem.W.mapOf_K (prog := X.prog) (w := X.w) I2.kIn D.at_ D.lit
  refine call_meetsIn PySem.F.slot_dict_get M2.typeIs PySem.F.entry_dict_get (PySem.F.args_dict_get_2 _ _) (meets_dict_get (PySem.strKind X.prog X.w) d (PySem.strKind_is X.prog X.w z t) D.low) ⟨_, M2, ?_⟩
  rw [PySem.W.find_K D.at_ e]
  exact ⟨.int j, H2, I2.tok _, ⟨_, rfl⟩, q⟩
end
section
variable {K : PySem.W.Frag} {A : Amb} {ds : List SD} {te : TE}
theorem ev_dk {vs : List (Str × Int)} {z : Str} {i : Int} (h : Ev K A te ds (Is (.str z))) (hz : (z, i) ∈ vs) : Ev K A (tDk vs te) ds (Is (.int i)) := fun H0 H σ Q n q => h H0 H σ _ n fun v d H1 p x a => by
  subst p
  cases a
  exact ⟨z, i, rfl, hz, q _ _ H1 rfl x (.int i)⟩
theorem ev_maxT {n : Int} {ns : List Int} (h : Ev K A te ds (Is (.tuple ((n :: ns).map .int)))) : Ev K A (tCB (rMaxT K) (tCons te tNil)) ds (Is (.int (ns.foldl max n))) := fun H0 H σ Q n' q => h H0 H σ _ n' fun v d H1 p x a => by
  subst p
  cases a with
  | @tup a vs _ s hall =>
    have e := hall.ints
    subst e
    exact ⟨a, n, ns, rfl, s, q _ _ H1 rfl x (.int _)⟩
theorem ev_isN {d : PyData} (h : Ev K A te ds (Is d)) (hs : scalD d = true) : Ev K A (tOp rIsN te (tC .non)) ds (Is (.bool (decide (toV d = .non)))) := fun H0 H σ Q n q => h H0 H σ _ n fun v d' H1 p x a => by
  subst p
  have e := toV_at a hs
  refine ⟨rfl, ?_⟩
  rw [← e] at q
  exact q _ _ H1 rfl x (.bl _)
theorem ev_isNT {es : List PyData} (h : Ev K A te ds (Is (.tuple es))) : Ev K A (tOp rIsN te (tC .non)) ds (Is (.bool false)) := fun H0 H σ Q n q => h H0 H σ _ n fun v d' H1 p x a => by
  subst p
  cases a with
  | tup s hall => exact ⟨rfl, q _ _ H1 rfl x (.bl false)⟩
theorem ev_inSign {tb : TE} {c : Nat} {z : Str} (h : Ev K A te ds (Is (.str ⟨#[c]⟩))) (hb : Ev K A tb ds (Is (.str z))) : Ev K A (tOp rInSign te tb) ds (Is (.bool (decide (c ∈ z.cps.toList)))) :=
  ev_two h (fun _ _ => hb) fun d e H0 H σ x y Q p1 p2 n a b q => by
    subst p1 p2
    cases a
    cases b
    exact ⟨c, z, rfl, rfl, q _ _ H rfl (Xt.refl H) (.bl _)⟩
end
/-! ### enumerate(t), t a tuple -/
/-- the tuple at a, each item in a new pair -/
def ItE (K : PySem.W.Frag) (a : Addr) : It where
  go := fun i H => ∃ (xs : List V) (x : V), SqT K H a xs ∧ xs[i]? = some x
  yld := fun i H v H' => ∃ T x, v = .ref T ∧ H T = none ∧ H' = upd H T (.tup [.int (i : Nat), x]) ∧ ∀ xs, SqT K H a xs → xs[i]? = some x
  stop := fun i H => ∃ xs : List V, SqT K H a xs ∧ xs.length = i
def enumSt (a e it : Addr) (i : Nat) (h : Heap) : Prop := (∃ old, IsEnum h e it ((i : Nat) : Int) old) ∧ h.IsTupleIter it a i ∧ e ≠ it ∧ a ≠ it ∧ a ≠ e
theorem turn_enumT {P : Program} {w : World} {K : PySem.W.Frag} {elts : List Expr} {kk : Nat} {tpos : Pos} (a e it : Addr) : Turn P w K (.Tuple elts kk tpos) (ItE K a) [e, it] e (enumSt a e it) where
  mem := List.mem_cons_self
  obj := fun i h st b hb => by
    obtain ⟨⟨old, he⟩, ⟨o, ho, hc, hd⟩, _⟩ := st
    rcases List.mem_cons.mp hb with z | z
    · subst z
      exact ⟨_, he, fun v q => nomatch q⟩
    · rw [List.mem_singleton.mp z]
      exact ⟨o, ho, fun v q => by rw [hd] at q; cases q⟩
  keep := fun i h h' st k => by
    obtain ⟨⟨old, he⟩, hi, hne⟩ := st
    exact ⟨⟨old, k e (by simp) _ he⟩, hi.at fun o q => k it (by simp) o q, hne⟩
  item := by
    intro X hP hw hK hc i pins s σ H E I hf st hg
    subst hP hw hK
    obtain ⟨⟨old, he⟩, hit, hne, hai, hae⟩ := st
    obtain ⟨xs, x, hq, hx⟩ := hg
    obtain ⟨its, rv, p, hz⟩ := I.tuple hq
    obtain ⟨u, hu, ru⟩ := rv.get hx
    have hel : e < s.heap.objs.size := Heap.lt_size he
    have hil : it < s.heap.objs.size := by obtain ⟨_, q, _⟩ := hit; exact Heap.lt_size q
    have hi : i < its.toArray.size := by
      have h1 := (List.getElem?_eq_some_iff.mp hu).1
      simpa using h1
    have hh : X.A.in1.handled = none := I.ok.hd hc
    have D := Draws.tuple (prog := X.prog) (w := X.w) (A := X.A.in1) hh it a hai its.toArray
    refine wpAny_pyNext_enum_itemD D he ⟨hit, p⟩ hi hne (by simp [hne, Ne.symm hae]) fun y h' tk hy ho st' hT hsz hk => ?_
    have ey : y = u := by
      have h1 : its.toArray[i]? = some y := hy
      rw [List.getElem?_toArray] at h1
      exact (Option.some.inj (hu.symm.trans h1)).symm
    subst ey
    refine ⟨_, rfl, wpAny_letOwnedTupleGo_enum (s := { s with heap := h', toks := tk + 1 }) ho fun h'' he' sb => ?_⟩
    have hT2 := (sb.2 _ (Nat.ne_of_gt hel)).trans hT
    have new : ObjOk X.prog X.w (upd H s.heap.objs.size (.tup [.int (i : Nat), x])) h'' s.heap.objs.size (.tup [.int (i : Nat), x]) :=
      ⟨by show 2 ≤ sizeLine; decide, [.int i tk, y], .cons ⟨_, rfl⟩ (.cons ru .nil), ⟨_, hT2, rfl, _, rfl⟩⟩
    have kp : ∀ b ob, b ∉ [e, it] → s.heap.get? b = some ob → h''.get? b = some ob := fun b ob hb q => by
      have n1 : b ≠ e := fun z => hb (by simp [z])
      have n2 : b ≠ it := fun z => hb (by simp [z])
      exact (sb.2 b n1).trans (hk b ob n1 n2 q)
    have I1 : Inv X pins σ (upd H s.heap.objs.size (.tup [.int (i : Nat), x])) { s with heap := h'', toks := tk + 1 } := I.turnedNew (ch := [e, it]) kp hf (Nat.le_refl _) new
    refine ⟨.ref s.heap.objs.size, _, I1, rfl, ⟨_, x, rfl, I.hok.fresh (Nat.le_refl _), rfl, fun ys hy => by rw [I.tuple_inj hy hq]; exact hx⟩, ⟨⟨y, ?_⟩, st'.1.at fun o q => (sb.2 it (Ne.symm hne)).trans q, hne, hai, hae⟩, fun b hb => ?_⟩
    · have e1 : ((i + 1 : Nat) : Int) = (i : Int) + 1 := by omega
      rw [e1]
      exact he'
    · have hb' : b < s.heap.objs.size := by
        rcases List.mem_cons.mp hb with z | z
        · rw [z]; exact hel
        · rw [List.mem_singleton.mp z]; exact hil
      rw [upd_ne (Nat.ne_of_lt hb')]
      exact (hf b hb).1
  done := by
    intro X hP hw hK hc i pins s σ H E I hf st hg
    subst hP hw hK
    obtain ⟨⟨old, he⟩, hit, hne, hai, hae⟩ := st
    obtain ⟨xs, hq, hx⟩ := hg
    obtain ⟨its, rv, p, hz⟩ := I.tuple hq
    obtain ⟨f0, f1, f2, f3, f4, f5⟩ := hf it (by simp)
    have hh : X.A.in1.handled = none := I.ok.hd hc
    have D := Draws.tuple (prog := X.prog) (w := X.w) (A := X.A.in1) hh it a hai its.toArray
    have en : its.toArray.size = i := by rw [List.size_toArray, ← rv.length, hx]
    refine wpAny_pyNext_enum_endD D he (by rw [en]; exact ⟨hit, p⟩) fun h' eb => ⟨rfl, I.turned (t' := s.toks) (fun b o hb q => eb b o hb q) f0 f1 f3 f4 f5⟩
  self := fun A i s Q E st h => by
    obtain ⟨⟨_, he⟩, _⟩ := st
    exact wpAny_pyIter_enum he h
theorem meets_enumT (t : Addr) (items : Array Value) : Meets (Builtin.«enumerate.__new__» ⟨[.type "enumerate", .ref t], []⟩) (fun _ R s => s.heap.IsTuple t items ∧
    R (.ok (.ret (.ref (s.heap.push { cls := .type "tuple_iterator", data := .fields #[.ref t, .int 0 0] }).objs.size)))
      { s with heap := (s.heap.push { cls := .type "tuple_iterator", data := .fields #[.ref t, .int 0 0] }).push { cls := .type "enumerate", data := .fields #[.none, .bool false, .ref s.heap.objs.size, rawInt 0, .none, .none] } }) :=
  .of_wp fun prog w A R s h => by
    obtain ⟨hp, g, d, tk, os⟩ := s
    obtain ⟨hl, h⟩ := h
    have hsub := sub_enumerate
    wp_walk using wpAny_pyIter_tuple hl
    refine wpAny_stack_any fun st => wpAny_pure ?_
    split
    · rename_i c _ _ _ _ _
      cases (c == Value.type "enumerate") <;> (wp_walk using wpAny_pyIter_tuple hl; exact ⟨_, rfl, h⟩)
    · wp_walk using wpAny_pyIter_tuple hl
      exact ⟨_, rfl, h⟩
def iEnumT (K : PySem.W.Frag) (ta : TA) : TI := fun σ H R => ta σ H fun vs H1 => ∃ a xs, vs = [.ref a] ∧ SqT K H1 a xs ∧ R (ItE K a) H1
theorem pi_enumT {X : Cx} {e : Expr} {ta : TA} {p pos tpos : Pos} {elts : List Expr} {kk : Nat} (hg : Gl X "enumerate") (hm : X.mg "enumerate" = none) (ha : PA X [e] ta) (hs : starEach [e] X.env = [(false, eval e X.env)] := by rfl) :
    PI X (.Tuple elts kk tpos) (.Call (.Name "enumerate" p) [e] [] pos) (iEnumT X.K ta) := by
  refine ⟨fun pins s σ H R I h => Call_ (ld_blt I hg hm boot_enumerate (PyProof.Rows.callWith_type1 (thn (ha.run pos pins s σ H _ I h) fun us s1 ⟨vs, H1, I1, r1, a, xs, ex, hq, q⟩ => ?_) hs rfl))⟩
  subst ex
  rw [Vals.ref1 r1]
  obtain ⟨its, rv, p', hz⟩ := I1.tuple hq
  have ha' : a < s1.heap.objs.size := p'.lt
  have hsz : (s1.heap.push { cls := .type "tuple_iterator", data := .fields #[.ref a, .int 0 0] }).objs.size = s1.heap.objs.size + 1 := Heap.size_push ..
  refine callType_new F.called_enumerate (by decide) (F.typeCall_enumerate_1 _) (F.newCall_enumerate_1 _) (fun obj => F.args_object_init_2 obj _) F.entry_enumerate_new (meets_enumT a its.toArray) ⟨p', ?_⟩
  show _ ∧ _
  rw [hsz]
  have he := Heap.get?_push_size (s1.heap.push { cls := .type "tuple_iterator", data := .fields #[.ref a, .int 0 0] }) (o := { cls := .type "enumerate", data := .fields #[.none, .bool false, .ref s1.heap.objs.size, rawInt 0, .none, .none] }) rfl
  rw [hsz] at he
  refine ⟨⟨_, he, rfl⟩, ?_⟩
  have he2 : IsEnum _ (s1.heap.objs.size + 1) s1.heap.objs.size 0 .none := he
  refine wpAny_pyIter_enum he2 ?_
  have I2 := I1.kept (t' := s1.toks) fun b o q => Heap.get?_push_of_some { cls := .type "enumerate", data := .fields #[.none, .bool false, .ref s1.heap.objs.size, rawInt 0, .none, .none] } (Heap.get?_push_of_some { cls := .type "tuple_iterator", data := .fields #[.ref a, .int 0 0] } q)
  refine ⟨s1.heap.objs.size + 1, [s1.heap.objs.size + 1, s1.heap.objs.size], _, _, H1, rfl, I2, turn_enumT a (s1.heap.objs.size + 1) s1.heap.objs.size, ⟨⟨.none, he⟩, ⟨_, Heap.get?_push_of_some _ (Heap.get?_push_size _ rfl), rfl, rfl⟩, Nat.succ_ne_self _, Nat.ne_of_lt ha', Nat.ne_of_lt (Nat.lt_succ_of_lt ha')⟩, fun b hb => ?_, q⟩
  have hle : s1.heap.objs.size ≤ b := by
    rcases List.mem_cons.mp hb with z | z
    · rw [z]; exact Nat.le_succ _
    · rw [List.mem_singleton.mp z]; exact Nat.le_refl _
  exact I1.fpOk hle (I1.hok.fresh hle)
theorem walk_enumT {K : PySem.W.Frag} {a : Addr} {xs : List V} : Walk (ItE K a) xs.length (fun H => SqT K H a xs) (YPair (fun i => some (.int (i : Nat))) (fun i => xs[i]?)) where
  goes := fun i _ hi q => ⟨xs, xs[i], q, by simp [hi]⟩
  stops := fun _ q => ⟨xs, q, rfl⟩
  yields := fun i H v H' _ q ⟨T, x, h1, h2, h3, h4⟩ => ⟨T, .int (i : Nat), x, h1, h2, h3, rfl, h4 xs q⟩
theorem ei_enum {K : PySem.W.Frag} {A : Amb} {ds : List SD} {te : TE} {l : List PyData} (h : Ev K A te ds (Is (.tuple l))) : EvI K A (iEnumT K (tCons te tNil)) ds l.length (fun i d => ∃ e, l[i]? = some e ∧ d = .tuple [.int (i : Int), e]) := fun H0 H σ R n q => h H0 H σ _ n fun v d H1 p x a => by
  subst p
  have n1 := n.xt x
  cases a with
  | @tup a vs _ hs hall =>
    refine ⟨a, vs, rfl, hs, q _ H1 _ _ x (by rw [← hall.length]; exact walk_enumT (xs := vs)) (fun H2 i2 k => ks_tup n1 k a vs hs) fun i H2 y H3 hi i2 k yv => ?_⟩
    obtain ⟨T, u, z, e1, e2, e3, e4, e5⟩ := yv
    subst e1 e3
    have e4 : V.int (i : Nat) = u := Option.some.inj e4
    subst e4
    obtain ⟨d, e6, ad⟩ := hall.getv e5
    exact ⟨Xt.new e2, .tuple [.int (i : Int), d], ⟨d, e6, rfl⟩, .tup (SqT.of upd_same) (.cons (.int _) (.cons ((ad.mono (ks_tup n1 k)).mono (sqt_new e2)) .nil))⟩
end K87
/-! What the module's top leaves. -/
namespace K87
open PySem PySem.Spec PyProof.Rows L2
def top (i : Nat) : Stmt := PySem.Challenge.pw_sealedplans_k87_whole_steps_told_of_meet.main.body.getD i (.Pass ⟨0, 0, 0, 0⟩)
def s_is_integer : Stmt := top 12
def s_is_within : Stmt := top 13
def s_is_pair : Stmt := top 14
def s_is_triple : Stmt := top 15
def s_is_listed : Stmt := top 16
def s_is_word : Stmt := top 17
def s_is_door : Stmt := top 18
def s_is_part : Stmt := top 19
def s_is_plan_in : Stmt := top 20
def s_check_plan : Stmt := top 21
def s_check_count : Stmt := top 22
def s_part_key : Stmt := top 25
def s_plan_key : Stmt := top 26
def s_sorted_items : Stmt := top 27
def s_parts_within : Stmt := top 31
def s_items_in : Stmt := top 32
def s_nesting : Stmt := top 33
def s_check_room : Stmt := top 34
def s_roomy : Stmt := top 35
def s_gots_at : Stmt := top 36
def s_mapped : Stmt := top 37
def s_raised : Stmt := top 38
def s_brought : Stmt := top 39
def s_roomy_brought : Stmt := top 40
def s_bound_to : Stmt := top 41
def s_folded : Stmt := top 43
def s_plain_of : Stmt := top 44
def s_is_instruction : Stmt := top 52
def s_is_machine : Stmt := top 53
def s_is_standing : Stmt := top 54
def s_check_machine : Stmt := top 55
def s_check_both : Stmt := top 56
def s_behind_step : Stmt := top 57
def s_done : Stmt := top 58
def s_told_steps : Stmt := top 59
def s_word_of : Stmt := top 60
def s_letter_of : Stmt := top 61
def s_wait_of : Stmt := top 62
def s_going_of : Stmt := top 63
def s_number_plan : Stmt := top 64
def s_doing_of : Stmt := top 65
def s_raw_plan : Stmt := top 66
def s_plan_of : Stmt := top 67
def s_number_in : Stmt := top 68
def s_standing_of : Stmt := top 69
def s_meetings_of : Stmt := top 72
def s_without : Stmt := top 73
def s_met_of : Stmt := top 74
def s_check_choices : Stmt := top 75
def s_run : Stmt := top 76
def s__law_tape : Stmt := top 78
def s__law_pick : Stmt := top 79
def s__law_machine : Stmt := top 80
def s__law_standing : Stmt := top 81
def s__law_next : Stmt := top 82
def s__law_same : Stmt := top 83
def s__law_due : Stmt := top 84
def s__law_great : Stmt := top 85
def s__law_asked : Stmt := top 86
def s__law_run_by : Stmt := top 87
def s__law_sorts : Stmt := top 88
def s__law_for_ever : Stmt := top 89
def s_law : Stmt := top 90
abbrev c_MOST_WORD : Int := 8
abbrev c_MOST_ITEMS : Int := 5000
abbrev c_MOST_NESTED : Int := 120
abbrev c_MOST_INSTRUCTIONS : Int := 12
abbrev c_MOST_NUMBER : Int := 20
abbrev c_MOST_STEPS : Int := 100000
abbrev c_MOST_CHOICES : Int := 200
abbrev c_SMALL : Str := "abcdefghijklmnopqrstuvwxyz"
abbrev c_REGISTERS : Str := "mnop"
def v_RANKS : List (Str × Int) := [("name", 0), ("mark", 1), ("got", 2), ("letter", 3), ("wait", 4)]
def v_LENGTHS : List (Str × Int) := [("halt", 1), ("up", 3), ("down", 4)]
def v_MEETINGS : List (Str × Int) := [("up", 2), ("down", 4)]
structure Hd (w : World) (K : PySem.W.Frag) (mg : Str → Option Value) : Prop where
  len : mg "len" = none
  isinstance : mg "isinstance" = none
  all : mg "all" = none
  sum : mg "sum" = none
  max : mg "max" = none
  min : mg "min" = none
  sorted : mg "sorted" = none
  enumerate : mg "enumerate" = none
  range : mg "range" = none
  int : mg "int" = none
  str : mg "str" = none
  bool : mg "bool" = none
  tuple : mg "tuple" = none
  list : mg "list" = none
  g_MOST_WORD : ∃ t, mg "MOST_WORD" = some (.int c_MOST_WORD t)
  g_MOST_ITEMS : ∃ t, mg "MOST_ITEMS" = some (.int c_MOST_ITEMS t)
  g_MOST_NESTED : ∃ t, mg "MOST_NESTED" = some (.int c_MOST_NESTED t)
  g_MOST_INSTRUCTIONS : ∃ t, mg "MOST_INSTRUCTIONS" = some (.int c_MOST_INSTRUCTIONS t)
  g_MOST_NUMBER : ∃ t, mg "MOST_NUMBER" = some (.int c_MOST_NUMBER t)
  g_MOST_STEPS : ∃ t, mg "MOST_STEPS" = some (.int c_MOST_STEPS t)
  g_MOST_CHOICES : ∃ t, mg "MOST_CHOICES" = some (.int c_MOST_CHOICES t)
  g_SMALL : ∃ t, mg "SMALL" = some (.str c_SMALL t)
  g_REGISTERS : ∃ t, mg "REGISTERS" = some (.str c_REGISTERS t)
  k_RANKS : DkOk w K mg "RANKS" v_RANKS
  k_LENGTHS : DkOk w K mg "LENGTHS" v_LENGTHS
  k_MEETINGS : DkOk w K mg "MEETINGS" v_MEETINGS
  d_is_integer : Dfn K mg "is_integer" s_is_integer
  d_is_within : Dfn K mg "is_within" s_is_within
  d_is_pair : Dfn K mg "is_pair" s_is_pair
  d_is_triple : Dfn K mg "is_triple" s_is_triple
  d_is_listed : Dfn K mg "is_listed" s_is_listed
  d_is_word : Dfn K mg "is_word" s_is_word
  d_is_door : Dfn K mg "is_door" s_is_door
  d_is_part : Dfn K mg "is_part" s_is_part
  d_is_plan_in : Dfn K mg "is_plan_in" s_is_plan_in
  d_check_plan : Dfn K mg "check_plan" s_check_plan
  d_check_count : Dfn K mg "check_count" s_check_count
  d_part_key : Dfn K mg "part_key" s_part_key
  d_plan_key : Dfn K mg "plan_key" s_plan_key
  d_sorted_items : Dfn K mg "sorted_items" s_sorted_items
  d_parts_within : Dfn K mg "parts_within" s_parts_within
  d_items_in : Dfn K mg "items_in" s_items_in
  d_nesting : Dfn K mg "nesting" s_nesting
  d_check_room : Dfn K mg "check_room" s_check_room
  d_roomy : Dfn K mg "roomy" s_roomy
  d_gots_at : Dfn K mg "gots_at" s_gots_at
  d_mapped : Dfn K mg "mapped" s_mapped
  d_raised : Dfn K mg "raised" s_raised
  d_brought : Dfn K mg "brought" s_brought
  d_roomy_brought : Dfn K mg "roomy_brought" s_roomy_brought
  d_bound_to : Dfn K mg "bound_to" s_bound_to
  d_folded : Dfn K mg "folded" s_folded
  d_plain_of : Dfn K mg "plain_of" s_plain_of
  d_is_instruction : Dfn K mg "is_instruction" s_is_instruction
  d_is_machine : Dfn K mg "is_machine" s_is_machine
  d_is_standing : Dfn K mg "is_standing" s_is_standing
  d_check_machine : Dfn K mg "check_machine" s_check_machine
  d_check_both : Dfn K mg "check_both" s_check_both
  d_behind_step : Dfn K mg "behind_step" s_behind_step
  d_done : Dfn K mg "done" s_done
  d_told_steps : Dfn K mg "told_steps" s_told_steps
  d_word_of : Dfn K mg "word_of" s_word_of
  d_letter_of : Dfn K mg "letter_of" s_letter_of
  d_wait_of : Dfn K mg "wait_of" s_wait_of
  d_going_of : Dfn K mg "going_of" s_going_of
  d_number_plan : Dfn K mg "number_plan" s_number_plan
  d_doing_of : Dfn K mg "doing_of" s_doing_of
  d_raw_plan : Dfn K mg "raw_plan" s_raw_plan
  d_plan_of : Dfn K mg "plan_of" s_plan_of
  d_number_in : Dfn K mg "number_in" s_number_in
  d_standing_of : Dfn K mg "standing_of" s_standing_of
  d_meetings_of : Dfn K mg "meetings_of" s_meetings_of
  d_without : Dfn K mg "without" s_without
  d_met_of : Dfn K mg "met_of" s_met_of
  d_check_choices : Dfn K mg "check_choices" s_check_choices
  d_run : Dfn K mg "run" s_run
  d__law_tape : Dfn K mg "_law_tape" s__law_tape
  d__law_pick : Dfn K mg "_law_pick" s__law_pick
  d__law_machine : Dfn K mg "_law_machine" s__law_machine
  d__law_standing : Dfn K mg "_law_standing" s__law_standing
  d__law_next : Dfn K mg "_law_next" s__law_next
  d__law_same : Dfn K mg "_law_same" s__law_same
  d__law_due : Dfn K mg "_law_due" s__law_due
  d__law_great : Dfn K mg "_law_great" s__law_great
  d__law_asked : Dfn K mg "_law_asked" s__law_asked
  d__law_run_by : Dfn K mg "_law_run_by" s__law_run_by
  d__law_sorts : Dfn K mg "_law_sorts" s__law_sorts
  d__law_for_ever : Dfn K mg "_law_for_ever" s__law_for_ever
  d_law : Dfn K mg "law" s_law
end K87
set_option maxHeartbeats 0
/-! The head's facts, by names. -/
namespace K87
open PySem PySem.Spec PyProof.Rows L2
def dd (x : Str) (st : Stmt) : He.DefD := ⟨(x, none), x, x, defArgs st, defBody st, defScope st, [], []⟩
def fnH0 : List He.DefD := [dd "is_integer" s_is_integer, dd "is_within" s_is_within, dd "is_pair" s_is_pair, dd "is_triple" s_is_triple, dd "is_listed" s_is_listed, dd "is_word" s_is_word, dd "is_door" s_is_door, dd "is_part" s_is_part, dd "is_plan_in" s_is_plan_in, dd "check_plan" s_check_plan, dd "check_count" s_check_count, dd "part_key" s_part_key, dd "plan_key" s_plan_key, dd "sorted_items" s_sorted_items, dd "parts_within" s_parts_within, dd "items_in" s_items_in, dd "nesting" s_nesting, dd "check_room" s_check_room, dd "roomy" s_roomy, dd "gots_at" s_gots_at, dd "mapped" s_mapped, dd "raised" s_raised, dd "brought" s_brought, dd "roomy_brought" s_roomy_brought, dd "bound_to" s_bound_to, dd "folded" s_folded, dd "plain_of" s_plain_of, dd "is_instruction" s_is_instruction, dd "is_machine" s_is_machine, dd "is_standing" s_is_standing]
def fnH1 : List He.DefD := [dd "check_machine" s_check_machine, dd "check_both" s_check_both, dd "behind_step" s_behind_step, dd "done" s_done, dd "told_steps" s_told_steps, dd "word_of" s_word_of, dd "letter_of" s_letter_of, dd "wait_of" s_wait_of, dd "going_of" s_going_of, dd "number_plan" s_number_plan, dd "doing_of" s_doing_of, dd "raw_plan" s_raw_plan, dd "plan_of" s_plan_of, dd "number_in" s_number_in, dd "standing_of" s_standing_of, dd "meetings_of" s_meetings_of, dd "without" s_without, dd "met_of" s_met_of, dd "check_choices" s_check_choices, dd "run" s_run, dd "_law_tape" s__law_tape, dd "_law_pick" s__law_pick, dd "_law_machine" s__law_machine, dd "_law_standing" s__law_standing, dd "_law_next" s__law_next, dd "_law_same" s__law_same, dd "_law_due" s__law_due, dd "_law_great" s__law_great, dd "_law_asked" s__law_asked, dd "_law_run_by" s__law_run_by]
def fnH2 : List He.DefD := [dd "_law_sorts" s__law_sorts, dd "_law_for_ever" s__law_for_ever, dd "law" s_law]
def fnH : List He.DefD := fnH0 ++ fnH1 ++ fnH2
def gloH0 : List He.Fa := [.glo "is_integer", .glo "is_within", .glo "is_pair", .glo "is_triple", .glo "is_listed", .glo "is_word", .glo "is_door", .glo "is_part", .glo "is_plan_in", .glo "check_plan", .glo "check_count", .glo "part_key", .glo "plan_key", .glo "sorted_items", .glo "parts_within", .glo "items_in", .glo "nesting", .glo "check_room", .glo "roomy", .glo "gots_at", .glo "mapped", .glo "raised", .glo "brought", .glo "roomy_brought", .glo "bound_to", .glo "folded", .glo "plain_of", .glo "is_instruction", .glo "is_machine", .glo "is_standing"]
def gloH1 : List He.Fa := [.glo "check_machine", .glo "check_both", .glo "behind_step", .glo "done", .glo "told_steps", .glo "word_of", .glo "letter_of", .glo "wait_of", .glo "going_of", .glo "number_plan", .glo "doing_of", .glo "raw_plan", .glo "plan_of", .glo "number_in", .glo "standing_of", .glo "meetings_of", .glo "without", .glo "met_of", .glo "check_choices", .glo "run", .glo "_law_tape", .glo "_law_pick", .glo "_law_machine", .glo "_law_standing", .glo "_law_next", .glo "_law_same", .glo "_law_due", .glo "_law_great", .glo "_law_asked", .glo "_law_run_by"]
def gloH2 : List He.Fa := [.glo "_law_sorts", .glo "_law_for_ever", .glo "law", .glo "RANKS", .glo "LENGTHS", .glo "MEETINGS"]
def gloH : List He.Fa := gloH0 ++ gloH1 ++ gloH2
def othH : List He.Fa := [.free "len", .free "isinstance", .free "all", .free "sum", .free "max", .free "min", .free "sorted", .free "enumerate", .free "range", .free "int", .free "str", .free "bool", .free "tuple", .free "list", .int "MOST_WORD" c_MOST_WORD, .int "MOST_ITEMS" c_MOST_ITEMS, .int "MOST_NESTED" c_MOST_NESTED, .int "MOST_INSTRUCTIONS" c_MOST_INSTRUCTIONS, .int "MOST_NUMBER" c_MOST_NUMBER, .int "MOST_STEPS" c_MOST_STEPS, .int "MOST_CHOICES" c_MOST_CHOICES, .str "SMALL" c_SMALL, .str "REGISTERS" c_REGISTERS]
def faH : List He.Fa := gloH ++ othH
def tsH : List He.Tab := [(fun K => He.ga K "RANKS", v_RANKS.map (·.1)), (fun K => He.ga K "LENGTHS", v_LENGTHS.map (·.1)), (fun K => He.ga K "MEETINGS", v_MEETINGS.map (·.1))]
def tfH : List He.Defn := [("sorted_items", none), ("raised", none), ("brought", none), ("bound_to", none)]
def kvH (vs : List (Str × Int)) : List (Str × He.Dv) := vs.map fun q => (q.1, .int q.2)
def ndB : List Addr → Bool
  | [] => true
  | a :: r => !(r.any fun b => Nat.beq a b) && ndB r
def exH (K : PySem.W.Frag) : Bool := He.valsB K (He.ga K "RANKS") (kvH v_RANKS) && He.valsB K (He.ga K "LENGTHS") (kvH v_LENGTHS) && He.valsB K (He.ga K "MEETINGS") (kvH v_MEETINGS) && ndB (tfH.map fun p => (He.cT K p).2)
def looseH0 : List Str := ["PlanError", "NoPlan", "NoCount", "NoMeeting", "NoChoices", "NoMachine", "NoStanding", "TooMany", "SMALL", "MOST_WORD", "RANKS", "MOST_ITEMS", "MOST_NESTED", "REGISTERS", "MOST_INSTRUCTIONS", "MOST_NUMBER", "MOST_STEPS", "LENGTHS", "MEETINGS", "MOST_CHOICES", "is_integer", "is_within", "is_pair", "is_triple", "is_listed", "is_word", "is_door", "is_part", "is_plan_in", "check_plan"]
def looseH1 : List Str := ["check_count", "part_key", "plan_key", "sorted_items", "parts_within", "items_in", "nesting", "check_room", "roomy", "gots_at", "mapped", "raised", "brought", "roomy_brought", "bound_to", "folded", "plain_of", "is_instruction", "is_machine", "is_standing", "check_machine", "check_both", "behind_step", "done", "told_steps", "word_of", "letter_of", "wait_of", "going_of", "number_plan"]
def looseH2 : List Str := ["doing_of", "raw_plan", "plan_of", "number_in", "standing_of", "meetings_of", "without", "met_of", "check_choices", "run", "_law_tape", "_law_pick", "_law_machine", "_law_standing", "_law_next", "_law_same", "_law_due", "_law_great", "_law_asked", "_law_run_by", "_law_sorts", "_law_for_ever"]
def looseH : List Str := looseH0 ++ looseH1 ++ looseH2
abbrev RH : PySem.W.OpenRow := PySem.W.OpenLaw.row PySem.Challenge.rw_sealedplans_k87_whole_steps_told_of_meet
abbrev hkH : PySem.W.Hook := He.hookX 2 faH fnH tsH tfH exH
def obH (s : PySem.W.SharedT) : He.AlX := He.obsX 2 faH fnH tsH tfH exH (HandSHeadRun.getT s)
theorem obH_eq (s : PySem.W.SharedT) : obH s = hkH.obs s.abs := He.obsX_eq (HandSHeadRun.getT_eq s)

end K87
set_option maxHeartbeats 0
/-! The head's run: three looks, each for both answers of one row of the world. -/
namespace K87
open PySem PySem.Spec PyProof.Rows L2
abbrev qvH : Program := PySem.W.view RH.prog [90]
noncomputable abbrev endH (w : World) (os : OsState) : Option PySem.W.SharedT := HandSHeadRun.endF (HandSHeadRun.stepQ (HandSHeadRun.denQ HandSHeadRun.tabQ) RH.prog w) 20000 RH.prog w os
def LookL (w : World) : Prop := ∀ os : OsState, (endH w os).map (fun s => HandSHeadRun.looksF RH.prog (PySem.W.boot_heap w.params) s.abs) = some true
def LookS (w : World) : Prop := ∀ os : OsState, (endH w os).map (fun s => HandSHeadRun.seenQ qvH looseH (importedModules RH.prog.main.body) (fun s => PySem.W.xlAt qvH [] s && PySem.W.recOk RH.toRowW.records s) s.abs) = some (PySem.W.openGood qvH looseH)
def LookO (w : World) : Prop := ∀ os : OsState, (endH w os).map (fun s => obH s) = some (hkH.val w)
theorem lookL0 (w : World) : LookL (w.withFollow "special-get-raises" false) := by intro os; kernel_rfl
theorem lookL1 (w : World) : LookL (w.withFollow "special-get-raises" true) := by intro os; kernel_rfl
theorem lookS0 (w : World) : LookS (w.withFollow "special-get-raises" false) := by intro os; kernel_rfl
theorem lookS1 (w : World) : LookS (w.withFollow "special-get-raises" true) := by intro os; kernel_rfl
theorem lookO0 (w : World) : LookO (w.withFollow "special-get-raises" false) := by intro os; kernel_rfl
theorem lookO1 (w : World) : LookO (w.withFollow "special-get-raises" true) := by intro os; kernel_rfl
theorem map3 {α β γ δ : Type} {o : Option α} {f : α → β} {g : α → γ} {h : α → δ} {a : β} {b : γ} {c : δ} (h1 : o.map f = some a) (h2 : o.map g = some b) (h3 : o.map h = some c) : o.map (fun s => (f s, g s, h s)) = some (a, b, c) := by
  cases o with
  | none => cases h1
  | some x =>
    have e1 : f x = a := Option.some.inj h1
    have e2 : g x = b := Option.some.inj h2
    have e3 : h x = c := Option.some.inj h3
    rw [← e1, ← e2, ← e3]
    rfl
theorem headRun (w : World) : HandSHeadRun.RunEq RH qvH hkH obH 20000 looseH w := fun os =>
  map3 (PySem.W.byRow2 "special-get-raises" (P := LookL) lookL0 lookL1 w os) (PySem.W.byRow2 "special-get-raises" (P := LookS) lookS0 lookS1 w os) (PySem.W.byRow2 "special-get-raises" (P := LookO) lookO0 lookO1 w os)
end K87
namespace K87
open PySem PySem.Spec PyProof.Rows L2
/-! is_integer -/
theorem sc_is_integer : FnScope ["thing"] ["thing"] (defScope s_is_integer) := ⟨rfl, rfl, rfl, by decide +kernel, rfl, by decide +kernel, by decide +kernel⟩
def t_is_integer (K : PySem.W.Frag) : TS :=
  (tRet (tAndV (tCB (rIsi K) (tCons (tVar 0) (tCons (tC (.ty "int")) tNil))) (tNotV (tCB (rIsi K) (tCons (tVar 0) (tCons (tC (.ty "bool")) tNil))))))
theorem pr_is_integer {P : Program} {w : World} {K : PySem.W.Frag} {mg : Str → Option Value} {base : Heap} {k : Nat} (M : Hd w K mg) (f : Addr) (cdv : Value) (A' : Around) (outer : List Env) (s : Shared) (H : Hp) (E : XK) (hr : Room k (Bx P w K mg base ["thing"] "is_integer" s_is_integer f cdv A' outer s H E).A) :
    PSs (Bx P w K mg base ["thing"] "is_integer" s_is_integer f cdv A' outer s H E) (defBody s_is_integer) (t_is_integer K) := by
  have nd := sc_is_integer.nd
  have hu := Room.u200 hr
  exact (pss_one (ps_ret (pe_and (pe_callB call_isi rfl M.isinstance boot_isinstance (pa_cons (pv 0) (pa_cons (pe_ty rfl M.int b_int) pa_nil))) (pe_one (pe_not (pe_callB call_isi rfl M.isinstance boot_isinstance (pa_cons (pv 0) (pa_cons (pe_ty rfl M.bool b_bool) pa_nil))))))))
theorem cl_is_integer {P : Program} {w : World} {K : PySem.W.Frag} {mg : Str → Option Value} {base : Heap} {k : Nat} {A : Amb} {t : TS} (M : Hd w K mg) (G : Gd) (hl : ∀ as P', G as P' → as.length = 1)
    (hp : ∀ (f : Addr) (cdv : Value) (A' : Around) (outer : List Env) (s : Shared) (H : Hp) (E : XK), Room k (Bx P w K mg base ["thing"] "is_integer" s_is_integer f cdv A' outer s H E).A → PSs (Bx P w K mg base ["thing"] "is_integer" s_is_integer f cdv A' outer s H E) (defBody s_is_integer) t)
    (hr : ∀ as P', G as P' → Rn K A t (as ++ List.replicate (1 - as.length) .emp) (retD P')) : Cal P w K mg base (k + 1) "is_integer" (spD K A G) :=
  cal_data M.d_is_integer sc_is_integer G hl (fun _ _ _ _ _ _ _ us _ hl => match us, hl with | [_], _ => rfl) hp hr
/-! is_within -/
theorem sc_is_within : FnScope ["thing", "least", "most"] ["thing", "least", "most"] (defScope s_is_within) := ⟨rfl, rfl, rfl, by decide +kernel, rfl, by decide +kernel, by decide +kernel⟩
def t_is_within (K : PySem.W.Frag) (sp_is_integer : Sp) : TS :=
  (tRet (tAndV (tCall sp_is_integer [] E0 (tCons (tVar 0) tNil)) (tChain (rI0 fun i j => .bl (decide (i ≤ j))) (rI0 fun i j => .bl (decide (i ≤ j))) (tVar 1) (tVar 0) (tVar 2))))
theorem pr_is_within {P : Program} {w : World} {K : PySem.W.Frag} {mg : Str → Option Value} {base : Heap} {k : Nat} (M : Hd w K mg) {k_is_integer : Nat} {sp_is_integer : Sp} (c_is_integer : Cal P w K mg base k_is_integer "is_integer" sp_is_integer) (h_is_integer : k_is_integer ≤ k) (f : Addr) (cdv : Value) (A' : Around) (outer : List Env) (s : Shared) (H : Hp) (E : XK) (hr : Room k (Bx P w K mg base ["thing", "least", "most"] "is_within" s_is_within f cdv A' outer s H E).A) :
    PSs (Bx P w K mg base ["thing", "least", "most"] "is_within" s_is_within f cdv A' outer s H E) (defBody s_is_within) (t_is_within K sp_is_integer) := by
  have nd := sc_is_within.nd
  have hu := Room.u200 hr
  exact (pss_one (ps_ret (pe_and (pe_cal c_is_integer hr h_is_integer rfl (pa_cons (pv 0) pa_nil)) (pe_one (pe_chain op_le op_le (pv 1) (pv 0) (pv 2))))))
theorem cl_is_within {P : Program} {w : World} {K : PySem.W.Frag} {mg : Str → Option Value} {base : Heap} {k : Nat} {A : Amb} {t : TS} (M : Hd w K mg) (G : Gd) (hl : ∀ as P', G as P' → as.length = 3)
    (hp : ∀ (f : Addr) (cdv : Value) (A' : Around) (outer : List Env) (s : Shared) (H : Hp) (E : XK), Room k (Bx P w K mg base ["thing", "least", "most"] "is_within" s_is_within f cdv A' outer s H E).A → PSs (Bx P w K mg base ["thing", "least", "most"] "is_within" s_is_within f cdv A' outer s H E) (defBody s_is_within) t)
    (hr : ∀ as P', G as P' → Rn K A t (as ++ List.replicate (3 - as.length) .emp) (retD P')) : Cal P w K mg base (k + 1) "is_within" (spD K A G) :=
  cal_data M.d_is_within sc_is_within G hl (fun _ _ _ _ _ _ _ us _ hl => match us, hl with | [_, _, _], _ => rfl) hp hr
/-! is_pair -/
theorem sc_is_pair : FnScope ["thing"] ["thing"] (defScope s_is_pair) := ⟨rfl, rfl, rfl, by decide +kernel, rfl, by decide +kernel, by decide +kernel⟩
def t_is_pair (K : PySem.W.Frag) : TS :=
  (tRet (tAndV (tCB (rIsi K) (tCons (tVar 0) (tCons (tC (.ty "tuple")) tNil))) (tOp rEq (tCB (rLenSeq K) (tCons (tVar 0) tNil)) (tC (.int 2)))))
theorem pr_is_pair {P : Program} {w : World} {K : PySem.W.Frag} {mg : Str → Option Value} {base : Heap} {k : Nat} (M : Hd w K mg) (f : Addr) (cdv : Value) (A' : Around) (outer : List Env) (s : Shared) (H : Hp) (E : XK) (hr : Room k (Bx P w K mg base ["thing"] "is_pair" s_is_pair f cdv A' outer s H E).A) :
    PSs (Bx P w K mg base ["thing"] "is_pair" s_is_pair f cdv A' outer s H E) (defBody s_is_pair) (t_is_pair K) := by
  have nd := sc_is_pair.nd
  have hu := Room.u200 hr
  exact (pss_one (ps_ret (pe_and (pe_callB call_isi rfl M.isinstance boot_isinstance (pa_cons (pv 0) (pa_cons (pe_ty rfl M.tuple b_tuple) pa_nil))) (pe_one (pe_cmpR op_eq (pe_callB call_len_seq rfl M.len boot_len (pa_cons (pv 0) pa_nil)) pe_int (by rfl))))))
theorem cl_is_pair {P : Program} {w : World} {K : PySem.W.Frag} {mg : Str → Option Value} {base : Heap} {k : Nat} {A : Amb} {t : TS} (M : Hd w K mg) (G : Gd) (hl : ∀ as P', G as P' → as.length = 1)
    (hp : ∀ (f : Addr) (cdv : Value) (A' : Around) (outer : List Env) (s : Shared) (H : Hp) (E : XK), Room k (Bx P w K mg base ["thing"] "is_pair" s_is_pair f cdv A' outer s H E).A → PSs (Bx P w K mg base ["thing"] "is_pair" s_is_pair f cdv A' outer s H E) (defBody s_is_pair) t)
    (hr : ∀ as P', G as P' → Rn K A t (as ++ List.replicate (1 - as.length) .emp) (retD P')) : Cal P w K mg base (k + 1) "is_pair" (spD K A G) :=
  cal_data M.d_is_pair sc_is_pair G hl (fun _ _ _ _ _ _ _ us _ hl => match us, hl with | [_], _ => rfl) hp hr
/-! is_triple -/
theorem sc_is_triple : FnScope ["thing"] ["thing"] (defScope s_is_triple) := ⟨rfl, rfl, rfl, by decide +kernel, rfl, by decide +kernel, by decide +kernel⟩
def t_is_triple (K : PySem.W.Frag) : TS :=
  (tRet (tAndV (tCB (rIsi K) (tCons (tVar 0) (tCons (tC (.ty "tuple")) tNil))) (tOp rEq (tCB (rLenSeq K) (tCons (tVar 0) tNil)) (tC (.int 3)))))
theorem pr_is_triple {P : Program} {w : World} {K : PySem.W.Frag} {mg : Str → Option Value} {base : Heap} {k : Nat} (M : Hd w K mg) (f : Addr) (cdv : Value) (A' : Around) (outer : List Env) (s : Shared) (H : Hp) (E : XK) (hr : Room k (Bx P w K mg base ["thing"] "is_triple" s_is_triple f cdv A' outer s H E).A) :
    PSs (Bx P w K mg base ["thing"] "is_triple" s_is_triple f cdv A' outer s H E) (defBody s_is_triple) (t_is_triple K) := by
  have nd := sc_is_triple.nd
  have hu := Room.u200 hr
  exact (pss_one (ps_ret (pe_and (pe_callB call_isi rfl M.isinstance boot_isinstance (pa_cons (pv 0) (pa_cons (pe_ty rfl M.tuple b_tuple) pa_nil))) (pe_one (pe_cmpR op_eq (pe_callB call_len_seq rfl M.len boot_len (pa_cons (pv 0) pa_nil)) pe_int (by rfl))))))
theorem cl_is_triple {P : Program} {w : World} {K : PySem.W.Frag} {mg : Str → Option Value} {base : Heap} {k : Nat} {A : Amb} {t : TS} (M : Hd w K mg) (G : Gd) (hl : ∀ as P', G as P' → as.length = 1)
    (hp : ∀ (f : Addr) (cdv : Value) (A' : Around) (outer : List Env) (s : Shared) (H : Hp) (E : XK), Room k (Bx P w K mg base ["thing"] "is_triple" s_is_triple f cdv A' outer s H E).A → PSs (Bx P w K mg base ["thing"] "is_triple" s_is_triple f cdv A' outer s H E) (defBody s_is_triple) t)
    (hr : ∀ as P', G as P' → Rn K A t (as ++ List.replicate (1 - as.length) .emp) (retD P')) : Cal P w K mg base (k + 1) "is_triple" (spD K A G) :=
  cal_data M.d_is_triple sc_is_triple G hl (fun _ _ _ _ _ _ _ us _ hl => match us, hl with | [_], _ => rfl) hp hr
/-! is_listed -/
theorem sc_is_listed : FnScope ["thing"] ["thing"] (defScope s_is_listed) := ⟨rfl, rfl, rfl, by decide +kernel, rfl, by decide +kernel, by decide +kernel⟩
def t_is_listed (K : PySem.W.Frag) : TS :=
  (tRet (tCB (rIsiT K) (tCons (tVar 0) (tCons (tTup (tCons (tC (.ty "list")) (tCons (tC (.ty "tuple")) tNil))) tNil))))
theorem pr_is_listed {P : Program} {w : World} {K : PySem.W.Frag} {mg : Str → Option Value} {base : Heap} {k : Nat} (M : Hd w K mg) (f : Addr) (cdv : Value) (A' : Around) (outer : List Env) (s : Shared) (H : Hp) (E : XK) (hr : Room k (Bx P w K mg base ["thing"] "is_listed" s_is_listed f cdv A' outer s H E).A) :
    PSs (Bx P w K mg base ["thing"] "is_listed" s_is_listed f cdv A' outer s H E) (defBody s_is_listed) (t_is_listed K) := by
  have nd := sc_is_listed.nd
  have hu := Room.u200 hr
  exact (pss_one (ps_ret (pe_callB call_isiT rfl M.isinstance boot_isinstance (pa_cons (pv 0) (pa_cons (pe_tup (pa_cons (pe_ty rfl M.list b_list) (pa_cons (pe_ty rfl M.tuple b_tuple) pa_nil))) pa_nil)))))
theorem cl_is_listed {P : Program} {w : World} {K : PySem.W.Frag} {mg : Str → Option Value} {base : Heap} {k : Nat} {A : Amb} {t : TS} (M : Hd w K mg) (G : Gd) (hl : ∀ as P', G as P' → as.length = 1)
    (hp : ∀ (f : Addr) (cdv : Value) (A' : Around) (outer : List Env) (s : Shared) (H : Hp) (E : XK), Room k (Bx P w K mg base ["thing"] "is_listed" s_is_listed f cdv A' outer s H E).A → PSs (Bx P w K mg base ["thing"] "is_listed" s_is_listed f cdv A' outer s H E) (defBody s_is_listed) t)
    (hr : ∀ as P', G as P' → Rn K A t (as ++ List.replicate (1 - as.length) .emp) (retD P')) : Cal P w K mg base (k + 1) "is_listed" (spD K A G) :=
  cal_data M.d_is_listed sc_is_listed G hl (fun _ _ _ _ _ _ _ us _ hl => match us, hl with | [_], _ => rfl) hp hr
/-! is_word -/
theorem sc_is_word : FnScope ["thing", "sign"] ["thing"] (defScope s_is_word) := ⟨rfl, rfl, rfl, by decide +kernel, rfl, by decide +kernel, by decide +kernel⟩
def t_is_word (K : PySem.W.Frag) : TS :=
  (tSeq (tIfS (tOr (tNot (tB (tCB (rIsi K) (tCons (tVar 0) (tCons (tC (.ty "str")) tNil))))) (tNot (tTest (tChain (rI0 fun i j => .bl (decide (i ≤ j))) (rI0 fun i j => .bl (decide (i ≤ j))) (tC (.int 1)) (tCB rLenStr (tCons (tVar 0) tNil)) (tC (.int c_MOST_WORD)))))) (tRet (tC (.bl false))) tNext)
    (tRet (tCB (rAll K) (tCons (tLc (iStr (tVar 0)) (gName 1) tYes (tOp rInSign (tVar 1) (tC (.str c_SMALL))) [1]) tNil))))
theorem pr_is_word {P : Program} {w : World} {K : PySem.W.Frag} {mg : Str → Option Value} {base : Heap} {k : Nat} (M : Hd w K mg) (f : Addr) (cdv : Value) (A' : Around) (outer : List Env) (s : Shared) (H : Hp) (E : XK) (hr : Room k (Bx P w K mg base ["thing", "sign"] "is_word" s_is_word f cdv A' outer s H E).A) :
    PSs (Bx P w K mg base ["thing", "sign"] "is_word" s_is_word f cdv A' outer s H E) (defBody s_is_word) (t_is_word K) := by
  have nd := sc_is_word.nd
  have hu := Room.u200 hr
  exact (pss_cons (ps_if (PW.pt (pw_or (pt_not (pt_val (pe_callB call_isi rfl M.isinstance boot_isinstance (pa_cons (pv 0) (pa_cons (pe_ty rfl M.str b_str) pa_nil))))) (pw_or1 (pt_not (pt_chain op_le op_le pe_int (pe_callB call_len_str rfl M.len boot_len (pa_cons (pv 0) pa_nil)) (pe_gint rfl M.g_MOST_WORD)))))) (pss_one (ps_ret pe_bl)) pss_nil)
    (pss_one (ps_ret (pe_callB (cr_all rfl) rfl M.all boot_all (pa_cons (pe_lc (own := [("sign", 1)]) rfl nd (pi_str (pv 0)) (blkOk_by (N := ["thing", "sign"]) (sc := defScope s_is_word) (by decide +kernel)) (fun _ _ _ _ _ => (pg_name (i := 1) nd rfl (by first | exact Or.inl rfl | exact Or.inr rfl))) (fun _ _ _ _ _ => pts_nil) (fun _ _ _ _ _ => (pe_cmpR op_in_sign (pv 1) (pe_gstr rfl M.g_SMALL) (by rfl)))) pa_nil)))))
theorem cl_is_word {P : Program} {w : World} {K : PySem.W.Frag} {mg : Str → Option Value} {base : Heap} {k : Nat} {A : Amb} {t : TS} (M : Hd w K mg) (G : Gd) (hl : ∀ as P', G as P' → as.length = 1)
    (hp : ∀ (f : Addr) (cdv : Value) (A' : Around) (outer : List Env) (s : Shared) (H : Hp) (E : XK), Room k (Bx P w K mg base ["thing", "sign"] "is_word" s_is_word f cdv A' outer s H E).A → PSs (Bx P w K mg base ["thing", "sign"] "is_word" s_is_word f cdv A' outer s H E) (defBody s_is_word) t)
    (hr : ∀ as P', G as P' → Rn K A t (as ++ List.replicate (2 - as.length) .emp) (retD P')) : Cal P w K mg base (k + 1) "is_word" (spD K A G) :=
  cal_data M.d_is_word sc_is_word G hl (fun _ _ _ _ _ _ _ us _ hl => match us, hl with | [_], _ => rfl) hp hr
/-! is_door -/
theorem sc_is_door : FnScope ["thing"] ["thing"] (defScope s_is_door) := ⟨rfl, rfl, rfl, by decide +kernel, rfl, by decide +kernel, by decide +kernel⟩
def t_is_door (K : PySem.W.Frag) (sp_is_word : Sp) : TS :=
  (tRet (tAndV (tCall sp_is_word [] E0 (tCons (tVar 0) tNil)) (tOp rEq (tCB rLenStr (tCons (tVar 0) tNil)) (tC (.int 1)))))
theorem pr_is_door {P : Program} {w : World} {K : PySem.W.Frag} {mg : Str → Option Value} {base : Heap} {k : Nat} (M : Hd w K mg) {k_is_word : Nat} {sp_is_word : Sp} (c_is_word : Cal P w K mg base k_is_word "is_word" sp_is_word) (h_is_word : k_is_word ≤ k) (f : Addr) (cdv : Value) (A' : Around) (outer : List Env) (s : Shared) (H : Hp) (E : XK) (hr : Room k (Bx P w K mg base ["thing"] "is_door" s_is_door f cdv A' outer s H E).A) :
    PSs (Bx P w K mg base ["thing"] "is_door" s_is_door f cdv A' outer s H E) (defBody s_is_door) (t_is_door K sp_is_word) := by
  have nd := sc_is_door.nd
  have hu := Room.u200 hr
  exact (pss_one (ps_ret (pe_and (pe_cal c_is_word hr h_is_word rfl (pa_cons (pv 0) pa_nil)) (pe_one (pe_cmpR op_eq (pe_callB call_len_str rfl M.len boot_len (pa_cons (pv 0) pa_nil)) pe_int (by rfl))))))
theorem cl_is_door {P : Program} {w : World} {K : PySem.W.Frag} {mg : Str → Option Value} {base : Heap} {k : Nat} {A : Amb} {t : TS} (M : Hd w K mg) (G : Gd) (hl : ∀ as P', G as P' → as.length = 1)
    (hp : ∀ (f : Addr) (cdv : Value) (A' : Around) (outer : List Env) (s : Shared) (H : Hp) (E : XK), Room k (Bx P w K mg base ["thing"] "is_door" s_is_door f cdv A' outer s H E).A → PSs (Bx P w K mg base ["thing"] "is_door" s_is_door f cdv A' outer s H E) (defBody s_is_door) t)
    (hr : ∀ as P', G as P' → Rn K A t (as ++ List.replicate (1 - as.length) .emp) (retD P')) : Cal P w K mg base (k + 1) "is_door" (spD K A G) :=
  cal_data M.d_is_door sc_is_door G hl (fun _ _ _ _ _ _ _ us _ hl => match us, hl with | [_], _ => rfl) hp hr
/-! is_part -/
theorem sc_is_part : FnScope ["thing", "depth"] ["thing", "depth"] (defScope s_is_part) := ⟨rfl, rfl, rfl, by decide +kernel, rfl, by decide +kernel, by decide +kernel⟩
def t_is_part (K : PySem.W.Frag) (sp_is_pair : Sp) (sp_is_word : Sp) (sp_is_integer : Sp) (sp_is_within : Sp) (sp_is_triple : Sp) (sp_is_door : Sp) (sp_is_plan_in : Sp) : TS :=
  (tSeq (tIfS (tB (tCall sp_is_pair [] E0 (tCons (tVar 0) tNil))) (tSeq (tIfS (tTest (tOp rEq (tOp (rIxT K) (tVar 0) (tC (.int 0))) (tC (.str "name")))) (tRet (tCall sp_is_word [] E0 (tCons (tOp (rIxT K) (tVar 0) (tC (.int 1))) tNil))) tNext)
    (tSeq (tIfS (tTest (tOp rEq (tOp (rIxT K) (tVar 0) (tC (.int 0))) (tC (.str "mark")))) (tRet (tAndV (tCall sp_is_integer [] E0 (tCons (tOp (rIxT K) (tVar 0) (tC (.int 1))) tNil)) (tOp (rI0 fun i j => .bl (decide (j ≤ i))) (tOp (rIxT K) (tVar 0) (tC (.int 1))) (tC (.int 0))))) tNext)
    (tRet (tAndV (tOp rEq (tOp (rIxT K) (tVar 0) (tC (.int 0))) (tC (.str "got"))) (tCall sp_is_within [] E0 (tCons (tOp (rIxT K) (tVar 0) (tC (.int 1))) (tCons (tC (.int 0)) (tCons (tOp (rI0 fun i j => .int (i - j)) (tVar 1) (tC (.int 1))) tNil)))))))) tNext)
    (tSeq (tIfS (tOr (tNot (tB (tCall sp_is_triple [] E0 (tCons (tVar 0) tNil)))) (tOr (tTest (tOp (rIn K true) (tOp (rIxT K) (tVar 0) (tC (.int 0))) (tTup (tCons (tC (.str "letter")) (tCons (tC (.str "wait")) tNil))))) (tNot (tB (tCall sp_is_door [] E0 (tCons (tOp (rIxT K) (tVar 0) (tC (.int 1))) tNil)))))) (tRet (tC (.bl false))) tNext)
    (tRet (tCall sp_is_plan_in [] E0 (tCons (tOp (rIxT K) (tVar 0) (tC (.int 2))) (tCons (tIf (tTest (tOp rEq (tOp (rIxT K) (tVar 0) (tC (.int 0))) (tC (.str "wait")))) (tOp (rI0 fun i j => .int (i + j)) (tVar 1) (tC (.int 1))) (tVar 1)) tNil))))))
theorem pr_is_part {P : Program} {w : World} {K : PySem.W.Frag} {mg : Str → Option Value} {base : Heap} {k : Nat} (M : Hd w K mg) {k_is_pair : Nat} {sp_is_pair : Sp} (c_is_pair : Cal P w K mg base k_is_pair "is_pair" sp_is_pair) (h_is_pair : k_is_pair ≤ k) {k_is_word : Nat} {sp_is_word : Sp} (c_is_word : Cal P w K mg base k_is_word "is_word" sp_is_word) (h_is_word : k_is_word ≤ k) {k_is_integer : Nat} {sp_is_integer : Sp} (c_is_integer : Cal P w K mg base k_is_integer "is_integer" sp_is_integer) (h_is_integer : k_is_integer ≤ k) {k_is_within : Nat} {sp_is_within : Sp} (c_is_within : Cal P w K mg base k_is_within "is_within" sp_is_within) (h_is_within : k_is_within ≤ k) {k_is_triple : Nat} {sp_is_triple : Sp} (c_is_triple : Cal P w K mg base k_is_triple "is_triple" sp_is_triple) (h_is_triple : k_is_triple ≤ k) {k_is_door : Nat} {sp_is_door : Sp} (c_is_door : Cal P w K mg base k_is_door "is_door" sp_is_door) (h_is_door : k_is_door ≤ k) {k_is_plan_in : Nat} {sp_is_plan_in : Sp} (c_is_plan_in : Cal P w K mg base k_is_plan_in "is_plan_in" sp_is_plan_in) (h_is_plan_in : k_is_plan_in ≤ k) (f : Addr) (cdv : Value) (A' : Around) (outer : List Env) (s : Shared) (H : Hp) (E : XK) (hr : Room k (Bx P w K mg base ["thing", "depth"] "is_part" s_is_part f cdv A' outer s H E).A) :
    PSs (Bx P w K mg base ["thing", "depth"] "is_part" s_is_part f cdv A' outer s H E) (defBody s_is_part) (t_is_part K sp_is_pair sp_is_word sp_is_integer sp_is_within sp_is_triple sp_is_door sp_is_plan_in) := by
  have nd := sc_is_part.nd
  have hu := Room.u200 hr
  exact (pss_cons (ps_if (pt_val (pe_cal c_is_pair hr h_is_pair rfl (pa_cons (pv 0) pa_nil))) (pss_cons (ps_if (pt_cmpR op_eq (pe_ix ix_tup (pv 0) pe_int (fun _ _ => rfl)) pe_str (by rfl)) (pss_one (ps_ret (pe_cal c_is_word hr h_is_word rfl (pa_cons (pe_ix ix_tup (pv 0) pe_int (fun _ _ => rfl)) pa_nil)))) pss_nil)
    (pss_cons (ps_if (pt_cmpR op_eq (pe_ix ix_tup (pv 0) pe_int (fun _ _ => rfl)) pe_str (by rfl)) (pss_one (ps_ret (pe_and (pe_cal c_is_integer hr h_is_integer rfl (pa_cons (pe_ix ix_tup (pv 0) pe_int (fun _ _ => rfl)) pa_nil)) (pe_one (pe_cmpR op_ge (pe_ix ix_tup (pv 0) pe_int (fun _ _ => rfl)) pe_int (by rfl)))))) pss_nil)
    (pss_one (ps_ret (pe_and (pe_cmpR op_eq (pe_ix ix_tup (pv 0) pe_int (fun _ _ => rfl)) pe_str (by rfl)) (pe_one (pe_cal c_is_within hr h_is_within rfl (pa_cons (pe_ix ix_tup (pv 0) pe_int (fun _ _ => rfl)) (pa_cons pe_int (pa_cons (pe_op op_sub (pv 1) pe_int) pa_nil)))))))))) pss_nil)
    (pss_cons (ps_if (PW.pt (pw_or (pt_not (pt_val (pe_cal c_is_triple hr h_is_triple rfl (pa_cons (pv 0) pa_nil)))) (pw_or (pt_cmpR op_notIn_seq (pe_ix ix_tup (pv 0) pe_int (fun _ _ => rfl)) (pe_tup (pa_cons pe_str (pa_cons pe_str pa_nil))) (by rfl)) (pw_or1 (pt_not (pt_val (pe_cal c_is_door hr h_is_door rfl (pa_cons (pe_ix ix_tup (pv 0) pe_int (fun _ _ => rfl)) pa_nil)))))))) (pss_one (ps_ret pe_bl)) pss_nil)
    (pss_one (ps_ret (pe_cal c_is_plan_in hr h_is_plan_in rfl (pa_cons (pe_ix ix_tup (pv 0) pe_int (fun _ _ => rfl)) (pa_cons (pe_ifExp (pt_cmpR op_eq (pe_ix ix_tup (pv 0) pe_int (fun _ _ => rfl)) pe_str (by rfl)) (pe_op op_add (pv 1) pe_int) (pv 1)) pa_nil)))))))
theorem cl_is_part {P : Program} {w : World} {K : PySem.W.Frag} {mg : Str → Option Value} {base : Heap} {k : Nat} {A : Amb} {t : TS} (M : Hd w K mg) (G : Gd) (hl : ∀ as P', G as P' → as.length = 2)
    (hp : ∀ (f : Addr) (cdv : Value) (A' : Around) (outer : List Env) (s : Shared) (H : Hp) (E : XK), Room k (Bx P w K mg base ["thing", "depth"] "is_part" s_is_part f cdv A' outer s H E).A → PSs (Bx P w K mg base ["thing", "depth"] "is_part" s_is_part f cdv A' outer s H E) (defBody s_is_part) t)
    (hr : ∀ as P', G as P' → Rn K A t (as ++ List.replicate (2 - as.length) .emp) (retD P')) : Cal P w K mg base (k + 1) "is_part" (spD K A G) :=
  cal_data M.d_is_part sc_is_part G hl (fun _ _ _ _ _ _ _ us _ hl => match us, hl with | [_, _], _ => rfl) hp hr
/-! is_plan_in -/
theorem sc_is_plan_in : FnScope ["thing", "depth", "item"] ["thing", "depth"] (defScope s_is_plan_in) := ⟨rfl, rfl, rfl, by decide +kernel, rfl, by decide +kernel, by decide +kernel⟩
def t_is_plan_in (K : PySem.W.Frag) (sp_is_pair : Sp) (sp_is_integer : Sp) (sp_is_part : Sp) : TS :=
  (tSeq (tIfS (tNot (tB (tCB (rIsi K) (tCons (tVar 0) (tCons (tC (.ty "tuple")) tNil))))) (tRet (tC (.bl false))) tNext)
    (tSeq (tFor (iTup K (tVar 0)) (gName 2) (tIfS (tOr (tNot (tB (tCall sp_is_pair [] E0 (tCons (tVar 2) tNil)))) (tOr (tNot (tB (tCall sp_is_integer [] E0 (tCons (tOp (rIxT K) (tVar 2) (tC (.int 0))) tNil)))) (tOr (tTest (tOp (rI0 fun i j => .bl (decide (i < j))) (tOp (rIxT K) (tVar 2) (tC (.int 0))) (tC (.int 1)))) (tNot (tB (tCall sp_is_part [] E0 (tCons (tOp (rIxT K) (tVar 2) (tC (.int 1))) (tCons (tVar 1) tNil)))))))) (tRet (tC (.bl false))) tNext))
    (tRet (tC (.bl true)))))
theorem pr_is_plan_in {P : Program} {w : World} {K : PySem.W.Frag} {mg : Str → Option Value} {base : Heap} {k : Nat} (M : Hd w K mg) {k_is_pair : Nat} {sp_is_pair : Sp} (c_is_pair : Cal P w K mg base k_is_pair "is_pair" sp_is_pair) (h_is_pair : k_is_pair ≤ k) {k_is_integer : Nat} {sp_is_integer : Sp} (c_is_integer : Cal P w K mg base k_is_integer "is_integer" sp_is_integer) (h_is_integer : k_is_integer ≤ k) {k_is_part : Nat} {sp_is_part : Sp} (c_is_part : Cal P w K mg base k_is_part "is_part" sp_is_part) (h_is_part : k_is_part ≤ k) (f : Addr) (cdv : Value) (A' : Around) (outer : List Env) (s : Shared) (H : Hp) (E : XK) (hr : Room k (Bx P w K mg base ["thing", "depth", "item"] "is_plan_in" s_is_plan_in f cdv A' outer s H E).A) :
    PSs (Bx P w K mg base ["thing", "depth", "item"] "is_plan_in" s_is_plan_in f cdv A' outer s H E) (defBody s_is_plan_in) (t_is_plan_in K sp_is_pair sp_is_integer sp_is_part) := by
  have nd := sc_is_plan_in.nd
  have hu := Room.u200 hr
  exact (pss_cons (ps_if (pt_not (pt_val (pe_callB call_isi rfl M.isinstance boot_isinstance (pa_cons (pv 0) (pa_cons (pe_ty rfl M.tuple b_tuple) pa_nil))))) (pss_one (ps_ret pe_bl)) pss_nil)
    (pss_cons (ps_for PassesOwn.never rfl (pi_tup (pv 0)) (pg_name (i := 2) nd rfl (by first | exact Or.inl rfl | exact Or.inr rfl)) (pss_one (ps_if (PW.pt (pw_or (pt_not (pt_val (pe_cal c_is_pair hr h_is_pair rfl (pa_cons (pv 2) pa_nil)))) (pw_or (pt_not (pt_val (pe_cal c_is_integer hr h_is_integer rfl (pa_cons (pe_ix ix_tup (pv 2) pe_int (fun _ _ => rfl)) pa_nil)))) (pw_or (pt_cmpR op_lt (pe_ix ix_tup (pv 2) pe_int (fun _ _ => rfl)) pe_int (by rfl)) (pw_or1 (pt_not (pt_val (pe_cal c_is_part hr h_is_part rfl (pa_cons (pe_ix ix_tup (pv 2) pe_int (fun _ _ => rfl)) (pa_cons (pv 1) pa_nil)))))))))) (pss_one (ps_ret pe_bl)) pss_nil)))
    (pss_one (ps_ret pe_bl))))
theorem cl_is_plan_in {P : Program} {w : World} {K : PySem.W.Frag} {mg : Str → Option Value} {base : Heap} {k : Nat} {A : Amb} {t : TS} (M : Hd w K mg) (G : Gd) (hl : ∀ as P', G as P' → as.length = 2)
    (hp : ∀ (f : Addr) (cdv : Value) (A' : Around) (outer : List Env) (s : Shared) (H : Hp) (E : XK), Room k (Bx P w K mg base ["thing", "depth", "item"] "is_plan_in" s_is_plan_in f cdv A' outer s H E).A → PSs (Bx P w K mg base ["thing", "depth", "item"] "is_plan_in" s_is_plan_in f cdv A' outer s H E) (defBody s_is_plan_in) t)
    (hr : ∀ as P', G as P' → Rn K A t (as ++ List.replicate (3 - as.length) .emp) (retD P')) : Cal P w K mg base (k + 1) "is_plan_in" (spD K A G) :=
  cal_data M.d_is_plan_in sc_is_plan_in G hl (fun _ _ _ _ _ _ _ us _ hl => match us, hl with | [_, _], _ => rfl) hp hr
/-! check_plan -/
theorem sc_check_plan : FnScope ["thing"] ["thing"] (defScope s_check_plan) := ⟨rfl, rfl, rfl, by decide +kernel, rfl, by decide +kernel, by decide +kernel⟩
def t_check_plan (K : PySem.W.Frag) (sp_is_plan_in : Sp) : TS :=
  (tIfS (tNot (tB (tCall sp_is_plan_in [] E0 (tCons (tVar 0) (tCons (tC (.int 0)) tNil))))) tNever tNext)
theorem pr_check_plan {P : Program} {w : World} {K : PySem.W.Frag} {mg : Str → Option Value} {base : Heap} {k : Nat} (M : Hd w K mg) {k_is_plan_in : Nat} {sp_is_plan_in : Sp} (c_is_plan_in : Cal P w K mg base k_is_plan_in "is_plan_in" sp_is_plan_in) (h_is_plan_in : k_is_plan_in ≤ k) (f : Addr) (cdv : Value) (A' : Around) (outer : List Env) (s : Shared) (H : Hp) (E : XK) (hr : Room k (Bx P w K mg base ["thing"] "check_plan" s_check_plan f cdv A' outer s H E).A) :
    PSs (Bx P w K mg base ["thing"] "check_plan" s_check_plan f cdv A' outer s H E) (defBody s_check_plan) (t_check_plan K sp_is_plan_in) := by
  have nd := sc_check_plan.nd
  have hu := Room.u200 hr
  exact (pss_one (ps_if (pt_not (pt_val (pe_cal c_is_plan_in hr h_is_plan_in rfl (pa_cons (pv 0) (pa_cons pe_int pa_nil))))) (pss_one ps_never) pss_nil))
theorem cl_check_plan {P : Program} {w : World} {K : PySem.W.Frag} {mg : Str → Option Value} {base : Heap} {k : Nat} {A : Amb} {t : TS} (M : Hd w K mg) (G : Gd) (hl : ∀ as P', G as P' → as.length = 1)
    (hp : ∀ (f : Addr) (cdv : Value) (A' : Around) (outer : List Env) (s : Shared) (H : Hp) (E : XK), Room k (Bx P w K mg base ["thing"] "check_plan" s_check_plan f cdv A' outer s H E).A → PSs (Bx P w K mg base ["thing"] "check_plan" s_check_plan f cdv A' outer s H E) (defBody s_check_plan) t)
    (hr : ∀ as P', G as P' → Rn K A t (as ++ List.replicate (1 - as.length) .emp) (retD P')) : Cal P w K mg base (k + 1) "check_plan" (spD K A G) :=
  cal_data M.d_check_plan sc_check_plan G hl (fun _ _ _ _ _ _ _ us _ hl => match us, hl with | [_], _ => rfl) hp hr
/-! check_count -/
theorem sc_check_count : FnScope ["thing", "least", "most"] ["thing", "least", "most"] (defScope s_check_count) := ⟨rfl, rfl, rfl, by decide +kernel, rfl, by decide +kernel, by decide +kernel⟩
def t_check_count (K : PySem.W.Frag) (sp_is_within : Sp) : TS :=
  (tIfS (tNot (tB (tCall sp_is_within [] E0 (tCons (tVar 0) (tCons (tVar 1) (tCons (tVar 2) tNil)))))) tNever tNext)
theorem pr_check_count {P : Program} {w : World} {K : PySem.W.Frag} {mg : Str → Option Value} {base : Heap} {k : Nat} (M : Hd w K mg) {k_is_within : Nat} {sp_is_within : Sp} (c_is_within : Cal P w K mg base k_is_within "is_within" sp_is_within) (h_is_within : k_is_within ≤ k) (f : Addr) (cdv : Value) (A' : Around) (outer : List Env) (s : Shared) (H : Hp) (E : XK) (hr : Room k (Bx P w K mg base ["thing", "least", "most"] "check_count" s_check_count f cdv A' outer s H E).A) :
    PSs (Bx P w K mg base ["thing", "least", "most"] "check_count" s_check_count f cdv A' outer s H E) (defBody s_check_count) (t_check_count K sp_is_within) := by
  have nd := sc_check_count.nd
  have hu := Room.u200 hr
  exact (pss_one (ps_if (pt_not (pt_val (pe_cal c_is_within hr h_is_within rfl (pa_cons (pv 0) (pa_cons (pv 1) (pa_cons (pv 2) pa_nil)))))) (pss_one ps_never) pss_nil))
theorem cl_check_count {P : Program} {w : World} {K : PySem.W.Frag} {mg : Str → Option Value} {base : Heap} {k : Nat} {A : Amb} {t : TS} (M : Hd w K mg) (G : Gd) (hl : ∀ as P', G as P' → as.length = 3)
    (hp : ∀ (f : Addr) (cdv : Value) (A' : Around) (outer : List Env) (s : Shared) (H : Hp) (E : XK), Room k (Bx P w K mg base ["thing", "least", "most"] "check_count" s_check_count f cdv A' outer s H E).A → PSs (Bx P w K mg base ["thing", "least", "most"] "check_count" s_check_count f cdv A' outer s H E) (defBody s_check_count) t)
    (hr : ∀ as P', G as P' → Rn K A t (as ++ List.replicate (3 - as.length) .emp) (retD P')) : Cal P w K mg base (k + 1) "check_count" (spD K A G) :=
  cal_data M.d_check_count sc_check_count G hl (fun _ _ _ _ _ _ _ us _ hl => match us, hl with | [_, _, _], _ => rfl) hp hr
end K87
namespace K87
open PySem PySem.Spec PyProof.Rows L2
/-! part_key -/
theorem sc_part_key : FnScope ["part", "inner", "own", "key", "count"] ["part"] (defScope s_part_key) := ⟨rfl, rfl, rfl, by decide +kernel, rfl, by decide +kernel, by decide +kernel⟩
def t_part_key (K : PySem.W.Frag) (sp_plan_key : Sp) : TS :=
  (tSeq (tAsg (tIf (tTest (tOp rEq (tCB (rLenSeq K) (tCons (tVar 0) tNil)) (tC (.int 3)))) (tCall sp_plan_key [] E0 (tCons (tOp (rIxT K) (tVar 0) (tC (.int 2))) tNil)) (tTup tNil)) (gName 1))
    (tSeq (tAsg (tOp (rI0 fun i j => .int (i + j)) (tC (.int 1)) (tCB (rSum K) (tCons (tLc (iTup K (tVar 1)) (gTup K 2 (gCons (gName 3) (gCons (gName 4) gNil))) tYes (tOp (rI CMul fun i j => .int (i * j)) (tVar 4) (tOp (rIxT K) (tVar 3) (tC (.int 0)))) [3, 4]) tNil))) (gName 2))
    (tRet (tTup (tCons (tVar 2) (tCons (tDk v_RANKS (tOp (rIxT K) (tVar 0) (tC (.int 0)))) (tCons (tOp (rIxT K) (tVar 0) (tC (.int 1))) (tCons (tVar 1) tNil))))))))
theorem pr_part_key {P : Program} {w : World} {K : PySem.W.Frag} {mg : Str → Option Value} {base : Heap} {k : Nat} (M : Hd w K mg) {k_plan_key : Nat} {sp_plan_key : Sp} (c_plan_key : Cal P w K mg base k_plan_key "plan_key" sp_plan_key) (h_plan_key : k_plan_key ≤ k) (f : Addr) (cdv : Value) (A' : Around) (outer : List Env) (s : Shared) (H : Hp) (E : XK) (hr : Room k (Bx P w K mg base ["part", "inner", "own", "key", "count"] "part_key" s_part_key f cdv A' outer s H E).A) :
    PSs (Bx P w K mg base ["part", "inner", "own", "key", "count"] "part_key" s_part_key f cdv A' outer s H E) (defBody s_part_key) (t_part_key K sp_plan_key) := by
  have nd := sc_part_key.nd
  have hu := Room.u200 hr
  exact (pss_cons (ps_set (i := 1) nd rfl (by first | exact Or.inl rfl | exact Or.inr rfl) (pe_ifExp (pt_cmpR op_eq (pe_callB call_len_seq rfl M.len boot_len (pa_cons (pv 0) pa_nil)) pe_int (by rfl)) (pe_cal c_plan_key hr h_plan_key rfl (pa_cons (pe_ix ix_tup (pv 0) pe_int (fun _ _ => rfl)) pa_nil)) (pe_tup pa_nil)))
    (pss_cons (ps_set (i := 2) nd rfl (by first | exact Or.inl rfl | exact Or.inr rfl) (pe_op op_add pe_int (pe_callB (cr_sum rfl) rfl M.sum boot_sum (pa_cons (pe_lc (own := [("key", 3), ("count", 4)]) rfl nd (pi_tup (pv 1)) (blkOk_by (N := ["part", "inner", "own", "key", "count"]) (sc := defScope s_part_key) (by decide +kernel)) (fun _ _ _ _ _ => (pg_tup rfl (pgs_cons (pg_name (i := 3) nd rfl (by first | exact Or.inl rfl | exact Or.inr rfl)) (pgs_cons (pg_name (i := 4) nd rfl (by first | exact Or.inl rfl | exact Or.inr rfl)) pgs_nil)))) (fun _ _ _ _ _ => pts_nil) (fun _ _ _ _ _ => (pe_op op_mul (pv 4) (pe_ix ix_tup (pv 3) pe_int (fun _ _ => rfl))))) pa_nil))))
    (pss_one (ps_ret (pe_tup (pa_cons (pv 2) (pa_cons (pe_dk rfl M.k_RANKS (pe_ix ix_tup (pv 0) pe_int (fun _ _ => rfl))) (pa_cons (pe_ix ix_tup (pv 0) pe_int (fun _ _ => rfl)) (pa_cons (pv 1) pa_nil)))))))))
theorem cl_part_key {P : Program} {w : World} {K : PySem.W.Frag} {mg : Str → Option Value} {base : Heap} {k : Nat} {A : Amb} {t : TS} (M : Hd w K mg) (G : Gd) (hl : ∀ as P', G as P' → as.length = 1)
    (hp : ∀ (f : Addr) (cdv : Value) (A' : Around) (outer : List Env) (s : Shared) (H : Hp) (E : XK), Room k (Bx P w K mg base ["part", "inner", "own", "key", "count"] "part_key" s_part_key f cdv A' outer s H E).A → PSs (Bx P w K mg base ["part", "inner", "own", "key", "count"] "part_key" s_part_key f cdv A' outer s H E) (defBody s_part_key) t)
    (hr : ∀ as P', G as P' → Rn K A t (as ++ List.replicate (5 - as.length) .emp) (retD P')) : Cal P w K mg base (k + 1) "part_key" (spD K A G) :=
  cal_data M.d_part_key sc_part_key G hl (fun _ _ _ _ _ _ _ us _ hl => match us, hl with | [_], _ => rfl) hp hr
/-! plan_key -/
theorem sc_plan_key : FnScope ["plan", "count", "part"] ["plan"] (defScope s_plan_key) := ⟨rfl, rfl, rfl, by decide +kernel, rfl, by decide +kernel, by decide +kernel⟩
def t_plan_key (K : PySem.W.Frag) (sp_part_key : Sp) : TS :=
  (tRet (tCB (rTupOf K) (tCons (tLc (iTup K (tVar 0)) (gTup K 2 (gCons (gName 1) (gCons (gName 2) gNil))) tYes (tTup (tCons (tCall sp_part_key [] E0 (tCons (tVar 2) tNil)) (tCons (tVar 1) tNil))) [1, 2]) tNil)))
theorem pr_plan_key {P : Program} {w : World} {K : PySem.W.Frag} {mg : Str → Option Value} {base : Heap} {k : Nat} (M : Hd w K mg) {k_part_key : Nat} {sp_part_key : Sp} (c_part_key : Cal P w K mg base k_part_key "part_key" sp_part_key) (h_part_key : k_part_key ≤ k) (f : Addr) (cdv : Value) (A' : Around) (outer : List Env) (s : Shared) (H : Hp) (E : XK) (hr : Room k (Bx P w K mg base ["plan", "count", "part"] "plan_key" s_plan_key f cdv A' outer s H E).A) :
    PSs (Bx P w K mg base ["plan", "count", "part"] "plan_key" s_plan_key f cdv A' outer s H E) (defBody s_plan_key) (t_plan_key K sp_part_key) := by
  have nd := sc_plan_key.nd
  have hu := Room.u200 hr
  exact (pss_one (ps_ret (pe_callTy call_tuple_of rfl M.tuple b_tuple (pa_cons (pe_lc (own := [("count", 1), ("part", 2)]) rfl nd (pi_tup (pv 0)) (blkOk_by (N := ["plan", "count", "part"]) (sc := defScope s_plan_key) (by decide +kernel)) (fun _ _ _ _ _ => (pg_tup rfl (pgs_cons (pg_name (i := 1) nd rfl (by first | exact Or.inl rfl | exact Or.inr rfl)) (pgs_cons (pg_name (i := 2) nd rfl (by first | exact Or.inl rfl | exact Or.inr rfl)) pgs_nil)))) (fun _ _ _ _ _ => pts_nil) (fun _ _ _ _ _ => (pe_tup (pa_cons (pe_cal c_part_key hr h_part_key rfl (pa_cons (pv 2) pa_nil)) (pa_cons (pv 1) pa_nil))))) pa_nil))))
theorem cl_plan_key {P : Program} {w : World} {K : PySem.W.Frag} {mg : Str → Option Value} {base : Heap} {k : Nat} {A : Amb} {t : TS} (M : Hd w K mg) (G : Gd) (hl : ∀ as P', G as P' → as.length = 1)
    (hp : ∀ (f : Addr) (cdv : Value) (A' : Around) (outer : List Env) (s : Shared) (H : Hp) (E : XK), Room k (Bx P w K mg base ["plan", "count", "part"] "plan_key" s_plan_key f cdv A' outer s H E).A → PSs (Bx P w K mg base ["plan", "count", "part"] "plan_key" s_plan_key f cdv A' outer s H E) (defBody s_plan_key) t)
    (hr : ∀ as P', G as P' → Rn K A t (as ++ List.replicate (3 - as.length) .emp) (retD P')) : Cal P w K mg base (k + 1) "plan_key" (spD K A G) :=
  cal_data M.d_plan_key sc_plan_key G hl (fun _ _ _ _ _ _ _ us _ hl => match us, hl with | [_], _ => rfl) hp hr
/-! parts_within -/
theorem sc_parts_within : FnScope ["plan", "found", "count", "part"] ["plan"] (defScope s_parts_within) := ⟨rfl, rfl, rfl, by decide +kernel, rfl, by decide +kernel, by decide +kernel⟩
def t_parts_within (K : PySem.W.Frag) (sp_parts_within : Sp) : TS :=
  (tSeq (tAsg (tLst tNil) (gName 1))
    (tSeq (tFor (iTup K (tVar 0)) (gTup K 2 (gCons (gName 2) (gCons (gName 3) gNil))) (tSeq (tDrop (tBM K "list" rAppend (tVar 1) (tCons (tVar 3) tNil)))
    (tIfS (tTest (tOp rEq (tCB (rLenSeq K) (tCons (tVar 3) tNil)) (tC (.int 3)))) (tDrop (tBM K "list" rExtend (tVar 1) (tCons (tCall sp_parts_within [] E0 (tCons (tOp (rIxT K) (tVar 3) (tC (.int 2))) tNil)) tNil))) tNext)))
    (tRet (tVar 1))))
theorem pr_parts_within {P : Program} {w : World} {K : PySem.W.Frag} {mg : Str → Option Value} {base : Heap} {k : Nat} (M : Hd w K mg) {k_parts_within : Nat} {sp_parts_within : Sp} (c_parts_within : Cal P w K mg base k_parts_within "parts_within" sp_parts_within) (h_parts_within : k_parts_within ≤ k) (f : Addr) (cdv : Value) (A' : Around) (outer : List Env) (s : Shared) (H : Hp) (E : XK) (hr : Room k (Bx P w K mg base ["plan", "found", "count", "part"] "parts_within" s_parts_within f cdv A' outer s H E).A) :
    PSs (Bx P w K mg base ["plan", "found", "count", "part"] "parts_within" s_parts_within f cdv A' outer s H E) (defBody s_parts_within) (t_parts_within K sp_parts_within) := by
  have nd := sc_parts_within.nd
  have hu := Room.u200 hr
  exact (pss_cons (ps_set (i := 1) nd rfl (by first | exact Or.inl rfl | exact Or.inr rfl) (pe_lst pa_nil))
    (pss_cons (ps_for PassesOwn.never rfl (pi_tup (pv 0)) (pg_tup rfl (pgs_cons (pg_name (i := 2) nd rfl (by first | exact Or.inl rfl | exact Or.inr rfl)) (pgs_cons (pg_name (i := 3) nd rfl (by first | exact Or.inl rfl | exact Or.inr rfl)) pgs_nil))) (pss_cons (ps_expr (pe_bm PySem.F.plainAttrs_list PySem.F.slot_list_append PySem.F.type_list_append mt_append (pv 1) (pa_cons (pv 3) pa_nil)))
    (pss_one (ps_if (pt_cmpR op_eq (pe_callB call_len_seq rfl M.len boot_len (pa_cons (pv 3) pa_nil)) pe_int (by rfl)) (pss_one (ps_expr (pe_bm PySem.F.plainAttrs_list PySem.F.slot_list_extend PySem.F.type_list_extend mt_extend (pv 1) (pa_cons (pe_cal c_parts_within hr h_parts_within rfl (pa_cons (pe_ix ix_tup (pv 3) pe_int (fun _ _ => rfl)) pa_nil)) pa_nil)))) pss_nil))))
    (pss_one (ps_ret (pv 1)))))
theorem cll_parts_within {P : Program} {w : World} {K : PySem.W.Frag} {mg : Str → Option Value} {base : Heap} {k : Nat} {A : Amb} {t : TS} (M : Hd w K mg) (G : Gl') (hl : ∀ as P', G as P' → as.length = 1)
    (hp : ∀ (f : Addr) (cdv : Value) (A' : Around) (outer : List Env) (s : Shared) (H : Hp) (E : XK), Room k (Bx P w K mg base ["plan", "found", "count", "part"] "parts_within" s_parts_within f cdv A' outer s H E).A → PSs (Bx P w K mg base ["plan", "found", "count", "part"] "parts_within" s_parts_within f cdv A' outer s H E) (defBody s_parts_within) t)
    (hr : ∀ as P', G as P' → Rn K A t (as ++ List.replicate (4 - as.length) .emp) (retL P')) : Cal P w K mg base (k + 1) "parts_within" (spL K A G) :=
  cal_list M.d_parts_within sc_parts_within G hl (fun _ _ _ _ _ _ _ us _ hl => match us, hl with | [_], _ => rfl) hp hr
/-! items_in -/
theorem sc_items_in : FnScope ["plan"] ["plan"] (defScope s_items_in) := ⟨rfl, rfl, rfl, by decide +kernel, rfl, by decide +kernel, by decide +kernel⟩
def t_items_in (K : PySem.W.Frag) (sp_parts_within : Sp) : TS :=
  (tRet (tCB (rLenSeq K) (tCons (tCall sp_parts_within [] E0 (tCons (tVar 0) tNil)) tNil)))
theorem pr_items_in {P : Program} {w : World} {K : PySem.W.Frag} {mg : Str → Option Value} {base : Heap} {k : Nat} (M : Hd w K mg) {k_parts_within : Nat} {sp_parts_within : Sp} (c_parts_within : Cal P w K mg base k_parts_within "parts_within" sp_parts_within) (h_parts_within : k_parts_within ≤ k) (f : Addr) (cdv : Value) (A' : Around) (outer : List Env) (s : Shared) (H : Hp) (E : XK) (hr : Room k (Bx P w K mg base ["plan"] "items_in" s_items_in f cdv A' outer s H E).A) :
    PSs (Bx P w K mg base ["plan"] "items_in" s_items_in f cdv A' outer s H E) (defBody s_items_in) (t_items_in K sp_parts_within) := by
  have nd := sc_items_in.nd
  have hu := Room.u200 hr
  exact (pss_one (ps_ret (pe_callB call_len_seq rfl M.len boot_len (pa_cons (pe_cal c_parts_within hr h_parts_within rfl (pa_cons (pv 0) pa_nil)) pa_nil))))
theorem cl_items_in {P : Program} {w : World} {K : PySem.W.Frag} {mg : Str → Option Value} {base : Heap} {k : Nat} {A : Amb} {t : TS} (M : Hd w K mg) (G : Gd) (hl : ∀ as P', G as P' → as.length = 1)
    (hp : ∀ (f : Addr) (cdv : Value) (A' : Around) (outer : List Env) (s : Shared) (H : Hp) (E : XK), Room k (Bx P w K mg base ["plan"] "items_in" s_items_in f cdv A' outer s H E).A → PSs (Bx P w K mg base ["plan"] "items_in" s_items_in f cdv A' outer s H E) (defBody s_items_in) t)
    (hr : ∀ as P', G as P' → Rn K A t (as ++ List.replicate (1 - as.length) .emp) (retD P')) : Cal P w K mg base (k + 1) "items_in" (spD K A G) :=
  cal_data M.d_items_in sc_items_in G hl (fun _ _ _ _ _ _ _ us _ hl => match us, hl with | [_], _ => rfl) hp hr
/-! nesting -/
theorem sc_nesting : FnScope ["plan", "count", "part"] ["plan"] (defScope s_nesting) := ⟨rfl, rfl, rfl, by decide +kernel, rfl, by decide +kernel, by decide +kernel⟩
def t_nesting (K : PySem.W.Frag) (sp_nesting : Sp) : TS :=
  (tRet (tCB (rMax K) (tCons (tOp rCat (tLst (tCons (tC (.int 0)) tNil)) (tLc (iTup K (tVar 0)) (gTup K 2 (gCons (gName 1) (gCons (gName 2) gNil))) (tTest (tOp rEq (tCB (rLenSeq K) (tCons (tVar 2) tNil)) (tC (.int 3)))) (tOp (rI0 fun i j => .int (i + j)) (tC (.int 1)) (tCall sp_nesting [] E0 (tCons (tOp (rIxT K) (tVar 2) (tC (.int 2))) tNil))) [1, 2])) tNil)))
theorem pr_nesting {P : Program} {w : World} {K : PySem.W.Frag} {mg : Str → Option Value} {base : Heap} {k : Nat} (M : Hd w K mg) {k_nesting : Nat} {sp_nesting : Sp} (c_nesting : Cal P w K mg base k_nesting "nesting" sp_nesting) (h_nesting : k_nesting ≤ k) (f : Addr) (cdv : Value) (A' : Around) (outer : List Env) (s : Shared) (H : Hp) (E : XK) (hr : Room k (Bx P w K mg base ["plan", "count", "part"] "nesting" s_nesting f cdv A' outer s H E).A) :
    PSs (Bx P w K mg base ["plan", "count", "part"] "nesting" s_nesting f cdv A' outer s H E) (defBody s_nesting) (t_nesting K sp_nesting) := by
  have nd := sc_nesting.nd
  have hu := Room.u200 hr
  exact (pss_one (ps_ret (pe_callB (cr_max rfl) rfl M.max boot_max (pa_cons (pe_op op_cat (pe_lst (pa_cons pe_int pa_nil)) (pe_lc (own := [("count", 1), ("part", 2)]) rfl nd (pi_tup (pv 0)) (blkOk_by (N := ["plan", "count", "part"]) (sc := defScope s_nesting) (by decide +kernel)) (fun _ _ _ _ _ => (pg_tup rfl (pgs_cons (pg_name (i := 1) nd rfl (by first | exact Or.inl rfl | exact Or.inr rfl)) (pgs_cons (pg_name (i := 2) nd rfl (by first | exact Or.inl rfl | exact Or.inr rfl)) pgs_nil)))) (fun _ _ _ _ _ => (pts_one (pt_cmpR op_eq (pe_callB call_len_seq rfl M.len boot_len (pa_cons (pv 2) pa_nil)) pe_int (by rfl)))) (fun _ _ _ _ _ => (pe_op op_add pe_int (pe_cal c_nesting hr h_nesting rfl (pa_cons (pe_ix ix_tup (pv 2) pe_int (fun _ _ => rfl)) pa_nil)))))) pa_nil))))
theorem cl_nesting {P : Program} {w : World} {K : PySem.W.Frag} {mg : Str → Option Value} {base : Heap} {k : Nat} {A : Amb} {t : TS} (M : Hd w K mg) (G : Gd) (hl : ∀ as P', G as P' → as.length = 1)
    (hp : ∀ (f : Addr) (cdv : Value) (A' : Around) (outer : List Env) (s : Shared) (H : Hp) (E : XK), Room k (Bx P w K mg base ["plan", "count", "part"] "nesting" s_nesting f cdv A' outer s H E).A → PSs (Bx P w K mg base ["plan", "count", "part"] "nesting" s_nesting f cdv A' outer s H E) (defBody s_nesting) t)
    (hr : ∀ as P', G as P' → Rn K A t (as ++ List.replicate (3 - as.length) .emp) (retD P')) : Cal P w K mg base (k + 1) "nesting" (spD K A G) :=
  cal_data M.d_nesting sc_nesting G hl (fun _ _ _ _ _ _ _ us _ hl => match us, hl with | [_], _ => rfl) hp hr
/-! check_room -/
theorem sc_check_room : FnScope ["items"] ["items"] (defScope s_check_room) := ⟨rfl, rfl, rfl, by decide +kernel, rfl, by decide +kernel, by decide +kernel⟩
def t_check_room (K : PySem.W.Frag) : TS :=
  (tIfS (tTest (tOp (rI0 fun i j => .bl (decide (j < i))) (tVar 0) (tC (.int c_MOST_ITEMS)))) tNever tNext)
theorem pr_check_room {P : Program} {w : World} {K : PySem.W.Frag} {mg : Str → Option Value} {base : Heap} {k : Nat} (M : Hd w K mg) (f : Addr) (cdv : Value) (A' : Around) (outer : List Env) (s : Shared) (H : Hp) (E : XK) (hr : Room k (Bx P w K mg base ["items"] "check_room" s_check_room f cdv A' outer s H E).A) :
    PSs (Bx P w K mg base ["items"] "check_room" s_check_room f cdv A' outer s H E) (defBody s_check_room) (t_check_room K) := by
  have nd := sc_check_room.nd
  have hu := Room.u200 hr
  exact (pss_one (ps_if (pt_cmpR op_gt (pv 0) (pe_gint rfl M.g_MOST_ITEMS) (by rfl)) (pss_one ps_never) pss_nil))
theorem cl_check_room {P : Program} {w : World} {K : PySem.W.Frag} {mg : Str → Option Value} {base : Heap} {k : Nat} {A : Amb} {t : TS} (M : Hd w K mg) (G : Gd) (hl : ∀ as P', G as P' → as.length = 1)
    (hp : ∀ (f : Addr) (cdv : Value) (A' : Around) (outer : List Env) (s : Shared) (H : Hp) (E : XK), Room k (Bx P w K mg base ["items"] "check_room" s_check_room f cdv A' outer s H E).A → PSs (Bx P w K mg base ["items"] "check_room" s_check_room f cdv A' outer s H E) (defBody s_check_room) t)
    (hr : ∀ as P', G as P' → Rn K A t (as ++ List.replicate (1 - as.length) .emp) (retD P')) : Cal P w K mg base (k + 1) "check_room" (spD K A G) :=
  cal_data M.d_check_room sc_check_room G hl (fun _ _ _ _ _ _ _ us _ hl => match us, hl with | [_], _ => rfl) hp hr
/-! roomy -/
theorem sc_roomy : FnScope ["plan"] ["plan"] (defScope s_roomy) := ⟨rfl, rfl, rfl, by decide +kernel, rfl, by decide +kernel, by decide +kernel⟩
def t_roomy (K : PySem.W.Frag) (sp_items_in : Sp) (sp_check_room : Sp) (sp_nesting : Sp) : TS :=
  (tSeq (tDrop (tCall sp_check_room [] E0 (tCons (tCall sp_items_in [] E0 (tCons (tVar 0) tNil)) tNil)))
    (tSeq (tIfS (tTest (tOp (rI0 fun i j => .bl (decide (j < i))) (tCall sp_nesting [] E0 (tCons (tVar 0) tNil)) (tC (.int c_MOST_NESTED)))) tNever tNext)
    (tRet (tVar 0))))
theorem pr_roomy {P : Program} {w : World} {K : PySem.W.Frag} {mg : Str → Option Value} {base : Heap} {k : Nat} (M : Hd w K mg) {k_items_in : Nat} {sp_items_in : Sp} (c_items_in : Cal P w K mg base k_items_in "items_in" sp_items_in) (h_items_in : k_items_in ≤ k) {k_check_room : Nat} {sp_check_room : Sp} (c_check_room : Cal P w K mg base k_check_room "check_room" sp_check_room) (h_check_room : k_check_room ≤ k) {k_nesting : Nat} {sp_nesting : Sp} (c_nesting : Cal P w K mg base k_nesting "nesting" sp_nesting) (h_nesting : k_nesting ≤ k) (f : Addr) (cdv : Value) (A' : Around) (outer : List Env) (s : Shared) (H : Hp) (E : XK) (hr : Room k (Bx P w K mg base ["plan"] "roomy" s_roomy f cdv A' outer s H E).A) :
    PSs (Bx P w K mg base ["plan"] "roomy" s_roomy f cdv A' outer s H E) (defBody s_roomy) (t_roomy K sp_items_in sp_check_room sp_nesting) := by
  have nd := sc_roomy.nd
  have hu := Room.u200 hr
  exact (pss_cons (ps_expr (pe_cal c_check_room hr h_check_room rfl (pa_cons (pe_cal c_items_in hr h_items_in rfl (pa_cons (pv 0) pa_nil)) pa_nil)))
    (pss_cons (ps_if (pt_cmpR op_gt (pe_cal c_nesting hr h_nesting rfl (pa_cons (pv 0) pa_nil)) (pe_gint rfl M.g_MOST_NESTED) (by rfl)) (pss_one ps_never) pss_nil)
    (pss_one (ps_ret (pv 0)))))
theorem cl_roomy {P : Program} {w : World} {K : PySem.W.Frag} {mg : Str → Option Value} {base : Heap} {k : Nat} {A : Amb} {t : TS} (M : Hd w K mg) (G : Gd) (hl : ∀ as P', G as P' → as.length = 1)
    (hp : ∀ (f : Addr) (cdv : Value) (A' : Around) (outer : List Env) (s : Shared) (H : Hp) (E : XK), Room k (Bx P w K mg base ["plan"] "roomy" s_roomy f cdv A' outer s H E).A → PSs (Bx P w K mg base ["plan"] "roomy" s_roomy f cdv A' outer s H E) (defBody s_roomy) t)
    (hr : ∀ as P', G as P' → Rn K A t (as ++ List.replicate (1 - as.length) .emp) (retD P')) : Cal P w K mg base (k + 1) "roomy" (spD K A G) :=
  cal_data M.d_roomy sc_roomy G hl (fun _ _ _ _ _ _ _ us _ hl => match us, hl with | [_], _ => rfl) hp hr
/-! gots_at -/
theorem sc_gots_at : FnScope ["plan", "depth", "found", "count", "part"] ["plan", "depth"] (defScope s_gots_at) := ⟨rfl, rfl, rfl, by decide +kernel, rfl, by decide +kernel, by decide +kernel⟩
def t_gots_at (K : PySem.W.Frag) (sp_gots_at : Sp) : TS :=
  (tSeq (tAsg (tC (.int 0)) (gName 2))
    (tSeq (tFor (iTup K (tVar 0)) (gTup K 2 (gCons (gName 3) (gCons (gName 4) gNil))) (tIfS (tTest (tOp (rEqP K) (tVar 4) (tTup (tCons (tC (.str "got")) (tCons (tVar 1) tNil))))) (tAug 2 (tC (.int 1)) (ipI fun i j => i + j)) (tIfS (tTest (tOp rEq (tCB (rLenSeq K) (tCons (tVar 4) tNil)) (tC (.int 3)))) (tAug 2 (tCall sp_gots_at [] E0 (tCons (tOp (rIxT K) (tVar 4) (tC (.int 2))) (tCons (tIf (tTest (tOp rEq (tOp (rIxT K) (tVar 4) (tC (.int 0))) (tC (.str "wait")))) (tOp (rI0 fun i j => .int (i + j)) (tVar 1) (tC (.int 1))) (tVar 1)) tNil))) (ipI fun i j => i + j)) tNext)))
    (tRet (tVar 2))))
theorem pr_gots_at {P : Program} {w : World} {K : PySem.W.Frag} {mg : Str → Option Value} {base : Heap} {k : Nat} (M : Hd w K mg) {k_gots_at : Nat} {sp_gots_at : Sp} (c_gots_at : Cal P w K mg base k_gots_at "gots_at" sp_gots_at) (h_gots_at : k_gots_at ≤ k) (f : Addr) (cdv : Value) (A' : Around) (outer : List Env) (s : Shared) (H : Hp) (E : XK) (hr : Room k (Bx P w K mg base ["plan", "depth", "found", "count", "part"] "gots_at" s_gots_at f cdv A' outer s H E).A) :
    PSs (Bx P w K mg base ["plan", "depth", "found", "count", "part"] "gots_at" s_gots_at f cdv A' outer s H E) (defBody s_gots_at) (t_gots_at K sp_gots_at) := by
  have nd := sc_gots_at.nd
  have hu := Room.u200 hr
  exact (pss_cons (ps_set (i := 2) nd rfl (by first | exact Or.inl rfl | exact Or.inr rfl) pe_int)
    (pss_cons (ps_for PassesOwn.never rfl (pi_tup (pv 0)) (pg_tup rfl (pgs_cons (pg_name (i := 3) nd rfl (by first | exact Or.inl rfl | exact Or.inr rfl)) (pgs_cons (pg_name (i := 4) nd rfl (by first | exact Or.inl rfl | exact Or.inr rfl)) pgs_nil))) (pss_one (ps_if (pt_cmpR (op_eqP hu) (pv 4) (pe_tup (pa_cons pe_str (pa_cons (pv 1) pa_nil))) (by rfl)) (pss_one (ps_aug (i := 2) nd rfl (by first | exact Or.inl rfl | exact Or.inr rfl) pe_int ip_add)) (pss_one (ps_if (pt_cmpR op_eq (pe_callB call_len_seq rfl M.len boot_len (pa_cons (pv 4) pa_nil)) pe_int (by rfl)) (pss_one (ps_aug (i := 2) nd rfl (by first | exact Or.inl rfl | exact Or.inr rfl) (pe_cal c_gots_at hr h_gots_at rfl (pa_cons (pe_ix ix_tup (pv 4) pe_int (fun _ _ => rfl)) (pa_cons (pe_ifExp (pt_cmpR op_eq (pe_ix ix_tup (pv 4) pe_int (fun _ _ => rfl)) pe_str (by rfl)) (pe_op op_add (pv 1) pe_int) (pv 1)) pa_nil))) ip_add)) pss_nil)))))
    (pss_one (ps_ret (pv 2)))))
theorem cl_gots_at {P : Program} {w : World} {K : PySem.W.Frag} {mg : Str → Option Value} {base : Heap} {k : Nat} {A : Amb} {t : TS} (M : Hd w K mg) (G : Gd) (hl : ∀ as P', G as P' → as.length = 2)
    (hp : ∀ (f : Addr) (cdv : Value) (A' : Around) (outer : List Env) (s : Shared) (H : Hp) (E : XK), Room k (Bx P w K mg base ["plan", "depth", "found", "count", "part"] "gots_at" s_gots_at f cdv A' outer s H E).A → PSs (Bx P w K mg base ["plan", "depth", "found", "count", "part"] "gots_at" s_gots_at f cdv A' outer s H E) (defBody s_gots_at) t)
    (hr : ∀ as P', G as P' → Rn K A t (as ++ List.replicate (5 - as.length) .emp) (retD P')) : Cal P w K mg base (k + 1) "gots_at" (spD K A G) :=
  cal_data M.d_gots_at sc_gots_at G hl (fun _ _ _ _ _ _ _ us _ hl => match us, hl with | [_, _], _ => rfl) hp hr
/-! roomy_brought -/
theorem sc_roomy_brought : FnScope ["rest", "body", "other"] ["rest", "body", "other"] (defScope s_roomy_brought) := ⟨rfl, rfl, rfl, by decide +kernel, rfl, by decide +kernel, by decide +kernel⟩
def t_roomy_brought (K : PySem.W.Frag) (sp_items_in : Sp) (sp_gots_at : Sp) (sp_check_room : Sp) (sp_brought : Sp) (sp_roomy : Sp) : TS :=
  (tSeq (tDrop (tCall sp_check_room [] E0 (tCons (tOp (rI0 fun i j => .int (i + j)) (tOp (rI0 fun i j => .int (i + j)) (tCall sp_items_in [] E0 (tCons (tVar 0) tNil)) (tCall sp_items_in [] E0 (tCons (tVar 1) tNil))) (tOp (rI CMul fun i j => .int (i * j)) (tCall sp_gots_at [] E0 (tCons (tVar 1) (tCons (tC (.int 0)) tNil))) (tOp (rI0 fun i j => .int (i - j)) (tCall sp_items_in [] E0 (tCons (tVar 2) tNil)) (tC (.int 1))))) tNil)))
    (tRet (tCall sp_roomy [] E0 (tCons (tOp (rCatA K) (tVar 0) (tCall sp_brought [] E0 (tCons (tVar 1) (tCons (tVar 2) tNil)))) tNil))))
theorem pr_roomy_brought {P : Program} {w : World} {K : PySem.W.Frag} {mg : Str → Option Value} {base : Heap} {k : Nat} (M : Hd w K mg) {k_items_in : Nat} {sp_items_in : Sp} (c_items_in : Cal P w K mg base k_items_in "items_in" sp_items_in) (h_items_in : k_items_in ≤ k) {k_gots_at : Nat} {sp_gots_at : Sp} (c_gots_at : Cal P w K mg base k_gots_at "gots_at" sp_gots_at) (h_gots_at : k_gots_at ≤ k) {k_check_room : Nat} {sp_check_room : Sp} (c_check_room : Cal P w K mg base k_check_room "check_room" sp_check_room) (h_check_room : k_check_room ≤ k) {k_brought : Nat} {sp_brought : Sp} (c_brought : Cal P w K mg base k_brought "brought" sp_brought) (h_brought : k_brought ≤ k) {k_roomy : Nat} {sp_roomy : Sp} (c_roomy : Cal P w K mg base k_roomy "roomy" sp_roomy) (h_roomy : k_roomy ≤ k) (f : Addr) (cdv : Value) (A' : Around) (outer : List Env) (s : Shared) (H : Hp) (E : XK) (hr : Room k (Bx P w K mg base ["rest", "body", "other"] "roomy_brought" s_roomy_brought f cdv A' outer s H E).A) :
    PSs (Bx P w K mg base ["rest", "body", "other"] "roomy_brought" s_roomy_brought f cdv A' outer s H E) (defBody s_roomy_brought) (t_roomy_brought K sp_items_in sp_gots_at sp_check_room sp_brought sp_roomy) := by
  have nd := sc_roomy_brought.nd
  have hu := Room.u200 hr
  exact (pss_cons (ps_expr (pe_cal c_check_room hr h_check_room rfl (pa_cons (pe_op op_add (pe_op op_add (pe_cal c_items_in hr h_items_in rfl (pa_cons (pv 0) pa_nil)) (pe_cal c_items_in hr h_items_in rfl (pa_cons (pv 1) pa_nil))) (pe_op op_mul (pe_cal c_gots_at hr h_gots_at rfl (pa_cons (pv 1) (pa_cons pe_int pa_nil))) (pe_op op_sub (pe_cal c_items_in hr h_items_in rfl (pa_cons (pv 2) pa_nil)) pe_int))) pa_nil)))
    (pss_one (ps_ret (pe_cal c_roomy hr h_roomy rfl (pa_cons (pe_op op_catA (pv 0) (pe_cal c_brought hr h_brought rfl (pa_cons (pv 1) (pa_cons (pv 2) pa_nil)))) pa_nil)))))
theorem cl_roomy_brought {P : Program} {w : World} {K : PySem.W.Frag} {mg : Str → Option Value} {base : Heap} {k : Nat} {A : Amb} {t : TS} (M : Hd w K mg) (G : Gd) (hl : ∀ as P', G as P' → as.length = 3)
    (hp : ∀ (f : Addr) (cdv : Value) (A' : Around) (outer : List Env) (s : Shared) (H : Hp) (E : XK), Room k (Bx P w K mg base ["rest", "body", "other"] "roomy_brought" s_roomy_brought f cdv A' outer s H E).A → PSs (Bx P w K mg base ["rest", "body", "other"] "roomy_brought" s_roomy_brought f cdv A' outer s H E) (defBody s_roomy_brought) t)
    (hr : ∀ as P', G as P' → Rn K A t (as ++ List.replicate (3 - as.length) .emp) (retD P')) : Cal P w K mg base (k + 1) "roomy_brought" (spD K A G) :=
  cal_data M.d_roomy_brought sc_roomy_brought G hl (fun _ _ _ _ _ _ _ us _ hl => match us, hl with | [_, _, _], _ => rfl) hp hr
/-! folded -/
theorem sc_folded : FnScope ["door", "body", "at", "many", "part", "rest"] ["door", "body"] (defScope s_folded) := ⟨rfl, rfl, rfl, by decide +kernel, rfl, by decide +kernel, by decide +kernel⟩
def t_folded (K : PySem.W.Frag) (sp_raised : Sp) : TS :=
  (tSeq (tFor (iEnumT K (tCons (tVar 1) tNil)) (gTup K 2 (gCons (gName 2) (gCons (gTup K 2 (gCons (gName 3) (gCons (gName 4) gNil))) gNil))) (tIfS (tAnd (tTest (tOp rEq (tOp (rIxT K) (tVar 4) (tC (.int 0))) (tC (.str "wait")))) (tTest (tOp rEq (tOp (rIxT K) (tVar 4) (tC (.int 1))) (tVar 0)))) (tSeq (tAsg (tOp (rCatA K) (tSl (rSlA K) (tVar 1) tNoPart (tPart (tVar 2))) (tSl (rSlA K) (tVar 1) (tPart (tOp (rI0 fun i j => .int (i + j)) (tVar 2) (tC (.int 1)))) tNoPart)) (gName 5))
    (tIfS (tTest (tOp (rEqP K) (tOp (rIxT K) (tVar 4) (tC (.int 2))) (tCall sp_raised [] E0 (tCons (tVar 5) (tCons (tC (.int 1)) (tCons (tC (.int 1)) tNil)))))) (tRet (tTup (tCons (tOp (rI0 fun i j => .int (i + j)) (tVar 3) (tC (.int 1))) (tCons (tTup (tCons (tC (.str "wait")) (tCons (tVar 0) (tCons (tVar 5) tNil)))) tNil)))) tNext)) tNext))
    (tRet (tTup (tCons (tC (.int 1)) (tCons (tTup (tCons (tC (.str "wait")) (tCons (tVar 0) (tCons (tVar 1) tNil)))) tNil)))))
theorem pr_folded {P : Program} {w : World} {K : PySem.W.Frag} {mg : Str → Option Value} {base : Heap} {k : Nat} (M : Hd w K mg) {k_raised : Nat} {sp_raised : Sp} (c_raised : Cal P w K mg base k_raised "raised" sp_raised) (h_raised : k_raised ≤ k) (f : Addr) (cdv : Value) (A' : Around) (outer : List Env) (s : Shared) (H : Hp) (E : XK) (hr : Room k (Bx P w K mg base ["door", "body", "at", "many", "part", "rest"] "folded" s_folded f cdv A' outer s H E).A) :
    PSs (Bx P w K mg base ["door", "body", "at", "many", "part", "rest"] "folded" s_folded f cdv A' outer s H E) (defBody s_folded) (t_folded K sp_raised) := by
  have nd := sc_folded.nd
  have hu := Room.u200 hr
  exact (pss_cons (ps_for PassesOwn.never rfl (pi_enumT rfl M.enumerate (pa_cons (pv 1) pa_nil)) (pg_tup rfl (pgs_cons (pg_name (i := 2) nd rfl (by first | exact Or.inl rfl | exact Or.inr rfl)) (pgs_cons (pg_tup rfl (pgs_cons (pg_name (i := 3) nd rfl (by first | exact Or.inl rfl | exact Or.inr rfl)) (pgs_cons (pg_name (i := 4) nd rfl (by first | exact Or.inl rfl | exact Or.inr rfl)) pgs_nil))) pgs_nil))) (pss_one (ps_if (PW.pt (pw_and (pt_cmpR op_eq (pe_ix ix_tup (pv 4) pe_int (fun _ _ => rfl)) pe_str (by rfl)) (pw_and1 (pt_cmpR op_eq (pe_ix ix_tup (pv 4) pe_int (fun _ _ => rfl)) (pv 0) (by rfl))))) (pss_cons (ps_set (i := 5) nd rfl (by first | exact Or.inl rfl | exact Or.inr rfl) (pe_op op_catA (pe_slice sl_tupA (pv 1) po_none (po_some (pv 2))) (pe_slice sl_tupA (pv 1) (po_some (pe_op op_add (pv 2) pe_int)) po_none)))
    (pss_one (ps_if (pt_cmpR (op_eqP hu) (pe_ix ix_tup (pv 4) pe_int (fun _ _ => rfl)) (pe_cal c_raised hr h_raised rfl (pa_cons (pv 5) (pa_cons pe_int (pa_cons pe_int pa_nil)))) (by rfl)) (pss_one (ps_ret (pe_tup (pa_cons (pe_op op_add (pv 3) pe_int) (pa_cons (pe_tup (pa_cons pe_str (pa_cons (pv 0) (pa_cons (pv 5) pa_nil)))) pa_nil))))) pss_nil))) pss_nil)))
    (pss_one (ps_ret (pe_tup (pa_cons pe_int (pa_cons (pe_tup (pa_cons pe_str (pa_cons (pv 0) (pa_cons (pv 1) pa_nil)))) pa_nil))))))
theorem cl_folded {P : Program} {w : World} {K : PySem.W.Frag} {mg : Str → Option Value} {base : Heap} {k : Nat} {A : Amb} {t : TS} (M : Hd w K mg) (G : Gd) (hl : ∀ as P', G as P' → as.length = 2)
    (hp : ∀ (f : Addr) (cdv : Value) (A' : Around) (outer : List Env) (s : Shared) (H : Hp) (E : XK), Room k (Bx P w K mg base ["door", "body", "at", "many", "part", "rest"] "folded" s_folded f cdv A' outer s H E).A → PSs (Bx P w K mg base ["door", "body", "at", "many", "part", "rest"] "folded" s_folded f cdv A' outer s H E) (defBody s_folded) t)
    (hr : ∀ as P', G as P' → Rn K A t (as ++ List.replicate (6 - as.length) .emp) (retD P')) : Cal P w K mg base (k + 1) "folded" (spD K A G) :=
  cal_data M.d_folded sc_folded G hl (fun _ _ _ _ _ _ _ us _ hl => match us, hl with | [_, _], _ => rfl) hp hr
/-! plain_of -/
theorem sc_plain_of : FnScope ["plan", "items", "count", "part", "many", "prime"] ["plan"] (defScope s_plain_of) := ⟨rfl, rfl, rfl, by decide +kernel, rfl, by decide +kernel, by decide +kernel⟩
def t_plain_of (K : PySem.W.Frag) (sp_plain_of : Sp) (sp_folded : Sp) (sp_sorted_items : Sp) : TS :=
  (tSeq (tAsg (tLst tNil) (gName 1))
    (tSeq (tFor (iTup K (tVar 0)) (gTup K 2 (gCons (gName 2) (gCons (gName 3) gNil))) (tIfS (tTest (tOp rEq (tOp (rIxT K) (tVar 3) (tC (.int 0))) (tC (.str "letter")))) (tDrop (tBM K "list" rAppend (tVar 1) (tCons (tTup (tCons (tVar 2) (tCons (tTup (tCons (tC (.str "letter")) (tCons (tOp (rIxT K) (tVar 3) (tC (.int 1))) (tCons (tCall sp_plain_of [] E0 (tCons (tOp (rIxT K) (tVar 3) (tC (.int 2))) tNil)) tNil)))) tNil))) tNil))) (tIfS (tTest (tOp rEq (tOp (rIxT K) (tVar 3) (tC (.int 0))) (tC (.str "wait")))) (tSeq (tAsg (tCall sp_folded [] E0 (tCons (tOp (rIxT K) (tVar 3) (tC (.int 1))) (tCons (tCall sp_plain_of [] E0 (tCons (tOp (rIxT K) (tVar 3) (tC (.int 2))) tNil)) tNil))) (gTup K 2 (gCons (gName 4) (gCons (gName 5) gNil))))
    (tDrop (tBM K "list" rAppend (tVar 1) (tCons (tTup (tCons (tOp (rI CMul fun i j => .int (i * j)) (tVar 2) (tVar 4)) (tCons (tVar 5) tNil))) tNil)))) (tDrop (tBM K "list" rAppend (tVar 1) (tCons (tTup (tCons (tVar 2) (tCons (tVar 3) tNil))) tNil))))))
    (tRet (tCall sp_sorted_items [] E0 (tCons (tVar 1) tNil)))))
theorem pr_plain_of {P : Program} {w : World} {K : PySem.W.Frag} {mg : Str → Option Value} {base : Heap} {k : Nat} (M : Hd w K mg) {k_plain_of : Nat} {sp_plain_of : Sp} (c_plain_of : Cal P w K mg base k_plain_of "plain_of" sp_plain_of) (h_plain_of : k_plain_of ≤ k) {k_folded : Nat} {sp_folded : Sp} (c_folded : Cal P w K mg base k_folded "folded" sp_folded) (h_folded : k_folded ≤ k) {k_sorted_items : Nat} {sp_sorted_items : Sp} (c_sorted_items : Cal P w K mg base k_sorted_items "sorted_items" sp_sorted_items) (h_sorted_items : k_sorted_items ≤ k) (f : Addr) (cdv : Value) (A' : Around) (outer : List Env) (s : Shared) (H : Hp) (E : XK) (hr : Room k (Bx P w K mg base ["plan", "items", "count", "part", "many", "prime"] "plain_of" s_plain_of f cdv A' outer s H E).A) :
    PSs (Bx P w K mg base ["plan", "items", "count", "part", "many", "prime"] "plain_of" s_plain_of f cdv A' outer s H E) (defBody s_plain_of) (t_plain_of K sp_plain_of sp_folded sp_sorted_items) := by
  have nd := sc_plain_of.nd
  have hu := Room.u200 hr
  exact (pss_cons (ps_set (i := 1) nd rfl (by first | exact Or.inl rfl | exact Or.inr rfl) (pe_lst pa_nil))
    (pss_cons (ps_for PassesOwn.never rfl (pi_tup (pv 0)) (pg_tup rfl (pgs_cons (pg_name (i := 2) nd rfl (by first | exact Or.inl rfl | exact Or.inr rfl)) (pgs_cons (pg_name (i := 3) nd rfl (by first | exact Or.inl rfl | exact Or.inr rfl)) pgs_nil))) (pss_one (ps_if (pt_cmpR op_eq (pe_ix ix_tup (pv 3) pe_int (fun _ _ => rfl)) pe_str (by rfl)) (pss_one (ps_expr (pe_bm PySem.F.plainAttrs_list PySem.F.slot_list_append PySem.F.type_list_append mt_append (pv 1) (pa_cons (pe_tup (pa_cons (pv 2) (pa_cons (pe_tup (pa_cons pe_str (pa_cons (pe_ix ix_tup (pv 3) pe_int (fun _ _ => rfl)) (pa_cons (pe_cal c_plain_of hr h_plain_of rfl (pa_cons (pe_ix ix_tup (pv 3) pe_int (fun _ _ => rfl)) pa_nil)) pa_nil)))) pa_nil))) pa_nil)))) (pss_one (ps_if (pt_cmpR op_eq (pe_ix ix_tup (pv 3) pe_int (fun _ _ => rfl)) pe_str (by rfl)) (pss_cons (ps_asg (pe_cal c_folded hr h_folded rfl (pa_cons (pe_ix ix_tup (pv 3) pe_int (fun _ _ => rfl)) (pa_cons (pe_cal c_plain_of hr h_plain_of rfl (pa_cons (pe_ix ix_tup (pv 3) pe_int (fun _ _ => rfl)) pa_nil)) pa_nil))) (pg_tup rfl (pgs_cons (pg_name (i := 4) nd rfl (by first | exact Or.inl rfl | exact Or.inr rfl)) (pgs_cons (pg_name (i := 5) nd rfl (by first | exact Or.inl rfl | exact Or.inr rfl)) pgs_nil))))
    (pss_one (ps_expr (pe_bm PySem.F.plainAttrs_list PySem.F.slot_list_append PySem.F.type_list_append mt_append (pv 1) (pa_cons (pe_tup (pa_cons (pe_op op_mul (pv 2) (pv 4)) (pa_cons (pv 5) pa_nil))) pa_nil))))) (pss_one (ps_expr (pe_bm PySem.F.plainAttrs_list PySem.F.slot_list_append PySem.F.type_list_append mt_append (pv 1) (pa_cons (pe_tup (pa_cons (pv 2) (pa_cons (pv 3) pa_nil))) pa_nil)))))))))
    (pss_one (ps_ret (pe_cal c_sorted_items hr h_sorted_items rfl (pa_cons (pv 1) pa_nil))))))
theorem cl_plain_of {P : Program} {w : World} {K : PySem.W.Frag} {mg : Str → Option Value} {base : Heap} {k : Nat} {A : Amb} {t : TS} (M : Hd w K mg) (G : Gd) (hl : ∀ as P', G as P' → as.length = 1)
    (hp : ∀ (f : Addr) (cdv : Value) (A' : Around) (outer : List Env) (s : Shared) (H : Hp) (E : XK), Room k (Bx P w K mg base ["plan", "items", "count", "part", "many", "prime"] "plain_of" s_plain_of f cdv A' outer s H E).A → PSs (Bx P w K mg base ["plan", "items", "count", "part", "many", "prime"] "plain_of" s_plain_of f cdv A' outer s H E) (defBody s_plain_of) t)
    (hr : ∀ as P', G as P' → Rn K A t (as ++ List.replicate (6 - as.length) .emp) (retD P')) : Cal P w K mg base (k + 1) "plain_of" (spD K A G) :=
  cal_data M.d_plain_of sc_plain_of G hl (fun _ _ _ _ _ _ _ us _ hl => match us, hl with | [_], _ => rfl) hp hr
end K87
namespace K87
open PySem PySem.Spec PyProof.Rows L2
/-! is_instruction -/
theorem sc_is_instruction : FnScope ["thing", "many", "number"] ["thing", "many"] (defScope s_is_instruction) := ⟨rfl, rfl, rfl, by decide +kernel, rfl, by decide +kernel, by decide +kernel⟩
def t_is_instruction (K : PySem.W.Frag) (sp_is_within : Sp) : TS :=
  (tSeq (tIfS (tOr (tNot (tB (tCB (rIsi K) (tCons (tVar 0) (tCons (tC (.ty "tuple")) tNil))))) (tOr (tTest (tOp rEq (tCB (rLenSeq K) (tCons (tVar 0) tNil)) (tC (.int 0)))) (tNot (tB (tCB (rIsi K) (tCons (tOp (rIxT K) (tVar 0) (tC (.int 0))) (tCons (tC (.ty "str")) tNil))))))) (tRet (tC (.bl false))) tNext)
    (tSeq (tIfS (tTest (tOp rNe (tDk v_LENGTHS (tOp (rIxT K) (tVar 0) (tC (.int 0)))) (tCB (rLenSeq K) (tCons (tVar 0) tNil)))) (tRet (tC (.bl false))) tNext)
    (tSeq (tIfS (tAnd (tTest (tOp (rI0 fun i j => .bl (decide (j < i))) (tCB (rLenSeq K) (tCons (tVar 0) tNil)) (tC (.int 1)))) (tNot (tB (tCall sp_is_within [] E0 (tCons (tOp (rIxT K) (tVar 0) (tC (.int 1))) (tCons (tC (.int 0)) (tCons (tOp (rI0 fun i j => .int (i - j)) (tCB rLenStr (tCons (tC (.str c_REGISTERS)) tNil)) (tC (.int 1))) tNil))))))) (tRet (tC (.bl false))) tNext)
    (tRet (tCB (rAll K) (tCons (tLc (iTup K (tSl (rSlA K) (tVar 0) (tPart (tC (.int 2))) tNoPart)) (gName 2) tYes (tCall sp_is_within [] E0 (tCons (tVar 2) (tCons (tC (.int 0)) (tCons (tOp (rI0 fun i j => .int (i - j)) (tVar 1) (tC (.int 1))) tNil)))) [2]) tNil))))))
theorem pr_is_instruction {P : Program} {w : World} {K : PySem.W.Frag} {mg : Str → Option Value} {base : Heap} {k : Nat} (M : Hd w K mg) {k_is_within : Nat} {sp_is_within : Sp} (c_is_within : Cal P w K mg base k_is_within "is_within" sp_is_within) (h_is_within : k_is_within ≤ k) (f : Addr) (cdv : Value) (A' : Around) (outer : List Env) (s : Shared) (H : Hp) (E : XK) (hr : Room k (Bx P w K mg base ["thing", "many", "number"] "is_instruction" s_is_instruction f cdv A' outer s H E).A) :
    PSs (Bx P w K mg base ["thing", "many", "number"] "is_instruction" s_is_instruction f cdv A' outer s H E) (defBody s_is_instruction) (t_is_instruction K sp_is_within) := by
  have nd := sc_is_instruction.nd
  have hu := Room.u200 hr
  exact (pss_cons (ps_if (PW.pt (pw_or (pt_not (pt_val (pe_callB call_isi rfl M.isinstance boot_isinstance (pa_cons (pv 0) (pa_cons (pe_ty rfl M.tuple b_tuple) pa_nil))))) (pw_or (pt_cmpR op_eq (pe_callB call_len_seq rfl M.len boot_len (pa_cons (pv 0) pa_nil)) pe_int (by rfl)) (pw_or1 (pt_not (pt_val (pe_callB call_isi rfl M.isinstance boot_isinstance (pa_cons (pe_ix ix_tup (pv 0) pe_int (fun _ _ => rfl)) (pa_cons (pe_ty rfl M.str b_str) pa_nil))))))))) (pss_one (ps_ret pe_bl)) pss_nil)
    (pss_cons (ps_if (pt_cmpR op_ne (pe_dkget rfl M.k_LENGTHS (pe_ix ix_tup (pv 0) pe_int (fun _ _ => rfl))) (pe_callB call_len_seq rfl M.len boot_len (pa_cons (pv 0) pa_nil)) (by rfl)) (pss_one (ps_ret pe_bl)) pss_nil)
    (pss_cons (ps_if (PW.pt (pw_and (pt_cmpR op_gt (pe_callB call_len_seq rfl M.len boot_len (pa_cons (pv 0) pa_nil)) pe_int (by rfl)) (pw_and1 (pt_not (pt_val (pe_cal c_is_within hr h_is_within rfl (pa_cons (pe_ix ix_tup (pv 0) pe_int (fun _ _ => rfl)) (pa_cons pe_int (pa_cons (pe_op op_sub (pe_callB call_len_str rfl M.len boot_len (pa_cons (pe_gstr rfl M.g_REGISTERS) pa_nil)) pe_int) pa_nil))))))))) (pss_one (ps_ret pe_bl)) pss_nil)
    (pss_one (ps_ret (pe_callB (cr_all rfl) rfl M.all boot_all (pa_cons (pe_lc (own := [("number", 2)]) rfl nd (pi_tup (pe_slice sl_tupA (pv 0) (po_some pe_int) po_none)) (blkOk_by (N := ["thing", "many", "number"]) (sc := defScope s_is_instruction) (by decide +kernel)) (fun _ _ _ _ _ => (pg_name (i := 2) nd rfl (by first | exact Or.inl rfl | exact Or.inr rfl))) (fun _ _ _ _ _ => pts_nil) (fun _ _ _ _ _ => (pe_cal c_is_within hr h_is_within rfl (pa_cons (pv 2) (pa_cons pe_int (pa_cons (pe_op op_sub (pv 1) pe_int) pa_nil)))))) pa_nil)))))))
theorem cl_is_instruction {P : Program} {w : World} {K : PySem.W.Frag} {mg : Str → Option Value} {base : Heap} {k : Nat} {A : Amb} {t : TS} (M : Hd w K mg) (G : Gd) (hl : ∀ as P', G as P' → as.length = 2)
    (hp : ∀ (f : Addr) (cdv : Value) (A' : Around) (outer : List Env) (s : Shared) (H : Hp) (E : XK), Room k (Bx P w K mg base ["thing", "many", "number"] "is_instruction" s_is_instruction f cdv A' outer s H E).A → PSs (Bx P w K mg base ["thing", "many", "number"] "is_instruction" s_is_instruction f cdv A' outer s H E) (defBody s_is_instruction) t)
    (hr : ∀ as P', G as P' → Rn K A t (as ++ List.replicate (3 - as.length) .emp) (retD P')) : Cal P w K mg base (k + 1) "is_instruction" (spD K A G) :=
  cal_data M.d_is_instruction sc_is_instruction G hl (fun _ _ _ _ _ _ _ us _ hl => match us, hl with | [_, _], _ => rfl) hp hr
/-! is_machine -/
theorem sc_is_machine : FnScope ["thing", "instruction"] ["thing"] (defScope s_is_machine) := ⟨rfl, rfl, rfl, by decide +kernel, rfl, by decide +kernel, by decide +kernel⟩
def t_is_machine (K : PySem.W.Frag) (sp_is_instruction : Sp) : TS :=
  (tSeq (tIfS (tOr (tNot (tB (tCB (rIsi K) (tCons (tVar 0) (tCons (tC (.ty "tuple")) tNil))))) (tNot (tTest (tChain (rI0 fun i j => .bl (decide (i ≤ j))) (rI0 fun i j => .bl (decide (i ≤ j))) (tC (.int 1)) (tCB (rLenSeq K) (tCons (tVar 0) tNil)) (tC (.int c_MOST_INSTRUCTIONS)))))) (tRet (tC (.bl false))) tNext)
    (tRet (tCB (rAll K) (tCons (tLc (iTup K (tVar 0)) (gName 1) tYes (tCall sp_is_instruction [] E0 (tCons (tVar 1) (tCons (tCB (rLenSeq K) (tCons (tVar 0) tNil)) tNil))) [1]) tNil))))
theorem pr_is_machine {P : Program} {w : World} {K : PySem.W.Frag} {mg : Str → Option Value} {base : Heap} {k : Nat} (M : Hd w K mg) {k_is_instruction : Nat} {sp_is_instruction : Sp} (c_is_instruction : Cal P w K mg base k_is_instruction "is_instruction" sp_is_instruction) (h_is_instruction : k_is_instruction ≤ k) (f : Addr) (cdv : Value) (A' : Around) (outer : List Env) (s : Shared) (H : Hp) (E : XK) (hr : Room k (Bx P w K mg base ["thing", "instruction"] "is_machine" s_is_machine f cdv A' outer s H E).A) :
    PSs (Bx P w K mg base ["thing", "instruction"] "is_machine" s_is_machine f cdv A' outer s H E) (defBody s_is_machine) (t_is_machine K sp_is_instruction) := by
  have nd := sc_is_machine.nd
  have hu := Room.u200 hr
  exact (pss_cons (ps_if (PW.pt (pw_or (pt_not (pt_val (pe_callB call_isi rfl M.isinstance boot_isinstance (pa_cons (pv 0) (pa_cons (pe_ty rfl M.tuple b_tuple) pa_nil))))) (pw_or1 (pt_not (pt_chain op_le op_le pe_int (pe_callB call_len_seq rfl M.len boot_len (pa_cons (pv 0) pa_nil)) (pe_gint rfl M.g_MOST_INSTRUCTIONS)))))) (pss_one (ps_ret pe_bl)) pss_nil)
    (pss_one (ps_ret (pe_callB (cr_all rfl) rfl M.all boot_all (pa_cons (pe_lc (own := [("instruction", 1)]) rfl nd (pi_tup (pv 0)) (blkOk_by (N := ["thing", "instruction"]) (sc := defScope s_is_machine) (by decide +kernel)) (fun _ _ _ _ _ => (pg_name (i := 1) nd rfl (by first | exact Or.inl rfl | exact Or.inr rfl))) (fun _ _ _ _ _ => pts_nil) (fun _ _ _ _ _ => (pe_cal c_is_instruction hr h_is_instruction rfl (pa_cons (pv 1) (pa_cons (pe_callB call_len_seq rfl M.len boot_len (pa_cons (pv 0) pa_nil)) pa_nil))))) pa_nil)))))
theorem cl_is_machine {P : Program} {w : World} {K : PySem.W.Frag} {mg : Str → Option Value} {base : Heap} {k : Nat} {A : Amb} {t : TS} (M : Hd w K mg) (G : Gd) (hl : ∀ as P', G as P' → as.length = 1)
    (hp : ∀ (f : Addr) (cdv : Value) (A' : Around) (outer : List Env) (s : Shared) (H : Hp) (E : XK), Room k (Bx P w K mg base ["thing", "instruction"] "is_machine" s_is_machine f cdv A' outer s H E).A → PSs (Bx P w K mg base ["thing", "instruction"] "is_machine" s_is_machine f cdv A' outer s H E) (defBody s_is_machine) t)
    (hr : ∀ as P', G as P' → Rn K A t (as ++ List.replicate (2 - as.length) .emp) (retD P')) : Cal P w K mg base (k + 1) "is_machine" (spD K A G) :=
  cal_data M.d_is_machine sc_is_machine G hl (fun _ _ _ _ _ _ _ us _ hl => match us, hl with | [_], _ => rfl) hp hr
/-! is_standing -/
theorem sc_is_standing : FnScope ["machine", "thing", "number"] ["machine", "thing"] (defScope s_is_standing) := ⟨rfl, rfl, rfl, by decide +kernel, rfl, by decide +kernel, by decide +kernel⟩
def t_is_standing (K : PySem.W.Frag) (sp_is_pair : Sp) (sp_is_within : Sp) (sp_is_integer : Sp) : TS :=
  (tSeq (tIfS (tOr (tNot (tB (tCall sp_is_pair [] E0 (tCons (tVar 1) tNil)))) (tNot (tB (tCall sp_is_within [] E0 (tCons (tOp (rIxT K) (tVar 1) (tC (.int 0))) (tCons (tC (.int 0)) (tCons (tOp (rI0 fun i j => .int (i - j)) (tCB (rLenSeq K) (tCons (tVar 0) tNil)) (tC (.int 1))) tNil))))))) (tRet (tC (.bl false))) tNext)
    (tSeq (tIfS (tOr (tNot (tB (tCB (rIsi K) (tCons (tOp (rIxT K) (tVar 1) (tC (.int 1))) (tCons (tC (.ty "tuple")) tNil))))) (tTest (tOp rNe (tCB (rLenSeq K) (tCons (tOp (rIxT K) (tVar 1) (tC (.int 1))) tNil)) (tCB rLenStr (tCons (tC (.str c_REGISTERS)) tNil))))) (tRet (tC (.bl false))) tNext)
    (tRet (tCB (rAll K) (tCons (tLc (iTup K (tOp (rIxT K) (tVar 1) (tC (.int 1)))) (gName 2) tYes (tAndV (tCall sp_is_integer [] E0 (tCons (tVar 2) tNil)) (tOp (rI0 fun i j => .bl (decide (j ≤ i))) (tVar 2) (tC (.int 0)))) [2]) tNil)))))
theorem pr_is_standing {P : Program} {w : World} {K : PySem.W.Frag} {mg : Str → Option Value} {base : Heap} {k : Nat} (M : Hd w K mg) {k_is_pair : Nat} {sp_is_pair : Sp} (c_is_pair : Cal P w K mg base k_is_pair "is_pair" sp_is_pair) (h_is_pair : k_is_pair ≤ k) {k_is_within : Nat} {sp_is_within : Sp} (c_is_within : Cal P w K mg base k_is_within "is_within" sp_is_within) (h_is_within : k_is_within ≤ k) {k_is_integer : Nat} {sp_is_integer : Sp} (c_is_integer : Cal P w K mg base k_is_integer "is_integer" sp_is_integer) (h_is_integer : k_is_integer ≤ k) (f : Addr) (cdv : Value) (A' : Around) (outer : List Env) (s : Shared) (H : Hp) (E : XK) (hr : Room k (Bx P w K mg base ["machine", "thing", "number"] "is_standing" s_is_standing f cdv A' outer s H E).A) :
    PSs (Bx P w K mg base ["machine", "thing", "number"] "is_standing" s_is_standing f cdv A' outer s H E) (defBody s_is_standing) (t_is_standing K sp_is_pair sp_is_within sp_is_integer) := by
  have nd := sc_is_standing.nd
  have hu := Room.u200 hr
  exact (pss_cons (ps_if (PW.pt (pw_or (pt_not (pt_val (pe_cal c_is_pair hr h_is_pair rfl (pa_cons (pv 1) pa_nil)))) (pw_or1 (pt_not (pt_val (pe_cal c_is_within hr h_is_within rfl (pa_cons (pe_ix ix_tup (pv 1) pe_int (fun _ _ => rfl)) (pa_cons pe_int (pa_cons (pe_op op_sub (pe_callB call_len_seq rfl M.len boot_len (pa_cons (pv 0) pa_nil)) pe_int) pa_nil))))))))) (pss_one (ps_ret pe_bl)) pss_nil)
    (pss_cons (ps_if (PW.pt (pw_or (pt_not (pt_val (pe_callB call_isi rfl M.isinstance boot_isinstance (pa_cons (pe_ix ix_tup (pv 1) pe_int (fun _ _ => rfl)) (pa_cons (pe_ty rfl M.tuple b_tuple) pa_nil))))) (pw_or1 (pt_cmpR op_ne (pe_callB call_len_seq rfl M.len boot_len (pa_cons (pe_ix ix_tup (pv 1) pe_int (fun _ _ => rfl)) pa_nil)) (pe_callB call_len_str rfl M.len boot_len (pa_cons (pe_gstr rfl M.g_REGISTERS) pa_nil)) (by rfl))))) (pss_one (ps_ret pe_bl)) pss_nil)
    (pss_one (ps_ret (pe_callB (cr_all rfl) rfl M.all boot_all (pa_cons (pe_lc (own := [("number", 2)]) rfl nd (pi_tup (pe_ix ix_tup (pv 1) pe_int (fun _ _ => rfl))) (blkOk_by (N := ["machine", "thing", "number"]) (sc := defScope s_is_standing) (by decide +kernel)) (fun _ _ _ _ _ => (pg_name (i := 2) nd rfl (by first | exact Or.inl rfl | exact Or.inr rfl))) (fun _ _ _ _ _ => pts_nil) (fun _ _ _ _ _ => (pe_and (pe_cal c_is_integer hr h_is_integer rfl (pa_cons (pv 2) pa_nil)) (pe_one (pe_cmpR op_ge (pv 2) pe_int (by rfl)))))) pa_nil))))))
theorem cl_is_standing {P : Program} {w : World} {K : PySem.W.Frag} {mg : Str → Option Value} {base : Heap} {k : Nat} {A : Amb} {t : TS} (M : Hd w K mg) (G : Gd) (hl : ∀ as P', G as P' → as.length = 2)
    (hp : ∀ (f : Addr) (cdv : Value) (A' : Around) (outer : List Env) (s : Shared) (H : Hp) (E : XK), Room k (Bx P w K mg base ["machine", "thing", "number"] "is_standing" s_is_standing f cdv A' outer s H E).A → PSs (Bx P w K mg base ["machine", "thing", "number"] "is_standing" s_is_standing f cdv A' outer s H E) (defBody s_is_standing) t)
    (hr : ∀ as P', G as P' → Rn K A t (as ++ List.replicate (3 - as.length) .emp) (retD P')) : Cal P w K mg base (k + 1) "is_standing" (spD K A G) :=
  cal_data M.d_is_standing sc_is_standing G hl (fun _ _ _ _ _ _ _ us _ hl => match us, hl with | [_, _], _ => rfl) hp hr
/-! check_machine -/
theorem sc_check_machine : FnScope ["thing"] ["thing"] (defScope s_check_machine) := ⟨rfl, rfl, rfl, by decide +kernel, rfl, by decide +kernel, by decide +kernel⟩
def t_check_machine (K : PySem.W.Frag) (sp_is_machine : Sp) : TS :=
  (tIfS (tNot (tB (tCall sp_is_machine [] E0 (tCons (tVar 0) tNil)))) tNever tNext)
theorem pr_check_machine {P : Program} {w : World} {K : PySem.W.Frag} {mg : Str → Option Value} {base : Heap} {k : Nat} (M : Hd w K mg) {k_is_machine : Nat} {sp_is_machine : Sp} (c_is_machine : Cal P w K mg base k_is_machine "is_machine" sp_is_machine) (h_is_machine : k_is_machine ≤ k) (f : Addr) (cdv : Value) (A' : Around) (outer : List Env) (s : Shared) (H : Hp) (E : XK) (hr : Room k (Bx P w K mg base ["thing"] "check_machine" s_check_machine f cdv A' outer s H E).A) :
    PSs (Bx P w K mg base ["thing"] "check_machine" s_check_machine f cdv A' outer s H E) (defBody s_check_machine) (t_check_machine K sp_is_machine) := by
  have nd := sc_check_machine.nd
  have hu := Room.u200 hr
  exact (pss_one (ps_if (pt_not (pt_val (pe_cal c_is_machine hr h_is_machine rfl (pa_cons (pv 0) pa_nil)))) (pss_one ps_never) pss_nil))
theorem cl_check_machine {P : Program} {w : World} {K : PySem.W.Frag} {mg : Str → Option Value} {base : Heap} {k : Nat} {A : Amb} {t : TS} (M : Hd w K mg) (G : Gd) (hl : ∀ as P', G as P' → as.length = 1)
    (hp : ∀ (f : Addr) (cdv : Value) (A' : Around) (outer : List Env) (s : Shared) (H : Hp) (E : XK), Room k (Bx P w K mg base ["thing"] "check_machine" s_check_machine f cdv A' outer s H E).A → PSs (Bx P w K mg base ["thing"] "check_machine" s_check_machine f cdv A' outer s H E) (defBody s_check_machine) t)
    (hr : ∀ as P', G as P' → Rn K A t (as ++ List.replicate (1 - as.length) .emp) (retD P')) : Cal P w K mg base (k + 1) "check_machine" (spD K A G) :=
  cal_data M.d_check_machine sc_check_machine G hl (fun _ _ _ _ _ _ _ us _ hl => match us, hl with | [_], _ => rfl) hp hr
/-! check_both -/
theorem sc_check_both : FnScope ["machine", "standing"] ["machine", "standing"] (defScope s_check_both) := ⟨rfl, rfl, rfl, by decide +kernel, rfl, by decide +kernel, by decide +kernel⟩
def t_check_both (K : PySem.W.Frag) (sp_check_machine : Sp) (sp_is_standing : Sp) : TS :=
  (tSeq (tDrop (tCall sp_check_machine [] E0 (tCons (tVar 0) tNil)))
    (tIfS (tNot (tB (tCall sp_is_standing [] E0 (tCons (tVar 0) (tCons (tVar 1) tNil))))) tNever tNext))
theorem pr_check_both {P : Program} {w : World} {K : PySem.W.Frag} {mg : Str → Option Value} {base : Heap} {k : Nat} (M : Hd w K mg) {k_check_machine : Nat} {sp_check_machine : Sp} (c_check_machine : Cal P w K mg base k_check_machine "check_machine" sp_check_machine) (h_check_machine : k_check_machine ≤ k) {k_is_standing : Nat} {sp_is_standing : Sp} (c_is_standing : Cal P w K mg base k_is_standing "is_standing" sp_is_standing) (h_is_standing : k_is_standing ≤ k) (f : Addr) (cdv : Value) (A' : Around) (outer : List Env) (s : Shared) (H : Hp) (E : XK) (hr : Room k (Bx P w K mg base ["machine", "standing"] "check_both" s_check_both f cdv A' outer s H E).A) :
    PSs (Bx P w K mg base ["machine", "standing"] "check_both" s_check_both f cdv A' outer s H E) (defBody s_check_both) (t_check_both K sp_check_machine sp_is_standing) := by
  have nd := sc_check_both.nd
  have hu := Room.u200 hr
  exact (pss_cons (ps_expr (pe_cal c_check_machine hr h_check_machine rfl (pa_cons (pv 0) pa_nil)))
    (pss_one (ps_if (pt_not (pt_val (pe_cal c_is_standing hr h_is_standing rfl (pa_cons (pv 0) (pa_cons (pv 1) pa_nil))))) (pss_one ps_never) pss_nil)))
theorem cl_check_both {P : Program} {w : World} {K : PySem.W.Frag} {mg : Str → Option Value} {base : Heap} {k : Nat} {A : Amb} {t : TS} (M : Hd w K mg) (G : Gd) (hl : ∀ as P', G as P' → as.length = 2)
    (hp : ∀ (f : Addr) (cdv : Value) (A' : Around) (outer : List Env) (s : Shared) (H : Hp) (E : XK), Room k (Bx P w K mg base ["machine", "standing"] "check_both" s_check_both f cdv A' outer s H E).A → PSs (Bx P w K mg base ["machine", "standing"] "check_both" s_check_both f cdv A' outer s H E) (defBody s_check_both) t)
    (hr : ∀ as P', G as P' → Rn K A t (as ++ List.replicate (2 - as.length) .emp) (retD P')) : Cal P w K mg base (k + 1) "check_both" (spD K A G) :=
  cal_data M.d_check_both sc_check_both G hl (fun _ _ _ _ _ _ _ us _ hl => match us, hl with | [_, _], _ => rfl) hp hr
/-! behind_step -/
theorem sc_behind_step : FnScope ["machine", "standing", "at", "numbers", "instruction", "cell", "change", "changed"] ["machine", "standing"] (defScope s_behind_step) := ⟨rfl, rfl, rfl, by decide +kernel, rfl, by decide +kernel, by decide +kernel⟩
def t_behind_step (K : PySem.W.Frag) : TS :=
  (tSeq (tAsg (tVar 1) (gTup K 2 (gCons (gName 2) (gCons (gName 3) gNil))))
    (tSeq (tAsg (tOp (rIxT K) (tVar 0) (tVar 2)) (gName 4))
    (tSeq (tAsg (tOp (rIxT K) (tVar 4) (tC (.int 1))) (gName 5))
    (tSeq (tIfS (tTest (tOp rEq (tOp (rIxT K) (tVar 4) (tC (.int 0))) (tC (.str "up")))) (tAsg (tC (.int 1)) (gName 6)) (tIfS (tTest (tOp rEq (tOp (rIxT K) (tVar 3) (tVar 5)) (tC (.int 0)))) (tRet (tTup (tCons (tOp (rIxT K) (tVar 4) (tC (.int 3))) (tCons (tVar 3) tNil)))) (tAsg (tUn (rU fun i => .int (-i)) (tC (.int 1))) (gName 6))))
    (tSeq (tAsg (tOp (rCatA K) (tOp (rCatA K) (tSl (rSlA K) (tVar 3) tNoPart (tPart (tVar 5))) (tTup (tCons (tOp (rI0 fun i j => .int (i + j)) (tOp (rIxT K) (tVar 3) (tVar 5)) (tVar 6)) tNil))) (tSl (rSlA K) (tVar 3) (tPart (tOp (rI0 fun i j => .int (i + j)) (tVar 5) (tC (.int 1)))) tNoPart)) (gName 7))
    (tRet (tTup (tCons (tOp (rIxT K) (tVar 4) (tC (.int 2))) (tCons (tVar 7) tNil)))))))))
theorem pr_behind_step {P : Program} {w : World} {K : PySem.W.Frag} {mg : Str → Option Value} {base : Heap} {k : Nat} (M : Hd w K mg) (f : Addr) (cdv : Value) (A' : Around) (outer : List Env) (s : Shared) (H : Hp) (E : XK) (hr : Room k (Bx P w K mg base ["machine", "standing", "at", "numbers", "instruction", "cell", "change", "changed"] "behind_step" s_behind_step f cdv A' outer s H E).A) :
    PSs (Bx P w K mg base ["machine", "standing", "at", "numbers", "instruction", "cell", "change", "changed"] "behind_step" s_behind_step f cdv A' outer s H E) (defBody s_behind_step) (t_behind_step K) := by
  have nd := sc_behind_step.nd
  have hu := Room.u200 hr
  exact (pss_cons (ps_asg (pv 1) (pg_tup rfl (pgs_cons (pg_name (i := 2) nd rfl (by first | exact Or.inl rfl | exact Or.inr rfl)) (pgs_cons (pg_name (i := 3) nd rfl (by first | exact Or.inl rfl | exact Or.inr rfl)) pgs_nil))))
    (pss_cons (ps_set (i := 4) nd rfl (by first | exact Or.inl rfl | exact Or.inr rfl) (pe_ix ix_tup (pv 0) (pv 2) (fun _ _ => rfl)))
    (pss_cons (ps_set (i := 5) nd rfl (by first | exact Or.inl rfl | exact Or.inr rfl) (pe_ix ix_tup (pv 4) pe_int (fun _ _ => rfl)))
    (pss_cons (ps_if (pt_cmpR op_eq (pe_ix ix_tup (pv 4) pe_int (fun _ _ => rfl)) pe_str (by rfl)) (pss_one (ps_set (i := 6) nd rfl (by first | exact Or.inl rfl | exact Or.inr rfl) pe_int)) (pss_one (ps_if (pt_cmpR op_eq (pe_ix ix_tup (pv 3) (pv 5) (fun _ _ => rfl)) pe_int (by rfl)) (pss_one (ps_ret (pe_tup (pa_cons (pe_ix ix_tup (pv 4) pe_int (fun _ _ => rfl)) (pa_cons (pv 3) pa_nil))))) (pss_one (ps_set (i := 6) nd rfl (by first | exact Or.inl rfl | exact Or.inr rfl) (pe_un un_neg pe_int))))))
    (pss_cons (ps_set (i := 7) nd rfl (by first | exact Or.inl rfl | exact Or.inr rfl) (pe_op op_catA (pe_op op_catA (pe_slice sl_tupA (pv 3) po_none (po_some (pv 5))) (pe_tup (pa_cons (pe_op op_add (pe_ix ix_tup (pv 3) (pv 5) (fun _ _ => rfl)) (pv 6)) pa_nil))) (pe_slice sl_tupA (pv 3) (po_some (pe_op op_add (pv 5) pe_int)) po_none)))
    (pss_one (ps_ret (pe_tup (pa_cons (pe_ix ix_tup (pv 4) pe_int (fun _ _ => rfl)) (pa_cons (pv 7) pa_nil))))))))))
theorem cl_behind_step {P : Program} {w : World} {K : PySem.W.Frag} {mg : Str → Option Value} {base : Heap} {k : Nat} {A : Amb} {t : TS} (M : Hd w K mg) (G : Gd) (hl : ∀ as P', G as P' → as.length = 2)
    (hp : ∀ (f : Addr) (cdv : Value) (A' : Around) (outer : List Env) (s : Shared) (H : Hp) (E : XK), Room k (Bx P w K mg base ["machine", "standing", "at", "numbers", "instruction", "cell", "change", "changed"] "behind_step" s_behind_step f cdv A' outer s H E).A → PSs (Bx P w K mg base ["machine", "standing", "at", "numbers", "instruction", "cell", "change", "changed"] "behind_step" s_behind_step f cdv A' outer s H E) (defBody s_behind_step) t)
    (hr : ∀ as P', G as P' → Rn K A t (as ++ List.replicate (8 - as.length) .emp) (retD P')) : Cal P w K mg base (k + 1) "behind_step" (spD K A G) :=
  cal_data M.d_behind_step sc_behind_step G hl (fun _ _ _ _ _ _ _ us _ hl => match us, hl with | [_, _], _ => rfl) hp hr
/-! done -/
theorem sc_done : FnScope ["machine", "standing", "steps", "turn"] ["machine", "standing", "steps"] (defScope s_done) := ⟨rfl, rfl, rfl, by decide +kernel, rfl, by decide +kernel, by decide +kernel⟩
def t_done (K : PySem.W.Frag) (sp_check_both : Sp) (sp_check_count : Sp) (sp_behind_step : Sp) : TS :=
  (tSeq (tDrop (tCall sp_check_both [] E0 (tCons (tVar 0) (tCons (tVar 1) tNil))))
    (tSeq (tDrop (tCall sp_check_count [] E0 (tCons (tVar 2) (tCons (tC (.int 0)) (tCons (tC (.int c_MOST_STEPS)) tNil)))))
    (tSeq (tFor (iRng1 (tCons (tVar 2) tNil)) (gName 3) (tSeq (tIfS (tTest (tOp rEq (tOp (rIxT K) (tOp (rIxT K) (tVar 0) (tOp (rIxT K) (tVar 1) (tC (.int 0)))) (tC (.int 0))) (tC (.str "halt")))) tBreak tNext)
    (tAsg (tCall sp_behind_step [] E0 (tCons (tVar 0) (tCons (tVar 1) tNil))) (gName 1))))
    (tRet (tVar 1)))))
theorem pr_done {P : Program} {w : World} {K : PySem.W.Frag} {mg : Str → Option Value} {base : Heap} {k : Nat} (M : Hd w K mg) {k_check_both : Nat} {sp_check_both : Sp} (c_check_both : Cal P w K mg base k_check_both "check_both" sp_check_both) (h_check_both : k_check_both ≤ k) {k_check_count : Nat} {sp_check_count : Sp} (c_check_count : Cal P w K mg base k_check_count "check_count" sp_check_count) (h_check_count : k_check_count ≤ k) {k_behind_step : Nat} {sp_behind_step : Sp} (c_behind_step : Cal P w K mg base k_behind_step "behind_step" sp_behind_step) (h_behind_step : k_behind_step ≤ k) (f : Addr) (cdv : Value) (A' : Around) (outer : List Env) (s : Shared) (H : Hp) (E : XK) (hr : Room k (Bx P w K mg base ["machine", "standing", "steps", "turn"] "done" s_done f cdv A' outer s H E).A) :
    PSs (Bx P w K mg base ["machine", "standing", "steps", "turn"] "done" s_done f cdv A' outer s H E) (defBody s_done) (t_done K sp_check_both sp_check_count sp_behind_step) := by
  have nd := sc_done.nd
  have hu := Room.u200 hr
  exact (pss_cons (ps_expr (pe_cal c_check_both hr h_check_both rfl (pa_cons (pv 0) (pa_cons (pv 1) pa_nil))))
    (pss_cons (ps_expr (pe_cal c_check_count hr h_check_count rfl (pa_cons (pv 2) (pa_cons pe_int (pa_cons (pe_gint rfl M.g_MOST_STEPS) pa_nil)))))
    (pss_cons (ps_for PassesOwn.never rfl (pi_range1 rfl M.range (pa_cons (pv 2) pa_nil)) (pg_name (i := 3) nd rfl (by first | exact Or.inl rfl | exact Or.inr rfl)) (pss_cons (ps_if (pt_cmpR op_eq (pe_ix ix_tup (pe_ix ix_tup (pv 0) (pe_ix ix_tup (pv 1) pe_int (fun _ _ => rfl)) (fun _ _ => rfl)) pe_int (fun _ _ => rfl)) pe_str (by rfl)) (pss_one ps_break) pss_nil)
    (pss_one (ps_set (i := 1) nd rfl (by first | exact Or.inl rfl | exact Or.inr rfl) (pe_cal c_behind_step hr h_behind_step rfl (pa_cons (pv 0) (pa_cons (pv 1) pa_nil)))))))
    (pss_one (ps_ret (pv 1))))))
theorem cl_done {P : Program} {w : World} {K : PySem.W.Frag} {mg : Str → Option Value} {base : Heap} {k : Nat} {A : Amb} {t : TS} (M : Hd w K mg) (G : Gd) (hl : ∀ as P', G as P' → as.length = 3)
    (hp : ∀ (f : Addr) (cdv : Value) (A' : Around) (outer : List Env) (s : Shared) (H : Hp) (E : XK), Room k (Bx P w K mg base ["machine", "standing", "steps", "turn"] "done" s_done f cdv A' outer s H E).A → PSs (Bx P w K mg base ["machine", "standing", "steps", "turn"] "done" s_done f cdv A' outer s H E) (defBody s_done) t)
    (hr : ∀ as P', G as P' → Rn K A t (as ++ List.replicate (4 - as.length) .emp) (retD P')) : Cal P w K mg base (k + 1) "done" (spD K A G) :=
  cal_data M.d_done sc_done G hl (fun _ _ _ _ _ _ _ us _ hl => match us, hl with | [_, _, _], _ => rfl) hp hr
/-! told_steps -/
theorem sc_told_steps : FnScope ["machine", "standing", "meetings", "left"] ["machine", "standing", "meetings"] (defScope s_told_steps) := ⟨rfl, rfl, rfl, by decide +kernel, rfl, by decide +kernel, by decide +kernel⟩
def t_told_steps (K : PySem.W.Frag) (sp_check_both : Sp) (sp_check_count : Sp) (sp_behind_step : Sp) : TS :=
  (tSeq (tDrop (tCall sp_check_both [] E0 (tCons (tVar 0) (tCons (tVar 1) tNil))))
    (tSeq (tDrop (tCall sp_check_count [] E0 (tCons (tVar 2) (tCons (tC (.int 0)) (tCons (tC (.int c_MOST_STEPS)) tNil)))))
    (tSeq (tAsg (tVar 2) (gName 3))
    (tSeq (tWhile (tAnd (tTest (tOp rNe (tOp (rIxT K) (tOp (rIxT K) (tVar 0) (tOp (rIxT K) (tVar 1) (tC (.int 0)))) (tC (.int 0))) (tC (.str "halt")))) (tTest (tOp (rI0 fun i j => .bl (decide (j ≤ i))) (tVar 3) (tDk v_MEETINGS (tOp (rIxT K) (tOp (rIxT K) (tVar 0) (tOp (rIxT K) (tVar 1) (tC (.int 0)))) (tC (.int 0))))))) (tSeq (tAug 3 (tDk v_MEETINGS (tOp (rIxT K) (tOp (rIxT K) (tVar 0) (tOp (rIxT K) (tVar 1) (tC (.int 0)))) (tC (.int 0)))) (ipI fun i j => i - j))
    (tAsg (tCall sp_behind_step [] E0 (tCons (tVar 0) (tCons (tVar 1) tNil))) (gName 1))))
    (tSeq (tIfS (tTest (tOp rEq (tOp (rIxT K) (tOp (rIxT K) (tVar 0) (tOp (rIxT K) (tVar 1) (tC (.int 0)))) (tC (.int 0))) (tC (.str "halt")))) (tAsg (tCB rMin2 (tCons (tVar 3) (tCons (tC (.int 1)) tNil))) (gName 3)) tNext)
    (tRet (tTup (tCons (tVar 1) (tCons (tVar 3) tNil)))))))))
theorem pr_told_steps {P : Program} {w : World} {K : PySem.W.Frag} {mg : Str → Option Value} {base : Heap} {k : Nat} (M : Hd w K mg) {k_check_both : Nat} {sp_check_both : Sp} (c_check_both : Cal P w K mg base k_check_both "check_both" sp_check_both) (h_check_both : k_check_both ≤ k) {k_check_count : Nat} {sp_check_count : Sp} (c_check_count : Cal P w K mg base k_check_count "check_count" sp_check_count) (h_check_count : k_check_count ≤ k) {k_behind_step : Nat} {sp_behind_step : Sp} (c_behind_step : Cal P w K mg base k_behind_step "behind_step" sp_behind_step) (h_behind_step : k_behind_step ≤ k) (f : Addr) (cdv : Value) (A' : Around) (outer : List Env) (s : Shared) (H : Hp) (E : XK) (hr : Room k (Bx P w K mg base ["machine", "standing", "meetings", "left"] "told_steps" s_told_steps f cdv A' outer s H E).A) :
    PSs (Bx P w K mg base ["machine", "standing", "meetings", "left"] "told_steps" s_told_steps f cdv A' outer s H E) (defBody s_told_steps) (t_told_steps K sp_check_both sp_check_count sp_behind_step) := by
  have nd := sc_told_steps.nd
  have hu := Room.u200 hr
  exact (pss_cons (ps_expr (pe_cal c_check_both hr h_check_both rfl (pa_cons (pv 0) (pa_cons (pv 1) pa_nil))))
    (pss_cons (ps_expr (pe_cal c_check_count hr h_check_count rfl (pa_cons (pv 2) (pa_cons pe_int (pa_cons (pe_gint rfl M.g_MOST_STEPS) pa_nil)))))
    (pss_cons (ps_set (i := 3) nd rfl (by first | exact Or.inl rfl | exact Or.inr rfl) (pv 2))
    (pss_cons (ps_while PassesOwn.never (PW.pt (pw_and (pt_cmpR op_ne (pe_ix ix_tup (pe_ix ix_tup (pv 0) (pe_ix ix_tup (pv 1) pe_int (fun _ _ => rfl)) (fun _ _ => rfl)) pe_int (fun _ _ => rfl)) pe_str (by rfl)) (pw_and1 (pt_cmpR op_ge (pv 3) (pe_dk rfl M.k_MEETINGS (pe_ix ix_tup (pe_ix ix_tup (pv 0) (pe_ix ix_tup (pv 1) pe_int (fun _ _ => rfl)) (fun _ _ => rfl)) pe_int (fun _ _ => rfl))) (by rfl))))) (pss_cons (ps_aug (i := 3) nd rfl (by first | exact Or.inl rfl | exact Or.inr rfl) (pe_dk rfl M.k_MEETINGS (pe_ix ix_tup (pe_ix ix_tup (pv 0) (pe_ix ix_tup (pv 1) pe_int (fun _ _ => rfl)) (fun _ _ => rfl)) pe_int (fun _ _ => rfl))) ip_sub)
    (pss_one (ps_set (i := 1) nd rfl (by first | exact Or.inl rfl | exact Or.inr rfl) (pe_cal c_behind_step hr h_behind_step rfl (pa_cons (pv 0) (pa_cons (pv 1) pa_nil)))))))
    (pss_cons (ps_if (pt_cmpR op_eq (pe_ix ix_tup (pe_ix ix_tup (pv 0) (pe_ix ix_tup (pv 1) pe_int (fun _ _ => rfl)) (fun _ _ => rfl)) pe_int (fun _ _ => rfl)) pe_str (by rfl)) (pss_one (ps_set (i := 3) nd rfl (by first | exact Or.inl rfl | exact Or.inr rfl) (pe_callB (call_min2 rfl) rfl M.min boot_min (pa_cons (pv 3) (pa_cons pe_int pa_nil))))) pss_nil)
    (pss_one (ps_ret (pe_tup (pa_cons (pv 1) (pa_cons (pv 3) pa_nil))))))))))
theorem cl_told_steps {P : Program} {w : World} {K : PySem.W.Frag} {mg : Str → Option Value} {base : Heap} {k : Nat} {A : Amb} {t : TS} (M : Hd w K mg) (G : Gd) (hl : ∀ as P', G as P' → as.length = 3)
    (hp : ∀ (f : Addr) (cdv : Value) (A' : Around) (outer : List Env) (s : Shared) (H : Hp) (E : XK), Room k (Bx P w K mg base ["machine", "standing", "meetings", "left"] "told_steps" s_told_steps f cdv A' outer s H E).A → PSs (Bx P w K mg base ["machine", "standing", "meetings", "left"] "told_steps" s_told_steps f cdv A' outer s H E) (defBody s_told_steps) t)
    (hr : ∀ as P', G as P' → Rn K A t (as ++ List.replicate (4 - as.length) .emp) (retD P')) : Cal P w K mg base (k + 1) "told_steps" (spD K A G) :=
  cal_data M.d_told_steps sc_told_steps G hl (fun _ _ _ _ _ _ _ us _ hl => match us, hl with | [_, _, _], _ => rfl) hp hr
/-! word_of -/
theorem sc_word_of : FnScope ["word"] ["word"] (defScope s_word_of) := ⟨rfl, rfl, rfl, by decide +kernel, rfl, by decide +kernel, by decide +kernel⟩
def t_word_of (K : PySem.W.Frag) : TS :=
  (tRet (tTup (tCons (tTup (tCons (tC (.int 1)) (tCons (tTup (tCons (tC (.str "name")) (tCons (tVar 0) tNil))) tNil))) tNil)))
theorem pr_word_of {P : Program} {w : World} {K : PySem.W.Frag} {mg : Str → Option Value} {base : Heap} {k : Nat} (M : Hd w K mg) (f : Addr) (cdv : Value) (A' : Around) (outer : List Env) (s : Shared) (H : Hp) (E : XK) (hr : Room k (Bx P w K mg base ["word"] "word_of" s_word_of f cdv A' outer s H E).A) :
    PSs (Bx P w K mg base ["word"] "word_of" s_word_of f cdv A' outer s H E) (defBody s_word_of) (t_word_of K) := by
  have nd := sc_word_of.nd
  have hu := Room.u200 hr
  exact (pss_one (ps_ret (pe_tup (pa_cons (pe_tup (pa_cons pe_int (pa_cons (pe_tup (pa_cons pe_str (pa_cons (pv 0) pa_nil))) pa_nil))) pa_nil))))
theorem cl_word_of {P : Program} {w : World} {K : PySem.W.Frag} {mg : Str → Option Value} {base : Heap} {k : Nat} {A : Amb} {t : TS} (M : Hd w K mg) (G : Gd) (hl : ∀ as P', G as P' → as.length = 1)
    (hp : ∀ (f : Addr) (cdv : Value) (A' : Around) (outer : List Env) (s : Shared) (H : Hp) (E : XK), Room k (Bx P w K mg base ["word"] "word_of" s_word_of f cdv A' outer s H E).A → PSs (Bx P w K mg base ["word"] "word_of" s_word_of f cdv A' outer s H E) (defBody s_word_of) t)
    (hr : ∀ as P', G as P' → Rn K A t (as ++ List.replicate (1 - as.length) .emp) (retD P')) : Cal P w K mg base (k + 1) "word_of" (spD K A G) :=
  cal_data M.d_word_of sc_word_of G hl (fun _ _ _ _ _ _ _ us _ hl => match us, hl with | [_], _ => rfl) hp hr
/-! letter_of -/
theorem sc_letter_of : FnScope ["door", "plan"] ["door", "plan"] (defScope s_letter_of) := ⟨rfl, rfl, rfl, by decide +kernel, rfl, by decide +kernel, by decide +kernel⟩
def t_letter_of (K : PySem.W.Frag) : TS :=
  (tRet (tTup (tCons (tTup (tCons (tC (.int 1)) (tCons (tTup (tCons (tC (.str "letter")) (tCons (tVar 0) (tCons (tVar 1) tNil)))) tNil))) tNil)))
theorem pr_letter_of {P : Program} {w : World} {K : PySem.W.Frag} {mg : Str → Option Value} {base : Heap} {k : Nat} (M : Hd w K mg) (f : Addr) (cdv : Value) (A' : Around) (outer : List Env) (s : Shared) (H : Hp) (E : XK) (hr : Room k (Bx P w K mg base ["door", "plan"] "letter_of" s_letter_of f cdv A' outer s H E).A) :
    PSs (Bx P w K mg base ["door", "plan"] "letter_of" s_letter_of f cdv A' outer s H E) (defBody s_letter_of) (t_letter_of K) := by
  have nd := sc_letter_of.nd
  have hu := Room.u200 hr
  exact (pss_one (ps_ret (pe_tup (pa_cons (pe_tup (pa_cons pe_int (pa_cons (pe_tup (pa_cons pe_str (pa_cons (pv 0) (pa_cons (pv 1) pa_nil)))) pa_nil))) pa_nil))))
theorem cl_letter_of {P : Program} {w : World} {K : PySem.W.Frag} {mg : Str → Option Value} {base : Heap} {k : Nat} {A : Amb} {t : TS} (M : Hd w K mg) (G : Gd) (hl : ∀ as P', G as P' → as.length = 2)
    (hp : ∀ (f : Addr) (cdv : Value) (A' : Around) (outer : List Env) (s : Shared) (H : Hp) (E : XK), Room k (Bx P w K mg base ["door", "plan"] "letter_of" s_letter_of f cdv A' outer s H E).A → PSs (Bx P w K mg base ["door", "plan"] "letter_of" s_letter_of f cdv A' outer s H E) (defBody s_letter_of) t)
    (hr : ∀ as P', G as P' → Rn K A t (as ++ List.replicate (2 - as.length) .emp) (retD P')) : Cal P w K mg base (k + 1) "letter_of" (spD K A G) :=
  cal_data M.d_letter_of sc_letter_of G hl (fun _ _ _ _ _ _ _ us _ hl => match us, hl with | [_, _], _ => rfl) hp hr
/-! wait_of -/
theorem sc_wait_of : FnScope ["door", "word", "plan"] ["door", "word", "plan"] (defScope s_wait_of) := ⟨rfl, rfl, rfl, by decide +kernel, rfl, by decide +kernel, by decide +kernel⟩
def t_wait_of (K : PySem.W.Frag) (sp_bound_to : Sp) : TS :=
  (tRet (tTup (tCons (tTup (tCons (tC (.int 1)) (tCons (tCall sp_bound_to [] E0 (tCons (tVar 0) (tCons (tTup (tCons (tC (.str "name")) (tCons (tVar 1) tNil))) (tCons (tVar 2) tNil)))) tNil))) tNil)))
theorem pr_wait_of {P : Program} {w : World} {K : PySem.W.Frag} {mg : Str → Option Value} {base : Heap} {k : Nat} (M : Hd w K mg) {k_bound_to : Nat} {sp_bound_to : Sp} (c_bound_to : Cal P w K mg base k_bound_to "bound_to" sp_bound_to) (h_bound_to : k_bound_to ≤ k) (f : Addr) (cdv : Value) (A' : Around) (outer : List Env) (s : Shared) (H : Hp) (E : XK) (hr : Room k (Bx P w K mg base ["door", "word", "plan"] "wait_of" s_wait_of f cdv A' outer s H E).A) :
    PSs (Bx P w K mg base ["door", "word", "plan"] "wait_of" s_wait_of f cdv A' outer s H E) (defBody s_wait_of) (t_wait_of K sp_bound_to) := by
  have nd := sc_wait_of.nd
  have hu := Room.u200 hr
  exact (pss_one (ps_ret (pe_tup (pa_cons (pe_tup (pa_cons pe_int (pa_cons (pe_cal c_bound_to hr h_bound_to rfl (pa_cons (pv 0) (pa_cons (pe_tup (pa_cons pe_str (pa_cons (pv 1) pa_nil))) (pa_cons (pv 2) pa_nil)))) pa_nil))) pa_nil))))
theorem cl_wait_of {P : Program} {w : World} {K : PySem.W.Frag} {mg : Str → Option Value} {base : Heap} {k : Nat} {A : Amb} {t : TS} (M : Hd w K mg) (G : Gd) (hl : ∀ as P', G as P' → as.length = 3)
    (hp : ∀ (f : Addr) (cdv : Value) (A' : Around) (outer : List Env) (s : Shared) (H : Hp) (E : XK), Room k (Bx P w K mg base ["door", "word", "plan"] "wait_of" s_wait_of f cdv A' outer s H E).A → PSs (Bx P w K mg base ["door", "word", "plan"] "wait_of" s_wait_of f cdv A' outer s H E) (defBody s_wait_of) t)
    (hr : ∀ as P', G as P' → Rn K A t (as ++ List.replicate (3 - as.length) .emp) (retD P')) : Cal P w K mg base (k + 1) "wait_of" (spD K A G) :=
  cal_data M.d_wait_of sc_wait_of G hl (fun _ _ _ _ _ _ _ us _ hl => match us, hl with | [_, _, _], _ => rfl) hp hr
/-! going_of -/
theorem sc_going_of : FnScope ["at"] ["at"] (defScope s_going_of) := ⟨rfl, rfl, rfl, by decide +kernel, rfl, by decide +kernel, by decide +kernel⟩
def t_going_of (K : PySem.W.Frag) (sp_word_of : Sp) (sp_letter_of : Sp) (sp_wait_of : Sp) : TS :=
  (tRet (tCall sp_wait_of [] E0 (tCons (tOp rIxS (tC (.str c_SMALL)) (tVar 0)) (tCons (tC (.str "x")) (tCons (tOp (rCatA K) (tCall sp_word_of [] E0 (tCons (tC (.str "x")) tNil)) (tCall sp_letter_of [] E0 (tCons (tOp rIxS (tC (.str c_SMALL)) (tVar 0)) (tCons (tCall sp_word_of [] E0 (tCons (tC (.str "x")) tNil)) tNil)))) tNil)))))
theorem pr_going_of {P : Program} {w : World} {K : PySem.W.Frag} {mg : Str → Option Value} {base : Heap} {k : Nat} (M : Hd w K mg) {k_word_of : Nat} {sp_word_of : Sp} (c_word_of : Cal P w K mg base k_word_of "word_of" sp_word_of) (h_word_of : k_word_of ≤ k) {k_letter_of : Nat} {sp_letter_of : Sp} (c_letter_of : Cal P w K mg base k_letter_of "letter_of" sp_letter_of) (h_letter_of : k_letter_of ≤ k) {k_wait_of : Nat} {sp_wait_of : Sp} (c_wait_of : Cal P w K mg base k_wait_of "wait_of" sp_wait_of) (h_wait_of : k_wait_of ≤ k) (f : Addr) (cdv : Value) (A' : Around) (outer : List Env) (s : Shared) (H : Hp) (E : XK) (hr : Room k (Bx P w K mg base ["at"] "going_of" s_going_of f cdv A' outer s H E).A) :
    PSs (Bx P w K mg base ["at"] "going_of" s_going_of f cdv A' outer s H E) (defBody s_going_of) (t_going_of K sp_word_of sp_letter_of sp_wait_of) := by
  have nd := sc_going_of.nd
  have hu := Room.u200 hr
  exact (pss_one (ps_ret (pe_cal c_wait_of hr h_wait_of rfl (pa_cons (pe_ix ix_str (pe_gstr rfl M.g_SMALL) (pv 0) (fun _ _ => rfl)) (pa_cons pe_str (pa_cons (pe_op op_catA (pe_cal c_word_of hr h_word_of rfl (pa_cons pe_str pa_nil)) (pe_cal c_letter_of hr h_letter_of rfl (pa_cons (pe_ix ix_str (pe_gstr rfl M.g_SMALL) (pv 0) (fun _ _ => rfl)) (pa_cons (pe_cal c_word_of hr h_word_of rfl (pa_cons pe_str pa_nil)) pa_nil)))) pa_nil))))))
theorem cl_going_of {P : Program} {w : World} {K : PySem.W.Frag} {mg : Str → Option Value} {base : Heap} {k : Nat} {A : Amb} {t : TS} (M : Hd w K mg) (G : Gd) (hl : ∀ as P', G as P' → as.length = 1)
    (hp : ∀ (f : Addr) (cdv : Value) (A' : Around) (outer : List Env) (s : Shared) (H : Hp) (E : XK), Room k (Bx P w K mg base ["at"] "going_of" s_going_of f cdv A' outer s H E).A → PSs (Bx P w K mg base ["at"] "going_of" s_going_of f cdv A' outer s H E) (defBody s_going_of) t)
    (hr : ∀ as P', G as P' → Rn K A t (as ++ List.replicate (1 - as.length) .emp) (retD P')) : Cal P w K mg base (k + 1) "going_of" (spD K A G) :=
  cal_data M.d_going_of sc_going_of G hl (fun _ _ _ _ _ _ _ us _ hl => match us, hl with | [_], _ => rfl) hp hr
/-! number_plan -/
theorem sc_number_plan : FnScope ["cell", "number", "plan", "turn", "held"] ["cell", "number"] (defScope s_number_plan) := ⟨rfl, rfl, rfl, by decide +kernel, rfl, by decide +kernel, by decide +kernel⟩
def t_number_plan (K : PySem.W.Frag) (sp_word_of : Sp) (sp_wait_of : Sp) (sp_letter_of : Sp) : TS :=
  (tSeq (tAsg (tCall sp_wait_of [] E0 (tCons (tC (.str "z")) (tCons (tC (.str "x")) (tCons (tCall sp_wait_of [] E0 (tCons (tC (.str "s")) (tCons (tC (.str "y")) (tCons (tCall sp_word_of [] E0 (tCons (tC (.str "x")) tNil)) tNil)))) tNil)))) (gName 2))
    (tSeq (tFor (iRng1 (tCons (tVar 1) tNil)) (gName 3) (tSeq (tAsg (tCall sp_letter_of [] E0 (tCons (tOp rIxS (tC (.str c_REGISTERS)) (tVar 0)) (tCons (tVar 2) tNil))) (gName 4))
    (tAsg (tCall sp_wait_of [] E0 (tCons (tC (.str "s")) (tCons (tC (.str "x")) (tCons (tCall sp_wait_of [] E0 (tCons (tC (.str "z")) (tCons (tC (.str "y")) (tCons (tOp (rCatA K) (tCall sp_word_of [] E0 (tCons (tC (.str "x")) tNil)) (tVar 4)) tNil)))) tNil)))) (gName 2))))
    (tRet (tVar 2))))
theorem pr_number_plan {P : Program} {w : World} {K : PySem.W.Frag} {mg : Str → Option Value} {base : Heap} {k : Nat} (M : Hd w K mg) {k_word_of : Nat} {sp_word_of : Sp} (c_word_of : Cal P w K mg base k_word_of "word_of" sp_word_of) (h_word_of : k_word_of ≤ k) {k_wait_of : Nat} {sp_wait_of : Sp} (c_wait_of : Cal P w K mg base k_wait_of "wait_of" sp_wait_of) (h_wait_of : k_wait_of ≤ k) {k_letter_of : Nat} {sp_letter_of : Sp} (c_letter_of : Cal P w K mg base k_letter_of "letter_of" sp_letter_of) (h_letter_of : k_letter_of ≤ k) (f : Addr) (cdv : Value) (A' : Around) (outer : List Env) (s : Shared) (H : Hp) (E : XK) (hr : Room k (Bx P w K mg base ["cell", "number", "plan", "turn", "held"] "number_plan" s_number_plan f cdv A' outer s H E).A) :
    PSs (Bx P w K mg base ["cell", "number", "plan", "turn", "held"] "number_plan" s_number_plan f cdv A' outer s H E) (defBody s_number_plan) (t_number_plan K sp_word_of sp_wait_of sp_letter_of) := by
  have nd := sc_number_plan.nd
  have hu := Room.u200 hr
  exact (pss_cons (ps_set (i := 2) nd rfl (by first | exact Or.inl rfl | exact Or.inr rfl) (pe_cal c_wait_of hr h_wait_of rfl (pa_cons pe_str (pa_cons pe_str (pa_cons (pe_cal c_wait_of hr h_wait_of rfl (pa_cons pe_str (pa_cons pe_str (pa_cons (pe_cal c_word_of hr h_word_of rfl (pa_cons pe_str pa_nil)) pa_nil)))) pa_nil)))))
    (pss_cons (ps_for PassesOwn.never rfl (pi_range1 rfl M.range (pa_cons (pv 1) pa_nil)) (pg_name (i := 3) nd rfl (by first | exact Or.inl rfl | exact Or.inr rfl)) (pss_cons (ps_set (i := 4) nd rfl (by first | exact Or.inl rfl | exact Or.inr rfl) (pe_cal c_letter_of hr h_letter_of rfl (pa_cons (pe_ix ix_str (pe_gstr rfl M.g_REGISTERS) (pv 0) (fun _ _ => rfl)) (pa_cons (pv 2) pa_nil))))
    (pss_one (ps_set (i := 2) nd rfl (by first | exact Or.inl rfl | exact Or.inr rfl) (pe_cal c_wait_of hr h_wait_of rfl (pa_cons pe_str (pa_cons pe_str (pa_cons (pe_cal c_wait_of hr h_wait_of rfl (pa_cons pe_str (pa_cons pe_str (pa_cons (pe_op op_catA (pe_cal c_word_of hr h_word_of rfl (pa_cons pe_str pa_nil)) (pv 4)) pa_nil)))) pa_nil))))))))
    (pss_one (ps_ret (pv 2)))))
theorem cl_number_plan {P : Program} {w : World} {K : PySem.W.Frag} {mg : Str → Option Value} {base : Heap} {k : Nat} {A : Amb} {t : TS} (M : Hd w K mg) (G : Gd) (hl : ∀ as P', G as P' → as.length = 2)
    (hp : ∀ (f : Addr) (cdv : Value) (A' : Around) (outer : List Env) (s : Shared) (H : Hp) (E : XK), Room k (Bx P w K mg base ["cell", "number", "plan", "turn", "held"] "number_plan" s_number_plan f cdv A' outer s H E).A → PSs (Bx P w K mg base ["cell", "number", "plan", "turn", "held"] "number_plan" s_number_plan f cdv A' outer s H E) (defBody s_number_plan) t)
    (hr : ∀ as P', G as P' → Rn K A t (as ++ List.replicate (5 - as.length) .emp) (retD P')) : Cal P w K mg base (k + 1) "number_plan" (spD K A G) :=
  cal_data M.d_number_plan sc_number_plan G hl (fun _ _ _ _ _ _ _ us _ hl => match us, hl with | [_, _], _ => rfl) hp hr
/-! doing_of -/
theorem sc_doing_of : FnScope ["instruction", "door", "raised_by", "empty"] ["instruction"] (defScope s_doing_of) := ⟨rfl, rfl, rfl, by decide +kernel, rfl, by decide +kernel, by decide +kernel⟩
def t_doing_of (K : PySem.W.Frag) (sp_word_of : Sp) (sp_letter_of : Sp) (sp_wait_of : Sp) (sp_going_of : Sp) (sp_number_plan : Sp) : TS :=
  (tSeq (tIfS (tTest (tOp rEq (tOp (rIxT K) (tVar 0) (tC (.int 0))) (tC (.str "halt")))) (tRet (tTup tNil)) tNext)
    (tSeq (tAsg (tOp rIxS (tC (.str c_REGISTERS)) (tOp (rIxT K) (tVar 0) (tC (.int 1)))) (gName 1))
    (tSeq (tIfS (tTest (tOp rEq (tOp (rIxT K) (tVar 0) (tC (.int 0))) (tC (.str "up")))) (tSeq (tAsg (tCall sp_wait_of [] E0 (tCons (tC (.str "s")) (tCons (tC (.str "y")) (tCons (tCall sp_wait_of [] E0 (tCons (tC (.str "z")) (tCons (tC (.str "z")) (tCons (tOp (rCatA K) (tCall sp_word_of [] E0 (tCons (tC (.str "y")) tNil)) (tCall sp_letter_of [] E0 (tCons (tVar 1) (tCons (tCall sp_word_of [] E0 (tCons (tC (.str "x")) tNil)) tNil)))) tNil)))) tNil)))) (gName 2))
    (tRet (tCall sp_wait_of [] E0 (tCons (tVar 1) (tCons (tC (.str "x")) (tCons (tOp (rCatA K) (tCall sp_letter_of [] E0 (tCons (tVar 1) (tCons (tVar 2) tNil))) (tCall sp_going_of [] E0 (tCons (tOp (rIxT K) (tVar 0) (tC (.int 2))) tNil))) tNil)))))) tNext)
    (tSeq (tAsg (tOp (rCatA K) (tCall sp_letter_of [] E0 (tCons (tVar 1) (tCons (tCall sp_number_plan [] E0 (tCons (tOp (rIxT K) (tVar 0) (tC (.int 1))) (tCons (tC (.int 0)) tNil))) tNil))) (tCall sp_going_of [] E0 (tCons (tOp (rIxT K) (tVar 0) (tC (.int 3))) tNil))) (gName 3))
    (tRet (tCall sp_wait_of [] E0 (tCons (tVar 1) (tCons (tC (.str "x")) (tCons (tOp (rCatA K) (tOp (rCatA K) (tCall sp_word_of [] E0 (tCons (tC (.str "x")) tNil)) (tCall sp_letter_of [] E0 (tCons (tC (.str "s")) (tCons (tCall sp_going_of [] E0 (tCons (tOp (rIxT K) (tVar 0) (tC (.int 2))) tNil)) tNil)))) (tCall sp_letter_of [] E0 (tCons (tC (.str "z")) (tCons (tVar 3) tNil)))) tNil)))))))))
theorem pr_doing_of {P : Program} {w : World} {K : PySem.W.Frag} {mg : Str → Option Value} {base : Heap} {k : Nat} (M : Hd w K mg) {k_word_of : Nat} {sp_word_of : Sp} (c_word_of : Cal P w K mg base k_word_of "word_of" sp_word_of) (h_word_of : k_word_of ≤ k) {k_letter_of : Nat} {sp_letter_of : Sp} (c_letter_of : Cal P w K mg base k_letter_of "letter_of" sp_letter_of) (h_letter_of : k_letter_of ≤ k) {k_wait_of : Nat} {sp_wait_of : Sp} (c_wait_of : Cal P w K mg base k_wait_of "wait_of" sp_wait_of) (h_wait_of : k_wait_of ≤ k) {k_going_of : Nat} {sp_going_of : Sp} (c_going_of : Cal P w K mg base k_going_of "going_of" sp_going_of) (h_going_of : k_going_of ≤ k) {k_number_plan : Nat} {sp_number_plan : Sp} (c_number_plan : Cal P w K mg base k_number_plan "number_plan" sp_number_plan) (h_number_plan : k_number_plan ≤ k) (f : Addr) (cdv : Value) (A' : Around) (outer : List Env) (s : Shared) (H : Hp) (E : XK) (hr : Room k (Bx P w K mg base ["instruction", "door", "raised_by", "empty"] "doing_of" s_doing_of f cdv A' outer s H E).A) :
    PSs (Bx P w K mg base ["instruction", "door", "raised_by", "empty"] "doing_of" s_doing_of f cdv A' outer s H E) (defBody s_doing_of) (t_doing_of K sp_word_of sp_letter_of sp_wait_of sp_going_of sp_number_plan) := by
  have nd := sc_doing_of.nd
  have hu := Room.u200 hr
  exact (pss_cons (ps_if (pt_cmpR op_eq (pe_ix ix_tup (pv 0) pe_int (fun _ _ => rfl)) pe_str (by rfl)) (pss_one (ps_ret (pe_tup pa_nil))) pss_nil)
    (pss_cons (ps_set (i := 1) nd rfl (by first | exact Or.inl rfl | exact Or.inr rfl) (pe_ix ix_str (pe_gstr rfl M.g_REGISTERS) (pe_ix ix_tup (pv 0) pe_int (fun _ _ => rfl)) (fun _ _ => rfl)))
    (pss_cons (ps_if (pt_cmpR op_eq (pe_ix ix_tup (pv 0) pe_int (fun _ _ => rfl)) pe_str (by rfl)) (pss_cons (ps_set (i := 2) nd rfl (by first | exact Or.inl rfl | exact Or.inr rfl) (pe_cal c_wait_of hr h_wait_of rfl (pa_cons pe_str (pa_cons pe_str (pa_cons (pe_cal c_wait_of hr h_wait_of rfl (pa_cons pe_str (pa_cons pe_str (pa_cons (pe_op op_catA (pe_cal c_word_of hr h_word_of rfl (pa_cons pe_str pa_nil)) (pe_cal c_letter_of hr h_letter_of rfl (pa_cons (pv 1) (pa_cons (pe_cal c_word_of hr h_word_of rfl (pa_cons pe_str pa_nil)) pa_nil)))) pa_nil)))) pa_nil)))))
    (pss_one (ps_ret (pe_cal c_wait_of hr h_wait_of rfl (pa_cons (pv 1) (pa_cons pe_str (pa_cons (pe_op op_catA (pe_cal c_letter_of hr h_letter_of rfl (pa_cons (pv 1) (pa_cons (pv 2) pa_nil))) (pe_cal c_going_of hr h_going_of rfl (pa_cons (pe_ix ix_tup (pv 0) pe_int (fun _ _ => rfl)) pa_nil))) pa_nil))))))) pss_nil)
    (pss_cons (ps_set (i := 3) nd rfl (by first | exact Or.inl rfl | exact Or.inr rfl) (pe_op op_catA (pe_cal c_letter_of hr h_letter_of rfl (pa_cons (pv 1) (pa_cons (pe_cal c_number_plan hr h_number_plan rfl (pa_cons (pe_ix ix_tup (pv 0) pe_int (fun _ _ => rfl)) (pa_cons pe_int pa_nil))) pa_nil))) (pe_cal c_going_of hr h_going_of rfl (pa_cons (pe_ix ix_tup (pv 0) pe_int (fun _ _ => rfl)) pa_nil))))
    (pss_one (ps_ret (pe_cal c_wait_of hr h_wait_of rfl (pa_cons (pv 1) (pa_cons pe_str (pa_cons (pe_op op_catA (pe_op op_catA (pe_cal c_word_of hr h_word_of rfl (pa_cons pe_str pa_nil)) (pe_cal c_letter_of hr h_letter_of rfl (pa_cons pe_str (pa_cons (pe_cal c_going_of hr h_going_of rfl (pa_cons (pe_ix ix_tup (pv 0) pe_int (fun _ _ => rfl)) pa_nil)) pa_nil)))) (pe_cal c_letter_of hr h_letter_of rfl (pa_cons pe_str (pa_cons (pv 3) pa_nil)))) pa_nil))))))))))
theorem cl_doing_of {P : Program} {w : World} {K : PySem.W.Frag} {mg : Str → Option Value} {base : Heap} {k : Nat} {A : Amb} {t : TS} (M : Hd w K mg) (G : Gd) (hl : ∀ as P', G as P' → as.length = 1)
    (hp : ∀ (f : Addr) (cdv : Value) (A' : Around) (outer : List Env) (s : Shared) (H : Hp) (E : XK), Room k (Bx P w K mg base ["instruction", "door", "raised_by", "empty"] "doing_of" s_doing_of f cdv A' outer s H E).A → PSs (Bx P w K mg base ["instruction", "door", "raised_by", "empty"] "doing_of" s_doing_of f cdv A' outer s H E) (defBody s_doing_of) t)
    (hr : ∀ as P', G as P' → Rn K A t (as ++ List.replicate (4 - as.length) .emp) (retD P')) : Cal P w K mg base (k + 1) "doing_of" (spD K A G) :=
  cal_data M.d_doing_of sc_doing_of G hl (fun _ _ _ _ _ _ _ us _ hl => match us, hl with | [_], _ => rfl) hp hr
/-! raw_plan -/
theorem sc_raw_plan : FnScope ["machine", "standing", "at", "numbers", "plan", "number", "instruction", "cell"] ["machine", "standing"] (defScope s_raw_plan) := ⟨rfl, rfl, rfl, by decide +kernel, rfl, by decide +kernel, by decide +kernel⟩
def t_raw_plan (K : PySem.W.Frag) (sp_doing_of : Sp) (sp_letter_of : Sp) (sp_number_plan : Sp) (sp_going_of : Sp) : TS :=
  (tSeq (tAsg (tVar 1) (gTup K 2 (gCons (gName 2) (gCons (gName 3) gNil))))
    (tSeq (tAsg (tTup tNil) (gName 4))
    (tSeq (tFor (iEnumT K (tCons (tVar 0) tNil)) (gTup K 2 (gCons (gName 5) (gCons (gName 6) gNil))) (tAsg (tOp (rCatA K) (tVar 4) (tCall sp_letter_of [] E0 (tCons (tOp rIxS (tC (.str c_SMALL)) (tVar 5)) (tCons (tCall sp_doing_of [] E0 (tCons (tVar 6) tNil)) tNil)))) (gName 4)))
    (tSeq (tFor (iEnumT K (tCons (tVar 3) tNil)) (gTup K 2 (gCons (gName 7) (gCons (gName 5) gNil))) (tAsg (tOp (rCatA K) (tVar 4) (tCall sp_letter_of [] E0 (tCons (tOp rIxS (tC (.str c_REGISTERS)) (tVar 7)) (tCons (tCall sp_number_plan [] E0 (tCons (tVar 7) (tCons (tVar 5) tNil))) tNil)))) (gName 4)))
    (tRet (tOp (rCatA K) (tVar 4) (tCall sp_going_of [] E0 (tCons (tVar 2) tNil))))))))
theorem pr_raw_plan {P : Program} {w : World} {K : PySem.W.Frag} {mg : Str → Option Value} {base : Heap} {k : Nat} (M : Hd w K mg) {k_doing_of : Nat} {sp_doing_of : Sp} (c_doing_of : Cal P w K mg base k_doing_of "doing_of" sp_doing_of) (h_doing_of : k_doing_of ≤ k) {k_letter_of : Nat} {sp_letter_of : Sp} (c_letter_of : Cal P w K mg base k_letter_of "letter_of" sp_letter_of) (h_letter_of : k_letter_of ≤ k) {k_number_plan : Nat} {sp_number_plan : Sp} (c_number_plan : Cal P w K mg base k_number_plan "number_plan" sp_number_plan) (h_number_plan : k_number_plan ≤ k) {k_going_of : Nat} {sp_going_of : Sp} (c_going_of : Cal P w K mg base k_going_of "going_of" sp_going_of) (h_going_of : k_going_of ≤ k) (f : Addr) (cdv : Value) (A' : Around) (outer : List Env) (s : Shared) (H : Hp) (E : XK) (hr : Room k (Bx P w K mg base ["machine", "standing", "at", "numbers", "plan", "number", "instruction", "cell"] "raw_plan" s_raw_plan f cdv A' outer s H E).A) :
    PSs (Bx P w K mg base ["machine", "standing", "at", "numbers", "plan", "number", "instruction", "cell"] "raw_plan" s_raw_plan f cdv A' outer s H E) (defBody s_raw_plan) (t_raw_plan K sp_doing_of sp_letter_of sp_number_plan sp_going_of) := by
  have nd := sc_raw_plan.nd
  have hu := Room.u200 hr
  exact (pss_cons (ps_asg (pv 1) (pg_tup rfl (pgs_cons (pg_name (i := 2) nd rfl (by first | exact Or.inl rfl | exact Or.inr rfl)) (pgs_cons (pg_name (i := 3) nd rfl (by first | exact Or.inl rfl | exact Or.inr rfl)) pgs_nil))))
    (pss_cons (ps_set (i := 4) nd rfl (by first | exact Or.inl rfl | exact Or.inr rfl) (pe_tup pa_nil))
    (pss_cons (ps_for PassesOwn.never rfl (pi_enumT rfl M.enumerate (pa_cons (pv 0) pa_nil)) (pg_tup rfl (pgs_cons (pg_name (i := 5) nd rfl (by first | exact Or.inl rfl | exact Or.inr rfl)) (pgs_cons (pg_name (i := 6) nd rfl (by first | exact Or.inl rfl | exact Or.inr rfl)) pgs_nil))) (pss_one (ps_set (i := 4) nd rfl (by first | exact Or.inl rfl | exact Or.inr rfl) (pe_op op_catA (pv 4) (pe_cal c_letter_of hr h_letter_of rfl (pa_cons (pe_ix ix_str (pe_gstr rfl M.g_SMALL) (pv 5) (fun _ _ => rfl)) (pa_cons (pe_cal c_doing_of hr h_doing_of rfl (pa_cons (pv 6) pa_nil)) pa_nil)))))))
    (pss_cons (ps_for PassesOwn.never rfl (pi_enumT rfl M.enumerate (pa_cons (pv 3) pa_nil)) (pg_tup rfl (pgs_cons (pg_name (i := 7) nd rfl (by first | exact Or.inl rfl | exact Or.inr rfl)) (pgs_cons (pg_name (i := 5) nd rfl (by first | exact Or.inl rfl | exact Or.inr rfl)) pgs_nil))) (pss_one (ps_set (i := 4) nd rfl (by first | exact Or.inl rfl | exact Or.inr rfl) (pe_op op_catA (pv 4) (pe_cal c_letter_of hr h_letter_of rfl (pa_cons (pe_ix ix_str (pe_gstr rfl M.g_REGISTERS) (pv 7) (fun _ _ => rfl)) (pa_cons (pe_cal c_number_plan hr h_number_plan rfl (pa_cons (pv 7) (pa_cons (pv 5) pa_nil))) pa_nil)))))))
    (pss_one (ps_ret (pe_op op_catA (pv 4) (pe_cal c_going_of hr h_going_of rfl (pa_cons (pv 2) pa_nil)))))))))
theorem cl_raw_plan {P : Program} {w : World} {K : PySem.W.Frag} {mg : Str → Option Value} {base : Heap} {k : Nat} {A : Amb} {t : TS} (M : Hd w K mg) (G : Gd) (hl : ∀ as P', G as P' → as.length = 2)
    (hp : ∀ (f : Addr) (cdv : Value) (A' : Around) (outer : List Env) (s : Shared) (H : Hp) (E : XK), Room k (Bx P w K mg base ["machine", "standing", "at", "numbers", "plan", "number", "instruction", "cell"] "raw_plan" s_raw_plan f cdv A' outer s H E).A → PSs (Bx P w K mg base ["machine", "standing", "at", "numbers", "plan", "number", "instruction", "cell"] "raw_plan" s_raw_plan f cdv A' outer s H E) (defBody s_raw_plan) t)
    (hr : ∀ as P', G as P' → Rn K A t (as ++ List.replicate (8 - as.length) .emp) (retD P')) : Cal P w K mg base (k + 1) "raw_plan" (spD K A G) :=
  cal_data M.d_raw_plan sc_raw_plan G hl (fun _ _ _ _ _ _ _ us _ hl => match us, hl with | [_, _], _ => rfl) hp hr
/-! plan_of -/
theorem sc_plan_of : FnScope ["machine", "standing"] ["machine", "standing"] (defScope s_plan_of) := ⟨rfl, rfl, rfl, by decide +kernel, rfl, by decide +kernel, by decide +kernel⟩
def t_plan_of (K : PySem.W.Frag) (sp_check_both : Sp) (sp_raw_plan : Sp) (sp_plain_of : Sp) : TS :=
  (tSeq (tDrop (tCall sp_check_both [] E0 (tCons (tVar 0) (tCons (tVar 1) tNil))))
    (tSeq (tIfS (tTest (tOp (rI0 fun i j => .bl (decide (j < i))) (tCB (rMaxT K) (tCons (tOp (rIxT K) (tVar 1) (tC (.int 1))) tNil)) (tC (.int c_MOST_NUMBER)))) tNever tNext)
    (tRet (tCall sp_plain_of [] E0 (tCons (tCall sp_raw_plan [] E0 (tCons (tVar 0) (tCons (tVar 1) tNil))) tNil)))))
theorem pr_plan_of {P : Program} {w : World} {K : PySem.W.Frag} {mg : Str → Option Value} {base : Heap} {k : Nat} (M : Hd w K mg) {k_check_both : Nat} {sp_check_both : Sp} (c_check_both : Cal P w K mg base k_check_both "check_both" sp_check_both) (h_check_both : k_check_both ≤ k) {k_raw_plan : Nat} {sp_raw_plan : Sp} (c_raw_plan : Cal P w K mg base k_raw_plan "raw_plan" sp_raw_plan) (h_raw_plan : k_raw_plan ≤ k) {k_plain_of : Nat} {sp_plain_of : Sp} (c_plain_of : Cal P w K mg base k_plain_of "plain_of" sp_plain_of) (h_plain_of : k_plain_of ≤ k) (f : Addr) (cdv : Value) (A' : Around) (outer : List Env) (s : Shared) (H : Hp) (E : XK) (hr : Room k (Bx P w K mg base ["machine", "standing"] "plan_of" s_plan_of f cdv A' outer s H E).A) :
    PSs (Bx P w K mg base ["machine", "standing"] "plan_of" s_plan_of f cdv A' outer s H E) (defBody s_plan_of) (t_plan_of K sp_check_both sp_raw_plan sp_plain_of) := by
  have nd := sc_plan_of.nd
  have hu := Room.u200 hr
  exact (pss_cons (ps_expr (pe_cal c_check_both hr h_check_both rfl (pa_cons (pv 0) (pa_cons (pv 1) pa_nil))))
    (pss_cons (ps_if (pt_cmpR op_gt (pe_callB (cr_maxT rfl hu) rfl M.max boot_max (pa_cons (pe_ix ix_tup (pv 1) pe_int (fun _ _ => rfl)) pa_nil)) (pe_gint rfl M.g_MOST_NUMBER) (by rfl)) (pss_one ps_never) pss_nil)
    (pss_one (ps_ret (pe_cal c_plain_of hr h_plain_of rfl (pa_cons (pe_cal c_raw_plan hr h_raw_plan rfl (pa_cons (pv 0) (pa_cons (pv 1) pa_nil))) pa_nil))))))
theorem cl_plan_of {P : Program} {w : World} {K : PySem.W.Frag} {mg : Str → Option Value} {base : Heap} {k : Nat} {A : Amb} {t : TS} (M : Hd w K mg) (G : Gd) (hl : ∀ as P', G as P' → as.length = 2)
    (hp : ∀ (f : Addr) (cdv : Value) (A' : Around) (outer : List Env) (s : Shared) (H : Hp) (E : XK), Room k (Bx P w K mg base ["machine", "standing"] "plan_of" s_plan_of f cdv A' outer s H E).A → PSs (Bx P w K mg base ["machine", "standing"] "plan_of" s_plan_of f cdv A' outer s H E) (defBody s_plan_of) t)
    (hr : ∀ as P', G as P' → Rn K A t (as ++ List.replicate (2 - as.length) .emp) (retD P')) : Cal P w K mg base (k + 1) "plan_of" (spD K A G) :=
  cal_data M.d_plan_of sc_plan_of G hl (fun _ _ _ _ _ _ _ us _ hl => match us, hl with | [_, _], _ => rfl) hp hr
/-! number_in -/
theorem sc_number_in : FnScope ["form", "cell", "held", "count", "part", "number"] ["form", "cell"] (defScope s_number_in) := ⟨rfl, rfl, rfl, by decide +kernel, rfl, by decide +kernel, by decide +kernel⟩
def t_number_in (K : PySem.W.Frag) (sp_number_plan : Sp) (sp_plain_of : Sp) : TS :=
  (tSeq (tAsg (tLc (iTup K (tVar 0)) (gTup K 2 (gCons (gName 3) (gCons (gName 4) gNil))) (tTest (tOp (rEqP K) (tSl (rSlA K) (tVar 4) tNoPart (tPart (tC (.int 2)))) (tTup (tCons (tC (.str "letter")) (tCons (tOp rIxS (tC (.str c_REGISTERS)) (tVar 1)) tNil))))) (tOp (rIxT K) (tVar 4) (tC (.int 2))) [3, 4]) (gName 2))
    (tSeq (tFor (iRng1 (tCons (tOp (rI0 fun i j => .int (i + j)) (tC (.int c_MOST_NUMBER)) (tC (.int 1))) tNil)) (gName 5) (tIfS (tTest (tOp (rEqLL K) (tVar 2) (tLst (tCons (tCall sp_plain_of [] E0 (tCons (tCall sp_number_plan [] E0 (tCons (tVar 1) (tCons (tVar 5) tNil))) tNil)) tNil)))) (tRet (tVar 5)) tNext))
    (tRet (tC .non))))
theorem pr_number_in {P : Program} {w : World} {K : PySem.W.Frag} {mg : Str → Option Value} {base : Heap} {k : Nat} (M : Hd w K mg) {k_number_plan : Nat} {sp_number_plan : Sp} (c_number_plan : Cal P w K mg base k_number_plan "number_plan" sp_number_plan) (h_number_plan : k_number_plan ≤ k) {k_plain_of : Nat} {sp_plain_of : Sp} (c_plain_of : Cal P w K mg base k_plain_of "plain_of" sp_plain_of) (h_plain_of : k_plain_of ≤ k) (f : Addr) (cdv : Value) (A' : Around) (outer : List Env) (s : Shared) (H : Hp) (E : XK) (hr : Room k (Bx P w K mg base ["form", "cell", "held", "count", "part", "number"] "number_in" s_number_in f cdv A' outer s H E).A) :
    PSs (Bx P w K mg base ["form", "cell", "held", "count", "part", "number"] "number_in" s_number_in f cdv A' outer s H E) (defBody s_number_in) (t_number_in K sp_number_plan sp_plain_of) := by
  have nd := sc_number_in.nd
  have hu := Room.u200 hr
  exact (pss_cons (ps_setLc (i := 2) (own := [("count", 3), ("part", 4)]) rfl nd rfl rfl (sw_true rfl rfl rfl (by decide +kernel)) (pi_tup (pv 0)) (blkOk_by (N := ["form", "cell", "held", "count", "part", "number"]) (sc := defScope s_number_in) (by decide +kernel)) (fun _ _ _ _ _ => (pg_tup rfl (pgs_cons (pg_name (i := 3) nd rfl (by first | exact Or.inl rfl | exact Or.inr rfl)) (pgs_cons (pg_name (i := 4) nd rfl (by first | exact Or.inl rfl | exact Or.inr rfl)) pgs_nil)))) (fun _ _ _ _ _ => (pts_one (pt_cmpR (op_eqP hu) (pe_slice sl_tupA (pv 4) po_none (po_some pe_int)) (pe_tup (pa_cons pe_str (pa_cons (pe_ix ix_str (pe_gstr rfl M.g_REGISTERS) (pv 1) (fun _ _ => rfl)) pa_nil))) (by rfl)))) (fun _ _ _ _ _ => (pe_ix ix_tup (pv 4) pe_int (fun _ _ => rfl))))
    (pss_cons (ps_for PassesOwn.never rfl (pi_range1 rfl M.range (pa_cons (pe_op op_add (pe_gint rfl M.g_MOST_NUMBER) pe_int) pa_nil)) (pg_name (i := 5) nd rfl (by first | exact Or.inl rfl | exact Or.inr rfl)) (pss_one (ps_if (pt_cmpR (op_eqLL hu) (pv 2) (pe_lst (pa_cons (pe_cal c_plain_of hr h_plain_of rfl (pa_cons (pe_cal c_number_plan hr h_number_plan rfl (pa_cons (pv 1) (pa_cons (pv 5) pa_nil))) pa_nil)) pa_nil)) (by rfl)) (pss_one (ps_ret (pv 5))) pss_nil)))
    (pss_one (ps_ret pe_non))))
theorem cl_number_in {P : Program} {w : World} {K : PySem.W.Frag} {mg : Str → Option Value} {base : Heap} {k : Nat} {A : Amb} {t : TS} (M : Hd w K mg) (G : Gd) (hl : ∀ as P', G as P' → as.length = 2)
    (hp : ∀ (f : Addr) (cdv : Value) (A' : Around) (outer : List Env) (s : Shared) (H : Hp) (E : XK), Room k (Bx P w K mg base ["form", "cell", "held", "count", "part", "number"] "number_in" s_number_in f cdv A' outer s H E).A → PSs (Bx P w K mg base ["form", "cell", "held", "count", "part", "number"] "number_in" s_number_in f cdv A' outer s H E) (defBody s_number_in) t)
    (hr : ∀ as P', G as P' → Rn K A t (as ++ List.replicate (6 - as.length) .emp) (retD P')) : Cal P w K mg base (k + 1) "number_in" (spD K A G) :=
  cal_data M.d_number_in sc_number_in G hl (fun _ _ _ _ _ _ _ us _ hl => match us, hl with | [_, _], _ => rfl) hp hr
/-! standing_of -/
theorem sc_standing_of : FnScope ["machine", "plan", "form", "numbers", "cell", "at"] ["machine", "plan"] (defScope s_standing_of) := ⟨rfl, rfl, rfl, by decide +kernel, rfl, by decide +kernel, by decide +kernel⟩
def t_standing_of (K : PySem.W.Frag) (sp_check_machine : Sp) (sp_check_plan : Sp) (sp_plain_of : Sp) (sp_number_in : Sp) (sp_raw_plan : Sp) : TS :=
  (tSeq (tDrop (tCall sp_check_machine [] E0 (tCons (tVar 0) tNil)))
    (tSeq (tDrop (tCall sp_check_plan [] E0 (tCons (tVar 1) tNil)))
    (tSeq (tAsg (tCall sp_plain_of [] E0 (tCons (tVar 1) tNil)) (gName 2))
    (tSeq (tAsg (tCB (rTupOf K) (tCons (tLc (iRng1 (tCons (tCB rLenStr (tCons (tC (.str c_REGISTERS)) tNil)) tNil)) (gName 4) tYes (tCall sp_number_in [] E0 (tCons (tVar 2) (tCons (tVar 4) tNil))) [4]) tNil)) (gName 3))
    (tSeq (tIfS (tTest (tOp (rIn K false) (tC .non) (tVar 3))) (tRet (tC .non)) tNext)
    (tSeq (tFor (iRng1 (tCons (tCB (rLenSeq K) (tCons (tVar 0) tNil)) tNil)) (gName 5) (tIfS (tTest (tOp (rEqP K) (tCall sp_plain_of [] E0 (tCons (tCall sp_raw_plan [] E0 (tCons (tVar 0) (tCons (tTup (tCons (tVar 5) (tCons (tVar 3) tNil))) tNil))) tNil)) (tVar 2))) (tRet (tTup (tCons (tVar 5) (tCons (tVar 3) tNil)))) tNext))
    (tRet (tC .non))))))))
theorem pr_standing_of {P : Program} {w : World} {K : PySem.W.Frag} {mg : Str → Option Value} {base : Heap} {k : Nat} (M : Hd w K mg) {k_check_machine : Nat} {sp_check_machine : Sp} (c_check_machine : Cal P w K mg base k_check_machine "check_machine" sp_check_machine) (h_check_machine : k_check_machine ≤ k) {k_check_plan : Nat} {sp_check_plan : Sp} (c_check_plan : Cal P w K mg base k_check_plan "check_plan" sp_check_plan) (h_check_plan : k_check_plan ≤ k) {k_plain_of : Nat} {sp_plain_of : Sp} (c_plain_of : Cal P w K mg base k_plain_of "plain_of" sp_plain_of) (h_plain_of : k_plain_of ≤ k) {k_number_in : Nat} {sp_number_in : Sp} (c_number_in : Cal P w K mg base k_number_in "number_in" sp_number_in) (h_number_in : k_number_in ≤ k) {k_raw_plan : Nat} {sp_raw_plan : Sp} (c_raw_plan : Cal P w K mg base k_raw_plan "raw_plan" sp_raw_plan) (h_raw_plan : k_raw_plan ≤ k) (f : Addr) (cdv : Value) (A' : Around) (outer : List Env) (s : Shared) (H : Hp) (E : XK) (hr : Room k (Bx P w K mg base ["machine", "plan", "form", "numbers", "cell", "at"] "standing_of" s_standing_of f cdv A' outer s H E).A) :
    PSs (Bx P w K mg base ["machine", "plan", "form", "numbers", "cell", "at"] "standing_of" s_standing_of f cdv A' outer s H E) (defBody s_standing_of) (t_standing_of K sp_check_machine sp_check_plan sp_plain_of sp_number_in sp_raw_plan) := by
  have nd := sc_standing_of.nd
  have hu := Room.u200 hr
  exact (pss_cons (ps_expr (pe_cal c_check_machine hr h_check_machine rfl (pa_cons (pv 0) pa_nil)))
    (pss_cons (ps_expr (pe_cal c_check_plan hr h_check_plan rfl (pa_cons (pv 1) pa_nil)))
    (pss_cons (ps_set (i := 2) nd rfl (by first | exact Or.inl rfl | exact Or.inr rfl) (pe_cal c_plain_of hr h_plain_of rfl (pa_cons (pv 1) pa_nil)))
    (pss_cons (ps_set (i := 3) nd rfl (by first | exact Or.inl rfl | exact Or.inr rfl) (pe_callTy call_tuple_of rfl M.tuple b_tuple (pa_cons (pe_lc (own := [("cell", 4)]) rfl nd (pi_range1 rfl M.range (pa_cons (pe_callB call_len_str rfl M.len boot_len (pa_cons (pe_gstr rfl M.g_REGISTERS) pa_nil)) pa_nil)) (blkOk_by (N := ["machine", "plan", "form", "numbers", "cell", "at"]) (sc := defScope s_standing_of) (by decide +kernel)) (fun _ _ _ _ _ => (pg_name (i := 4) nd rfl (by first | exact Or.inl rfl | exact Or.inr rfl))) (fun _ _ _ _ _ => pts_nil) (fun _ _ _ _ _ => (pe_cal c_number_in hr h_number_in rfl (pa_cons (pv 2) (pa_cons (pv 4) pa_nil))))) pa_nil)))
    (pss_cons (ps_if (pt_cmpR op_in_seq pe_non (pv 3) (by rfl)) (pss_one (ps_ret pe_non)) pss_nil)
    (pss_cons (ps_for PassesOwn.never rfl (pi_range1 rfl M.range (pa_cons (pe_callB call_len_seq rfl M.len boot_len (pa_cons (pv 0) pa_nil)) pa_nil)) (pg_name (i := 5) nd rfl (by first | exact Or.inl rfl | exact Or.inr rfl)) (pss_one (ps_if (pt_cmpR (op_eqP hu) (pe_cal c_plain_of hr h_plain_of rfl (pa_cons (pe_cal c_raw_plan hr h_raw_plan rfl (pa_cons (pv 0) (pa_cons (pe_tup (pa_cons (pv 5) (pa_cons (pv 3) pa_nil))) pa_nil))) pa_nil)) (pv 2) (by rfl)) (pss_one (ps_ret (pe_tup (pa_cons (pv 5) (pa_cons (pv 3) pa_nil))))) pss_nil)))
    (pss_one (ps_ret pe_non))))))))
theorem cl_standing_of {P : Program} {w : World} {K : PySem.W.Frag} {mg : Str → Option Value} {base : Heap} {k : Nat} {A : Amb} {t : TS} (M : Hd w K mg) (G : Gd) (hl : ∀ as P', G as P' → as.length = 2)
    (hp : ∀ (f : Addr) (cdv : Value) (A' : Around) (outer : List Env) (s : Shared) (H : Hp) (E : XK), Room k (Bx P w K mg base ["machine", "plan", "form", "numbers", "cell", "at"] "standing_of" s_standing_of f cdv A' outer s H E).A → PSs (Bx P w K mg base ["machine", "plan", "form", "numbers", "cell", "at"] "standing_of" s_standing_of f cdv A' outer s H E) (defBody s_standing_of) t)
    (hr : ∀ as P', G as P' → Rn K A t (as ++ List.replicate (6 - as.length) .emp) (retD P')) : Cal P w K mg base (k + 1) "standing_of" (spD K A G) :=
  cal_data M.d_standing_of sc_standing_of G hl (fun _ _ _ _ _ _ _ us _ hl => match us, hl with | [_, _], _ => rfl) hp hr
end K87
namespace K87
open PySem PySem.Spec PyProof.Rows L2
/-! meetings_of -/
theorem sc_meetings_of : FnScope ["plan", "found", "count", "one", "many", "other"] ["plan"] (defScope s_meetings_of) := ⟨rfl, rfl, rfl, by decide +kernel, rfl, by decide +kernel, by decide +kernel⟩
def t_meetings_of (K : PySem.W.Frag) : TS :=
  (tSeq (tAsg (tLst tNil) (gName 1))
    (tSeq (tFor (iTup K (tVar 0)) (gTup K 2 (gCons (gName 2) (gCons (gName 3) gNil))) (tIfS (tTest (tOp rEq (tOp (rIxT K) (tVar 3) (tC (.int 0))) (tC (.str "letter")))) (tDrop (tBM K "list" rExtend (tVar 1) (tCons (tLc (iTup K (tVar 0)) (gTup K 2 (gCons (gName 4) (gCons (gName 5) gNil))) (tAnd (tTest (tOp rEq (tOp (rIxT K) (tVar 5) (tC (.int 0))) (tC (.str "wait")))) (tTest (tOp rEq (tOp (rIxT K) (tVar 5) (tC (.int 1))) (tOp (rIxT K) (tVar 3) (tC (.int 1)))))) (tTup (tCons (tVar 3) (tCons (tVar 5) tNil))) [4, 5]) tNil))) tNext))
    (tRet (tVar 1))))
theorem pr_meetings_of {P : Program} {w : World} {K : PySem.W.Frag} {mg : Str → Option Value} {base : Heap} {k : Nat} (M : Hd w K mg) (f : Addr) (cdv : Value) (A' : Around) (outer : List Env) (s : Shared) (H : Hp) (E : XK) (hr : Room k (Bx P w K mg base ["plan", "found", "count", "one", "many", "other"] "meetings_of" s_meetings_of f cdv A' outer s H E).A) :
    PSs (Bx P w K mg base ["plan", "found", "count", "one", "many", "other"] "meetings_of" s_meetings_of f cdv A' outer s H E) (defBody s_meetings_of) (t_meetings_of K) := by
  have nd := sc_meetings_of.nd
  have hu := Room.u200 hr
  exact (pss_cons (ps_set (i := 1) nd rfl (by first | exact Or.inl rfl | exact Or.inr rfl) (pe_lst pa_nil))
    (pss_cons (ps_for PassesOwn.never rfl (pi_tup (pv 0)) (pg_tup rfl (pgs_cons (pg_name (i := 2) nd rfl (by first | exact Or.inl rfl | exact Or.inr rfl)) (pgs_cons (pg_name (i := 3) nd rfl (by first | exact Or.inl rfl | exact Or.inr rfl)) pgs_nil))) (pss_one (ps_if (pt_cmpR op_eq (pe_ix ix_tup (pv 3) pe_int (fun _ _ => rfl)) pe_str (by rfl)) (pss_one (ps_expr (pe_bm PySem.F.plainAttrs_list PySem.F.slot_list_extend PySem.F.type_list_extend mt_extend (pv 1) (pa_cons (pe_lc (own := [("many", 4), ("other", 5)]) rfl nd (pi_tup (pv 0)) (blkOk_by (N := ["plan", "found", "count", "one", "many", "other"]) (sc := defScope s_meetings_of) (by decide +kernel)) (fun _ _ _ _ _ => (pg_tup rfl (pgs_cons (pg_name (i := 4) nd rfl (by first | exact Or.inl rfl | exact Or.inr rfl)) (pgs_cons (pg_name (i := 5) nd rfl (by first | exact Or.inl rfl | exact Or.inr rfl)) pgs_nil)))) (fun _ _ _ _ _ => (pts_one (PW.pt (pw_and (pt_cmpR op_eq (pe_ix ix_tup (pv 5) pe_int (fun _ _ => rfl)) pe_str (by rfl)) (pw_and1 (pt_cmpR op_eq (pe_ix ix_tup (pv 5) pe_int (fun _ _ => rfl)) (pe_ix ix_tup (pv 3) pe_int (fun _ _ => rfl)) (by rfl))))))) (fun _ _ _ _ _ => (pe_tup (pa_cons (pv 3) (pa_cons (pv 5) pa_nil))))) pa_nil)))) pss_nil)))
    (pss_one (ps_ret (pv 1)))))
theorem cll_meetings_of {P : Program} {w : World} {K : PySem.W.Frag} {mg : Str → Option Value} {base : Heap} {k : Nat} {A : Amb} {t : TS} (M : Hd w K mg) (G : Gl') (hl : ∀ as P', G as P' → as.length = 1)
    (hp : ∀ (f : Addr) (cdv : Value) (A' : Around) (outer : List Env) (s : Shared) (H : Hp) (E : XK), Room k (Bx P w K mg base ["plan", "found", "count", "one", "many", "other"] "meetings_of" s_meetings_of f cdv A' outer s H E).A → PSs (Bx P w K mg base ["plan", "found", "count", "one", "many", "other"] "meetings_of" s_meetings_of f cdv A' outer s H E) (defBody s_meetings_of) t)
    (hr : ∀ as P', G as P' → Rn K A t (as ++ List.replicate (6 - as.length) .emp) (retL P')) : Cal P w K mg base (k + 1) "meetings_of" (spL K A G) :=
  cal_list M.d_meetings_of sc_meetings_of G hl (fun _ _ _ _ _ _ _ us _ hl => match us, hl with | [_], _ => rfl) hp hr
/-! without -/
theorem sc_without : FnScope ["plan", "part", "found", "count", "other"] ["plan", "part"] (defScope s_without) := ⟨rfl, rfl, rfl, by decide +kernel, rfl, by decide +kernel, by decide +kernel⟩
def t_without (K : PySem.W.Frag) : TS :=
  (tSeq (tAsg (tLst tNil) (gName 2))
    (tSeq (tFor (iTup K (tVar 0)) (gTup K 2 (gCons (gName 3) (gCons (gName 4) gNil))) (tIfS (tTest (tOp (rNeP K) (tVar 4) (tVar 1))) (tDrop (tBM K "list" rAppend (tVar 2) (tCons (tTup (tCons (tVar 3) (tCons (tVar 4) tNil))) tNil))) (tIfS (tTest (tOp (rI0 fun i j => .bl (decide (j < i))) (tVar 3) (tC (.int 1)))) (tDrop (tBM K "list" rAppend (tVar 2) (tCons (tTup (tCons (tOp (rI0 fun i j => .int (i - j)) (tVar 3) (tC (.int 1))) (tCons (tVar 4) tNil))) tNil))) tNext)))
    (tRet (tCB (rTupOf K) (tCons (tVar 2) tNil)))))
theorem pr_without {P : Program} {w : World} {K : PySem.W.Frag} {mg : Str → Option Value} {base : Heap} {k : Nat} (M : Hd w K mg) (f : Addr) (cdv : Value) (A' : Around) (outer : List Env) (s : Shared) (H : Hp) (E : XK) (hr : Room k (Bx P w K mg base ["plan", "part", "found", "count", "other"] "without" s_without f cdv A' outer s H E).A) :
    PSs (Bx P w K mg base ["plan", "part", "found", "count", "other"] "without" s_without f cdv A' outer s H E) (defBody s_without) (t_without K) := by
  have nd := sc_without.nd
  have hu := Room.u200 hr
  exact (pss_cons (ps_set (i := 2) nd rfl (by first | exact Or.inl rfl | exact Or.inr rfl) (pe_lst pa_nil))
    (pss_cons (ps_for PassesOwn.never rfl (pi_tup (pv 0)) (pg_tup rfl (pgs_cons (pg_name (i := 3) nd rfl (by first | exact Or.inl rfl | exact Or.inr rfl)) (pgs_cons (pg_name (i := 4) nd rfl (by first | exact Or.inl rfl | exact Or.inr rfl)) pgs_nil))) (pss_one (ps_if (pt_cmpR (op_neP hu) (pv 4) (pv 1) (by rfl)) (pss_one (ps_expr (pe_bm PySem.F.plainAttrs_list PySem.F.slot_list_append PySem.F.type_list_append mt_append (pv 2) (pa_cons (pe_tup (pa_cons (pv 3) (pa_cons (pv 4) pa_nil))) pa_nil)))) (pss_one (ps_if (pt_cmpR op_gt (pv 3) pe_int (by rfl)) (pss_one (ps_expr (pe_bm PySem.F.plainAttrs_list PySem.F.slot_list_append PySem.F.type_list_append mt_append (pv 2) (pa_cons (pe_tup (pa_cons (pe_op op_sub (pv 3) pe_int) (pa_cons (pv 4) pa_nil))) pa_nil)))) pss_nil)))))
    (pss_one (ps_ret (pe_callTy call_tuple_of rfl M.tuple b_tuple (pa_cons (pv 2) pa_nil))))))
theorem cl_without {P : Program} {w : World} {K : PySem.W.Frag} {mg : Str → Option Value} {base : Heap} {k : Nat} {A : Amb} {t : TS} (M : Hd w K mg) (G : Gd) (hl : ∀ as P', G as P' → as.length = 2)
    (hp : ∀ (f : Addr) (cdv : Value) (A' : Around) (outer : List Env) (s : Shared) (H : Hp) (E : XK), Room k (Bx P w K mg base ["plan", "part", "found", "count", "other"] "without" s_without f cdv A' outer s H E).A → PSs (Bx P w K mg base ["plan", "part", "found", "count", "other"] "without" s_without f cdv A' outer s H E) (defBody s_without) t)
    (hr : ∀ as P', G as P' → Rn K A t (as ++ List.replicate (5 - as.length) .emp) (retD P')) : Cal P w K mg base (k + 1) "without" (spD K A G) :=
  cal_data M.d_without sc_without G hl (fun _ _ _ _ _ _ _ us _ hl => match us, hl with | [_, _], _ => rfl) hp hr
/-! met_of -/
theorem sc_met_of : FnScope ["plan", "meeting", "one", "other", "rest"] ["plan", "meeting"] (defScope s_met_of) := ⟨rfl, rfl, rfl, by decide +kernel, rfl, by decide +kernel, by decide +kernel⟩
def t_met_of (K : PySem.W.Frag) (sp_without : Sp) (sp_roomy_brought : Sp) (sp_plain_of : Sp) : TS :=
  (tSeq (tAsg (tVar 1) (gTup K 2 (gCons (gName 2) (gCons (gName 3) gNil))))
    (tSeq (tAsg (tCall sp_without [] E0 (tCons (tCall sp_without [] E0 (tCons (tVar 0) (tCons (tVar 2) tNil))) (tCons (tVar 3) tNil))) (gName 4))
    (tRet (tCall sp_plain_of [] E0 (tCons (tCall sp_roomy_brought [] E0 (tCons (tVar 4) (tCons (tOp (rIxT K) (tVar 3) (tC (.int 2))) (tCons (tOp (rIxT K) (tVar 2) (tC (.int 2))) tNil)))) tNil)))))
theorem pr_met_of {P : Program} {w : World} {K : PySem.W.Frag} {mg : Str → Option Value} {base : Heap} {k : Nat} (M : Hd w K mg) {k_without : Nat} {sp_without : Sp} (c_without : Cal P w K mg base k_without "without" sp_without) (h_without : k_without ≤ k) {k_roomy_brought : Nat} {sp_roomy_brought : Sp} (c_roomy_brought : Cal P w K mg base k_roomy_brought "roomy_brought" sp_roomy_brought) (h_roomy_brought : k_roomy_brought ≤ k) {k_plain_of : Nat} {sp_plain_of : Sp} (c_plain_of : Cal P w K mg base k_plain_of "plain_of" sp_plain_of) (h_plain_of : k_plain_of ≤ k) (f : Addr) (cdv : Value) (A' : Around) (outer : List Env) (s : Shared) (H : Hp) (E : XK) (hr : Room k (Bx P w K mg base ["plan", "meeting", "one", "other", "rest"] "met_of" s_met_of f cdv A' outer s H E).A) :
    PSs (Bx P w K mg base ["plan", "meeting", "one", "other", "rest"] "met_of" s_met_of f cdv A' outer s H E) (defBody s_met_of) (t_met_of K sp_without sp_roomy_brought sp_plain_of) := by
  have nd := sc_met_of.nd
  have hu := Room.u200 hr
  exact (pss_cons (ps_asg (pv 1) (pg_tup rfl (pgs_cons (pg_name (i := 2) nd rfl (by first | exact Or.inl rfl | exact Or.inr rfl)) (pgs_cons (pg_name (i := 3) nd rfl (by first | exact Or.inl rfl | exact Or.inr rfl)) pgs_nil))))
    (pss_cons (ps_set (i := 4) nd rfl (by first | exact Or.inl rfl | exact Or.inr rfl) (pe_cal c_without hr h_without rfl (pa_cons (pe_cal c_without hr h_without rfl (pa_cons (pv 0) (pa_cons (pv 2) pa_nil))) (pa_cons (pv 3) pa_nil))))
    (pss_one (ps_ret (pe_cal c_plain_of hr h_plain_of rfl (pa_cons (pe_cal c_roomy_brought hr h_roomy_brought rfl (pa_cons (pv 4) (pa_cons (pe_ix ix_tup (pv 3) pe_int (fun _ _ => rfl)) (pa_cons (pe_ix ix_tup (pv 2) pe_int (fun _ _ => rfl)) pa_nil)))) pa_nil))))))
theorem cl_met_of {P : Program} {w : World} {K : PySem.W.Frag} {mg : Str → Option Value} {base : Heap} {k : Nat} {A : Amb} {t : TS} (M : Hd w K mg) (G : Gd) (hl : ∀ as P', G as P' → as.length = 2)
    (hp : ∀ (f : Addr) (cdv : Value) (A' : Around) (outer : List Env) (s : Shared) (H : Hp) (E : XK), Room k (Bx P w K mg base ["plan", "meeting", "one", "other", "rest"] "met_of" s_met_of f cdv A' outer s H E).A → PSs (Bx P w K mg base ["plan", "meeting", "one", "other", "rest"] "met_of" s_met_of f cdv A' outer s H E) (defBody s_met_of) t)
    (hr : ∀ as P', G as P' → Rn K A t (as ++ List.replicate (5 - as.length) .emp) (retD P')) : Cal P w K mg base (k + 1) "met_of" (spD K A G) :=
  cal_data M.d_met_of sc_met_of G hl (fun _ _ _ _ _ _ _ us _ hl => match us, hl with | [_, _], _ => rfl) hp hr
/-! check_choices -/
theorem sc_check_choices : FnScope ["thing", "choice"] ["thing"] (defScope s_check_choices) := ⟨rfl, rfl, rfl, by decide +kernel, rfl, by decide +kernel, by decide +kernel⟩
def t_check_choices (K : PySem.W.Frag) (sp_is_listed : Sp) (sp_is_integer : Sp) : TS :=
  (tSeq (tIfS (tOr (tNot (tB (tCall sp_is_listed [] E0 (tCons (tVar 0) tNil)))) (tTest (tOp (rI0 fun i j => .bl (decide (j < i))) (tCB (rLenSeq K) (tCons (tVar 0) tNil)) (tC (.int c_MOST_CHOICES))))) tNever tNext)
    (tIfS (tNot (tB (tCB (rAll K) (tCons (tLc (iList K (tVar 0)) (gName 1) tYes (tAndV (tCall sp_is_integer [] E0 (tCons (tVar 1) tNil)) (tOp (rI0 fun i j => .bl (decide (j ≤ i))) (tVar 1) (tC (.int 0)))) [1]) tNil)))) tNever tNext))
theorem pr_check_choices {P : Program} {w : World} {K : PySem.W.Frag} {mg : Str → Option Value} {base : Heap} {k : Nat} (M : Hd w K mg) {k_is_listed : Nat} {sp_is_listed : Sp} (c_is_listed : Cal P w K mg base k_is_listed "is_listed" sp_is_listed) (h_is_listed : k_is_listed ≤ k) {k_is_integer : Nat} {sp_is_integer : Sp} (c_is_integer : Cal P w K mg base k_is_integer "is_integer" sp_is_integer) (h_is_integer : k_is_integer ≤ k) (f : Addr) (cdv : Value) (A' : Around) (outer : List Env) (s : Shared) (H : Hp) (E : XK) (hr : Room k (Bx P w K mg base ["thing", "choice"] "check_choices" s_check_choices f cdv A' outer s H E).A) :
    PSs (Bx P w K mg base ["thing", "choice"] "check_choices" s_check_choices f cdv A' outer s H E) (defBody s_check_choices) (t_check_choices K sp_is_listed sp_is_integer) := by
  have nd := sc_check_choices.nd
  have hu := Room.u200 hr
  exact (pss_cons (ps_if (PW.pt (pw_or (pt_not (pt_val (pe_cal c_is_listed hr h_is_listed rfl (pa_cons (pv 0) pa_nil)))) (pw_or1 (pt_cmpR op_gt (pe_callB call_len_seq rfl M.len boot_len (pa_cons (pv 0) pa_nil)) (pe_gint rfl M.g_MOST_CHOICES) (by rfl))))) (pss_one ps_never) pss_nil)
    (pss_one (ps_if (pt_not (pt_val (pe_callB (cr_all rfl) rfl M.all boot_all (pa_cons (pe_lc (own := [("choice", 1)]) rfl nd (pi_list (pv 0)) (blkOk_by (N := ["thing", "choice"]) (sc := defScope s_check_choices) (by decide +kernel)) (fun _ _ _ _ _ => (pg_name (i := 1) nd rfl (by first | exact Or.inl rfl | exact Or.inr rfl))) (fun _ _ _ _ _ => pts_nil) (fun _ _ _ _ _ => (pe_and (pe_cal c_is_integer hr h_is_integer rfl (pa_cons (pv 1) pa_nil)) (pe_one (pe_cmpR op_ge (pv 1) pe_int (by rfl)))))) pa_nil)))) (pss_one ps_never) pss_nil)))
theorem cl_check_choices {P : Program} {w : World} {K : PySem.W.Frag} {mg : Str → Option Value} {base : Heap} {k : Nat} {A : Amb} {t : TS} (M : Hd w K mg) (G : Gd) (hl : ∀ as P', G as P' → as.length = 1)
    (hp : ∀ (f : Addr) (cdv : Value) (A' : Around) (outer : List Env) (s : Shared) (H : Hp) (E : XK), Room k (Bx P w K mg base ["thing", "choice"] "check_choices" s_check_choices f cdv A' outer s H E).A → PSs (Bx P w K mg base ["thing", "choice"] "check_choices" s_check_choices f cdv A' outer s H E) (defBody s_check_choices) t)
    (hr : ∀ as P', G as P' → Rn K A t (as ++ List.replicate (2 - as.length) .emp) (retD P')) : Cal P w K mg base (k + 1) "check_choices" (spD K A G) :=
  cal_data M.d_check_choices sc_check_choices G hl (fun _ _ _ _ _ _ _ us _ hl => match us, hl with | [_], _ => rfl) hp hr
/-! run -/
theorem sc_run : FnScope ["plan", "choices", "found", "choice", "pairs"] ["plan", "choices"] (defScope s_run) := ⟨rfl, rfl, rfl, by decide +kernel, rfl, by decide +kernel, by decide +kernel⟩
def t_run (K : PySem.W.Frag) (sp_check_plan : Sp) (sp_check_choices : Sp) (sp_plain_of : Sp) (sp_meetings_of : Sp) (sp_met_of : Sp) : TS :=
  (tSeq (tDrop (tCall sp_check_plan [] E0 (tCons (tVar 0) tNil)))
    (tSeq (tDrop (tCall sp_check_choices [] E0 (tCons (tVar 1) tNil)))
    (tSeq (tAsg (tLst (tCons (tCall sp_plain_of [] E0 (tCons (tVar 0) tNil)) tNil)) (gName 2))
    (tSeq (tFor (iList K (tVar 1)) (gName 3) (tSeq (tAsg (tCall sp_meetings_of [] E0 (tCons (tOp (rIxL K) (tVar 2) (tUn (rU fun i => .int (-i)) (tC (.int 1)))) tNil)) (gName 4))
    (tSeq (tIfS (tTest (tOp (rI0 fun i j => .bl (decide (j ≤ i))) (tVar 3) (tCB (rLenSeq K) (tCons (tVar 4) tNil)))) tNever tNext)
    (tDrop (tBM K "list" rAppend (tVar 2) (tCons (tCall sp_met_of [] E0 (tCons (tOp (rIxL K) (tVar 2) (tUn (rU fun i => .int (-i)) (tC (.int 1)))) (tCons (tOp (rIxL K) (tVar 4) (tVar 3)) tNil))) tNil))))))
    (tRet (tCB (rTupOf K) (tCons (tVar 2) tNil)))))))
theorem pr_run {P : Program} {w : World} {K : PySem.W.Frag} {mg : Str → Option Value} {base : Heap} {k : Nat} (M : Hd w K mg) {k_check_plan : Nat} {sp_check_plan : Sp} (c_check_plan : Cal P w K mg base k_check_plan "check_plan" sp_check_plan) (h_check_plan : k_check_plan ≤ k) {k_check_choices : Nat} {sp_check_choices : Sp} (c_check_choices : Cal P w K mg base k_check_choices "check_choices" sp_check_choices) (h_check_choices : k_check_choices ≤ k) {k_plain_of : Nat} {sp_plain_of : Sp} (c_plain_of : Cal P w K mg base k_plain_of "plain_of" sp_plain_of) (h_plain_of : k_plain_of ≤ k) {k_meetings_of : Nat} {sp_meetings_of : Sp} (c_meetings_of : Cal P w K mg base k_meetings_of "meetings_of" sp_meetings_of) (h_meetings_of : k_meetings_of ≤ k) {k_met_of : Nat} {sp_met_of : Sp} (c_met_of : Cal P w K mg base k_met_of "met_of" sp_met_of) (h_met_of : k_met_of ≤ k) (f : Addr) (cdv : Value) (A' : Around) (outer : List Env) (s : Shared) (H : Hp) (E : XK) (hr : Room k (Bx P w K mg base ["plan", "choices", "found", "choice", "pairs"] "run" s_run f cdv A' outer s H E).A) :
    PSs (Bx P w K mg base ["plan", "choices", "found", "choice", "pairs"] "run" s_run f cdv A' outer s H E) (defBody s_run) (t_run K sp_check_plan sp_check_choices sp_plain_of sp_meetings_of sp_met_of) := by
  have nd := sc_run.nd
  have hu := Room.u200 hr
  exact (pss_cons (ps_expr (pe_cal c_check_plan hr h_check_plan rfl (pa_cons (pv 0) pa_nil)))
    (pss_cons (ps_expr (pe_cal c_check_choices hr h_check_choices rfl (pa_cons (pv 1) pa_nil)))
    (pss_cons (ps_set (i := 2) nd rfl (by first | exact Or.inl rfl | exact Or.inr rfl) (pe_lst (pa_cons (pe_cal c_plain_of hr h_plain_of rfl (pa_cons (pv 0) pa_nil)) pa_nil)))
    (pss_cons (ps_for PassesOwn.never rfl (pi_list (pv 1)) (pg_name (i := 3) nd rfl (by first | exact Or.inl rfl | exact Or.inr rfl)) (pss_cons (ps_set (i := 4) nd rfl (by first | exact Or.inl rfl | exact Or.inr rfl) (pe_cal c_meetings_of hr h_meetings_of rfl (pa_cons (pe_ix ix_list (pv 2) (pe_un un_neg pe_int) (fun _ _ => rfl)) pa_nil)))
    (pss_cons (ps_if (pt_cmpR op_ge (pv 3) (pe_callB call_len_seq rfl M.len boot_len (pa_cons (pv 4) pa_nil)) (by rfl)) (pss_one ps_never) pss_nil)
    (pss_one (ps_expr (pe_bm PySem.F.plainAttrs_list PySem.F.slot_list_append PySem.F.type_list_append mt_append (pv 2) (pa_cons (pe_cal c_met_of hr h_met_of rfl (pa_cons (pe_ix ix_list (pv 2) (pe_un un_neg pe_int) (fun _ _ => rfl)) (pa_cons (pe_ix ix_list (pv 4) (pv 3) (fun _ _ => rfl)) pa_nil))) pa_nil)))))))
    (pss_one (ps_ret (pe_callTy call_tuple_of rfl M.tuple b_tuple (pa_cons (pv 2) pa_nil))))))))
theorem cl_run {P : Program} {w : World} {K : PySem.W.Frag} {mg : Str → Option Value} {base : Heap} {k : Nat} {A : Amb} {t : TS} (M : Hd w K mg) (G : Gd) (hl : ∀ as P', G as P' → as.length = 2)
    (hp : ∀ (f : Addr) (cdv : Value) (A' : Around) (outer : List Env) (s : Shared) (H : Hp) (E : XK), Room k (Bx P w K mg base ["plan", "choices", "found", "choice", "pairs"] "run" s_run f cdv A' outer s H E).A → PSs (Bx P w K mg base ["plan", "choices", "found", "choice", "pairs"] "run" s_run f cdv A' outer s H E) (defBody s_run) t)
    (hr : ∀ as P', G as P' → Rn K A t (as ++ List.replicate (5 - as.length) .emp) (retD P')) : Cal P w K mg base (k + 1) "run" (spD K A G) :=
  cal_data M.d_run sc_run G hl (fun _ _ _ _ _ _ _ us _ hl => match us, hl with | [_, _], _ => rfl) hp hr
/-! _law_tape -/
theorem sc__law_tape : FnScope ["_law_script"] ["_law_script"] (defScope s__law_tape) := ⟨rfl, rfl, rfl, by decide +kernel, rfl, by decide +kernel, by decide +kernel⟩
def t__law_tape (K : PySem.W.Frag) : TS :=
  (tRet (tLst (tCons (tCB (rListOf K) (tCons (tVar 0) tNil)) (tCons (tC (.int 0)) (tCons (tC (.int 0)) (tCons (tC (.int 1)) (tCons (tC (.int 0)) tNil)))))))
theorem pr__law_tape {P : Program} {w : World} {K : PySem.W.Frag} {mg : Str → Option Value} {base : Heap} {k : Nat} (M : Hd w K mg) (f : Addr) (cdv : Value) (A' : Around) (outer : List Env) (s : Shared) (H : Hp) (E : XK) (hr : Room k (Bx P w K mg base ["_law_script"] "_law_tape" s__law_tape f cdv A' outer s H E).A) :
    PSs (Bx P w K mg base ["_law_script"] "_law_tape" s__law_tape f cdv A' outer s H E) (defBody s__law_tape) (t__law_tape K) := by
  have nd := sc__law_tape.nd
  have hu := Room.u200 hr
  exact (pss_one (ps_ret (pe_lst (pa_cons (pe_callTy call_list_of rfl M.list b_list (pa_cons (pv 0) pa_nil)) (pa_cons pe_int (pa_cons pe_int (pa_cons pe_int (pa_cons pe_int pa_nil))))))))
theorem cll__law_tape {P : Program} {w : World} {K : PySem.W.Frag} {mg : Str → Option Value} {base : Heap} {k : Nat} {A : Amb} {t : TS} (M : Hd w K mg) (G : Gl') (hl : ∀ as P', G as P' → as.length = 1)
    (hp : ∀ (f : Addr) (cdv : Value) (A' : Around) (outer : List Env) (s : Shared) (H : Hp) (E : XK), Room k (Bx P w K mg base ["_law_script"] "_law_tape" s__law_tape f cdv A' outer s H E).A → PSs (Bx P w K mg base ["_law_script"] "_law_tape" s__law_tape f cdv A' outer s H E) (defBody s__law_tape) t)
    (hr : ∀ as P', G as P' → Rn K A t (as ++ List.replicate (1 - as.length) .emp) (retL P')) : Cal P w K mg base (k + 1) "_law_tape" (spL K A G) :=
  cal_list M.d__law_tape sc__law_tape G hl (fun _ _ _ _ _ _ _ us _ hl => match us, hl with | [_], _ => rfl) hp hr
/-! _law_pick -/
theorem sc__law_pick : FnScope ["_law_tape_here", "_law_many", "_law_digit", "_law_cell", "_law_mixed"] ["_law_tape_here", "_law_many"] (defScope s__law_pick) := ⟨rfl, rfl, rfl, by decide +kernel, rfl, by decide +kernel, by decide +kernel⟩
def t__law_pick (K : PySem.W.Frag) : TS :=
  (tSeq (tIfS (tTest (tOp (rI0 fun i j => .bl (decide (j < i))) (tOp (rIxL K) (tVar 0) (tC (.int 2))) (tC (.int 1)))) (tSeq (tAsg (tOp (rI (fun _ j => j ≠ 0) fun i j => .int (i.fmod j)) (tCB rInt1 (tCons (tOp (rIxL K) (tVar 0) (tC (.int 2))) tNil)) (tVar 1)) (gName 2))
    (tSeq (tAsg (tOp (rI CDivN fun i j => .int (i.fdiv j)) (tOp (rIxL K) (tVar 0) (tC (.int 2))) (tVar 1)) (gSub (tVar 0) (tC (.int 2)) rSetL))
    (tRet (tVar 2)))) tNext)
    (tSeq (tAsg (tOp (rI0 fun i j => .int (i + j)) (tOp (rIxL K) (tVar 0) (tC (.int 4))) (tC (.int 1))) (gSub (tVar 0) (tC (.int 4)) rSetL))
    (tSeq (tAsg (tC (.int 0)) (gName 3))
    (tSeq (tIfS (tTest (tOp (rI0 fun i j => .bl (decide (i < j))) (tOp (rIxL K) (tVar 0) (tC (.int 1))) (tCB (rLenSeq K) (tCons (tOp (rIxL K) (tVar 0) (tC (.int 0))) tNil)))) (tSeq (tAsg (tOp (rIxL K) (tOp (rIxL K) (tVar 0) (tC (.int 0))) (tOp (rIxL K) (tVar 0) (tC (.int 1)))) (gName 3))
    (tAsg (tOp (rI0 fun i j => .int (i + j)) (tOp (rIxL K) (tVar 0) (tC (.int 1))) (tC (.int 1))) (gSub (tVar 0) (tC (.int 1)) rSetL))) tNext)
    (tSeq (tIfS (tTest (tOp (rI0 fun i j => .bl (decide (j ≤ i))) (tVar 3) (tOp (rI CPow fun i j => .int (i ^ j.toNat)) (tC (.int 10)) (tC (.int 18))))) (tSeq (tAsg (tOp (rI CDivN fun i j => .int (i.fdiv j)) (tVar 3) (tVar 1)) (gSub (tVar 0) (tC (.int 2)) rSetL))
    (tRet (tOp (rI (fun _ j => j ≠ 0) fun i j => .int (i.fmod j)) (tCB rInt1 (tCons (tVar 3) tNil)) (tVar 1)))) tNext)
    (tSeq (tAsg (tOp (rI (fun _ j => j ≠ 0) fun i j => .int (i.fmod j)) (tCB rInt1 (tCons (tOp (rI0 fun i j => .int (i + j)) (tOp (rI0 fun i j => .int (i + j)) (tOp (rI CMul fun i j => .int (i * j)) (tOp (rIxL K) (tVar 0) (tC (.int 3))) (tC (.int 48271))) (tOp (rI (fun _ j => j ≠ 0) fun i j => .int (i.fmod j)) (tCB rInt1 (tCons (tVar 3) tNil)) (tC (.int 2147483629)))) (tOp (rI CMul fun i j => .int (i * j)) (tOp (rIxL K) (tVar 0) (tC (.int 4))) (tC (.int 69621)))) tNil)) (tC (.int 2147483647))) (gName 4))
    (tSeq (tAsg (tOp (rI (fun _ j => j ≠ 0) fun i j => .int (i.fmod j)) (tCB rInt1 (tCons (tOp (rI CMul fun i j => .int (i * j)) (tVar 4) (tOp (rI0 fun i j => .int (i + j)) (tOp (rI CDivN fun i j => .int (i.fdiv j)) (tVar 4) (tC (.int 1009))) (tC (.int 40692)))) tNil)) (tC (.int 2147483399))) (gName 4))
    (tSeq (tAsg (tVar 4) (gSub (tVar 0) (tC (.int 3)) rSetL))
    (tRet (tOp (rI (fun _ j => j ≠ 0) fun i j => .int (i.fmod j)) (tCB rInt1 (tCons (tOp (rI CDivN fun i j => .int (i.fdiv j)) (tVar 4) (tC (.int 16))) tNil)) (tVar 1)))))))))))
theorem pr__law_pick {P : Program} {w : World} {K : PySem.W.Frag} {mg : Str → Option Value} {base : Heap} {k : Nat} (M : Hd w K mg) (f : Addr) (cdv : Value) (A' : Around) (outer : List Env) (s : Shared) (H : Hp) (E : XK) (hr : Room k (Bx P w K mg base ["_law_tape_here", "_law_many", "_law_digit", "_law_cell", "_law_mixed"] "_law_pick" s__law_pick f cdv A' outer s H E).A) :
    PSs (Bx P w K mg base ["_law_tape_here", "_law_many", "_law_digit", "_law_cell", "_law_mixed"] "_law_pick" s__law_pick f cdv A' outer s H E) (defBody s__law_pick) (t__law_pick K) := by
  have nd := sc__law_pick.nd
  have hu := Room.u200 hr
  exact (pss_cons (ps_if (pt_cmpR op_gt (pe_ix ix_list (pv 0) pe_int (fun _ _ => rfl)) pe_int (by rfl)) (pss_cons (ps_set (i := 2) nd rfl (by first | exact Or.inl rfl | exact Or.inr rfl) (pe_op op_modN (pe_callTy call_int1 rfl M.int b_int (pa_cons (pe_ix ix_list (pv 0) pe_int (fun _ _ => rfl)) pa_nil)) (pv 1)))
    (pss_cons (ps_asg (pe_op op_fdivN (pe_ix ix_list (pv 0) pe_int (fun _ _ => rfl)) (pv 1)) (pg_sub (pv 0) pe_int set_list))
    (pss_one (ps_ret (pv 2))))) pss_nil)
    (pss_cons (ps_asg (pe_op op_add (pe_ix ix_list (pv 0) pe_int (fun _ _ => rfl)) pe_int) (pg_sub (pv 0) pe_int set_list))
    (pss_cons (ps_set (i := 3) nd rfl (by first | exact Or.inl rfl | exact Or.inr rfl) pe_int)
    (pss_cons (ps_if (pt_cmpR op_lt (pe_ix ix_list (pv 0) pe_int (fun _ _ => rfl)) (pe_callB call_len_seq rfl M.len boot_len (pa_cons (pe_ix ix_list (pv 0) pe_int (fun _ _ => rfl)) pa_nil)) (by rfl)) (pss_cons (ps_set (i := 3) nd rfl (by first | exact Or.inl rfl | exact Or.inr rfl) (pe_ix ix_list (pe_ix ix_list (pv 0) pe_int (fun _ _ => rfl)) (pe_ix ix_list (pv 0) pe_int (fun _ _ => rfl)) (fun _ _ => rfl)))
    (pss_one (ps_asg (pe_op op_add (pe_ix ix_list (pv 0) pe_int (fun _ _ => rfl)) pe_int) (pg_sub (pv 0) pe_int set_list)))) pss_nil)
    (pss_cons (ps_if (pt_cmpR op_ge (pv 3) (pe_op op_pow pe_int pe_int) (by rfl)) (pss_cons (ps_asg (pe_op op_fdivN (pv 3) (pv 1)) (pg_sub (pv 0) pe_int set_list))
    (pss_one (ps_ret (pe_op op_modN (pe_callTy call_int1 rfl M.int b_int (pa_cons (pv 3) pa_nil)) (pv 1))))) pss_nil)
    (pss_cons (ps_set (i := 4) nd rfl (by first | exact Or.inl rfl | exact Or.inr rfl) (pe_op op_modN (pe_callTy call_int1 rfl M.int b_int (pa_cons (pe_op op_add (pe_op op_add (pe_op op_mul (pe_ix ix_list (pv 0) pe_int (fun _ _ => rfl)) pe_int) (pe_op op_modN (pe_callTy call_int1 rfl M.int b_int (pa_cons (pv 3) pa_nil)) pe_int)) (pe_op op_mul (pe_ix ix_list (pv 0) pe_int (fun _ _ => rfl)) pe_int)) pa_nil)) pe_int))
    (pss_cons (ps_set (i := 4) nd rfl (by first | exact Or.inl rfl | exact Or.inr rfl) (pe_op op_modN (pe_callTy call_int1 rfl M.int b_int (pa_cons (pe_op op_mul (pv 4) (pe_op op_add (pe_op op_fdivN (pv 4) pe_int) pe_int)) pa_nil)) pe_int))
    (pss_cons (ps_asg (pv 4) (pg_sub (pv 0) pe_int set_list))
    (pss_one (ps_ret (pe_op op_modN (pe_callTy call_int1 rfl M.int b_int (pa_cons (pe_op op_fdivN (pv 4) pe_int) pa_nil)) (pv 1))))))))))))
theorem cl__law_pick {P : Program} {w : World} {K : PySem.W.Frag} {mg : Str → Option Value} {base : Heap} {k : Nat} {A : Amb} {t : TS} (M : Hd w K mg) (G : Gd) (hl : ∀ as P', G as P' → as.length = 2)
    (hp : ∀ (f : Addr) (cdv : Value) (A' : Around) (outer : List Env) (s : Shared) (H : Hp) (E : XK), Room k (Bx P w K mg base ["_law_tape_here", "_law_many", "_law_digit", "_law_cell", "_law_mixed"] "_law_pick" s__law_pick f cdv A' outer s H E).A → PSs (Bx P w K mg base ["_law_tape_here", "_law_many", "_law_digit", "_law_cell", "_law_mixed"] "_law_pick" s__law_pick f cdv A' outer s H E) (defBody s__law_pick) t)
    (hr : ∀ as P', G as P' → Rn K A t (as ++ List.replicate (5 - as.length) .emp) (retD P')) : Cal P w K mg base (k + 1) "_law_pick" (spD K A G) :=
  cal_data M.d__law_pick sc__law_pick G hl (fun _ _ _ _ _ _ _ us _ hl => match us, hl with | [_, _], _ => rfl) hp hr
/-! _law_machine -/
theorem sc__law_machine : FnScope ["_law_tape_here", "_law_most", "_law_many", "_law_rows", "_law_at", "_law_kind", "_law_register"] ["_law_tape_here", "_law_most"] (defScope s__law_machine) := ⟨rfl, rfl, rfl, by decide +kernel, rfl, by decide +kernel, by decide +kernel⟩
def t__law_machine (K : PySem.W.Frag) (sp__law_pick : Sp) : TS :=
  (tSeq (tAsg (tOp (rI0 fun i j => .int (i + j)) (tC (.int 1)) (tCall sp__law_pick [] E0 (tCons (tVar 0) (tCons (tVar 1) tNil)))) (gName 2))
    (tSeq (tAsg (tLst tNil) (gName 3))
    (tSeq (tFor (iRng1 (tCons (tVar 2) tNil)) (gName 4) (tSeq (tAsg (tCall sp__law_pick [] E0 (tCons (tVar 0) (tCons (tC (.int 6)) tNil))) (gName 5))
    (tSeq (tAsg (tCall sp__law_pick [] E0 (tCons (tVar 0) (tCons (tC (.int 4)) tNil))) (gName 6))
    (tIfS (tTest (tOp rEq (tVar 5) (tC (.int 0)))) (tDrop (tBM K "list" rAppend (tVar 3) (tCons (tTup (tCons (tC (.str "halt")) tNil)) tNil))) (tIfS (tTest (tOp (rI0 fun i j => .bl (decide (i < j))) (tVar 5) (tC (.int 3)))) (tDrop (tBM K "list" rAppend (tVar 3) (tCons (tTup (tCons (tC (.str "up")) (tCons (tVar 6) (tCons (tCall sp__law_pick [] E0 (tCons (tVar 0) (tCons (tVar 2) tNil))) tNil)))) tNil))) (tDrop (tBM K "list" rAppend (tVar 3) (tCons (tTup (tCons (tC (.str "down")) (tCons (tVar 6) (tCons (tCall sp__law_pick [] E0 (tCons (tVar 0) (tCons (tVar 2) tNil))) (tCons (tCall sp__law_pick [] E0 (tCons (tVar 0) (tCons (tVar 2) tNil))) tNil))))) tNil))))))))
    (tRet (tCB (rTupOf K) (tCons (tVar 3) tNil))))))
theorem pr__law_machine {P : Program} {w : World} {K : PySem.W.Frag} {mg : Str → Option Value} {base : Heap} {k : Nat} (M : Hd w K mg) {k__law_pick : Nat} {sp__law_pick : Sp} (c__law_pick : Cal P w K mg base k__law_pick "_law_pick" sp__law_pick) (h__law_pick : k__law_pick ≤ k) (f : Addr) (cdv : Value) (A' : Around) (outer : List Env) (s : Shared) (H : Hp) (E : XK) (hr : Room k (Bx P w K mg base ["_law_tape_here", "_law_most", "_law_many", "_law_rows", "_law_at", "_law_kind", "_law_register"] "_law_machine" s__law_machine f cdv A' outer s H E).A) :
    PSs (Bx P w K mg base ["_law_tape_here", "_law_most", "_law_many", "_law_rows", "_law_at", "_law_kind", "_law_register"] "_law_machine" s__law_machine f cdv A' outer s H E) (defBody s__law_machine) (t__law_machine K sp__law_pick) := by
  have nd := sc__law_machine.nd
  have hu := Room.u200 hr
  exact (pss_cons (ps_set (i := 2) nd rfl (by first | exact Or.inl rfl | exact Or.inr rfl) (pe_op op_add pe_int (pe_cal c__law_pick hr h__law_pick rfl (pa_cons (pv 0) (pa_cons (pv 1) pa_nil)))))
    (pss_cons (ps_set (i := 3) nd rfl (by first | exact Or.inl rfl | exact Or.inr rfl) (pe_lst pa_nil))
    (pss_cons (ps_for PassesOwn.never rfl (pi_range1 rfl M.range (pa_cons (pv 2) pa_nil)) (pg_name (i := 4) nd rfl (by first | exact Or.inl rfl | exact Or.inr rfl)) (pss_cons (ps_set (i := 5) nd rfl (by first | exact Or.inl rfl | exact Or.inr rfl) (pe_cal c__law_pick hr h__law_pick rfl (pa_cons (pv 0) (pa_cons pe_int pa_nil))))
    (pss_cons (ps_set (i := 6) nd rfl (by first | exact Or.inl rfl | exact Or.inr rfl) (pe_cal c__law_pick hr h__law_pick rfl (pa_cons (pv 0) (pa_cons pe_int pa_nil))))
    (pss_one (ps_if (pt_cmpR op_eq (pv 5) pe_int (by rfl)) (pss_one (ps_expr (pe_bm PySem.F.plainAttrs_list PySem.F.slot_list_append PySem.F.type_list_append mt_append (pv 3) (pa_cons (pe_tup (pa_cons pe_str pa_nil)) pa_nil)))) (pss_one (ps_if (pt_cmpR op_lt (pv 5) pe_int (by rfl)) (pss_one (ps_expr (pe_bm PySem.F.plainAttrs_list PySem.F.slot_list_append PySem.F.type_list_append mt_append (pv 3) (pa_cons (pe_tup (pa_cons pe_str (pa_cons (pv 6) (pa_cons (pe_cal c__law_pick hr h__law_pick rfl (pa_cons (pv 0) (pa_cons (pv 2) pa_nil))) pa_nil)))) pa_nil)))) (pss_one (ps_expr (pe_bm PySem.F.plainAttrs_list PySem.F.slot_list_append PySem.F.type_list_append mt_append (pv 3) (pa_cons (pe_tup (pa_cons pe_str (pa_cons (pv 6) (pa_cons (pe_cal c__law_pick hr h__law_pick rfl (pa_cons (pv 0) (pa_cons (pv 2) pa_nil))) (pa_cons (pe_cal c__law_pick hr h__law_pick rfl (pa_cons (pv 0) (pa_cons (pv 2) pa_nil))) pa_nil))))) pa_nil)))))))))))
    (pss_one (ps_ret (pe_callTy call_tuple_of rfl M.tuple b_tuple (pa_cons (pv 3) pa_nil)))))))
theorem cl__law_machine {P : Program} {w : World} {K : PySem.W.Frag} {mg : Str → Option Value} {base : Heap} {k : Nat} {A : Amb} {t : TS} (M : Hd w K mg) (G : Gd) (hl : ∀ as P', G as P' → as.length = 2)
    (hp : ∀ (f : Addr) (cdv : Value) (A' : Around) (outer : List Env) (s : Shared) (H : Hp) (E : XK), Room k (Bx P w K mg base ["_law_tape_here", "_law_most", "_law_many", "_law_rows", "_law_at", "_law_kind", "_law_register"] "_law_machine" s__law_machine f cdv A' outer s H E).A → PSs (Bx P w K mg base ["_law_tape_here", "_law_most", "_law_many", "_law_rows", "_law_at", "_law_kind", "_law_register"] "_law_machine" s__law_machine f cdv A' outer s H E) (defBody s__law_machine) t)
    (hr : ∀ as P', G as P' → Rn K A t (as ++ List.replicate (7 - as.length) .emp) (retD P')) : Cal P w K mg base (k + 1) "_law_machine" (spD K A G) :=
  cal_data M.d__law_machine sc__law_machine G hl (fun _ _ _ _ _ _ _ us _ hl => match us, hl with | [_, _], _ => rfl) hp hr
/-! _law_standing -/
theorem sc__law_standing : FnScope ["_law_tape_here", "_law_machine_here", "_law_most", "_law_k"] ["_law_tape_here", "_law_machine_here", "_law_most"] (defScope s__law_standing) := ⟨rfl, rfl, rfl, by decide +kernel, rfl, by decide +kernel, by decide +kernel⟩
def t__law_standing (K : PySem.W.Frag) (sp__law_pick : Sp) : TS :=
  (tRet (tTup (tCons (tCall sp__law_pick [] E0 (tCons (tVar 0) (tCons (tCB (rLenSeq K) (tCons (tVar 1) tNil)) tNil))) (tCons (tCB (rTupOf K) (tCons (tLc (iRng1 (tCons (tC (.int 4)) tNil)) (gName 3) tYes (tCall sp__law_pick [] E0 (tCons (tVar 0) (tCons (tVar 2) tNil))) [3]) tNil)) tNil))))
theorem pr__law_standing {P : Program} {w : World} {K : PySem.W.Frag} {mg : Str → Option Value} {base : Heap} {k : Nat} (M : Hd w K mg) {k__law_pick : Nat} {sp__law_pick : Sp} (c__law_pick : Cal P w K mg base k__law_pick "_law_pick" sp__law_pick) (h__law_pick : k__law_pick ≤ k) (f : Addr) (cdv : Value) (A' : Around) (outer : List Env) (s : Shared) (H : Hp) (E : XK) (hr : Room k (Bx P w K mg base ["_law_tape_here", "_law_machine_here", "_law_most", "_law_k"] "_law_standing" s__law_standing f cdv A' outer s H E).A) :
    PSs (Bx P w K mg base ["_law_tape_here", "_law_machine_here", "_law_most", "_law_k"] "_law_standing" s__law_standing f cdv A' outer s H E) (defBody s__law_standing) (t__law_standing K sp__law_pick) := by
  have nd := sc__law_standing.nd
  have hu := Room.u200 hr
  exact (pss_one (ps_ret (pe_tup (pa_cons (pe_cal c__law_pick hr h__law_pick rfl (pa_cons (pv 0) (pa_cons (pe_callB call_len_seq rfl M.len boot_len (pa_cons (pv 1) pa_nil)) pa_nil))) (pa_cons (pe_callTy call_tuple_of rfl M.tuple b_tuple (pa_cons (pe_lc (own := [("_law_k", 3)]) rfl nd (pi_range1 rfl M.range (pa_cons pe_int pa_nil)) (blkOk_by (N := ["_law_tape_here", "_law_machine_here", "_law_most", "_law_k"]) (sc := defScope s__law_standing) (by decide +kernel)) (fun _ _ _ _ _ => (pg_name (i := 3) nd rfl (by first | exact Or.inl rfl | exact Or.inr rfl))) (fun _ _ _ _ _ => pts_nil) (fun _ _ _ _ _ => (pe_cal c__law_pick hr h__law_pick rfl (pa_cons (pv 0) (pa_cons (pv 2) pa_nil))))) pa_nil)) pa_nil)))))
theorem cl__law_standing {P : Program} {w : World} {K : PySem.W.Frag} {mg : Str → Option Value} {base : Heap} {k : Nat} {A : Amb} {t : TS} (M : Hd w K mg) (G : Gd) (hl : ∀ as P', G as P' → as.length = 3)
    (hp : ∀ (f : Addr) (cdv : Value) (A' : Around) (outer : List Env) (s : Shared) (H : Hp) (E : XK), Room k (Bx P w K mg base ["_law_tape_here", "_law_machine_here", "_law_most", "_law_k"] "_law_standing" s__law_standing f cdv A' outer s H E).A → PSs (Bx P w K mg base ["_law_tape_here", "_law_machine_here", "_law_most", "_law_k"] "_law_standing" s__law_standing f cdv A' outer s H E) (defBody s__law_standing) t)
    (hr : ∀ as P', G as P' → Rn K A t (as ++ List.replicate (4 - as.length) .emp) (retD P')) : Cal P w K mg base (k + 1) "_law_standing" (spD K A G) :=
  cal_data M.d__law_standing sc__law_standing G hl (fun _ _ _ _ _ _ _ us _ hl => match us, hl with | [_, _, _], _ => rfl) hp hr
/-! _law_next -/
theorem sc__law_next : FnScope ["_law_machine_here", "_law_standing_here", "_law_at", "_law_numbers", "_law_instruction", "_law_changed"] ["_law_machine_here", "_law_standing_here"] (defScope s__law_next) := ⟨rfl, rfl, rfl, by decide +kernel, rfl, by decide +kernel, by decide +kernel⟩
def t__law_next (K : PySem.W.Frag) : TS :=
  (tSeq (tAsg (tVar 1) (gTup K 2 (gCons (gName 2) (gCons (gName 3) gNil))))
    (tSeq (tAsg (tOp (rIxT K) (tVar 0) (tVar 2)) (gName 4))
    (tSeq (tIfS (tTest (tOp rEq (tOp (rIxT K) (tVar 4) (tC (.int 0))) (tC (.str "halt")))) (tRet (tC .non)) tNext)
    (tSeq (tAsg (tCB (rListOf K) (tCons (tVar 3) tNil)) (gName 5))
    (tSeq (tIfS (tTest (tOp rEq (tOp (rIxT K) (tVar 4) (tC (.int 0))) (tC (.str "up")))) (tAsg (tOp (rI0 fun i j => .int (i + j)) (tOp (rIxL K) (tVar 5) (tOp (rIxT K) (tVar 4) (tC (.int 1)))) (tC (.int 1))) (gSub (tVar 5) (tOp (rIxT K) (tVar 4) (tC (.int 1))) rSetL)) (tIfS (tTest (tOp rEq (tOp (rIxL K) (tVar 5) (tOp (rIxT K) (tVar 4) (tC (.int 1)))) (tC (.int 0)))) (tRet (tTup (tCons (tOp (rIxT K) (tVar 4) (tC (.int 3))) (tCons (tVar 3) tNil)))) (tAsg (tOp (rI0 fun i j => .int (i - j)) (tOp (rIxL K) (tVar 5) (tOp (rIxT K) (tVar 4) (tC (.int 1)))) (tC (.int 1))) (gSub (tVar 5) (tOp (rIxT K) (tVar 4) (tC (.int 1))) rSetL))))
    (tRet (tTup (tCons (tOp (rIxT K) (tVar 4) (tC (.int 2))) (tCons (tCB (rTupOf K) (tCons (tVar 5) tNil)) tNil)))))))))
theorem pr__law_next {P : Program} {w : World} {K : PySem.W.Frag} {mg : Str → Option Value} {base : Heap} {k : Nat} (M : Hd w K mg) (f : Addr) (cdv : Value) (A' : Around) (outer : List Env) (s : Shared) (H : Hp) (E : XK) (hr : Room k (Bx P w K mg base ["_law_machine_here", "_law_standing_here", "_law_at", "_law_numbers", "_law_instruction", "_law_changed"] "_law_next" s__law_next f cdv A' outer s H E).A) :
    PSs (Bx P w K mg base ["_law_machine_here", "_law_standing_here", "_law_at", "_law_numbers", "_law_instruction", "_law_changed"] "_law_next" s__law_next f cdv A' outer s H E) (defBody s__law_next) (t__law_next K) := by
  have nd := sc__law_next.nd
  have hu := Room.u200 hr
  exact (pss_cons (ps_asg (pv 1) (pg_tup rfl (pgs_cons (pg_name (i := 2) nd rfl (by first | exact Or.inl rfl | exact Or.inr rfl)) (pgs_cons (pg_name (i := 3) nd rfl (by first | exact Or.inl rfl | exact Or.inr rfl)) pgs_nil))))
    (pss_cons (ps_set (i := 4) nd rfl (by first | exact Or.inl rfl | exact Or.inr rfl) (pe_ix ix_tup (pv 0) (pv 2) (fun _ _ => rfl)))
    (pss_cons (ps_if (pt_cmpR op_eq (pe_ix ix_tup (pv 4) pe_int (fun _ _ => rfl)) pe_str (by rfl)) (pss_one (ps_ret pe_non)) pss_nil)
    (pss_cons (ps_set (i := 5) nd rfl (by first | exact Or.inl rfl | exact Or.inr rfl) (pe_callTy call_list_of rfl M.list b_list (pa_cons (pv 3) pa_nil)))
    (pss_cons (ps_if (pt_cmpR op_eq (pe_ix ix_tup (pv 4) pe_int (fun _ _ => rfl)) pe_str (by rfl)) (pss_one (ps_asg (pe_op op_add (pe_ix ix_list (pv 5) (pe_ix ix_tup (pv 4) pe_int (fun _ _ => rfl)) (fun _ _ => rfl)) pe_int) (pg_sub (pv 5) (pe_ix ix_tup (pv 4) pe_int (fun _ _ => rfl)) set_list))) (pss_one (ps_if (pt_cmpR op_eq (pe_ix ix_list (pv 5) (pe_ix ix_tup (pv 4) pe_int (fun _ _ => rfl)) (fun _ _ => rfl)) pe_int (by rfl)) (pss_one (ps_ret (pe_tup (pa_cons (pe_ix ix_tup (pv 4) pe_int (fun _ _ => rfl)) (pa_cons (pv 3) pa_nil))))) (pss_one (ps_asg (pe_op op_sub (pe_ix ix_list (pv 5) (pe_ix ix_tup (pv 4) pe_int (fun _ _ => rfl)) (fun _ _ => rfl)) pe_int) (pg_sub (pv 5) (pe_ix ix_tup (pv 4) pe_int (fun _ _ => rfl)) set_list))))))
    (pss_one (ps_ret (pe_tup (pa_cons (pe_ix ix_tup (pv 4) pe_int (fun _ _ => rfl)) (pa_cons (pe_callTy call_tuple_of rfl M.tuple b_tuple (pa_cons (pv 5) pa_nil)) pa_nil))))))))))
theorem cl__law_next {P : Program} {w : World} {K : PySem.W.Frag} {mg : Str → Option Value} {base : Heap} {k : Nat} {A : Amb} {t : TS} (M : Hd w K mg) (G : Gd) (hl : ∀ as P', G as P' → as.length = 2)
    (hp : ∀ (f : Addr) (cdv : Value) (A' : Around) (outer : List Env) (s : Shared) (H : Hp) (E : XK), Room k (Bx P w K mg base ["_law_machine_here", "_law_standing_here", "_law_at", "_law_numbers", "_law_instruction", "_law_changed"] "_law_next" s__law_next f cdv A' outer s H E).A → PSs (Bx P w K mg base ["_law_machine_here", "_law_standing_here", "_law_at", "_law_numbers", "_law_instruction", "_law_changed"] "_law_next" s__law_next f cdv A' outer s H E) (defBody s__law_next) t)
    (hr : ∀ as P', G as P' → Rn K A t (as ++ List.replicate (6 - as.length) .emp) (retD P')) : Cal P w K mg base (k + 1) "_law_next" (spD K A G) :=
  cal_data M.d__law_next sc__law_next G hl (fun _ _ _ _ _ _ _ us _ hl => match us, hl with | [_, _], _ => rfl) hp hr
/-! _law_same -/
theorem sc__law_same : FnScope ["_law_told", "_law_due_here", "_law_k"] ["_law_told", "_law_due_here"] (defScope s__law_same) := ⟨rfl, rfl, rfl, by decide +kernel, rfl, by decide +kernel, by decide +kernel⟩
def t__law_same (K : PySem.W.Frag) (sp__law_same : Sp) : TS :=
  (tSeq (tIfS (tTest (tOp rIsN (tVar 1) (tC .non))) (tRet (tOp rIsN (tVar 0) (tC .non))) tNext)
    (tSeq (tIfS (tOr (tB (tCB (rIsi K) (tCons (tVar 1) (tCons (tC (.ty "bool")) tNil)))) (tB (tCB (rIsi K) (tCons (tVar 0) (tCons (tC (.ty "bool")) tNil))))) (tRet (tAndV (tCB (rIsi K) (tCons (tVar 1) (tCons (tC (.ty "bool")) tNil))) (tAndV (tCB (rIsi K) (tCons (tVar 0) (tCons (tC (.ty "bool")) tNil))) (tOp rEq (tVar 0) (tVar 1))))) tNext)
    (tSeq (tIfS (tOr (tB (tCB (rIsi K) (tCons (tVar 1) (tCons (tC (.ty "str")) tNil)))) (tB (tCB (rIsi K) (tCons (tVar 1) (tCons (tC (.ty "int")) tNil))))) (tRet (tAndV (tOp rEq (tCB (rIsi K) (tCons (tVar 0) (tCons (tC (.ty "str")) tNil))) (tCB (rIsi K) (tCons (tVar 1) (tCons (tC (.ty "str")) tNil)))) (tAndV (tCB (rIsiT K) (tCons (tVar 0) (tCons (tTup (tCons (tC (.ty "int")) (tCons (tC (.ty "str")) tNil))) tNil))) (tOp rEq (tVar 0) (tVar 1))))) tNext)
    (tSeq (tIfS (tOr (tTest (tOp rNe (tCB (rIsi K) (tCons (tVar 1) (tCons (tC (.ty "tuple")) tNil))) (tCB (rIsi K) (tCons (tVar 0) (tCons (tC (.ty "tuple")) tNil))))) (tNot (tB (tCB (rIsiT K) (tCons (tVar 0) (tCons (tTup (tCons (tC (.ty "list")) (tCons (tC (.ty "tuple")) tNil))) tNil)))))) (tRet (tC (.bl false))) tNext)
    (tRet (tAndV (tOp rEq (tCB (rLenSeq K) (tCons (tVar 0) tNil)) (tCB (rLenSeq K) (tCons (tVar 1) tNil))) (tCB (rAll K) (tCons (tLc (iRng1 (tCons (tCB (rLenSeq K) (tCons (tVar 1) tNil)) tNil)) (gName 2) tYes (tCall sp__law_same [] E0 (tCons (tOp (rIxT K) (tVar 0) (tVar 2)) (tCons (tOp (rIxT K) (tVar 1) (tVar 2)) tNil))) [2]) tNil))))))))
theorem pr__law_same {P : Program} {w : World} {K : PySem.W.Frag} {mg : Str → Option Value} {base : Heap} {k : Nat} (M : Hd w K mg) {k__law_same : Nat} {sp__law_same : Sp} (c__law_same : Cal P w K mg base k__law_same "_law_same" sp__law_same) (h__law_same : k__law_same ≤ k) (f : Addr) (cdv : Value) (A' : Around) (outer : List Env) (s : Shared) (H : Hp) (E : XK) (hr : Room k (Bx P w K mg base ["_law_told", "_law_due_here", "_law_k"] "_law_same" s__law_same f cdv A' outer s H E).A) :
    PSs (Bx P w K mg base ["_law_told", "_law_due_here", "_law_k"] "_law_same" s__law_same f cdv A' outer s H E) (defBody s__law_same) (t__law_same K sp__law_same) := by
  have nd := sc__law_same.nd
  have hu := Room.u200 hr
  exact (pss_cons (ps_if (pt_cmpR op_isN (pv 1) pe_non (by rfl)) (pss_one (ps_ret (pe_cmpR op_isN (pv 0) pe_non (by rfl)))) pss_nil)
    (pss_cons (ps_if (PW.pt (pw_or (pt_val (pe_callB call_isi rfl M.isinstance boot_isinstance (pa_cons (pv 1) (pa_cons (pe_ty rfl M.bool b_bool) pa_nil)))) (pw_or1 (pt_val (pe_callB call_isi rfl M.isinstance boot_isinstance (pa_cons (pv 0) (pa_cons (pe_ty rfl M.bool b_bool) pa_nil))))))) (pss_one (ps_ret (pe_and (pe_callB call_isi rfl M.isinstance boot_isinstance (pa_cons (pv 1) (pa_cons (pe_ty rfl M.bool b_bool) pa_nil))) (pe_and (pe_callB call_isi rfl M.isinstance boot_isinstance (pa_cons (pv 0) (pa_cons (pe_ty rfl M.bool b_bool) pa_nil))) (pe_one (pe_cmpR op_eq (pv 0) (pv 1) (by rfl))))))) pss_nil)
    (pss_cons (ps_if (PW.pt (pw_or (pt_val (pe_callB call_isi rfl M.isinstance boot_isinstance (pa_cons (pv 1) (pa_cons (pe_ty rfl M.str b_str) pa_nil)))) (pw_or1 (pt_val (pe_callB call_isi rfl M.isinstance boot_isinstance (pa_cons (pv 1) (pa_cons (pe_ty rfl M.int b_int) pa_nil))))))) (pss_one (ps_ret (pe_and (pe_cmpR op_eq (pe_callB call_isi rfl M.isinstance boot_isinstance (pa_cons (pv 0) (pa_cons (pe_ty rfl M.str b_str) pa_nil))) (pe_callB call_isi rfl M.isinstance boot_isinstance (pa_cons (pv 1) (pa_cons (pe_ty rfl M.str b_str) pa_nil))) (by rfl)) (pe_and (pe_callB call_isiT rfl M.isinstance boot_isinstance (pa_cons (pv 0) (pa_cons (pe_tup (pa_cons (pe_ty rfl M.int b_int) (pa_cons (pe_ty rfl M.str b_str) pa_nil))) pa_nil))) (pe_one (pe_cmpR op_eq (pv 0) (pv 1) (by rfl))))))) pss_nil)
    (pss_cons (ps_if (PW.pt (pw_or (pt_cmpR op_ne (pe_callB call_isi rfl M.isinstance boot_isinstance (pa_cons (pv 1) (pa_cons (pe_ty rfl M.tuple b_tuple) pa_nil))) (pe_callB call_isi rfl M.isinstance boot_isinstance (pa_cons (pv 0) (pa_cons (pe_ty rfl M.tuple b_tuple) pa_nil))) (by rfl)) (pw_or1 (pt_not (pt_val (pe_callB call_isiT rfl M.isinstance boot_isinstance (pa_cons (pv 0) (pa_cons (pe_tup (pa_cons (pe_ty rfl M.list b_list) (pa_cons (pe_ty rfl M.tuple b_tuple) pa_nil))) pa_nil)))))))) (pss_one (ps_ret pe_bl)) pss_nil)
    (pss_one (ps_ret (pe_and (pe_cmpR op_eq (pe_callB call_len_seq rfl M.len boot_len (pa_cons (pv 0) pa_nil)) (pe_callB call_len_seq rfl M.len boot_len (pa_cons (pv 1) pa_nil)) (by rfl)) (pe_one (pe_callB (cr_all rfl) rfl M.all boot_all (pa_cons (pe_lc (own := [("_law_k", 2)]) rfl nd (pi_range1 rfl M.range (pa_cons (pe_callB call_len_seq rfl M.len boot_len (pa_cons (pv 1) pa_nil)) pa_nil)) (blkOk_by (N := ["_law_told", "_law_due_here", "_law_k"]) (sc := defScope s__law_same) (by decide +kernel)) (fun _ _ _ _ _ => (pg_name (i := 2) nd rfl (by first | exact Or.inl rfl | exact Or.inr rfl))) (fun _ _ _ _ _ => pts_nil) (fun _ _ _ _ _ => (pe_cal c__law_same hr h__law_same rfl (pa_cons (pe_ix ix_tup (pv 0) (pv 2) (fun _ _ => rfl)) (pa_cons (pe_ix ix_tup (pv 1) (pv 2) (fun _ _ => rfl)) pa_nil))))) pa_nil))))))))))
theorem cl__law_same {P : Program} {w : World} {K : PySem.W.Frag} {mg : Str → Option Value} {base : Heap} {k : Nat} {A : Amb} {t : TS} (M : Hd w K mg) (G : Gd) (hl : ∀ as P', G as P' → as.length = 2)
    (hp : ∀ (f : Addr) (cdv : Value) (A' : Around) (outer : List Env) (s : Shared) (H : Hp) (E : XK), Room k (Bx P w K mg base ["_law_told", "_law_due_here", "_law_k"] "_law_same" s__law_same f cdv A' outer s H E).A → PSs (Bx P w K mg base ["_law_told", "_law_due_here", "_law_k"] "_law_same" s__law_same f cdv A' outer s H E) (defBody s__law_same) t)
    (hr : ∀ as P', G as P' → Rn K A t (as ++ List.replicate (3 - as.length) .emp) (retD P')) : Cal P w K mg base (k + 1) "_law_same" (spD K A G) :=
  cal_data M.d__law_same sc__law_same G hl (fun _ _ _ _ _ _ _ us _ hl => match us, hl with | [_, _], _ => rfl) hp hr
/-! _law_due -/
theorem sc__law_due : FnScope ["_law_machine_here", "_law_standing_here", "_law_many", "_law_steps", "_law_turn", "_law_after", "_law_cost"] ["_law_machine_here", "_law_standing_here", "_law_many"] (defScope s__law_due) := ⟨rfl, rfl, rfl, by decide +kernel, rfl, by decide +kernel, by decide +kernel⟩
def t__law_due (K : PySem.W.Frag) (sp__law_next : Sp) : TS :=
  (tSeq (tAsg (tC (.int 0)) (gName 3))
    (tSeq (tFor (iRng1 (tCons (tVar 2) tNil)) (gName 4) (tSeq (tAsg (tCall sp__law_next [] E0 (tCons (tVar 0) (tCons (tVar 1) tNil))) (gName 5))
    (tSeq (tIfS (tTest (tOp rIsN (tVar 5) (tC .non))) (tRet (tTup (tCons (tVar 1) (tCons (tCB rMin2 (tCons (tVar 2) (tCons (tC (.int 1)) tNil))) (tCons (tVar 3) tNil))))) tNext)
    (tSeq (tAsg (tOp (rIxL K) (tLst (tCons (tC (.int 2)) (tCons (tC (.int 4)) tNil))) (tBM K "list" (rIndex K) (tLst (tCons (tC (.str "up")) (tCons (tC (.str "down")) tNil))) (tCons (tOp (rIxT K) (tOp (rIxT K) (tVar 0) (tOp (rIxT K) (tVar 1) (tC (.int 0)))) (tC (.int 0))) tNil))) (gName 6))
    (tSeq (tIfS (tTest (tOp (rI0 fun i j => .bl (decide (j < i))) (tVar 6) (tVar 2))) (tRet (tTup (tCons (tVar 1) (tCons (tVar 2) (tCons (tVar 3) tNil))))) tNext)
    (tSeq (tAsg (tOp (rI0 fun i j => .int (i - j)) (tVar 2) (tVar 6)) (gName 2))
    (tSeq (tAsg (tVar 5) (gName 1))
    (tAsg (tOp (rI0 fun i j => .int (i + j)) (tVar 3) (tC (.int 1))) (gName 3)))))))))
    (tRet (tTup (tCons (tVar 1) (tCons (tC (.int 0)) (tCons (tVar 3) tNil)))))))
theorem pr__law_due {P : Program} {w : World} {K : PySem.W.Frag} {mg : Str → Option Value} {base : Heap} {k : Nat} (M : Hd w K mg) {k__law_next : Nat} {sp__law_next : Sp} (c__law_next : Cal P w K mg base k__law_next "_law_next" sp__law_next) (h__law_next : k__law_next ≤ k) (f : Addr) (cdv : Value) (A' : Around) (outer : List Env) (s : Shared) (H : Hp) (E : XK) (hr : Room k (Bx P w K mg base ["_law_machine_here", "_law_standing_here", "_law_many", "_law_steps", "_law_turn", "_law_after", "_law_cost"] "_law_due" s__law_due f cdv A' outer s H E).A) :
    PSs (Bx P w K mg base ["_law_machine_here", "_law_standing_here", "_law_many", "_law_steps", "_law_turn", "_law_after", "_law_cost"] "_law_due" s__law_due f cdv A' outer s H E) (defBody s__law_due) (t__law_due K sp__law_next) := by
  have nd := sc__law_due.nd
  have hu := Room.u200 hr
  exact (pss_cons (ps_set (i := 3) nd rfl (by first | exact Or.inl rfl | exact Or.inr rfl) pe_int)
    (pss_cons (ps_for PassesOwn.never rfl (pi_range1 rfl M.range (pa_cons (pv 2) pa_nil)) (pg_name (i := 4) nd rfl (by first | exact Or.inl rfl | exact Or.inr rfl)) (pss_cons (ps_set (i := 5) nd rfl (by first | exact Or.inl rfl | exact Or.inr rfl) (pe_cal c__law_next hr h__law_next rfl (pa_cons (pv 0) (pa_cons (pv 1) pa_nil))))
    (pss_cons (ps_if (pt_cmpR op_isN (pv 5) pe_non (by rfl)) (pss_one (ps_ret (pe_tup (pa_cons (pv 1) (pa_cons (pe_callB (call_min2 rfl) rfl M.min boot_min (pa_cons (pv 2) (pa_cons pe_int pa_nil))) (pa_cons (pv 3) pa_nil)))))) pss_nil)
    (pss_cons (ps_set (i := 6) nd rfl (by first | exact Or.inl rfl | exact Or.inr rfl) (pe_ix ix_list (pe_lst (pa_cons pe_int (pa_cons pe_int pa_nil))) (pe_bm PySem.F.plainAttrs_list PySem.F.slot_list_index PySem.F.type_list_index mt_index (pe_lst (pa_cons pe_str (pa_cons pe_str pa_nil))) (pa_cons (pe_ix ix_tup (pe_ix ix_tup (pv 0) (pe_ix ix_tup (pv 1) pe_int (fun _ _ => rfl)) (fun _ _ => rfl)) pe_int (fun _ _ => rfl)) pa_nil)) (fun _ _ => rfl)))
    (pss_cons (ps_if (pt_cmpR op_gt (pv 6) (pv 2) (by rfl)) (pss_one (ps_ret (pe_tup (pa_cons (pv 1) (pa_cons (pv 2) (pa_cons (pv 3) pa_nil)))))) pss_nil)
    (pss_cons (ps_set (i := 2) nd rfl (by first | exact Or.inl rfl | exact Or.inr rfl) (pe_op op_sub (pv 2) (pv 6)))
    (pss_cons (ps_set (i := 1) nd rfl (by first | exact Or.inl rfl | exact Or.inr rfl) (pv 5))
    (pss_one (ps_set (i := 3) nd rfl (by first | exact Or.inl rfl | exact Or.inr rfl) (pe_op op_add (pv 3) pe_int))))))))))
    (pss_one (ps_ret (pe_tup (pa_cons (pv 1) (pa_cons pe_int (pa_cons (pv 3) pa_nil))))))))
theorem cl__law_due {P : Program} {w : World} {K : PySem.W.Frag} {mg : Str → Option Value} {base : Heap} {k : Nat} {A : Amb} {t : TS} (M : Hd w K mg) (G : Gd) (hl : ∀ as P', G as P' → as.length = 3)
    (hp : ∀ (f : Addr) (cdv : Value) (A' : Around) (outer : List Env) (s : Shared) (H : Hp) (E : XK), Room k (Bx P w K mg base ["_law_machine_here", "_law_standing_here", "_law_many", "_law_steps", "_law_turn", "_law_after", "_law_cost"] "_law_due" s__law_due f cdv A' outer s H E).A → PSs (Bx P w K mg base ["_law_machine_here", "_law_standing_here", "_law_many", "_law_steps", "_law_turn", "_law_after", "_law_cost"] "_law_due" s__law_due f cdv A' outer s H E) (defBody s__law_due) t)
    (hr : ∀ as P', G as P' → Rn K A t (as ++ List.replicate (7 - as.length) .emp) (retD P')) : Cal P w K mg base (k + 1) "_law_due" (spD K A G) :=
  cal_data M.d__law_due sc__law_due G hl (fun _ _ _ _ _ _ _ us _ hl => match us, hl with | [_, _, _], _ => rfl) hp hr
/-! _law_great -/
theorem sc__law_great : FnScope ["_law_tape_here"] ["_law_tape_here"] (defScope s__law_great) := ⟨rfl, rfl, rfl, by decide +kernel, rfl, by decide +kernel, by decide +kernel⟩
def t__law_great (K : PySem.W.Frag) (sp__law_pick : Sp) : TS :=
  (tRet (tOp (rI0 fun i j => .int (i + j)) (tOp (rI CMul fun i j => .int (i * j)) (tCall sp__law_pick [] E0 (tCons (tVar 0) (tCons (tOp (rI CPow fun i j => .int (i ^ j.toNat)) (tC (.int 10)) (tC (.int 8))) tNil))) (tOp (rI CPow fun i j => .int (i ^ j.toNat)) (tC (.int 10)) (tC (.int 16)))) (tOp (rI CMul fun i j => .int (i * j)) (tCall sp__law_pick [] E0 (tCons (tVar 0) (tCons (tOp (rI CPow fun i j => .int (i ^ j.toNat)) (tC (.int 10)) (tC (.int 8))) tNil))) (tOp (rI CPow fun i j => .int (i ^ j.toNat)) (tC (.int 10)) (tC (.int 8))))))
theorem pr__law_great {P : Program} {w : World} {K : PySem.W.Frag} {mg : Str → Option Value} {base : Heap} {k : Nat} (M : Hd w K mg) {k__law_pick : Nat} {sp__law_pick : Sp} (c__law_pick : Cal P w K mg base k__law_pick "_law_pick" sp__law_pick) (h__law_pick : k__law_pick ≤ k) (f : Addr) (cdv : Value) (A' : Around) (outer : List Env) (s : Shared) (H : Hp) (E : XK) (hr : Room k (Bx P w K mg base ["_law_tape_here"] "_law_great" s__law_great f cdv A' outer s H E).A) :
    PSs (Bx P w K mg base ["_law_tape_here"] "_law_great" s__law_great f cdv A' outer s H E) (defBody s__law_great) (t__law_great K sp__law_pick) := by
  have nd := sc__law_great.nd
  have hu := Room.u200 hr
  exact (pss_one (ps_ret (pe_op op_add (pe_op op_mul (pe_cal c__law_pick hr h__law_pick rfl (pa_cons (pv 0) (pa_cons (pe_op op_pow pe_int pe_int) pa_nil))) (pe_op op_pow pe_int pe_int)) (pe_op op_mul (pe_cal c__law_pick hr h__law_pick rfl (pa_cons (pv 0) (pa_cons (pe_op op_pow pe_int pe_int) pa_nil))) (pe_op op_pow pe_int pe_int)))))
theorem cl__law_great {P : Program} {w : World} {K : PySem.W.Frag} {mg : Str → Option Value} {base : Heap} {k : Nat} {A : Amb} {t : TS} (M : Hd w K mg) (G : Gd) (hl : ∀ as P', G as P' → as.length = 1)
    (hp : ∀ (f : Addr) (cdv : Value) (A' : Around) (outer : List Env) (s : Shared) (H : Hp) (E : XK), Room k (Bx P w K mg base ["_law_tape_here"] "_law_great" s__law_great f cdv A' outer s H E).A → PSs (Bx P w K mg base ["_law_tape_here"] "_law_great" s__law_great f cdv A' outer s H E) (defBody s__law_great) t)
    (hr : ∀ as P', G as P' → Rn K A t (as ++ List.replicate (1 - as.length) .emp) (retD P')) : Cal P w K mg base (k + 1) "_law_great" (spD K A G) :=
  cal_data M.d__law_great sc__law_great G hl (fun _ _ _ _ _ _ _ us _ hl => match us, hl with | [_], _ => rfl) hp hr
/-! _law_asked -/
theorem sc__law_asked : FnScope ["_law_tape_here", "_law_machine_here", "_law_standing_here", "_law_k", "_law_many", "_law_behind", "_law_left", "_law_steps"] ["_law_tape_here", "_law_machine_here"] (defScope s__law_asked) := ⟨rfl, rfl, rfl, by decide +kernel, rfl, by decide +kernel, by decide +kernel⟩
def t__law_asked (K : PySem.W.Frag) (sp__law_standing : Sp) (sp__law_pick : Sp) (sp__law_great : Sp) (sp__law_due : Sp) (sp_told_steps : Sp) (sp__law_same : Sp) (sp_done : Sp) : TS :=
  (tSeq (tAsg (tCall sp__law_standing [] E0 (tCons (tVar 0) (tCons (tVar 1) (tCons (tC (.int 3)) tNil)))) (gName 2))
    (tSeq (tIfS (tTest (tOp rEq (tCall sp__law_pick [] E0 (tCons (tVar 0) (tCons (tC (.int 4)) tNil))) (tC (.int 0)))) (tAsg (tTup (tCons (tOp (rIxT K) (tVar 2) (tC (.int 0))) (tCons (tCB (rTupOf K) (tCons (tLc (iRng1 (tCons (tC (.int 4)) tNil)) (gName 3) tYes (tCall sp__law_great [] E0 (tCons (tVar 0) tNil)) [3]) tNil)) tNil))) (gName 2)) tNext)
    (tSeq (tAsg (tCall sp__law_pick [] E0 (tCons (tVar 0) (tCons (tC (.int 30)) tNil))) (gName 4))
    (tSeq (tAsg (tCall sp__law_due [] E0 (tCons (tVar 1) (tCons (tVar 2) (tCons (tVar 4) tNil)))) (gTup K 3 (gCons (gName 5) (gCons (gName 6) (gCons (gName 7) gNil)))))
    (tSeq (tIfS (tNot (tB (tCall sp__law_same [] E0 (tCons (tCall sp_told_steps [] E0 (tCons (tVar 1) (tCons (tVar 2) (tCons (tVar 4) tNil)))) (tCons (tTup (tCons (tVar 5) (tCons (tVar 6) tNil))) tNil))))) (tRet (tC (.bl false))) tNext)
    (tRet (tCall sp__law_same [] E0 (tCons (tCall sp_done [] E0 (tCons (tVar 1) (tCons (tVar 2) (tCons (tVar 7) tNil)))) (tCons (tVar 5) tNil)))))))))
theorem pr__law_asked {P : Program} {w : World} {K : PySem.W.Frag} {mg : Str → Option Value} {base : Heap} {k : Nat} (M : Hd w K mg) {k__law_standing : Nat} {sp__law_standing : Sp} (c__law_standing : Cal P w K mg base k__law_standing "_law_standing" sp__law_standing) (h__law_standing : k__law_standing ≤ k) {k__law_pick : Nat} {sp__law_pick : Sp} (c__law_pick : Cal P w K mg base k__law_pick "_law_pick" sp__law_pick) (h__law_pick : k__law_pick ≤ k) {k__law_great : Nat} {sp__law_great : Sp} (c__law_great : Cal P w K mg base k__law_great "_law_great" sp__law_great) (h__law_great : k__law_great ≤ k) {k__law_due : Nat} {sp__law_due : Sp} (c__law_due : Cal P w K mg base k__law_due "_law_due" sp__law_due) (h__law_due : k__law_due ≤ k) {k_told_steps : Nat} {sp_told_steps : Sp} (c_told_steps : Cal P w K mg base k_told_steps "told_steps" sp_told_steps) (h_told_steps : k_told_steps ≤ k) {k__law_same : Nat} {sp__law_same : Sp} (c__law_same : Cal P w K mg base k__law_same "_law_same" sp__law_same) (h__law_same : k__law_same ≤ k) {k_done : Nat} {sp_done : Sp} (c_done : Cal P w K mg base k_done "done" sp_done) (h_done : k_done ≤ k) (f : Addr) (cdv : Value) (A' : Around) (outer : List Env) (s : Shared) (H : Hp) (E : XK) (hr : Room k (Bx P w K mg base ["_law_tape_here", "_law_machine_here", "_law_standing_here", "_law_k", "_law_many", "_law_behind", "_law_left", "_law_steps"] "_law_asked" s__law_asked f cdv A' outer s H E).A) :
    PSs (Bx P w K mg base ["_law_tape_here", "_law_machine_here", "_law_standing_here", "_law_k", "_law_many", "_law_behind", "_law_left", "_law_steps"] "_law_asked" s__law_asked f cdv A' outer s H E) (defBody s__law_asked) (t__law_asked K sp__law_standing sp__law_pick sp__law_great sp__law_due sp_told_steps sp__law_same sp_done) := by
  have nd := sc__law_asked.nd
  have hu := Room.u200 hr
  exact (pss_cons (ps_set (i := 2) nd rfl (by first | exact Or.inl rfl | exact Or.inr rfl) (pe_cal c__law_standing hr h__law_standing rfl (pa_cons (pv 0) (pa_cons (pv 1) (pa_cons pe_int pa_nil)))))
    (pss_cons (ps_if (pt_cmpR op_eq (pe_cal c__law_pick hr h__law_pick rfl (pa_cons (pv 0) (pa_cons pe_int pa_nil))) pe_int (by rfl)) (pss_one (ps_set (i := 2) nd rfl (by first | exact Or.inl rfl | exact Or.inr rfl) (pe_tup (pa_cons (pe_ix ix_tup (pv 2) pe_int (fun _ _ => rfl)) (pa_cons (pe_callTy call_tuple_of rfl M.tuple b_tuple (pa_cons (pe_lc (own := [("_law_k", 3)]) rfl nd (pi_range1 rfl M.range (pa_cons pe_int pa_nil)) (blkOk_by (N := ["_law_tape_here", "_law_machine_here", "_law_standing_here", "_law_k", "_law_many", "_law_behind", "_law_left", "_law_steps"]) (sc := defScope s__law_asked) (by decide +kernel)) (fun _ _ _ _ _ => (pg_name (i := 3) nd rfl (by first | exact Or.inl rfl | exact Or.inr rfl))) (fun _ _ _ _ _ => pts_nil) (fun _ _ _ _ _ => (pe_cal c__law_great hr h__law_great rfl (pa_cons (pv 0) pa_nil)))) pa_nil)) pa_nil))))) pss_nil)
    (pss_cons (ps_set (i := 4) nd rfl (by first | exact Or.inl rfl | exact Or.inr rfl) (pe_cal c__law_pick hr h__law_pick rfl (pa_cons (pv 0) (pa_cons pe_int pa_nil))))
    (pss_cons (ps_asg (pe_cal c__law_due hr h__law_due rfl (pa_cons (pv 1) (pa_cons (pv 2) (pa_cons (pv 4) pa_nil)))) (pg_tup rfl (pgs_cons (pg_name (i := 5) nd rfl (by first | exact Or.inl rfl | exact Or.inr rfl)) (pgs_cons (pg_name (i := 6) nd rfl (by first | exact Or.inl rfl | exact Or.inr rfl)) (pgs_cons (pg_name (i := 7) nd rfl (by first | exact Or.inl rfl | exact Or.inr rfl)) pgs_nil)))))
    (pss_cons (ps_if (pt_not (pt_val (pe_cal c__law_same hr h__law_same rfl (pa_cons (pe_cal c_told_steps hr h_told_steps rfl (pa_cons (pv 1) (pa_cons (pv 2) (pa_cons (pv 4) pa_nil)))) (pa_cons (pe_tup (pa_cons (pv 5) (pa_cons (pv 6) pa_nil))) pa_nil))))) (pss_one (ps_ret pe_bl)) pss_nil)
    (pss_one (ps_ret (pe_cal c__law_same hr h__law_same rfl (pa_cons (pe_cal c_done hr h_done rfl (pa_cons (pv 1) (pa_cons (pv 2) (pa_cons (pv 7) pa_nil)))) (pa_cons (pv 5) pa_nil))))))))))
theorem cl__law_asked {P : Program} {w : World} {K : PySem.W.Frag} {mg : Str → Option Value} {base : Heap} {k : Nat} {A : Amb} {t : TS} (M : Hd w K mg) (G : Gd) (hl : ∀ as P', G as P' → as.length = 2)
    (hp : ∀ (f : Addr) (cdv : Value) (A' : Around) (outer : List Env) (s : Shared) (H : Hp) (E : XK), Room k (Bx P w K mg base ["_law_tape_here", "_law_machine_here", "_law_standing_here", "_law_k", "_law_many", "_law_behind", "_law_left", "_law_steps"] "_law_asked" s__law_asked f cdv A' outer s H E).A → PSs (Bx P w K mg base ["_law_tape_here", "_law_machine_here", "_law_standing_here", "_law_k", "_law_many", "_law_behind", "_law_left", "_law_steps"] "_law_asked" s__law_asked f cdv A' outer s H E) (defBody s__law_asked) t)
    (hr : ∀ as P', G as P' → Rn K A t (as ++ List.replicate (8 - as.length) .emp) (retD P')) : Cal P w K mg base (k + 1) "_law_asked" (spD K A G) :=
  cal_data M.d__law_asked sc__law_asked G hl (fun _ _ _ _ _ _ _ us _ hl => match us, hl with | [_, _], _ => rfl) hp hr
/-! _law_run_by -/
theorem sc__law_run_by : FnScope ["_law_tape_here", "_law_machine_here", "_law_standing_here", "_law_many", "_law_behind", "_law_left", "_law_steps", "_law_halted", "_law_can", "_law_one", "_law_last", "_law_due_here"] ["_law_tape_here", "_law_machine_here"] (defScope s__law_run_by) := ⟨rfl, rfl, rfl, by decide +kernel, rfl, by decide +kernel, by decide +kernel⟩
def t__law_run_by (K : PySem.W.Frag) (sp__law_standing : Sp) (sp__law_pick : Sp) (sp__law_due : Sp) (sp__law_sorts : Sp) (sp_plan_of : Sp) (sp_run : Sp) (sp_standing_of : Sp) (sp__law_same : Sp) : TS :=
  (tSeq (tAsg (tCall sp__law_standing [] E0 (tCons (tVar 0) (tCons (tVar 1) (tCons (tC (.int 3)) tNil)))) (gName 2))
    (tSeq (tAsg (tCall sp__law_pick [] E0 (tCons (tVar 0) (tCons (tC (.int 8)) tNil))) (gName 3))
    (tSeq (tAsg (tCall sp__law_due [] E0 (tCons (tVar 1) (tCons (tVar 2) (tCons (tVar 3) tNil)))) (gTup K 3 (gCons (gName 4) (gCons (gName 5) (gCons (gName 6) gNil)))))
    (tSeq (tAsg (tOp rEq (tOp (rIxT K) (tOp (rIxT K) (tVar 1) (tOp (rIxT K) (tVar 4) (tC (.int 0)))) (tC (.int 0))) (tC (.str "halt"))) (gName 7))
    (tSeq (tAsg (tVar 3) (gName 8))
    (tSeq (tIfS (tB (tVar 7)) (tAsg (tOp (rI0 fun i j => .int (i + j)) (tCB (rSum K) (tCons (tLc (iList K (tCall sp__law_sorts [] E0 (tCons (tVar 1) (tCons (tVar 2) (tCons (tVar 6) tNil))))) (gName 9) tYes (tOp (rIxL K) (tLst (tCons (tC (.int 2)) (tCons (tC (.int 4)) tNil))) (tBM K "list" (rIndex K) (tLst (tCons (tC (.str "up")) (tCons (tC (.str "down")) tNil))) (tCons (tVar 9) tNil))) [9]) tNil)) (tVar 5)) (gName 8)) tNext)
    (tSeq (tAsg (tOp (rIxT K) (tCall sp_run [] E0 (tCons (tCall sp_plan_of [] E0 (tCons (tVar 1) (tCons (tVar 2) tNil))) (tCons (tOp rRep (tLst (tCons (tC (.int 0)) tNil)) (tVar 8)) tNil))) (tUn (rU fun i => .int (-i)) (tC (.int 1)))) (gName 10))
    (tSeq (tAsg (tIf (tTest (tOp rEq (tVar 5) (tC (.int 0)))) (tVar 4) (tC .non)) (gName 11))
    (tRet (tCall sp__law_same [] E0 (tCons (tCall sp_standing_of [] E0 (tCons (tVar 1) (tCons (tVar 10) tNil))) (tCons (tVar 11) tNil))))))))))))
theorem pr__law_run_by {P : Program} {w : World} {K : PySem.W.Frag} {mg : Str → Option Value} {base : Heap} {k : Nat} (M : Hd w K mg) {k__law_standing : Nat} {sp__law_standing : Sp} (c__law_standing : Cal P w K mg base k__law_standing "_law_standing" sp__law_standing) (h__law_standing : k__law_standing ≤ k) {k__law_pick : Nat} {sp__law_pick : Sp} (c__law_pick : Cal P w K mg base k__law_pick "_law_pick" sp__law_pick) (h__law_pick : k__law_pick ≤ k) {k__law_due : Nat} {sp__law_due : Sp} (c__law_due : Cal P w K mg base k__law_due "_law_due" sp__law_due) (h__law_due : k__law_due ≤ k) {k__law_sorts : Nat} {sp__law_sorts : Sp} (c__law_sorts : Cal P w K mg base k__law_sorts "_law_sorts" sp__law_sorts) (h__law_sorts : k__law_sorts ≤ k) {k_plan_of : Nat} {sp_plan_of : Sp} (c_plan_of : Cal P w K mg base k_plan_of "plan_of" sp_plan_of) (h_plan_of : k_plan_of ≤ k) {k_run : Nat} {sp_run : Sp} (c_run : Cal P w K mg base k_run "run" sp_run) (h_run : k_run ≤ k) {k_standing_of : Nat} {sp_standing_of : Sp} (c_standing_of : Cal P w K mg base k_standing_of "standing_of" sp_standing_of) (h_standing_of : k_standing_of ≤ k) {k__law_same : Nat} {sp__law_same : Sp} (c__law_same : Cal P w K mg base k__law_same "_law_same" sp__law_same) (h__law_same : k__law_same ≤ k) (f : Addr) (cdv : Value) (A' : Around) (outer : List Env) (s : Shared) (H : Hp) (E : XK) (hr : Room k (Bx P w K mg base ["_law_tape_here", "_law_machine_here", "_law_standing_here", "_law_many", "_law_behind", "_law_left", "_law_steps", "_law_halted", "_law_can", "_law_one", "_law_last", "_law_due_here"] "_law_run_by" s__law_run_by f cdv A' outer s H E).A) :
    PSs (Bx P w K mg base ["_law_tape_here", "_law_machine_here", "_law_standing_here", "_law_many", "_law_behind", "_law_left", "_law_steps", "_law_halted", "_law_can", "_law_one", "_law_last", "_law_due_here"] "_law_run_by" s__law_run_by f cdv A' outer s H E) (defBody s__law_run_by) (t__law_run_by K sp__law_standing sp__law_pick sp__law_due sp__law_sorts sp_plan_of sp_run sp_standing_of sp__law_same) := by
  have nd := sc__law_run_by.nd
  have hu := Room.u200 hr
  exact (pss_cons (ps_set (i := 2) nd rfl (by first | exact Or.inl rfl | exact Or.inr rfl) (pe_cal c__law_standing hr h__law_standing rfl (pa_cons (pv 0) (pa_cons (pv 1) (pa_cons pe_int pa_nil)))))
    (pss_cons (ps_set (i := 3) nd rfl (by first | exact Or.inl rfl | exact Or.inr rfl) (pe_cal c__law_pick hr h__law_pick rfl (pa_cons (pv 0) (pa_cons pe_int pa_nil))))
    (pss_cons (ps_asg (pe_cal c__law_due hr h__law_due rfl (pa_cons (pv 1) (pa_cons (pv 2) (pa_cons (pv 3) pa_nil)))) (pg_tup rfl (pgs_cons (pg_name (i := 4) nd rfl (by first | exact Or.inl rfl | exact Or.inr rfl)) (pgs_cons (pg_name (i := 5) nd rfl (by first | exact Or.inl rfl | exact Or.inr rfl)) (pgs_cons (pg_name (i := 6) nd rfl (by first | exact Or.inl rfl | exact Or.inr rfl)) pgs_nil)))))
    (pss_cons (ps_set (i := 7) nd rfl (by first | exact Or.inl rfl | exact Or.inr rfl) (pe_cmpR op_eq (pe_ix ix_tup (pe_ix ix_tup (pv 1) (pe_ix ix_tup (pv 4) pe_int (fun _ _ => rfl)) (fun _ _ => rfl)) pe_int (fun _ _ => rfl)) pe_str (by rfl)))
    (pss_cons (ps_set (i := 8) nd rfl (by first | exact Or.inl rfl | exact Or.inr rfl) (pv 3))
    (pss_cons (ps_if (pt_val (pv 7)) (pss_one (ps_set (i := 8) nd rfl (by first | exact Or.inl rfl | exact Or.inr rfl) (pe_op op_add (pe_callB (cr_sum rfl) rfl M.sum boot_sum (pa_cons (pe_lc (own := [("_law_one", 9)]) rfl nd (pi_list (pe_cal c__law_sorts hr h__law_sorts rfl (pa_cons (pv 1) (pa_cons (pv 2) (pa_cons (pv 6) pa_nil))))) (blkOk_by (N := ["_law_tape_here", "_law_machine_here", "_law_standing_here", "_law_many", "_law_behind", "_law_left", "_law_steps", "_law_halted", "_law_can", "_law_one", "_law_last", "_law_due_here"]) (sc := defScope s__law_run_by) (by decide +kernel)) (fun _ _ _ _ _ => (pg_name (i := 9) nd rfl (by first | exact Or.inl rfl | exact Or.inr rfl))) (fun _ _ _ _ _ => pts_nil) (fun _ _ _ _ _ => (pe_ix ix_list (pe_lst (pa_cons pe_int (pa_cons pe_int pa_nil))) (pe_bm PySem.F.plainAttrs_list PySem.F.slot_list_index PySem.F.type_list_index mt_index (pe_lst (pa_cons pe_str (pa_cons pe_str pa_nil))) (pa_cons (pv 9) pa_nil)) (fun _ _ => rfl)))) pa_nil)) (pv 5)))) pss_nil)
    (pss_cons (ps_set (i := 10) nd rfl (by first | exact Or.inl rfl | exact Or.inr rfl) (pe_ix ix_tup (pe_cal c_run hr h_run rfl (pa_cons (pe_cal c_plan_of hr h_plan_of rfl (pa_cons (pv 1) (pa_cons (pv 2) pa_nil))) (pa_cons (pe_op op_rep (pe_lst (pa_cons pe_int pa_nil)) (pv 8)) pa_nil))) (pe_un un_neg pe_int) (fun _ _ => rfl)))
    (pss_cons (ps_set (i := 11) nd rfl (by first | exact Or.inl rfl | exact Or.inr rfl) (pe_ifExp (pt_cmpR op_eq (pv 5) pe_int (by rfl)) (pv 4) pe_non))
    (pss_one (ps_ret (pe_cal c__law_same hr h__law_same rfl (pa_cons (pe_cal c_standing_of hr h_standing_of rfl (pa_cons (pv 1) (pa_cons (pv 10) pa_nil))) (pa_cons (pv 11) pa_nil)))))))))))))
theorem cl__law_run_by {P : Program} {w : World} {K : PySem.W.Frag} {mg : Str → Option Value} {base : Heap} {k : Nat} {A : Amb} {t : TS} (M : Hd w K mg) (G : Gd) (hl : ∀ as P', G as P' → as.length = 2)
    (hp : ∀ (f : Addr) (cdv : Value) (A' : Around) (outer : List Env) (s : Shared) (H : Hp) (E : XK), Room k (Bx P w K mg base ["_law_tape_here", "_law_machine_here", "_law_standing_here", "_law_many", "_law_behind", "_law_left", "_law_steps", "_law_halted", "_law_can", "_law_one", "_law_last", "_law_due_here"] "_law_run_by" s__law_run_by f cdv A' outer s H E).A → PSs (Bx P w K mg base ["_law_tape_here", "_law_machine_here", "_law_standing_here", "_law_many", "_law_behind", "_law_left", "_law_steps", "_law_halted", "_law_can", "_law_one", "_law_last", "_law_due_here"] "_law_run_by" s__law_run_by f cdv A' outer s H E) (defBody s__law_run_by) t)
    (hr : ∀ as P', G as P' → Rn K A t (as ++ List.replicate (12 - as.length) .emp) (retD P')) : Cal P w K mg base (k + 1) "_law_run_by" (spD K A G) :=
  cal_data M.d__law_run_by sc__law_run_by G hl (fun _ _ _ _ _ _ _ us _ hl => match us, hl with | [_, _], _ => rfl) hp hr
/-! _law_sorts -/
theorem sc__law_sorts : FnScope ["_law_machine_here", "_law_standing_here", "_law_steps", "_law_found", "_law_turn"] ["_law_machine_here", "_law_standing_here", "_law_steps"] (defScope s__law_sorts) := ⟨rfl, rfl, rfl, by decide +kernel, rfl, by decide +kernel, by decide +kernel⟩
def t__law_sorts (K : PySem.W.Frag) (sp__law_next : Sp) : TS :=
  (tSeq (tAsg (tLst tNil) (gName 3))
    (tSeq (tFor (iRng1 (tCons (tVar 2) tNil)) (gName 4) (tSeq (tDrop (tBM K "list" rAppend (tVar 3) (tCons (tOp (rIxT K) (tOp (rIxT K) (tVar 0) (tOp (rIxT K) (tVar 1) (tC (.int 0)))) (tC (.int 0))) tNil)))
    (tAsg (tCall sp__law_next [] E0 (tCons (tVar 0) (tCons (tVar 1) tNil))) (gName 1))))
    (tRet (tVar 3))))
theorem pr__law_sorts {P : Program} {w : World} {K : PySem.W.Frag} {mg : Str → Option Value} {base : Heap} {k : Nat} (M : Hd w K mg) {k__law_next : Nat} {sp__law_next : Sp} (c__law_next : Cal P w K mg base k__law_next "_law_next" sp__law_next) (h__law_next : k__law_next ≤ k) (f : Addr) (cdv : Value) (A' : Around) (outer : List Env) (s : Shared) (H : Hp) (E : XK) (hr : Room k (Bx P w K mg base ["_law_machine_here", "_law_standing_here", "_law_steps", "_law_found", "_law_turn"] "_law_sorts" s__law_sorts f cdv A' outer s H E).A) :
    PSs (Bx P w K mg base ["_law_machine_here", "_law_standing_here", "_law_steps", "_law_found", "_law_turn"] "_law_sorts" s__law_sorts f cdv A' outer s H E) (defBody s__law_sorts) (t__law_sorts K sp__law_next) := by
  have nd := sc__law_sorts.nd
  have hu := Room.u200 hr
  exact (pss_cons (ps_set (i := 3) nd rfl (by first | exact Or.inl rfl | exact Or.inr rfl) (pe_lst pa_nil))
    (pss_cons (ps_for PassesOwn.never rfl (pi_range1 rfl M.range (pa_cons (pv 2) pa_nil)) (pg_name (i := 4) nd rfl (by first | exact Or.inl rfl | exact Or.inr rfl)) (pss_cons (ps_expr (pe_bm PySem.F.plainAttrs_list PySem.F.slot_list_append PySem.F.type_list_append mt_append (pv 3) (pa_cons (pe_ix ix_tup (pe_ix ix_tup (pv 0) (pe_ix ix_tup (pv 1) pe_int (fun _ _ => rfl)) (fun _ _ => rfl)) pe_int (fun _ _ => rfl)) pa_nil)))
    (pss_one (ps_set (i := 1) nd rfl (by first | exact Or.inl rfl | exact Or.inr rfl) (pe_cal c__law_next hr h__law_next rfl (pa_cons (pv 0) (pa_cons (pv 1) pa_nil)))))))
    (pss_one (ps_ret (pv 3)))))
theorem cll__law_sorts {P : Program} {w : World} {K : PySem.W.Frag} {mg : Str → Option Value} {base : Heap} {k : Nat} {A : Amb} {t : TS} (M : Hd w K mg) (G : Gl') (hl : ∀ as P', G as P' → as.length = 3)
    (hp : ∀ (f : Addr) (cdv : Value) (A' : Around) (outer : List Env) (s : Shared) (H : Hp) (E : XK), Room k (Bx P w K mg base ["_law_machine_here", "_law_standing_here", "_law_steps", "_law_found", "_law_turn"] "_law_sorts" s__law_sorts f cdv A' outer s H E).A → PSs (Bx P w K mg base ["_law_machine_here", "_law_standing_here", "_law_steps", "_law_found", "_law_turn"] "_law_sorts" s__law_sorts f cdv A' outer s H E) (defBody s__law_sorts) t)
    (hr : ∀ as P', G as P' → Rn K A t (as ++ List.replicate (5 - as.length) .emp) (retL P')) : Cal P w K mg base (k + 1) "_law_sorts" (spL K A G) :=
  cal_list M.d__law_sorts sc__law_sorts G hl (fun _ _ _ _ _ _ _ us _ hl => match us, hl with | [_, _, _], _ => rfl) hp hr
/-! _law_for_ever -/
theorem sc__law_for_ever : FnScope ["_law_tape_here", "_law_machine_here", "_law_many", "_law_whole", "_law_told"] ["_law_tape_here"] (defScope s__law_for_ever) := ⟨rfl, rfl, rfl, by decide +kernel, rfl, by decide +kernel, by decide +kernel⟩
def t__law_for_ever (K : PySem.W.Frag) (sp__law_pick : Sp) (sp_told_steps : Sp) (sp__law_same : Sp) : TS :=
  (tSeq (tAsg (tTup (tCons (tTup (tCons (tC (.str "up")) (tCons (tC (.int 0)) (tCons (tC (.int 1)) tNil)))) (tCons (tTup (tCons (tC (.str "up")) (tCons (tC (.int 1)) (tCons (tC (.int 0)) tNil)))) tNil))) (gName 1))
    (tSeq (tAsg (tCall sp__law_pick [] E0 (tCons (tVar 0) (tCons (tC (.int 20001)) tNil))) (gName 2))
    (tSeq (tAsg (tOp (rI CDivN fun i j => .int (i.fdiv j)) (tVar 2) (tC (.int 2))) (gName 3))
    (tSeq (tAsg (tCall sp_told_steps [] E0 (tCons (tVar 1) (tCons (tTup (tCons (tC (.int 0)) (tCons (tTup (tCons (tC (.int 5)) (tCons (tC (.int 0)) (tCons (tC (.int 0)) (tCons (tC (.int 0)) tNil))))) tNil))) (tCons (tVar 2) tNil)))) (gName 4))
    (tRet (tCall sp__law_same [] E0 (tCons (tVar 4) (tCons (tTup (tCons (tTup (tCons (tOp (rI0 fun i j => .int (i - j)) (tVar 3) (tOp (rI CMul fun i j => .int (i * j)) (tOp (rI CDivN fun i j => .int (i.fdiv j)) (tVar 3) (tC (.int 2))) (tC (.int 2)))) (tCons (tTup (tCons (tOp (rI0 fun i j => .int (i - j)) (tOp (rI0 fun i j => .int (i + j)) (tC (.int 5)) (tVar 3)) (tOp (rI CDivN fun i j => .int (i.fdiv j)) (tVar 3) (tC (.int 2)))) (tCons (tOp (rI CDivN fun i j => .int (i.fdiv j)) (tVar 3) (tC (.int 2))) (tCons (tC (.int 0)) (tCons (tC (.int 0)) tNil))))) tNil))) (tCons (tOp (rI0 fun i j => .int (i - j)) (tVar 2) (tOp (rI CMul fun i j => .int (i * j)) (tVar 3) (tC (.int 2)))) tNil))) tNil))))))))
theorem pr__law_for_ever {P : Program} {w : World} {K : PySem.W.Frag} {mg : Str → Option Value} {base : Heap} {k : Nat} (M : Hd w K mg) {k__law_pick : Nat} {sp__law_pick : Sp} (c__law_pick : Cal P w K mg base k__law_pick "_law_pick" sp__law_pick) (h__law_pick : k__law_pick ≤ k) {k_told_steps : Nat} {sp_told_steps : Sp} (c_told_steps : Cal P w K mg base k_told_steps "told_steps" sp_told_steps) (h_told_steps : k_told_steps ≤ k) {k__law_same : Nat} {sp__law_same : Sp} (c__law_same : Cal P w K mg base k__law_same "_law_same" sp__law_same) (h__law_same : k__law_same ≤ k) (f : Addr) (cdv : Value) (A' : Around) (outer : List Env) (s : Shared) (H : Hp) (E : XK) (hr : Room k (Bx P w K mg base ["_law_tape_here", "_law_machine_here", "_law_many", "_law_whole", "_law_told"] "_law_for_ever" s__law_for_ever f cdv A' outer s H E).A) :
    PSs (Bx P w K mg base ["_law_tape_here", "_law_machine_here", "_law_many", "_law_whole", "_law_told"] "_law_for_ever" s__law_for_ever f cdv A' outer s H E) (defBody s__law_for_ever) (t__law_for_ever K sp__law_pick sp_told_steps sp__law_same) := by
  have nd := sc__law_for_ever.nd
  have hu := Room.u200 hr
  exact (pss_cons (ps_set (i := 1) nd rfl (by first | exact Or.inl rfl | exact Or.inr rfl) (pe_tup (pa_cons (pe_tup (pa_cons pe_str (pa_cons pe_int (pa_cons pe_int pa_nil)))) (pa_cons (pe_tup (pa_cons pe_str (pa_cons pe_int (pa_cons pe_int pa_nil)))) pa_nil))))
    (pss_cons (ps_set (i := 2) nd rfl (by first | exact Or.inl rfl | exact Or.inr rfl) (pe_cal c__law_pick hr h__law_pick rfl (pa_cons (pv 0) (pa_cons pe_int pa_nil))))
    (pss_cons (ps_set (i := 3) nd rfl (by first | exact Or.inl rfl | exact Or.inr rfl) (pe_op op_fdivN (pv 2) pe_int))
    (pss_cons (ps_set (i := 4) nd rfl (by first | exact Or.inl rfl | exact Or.inr rfl) (pe_cal c_told_steps hr h_told_steps rfl (pa_cons (pv 1) (pa_cons (pe_tup (pa_cons pe_int (pa_cons (pe_tup (pa_cons pe_int (pa_cons pe_int (pa_cons pe_int (pa_cons pe_int pa_nil))))) pa_nil))) (pa_cons (pv 2) pa_nil)))))
    (pss_one (ps_ret (pe_cal c__law_same hr h__law_same rfl (pa_cons (pv 4) (pa_cons (pe_tup (pa_cons (pe_tup (pa_cons (pe_op op_sub (pv 3) (pe_op op_mul (pe_op op_fdivN (pv 3) pe_int) pe_int)) (pa_cons (pe_tup (pa_cons (pe_op op_sub (pe_op op_add pe_int (pv 3)) (pe_op op_fdivN (pv 3) pe_int)) (pa_cons (pe_op op_fdivN (pv 3) pe_int) (pa_cons pe_int (pa_cons pe_int pa_nil))))) pa_nil))) (pa_cons (pe_op op_sub (pv 2) (pe_op op_mul (pv 3) pe_int)) pa_nil))) pa_nil)))))))))
theorem cl__law_for_ever {P : Program} {w : World} {K : PySem.W.Frag} {mg : Str → Option Value} {base : Heap} {k : Nat} {A : Amb} {t : TS} (M : Hd w K mg) (G : Gd) (hl : ∀ as P', G as P' → as.length = 1)
    (hp : ∀ (f : Addr) (cdv : Value) (A' : Around) (outer : List Env) (s : Shared) (H : Hp) (E : XK), Room k (Bx P w K mg base ["_law_tape_here", "_law_machine_here", "_law_many", "_law_whole", "_law_told"] "_law_for_ever" s__law_for_ever f cdv A' outer s H E).A → PSs (Bx P w K mg base ["_law_tape_here", "_law_machine_here", "_law_many", "_law_whole", "_law_told"] "_law_for_ever" s__law_for_ever f cdv A' outer s H E) (defBody s__law_for_ever) t)
    (hr : ∀ as P', G as P' → Rn K A t (as ++ List.replicate (5 - as.length) .emp) (retD P')) : Cal P w K mg base (k + 1) "_law_for_ever" (spD K A G) :=
  cal_data M.d__law_for_ever sc__law_for_ever G hl (fun _ _ _ _ _ _ _ us _ hl => match us, hl with | [_], _ => rfl) hp hr
/-! law -/
theorem sc_law : FnScope ["_law_script", "_law_tape_here", "_law_great_here", "_law_most", "_law_machine_here", "_law_turn"] ["_law_script"] (defScope s_law) := ⟨rfl, rfl, rfl, by decide +kernel, rfl, by decide +kernel, by decide +kernel⟩
def t_law (K : PySem.W.Frag) (sp__law_tape : Sp) (sp__law_pick : Sp) (sp__law_machine : Sp) (sp__law_asked : Sp) (sp__law_run_by : Sp) (sp__law_for_ever : Sp) : TS :=
  (tSeq (tAsg (tCall sp__law_tape [] E0 (tCons (tVar 0) tNil)) (gName 1))
    (tSeq (tAsg (tOp rEq (tCall sp__law_pick [] E0 (tCons (tVar 1) (tCons (tC (.int 8)) tNil))) (tC (.int 0))) (gName 2))
    (tSeq (tAsg (tIf (tTest (tOp rEq (tCall sp__law_pick [] E0 (tCons (tVar 1) (tCons (tC (.int 6)) tNil))) (tC (.int 0)))) (tC (.int 12)) (tC (.int 4))) (gName 3))
    (tSeq (tAsg (tCall sp__law_machine [] E0 (tCons (tVar 1) (tCons (tVar 3) tNil))) (gName 4))
    (tSeq (tFor (iRng1 (tCons (tCB rMax2 (tCons (tC (.int 2)) (tCons (tCB rMin2 (tCons (tC (.int 5)) (tCons (tCB (rLenSeq K) (tCons (tVar 0) tNil)) tNil))) tNil))) tNil)) (gName 5) (tIfS (tNot (tB (tCall sp__law_asked [] E0 (tCons (tVar 1) (tCons (tVar 4) tNil))))) (tRet (tC (.bl false))) tNext))
    (tRet (tAndV (tCall sp__law_run_by [] E0 (tCons (tVar 1) (tCons (tVar 4) tNil))) (tOrV (tNotV (tVar 2)) (tCall sp__law_for_ever [] E0 (tCons (tVar 1) tNil))))))))))
theorem pr_law {P : Program} {w : World} {K : PySem.W.Frag} {mg : Str → Option Value} {base : Heap} {k : Nat} (M : Hd w K mg) {k__law_tape : Nat} {sp__law_tape : Sp} (c__law_tape : Cal P w K mg base k__law_tape "_law_tape" sp__law_tape) (h__law_tape : k__law_tape ≤ k) {k__law_pick : Nat} {sp__law_pick : Sp} (c__law_pick : Cal P w K mg base k__law_pick "_law_pick" sp__law_pick) (h__law_pick : k__law_pick ≤ k) {k__law_machine : Nat} {sp__law_machine : Sp} (c__law_machine : Cal P w K mg base k__law_machine "_law_machine" sp__law_machine) (h__law_machine : k__law_machine ≤ k) {k__law_asked : Nat} {sp__law_asked : Sp} (c__law_asked : Cal P w K mg base k__law_asked "_law_asked" sp__law_asked) (h__law_asked : k__law_asked ≤ k) {k__law_run_by : Nat} {sp__law_run_by : Sp} (c__law_run_by : Cal P w K mg base k__law_run_by "_law_run_by" sp__law_run_by) (h__law_run_by : k__law_run_by ≤ k) {k__law_for_ever : Nat} {sp__law_for_ever : Sp} (c__law_for_ever : Cal P w K mg base k__law_for_ever "_law_for_ever" sp__law_for_ever) (h__law_for_ever : k__law_for_ever ≤ k) (f : Addr) (cdv : Value) (A' : Around) (outer : List Env) (s : Shared) (H : Hp) (E : XK) (hr : Room k (Bx P w K mg base ["_law_script", "_law_tape_here", "_law_great_here", "_law_most", "_law_machine_here", "_law_turn"] "law" s_law f cdv A' outer s H E).A) :
    PSs (Bx P w K mg base ["_law_script", "_law_tape_here", "_law_great_here", "_law_most", "_law_machine_here", "_law_turn"] "law" s_law f cdv A' outer s H E) (defBody s_law) (t_law K sp__law_tape sp__law_pick sp__law_machine sp__law_asked sp__law_run_by sp__law_for_ever) := by
  have nd := sc_law.nd
  have hu := Room.u200 hr
  exact (pss_cons (ps_set (i := 1) nd rfl (by first | exact Or.inl rfl | exact Or.inr rfl) (pe_cal c__law_tape hr h__law_tape rfl (pa_cons (pv 0) pa_nil)))
    (pss_cons (ps_set (i := 2) nd rfl (by first | exact Or.inl rfl | exact Or.inr rfl) (pe_cmpR op_eq (pe_cal c__law_pick hr h__law_pick rfl (pa_cons (pv 1) (pa_cons pe_int pa_nil))) pe_int (by rfl)))
    (pss_cons (ps_set (i := 3) nd rfl (by first | exact Or.inl rfl | exact Or.inr rfl) (pe_ifExp (pt_cmpR op_eq (pe_cal c__law_pick hr h__law_pick rfl (pa_cons (pv 1) (pa_cons pe_int pa_nil))) pe_int (by rfl)) pe_int pe_int))
    (pss_cons (ps_set (i := 4) nd rfl (by first | exact Or.inl rfl | exact Or.inr rfl) (pe_cal c__law_machine hr h__law_machine rfl (pa_cons (pv 1) (pa_cons (pv 3) pa_nil))))
    (pss_cons (ps_for PassesOwn.never rfl (pi_range1 rfl M.range (pa_cons (pe_callB (call_max2 rfl) rfl M.max boot_max (pa_cons pe_int (pa_cons (pe_callB (call_min2 rfl) rfl M.min boot_min (pa_cons pe_int (pa_cons (pe_callB call_len_seq rfl M.len boot_len (pa_cons (pv 0) pa_nil)) pa_nil))) pa_nil))) pa_nil)) (pg_name (i := 5) nd rfl (by first | exact Or.inl rfl | exact Or.inr rfl)) (pss_one (ps_if (pt_not (pt_val (pe_cal c__law_asked hr h__law_asked rfl (pa_cons (pv 1) (pa_cons (pv 4) pa_nil))))) (pss_one (ps_ret pe_bl)) pss_nil)))
    (pss_one (ps_ret (pe_and (pe_cal c__law_run_by hr h__law_run_by rfl (pa_cons (pv 1) (pa_cons (pv 4) pa_nil))) (pe_one (pe_or (pe_not (pv 2)) (pe_one (pe_cal c__law_for_ever hr h__law_for_ever rfl (pa_cons (pv 1) pa_nil)))))))))))))
theorem cl_law {P : Program} {w : World} {K : PySem.W.Frag} {mg : Str → Option Value} {base : Heap} {k : Nat} {A : Amb} {t : TS} (M : Hd w K mg) (G : Gd) (hl : ∀ as P', G as P' → as.length = 1)
    (hp : ∀ (f : Addr) (cdv : Value) (A' : Around) (outer : List Env) (s : Shared) (H : Hp) (E : XK), Room k (Bx P w K mg base ["_law_script", "_law_tape_here", "_law_great_here", "_law_most", "_law_machine_here", "_law_turn"] "law" s_law f cdv A' outer s H E).A → PSs (Bx P w K mg base ["_law_script", "_law_tape_here", "_law_great_here", "_law_most", "_law_machine_here", "_law_turn"] "law" s_law f cdv A' outer s H E) (defBody s_law) t)
    (hr : ∀ as P', G as P' → Rn K A t (as ++ List.replicate (6 - as.length) .emp) (retD P')) : Cal P w K mg base (k + 1) "law" (spD K A G) :=
  cal_data M.d_law sc_law G hl (fun _ _ _ _ _ _ _ us _ hl => match us, hl with | [_], _ => rfl) hp hr
end K87
/-! Plans, their data, their order, their plain forms. -/
namespace K87
open PySem PyProof.Rows PySem.W
/-- a part; each item of a plan has the count 1 here -/
inductive Part where
  | name (w : Str)
  | got (d : Nat)
  | node (k : Bool) (c : Nat) (p : List Part)
abbrev Pl := List Part
/-- induction over parts and plans -/
theorem Part.ind {P : Part → Prop} {Q : Pl → Prop} (h1 : ∀ w, P (.name w)) (h2 : ∀ d, P (.got d)) (h3 : ∀ k c p, Q p → P (.node k c p)) (h4 : Q []) (h5 : ∀ x r, P x → Q r → Q (x :: r)) : (∀ x, P x) ∧ ∀ p, Q p :=
  ⟨fun x => Part.rec (motive_1 := P) (motive_2 := Q) h1 h2 h3 h4 (fun x r a b => h5 x r a b) x, fun p => Part.rec_1 (motive_1 := P) (motive_2 := Q) h1 h2 h3 h4 (fun x r a b => h5 x r a b) p⟩
theorem Pl.ind {Q : Pl → Prop} (h4 : Q []) (h1 : ∀ w r, Q r → Q (.name w :: r)) (h2 : ∀ d r, Q r → Q (.got d :: r)) (h3 : ∀ k c p r, Q p → Q r → Q (.node k c p :: r)) : ∀ p, Q p :=
  (Part.ind (P := fun x => ∀ r, Q r → Q (x :: r)) (Q := Q) (fun w r => h1 w r) (fun d r => h2 d r) (fun k c p hp r => h3 k c p r hp) h4 fun x r hx hr => hx r hr).2
def door (c : Nat) : Str := ⟨#[97 + c]⟩
def kw (k : Bool) : Str := if k then "wait" else "letter"
mutual
def Part.enc : Part → PyData
  | .name w => .tuple [.str "name", .str w]
  | .got d => .tuple [.str "got", .int d]
  | .node k c p => .tuple [.str (kw k), .str (door c), .tuple (encL p)]
def encL : Pl → List PyData
  | [] => []
  | x :: r => .tuple [.int 1, x.enc] :: encL r
end
def itm (x : Part) : PyData := .tuple [.int 1, x.enc]
theorem encL_map (p : Pl) : encL p = p.map itm := by
  induction p with
  | nil => rw [encL]; rfl
  | cons x r ih => rw [encL, ih]; rfl
theorem encL_length (p : Pl) : (encL p).length = p.length := by rw [encL_map, List.length_map]
theorem encL_append (p q : Pl) : encL (p ++ q) = encL p ++ encL q := by rw [encL_map, encL_map, encL_map, List.map_append]
theorem encL_get (p : Pl) (i : Nat) : (encL p)[i]? = p[i]?.map itm := by rw [encL_map, List.getElem?_map]
def plan (p : Pl) : PyData := .tuple (encL p)
mutual
/-- how many letters and waits stand in one another -/
def Part.dp : Part → Nat
  | .node _ _ p => dpL p + 1
  | _ => 0
def dpL : Pl → Nat
  | [] => 0
  | x :: r => max x.dp (dpL r)
end
mutual
def Part.size : Part → Nat
  | .node _ _ p => sizeL p + 1
  | _ => 1
def sizeL : Pl → Nat
  | [] => 0
  | x :: r => x.size + sizeL r
end
mutual
/-- items in all -/
def Part.cnt : Part → Nat
  | .node _ _ p => cntL p + 1
  | _ => 1
def cntL : Pl → Nat
  | [] => 0
  | x :: r => x.cnt + cntL r
end
def Part.rank : Part → Int
  | .name _ => 0
  | .got _ => 2
  | .node k _ _ => if k then 4 else 3
def Part.third : Part → PyData
  | .name w => .str w
  | .got d => .int d
  | .node _ c _ => .str (door c)
mutual
def Part.key : Part → PyData
  | .name w => .tuple [.int 1, .int 0, .str w, .tuple []]
  | .got d => .tuple [.int 1, .int 2, .int d, .tuple []]
  | .node k c p => .tuple [.int (1 + sizeL p : Nat), .int (if k then 4 else 3), .str (door c), .tuple (keyL p)]
def keyL : Pl → List PyData
  | [] => []
  | x :: r => .tuple [x.key, .int 1] :: keyL r
end
def kitm (x : Part) : PyData := .tuple [x.key, .int 1]
theorem keyL_map (p : Pl) : keyL p = p.map kitm := by
  induction p with
  | nil => rw [keyL]; rfl
  | cons x r ih => rw [keyL, ih]; rfl
/-! ### the order, as a row of signs -/
abbrev Sg := Int ⊕ List Nat
def sgOf : PyData → Sg
  | .int i => .inl i
  | .str x => .inr x.cps.toList
  | _ => .inl 0
def key3 (x : Part) : List Sg := [.inl x.size, .inl x.rank, sgOf x.third]
mutual
def Part.code : Part → List Sg
  | .name w => [.inl 1, .inl 0, .inr w.cps.toList]
  | .got d => [.inl 1, .inl 2, .inl d]
  | .node k c p => .inl ((sizeL p + 1 : Nat) : Int) :: .inl (if k then 4 else 3) :: .inr [97 + c] :: codeL p
def codeL : Pl → List Sg
  | [] => [.inl (-1)]
  | x :: r => .inl (-2) :: (x.code ++ codeL r)
end
theorem code_key3 (x : Part) : ∃ r, x.code = key3 x ++ r := by
  cases x with
  | name w => exact ⟨[], by rw [Part.code]; simp [key3, Part.size, Part.rank, Part.third, sgOf]⟩
  | got d => exact ⟨[], by rw [Part.code]; simp [key3, Part.size, Part.rank, Part.third, sgOf]⟩
  | node k c p => exact ⟨codeL p, by rw [Part.code]; simp [key3, Part.size, Part.rank, Part.third, sgOf, door]⟩
theorem str_ext {x y : Str} (h : x.cps.toList = y.cps.toList) : x = y := by
  have hc : x.cps = y.cps := Array.toList_inj.mp h
  cases x; cases y
  simp only [Str.mk.injEq]
  exact hc
theorem code_inj : (∀ x : Part, ∀ y l m, x.code ++ l = y.code ++ m → x = y ∧ l = m) ∧ ∀ p : Pl, ∀ q l m, codeL p ++ l = codeL q ++ m → p = q ∧ l = m := by
  refine Part.ind (P := fun x => ∀ y l m, x.code ++ l = y.code ++ m → x = y ∧ l = m) (Q := fun p => ∀ q l m, codeL p ++ l = codeL q ++ m → p = q ∧ l = m) ?_ ?_ ?_ ?_ ?_
  · intro w y l m h
    cases y with
    | name v =>
      simp only [Part.code, List.cons_append, List.nil_append, List.cons.injEq, Sum.inr.injEq, true_and] at h
      exact ⟨by rw [str_ext h.1], h.2⟩
    | got d => simp [Part.code] at h
    | node k c p => cases k <;> simp [Part.code] at h
  · intro d y l m h
    cases y with
    | name v => simp [Part.code] at h
    | got e =>
      simp only [Part.code, List.cons_append, List.nil_append, List.cons.injEq, Sum.inl.injEq, true_and] at h
      exact ⟨by rw [show d = e by omega], h.2⟩
    | node k c p => cases k <;> simp [Part.code] at h
  · intro k c p ih y l m h
    cases y with
    | name v => cases k <;> simp [Part.code] at h
    | got e => cases k <;> simp [Part.code] at h
    | node k' c' p' =>
      simp only [Part.code, List.cons_append, List.cons.injEq, Sum.inl.injEq, Sum.inr.injEq] at h
      obtain ⟨h1, h2, h3, h4⟩ := h
      obtain ⟨e1, e2⟩ := ih p' l m h4
      have ek : k = k' := by cases k <;> cases k' <;> simp at h2 <;> rfl
      have ec : c = c' := by have := h3.1; omega
      exact ⟨by rw [ek, ec, e1], e2⟩
  · intro q l m h
    cases q with
    | nil => simp only [codeL, List.cons_append, List.nil_append, List.cons.injEq, true_and] at h; exact ⟨rfl, h⟩
    | cons x r => simp [codeL] at h
  · intro x r hx hr q l m h
    cases q with
    | nil => simp [codeL] at h
    | cons y s =>
      simp only [codeL, List.cons_append, List.append_assoc, List.cons.injEq, true_and] at h
      obtain ⟨e1, e2⟩ := hx y _ _ h
      obtain ⟨e3, e4⟩ := hr s l m e2
      exact ⟨by rw [e1, e3], e4⟩
theorem code_inj1 {x y : Part} (h : x.code = y.code) : x = y := (code_inj.1 x y [] [] (by rw [h])).1
/-- x comes no later than y -/
def ple (x y : Part) : Bool := sortLe (listOrd itemOrd) false Part.code x y
theorem ple_total : TotalLe ple := sortLe_total (listOrd itemOrd) false Part.code
theorem ple_anti {x y : Part} (h1 : ple x y = true) (h2 : ple y x = true) : x = y := by
  have h1' : (!PyProof.Rows.lexLt itemOrd y.code x.code) = true := h1
  have h2' : (!PyProof.Rows.lexLt itemOrd x.code y.code) = true := h2
  exact code_inj1 (lex_total (O := itemOrd) _ _ (by simpa using h2') (by simpa using h1'))
def sortK (p : Pl) : Pl := p.mergeSort ple
theorem sortK_perm (p : Pl) : (sortK p).Perm p := List.mergeSort_perm p ple
theorem sortK_sorted (p : Pl) : (sortK p).Pairwise (fun a b => ple a b = true) := sort_pairwise ple_total p
theorem sortK_congr {p q : Pl} (h : p.Perm q) : sortK p = sortK q := by
  have hp : (sortK p).Perm (sortK q) := (sortK_perm p).trans (h.trans (sortK_perm q).symm)
  exact hp.eq_of_pairwise (fun a b _ _ h1 h2 => ple_anti h1 h2) (sortK_sorted p) (sortK_sorted q)
theorem sortK_self {p : Pl} (h : p.Pairwise (fun a b => ple a b = true)) : sortK p = p :=
  (sortK_perm p).eq_of_pairwise (fun a b _ _ h1 h2 => ple_anti h1 h2) (sortK_sorted p) h
mutual
def Part.plain : Part → Part
  | .node k c p => .node k c (sortK (plainM p))
  | .name w => .name w
  | .got d => .got d
def plainM : Pl → Pl
  | [] => []
  | x :: r => x.plain :: plainM r
end
theorem plainM_map (p : Pl) : plainM p = p.map Part.plain := by
  induction p with
  | nil => rw [plainM]; rfl
  | cons x r ih => rw [plainM, ih]; rfl
/-- the plain form -/
def plainL (p : Pl) : Pl := sortK (p.map Part.plain)
theorem plain_node (k : Bool) (c : Nat) (p : Pl) : (Part.node k c p).plain = .node k c (plainL p) := by rw [Part.plain, plainM_map]; rfl
theorem plain_name (w : Str) : (Part.name w).plain = .name w := by rw [Part.plain]
theorem plain_got (d : Nat) : (Part.got d).plain = .got d := by rw [Part.plain]
theorem plainL_perm (p : Pl) : (plainL p).Perm (p.map Part.plain) := sortK_perm _
theorem plainL_congr {p q : Pl} (h : (p.map Part.plain).Perm (q.map Part.plain)) : plainL p = plainL q := sortK_congr h
theorem plain_idem : (∀ x : Part, x.plain.plain = x.plain) ∧ ∀ p : Pl, (plainL p).map Part.plain = plainL p := by
  have key : ∀ p : Pl, (∀ x ∈ p, x.plain.plain = x.plain) → (plainL p).map Part.plain = plainL p := fun p h => by
    have g : ∀ x ∈ plainL p, x.plain = x := fun x hx => by
      obtain ⟨y, hy, e⟩ := List.mem_map.mp ((plainL_perm p).mem_iff.mp hx)
      rw [← e]
      exact h y hy
    rw [show (plainL p).map Part.plain = (plainL p).map id from List.map_congr_left g, List.map_id]
  have main : (∀ x : Part, x.plain.plain = x.plain) ∧ ∀ p : Pl, ∀ x ∈ p, x.plain.plain = x.plain := by
    refine Part.ind (P := fun x => x.plain.plain = x.plain) (Q := fun p => ∀ x ∈ p, x.plain.plain = x.plain) ?_ ?_ ?_ ?_ ?_
    · intro w; rw [plain_name, plain_name]
    · intro d; rw [plain_got, plain_got]
    · intro k c p h
      rw [plain_node, plain_node]
      congr 1
      show sortK ((plainL p).map Part.plain) = plainL p
      rw [key p h]
      exact sortK_self (sortK_sorted _)
    · intro x hx; cases hx
    · intro x r hx hr y hy
      rcases List.mem_cons.mp hy with z | z
      · rw [z]; exact hx
      · exact hr y z
  exact ⟨main.1, fun p => key p (main.2 p)⟩
theorem plainL_idem (p : Pl) : plainL (plainL p) = plainL p := by
  show sortK ((plainL p).map Part.plain) = plainL p
  rw [plain_idem.2]
  exact sortK_self (sortK_sorted _)
theorem plainL_map (p : Pl) : plainL (p.map Part.plain) = plainL p := plainL_congr (by
  rw [List.map_map]
  refine List.Perm.of_eq (List.map_congr_left fun x _ => plain_idem.1 x))
theorem plainL_eq_iff {p q : Pl} : plainL p = plainL q ↔ (p.map Part.plain).Perm (q.map Part.plain) :=
  ⟨fun h => (plainL_perm p).symm.trans (by rw [h]; exact plainL_perm q), plainL_congr⟩
/-! ### mapping over the leaves -/
mutual
def mapPart (act : Part → Nat → Pl) : Part → Nat → Pl
  | .node k c p, d => [.node k c (mapM act p (if k then d + 1 else d))]
  | .name w, d => act (.name w) d
  | .got e, d => act (.got e) d
def mapM (act : Part → Nat → Pl) : Pl → Nat → Pl
  | [], _ => []
  | x :: r, d => mapPart act x d ++ mapM act r d
end
theorem mapM_flat (act : Part → Nat → Pl) (p : Pl) (d : Nat) : mapM act p d = p.flatMap (fun x => mapPart act x d) := by
  induction p with
  | nil => rw [mapM]; rfl
  | cons x r ih => rw [mapM, ih]; rfl
theorem mapM_append (act : Part → Nat → Pl) (p q : Pl) (d : Nat) : mapM act (p ++ q) d = mapM act p d ++ mapM act q d := by rw [mapM_flat, mapM_flat, mapM_flat, List.flatMap_append]
theorem mapM_node (act : Part → Nat → Pl) (k : Bool) (c : Nat) (p r : Pl) (d : Nat) : mapM act (.node k c p :: r) d = .node k c (mapM act p (if k then d + 1 else d)) :: mapM act r d := by rw [mapM, mapPart]; rfl
theorem mapM_got (act : Part → Nat → Pl) (e : Nat) (r : Pl) (d : Nat) : mapM act (.got e :: r) d = act (.got e) d ++ mapM act r d := by rw [mapM, mapPart]
theorem mapM_name (act : Part → Nat → Pl) (w : Str) (r : Pl) (d : Nat) : mapM act (.name w :: r) d = act (.name w) d ++ mapM act r d := by rw [mapM, mapPart]
theorem mapM_nil (act : Part → Nat → Pl) (d : Nat) : mapM act [] d = [] := by rw [mapM]
def bindAct (w : Str) : Part → Nat → Pl
  | .name v, d => if v = w then [.got d] else [.name v]
  | x, _ => [x]
def liftAct (by_ least : Nat) : Part → Nat → Pl
  | .got e, d => if d + least ≤ e then [.got (e + by_)] else [.got e]
  | x, _ => [x]
def raiseP (p : Pl) (by_ least : Nat) : Pl := mapM (liftAct by_ least) p 0
def bringAct (o : Pl) : Part → Nat → Pl
  | .got e, d => if e = d then raiseP o d 0 else if d < e then [.got (e - 1)] else [.got e]
  | x, _ => [x]
def bringP (b o : Pl) : Pl := mapM (bringAct o) b 0
theorem flat_perm {α β : Type} {f g : α → List β} : ∀ {p q : List α}, p.Perm q → (∀ x ∈ p, (f x).Perm (g x)) → (p.flatMap f).Perm (q.flatMap g) := by
  intro p q h
  induction h with
  | nil => intro _; exact List.Perm.refl _
  | cons x _ ih => intro hf; exact (hf x List.mem_cons_self).append (ih fun y hy => hf y (List.mem_cons_of_mem _ hy))
  | swap x y l =>
    intro hf
    rw [List.flatMap_cons, List.flatMap_cons, List.flatMap_cons, List.flatMap_cons, ← List.append_assoc, ← List.append_assoc]
    refine List.Perm.append ?_ ?_
    · exact (List.Perm.append (hf y (by simp)) (hf x (by simp))).trans List.perm_append_comm
    · have : ∀ r : List α, (∀ z ∈ r, (f z).Perm (g z)) → (r.flatMap f).Perm (r.flatMap g) := by
        intro r
        induction r with
        | nil => intro _; exact List.Perm.refl _
        | cons z r ih => intro h; exact (h z List.mem_cons_self).append (ih fun y hy => h y (List.mem_cons_of_mem _ hy))
      exact this l fun z hz => hf z (by simp [hz])
  | trans h1 h2 ih1 ih2 =>
    intro hf
    have r : ∀ x, ((fun x => g x) x).Perm (g x) := fun x => List.Perm.refl _
    have h3 := ih1 hf
    refine h3.trans ?_
    have same : ∀ {p q : List α}, p.Perm q → (p.flatMap g).Perm (q.flatMap g) := fun h => h.flatMap_right g
    exact same h2
/-- acting, then making plain: it makes no matter whether all was plain ahead -/
theorem map_plain {act act' : Part → Nat → Pl} (h : ∀ x d, ((act x d).map Part.plain).Perm ((act' x d).map Part.plain)) :
    (∀ x : Part, ∀ d, ((mapPart act x.plain d).map Part.plain).Perm ((mapPart act' x d).map Part.plain)) ∧ ∀ p : Pl, ∀ d, ((mapM act (plainL p) d).map Part.plain).Perm ((mapM act' p d).map Part.plain) := by
  have step : ∀ (p : Pl) d, (∀ x ∈ p, ((mapPart act x.plain d).map Part.plain).Perm ((mapPart act' x d).map Part.plain)) → ((mapM act (plainL p) d).map Part.plain).Perm ((mapM act' p d).map Part.plain) := fun p d hx => by
    rw [mapM_flat, mapM_flat, List.map_flatMap, List.map_flatMap]
    have h1 : ((plainL p).flatMap fun x => (mapPart act x d).map Part.plain).Perm ((p.map Part.plain).flatMap fun x => (mapPart act x d).map Part.plain) := (plainL_perm p).flatMap_right _
    refine h1.trans ?_
    rw [List.flatMap_map]
    exact flat_perm (List.Perm.refl p) hx
  have main : (∀ x : Part, ∀ d, ((mapPart act x.plain d).map Part.plain).Perm ((mapPart act' x d).map Part.plain)) ∧ ∀ p : Pl, ∀ d, ∀ x ∈ p, ((mapPart act x.plain d).map Part.plain).Perm ((mapPart act' x d).map Part.plain) := by
    refine Part.ind (P := fun x => ∀ d, ((mapPart act x.plain d).map Part.plain).Perm ((mapPart act' x d).map Part.plain)) (Q := fun p => ∀ d, ∀ x ∈ p, ((mapPart act x.plain d).map Part.plain).Perm ((mapPart act' x d).map Part.plain)) ?_ ?_ ?_ ?_ ?_
    · intro w d; rw [plain_name, mapPart, mapPart]; exact h _ _
    · intro e d; rw [plain_got, mapPart, mapPart]; exact h _ _
    · intro k c p hp d
      rw [plain_node, mapPart, mapPart, List.map_cons, List.map_nil, List.map_cons, List.map_nil, plain_node, plain_node, plainL_congr (step p _ (hp _))]
    · intro d x hx; cases hx
    · intro x r hx hr d y hy
      rcases List.mem_cons.mp hy with z | z
      · rw [z]; exact hx d
      · exact hr d y z
  exact ⟨main.1, fun p d => step p d (main.2 p d)⟩
theorem raise_plain (o : Pl) (b l : Nat) : ((raiseP (plainL o) b l).map Part.plain).Perm ((raiseP o b l).map Part.plain) := (map_plain fun x d => List.Perm.refl _).2 o 0
theorem bring_plain (b o : Pl) : plainL (bringP (plainL b) (plainL o)) = plainL (bringP b o) := plainL_congr ((map_plain fun x d => by
  cases x with
  | got e =>
    show ((if e = d then raiseP (plainL o) d 0 else if d < e then [.got (e - 1)] else [.got e]).map Part.plain).Perm ((if e = d then raiseP o d 0 else if d < e then [.got (e - 1)] else [.got e]).map Part.plain)
    split
    · exact raise_plain o d 0
    · exact List.Perm.refl _
  | _ => exact List.Perm.refl _).2 b 0)
end K87
/-! Sound plans: closed, each level with parts of different tags, no wait right in a wait at its door. -/
namespace K87
open PySem PyProof.Rows PySem.W
def Part.tag (x : Part) : Int × Sg := (x.rank, sgOf x.third)
mutual
def Part.ok (d : Nat) : Part → Prop
  | .name _ => False
  | .got e => e < d
  | .node k c p => c < 26 ∧ okM (if k then d + 1 else d) p ∧ (p.map Part.tag).Nodup ∧ (k = true → ∀ q, Part.node true c q ∉ p)
def okM (d : Nat) : Pl → Prop
  | [] => True
  | x :: r => x.ok d ∧ okM d r
end
theorem okM_iff {d : Nat} (p : Pl) : okM d p ↔ ∀ x ∈ p, x.ok d := by
  induction p with
  | nil => rw [okM]; simp
  | cons x r ih => rw [okM, ih]; simp
/-- a sound plan within d waits -/
def okL (d : Nat) (p : Pl) : Prop := (∀ x ∈ p, x.ok d) ∧ (p.map Part.tag).Nodup
theorem ok_node {d : Nat} {k : Bool} {c : Nat} {p : Pl} : (Part.node k c p).ok d ↔ c < 26 ∧ okL (if k then d + 1 else d) p ∧ (k = true → ∀ q, Part.node true c q ∉ p) := by
  rw [Part.ok, okM_iff]
  unfold okL
  constructor
  · rintro ⟨a, b, c, d⟩; exact ⟨a, ⟨b, c⟩, d⟩
  · rintro ⟨a, ⟨b, c⟩, d⟩; exact ⟨a, b, c, d⟩
theorem ok_got {d e : Nat} : (Part.got e).ok d ↔ e < d := by rw [Part.ok]
theorem ok_name {d : Nat} {w : Str} : ¬ (Part.name w).ok d := by rw [Part.ok]; exact id
theorem okL_perm {d : Nat} {p q : Pl} (h : p.Perm q) (o : okL d p) : okL d q := ⟨fun x hx => o.1 x (h.mem_iff.mpr hx), (h.map _).nodup_iff.mp o.2⟩
theorem tag_plain (x : Part) : x.plain.tag = x.tag := by
  cases x with
  | name w => rw [plain_name]
  | got d => rw [plain_got]
  | node k c p => rw [plain_node]; rfl
theorem ok_mono : (∀ x : Part, ∀ d e, d ≤ e → x.ok d → x.ok e) ∧ ∀ p : Pl, ∀ d e, d ≤ e → (∀ x ∈ p, x.ok d) → ∀ x ∈ p, x.ok e := by
  refine Part.ind (P := fun x => ∀ d e, d ≤ e → x.ok d → x.ok e) (Q := fun p => ∀ d e, d ≤ e → (∀ x ∈ p, x.ok d) → ∀ x ∈ p, x.ok e) ?_ ?_ ?_ ?_ ?_
  · intro w d e _ h; exact (ok_name h).elim
  · intro g d e h1 h2; rw [ok_got] at h2 ⊢; omega
  · intro k c p ih d e h1 h2
    rw [ok_node] at h2 ⊢
    refine ⟨h2.1, ⟨ih _ _ ?_ h2.2.1.1, h2.2.1.2⟩, h2.2.2⟩
    cases k <;> simp <;> omega
  · intro d e _ _ x hx; cases hx
  · intro x r hx hr d e h1 h2 y hy
    rcases List.mem_cons.mp hy with z | z
    · rw [z]; exact hx d e h1 (h2 x List.mem_cons_self)
    · exact hr d e h1 (fun a ha => h2 a (List.mem_cons_of_mem _ ha)) y z
theorem okL_mono {p : Pl} {d e : Nat} (h : d ≤ e) (o : okL d p) : okL e p := ⟨ok_mono.2 p d e h o.1, o.2⟩
theorem ok_plain : (∀ x : Part, ∀ d, x.plain.ok d ↔ x.ok d) ∧ ∀ p : Pl, ∀ d, okL d (plainL p) ↔ okL d p := by
  have step : ∀ (p : Pl) d, (∀ x ∈ p, (x.plain.ok d ↔ x.ok d)) → (okL d (plainL p) ↔ okL d p) := fun p d h => by
    have e : okL d (plainL p) ↔ okL d (p.map Part.plain) := ⟨okL_perm (plainL_perm p), okL_perm (plainL_perm p).symm⟩
    rw [e]
    unfold okL
    rw [List.map_map, show (Part.tag ∘ Part.plain) = Part.tag from funext tag_plain]
    refine and_congr_left fun _ => ⟨fun g x hx => (h x hx).mp (g _ (List.mem_map.mpr ⟨x, hx, rfl⟩)), fun g x hx => ?_⟩
    obtain ⟨y, hy, e⟩ := List.mem_map.mp hx
    rw [← e]
    exact (h y hy).mpr (g y hy)
  have main : (∀ x : Part, ∀ d, x.plain.ok d ↔ x.ok d) ∧ ∀ p : Pl, ∀ d, ∀ x ∈ p, (x.plain.ok d ↔ x.ok d) := by
    refine Part.ind (P := fun x => ∀ d, x.plain.ok d ↔ x.ok d) (Q := fun p => ∀ d, ∀ x ∈ p, (x.plain.ok d ↔ x.ok d)) ?_ ?_ ?_ ?_ ?_
    · intro w d; rw [plain_name]
    · intro e d; rw [plain_got]
    · intro k c p ih d
      rw [plain_node, ok_node, ok_node, step p _ (ih _)]
      refine and_congr_right fun _ => and_congr_right fun _ => ⟨fun g hk q hq => ?_, fun g hk q hq => ?_⟩
      · exact g hk (plainL q) ((plainL_perm p).mem_iff.mpr (List.mem_map.mpr ⟨_, hq, plain_node true c q⟩))
      · obtain ⟨y, hy, e⟩ := List.mem_map.mp ((plainL_perm p).mem_iff.mp hq)
        cases y with
        | name w => rw [plain_name] at e; cases e
        | got e' => rw [plain_got] at e; cases e
        | node k' c' p' =>
          rw [plain_node] at e
          injection e with e1 e2 e3
          subst e1 e2
          exact g hk p' hy
    · intro d x hx; cases hx
    · intro x r hx hr d y hy
      rcases List.mem_cons.mp hy with z | z
      · rw [z]; exact hx d
      · exact hr d y z
  exact ⟨main.1, fun p d => step p d (main.2 p d)⟩
theorem okL_plain {p : Pl} {d : Nat} : okL d (plainL p) ↔ okL d p := ok_plain.2 p d
theorem okL_append {d : Nat} {p q : Pl} : okL d (p ++ q) ↔ okL d p ∧ okL d q ∧ ∀ x ∈ p, ∀ y ∈ q, x.tag ≠ y.tag := by
  unfold okL
  rw [List.map_append, List.nodup_append]
  constructor
  · rintro ⟨h1, h2, h3, h4⟩
    exact ⟨⟨fun x hx => h1 x (List.mem_append_left _ hx), h2⟩, ⟨fun x hx => h1 x (List.mem_append_right _ hx), h3⟩, fun x hx y hy => h4 _ (List.mem_map.mpr ⟨x, hx, rfl⟩) _ (List.mem_map.mpr ⟨y, hy, rfl⟩)⟩
  · rintro ⟨⟨h1, h2⟩, ⟨h3, h4⟩, h5⟩
    refine ⟨fun x hx => (List.mem_append.mp hx).elim (h1 x) (h3 x), h2, h4, fun a ha b hb => ?_⟩
    obtain ⟨x, hx, rfl⟩ := List.mem_map.mp ha
    obtain ⟨y, hy, rfl⟩ := List.mem_map.mp hb
    exact h5 x hx y hy
theorem okL_nil {d : Nat} : okL d [] := ⟨fun x hx => (nomatch hx), List.nodup_nil⟩
theorem okL_cons {d : Nat} {x : Part} {r : Pl} : okL d (x :: r) ↔ x.ok d ∧ okL d r ∧ ∀ y ∈ r, y.tag ≠ x.tag := by
  rw [show x :: r = [x] ++ r from rfl, okL_append]
  constructor
  · rintro ⟨h1, h2, h3⟩; exact ⟨h1.1 x List.mem_cons_self, h2, fun y hy => (h3 x List.mem_cons_self y hy).symm⟩
  · rintro ⟨h1, h2, h3⟩
    refine ⟨⟨fun y hy => by rw [List.mem_singleton.mp hy]; exact h1, by simp⟩, h2, fun a ha y hy => ?_⟩
    rw [List.mem_singleton.mp ha]
    exact (h3 y hy).symm
theorem okL_one {d : Nat} {x : Part} : okL d [x] ↔ x.ok d := by
  rw [okL_cons]
  exact ⟨fun h => h.1, fun h => ⟨h, okL_nil, fun y hy => (nomatch hy)⟩⟩
/-! ### measures -/
theorem sizeL_map (p : Pl) : sizeL p = (p.map Part.size).sum := by
  induction p with
  | nil => rw [sizeL]; rfl
  | cons x r ih => rw [sizeL, ih, List.map_cons, List.sum_cons]
theorem cntL_map (p : Pl) : cntL p = (p.map Part.cnt).sum := by
  induction p with
  | nil => rw [cntL]; rfl
  | cons x r ih => rw [cntL, ih, List.map_cons, List.sum_cons]
theorem dpL_le {p : Pl} {n : Nat} : dpL p ≤ n ↔ ∀ x ∈ p, x.dp ≤ n := by
  induction p with
  | nil => rw [dpL]; simp
  | cons x r ih => rw [dpL, Nat.max_le, ih]; simp
theorem cntL_append (p q : Pl) : cntL (p ++ q) = cntL p + cntL q := by rw [cntL_map, cntL_map, cntL_map, List.map_append, List.sum_append]
theorem cntL_cons (x : Part) (q : Pl) : cntL (x :: q) = x.cnt + cntL q := by rw [cntL]
theorem cntL_perm {p q : Pl} (h : p.Perm q) : cntL p = cntL q := by rw [cntL_map, cntL_map]; exact (h.map _).sum_nat
theorem dp_node (k : Bool) (c : Nat) (p : Pl) : (Part.node k c p).dp = dpL p + 1 := by rw [Part.dp]
theorem cnt_node (k : Bool) (c : Nat) (p : Pl) : (Part.node k c p).cnt = cntL p + 1 := by rw [Part.cnt]
theorem size_node (k : Bool) (c : Nat) (p : Pl) : (Part.node k c p).size = sizeL p + 1 := by rw [Part.size]
theorem dp_got (d : Nat) : (Part.got d).dp = 0 := by rw [Part.dp]; intros; contradiction
theorem dp_name (d : Str) : (Part.name d).dp = 0 := by rw [Part.dp]; intros; contradiction
theorem cnt_got (d : Nat) : (Part.got d).cnt = 1 := by rw [Part.cnt]; intros; contradiction
theorem size_got (d : Nat) : (Part.got d).size = 1 := by rw [Part.size]; intros; contradiction
theorem size_name (d : Str) : (Part.name d).size = 1 := by rw [Part.size]; intros; contradiction
theorem cnt_plain : (∀ x : Part, x.plain.cnt = x.cnt) ∧ ∀ p : Pl, cntL (plainL p) = cntL p := by
  have step : ∀ p : Pl, (∀ x ∈ p, x.plain.cnt = x.cnt) → cntL (plainL p) = cntL p := fun p h => by
    rw [cntL_perm (plainL_perm p), cntL_map, cntL_map, List.map_map]
    congr 1
    exact List.map_congr_left h
  have main : (∀ x : Part, x.plain.cnt = x.cnt) ∧ ∀ p : Pl, ∀ x ∈ p, x.plain.cnt = x.cnt := by
    refine Part.ind (P := fun x => x.plain.cnt = x.cnt) (Q := fun p => ∀ x ∈ p, x.plain.cnt = x.cnt) ?_ ?_ ?_ ?_ ?_
    · intro w; rw [plain_name]
    · intro e; rw [plain_got]
    · intro k c p ih; rw [plain_node, cnt_node, cnt_node, step p ih]
    · intro x hx; cases hx
    · intro x r hx hr y hy
      rcases List.mem_cons.mp hy with z | z
      · rw [z]; exact hx
      · exact hr y z
  exact ⟨main.1, fun p => step p (main.2 p)⟩
theorem dp_plain : (∀ x : Part, x.plain.dp = x.dp) ∧ ∀ p : Pl, dpL (plainL p) = dpL p := by
  have step : ∀ p : Pl, (∀ x ∈ p, x.plain.dp = x.dp) → dpL (plainL p) = dpL p := fun p h => by
    have e : ∀ n, dpL (plainL p) ≤ n ↔ dpL p ≤ n := fun n => by
      rw [dpL_le, dpL_le]
      constructor
      · intro g x hx
        rw [← h x hx]
        exact g _ ((plainL_perm p).mem_iff.mpr (List.mem_map.mpr ⟨x, hx, rfl⟩))
      · intro g x hx
        obtain ⟨y, hy, e⟩ := List.mem_map.mp ((plainL_perm p).mem_iff.mp hx)
        rw [← e, h y hy]
        exact g y hy
    exact Nat.le_antisymm ((e _).mpr (Nat.le_refl _)) ((e _).mp (Nat.le_refl _))
  have main : (∀ x : Part, x.plain.dp = x.dp) ∧ ∀ p : Pl, ∀ x ∈ p, x.plain.dp = x.dp := by
    refine Part.ind (P := fun x => x.plain.dp = x.dp) (Q := fun p => ∀ x ∈ p, x.plain.dp = x.dp) ?_ ?_ ?_ ?_ ?_
    · intro w; rw [plain_name]
    · intro e; rw [plain_got]
    · intro k c p ih; rw [plain_node, dp_node, dp_node, step p ih]
    · intro x hx; cases hx
    · intro x r hx hr y hy
      rcases List.mem_cons.mp hy with z | z
      · rw [z]; exact hx
      · exact hr y z
  exact ⟨main.1, fun p => step p (main.2 p)⟩
/-! ### closed plans and mapping -/
theorem mapM_ok {act : Part → Nat → Pl} (h : ∀ e d, e < d → act (.got e) d = [.got e]) : (∀ x : Part, ∀ d, x.ok d → mapPart act x d = [x]) ∧ ∀ p : Pl, ∀ d, (∀ x ∈ p, x.ok d) → mapM act p d = p := by
  refine Part.ind (P := fun x => ∀ d, x.ok d → mapPart act x d = [x]) (Q := fun p => ∀ d, (∀ x ∈ p, x.ok d) → mapM act p d = p) ?_ ?_ ?_ ?_ ?_
  · intro w d o; exact (ok_name o).elim
  · intro e d o; rw [mapPart]; exact h e d (ok_got.mp o)
  · intro k c p ih d o; rw [mapPart, ih _ (ok_node.mp o).2.1.1]
  · intro d _; rw [mapM]
  · intro x r hx hr d o
    rw [mapM, hx d (o x List.mem_cons_self), hr d fun y hy => o y (List.mem_cons_of_mem _ hy)]
    rfl
theorem raise_ok {p : Pl} (o : okL 0 p) (b : Nat) : raiseP p b 0 = p := (mapM_ok (act := liftAct b 0) fun e d h => by
  show (if d + 0 ≤ e then [Part.got (e + b)] else [.got e]) = [.got e]
  rw [if_neg (by omega)]).2 p 0 o.1
theorem bring_okD {p o : Pl} {d : Nat} (h : okL d p) : mapM (bringAct o) p d = p := (mapM_ok (act := bringAct o) fun e d h => by
  show (if e = d then raiseP o d 0 else if d < e then [.got (e - 1)] else [.got e]) = [.got e]
  rw [if_neg (by omega), if_neg (by omega)]).2 p d h.1
theorem bring_ok {p o : Pl} (h : okL 0 p) : bringP p o = p := bring_okD h
theorem bind_ok {p : Pl} {w : Str} {d : Nat} (h : okL d p) : mapM (bindAct w) p d = p := (mapM_ok (act := bindAct w) fun e d h => rfl).2 p d h.1
end K87
/-! Machines, the plans of their standings, and what meets in them. -/
namespace K87
open PySem PyProof.Rows PySem.W
inductive Ins where
  | halt
  | up (r n : Nat)
  | dn (r n o : Nat)
deriving DecidableEq
abbrev letter (c : Nat) (p : Pl) : Part := .node false c p
abbrev wait (c : Nat) (p : Pl) : Part := .node true c p
def goingP (a : Nat) : Pl := [wait a [.got 0, letter a [.got 0]]]
def numP (r : Nat) : Nat → Pl
  | 0 => [wait 25 [wait 18 [.got 1]]]
  | n + 1 => [wait 18 [wait 25 [.got 1, letter (12 + r) (numP r n)]]]
def upB (r n : Nat) : Pl := letter (12 + r) [wait 18 [wait 25 [.got 1, letter (12 + r) [.got 2]]]] :: goingP n
def emptyP (r o : Nat) : Pl := letter (12 + r) (numP r 0) :: goingP o
def dnB (r n o : Nat) : Pl := [.got 0, letter 18 (goingP n), letter 25 (emptyP r o)]
def doingP : Ins → Pl
  | .halt => []
  | .up r n => [wait (12 + r) (upB r n)]
  | .dn r n o => [wait (12 + r) (dnB r n o)]
def insL : Nat → List Ins → Pl
  | _, [] => []
  | k, i :: r => letter k (doingP i) :: insL (k + 1) r
def regL : Nat → List Nat → Pl
  | _, [] => []
  | k, n :: r => letter (12 + k) (numP k n) :: regL (k + 1) r
def rawP (m : List Ins) (at_ : Nat) (ns : List Nat) : Pl := insL 0 m ++ regL 0 ns ++ goingP at_
def Ins.good (l : Nat) : Ins → Prop
  | .halt => True
  | .up r n => r < 4 ∧ n < l
  | .dn r n o => r < 4 ∧ n < l ∧ o < l
/-- a machine -/
structure Mach (m : List Ins) : Prop where
  pos : 1 ≤ m.length
  le : m.length ≤ 12
  good : ∀ i ∈ m, i.good m.length
/-! ### they are sound -/
theorem tag_letter (c : Nat) (p : Pl) : (letter c p).tag = (3, .inr [97 + c]) := rfl
theorem tag_wait (c : Nat) (p : Pl) : (wait c p).tag = (4, .inr [97 + c]) := rfl
theorem tag_got (d : Nat) : (Part.got d).tag = (2, .inl (d : Int)) := rfl
theorem ok_letter {d c : Nat} {p : Pl} : (letter c p).ok d ↔ c < 26 ∧ okL d p := by
  rw [ok_node]
  constructor
  · rintro ⟨a, b, _⟩; exact ⟨a, b⟩
  · rintro ⟨a, b⟩; exact ⟨a, b, fun z => (nomatch z)⟩
theorem ok_wait {d c : Nat} {p : Pl} : (wait c p).ok d ↔ c < 26 ∧ okL (d + 1) p ∧ ∀ q, wait c q ∉ p := by
  rw [ok_node]
  constructor
  · rintro ⟨a, b, h⟩; exact ⟨a, b, h rfl⟩
  · rintro ⟨a, b, h⟩; exact ⟨a, b, fun _ => h⟩
theorem going_ok {a : Nat} (h : a < 26) (d : Nat) : okL d (goingP a) := by
  unfold goingP
  rw [okL_one, ok_wait]
  refine ⟨h, ?_, fun q hq => by simp [wait] at hq⟩
  rw [okL_cons, okL_one, ok_got, ok_letter, okL_one, ok_got]
  refine ⟨by omega, ⟨h, by omega⟩, fun y hy => ?_⟩
  rw [List.mem_singleton.mp hy, tag_letter, tag_got]
  simp
theorem num_ok {r : Nat} (hr : r < 4) : ∀ n d, okL d (numP r n)
  | 0, d => by
    unfold numP
    rw [okL_one, ok_wait, okL_one, ok_wait, okL_one, ok_got]
    exact ⟨by omega, ⟨by omega, by omega, fun q hq => by simp at hq⟩, fun q hq => by simp at hq⟩
  | n + 1, d => by
    unfold numP
    rw [okL_one, ok_wait, okL_one, ok_wait, okL_cons, okL_one, ok_got, ok_letter]
    refine ⟨by omega, ⟨by omega, ⟨by omega, ⟨by omega, num_ok hr n _⟩, fun y hy => ?_⟩, fun q hq => by simp at hq⟩, fun q hq => by simp at hq⟩
    rw [List.mem_singleton.mp hy, tag_letter, tag_got]
    simp
theorem empty_ok {r o : Nat} (hr : r < 4) (ho : o < 12) (d : Nat) : okL d (emptyP r o) := by
  unfold emptyP goingP
  have g := going_ok (show o < 26 by omega) d
  unfold goingP at g
  rw [okL_cons, ok_letter]
  refine ⟨⟨by omega, num_ok hr 0 d⟩, g, fun y hy => ?_⟩
  rw [List.mem_singleton.mp hy, tag_letter, tag_wait]
  simp
theorem upB_ok {r n : Nat} (hr : r < 4) (hn : n < 12) : okL 1 (upB r n) := by
  unfold upB goingP
  have g := going_ok (show n < 26 by omega) 1
  unfold goingP at g
  rw [okL_cons, ok_letter, okL_one, ok_wait, okL_one, ok_wait, okL_cons, okL_one, ok_got, ok_letter, okL_one, ok_got]
  refine ⟨⟨by omega, by omega, ⟨by omega, ⟨by omega, ⟨by omega, by omega⟩, fun y hy => ?_⟩, fun q hq => by simp at hq⟩, fun q hq => by simp at hq⟩, g, fun y hy => ?_⟩
  · rw [List.mem_singleton.mp hy, tag_letter, tag_got]
    simp
  · rw [List.mem_singleton.mp hy, tag_letter, tag_wait]
    simp
theorem dnB_ok {r n o : Nat} (hr : r < 4) (hn : n < 12) (ho : o < 12) : okL 1 (dnB r n o) := by
  unfold dnB
  rw [okL_cons, okL_cons, okL_one, ok_got, ok_letter, ok_letter]
  refine ⟨by omega, ⟨⟨by omega, going_ok (by omega) 1⟩, ⟨by omega, empty_ok hr ho 1⟩, fun y hy => ?_⟩, fun y hy => ?_⟩
  · rw [List.mem_singleton.mp hy, tag_letter, tag_letter]
    simp
  · rcases List.mem_cons.mp hy with z | z
    · rw [z, tag_letter, tag_got]; simp
    · rw [List.mem_singleton.mp z, tag_letter, tag_got]; simp
theorem doing_ok {i : Ins} {l : Nat} (g : i.good l) (hl : l ≤ 12) : okL 0 (doingP i) := by
  cases i with
  | halt => exact okL_nil
  | up r n =>
    obtain ⟨g1, g2⟩ := g
    show okL 0 [wait (12 + r) (upB r n)]
    rw [okL_one, ok_wait]
    refine ⟨by omega, upB_ok g1 (by omega), fun q hq => ?_⟩
    simp only [upB, goingP, List.mem_cons, List.not_mem_nil, or_false, Part.node.injEq, reduceCtorEq, false_and, true_and, false_or] at hq
    omega
  | dn r n o =>
    obtain ⟨g1, g2, g3⟩ := g
    show okL 0 [wait (12 + r) (dnB r n o)]
    rw [okL_one, ok_wait]
    exact ⟨by omega, dnB_ok g1 (by omega) (by omega), fun q hq => by simp [dnB] at hq⟩
/-- letters at the doors k, k + 1, .. below e -/
structure Lets (k e : Nat) (p : Pl) : Prop where
  all : ∀ x ∈ p, ∃ c q, x = letter c q ∧ k ≤ c ∧ c < e ∧ okL 0 q
  nd : (p.map Part.tag).Nodup
theorem Lets.ok {k e : Nat} {p : Pl} (h : Lets k e p) (he : e ≤ 26) : okL 0 p := ⟨fun x hx => by
  obtain ⟨c, q, e1, h1, h2, h3⟩ := h.all x hx
  rw [e1, ok_letter]
  exact ⟨by omega, h3⟩, h.nd⟩
theorem lets_ins : ∀ (m : List Ins) (k l : Nat), (∀ i ∈ m, i.good l) → l ≤ 12 → Lets k (k + m.length) (insL k m)
  | [], k, l, _, _ => ⟨fun x hx => (nomatch hx), List.nodup_nil⟩
  | i :: r, k, l, g, hl => by
    have ih := lets_ins r (k + 1) l (fun x hx => g x (List.mem_cons_of_mem _ hx)) hl
    refine ⟨fun x hx => ?_, ?_⟩
    · rcases List.mem_cons.mp hx with z | z
      · exact ⟨k, _, z, Nat.le_refl _, by rw [List.length_cons]; omega, doing_ok (g i List.mem_cons_self) hl⟩
      · obtain ⟨c, q, e1, h1, h2, h3⟩ := ih.all x z
        exact ⟨c, q, e1, by omega, by rw [List.length_cons]; omega, h3⟩
    · unfold insL
      rw [List.map_cons, List.nodup_cons]
      refine ⟨fun hm => ?_, ih.nd⟩
      obtain ⟨y, hy, e⟩ := List.mem_map.mp hm
      obtain ⟨c, q, e1, h1, _⟩ := ih.all y hy
      rw [e1, tag_letter, tag_letter] at e
      simp at e
      omega
theorem lets_reg : ∀ (ns : List Nat) (k : Nat), k + ns.length ≤ 4 → Lets (12 + k) (12 + k + ns.length) (regL k ns)
  | [], k, _ => ⟨fun x hx => (nomatch hx), List.nodup_nil⟩
  | n :: r, k, hk => by
    rw [List.length_cons] at hk
    have ih := lets_reg r (k + 1) (by omega)
    refine ⟨fun x hx => ?_, ?_⟩
    · rcases List.mem_cons.mp hx with z | z
      · exact ⟨12 + k, _, z, Nat.le_refl _, by rw [List.length_cons]; omega, num_ok (by omega) n 0⟩
      · obtain ⟨c, q, e1, h1, h2, h3⟩ := ih.all x z
        exact ⟨c, q, e1, by omega, by rw [List.length_cons]; omega, h3⟩
    · unfold regL
      rw [List.map_cons, List.nodup_cons]
      refine ⟨fun hm => ?_, ih.nd⟩
      obtain ⟨y, hy, e⟩ := List.mem_map.mp hm
      obtain ⟨c, q, e1, h1, _⟩ := ih.all y hy
      rw [e1, tag_letter, tag_letter] at e
      simp at e
      omega
theorem Lets.append {a b c : Nat} {p q : Pl} (h : Lets a b p) (g : Lets b c q) (hab : a ≤ b) (hbc : b ≤ c) : Lets a c (p ++ q) := by
  refine ⟨fun x hx => ?_, ?_⟩
  · rcases List.mem_append.mp hx with z | z
    · obtain ⟨d, r, e1, h1, h2, h3⟩ := h.all x z; exact ⟨d, r, e1, h1, by omega, h3⟩
    · obtain ⟨d, r, e1, h1, h2, h3⟩ := g.all x z; exact ⟨d, r, e1, by omega, h2, h3⟩
  · rw [List.map_append, List.nodup_append]
    refine ⟨h.nd, g.nd, fun s hs t ht e => ?_⟩
    obtain ⟨x, hx, rfl⟩ := List.mem_map.mp hs
    obtain ⟨y, hy, rfl⟩ := List.mem_map.mp ht
    obtain ⟨d, r, e1, h1, h2, _⟩ := h.all x hx
    obtain ⟨d', r', e2, h3, h4, _⟩ := g.all y hy
    rw [e1, e2, tag_letter, tag_letter] at e
    simp at e
    omega
theorem Lets.wide {a b a' b' : Nat} {p : Pl} (h : Lets a b p) (h1 : a' ≤ a) (h2 : b ≤ b') : Lets a' b' p := ⟨fun x hx => by
  obtain ⟨d, r, e1, g1, g2, g3⟩ := h.all x hx
  exact ⟨d, r, e1, by omega, by omega, g3⟩, h.nd⟩
theorem Lets.perm {a b : Nat} {p q : Pl} (h : Lets a b p) (e : p.Perm q) : Lets a b q := ⟨fun x hx => h.all x (e.mem_iff.mpr hx), (e.map _).nodup_iff.mp h.nd⟩
theorem Lets.sub {a b : Nat} {p q : Pl} (h : Lets a b (p ++ q)) : Lets a b p ∧ Lets a b q := by
  have nd := h.nd
  rw [List.map_append, List.nodup_append] at nd
  exact ⟨⟨fun x hx => h.all x (List.mem_append_left _ hx), nd.1⟩, ⟨fun x hx => h.all x (List.mem_append_right _ hx), nd.2.1⟩⟩
/-! ### measures -/
theorem going_cnt (a : Nat) : cntL (goingP a) = 4 := by simp [goingP, cntL_cons, cnt_node, cnt_got, cntL]
theorem going_dp (a : Nat) : dpL (goingP a) = 2 := by simp [goingP, dpL, dp_node, dp_got]
theorem num_cnt (r : Nat) : ∀ n, cntL (numP r n) = 3 + 4 * n
  | 0 => by simp [numP, cntL_cons, cnt_node, cnt_got, cntL]
  | n + 1 => by simp [numP, cntL_cons, cnt_node, cnt_got, cntL, num_cnt r n]; omega
theorem num_dp (r : Nat) : ∀ n, dpL (numP r n) = 2 + 3 * n
  | 0 => by simp [numP, dpL, dp_node, dp_got]
  | n + 1 => by simp [numP, dpL, dp_node, dp_got, num_dp r n]; omega
theorem doing_cnt (i : Ins) : cntL (doingP i) ≤ 16 := by
  cases i with
  | halt => simp [doingP, cntL]
  | up r n => simp [doingP, upB, goingP, cntL_cons, cnt_node, cnt_got, cntL]
  | dn r n o => simp [doingP, dnB, emptyP, numP, goingP, cntL_cons, cnt_node, cnt_got, cntL]
theorem doing_dp (i : Ins) : dpL (doingP i) ≤ 5 := by
  cases i with
  | halt => simp [doingP, dpL]
  | up r n => simp [doingP, upB, goingP, dpL, dp_node, dp_got]
  | dn r n o => simp [doingP, dnB, emptyP, numP, goingP, dpL, dp_node, dp_got]
end K87
/-! One step of a machine, as meetings. -/
namespace K87
open PySem PyProof.Rows PySem.W
structure MeetW (T T' A : Pl) (c : Nat) (p b : Pl) : Prop where
  t : T.Perm (A ++ [letter c p, wait c b])
  al : ∀ x ∈ A, ∃ e q, x = letter e q
  ok : okL 0 T
  t' : T'.Perm (A ++ bringP b p)
  cb : cntL b ≤ 40
  cp : cntL p ≤ 40
def Meet (T T' : Pl) : Prop := ∃ A c p b, MeetW T T' A c p b
def isW (c : Nat) : Part → Bool
  | .node true e _ => e == c
  | _ => false
def meetsL (f : Pl) : List (Part × Part) := f.flatMap fun x => match x with
  | .node false c _ => (f.filter (isW c)).map (fun y => (x, y))
  | _ => []
noncomputable def Part.same (x y : Part) : Bool := decide (x.code = y.code)
theorem same_iff {x y : Part} : x.same y = true ↔ x = y := by
  unfold Part.same
  rw [decide_eq_true_iff]
  exact ⟨code_inj1, fun h => by rw [h]⟩
noncomputable def dropP (f : Pl) (x : Part) : Pl := f.filter fun y => !y.same x
theorem isW_iff {c : Nat} {x : Part} : isW c x = true ↔ ∃ q, x = wait c q := by
  cases x with
  | name w => simp [isW]
  | got d => simp [isW]
  | node k e p => cases k <;> simp [isW]
/-- in a sound plan with one wait at c there is just one -/
theorem filt_one {f : Pl} {c : Nat} {q : Pl} (o : okL 0 f) (h : wait c q ∈ f) : f.filter (isW c) = [wait c q] := by
  obtain ⟨s, t, rfl⟩ := List.append_of_mem h
  have o2 := okL_append.mp o
  have o3 := okL_cons.mp o2.2.1
  have hs : s.filter (isW c) = [] := by
    rw [List.filter_eq_nil_iff]
    intro x hx hw
    obtain ⟨q', rfl⟩ := isW_iff.mp hw
    exact o2.2.2 _ hx (wait c q) List.mem_cons_self rfl
  have ht : t.filter (isW c) = [] := by
    rw [List.filter_eq_nil_iff]
    intro x hx hw
    obtain ⟨q', rfl⟩ := isW_iff.mp hw
    exact o3.2.2 _ hx rfl
  rw [List.filter_append, hs, List.filter_cons_of_pos (isW_iff.mpr ⟨q, rfl⟩), ht]
  rfl
theorem drop_perm {f A : Pl} {x : Part} (o : okL 0 f) (h : f.Perm (A ++ [x])) : (dropP f x).Perm A := by
  have h1 : (dropP f x).Perm (dropP (A ++ [x]) x) := h.filter _
  refine h1.trans (List.Perm.of_eq ?_)
  unfold dropP
  have o2 := okL_append.mp (okL_perm h o)
  rw [List.filter_append, List.filter_cons_of_neg (by rw [same_iff.mpr rfl]; simp), List.filter_nil, List.append_nil, List.filter_eq_self]
  intro y hy
  cases e : y.same x with
  | false => rfl
  | true => exact absurd (same_iff.mp e ▸ rfl) (o2.2.2 y hy x List.mem_cons_self)
/-- what a form tells of its meeting -/
structure Met (f f' : Pl) (c : Nat) (p b : Pl) : Prop where
  ok : okL 0 f
  pairs : meetsL f = [(letter c p, wait c b)]
  inp : letter c p ∈ f
  inb : wait c b ∈ f
  nx : f' = plainL (dropP (dropP f (letter c p)) (wait c b) ++ bringP b p)
  cb : cntL b ≤ 40
  cp : cntL p ≤ 40
  cn : cntL f' = cntL (dropP (dropP f (letter c p)) (wait c b) ++ bringP b p)
  dn : dpL f' = dpL (dropP (dropP f (letter c p)) (wait c b) ++ bringP b p)
theorem MeetW.form {T T' A : Pl} {c : Nat} {p b : Pl} (h : MeetW T T' A c p b) : Met (plainL T) (plainL T') c (plainL p) (plainL b) := by
  have okf : okL 0 (plainL T) := okL_plain.mpr h.ok
  have pf : (plainL T).Perm (A.map Part.plain ++ [letter c (plainL p), wait c (plainL b)]) := by
    refine (plainL_perm T).trans ((h.t.map _).trans (List.Perm.of_eq ?_))
    rw [List.map_append, List.map_cons, List.map_cons, List.map_nil, plain_node, plain_node]
  have ml : letter c (plainL p) ∈ plainL T := pf.mem_iff.mpr (by simp)
  have mw : wait c (plainL b) ∈ plainL T := pf.mem_iff.mpr (by simp)
  have al' : ∀ x ∈ A.map Part.plain, ∃ e q, x = letter e q := fun x hx => by
    obtain ⟨y, hy, rfl⟩ := List.mem_map.mp hx
    obtain ⟨e, q, rfl⟩ := h.al y hy
    exact ⟨e, plainL q, by rw [plain_node]⟩
  have hd : (dropP (dropP (plainL T) (letter c (plainL p))) (wait c (plainL b))).Perm (A.map Part.plain) := by
    have p1 : (plainL T).Perm ((A.map Part.plain ++ [wait c (plainL b)]) ++ [letter c (plainL p)]) := by
      refine pf.trans ?_
      rw [List.append_assoc]
      exact List.Perm.append_left _ (List.Perm.swap _ _ _)
    have d1 := drop_perm okf p1
    have o1 : okL 0 (dropP (plainL T) (letter c (plainL p))) := okL_perm d1.symm (okL_append.mp (okL_perm p1 okf)).1
    exact drop_perm o1 d1
  have hn : plainL T' = plainL (dropP (dropP (plainL T) (letter c (plainL p))) (wait c (plainL b)) ++ bringP (plainL b) (plainL p)) := by
    refine plainL_congr ((h.t'.map _).trans ?_)
    rw [List.map_append, List.map_append]
    refine List.Perm.append ?_ ?_
    · refine List.Perm.symm ((hd.map _).trans (List.Perm.of_eq ?_))
      rw [List.map_map]
      exact List.map_congr_left fun x _ => plain_idem.1 x
    · exact (plainL_eq_iff.mp (bring_plain b p)).symm
  refine ⟨okf, ?_, ml, mw, hn, by rw [cnt_plain.2]; exact h.cb, by rw [cnt_plain.2]; exact h.cp, by rw [hn, cnt_plain.2], by rw [hn, dp_plain.2]⟩
  have fp : (meetsL (plainL T)).Perm [(letter c (plainL p), wait c (plainL b))] := by
    unfold meetsL
    refine (pf.flatMap_right _).trans (List.Perm.of_eq ?_)
    rw [List.flatMap_append, List.flatMap_cons, List.flatMap_cons, List.flatMap_nil]
    have e1 : ∀ (e : Nat) (q : Pl), letter e q ∈ A.map Part.plain → (plainL T).filter (isW e) = [] := fun e q hm => by
      rw [List.filter_eq_nil_iff]
      intro x hx hw
      obtain ⟨q', rfl⟩ := isW_iff.mp hw
      rcases List.mem_append.mp (pf.mem_iff.mp hx) with z | z
      · obtain ⟨e', q2, e2⟩ := al' _ z; simp at e2
      · simp only [List.mem_cons, Part.node.injEq, List.not_mem_nil, or_false] at z
        rcases z with z | z
        · simp at z
        · have ec : e = c := z.2.1
          subst ec
          exact (okL_append.mp (okL_perm pf okf)).2.2 _ hm (letter e (plainL p)) List.mem_cons_self rfl
    have e2 : (A.map Part.plain).flatMap (fun x => match x with
        | .node false c _ => ((plainL T).filter (isW c)).map (fun y => (x, y))
        | _ => []) = [] := by
      rw [List.flatMap_eq_nil_iff]
      intro x hx
      obtain ⟨e, q, rfl⟩ := al' x hx
      show ((plainL T).filter (isW e)).map _ = []
      rw [e1 e q hx]
      rfl
    rw [e2]
    show [] ++ (((plainL T).filter (isW c)).map _ ++ ([] ++ [])) = _
    rw [filt_one okf mw]
    rfl
  exact List.perm_singleton.mp fp
theorem meet_to {T T' U' : Pl} (h : Meet T T') (e : U'.Perm T') : Meet T U' := by
  obtain ⟨A, c, p, b, m⟩ := h
  exact ⟨A, c, p, b, m.t, m.al, m.ok, e.trans m.t', m.cb, m.cp⟩
/-! ### what is brought -/
theorem act_at (o : Pl) (d : Nat) : bringAct o (.got d) d = raiseP o d 0 := if_pos rfl
theorem act_lt (o : Pl) {e d : Nat} (h : e < d) : bringAct o (.got e) d = [.got e] := by
  show (if e = d then raiseP o d 0 else if d < e then [.got (e - 1)] else [.got e]) = [.got e]
  rw [if_neg (by omega), if_neg (by omega)]
theorem bring_going {a : Nat} {D : Pl} (o : okL 0 D) : bringP [.got 0, letter a [.got 0]] D = D ++ [letter a D] := by
  unfold bringP
  rw [mapM_got, mapM_node, mapM_nil, if_neg (by simp), mapM_got, mapM_nil, act_at, raise_ok o, List.append_nil]
theorem bring_up {r n v : Nat} (hr : r < 4) (hn : n < 12) : bringP (upB r n) (numP r v) = letter (12 + r) (numP r (v + 1)) :: goingP n := by
  have o := num_ok hr v 0
  have g : mapM (bringAct (numP r v)) (goingP n) 0 = goingP n := bring_okD (going_ok (show n < 26 by omega) 0)
  unfold bringP upB
  rw [mapM_node, if_neg (by simp), mapM_node, if_pos rfl, mapM_node, if_pos rfl, mapM_got, mapM_node, if_neg (by simp), mapM_got, mapM_nil, mapM_nil, g]
  have e1 : bringAct (numP r v) (.got 1) (0 + 1 + 1) = [.got 1] := act_lt _ (by omega)
  have e2 : bringAct (numP r v) (.got 2) (0 + 1 + 1) = numP r v := (act_at _ 2).trans (raise_ok o 2)
  rw [e1, e2, List.append_nil]
  rfl
theorem bring_dn {r n o v : Nat} (hr : r < 4) (hn : n < 12) (ho : o < 12) : bringP (dnB r n o) (numP r v) = numP r v ++ [letter 18 (goingP n), letter 25 (emptyP r o)] := by
  have k := num_ok hr v 0
  have g : mapM (bringAct (numP r v)) (goingP n) 0 = goingP n := bring_okD (going_ok (show n < 26 by omega) 0)
  have z : mapM (bringAct (numP r v)) (emptyP r o) 0 = emptyP r o := bring_okD (empty_ok hr ho 0)
  unfold bringP dnB
  rw [mapM_got, mapM_node, if_neg (by simp), mapM_node, if_neg (by simp), mapM_nil, g, z, act_at, raise_ok k]
theorem bring_s {r v : Nat} {G : Pl} (hr : r < 4) (o : okL 0 G) : bringP [wait 25 [.got 1, letter (12 + r) (numP r v)]] G = [wait 25 (G ++ [letter (12 + r) (numP r v)])] := by
  have g : mapM (bringAct G) (numP r v) 1 = numP r v := bring_okD (num_ok hr v 1)
  unfold bringP
  rw [mapM_node, if_pos rfl, mapM_got, mapM_node, if_neg (by simp), mapM_nil, mapM_nil, g]
  have e2 : bringAct G (.got 1) (0 + 1) = G := (act_at _ 1).trans (raise_ok o 1)
  rw [e2]
theorem bring_z {Z : Pl} (o : okL 0 Z) : bringP [wait 18 [.got 1]] Z = [wait 18 Z] := by
  unfold bringP
  rw [mapM_node, if_pos rfl, mapM_got, mapM_nil, mapM_nil]
  have e2 : bringAct Z (.got 1) (0 + 1) = Z := (act_at _ 1).trans (raise_ok o 1)
  rw [e2, List.append_nil]
/-! ### standings, and what lies between them -/
/-- what stands of a machine where k meetings have been since the standing -/
def midP (m : List Ins) (a : Nat) (ns : List Nat) (k : Nat) : Pl :=
  let L := insL 0 m
  let R := regL 0 ns
  match k, m[a]? with
  | 0, _ => rawP m a ns
  | 1, some i => L ++ R ++ doingP i
  | 2, some (.dn r n o) => L ++ (R.eraseIdx r) ++ (numP r (ns.getD r 0) ++ [letter 18 (goingP n), letter 25 (emptyP r o)])
  | 3, some (.dn r n o) => L ++ (R.eraseIdx r) ++ (if ns.getD r 0 = 0 then [letter 18 (goingP n), wait 18 (emptyP r o)] else [letter 25 (emptyP r o), wait 25 (goingP n ++ [letter (12 + r) (numP r (ns.getD r 0 - 1))])])
  | _, _ => []
theorem ins_split : ∀ (m : List Ins) (k a : Nat) (i : Ins), m[a]? = some i → (insL k m).Perm ((insL k m).eraseIdx a ++ [letter (k + a) (doingP i)])
  | [], _, _, _, h => by simp at h
  | j :: r, k, 0, i, h => by
    injection h with h
    subst h
    show (letter k (doingP j) :: insL (k + 1) r).Perm (insL (k + 1) r ++ [letter (k + 0) (doingP j)])
    exact (List.perm_append_comm (l₁ := [letter k (doingP j)]) (l₂ := insL (k + 1) r))
  | j :: r, k, a + 1, i, h => by
    have ih := ins_split r (k + 1) a i h
    show (letter k (doingP j) :: insL (k + 1) r).Perm (letter k (doingP j) :: (insL (k + 1) r).eraseIdx a ++ [letter (k + (a + 1)) (doingP i)])
    rw [show k + (a + 1) = k + 1 + a by omega]
    exact List.Perm.cons _ ih
theorem reg_split : ∀ (ns : List Nat) (k a v : Nat), ns[a]? = some v → (regL k ns).Perm ((regL k ns).eraseIdx a ++ [letter (12 + (k + a)) (numP (k + a) v)])
  | [], _, _, _, h => by simp at h
  | j :: r, k, 0, i, h => by
    injection h with h
    subst h
    exact (List.perm_append_comm (l₁ := [letter (12 + k) (numP k j)]) (l₂ := regL (k + 1) r))
  | j :: r, k, a + 1, i, h => by
    have ih := reg_split r (k + 1) a i h
    show (letter (12 + k) (numP k j) :: regL (k + 1) r).Perm (letter (12 + k) (numP k j) :: (regL (k + 1) r).eraseIdx a ++ [letter (12 + (k + (a + 1))) (numP (k + (a + 1)) i)])
    rw [show k + (a + 1) = k + 1 + a by omega]
    exact List.Perm.cons _ ih
theorem reg_set : ∀ (ns : List Nat) (k a v : Nat), (regL k (ns.set a v)).eraseIdx a = (regL k ns).eraseIdx a
  | [], _, _, _ => rfl
  | j :: r, k, 0, i => rfl
  | j :: r, k, a + 1, i => by
    show letter (12 + k) (numP k j) :: (regL (k + 1) (r.set a i)).eraseIdx a = letter (12 + k) (numP k j) :: (regL (k + 1) r).eraseIdx a
    rw [reg_set r]
theorem Lets.al {k e : Nat} {p : Pl} (h : Lets k e p) : ∀ x ∈ p, ∃ e q, x = letter e q := fun x hx => by
  obtain ⟨c, q, e, _⟩ := h.all x hx
  exact ⟨c, q, e⟩
/-- letters, and one wait -/
theorem ok_lw {k e c : Nat} {A : Pl} {b : Pl} (h : Lets k e A) (he : e ≤ 26) (hb : (wait c b).ok 0) : okL 0 (A ++ [wait c b]) := by
  rw [okL_append]
  refine ⟨h.ok he, okL_one.mpr hb, fun x hx y hy => ?_⟩
  obtain ⟨d, q, e1, _⟩ := h.all x hx
  rw [List.mem_singleton.mp hy, e1, tag_letter, tag_wait]
  simp
/-- one meeting of letters with the one wait -/
theorem meet_lets {T T' A : Pl} {k e c : Nat} {p b : Pl} (h : Lets k e (A ++ [letter c p])) (he : e ≤ 26) (hb : (wait c b).ok 0) (ht : T.Perm (A ++ [letter c p] ++ [wait c b])) (ht' : T'.Perm (A ++ bringP b p)) (cb : cntL b ≤ 40) (cp : cntL p ≤ 40) : Meet T T' :=
  ⟨A, c, p, b, ht.trans (List.Perm.of_eq (by rw [List.append_assoc]; rfl)), h.sub.1.al, okL_perm ht.symm (ok_lw h he hb), ht', cb, cp⟩
structure StOk (m : List Ins) (a : Nat) (ns : List Nat) : Prop where
  mok : Mach m
  at_ : a < m.length
  n : ns.length = 4
  le : ∀ v ∈ ns, v ≤ 6
section
variable {m : List Ins} {a : Nat} {ns : List Nat}
theorem StOk.lets (h : StOk m a ns) : Lets 0 16 (insL 0 m ++ regL 0 ns) := by
  have h1 := lets_ins m 0 m.length h.mok.good h.mok.le
  have h2 := lets_reg ns 0 (by rw [h.n]; omega)
  rw [h.n] at h2
  exact (h1.wide (b' := 12) (Nat.le_refl _) (by have := h.mok.le; omega)).append h2 (by omega) (by omega)
theorem StOk.ins (h : StOk m a ns) : ∃ i, m[a]? = some i ∧ i.good m.length := ⟨m[a]'h.at_, List.getElem?_eq_getElem h.at_, h.mok.good _ (List.getElem_mem _)⟩
/-- the first meeting -/
theorem meet_go (h : StOk m a ns) {i : Ins} (hi : m[a]? = some i) : Meet (rawP m a ns) (midP m a ns 1) := by
  have gi : i.good m.length := h.mok.good i (List.mem_of_getElem? hi)
  have hl := h.lets
  have sp := ins_split m 0 a i hi
  have ha := h.at_
  have hm := h.mok.le
  rw [Nat.zero_add] at sp
  have p1 : (insL 0 m ++ regL 0 ns).Perm ((insL 0 m).eraseIdx a ++ regL 0 ns ++ [letter a (doingP i)]) := by
    refine (sp.append_right _).trans ?_
    rw [List.append_assoc, List.append_assoc]
    exact List.Perm.append_left _ List.perm_append_comm
  refine meet_lets (A := (insL 0 m).eraseIdx a ++ regL 0 ns) (c := a) (p := doingP i) (b := [.got 0, letter a [.got 0]]) (hl.perm p1) (by omega) (okL_one.mp (going_ok (show a < 26 by omega) 0)) (p1.append_right _) ?_ (by simp [cntL_cons, cnt_node, cnt_got, cntL]) (by have := doing_cnt i; omega)
  rw [bring_going (doing_ok gi hm)]
  have e : midP m a ns 1 = insL 0 m ++ regL 0 ns ++ doingP i := by unfold midP; rw [hi]; rfl
  rw [e]
  refine (p1.append_right _).trans ?_
  rw [List.append_assoc]
  exact List.Perm.append_left _ List.perm_append_comm
theorem reg_parts (h : StOk m a ns) {r : Nat} (hr : r < 4) : (insL 0 m ++ regL 0 ns).Perm (insL 0 m ++ (regL 0 ns).eraseIdx r ++ [letter (12 + r) (numP r (ns.getD r 0))]) := by
  have e : ns[r]? = some (ns.getD r 0) := by
    rw [List.getD_eq_getElem?_getD, List.getElem?_eq_getElem (by rw [h.n]; exact hr)]
    rfl
  have sp := reg_split ns 0 r _ e
  rw [Nat.zero_add] at sp
  rw [List.append_assoc]
  exact List.Perm.append_left _ sp
theorem getD_le (h : StOk m a ns) (r : Nat) : ns.getD r 0 ≤ 6 := by
  rw [List.getD_eq_getElem?_getD]
  cases e : ns[r]? with
  | none => exact Nat.zero_le _
  | some v => exact h.le v (List.mem_of_getElem? e)
theorem set_parts (h : StOk m a ns) {r : Nat} (hr : r < 4) (v : Nat) : (insL 0 m ++ regL 0 (ns.set r v)).Perm (insL 0 m ++ (regL 0 ns).eraseIdx r ++ [letter (12 + r) (numP r v)]) := by
  have sp := reg_split (ns.set r v) 0 r v (by rw [List.getElem?_set_self (by rw [h.n]; exact hr)])
  rw [Nat.zero_add, reg_set] at sp
  rw [List.append_assoc]
  exact List.Perm.append_left _ sp
theorem meet_up (h : StOk m a ns) {r n : Nat} (hi : m[a]? = some (.up r n)) : Meet (midP m a ns 1) (rawP m n (ns.set r (ns.getD r 0 + 1))) := by
  have gi : r < 4 ∧ n < m.length := h.mok.good _ (List.mem_of_getElem? hi)
  have hm := h.mok.le
  have p1 := reg_parts h gi.1
  have e : midP m a ns 1 = insL 0 m ++ regL 0 ns ++ [wait (12 + r) (upB r n)] := by unfold midP; rw [hi]; rfl
  rw [e]
  have nv := getD_le h r
  refine meet_lets (A := insL 0 m ++ (regL 0 ns).eraseIdx r) (c := 12 + r) (p := numP r (ns.getD r 0)) (b := upB r n) (h.lets.perm p1) (by omega) (okL_one.mp (doing_ok (i := .up r n) gi hm)) (p1.append_right _) ?_ (by simp [upB, goingP, cntL_cons, cnt_node, cnt_got, cntL]) (by rw [num_cnt]; omega)
  rw [bring_up gi.1 (by omega)]
  unfold rawP
  refine ((set_parts h gi.1 _).append_right _).trans (List.Perm.of_eq ?_)
  rw [List.append_assoc _ [letter (12 + r) (numP r (ns.getD r 0 + 1))]]
  rfl
theorem mid2 {r n o : Nat} (hi : m[a]? = some (.dn r n o)) : midP m a ns 2 = insL 0 m ++ (regL 0 ns).eraseIdx r ++ (numP r (ns.getD r 0) ++ [letter 18 (goingP n), letter 25 (emptyP r o)]) := by unfold midP; rw [hi]; rfl
theorem mid3 {r n o : Nat} (hi : m[a]? = some (.dn r n o)) : midP m a ns 3 = insL 0 m ++ (regL 0 ns).eraseIdx r ++ (if ns.getD r 0 = 0 then [letter 18 (goingP n), wait 18 (emptyP r o)] else [letter 25 (emptyP r o), wait 25 (goingP n ++ [letter (12 + r) (numP r (ns.getD r 0 - 1))])]) := by unfold midP; rw [hi]; rfl
theorem meet_dn (h : StOk m a ns) {r n o : Nat} (hi : m[a]? = some (.dn r n o)) : Meet (midP m a ns 1) (midP m a ns 2) := by
  have gi : r < 4 ∧ n < m.length ∧ o < m.length := h.mok.good _ (List.mem_of_getElem? hi)
  have hm := h.mok.le
  have p1 := reg_parts h gi.1
  have e : midP m a ns 1 = insL 0 m ++ regL 0 ns ++ [wait (12 + r) (dnB r n o)] := by unfold midP; rw [hi]; rfl
  rw [e]
  have nv := getD_le h r
  refine meet_lets (A := insL 0 m ++ (regL 0 ns).eraseIdx r) (c := 12 + r) (p := numP r (ns.getD r 0)) (b := dnB r n o) (h.lets.perm p1) (by omega) (okL_one.mp (doing_ok (i := .dn r n o) gi hm)) (p1.append_right _) ?_ (by simp [dnB, emptyP, numP, goingP, cntL_cons, cnt_node, cnt_got, cntL]) (by rw [num_cnt]; omega)
  rw [bring_dn gi.1 (by omega) (by omega), mid2 hi]
/-- the letters that a down leaves -/
theorem lets_dn (h : StOk m a ns) {r n o : Nat} (hi : m[a]? = some (.dn r n o)) : Lets 0 26 (insL 0 m ++ (regL 0 ns).eraseIdx r ++ [letter 18 (goingP n), letter 25 (emptyP r o)]) := by
  have gi : r < 4 ∧ n < m.length ∧ o < m.length := h.mok.good _ (List.mem_of_getElem? hi)
  have hm := h.mok.le
  have l1 := ((h.lets.perm (reg_parts h gi.1)).sub).1
  refine l1.append (c := 26) (b := 16) ⟨fun x hx => ?_, by simp [tag_letter]⟩ (by omega) (by omega)
  rcases List.mem_cons.mp hx with z | z
  · exact ⟨18, _, z, by omega, by omega, going_ok (by omega) 0⟩
  · exact ⟨25, _, List.mem_singleton.mp z, by omega, by omega, empty_ok gi.1 (by omega) 0⟩
theorem meet_dn2 (h : StOk m a ns) {r n o : Nat} (hi : m[a]? = some (.dn r n o)) : Meet (midP m a ns 2) (midP m a ns 3) := by
  have gi : r < 4 ∧ n < m.length ∧ o < m.length := h.mok.good _ (List.mem_of_getElem? hi)
  have hm := h.mok.le
  have ll := lets_dn h hi
  have nv := getD_le h r
  rw [mid2 hi, mid3 hi]
  have okG := going_ok (show n < 26 by omega) 0
  have okZ := empty_ok (r := r) (o := o) gi.1 (by omega) 0
  cases ev : ns.getD r 0 with
  | zero =>
    rw [if_pos rfl]
    have ll2 : Lets 0 26 (insL 0 m ++ (regL 0 ns).eraseIdx r ++ [letter 18 (goingP n)] ++ [letter 25 (emptyP r o)]) := by
      rw [List.append_assoc _ [letter 18 (goingP n)]]; exact ll
    refine meet_lets (c := 25) (p := emptyP r o) (b := [wait 18 [.got 1]]) ll2 (by omega) (okL_one.mp (num_ok gi.1 0 0)) ?_ ?_ (by simp [cntL_cons, cnt_node, cnt_got, cntL]) (by simp [emptyP, numP, goingP, cntL_cons, cnt_node, cnt_got, cntL])
    · show (insL 0 m ++ (regL 0 ns).eraseIdx r ++ ([wait 25 [wait 18 [.got 1]]] ++ [letter 18 (goingP n), letter 25 (emptyP r o)])).Perm _
      rw [List.append_assoc, List.append_assoc (insL 0 m ++ (regL 0 ns).eraseIdx r), List.append_assoc (insL 0 m ++ (regL 0 ns).eraseIdx r), List.append_assoc]
      exact List.Perm.append_left _ (List.Perm.append_left _ List.perm_append_comm)
    · rw [bring_z okZ, List.append_assoc _ [letter 18 (goingP n)]]
      exact List.Perm.refl _
  | succ u =>
    rw [if_neg (by omega)]
    have pp : (insL 0 m ++ (regL 0 ns).eraseIdx r ++ [letter 18 (goingP n), letter 25 (emptyP r o)]).Perm (insL 0 m ++ (regL 0 ns).eraseIdx r ++ [letter 25 (emptyP r o)] ++ [letter 18 (goingP n)]) := by
      rw [List.append_assoc _ [letter 25 (emptyP r o)]]
      exact List.Perm.append_left _ (List.Perm.swap _ _ _)
    have okN := num_ok gi.1 (u + 1) 0
    refine meet_lets (c := 18) (p := goingP n) (b := [wait 25 [.got 1, letter (12 + r) (numP r u)]]) (ll.perm pp) (by omega) (okL_one.mp okN) ?_ ?_ (by simp [cntL_cons, cnt_node, cnt_got, cntL, num_cnt]; omega) (by rw [going_cnt]; omega)
    · refine List.Perm.trans ?_ (pp.append_right _)
      rw [List.append_assoc _ _ [wait 18 _]]
      exact List.Perm.append_left _ (List.perm_append_comm (l₁ := numP r (u + 1)))
    · rw [bring_s gi.1 okG, List.append_assoc _ [letter 25 (emptyP r o)]]
      exact List.Perm.refl _
/-- the law's next standing -/
def nextS (m : List Ins) (a : Nat) (ns : List Nat) : Nat × List Nat := match m[a]? with
  | some (.up r n) => (n, ns.set r (ns.getD r 0 + 1))
  | some (.dn r n o) => if ns.getD r 0 = 0 then (o, ns) else (n, ns.set r (ns.getD r 0 - 1))
  | _ => (a, ns)
theorem meet_dn3 (h : StOk m a ns) {r n o : Nat} (hi : m[a]? = some (.dn r n o)) : Meet (midP m a ns 3) (rawP m (nextS m a ns).1 (nextS m a ns).2) := by
  have gi : r < 4 ∧ n < m.length ∧ o < m.length := h.mok.good _ (List.mem_of_getElem? hi)
  have hm := h.mok.le
  have ll := lets_dn h hi
  have nv := getD_le h r
  have hn : nextS m a ns = if ns.getD r 0 = 0 then (o, ns) else (n, ns.set r (ns.getD r 0 - 1)) := by unfold nextS; rw [hi]
  rw [mid3 hi, hn]
  have okG := going_ok (show n < 26 by omega) 0
  have okZ := empty_ok (r := r) (o := o) gi.1 (by omega) 0
  cases ev : ns.getD r 0 with
  | zero =>
    rw [if_pos rfl, if_pos rfl]
    have ll2 : Lets 0 26 (insL 0 m ++ (regL 0 ns).eraseIdx r ++ [letter 18 (goingP n)]) := by
      have := ll
      rw [show [letter 18 (goingP n), letter 25 (emptyP r o)] = [letter 18 (goingP n)] ++ [letter 25 (emptyP r o)] from rfl, ← List.append_assoc] at this
      exact this.sub.1
    refine meet_lets (c := 18) (p := goingP n) (b := emptyP r o) ll2 (by omega) ?_ ?_ ?_ (by simp [emptyP, numP, goingP, cntL_cons, cnt_node, cnt_got, cntL]) (by rw [going_cnt]; omega)
    · rw [ok_wait]
      refine ⟨by omega, okL_mono (by omega) okZ, fun q hq => ?_⟩
      simp only [emptyP, goingP, List.mem_cons, List.not_mem_nil, or_false, Part.node.injEq, reduceCtorEq, false_and, true_and, false_or] at hq
      omega
    · rw [List.append_assoc _ [letter 18 (goingP n)]]
      exact List.Perm.refl _
    · rw [bring_ok okZ]
      unfold rawP
      have p1 := reg_parts h gi.1
      rw [ev] at p1
      refine (p1.append_right _).trans (List.Perm.of_eq ?_)
      rw [List.append_assoc _ [letter (12 + r) (numP r 0)]]
      rfl
  | succ u =>
    rw [if_neg (by omega), if_neg (by omega)]
    have ll2 : Lets 0 26 (insL 0 m ++ (regL 0 ns).eraseIdx r ++ [letter 25 (emptyP r o)]) := by
      have := ll.perm (q := insL 0 m ++ (regL 0 ns).eraseIdx r ++ [letter 25 (emptyP r o)] ++ [letter 18 (goingP n)]) (by
        rw [List.append_assoc _ [letter 25 (emptyP r o)]]
        exact List.Perm.append_left _ (List.Perm.swap _ _ _))
      exact this.sub.1
    have okB : okL 0 (goingP n ++ [letter (12 + r) (numP r u)]) := by
      rw [okL_append, okL_one, ok_letter]
      refine ⟨okG, ⟨by omega, num_ok gi.1 u 0⟩, fun x hx y hy => ?_⟩
      rw [List.mem_singleton.mp hx, List.mem_singleton.mp hy, tag_wait, tag_letter]
      simp
    refine meet_lets (c := 25) (p := emptyP r o) (b := goingP n ++ [letter (12 + r) (numP r u)]) ll2 (by omega) ?_ ?_ ?_ (by rw [cntL_append, going_cnt]; simp [cntL_cons, cnt_node, cntL, num_cnt]; omega) (by simp [emptyP, numP, goingP, cntL_cons, cnt_node, cnt_got, cntL])
    · rw [ok_wait]
      refine ⟨by omega, okL_mono (by omega) okB, fun q hq => ?_⟩
      simp only [goingP, List.mem_append, List.mem_cons, List.not_mem_nil, or_false, Part.node.injEq, reduceCtorEq, false_and, true_and, false_or] at hq
      omega
    · rw [List.append_assoc _ [letter 25 (emptyP r o)]]
      exact List.Perm.refl _
    · rw [bring_ok okB]
      unfold rawP
      refine ((set_parts h gi.1 u).append_right _).trans ?_
      rw [List.append_assoc]
      exact List.Perm.append_left _ List.perm_append_comm
end
end K87
/-! Bounds of forms, and what is read in them. -/
namespace K87
open PySem PyProof.Rows PySem.W
theorem ins_cnt : ∀ (m : List Ins) (k : Nat), cntL (insL k m) ≤ 17 * m.length
  | [], _ => by simp [insL, cntL]
  | i :: r, k => by
    have h1 := doing_cnt i
    have h2 := ins_cnt r (k + 1)
    unfold insL
    rw [cntL_cons, cnt_node, List.length_cons]
    omega
theorem ins_dp (m : List Ins) : ∀ (k : Nat), dpL (insL k m) ≤ 6 := by
  induction m with
  | nil => intro k; simp [insL, dpL]
  | cons i r ih =>
    intro k
    have h1 := doing_dp i
    have h2 := ih (k + 1)
    unfold insL
    rw [dpL, dp_node]
    omega
theorem reg_cnt {v : Nat} : ∀ (ns : List Nat) (k : Nat), (∀ n ∈ ns, n ≤ v) → cntL (regL k ns) ≤ (4 + 4 * v) * ns.length
  | [], _, _ => by simp [regL, cntL]
  | n :: r, k, h => by
    have h2 := reg_cnt r (k + 1) fun x hx => h x (List.mem_cons_of_mem _ hx)
    have h3 := h n List.mem_cons_self
    unfold regL
    rw [cntL_cons, cnt_node, num_cnt, List.length_cons, Nat.mul_succ]
    omega
theorem reg_dp {v : Nat} : ∀ (ns : List Nat) (k : Nat), (∀ n ∈ ns, n ≤ v) → dpL (regL k ns) ≤ 3 + 3 * v
  | [], _, _ => by simp [regL, dpL]
  | n :: r, k, h => by
    have h2 := reg_dp r (k + 1) fun x hx => h x (List.mem_cons_of_mem _ hx)
    have h3 := h n List.mem_cons_self
    unfold regL
    rw [dpL, dp_node, num_dp]
    omega
theorem sub_sum : ∀ {p q : List Nat}, p.Sublist q → p.sum ≤ q.sum
  | _, _, .slnil => Nat.le_refl _
  | _, _, .cons a h => by rw [List.sum_cons]; have := sub_sum h; omega
  | _, _, .cons_cons a h => by rw [List.sum_cons, List.sum_cons]; have := sub_sum h; omega
theorem sub_cnt {p q : Pl} (h : p.Sublist q) : cntL p ≤ cntL q := by
  rw [cntL_map, cntL_map]
  exact sub_sum (h.map _)
theorem sub_dp {p q : Pl} (h : p.Sublist q) : dpL p ≤ dpL q := dpL_le.mpr fun x hx => dpL_le.mp (Nat.le_refl _) x (h.subset hx)
theorem dpL_append (p q : Pl) : dpL (p ++ q) = max (dpL p) (dpL q) := by
  induction p with
  | nil => rw [List.nil_append, dpL, Nat.zero_max]
  | cons x r ih => rw [List.cons_append, dpL, dpL, ih, Nat.max_assoc]
theorem dpL_cons (x : Part) (r : Pl) : dpL (x :: r) = max x.dp (dpL r) := by rw [dpL]
structure Small (p : Pl) : Prop where
  cnt : cntL p ≤ 500
  dp : dpL p ≤ 30
section
variable {m : List Ins} {a : Nat} {ns : List Nat}
theorem StOk.small (h : StOk m a ns) (k : Nat) : Small (midP m a ns k) := by
  have i1 := ins_cnt m 0
  have i2 := ins_dp m 0
  have hm := h.mok.le
  have r1 := reg_cnt ns 0 h.le
  have r2 := reg_dp ns 0 h.le
  rw [h.n] at r1
  have e1 : ∀ r, cntL ((regL 0 ns).eraseIdx r) ≤ 112 := fun r => Nat.le_trans (sub_cnt (List.eraseIdx_sublist ..)) (by omega)
  have e2 : ∀ r, dpL ((regL 0 ns).eraseIdx r) ≤ 21 := fun r => Nat.le_trans (sub_dp (List.eraseIdx_sublist ..)) (by omega)
  have c0 : cntL ([] : Pl) = 0 := by rw [cntL]
  have d0 : dpL ([] : Pl) = 0 := by rw [dpL]
  have ze : ∀ r o, cntL (emptyP r o) = 8 := fun r o => by simp [emptyP, numP, goingP, cntL_cons, cnt_node, cnt_got, cntL]
  have zd : ∀ r o, dpL (emptyP r o) = 3 := fun r o => by simp [emptyP, numP, goingP, dpL, dp_node, dp_got]
  obtain ⟨i, hi, gi⟩ := h.ins
  unfold midP
  rw [hi]
  split
  · refine ⟨?_, ?_⟩
    · unfold rawP; rw [cntL_append, cntL_append, going_cnt]; omega
    · unfold rawP; rw [dpL_append, dpL_append, going_dp]; omega
  · rename_i j ej
    have h1 := doing_cnt j
    have h2 := doing_dp j
    refine ⟨?_, ?_⟩
    · rw [cntL_append, cntL_append]; omega
    · rw [dpL_append, dpL_append]; omega
  · rename_i r n o ej
    have := e1 r
    have := e2 r
    have nv := getD_le h r
    refine ⟨?_, ?_⟩
    · rw [cntL_append, cntL_append, cntL_append, num_cnt, cntL_cons, cntL_cons, cnt_node, cnt_node, going_cnt, ze, c0]; omega
    · rw [dpL_append, dpL_append, dpL_append, num_dp, dpL, dpL, dp_node, dp_node, going_dp, zd, d0]; omega
  · rename_i r n o ej
    have := e1 r
    have := e2 r
    have nv := getD_le h r
    split
    · refine ⟨?_, ?_⟩
      · rw [cntL_append, cntL_append, cntL_cons, cntL_cons, cnt_node, cnt_node, going_cnt, ze, c0]; omega
      · rw [dpL_append, dpL_append, dpL, dpL, dp_node, dp_node, going_dp, zd, d0]; omega
    · refine ⟨?_, ?_⟩
      · rw [cntL_append, cntL_append, cntL_cons, cntL_cons, cnt_node, cnt_node, cntL_append, cntL_cons, cnt_node, num_cnt, going_cnt, ze, c0]; omega
      · rw [dpL_append, dpL_append, dpL_cons, dpL_cons, dp_node, dp_node, dpL_append, dpL_cons, dp_node, num_dp, going_dp, zd, d0]; omega
  · exact ⟨by rw [c0]; omega, by rw [d0]; omega⟩
/-! ### the registers -/
def heldF (c : Nat) : Part → Option Pl
  | .node false e q => if e = 12 + c then some q else none
  | _ => none
def heldP (f : Pl) (c : Nat) : List Pl := f.filterMap (heldF c)
theorem heldF_one (c : Nat) (q : Pl) : heldF c (letter (12 + c) q) = some q := if_pos rfl
theorem held_none {f : Pl} {c : Nat} (h : ∀ q, letter (12 + c) q ∉ f) : heldP f c = [] := by
  unfold heldP
  rw [List.filterMap_eq_nil_iff]
  intro x hx
  match x, hx with
  | .node false e q, hx =>
    show (if e = 12 + c then some q else none) = none
    rw [if_neg fun z => by subst z; exact h q hx]
  | .node true _ _, _ => rfl
  | .name _, _ => rfl
  | .got _, _ => rfl
theorem held_one {f : Pl} {c : Nat} {q : Pl} (o : okL 0 f) (h : letter (12 + c) q ∈ f) : heldP f c = [q] := by
  obtain ⟨s, t, rfl⟩ := List.append_of_mem h
  have o2 := okL_append.mp o
  have o3 := okL_cons.mp o2.2.1
  have hs : heldP s c = [] := held_none fun q' hq => o2.2.2 _ hq _ List.mem_cons_self rfl
  have ht : heldP t c = [] := held_none fun q' hq => o3.2.2 _ hq rfl
  unfold heldP at hs ht ⊢
  rw [List.filterMap_append, hs, List.filterMap_cons, ht, heldF_one]
  rfl
theorem mem_reg : ∀ (ns : List Nat) (k c v : Nat), ns[c]? = some v → letter (12 + (k + c)) (numP (k + c) v) ∈ regL k ns
  | [], _, _, _, h => by simp at h
  | n :: r, k, 0, v, h => by
    injection h with h
    subst h
    exact List.mem_cons_self
  | n :: r, k, c + 1, v, h => by
    have := mem_reg r (k + 1) c v h
    rw [show k + 1 + c = k + (c + 1) by omega] at this
    exact List.mem_cons_of_mem _ this
theorem mem_plain {f : Pl} {k : Bool} {c : Nat} {q : Pl} (h : Part.node k c q ∈ f) : Part.node k c (plainL q) ∈ plainL f :=
  (plainL_perm f).mem_iff.mpr (List.mem_map.mpr ⟨_, h, plain_node k c q⟩)
theorem plain_mem {f : Pl} {k : Bool} {c : Nat} {q : Pl} (h : Part.node k c q ∈ plainL f) : ∃ q', Part.node k c q' ∈ f := by
  obtain ⟨y, hy, e⟩ := List.mem_map.mp ((plainL_perm f).mem_iff.mp h)
  cases y with
  | name w => rw [plain_name] at e; cases e
  | got e' => rw [plain_got] at e; cases e
  | node k' c' p' =>
    rw [plain_node] at e
    injection e with e1 e2 e3
    subst e1 e2
    exact ⟨p', hy⟩
theorem num_inj {c n n' : Nat} (h : plainL (numP c n) = plainL (numP c n')) : n = n' := by
  have e := congrArg cntL h
  rw [cnt_plain.2, cnt_plain.2, num_cnt, num_cnt] at e
  omega
theorem raw_ok (h : StOk m a ns) : okL 0 (rawP m a ns) := by
  obtain ⟨i, hi, _⟩ := h.ins
  obtain ⟨A, c, p, b, w⟩ := meet_go h hi
  exact w.ok
theorem mid_ok (h : StOk m a ns) (k : Nat) : okL 0 (midP m a ns k) := by
  obtain ⟨i, hi, gi⟩ := h.ins
  have r0 : midP m a ns 0 = rawP m a ns := by unfold midP; rw [hi]; rfl
  match k with
  | 0 => rw [r0]; exact raw_ok h
  | 1 =>
    cases i with
    | halt =>
      have e : midP m a ns 1 = insL 0 m ++ regL 0 ns ++ [] := by unfold midP; rw [hi]; rfl
      rw [e, List.append_nil]
      exact h.lets.ok (by omega)
    | up r n => obtain ⟨A, c, p, b, w⟩ := meet_up h hi; exact w.ok
    | dn r n o => obtain ⟨A, c, p, b, w⟩ := meet_dn h hi; exact w.ok
  | 2 =>
    cases i with
    | halt => have e : midP m a ns 2 = [] := by unfold midP; rw [hi]; rfl
              rw [e]; exact okL_nil
    | up r n => have e : midP m a ns 2 = [] := by unfold midP; rw [hi]; rfl
                rw [e]; exact okL_nil
    | dn r n o => obtain ⟨A, c, p, b, w⟩ := meet_dn2 h hi; exact w.ok
  | 3 =>
    cases i with
    | halt => have e : midP m a ns 3 = [] := by unfold midP; rw [hi]; rfl
              rw [e]; exact okL_nil
    | up r n => have e : midP m a ns 3 = [] := by unfold midP; rw [hi]; rfl
                rw [e]; exact okL_nil
    | dn r n o => obtain ⟨A, c, p, b, w⟩ := meet_dn3 h hi; exact w.ok
  | k + 4 =>
    have e : midP m a ns (k + 4) = [] := by unfold midP; rw [hi]; rfl
    rw [e]; exact okL_nil
theorem held_reg (h : StOk m a ns) {c v : Nat} (hc : ns[c]? = some v) {k : Nat} (hk : k ≤ 1) : heldP (plainL (midP m a ns k)) c = [plainL (numP c v)] := by
  have mr := mem_reg ns 0 c v hc
  rw [Nat.zero_add] at mr
  obtain ⟨i, hi, gi⟩ := h.ins
  refine held_one (okL_plain.mpr (mid_ok h k)) (mem_plain ?_)
  match k, hk with
  | 0, _ =>
    have r0 : midP m a ns 0 = rawP m a ns := by unfold midP; rw [hi]; rfl
    rw [r0]
    exact List.mem_append_left _ (List.mem_append_right _ mr)
  | 1, _ =>
    have e : midP m a ns 1 = insL 0 m ++ regL 0 ns ++ doingP i := by unfold midP; rw [hi]; rfl
    rw [e]
    exact List.mem_append_left _ (List.mem_append_right _ mr)
/-- in the midst of a down its register is lacking -/
theorem held_lack (h : StOk m a ns) {r n o : Nat} (hi : m[a]? = some (.dn r n o)) {k : Nat} (hk : k = 2 ∨ k = 3) : heldP (plainL (midP m a ns k)) r = [] := by
  have gi : r < 4 ∧ n < m.length ∧ o < m.length := h.mok.good _ (List.mem_of_getElem? hi)
  refine held_none fun q hq => ?_
  obtain ⟨q', hq⟩ := plain_mem hq
  have hl := h.lets.perm (reg_parts h gi.1)
  have ha : ∀ q, letter (12 + r) q ∉ insL 0 m ++ (regL 0 ns).eraseIdx r := fun q hq => by
    have nd := hl.nd
    rw [List.map_append, List.nodup_append] at nd
    exact nd.2.2 _ (List.mem_map.mpr ⟨_, hq, rfl⟩) _ (List.mem_map.mpr ⟨_, List.mem_singleton.mpr rfl, rfl⟩) rfl
  rcases hk with e | e
  · subst e
    rw [mid2 hi] at hq
    rcases List.mem_append.mp hq with z | z
    · exact ha _ z
    · rcases List.mem_append.mp z with z | z
      · cases e : ns.getD r 0 with
        | zero => rw [e] at z; simp [numP] at z
        | succ u => rw [e] at z; simp [numP] at z
      · simp at z; omega
  · subst e
    rw [mid3 hi] at hq
    rcases List.mem_append.mp hq with z | z
    · exact ha _ z
    · split at z
      · simp at z; omega
      · simp at z; omega
/-! ### where it stands -/
theorem raw_at (h : StOk m a ns) {b : Nat} (hb : b < m.length) (e : plainL (rawP m b ns) = plainL (rawP m a ns)) : b = a := by
  have m1 : wait b [.got 0, letter b [.got 0]] ∈ rawP m b ns := List.mem_append_right _ (by simp [goingP])
  have m2 := mem_plain m1
  rw [e] at m2
  obtain ⟨q, m3⟩ := plain_mem m2
  have hl := h.lets
  rcases List.mem_append.mp m3 with z | z
  · obtain ⟨c, q2, e2⟩ := hl.al _ z; simp at e2
  · simp [goingP] at z; exact z.1
theorem raw_mid1 (h : StOk m a ns) {b : Nat} (hb : b < m.length) : plainL (rawP m b ns) ≠ plainL (midP m a ns 1) := by
  intro e
  have m1 : wait b [.got 0, letter b [.got 0]] ∈ rawP m b ns := List.mem_append_right _ (by simp [goingP])
  have m2 := mem_plain m1
  rw [e] at m2
  obtain ⟨q, m3⟩ := plain_mem m2
  have hl := h.lets
  have hm := h.mok.le
  obtain ⟨i, hi, gi⟩ := h.ins
  have e1 : midP m a ns 1 = insL 0 m ++ regL 0 ns ++ doingP i := by unfold midP; rw [hi]; rfl
  rw [e1] at m3
  rcases List.mem_append.mp m3 with z | z
  · obtain ⟨c, q2, e2⟩ := hl.al _ z; simp at e2
  · cases i with
    | halt => simp [doingP] at z
    | up r n => simp [doingP] at z; omega
    | dn r n o => simp [doingP] at z; omega
end
end K87
/-! Keys of parts: whole numbers, then what may be of two sorts; never compared beyond what differs. -/
namespace K87
open PySem PyProof.Rows PySem.W PySem.Calls
/-- what of a key decides -/
def kc : PyData → List Sg
  | .tuple (.int a :: .int r :: t :: _) => [.inl a, .inl r, sgOf t]
  | _ => []
def KeyFm (d : PyData) : Prop := ∃ (a r : Int) (t i : PyData), d = .tuple [.int a, .int r, t, i]
def KeyDif (d d' : PyData) : Prop := ∃ (a r : Int) (t i : PyData) (a' r' : Int) (t' i' : PyData), d = .tuple [.int a, .int r, t, i] ∧ d' = .tuple [.int a', .int r', t', i'] ∧
  (a ≠ a' ∨ (a = a' ∧ r ≠ r') ∨ (a = a' ∧ r = r' ∧ ((∃ m n : Int, t = .int m ∧ t' = .int n ∧ m ≠ n) ∨ ∃ m n : Str, t = .str m ∧ t' = .str n ∧ m ≠ n)))
structure KeysOk (ds : List PyData) : Prop where
  fm : ∀ d ∈ ds, KeyFm d ∧ d.plain = true ∧ d.depth ≤ 200
  dif : ∀ d ∈ ds, ∀ d' ∈ ds, d = d' ∨ KeyDif d d'
noncomputable def kK (h : Heap) (ds : List PyData) : PyProof.Rows.KeyKind where
  toKeyOrd := listOrd itemOrd
  keyOf v := open Classical in if q : ∃ d, d ∈ ds ∧ ∃ as, Reads h v d as then some (kc q.choose) else none
  dflt := ([] : List Sg)
section
variable {h : Heap} {ds : List PyData}
theorem kK_some (ok : KeysOk ds) {v : Value} {d : PyData} {as : List Addr} (hd : d ∈ ds) (r : Reads h v d as) : (kK h ds).keyOf v = some (kc d) := by
  have q : ∃ d, d ∈ ds ∧ ∃ as, Reads h v d as := ⟨d, hd, as, r⟩
  have e : (kK h ds).keyOf v = some (kc q.choose) := by
    show (open Classical in if q : ∃ d, d ∈ ds ∧ ∃ as, Reads h v d as then some (kc q.choose) else none) = _
    exact dif_pos q
  obtain ⟨h1, as', h2⟩ := q.choose_spec
  rw [e, PySem.SeqAt.plain_unique _ _ _ _ _ (ok.fm _ h1).2.1 h2 r]
theorem kK_inv {v : Value} {k : List Sg} (e : (kK h ds).keyOf v = some k) : ∃ d as, d ∈ ds ∧ Reads h v d as ∧ k = kc d := by
  have e' : (open Classical in if q : ∃ d, d ∈ ds ∧ ∃ as, Reads h v d as then some (kc q.choose) else none) = some k := e
  split at e'
  · rename_i q
    obtain ⟨h1, as', h2⟩ := q.choose_spec
    exact ⟨_, as', h1, h2, (Option.some.inj e').symm⟩
  · cases e'
theorem reads4 {vs : List Value} {a b c d : PyData} {as : List Addr} (r : ReadsAll h vs [a, b, c, d] as) : ∃ v1 v2 v3 v4 a1 a2 a3 a4, vs = [v1, v2, v3, v4] ∧ Reads h v1 a a1 ∧ Reads h v2 b a2 ∧ Reads h v3 c a3 ∧ Reads h v4 d a4 := by
  cases r with
  | cons r1 r => cases r with
    | cons r2 r => cases r with
      | cons r3 r => cases r with
        | cons r4 r =>
          cases r
          exact ⟨_, _, _, _, _, _, _, _, rfl, r1, r2, r3, r4⟩
end
theorem str_ltv {m n : Str} : itemLt (.inr m.cps.toList) (.inr n.cps.toList) = dataLt (.str m) (.str n) := by
  rw [dataLt_str]
  rfl
section
variable {prog : Program} {w : World} {A : Around} {s : Shared} {ds : List PyData}
theorem keys_lt (hA : A.units + 200 < cLine) {d d' : PyData} (hd : KeyFm d ∧ d.plain = true ∧ d.depth ≤ 200) (hd' : KeyFm d' ∧ d'.plain = true ∧ d'.depth ≤ 200) (dif : d = d' ∨ KeyDif d d') {x y : Value} {as bs : List Addr} (ra : Reads s.heap x d as) (rb : Reads s.heap y d' bs)
    {E : Value → Shared → Prop} {Q : Bool → Shared → Prop} (hq : Q (PyProof.Rows.lexLt itemOrd (kc d) (kc d')) s) : wpAny (model prog w) A (keyLt' (tuples' true) x y) Q E s := by
  obtain ⟨⟨a, r, t, i, e⟩, pd, hu⟩ := hd
  obtain ⟨⟨a', r', t', i', e'⟩, pd', hu'⟩ := hd'
  subst e e'
  cases ra with
  | @tuple l o xs n _ _ h1 h2 h3 h4 =>
  cases rb with
  | @tuple l' o' xs' n' _ _ k1 k2 k3 k4 =>
  obtain ⟨v1, v2, v3, v4, _, _, _, _, ev, p1, p2, p3, p4⟩ := reads4 h4
  obtain ⟨w1, w2, w3, w4, _, _, _, _, ew, q1, q2, q3, q4⟩ := reads4 k4
  have n1 : xs.size = 4 := by rw [← Array.length_toList, ev]; rfl
  have n2 : xs'.size = 4 := by rw [← Array.length_toList, ew]; rfl
  have pl : ∀ z ∈ [PyData.int a, .int r, t, i], z.plain = true := fun z hz => by
    have q : PyData.plainAll [PyData.int a, .int r, t, i] = true := pd
    simp only [PyData.plainAll, Bool.and_true, Bool.and_eq_true] at q
    simp only [List.mem_cons, List.not_mem_nil, or_false] at hz
    rcases hz with rfl | rfl | rfl | rfl
    · exact q.1
    · exact q.2.1
    · exact q.2.2.1
    · exact q.2.2.2
  have pl' : ∀ z ∈ [PyData.int a', .int r', t', i'], z.plain = true := fun z hz => by
    have q : PyData.plainAll [PyData.int a', .int r', t', i'] = true := pd'
    simp only [PyData.plainAll, Bool.and_true, Bool.and_eq_true] at q
    simp only [List.mem_cons, List.not_mem_nil, or_false] at hz
    rcases hz with rfl | rfl | rfl | rfl
    · exact q.1
    · exact q.2.1
    · exact q.2.2.1
    · exact q.2.2.2
  have dl : t.depth ≤ 200 ∧ i.depth ≤ 200 := by
    have q : max (PyData.depth (.int a)) (max (PyData.depth (.int r)) (max t.depth (max i.depth 0))) + 1 ≤ 200 := hu
    omega
  refine kat_lt h1 h3 k1 k3 ?_
  rw [ev, ew, n1, n2]
  have E0 : ∀ {z z' : PyData} {u u' : Value} {c c' : List Addr}, z.plain = true → z'.plain = true → z.depth ≤ 200 → Reads s.heap u z c → Reads s.heap u' z' c' → PySem.SeqAt.EqAt A s u u' (PyData.eqv z z') := fun h1 h2 h3 r1 r2 =>
    PySem.SeqAt.eqAt_plain _ _ A s _ _ _ _ r1 r2 h1 h2 (by omega)
  have z0 : ∀ n : Int, (PyData.int n).depth ≤ 200 := fun n => Nat.zero_le _
  show KatLex prog w A true (decide (4 < 4)) Q [(v1, w1), (v2, w2), (v3, w3), (v4, w4)] 0 s
  rcases dif with e | ⟨a1, r1, t1, i1, a2, r2, t2, i2, e1, e2, dif⟩
  · injection e with e
    injection e with ea e
    injection e with er e
    injection e with et e
    injection e with ei _
    injection ea with ea
    injection er with er
    subst ea er et ei
    rw [lex_irrefl] at hq
    refine kat_cons (E0 (pl _ (by simp)) (pl _ (by simp)) (z0 _) p1 q1 prog w _ _ ?_)
    rw [PySem.SeqAt.eqv_refl_plain _ (pl _ (by simp))]
    refine kat_yes (kat_cons (E0 (pl _ (by simp)) (pl _ (by simp)) (z0 _) p2 q2 prog w _ _ ?_))
    rw [PySem.SeqAt.eqv_refl_plain _ (pl _ (by simp))]
    refine kat_yes (kat_cons (E0 (pl _ (by simp)) (pl _ (by simp)) dl.1 p3 q3 prog w _ _ ?_))
    rw [PySem.SeqAt.eqv_refl_plain _ (pl _ (by simp))]
    refine kat_yes (kat_cons (E0 (pl _ (by simp)) (pl _ (by simp)) dl.2 p4 q4 prog w _ _ ?_))
    rw [PySem.SeqAt.eqv_refl_plain _ (pl _ (by simp))]
    exact kat_yes (kat_nil hq)
  · injection e1 with e
    injection e with ea e
    injection e with er e
    injection e with et e
    injection e with ei _
    injection ea with ea
    injection er with er
    subst ea er et ei
    injection e2 with e
    injection e with ea e
    injection e with er e
    injection e with et e
    injection e with ei _
    injection ea with ea
    injection er with er
    subst ea er et ei
    have hq : Q (PyProof.Rows.lexLt itemOrd [.inl a, .inl r, sgOf t] [.inl a', .inl r', sgOf t']) s := hq
    refine kat_cons (E0 (pl _ (by simp)) (pl' _ (by simp)) (z0 _) p1 q1 prog w _ _ ?_)
    have ei : ∀ m n : Int, PyData.eqv (.int m) (.int n) = (m == n) := fun m n => by simp [PyData.eqv]
    have lt : ∀ {f : Bool} {z z' : PyData} {u u' : Value} {c c' : List Addr}, (∀ xs, z ≠ .tuple xs) → Reads s.heap u z c → Reads s.heap u' z' c' → alike z z' = true → z ≠ .none → z.depth ≤ 200 → Q (dataLt z z') s → wpAny (model prog w) A (oneLt' f u u') Q (fun _ _ => False) s := fun hf r1 r2 al hn hz q =>
      oneLt_alike (fun _ => hf) r1 r2 al hn (by omega) q
    rw [ei]
    rcases dif with d1 | ⟨rfl, d2⟩ | ⟨rfl, rfl, d3⟩
    · rw [show (a == a') = false by simpa using d1]
      rw [lex_diff (O := itemOrd) (by simpa using d1)] at hq
      refine kat_no (lt (by intro _ z; cases z) p1 q1 (by simp [alike]) (by intro z; cases z) (z0 _) ?_)
      rw [dataLt_int]
      exact hq
    · rw [show (a == a) = true by simp]
      rw [lex_self, lex_diff (O := itemOrd) (by simpa using d2)] at hq
      refine kat_yes (kat_cons (E0 (pl _ (by simp)) (pl' _ (by simp)) (z0 _) p2 q2 prog w _ _ ?_))
      rw [ei, show (r == r') = false by simpa using d2]
      refine kat_no (lt (by intro _ z; cases z) p2 q2 (by simp [alike]) (by intro z; cases z) (z0 _) ?_)
      rw [dataLt_int]
      exact hq
    · rw [show (a == a) = true by simp]
      rw [lex_self, lex_self] at hq
      refine kat_yes (kat_cons (E0 (pl _ (by simp)) (pl' _ (by simp)) (z0 _) p2 q2 prog w _ _ ?_))
      rw [ei, show (r == r) = true by simp]
      refine kat_yes (kat_cons (E0 (pl _ (by simp)) (pl' _ (by simp)) dl.1 p3 q3 prog w _ _ ?_))
      rcases d3 with ⟨m, n, rfl, rfl, hne⟩ | ⟨m, n, rfl, rfl, hne⟩
      · rw [ei, show (m == n) = false by simpa using hne]
        have hq : Q (PyProof.Rows.lexLt itemOrd [.inl m] [.inl n]) s := hq
        rw [lex_diff (O := itemOrd) (by simpa using hne)] at hq
        refine kat_no (lt (by intro _ z; cases z) p3 q3 (by simp [alike]) (by intro z; cases z) (z0 _) ?_)
        rw [dataLt_int]
        exact hq
      · have es : PyData.eqv (.str m) (.str n) = false := by
          simp only [PyData.eqv]
          simpa using hne
        rw [es]
        have hc : m.cps.toList ≠ n.cps.toList := fun z => hne (str_ext z)
        have hq : Q (PyProof.Rows.lexLt itemOrd [.inr m.cps.toList] [.inr n.cps.toList]) s := hq
        rw [lex_diff (O := itemOrd) (by simpa using hc)] at hq
        refine kat_no (lt (by intro _ z; cases z) p3 q3 (by simp [alike]) (by intro z; cases z) (Nat.zero_le _) ?_)
        rw [← str_ltv]
        exact hq
theorem firsts_of {h : Heap} : ∀ {vs : List Value} {ds : List PyData}, EachIs (fun v d => ∃ as, Reads h v d as) vs ds → (∀ d ∈ ds, KeyFm d) → ∃ fs, KatTups h vs fs ∧ fs.length = vs.length ∧ ∀ f ∈ fs, ∃ (n : Int) (t : Tok), f = .int n t
  | _, _, .nil, _ => ⟨[], KatTups.nil, rfl, fun f hf => (nomatch hf)⟩
  | _, _, .cons (b := d) ⟨as, r⟩ t, ht => by
    obtain ⟨fs, h1, h2, h3⟩ := firsts_of t fun d hd => ht d (List.mem_cons_of_mem _ hd)
    obtain ⟨a, rk, th, i, rfl⟩ := ht d List.mem_cons_self
    cases r with
    | @tuple l o xs n _ _ ho hc hd hr =>
      obtain ⟨v1, v2, v3, v4, _, _, _, _, ev, p1, _⟩ := reads4 hr
      have hf : xs[0]? = some v1 := by rw [← Array.getElem?_toList, ev]; rfl
      refine ⟨v1 :: fs, KatTups.cons ho hc hd hf h1, by rw [List.length_cons, List.length_cons, h2], fun g hg => ?_⟩
      rcases List.mem_cons.mp hg with rfl | hg
      · cases p1
        exact ⟨_, _, rfl⟩
      · exact h3 g hg
theorem sorts_keys {vs : List Value} (ok : KeysOk ds) (hA : A.units + 200 < cLine) (e : EachIs (fun v d => ∃ as, Reads s.heap v d as) vs ds) : SortsAt prog w A s (kK s.heap ds) vs := by
  refine ⟨fun v hv => ?_, tuples' true, ?_, fun h2 E Q hq => ?_⟩
  · obtain ⟨d, hd, as, r⟩ := e.left v hv
    exact ⟨_, kK_some ok hd r⟩
  · intro E x y a b Q ha hb hq
    obtain ⟨d, as, hd, ra, rfl⟩ := kK_inv ha
    obtain ⟨d', as', hd', rb, rfl⟩ := kK_inv hb
    exact keys_lt hA (ok.fm d hd) (ok.fm d' hd') (ok.dif d hd d' hd') ra rb hq
  · obtain ⟨fs, t1, t2, t3⟩ := firsts_of e fun d hd => (ok.fm d hd).1
    refine kat_kind (T := .type "int") t1 (by omega) (fun f hf => ?_) (beq_self_eq_true _) (by
      have e2 : ((Value.type "int") != Value.type "tuple") = true := by decide
      rw [e2]; exact hq)
    obtain ⟨n, t, rfl⟩ := t3 f hf
    exact Looks.of_pure rfl
end
end K87
/-! Data of plans compared; their depth; their keys; the sort. -/
namespace K87
open PySem PyProof.Rows PySem.W
theorem enc_got (e : Nat) : (Part.got e).enc = .tuple [.str "got", .int (e : Int)] := by rw [Part.enc]
theorem enc_name (w : Str) : (Part.name w).enc = .tuple [.str "name", .str w] := by rw [Part.enc]
theorem enc_node (k : Bool) (c : Nat) (p : Pl) : (Part.node k c p).enc = .tuple [.str (kw k), .str (door c), plan p] := by rw [Part.enc]; rfl
theorem encL_nil : encL [] = [] := by rw [encL]
theorem encL_cons (x : Part) (p : Pl) : encL (x :: p) = itm x :: encL p := by rw [encL]; rfl
theorem eqv_str (x y : Str) : PyData.eqv (.str x) (.str y) = decide (x = y) := by
  simp only [PyData.eqv]
  rw [Bool.eq_iff_iff]
  simp
theorem eqv_int (x y : Int) : PyData.eqv (.int x) (.int y) = decide (x = y) := by
  simp only [PyData.eqv]
  rw [Bool.eq_iff_iff]
  simp
theorem eqv_tup (x y : List PyData) : PyData.eqv (.tuple x) (.tuple y) = PyData.eqvAll x y := by simp only [PyData.eqv]
theorem eqvAll_cons (x y : PyData) (r s : List PyData) : PyData.eqvAll (x :: r) (y :: s) = (PyData.eqv x y && PyData.eqvAll r s) := by rw [PyData.eqvAll]
theorem eqvAll_nil : PyData.eqvAll [] [] = true := by rw [PyData.eqvAll]
theorem door_inj {c d : Nat} (h : door c = door d) : c = d := by
  unfold door at h
  injection h with h
  have := congrArg Array.toList h
  simp at this
  omega
theorem kw_inj {k l : Bool} (h : kw k = kw l) : k = l := by
  cases k <;> cases l <;> first | rfl | (exfalso; revert h; decide)
theorem eqv_enc : (∀ x : Part, ∀ y : Part, PyData.eqv x.enc y.enc = true → x = y) ∧ ∀ p q : Pl, PyData.eqvAll (encL p) (encL q) = true → p = q := by
  refine Part.ind (P := fun x => ∀ y : Part, PyData.eqv x.enc y.enc = true → x = y) (Q := fun p => ∀ q : Pl, PyData.eqvAll (encL p) (encL q) = true → p = q) ?_ ?_ ?_ ?_ ?_
  · intro w y h
    cases y with
    | name v =>
      rw [enc_name, enc_name, eqv_tup, eqvAll_cons, eqvAll_cons, eqv_str, eqv_str] at h
      simp only [Bool.and_eq_true, decide_eq_true_eq] at h
      rw [h.2.1]
    | got e =>
      rw [enc_name, enc_got, eqv_tup, eqvAll_cons, eqv_str] at h
      simp only [Bool.and_eq_true, decide_eq_true_eq] at h
      exact absurd h.1 (by decide)
    | node k c p =>
      rw [enc_name, enc_node, eqv_tup, eqvAll_cons, eqv_str] at h
      simp only [Bool.and_eq_true, decide_eq_true_eq] at h
      exact absurd h.1 (by cases k <;> decide)
  · intro e y h
    cases y with
    | name v =>
      rw [enc_name, enc_got, eqv_tup, eqvAll_cons, eqv_str] at h
      simp only [Bool.and_eq_true, decide_eq_true_eq] at h
      exact absurd h.1 (by decide)
    | got e' =>
      rw [enc_got, enc_got, eqv_tup, eqvAll_cons, eqvAll_cons, eqv_str, eqv_int] at h
      simp only [Bool.and_eq_true, decide_eq_true_eq] at h
      rw [show e = e' by omega]
    | node k c p =>
      rw [enc_got, enc_node, eqv_tup, eqvAll_cons, eqv_str] at h
      simp only [Bool.and_eq_true, decide_eq_true_eq] at h
      exact absurd h.1 (by cases k <;> decide)
  · intro k c p ih y h
    cases y with
    | name v =>
      rw [enc_name, enc_node, eqv_tup, eqvAll_cons, eqv_str] at h
      simp only [Bool.and_eq_true, decide_eq_true_eq] at h
      exact absurd h.1 (by cases k <;> decide)
    | got e' =>
      rw [enc_got, enc_node, eqv_tup, eqvAll_cons, eqv_str] at h
      simp only [Bool.and_eq_true, decide_eq_true_eq] at h
      exact absurd h.1 (by cases k <;> decide)
    | node k' c' p' =>
      rw [enc_node, enc_node, eqv_tup, eqvAll_cons, eqvAll_cons, eqvAll_cons, eqv_str, eqv_str] at h
      simp only [Bool.and_eq_true, decide_eq_true_eq] at h
      unfold plan at h
      rw [eqv_tup] at h
      rw [kw_inj h.1, door_inj h.2.1, ih p' h.2.2.1]
  · intro q h
    cases q with
    | nil => rfl
    | cons y q => rw [encL_nil, encL_cons] at h; simp [PyData.eqvAll] at h
  · intro x r hx hr q h
    cases q with
    | nil => rw [encL_nil, encL_cons] at h; simp [PyData.eqvAll] at h
    | cons y q =>
      rw [encL_cons, encL_cons, eqvAll_cons, Bool.and_eq_true] at h
      unfold itm at h
      rw [eqv_tup, eqvAll_cons, eqvAll_cons] at h
      simp only [Bool.and_eq_true] at h
      rw [hx y h.1.2.1, hr q h.2]
theorem enc_pl : (∀ x : Part, x.enc.plain = true) ∧ ∀ p : Pl, PyData.plainAll (encL p) = true := by
  refine Part.ind (P := fun x => x.enc.plain = true) (Q := fun p => PyData.plainAll (encL p) = true) ?_ ?_ ?_ ?_ ?_
  · intro w; rw [enc_name]; rfl
  · intro w; rw [enc_got]; rfl
  · intro k c p h
    rw [enc_node]
    simp [PyData.plain, PyData.plainAll, plan, h]
  · rw [encL_nil]; rfl
  · intro x r hx hr
    rw [encL_cons]
    simp [PyData.plain, PyData.plainAll, itm, hx, hr]
theorem eqv_part (x y : Part) [Decidable (x = y)] : PyData.eqv x.enc y.enc = decide (x = y) := by
  rw [Bool.eq_iff_iff, decide_eq_true_iff]
  constructor
  · exact eqv_enc.1 x y
  · intro h; rw [h]; exact PySem.SeqAt.eqv_refl_plain _ (enc_pl.1 y)
theorem eqv_plan (p q : Pl) [Decidable (p = q)] : PyData.eqv (plan p) (plan q) = decide (p = q) := by
  unfold plan
  rw [eqv_tup, Bool.eq_iff_iff, decide_eq_true_iff]
  constructor
  · exact eqv_enc.2 p q
  · intro h; rw [h, ← eqv_tup]; exact PySem.SeqAt.eqv_refl_plain _ (show PyData.plainAll (encL q) = true from enc_pl.2 q)
theorem enc_depth : (∀ x : Part, x.enc.depth ≤ 3 * x.dp + 1) ∧ ∀ p : Pl, PyData.depthAll (encL p) ≤ 3 * dpL p + 2 := by
  refine Part.ind (P := fun x => x.enc.depth ≤ 3 * x.dp + 1) (Q := fun p => PyData.depthAll (encL p) ≤ 3 * dpL p + 2) ?_ ?_ ?_ ?_ ?_
  · intro w; rw [enc_name]; simp [PyData.depth, PyData.depthAll]
  · intro w; rw [enc_got]; simp [PyData.depth, PyData.depthAll]
  · intro k c p h
    rw [enc_node, dp_node]
    simp only [PyData.depth, PyData.depthAll, plan]
    omega
  · rw [encL_nil]; simp [PyData.depthAll]
  · intro x r hx hr
    rw [encL_cons, dpL_cons]
    simp only [PyData.depth, PyData.depthAll, itm]
    omega
theorem plan_depth (p : Pl) : (plan p).depth ≤ 3 * dpL p + 3 := by
  have := enc_depth.2 p
  unfold plan
  simp only [PyData.depth]
  omega
/-! ### keys -/
theorem key_form (x : Part) : ∃ i, x.key = .tuple [.int (x.size : Int), .int x.rank, x.third, i] := by
  cases x with
  | name w => exact ⟨_, by rw [Part.key, size_name]; rfl⟩
  | got d => exact ⟨_, by rw [Part.key, size_got]; rfl⟩
  | node k c p => exact ⟨_, by rw [Part.key, size_node, Nat.add_comm]; rfl⟩
theorem keyL_nil : keyL [] = [] := by rw [keyL]
theorem keyL_cons (x : Part) (p : Pl) : keyL (x :: p) = kitm x :: keyL p := by rw [keyL]; rfl
theorem key_pl : (∀ x : Part, x.key.plain = true) ∧ ∀ p : Pl, PyData.plainAll (keyL p) = true := by
  refine Part.ind (P := fun x => x.key.plain = true) (Q := fun p => PyData.plainAll (keyL p) = true) ?_ ?_ ?_ ?_ ?_
  · intro w; rw [Part.key]; rfl
  · intro w; rw [Part.key]; rfl
  · intro k c p h
    rw [Part.key]
    simp [PyData.plain, PyData.plainAll, h]
  · rw [keyL_nil]; rfl
  · intro x r hx hr
    rw [keyL_cons]
    simp [PyData.plain, PyData.plainAll, kitm, hx, hr]
theorem key_depth : (∀ x : Part, x.key.depth ≤ 3 * x.dp + 2) ∧ ∀ p : Pl, PyData.depthAll (keyL p) ≤ 3 * dpL p + 3 := by
  refine Part.ind (P := fun x => x.key.depth ≤ 3 * x.dp + 2) (Q := fun p => PyData.depthAll (keyL p) ≤ 3 * dpL p + 3) ?_ ?_ ?_ ?_ ?_
  · intro w; rw [Part.key]; simp [PyData.depth, PyData.depthAll]
  · intro w; rw [Part.key]; simp [PyData.depth, PyData.depthAll]
  · intro k c p h
    rw [Part.key, dp_node]
    simp only [PyData.depth, PyData.depthAll]
    omega
  · rw [keyL_nil]; simp [PyData.depthAll]
  · intro x r hx hr
    rw [keyL_cons, dpL_cons]
    simp only [PyData.depth, PyData.depthAll, kitm]
    omega
/-- the key of an item's data -/
noncomputable def kfD (e : PyData) : PyData := open Classical in if h : ∃ x, e = itm x then h.choose.key else .none
theorem itm_inj {x y : Part} (h : itm x = itm y) : x = y := by
  unfold itm at h
  injection h with h
  injection h with _ h
  injection h with h _
  refine eqv_enc.1 x y ?_
  rw [h]
  exact PySem.SeqAt.eqv_refl_plain _ (enc_pl.1 y)
theorem kfD_itm (x : Part) : kfD (itm x) = x.key := by
  have h : ∃ y, itm x = itm y := ⟨x, rfl⟩
  unfold kfD
  rw [dif_pos h, ← itm_inj h.choose_spec]
theorem key_tag {x y : Part} (h : x.tag ≠ y.tag) : KeyDif x.key y.key := by
  obtain ⟨i, e1⟩ := key_form x
  obtain ⟨j, e2⟩ := key_form y
  refine ⟨_, _, _, _, _, _, _, _, e1, e2, ?_⟩
  by_cases hs : (x.size : Int) = y.size
  · right
    by_cases hr : x.rank = y.rank
    · right
      refine ⟨hs, hr, ?_⟩
      have ht : sgOf x.third ≠ sgOf y.third := fun z => h (by unfold Part.tag; rw [hr, z])
      cases x with
      | name w =>
        cases y with
        | name v => exact .inr ⟨w, v, rfl, rfl, fun z => ht (by rw [z])⟩
        | got e => simp [Part.rank] at hr
        | node k c p => cases k <;> simp [Part.rank] at hr
      | got e =>
        cases y with
        | name v => simp [Part.rank] at hr
        | got e' => exact .inl ⟨e, e', rfl, rfl, fun z => ht (show sgOf (.int (e : Int)) = sgOf (.int (e' : Int)) by rw [z])⟩
        | node k c p => cases k <;> simp [Part.rank] at hr
      | node k c p =>
        cases y with
        | name v => cases k <;> simp [Part.rank] at hr
        | got e' => cases k <;> simp [Part.rank] at hr
        | node k' c' p' => exact .inr ⟨door c, door c', rfl, rfl, fun z => ht (show sgOf (.str (door c)) = sgOf (.str (door c')) by rw [z])⟩
    · left; exact ⟨hs, hr⟩
  · left; exact hs
theorem tags_ne {p : Pl} (nd : (p.map Part.tag).Nodup) {x y : Part} (hx : x ∈ p) (hy : y ∈ p) : x = y ∨ x.tag ≠ y.tag := by
  induction p with
  | nil => cases hx
  | cons z p ih =>
    rw [List.map_cons, List.nodup_cons] at nd
    rcases List.mem_cons.mp hx with h1 | h1 <;> rcases List.mem_cons.mp hy with h2 | h2
    · left; rw [h1, h2]
    · right; intro e; exact nd.1 (List.mem_map.mpr ⟨y, h2, by rw [← e, h1]⟩)
    · right; intro e; exact nd.1 (List.mem_map.mpr ⟨x, h1, by rw [e, h2]⟩)
    · exact ih nd.2 h1 h2
theorem keys_ok {p : Pl} (nd : (p.map Part.tag).Nodup) (hd : dpL p ≤ 66) : KeysOk ((encL p).map kfD) := by
  have e : (encL p).map kfD = p.map Part.key := by
    rw [encL_map, List.map_map]
    exact List.map_congr_left fun x _ => kfD_itm x
  rw [e]
  refine ⟨fun d hd' => ?_, fun d hd' d' hd2 => ?_⟩
  · obtain ⟨x, hx, rfl⟩ := List.mem_map.mp hd'
    obtain ⟨i, e1⟩ := key_form x
    have h1 := key_depth.1 x
    have h2 := dpL_le.mp hd x hx
    exact ⟨⟨_, _, _, _, e1⟩, key_pl.1 x, by omega⟩
  · obtain ⟨x, hx, rfl⟩ := List.mem_map.mp hd'
    obtain ⟨y, hy, rfl⟩ := List.mem_map.mp hd2
    rcases tags_ne nd hx hy with z | z
    · left; rw [z]
    · right; exact key_tag z
/-! ### the sort -/
theorem lex_app {a b r s : List Sg} (hl : a.length = b.length) (h : a ≠ b) : PyProof.Rows.lexLt itemOrd (a ++ r) (b ++ s) = PyProof.Rows.lexLt itemOrd a b := by
  induction a generalizing b with
  | nil =>
    cases b with
    | nil => exact absurd rfl h
    | cons y b => simp at hl
  | cons x a ih =>
    cases b with
    | nil => simp at hl
    | cons y b =>
      by_cases e : x = y
      · subst e
        have h' : a ≠ b := fun z => h (by rw [z])
        rw [List.cons_append, List.cons_append, lex_self, lex_self]
        exact ih (by simpa using hl) h'
      · rw [List.cons_append, List.cons_append, lex_diff (O := itemOrd) e, lex_diff (O := itemOrd) e]
theorem kc_key (x : Part) : kc x.key = key3 x := by
  obtain ⟨i, e⟩ := key_form x
  rw [e]
  rfl
theorem key3_tag {x y : Part} (h : x.tag ≠ y.tag) : key3 x ≠ key3 y := fun z => h (by
  unfold key3 at z
  injection z with z1 z
  injection z with z2 z
  injection z with z3 _
  injection z2 with z2
  unfold Part.tag
  rw [z2, z3])
theorem sort_itm {p : Pl} (nd : (p.map Part.tag).Nodup) : (encL p).mergeSort (sortLe (listOrd itemOrd) false fun e => kc (kfD e)) = encL (sortK p) := by
  have h1 := sort_maps (r := sortLe (listOrd itemOrd) false fun x : Part => key3 x) (s := sortLe (listOrd itemOrd) false fun e => kc (kfD e)) (l := p) itm (fun a _ b _ => by
    unfold sortLe
    simp only [kfD_itm, kc_key])
  rw [encL_map, ← h1, encL_map]
  congr 1
  unfold sortK
  refine sort_congr fun a ha b hb => ?_
  rcases tags_ne nd hb ha with z | z
  · subst z
    have e1 : sortLe (listOrd itemOrd) false (fun x : Part => key3 x) b b = true := by
      show (!PyProof.Rows.lexLt itemOrd (key3 b) (key3 b)) = true
      rw [lex_irrefl]; rfl
    have e2 : ple b b = true := by
      show (!PyProof.Rows.lexLt itemOrd b.code b.code) = true
      rw [lex_irrefl]; rfl
    rw [e1, e2]
  · obtain ⟨r, er⟩ := code_key3 a
    obtain ⟨s, es⟩ := code_key3 b
    show (!PyProof.Rows.lexLt itemOrd (key3 b) (key3 a)) = !PyProof.Rows.lexLt itemOrd b.code a.code
    rw [er, es, lex_app (show (key3 b).length = (key3 a).length from rfl) (key3_tag z)]
end K87
/-! Functions handed on: what is held of the heap while they are called. -/
namespace K87
open PySem PySem.Spec PyProof.Rows L2 NdefX LamX
/-! ### objects that nobody touches -/
def Held (S : Addr → Prop) (h0 h : Heap) (H : Hp) (fs : List Addr) : Prop := ∀ c, S c → ∃ o, h0.get? c = some o ∧ h.get? c = some o ∧ H c = none ∧ c ∉ fs
theorem Held.later {X : Cx} {pins : List (Addr × Obj)} {σ : L2.St} {H : Hp} {s : Shared} {S : Addr → Prop} {h0 : Heap} (I : Inv X pins σ H s) (hx : X.ex = []) (h : Held S h0 X.s_0.heap X.H_0 X.fs) : Held S h0 s.heap H (frs X.stack) := fun c hc => by
  obtain ⟨o, e0, e1, n, nf⟩ := h c hc
  have nx : c ∉ X.ex := by rw [hx]; exact List.not_mem_nil
  refine ⟨o, e0, I.base.keep c o e1 n nf nx, I.base.free c o e1 n nx, fun z => ?_⟩
  rcases List.mem_cons.mp (I.stkSub c z) with q | q
  · rw [q] at e1
    exact Nat.lt_irrefl _ (Nat.lt_of_lt_of_le (Heap.lt_size e1) I.ok.above)
  · exact nf q
theorem Held.cells {cl : List (Str × Addr)} {fr : List Str} {ws : List (Option V)} {h0 h : Heap} {H0 H : Hp} {fs : List Addr} {S : Addr → Prop} (C : CellsAt cl fr ws h0 H0) (hs : ∀ y c, cl.lookup y = some c → S c) (hd : Held S h0 h H fs) : CellsAt cl fr ws h H := by
  have up : ∀ y c, cl.lookup y = some c → H c = none ∧ ∀ v, h0.IsCell c v → h.IsCell c v := fun y c e => by
    obtain ⟨o, e0, e1, n, _⟩ := hd c (hs y c e)
    refine ⟨n, fun v ⟨u, hu, d⟩ => ?_⟩
    rw [e0] at hu
    cases hu
    exact ⟨o, e1, d⟩
  refine ⟨C.len, fun y c e => ?_, C.inj, fun i y e => ?_⟩
  · obtain ⟨_, v, z⟩ := C.all y c e
    exact ⟨(up y c e).1, v, (up y c e).2 v z⟩
  · obtain ⟨c, hc, hv⟩ := C.has i y e
    refine ⟨c, hc, fun v ev => ?_⟩
    obtain ⟨u, r, z⟩ := hv v ev
    exact ⟨u, r, (up y c hc).2 _ z⟩
/-- the cells of a running def -/
theorem held_cells {X : Cx} {pins : List (Addr × Obj)} {σ : L2.St} {H : Hp} {s : Shared} {cl : List (Str × Addr)} (I : Inv X pins σ H s) (hfn : ∀ x, X.fn x = true) (sub : ∀ y c, cl.lookup y = some c → X.env.cells.lookup y = some c) : Held (fun c => ∃ y, cl.lookup y = some c) s.heap s.heap H (frs X.stack) := fun c ⟨y, e⟩ => by
  have ec := sub y c e
  obtain ⟨v, o, ho, hd⟩ := I.cell y c ec
  refine ⟨o, ho, ho, I.freeC y c ec, fun z => ?_⟩
  rcases List.mem_cons.mp (I.stkSub c z) with q | q
  · exact I.cne y c ec q
  · obtain ⟨_, u, hu, _⟩ := I.ok.funs.mem q
    exact Nat.lt_irrefl _ (Nat.lt_of_lt_of_le (Heap.lt_size hu) (I.ok.cab y c (hfn y) ec))
/-! ### an action -/
/-- the function at f keeps the promise sp while S and Tk hold -/
structure Actn (P : Program) (w : World) (K : PySem.W.Frag) (mg : Str → Option Value) (base : Heap) (k : Nat) (f : Addr) (S : Addr → Prop) (h0 : Heap) (Tk : Hp → Prop) (sp : Sp) : Prop where
  fn : ∀ h H fs, HOk P w H h → Held S h0 h H fs → Tk H → PySem.W.FnAt f h
  run : ∀ (A : Around) (outer : List Env) (s : Shared) (H : Hp) (us : List Value) (vs : List V) (Q : VK) (E : XK), Room k A → Env0 P w K mg base A outer s H → Held S h0 s.heap H (frs outer) → Tk H → Vals vs us → sp vs H Q E →
    codeAny (model P w) A (.call (.ref f) ⟨us, []⟩) (CR CX0 outer P w H s Q E) s
def tCallS (i : Nat) (f : Addr) (Tk : Hp → Prop) (sp : Sp) (t : TA) : TE := fun σ H Q => σ[i]? = some (some (.ref f)) ∧ Tk H ∧ t σ H fun vs H1 => Tk H1 ∧ sp vs H1 Q E0
theorem called_back {X : Cx} {pins : List (Addr × Obj)} {σ : L2.St} {H : Hp} {s : Shared} {Q : VK} {g : Value} {as : Args} (I : Inv X pins σ H s) (h : codeAny (model X.prog X.w) X.A (.call g as) (CR CX0 X.stack X.prog X.w H s Q E0) s) : codeAny (model X.prog X.w) X.A (.call g as) (fun r s' => match r with | .ok (.ret u) => EP X pins σ Q u s' | .ok _ => False | .error e => X.xe e s') s :=
  codeAny_mono h fun r s' hq => by
    cases r with
    | error e => exact (show False from hq).elim
    | ok fl =>
      cases fl with
      | ret u => exact I.after hq
      | next => exact False.elim hq
      | brk => exact False.elim hq
      | cont => exact False.elim hq
section
variable {X : Cx} {x : Str} {k j i : Nat} {sp : Sp} {p pos : Pos} {e : Expr} {es : List Expr} {t : TA} {f : Addr} {S : Addr → Prop} {h0 : Heap} {Tk : Hp → Prop}
theorem pe_callS (Ac : Actn X.prog X.w X.K X.mg X.base k f S h0 Tk sp) (hx : X.ex = []) (hH : Held S h0 X.s_0.heap X.H_0 X.fs) (hr : Room j X.A) (hk : k ≤ j) (hN : X.N[i]? = some x) (hv : Vis X.env.scope x) (ha : PA X (e :: es) t)
    (hd : (x == ("__debug__" : Str)) = false := by decide) (hcd : (x == ("__classdict__" : Str)) = false := by decide)
    (he : starEach (e :: es) X.env = (false, eval e X.env) :: starEach es X.env := by rfl) (hpl : (backTo pos (starEach es X.env)).any (·.1) = false := by rfl) : PE X (.Call (.Name x p) (e :: es) [] pos) (tCallS i f Tk sp t) := by
  refine ⟨fun pins s σ H Q I h => ?_⟩
  obtain ⟨hs, hf, ht⟩ := h
  refine wpAny_Call_Name_kw (thn ((pe_var (pos := p) hN hv hd hcd).run pins s σ H (fun v H1 => v = .ref f ∧ H1 = H) I ⟨.ref f, hs, rfl, rfl⟩) fun u s1 ⟨v, H1, I1, r1, q1⟩ => ?_)
  obtain ⟨ev, eH⟩ := q1
  subst ev eH
  obtain rfl : u = Value.ref f := r1
  refine PySem.W.callWith_F (first := []) (Ac.fn _ _ _ I1.hok (hH.later I1 hx) hf) (thn (ha.run pos pins s1 σ _ _ I1 ht) fun us s2 ⟨vs, H2, I2, r, h1, q⟩ => ⟨Ac.fn _ _ _ I2.hok (hH.later I2 hx) h1, ?_⟩) he hpl
  show wpAny _ _ (call (.ref f) us) _ _ _
  refine wpAny_call (codeAny_mono (called_back I2 (Ac.run X.A X.stack s2 H2 us vs Q E0 (hr.mono hk) I2.env0 (hH.later I2 hx) h1 r q)) fun r s' hq => ?_)
  cases r with
  | error e => exact hq
  | ok fl => cases fl <;> exact hq
end
/-! ### a def of the top that calls what it got -/
def CalH (P : Program) (w : World) (K : PySem.W.Frag) (mg : Str → Option Value) (base : Heap) (k : Nat) (x : Str) (S : Addr → Prop) (h0 : Heap) (sp : Sp) : Prop :=
  ∃ (f : Addr) (fd : FuncData) (ps : List Str), mg x = some (.ref f) ∧ PySem.W.keepIn K (.ref f) = true ∧ Binds K fd ps [] ∧ (∀ vs H Q E, sp vs H Q E → vs.length = ps.length) ∧
    ∀ (A : Around) (outer : List Env) (s : Shared) (H : Hp) (us : List Value) (vs : List V) (Q : VK) (E : XK), Room k A → Env0 P w K mg base A outer s H → Held S h0 s.heap H (frs outer) → BindsTo s fd ⟨us, []⟩ (ps.zip us) → Vals vs us → sp vs H Q E →
      codeAny (model P w) A (.call (.ref f) ⟨us, []⟩) (CR CX0 outer P w H s Q E) s
section
variable {X : Cx} {x : Str} {k j : Nat} {sp : Sp} {p pos : Pos} {e : Expr} {es : List Expr} {t : TA} {S : Addr → Prop} {h0 : Heap}
theorem runH {pins : List (Addr × Obj)} {σ : L2.St} {H : Hp} {s : Shared} {Q : VK} {us : List Value} {vs : List V} {f : Addr} {fd : FuncData} {ps : List Str} (hb : Binds X.K fd ps []) (hl : vs.length = ps.length)
    (run : ∀ (A : Around) (outer : List Env) (s : Shared) (H : Hp) (us : List Value) (vs : List V) (Q : VK) (E : XK), Room k A → Env0 X.prog X.w X.K X.mg X.base A outer s H → Held S h0 s.heap H (frs outer) → BindsTo s fd ⟨us, []⟩ (ps.zip us) → Vals vs us → sp vs H Q E → codeAny (model X.prog X.w) A (.call (.ref f) ⟨us, []⟩) (CR CX0 outer X.prog X.w H s Q E) s)
    (hr : Room j X.A) (hk : k ≤ j) (I : Inv X pins σ H s) (hH : Held S h0 s.heap H (frs X.stack)) (r : Vals vs us) (q : sp vs H Q E0) : wpAny (model X.prog X.w) X.A (call (.ref f) us) (EP X pins σ Q) X.xe s := by
  have bt := hb s us I.kIn (by rw [List.append_nil, ← r.length]; exact hl)
  rw [List.append_nil] at bt
  refine wpAny_call (codeAny_mono (called_back I (run X.A X.stack s H us vs Q E0 (hr.mono hk) I.env0 hH bt r q)) fun r s' hq => ?_)
  cases r with
  | error e => exact hq
  | ok fl => cases fl <;> exact hq
/-- called where S is held from the entry on -/
theorem pe_calH (C : CalH X.prog X.w X.K X.mg X.base k x S h0 sp) (hx : X.ex = []) (hH : Held S h0 X.s_0.heap X.H_0 X.fs) (hr : Room j X.A) (hk : k ≤ j) (hg : Gl X x) (ha : PA X (e :: es) t) (hdb : (x == ("__debug__" : Str)) = false := by decide)
    (he : starEach (e :: es) X.env = (false, eval e X.env) :: starEach es X.env := by rfl) (hpl : (backTo pos (starEach es X.env)).any (·.1) = false := by rfl) : PE X (.Call (.Name x p) (e :: es) [] pos) (tCall sp [] E0 t) := by
  obtain ⟨f, fd, ps, h1, h2, h3, h4, h5⟩ := C
  refine ⟨fun pins s σ H Q I h => ?_⟩
  refine wpAny_Call_Name_kw (ld_glob I hg h1 ?_ hdb)
  refine PySem.W.callWith_K (h₀ := X.base) I.ok.mod.kin h2 (thn (ha.run pos pins s σ H _ I h) fun us s1 ⟨vs, H1, I1, r, q⟩ => ⟨I1.kIn, ?_⟩) he hpl
  have q : sp (vs ++ []) H1 Q E0 := q
  rw [List.append_nil] at q
  exact runH h3 (h4 _ _ _ _ q) h5 hr hk I1 (hH.later I1 hx) r q
/-- called with a nested def -/
def tMkN (sp : Addr → Addr → List (Option V) → Sp) (js : List Nat) (t : TA) : TE := fun σ H Q => t σ H fun vs H1 => ∃ f c', sp f c' (js.map (slotAt σ)) vs H1 Q E0
theorem pe_mkN {spN : Addr → Addr → List (Option V) → Sp} {cl : List (Str × Addr)} {fr : List Str} {js : List Nat} (C : ∀ f c' h0 H0 ws, CellsAt cl fr ws h0 H0 → CalH X.prog X.w X.K X.mg X.base k x (fun c => ∃ y, cl.lookup y = some c) h0 (spN f c' ws)) (cp : X.Ok → Caps X cl fr js) (hfn : ∀ x, X.fn x = true)
    (hm : ∃ f, X.mg x = some (.ref f) ∧ PySem.W.keepIn X.K (.ref f) = true) (hr : Room j X.A) (hk : k ≤ j) (hg : Gl X x) (ha : PA X (e :: es) t) (hdb : (x == ("__debug__" : Str)) = false := by decide)
    (he : starEach (e :: es) X.env = (false, eval e X.env) :: starEach es X.env := by rfl) (hpl : (backTo pos (starEach es X.env)).any (·.1) = false := by rfl) : PE X (.Call (.Name x p) (e :: es) [] pos) (tMkN spN js t) := by
  obtain ⟨g, h1, h2⟩ := hm
  refine ⟨fun pins s σ H Q I h => ?_⟩
  refine wpAny_Call_Name_kw (ld_glob I hg h1 ?_ hdb)
  refine PySem.W.callWith_K (h₀ := X.base) I.ok.mod.kin h2 (thn (ha.run pos pins s σ H _ I h) fun us s1 ⟨vs, H1, I1, r, f, c', q⟩ => ⟨I1.kIn, ?_⟩) he hpl
  have cs := cells_of I1 (cp I1.ok)
  obtain ⟨g', fd, ps, a1, a2, a3, a4, a5⟩ := C f c' _ _ _ cs
  rw [h1] at a1
  cases a1
  exact runH a3 (a4 _ _ _ _ q) a5 hr hk I1 (held_cells I1 hfn (cp I1.ok).sub) r q
end
/-! ### readings in which more is held -/
structure Stab (A : Amb) (Tk : Hp → Prop) : Prop where
  new : ∀ H p o, Tk H → H p = none → Tk (upd H p o)
  wrt : ∀ H p xs ys, Tk H → H p = some (.lst xs) → Tk (upd H p (.lst ys))
  kp : ∀ H H', A.inv H → Kp A.tp H H' → Tk H → Tk H'
def Amb.also (A : Amb) (Tk : Hp → Prop) (st : Stab A Tk) : Amb where
  tp := A.tp
  inv := fun H => A.inv H ∧ Tk H
  lst := fun H a i => A.lst H a i.1
  new := fun H p o i n => ⟨A.new H p o i.1 n, st.new H p o i.2 n⟩
  wrt := fun H p xs ys i h n => ⟨A.wrt H p xs ys i.1 h n, st.wrt H p xs ys i.2 h⟩
theorem Amb.also_le {A : Amb} {Tk : Hp → Prop} {st : Stab A Tk} (h : A.tp = []) : Le A (A.also Tk st) :=
  ⟨h, fun _ i => i.1, fun H H' i x => ⟨x.kp, fun _ => ⟨x.inv i.1, st.kp H H' i.1 x.kp i.2⟩, x.fr⟩⟩
theorem Xt.less {A : Amb} {Tk : Hp → Prop} {st : Stab A Tk} {H H' : Hp} (i : Tk H) (x : Xt (A.also Tk st) H H') : Xt A H H' := ⟨x.kp, fun j => (x.inv ⟨j, i⟩).1, x.fr⟩
section
variable {K : PySem.W.Frag} {A B : Amb} {ds : List SD} {t : TA} {i : Nat} {f : Addr} {Tk : Hp → Prop}
theorem ev_callS {G : Gd} {P : PyData → Prop} {Pa : List SD → Prop} (l : Le B A) (hi : ds[i]? = some (.raw (.ref f))) (hT : ∀ H, A.inv H → Tk H) (h : EvA K A t ds Pa) (g : ∀ as, Pa as → ∃ P', G as P' ∧ ∀ d, P' d → P d) : Ev K A (tCallS i f Tk (spD K B G) t) ds P := fun H0 H σ Q n q =>
  ⟨n.slot i _ hi, hT H n.inv, h H0 H σ _ n fun vs as H1 p1 x1 a1 => by
    obtain ⟨P', g1, im⟩ := g as p1
    have i1 := x1.inv n.inv
    exact ⟨hT H1 i1, l.inv H1 i1, as, P', g1, a1.le l, fun v d H2 p2 x2 a2 => q v d H2 (im d p2) (x1.trans (l.xt H1 H2 i1 x2)) a2⟩⟩
end
/-! ### THE RULE for such a def -/
section
variable {P : Program} {w : World} {K : PySem.W.Frag} {mg : Str → Option Value} {base : Heap} {x : Str} {st : Stmt} {N ps : List Str} {k : Nat} {A : Amb} {t : TS} {S : Addr → Prop} {h0 : Heap}
theorem calH_fam {ι : Type} {Am : ι → Amb} {G : ι → Gd} {t : ι → TS} (D : Dfn K mg x st) (Sc : FnScope N ps (defScope st)) (hl : ∀ i as P', G i as P' → as.length = ps.length)
    (hb : ∀ (dV kV doc pm : Value) (an : Option Addr) (cdv ct : Value) (us : List Value), dV = .none → us.length = ps.length → bindArgs (PySem.W.fnOf x x (defArgs st) (defBody st) (defScope st) .none kV doc pm an cdv ct) ⟨us, []⟩ = pure (ps.zip us))
    (hp : ∀ (i : ι) (f : Addr) (cdv : Value) (A' : Around) (outer : List Env) (s : Shared) (H : Hp) (E : XK), Held S h0 s.heap H (frs outer) → Room k (Bx P w K mg base N x st f cdv A' outer s H E).A → PSs (Bx P w K mg base N x st f cdv A' outer s H E) (defBody st) (t i))
    (hr : ∀ i as P', G i as P' → Rn K (Am i) (t i) (as ++ List.replicate (N.length - as.length) .emp) (retD P')) : CalH P w K mg base (k + 1) x S h0 (fun vs H Q E => ∃ i, spD K (Am i) (G i) vs H Q E) := by
  obtain ⟨f, fd, h1, F⟩ := D
  have bn : Binds K fd ps [] := F.bindsN fun kV doc pm an cdv ct us h => hb .none kV doc pm an cdv ct us rfl h
  have ln : ∀ vs H Q E, (∃ i, spD K (Am i) (G i) vs H Q E) → vs.length = ps.length := fun vs H Q E h => by
    obtain ⟨i, _, as, P', g, al, _⟩ := h
    rw [al.length]
    exact hl i as P' g
  refine ⟨f, fd, ps, h1, F.kp, bn, ln, fun A' outer s H us vs Q E room e0 hH bt r h => ?_⟩
  obtain ⟨oc, od, dV, kV, doc, pm, an, cdv, ct, osl, rfl, lk, hcd, _, _⟩ := F.ex
  have lv := ln _ _ _ _ h
  obtain ⟨ix, i, as, P', g, al, q⟩ := h
  refine run_ofS (CX := CX0) (N := N) lk hcd Sc room e0 bt r lv fun room' => ⟨t ix, (hp ix f cdv A' outer s H E hH room').nox, ?_⟩
  have n := en_start (N := N) i al
  refine hr ix as P' g H H _ _ n (fun es σ' H' z n' _ => q .non .none H' z n'.x0 .non) (fun v r H' z x' a => ?_) (fun _ _ _ z => z.elim) fun _ _ _ z => z.elim
  cases r with
  | inl d => exact q v d H' z x' a
  | inr es => exact (show False from z).elim
end
/-! ### a nested def as an action -/
section
variable {P : Program} {w : World} {K : PySem.W.Frag} {mg : Str → Option Value} {base : Heap} {N ps fr : List Str} {F : NF} {f : Addr} {k : Nat} {A : Amb} {t : TS} {h0 : Heap} {H0 : Hp} {us : List V} {bs : List PyData}
theorem en_startN {vs : List V} {as : List SD} {H : Hp} (i : A.inv H) (h : AllS K A H vs as) (hu : AtAll K H us bs) : En K A H H (startF N vs (us.map some)) (as ++ (bs.map .dat ++ List.replicate (N.length - as.length - bs.length) .emp)) := by
  have hl := h.length
  have hl2 := hu.length
  refine ⟨i, i, Kp.refl H, fun _ e => e, ?_, fun j d e => ?_⟩
  · unfold startF
    simp only [List.length_append, List.length_map, List.length_replicate]
    omega
  · unfold startF
    by_cases c : j < as.length
    · rw [List.getElem?_append_left c] at e
      obtain ⟨v, hv, q⟩ := h.get e
      rw [List.getElem?_append_left (by rw [List.length_map]; omega), List.getElem?_map, hv]
      exact q.slot
    · rw [List.getElem?_append_right (by omega)] at e
      have lm : (List.map some vs).length = as.length := by rw [List.length_map, hl]
      have lu : (List.map some us).length = bs.length := by rw [List.length_map, hl2]
      rw [List.getElem?_append_right (by rw [lm]; omega), lm]
      by_cases c2 : j - as.length < bs.length
      · rw [List.getElem?_append_left (by rw [List.length_map]; exact c2), List.getElem?_map] at e
        cases eb : bs[j - as.length]? with
        | none => rw [eb] at e; cases e
        | some b =>
          rw [eb] at e
          have e : SD.dat b = d := Option.some.inj e
          subst e
          obtain ⟨u, hu1, hu2⟩ := hu.get eb
          rw [List.getElem?_append_left (by rw [lu]; exact c2), List.getElem?_map, hu1]
          exact ⟨u, rfl, hu2⟩
      · rw [List.getElem?_append_right (by rw [List.length_map]; omega), List.length_map, List.getElem?_replicate] at e
        split at e
        · cases e
          trivial
        · cases e
def TkN (K : PySem.W.Frag) (f : Addr) (F : NF) (us : List V) (bs : List PyData) : Hp → Prop := fun H => H f = some (FnO f F) ∧ H F.c = some (CodeO F.c F.qual) ∧ AtAll K H us bs
theorem stab_ext {H : Hp} {p a : Addr} {φ : Heap → Prop} {xs ys : List V} (h : H a = some (.ext φ)) (hp : H p = some (.lst xs)) : upd H p (.lst ys) a = some (.ext φ) := by
  have n : a ≠ p := fun z => by
    rw [z, hp] at h
    cases h
  rw [upd_ne n]
  exact h
theorem not_tp {A : Amb} {H : Hp} {a : Addr} {φ : Heap → Prop} (i : A.inv H) (h : H a = some (.ext φ)) : a ∉ A.tp := fun z => by
  obtain ⟨xs, q⟩ := A.lst H a i z
  rw [h] at q
  cases q
theorem stabN : Stab A (TkN K f F us bs) :=
  ⟨fun H p o ⟨h1, h2, h3⟩ hp => ⟨(upd_ne (ne_of_none h1 hp)).trans h1, (upd_ne (ne_of_none h2 hp)).trans h2, h3.mono (sqt_new hp)⟩,
    fun H p xs ys ⟨h1, h2, h3⟩ hp => ⟨stab_ext h1 hp, stab_ext h2 hp, h3.mono (sqt_upd hp)⟩,
    fun H H' i k ⟨h1, h2, h3⟩ => ⟨k _ _ h1 fnO_ne (not_tp i h1), k _ _ h2 codeO_ne (not_tp i h2), h3.kp i k⟩⟩
theorem act_nested (Sc : NScope N ps fr F.scope) (hb : ∀ (doc pm ctv : Value) (us : List Value), us.length = ps.length → bindArgs (F.fd doc pm ctv) ⟨us, []⟩ = pure (ps.zip us)) (C : CellsAt F.cl fr (us.map some) h0 H0) (G : Gd) (hl : ∀ as P', G as P' → as.length = ps.length)
    (hp : ∀ (A' : Around) (outer : List Env) (s : Shared) (H : Hp) (E : XK), Room k (A'.deeper (envF F f s.heap.objs.size)) → PSs (ncx CX0 P w K mg base N F f A' outer s H E).nox F.body t)
    (hr : ∀ as P', G as P' → Rn K A t (as ++ (bs.map .dat ++ List.replicate (N.length - as.length - bs.length) .emp)) (retD P')) : Actn P w K mg base (k + 1) f (fun c => ∃ y, F.cl.lookup y = some c) h0 (TkN K f F us bs) (spD K A G) := by
  refine ⟨fun h H fs hok _ tk => ?_, fun A' outer s H us' vs Q E room e0 hH tk r h => ?_⟩
  · obtain ⟨od, sl, doc, pm, ctv, ho⟩ := fnO_at hok tk.1
    exact ⟨_, od, _, sl, ho⟩
  · have NO : NOk P w K mg base CX0 (k + 1) f F ps fr (fun ws vs H Q E => ws = us.map some ∧ AtAll K H us bs ∧ spD K A G vs H Q E) := by
      refine nok_of Sc hb (fun ws vs H Q E h => ?_) fun A' outer s H vs ws Q E room _ _ _ h => ?_
      · obtain ⟨_, _, _, as, P', g, al, _⟩ := h
        rw [al.length]
        exact hl as P' g
      · obtain ⟨e, hu, i, as, P', g, al, q⟩ := h
        subst e
        refine ⟨t, (hp A' outer s H E room).nox, ?_⟩
        have n := en_startN (N := N) i al hu
        refine hr as P' g H H _ _ n (fun es σ' H' z n' _ => q .non .none H' z n'.x0 .non) (fun v r H' z x' a => ?_) (fun _ _ _ z => z.elim) fun _ _ _ z => z.elim
        cases r with
        | inl d => exact q v d H' z x' a
        | inr es => exact (show False from z).elim
    exact NO.run A' outer s H us' vs (us.map some) Q E room e0 tk.1 tk.2.1 (hH.cells C fun y c e => ⟨y, e⟩) r ⟨rfl, tk.2.2, h⟩
end
end K87
/-! Lambdas with captured names, handed on. -/
namespace K87
open PySem PySem.Spec PyProof.Rows L2 NdefX LamX
/-- a lambda's words, cells, code object -/
structure LF where
  qual : Str
  params : Arguments
  body : Expr
  scope : Scope
  cl : List (Str × Addr)
  c : Addr
abbrev LF.fd (F : LF) (pm ctv : Value) : FuncData := PySem.W.kla_fn "<lambda>" F.qual F.params F.body F.scope F.cl pm (.ref F.c) ctv
abbrev LF.nf (F : LF) : NF := ⟨"<lambda>", F.qual, F.params, [], F.scope, F.cl, F.c⟩
def LamO (f : Addr) (F : LF) : HO := .ext fun h => ∃ (od : Option Addr) (sl : Array (Option Value)) (pm ctv : Value), h.get? f = some (⟨.type "function", od, .func (F.fd pm ctv), sl⟩ : Obj)
theorem lamO_ne {f : Addr} {F : LF} (ps : Array Value) : LamO f F ≠ .tbl ps := fun z => by
  unfold LamO at z
  cases z
theorem lamO_at {P : Program} {w : World} {H : Hp} {h : Heap} {f : Addr} {F : LF} (hok : HOk P w H h) (e : H f = some (LamO f F)) : ∃ (od : Option Addr) (sl : Array (Option Value)) (pm ctv : Value), h.get? f = some (⟨.type "function", od, .func (F.fd pm ctv), sl⟩ : Obj) := (hok f _ e).1
/-- the reading of a lambda -/
def tLamO (T : List (Addr × Str)) (mk : Addr → LF) : TE := fun _ H Q => Tabs T H ∧ ∀ (f c' : Addr) (H1 : Hp), ExtN H H1 → (∀ b, H1 b = none → H b = none) → Tabs T H1 → H1 f = some (LamO f (mk c')) → H1 c' = some (CodeO c' (mk c').qual) → Q (.ref f) H1
section
variable {X : Cx} {pins : List (Addr × Obj)} {σ : L2.St} {H : Hp} {s : Shared}
theorem inv_lam {F : LF} {t' : Nat} {pm ctv : Value} (I : Inv X pins σ H s) : Inv X pins σ (upd H s.heap.objs.size (LamO s.heap.objs.size F)) { s with heap := s.heap.push { cls := .type "function", data := .func (F.fd pm ctv) }, toks := t' } := by
  have e : (s.heap.push ({ cls := .type "function", data := .func (F.fd pm ctv) } : Obj)).get? s.heap.objs.size = some ({ cls := .type "function", data := .func (F.fd pm ctv) } : Obj) := Heap.get?_push_size _ rfl
  refine I.laid (a := s.heap.objs.size) (fun b u q => Heap.get?_push_of_some _ q) (Nat.le_refl _) ?_
  exact ⟨⟨_, _, pm, ctv, e⟩, ⟨_, e⟩, fun g1 g2 ⟨od, sl, p, t, z⟩ keep => ⟨od, sl, p, t, keep _ z⟩⟩
theorem pe_lamO {T : List (Addr × Str)} {c P : Addr} {params : Arguments} {body : Expr} {scope : Scope} {pos : Pos} (TB : TabB X.base X.mg c P) (hcode : X.env.code = .ref c) (hm : (P, X.env.qual ++ "<lambda>") ∈ T) (hu : ∀ p ∈ T, p.1 = P → p.2 = X.env.qual ++ "<lambda>")
    (hdef : defaultsOf params X.env = ([], [])) (hfree : ∀ y ∈ scope.names, y.2 = .free → X.env.scope.names.lookup y.1 = some .cell ∨ X.env.scope.names.lookup y.1 = some .free) :
    PE X (.Lambda params body scope pos) (tLamO T fun c' => ⟨X.env.qual ++ "<lambda>", params, body, scope, cloFrom X.env.cells scope.names [], c'⟩) := by
  refine ⟨fun pins s σ H Q I ⟨hT, h⟩ => PySem.W.kla_eval hdef ?_⟩
  have hcl := closure_ok (env := X.env) (scope := scope) fun y hy z => (hfree y hy z).elim (fun q => I.ok.has _ (.inl q)) fun q => I.ok.has _ (.inr q)
  have hg := I.mod.glob.keeps I.bk
  have hch := TB.code.keeps I.bk
  have bP : s.heap.BuiltinsAt X.mg P := TB.bm.keeps I.bk
  obtain ⟨ps, hP, ht, ha⟩ := hT _ hm
  have oP : s.heap.get? P = some { cls := .none, data := .fields ps } := I.hok P _ hP
  cases found : codeAmong pos ps.toList with
  | some cv =>
    obtain ⟨c', rfl, hco⟩ := ha pos cv found
    refine PySem.W.kla_makeFunctionHit hcl I.ok.glob hg hcode hch oP ht found bP fun ctv h' tk hx _ => ?_
    have I1 : Inv X pins σ H { s with heap := h', toks := tk } := I.kept hx
    have nF := I1.hok.fresh (Nat.le_refl _)
    have I2 := inv_lam (t' := tk) (pm := (X.mg "__name__").getD .none) (ctv := ctv) (F := ⟨X.env.qual ++ "<lambda>", params, body, scope, cloFrom X.env.cells scope.names [], c'⟩) I1
    refine ⟨.ref h'.objs.size, _, I2, rfl, h h'.objs.size c' _ (fun b o q _ => (upd_ne (ne_of_none q nF)).trans q) (fun b q => upd_none q) (fun p hp => (hT p hp).ext fun b o q => (upd_ne (ne_of_none q nF)).trans q) upd_same ((upd_ne (ne_of_none hco nF)).trans hco)⟩
  | none =>
    refine PySem.W.kla_makeFunction hcl I.ok.glob hg hcode hch oP ht found TB.gP bP fun c' ctv h' tk hx hge hlt hrec htb => ?_
    obtain ⟨_, oc, vs, t, ce, hoc, hd, hv⟩ := hrec
    cases ce
    have nC : H c' = none := I.hok.fresh hge
    have I1 := inv_table (t' := tk) (more := #[rawInt pos.line, rawInt pos.col, .ref c']) (h' := h') I hP (fun b o hb q => hx b o hb q) htb hge ⟨oc, vs, t, hoc, hd, hv⟩
    have nF := I1.hok.fresh (Nat.le_refl _)
    have I2 := inv_lam (t' := tk) (pm := (X.mg "__name__").getD .none) (ctv := ctv) (F := ⟨X.env.qual ++ "<lambda>", params, body, scope, cloFrom X.env.cells scope.names [], c'⟩) I1
    have big : ∀ b o, H b = some o → b ≠ P → upd (upd (upd H P (.tbl (ps ++ #[rawInt pos.line, rawInt pos.col, .ref c']))) c' (CodeO c' (X.env.qual ++ "<lambda>"))) h'.objs.size (LamO h'.objs.size ⟨X.env.qual ++ "<lambda>", params, body, scope, cloFrom X.env.cells scope.names [], c'⟩) b = some o := fun b o q nb => by
      have q1 : upd (upd H P (.tbl (ps ++ #[rawInt pos.line, rawInt pos.col, .ref c']))) c' (CodeO c' (X.env.qual ++ "<lambda>")) b = some o := by
        rw [upd_ne (ne_of_none q nC), upd_ne nb]
        exact q
      exact (upd_ne (ne_of_none q1 nF)).trans q1
    have keepN : ExtN H _ := fun b o q n => big b o q fun z => n ps (Option.some.inj (q.symm.trans (by rw [z]; exact hP)))
    refine ⟨.ref h'.objs.size, _, I2, rfl, h h'.objs.size c' _ keepN (fun b q => upd_none (upd_none (upd_none q))) (fun p hp => ?_) upd_same ((upd_ne (Nat.ne_of_lt hlt)).trans upd_same)⟩
    by_cases hb : p.1 = P
    · have tl : (ps ++ #[rawInt pos.line, rawInt pos.col, .ref c']).toList = ps.toList ++ [rawInt pos.line, rawInt pos.col, .ref c'] := by simp
      have nPF : P ≠ h'.objs.size := ne_of_none (show upd (upd H P (.tbl (ps ++ #[rawInt pos.line, rawInt pos.col, .ref c']))) c' (CodeO c' (X.env.qual ++ "<lambda>")) P = some _ from (upd_ne (ne_of_none hP nC)).trans upd_same) nF
      rw [hu p hp hb, hb]
      refine ⟨_, (upd_ne nPF).trans ((upd_ne (ne_of_none hP nC)).trans upd_same), by rw [tl]; exact PySem.TriplesOk_snoc _ _ _ _ ht, fun p' cv q => ?_⟩
      rw [tl] at q
      rcases among_app _ ht q with z | z
      · obtain ⟨c0, e1, e2⟩ := ha p' cv z
        exact ⟨c0, e1, keepN _ _ e2 codeO_ne⟩
      · exact ⟨c', z, (upd_ne (Nat.ne_of_lt hlt)).trans upd_same⟩
    · obtain ⟨ps', a1, a2, a3⟩ := hT p hp
      refine ⟨ps', big _ _ a1 hb, a2, fun p' cv q => ?_⟩
      obtain ⟨c0, e1, e2⟩ := a3 p' cv q
      exact ⟨c0, e1, keepN _ _ e2 codeO_ne⟩
end
def TkL (K : PySem.W.Frag) (f : Addr) (F : LF) (us : List V) (bs : List PyData) : Hp → Prop := fun H => H f = some (LamO f F) ∧ H F.c = some (CodeO F.c F.qual) ∧ AtAll K H us bs
theorem stabL {K : PySem.W.Frag} {A : Amb} {f : Addr} {F : LF} {us : List V} {bs : List PyData} : Stab A (TkL K f F us bs) :=
  ⟨fun H p o ⟨h1, h2, h3⟩ hp => ⟨(upd_ne (ne_of_none h1 hp)).trans h1, (upd_ne (ne_of_none h2 hp)).trans h2, h3.mono (sqt_new hp)⟩,
    fun H p xs ys ⟨h1, h2, h3⟩ hp => ⟨stab_ext h1 hp, stab_ext h2 hp, h3.mono (sqt_upd hp)⟩,
    fun H H' i k ⟨h1, h2, h3⟩ => ⟨k _ _ h1 lamO_ne (not_tp i h1), k _ _ h2 codeO_ne (not_tp i h2), h3.kp i k⟩⟩
section
variable {P : Program} {w : World} {K : PySem.W.Frag} {mg : Str → Option Value} {base : Heap} {N ps fr : List Str} {F : LF} {f : Addr} {k : Nat} {A : Amb} {t : TE} {h0 : Heap} {H0 : Hp} {us : List V} {bs : List PyData}
theorem act_lam (Sc : NScope N ps fr F.scope) (hb : ∀ (pm ctv : Value) (us : List Value), us.length = ps.length → bindArgs (F.fd pm ctv) ⟨us, []⟩ = pure (ps.zip us)) (C : CellsAt F.cl fr (us.map some) h0 H0) (G : Gd) (hl : ∀ as P', G as P' → as.length = ps.length)
    (hp : ∀ (A' : Around) (outer : List Env) (s : Shared) (H : Hp) (E : XK), Room k (A'.deeper (envF F.nf f s.heap.objs.size)) → PE (ncx CX0 P w K mg base N F.nf f A' outer s H E).nox F.body t)
    (hr : ∀ as P', G as P' → Ev K A t (as ++ (bs.map .dat ++ List.replicate (N.length - as.length - bs.length) .emp)) P') : Actn P w K mg base (k + 1) f (fun c => ∃ y, F.cl.lookup y = some c) h0 (TkL K f F us bs) (spD K A G) := by
  refine ⟨fun h H fs hok _ tk => ?_, fun A' outer s H us' vs Q E room e0 hH tk r h => ?_⟩
  · obtain ⟨od, sl, pm, ctv, ho⟩ := lamO_at hok tk.1
    exact ⟨_, od, _, sl, ho⟩
  · obtain ⟨i, as, P', g, al, q⟩ := h
    have len : vs.length = ps.length := by rw [al.length]; exact hl as P' g
    have lim : s.heap.NoLimit := e0.mod.nolimit.keeps fun b o z => (e0.bs b o z).1
    obtain ⟨od, sl, pm, ctv, ho⟩ := lamO_at e0.hok tk.1
    refine PySem.W.kla_callFunE room.depth ho rfl Sc.co Sc.gen rfl (codeO_at e0.hok tk.2.1) ?_
    rw [hb pm ctv us' (by rw [← r.length]; exact len)]
    refine wpAny_pure (wpAny_newFunctionEnv Sc.nocell (fun y hy => Sc.par y.1 (List.of_mem_zip (show (y.1, y.2) ∈ ps.zip us' from hy)).1) (fun h1 hns hsb => ⟨lim.fresh _ hsb, ?_⟩) Sc.kind)
    show codeAny _ _ (.expr F.body (envF F.nf f s.heap.objs.size)) _ _
    have kp : ∀ b o, s.heap.get? b = some o → h1.get? b = some o := fun b o z => hsb.extBut b o (Nat.ne_of_lt (Heap.lt_size z)) (Heap.get?_push_of_some _ z)
    have I : Inv (ncx CX0 P w K mg base N F.nf f A' outer s H E) [] (startF N vs (us.map some)) H { s with heap := h1, toks := s.toks + (ps.zip us').length } := inv_startN Sc room.hd e0 len r (hH.cells C fun y c z => ⟨y, z⟩) hns kp
    have n := en_startN (N := N) i al tk.2.2
    have ht := hr as P' g H H _ Q n fun v d H' p x a => q v d H' p x a
    refine PySem.W.kla_codeExpr (wpAny_mono ((hp A' outer s H E (room.deeper _)).nox.run [] _ _ H Q I ht) (fun v s' hq => ?_) fun e s' hq => hq)
    obtain ⟨w', H', J, rv, z⟩ := hq
    exact ⟨w', H', J.os, J.bare, J.base, J.hok, rv, z⟩
end
/-! ### readings of data -/
section
variable {K : PySem.W.Frag} {T : List (Addr × Str)}
/-- the ambient of the pure defs: the tables -/
def pureA (T : List (Addr × Str)) : Amb where
  tp := []
  inv := fun H => Tabs T H
  lst := fun _ _ _ h => nomatch h
  new := fun H p o i n => fun q hq => (i q hq).ext fun b u e => (upd_ne (ne_of_none e n)).trans e
  wrt := fun H p xs ys i h _ => fun q hq => by
    obtain ⟨ps, h1, h2, h3⟩ := i q hq
    have ne : ∀ b u, H b = some u → (∀ z, u ≠ .lst z) → upd H p (.lst ys) b = some u := fun b u e n => (upd_ne fun z => n xs (Option.some.inj (e.symm.trans (by rw [z]; exact h)))).trans e
    refine ⟨ps, ne _ _ h1 (fun z w => nomatch w), h2, fun pos cv hc => ?_⟩
    obtain ⟨c, e1, e2⟩ := h3 pos cv hc
    exact ⟨c, e1, ne _ _ e2 fun z w => by unfold CodeO at w; cases w⟩
theorem xt_ext {H H1 : Hp} (e : ExtN H H1) (n : ∀ b, H1 b = none → H b = none) (t : Tabs T H1) : Xt (pureA T) H H1 := ⟨fun b o h q _ => e b o h q, fun _ => t, n⟩
end
end K87
/-! sorted(xs, key=f), f a lambda of the text. -/
namespace K87
open PySem PySem.Spec PyProof.Rows L2 NdefX LamX
/-- while the keys are made: they stand in the list at kS, the list at a is empty -/
structure Lp (X : Cx) (pins : List (Addr × Obj)) (σ : L2.St) (B : Amb) (H0 : Hp) (kS a : Addr) (e1 : Nat) (s : Shared) (H : Hp) (kA : Array Value) : Prop where
  inv : Inv X pins σ H s
  nk : ∃ e, s.heap.get? kS = some (seqObj "list" kA e)
  na : s.heap.get? a = some (seqObj "list" #[] e1)
  fk : FpOk X pins H kS
  fa : FpOk X pins H a
  xt : Xt B H0 H
  bi : B.inv H
section
variable {X : Cx} {pins : List (Addr × Obj)} {σ : L2.St} {B : Amb} {H0 H : Hp} {kS a : Addr} {e1 : Nat} {s : Shared} {kA : Array Value}
theorem fp_nin {b : Addr} {o : Obj} (I : Inv X pins σ H s) (f : FpOk X pins H b) : b ∉ frs X.stack := fun z => by
  rcases List.mem_cons.mp (I.stkSub b z) with q | q
  · exact f.2.1 q
  · exact f.2.2.1 q
theorem fp_at {H' : Hp} {b : Addr} (f : FpOk X pins H b) (h : H' b = none) : FpOk X pins H' b := ⟨h, f.2⟩
theorem Lp.called {Q : VK} {u : Value} {s' : Shared} (L : Lp X pins σ B H0 kS a e1 s H kA) (h : CE X.stack X.prog X.w H s Q u s') (hq : ∀ v H', Q v H' → Xt B H H') : ∃ H' v, Lp X pins σ B H0 kS a e1 s' H' kA ∧ RelV v u ∧ Q v H' := by
  obtain ⟨v, H', os, bare, un, hok, r, q⟩ := h
  obtain ⟨g1, g2, g3, g4, g5⟩ := s'
  obtain rfl : g5 = s.os := os
  obtain ⟨e, nk⟩ := L.nk
  have x := hq v H' q
  have nin : ∀ b, b ∉ ([] : List Addr) := fun b z => nomatch z
  refine ⟨H', v, ⟨L.inv.call (h' := g1) (g' := g2) (d' := g3) (t' := g4) (ch := []) un hok bare (fun b z => absurd z (nin b)), ⟨e, un.keep kS _ nk L.fk.1 (fp_nin (o := seqObj "list" kA e) L.inv L.fk) (nin _)⟩, un.keep a _ L.na L.fa.1 (fp_nin (o := seqObj "list" kA e) L.inv L.fa) (nin _),
    fp_at L.fk (un.free kS _ nk L.fk.1 (nin _)), fp_at L.fa (un.free a _ L.na L.fa.1 (nin _)), L.xt.trans x, x.inv L.bi⟩, r, q⟩
theorem Lp.push (L : Lp X pins σ B H0 kS a e1 s H kA) (hka : a ≠ kS) (v : Value) : Lp X pins σ B H0 kS a e1 { s with heap := s.heap.update kS (Obj.mapSeq (·.push v)) } H (kA.push v) := by
  obtain ⟨e, nk⟩ := L.nk
  have sb := Heap.SameBut.update s.heap kS (Obj.mapSeq (·.push v))
  exact ⟨L.inv.turned (t' := s.toks) (fun b o hb q => (sb.2 b hb).trans q) L.fk.1 L.fk.2.1 L.fk.2.2.2.1 L.fk.2.2.2.2.1 L.fk.2.2.2.2.2, ⟨_, get?_update_seq nk (·.push v)⟩, (sb.2 a hka).trans L.na, L.fk, L.fa, L.xt, L.bi⟩
/-- the list at a is known from now on, the keys' list is let go -/
theorem Lp.ends {h3 : Heap} {tk : Nat} {out : List V} {outv : List Value} {c : Nat} (L : Lp X pins σ B H0 kS a e1 s H kA) (hka : a ≠ kS) (keep : ∀ b o, b ≠ a → b ≠ kS → s.heap.get? b = some o → h3.get? b = some o) (ho : h3.get? a = some (seqObj "list" outv.toArray c)) (r : Vals out outv) (hz : out.length ≤ sizeLine) :
    Inv X pins σ (upd H a (.lst out)) { s with heap := h3, toks := tk } := by
  have I := L.inv
  have ne : ∀ b u, H b = some u → b ≠ a ∧ b ≠ kS := fun b u q => ⟨ne_of_none q L.fa.1, ne_of_none q L.fk.1⟩
  have up : ∀ b u, H b = some u → upd H a (.lst out) b = some u := fun b u q => (upd_ne (ne b u q).1).trans q
  have off : ∀ b, b ∉ [a, kS] → b ≠ a ∧ b ≠ kS := fun b z => ⟨fun w => z (by rw [w]; exact List.mem_cons_self), fun w => z (by rw [w]; exact List.mem_cons_of_mem _ List.mem_cons_self)⟩
  refine I.step (g' := s.gens) (d' := s.drawn) (ch := [a, kS]) (fun b hb => ?_) (fun b o _ _ hc q _ => keep b o (off b hc).1 (off b hc).2 q) (fun b o _ _ hc q _ => ⟨o.slots, keep b o (off b hc).1 (off b hc).2 q⟩)
    (fun b o hc _ n => (upd_ne (off b hc).1).trans n) (fun b o hc q => ⟨o, keep b o (off b hc).1 (off b hc).2 q⟩) (fun b _ q => up b _ q) (fun b _ _ q => up b _ q) (fun b ps q => ⟨#[], by rw [up b _ q]; simp⟩) (fun m hm => ?_) (fun b u q => ?_) I.bare
  · rcases List.mem_cons.mp hb with z | z
    · subst z
      exact ⟨L.fa.2.2.2.1, L.fa.2.1, L.fa.2.2.2.2.1, L.fa.2.2.2.2.2⟩
    · rw [List.mem_singleton.mp z]
      exact ⟨L.fk.2.2.2.1, L.fk.2.1, L.fk.2.2.2.2.1, L.fk.2.2.2.2.2⟩
  · obtain ⟨ob, es, ep, h1, h2⟩ := hm
    exact ⟨ob, es, ep, keep _ ob (Ne.symm L.fa.2.1) (Ne.symm L.fk.2.1) h1, h2⟩
  · by_cases hb : b = a
    · rw [hb, upd_same] at q
      cases q
      rw [hb]
      exact ⟨hz, outv, c, r, ho⟩
    · rw [upd_ne hb] at q
      refine (I.hok b u q).stay (fun d v hc w => ?_) (fun d w => up d _ w) fun d _ w => up d _ w
      rcases hc with z | z
      · rw [z] at w ⊢
        exact keep b v (ne b u q).1 (ne b u q).2 w
      · exact keep d v (ne d _ z).1 (ne d _ z).2 w
end
/-! ### lists of pairs -/
section
variable {K : PySem.W.Frag} {H : Hp}
theorem each_pairs : ∀ {xs : List V} {us : List Value} {es : List PyData}, Vals xs us → AtAll K H xs es → PySem.W.EachIs (fun u (p : V × PyData) => RelV p.1 u ∧ At K H p.1 p.2) us (xs.zip es)
  | _, _, _, .nil, .nil => .nil
  | _, _, _, .cons r rs, .cons a as => .cons ⟨r, a⟩ (each_pairs rs as)
theorem each_back : ∀ {us : List Value} {ps : List (V × PyData)}, PySem.W.EachIs (fun u (p : V × PyData) => RelV p.1 u ∧ At K H p.1 p.2) us ps → Vals (ps.map Prod.fst) us ∧ AtAll K H (ps.map Prod.fst) (ps.map Prod.snd)
  | _, _, .nil => ⟨.nil, .nil⟩
  | _, _, .cons h t => ⟨.cons h.1 (each_back t).1, .cons h.2 (each_back t).2⟩
theorem each_key {R : Value → PyData → Prop} {kf : PyData → PyData} : ∀ {ks : List Value} {xs : List V} {es : List PyData}, xs.length = es.length → PySem.W.EachIs R ks (es.map kf) → PySem.W.EachIs (fun v (p : V × PyData) => R v (kf p.2) ∧ p.2 ∈ es) ks (xs.zip es)
  | ks, [], [], _, h => by
    cases h
    exact .nil
  | ks, x :: xs, e :: es, hl, h => by
    cases h with
    | cons h t =>
      exact .cons ⟨h, List.mem_cons_self⟩ ((each_key (by simpa using hl) t).mono fun v p q => ⟨q.1, List.mem_cons_of_mem _ q.2⟩)
  | ks, [], _ :: _, hl, _ => by simp at hl
  | ks, _ :: _, [], hl, _ => by simp at hl
end
/-- the items es by the keys of kf -/
def sortD (kf : PyData → PyData) (es : List PyData) : List PyData := es.mergeSort (PySem.W.sortLe (listOrd itemOrd) false fun e => kc (kf e))
theorem sortD_zip {kf : PyData → PyData} {xs : List V} {es : List PyData} (hl : xs.length = es.length) : ((xs.zip es).mergeSort (PySem.W.sortLe (listOrd itemOrd) false fun p : V × PyData => kc (kf p.2))).map Prod.snd = sortD kf es := by
  have e := PySem.W.sort_maps (r := PySem.W.sortLe (listOrd itemOrd) false fun p : V × PyData => kc (kf p.2)) (s := PySem.W.sortLe (listOrd itemOrd) false fun e => kc (kf e)) (l := xs.zip es) Prod.snd (fun _ _ _ _ => rfl)
  rw [List.map_snd_zip (by omega)] at e
  exact e
def rSortKey (K : PySem.W.Frag) (B : Amb) (mk : Addr → LF) (G : Gd) (kf : PyData → PyData) : List V → List V → Hp → VK → Prop := fun vs zs H Q =>
  ∃ (l f c' : Addr) (xs : List V) (es : List PyData), vs = [.ref l] ∧ zs = [.ref f] ∧ H l = some (.lst xs) ∧ AtAll K H xs es ∧ es.length ≤ 100000 ∧ B.inv H ∧ TkL K f (mk c') [] [] H ∧ KeysOk (es.map kf) ∧ (∀ e ∈ es, G [.dat e] (Is (kf e))) ∧
    ∀ p ws H', H p = none → Xt B H H' → H' p = some (.lst ws) → AtAll K H' ws (sortD kf es) → Q (.ref p) H'
section
variable {X : Cx} {B : Amb} {mk : Addr → LF} {G : Gd} {kf : PyData → PyData} {k : Nat}
theorem cr_sortKey (hB : B.tp = []) (Ac : ∀ f c' h0, Actn X.prog X.w X.K X.mg X.base k f (fun c => ∃ y, (mk c').cl.lookup y = some c) h0 (TkL X.K f (mk c') [] []) (spD X.K B G)) (hcl : ∀ c', (mk c').cl = []) (hc : X.calm = true) (hr : Room (k + 2) X.A) : CallRK X (.builtin "sorted") [Str.ofString "key"] (rSortKey X.K B mk G kf) := by
  intro pins s σ H vs zs us ws Q I r rz ⟨l, f, c', xs, es, e1, e2, hl, ha, hz, bi, tk, ko, hG, q⟩
  subst e1 e2
  rw [Vals.ref1 r, Vals.ref1 rz]
  obtain ⟨hxz, its, n, rv, hob⟩ := (show ObjOk X.prog X.w H s.heap l (.lst xs) from I.hok l _ hl)
  have room1 : Room (k + 1) X.A.in1 := hr.in1
  have room2 : Room k X.A.in1.in1 := room1.in1
  have lx : xs.length = es.length := ha.length
  have li : its.length = es.length := by rw [← rv.length, lx]
  have hL : its.length ≤ sizeLine := by rw [li]; exact Nat.le_trans hz (by decide)
  show wpAny (model X.prog X.w) X.A (call (.builtin "sorted") [.ref l] [(Str.ofString "key", .ref f)]) (EP X pins σ Q) X.xe s
  refine PySem.W.sorted_of_sort (vs := its) ⟨_, hob, rfl, _, rfl⟩ hL (PyProof.Rows.ksk_s1 _ _) (fun _ => PyProof.Rows.ksk_l1 _ _) fun E' => ?_
  rw [PyProof.Rows.ksk_t1]
  have hcopy := PySem.W.copyHeap_at s.heap its
  obtain ⟨ep, hemp⟩ : ∃ ep, ((PySem.W.copyHeap s.heap its).update (s.heap.objs.size + 1) (Obj.mapSeq fun _ => (#[] : Array Value))).get? (s.heap.objs.size + 1) = some (seqObj "list" #[] ep) := ⟨_, get?_update_seq hcopy fun _ => #[]⟩
  unfold PyProof.Rows.ksk_tree
  refine wpAny_bind (listItems_at hcopy rfl ?_)
  refine wpAny_bind (listUpdate_at hcopy rfl ?_ (by rw [List.size_toArray]; exact hL) (Nat.zero_le _))
  refine wpAny_bind (seqEpoch_at hemp rfl ?_)
  refine wpAny_bind (wpAny_newTuple ?_ (by show its.length ≤ _; exact hL))
  refine wpAny_bind (wpAny_newList ?_ (Nat.zero_le _))
  refine wpAny_holding ?_
  have old : ∀ b o, s.heap.get? b = some o → (PySem.W.sortingHeap (PySem.W.copyHeap s.heap its) (s.heap.objs.size + 1) its).get? b = some o := fun b o z =>
    PySem.W.sortingHeap_old (Nat.ne_of_lt (Nat.lt_succ_of_lt (Heap.lt_size z))) (PySem.W.copyHeap_old z)
  have I0 : Inv X pins σ H { s with heap := PySem.W.sortingHeap (PySem.W.copyHeap s.heap its) (s.heap.objs.size + 1) its } := I.kept (t' := s.toks) old
  have acopy : s.heap.objs.size + 1 < (PySem.W.copyHeap s.heap its).objs.size := Heap.lt_size hcopy
  have kS0 : s.heap.objs.size + 1 < (((PySem.W.copyHeap s.heap its).update (s.heap.objs.size + 1) (Obj.mapSeq fun _ => (#[] : Array Value))).push (seqObj "tuple" its.toArray 0)).objs.size := by
    rw [PyProof.Rows.size_push', Heap.size_update]
    omega
  generalize hkS : (((PySem.W.copyHeap s.heap its).update (s.heap.objs.size + 1) (Obj.mapSeq fun _ => (#[] : Array Value))).push (seqObj "tuple" its.toArray 0)).objs.size = kS at kS0
  have nk0 : (PySem.W.sortingHeap (PySem.W.copyHeap s.heap its) (s.heap.objs.size + 1) its).get? kS = some (seqObj "list" #[] 0) := by
    rw [← hkS]
    exact Heap.get?_push_size _ rfl
  have na0 : (PySem.W.sortingHeap (PySem.W.copyHeap s.heap its) (s.heap.objs.size + 1) its).get? (s.heap.objs.size + 1) = some (seqObj "list" #[] ep) := Heap.get?_push_of_some _ (Heap.get?_push_of_some _ hemp)
  have L0 : Lp X pins σ B H kS (s.heap.objs.size + 1) ep { s with heap := PySem.W.sortingHeap (PySem.W.copyHeap s.heap its) (s.heap.objs.size + 1) its } H #[] :=
    ⟨I0, ⟨0, nk0⟩, na0, I.fpOk (by omega) (I.hok.fresh (by omega)), I.fpOk (Nat.le_succ _) (I.hok.fresh (Nat.le_succ _)), Xt.refl H, bi⟩
  show wpAny _ _ (PyProof.Rows.ksk_rest (s.heap.objs.size + 1) (.ref f) false its.toArray ep (.ref kS)) _ _ { s with heap := PySem.W.sortingHeap (PySem.W.copyHeap s.heap its) (s.heap.objs.size + 1) its }
  unfold PyProof.Rows.ksk_rest
  refine wpAny_bind (wpAny_rule ?_)
  rw [List.forIn_toArray]
  refine wpAny_bind (PyProof.Rows.ksk_fold (fun i s' => ∃ H' kA Vs, Lp X pins σ B H kS (s.heap.objs.size + 1) ep s' H' kA ∧ Vals Vs kA.toList ∧ AtAll X.K H' Vs ((es.map kf).take i)) its 0 _ ⟨H, #[], [], L0, .nil, by rw [List.take_zero]; exact .nil⟩ ?step ?done)
  case step =>
    rintro j x s' hx ⟨H', kA, Vs, L, rk, ak⟩
    simp only [Nat.zero_add] at ak ⊢
    have hj : j < its.length := (List.getElem?_eq_some_iff.mp hx).1
    obtain ⟨y, hy⟩ : ∃ y, xs[j]? = some y := ⟨_, List.getElem?_eq_getElem (by omega)⟩
    obtain ⟨e, he⟩ : ∃ e, es[j]? = some e := ⟨_, List.getElem?_eq_getElem (by omega)⟩
    obtain ⟨x2, hx2, ry⟩ := rv.get hy
    obtain rfl : x2 = x := Option.some.inj (hx2.symm.trans hx)
    obtain ⟨y2, hy2, ay⟩ := ha.get he
    obtain rfl : y2 = y := Option.some.inj (hy2.symm.trans hy)
    have ay' : At X.K H' y2 e := ay.kp bi L.xt.kp
    have tk' : TkL X.K f (mk c') [] [] H' := stabL.kp H H' bi L.xt.kp tk
    have cd := (Ac f c' s'.heap).run X.A.in1.in1 X.stack s' H' [x2] [y2] (fun v H2 => Xt B H' H2 ∧ At X.K H2 v (kf e)) E0 room2 L.inv.env0.in1.in1 (fun c hc => by
      obtain ⟨z, hz⟩ := hc
      rw [hcl] at hz
      cases hz) tk' (.cons ry .nil) ⟨L.bi, [.dat e], Is (kf e), hG e (List.mem_of_getElem? he), .cons ay' .nil, fun v d H2 p x a => ⟨x, by rw [← p]; exact a⟩⟩
    have lk : kA.size ≤ its.length := by
      have h1 := rk.length
      have h2 := ak.length
      have h3 : kA.toList.length = kA.size := Array.length_toList
      rw [List.length_take, List.length_map] at h2
      omega
    refine wpAny_bind (wpAny_attempt (wpAny_call (codeAny_mono cd fun r s2 hq => ?_)))
    cases r with
    | error er => exact (show False from hq).elim
    | ok fl =>
      cases fl with
      | next => exact False.elim hq
      | brk => exact False.elim hq
      | cont => exact False.elim hq
      | ret u =>
        obtain ⟨H2, v, L2, rv2, x2', a2⟩ := L.called hq fun v H2 z => z.1
        obtain ⟨ek, nk⟩ := L2.nk
        dsimp only
        refine wpAny_bind (listUpdate_at nk rfl ?_ (Nat.le_trans lk hL) (Nat.le_trans (Nat.le_of_eq (Array.size_push ..)) (Nat.succ_le_succ (Nat.le_trans lk hL))))
        refine wpAny_pure ⟨rfl, H2, kA.push u, Vs ++ [v], L2.push (Nat.ne_of_lt kS0) u, ?_, ?_⟩
        · rw [Array.toList_push]
          exact rk.append (.cons rv2 .nil)
        · have et : (es.map kf).take (j + 1) = (es.map kf).take j ++ [kf e] := by
            rw [List.take_add_one, List.getElem?_map, he]
            rfl
          rw [et]
          exact (ak.kp L.bi x2'.kp).append (.cons a2 .nil)
  case done =>
    rintro s' ⟨H', kA, Vs, L, rk, ak⟩
    rw [List.take_of_length_le (by rw [List.length_map]; omega)] at ak
    obtain ⟨ek, nk⟩ := L.nk
    have sz : kA.size = its.length := by
      have h1 := rk.length
      have h2 := ak.length
      have h3 : kA.toList.length = kA.size := Array.length_toList
      rw [List.length_map] at h2
      omega
    obtain ⟨as, ra⟩ := Dp.readsAll L.inv (es.map kf) Vs kA.toList ak.dp rk
    have er : PySem.W.EachIs (fun v d => ∃ as, Reads s'.heap v d as) kA.toList (es.map kf) := by
      have z := PySem.W.readsAll_each (β := PyData) id (bs := es.map kf) (by rw [List.map_id]; exact ra)
      exact z
    obtain ⟨hide, g1, g2⟩ := restrict s'.heap fun b => decide (b ≠ kS)
    have gk : ∀ b o, b ≠ kS → s'.heap.get? b = some o → hide.get? b = some o := fun b o hb z => by
      rw [g1 b (decide_eq_true hb)]
      exact z
    have gs : ∀ b o, hide.get? b = some o → s'.heap.get? b = some o := fun b o z => by
      by_cases hb : b = kS
      · rw [hb, g2 kS (decide_eq_false fun w => w rfl)] at z
        cases z
      · rw [g1 b (decide_eq_true hb)] at z
        exact z
    have hu := room2.un
    refine wpAny_bind (listItems_at nk rfl ?_)
    refine PySem.W.keyH_end (κ := kK s'.heap (es.map kf)) (h₁ := hide) (s := s') (a := s.heap.objs.size + 1) (fun b o _ z => gs b o z) (g2 kS (decide_eq_false fun w => w rfl)) nk L.na (Nat.ne_of_gt kS0) (sorts_keys ko (by omega) er) sz hL fun h3 tk3 c kp ho => ⟨rfl, ?_⟩
    have ep := each_pairs rv ha
    have ek2 := (each_key (kf := kf) lx er).mono fun v (p : V × PyData) w => show (kK s'.heap (es.map kf)).keyOf v = some (kc (kf p.2)) from by
      obtain ⟨⟨as, r⟩, hm⟩ := w
      exact kK_some ko (List.mem_map.mpr ⟨_, hm, rfl⟩) r
    have srt := PySem.W.sortVals_each (κ := kK s'.heap (es.map kf)) (rev := false) (fun p : V × PyData => kc (kf p.2)) ep ek2
    obtain ⟨b1, b2⟩ := each_back srt
    have lo : (((xs.zip es).mergeSort (PySem.W.sortLe (kK s'.heap (es.map kf)).toKeyOrd false fun p : V × PyData => kc (kf p.2))).map Prod.fst).length ≤ sizeLine := by
      rw [List.length_map, (List.mergeSort_perm _ _).length_eq, List.length_zip, lx, Nat.min_self]
      exact Nat.le_trans hz (by decide)
    have fin := L.ends (Nat.ne_of_lt kS0) (tk := tk3) (fun b o h1 h2 z => kp b o h1 (gk b o h2 z)) ho b1 lo
    · refine ⟨.ref (s.heap.objs.size + 1), _, fin, rfl, q _ _ _ (I.hok.fresh (Nat.le_succ _)) (L.xt.trans (Xt.new L.fa.1)) upd_same ?_⟩
      have e3 : sortD kf es = _ := (sortD_zip (kf := kf) lx).symm
      rw [e3]
      exact (b2.kp bi L.xt.kp).mono (sqt_new L.fa.1)
end
end K87
/-! The defs that make functions or call what they got. -/
namespace K87
open PySem PySem.Spec PyProof.Rows L2 NdefX LamX
theorem sc_mapped : FnScope ["plan", "depth", "action", "found", "count", "part", "many", "other"] ["plan", "depth", "action"] (defScope s_mapped) := ⟨rfl, rfl, rfl, by decide +kernel, rfl, by decide +kernel, by decide +kernel⟩
def t_mapped (K : PySem.W.Frag) (fa : Addr) (Tk : Hp → Prop) (sp_act sp_mapped : Sp) : TS :=
  (tSeq (tAsg (tLst tNil) (gName 3))
    (tSeq (tFor (iTup K (tVar 0)) (gTup K 2 (gCons (gName 4) (gCons (gName 5) gNil))) (tIfS (tTest (tOp rEq (tOp (rIxT K) (tVar 5) (tC (.int 0))) (tC (.str "letter")))) (tDrop (tBM K "list" rAppend (tVar 3) (tCons (tTup (tCons (tVar 4) (tCons (tTup (tCons (tC (.str "letter")) (tCons (tOp (rIxT K) (tVar 5) (tC (.int 1))) (tCons (tCall sp_mapped [] E0 (tCons (tOp (rIxT K) (tVar 5) (tC (.int 2))) (tCons (tVar 1) (tCons (tVar 2) tNil)))) tNil)))) tNil))) tNil))) (tIfS (tTest (tOp rEq (tOp (rIxT K) (tVar 5) (tC (.int 0))) (tC (.str "wait")))) (tDrop (tBM K "list" rAppend (tVar 3) (tCons (tTup (tCons (tVar 4) (tCons (tTup (tCons (tC (.str "wait")) (tCons (tOp (rIxT K) (tVar 5) (tC (.int 1))) (tCons (tCall sp_mapped [] E0 (tCons (tOp (rIxT K) (tVar 5) (tC (.int 2))) (tCons (tOp (rI0 fun i j => .int (i + j)) (tVar 1) (tC (.int 1))) (tCons (tVar 2) tNil)))) tNil)))) tNil))) tNil))) (tDrop (tBM K "list" rExtend (tVar 3) (tCons (tLc (iTup K (tCallS 2 fa Tk sp_act (tCons (tVar 5) (tCons (tVar 1) tNil)))) (gTup K 2 (gCons (gName 6) (gCons (gName 7) gNil))) tYes (tTup (tCons (tOp (rI CMul fun i j => .int (i * j)) (tVar 4) (tVar 6)) (tCons (tVar 7) tNil))) [6, 7]) tNil))))))
    (tRet (tCB (rTupOf K) (tCons (tVar 3) tNil)))))
theorem pr_mapped {P : Program} {w : World} {K : PySem.W.Frag} {mg : Str → Option Value} {base : Heap} {k : Nat} (M : Hd w K mg) {S : Addr → Prop} {h0 : Heap} {Tk : Hp → Prop} {fa : Addr} {k_act k_mapped : Nat} {sp_act sp_mapped : Sp} (Ac : Actn P w K mg base k_act fa S h0 Tk sp_act) (h_act : k_act ≤ k) (c_mapped : CalH P w K mg base k_mapped "mapped" S h0 sp_mapped) (h_mapped : k_mapped ≤ k)
    (f : Addr) (cdv : Value) (A' : Around) (outer : List Env) (s : Shared) (H : Hp) (E : XK) (hH : Held S h0 s.heap H (frs outer)) (hr : Room k (Bx P w K mg base ["plan", "depth", "action", "found", "count", "part", "many", "other"] "mapped" s_mapped f cdv A' outer s H E).A) : PSs (Bx P w K mg base ["plan", "depth", "action", "found", "count", "part", "many", "other"] "mapped" s_mapped f cdv A' outer s H E) (defBody s_mapped) (t_mapped K fa Tk sp_act sp_mapped) := by
  have nd := sc_mapped.nd
  have hu := Room.u200 hr
  exact (pss_cons (ps_set (i := 3) nd rfl (by first | exact Or.inl rfl | exact Or.inr rfl) (pe_lst pa_nil))
    (pss_cons (ps_for PassesOwn.never rfl (pi_tup (pv 0)) (pg_tup rfl (pgs_cons (pg_name (i := 4) nd rfl (by first | exact Or.inl rfl | exact Or.inr rfl)) (pgs_cons (pg_name (i := 5) nd rfl (by first | exact Or.inl rfl | exact Or.inr rfl)) pgs_nil))) (pss_one (ps_if (pt_cmpR op_eq (pe_ix ix_tup (pv 5) pe_int (fun _ _ => rfl)) pe_str (by rfl)) (pss_one (ps_expr (pe_bm PySem.F.plainAttrs_list PySem.F.slot_list_append PySem.F.type_list_append mt_append (pv 3) (pa_cons (pe_tup (pa_cons (pv 4) (pa_cons (pe_tup (pa_cons pe_str (pa_cons (pe_ix ix_tup (pv 5) pe_int (fun _ _ => rfl)) (pa_cons (pe_calH c_mapped rfl hH hr h_mapped rfl (pa_cons (pe_ix ix_tup (pv 5) pe_int (fun _ _ => rfl)) (pa_cons (pv 1) (pa_cons (pv 2) pa_nil)))) pa_nil)))) pa_nil))) pa_nil)))) (pss_one (ps_if (pt_cmpR op_eq (pe_ix ix_tup (pv 5) pe_int (fun _ _ => rfl)) pe_str (by rfl)) (pss_one (ps_expr (pe_bm PySem.F.plainAttrs_list PySem.F.slot_list_append PySem.F.type_list_append mt_append (pv 3) (pa_cons (pe_tup (pa_cons (pv 4) (pa_cons (pe_tup (pa_cons pe_str (pa_cons (pe_ix ix_tup (pv 5) pe_int (fun _ _ => rfl)) (pa_cons (pe_calH c_mapped rfl hH hr h_mapped rfl (pa_cons (pe_ix ix_tup (pv 5) pe_int (fun _ _ => rfl)) (pa_cons (pe_op op_add (pv 1) pe_int) (pa_cons (pv 2) pa_nil)))) pa_nil)))) pa_nil))) pa_nil)))) (pss_one (ps_expr (pe_bm PySem.F.plainAttrs_list PySem.F.slot_list_extend PySem.F.type_list_extend mt_extend (pv 3) (pa_cons (pe_lc (own := [("many", 6), ("other", 7)]) rfl nd (pi_tup (pe_callS Ac rfl hH hr h_act rfl (Or.inl rfl) (pa_cons (pv 5) (pa_cons (pv 1) pa_nil)))) (blkOk_by (N := ["plan", "depth", "action", "found", "count", "part", "many", "other"]) (sc := defScope s_mapped) (by decide +kernel)) (fun _ _ _ _ _ => (pg_tup rfl (pgs_cons (pg_name (i := 6) nd rfl (by first | exact Or.inl rfl | exact Or.inr rfl)) (pgs_cons (pg_name (i := 7) nd rfl (by first | exact Or.inl rfl | exact Or.inr rfl)) pgs_nil)))) (fun _ _ _ _ _ => pts_nil) (fun _ _ _ _ _ => (pe_tup (pa_cons (pe_op op_mul (pv 4) (pv 6)) (pa_cons (pv 7) pa_nil))))) pa_nil)))))))))
    (pss_one (ps_ret (pe_callTy call_tuple_of rfl M.tuple b_tuple (pa_cons (pv 3) pa_nil))))))
def n_lift : Stmt := (defBody s_raised).getD 0 (.Pass ⟨0, 0, 0, 0⟩)
def n_bring : Stmt := (defBody s_brought).getD 0 (.Pass ⟨0, 0, 0, 0⟩)
abbrev qR : Str := ("raised" : Str) ++ (".<locals>." : Str) ++ ("lift" : Str)
abbrev qB : Str := ("brought" : Str) ++ (".<locals>." : Str) ++ ("bring" : Str)
abbrev qM : Str := ("bound_to" : Str) ++ (".<locals>." : Str) ++ ("<lambda>" : Str)
abbrev qS : Str := ("sorted_items" : Str) ++ (".<locals>." : Str) ++ ("<lambda>" : Str)
def nf_lift (cl : List (Str × Addr)) : Addr → NF := NF.of n_lift "lift" qR cl
def nf_bring (cl : List (Str × Addr)) : Addr → NF := NF.of n_bring "bring" qB cl
def lamA : Expr → Arguments
  | .Lambda (args := a) .. => a
  | _ => ⟨[], [], none, [], [], none, []⟩
def lamB : Expr → Expr
  | .Lambda (body := a) .. => a
  | e => e
def lamC : Expr → Scope
  | .Lambda (scope := a) .. => a
  | _ => ⟨.function, [], false, false, []⟩
/-- the third argument of the call that is the third item of the tuple that is handed back -/
def l_bound : Expr := match defBody s_bound_to with
  | [.Return (some (.Tuple [_, _, .Call _ [_, _, l] _ _] _ _)) _] => l
  | _ => .Constant .none 0 ⟨0, 0, 0, 0⟩
/-- the key of the sort that is walked -/
def l_key : Expr := match defBody s_sorted_items with
  | _ :: .For (iter := .Call (keywords := [kw]) ..) .. :: _ => kw.value
  | _ => .Constant .none 0 ⟨0, 0, 0, 0⟩
def lf_bound (cl : List (Str × Addr)) : Addr → LF := fun c' => ⟨qM, lamA l_bound, lamB l_bound, lamC l_bound, cl, c'⟩
def lf_key (cl : List (Str × Addr)) : Addr → LF := fun c' => ⟨qS, lamA l_key, lamB l_key, lamC l_key, cl, c'⟩
def t_lift (K : PySem.W.Frag) : TS :=
  (tSeq (tIfS (tAnd (tTest (tOp rEq (tOp (rIxT K) (tVar 0) (tC (.int 0))) (tC (.str "got")))) (tTest (tOp (rI0 fun i j => .bl (decide (j ≤ i))) (tOp (rIxT K) (tVar 0) (tC (.int 1))) (tOp (rI0 fun i j => .int (i + j)) (tVar 1) (tVar 3))))) (tRet (tTup (tCons (tTup (tCons (tC (.int 1)) (tCons (tTup (tCons (tC (.str "got")) (tCons (tOp (rI0 fun i j => .int (i + j)) (tOp (rIxT K) (tVar 0) (tC (.int 1))) (tVar 2)) tNil))) tNil))) tNil))) tNext)
    (tRet (tTup (tCons (tTup (tCons (tC (.int 1)) (tCons (tVar 0) tNil))) tNil))))
theorem pr_lift {P : Program} {w : World} {K : PySem.W.Frag} {mg : Str → Option Value} {base : Heap} {k : Nat} (M : Hd w K mg) (cl : List (Str × Addr)) (c' f : Addr) (A' : Around) (outer : List Env) (s : Shared) (H : Hp) (E : XK) (hr : Room k ((ncx CX0 P w K mg base ["part", "depth", "by", "least"] (nf_lift cl c') f A' outer s H E).nox).A) : PSs ((ncx CX0 P w K mg base ["part", "depth", "by", "least"] (nf_lift cl c') f A' outer s H E).nox) (nf_lift cl c').body (t_lift K) := by
  have hu := Room.u200 hr
  exact (pss_cons (ps_if (PW.pt (pw_and (pt_cmpR op_eq (pe_ix ix_tup (pv 0) pe_int (fun _ _ => rfl)) pe_str (by rfl)) (pw_and1 (pt_cmpR op_ge (pe_ix ix_tup (pv 0) pe_int (fun _ _ => rfl)) (pe_op op_add (pv 1) (pv 3)) (by rfl))))) (pss_one (ps_ret (pe_tup (pa_cons (pe_tup (pa_cons pe_int (pa_cons (pe_tup (pa_cons pe_str (pa_cons (pe_op op_add (pe_ix ix_tup (pv 0) pe_int (fun _ _ => rfl)) (pv 2)) pa_nil))) pa_nil))) pa_nil)))) pss_nil)
    (pss_one (ps_ret (pe_tup (pa_cons (pe_tup (pa_cons pe_int (pa_cons (pv 0) pa_nil))) pa_nil)))))
def t_bring (K : PySem.W.Frag) (sp_raised : Sp) : TS :=
  (tSeq (tIfS (tAnd (tTest (tOp rEq (tOp (rIxT K) (tVar 0) (tC (.int 0))) (tC (.str "got")))) (tTest (tOp rEq (tOp (rIxT K) (tVar 0) (tC (.int 1))) (tVar 1)))) (tRet (tCall sp_raised [] E0 (tCons (tVar 2) (tCons (tVar 1) (tCons (tC (.int 0)) tNil))))) tNext)
    (tSeq (tIfS (tAnd (tTest (tOp rEq (tOp (rIxT K) (tVar 0) (tC (.int 0))) (tC (.str "got")))) (tTest (tOp (rI0 fun i j => .bl (decide (j < i))) (tOp (rIxT K) (tVar 0) (tC (.int 1))) (tVar 1)))) (tRet (tTup (tCons (tTup (tCons (tC (.int 1)) (tCons (tTup (tCons (tC (.str "got")) (tCons (tOp (rI0 fun i j => .int (i - j)) (tOp (rIxT K) (tVar 0) (tC (.int 1))) (tC (.int 1))) tNil))) tNil))) tNil))) tNext)
    (tRet (tTup (tCons (tTup (tCons (tC (.int 1)) (tCons (tVar 0) tNil))) tNil)))))
theorem pr_bring {P : Program} {w : World} {K : PySem.W.Frag} {mg : Str → Option Value} {base : Heap} {k : Nat} (M : Hd w K mg) {k_raised : Nat} {sp_raised : Sp} (c_raised : Cal P w K mg base k_raised "raised" sp_raised) (h_raised : k_raised ≤ k) (cl : List (Str × Addr)) (c' f : Addr) (A' : Around) (outer : List Env) (s : Shared) (H : Hp) (E : XK) (hr : Room k ((ncx CX0 P w K mg base ["part", "depth", "other"] (nf_bring cl c') f A' outer s H E).nox).A) : PSs ((ncx CX0 P w K mg base ["part", "depth", "other"] (nf_bring cl c') f A' outer s H E).nox) (nf_bring cl c').body (t_bring K sp_raised) := by
  have hu := Room.u200 hr
  exact (pss_cons (ps_if (PW.pt (pw_and (pt_cmpR op_eq (pe_ix ix_tup (pv 0) pe_int (fun _ _ => rfl)) pe_str (by rfl)) (pw_and1 (pt_cmpR op_eq (pe_ix ix_tup (pv 0) pe_int (fun _ _ => rfl)) (pv 1) (by rfl))))) (pss_one (ps_ret (pe_cal c_raised hr h_raised rfl (pa_cons (pv 2) (pa_cons (pv 1) (pa_cons pe_int pa_nil)))))) pss_nil)
    (pss_cons (ps_if (PW.pt (pw_and (pt_cmpR op_eq (pe_ix ix_tup (pv 0) pe_int (fun _ _ => rfl)) pe_str (by rfl)) (pw_and1 (pt_cmpR op_gt (pe_ix ix_tup (pv 0) pe_int (fun _ _ => rfl)) (pv 1) (by rfl))))) (pss_one (ps_ret (pe_tup (pa_cons (pe_tup (pa_cons pe_int (pa_cons (pe_tup (pa_cons pe_str (pa_cons (pe_op op_sub (pe_ix ix_tup (pv 0) pe_int (fun _ _ => rfl)) pe_int) pa_nil))) pa_nil))) pa_nil)))) pss_nil)
    (pss_one (ps_ret (pe_tup (pa_cons (pe_tup (pa_cons pe_int (pa_cons (pv 0) pa_nil))) pa_nil))))))
def t_bound (K : PySem.W.Frag) : TE :=
  (tTup (tCons (tTup (tCons (tC (.int 1)) (tCons (tIf (tTest (tOp (rEqP K) (tVar 0) (tVar 2))) (tTup (tCons (tC (.str "got")) (tCons (tVar 1) tNil))) (tVar 0)) tNil))) tNil))
theorem pr_bound {P : Program} {w : World} {K : PySem.W.Frag} {mg : Str → Option Value} {base : Heap} {k : Nat} (M : Hd w K mg) (cl : List (Str × Addr)) (c' f : Addr) (A' : Around) (outer : List Env) (s : Shared) (H : Hp) (E : XK) (hr : Room k ((ncx CX0 P w K mg base ["part", "depth", "old"] (lf_bound cl c').nf f A' outer s H E).nox).A) : PE ((ncx CX0 P w K mg base ["part", "depth", "old"] (lf_bound cl c').nf f A' outer s H E).nox) (lf_bound cl c').body (t_bound K) := by
  have hu := Room.u200 hr
  exact (pe_tup (pa_cons (pe_tup (pa_cons pe_int (pa_cons (pe_ifExp (pt_cmpR (op_eqP hu) (pv 0) (pv 2) (by rfl)) (pe_tup (pa_cons pe_str (pa_cons (pv 1) pa_nil))) (pv 0)) pa_nil))) pa_nil))
def t_key (K : PySem.W.Frag) (sp_part_key : Sp) : TE :=
  (tCall sp_part_key [] E0 (tCons (tOp (rIxT K) (tVar 0) (tC (.int 1))) tNil))
theorem pr_key {P : Program} {w : World} {K : PySem.W.Frag} {mg : Str → Option Value} {base : Heap} {k : Nat} (M : Hd w K mg) {k_part_key : Nat} {sp_part_key : Sp} (c_part_key : Cal P w K mg base k_part_key "part_key" sp_part_key) (h_part_key : k_part_key ≤ k) (cl : List (Str × Addr)) (c' f : Addr) (A' : Around) (outer : List Env) (s : Shared) (H : Hp) (E : XK) (hr : Room k ((ncx CX0 P w K mg base ["item"] (lf_key cl c').nf f A' outer s H E).nox).A) : PE ((ncx CX0 P w K mg base ["item"] (lf_key cl c').nf f A' outer s H E).nox) (lf_key cl c').body (t_key K sp_part_key) := by
  have hu := Room.u200 hr
  exact (pe_cal c_part_key hr h_part_key rfl (pa_cons (pe_ix ix_tup (pv 0) pe_int (fun _ _ => rfl)) pa_nil))
theorem sc_raised : FnScope ["plan", "by", "least", "lift"] ["plan", "by", "least"] (defScope s_raised) := ⟨rfl, rfl, rfl, by decide +kernel, rfl, by decide +kernel, by decide +kernel⟩
abbrev cl_of_raised (cells : List (Str × Addr)) : List (Str × Addr) := cloFrom cells (C8.fnScope n_lift).names []
def t_raised (K : PySem.W.Frag) (T : List NTab) (sp_mk : Addr → Addr → List (Option V) → Sp) (cells : List (Str × Addr)) : TS :=
  (tSeq (tNdefM T 3 (nf_lift (cl_of_raised cells))) (tRet (tMkN sp_mk [1, 2] (tCons (tVar 0) (tCons (tC (.int 0)) (tCons (tVar 3) tNil))))))
theorem pr_raised {P : Program} {w : World} {K : PySem.W.Frag} {mg : Str → Option Value} {base : Heap} {k : Nat} (M : Hd w K mg) {T : List NTab} {p c : Addr} {k_mapped : Nat} {sp_mk : Addr → Addr → List (Option V) → Sp} (f : Addr) (A' : Around) (outer : List Env) (s : Shared) (H : Hp) (E : XK) (TB : TabB base mg c p) (hmT : (p, fun _ _ => qR) ∈ T) (hu : ∀ q ∈ T, q.1 = p → q.2 = fun _ _ => qR)
    (C : ∀ f c' h0 H0 ws, CellsAt (cl_of_raised (cellsFrom (s.heap.objs.size + 1) (defScope s_raised).names [])) ["by", "least"] ws h0 H0 → CalH P w K mg base k_mapped "mapped" (fun c => ∃ y, (cl_of_raised (cellsFrom (s.heap.objs.size + 1) (defScope s_raised).names [])).lookup y = some c) h0 (sp_mk f c' ws)) (hk : k_mapped ≤ k)
    (hm : ∃ f, mg "mapped" = some (.ref f) ∧ PySem.W.keepIn K (.ref f) = true) (hr : Room k (Bx P w K mg base ["plan", "by", "least", "lift"] "raised" s_raised f (.ref c) A' outer s H E).A) : PSs (Bx P w K mg base ["plan", "by", "least", "lift"] "raised" s_raised f (.ref c) A' outer s H E) (defBody s_raised) (t_raised K T sp_mk (cellsFrom (s.heap.objs.size + 1) (defScope s_raised).names [])) := by
  have nd := sc_raised.nd
  exact (pss_cons (ps_ndefMS (st := n_lift) rfl TB rfl hmT rfl hu (ndef_free (sc := defScope s_raised) (nsc := C8.fnScope n_lift) (fr := ["by", "least"]) (by decide +kernel)) rfl rfl rfl nd rfl (Or.inl rfl) (Or.inl rfl)) (pss_one (ps_ret (pe_mkN C (fun ok => Caps.made ok (ndef_free (sc := defScope s_raised) (nsc := C8.fnScope n_lift) (fr := ["by", "least"]) (by decide +kernel)) (ndef_fr (sc := defScope s_raised) (by decide +kernel)) rfl) (fun _ => rfl) hm hr hk rfl (pa_cons (pv 0) (pa_cons pe_int (pa_cons (pv 3) pa_nil)))))))
theorem sc_brought : FnScope ["body", "other", "bring"] ["body", "other"] (defScope s_brought) := ⟨rfl, rfl, rfl, by decide +kernel, rfl, by decide +kernel, by decide +kernel⟩
abbrev cl_of_brought (cells : List (Str × Addr)) : List (Str × Addr) := cloFrom cells (C8.fnScope n_bring).names []
def t_brought (K : PySem.W.Frag) (T : List NTab) (sp_mk : Addr → Addr → List (Option V) → Sp) (cells : List (Str × Addr)) : TS :=
  (tSeq (tNdefM T 2 (nf_bring (cl_of_brought cells))) (tRet (tMkN sp_mk [1] (tCons (tVar 0) (tCons (tC (.int 0)) (tCons (tVar 2) tNil))))))
theorem pr_brought {P : Program} {w : World} {K : PySem.W.Frag} {mg : Str → Option Value} {base : Heap} {k : Nat} (M : Hd w K mg) {T : List NTab} {p c : Addr} {k_mapped : Nat} {sp_mk : Addr → Addr → List (Option V) → Sp} (f : Addr) (A' : Around) (outer : List Env) (s : Shared) (H : Hp) (E : XK) (TB : TabB base mg c p) (hmT : (p, fun _ _ => qB) ∈ T) (hu : ∀ q ∈ T, q.1 = p → q.2 = fun _ _ => qB)
    (C : ∀ f c' h0 H0 ws, CellsAt (cl_of_brought (cellsFrom (s.heap.objs.size + 1) (defScope s_brought).names [])) ["other"] ws h0 H0 → CalH P w K mg base k_mapped "mapped" (fun c => ∃ y, (cl_of_brought (cellsFrom (s.heap.objs.size + 1) (defScope s_brought).names [])).lookup y = some c) h0 (sp_mk f c' ws)) (hk : k_mapped ≤ k)
    (hm : ∃ f, mg "mapped" = some (.ref f) ∧ PySem.W.keepIn K (.ref f) = true) (hr : Room k (Bx P w K mg base ["body", "other", "bring"] "brought" s_brought f (.ref c) A' outer s H E).A) : PSs (Bx P w K mg base ["body", "other", "bring"] "brought" s_brought f (.ref c) A' outer s H E) (defBody s_brought) (t_brought K T sp_mk (cellsFrom (s.heap.objs.size + 1) (defScope s_brought).names [])) := by
  have nd := sc_brought.nd
  exact (pss_cons (ps_ndefMS (st := n_bring) rfl TB rfl hmT rfl hu (ndef_free (sc := defScope s_brought) (nsc := C8.fnScope n_bring) (fr := ["other"]) (by decide +kernel)) rfl rfl rfl nd rfl (Or.inl rfl) (Or.inl rfl)) (pss_one (ps_ret (pe_mkN C (fun ok => Caps.made ok (ndef_free (sc := defScope s_brought) (nsc := C8.fnScope n_bring) (fr := ["other"]) (by decide +kernel)) (ndef_fr (sc := defScope s_brought) (by decide +kernel)) rfl) (fun _ => rfl) hm hr hk rfl (pa_cons (pv 0) (pa_cons pe_int (pa_cons (pv 2) pa_nil)))))))
theorem sc_bound_to : FnScope ["door", "old", "plan"] ["door", "old", "plan"] (defScope s_bound_to) := ⟨rfl, rfl, rfl, by decide +kernel, rfl, by decide +kernel, by decide +kernel⟩
abbrev cl_of_bound_to (cells : List (Str × Addr)) : List (Str × Addr) := cloFrom cells (lamC l_bound).names []
def t_bound_to (K : PySem.W.Frag) (T : List (Addr × Str)) (sp_mk : Addr → Addr → List (Option V) → Sp) (cells : List (Str × Addr)) : TS :=
  (tRet (tTup (tCons (tC (.str "wait")) (tCons (tVar 0) (tCons (tMkN sp_mk [1] (tCons (tVar 2) (tCons (tC (.int 0)) (tCons (tLamO T (lf_bound (cl_of_bound_to cells))) tNil)))) tNil)))))
theorem pr_bound_to {P : Program} {w : World} {K : PySem.W.Frag} {mg : Str → Option Value} {base : Heap} {k : Nat} (M : Hd w K mg) {T : List (Addr × Str)} {p c : Addr} {k_mapped : Nat} {sp_mk : Addr → Addr → List (Option V) → Sp} (f : Addr) (A' : Around) (outer : List Env) (s : Shared) (H : Hp) (E : XK) (TB : TabB base mg c p) (hmT : (p, qM) ∈ T) (hu : ∀ q ∈ T, q.1 = p → q.2 = qM)
    (C : ∀ f c' h0 H0 ws, CellsAt (cl_of_bound_to (cellsFrom (s.heap.objs.size + 1) (defScope s_bound_to).names [])) ["old"] ws h0 H0 → CalH P w K mg base k_mapped "mapped" (fun c => ∃ y, (cl_of_bound_to (cellsFrom (s.heap.objs.size + 1) (defScope s_bound_to).names [])).lookup y = some c) h0 (sp_mk f c' ws)) (hk : k_mapped ≤ k)
    (hm : ∃ f, mg "mapped" = some (.ref f) ∧ PySem.W.keepIn K (.ref f) = true) (hr : Room k (Bx P w K mg base ["door", "old", "plan"] "bound_to" s_bound_to f (.ref c) A' outer s H E).A) : PSs (Bx P w K mg base ["door", "old", "plan"] "bound_to" s_bound_to f (.ref c) A' outer s H E) (defBody s_bound_to) (t_bound_to K T sp_mk (cellsFrom (s.heap.objs.size + 1) (defScope s_bound_to).names [])) := by
  have nd := sc_bound_to.nd
  exact (pss_one (ps_ret (pe_tup (pa_cons pe_str (pa_cons (pv 0) (pa_cons (pe_mkN C (fun ok => Caps.made ok (ndef_free (sc := defScope s_bound_to) (nsc := lamC l_bound) (fr := ["old"]) (by decide +kernel)) (ndef_fr (sc := defScope s_bound_to) (by decide +kernel)) rfl) (fun _ => rfl) hm hr hk rfl (pa_cons (pv 2) (pa_cons pe_int (pa_cons (pe_lamO TB rfl hmT hu rfl (ndef_free (sc := defScope s_bound_to) (nsc := lamC l_bound) (fr := ["old"]) (by decide +kernel))) pa_nil)))) pa_nil))))))
theorem sc_sorted_items : FnScope ["items", "found", "count", "part"] ["items"] (defScope s_sorted_items) := ⟨rfl, rfl, rfl, by decide +kernel, rfl, by decide +kernel, by decide +kernel⟩
abbrev cl_of_sorted (cells : List (Str × Addr)) : List (Str × Addr) := cloFrom cells (lamC l_key).names []
def t_sorted_items (K : PySem.W.Frag) (B : Amb) (Gk : Gd) (kf : PyData → PyData) (T : List (Addr × Str)) (cells : List (Str × Addr)) : TS :=
  (tSeq (tAsg (tLst tNil) (gName 1))
    (tSeq (tFor (iList K (tCKw (rSortKey K B (lf_key (cl_of_sorted cells)) Gk kf) (tCons (tCB (rListOf K) (tCons (tVar 0) tNil)) tNil) (tCons (tLamO T (lf_key (cl_of_sorted cells))) tNil))) (gTup K 2 (gCons (gName 2) (gCons (gName 3) gNil))) (tIfS (tAnd (tTest (tOp (rI0 fun i j => .bl (decide (j < i))) (tCB (rLenSeq K) (tCons (tVar 1) tNil)) (tC (.int 0)))) (tTest (tOp (rEqP K) (tOp (rIxT K) (tOp (rIxL K) (tVar 1) (tUn (rU fun i => .int (-i)) (tC (.int 1)))) (tC (.int 1))) (tVar 3)))) (tAsg (tTup (tCons (tOp (rI0 fun i j => .int (i + j)) (tOp (rIxT K) (tOp (rIxL K) (tVar 1) (tUn (rU fun i => .int (-i)) (tC (.int 1)))) (tC (.int 0))) (tVar 2)) (tCons (tVar 3) tNil))) (gSub (tVar 1) (tUn (rU fun i => .int (-i)) (tC (.int 1))) rSetL)) (tDrop (tBM K "list" rAppend (tVar 1) (tCons (tTup (tCons (tVar 2) (tCons (tVar 3) tNil))) tNil)))))
    (tRet (tCB (rTupOf K) (tCons (tVar 1) tNil)))))
theorem pr_sorted_items {P : Program} {w : World} {K : PySem.W.Frag} {mg : Str → Option Value} {base : Heap} {k : Nat} (M : Hd w K mg) {T : List (Addr × Str)} {p c : Addr} {B : Amb} {Gk : Gd} {kf : PyData → PyData} (hB : B.tp = []) (f : Addr) (A' : Around) (outer : List Env) (s : Shared) (H : Hp) (E : XK) (TB : TabB base mg c p) (hmT : (p, qS) ∈ T) (hq : ∀ q ∈ T, q.1 = p → q.2 = qS)
    (Ac : ∀ f c' h0, Actn P w K mg base k f (fun c => ∃ y, (lf_key (cl_of_sorted (cellsFrom (s.heap.objs.size + 1) (defScope s_sorted_items).names [])) c').cl.lookup y = some c) h0 (TkL K f (lf_key (cl_of_sorted (cellsFrom (s.heap.objs.size + 1) (defScope s_sorted_items).names [])) c') [] []) (spD K B Gk)) (hcl : ∀ c', (lf_key (cl_of_sorted (cellsFrom (s.heap.objs.size + 1) (defScope s_sorted_items).names [])) c').cl = [])
    (hr : Room (k + 2) (Bx P w K mg base ["items", "found", "count", "part"] "sorted_items" s_sorted_items f (.ref c) A' outer s H E).A) : PSs (Bx P w K mg base ["items", "found", "count", "part"] "sorted_items" s_sorted_items f (.ref c) A' outer s H E) (defBody s_sorted_items) (t_sorted_items K B Gk kf T (cellsFrom (s.heap.objs.size + 1) (defScope s_sorted_items).names [])) := by
  have nd := sc_sorted_items.nd
  have hu := Room.u200 hr
  exact (pss_cons (ps_set (i := 1) nd rfl (by first | exact Or.inl rfl | exact Or.inr rfl) (pe_lst pa_nil))
    (pss_cons (ps_for PassesOwn.never rfl (pi_list (pe_callBK (cr_sortKey hB Ac hcl rfl hr) rfl M.sorted boot_sorted (pa_cons (pe_callTy call_list_of rfl M.list b_list (pa_cons (pv 0) pa_nil)) pa_nil) (pk_cons (pe_lamO TB rfl hmT hq rfl (ndef_free (sc := defScope s_sorted_items) (nsc := lamC l_key) (fr := []) (by decide +kernel))) pk_nil))) (pg_tup rfl (pgs_cons (pg_name (i := 2) nd rfl (by first | exact Or.inl rfl | exact Or.inr rfl)) (pgs_cons (pg_name (i := 3) nd rfl (by first | exact Or.inl rfl | exact Or.inr rfl)) pgs_nil))) (pss_one (ps_if (PW.pt (pw_and (pt_cmpR op_gt (pe_callB call_len_seq rfl M.len boot_len (pa_cons (pv 1) pa_nil)) pe_int (by rfl)) (pw_and1 (pt_cmpR (op_eqP hu) (pe_ix ix_tup (pe_ix ix_list (pv 1) (pe_un un_neg pe_int) (fun _ _ => rfl)) pe_int (fun _ _ => rfl)) (pv 3) (by rfl))))) (pss_one (ps_asg (pe_tup (pa_cons (pe_op op_add (pe_ix ix_tup (pe_ix ix_list (pv 1) (pe_un un_neg pe_int) (fun _ _ => rfl)) pe_int (fun _ _ => rfl)) (pv 2)) (pa_cons (pv 3) pa_nil))) (pg_sub (pv 1) (pe_un un_neg pe_int) set_list))) (pss_one (ps_expr (pe_bm PySem.F.plainAttrs_list PySem.F.slot_list_append PySem.F.type_list_append mt_append (pv 1) (pa_cons (pe_tup (pa_cons (pv 2) (pa_cons (pv 3) pa_nil))) pa_nil)))))))
    (pss_one (ps_ret (pe_callTy call_tuple_of rfl M.tuple b_tuple (pa_cons (pv 1) pa_nil))))))
end K87
/-! Makers of functions, by data. -/
namespace K87
open PySem PySem.Spec PyProof.Rows L2 NdefX LamX
/-- the text's def x, its code object -/
def DfnT (K : PySem.W.Frag) (mg : Str → Option Value) (x : Str) (st : Stmt) (c : Addr) : Prop :=
  ∃ (f : Addr) (fd : FuncData), mg x = some (.ref f) ∧ FunD K x x (defArgs st) (defBody st) (defScope st) [] [] f fd ∧ fd.code = .ref c
/-- the code objects and tables of the defs that make functions -/
structure Tb (K : PySem.W.Frag) (mg : Str → Option Value) (base : Heap) where
  cS : Addr
  cR : Addr
  cB : Addr
  cM : Addr
  pS : Addr
  pR : Addr
  pB : Addr
  pM : Addr
  tS : TabB base mg cS pS
  tR : TabB base mg cR pR
  tB : TabB base mg cB pB
  tM : TabB base mg cM pM
  nd : [pS, pR, pB, pM].Nodup
  dS : DfnT K mg "sorted_items" s_sorted_items cS
  dR : DfnT K mg "raised" s_raised cR
  dB : DfnT K mg "brought" s_brought cB
  dM : DfnT K mg "bound_to" s_bound_to cM
section
variable {K : PySem.W.Frag} {mg : Str → Option Value} {base : Heap} (t : Tb K mg base)
def Tb.T : List (Addr × Str) := [(t.pS, qS), (t.pR, qR), (t.pB, qB), (t.pM, qM)]
def toN (T : List (Addr × Str)) : List NTab := T.map fun p => (p.1, fun _ _ => p.2)
theorem toN_of {T : List (Addr × Str)} {H : Hp} (h : Tabs T H) : TabsN (toN T) H := fun p hp => by
  obtain ⟨q, hq, rfl⟩ := List.mem_map.mp hp
  exact TabN.of (h q hq)
theorem toN_to {T : List (Addr × Str)} {H : Hp} (h : TabsN (toN T) H) : Tabs T H := fun q hq => TabN.to (h _ (List.mem_map.mpr ⟨q, hq, rfl⟩))
theorem fst_one : ∀ {l : List (Addr × Str)} {p : Addr} {q : Str}, (l.map Prod.fst).Nodup → (p, q) ∈ l → ∀ r ∈ l, r.1 = p → r.2 = q
  | x :: l, p, q, nd, hm, r, hr, e => by
    rw [List.map_cons, List.nodup_cons] at nd
    rcases List.mem_cons.mp hm with h1 | h1 <;> rcases List.mem_cons.mp hr with h2 | h2
    · rw [h2, ← h1]
    · exact absurd (List.mem_map.mpr ⟨r, h2, by rw [e, ← h1]⟩) nd.1
    · exact absurd (List.mem_map.mpr ⟨_, h1, by rw [← h2, e]⟩) nd.1
    · exact fst_one nd.2 h1 r h2 e
theorem Tb.one {p : Addr} {q : Str} (hm : (p, q) ∈ t.T) : ∀ r ∈ t.T, r.1 = p → r.2 = q := fst_one (show (t.T.map Prod.fst).Nodup from t.nd) hm
theorem Tb.oneN {p : Addr} {q : Str} (hm : (p, q) ∈ t.T) : ∀ r ∈ toN t.T, r.1 = p → r.2 = fun _ _ => q := fun r hr e => by
  obtain ⟨z, hz, rfl⟩ := List.mem_map.mp hr
  show (fun (_ _ : Nat) => z.2) = fun _ _ => q
  rw [t.one hm z hz e]
theorem Tb.memN {p : Addr} {q : Str} (hm : (p, q) ∈ t.T) : (p, fun _ _ => q) ∈ toN t.T := List.mem_map.mpr ⟨_, hm, rfl⟩
theorem Tb.mS : (t.pS, qS) ∈ t.T := by unfold Tb.T; simp
theorem Tb.mR : (t.pR, qR) ∈ t.T := by unfold Tb.T; simp
theorem Tb.mB : (t.pB, qB) ∈ t.T := by unfold Tb.T; simp
theorem Tb.mM : (t.pM, qM) ∈ t.T := by unfold Tb.T; simp
end
theorem Dfn.kept {K : PySem.W.Frag} {mg : Str → Option Value} {x : Str} {st : Stmt} (D : Dfn K mg x st) : ∃ f, mg x = some (.ref f) ∧ PySem.W.keepIn K (.ref f) = true := by
  obtain ⟨f, fd, h, F⟩ := D
  exact ⟨f, h, F.kp⟩
/-! ### THE RULE for a def that makes functions -/
section
variable {P : Program} {w : World} {K : PySem.W.Frag} {mg : Str → Option Value} {base : Heap} {x : Str} {st : Stmt} {N ps : List Str} {k : Nat} {A : Amb} {c : Addr} {t : List (Str × Addr) → TS}
theorem cal_dataT (D : DfnT K mg x st c) (S : FnScope N ps (defScope st)) (G : Gd) (hl : ∀ as P', G as P' → as.length = ps.length)
    (hb : ∀ (dV kV doc pm : Value) (an : Option Addr) (cdv ct : Value) (us : List Value), dV = .none → us.length = ps.length → bindArgs (PySem.W.fnOf x x (defArgs st) (defBody st) (defScope st) .none kV doc pm an cdv ct) ⟨us, []⟩ = pure (ps.zip us))
    (hp : ∀ (f : Addr) (A' : Around) (outer : List Env) (s : Shared) (H : Hp) (E : XK), Room k (Bx P w K mg base N x st f (.ref c) A' outer s H E).A → PSs (Bx P w K mg base N x st f (.ref c) A' outer s H E) (defBody st) (t (cellsFrom (s.heap.objs.size + 1) (defScope st).names [])))
    (hr : ∀ cells as P', G as P' → Rn K A (t cells) (as ++ List.replicate (N.length - as.length) .emp) (retD P')) : Cal P w K mg base (k + 1) x (spD K A G) := by
  obtain ⟨f, fd, h1, F, hc⟩ := D
  refine ⟨f, fd, ps, h1, F.kp, F.bindsN fun kV doc pm an cdv ct us h => hb .none kV doc pm an cdv ct us rfl h, ?_⟩
  obtain ⟨oc, od, dV, kV, doc, pm, an, cdv, ct, osl, rfl, lk, hcd, _, _⟩ := F.ex
  obtain rfl : cdv = .ref c := hc
  refine fn_of lk hcd S (fun vs H Q E h => ?_) fun A' outer s H vs Q E room h => ⟨_, (hp f A' outer s H E room).nox, ?_⟩
  · obtain ⟨_, as, P', g, al, _⟩ := h
    rw [al.length]
    exact hl as P' g
  · obtain ⟨i, as, P', g, al, q⟩ := h
    have n := en_start (N := N) i al
    refine hr _ as P' g H H _ _ n (fun es σ' H' z n' _ => q .non .none H' z n'.x0 .non) (fun v r H' z x' a => ?_) (fun _ _ _ z => z.elim) fun _ _ _ z => z.elim
    cases r with
    | inl d => exact q v d H' z x' a
    | inr es => exact (show False from z).elim
end
/-! ### a function made, then handed on -/
section
variable {K : PySem.W.Frag} {T : List (Addr × Str)} {ds : List SD}
theorem caught {A : Amb} {H0 H : Hp} {σ : L2.St} (n : En K A H0 H σ ds) : ∀ (js : List Nat) (bs : List PyData), js.map (fun j => ds[j]?) = bs.map (fun b => some (SD.dat b)) → ∃ us : List V, js.map (slotAt σ) = us.map some ∧ AtAll K H us bs
  | [], [], _ => ⟨[], rfl, .nil⟩
  | [], _ :: _, h => by simp at h
  | _ :: _, [], h => by simp at h
  | j :: js, b :: bs, h => by
    rw [List.map_cons, List.map_cons] at h
    injection h with h1 h2
    obtain ⟨us, e, a⟩ := caught n js bs h2
    obtain ⟨v, ev, av⟩ := n.slot j _ h1
    exact ⟨v :: us, by rw [List.map_cons, List.map_cons, e, slotAt_of ev], .cons av a⟩
/-- the promise wanted of the def that gets the function f, made of F, that has captured what stands for bs -/
def spN {ι : Type} (K : PySem.W.Frag) (A : Amb) (mk : Addr → NF) (bs : ι → List PyData) (Gm : ι → Addr → Gd) : Addr → Addr → List (Option V) → Sp := fun f c' ws vs H Q E => ∃ i us, ws = us.map some ∧ spD K (A.also (TkN K f (mk c') us (bs i)) stabN) (Gm i f) vs H Q E
def spL' {ι : Type} (K : PySem.W.Frag) (A : Amb) (mk : Addr → LF) (bs : ι → List PyData) (Gm : ι → Addr → Gd) : Addr → Addr → List (Option V) → Sp := fun f c' ws vs H Q E => ∃ i us, ws = us.map some ∧ spD K (A.also (TkL K f (mk c') us (bs i)) stabL) (Gm i f) vs H Q E
theorem AllS.also {A : Amb} {Tk : Hp → Prop} {st : Stab A Tk} {H : Hp} : ∀ {vs : List V} {as : List SD}, AllS K A H vs as → AllS K (A.also Tk st) H vs as
  | _, _, .nil => .nil
  | _, _, .cons (d := d) h a => .cons (by cases d <;> exact h) (AllS.also a)
theorem rn_mkN {ι : Type} (i0 : ι) {mk : Addr → NF} {bs : ι → List PyData} {Gm : ι → Addr → Gd} {js : List Nat} {i : Nat} {ta : TA} {Po : Post} {as : Addr → List SD} {P : PyData → Prop} (hq : ∀ c', (mk c').c = c')
    (hj : ∀ f, js.map (fun j => (ds.set i (.raw (.ref f)))[j]?) = (bs i0).map (fun b => some (SD.dat b))) (ha : ∀ f, EvA K (pureA T) ta (ds.set i (.raw (.ref f))) (fun x => x = as f)) (hg : ∀ f, Gm i0 f (as f) P) (hp : ∀ d, P d → Po.rt (.inl d)) :
    Rn K (pureA T) (tSeq (tNdefM (toN T) i mk) (tRet (tMkN (spN K (pureA T) mk bs Gm) js ta))) ds Po := fun H0 H σ D n a b c e => by
  refine ⟨toN_of n.inv, fun f c' H1 eN nn T1 f0 f1 c1 => ?_⟩
  have x1 : Xt (pureA T) H H1 := xt_ext eN nn (toN_to T1)
  have n1 : En K (pureA T) H0 H1 (σ.set i (some (.ref f))) (ds.set i (.raw (.ref f))) := (n.xt x1).set (d := .raw (.ref f)) i rfl
  obtain ⟨us, eu, au⟩ := caught n1 js (bs i0) (hj f)
  refine ha f H0 H1 _ _ n1 fun vs as' H2 p2 x2 a2 => ?_
  subst p2
  have tk : TkN K f (mk c') us (bs i0) H2 := stabN.kp H1 H2 n1.inv x2.kp ⟨f1, by rw [hq]; exact c1, au⟩
  refine ⟨f, c', i0, us, eu, ⟨x2.inv n1.inv, tk⟩, as f, P, hg f, a2.also, fun v d H3 pd x3 a3 => ?_⟩
  exact b v (.inl d) H3 (hp d pd) ((n1.x0.trans x2).trans (Xt.less tk x3)) a3
theorem ev_mkL {ι : Type} (i0 : ι) {mk : Addr → LF} {bs : ι → List PyData} {Gm : ι → Addr → Gd} {js : List Nat} {tp td : TE} {dp dd : PyData} {P P' : PyData → Prop} (hq : ∀ c', (mk c').c = c')
    (hj : js.map (fun j => ds[j]?) = (bs i0).map (fun b => some (SD.dat b))) (h1 : Ev K (pureA T) tp ds (Is dp)) (h2 : Ev K (pureA T) td ds (Is dd)) (hg : ∀ f, Gm i0 f [.dat dp, .dat dd, .raw (.ref f)] P') (hp : ∀ d, P' d → P d) :
    Ev K (pureA T) (tMkN (spL' K (pureA T) mk bs Gm) js (tCons tp (tCons td (tCons (tLamO T mk) tNil)))) ds P := fun H0 H σ Q n q =>
  h1 H0 H σ _ n fun v1 d1 H1 p1 x1 a1 => h2 H0 H1 σ _ (n.xt x1) fun v2 d2 H2 p2 x2 a2 => by
    subst p1 p2
    have n2 := (n.xt x1).xt x2
    refine ⟨n2.inv, fun f c' H3 eN nn T3 f3 c3 => ?_⟩
    have x3 : Xt (pureA T) H2 H3 := xt_ext eN nn T3
    have n3 := n2.xt x3
    obtain ⟨us, eu, au⟩ := caught n3 js (bs i0) hj
    have tk : TkL K f (mk c') us (bs i0) H3 := ⟨f3, by rw [hq]; exact c3, au⟩
    have i1 := x1.inv n.inv
    have i2 := x2.inv i1
    refine ⟨f, c', i0, us, eu, ⟨n3.inv, tk⟩, [.dat d1, .dat d2, .raw (.ref f)], P', hg f, ?_, fun v d H4 pd x4 a4 => q v d H4 (hp d pd) (((x1.trans x2).trans x3).trans (Xt.less tk x4)) a4⟩
    exact .cons (show At K H3 v1 d1 from ((a1.kp i1 x2.kp).kp i2 x3.kp)) (.cons (show At K H3 v2 d2 from a2.kp i2 x3.kp) (.cons rfl .nil))
/-- sorted(xs, key=lambda ..) -/
theorem el_sortKey {mk : Addr → LF} {Gk : Gd} {kf : PyData → PyData} {te : TE} {es : List PyData} {P : List PyData → Prop} (hq : ∀ c', (mk c').c = c') (h : EvL K (pureA T) te ds (fun x => x = es)) (hz : es.length ≤ 100000) (ko : KeysOk (es.map kf)) (hG : ∀ e ∈ es, Gk [.dat e] (Is (kf e))) (hp : P (sortD kf es)) :
    EvL K (pureA T) (tCKw (rSortKey K (pureA T) mk Gk kf) (tCons te tNil) (tCons (tLamO T mk) tNil)) ds P := fun H0 H σ Q n q => h H0 H σ _ n fun l xs es' H1 p1 n1 x1 hl a1 => by
  subst p1
  have i1 := x1.inv n.inv
  refine ⟨i1, fun f c' H2 eN nn T2 f2 c2 => ?_⟩
  have x2 : Xt (pureA T) H1 H2 := xt_ext eN nn T2
  refine ⟨l, f, c', xs, es', rfl, rfl, eN _ _ hl (fun _ z => nomatch z), a1.kp i1 x2.kp, hz, T2, ⟨f2, by rw [hq]; exact c2, .nil⟩, ko, hG, fun p ws H3 n3 x3 hp3 a3 => ?_⟩
  exact q p ws _ H3 hp ((x1.trans x2).fr p n3) ((x1.trans x2).trans x3) hp3 a3
end
end K87
/-! What the defs do with data: the checks. -/
namespace K87
open PySem PySem.Spec PyProof.Rows L2
/-- the function f of data -/
def gO (f : List PyData → Option PyData) : Gd := gF fun es d => f es = some d
section
variable {P : Program} {w : World} {K : PySem.W.Frag} {mg : Str → Option Value} {base : Heap} {T : List (Addr × Str)}
abbrev le {T : List (Addr × Str)} : Le (pureA T) (pureA T) := Le.refl rfl
def isI : PyData → Bool
  | .int _ => true
  | _ => false
def f_integer : List PyData → Option PyData
  | [x] => some (.bool (isI x))
  | _ => none
theorem q_is_integer (M : Hd w K mg) : Cal P w K mg base 1 "is_integer" (spD K (pureA T) (gO f_integer)) :=
  cl_is_integer M _ (by rintro as P' ⟨es, d, h, rfl, rfl⟩; match es, h with | [x], _ => rfl) (fun f cdv A' o s H E r => pr_is_integer M f cdv A' o s H E r) (by
    rintro as P' ⟨es, d, h, rfl, rfl⟩
    match es, h with
    | [x], h =>
      cases h
      cases x <;> exact rn_ret1 (ev_andV (ev_isi (ev_var rfl) rfl) fun _ => ev_notV (ev_isi (ev_var rfl) rfl)) rfl)
def f_within : List PyData → Option PyData
  | [.int i, .int a, .int b] => some (.bool (decide (a ≤ i) && decide (i ≤ b)))
  | _ => none
theorem q_is_within (M : Hd w K mg) : Cal P w K mg base 2 "is_within" (spD K (pureA T) (gO f_within)) :=
  cl_is_within M _ (by rintro as P' ⟨es, d, h, rfl, rfl⟩; match es, h with | [.int i, .int a, .int b], _ => rfl) (fun f cdv A' o s H E r => pr_is_within M (q_is_integer (T := T) M) (Nat.le_refl _) f cdv A' o s H E r) (by
    rintro as P' ⟨es, d, h, rfl, rfl⟩
    match es, h with
    | [.int i, .int a, .int b], h =>
      cases h
      refine rn_ret1 (ev_andV (a := true) (b := decide (a ≤ i) && decide (i ≤ b)) (ev_callF (es := [.int i]) le (ea_one (ev_var rfl) (ea_nil rfl)) rfl) fun _ => ?_) rfl
      refine (ev_chain (Pb := IsB (decide (a ≤ i) && decide (i ≤ b))) (a := decide (a ≤ i)) (ev_var rfl) (ev_var rfl) (fun H Q q => ⟨_, _, rfl, rfl, q⟩) (fun h => ⟨b, decide (i ≤ b), ev_var rfl, fun H Q q => ⟨_, _, rfl, rfl, q⟩, by rw [h]; rfl⟩) (fun h => by rw [h]; rfl)).imp fun d ⟨z, e, p⟩ => by rw [e, p])
def isT (n : Nat) : PyData → Bool
  | .tuple es => decide (es.length = n)
  | _ => false
def f_pair : List PyData → Option PyData
  | [x] => some (.bool (isT 2 x))
  | _ => none
def f_triple : List PyData → Option PyData
  | [x] => some (.bool (isT 3 x))
  | _ => none
theorem dec_nat {m n : Nat} : decide (V.int (m : Int) = V.int (n : Int)) = decide (m = n) := by
  rw [Bool.eq_iff_iff]
  simp
  omega
theorem q_is_pair (M : Hd w K mg) : Cal P w K mg base 1 "is_pair" (spD K (pureA T) (gO f_pair)) :=
  cl_is_pair M _ (by rintro as P' ⟨es, d, h, rfl, rfl⟩; match es, h with | [x], _ => rfl) (fun f cdv A' o s H E r => pr_is_pair M f cdv A' o s H E r) (by
    rintro as P' ⟨es, d, h, rfl, rfl⟩
    match es, h with
    | [.tuple es], h =>
      cases h
      exact rn_ret1 (ev_andV (ev_isi (ev_var rfl) rfl) fun _ => ev_eqS (ev_lenT (ev_var rfl)) ev_int rfl rfl rfl) (congrArg PyData.bool (dec_nat (n := 2)))
    | [.none], h => cases h; exact rn_ret1 (ev_andV (b := true) (ev_isi (ev_var rfl) rfl) fun z => nomatch z) rfl
    | [.bool _], h => cases h; exact rn_ret1 (ev_andV (b := true) (ev_isi (ev_var rfl) rfl) fun z => nomatch z) rfl
    | [.int _], h => cases h; exact rn_ret1 (ev_andV (b := true) (ev_isi (ev_var rfl) rfl) fun z => nomatch z) rfl
    | [.str _], h => cases h; exact rn_ret1 (ev_andV (b := true) (ev_isi (ev_var rfl) rfl) fun z => nomatch z) rfl
    | [.list _], h => cases h; exact rn_ret1 (ev_andV (b := true) (ev_isi (ev_var rfl) rfl) fun z => nomatch z) rfl
    | [.dict _], h => cases h; exact rn_ret1 (ev_andV (b := true) (ev_isi (ev_var rfl) rfl) fun z => nomatch z) rfl)
theorem q_is_triple (M : Hd w K mg) : Cal P w K mg base 1 "is_triple" (spD K (pureA T) (gO f_triple)) :=
  cl_is_triple M _ (by rintro as P' ⟨es, d, h, rfl, rfl⟩; match es, h with | [x], _ => rfl) (fun f cdv A' o s H E r => pr_is_triple M f cdv A' o s H E r) (by
    rintro as P' ⟨es, d, h, rfl, rfl⟩
    match es, h with
    | [.tuple es], h =>
      cases h
      exact rn_ret1 (ev_andV (ev_isi (ev_var rfl) rfl) fun _ => ev_eqS (ev_lenT (ev_var rfl)) ev_int rfl rfl rfl) (congrArg PyData.bool (dec_nat (n := 3)))
    | [.none], h => cases h; exact rn_ret1 (ev_andV (b := true) (ev_isi (ev_var rfl) rfl) fun z => nomatch z) rfl
    | [.bool _], h => cases h; exact rn_ret1 (ev_andV (b := true) (ev_isi (ev_var rfl) rfl) fun z => nomatch z) rfl
    | [.int _], h => cases h; exact rn_ret1 (ev_andV (b := true) (ev_isi (ev_var rfl) rfl) fun z => nomatch z) rfl
    | [.str _], h => cases h; exact rn_ret1 (ev_andV (b := true) (ev_isi (ev_var rfl) rfl) fun z => nomatch z) rfl
    | [.list _], h => cases h; exact rn_ret1 (ev_andV (b := true) (ev_isi (ev_var rfl) rfl) fun z => nomatch z) rfl
    | [.dict _], h => cases h; exact rn_ret1 (ev_andV (b := true) (ev_isi (ev_var rfl) rfl) fun z => nomatch z) rfl)
def f_door : List PyData → PyData → Prop := fun es d => ∃ c, c < 26 ∧ es = [.str (door c)] ∧ d = .bool true
theorem small_mem {c : Nat} (h : c < 26) : 97 + c ∈ c_SMALL.cps.toList := by
  have : ∀ c, c < 26 → 97 + c ∈ c_SMALL.cps.toList := by decide +kernel
  exact this c h
theorem q_is_word (M : Hd w K mg) : Cal P w K mg base 1 "is_word" (spD K (pureA T) (gF f_door)) :=
  cl_is_word M _ (by rintro as P' ⟨es, d, ⟨c, h, rfl, rfl⟩, rfl, rfl⟩; rfl) (fun f cdv A' o s H E r => pr_is_word M f cdv A' o s H E r) (by
    rintro as P' ⟨es, d, ⟨c, hc, rfl, rfl⟩, rfl, rfl⟩
    refine rn_seq (M := fun ds => ds = [.dat (.str (door c)), .emp]) (rn_if (Pb := IsB false) ?_ (fun z => nomatch z) fun _ => rn_next rfl) ?_
    · refine et_or1 (a := false) (et_not1 (a := true) (et_B (ev_isi (ev_var rfl) rfl))) fun _ => et_not1 (a := true) (et_testP (ev_chain (a := true) ev_int (ev_lenS (ev_var rfl) ?_) (fun H Q q => ⟨_, _, rfl, rfl, q⟩) (fun _ => ⟨8, true, ev_int, fun H Q q => ⟨_, _, rfl, rfl, q⟩, rfl⟩) fun z => nomatch z))
      show 1 ≤ 100000
      decide
    · rintro ds rfl
      refine rn_ret1 (ev_all (Pn := fun bs => bs = [true]) ((er_new (el_map (l := [.str (door c)]) (fun _ => .bool true) (ei_str (ev_var rfl)) ?_ rfl (by show 1 ≤ 100000; decide) (fun j hj => hj) fun d hd => ?_)).imp fun r hr => ⟨[true], hr, rfl⟩) fun ns e => ?_) rfl
      · rintro i d hi ⟨c', h1, h2⟩
        have e : i = 0 := by
          have h3 : i < 1 := hi
          omega
        subst e h2
        have e2 : c' = 97 + c := (Option.some.inj h1).symm
        subst e2
        rfl
      · rw [List.mem_singleton.mp hd]
        exact ⟨_, eg_name, (ev_inSign (ev_var rfl) ev_str).eq (congrArg PyData.bool (decide_eq_true (small_mem hc)))⟩
      · subst e
        rfl)
theorem q_is_door (M : Hd w K mg) : Cal P w K mg base 2 "is_door" (spD K (pureA T) (gF f_door)) :=
  cl_is_door M _ (by rintro as P' ⟨es, d, ⟨c, h, rfl, rfl⟩, rfl, rfl⟩; rfl) (fun f cdv A' o s H E r => pr_is_door M (q_is_word (T := T) M) (Nat.le_refl _) f cdv A' o s H E r) (by
    rintro as P' ⟨es, d, ⟨c, hc, rfl, rfl⟩, rfl, rfl⟩
    exact rn_ret1 (ev_andV (a := true) (b := true) (ev_callF (es := [.str (door c)]) le (ea_one (ev_var rfl) (ea_nil rfl)) ⟨c, hc, rfl, rfl⟩) fun _ => (ev_eqS (ev_lenS (z := door c) (ev_var rfl) (by show 1 ≤ 100000; decide)) ev_int rfl rfl rfl).eq rfl) rfl)
end
end K87
/-! What the defs do with data: plans checked. -/
namespace K87
open PySem PySem.Spec PyProof.Rows L2
section
variable {K : PySem.W.Frag} {A : Amb} {ds : List SD} {Po : Post} {te : TE} {t u : TS} {tc : TT}
theorem rn_skip (h : EvT K A tc ds (IsB false)) (k : Rn K A u ds Po) : Rn K A (tSeq (tIfS tc t tNext) u) ds Po := rn_ifS h (fun z => nomatch z) fun _ => rn_nextS k
theorem rn_left (h : EvT K A tc ds (IsB true)) (k : Rn K A (tRet te) ds { Po with nx := fun _ => False }) : Rn K A (tSeq (tIfS tc (tRet te) t) u) ds Po := rn_ifS h (fun _ => rn_retS k) fun z => nomatch z
/-- a branch that leaves the def -/
theorem rn_take {t2 : TS} (h : EvT K A tc ds (IsB true)) (k : Rn K A t ds { Po with nx := fun _ => False }) : Rn K A (tSeq (tIfS tc t t2) u) ds Po := rn_ifS h (fun _ => rn_seq (M := fun _ => False) k fun _ z => z.elim) fun z => nomatch z
theorem et_str {x y : Str} {b : Bool} (h : Ev K A te ds (Is (.str x))) (e : decide (x = y) = b) : EvT K A (tTest (tOp rEq te (tC (.str y)))) ds (IsB b) :=
  (et_test (ev_eqS h ev_str rfl rfl rfl)).to (by
    show decide (V.str x = V.str y) = b
    rw [← e, Bool.eq_iff_iff]
    simp)
theorem et_strB {x y : Str} {b : Bool} (h : Ev K A te ds (Is (.str x))) (e : decide (x = y) = b) : Ev K A (tOp rEq te (tC (.str y))) ds (Is (.bool b)) :=
  (ev_eqS h ev_str rfl rfl rfl).eq (congrArg PyData.bool (by
    show decide (V.str x = V.str y) = b
    rw [← e, Bool.eq_iff_iff]
    simp))
theorem et_len {es : List PyData} (n : Nat) {b : Bool} (h : Ev K A te ds (Is (.tuple es))) (e : decide (es.length = n) = b) : EvT K A (tTest (tOp rEq (tCB (rLenSeq K) (tCons te tNil)) (tC (.int (n : Int))))) ds (IsB b) :=
  (et_test (ev_eqS (ev_lenT h) ev_int rfl rfl rfl)).to (dec_nat.trans e)
/-- t[i], i a number of the text -/
theorem ev_at {es : List PyData} {i : Int} {d : PyData} (h : Ev K A te ds (Is (.tuple es))) (e : atI es i = some d) : Ev K A (tOp (rIxT K) te (tC (.int i))) ds (Is d) := ev_ixT h ev_int e
end
section
variable {P : Program} {w : World} {K : PySem.W.Frag} {mg : Str → Option Value} {base : Heap} {T : List (Addr × Str)} {x : Str} {st : Stmt} {A : Amb}
/-- the def promises nothing yet -/
theorem cal_void {N ps : List Str} (D : Dfn K mg x st) (S : FnScope N ps (defScope st)) (hb : ∀ (dV kV doc pm : Value) (an : Option Addr) (cdv ct : Value) (us : List Value), dV = .none → us.length = ps.length → bindArgs (PySem.W.fnOf x x (defArgs st) (defBody st) (defScope st) .none kV doc pm an cdv ct) ⟨us, []⟩ = pure (ps.zip us)) (k : Nat) : Cal P w K mg base k x (spD K A fun _ _ => False) := by
  obtain ⟨f, fd, h1, F⟩ := D
  refine ⟨f, fd, ps, h1, F.kp, F.bindsN fun kV doc pm an cdv ct us h => hb .none kV doc pm an cdv ct us rfl h, ?_⟩
  exact ⟨fun vs H Q E h => by obtain ⟨_, _, _, z, _⟩ := h; exact z.elim, fun A' outer s H args us vs Q E _ _ _ _ h => by obtain ⟨_, _, _, z, _⟩ := h; exact z.elim⟩
def f_part (n : Nat) : List PyData → PyData → Prop := fun es d => ∃ (x : Part) (k : Nat), x.ok k ∧ x.dp ≤ n ∧ es = [x.enc, .int (k : Int)] ∧ d = .bool true
def f_plan_in (n : Nat) : List PyData → PyData → Prop := fun es d => ∃ (p : Pl) (k : Nat), (∀ x ∈ p, x.ok k) ∧ dpL p ≤ n ∧ es = [plan p, .int (k : Int)] ∧ d = .bool true
/-- the depths below n -/
def f_plan_lt (n : Nat) : List PyData → PyData → Prop := fun es d => ∃ (p : Pl) (k : Nat), (∀ x ∈ p, x.ok k) ∧ dpL p < n ∧ es = [plan p, .int (k : Int)] ∧ d = .bool true
theorem i_is_part (M : Hd w K mg) {n j : Nat} (hj : 2 ≤ j) (c : Cal P w K mg base j "is_plan_in" (spD K (pureA T) (gF (f_plan_lt n)))) : Cal P w K mg base (j + 1) "is_part" (spD K (pureA T) (gF (f_part n))) :=
  cl_is_part M _ (by rintro as P' ⟨es, d, ⟨x, k, _, _, rfl, rfl⟩, rfl, rfl⟩; rfl) (fun f cdv A' o s H E r => pr_is_part M (q_is_pair (T := T) M) (by omega) (q_is_word (T := T) M) (by omega) (q_is_integer (T := T) M) (by omega) (q_is_within (T := T) M) hj (q_is_triple (T := T) M) (by omega) (q_is_door (T := T) M) hj c (Nat.le_refl _) f cdv A' o s H E r) (by
    rintro as P' ⟨es, d, ⟨x, k, ok, dp, rfl, rfl⟩, rfl, rfl⟩
    cases x with
    | name w => exact (ok_name ok).elim
    | got e =>
      rw [enc_got]
      have he := ok_got.mp ok
      refine rn_take (et_B (ev_callF (es := [.tuple [.str "got", .int (e : Int)]]) le (ea_one (ev_var rfl) (ea_nil rfl)) rfl)) ?_
      refine rn_skip (et_str (ev_at (ev_var rfl) rfl) (by decide)) (rn_skip (et_str (ev_at (ev_var rfl) rfl) (by decide)) (rn_ret1 ?_ rfl))
      refine ev_andV (a := true) (b := true) (et_strB (ev_at (ev_var rfl) rfl) (by decide)) fun _ => (ev_callF (es := [.int (e : Int), .int 0, .int ((k : Int) - 1)]) le (ea_one (ev_at (ev_var rfl) rfl) (ea_one ev_int (ea_one (ev_opI (ev_var rfl) ev_int fun _ => .int _) (ea_nil rfl)))) rfl).eq ?_
      refine congrArg PyData.bool ?_
      rw [decide_eq_true (show (0 : Int) ≤ e by omega), decide_eq_true (show (e : Int) ≤ (k : Int) - 1 by omega)]
      rfl
    | node kk c p =>
      rw [enc_node]
      obtain ⟨hc, op, _⟩ := ok_node.mp ok
      have hd : dpL p < n := by rw [dp_node] at dp; omega
      refine rn_skip (et_B (ev_callF (es := [.tuple [.str (kw kk), .str (door c), plan p]]) le (ea_one (ev_var rfl) (ea_nil rfl)) rfl)) ?_
      refine rn_skip (et_or1 (a := false) (b := false) (et_not1 (a := true) (et_B (ev_callF (es := [.tuple [.str (kw kk), .str (door c), plan p]]) le (ea_one (ev_var rfl) (ea_nil rfl)) rfl))) fun _ => et_or1 (a := false) (b := false) (et_test ?_) fun _ => et_not1 (a := true) (et_B (ev_callF (es := [.str (door c)]) le (ea_one (ev_at (ev_var rfl) rfl) (ea_nil rfl)) ⟨c, hc, rfl, rfl⟩))) (rn_ret1 ?_ rfl)
      · refine (ev_inT (neg := true) (es := [.str "letter", .str "wait"]) (ev_at (ev_var rfl) rfl) (ev_tup1 (ed_one ev_str (ed_one ev_str (ed_nil rfl))) (by show 2 ≤ 100000; decide)) rfl rfl).eq (congrArg PyData.bool ?_)
        cases kk <;> decide
      · cases kk with
        | true => exact ev_callF (es := [plan p, .int ((k + 1 : Nat) : Int)]) le (ea_one (ev_at (ev_var rfl) rfl) (ea_one (ev_if (Pt := IsB true) (et_str (ev_at (ev_var rfl) rfl) (by decide)) (fun _ => ev_opI (ev_var rfl) ev_int fun _ => .int _) fun z => nomatch z) (ea_nil rfl))) ⟨p, k + 1, op.1, hd, rfl, rfl⟩
        | false => exact ev_callF (es := [plan p, .int (k : Int)]) le (ea_one (ev_at (ev_var rfl) rfl) (ea_one (ev_if (Pt := IsB false) (et_str (ev_at (ev_var rfl) rfl) (by decide)) (fun z => nomatch z) fun _ => ev_var rfl) (ea_nil rfl))) ⟨p, k, op.1, hd, rfl, rfl⟩)
theorem i_is_plan_in (M : Hd w K mg) {n j : Nat} (hj : 1 ≤ j) (c : Cal P w K mg base j "is_part" (spD K (pureA T) (gF (f_part n)))) : Cal P w K mg base (j + 1) "is_plan_in" (spD K (pureA T) (gF (f_plan_in n))) :=
  cl_is_plan_in M _ (by rintro as P' ⟨es, d, ⟨p, k, _, _, rfl, rfl⟩, rfl, rfl⟩; rfl) (fun f cdv A' o s H E r => pr_is_plan_in M (q_is_pair (T := T) M) (by omega) (q_is_integer (T := T) M) (by omega) c (Nat.le_refl _) f cdv A' o s H E r) (by
    rintro as P' ⟨es, d, ⟨p, k, ok, dp, rfl, rfl⟩, rfl, rfl⟩
    refine rn_skip (et_not1 (a := true) (et_B (ev_isi (ev_var rfl) rfl))) ?_
    refine rn_forS (fun i ds => ∃ z, ds = [.dat (plan p), .dat (.int (k : Int)), z]) (ei_tup (l := encL p) (ev_var rfl)) ⟨.emp, rfl⟩ ?_ fun ds ⟨z, e⟩ => by subst e; exact rn_ret1 ev_bl rfl
    rintro i ds d hi ⟨z, rfl⟩ hd
    rw [encL_get] at hd
    cases hx : p[i]? with
    | none => rw [hx] at hd; cases hd
    | some x =>
      rw [hx] at hd
      cases hd
      have hm := List.mem_of_getElem? hx
      refine ⟨_, _, eg_name, rn_if (Pb := IsB false) ?_ (fun z => nomatch z) fun _ => rn_next ⟨_, rfl⟩⟩
      refine et_or1 (a := false) (b := false) (et_not1 (a := true) (et_B (ev_callF (es := [itm x]) le (ea_one (ev_var rfl) (ea_nil rfl)) rfl))) fun _ => et_or1 (a := false) (b := false) (et_not1 (a := true) (et_B (ev_callF (es := [.int 1]) le (ea_one (ev_at (es := [.int 1, x.enc]) (ev_var rfl) rfl) (ea_nil rfl)) rfl))) fun _ =>
        et_or1 (a := false) (b := false) (et_test (ev_opI (ev_at (es := [.int 1, x.enc]) (ev_var rfl) rfl) ev_int fun _ => .bl _)) fun _ => et_not1 (a := true) (et_B (ev_callF (es := [x.enc, .int (k : Int)]) le (ea_one (ev_at (es := [.int 1, x.enc]) (ev_var rfl) rfl) (ea_one (ev_var rfl) (ea_nil rfl))) ⟨x, k, ok x hm, dpL_le.mp dp x hm, rfl, rfl⟩)))
theorem Cal.imp {k : Nat} {G G' : Gd} (c : Cal P w K mg base k x (spD K A G)) (h : ∀ as P', G' as P' → G as P') : Cal P w K mg base k x (spD K A G') := by
  obtain ⟨f, fd, ps, h1, h2, h3, h4⟩ := c
  exact ⟨f, fd, ps, h1, h2, h3, h4.imp fun vs H Q E ⟨i, as, P', g, z⟩ => ⟨i, as, P', h as P' g, z⟩⟩
theorem q_plan_in (M : Hd w K mg) : ∀ n, Cal P w K mg base (2 * n + 4) "is_plan_in" (spD K (pureA T) (gF (f_plan_in n)))
  | 0 => i_is_plan_in M (by omega) (i_is_part M (n := 0) (j := 2) (by omega) ((cal_void M.d_is_plan_in sc_is_plan_in (fun _ _ _ _ _ _ _ us _ hl => match us, hl with | [_, _], _ => rfl) 2).imp fun as P' ⟨es, d, ⟨p, k, _, z, _⟩, _⟩ => absurd z (Nat.not_lt_zero _)))
  | n + 1 => i_is_plan_in M (by omega) (i_is_part M (n := n + 1) (j := 2 * n + 4) (by omega) ((q_plan_in M n).imp fun as P' ⟨es, d, ⟨p, k, h1, z, h2⟩, h3⟩ => ⟨es, d, ⟨p, k, h1, by omega, h2⟩, h3⟩))
def f_check_plan (n : Nat) : List PyData → PyData → Prop := fun es d => ∃ (p : Pl), okL 0 p ∧ dpL p ≤ n ∧ es = [plan p] ∧ d = .none
theorem q_check_plan (M : Hd w K mg) (n : Nat) : Cal P w K mg base (2 * n + 5) "check_plan" (spD K (pureA T) (gF (f_check_plan n))) :=
  cl_check_plan M _ (by rintro as P' ⟨es, d, ⟨p, _, _, rfl, rfl⟩, rfl, rfl⟩; rfl) (fun f cdv A' o s H E r => pr_check_plan M (q_plan_in (T := T) M n) (Nat.le_refl _) f cdv A' o s H E r) (by
    rintro as P' ⟨es, d, ⟨p, ok, dp, rfl, rfl⟩, rfl, rfl⟩
    exact rn_if (Pb := IsB false) (et_not1 (a := true) (et_B (ev_callF (es := [plan p, .int ((0 : Nat) : Int)]) le (ea_one (ev_var rfl) (ea_one ev_int (ea_nil rfl))) ⟨p, 0, ok.1, dp, rfl, rfl⟩))) (fun z => nomatch z) fun _ => rn_next rfl)
def f_count : List PyData → PyData → Prop := fun es d => ∃ i a b : Int, a ≤ i ∧ i ≤ b ∧ es = [.int i, .int a, .int b] ∧ d = .none
theorem q_check_count (M : Hd w K mg) : Cal P w K mg base 3 "check_count" (spD K (pureA T) (gF f_count)) :=
  cl_check_count M _ (by rintro as P' ⟨es, d, ⟨i, a, b, _, _, rfl, rfl⟩, rfl, rfl⟩; rfl) (fun f cdv A' o s H E r => pr_check_count M (q_is_within (T := T) M) (Nat.le_refl _) f cdv A' o s H E r) (by
    rintro as P' ⟨es, d, ⟨i, a, b, h1, h2, rfl, rfl⟩, rfl, rfl⟩
    refine rn_if (Pb := IsB false) (et_not1 (a := true) ((et_B (ev_callF (es := [.int i, .int a, .int b]) le (ea_one (ev_var rfl) (ea_one (ev_var rfl) (ea_one (ev_var rfl) (ea_nil rfl)))) rfl)).to ?_)) (fun z => nomatch z) fun _ => rn_next rfl
    rw [decide_eq_true h1, decide_eq_true h2]
    rfl)
end
end K87
/-! What the defs do with data: keys, the sort, counts. -/
namespace K87
open PySem PySem.Spec PyProof.Rows L2
section
variable {K : PySem.W.Frag} {A : Amb} {ds : List SD} {te : TE} {P : PyData → Prop}
theorem el_mapR {wi : TI} {g : TG} {ws js : List Nat} {l rs : List PyData} {m : Nat} {Y : Nat → PyData → Prop} (h : EvI K A wi ds m Y) (hY : ∀ (i : Nat) (d : PyData), i < m → Y i d → l[i]? = some d) (hm : l.length = m) (hr : rs.length = m) (hz : m ≤ 100000) (hj : ∀ j ∈ js, j ∈ ws)
    (hs : ∀ (i : Nat) (d e : PyData), l[i]? = some d → rs[i]? = some e → ∃ fs, EvG K A g js d (wipeD ds ws) fs ∧ Ev K A te fs (Is e)) : EvL K A (tLc wi g tYes te ws) ds (fun r => r = rs) :=
  el_lc (fun i acc => acc = rs.take i) h rfl (fun i acc hi e => by rw [e, List.length_take]; omega) (fun i acc d hi e yd => by
    have hd := hY i d hi yd
    obtain ⟨y, hy⟩ : ∃ y, rs[i]? = some y := ⟨_, List.getElem?_eq_getElem (by omega)⟩
    obtain ⟨fs, eg, ev⟩ := hs i d y hd hy
    refine ⟨js, fs, IsB true, eg, hj, fun H0 H σ Q n q => q true H rfl (Xt.refl H), fun _ => ev.imp fun z hz => ?_, fun z => nomatch z⟩
    subst e hz
    rw [List.take_add_one, hy]
    rfl) fun acc e => by rw [e, ← hr, List.take_length]
theorem eg_item {i j : Nat} {x : Part} : EvG K A (gTup K 2 (gCons (gName i) (gCons (gName j) gNil))) [i, j] (itm x) ds ((ds.set i (.dat (.int 1))).set j (.dat x.enc)) := eg_tup (egs_cons eg_name (egs_cons eg_name egs_nil)) rfl
theorem eg_pair {i j : Nat} {a b : PyData} : EvG K A (gTup K 2 (gCons (gName i) (gCons (gName j) gNil))) [i, j] (.tuple [a, b]) ds ((ds.set i (.dat a)).set j (.dat b)) := eg_tup (egs_cons eg_name (egs_cons eg_name egs_nil)) rfl
/-- over a plan's items -/
theorem ei_plan {p : Pl} (h : Ev K A te ds (Is (plan p))) : EvI K A (iTup K te) ds p.length (fun i d => ∃ x, p[i]? = some x ∧ d = itm x) := by
  have z := ei_tup (l := encL p) h
  rw [encL_length] at z
  intro H0 H σ R n q
  refine z H0 H σ R n fun J H' G YV x w hG hY => q J H' G YV x w hG fun i H1 y H2 hi i1 k yv => ?_
  obtain ⟨x2, d, yd, ad⟩ := hY i H1 y H2 hi i1 k yv
  refine ⟨x2, d, ?_, ad⟩
  rw [encL_get] at yd
  cases hx : p[i]? with
  | none => rw [hx] at yd; cases yd
  | some x => rw [hx] at yd; exact ⟨x, rfl, (Option.some.inj yd).symm⟩
theorem ev_ixL {i : Int} {es : List PyData} {d : PyData} {tb : TE} (h : EvR K A te ds (fun x => x = es)) (hi : Ev K A tb ds (Is (.int i))) (e : atI es i = some d) : Ev K A (tOp (rIxL K) te tb) ds (Is d) := fun H0 H σ Q n q =>
  h H0 H σ _ n fun a vs es' H1 p1 x1 nt r a1 => hi H0 H1 σ _ (n.xt x1) fun y c H2 p2 x2 a2 => by
    subst p1 p2
    cases a2
    have a3 := a1.kp (x1.inv n.inv) x2.kp
    obtain ⟨j, h1, h2, h3, h4, h5⟩ := atI_get e
    obtain ⟨v, hv, av⟩ := a3.get h2
    refine ⟨a, vs, i, v, rfl, rfl, .inl (rdl_kp x2.kp nt r), ?_, q v d H2 rfl (x1.trans x2) av⟩
    have hl := a3.length
    unfold atI at e ⊢
    rw [hl]
    cases hx : ixN es'.length i with
    | none => rw [hx] at e; cases e
    | some k =>
      rw [hx] at e
      obtain ⟨k1, k2, _, _⟩ := ixN_seq hx
      rw [h1] at k1
      cases k1
      exact hv
theorem at_one {α : Type} (a b : α) (r : List α) : atI (a :: b :: r) 1 = some b := by
  have e : ixN (a :: b :: r).length 1 = some 1 := by
    unfold ixN
    rw [if_pos (by decide), if_pos (by rw [List.length_cons, List.length_cons]; omega)]
    rfl
  unfold atI
  rw [e]
  rfl
theorem at_zero {α : Type} (a : α) (r : List α) : atI (a :: r) 0 = some a := by
  have e : ixN (a :: r).length 0 = some 0 := by
    unfold ixN
    rw [if_pos (by decide), if_pos (by rw [List.length_cons]; omega)]
    rfl
  unfold atI
  rw [e]
  rfl
theorem ev_neg {i : Int} (h : Ev K A te ds (Is (.int i))) : Ev K A (tUn (rU fun i => .int (-i)) te) ds (Is (.int (-i))) := fun H0 H σ Q n q => h H0 H σ _ n fun v d H1 p x a => by
  subst p
  cases a
  exact ⟨i, rfl, q _ _ H1 rfl x (.int _)⟩
theorem cmul_one {i : Int} : CMul 1 i := .inl (by decide)
end
section
variable {P : Program} {w : World} {K : PySem.W.Frag} {mg : Str → Option Value} {base : Heap} {T : List (Addr × Str)}
theorem size_sum (p : Pl) : (p.map fun y => (y.size : Int)).sum = (sizeL p : Int) := by
  induction p with
  | nil => rw [sizeL]; rfl
  | cons x r ih => rw [List.map_cons, List.sum_cons, ih, sizeL]; omega
def f_part_key (n : Nat) : List PyData → PyData → Prop := fun es d => ∃ x : Part, x.dp ≤ n ∧ x.cnt ≤ 1000 ∧ es = [x.enc] ∧ d = x.key
def f_plan_key (n : Nat) : List PyData → PyData → Prop := fun es d => ∃ p : Pl, dpL p ≤ n ∧ cntL p ≤ 1000 ∧ es = [plan p] ∧ d = .tuple (keyL p)
def f_plan_key_lt (n : Nat) : List PyData → PyData → Prop := fun es d => ∃ p : Pl, dpL p < n ∧ cntL p ≤ 1000 ∧ es = [plan p] ∧ d = .tuple (keyL p)
theorem cnt_pos (x : Part) : 1 ≤ x.cnt := by cases x <;> simp [Part.cnt]
theorem len_cnt (p : Pl) : p.length ≤ cntL p := by
  induction p with
  | nil => simp
  | cons x r ih => rw [cntL_cons, List.length_cons]; have := cnt_pos x; omega
theorem cnt_mem {p : Pl} {x : Part} (h : x ∈ p) : x.cnt ≤ cntL p := by
  induction p with
  | nil => cases h
  | cons y r ih =>
    rw [cntL_cons]
    rcases List.mem_cons.mp h with z | z
    · rw [z]; omega
    · have := ih z; omega
theorem keyL_length (p : Pl) : (keyL p).length = p.length := by rw [keyL_map, List.length_map]
/-- behind the inner key: the rest of part_key -/
theorem key_rest {p : Pl} (x : Part) {th : PyData} {word : Str} {more : List PyData} (hp : p.length ≤ 1000) (hk : x.key = .tuple [.int (1 + (sizeL p : Int)), .int x.rank, th, .tuple (keyL p)]) (he : x.enc = .tuple (.str word :: th :: more)) (hr : (word, x.rank) ∈ v_RANKS) :
    Rn K (pureA T) (tSeq (tAsg (tOp (rI0 fun i j => .int (i + j)) (tC (.int 1)) (tCB (rSum K) (tCons (tLc (iTup K (tVar 1)) (gTup K 2 (gCons (gName 3) (gCons (gName 4) gNil))) tYes (tOp (rI CMul fun i j => .int (i * j)) (tVar 4) (tOp (rIxT K) (tVar 3) (tC (.int 0)))) [3, 4]) tNil))) (gName 2))
      (tRet (tTup (tCons (tVar 2) (tCons (tDk v_RANKS (tOp (rIxT K) (tVar 0) (tC (.int 0)))) (tCons (tOp (rIxT K) (tVar 0) (tC (.int 1))) (tCons (tVar 1) tNil))))))) [.dat x.enc, .dat (.tuple (keyL p)), .emp, .emp, .emp] (retD (Is x.key)) := by
  refine rn_asg1 (d := .int (1 + (sizeL p : Int))) (ev_opI ev_int (ev_sum (Pn := fun ns => ns = p.map fun y => (y.size : Int)) ((er_new (el_mapR (js := [3, 4]) (l := keyL p) (rs := (p.map fun y => (y.size : Int)).map .int) (ei_tup (l := keyL p) (ev_var rfl)) (fun i d _ h => h) rfl (by rw [List.length_map, List.length_map, keyL_length]) (by rw [keyL_length]; omega) (fun j hj => hj) fun i d e hd he => ?_)).imp fun r hr => ⟨_, hr, rfl⟩) fun ns e => (by rw [e, size_sum])) fun _ => .int _) ?_
  · rw [keyL_map, List.getElem?_map] at hd
    rw [List.getElem?_map, List.getElem?_map] at he
    cases hx : p[i]? with
    | none => rw [hx] at hd; cases hd
    | some y =>
      rw [hx] at hd he
      cases hd
      cases he
      obtain ⟨j, ek⟩ := key_form y
      unfold kitm
      refine ⟨_, eg_pair, (ev_opC (ev_var rfl) (ev_at (es := [.int (y.size : Int), .int y.rank, y.third, j]) (ev_var (by rw [ek]; rfl)) rfl) cmul_one fun _ => .int _).eq ?_⟩
      rw [Int.one_mul]
  · rw [hk, he]
    exact rn_ret1 (ev_tup1 (ed_one (ev_var rfl) (ed_one (ev_dk (ev_at (ev_var rfl) (at_zero _ _)) hr) (ed_one (ev_at (ev_var rfl) (at_one _ _ _)) (ed_one (ev_var rfl) (ed_nil rfl))))) (by show 4 ≤ 100000; decide)) rfl
theorem i_part_key (M : Hd w K mg) {n j : Nat} (c : Cal P w K mg base j "plan_key" (spD K (pureA T) (gF (f_plan_key_lt n)))) : Cal P w K mg base (j + 1) "part_key" (spD K (pureA T) (gF (f_part_key n))) :=
  cl_part_key M _ (by rintro as P' ⟨es, d, ⟨x, _, _, rfl, rfl⟩, rfl, rfl⟩; rfl) (fun f cdv A' o s H E r => pr_part_key M c (Nat.le_refl _) f cdv A' o s H E r) (by
    rintro as P' ⟨es, d, ⟨x, dp, cn, rfl, rfl⟩, rfl, rfl⟩
    cases x with
    | name w =>
      have q := key_rest (K := K) (T := T) (p := []) (.name w) (th := .str w) (word := "name") (more := []) (by simp) (by rw [Part.key, sizeL, keyL_nil]; rfl) (enc_name w) (by show (_, (0 : Int)) ∈ _; unfold v_RANKS; simp)
      rw [enc_name] at q ⊢
      refine rn_asg1 (ev_if (Pt := IsB false) (et_len 3 (ev_var rfl) rfl) (fun z => nomatch z) fun _ => ev_tup1 (ed_nil rfl) (by show 0 ≤ 100000; decide)) ?_
      rw [keyL_nil] at q
      exact q
    | got w =>
      have q := key_rest (K := K) (T := T) (p := []) (.got w) (th := .int w) (word := "got") (more := []) (by simp) (by rw [Part.key, sizeL, keyL_nil]; rfl) (enc_got w) (by show (_, (2 : Int)) ∈ _; unfold v_RANKS; simp)
      rw [enc_got] at q ⊢
      refine rn_asg1 (ev_if (Pt := IsB false) (et_len 3 (ev_var rfl) rfl) (fun z => nomatch z) fun _ => ev_tup1 (ed_nil rfl) (by show 0 ≤ 100000; decide)) ?_
      rw [keyL_nil] at q
      exact q
    | node k cc p =>
      have hd : dpL p < n := by rw [dp_node] at dp; omega
      have hc : cntL p ≤ 1000 := by rw [cnt_node] at cn; omega
      have hl := len_cnt p
      have q := key_rest (K := K) (T := T) (p := p) (.node k cc p) (th := .str (door cc)) (word := kw k) (more := [plan p]) (by omega) (by rw [Part.key]; simp only [Part.rank]; rfl) (enc_node k cc p) (by cases k <;> (unfold v_RANKS; simp [Part.rank, kw]))
      rw [enc_node] at q ⊢
      exact rn_asg1 (ev_if (Pt := IsB true) (et_len 3 (ev_var rfl) rfl) (fun _ => ev_callF (es := [plan p]) le (ea_one (ev_at (ev_var rfl) rfl) (ea_nil rfl)) ⟨p, hd, hc, rfl, rfl⟩) fun z => nomatch z) q)
theorem i_plan_key (M : Hd w K mg) {n j : Nat} (c : Cal P w K mg base j "part_key" (spD K (pureA T) (gF (f_part_key n)))) : Cal P w K mg base (j + 1) "plan_key" (spD K (pureA T) (gF (f_plan_key n))) :=
  cl_plan_key M _ (by rintro as P' ⟨es, d, ⟨x, _, _, rfl, rfl⟩, rfl, rfl⟩; rfl) (fun f cdv A' o s H E r => pr_plan_key M c (Nat.le_refl _) f cdv A' o s H E r) (by
    rintro as P' ⟨es, d, ⟨p, dp, cn, rfl, rfl⟩, rfl, rfl⟩
    have hl := len_cnt p
    refine rn_ret1 (ev_tupL (Pl := fun r => r = keyL p) (er_new (el_mapR (js := [1, 2]) (l := encL p) (rs := keyL p) (ei_tup (l := encL p) (ev_var rfl)) (fun i d _ h => h) rfl (by rw [keyL_length, encL_length]) (by rw [encL_length]; omega) (fun j hj => hj) fun i d e hd he => ?_)) fun es h => by rw [h]) rfl
    rw [encL_get] at hd
    rw [keyL_map, List.getElem?_map] at he
    cases hx : p[i]? with
    | none => rw [hx] at hd; cases hd
    | some y =>
      rw [hx] at hd he
      cases hd
      cases he
      have hm := List.mem_of_getElem? hx
      exact ⟨_, eg_item, ev_tup1 (ed_one (ev_callF (es := [y.enc]) le (ea_one (ev_var rfl) (ea_nil rfl)) ⟨y, dpL_le.mp dp y hm, Nat.le_trans (cnt_mem hm) cn, rfl, rfl⟩) (ed_one (ev_var rfl) (ed_nil rfl))) (by show 2 ≤ 100000; decide)⟩)
theorem q_plan_key (M : Hd w K mg) : ∀ n, Cal P w K mg base (2 * n + 2) "plan_key" (spD K (pureA T) (gF (f_plan_key n)))
  | 0 => i_plan_key M (i_part_key M (n := 0) (j := 0) ((cal_void M.d_plan_key sc_plan_key (fun _ _ _ _ _ _ _ us _ hl => match us, hl with | [_], _ => rfl) 0).imp fun as P' ⟨es, d, ⟨p, z, _⟩, _⟩ => absurd z (Nat.not_lt_zero _)))
  | n + 1 => i_plan_key M (i_part_key M (n := n + 1) (j := 2 * n + 2) ((q_plan_key M n).imp fun as P' ⟨es, d, ⟨p, z, h2⟩, h3⟩ => ⟨es, d, ⟨p, by omega, h2⟩, h3⟩))
theorem q_part_key (M : Hd w K mg) : ∀ n, Cal P w K mg base (2 * n + 1) "part_key" (spD K (pureA T) (gF (f_part_key n)))
  | 0 => i_part_key M (n := 0) (j := 0) ((cal_void M.d_plan_key sc_plan_key (fun _ _ _ _ _ _ _ us _ hl => match us, hl with | [_], _ => rfl) 0).imp fun as P' ⟨es, d, ⟨p, z, _⟩, _⟩ => absurd z (Nat.not_lt_zero _))
  | n + 1 => i_part_key M (n := n + 1) (j := 2 * n + 2) ((q_plan_key M n).imp fun as P' ⟨es, d, ⟨p, z, h2⟩, h3⟩ => ⟨es, d, ⟨p, by omega, h2⟩, h3⟩)
end
end K87
/-! What the defs do with data: the sort, counts. -/
namespace K87
open PySem PySem.Spec PyProof.Rows L2 NdefX LamX
section
variable {K : PySem.W.Frag} {A : Amb} {ds : List SD} {te ta tb : TE} {P : PyData → Prop}
theorem ev_lenLP {Pl : List PyData → Prop} (ha : EvR K A ta ds Pl) (hp : ∀ es, Pl es → P (.int es.length)) : Ev K A (tCB (fun xs H Q => ∃ p ys, xs = [.ref p] ∧ (SqL K H p ys ∨ SqT K H p ys) ∧ Q (.int ys.length) H) (tCons ta tNil)) ds P := fun H0 H σ Q n q => ha H0 H σ _ n fun a vs es H1 p x nt r hall =>
  ⟨a, vs, rfl, .inl (.inl r), by rw [hall.length]; exact q _ _ H1 (hp es p) x (.int _)⟩
/-- two operands, whole numbers that are not told -/
theorem ev_opP {g : Int → Int → V} {f : Int → Int → PyData} {Pa Pb : Int → Prop} (ha : Ev K A ta ds (fun d => ∃ i, d = .int i ∧ Pa i)) (hb : Ev K A tb ds (fun d => ∃ i, d = .int i ∧ Pb i)) (hc : ∀ i j H, At K H (g i j) (f i j)) (hp : ∀ i j, Pa i → Pb j → P (f i j)) : Ev K A (tOp (rI0 g) ta tb) ds P :=
  ev_two ha (fun _ _ => hb) fun d e H0 H σ x y Q p1 p2 n a b q => by
    obtain ⟨i, rfl, pi⟩ := p1
    obtain ⟨j, rfl, pj⟩ := p2
    cases a
    cases b
    exact ⟨i, j, rfl, rfl, q _ _ H (hp i j pi pj) (Xt.refl H) (hc i j H)⟩
theorem ev_opPC {g : Int → Int → V} {f : Int → Int → PyData} {C : Int → Int → Prop} {Pa Pb : Int → Prop} (ha : Ev K A ta ds (fun d => ∃ i, d = .int i ∧ Pa i)) (hb : Ev K A tb ds (fun d => ∃ i, d = .int i ∧ Pb i)) (hC : ∀ i j, Pa i → Pb j → C i j) (hc : ∀ i j H, At K H (g i j) (f i j)) (hp : ∀ i j, Pa i → Pb j → P (f i j)) : Ev K A (tOp (rI C g) ta tb) ds P :=
  ev_two ha (fun _ _ => hb) fun d e H0 H σ x y Q p1 p2 n a b q => by
    obtain ⟨i, rfl, pi⟩ := p1
    obtain ⟨j, rfl, pj⟩ := p2
    cases a
    cases b
    exact ⟨i, j, rfl, rfl, hC i j pi pj, q _ _ H (hp i j pi pj) (Xt.refl H) (hc i j H)⟩
theorem ev_intP {i : Int} {Pa : Int → Prop} (h : Ev K A te ds (Is (.int i))) (p : Pa i) : Ev K A te ds (fun d => ∃ i, d = .int i ∧ Pa i) := h.to ⟨i, rfl, p⟩
theorem rn_augP {i : Nat} {f : Int → Int → Int} {a : Int} {Pb : Int → Prop} {Po : Post} (hx : ds[i]? = some (.dat (.int a))) (h : Ev K A te ds (fun d => ∃ j, d = .int j ∧ Pb j)) (k : ∀ b, Pb b → Po.nx (ds.set i (.dat (.int (f a b))))) : Rn K A (tAug i te (ipI f)) ds Po := fun H0 H σ D n c _ _ _ => by
  obtain ⟨v, e, z⟩ := n.slot i _ hx
  cases z
  exact ⟨_, e, h H0 H σ _ n fun y d H1 p x w => by
    obtain ⟨b, rfl, pb⟩ := p
    cases w
    exact ⟨a, b, rfl, rfl, c _ _ H1 (k b pb) ((n.xt x).set i ⟨_, rfl, .int _⟩) (Go.set x fun ls e => nomatch e)⟩⟩
theorem at_last {α : Type} {l : List α} (h : 0 < l.length) : atI l (-1) = l[l.length - 1]? := by
  have e : ixN l.length (-1) = some (l.length - 1) := by
    unfold ixN
    rw [if_neg (by decide), if_pos (by omega)]
    congr 1
    omega
  unfold atI
  rw [e]
  rfl
end
section
variable {P : Program} {w : World} {K : PySem.W.Frag} {mg : Str → Option Value} {base : Heap} {T : List (Addr × Str)}
/-! ### sorted_items -/
def f_key_lam (n : Nat) : List PyData → PyData → Prop := fun es d => ∃ x : Part, x.dp ≤ n ∧ x.cnt ≤ 1000 ∧ es = [itm x] ∧ d = kfD (itm x)
theorem a_key (M : Hd w K mg) (n : Nat) (cells : List (Str × Addr)) (f c' : Addr) (h0 : Heap) : Actn P w K mg base (2 * n + 2) f (fun c => ∃ y, (lf_key (cl_of_sorted cells) c').cl.lookup y = some c) h0 (TkL K f (lf_key (cl_of_sorted cells) c') [] []) (spD K (pureA T) (gF (f_key_lam n))) :=
  act_lam (N := ["item"]) (ps := ["item"]) (fr := []) (H0 := fun _ => none) (nscope_by (sc := lamC l_key) (by decide +kernel)) (fun _ _ us hl => match us, hl with | [_], _ => rfl) ⟨rfl, fun y c e => (by have e : ([] : List (Str × Addr)).lookup y = some c := e; cases e), fun x y c e => (by have e : ([] : List (Str × Addr)).lookup x = some c := e; cases e), fun i y e => by simp at e⟩ _ (by rintro as P' ⟨es, d, ⟨x, _, _, rfl, rfl⟩, rfl, rfl⟩; rfl)
    (fun A' o s H E r => pr_key M (q_part_key (T := T) M n) (Nat.le_refl _) _ _ _ A' o s H E r) (by
    rintro as P' ⟨es, d, ⟨x, dp, cn, rfl, rfl⟩, rfl, rfl⟩
    rw [kfD_itm]
    exact ev_callF (es := [x.enc]) le (ea_one (ev_at (es := [.int 1, x.enc]) (ev_var rfl) rfl) (ea_nil rfl)) ⟨x, dp, cn, rfl, rfl⟩)
/-- a list of items in, the sorted plan out -/
def g_sorted (n : Nat) : Gd := fun as P' => ∃ p : Pl, (p.map Part.tag).Nodup ∧ dpL p ≤ n ∧ cntL p ≤ 1000 ∧ as = [.lst (encL p)] ∧ P' = Is (plan (sortK p))
theorem q_sorted_items (M : Hd w K mg) (tb : Tb K mg base) (n : Nat) (hn : n ≤ 62) : Cal P w K mg base (2 * n + 5) "sorted_items" (spD K (pureA tb.T) (g_sorted n)) :=
  cal_dataT (t := t_sorted_items K (pureA tb.T) (gF (f_key_lam n)) kfD tb.T) tb.dS sc_sorted_items _ (by rintro as P' ⟨p, _, _, _, rfl, rfl⟩; rfl) (fun _ _ _ _ _ _ _ us _ hl => match us, hl with | [_], _ => rfl)
    (fun f A' o s H E r => pr_sorted_items (k := 2 * n + 2) M rfl f A' o s H E tb.tS tb.mS (tb.one tb.mS) (fun f c' h0 => a_key (T := tb.T) M n _ f c' h0) (fun c' => rfl) r) (by
    rintro cells as P' ⟨p, nd, dp, cn, rfl, rfl⟩
    have hl := len_cnt p
    have pm := sortK_perm p
    have nds : ((sortK p).map Part.tag).Nodup := (pm.map _).nodup_iff.mpr nd
    refine rn_asgLS (P := fun es => es = []) (el_lst (Pd := fun es => es = []) (ed_nil rfl) fun es e => ⟨by rw [e]; exact Nat.zero_le _, e⟩) fun es e => ?_
    subst e
    refine rn_forS (fun i ds => ∃ c y, ds = [.lst (encL p), .own ((encL (sortK p)).take i), c, y]) (ei_new (l := encL (sortK p)) (el_sortKey (es := encL p) (fun _ => rfl) (el_listL (er_lst rfl)) (by rw [encL_length]; omega) (keys_ok nd (by omega)) (fun e he => ?_) (sort_itm nd))) ⟨.emp, .emp, rfl⟩ ?_ ?_
    · rw [encL_map] at he
      obtain ⟨x, hx, rfl⟩ := List.mem_map.mp he
      exact ⟨[itm x], _, ⟨x, dpL_le.mp dp x hx, Nat.le_trans (cnt_mem hx) cn, rfl, rfl⟩, rfl, rfl⟩
    · rintro i ds d hi ⟨c, y, rfl⟩ hd
      have hlen : (encL (sortK p)).length = p.length := by rw [encL_length, pm.length_eq]
      have htl : ((encL (sortK p)).take i).length = i := by rw [List.length_take]; omega
      have hd0 := hd
      rw [encL_get] at hd
      cases hx : (sortK p)[i]? with
      | none => rw [hx] at hd; cases hd
      | some x =>
        rw [hx] at hd
        cases hd
        refine ⟨_, _, eg_item, rn_if (Pb := IsB false) ?_ (fun z => nomatch z) fun _ => ?_⟩
        · refine et_and (Pt := IsB (decide (0 < i))) ((et_test (ev_opI (ev_lenL (er_own rfl)) ev_int fun _ => .bl _)).to ?_) (fun h => ?_) (fun _ => rfl)
          · rw [htl, Bool.eq_iff_iff]
            simp
          · have h0 : 0 < i := of_decide_eq_true h.symm
            obtain ⟨z, hz⟩ : ∃ z, (sortK p)[i - 1]? = some z := by
              have h2 : i - 1 < (sortK p).length := by rw [← encL_length]; omega
              exact ⟨_, List.getElem?_eq_getElem h2⟩
            have el : atI ((encL (sortK p)).take i) (-1) = some (itm z) := by
              rw [at_last (by rw [htl]; exact h0), htl, List.getElem?_take_of_lt (by omega), encL_get, hz]
              rfl
            have ne : z ≠ x := fun e => by
              subst e
              have hnd : (sortK p).Nodup := (List.pairwise_map.mp nds).imp fun h e => h (by rw [e])
              have h2 := (List.getElem?_eq_some_iff.mp hz)
              have h3 := (List.getElem?_eq_some_iff.mp hx)
              obtain ⟨a1, a2⟩ := h2
              obtain ⟨b1, b2⟩ := h3
              have := (List.getElem_inj hnd).mp (a2.trans b2.symm)
              omega
            have d1 := enc_depth.1 x
            have d2 := dpL_le.mp dp x (pm.mem_iff.mp (List.mem_of_getElem? hx))
            refine (et_test (ev_eqP (d := z.enc) (e := x.enc) (ev_at (es := [.int 1, z.enc]) (ev_ixL (er_own rfl) (ev_neg ev_int) el) rfl) (ev_var rfl) (by omega))).to ?_
            cases e : PyData.eqv z.enc x.enc with
            | false => rfl
            | true => exact absurd (eqv_enc.1 z x e) ne
        · refine rn_app (es := (encL (sortK p)).take i) rfl (ev_tup1 (es := [.int 1, x.enc]) (ed_one (ev_var rfl) (ed_one (ev_var rfl) (ed_nil rfl))) (by show 2 ≤ 100000; decide)) (by rw [htl]; omega) fun d e => ?_
          subst e
          refine ⟨.dat (.int 1), .dat x.enc, ?_⟩
          rw [List.take_add_one, hd0]
          rfl
    · rintro ds ⟨c, y, rfl⟩
      rw [List.take_length]
      exact rn_ret1 (ev_tupL (Pl := fun r => r = encL (sortK p)) (er_own rfl) fun es e => by rw [e]; rfl) rfl)
/-! ### counts -/
def g_within (n : Nat) : Gl' := fun as P' => ∃ p : Pl, dpL p ≤ n ∧ cntL p ≤ 5000 ∧ as = [.dat (plan p)] ∧ P' = fun r => r.length = cntL p
def g_within_lt (n : Nat) : Gl' := fun as P' => ∃ p : Pl, dpL p < n ∧ cntL p ≤ 5000 ∧ as = [.dat (plan p)] ∧ P' = fun r => r.length = cntL p
theorem cal_voidL {x : Str} {st : Stmt} {A : Amb} {N ps : List Str} (D : Dfn K mg x st) (S : FnScope N ps (defScope st)) (hb : ∀ (dV kV doc pm : Value) (an : Option Addr) (cdv ct : Value) (us : List Value), dV = .none → us.length = ps.length → bindArgs (PySem.W.fnOf x x (defArgs st) (defBody st) (defScope st) .none kV doc pm an cdv ct) ⟨us, []⟩ = pure (ps.zip us)) (k : Nat) : Cal P w K mg base k x (spL K A fun _ _ => False) := by
  obtain ⟨f, fd, h1, F⟩ := D
  refine ⟨f, fd, ps, h1, F.kp, F.bindsN fun kV doc pm an cdv ct us h => hb .none kV doc pm an cdv ct us rfl h, ?_⟩
  exact ⟨fun vs H Q E h => by obtain ⟨_, _, _, z, _⟩ := h; exact z.elim, fun A' outer s H args us vs Q E _ _ _ _ h => by obtain ⟨_, _, _, z, _⟩ := h; exact z.elim⟩
theorem Cal.impL {x : Str} {A : Amb} {k : Nat} {G G' : Gl'} (c : Cal P w K mg base k x (spL K A G)) (h : ∀ as P', G' as P' → G as P') : Cal P w K mg base k x (spL K A G') := by
  obtain ⟨f, fd, ps, h1, h2, h3, h4⟩ := c
  exact ⟨f, fd, ps, h1, h2, h3, h4.imp fun vs H Q E ⟨i, as, P', g, z⟩ => ⟨i, as, P', h as P' g, z⟩⟩
theorem cnt_take {p : Pl} {i : Nat} {x : Part} (h : p[i]? = some x) : cntL (p.take (i + 1)) = cntL (p.take i) + x.cnt ∧ cntL (p.take i) + x.cnt ≤ cntL p := by
  have e : p.take (i + 1) = p.take i ++ [x] := by rw [List.take_add_one, h]; rfl
  have e0 : cntL ([] : Pl) = 0 := by rw [cntL]
  have e1 : cntL (p.take (i + 1)) = cntL (p.take i) + x.cnt := by rw [e, cntL_append, cntL_cons, e0]; rfl
  exact ⟨e1, by rw [← e1]; exact sub_cnt (List.take_sublist _ _)⟩
theorem i_within (M : Hd w K mg) {n j : Nat} (c : Cal P w K mg base j "parts_within" (spL K (pureA T) (g_within_lt n))) : Cal P w K mg base (j + 1) "parts_within" (spL K (pureA T) (g_within n)) :=
  cll_parts_within M _ (by rintro as P' ⟨p, _, _, rfl, rfl⟩; rfl) (fun f cdv A' o s H E r => pr_parts_within M c (Nat.le_refl _) f cdv A' o s H E r) (by
    rintro as P' ⟨p, dp, cn, rfl, rfl⟩
    refine rn_asgLS (P := fun es => es = []) (el_lst (Pd := fun es => es = []) (ed_nil rfl) fun es e => ⟨by rw [e]; exact Nat.zero_le _, e⟩) fun es e => ?_
    subst e
    refine rn_forS (fun i ds => ∃ fs a b, fs.length = cntL (p.take i) ∧ ds = [.dat (plan p), .own fs, a, b]) (ei_plan (ev_var rfl)) ⟨[], .emp, .emp, by rw [List.take_zero, cntL]; rfl, rfl⟩ ?_ ?_
    · rintro i ds d hi ⟨fs, a, b, hl, rfl⟩ ⟨x, hx, rfl⟩
      obtain ⟨t1, t2⟩ := cnt_take hx
      refine ⟨_, _, eg_item, rn_appS (es := fs) rfl (ev_var rfl) (by omega) fun d e => ?_⟩
      subst e
      cases x with
      | name v =>
        rw [enc_name]
        refine rn_if (Pb := IsB false) (et_len 3 (ev_var rfl) rfl) (fun z => nomatch z) fun _ => rn_next ⟨_, _, _, ?_, rfl⟩
        rw [List.length_append, hl, t1]; simp [Part.cnt]
      | got v =>
        rw [enc_got]
        refine rn_if (Pb := IsB false) (et_len 3 (ev_var rfl) rfl) (fun z => nomatch z) fun _ => rn_next ⟨_, _, _, ?_, rfl⟩
        rw [List.length_append, hl, t1]; simp [Part.cnt]
      | node k cc q =>
        have hd : dpL q < n := by have := dpL_le.mp dp _ (List.mem_of_getElem? hx); rw [dp_node] at this; omega
        rw [cnt_node] at t1 t2
        rw [enc_node]
        refine rn_if (Pb := IsB true) (et_len 3 (ev_var rfl) rfl) (fun _ => rn_ext (P := fun r => r.length = cntL q) (es := fs ++ [.tuple [.str (kw k), .str (door cc), plan q]]) rfl (el_call (Pa := fun as => as = [.dat (plan q)]) le (ea_one (ev_at (ev_var rfl) rfl) (ea_nil rfl)) fun as e => ⟨_, ⟨q, hd, by omega, e, rfl⟩, fun r h => h⟩) (fun gs h => ?_) fun gs h => ⟨_, _, _, ?_, rfl⟩) fun z => nomatch z
        · rw [h, List.length_append, hl]; simp; omega
        · rw [List.length_append, List.length_append, h, hl, t1]; simp; omega
    · rintro ds ⟨fs, a, b, hl, rfl⟩
      rw [List.take_length] at hl
      exact rn_retO rfl hl)
theorem q_within (M : Hd w K mg) : ∀ n, Cal P w K mg base (n + 1) "parts_within" (spL K (pureA T) (g_within n))
  | 0 => i_within M (n := 0) (j := 0) ((cal_voidL M.d_parts_within sc_parts_within (fun _ _ _ _ _ _ _ us _ hl => match us, hl with | [_], _ => rfl) 0).impL fun as P' ⟨p, z, _⟩ => absurd z (Nat.not_lt_zero _))
  | n + 1 => i_within M (n := n + 1) (j := n + 1) ((q_within M n).impL fun as P' ⟨p, z, h2⟩ => ⟨p, by omega, h2⟩)
def f_items (n : Nat) : List PyData → PyData → Prop := fun es d => ∃ p : Pl, dpL p ≤ n ∧ cntL p ≤ 5000 ∧ es = [plan p] ∧ d = .int (cntL p : Int)
theorem q_items_in (M : Hd w K mg) (n : Nat) : Cal P w K mg base (n + 2) "items_in" (spD K (pureA T) (gF (f_items n))) :=
  cl_items_in M _ (by rintro as P' ⟨es, d, ⟨p, _, _, rfl, rfl⟩, rfl, rfl⟩; rfl) (fun f cdv A' o s H E r => pr_items_in M (q_within (T := T) M n) (Nat.le_refl _) f cdv A' o s H E r) (by
    rintro as P' ⟨es, d, ⟨p, dp, cn, rfl, rfl⟩, rfl, rfl⟩
    exact rn_ret (ev_lenLP (Pl := fun r => r.length = cntL p) (P := Is (.int (cntL p : Int))) (er_new (el_call (Pa := fun as => as = [.dat (plan p)]) le (ea_one (ev_var rfl) (ea_nil rfl)) fun as e => ⟨_, ⟨p, dp, cn, e, rfl⟩, fun r h => h⟩)) fun es h => by rw [h]) fun d h => h)
/-- a whole number from 0 to m -/
abbrev UpTo (m : Nat) : PyData → Prop := fun d => ∃ i : Int, d = .int i ∧ 0 ≤ i ∧ i ≤ m
def g_nest (n : Nat) : Gd := fun as P' => ∃ p : Pl, dpL p ≤ n ∧ cntL p ≤ 5000 ∧ as = [.dat (plan p)] ∧ P' = UpTo (dpL p)
def g_nest_lt (n : Nat) : Gd := fun as P' => ∃ p : Pl, dpL p < n ∧ cntL p ≤ 5000 ∧ as = [.dat (plan p)] ∧ P' = UpTo (dpL p)
theorem i_nesting (M : Hd w K mg) {n j : Nat} (c : Cal P w K mg base j "nesting" (spD K (pureA T) (g_nest_lt n))) : Cal P w K mg base (j + 1) "nesting" (spD K (pureA T) (g_nest n)) :=
  cl_nesting M _ (by rintro as P' ⟨p, _, _, rfl, rfl⟩; rfl) (fun f cdv A' o s H E r => pr_nesting M c (Nat.le_refl _) f cdv A' o s H E r) (by
    rintro as P' ⟨p, dp, cn, rfl, rfl⟩
    have hlp := len_cnt p
    refine rn_ret (ev_maxL (P := UpTo (dpL p)) (Pn := fun ns => (∀ i ∈ ns, 0 ≤ i ∧ i ≤ (dpL p : Int)) ∧ 0 < ns.length) (er_new (el_cat (Pa := fun es => es = [.int 0]) (Pb := fun es => es.length ≤ p.length ∧ ∃ ns : List Int, es = ns.map .int ∧ ∀ i ∈ ns, 0 ≤ i ∧ i ≤ (dpL p : Int)) (el_lst (Pd := fun es => es = [.int 0]) (ed_one ev_int (ed_nil rfl)) fun es e => ⟨by rw [e]; show 1 ≤ 100000; decide, e⟩)
      (el_lc (fun i acc => acc.length ≤ i ∧ ∃ ns : List Int, acc = ns.map .int ∧ ∀ i ∈ ns, 0 ≤ i ∧ i ≤ (dpL p : Int)) (ei_plan (p := p) (ev_var rfl)) ⟨Nat.le_refl _, [], rfl, fun i hi => (nomatch hi)⟩ (fun i acc hi ⟨h, _⟩ => by omega) (fun i acc d hi ⟨hl, ns, e, hb⟩ ⟨x, hx, ed⟩ => ?_) fun acc h => h)
      fun es fs e ⟨hl, ns, e2, hb⟩ => ⟨?_, 0 :: ns, ?_, ?_, by simp⟩)) (fun ns h => h.2) fun ns m h hm _ => ⟨m, rfl, (h.1 m hm).1, (h.1 m hm).2⟩) fun d h => h
    · subst e ed
      refine ⟨_, _, IsB (match x with | .node _ _ _ => true | _ => false), eg_item, fun j hj => hj, ?_, fun pb => ?_, fun pb => ⟨by omega, ns, rfl, hb⟩⟩
      · cases x with
        | name v => rw [enc_name]; exact et_len 3 (ev_var rfl) rfl
        | got v => rw [enc_got]; exact et_len 3 (ev_var rfl) rfl
        | node k cc q => rw [enc_node]; exact et_len 3 (ev_var rfl) rfl
      · cases x with
        | name v => cases pb
        | got v => cases pb
        | node k cc q =>
          have hm := List.mem_of_getElem? hx
          have hd := dpL_le.mp (Nat.le_refl (dpL p)) _ hm
          rw [dp_node] at hd
          have hc := cnt_mem hm
          rw [cnt_node] at hc
          rw [enc_node]
          refine ev_opP (f := fun i j => .int (i + j)) (Pa := fun i => i = 1) (Pb := fun i => 0 ≤ i ∧ i ≤ (dpL q : Int)) (ev_intP ev_int rfl) (ev_call (G := g_nest_lt n) (Pa := fun as => as = [.dat (plan q)]) le (ea_one (ev_at (ev_var rfl) rfl) (ea_nil rfl)) fun as e => ⟨_, ⟨q, by omega, by omega, e, rfl⟩, fun d h => h⟩) (fun _ _ _ => .int _) fun i j hi hj => ⟨?_, ns ++ [i + j], ?_, fun k hk => ?_⟩
          · rw [List.length_map] at hl; rw [List.length_append, List.length_map]; simp; omega
          · rw [List.map_append]; rfl
          · rcases List.mem_append.mp hk with z | z
            · exact hb k z
            · rw [List.mem_singleton.mp z]; omega
    · rw [e]; show 1 + fs.length ≤ 100000; omega
    · rw [e, e2]; rfl
    · intro i hi
      rcases List.mem_cons.mp hi with z | z
      · rw [z]; omega
      · exact hb i z)
theorem q_nesting (M : Hd w K mg) : ∀ n, Cal P w K mg base (n + 1) "nesting" (spD K (pureA T) (g_nest n))
  | 0 => i_nesting M (n := 0) (j := 0) ((cal_void M.d_nesting sc_nesting (fun _ _ _ _ _ _ _ us _ hl => match us, hl with | [_], _ => rfl) 0).imp fun as P' ⟨p, z, _⟩ => absurd z (Nat.not_lt_zero _))
  | n + 1 => i_nesting M (n := n + 1) (j := n + 1) ((q_nesting M n).imp fun as P' ⟨p, z, h2⟩ => ⟨p, by omega, h2⟩)
def f_room : List PyData → PyData → Prop := fun es d => ∃ i : Int, i ≤ 5000 ∧ es = [.int i] ∧ d = .none
theorem q_check_room (M : Hd w K mg) : Cal P w K mg base 1 "check_room" (spD K (pureA T) (gF f_room)) :=
  cl_check_room M _ (by rintro as P' ⟨es, d, ⟨i, _, rfl, rfl⟩, rfl, rfl⟩; rfl) (fun f cdv A' o s H E r => pr_check_room M f cdv A' o s H E r) (by
    rintro as P' ⟨es, d, ⟨i, h1, rfl, rfl⟩, rfl, rfl⟩
    exact rn_if (Pb := IsB false) ((et_test (ev_opI (ev_var rfl) ev_int fun _ => .bl _)).to (decide_eq_false (by show ¬ (5000 : Int) < i; omega))) (fun z => nomatch z) fun _ => rn_next rfl)
def f_roomy (n : Nat) : List PyData → PyData → Prop := fun es d => ∃ p : Pl, dpL p ≤ n ∧ cntL p ≤ 5000 ∧ es = [plan p] ∧ d = plan p
theorem q_roomy (M : Hd w K mg) (n : Nat) (hn : n ≤ 120) : Cal P w K mg base (n + 3) "roomy" (spD K (pureA T) (gF (f_roomy n))) :=
  cl_roomy M _ (by rintro as P' ⟨es, d, ⟨p, _, _, rfl, rfl⟩, rfl, rfl⟩; rfl) (fun f cdv A' o s H E r => pr_roomy M (q_items_in (T := T) M n) (Nat.le_refl _) (q_check_room (T := T) M) (by omega) (q_nesting (T := T) M n) (by omega) f cdv A' o s H E r) (by
    rintro as P' ⟨es, d, ⟨p, dp, cn, rfl, rfl⟩, rfl, rfl⟩
    refine rn_seq (M := fun ds => ds = [.dat (plan p)]) (rn_drop (ev_callF (es := [.int (cntL p : Int)]) (d := .none) le (ea_one (ev_callF (es := [plan p]) le (ea_one (ev_var rfl) (ea_nil rfl)) ⟨p, dp, cn, rfl, rfl⟩) (ea_nil rfl)) ⟨_, by omega, rfl, rfl⟩) rfl) fun ds e => ?_
    subst e
    refine rn_skip (et_testP (ev_opP (f := fun i j => .bool (decide (j < i))) (Pa := fun i => i ≤ (dpL p : Int)) (Pb := fun i => i = 120) ((ev_call (G := g_nest n) (P := UpTo (dpL p)) (Pa := fun as => as = [.dat (plan p)]) le (ea_one (ev_var rfl) (ea_nil rfl)) fun as e => ⟨_, ⟨p, dp, cn, e, rfl⟩, fun d h => h⟩).imp fun d ⟨i, e, _, h⟩ => ⟨i, e, h⟩) (ev_intP ev_int rfl) (fun _ _ _ => .bl _) fun i j h1 h2 => ⟨_, rfl, ?_⟩)) (rn_ret1 (ev_var rfl) rfl)
    exact decide_eq_false (by omega))
def g_gots (n : Nat) : Gd := fun as P' => ∃ (p : Pl) (k : Nat), dpL p ≤ n ∧ cntL p ≤ 5000 ∧ as = [.dat (plan p), .dat (.int (k : Int))] ∧ P' = UpTo (cntL p)
def g_gots_lt (n : Nat) : Gd := fun as P' => ∃ (p : Pl) (k : Nat), dpL p < n ∧ cntL p ≤ 5000 ∧ as = [.dat (plan p), .dat (.int (k : Int))] ∧ P' = UpTo (cntL p)
theorem i_gots (M : Hd w K mg) {n j : Nat} (hn : n ≤ 62) (c : Cal P w K mg base j "gots_at" (spD K (pureA T) (g_gots_lt n))) : Cal P w K mg base (j + 1) "gots_at" (spD K (pureA T) (g_gots n)) :=
  cl_gots_at M _ (by rintro as P' ⟨p, k, _, _, rfl, rfl⟩; rfl) (fun f cdv A' o s H E r => pr_gots_at M c (Nat.le_refl _) f cdv A' o s H E r) (by
    rintro as P' ⟨p, k, dp, cn, rfl, rfl⟩
    refine rn_asg1 ev_int ?_
    refine rn_forS (fun i ds => ∃ (m : Int) (a b : SD), 0 ≤ m ∧ m ≤ cntL (p.take i) ∧ ds = [.dat (plan p), .dat (.int (k : Int)), .dat (.int m), a, b]) (ei_plan (ev_var rfl)) ⟨0, .emp, .emp, by omega, by omega, rfl⟩ ?_ ?_
    · rintro i ds d hi ⟨m, a, b, h1, h2, rfl⟩ ⟨x, hx, rfl⟩
      obtain ⟨t1, t2⟩ := cnt_take hx
      have hd := enc_depth.1 x
      have hdx := dpL_le.mp dp _ (List.mem_of_getElem? hx)
      have hp := cnt_pos x
      refine ⟨_, _, eg_item, rn_if (Pb := fun _ => True) ((et_test (ev_eqP (d := x.enc) (ev_var rfl) (ev_tup1 (es := [.str "got", .int (k : Int)]) (ed_one ev_str (ed_one (ev_var rfl) (ed_nil rfl))) (by show 2 ≤ 100000; decide)) (by omega))).imp fun _ _ => trivial) (fun _ => rn_aug rfl ev_int ⟨_, _, _, ?_, ?_, rfl⟩) fun _ => ?_⟩
      · omega
      · rw [t1]; omega
      · cases x with
        | name v =>
          rw [enc_name]
          exact rn_if (Pb := IsB false) (et_len 3 (ev_var rfl) rfl) (fun z => nomatch z) fun _ => rn_next ⟨_, _, _, h1, by rw [t1]; omega, rfl⟩
        | got v =>
          rw [enc_got]
          exact rn_if (Pb := IsB false) (et_len 3 (ev_var rfl) rfl) (fun z => nomatch z) fun _ => rn_next ⟨_, _, _, h1, by rw [t1]; omega, rfl⟩
        | node kk cc q =>
          rw [dp_node] at hdx
          rw [cnt_node] at t1 t2
          rw [enc_node]
          refine rn_if (Pb := IsB true) (et_len 3 (ev_var rfl) rfl) (fun _ => rn_augP (Pb := fun i => 0 ≤ i ∧ i ≤ (cntL q : Int)) rfl (ev_call (G := g_gots_lt n) (P := UpTo (cntL q)) (Pa := fun as => ∃ k' : Nat, as = [.dat (plan q), .dat (.int (k' : Int))]) le (ea_one (ev_at (ev_var rfl) rfl) (ea_cons (Pa := fun d => ∃ k' : Nat, d = .int (k' : Int)) ?_ fun d ⟨k', e⟩ => ea_nil ⟨k', by rw [e]⟩)) fun as ⟨k', e⟩ => ⟨_, ⟨q, k', by omega, by omega, e, rfl⟩, fun d h => h⟩) fun b hb => ⟨_, _, _, by omega, by rw [t1]; omega, rfl⟩) fun z => nomatch z
          cases kk with
          | true => exact (ev_if (Pt := IsB true) (et_str (ev_at (ev_var rfl) rfl) (by decide)) (fun _ => ev_opI (c := .int ((k + 1 : Nat) : Int)) (ev_var rfl) ev_int fun _ => .int _) fun z => nomatch z).to ⟨k + 1, rfl⟩
          | false => exact (ev_if (Pt := IsB false) (et_str (ev_at (ev_var rfl) rfl) (by decide)) (fun z => nomatch z) fun _ => ev_var rfl).to ⟨k, rfl⟩
    · rintro ds ⟨m, a, b, h1, h2, rfl⟩
      rw [List.take_length] at h2
      exact rn_ret1 (ev_var rfl) ⟨m, rfl, h1, h2⟩)
theorem q_gots (M : Hd w K mg) : ∀ n, n ≤ 62 → Cal P w K mg base (n + 1) "gots_at" (spD K (pureA T) (g_gots n))
  | 0, _ => i_gots M (n := 0) (j := 0) (by omega) ((cal_void M.d_gots_at sc_gots_at (fun _ _ _ _ _ _ _ us _ hl => match us, hl with | [_, _], _ => rfl) 0).imp fun as P' ⟨p, k, z, _⟩ => absurd z (Nat.not_lt_zero _))
  | n + 1, h => i_gots M (n := n + 1) (j := n + 1) h ((q_gots M n (by omega)).imp fun as P' ⟨p, k, z, h2⟩ => ⟨p, k, by omega, h2⟩)
end
end K87
/-! What the defs do with data: mapped. -/
namespace K87
open PySem PySem.Spec PyProof.Rows L2 NdefX LamX
def Leaf : Part → Prop
  | .node _ _ _ => False
  | _ => True
def Gact (act : Part → Nat → Pl) : Gd := fun as P' => ∃ (x : Part) (d : Nat), Leaf x ∧ as = [.dat x.enc, .dat (.int (d : Int))] ∧ P' = Is (plan (act x d))
def Gmap (act : Part → Nat → Pl) (n : Nat) (f : Addr) : Gd := fun as P' => ∃ (p : Pl) (d : Nat), dpL p ≤ n ∧ cntL p ≤ 500 ∧ as = [.dat (plan p), .dat (.int (d : Int)), .raw (.ref f)] ∧ P' = Is (plan (mapM act p d))
def Gmap_lt (act : Part → Nat → Pl) (n : Nat) (f : Addr) : Gd := fun as P' => ∃ (p : Pl) (d : Nat), dpL p < n ∧ cntL p ≤ 500 ∧ as = [.dat (plan p), .dat (.int (d : Int)), .raw (.ref f)] ∧ P' = Is (plan (mapM act p d))
theorem leaf_or (x : Part) : (∃ wd : Str, Leaf x ∧ x.enc = .tuple [.str wd, x.third] ∧ decide (wd = ("letter" : Str)) = false ∧ decide (wd = ("wait" : Str)) = false) ∨ ∃ k c q, x = .node k c q := by
  cases x with
  | name v => exact .inl ⟨"name", trivial, enc_name v, by decide, by decide⟩
  | got v => exact .inl ⟨"got", trivial, enc_got v, by decide, by decide⟩
  | node k c q => exact .inr ⟨k, c, q, rfl⟩
section
variable {act : Part → Nat → Pl}
theorem mapPart_leaf {x : Part} (h : Leaf x) (d : Nat) : mapPart act x d = act x d := by
  cases x with
  | node _ _ _ => exact h.elim
  | name _ => rw [mapPart]
  | got _ => rw [mapPart]
theorem mapPart_len (hb : ∀ x d, (act x d).length ≤ 100) (x : Part) (d : Nat) : (mapPart act x d).length ≤ 100 := by
  cases x with
  | name w => rw [mapPart]; exact hb _ _
  | got e => rw [mapPart]; exact hb _ _
  | node k c p => rw [mapPart]; simp
theorem mapM_len (hb : ∀ x d, (act x d).length ≤ 100) (p : Pl) (d : Nat) : (mapM act p d).length ≤ 100 * p.length := by
  induction p with
  | nil => rw [mapM]; simp
  | cons x r ih =>
    rw [mapM, List.length_append, List.length_cons]
    have := mapPart_len hb x d
    omega
theorem mapM_take {p : Pl} {i : Nat} {x : Part} (h : p[i]? = some x) (d : Nat) : mapM act (p.take (i + 1)) d = mapM act (p.take i) d ++ mapPart act x d := by
  have e : p.take (i + 1) = p.take i ++ [x] := by rw [List.take_add_one, h]; rfl
  rw [e, mapM_append]
  congr 1
  rw [mapM, mapM, List.append_nil]
end
section
variable {P : Program} {w : World} {K : PySem.W.Frag} {mg : Str → Option Value} {base : Heap} {T : List (Addr × Str)} {S : Addr → Prop} {h0 : Heap} {fa : Addr}
theorem Cal.toH {A : Amb} {x : Str} {k : Nat} {G : Gd} (c : Cal P w K mg base k x (spD K A G)) : CalH P w K mg base k x S h0 (spD K A G) := by
  obtain ⟨f, fd, ps, h1, h2, h3, h4⟩ := c
  exact ⟨f, fd, ps, h1, h2, h3, h4.len, fun A' outer s H us vs Q E hr e0 _ bt r h => h4.run A' outer s H _ us vs Q E hr e0 bt r h⟩
theorem CalH.impS {x : Str} {k : Nat} {sp sp' : Sp} (c : CalH P w K mg base k x S h0 sp) (h : ∀ vs H Q E, sp' vs H Q E → sp vs H Q E) : CalH P w K mg base k x S h0 sp' := by
  obtain ⟨f, fd, ps, h1, h2, h3, h4, h5⟩ := c
  exact ⟨f, fd, ps, h1, h2, h3, fun vs H Q E z => h4 vs H Q E (h _ _ _ _ z), fun A' outer s H us vs Q E hr e0 hH bt r z => h5 A' outer s H us vs Q E hr e0 hH bt r (h _ _ _ _ z)⟩
/-- an action that may be handed on, what is held the while -/
structure MapIx (P : Program) (w : World) (K : PySem.W.Frag) (mg : Str → Option Value) (base : Heap) (T : List (Addr × Str)) (S : Addr → Prop) (h0 : Heap) (fa : Addr) (ka : Nat) where
  act : Part → Nat → Pl
  Tk : Hp → Prop
  st : Stab (pureA T) Tk
  hb : ∀ x d, (act x d).length ≤ 100
  Ac : Actn P w K mg base ka fa S h0 Tk (spD K (pureA T) (Gact act))
def spM {P : Program} {w : World} {K : PySem.W.Frag} {mg : Str → Option Value} {base : Heap} {T : List (Addr × Str)} {S : Addr → Prop} {h0 : Heap} {fa : Addr} {ka : Nat} (n : Nat) : Sp := fun vs H Q E => ∃ i : MapIx P w K mg base T S h0 fa ka, spD K ((pureA T).also i.Tk i.st) (Gmap i.act n fa) vs H Q E
theorem i_mapped (M : Hd w K mg) {n j ka : Nat} (hk : ka ≤ j) (c : ∀ i : MapIx P w K mg base T S h0 fa ka, CalH P w K mg base j "mapped" S h0 (spD K ((pureA T).also i.Tk i.st) (Gmap_lt i.act n fa))) :
    CalH P w K mg base (j + 1) "mapped" S h0 (spM (P := P) (w := w) (K := K) (mg := mg) (base := base) (T := T) (S := S) (h0 := h0) (fa := fa) (ka := ka) n) :=
  calH_fam (ι := MapIx P w K mg base T S h0 fa ka) (Am := fun i => (pureA T).also i.Tk i.st) (G := fun i => Gmap i.act n fa) (t := fun i => t_mapped K fa i.Tk (spD K (pureA T) (Gact i.act)) (spD K ((pureA T).also i.Tk i.st) (Gmap_lt i.act n fa))) M.d_mapped sc_mapped (by rintro i as P' ⟨p, d, _, _, rfl, rfl⟩; rfl) (fun _ _ _ _ _ _ _ us _ hl => match us, hl with | [_, _, _], _ => rfl) (fun i f cdv A' o s H E hH r => pr_mapped M i.Ac hk (c i) (Nat.le_refl _) f cdv A' o s H E hH r) (by
    rintro ⟨act, Tk, st, hb, Ac⟩ as P' ⟨p, d, dp, cn, rfl, rfl⟩
    show Rn K ((pureA T).also Tk st) (t_mapped K fa Tk (spD K (pureA T) (Gact act)) (spD K ((pureA T).also Tk st) (Gmap_lt act n fa))) _ _
    have hlp := len_cnt p
    have la : Le ((pureA T).also Tk st) ((pureA T).also Tk st) := Le.refl rfl
    have lb : Le (pureA T) ((pureA T).also Tk st) := Amb.also_le rfl
    refine rn_asgLS (P := fun es => es = []) (el_lst (Pd := fun es => es = []) (ed_nil rfl) fun es e => ⟨by rw [e]; exact Nat.zero_le _, e⟩) fun es e => ?_
    subst e
    refine rn_forS (fun i ds => ∃ a b c e, ds = [.dat (plan p), .dat (.int (d : Int)), .raw (.ref fa), .own (encL (mapM act (p.take i) d)), a, b, c, e]) (ei_plan (ev_var rfl)) ⟨.emp, .emp, .emp, .emp, by rw [List.take_zero, mapM, encL_nil]; rfl⟩ ?_ ?_
    · rintro i ds d' hi ⟨a, b, c', e', rfl⟩ ⟨x, hx, rfl⟩
      have ml := mapM_len hb (p.take i) d
      rw [List.length_take] at ml
      have hel : (encL (mapM act (p.take i) d)).length ≤ 50000 := by rw [encL_length]; omega
      have hm := List.mem_of_getElem? hx
      refine ⟨_, _, eg_item, ?_⟩
      rcases leaf_or x with ⟨wd, hL, he, h1, h2⟩ | ⟨k, cc, q, rfl⟩
      · refine rn_if (Pb := IsB false) (et_str (ev_at (es := [.str wd, x.third]) (ev_var (i := 5) (by rw [← he]; rfl)) rfl) h1) (fun z => nomatch z) fun _ => ?_
        refine rn_if (Pb := IsB false) (et_str (ev_at (es := [.str wd, x.third]) (ev_var (i := 5) (by rw [← he]; rfl)) rfl) h2) (fun z => nomatch z) fun _ => ?_
        refine rn_ext (es := encL (mapM act (p.take i) d)) (P := fun r => r = encL (act x d)) rfl (el_mapR (js := [6, 7]) (l := encL (act x d)) (rs := encL (act x d)) (ei_tup (l := encL (act x d)) (ev_callS (Pa := fun as => as = [.dat x.enc, .dat (.int (d : Int))]) lb rfl (fun H i => i.2) (ea_one (ev_var rfl) (ea_one (ev_var rfl) (ea_nil rfl))) fun as e => ⟨_, ⟨x, d, hL, e, rfl⟩, fun _ h => h⟩)) (fun i d _ h => h) rfl rfl (by have := hb x d; rw [encL_length]; omega) (fun j hj => hj) fun k y z hy hz => ?_) (fun fs e => by have := hb x d; rw [e, encL_length (act x d)]; omega) fun fs e => ⟨.dat (.int 1), .dat x.enc, noOwn c', noOwn e', ?_⟩
        · rw [hy] at hz
          cases hz
          rw [encL_get] at hy
          cases hw : (act x d)[k]? with
          | none => rw [hw] at hy; cases hy
          | some v =>
            rw [hw] at hy
            cases hy
            exact ⟨_, eg_item, ev_tup1 (es := [.int 1, v.enc]) (ed_one (ev_opC (ev_var rfl) (ev_var rfl) cmul_one fun _ => .int _) (ed_one (ev_var rfl) (ed_nil rfl))) (by show 2 ≤ 100000; decide)⟩
        · rw [e, mapM_take hx, encL_append, mapPart_leaf hL]
          rfl
      · have hd := dpL_le.mp dp _ hm
        rw [dp_node] at hd
        have hc := cnt_mem hm
        rw [cnt_node] at hc
        rw [enc_node]
        cases k with
        | false =>
          refine rn_if (Pb := IsB true) (et_str (ev_at (ev_var rfl) rfl) (by decide)) (fun _ => ?_) fun z => nomatch z
          refine rn_app (es := encL (mapM act (p.take i) d)) (P := Is (itm (.node false cc (mapM act q d)))) rfl ?_ (by omega) fun y e => ⟨.dat (.int 1), .dat (.tuple [.str (kw false), .str (door cc), plan q]), noOwn c', noOwn e', ?_⟩
          · unfold itm
            rw [enc_node]
            exact ev_tup1 (ed_one (ev_var rfl) (ed_one (ev_tup1 (ed_one ev_str (ed_one (ev_at (ev_var rfl) rfl) (ed_one (ev_call (G := Gmap_lt act n fa) (P := Is (plan (mapM act q d))) (Pa := fun as => as = [.dat (plan q), .dat (.int (d : Int)), .raw (.ref fa)]) la (ea_one (ev_at (ev_var rfl) rfl) (ea_one (ev_var rfl) (ea_raw rfl (ea_nil rfl)))) fun as e => ⟨_, ⟨q, d, by omega, by omega, e, rfl⟩, fun _ h => h⟩) (ed_nil rfl)))) (by show 3 ≤ 100000; decide)) (ed_nil rfl))) (by show 2 ≤ 100000; decide)
          · have e : y = _ := e
            rw [e, mapM_take hx, mapPart, encL_append, encL_cons, encL_nil]
            rfl
        | true =>
          refine rn_if (Pb := IsB false) (et_str (ev_at (ev_var rfl) rfl) (by decide)) (fun z => nomatch z) fun _ => ?_
          refine rn_if (Pb := IsB true) (et_str (ev_at (ev_var rfl) rfl) (by decide)) (fun _ => ?_) fun z => nomatch z
          refine rn_app (es := encL (mapM act (p.take i) d)) (P := Is (itm (.node true cc (mapM act q (d + 1))))) rfl ?_ (by omega) fun y e => ⟨.dat (.int 1), .dat (.tuple [.str (kw true), .str (door cc), plan q]), noOwn c', noOwn e', ?_⟩
          · unfold itm
            rw [enc_node]
            exact ev_tup1 (ed_one (ev_var rfl) (ed_one (ev_tup1 (ed_one ev_str (ed_one (ev_at (ev_var rfl) rfl) (ed_one (ev_call (G := Gmap_lt act n fa) (P := Is (plan (mapM act q (d + 1)))) (Pa := fun as => as = [.dat (plan q), .dat (.int ((d + 1 : Nat) : Int)), .raw (.ref fa)]) la (ea_one (ev_at (ev_var rfl) rfl) (ea_one (ev_opI (ev_var rfl) ev_int fun _ => .int _) (ea_raw rfl (ea_nil rfl)))) fun as e => ⟨_, ⟨q, d + 1, by omega, by omega, e, rfl⟩, fun _ h => h⟩) (ed_nil rfl)))) (by show 3 ≤ 100000; decide)) (ed_nil rfl))) (by show 2 ≤ 100000; decide)
          · have e : y = _ := e
            rw [e, mapM_take hx, mapPart, encL_append, encL_cons, encL_nil]
            rfl
    · rintro ds ⟨a, b, c', e', rfl⟩
      rw [List.take_length]
      exact rn_ret1 (ev_tupL (Pl := fun r => r = encL (mapM act p d)) (er_own rfl) fun es e => by rw [e]; rfl) rfl)
theorem q_mapped (M : Hd w K mg) {ka : Nat} : ∀ n, CalH P w K mg base (ka + n + 1) "mapped" S h0 (spM (P := P) (w := w) (K := K) (mg := mg) (base := base) (T := T) (S := S) (h0 := h0) (fa := fa) (ka := ka) n)
  | 0 => i_mapped M (n := 0) (j := ka) (Nat.le_refl _) fun i => ((cal_void (A := pureA T) M.d_mapped sc_mapped (fun _ _ _ _ _ _ _ us _ hl => match us, hl with | [_, _, _], _ => rfl) ka).toH).impS fun vs H Q E ⟨_, as, P', ⟨p, d, z, _⟩, _⟩ => absurd z (Nat.not_lt_zero _)
  | n + 1 => i_mapped M (n := n + 1) (j := ka + n + 1) (by omega) fun i => (q_mapped M n).impS fun vs H Q E ⟨a1, as, P', ⟨p, d, z, h2⟩, h3⟩ => ⟨i, a1, as, P', ⟨p, d, by omega, h2⟩, h3⟩
end
end K87
/-! What the defs do with data: raised, brought, bound_to. -/
namespace K87
open PySem PySem.Spec PyProof.Rows L2 NdefX LamX
theorem plan_one (x : Part) : plan [x] = .tuple [.tuple [.int 1, x.enc]] := by unfold plan; rw [encL_cons, encL_nil]; rfl
section
variable {P : Program} {w : World} {K : PySem.W.Frag} {mg : Str → Option Value} {base : Heap} {T : List (Addr × Str)} {S : Addr → Prop} {h0 : Heap} {fa : Addr} {H0 : Hp}
theorem et_gotB {A : Amb} {ds : List SD} {te : TE} {e : Nat} (h : Ev K A te ds (Is (.tuple [.str "got", .int (e : Int)]))) : EvT K A (tTest (tOp rEq (tOp (rIxT K) te (tC (.int 0))) (tC (.str "got")))) ds (IsB true) := et_str (ev_at h rfl) (by decide)
/-- ((1, part),) -/
theorem rn_self {A : Amb} {ds : List SD} {i : Nat} {x : Part} {Po : Post} (h : ds[i]? = some (.dat x.enc)) (k : Po.rt (.inl (plan [x]))) : Rn K A (tRet (tTup (tCons (tTup (tCons (tC (.int 1)) (tCons (tVar i) tNil))) tNil))) ds Po := by
  rw [plan_one] at k
  exact rn_ret1 (ev_tup1 (ed_one (ev_tup1 (ed_one ev_int (ed_one (ev_var h) (ed_nil rfl))) (by show 2 ≤ 100000; decide)) (ed_nil rfl)) (by show 1 ≤ 100000; decide)) k
theorem rn_oneG {A : Amb} {ds : List SD} {te : TE} {e : Nat} {Po : Post} (h : Ev K A te ds (Is (.int (e : Int)))) (k : Po.rt (.inl (plan [.got e]))) : Rn K A (tRet (tTup (tCons (tTup (tCons (tC (.int 1)) (tCons (tTup (tCons (tC (.str "got")) (tCons te tNil))) tNil))) tNil))) ds Po := by
  rw [plan_one, enc_got] at k
  exact rn_ret1 (ev_tup1 (ed_one (ev_tup1 (ed_one ev_int (ed_one (ev_tup1 (ed_one ev_str (ed_one h (ed_nil rfl))) (by show 2 ≤ 100000; decide)) (ed_nil rfl))) (by show 2 ≤ 100000; decide)) (ed_nil rfl)) (by show 1 ≤ 100000; decide)) k
theorem a_lift (M : Hd w K mg) (cl : List (Str × Addr)) (c' : Addr) (us : List V) (by_ least : Nat) (C : CellsAt cl ["by", "least"] (us.map some) h0 H0) : Actn P w K mg base 1 fa (fun c => ∃ y, cl.lookup y = some c) h0 (TkN K fa (nf_lift cl c') us [.int (by_ : Int), .int (least : Int)]) (spD K (pureA T) (Gact (liftAct by_ least))) :=
  act_nested (F := nf_lift cl c') (N := ["part", "depth", "by", "least"]) (ps := ["part", "depth"]) (fr := ["by", "least"]) (nscope_by (sc := C8.fnScope n_lift) (by decide +kernel)) (fun _ _ _ us hl => match us, hl with | [_, _], _ => rfl) C _ (by rintro as P' ⟨x, d, _, rfl, rfl⟩; rfl) (fun A' o s H E r => pr_lift M cl c' fa A' o s H E r) (by
    rintro as P' ⟨x, d, hL, rfl, rfl⟩
    cases x with
    | node _ _ _ => exact hL.elim
    | name v =>
      refine rn_skip (et_and (Pt := IsB false) (et_str (ev_at (es := [.str "name", .str v]) (ev_var (by rw [← enc_name]; rfl)) rfl) (by decide)) (fun z => nomatch z) fun _ => rfl) (rn_self (x := .name v) rfl rfl)
    | got e =>
      have hv : ∀ (ds : List SD), ds[0]? = some (.dat (Part.got e).enc) → ds[0]? = some (.dat (.tuple [.str "got", .int (e : Int)])) := fun ds h => by rw [h, enc_got]
      have ht : EvT K (pureA T) (tAnd (tTest (tOp rEq (tOp (rIxT K) (tVar 0) (tC (.int 0))) (tC (.str "got")))) (tTest (tOp (rI0 fun i j => .bl (decide (j ≤ i))) (tOp (rIxT K) (tVar 0) (tC (.int 1))) (tOp (rI0 fun i j => .int (i + j)) (tVar 1) (tVar 3))))) [.dat (Part.got e).enc, .dat (.int (d : Int)), .dat (.int (by_ : Int)), .dat (.int (least : Int))] (IsB (decide (d + least ≤ e))) :=
        (et_and1 (et_gotB (ev_var (hv _ rfl))) fun _ => (et_test (ev_opI (ev_at (es := [.str "got", .int (e : Int)]) (ev_var (hv _ rfl)) rfl) (ev_opI (ev_var rfl) (ev_var rfl) fun _ => .int _) fun _ => .bl _)).to (by rw [Bool.eq_iff_iff]; simp; omega)).to (Bool.true_and _)
      by_cases h : d + least ≤ e
      · rw [decide_eq_true h] at ht
        refine rn_left ht (rn_oneG (e := e + by_) ((ev_opI (ev_at (es := [.str "got", .int (e : Int)]) (ev_var (hv _ rfl)) rfl) (ev_var rfl) fun _ => .int _).eq (by rw [Int.natCast_add])) ?_)
        show plan [Part.got (e + by_)] = plan (if d + least ≤ e then [Part.got (e + by_)] else [Part.got e])
        rw [if_pos h]
      · rw [decide_eq_false h] at ht
        refine rn_skip ht (rn_self (x := .got e) rfl ?_)
        show plan [Part.got e] = plan (if d + least ≤ e then [Part.got (e + by_)] else [Part.got e])
        rw [if_neg h])
theorem lift_len (b l : Nat) (x : Part) (d : Nat) : (liftAct b l x d).length ≤ 100 := by
  unfold liftAct
  split
  · split <;> simp
  · simp
def f_raised (n : Nat) : List PyData → PyData → Prop := fun es d => ∃ (p : Pl) (b l : Nat), dpL p ≤ n ∧ cntL p ≤ 500 ∧ es = [plan p, .int (b : Int), .int (l : Int)] ∧ d = plan (raiseP p b l)
theorem q_raised (M : Hd w K mg) (tb : Tb K mg base) (n : Nat) : Cal P w K mg base (n + 3) "raised" (spD K (pureA tb.T) (gF (f_raised n))) :=
  cal_dataT (t := fun cells => t_raised K (toN tb.T) (spN K (pureA tb.T) (nf_lift (cl_of_raised cells)) (fun i : Nat × Nat => [.int (i.1 : Int), .int (i.2 : Int)]) (fun i f => Gmap (liftAct i.1 i.2) n f)) cells) tb.dR sc_raised _ (by rintro as P' ⟨es, d, ⟨p, b, l, _, _, rfl, rfl⟩, rfl, rfl⟩; rfl) (fun _ _ _ _ _ _ _ us _ hl => match us, hl with | [_, _, _], _ => rfl)
    (fun f A' o s H E r => pr_raised M f A' o s H E tb.tR (tb.memN tb.mR) (tb.oneN tb.mR) (fun f c' h0 H0 ws C => (q_mapped (T := tb.T) (fa := f) (ka := 1) M n).impS fun vs H Q E ⟨i, us, e, h⟩ => ⟨⟨liftAct i.1 i.2, _, stabN, lift_len i.1 i.2, a_lift M _ c' us i.1 i.2 (e ▸ C)⟩, h⟩) (by omega) (Dfn.kept M.d_mapped) r) (by
    rintro cells as P' ⟨es, d, ⟨p, b, l, dp, cn, rfl, rfl⟩, rfl, rfl⟩
    exact rn_mkN (b, l) (i := 3) (as := fun f => [.dat (plan p), .dat (.int ((0 : Nat) : Int)), .raw (.ref f)]) (P := Is (plan (raiseP p b l))) (fun _ => rfl) (fun f => rfl) (fun f => ea_one (ev_var rfl) (ea_one ev_int (ea_raw rfl (ea_nil rfl)))) (fun f => ⟨p, 0, dp, cn, rfl, rfl⟩) fun d h => h)
theorem raise_len (p : Pl) (b l d : Nat) : (mapM (liftAct b l) p d).length = p.length := by
  induction p with
  | nil => rw [mapM]
  | cons x r ih =>
    have e : (mapPart (liftAct b l) x d).length = 1 := by
      cases x with
      | name w => rw [mapPart]; rfl
      | got e => rw [mapPart]; show (if d + l ≤ e then [Part.got (e + b)] else [Part.got e]).length = 1; split <;> rfl
      | node k c p => rw [mapPart]; rfl
    rw [mapM, List.length_append, e, ih, List.length_cons]
    omega
theorem bring_len {o : Pl} (ho : o.length ≤ 100) (x : Part) (d : Nat) : (bringAct o x d).length ≤ 100 := by
  unfold bringAct
  split
  · split
    · unfold raiseP; rw [raise_len]; exact ho
    · split <;> simp
  · simp
theorem et_gotF {A : Amb} {ds : List SD} {te : TE} {x : Part} (hL : ∀ e, x ≠ .got e) (h : Ev K A te ds (Is x.enc)) : EvT K A (tTest (tOp rEq (tOp (rIxT K) te (tC (.int 0))) (tC (.str "got")))) ds (IsB false) := by
  cases x with
  | name v => rw [enc_name] at h; exact et_str (ev_at h rfl) (by decide)
  | got e => exact absurd rfl (hL e)
  | node k c p => rw [enc_node] at h; exact et_str (ev_at h rfl) (by cases k <;> decide)
theorem a_bring (M : Hd w K mg) (tb : Tb K mg base) {m : Nat} (cl : List (Str × Addr)) (c' : Addr) (us : List V) (o : Pl) (ho : dpL o ≤ m) (hc : cntL o ≤ 500) (C : CellsAt cl ["other"] (us.map some) h0 H0) : Actn P w K mg base (m + 4) fa (fun c => ∃ y, cl.lookup y = some c) h0 (TkN K fa (nf_bring cl c') us [plan o]) (spD K (pureA tb.T) (Gact (bringAct o))) :=
  act_nested (F := nf_bring cl c') (N := ["part", "depth", "other"]) (ps := ["part", "depth"]) (fr := ["other"]) (nscope_by (sc := C8.fnScope n_bring) (by decide +kernel)) (fun _ _ _ us hl => match us, hl with | [_, _], _ => rfl) C _ (by rintro as P' ⟨x, d, _, rfl, rfl⟩; rfl) (fun A' o s H E r => pr_bring M (q_raised M tb m) (Nat.le_refl _) cl c' fa A' o s H E r) (by
    rintro as P' ⟨x, d, hL, rfl, rfl⟩
    cases x with
    | node _ _ _ => exact hL.elim
    | name v =>
      have hf : ∀ t : TT, EvT K (pureA tb.T) (tAnd (tTest (tOp rEq (tOp (rIxT K) (tVar 0) (tC (.int 0))) (tC (.str "got")))) t) [.dat (Part.name v).enc, .dat (.int (d : Int)), .dat (plan o)] (IsB false) := fun t => et_and (Pt := IsB false) (et_gotF (x := .name v) (fun e h => nomatch h) (ev_var rfl)) (fun z => nomatch z) fun _ => rfl
      exact rn_skip (hf _) (rn_skip (hf _) (rn_self (x := .name v) rfl rfl))
    | got e =>
      have hv : ∀ (ds : List SD), ds[0]? = some (.dat (Part.got e).enc) → ds[0]? = some (.dat (.tuple [.str "got", .int (e : Int)])) := fun ds h => by rw [h, enc_got]
      have h1 : EvT K (pureA tb.T) (tAnd (tTest (tOp rEq (tOp (rIxT K) (tVar 0) (tC (.int 0))) (tC (.str "got")))) (tTest (tOp rEq (tOp (rIxT K) (tVar 0) (tC (.int 1))) (tVar 1)))) [.dat (Part.got e).enc, .dat (.int (d : Int)), .dat (plan o)] (IsB (decide (e = d))) :=
        (et_and1 (et_gotB (ev_var (hv _ rfl))) fun _ => (et_test (ev_eqS (c := .int (e : Int)) (d := .int (d : Int)) (ev_at (es := [.str "got", .int (e : Int)]) (ev_var (hv _ rfl)) rfl) (ev_var (d := .int (d : Int)) rfl) rfl rfl rfl)).to (dec_nat (m := e) (n := d))).to (Bool.true_and _)
      have h2 : EvT K (pureA tb.T) (tAnd (tTest (tOp rEq (tOp (rIxT K) (tVar 0) (tC (.int 0))) (tC (.str "got")))) (tTest (tOp (rI0 fun i j => .bl (decide (j < i))) (tOp (rIxT K) (tVar 0) (tC (.int 1))) (tVar 1)))) [.dat (Part.got e).enc, .dat (.int (d : Int)), .dat (plan o)] (IsB (decide (d < e))) :=
        (et_and1 (et_gotB (ev_var (hv _ rfl))) fun _ => (et_test (ev_opI (ev_at (es := [.str "got", .int (e : Int)]) (ev_var (hv _ rfl)) rfl) (ev_var rfl) fun _ => .bl _)).to (by rw [Bool.eq_iff_iff]; simp)).to (Bool.true_and _)
      have hb : bringAct o (.got e) d = if e = d then raiseP o d 0 else if d < e then [.got (e - 1)] else [.got e] := rfl
      rw [hb]
      by_cases c1 : e = d
      · rw [decide_eq_true c1] at h1
        rw [if_pos c1]
        exact rn_left h1 (rn_ret1 (ev_callF (es := [plan o, .int (d : Int), .int ((0 : Nat) : Int)]) le (ea_one (ev_var rfl) (ea_one (ev_var rfl) (ea_one ev_int (ea_nil rfl)))) ⟨o, d, 0, ho, hc, rfl, rfl⟩) rfl)
      · rw [decide_eq_false c1] at h1
        rw [if_neg c1]
        refine rn_skip h1 ?_
        by_cases c2 : d < e
        · rw [decide_eq_true c2] at h2
          rw [if_pos c2]
          exact rn_left h2 (rn_oneG (e := e - 1) ((ev_opI (ev_at (es := [.str "got", .int (e : Int)]) (ev_var (hv _ rfl)) rfl) ev_int fun _ => .int _).eq (by rw [show ((e - 1 : Nat) : Int) = (e : Int) - 1 by omega])) rfl)
        · rw [decide_eq_false c2] at h2
          rw [if_neg c2]
          exact rn_skip h2 (rn_self (x := .got e) rfl rfl))
def f_brought (n m : Nat) : List PyData → PyData → Prop := fun es d => ∃ (p o : Pl), dpL p ≤ n ∧ cntL p ≤ 500 ∧ dpL o ≤ m ∧ cntL o ≤ 100 ∧ es = [plan p, plan o] ∧ d = plan (bringP p o)
theorem q_brought (M : Hd w K mg) (tb : Tb K mg base) (n m : Nat) : Cal P w K mg base (n + m + 6) "brought" (spD K (pureA tb.T) (gF (f_brought n m))) :=
  cal_dataT (t := fun cells => t_brought K (toN tb.T) (spN K (pureA tb.T) (nf_bring (cl_of_brought cells)) (fun o : { o : Pl // dpL o ≤ m ∧ cntL o ≤ 100 } => [plan o.1]) (fun o f => Gmap (bringAct o.1) n f)) cells) tb.dB sc_brought _ (by rintro as P' ⟨es, d, ⟨p, o, _, _, _, _, rfl, rfl⟩, rfl, rfl⟩; rfl) (fun _ _ _ _ _ _ _ us _ hl => match us, hl with | [_, _], _ => rfl)
    (fun f A' o s H E r => pr_brought M f A' o s H E tb.tB (tb.memN tb.mB) (tb.oneN tb.mB) (fun f c' h0 H0 ws C => (q_mapped (T := tb.T) (fa := f) (ka := m + 4) M n).impS fun vs H Q E ⟨i, us, e, h⟩ => ⟨⟨bringAct i.1, _, stabN, bring_len (Nat.le_trans (len_cnt _) i.2.2), a_bring M tb _ c' us i.1 i.2.1 (Nat.le_trans i.2.2 (by decide)) (e ▸ C)⟩, h⟩) (by omega) (Dfn.kept M.d_mapped) r) (by
    rintro cells as P' ⟨es, d, ⟨p, o, dp, cn, dq, cq, rfl, rfl⟩, rfl, rfl⟩
    exact rn_mkN ⟨o, dq, cq⟩ (i := 2) (as := fun f => [.dat (plan p), .dat (.int ((0 : Nat) : Int)), .raw (.ref f)]) (P := Is (plan (bringP p o))) (fun _ => rfl) (fun f => rfl) (fun f => ea_one (ev_var rfl) (ea_one ev_int (ea_raw rfl (ea_nil rfl)))) (fun f => ⟨p, 0, dp, cn, rfl, rfl⟩) fun d h => h)
/-! ### bound_to -/
theorem bind_len (w : Str) (x : Part) (d : Nat) : (bindAct w x d).length ≤ 100 := by
  unfold bindAct
  split
  · split <;> simp
  · simp
theorem a_bound (M : Hd w K mg) (cl : List (Str × Addr)) (c' : Addr) (us : List V) (v : Str) (C : CellsAt cl ["old"] (us.map some) h0 H0) : Actn P w K mg base 1 fa (fun c => ∃ y, (lf_bound cl c').cl.lookup y = some c) h0 (TkL K fa (lf_bound cl c') us [.tuple [.str "name", .str v]]) (spD K (pureA T) (Gact (bindAct v))) :=
  act_lam (N := ["part", "depth", "old"]) (ps := ["part", "depth"]) (fr := ["old"]) (nscope_by (sc := lamC l_bound) (by decide +kernel)) (fun _ _ us hl => match us, hl with | [_, _], _ => rfl) C _ (by rintro as P' ⟨x, d, _, rfl, rfl⟩; rfl)
    (fun A' o s H E r => pr_bound M _ _ _ A' o s H E r) (by
    rintro as P' ⟨x, d, hL, rfl, rfl⟩
    rw [← enc_name]
    have key : ∀ (b : Bool) (y : Part), PyData.eqv x.enc (Part.name v).enc = b → bindAct v x d = [y] → (b = true → y = .got d) → (b = false → y = x) → Ev K (pureA T) (t_bound K) [.dat x.enc, .dat (.int (d : Int)), .dat (Part.name v).enc] (Is (plan (bindAct v x d))) := fun b y h1 h2 h3 h4 => by
      rw [h2, plan_one]
      refine ev_tup1 (ed_one (ev_tup1 (ed_one ev_int (ed_one (ev_if (Pt := IsB b) ((et_test (ev_eqP (d := x.enc) (e := (Part.name v).enc) (ev_var rfl) (ev_var rfl) ?_)).to h1) (fun p => ?_) fun p => ?_) (ed_nil rfl))) (by show 2 ≤ 100000; decide)) (ed_nil rfl)) (by show 1 ≤ 100000; decide)
      · have := enc_depth.1 (.name v)
        rw [dp_name] at this
        omega
      · rw [h3 p.symm, enc_got]
        exact ev_tup1 (ed_one ev_str (ed_one (ev_var rfl) (ed_nil rfl))) (by show 2 ≤ 100000; decide)
      · rw [h4 p.symm]
        exact ev_var rfl
    cases x with
    | node _ _ _ => exact hL.elim
    | name u =>
      by_cases c : u = v
      · subst c
        refine key true (.got d) (PySem.SeqAt.eqv_refl_plain _ (enc_pl.1 _)) (if_pos rfl) (fun _ => rfl) fun z => nomatch z
      · refine key false (.name u) ?_ (if_neg c) (fun z => nomatch z) fun _ => rfl
        cases e : PyData.eqv (Part.name u).enc (Part.name v).enc with
        | false => rfl
        | true => exact absurd (Part.name.inj (eqv_enc.1 _ _ e)) c
    | got e =>
      refine key false (.got e) ?_ rfl (fun z => nomatch z) fun _ => rfl
      cases q : PyData.eqv (Part.got e).enc (Part.name v).enc with
      | false => rfl
      | true => exact absurd (eqv_enc.1 _ _ q) (fun z => nomatch z))
def f_bound_to (n : Nat) : List PyData → PyData → Prop := fun es d => ∃ (c : Nat) (v : Str) (p : Pl), dpL p ≤ n ∧ cntL p ≤ 500 ∧ es = [.str (door c), .tuple [.str "name", .str v], plan p] ∧ d = (Part.node true c (mapM (bindAct v) p 0)).enc
theorem q_bound_to (M : Hd w K mg) (tb : Tb K mg base) (n : Nat) : Cal P w K mg base (n + 3) "bound_to" (spD K (pureA tb.T) (gF (f_bound_to n))) :=
  cal_dataT (t := fun cells => t_bound_to K tb.T (spL' K (pureA tb.T) (lf_bound (cl_of_bound_to cells)) (fun v : Str => [.tuple [.str "name", .str v]]) (fun v f => Gmap (bindAct v) n f)) cells) tb.dM sc_bound_to _ (by rintro as P' ⟨es, d, ⟨c, v, p, _, _, rfl, rfl⟩, rfl, rfl⟩; rfl) (fun _ _ _ _ _ _ _ us _ hl => match us, hl with | [_, _, _], _ => rfl)
    (fun f A' o s H E r => pr_bound_to M f A' o s H E tb.tM tb.mM (tb.one tb.mM) (fun f c' h0 H0 ws C => (q_mapped (T := tb.T) (fa := f) (ka := 1) M n).impS fun vs H Q E ⟨i, us, e, h⟩ => ⟨⟨bindAct i, _, stabL, bind_len i, a_bound M _ c' us i (e ▸ C)⟩, h⟩) (by omega) (Dfn.kept M.d_mapped) r) (by
    rintro cells as P' ⟨es, d, ⟨c, v, p, dp, cn, rfl, rfl⟩, rfl, rfl⟩
    rw [enc_node]
    exact rn_ret1 (ev_tup1 (ed_one ev_str (ed_one (ev_var rfl) (ed_one (ev_mkL v (dp := plan p) (dd := .int ((0 : Nat) : Int)) (P := Is (plan (mapM (bindAct v) p 0))) (fun _ => rfl) rfl (ev_var rfl) ev_int (fun f => ⟨p, 0, dp, cn, rfl, rfl⟩) fun d h => h) (ed_nil rfl)))) (by show 3 ≤ 100000; decide)) rfl)
/-! ### roomy_brought -/
def f_roomy_brought (n m : Nat) : List PyData → PyData → Prop := fun es d => ∃ (r p o : Pl), dpL r ≤ n ∧ cntL r ≤ 500 ∧ dpL p ≤ n ∧ cntL p ≤ 40 ∧ dpL o ≤ m ∧ cntL o ≤ 40 ∧ dpL (r ++ bringP p o) ≤ n ∧ cntL (r ++ bringP p o) ≤ 5000 ∧ es = [plan r, plan p, plan o] ∧ d = plan (r ++ bringP p o)
theorem q_roomy_brought (M : Hd w K mg) (tb : Tb K mg base) (n m : Nat) (hn : n ≤ 62) (hm : m ≤ n) : Cal P w K mg base (n + m + 7) "roomy_brought" (spD K (pureA tb.T) (gF (f_roomy_brought n m))) :=
  cl_roomy_brought M _ (by rintro as P' ⟨es, d, ⟨r, p, o, _, _, _, _, _, _, _, _, rfl, rfl⟩, rfl, rfl⟩; rfl) (fun f cdv A' o s H E r => pr_roomy_brought M (q_items_in (T := tb.T) M n) (by omega) (q_gots (T := tb.T) M n hn) (by omega) (q_check_room (T := tb.T) M) (by omega) (q_brought M tb n m) (by omega) (q_roomy (T := tb.T) M n (by omega)) (by omega) f cdv A' o s H E r) (by
    rintro as P' ⟨es, d, ⟨r, p, o, d1, c1, d2, c2, d3, c3, d4, c4, rfl, rfl⟩, rfl, rfl⟩
    have l4 := len_cnt (r ++ bringP p o)
    rw [List.length_append] at l4
    have it : ∀ (i : Nat) (q : Pl) (ds : List SD), ds[i]? = some (.dat (plan q)) → dpL q ≤ n → cntL q ≤ 5000 → Ev K (pureA tb.T) (tCall (spD K (pureA tb.T) (gF (f_items n))) [] E0 (tCons (tVar i) tNil)) ds (Is (.int (cntL q : Int))) := fun i q ds h hd hc => ev_callF (es := [plan q]) le (ea_one (ev_var h) (ea_nil rfl)) ⟨q, hd, hc, rfl, rfl⟩
    refine rn_seq (M := fun ds => ds = [.dat (plan r), .dat (plan p), .dat (plan o)]) (rn_drop (ev_call (G := gF f_room) (P := Is .none) (Pa := fun as => ∃ i : Int, i ≤ 5000 ∧ as = [.dat (.int i)]) le (ea_cons (Pa := fun d => ∃ i : Int, d = .int i ∧ i ≤ 5000) ?_ fun d ⟨i, e, h⟩ => ea_nil ⟨i, h, by rw [e]⟩) fun as ⟨i, h, e⟩ => ⟨_, ⟨[.int i], .none, ⟨i, h, rfl, rfl⟩, e, rfl⟩, fun _ h => h⟩) rfl) fun ds e => ?_
    · refine ev_opP (f := fun i j => .int (i + j)) (Pa := fun i => i = (cntL r : Int) + (cntL p : Int)) (Pb := fun i => i ≤ 1560) (ev_intP (ev_opI (it 0 r _ rfl d1 (by omega)) (it 1 p _ rfl d2 (by omega)) fun _ => .int _) rfl) ?_ (fun _ _ _ => .int _) fun i j h1 h2 => ⟨_, rfl, by omega⟩
      refine ev_opPC (f := fun i j => .int (i * j)) (Pa := fun i => 0 ≤ i ∧ i ≤ 40) (Pb := fun i => i = (cntL o : Int) - 1) ?_ (ev_intP (ev_opI (it 2 o _ rfl (by omega) (by omega)) ev_int fun _ => .int _) rfl) (fun i j h1 h2 => ?_) (fun _ _ _ => .int _) fun i j h1 h2 => ⟨_, rfl, ?_⟩
      · exact (ev_call (G := g_gots n) (P := UpTo (cntL p)) (Pa := fun as => as = [.dat (plan p), .dat (.int ((0 : Nat) : Int))]) le (ea_one (ev_var rfl) (ea_one ev_int (ea_nil rfl))) fun as e => ⟨_, ⟨p, 0, d2, by omega, e, rfl⟩, fun d h => h⟩).imp fun d ⟨i, e, h1, h2⟩ => ⟨i, e, h1, by omega⟩
      · exact .inl ⟨by omega, by omega⟩
      · subst h2
        have : i * ((cntL o : Int) - 1) ≤ 40 * 39 := by
          rcases Int.le_total 0 ((cntL o : Int) - 1) with z | z
          · exact Int.mul_le_mul h1.2 (by omega) z (by omega)
          · have := Int.mul_nonpos_of_nonneg_of_nonpos h1.1 z
            omega
        omega
    · subst e
      exact rn_ret1 (ev_callF (es := [plan (r ++ bringP p o)]) le (ea_one ((ev_cat (es := encL r) (fs := encL (bringP p o)) (ev_var rfl) (ev_callF (es := [plan p, plan o]) le (ea_one (ev_var rfl) (ea_one (ev_var rfl) (ea_nil rfl))) ⟨p, o, d2, by omega, d3, by omega, rfl, rfl⟩) (by rw [encL_length, encL_length]; omega)).eq (by rw [← encL_append]; rfl)) (ea_nil rfl)) ⟨_, d4, c4, rfl, rfl⟩) rfl)
end
end K87
/-! What the defs do with data: folded, plain_of. -/
namespace K87
open PySem PySem.Spec PyProof.Rows L2
theorem dec_str {x y : Str} : decide (V.str x = V.str y) = decide (x = y) := by
  rw [Bool.eq_iff_iff]
  simp
theorem kw_mem (x : Part) (k : Bool) {K : PySem.W.Frag} {A : Amb} {ds : List SD} {te : TE} (h : Ev K A te ds (Is x.enc)) (hn : ∀ c p, x ≠ .node k c p) : EvT K A (tTest (tOp rEq (tOp (rIxT K) te (tC (.int 0))) (tC (.str (kw k))))) ds (IsB false) := by
  cases x with
  | name v => rw [enc_name] at h; exact et_str (ev_at h rfl) (by cases k <;> decide)
  | got v => rw [enc_got] at h; exact et_str (ev_at h rfl) (by cases k <;> decide)
  | node k' c p =>
    rw [enc_node] at h
    refine et_str (ev_at h rfl) (decide_eq_false fun z => ?_)
    have := kw_inj z
    subst this
    exact hn c p rfl
section
variable {P : Program} {w : World} {K : PySem.W.Frag} {mg : Str → Option Value} {base : Heap}
def f_folded : List PyData → PyData → Prop := fun es d => ∃ (c : Nat) (p : Pl), (∀ q, Part.node true c q ∉ p) ∧ cntL p ≤ 1000 ∧ es = [.str (door c), plan p] ∧ d = .tuple [.int 1, (Part.node true c p).enc]
theorem q_folded (M : Hd w K mg) (tb : Tb K mg base) : Cal P w K mg base 4 "folded" (spD K (pureA tb.T) (gF f_folded)) :=
  cl_folded M _ (by rintro as P' ⟨es, d, ⟨c, p, _, _, rfl, rfl⟩, rfl, rfl⟩; rfl) (fun f cdv A' o s H E r => pr_folded M (q_raised M tb 0) (Nat.le_refl _) f cdv A' o s H E r) (by
    rintro as P' ⟨es, d, ⟨c, p, hw, cn, rfl, rfl⟩, rfl, rfl⟩
    refine rn_forS (fun i ds => ∃ a b e, ds = [.dat (.str (door c)), .dat (plan p), a, b, e, .emp]) (ei_enum (l := encL p) (ev_var rfl)) ⟨.emp, .emp, .emp, rfl⟩ ?_ ?_
    · rintro i ds d hi ⟨a, b, e, rfl⟩ ⟨y, hy, rfl⟩
      rw [encL_get] at hy
      cases hx : p[i]? with
      | none => rw [hx] at hy; cases hy
      | some x =>
        rw [hx] at hy
        cases hy
        refine ⟨_, _, eg_tup (egs_cons eg_name (egs_cons eg_item egs_nil)) rfl, rn_if (Pb := IsB false) ?_ (fun z => nomatch z) fun _ => rn_next ⟨_, _, _, rfl⟩⟩
        by_cases hk : ∃ cc q, x = .node true cc q
        · obtain ⟨cc, q, rfl⟩ := hk
          have ne : door cc ≠ door c := fun z => hw q (door_inj z ▸ List.mem_of_getElem? hx)
          have ev : Ev K (pureA tb.T) (tVar 4) [.dat (.str (door c)), .dat (plan p), .dat (.int (i : Int)), .dat (.int 1), .dat (Part.node true cc q).enc, .emp] (Is (.tuple [.str (kw true), .str (door cc), plan q])) := ev_var (by rw [← enc_node]; rfl)
          exact et_and1 (a := true) (b := false) (et_str (ev_at ev rfl) (by decide)) fun _ => (et_test (ev_eqS (c := .str (door cc)) (d := .str (door c)) (ev_at ev rfl) (ev_var (i := 0) (d := .str (door c)) rfl) rfl rfl rfl)).to (dec_str.trans (decide_eq_false ne))
        · exact et_and (Pt := IsB false) (kw_mem x true (ev_var rfl) fun c p z => hk ⟨c, p, z⟩) (fun z => nomatch z) fun _ => rfl
    · rintro ds ⟨a, b, e, rfl⟩
      rw [enc_node]
      exact rn_ret1 (ev_tup1 (ed_one ev_int (ed_one (ev_tup1 (ed_one ev_str (ed_one (ev_var rfl) (ed_one (ev_var rfl) (ed_nil rfl)))) (by show 3 ≤ 100000; decide)) (ed_nil rfl))) (by show 2 ≤ 100000; decide)) rfl)
def f_plain (n : Nat) : List PyData → PyData → Prop := fun es d => ∃ (p : Pl) (k : Nat), okL k p ∧ dpL p ≤ n ∧ cntL p ≤ 1000 ∧ es = [plan p] ∧ d = plan (plainL p)
def f_plain_lt (n : Nat) : List PyData → PyData → Prop := fun es d => ∃ (p : Pl) (k : Nat), okL k p ∧ dpL p < n ∧ cntL p ≤ 1000 ∧ es = [plan p] ∧ d = plan (plainL p)
theorem plain_tags (p : Pl) : (p.map Part.plain).map Part.tag = p.map Part.tag := by
  rw [List.map_map]
  exact List.map_congr_left fun x _ => tag_plain x
theorem dpL_map (p : Pl) : dpL (p.map Part.plain) = dpL p := by
  induction p with
  | nil => rfl
  | cons x r ih => rw [List.map_cons, dpL_cons, dpL_cons, ih, dp_plain.1]
theorem cntL_mapP (p : Pl) : cntL (p.map Part.plain) = cntL p := by
  induction p with
  | nil => rfl
  | cons x r ih => rw [List.map_cons, cntL_cons, cntL_cons, ih, cnt_plain.1]
theorem encL_snoc (l : Pl) (x : Part) : encL (l ++ [x]) = encL l ++ [itm x] := by rw [encL_append, encL_cons, encL_nil]
theorem take_map {α β : Type} (f : α → β) {l : List α} {i : Nat} {x : α} (h : l[i]? = some x) : (l.take (i + 1)).map f = (l.take i).map f ++ [f x] := by
  rw [List.take_add_one, h, List.map_append]
  rfl
theorem i_plain (M : Hd w K mg) (tb : Tb K mg base) {n j : Nat} (hn : n ≤ 62) (hj : 2 * n + 5 ≤ j) (c : Cal P w K mg base j "plain_of" (spD K (pureA tb.T) (gF (f_plain_lt n)))) : Cal P w K mg base (j + 1) "plain_of" (spD K (pureA tb.T) (gF (f_plain n))) :=
  cl_plain_of M _ (by rintro as P' ⟨es, d, ⟨p, k, _, _, _, rfl, rfl⟩, rfl, rfl⟩; rfl) (fun f cdv A' o s H E r => pr_plain_of M c (Nat.le_refl _) (q_folded M tb) (by omega) (q_sorted_items M tb n hn) hj f cdv A' o s H E r) (by
    rintro as P' ⟨es, d, ⟨p, k, ok, dp, cn, rfl, rfl⟩, rfl, rfl⟩
    have hlp := len_cnt p
    refine rn_asgLS (P := fun es => es = []) (el_lst (Pd := fun es => es = []) (ed_nil rfl) fun es e => ⟨by rw [e]; exact Nat.zero_le _, e⟩) fun es e => ?_
    subst e
    refine rn_forS (fun i ds => ∃ a b c e, ds = [.dat (plan p), .own (encL ((p.take i).map Part.plain)), a, b, c, e]) (ei_plan (ev_var rfl)) ⟨.emp, .emp, .emp, .emp, by rw [List.take_zero, List.map_nil, encL_nil]; rfl⟩ ?_ ?_
    · rintro i ds d hi ⟨a, b, c', e', rfl⟩ ⟨x, hx, rfl⟩
      have hm := List.mem_of_getElem? hx
      have hel : (encL ((p.take i).map Part.plain)).length ≤ 1000 := by rw [encL_length, List.length_map, List.length_take]; omega
      have hs := take_map Part.plain hx
      have okx := ok.1 x hm
      refine ⟨_, _, eg_item, ?_⟩
      cases x with
      | name v => exact (ok_name okx).elim
      | got v =>
        refine rn_if (Pb := IsB false) (kw_mem (.got v) false (ev_var rfl) fun c p z => nomatch z) (fun z => nomatch z) fun _ => ?_
        refine rn_if (Pb := IsB false) (kw_mem (.got v) true (ev_var rfl) fun c p z => nomatch z) (fun z => nomatch z) fun _ => ?_
        refine rn_app (es := encL ((p.take i).map Part.plain)) (P := Is (itm (.got v))) rfl (ev_tup1 (es := [.int 1, (Part.got v).enc]) (ed_one (ev_var rfl) (ed_one (ev_var rfl) (ed_nil rfl))) (by show 2 ≤ 100000; decide)) (by omega) fun y e => ⟨.dat (.int 1), .dat (Part.got v).enc, noOwn c', noOwn e', ?_⟩
        have e : y = _ := e
        rw [e, hs, encL_snoc, plain_got]
        rfl
      | node kk cc q =>
        have hd := dpL_le.mp dp _ hm
        rw [dp_node] at hd
        have hc := cnt_mem hm
        rw [cnt_node] at hc
        obtain ⟨_, okq, hw⟩ := ok_node.mp okx
        have call : ∀ (ds : List SD), ds[3]? = some (.dat (.tuple [.str (kw kk), .str (door cc), plan q])) → Ev K (pureA tb.T) (tCall (spD K (pureA tb.T) (gF (f_plain_lt n))) [] E0 (tCons (tOp (rIxT K) (tVar 3) (tC (.int 2))) tNil)) ds (Is (plan (plainL q))) := fun ds h => ev_callF (es := [plan q]) le (ea_one (ev_at (ev_var h) rfl) (ea_nil rfl)) ⟨q, _, okq, by omega, by omega, rfl, rfl⟩
        rw [enc_node]
        cases kk with
        | false =>
          refine rn_if (Pb := IsB true) (et_str (ev_at (ev_var rfl) rfl) (by decide)) (fun _ => ?_) fun z => nomatch z
          refine rn_app (es := encL ((p.take i).map Part.plain)) (P := Is (itm (.node false cc (plainL q)))) rfl ?_ (by omega) fun y e => ⟨.dat (.int 1), .dat (.tuple [.str (kw false), .str (door cc), plan q]), noOwn c', noOwn e', ?_⟩
          · unfold itm
            rw [enc_node]
            exact ev_tup1 (ed_one (ev_var rfl) (ed_one (ev_tup1 (ed_one ev_str (ed_one (ev_at (ev_var rfl) rfl) (ed_one (call _ rfl) (ed_nil rfl)))) (by show 3 ≤ 100000; decide)) (ed_nil rfl))) (by show 2 ≤ 100000; decide)
          · have e : y = _ := e
            rw [e, hs, encL_snoc, plain_node]
            rfl
        | true =>
          refine rn_if (Pb := IsB false) (et_str (ev_at (ev_var rfl) rfl) (by decide)) (fun z => nomatch z) fun _ => ?_
          refine rn_if (Pb := IsB true) (et_str (ev_at (ev_var rfl) rfl) (by decide)) (fun _ => ?_) fun z => nomatch z
          have hw2 : ∀ q', Part.node true cc q' ∉ plainL q := fun q' hq => by
            obtain ⟨q2, h2⟩ := plain_mem hq
            exact hw rfl q2 h2
          refine rn_seq (M := fun ds => ds = [.dat (plan p), .own (encL ((p.take i).map Part.plain)), .dat (.int 1), .dat (.tuple [.str (kw true), .str (door cc), plan q]), .dat (.int 1), .dat (Part.node true cc (plainL q)).enc]) (rn_asgG (P := Is (.tuple [.int 1, (Part.node true cc (plainL q)).enc])) (ev_callF (es := [.str (door cc), plan (plainL q)]) le (ea_one (ev_at (ev_var rfl) rfl) (ea_one (call _ rfl) (ea_nil rfl))) ⟨cc, plainL q, hw2, by rw [cnt_plain.2]; omega, rfl, rfl⟩) fun d e => ⟨_, by rw [e]; exact eg_pair, rfl⟩) fun ds e => ?_
          subst e
          refine rn_app (es := encL ((p.take i).map Part.plain)) (P := Is (itm (.node true cc (plainL q)))) rfl ?_ (by omega) fun y e => ⟨.dat (.int 1), .dat (.tuple [.str (kw true), .str (door cc), plan q]), .dat (.int 1), .dat (Part.node true cc (plainL q)).enc, ?_⟩
          · exact ev_tup1 (es := [.int 1, (Part.node true cc (plainL q)).enc]) (ed_one (ev_opC (ev_var rfl) (ev_var rfl) cmul_one fun _ => .int _) (ed_one (ev_var rfl) (ed_nil rfl))) (by show 2 ≤ 100000; decide)
          · have e : y = _ := e
            rw [e, hs, encL_snoc, plain_node]
            rfl
    · rintro ds ⟨a, b, c', e', rfl⟩
      rw [List.take_length]
      exact rn_ret1 (ev_call (G := g_sorted n) (Pa := fun as => as = [.lst (encL (p.map Part.plain))]) le (ea_lst (Pa := fun es => es = encL (p.map Part.plain)) (er_own rfl) fun d e => ea_nil (by rw [e])) fun as e => ⟨_, ⟨p.map Part.plain, by rw [plain_tags]; exact ok.2, by rw [dpL_map]; exact dp, by rw [cntL_mapP]; exact cn, e, rfl⟩, fun _ h => h⟩) rfl)
theorem q_plain (M : Hd w K mg) (tb : Tb K mg base) : ∀ n, n ≤ 62 → Cal P w K mg base (2 * n + 6) "plain_of" (spD K (pureA tb.T) (gF (f_plain n)))
  | 0, _ => i_plain M tb (n := 0) (j := 5) (by omega) (by omega) ((cal_void M.d_plain_of sc_plain_of (fun _ _ _ _ _ _ _ us _ hl => match us, hl with | [_], _ => rfl) 5).imp fun as P' ⟨es, d, ⟨p, k, _, z, _⟩, _⟩ => absurd z (Nat.not_lt_zero _))
  | n + 1, h => i_plain M tb (n := n + 1) (j := 2 * n + 7) h (by omega) (((q_plain M tb n (by omega)).mono (by omega)).imp fun as P' ⟨es, d, ⟨p, k, h1, z, h2⟩, h3⟩ => ⟨es, d, ⟨p, k, h1, by omega, h2⟩, h3⟩)
end
end K87
/-! What the defs do with data: machines and standings. -/
namespace K87
open PySem PySem.Spec PyProof.Rows L2
/-! ### data of machines -/
def Ins.encI : Ins → PyData
  | .halt => .tuple [.str "halt"]
  | .up r n => .tuple [.str "up", .int (r : Int), .int (n : Int)]
  | .dn r n o => .tuple [.str "down", .int (r : Int), .int (n : Int), .int (o : Int)]
def natD (n : Nat) : PyData := .int (n : Int)
def encM (m : List Ins) : PyData := .tuple (m.map Ins.encI)
def encNs (ns : List Nat) : PyData := .tuple (ns.map natD)
def encSt (s : Nat × List Nat) : PyData := .tuple [.int (s.1 : Int), encNs s.2]
/-- a standing of a machine, numbers of any size -/
structure MS (m : List Ins) (s : Nat × List Nat) : Prop where
  mok : Mach m
  at_ : s.1 < m.length
  n : s.2.length = 4
theorem at_nat {α : Type} (l : List α) (n : Nat) : atI l (n : Int) = l[n]? := by
  unfold atI ixN
  rw [if_pos (by omega)]
  by_cases h : n < l.length
  · rw [if_pos (by omega)]
    rfl
  · rw [if_neg (by omega), List.getElem?_eq_none (by omega)]
    rfl
theorem cut_to (l : List PyData) (k : Nat) : cutD l none (some (k : Int)) = l.take k := by
  unfold cutD
  rw [HT.sIx_none, HT.sIx_nat, List.drop_zero, Nat.sub_zero]
  by_cases h : k ≤ l.length
  · rw [Nat.min_eq_left h]
  · rw [Nat.min_eq_right (by omega), List.take_length, List.take_of_length_le (by omega)]
theorem cut_from (l : List PyData) (k : Nat) : cutD l (some (k : Int)) none = l.drop k := by
  unfold cutD
  rw [HT.sIx_none, HT.sIx_nat]
  by_cases h : k ≤ l.length
  · rw [Nat.min_eq_left h, List.take_of_length_le (by rw [List.length_drop]; omega)]
  · rw [Nat.min_eq_right (by omega), List.drop_length, List.drop_of_length_le (by omega), List.take_nil]
section
variable {K : PySem.W.Frag} {A : Amb} {ds : List SD} {Po : Post} {te tb : TE} {t u : TS} {tc : TT}
/-- all([.. for .. in ..]) of what is true -/
theorem ev_allT {wi : TI} {g : TG} {ws js : List Nat} {l : List PyData} {m : Nat} {Y : Nat → PyData → Prop} (h : EvI K A wi ds m Y) (hY : ∀ i d, i < m → Y i d → l[i]? = some d) (hm : l.length = m) (hz : m ≤ 100000) (hj : ∀ j ∈ js, j ∈ ws)
    (hs : ∀ d, d ∈ l → ∃ fs, EvG K A g js d (wipeD ds ws) fs ∧ Ev K A te fs (Is (.bool true))) : Ev K A (tCB (rAll K) (tCons (tLc wi g tYes te ws) tNil)) ds (Is (.bool true)) :=
  ev_all (Pn := fun bs => bs = l.map fun _ => true) ((er_new (el_map (l := l) (fun _ => .bool true) h hY hm hz hj hs)).imp fun r hr => ⟨l.map fun _ => true, by rw [hr, List.map_map]; rfl, rfl⟩) fun ns e => by
    subst e
    refine congrArg PyData.bool ?_
    rw [List.all_map, List.all_eq_true]
    intro _ _
    rfl
theorem et_neN {a b : Nat} {c : Bool} (ha : Ev K A te ds (Is (.int (a : Int)))) (hb : Ev K A tb ds (Is (.int (b : Int)))) (e : decide (a = b) = c) : EvT K A (tTest (tOp rNe te tb)) ds (IsB (!c)) :=
  (et_test (ev_neS ha hb rfl rfl rfl)).to (congrArg (!·) (dec_nat.trans e))
theorem et_neStr {x y : Str} {b : Bool} (h : Ev K A te ds (Is (.str x))) (e : decide (x = y) = b) : EvT K A (tTest (tOp rNe te (tC (.str y)))) ds (IsB (!b)) :=
  (et_test (ev_neS h ev_str rfl rfl rfl)).to (congrArg (!·) (dec_str.trans e))
/-- comparisons of numbers -/
theorem et_lt {i j : Int} (ha : Ev K A te ds (Is (.int i))) (hb : Ev K A tb ds (Is (.int j))) : EvT K A (tTest (tOp (rI0 fun i j => .bl (decide (j < i))) te tb)) ds (IsB (decide (j < i))) :=
  et_test (ev_opI ha hb fun _ => .bl _)
theorem et_le {i j : Int} (ha : Ev K A te ds (Is (.int i))) (hb : Ev K A tb ds (Is (.int j))) : EvT K A (tTest (tOp (rI0 fun i j => .bl (decide (j ≤ i))) te tb)) ds (IsB (decide (j ≤ i))) :=
  et_test (ev_opI ha hb fun _ => .bl _)
theorem ev_add {i j : Int} (ha : Ev K A te ds (Is (.int i))) (hb : Ev K A tb ds (Is (.int j))) : Ev K A (tOp (rI0 fun i j => .int (i + j)) te tb) ds (Is (.int (i + j))) := ev_opI ha hb fun _ => .int _
theorem ev_sub {i j : Int} (ha : Ev K A te ds (Is (.int i))) (hb : Ev K A tb ds (Is (.int j))) : Ev K A (tOp (rI0 fun i j => .int (i - j)) te tb) ds (Is (.int (i - j))) := ev_opI ha hb fun _ => .int _
/-- t[k], k a number that is read -/
theorem ev_atN {es : List PyData} {k : Nat} {d : PyData} (h : Ev K A te ds (Is (.tuple es))) (hb : Ev K A tb ds (Is (.int (k : Int)))) (e : es[k]? = some d) : Ev K A (tOp (rIxT K) te tb) ds (Is d) := ev_ixT h hb (by rw [at_nat]; exact e)
end
theorem encM_get {m : List Ins} {a : Nat} {i : Ins} (h : m[a]? = some i) : (m.map Ins.encI)[a]? = some i.encI := by rw [List.getElem?_map, h]; rfl
section
variable {P : Program} {w : World} {K : PySem.W.Frag} {mg : Str → Option Value} {base : Heap} {T : List (Addr × Str)}
def g_listed : Gd := fun as P => ∃ es, as = [.lst es] ∧ P = Is (.bool true)
theorem q_is_listed (M : Hd w K mg) : Cal P w K mg base 1 "is_listed" (spD K (pureA T) g_listed) :=
  cl_is_listed M _ (by rintro as P' ⟨es, rfl, rfl⟩; rfl) (fun f cdv A' o s H E r => pr_is_listed M f cdv A' o s H E r) (by
    rintro as P' ⟨es, rfl, rfl⟩
    exact rn_ret1 (ev_isi2L (es := es) (er_lst rfl) rfl rfl) rfl)
/-- is_within of naturals below a bound -/
theorem w_below {r n : Nat} (h : r < n) : f_within [.int (r : Int), .int 0, .int ((n : Int) - 1)] = some (.bool true) := by
  show some (PyData.bool _) = _
  rw [decide_eq_true (show (0 : Int) ≤ r by omega), decide_eq_true (show (r : Int) ≤ (n : Int) - 1 by omega)]
  rfl
theorem regs_len : (c_REGISTERS.length : Int) = ((4 : Nat) : Int) := by decide
def f_instruction : List PyData → PyData → Prop := fun es d => ∃ (i : Ins) (l : Nat), i.good l ∧ es = [i.encI, .int (l : Int)] ∧ d = .bool true
theorem ev_below {te tb : TE} {A : Amb} {ds : List SD} {r n : Nat} {j : Int} (hA : Le (pureA T) A) (h : r < n) (ha : Ev K A te ds (Is (.int (r : Int)))) (hb : Ev K A tb ds (Is (.int j))) (e : j = (n : Int)) : Ev K A (tCall (spD K (pureA T) (gO f_within)) [] E0 (tCons te (tCons (tC (.int 0)) (tCons (tOp (rI0 fun i j => .int (i - j)) tb (tC (.int 1))) tNil)))) ds (Is (.bool true)) := by
  subst e
  exact ev_callF (es := [.int (r : Int), .int 0, .int ((n : Int) - 1)]) hA (ea_one ha (ea_one ev_int (ea_one (ev_sub hb ev_int) (ea_nil rfl)))) (w_below h)
theorem q_is_instruction (M : Hd w K mg) : Cal P w K mg base 3 "is_instruction" (spD K (pureA T) (gF f_instruction)) :=
  cl_is_instruction M _ (by rintro as P' ⟨es, d, ⟨i, l, _, rfl, rfl⟩, rfl, rfl⟩; rfl) (fun f cdv A' o s H E r => pr_is_instruction M (q_is_within (T := T) M) (Nat.le_refl _) f cdv A' o s H E r) (by
    rintro as P' ⟨es, d, ⟨i, l, g, rfl, rfl⟩, rfl, rfl⟩
    have go : ∀ (word : Str) (rest : List PyData) (z : Int), i.encI = .tuple (.str word :: rest) → (word, z) ∈ v_LENGTHS → z = ((1 + rest.length : Nat) : Int) → (∀ d ∈ rest, ∃ n : Nat, d = .int (n : Int)) → (∀ d, rest[0]? = some d → ∃ r : Nat, r < 4 ∧ d = .int (r : Int)) → (∀ d ∈ rest.drop 1, ∃ r : Nat, r < l ∧ d = .int (r : Int)) → rest.length ≤ 3 →
        Rn K (pureA T) (t_is_instruction K (spD K (pureA T) (gO f_within))) [.dat (.tuple (.str word :: rest)), .dat (.int (l : Int)), .emp] (retD (Is (.bool true))) := by
      intro word rest z e hz hl hn h0 h1 h3
      refine rn_skip (et_or1 (a := false) (b := false) (et_not1 (a := true) (et_B (ev_isi (ev_var rfl) rfl))) fun _ => et_or1 (a := false) (b := false) (et_len 0 (ev_var rfl) rfl) fun _ => et_not1 (a := true) (et_B (ev_isi (ev_at (ev_var rfl) (at_zero _ _)) rfl))) ?_
      refine rn_skip (et_neN (a := 1 + rest.length) (b := 1 + rest.length) (c := true) ((ev_dk (ev_at (ev_var rfl) (at_zero _ _)) hz).eq (by rw [hl])) ((ev_lenT (ev_var rfl)).eq (by rw [List.length_cons, Nat.add_comm])) (by simp)) ?_
      refine rn_skip (et_and (Pt := IsB (decide ((1 : Int) < ((.str word :: rest : List PyData).length : Nat)))) (et_lt (ev_lenT (ev_var rfl)) ev_int) (fun hp => ?_) fun _ => rfl) ?_
      · cases rest with
        | nil => exact absurd hp.symm (by simp)
        | cons d rest =>
          obtain ⟨r, hr, rfl⟩ := h0 d rfl
          exact et_not1 (a := true) (et_B (ev_below le hr (ev_at (ev_var rfl) (at_one _ _ _)) (ev_lenS ev_str (by decide)) regs_len))
      · refine rn_ret1 (ev_allT (js := [2]) (l := rest.drop 1) (ei_tup (l := rest.drop 1) ((ev_slT (ev_var rfl) (eo_some ev_int) eo_none).eq (congrArg PyData.tuple (cut_from _ 2)))) (fun i d _ h => h) rfl (by rw [List.length_drop]; omega) (fun j hj => hj) fun d hd => ?_) rfl
        obtain ⟨r, hr, rfl⟩ := h1 d hd
        exact ⟨_, eg_name, ev_below le hr (ev_var rfl) (ev_var rfl) rfl⟩
    cases i with
    | halt => exact go "halt" [] 1 rfl (by unfold v_LENGTHS; simp) rfl (fun d hd => nomatch hd) (fun d hd => nomatch hd) (fun d hd => nomatch hd) (by simp)
    | up r n =>
      obtain ⟨g1, g2⟩ := g
      exact go "up" [.int (r : Int), .int (n : Int)] 3 rfl (by unfold v_LENGTHS; simp) rfl (fun d hd => by
        rcases List.mem_cons.mp hd with z | z
        · exact ⟨r, z⟩
        · exact ⟨n, List.mem_singleton.mp z⟩) (fun d hd => ⟨r, g1, (Option.some.inj hd).symm⟩) (fun d hd => ⟨n, g2, List.mem_singleton.mp hd⟩) (by simp)
    | dn r n o =>
      obtain ⟨g1, g2, g3⟩ := g
      exact go "down" [.int (r : Int), .int (n : Int), .int (o : Int)] 4 rfl (by unfold v_LENGTHS; simp) rfl (fun d hd => by
        rcases List.mem_cons.mp hd with z | z
        · exact ⟨r, z⟩
        · rcases List.mem_cons.mp z with z | z
          · exact ⟨n, z⟩
          · exact ⟨o, List.mem_singleton.mp z⟩) (fun d hd => ⟨r, g1, (Option.some.inj hd).symm⟩) (fun d hd => by
        rcases List.mem_cons.mp hd with z | z
        · exact ⟨n, g2, z⟩
        · exact ⟨o, g3, List.mem_singleton.mp z⟩) (by simp))
def f_machine : List PyData → PyData → Prop := fun es d => ∃ m : List Ins, Mach m ∧ es = [encM m] ∧ d = .bool true
theorem q_is_machine (M : Hd w K mg) : Cal P w K mg base 4 "is_machine" (spD K (pureA T) (gF f_machine)) :=
  cl_is_machine M _ (by rintro as P' ⟨es, d, ⟨m, _, rfl, rfl⟩, rfl, rfl⟩; rfl) (fun f cdv A' o s H E r => pr_is_machine M (q_is_instruction (T := T) M) (Nat.le_refl _) f cdv A' o s H E r) (by
    rintro as P' ⟨es, d, ⟨m, mok, rfl, rfl⟩, rfl, rfl⟩
    have hlen : (m.map Ins.encI).length = m.length := List.length_map _
    have ev1 : Ev K (pureA T) (tCB (rLenSeq K) (tCons (tVar 0) tNil)) [.dat (encM m), .emp] (Is (.int (m.length : Int))) := (ev_lenT (es := m.map Ins.encI) (ev_var rfl)).eq (by rw [hlen])
    have p1 := mok.pos
    have p2 := mok.le
    refine rn_skip (et_or1 (a := false) (b := false) (et_not1 (a := true) (et_B (ev_isi (ev_var rfl) rfl))) fun _ => et_not1 (a := true) (et_testP (ev_chain (a := true) ev_int ev1 (fun H Q q => ⟨_, _, rfl, rfl, by
      show Q (V.bl (decide ((1 : Int) ≤ (m.length : Int)))) H
      rw [decide_eq_true (show (1 : Int) ≤ m.length by omega)]
      exact q⟩) (fun _ => ⟨12, true, ev_int, fun H Q q => ⟨_, _, rfl, rfl, by
      show Q (V.bl (decide ((m.length : Int) ≤ 12))) H
      rw [decide_eq_true (show (m.length : Int) ≤ 12 by omega)]
      exact q⟩, rfl⟩) fun z => nomatch z))) ?_
    refine rn_ret1 (ev_allT (js := [1]) (l := m.map Ins.encI) (ei_tup (l := m.map Ins.encI) (ev_var rfl)) (fun i d _ h => h) rfl (by rw [hlen]; omega) (fun j hj => hj) fun d hd => ?_) rfl
    obtain ⟨i, hi, rfl⟩ := List.mem_map.mp hd
    refine ⟨_, eg_name, ev_callF (es := [i.encI, .int (m.length : Int)]) le (ea_one (ev_var rfl) (ea_one ((ev_lenT (es := m.map Ins.encI) (ev_var rfl)).eq (by rw [hlen])) (ea_nil rfl))) ⟨i, m.length, mok.good i hi, rfl, rfl⟩⟩)
def f_standing : List PyData → PyData → Prop := fun es d => ∃ (m : List Ins) (s : Nat × List Nat), MS m s ∧ es = [encM m, encSt s] ∧ d = .bool true
theorem q_is_standing (M : Hd w K mg) : Cal P w K mg base 3 "is_standing" (spD K (pureA T) (gF f_standing)) :=
  cl_is_standing M _ (by rintro as P' ⟨es, d, ⟨m, s, _, rfl, rfl⟩, rfl, rfl⟩; rfl) (fun f cdv A' o s H E r => pr_is_standing M (q_is_pair (T := T) M) (by omega) (q_is_within (T := T) M) (by omega) (q_is_integer (T := T) M) (by omega) f cdv A' o s H E r) (by
    rintro as P' ⟨es, d, ⟨m, s, ms, rfl, rfl⟩, rfl, rfl⟩
    have hlen : (m.map Ins.encI).length = m.length := List.length_map _
    have h4 : (s.2.map natD).length = 4 := by rw [List.length_map]; exact ms.n
    refine rn_skip (et_or1 (a := false) (b := false) (et_not1 (a := true) (et_B (ev_callF (es := [encSt s]) le (ea_one (ev_var rfl) (ea_nil rfl)) rfl))) fun _ => et_not1 (a := true) (et_B (ev_below (n := m.length) le ms.at_ (ev_at (es := [.int (s.1 : Int), encNs s.2]) (ev_var rfl) rfl) (ev_lenT (es := m.map Ins.encI) (ev_var rfl)) (by rw [hlen])))) ?_
    refine rn_skip (et_or1 (a := false) (b := false) (et_not1 (a := true) (et_B (ev_isi (ev_at (es := [.int (s.1 : Int), encNs s.2]) (ev_var rfl) rfl) rfl))) fun _ => et_neN (c := true) (ev_lenT (es := s.2.map natD) (ev_at (es := [.int (s.1 : Int), encNs s.2]) (ev_var rfl) rfl)) ((ev_lenS ev_str (by decide)).eq (congrArg PyData.int regs_len)) (by rw [h4]; rfl)) ?_
    refine rn_ret1 (ev_allT (js := [2]) (l := s.2.map natD) (ei_tup (l := s.2.map natD) (ev_at (es := [.int (s.1 : Int), encNs s.2]) (ev_var rfl) rfl)) (fun i d _ h => h) rfl (by rw [h4]; omega) (fun j hj => hj) fun d hd => ?_) rfl
    obtain ⟨i, hi, rfl⟩ := List.mem_map.mp hd
    exact ⟨_, eg_name, ev_andV (a := true) (b := true) (ev_callF (es := [.int (i : Int)]) le (ea_one (ev_var rfl) (ea_nil rfl)) rfl) fun _ => (ev_opI (i := (i : Int)) (j := 0) (c := .bool (decide ((0 : Int) ≤ i))) (ev_var rfl) ev_int fun _ => .bl _).eq (congrArg PyData.bool (decide_eq_true (by omega)))⟩)
def f_check_machine : List PyData → PyData → Prop := fun es d => ∃ m : List Ins, Mach m ∧ es = [encM m] ∧ d = .none
theorem q_check_machine (M : Hd w K mg) : Cal P w K mg base 5 "check_machine" (spD K (pureA T) (gF f_check_machine)) :=
  cl_check_machine M _ (by rintro as P' ⟨es, d, ⟨m, _, rfl, rfl⟩, rfl, rfl⟩; rfl) (fun f cdv A' o s H E r => pr_check_machine M (q_is_machine (T := T) M) (Nat.le_refl _) f cdv A' o s H E r) (by
    rintro as P' ⟨es, d, ⟨m, mok, rfl, rfl⟩, rfl, rfl⟩
    exact rn_if (Pb := IsB false) (et_not1 (a := true) (et_B (ev_callF (es := [encM m]) le (ea_one (ev_var rfl) (ea_nil rfl)) ⟨m, mok, rfl, rfl⟩))) (fun z => nomatch z) fun _ => rn_next rfl)
def f_check_both : List PyData → PyData → Prop := fun es d => ∃ (m : List Ins) (s : Nat × List Nat), MS m s ∧ es = [encM m, encSt s] ∧ d = .none
theorem q_check_both (M : Hd w K mg) : Cal P w K mg base 6 "check_both" (spD K (pureA T) (gF f_check_both)) :=
  cl_check_both M _ (by rintro as P' ⟨es, d, ⟨m, s, _, rfl, rfl⟩, rfl, rfl⟩; rfl) (fun f cdv A' o s H E r => pr_check_both M (q_check_machine (T := T) M) (by omega) (q_is_standing (T := T) M) (by omega) f cdv A' o s H E r) (by
    rintro as P' ⟨es, d, ⟨m, s, ms, rfl, rfl⟩, rfl, rfl⟩
    refine rn_seq (M := fun ds => ds = [.dat (encM m), .dat (encSt s)]) (rn_drop (P := Is .none) (ev_callF (es := [encM m]) le (ea_one (ev_var rfl) (ea_nil rfl)) ⟨m, ms.mok, rfl, rfl⟩) rfl) ?_
    rintro ds rfl
    exact rn_if (Pb := IsB false) (et_not1 (a := true) (et_B (ev_callF (es := [encM m, encSt s]) le (ea_one (ev_var rfl) (ea_one (ev_var rfl) (ea_nil rfl))) ⟨m, s, ms, rfl, rfl⟩))) (fun z => nomatch z) fun _ => rn_next rfl)
end
end K87
/-! What the defs do with data: steps. -/
namespace K87
open PySem PySem.Spec PyProof.Rows L2
/-! ### the plain law of steps -/
def nx (m : List Ins) (s : Nat × List Nat) : Nat × List Nat := nextS m s.1 s.2
def itF (m : List Ins) : Nat → Nat × List Nat → Nat × List Nat
  | 0, s => s
  | k + 1, s => itF m k (nx m s)
def cost : Ins → Nat
  | .halt => 0
  | .up _ _ => 2
  | .dn _ _ _ => 4
def Ins.word : Ins → Str
  | .halt => "halt"
  | .up _ _ => "up"
  | .dn _ _ _ => "down"
/-- from s by l meetings: the standing s', left meetings since, k steps -/
inductive Told (m : List Ins) : Nat → Nat × List Nat → Nat × List Nat → Nat → Nat → Prop
  | halt {l : Nat} {s : Nat × List Nat} : m[s.1]? = some .halt → Told m l s s (min l 1) 0
  | stop {l : Nat} {s : Nat × List Nat} {i : Ins} : m[s.1]? = some i → i ≠ .halt → l < cost i → Told m l s s l 0
  | step {l : Nat} {s s' : Nat × List Nat} {i : Ins} {left k : Nat} : m[s.1]? = some i → i ≠ .halt → cost i ≤ l → Told m (l - cost i) (nx m s) s' left k → Told m l s s' left (k + 1)
theorem nextS_halt {m : List Ins} {a : Nat} {ns : List Nat} (h : m[a]? = some .halt) : nextS m a ns = (a, ns) := by unfold nextS; rw [h]
theorem nextS_up {m : List Ins} {a r n : Nat} {ns : List Nat} (h : m[a]? = some (.up r n)) : nextS m a ns = (n, ns.set r (ns.getD r 0 + 1)) := by unfold nextS; rw [h]
theorem nextS_dn {m : List Ins} {a r n o : Nat} {ns : List Nat} (h : m[a]? = some (.dn r n o)) : nextS m a ns = if ns.getD r 0 = 0 then (o, ns) else (n, ns.set r (ns.getD r 0 - 1)) := by unfold nextS; rw [h]
theorem MS.get {m : List Ins} {s : Nat × List Nat} (h : MS m s) : ∃ i, m[s.1]? = some i ∧ i.good m.length := by
  have e : m[s.1]? = some (m[s.1]'h.at_) := List.getElem?_eq_getElem h.at_
  exact ⟨_, e, h.mok.good _ (List.mem_of_getElem? e)⟩
theorem MS.next {m : List Ins} {s : Nat × List Nat} (h : MS m s) : MS m (nx m s) := by
  obtain ⟨i, e, g⟩ := h.get
  unfold nx
  cases i with
  | halt => rw [nextS_halt e]; exact h
  | up r n =>
    rw [nextS_up e]
    exact ⟨h.mok, g.2, by rw [List.length_set]; exact h.n⟩
  | dn r n o =>
    rw [nextS_dn e]
    split
    · exact ⟨h.mok, g.2.2, h.n⟩
    · exact ⟨h.mok, g.2.1, by rw [List.length_set]; exact h.n⟩
theorem nx_halt {m : List Ins} {s : Nat × List Nat} (h : m[s.1]? = some .halt) : nx m s = s := by unfold nx; rw [nextS_halt h]
theorem itF_halt {m : List Ins} {s : Nat × List Nat} (h : m[s.1]? = some .halt) : ∀ k, itF m k s = s
  | 0 => rfl
  | k + 1 => by
    show itF m k (nx m s) = s
    rw [nx_halt h]
    exact itF_halt h k
theorem cost_pos {i : Ins} (h : i ≠ .halt) : 2 ≤ cost i := by
  cases i with
  | halt => exact absurd rfl h
  | up r n => exact Nat.le_refl _
  | dn r n o => exact (by decide : 2 ≤ 4)
theorem told_ex {m : List Ins} : ∀ (l : Nat) {s : Nat × List Nat}, MS m s → ∃ s' left k, Told m l s s' left k := by
  intro l
  induction l using Nat.strongRecOn with
  | ind l ih =>
    intro s ms
    obtain ⟨i, e, g⟩ := ms.get
    by_cases h : i = .halt
    · subst h
      exact ⟨_, _, _, .halt e⟩
    · by_cases hl : cost i ≤ l
      · have := cost_pos h
        obtain ⟨s', left, k, t⟩ := ih (l - cost i) (by omega) ms.next
        exact ⟨s', left, k + 1, .step e h hl t⟩
      · exact ⟨s, l, 0, .stop e h (by omega)⟩
theorem Told.it {m : List Ins} {l : Nat} {s s' : Nat × List Nat} {left k : Nat} (h : Told m l s s' left k) : itF m k s = s' := by
  induction h with
  | halt _ => rfl
  | stop _ _ _ => rfl
  | step _ _ _ _ ih => exact ih
theorem Told.le {m : List Ins} {l : Nat} {s s' : Nat × List Nat} {left k : Nat} (h : Told m l s s' left k) : 2 * k ≤ l ∧ left ≤ l := by
  induction h with
  | halt _ => omega
  | stop _ _ _ => omega
  | step e h hl t ih => have := cost_pos h; omega
theorem Told.ms {m : List Ins} {l : Nat} {s s' : Nat × List Nat} {left k : Nat} (h : Told m l s s' left k) : MS m s → MS m s' := by
  induction h with
  | halt _ => exact id
  | stop _ _ _ => exact id
  | step _ _ _ _ ih => exact fun ms => ih ms.next
theorem set_cut {ns : List Nat} {r v : Nat} {x : Int} (h : r < ns.length) (e : x = (v : Int)) : (cutD (ns.map natD) none (some (r : Int)) ++ [.int x]) ++ cutD (ns.map natD) (some ((r : Int) + 1)) none = (ns.set r v).map natD := by
  subst e
  rw [show (r : Int) + 1 = ((r + 1 : Nat) : Int) by omega, cut_to, cut_from, List.set_eq_take_append_cons_drop, if_pos h, List.map_append, List.map_cons, List.map_take, List.map_drop, List.append_assoc]
  rfl
theorem getD_get {ns : List Nat} {r : Nat} (h : r < ns.length) : (ns.map natD)[r]? = some (.int (ns.getD r 0 : Int)) := by
  rw [List.getElem?_map, List.getD_eq_getElem?_getD, List.getElem?_eq_getElem h]
  rfl
section
variable {P : Program} {w : World} {K : PySem.W.Frag} {mg : Str → Option Value} {base : Heap} {T : List (Addr × Str)} {A : Amb} {ds : List SD} {te : TE} {m : List Ins} {s : Nat × List Nat} {i : Ins}
theorem encI_word (i : Ins) : ∃ rest, i.encI = .tuple (.str i.word :: rest) := by cases i <;> exact ⟨_, rfl⟩
/-- machine[standing[0]][0] -/
theorem ev_word (i0 i1 : Nat) (h0 : ds[i0]? = some (.dat (encM m))) (h1 : ds[i1]? = some (.dat (encSt s))) (e : m[s.1]? = some i) : Ev K A (tOp (rIxT K) (tOp (rIxT K) (tVar i0) (tOp (rIxT K) (tVar i1) (tC (.int 0)))) (tC (.int 0))) ds (Is (.str i.word)) := by
  obtain ⟨rest, er⟩ := encI_word i
  refine ev_at (es := .str i.word :: rest) (ev_atN (es := m.map Ins.encI) (k := s.1) (ev_var h0) (ev_at (es := [.int (s.1 : Int), encNs s.2]) (ev_var h1) rfl) ?_) (at_zero _ _)
  rw [← er]
  exact encM_get e
theorem word_halt {i : Ins} (h : i ≠ .halt) : decide (i.word = "halt") = false := by
  cases i with
  | halt => exact absurd rfl h
  | up r n =>
    show decide (("up" : Str) = "halt") = false
    decide
  | dn r n o =>
    show decide (("down" : Str) = "halt") = false
    decide
theorem word_cost {i : Ins} (h : i ≠ .halt) : (i.word, (cost i : Int)) ∈ v_MEETINGS := by
  unfold v_MEETINGS
  cases i with
  | halt => exact absurd rfl h
  | up r n => exact List.mem_cons_self
  | dn r n o => exact List.mem_cons_of_mem _ List.mem_cons_self
def f_step : List PyData → PyData → Prop := fun es d => ∃ (m : List Ins) (s : Nat × List Nat) (i : Ins), MS m s ∧ m[s.1]? = some i ∧ i ≠ .halt ∧ es = [encM m, encSt s] ∧ d = encSt (nx m s)
theorem q_behind_step (M : Hd w K mg) : Cal P w K mg base 1 "behind_step" (spD K (pureA T) (gF f_step)) :=
  cl_behind_step M _ (by rintro as P' ⟨es, d, ⟨m, s, i, _, _, _, rfl, rfl⟩, rfl, rfl⟩; rfl) (fun f cdv A' o s H E r => pr_behind_step M f cdv A' o s H E r) (by
    rintro as P' ⟨es, d, ⟨m, s, i, ms, e, hi, rfl, rfl⟩, rfl, rfl⟩
    obtain ⟨i', e', g⟩ := ms.get
    rw [e] at e'
    cases e'
    refine rn_seq (M := fun ds => ds = [.dat (encM m), .dat (encSt s), .dat (.int (s.1 : Int)), .dat (encNs s.2), .emp, .emp, .emp, .emp]) (rn_asgG (P := Is (encSt s)) (ev_var rfl) fun d ed => ⟨_, by rw [ed]; exact eg_pair (a := .int (s.1 : Int)) (b := encNs s.2), rfl⟩) ?_
    rintro ds rfl
    refine rn_asg1 (d := i.encI) (ev_atN (es := m.map Ins.encI) (k := s.1) (ev_var rfl) (ev_var rfl) (encM_get e)) ?_
    have hnx : nx m s = nextS m s.1 s.2 := rfl
    have upd_ : ∀ (rest : List PyData) (word : Str) (r n v : Nat) (c : Int), i.encI = .tuple (.str word :: .int (r : Int) :: .int (n : Int) :: rest) → r < 4 → (s.2.getD r 0 : Int) + c = (v : Int) → nx m s = (n, s.2.set r v) →
        Rn K (pureA T) (tSeq (tAsg (tOp (rCatA K) (tOp (rCatA K) (tSl (rSlA K) (tVar 3) tNoPart (tPart (tVar 5))) (tTup (tCons (tOp (rI0 fun i j => .int (i + j)) (tOp (rIxT K) (tVar 3) (tVar 5)) (tVar 6)) tNil))) (tSl (rSlA K) (tVar 3) (tPart (tOp (rI0 fun i j => .int (i + j)) (tVar 5) (tC (.int 1)))) tNoPart)) (gName 7))
          (tRet (tTup (tCons (tOp (rIxT K) (tVar 4) (tC (.int 2))) (tCons (tVar 7) tNil))))) [.dat (encM m), .dat (encSt s), .dat (.int (s.1 : Int)), .dat (encNs s.2), .dat i.encI, .dat (.int (r : Int)), .dat (.int c), .emp] (retD (Is (encSt (nx m s)))) := by
      intro rest word r n v c ei hr hv hn
      have hrl : r < s.2.length := by rw [ms.n]; exact hr
      have h4 : (s.2.map natD).length = 4 := by rw [List.length_map]; exact ms.n
      have lc : ∀ lo hi, (cutD (s.2.map natD) lo hi).length ≤ 4 := fun lo hi => by
        unfold cutD
        rw [List.length_take, List.length_drop]
        omega
      refine rn_asg1 (d := encNs (s.2.set r v)) ((ev_cat (ev_cat (ev_slT (es := s.2.map natD) (ev_var rfl) eo_none (eo_some (ev_var rfl))) (ev_tup1 (es := [.int ((s.2.getD r 0 : Int) + c)]) (ed_one (ev_add (ev_atN (es := s.2.map natD) (k := r) (ev_var rfl) (ev_var rfl) (getD_get hrl)) (ev_var rfl)) (ed_nil rfl)) (by show 1 ≤ 100000; decide)) ?_) (ev_slT (es := s.2.map natD) (ev_var rfl) (eo_some (ev_add (ev_var rfl) ev_int)) eo_none) ?_).eq (congrArg PyData.tuple (set_cut hrl hv))) ?_
      · have := lc none (some (r : Int)); rw [List.length_singleton]; omega
      · have := lc none (some (r : Int)); have := lc (some ((r : Int) + 1)) none; rw [List.length_append, List.length_singleton]; omega
      · rw [hn]
        refine rn_ret1 (ev_tup1 (ed_one (ev_at (es := .str word :: .int (r : Int) :: .int (n : Int) :: rest) (ev_var (by rw [← ei]; rfl)) ?_) (ed_one (ev_var rfl) (ed_nil rfl))) (by show 2 ≤ 100000; decide)) rfl
        exact at_nat _ 2
    cases i with
    | halt => exact absurd rfl hi
    | up r n =>
      refine rn_asg1 (d := .int (r : Int)) (ev_at (es := [.str "up", .int (r : Int), .int (n : Int)]) (ev_var rfl) rfl) ?_
      refine rn_ifS (Pb := IsB true) (et_str (ev_at (es := [.str "up", .int (r : Int), .int (n : Int)]) (ev_var rfl) rfl) (by decide)) (fun _ => ?_) fun z => nomatch z
      refine rn_asg1 (d := .int 1) ev_int ?_
      exact upd_ [] "up" r n (s.2.getD r 0 + 1) 1 rfl g.1 (by omega) (by rw [hnx, nextS_up e])
    | dn r n o =>
      refine rn_asg1 (d := .int (r : Int)) (ev_at (es := [.str "down", .int (r : Int), .int (n : Int), .int (o : Int)]) (ev_var rfl) rfl) ?_
      refine rn_ifS (Pb := IsB false) (et_str (ev_at (es := [.str "down", .int (r : Int), .int (n : Int), .int (o : Int)]) (ev_var rfl) rfl) (by decide)) (fun z => nomatch z) fun _ => ?_
      have hrl : r < s.2.length := by rw [ms.n]; exact g.1
      refine rn_ifS (Pb := IsB (decide (s.2.getD r 0 = 0))) ((et_test (ev_eqS (ev_atN (es := s.2.map natD) (k := r) (ev_var rfl) (ev_var rfl) (getD_get hrl)) ev_int rfl rfl rfl)).to (dec_nat (n := 0))) (fun h => ?_) fun h => ?_
      · have h0 : s.2.getD r 0 = 0 := of_decide_eq_true h.symm
        rw [hnx, nextS_dn e, if_pos h0]
        exact rn_retS (rn_ret1 (ev_tup1 (ed_one (ev_at (es := [.str "down", .int (r : Int), .int (n : Int), .int (o : Int)]) (ev_var rfl) rfl) (ed_one (ev_var rfl) (ed_nil rfl))) (by show 2 ≤ 100000; decide)) rfl)
      · have h0 : s.2.getD r 0 ≠ 0 := of_decide_eq_false h.symm
        refine rn_asg1 (d := .int (-1)) (ev_neg ev_int) ?_
        exact upd_ [.int (o : Int)] "down" r n (s.2.getD r 0 - 1) (-1) rfl g.1 (by omega) (by rw [hnx, nextS_dn e, if_neg h0]))
def f_done : List PyData → PyData → Prop := fun es d => ∃ (m : List Ins) (s : Nat × List Nat) (k : Nat), MS m s ∧ k ≤ 100000 ∧ es = [encM m, encSt s, .int (k : Int)] ∧ d = encSt (itF m k s)
theorem q_done (M : Hd w K mg) : Cal P w K mg base 7 "done" (spD K (pureA T) (gF f_done)) :=
  cl_done M _ (by rintro as P' ⟨es, d, ⟨m, s, k, _, _, rfl, rfl⟩, rfl, rfl⟩; rfl) (fun f cdv A' o s H E r => pr_done M (q_check_both (T := T) M) (by omega) (q_check_count (T := T) M) (by omega) (q_behind_step (T := T) M) (by omega) f cdv A' o s H E r) (by
    rintro as P' ⟨es, d, ⟨m, s, k, ms, hk, rfl, rfl⟩, rfl, rfl⟩
    refine rn_seq (M := fun ds => ds = [.dat (encM m), .dat (encSt s), .dat (.int (k : Int)), .emp]) (rn_drop (P := Is .none) (ev_callF (es := [encM m, encSt s]) le (ea_one (ev_var rfl) (ea_one (ev_var rfl) (ea_nil rfl))) ⟨m, s, ms, rfl, rfl⟩) rfl) ?_
    rintro ds rfl
    refine rn_seq (M := fun ds => ds = [.dat (encM m), .dat (encSt s), .dat (.int (k : Int)), .emp]) (rn_drop (P := Is .none) (ev_callF (es := [.int (k : Int), .int 0, .int 100000]) le (ea_one (ev_var rfl) (ea_one ev_int (ea_one ev_int (ea_nil rfl)))) ⟨(k : Int), 0, 100000, by omega, by omega, rfl, rfl⟩) rfl) ?_
    rintro ds rfl
    refine rn_forS (fun j ds => ∃ t z, MS m t ∧ itF m (k - j) t = itF m k s ∧ ds = [.dat (encM m), .dat (encSt t), .dat (.int (k : Int)), z]) (ei_range (m := (k : Int)) (ev_var rfl) (by omega) (by omega)) ⟨s, .emp, ms, rfl, rfl⟩ ?_ ?_
    · rintro j ds d hj ⟨t, z, mt, ht, rfl⟩ rfl
      have hj : j < k := hj
      obtain ⟨i, e, g⟩ := mt.get
      refine ⟨_, _, eg_name, ?_⟩
      by_cases hi : i = .halt
      · subst hi
        refine rn_ifS (Pb := IsB true) (et_str (ev_word 0 1 rfl rfl e) (by decide)) (fun _ => ?_) fun z => nomatch z
        refine rn_seq (M := fun _ => False) (rn_break ⟨t, _, mt, ?_, rfl⟩) fun _ z => z.elim
        rw [← ht, itF_halt e, itF_halt e]
      · refine rn_skip (et_str (ev_word 0 1 rfl rfl e) (word_halt hi)) ?_
        refine rn_asg (P := Is (encSt (nx m t))) (ev_callF (es := [encM m, encSt t]) le (ea_one (ev_var rfl) (ea_one (ev_var rfl) (ea_nil rfl))) ⟨m, t, i, mt, e, hi, rfl, rfl⟩) fun d ed => by
          subst ed
          refine ⟨nx m t, _, mt.next, ?_, rfl⟩
          rw [← ht, show k - j = k - (j + 1) + 1 by omega]
          rfl
    · rintro ds ⟨t, z, mt, ht, rfl⟩
      have ht : itF m (k - k) t = itF m k s := ht
      rw [Nat.sub_self] at ht
      rw [← ht]
      exact rn_ret1 (ev_var rfl) rfl)
def f_told : List PyData → PyData → Prop := fun es d => ∃ (m : List Ins) (s s' : Nat × List Nat) (l left k : Nat), MS m s ∧ l ≤ 100000 ∧ Told m l s s' left k ∧ es = [encM m, encSt s, .int (l : Int)] ∧ d = .tuple [encSt s', .int (left : Int)]
theorem q_told_steps (M : Hd w K mg) : Cal P w K mg base 7 "told_steps" (spD K (pureA T) (gF f_told)) :=
  cl_told_steps M _ (by rintro as P' ⟨es, d, ⟨m, s, s', l, left, k, _, _, _, rfl, rfl⟩, rfl, rfl⟩; rfl) (fun f cdv A' o s H E r => pr_told_steps M (q_check_both (T := T) M) (by omega) (q_check_count (T := T) M) (by omega) (q_behind_step (T := T) M) (by omega) f cdv A' o s H E r) (by
    rintro as P' ⟨es, d, ⟨m, s, s', l, left, k, ms, hl, ht, rfl, rfl⟩, rfl, rfl⟩
    refine rn_seq (M := fun ds => ds = [.dat (encM m), .dat (encSt s), .dat (.int (l : Int)), .emp]) (rn_drop (P := Is .none) (ev_callF (es := [encM m, encSt s]) le (ea_one (ev_var rfl) (ea_one (ev_var rfl) (ea_nil rfl))) ⟨m, s, ms, rfl, rfl⟩) rfl) ?_
    rintro ds rfl
    refine rn_seq (M := fun ds => ds = [.dat (encM m), .dat (encSt s), .dat (.int (l : Int)), .emp]) (rn_drop (P := Is .none) (ev_callF (es := [.int (l : Int), .int 0, .int 100000]) le (ea_one (ev_var rfl) (ea_one ev_int (ea_one ev_int (ea_nil rfl)))) ⟨(l : Int), 0, 100000, by omega, by omega, rfl, rfl⟩) rfl) ?_
    rintro ds rfl
    refine rn_asg1 (d := .int (l : Int)) (ev_var rfl) ?_
    refine rn_seq (M := fun ds => ∃ j t i, MS m t ∧ m[t.1]? = some i ∧ ((i = .halt ∧ s' = t ∧ left = min j 1) ∨ (i ≠ .halt ∧ s' = t ∧ left = j)) ∧ ds = [.dat (encM m), .dat (encSt t), .dat (.int (l : Int)), .dat (.int (j : Int))]) (rn_while (fun j ds => ∃ t k', MS m t ∧ Told m j t s' left k' ∧ ds = [.dat (encM m), .dat (encSt t), .dat (.int (l : Int)), .dat (.int (j : Int))]) l ⟨s, k, ms, ht, rfl⟩ ?_) ?_
    · rintro j ds ⟨t, k', mt, ht, rfl⟩
      cases ht with
      | halt e =>
        refine ⟨IsB false, et_and1 (a := false) (b := true) (et_neStr (x := "halt") (y := "halt") (b := true) (ev_word 0 1 rfl rfl e) (by decide)) (fun z => nomatch z), (fun z => nomatch z), fun _ => ⟨j, _, _, mt, e, .inl ⟨rfl, rfl, rfl⟩, rfl⟩⟩
      | @stop _ _ i e hi hc =>
        refine ⟨IsB false, (et_and1 (a := true) (b := false) (et_neStr (ev_word 0 1 rfl rfl e) (word_halt hi)) fun _ => (et_le (i := (left : Int)) (j := (cost i : Int)) (ev_var rfl) (ev_dk (ev_word 0 1 rfl rfl e) (word_cost hi))).to (decide_eq_false (by omega))), (fun z => nomatch z), fun _ => ⟨left, _, i, mt, e, .inr ⟨hi, rfl, rfl⟩, rfl⟩⟩
      | @step _ _ _ i _ k e hi hc ht =>
        refine ⟨IsB true, (et_and1 (a := true) (b := true) (et_neStr (ev_word 0 1 rfl rfl e) (word_halt hi)) fun _ => (et_le (i := (j : Int)) (j := (cost i : Int)) (ev_var rfl) (ev_dk (ev_word 0 1 rfl rfl e) (word_cost hi))).to (decide_eq_true (by omega))), fun _ => ?_, fun z => nomatch z⟩
        have hp := cost_pos hi
        refine rn_seq (M := fun ds => ds = [.dat (encM m), .dat (encSt t), .dat (.int (l : Int)), .dat (.int ((j - cost i : Nat) : Int))]) (rn_aug (a := (j : Int)) (b := (cost i : Int)) rfl (ev_dk (ev_word 0 1 rfl rfl e) (word_cost hi)) ?_) ?_
        · show [_, _, _, SD.dat (PyData.int ((j : Int) - (cost i : Int)))] = _
          rw [show (j : Int) - (cost i : Int) = ((j - cost i : Nat) : Int) by omega]
        · rintro ds rfl
          exact rn_asg (P := Is (encSt (nx m t))) (ev_callF (es := [encM m, encSt t]) le (ea_one (ev_var rfl) (ea_one (ev_var rfl) (ea_nil rfl))) ⟨m, t, i, mt, e, hi, rfl, rfl⟩) fun d ed => ⟨j - cost i, by omega, nx m t, _, mt.next, ht, by rw [ed]; rfl⟩
    · rintro ds ⟨j, t, i, mt, e, h, rfl⟩
      rcases h with ⟨rfl, rfl, rfl⟩ | ⟨hi, rfl, rfl⟩
      · refine rn_ifS (Pb := IsB true) (et_str (ev_word 0 1 rfl rfl e) (by decide)) (fun _ => ?_) fun z => nomatch z
        refine rn_asg1 (d := .int ((min j 1 : Nat) : Int)) (ev_two2 (i := (j : Int)) (j := 1) (ev_var rfl) ev_int fun H Q q => ⟨_, _, rfl, ?_⟩) ?_
        · have e1 : (if (1 : Int) < (j : Int) then (1 : Int) else (j : Int)) = ((min j 1 : Nat) : Int) := by split <;> omega
          rw [e1]
          exact q
        · exact rn_ret1 (ev_tup1 (ed_one (ev_var rfl) (ed_one (ev_var rfl) (ed_nil rfl))) (by show 2 ≤ 100000; decide)) rfl
      · refine rn_skip (et_str (ev_word 0 1 rfl rfl e) (word_halt hi)) ?_
        exact rn_ret1 (ev_tup1 (ed_one (ev_var rfl) (ed_one (ev_var rfl) (ed_nil rfl))) (by show 2 ≤ 100000; decide)) rfl)
end
end K87
/-! What the defs do with data: the plans of standings. -/
namespace K87
open PySem PySem.Spec PyProof.Rows L2
/-! ### binding a name -/
theorem bind_self (w : Str) (d : Nat) : bindAct w (.name w) d = [.got d] := if_pos rfl
theorem bind_ne {v w : Str} (h : v ≠ w) (d : Nat) : bindAct w (.name v) d = [.name v] := if_neg h
theorem bind_got (w : Str) (e d : Nat) : bindAct w (.got e) d = [.got e] := rfl
theorem cnt_name (w : Str) : (Part.name w).cnt = 1 := by simp [Part.cnt]
theorem bindN_ok (w : Str) : (∀ x : Part, ∀ k d, x.ok k → mapPart (bindAct w) x d = [x]) ∧ ∀ p : Pl, ∀ k d, (∀ x ∈ p, x.ok k) → mapM (bindAct w) p d = p := by
  refine Part.ind (P := fun x => ∀ k d, x.ok k → mapPart (bindAct w) x d = [x]) (Q := fun p => ∀ k d, (∀ x ∈ p, x.ok k) → mapM (bindAct w) p d = p) ?_ ?_ ?_ ?_ ?_
  · intro v k d h; exact (ok_name h).elim
  · intro e k d _; rw [mapPart]; rfl
  · intro kk c p ih k d h
    rw [mapPart, ih _ _ (ok_node.mp h).2.1.1]
  · intro k d _; rw [mapM]
  · intro x r hx hr k d h
    rw [mapM, hx k d (h x List.mem_cons_self), hr k d fun y hy => h y (List.mem_cons_of_mem _ hy)]
    rfl
theorem bind_okL (w : Str) {p : Pl} {k : Nat} (d : Nat) (h : okL k p) : mapM (bindAct w) p d = p := (bindN_ok w).2 p k d h.1
theorem door_s : ("s" : Str) = door 18 := by decide
theorem door_z : ("z" : Str) = door 25 := by decide
theorem reg_door {r : Nat} (h : r < 4) : atI c_REGISTERS.cps.toList (r : Int) = some (97 + (12 + r)) := by
  have : ∀ r : Nat, r < 4 → atI c_REGISTERS.cps.toList (r : Int) = some (97 + (12 + r)) := by decide +kernel
  exact this r h
theorem small_door {c : Nat} (h : c < 26) : atI c_SMALL.cps.toList (c : Int) = some (97 + c) := by
  have : ∀ c : Nat, c < 26 → atI c_SMALL.cps.toList (c : Int) = some (97 + c) := by decide +kernel
  exact this c h
theorem insL_snoc (x : Ins) : ∀ (l : List Ins) (k : Nat), insL k (l ++ [x]) = insL k l ++ [letter (k + l.length) (doingP x)]
  | [], k => rfl
  | y :: l, k => by
    show letter k (doingP y) :: insL (k + 1) (l ++ [x]) = letter k (doingP y) :: (insL (k + 1) l ++ [letter (k + (l.length + 1)) (doingP x)])
    rw [insL_snoc x l (k + 1), show k + 1 + l.length = k + (l.length + 1) by omega]
theorem regL_snoc (x : Nat) : ∀ (l : List Nat) (k : Nat), regL k (l ++ [x]) = regL k l ++ [letter (12 + (k + l.length)) (numP (k + l.length) x)]
  | [], k => rfl
  | y :: l, k => by
    show letter (12 + k) (numP k y) :: regL (k + 1) (l ++ [x]) = letter (12 + k) (numP k y) :: (regL (k + 1) l ++ [letter (12 + (k + (l.length + 1))) (numP (k + (l.length + 1)) x)])
    rw [regL_snoc x l (k + 1), show k + 1 + l.length = k + (l.length + 1) by omega]
theorem insL_length : ∀ (l : List Ins) (k : Nat), (insL k l).length = l.length
  | [], _ => rfl
  | _ :: l, k => congrArg (· + 1) (insL_length l (k + 1))
theorem regL_length : ∀ (l : List Nat) (k : Nat), (regL k l).length = l.length
  | [], _ => rfl
  | _ :: l, k => congrArg (· + 1) (regL_length l (k + 1))
theorem foldl_max_le {b : Int} : ∀ {l : List Int} {a : Int}, a ≤ b → (∀ x ∈ l, x ≤ b) → l.foldl max a ≤ b
  | [], _, h, _ => h
  | x :: l, a, h, hl => by
    rw [List.foldl_cons]
    have := hl x List.mem_cons_self
    exact foldl_max_le (by omega) fun y hy => hl y (List.mem_cons_of_mem _ hy)
def f_word : List PyData → PyData → Prop := fun es d => ∃ w : Str, es = [.str w] ∧ d = plan [.name w]
def f_letter : List PyData → PyData → Prop := fun es d => ∃ (c : Nat) (p : Pl), es = [.str (door c), plan p] ∧ d = plan [letter c p]
def f_wait (n : Nat) : List PyData → PyData → Prop := fun es d => ∃ (c : Nat) (v : Str) (p : Pl), dpL p ≤ n ∧ cntL p ≤ 500 ∧ es = [.str (door c), .str v, plan p] ∧ d = plan [wait c (mapM (bindAct v) p 0)]
section
variable {K : PySem.W.Frag} {A : Amb} {ds : List SD} {ta tb te : TE} {T : List (Addr × Str)}
theorem ev_wordc (hA : Le (pureA T) A) {w : Str} : Ev K A (tCall (spD K (pureA T) (gF f_word)) [] E0 (tCons (tC (.str w)) tNil)) ds (Is (plan [.name w])) := ev_callF (es := [.str w]) hA (ea_one ev_str (ea_nil rfl)) ⟨w, rfl, rfl⟩
theorem ev_letterc (hA : Le (pureA T) A) {c : Nat} {p : Pl} (h1 : Ev K A ta ds (Is (.str (door c)))) (h2 : Ev K A tb ds (Is (plan p))) : Ev K A (tCall (spD K (pureA T) (gF f_letter)) [] E0 (tCons ta (tCons tb tNil))) ds (Is (plan [letter c p])) := ev_callF (es := [.str (door c), plan p]) hA (ea_one h1 (ea_one h2 (ea_nil rfl))) ⟨c, p, rfl, rfl⟩
theorem ev_waitc (hA : Le (pureA T) A) {n c : Nat} {v : Str} {p q : Pl} (h1 : Ev K A ta ds (Is (.str (door c)))) (h2 : Ev K A tb ds (Is (plan p))) (hd : dpL p ≤ n) (hc : cntL p ≤ 500) (e : mapM (bindAct v) p 0 = q) : Ev K A (tCall (spD K (pureA T) (gF (f_wait n))) [] E0 (tCons ta (tCons (tC (.str v)) (tCons tb tNil)))) ds (Is (plan [wait c q])) := ev_callF (es := [.str (door c), .str v, plan p]) hA (ea_one h1 (ea_one ev_str (ea_one h2 (ea_nil rfl)))) ⟨c, v, p, hd, hc, rfl, by rw [e]⟩
theorem ev_pcat {p q : Pl} (h1 : Ev K A ta ds (Is (plan p))) (h2 : Ev K A tb ds (Is (plan q))) (hl : p.length + q.length ≤ 100000) : Ev K A (tOp (rCatA K) ta tb) ds (Is (plan (p ++ q))) :=
  (ev_cat (es := encL p) (fs := encL q) h1 h2 (by rw [encL_length, encL_length]; exact hl)).eq (by rw [← encL_append]; rfl)
theorem ev_s : Ev K A (tC (.str "s")) ds (Is (.str (door 18))) := ev_str.eq (congrArg PyData.str door_s)
theorem ev_z : Ev K A (tC (.str "z")) ds (Is (.str (door 25))) := ev_str.eq (congrArg PyData.str door_z)
theorem ev_small {c : Nat} (h : c < 26) (he : Ev K A te ds (Is (.int (c : Int)))) : Ev K A (tOp rIxS (tC (.str c_SMALL)) te) ds (Is (.str (door c))) := ev_ixS ev_str he (by decide) (small_door h)
theorem ev_reg {r : Nat} (h : r < 4) (he : Ev K A te ds (Is (.int (r : Int)))) : Ev K A (tOp rIxS (tC (.str c_REGISTERS)) te) ds (Is (.str (door (12 + r)))) := ev_ixS ev_str he (by decide) (reg_door h)
end
section
variable {P : Program} {w : World} {K : PySem.W.Frag} {mg : Str → Option Value} {base : Heap} {T : List (Addr × Str)}
theorem q_word_of (M : Hd w K mg) : Cal P w K mg base 1 "word_of" (spD K (pureA T) (gF f_word)) :=
  cl_word_of M _ (by rintro as P' ⟨es, d, ⟨w, rfl, rfl⟩, rfl, rfl⟩; rfl) (fun f cdv A' o s H E r => pr_word_of M f cdv A' o s H E r) (by
    rintro as P' ⟨es, d, ⟨w, rfl, rfl⟩, rfl, rfl⟩
    rw [plan_one, enc_name]
    exact rn_ret1 (ev_tup1 (ed_one (ev_tup1 (ed_one ev_int (ed_one (ev_tup1 (ed_one ev_str (ed_one (ev_var rfl) (ed_nil rfl))) (by show 2 ≤ 100000; decide)) (ed_nil rfl))) (by show 2 ≤ 100000; decide)) (ed_nil rfl)) (by show 1 ≤ 100000; decide)) rfl)
theorem q_letter_of (M : Hd w K mg) : Cal P w K mg base 1 "letter_of" (spD K (pureA T) (gF f_letter)) :=
  cl_letter_of M _ (by rintro as P' ⟨es, d, ⟨c, p, rfl, rfl⟩, rfl, rfl⟩; rfl) (fun f cdv A' o s H E r => pr_letter_of M f cdv A' o s H E r) (by
    rintro as P' ⟨es, d, ⟨c, p, rfl, rfl⟩, rfl, rfl⟩
    rw [plan_one, enc_node]
    exact rn_ret1 (ev_tup1 (ed_one (ev_tup1 (ed_one ev_int (ed_one (ev_tup1 (ed_one ev_str (ed_one (ev_var rfl) (ed_one (ev_var rfl) (ed_nil rfl)))) (by show 3 ≤ 100000; decide)) (ed_nil rfl))) (by show 2 ≤ 100000; decide)) (ed_nil rfl)) (by show 1 ≤ 100000; decide)) rfl)
theorem q_wait_of (M : Hd w K mg) (tb : Tb K mg base) (n : Nat) : Cal P w K mg base (n + 4) "wait_of" (spD K (pureA tb.T) (gF (f_wait n))) :=
  cl_wait_of M _ (by rintro as P' ⟨es, d, ⟨c, v, p, _, _, rfl, rfl⟩, rfl, rfl⟩; rfl) (fun f cdv A' o s H E r => pr_wait_of M (q_bound_to M tb n) (Nat.le_refl _) f cdv A' o s H E r) (by
    rintro as P' ⟨es, d, ⟨c, v, p, hd, hc, rfl, rfl⟩, rfl, rfl⟩
    rw [plan_one]
    exact rn_ret1 (ev_tup1 (ed_one (ev_tup1 (ed_one ev_int (ed_one (ev_callF (es := [.str (door c), .tuple [.str "name", .str v], plan p]) le (ea_one (ev_var rfl) (ea_one (ev_tup1 (ed_one ev_str (ed_one (ev_var rfl) (ed_nil rfl))) (by show 2 ≤ 100000; decide)) (ea_one (ev_var rfl) (ea_nil rfl)))) ⟨c, v, p, hd, hc, rfl, rfl⟩) (ed_nil rfl))) (by show 2 ≤ 100000; decide)) (ed_nil rfl)) (by show 1 ≤ 100000; decide)) rfl)
def f_going : List PyData → PyData → Prop := fun es d => ∃ a : Nat, a < 26 ∧ es = [.int (a : Int)] ∧ d = plan (goingP a)
theorem q_going_of (M : Hd w K mg) (tb : Tb K mg base) : Cal P w K mg base 6 "going_of" (spD K (pureA tb.T) (gF f_going)) :=
  cl_going_of M _ (by rintro as P' ⟨es, d, ⟨a, _, rfl, rfl⟩, rfl, rfl⟩; rfl) (fun f cdv A' o s H E r => pr_going_of M (q_word_of (T := tb.T) M) (by omega) (q_letter_of (T := tb.T) M) (by omega) (q_wait_of M tb 1) (by omega) f cdv A' o s H E r) (by
    rintro as P' ⟨es, d, ⟨a, ha, rfl, rfl⟩, rfl, rfl⟩
    refine rn_ret1 (ev_waitc (p := [.name "x"] ++ [letter a [.name "x"]]) (q := [.got 0, letter a [.got 0]]) le (ev_small ha (ev_var rfl)) (ev_pcat (ev_wordc le) (ev_letterc le (ev_small ha (ev_var rfl)) (ev_wordc le)) (by show 2 ≤ 100000; decide)) ?_ ?_ ?_) rfl
    · simp [dpL, dp_node, dp_name]
    · simp [cntL, cnt_node, cnt_name]
    · simp [mapM_name, mapM_node, mapM_nil, bind_self])
/-! ### numbers -/
def f_number : List PyData → PyData → Prop := fun es d => ∃ r k : Nat, r < 4 ∧ k ≤ 20 ∧ es = [.int (r : Int), .int (k : Int)] ∧ d = plan (numP r k)
theorem x_ne_y : ("x" : Str) ≠ "y" := by decide
theorem x_ne_z : ("x" : Str) ≠ "z" := by decide
theorem y_ne_z : ("y" : Str) ≠ "z" := by decide
theorem q_number_plan (M : Hd w K mg) (tb : Tb K mg base) : Cal P w K mg base 66 "number_plan" (spD K (pureA tb.T) (gF f_number)) :=
  cl_number_plan M _ (by rintro as P' ⟨es, d, ⟨r, k, _, _, rfl, rfl⟩, rfl, rfl⟩; rfl) (fun f cdv A' o s H E r => pr_number_plan M (q_word_of (T := tb.T) M) (by omega) (q_wait_of M tb 61) (by omega) (q_letter_of (T := tb.T) M) (by omega) f cdv A' o s H E r) (by
    rintro as P' ⟨es, d, ⟨r, k, hr, hk, rfl, rfl⟩, rfl, rfl⟩
    refine rn_asg1 (d := plan (numP r 0)) ?_ ?_
    · refine ev_waitc (c := 25) (p := [wait 18 [.name "x"]]) (q := [wait 18 [.got 1]]) le ev_z (ev_waitc (c := 18) (p := [.name "x"]) (q := [.name "x"]) le ev_s (ev_wordc le) ?_ ?_ ?_) ?_ ?_ ?_
      · simp [dpL, dp_name]
      · simp [cntL, cnt_name]
      · simp [mapM_name, mapM_nil, bind_ne x_ne_y]
      · simp [dpL, dp_node, dp_name]
      · simp [cntL, cnt_node, cnt_name]
      · simp [mapM_name, mapM_node, mapM_nil, bind_self]
    refine rn_forS (fun i ds => ∃ a b, ds = [.dat (.int (r : Int)), .dat (.int (k : Int)), .dat (plan (numP r i)), a, b]) (ei_range (m := (k : Int)) (ev_var rfl) (by omega) (by omega)) ⟨_, _, rfl⟩ ?_ ?_
    · rintro i ds d hi ⟨a, b, rfl⟩ rfl
      have hi : i < k := hi
      refine ⟨_, _, eg_name, ?_⟩
      have okn := num_ok hr i 0
      have hdp := num_dp r i
      have hcn := num_cnt r i
      refine rn_asg1 (d := plan [letter (12 + r) (numP r i)]) (ev_letterc le (ev_reg hr (ev_var rfl)) (ev_var rfl)) ?_
      refine rn_asg (P := Is (plan (numP r (i + 1)))) ?_ fun d ed => by subst ed; exact ⟨_, _, rfl⟩
      refine ev_waitc (c := 18) (p := [wait 25 [.name "x", letter (12 + r) (numP r i)]]) (q := [wait 25 [.got 1, letter (12 + r) (numP r i)]]) le ev_s (ev_waitc (c := 25) (p := [.name "x"] ++ [letter (12 + r) (numP r i)]) (q := [.name "x", letter (12 + r) (numP r i)]) le ev_z (ev_pcat (ev_wordc le) (ev_var rfl) (by show 2 ≤ 100000; decide)) ?_ ?_ ?_) ?_ ?_ ?_
      · simp [dpL, dp_node, dp_name, hdp]; omega
      · simp [cntL, cnt_node, cnt_name, hcn]; omega
      · simp [mapM_name, mapM_node, mapM_nil, bind_ne x_ne_y, bind_okL _ _ okn]
      · simp [dpL, dp_node, dp_name, hdp]; omega
      · simp [cntL, cnt_node, cnt_name, hcn]; omega
      · simp [mapM_name, mapM_node, mapM_nil, bind_self, bind_okL _ _ okn]
    · rintro ds ⟨a, b, rfl⟩
      exact rn_ret1 (ev_var rfl) rfl)
/-! ### doings -/
def f_doing : List PyData → PyData → Prop := fun es d => ∃ (i : Ins) (l : Nat), i.good l ∧ l ≤ 12 ∧ es = [i.encI] ∧ d = plan (doingP i)
theorem q_doing_of (M : Hd w K mg) (tb : Tb K mg base) : Cal P w K mg base 67 "doing_of" (spD K (pureA tb.T) (gF f_doing)) :=
  cl_doing_of M _ (by rintro as P' ⟨es, d, ⟨i, l, _, _, rfl, rfl⟩, rfl, rfl⟩; rfl) (fun f cdv A' o s H E r => pr_doing_of M (q_word_of (T := tb.T) M) (by omega) (q_letter_of (T := tb.T) M) (by omega) (q_wait_of M tb 4) (by omega) (q_going_of M tb) (by omega) (q_number_plan M tb) (by omega) f cdv A' o s H E r) (by
    rintro as P' ⟨es, d, ⟨i, l, g, hl, rfl, rfl⟩, rfl, rfl⟩
    have goc : ∀ {te : TE} {ds : List SD} {a : Nat}, a < 12 → Ev K (pureA tb.T) te ds (Is (.int (a : Int))) → Ev K (pureA tb.T) (tCall (spD K (pureA tb.T) (gF f_going)) [] E0 (tCons te tNil)) ds (Is (plan (goingP a))) := fun {te ds a} ha h => ev_callF (es := [.int (a : Int)]) le (ea_one h (ea_nil rfl)) ⟨a, by omega, rfl, rfl⟩
    cases i with
    | halt =>
      refine rn_left (et_str (ev_at (es := [.str "halt"]) (ev_var rfl) rfl) (by decide)) (rn_ret1 (d := plan []) ((ev_tup1 (ed_nil rfl) (by show 0 ≤ 100000; decide)).eq (by unfold plan; rw [encL_nil])) rfl)
    | up r n =>
      obtain ⟨g1, g2⟩ := g
      have hev : ∀ (ds : List SD), ds[0]? = some (.dat (Ins.up r n).encI) → Ev K (pureA tb.T) (tVar 0) ds (Is (.tuple [.str "up", .int (r : Int), .int (n : Int)])) := fun ds h => ev_var h
      refine rn_skip (et_str (ev_at (hev _ rfl) rfl) (by decide)) ?_
      refine rn_asg1 (d := .str (door (12 + r))) (ev_reg g1 (ev_at (hev _ rfl) rfl)) ?_
      refine rn_take (et_str (ev_at (hev _ rfl) rfl) (by decide)) ?_
      refine rn_asg1 (d := plan [wait 18 [wait 25 [.got 1, letter (12 + r) [.name "x"]]]]) ?_ ?_
      · refine ev_waitc (c := 18) (p := [wait 25 [.name "y", letter (12 + r) [.name "x"]]]) (q := [wait 25 [.got 1, letter (12 + r) [.name "x"]]]) le ev_s (ev_waitc (c := 25) (p := [.name "y"] ++ [letter (12 + r) [.name "x"]]) (q := [.name "y", letter (12 + r) [.name "x"]]) le ev_z (ev_pcat (ev_wordc le) (ev_letterc le (ev_var rfl) (ev_wordc le)) (by show 2 ≤ 100000; decide)) ?_ ?_ ?_) ?_ ?_ ?_
        · simp [dpL, dp_node, dp_name]
        · simp [cntL, cnt_node, cnt_name]
        · simp [mapM_name, mapM_node, mapM_nil, bind_ne x_ne_z, bind_ne y_ne_z]
        · simp [dpL, dp_node, dp_name]
        · simp [cntL, cnt_node, cnt_name]
        · simp [mapM_name, mapM_node, mapM_nil, bind_self, bind_ne x_ne_y]
      · have okg := going_ok (show n < 26 by omega) 0
        refine rn_ret1 (ev_waitc (c := 12 + r) (p := [letter (12 + r) [wait 18 [wait 25 [.got 1, letter (12 + r) [.name "x"]]]]] ++ goingP n) (q := upB r n) le (ev_var rfl) (ev_pcat (ev_letterc le (ev_var rfl) (ev_var rfl)) (goc (by omega) (ev_at (hev _ rfl) rfl)) (by show 2 ≤ 100000; decide)) ?_ ?_ ?_) rfl
        · rw [dpL_append, going_dp]; simp [dpL, dp_node, dp_name, dp_got]
        · rw [cntL_append, going_cnt]; simp [cntL, cnt_node, cnt_name, cnt_got]
        · rw [mapM_append, bind_okL _ _ okg]
          simp [mapM_name, mapM_node, mapM_got, mapM_nil, bind_self, bind_got, upB]
    | dn r n o =>
      obtain ⟨g1, g2, g3⟩ := g
      have hev : ∀ (ds : List SD), ds[0]? = some (.dat (Ins.dn r n o).encI) → Ev K (pureA tb.T) (tVar 0) ds (Is (.tuple [.str "down", .int (r : Int), .int (n : Int), .int (o : Int)])) := fun ds h => ev_var h
      refine rn_skip (et_str (ev_at (hev _ rfl) rfl) (by decide)) ?_
      refine rn_asg1 (d := .str (door (12 + r))) (ev_reg g1 (ev_at (hev _ rfl) rfl)) ?_
      refine rn_skip (et_str (ev_at (hev _ rfl) rfl) (by decide)) ?_
      have okg := going_ok (show n < 26 by omega) 0
      have oke := empty_ok (r := r) (o := o) g1 (by omega) 0
      have ed : dpL (emptyP r o) = 3 := by simp [emptyP, numP, goingP, dpL, dp_node, dp_got]
      have ec : cntL (emptyP r o) = 8 := by simp [emptyP, numP, goingP, cntL_cons, cnt_node, cnt_got, cntL]
      refine rn_asg1 (d := plan (emptyP r o)) (ev_pcat (p := [letter (12 + r) (numP r 0)]) (q := goingP o) (ev_letterc le (ev_var rfl) (ev_callF (es := [.int (r : Int), .int ((0 : Nat) : Int)]) le (ea_one (ev_at (hev _ rfl) rfl) (ea_one ev_int (ea_nil rfl))) ⟨r, 0, g1, by omega, rfl, rfl⟩)) (goc (by omega) (ev_at (hev _ rfl) rfl)) (by show 2 ≤ 100000; decide)) ?_
      refine rn_ret1 (ev_waitc (c := 12 + r) (p := [.name "x"] ++ [letter 18 (goingP n)] ++ [letter 25 (emptyP r o)]) (q := dnB r n o) le (ev_var rfl) (ev_pcat (ev_pcat (ev_wordc le) (ev_letterc le ev_s (goc (by omega) (ev_at (hev _ rfl) rfl))) (by show 2 ≤ 100000; decide)) (ev_letterc le ev_z (ev_var rfl)) (by show 3 ≤ 100000; decide)) ?_ ?_ ?_) rfl
      · simp [dpL, dp_node, dp_name, going_dp, ed]
      · simp [cntL, cnt_node, cnt_name, going_cnt, ec]
      · simp [mapM_name, mapM_node, mapM_nil, bind_self, bind_okL _ _ okg, bind_okL _ _ oke, dnB])
/-! ### the raw plan -/
def f_raw : List PyData → PyData → Prop := fun es d => ∃ (m : List Ins) (a : Nat) (ns : List Nat), StOk m a ns ∧ es = [encM m, encSt (a, ns)] ∧ d = plan (rawP m a ns)
theorem q_raw_plan (M : Hd w K mg) (tb : Tb K mg base) : Cal P w K mg base 68 "raw_plan" (spD K (pureA tb.T) (gF f_raw)) :=
  cl_raw_plan M _ (by rintro as P' ⟨es, d, ⟨m, a, ns, _, rfl, rfl⟩, rfl, rfl⟩; rfl) (fun f cdv A' o s H E r => pr_raw_plan M (q_doing_of M tb) (by omega) (q_letter_of (T := tb.T) M) (by omega) (q_number_plan M tb) (by omega) (q_going_of M tb) (by omega) f cdv A' o s H E r) (by
    rintro as P' ⟨es, d, ⟨m, a, ns, h, rfl, rfl⟩, rfl, rfl⟩
    have hm := h.mok.le
    have ha := h.at_
    have hns := h.n
    refine rn_seq (M := fun ds => ds = [.dat (encM m), .dat (encSt (a, ns)), .dat (.int (a : Int)), .dat (encNs ns), .emp, .emp, .emp, .emp]) (rn_asgG (P := Is (encSt (a, ns))) (ev_var rfl) fun d ed => ⟨_, by rw [ed]; exact eg_pair (a := .int (a : Int)) (b := encNs ns), rfl⟩) ?_
    rintro ds rfl
    refine rn_asg1 (d := plan []) ((ev_tup1 (ed_nil rfl) (by show 0 ≤ 100000; decide)).eq (by unfold plan; rw [encL_nil])) ?_
    refine rn_forS (fun i ds => ∃ x y, ds = [.dat (encM m), .dat (encSt (a, ns)), .dat (.int (a : Int)), .dat (encNs ns), .dat (plan (insL 0 (m.take i))), x, y, .emp]) (ei_enum (l := m.map Ins.encI) (ev_var rfl)) ⟨_, _, rfl⟩ ?_ ?_
    · rintro i ds d hi ⟨x, y, rfl⟩ ⟨e, he, rfl⟩
      rw [List.getElem?_map] at he
      rw [List.length_map] at hi
      cases hx : m[i]? with
      | none => rw [hx] at he; cases he
      | some ins =>
        rw [hx] at he
        cases he
        refine ⟨_, _, eg_pair, ?_⟩
        refine rn_asg (P := Is (plan (insL 0 (m.take (i + 1))))) ?_ fun d ed => by subst ed; exact ⟨_, _, rfl⟩
        have e1 : insL 0 (m.take (i + 1)) = insL 0 (m.take i) ++ [letter i (doingP ins)] := by
          rw [List.take_add_one, hx]
          show insL 0 (m.take i ++ [ins]) = _
          rw [insL_snoc, List.length_take, Nat.zero_add, Nat.min_eq_left (by omega)]
        rw [e1]
        refine ev_pcat (ev_var rfl) (ev_letterc le (ev_small (by omega) (ev_var rfl)) (ev_callF (es := [ins.encI]) le (ea_one (ev_var rfl) (ea_nil rfl)) ⟨ins, m.length, h.mok.good _ (List.mem_of_getElem? hx), hm, rfl, rfl⟩)) ?_
        rw [insL_length, List.length_take]
        show _ + 1 ≤ 100000
        omega
    · rintro ds ⟨x, y, rfl⟩
      rw [List.length_map, List.take_length]
      refine rn_forS (fun i ds => ∃ x y z, ds = [.dat (encM m), .dat (encSt (a, ns)), .dat (.int (a : Int)), .dat (encNs ns), .dat (plan (insL 0 m ++ regL 0 (ns.take i))), x, y, z]) (ei_enum (l := ns.map natD) (ev_var rfl)) ⟨_, _, _, by rw [show regL 0 (ns.take 0) = [] from rfl, List.append_nil]⟩ ?_ ?_
      · rintro i ds d hi ⟨x, y, z, rfl⟩ ⟨e, he, rfl⟩
        rw [List.getElem?_map] at he
        rw [List.length_map] at hi
        cases hx : ns[i]? with
        | none => rw [hx] at he; cases he
        | some v =>
          rw [hx] at he
          cases he
          refine ⟨_, _, eg_pair, ?_⟩
          refine rn_asg (P := Is (plan (insL 0 m ++ regL 0 (ns.take (i + 1))))) ?_ fun d ed => by subst ed; exact ⟨_, _, _, rfl⟩
          have e1 : insL 0 m ++ regL 0 (ns.take (i + 1)) = insL 0 m ++ regL 0 (ns.take i) ++ [letter (12 + i) (numP i v)] := by
            rw [List.take_add_one, hx]
            show insL 0 m ++ regL 0 (ns.take i ++ [v]) = _
            rw [regL_snoc, List.length_take, Nat.zero_add, Nat.min_eq_left (by omega), List.append_assoc]
          rw [e1]
          have hv := h.le v (List.mem_of_getElem? hx)
          refine ev_pcat (ev_var rfl) (ev_letterc le (ev_reg (by omega) (ev_var rfl)) (ev_callF (es := [.int (i : Int), .int (v : Int)]) le (ea_one (ev_var rfl) (ea_one (ev_var rfl) (ea_nil rfl))) ⟨i, v, by omega, by omega, rfl, rfl⟩)) ?_
          rw [List.length_append, insL_length, regL_length, List.length_take]
          show _ + 1 ≤ 100000
          omega
      · rintro ds ⟨x, y, z, rfl⟩
        rw [List.length_map, List.take_length]
        refine rn_ret1 (d := plan (rawP m a ns)) (ev_pcat (p := insL 0 m ++ regL 0 ns) (q := goingP a) (ev_var rfl) (ev_callF (es := [.int (a : Int)]) le (ea_one (ev_var rfl) (ea_nil rfl)) ⟨a, by omega, rfl, rfl⟩) ?_) rfl
        rw [List.length_append, insL_length, regL_length]
        show _ + 1 ≤ 100000
        omega)
def f_plan_of : List PyData → PyData → Prop := fun es d => ∃ (m : List Ins) (a : Nat) (ns : List Nat), StOk m a ns ∧ es = [encM m, encSt (a, ns)] ∧ d = plan (plainL (rawP m a ns))
theorem StOk.ms {m : List Ins} {a : Nat} {ns : List Nat} (h : StOk m a ns) : MS m (a, ns) := ⟨h.mok, h.at_, h.n⟩
theorem raw_mid (m : List Ins) (a : Nat) (ns : List Nat) {i : Ins} (h : m[a]? = some i) : midP m a ns 0 = rawP m a ns := by unfold midP; rw [h]; rfl
theorem StOk.raw {m : List Ins} {a : Nat} {ns : List Nat} (h : StOk m a ns) : Small (rawP m a ns) ∧ okL 0 (rawP m a ns) := by
  obtain ⟨i, e, g⟩ := h.ms.get
  have z := h.small 0
  rw [raw_mid m a ns e] at z
  refine ⟨z, ?_⟩
  have l := h.lets.ok (by omega)
  unfold rawP
  rw [okL_append]
  refine ⟨l, going_ok (by have := h.at_; have := h.mok.le; omega) 0, fun x hx y hy => ?_⟩
  obtain ⟨c, q, rfl, _⟩ := h.lets.all x hx
  rw [List.mem_singleton.mp hy, tag_letter, tag_wait]
  simp
theorem q_plan_of (M : Hd w K mg) (tb : Tb K mg base) : Cal P w K mg base 69 "plan_of" (spD K (pureA tb.T) (gF f_plan_of)) :=
  cl_plan_of M _ (by rintro as P' ⟨es, d, ⟨m, a, ns, _, rfl, rfl⟩, rfl, rfl⟩; rfl) (fun f cdv A' o s H E r => pr_plan_of M (q_check_both (T := tb.T) M) (by omega) (q_raw_plan M tb) (by omega) (q_plain M tb 30 (by omega)) (by omega) f cdv A' o s H E r) (by
    rintro as P' ⟨es, d, ⟨m, a, ns, h, rfl, rfl⟩, rfl, rfl⟩
    refine rn_seq (M := fun ds => ds = [.dat (encM m), .dat (encSt (a, ns))]) (rn_drop (P := Is .none) (ev_callF (es := [encM m, encSt (a, ns)]) le (ea_one (ev_var rfl) (ea_one (ev_var rfl) (ea_nil rfl))) ⟨m, (a, ns), h.ms, rfl, rfl⟩) rfl) ?_
    rintro ds rfl
    obtain ⟨sm, ok⟩ := h.raw
    cases hns : ns with
    | nil => have := h.n; rw [hns] at this; cases this
    | cons n0 r =>
      rw [← hns]
      have e1 : encNs ns = .tuple (((n0 : Int) :: r.map (fun n : Nat => (n : Int))).map .int) := by
        rw [hns]
        unfold encNs
        rw [List.map_cons, List.map_cons, List.map_map]
        rfl
      refine rn_skip ((et_lt (j := 20) (ev_maxT (n := (n0 : Int)) (ns := r.map fun n : Nat => (n : Int)) ((ev_at (es := [.int (a : Int), encNs ns]) (ev_var rfl) rfl).eq e1)) ev_int).to (decide_eq_false ?_)) ?_
      · have := foldl_max_le (b := 6) (l := r.map fun n : Nat => (n : Int)) (a := (n0 : Int)) (by have := h.le n0 (by rw [hns]; exact List.mem_cons_self); omega) fun x hx => by
          obtain ⟨y, hy, rfl⟩ := List.mem_map.mp hx
          have := h.le y (by rw [hns]; exact List.mem_cons_of_mem _ hy)
          omega
        omega
      · exact rn_ret1 (ev_callF (es := [plan (rawP m a ns)]) le (ea_one (ev_callF (es := [encM m, encSt (a, ns)]) le (ea_one (ev_var rfl) (ea_one (ev_var rfl) (ea_nil rfl))) ⟨m, a, ns, h, rfl, rfl⟩) (ea_nil rfl)) ⟨_, 0, ok, sm.dp, by have := sm.cnt; omega, rfl, rfl⟩) rfl)
end
end K87
/-! What the defs do with data: standings read from plans. -/
namespace K87
open PySem PySem.Spec PyProof.Rows L2
theorem eqv_held (h : List Pl) (q : Pl) : PyData.eqvAll (h.map plan) [plan q] = true ↔ h = [q] := by
  cases h with
  | nil => simp [PyData.eqvAll]
  | cons x r =>
    rw [List.map_cons, eqvAll_cons]
    cases r with
    | nil =>
      rw [List.map_nil, eqvAll_nil, Bool.and_true]
      constructor
      · intro e
        have : PyData.eqvAll (encL x) (encL q) = true := by rw [← eqv_tup]; exact e
        rw [eqv_enc.2 x q this]
      · intro e
        injection e with e
        rw [e]
        exact PySem.SeqAt.eqv_refl_plain _ (show PyData.plainAll (encL q) = true from enc_pl.2 q)
    | cons y r => simp [PyData.eqvAll]
theorem heldP_take {f : Pl} {i c : Nat} {x : Part} (h : f[i]? = some x) : heldP (f.take (i + 1)) c = heldP (f.take i) c ++ (heldF c x).toList := by
  unfold heldP
  rw [List.take_add_one, h, List.filterMap_append]
  cases e : heldF c x <;> simp [e]
theorem heldP_len (f : Pl) (c : Nat) : (heldP f c).length ≤ f.length := List.length_filterMap_le _ _
/-- what number_in tells -/
def NumIn (f : Pl) (r : Nat) : PyData → Prop := fun d => (d = .none ∨ ∃ v : Nat, d = .int (v : Int)) ∧ (heldP f r = [] → d = .none) ∧ ∀ v, v ≤ 20 → heldP f r = [plainL (numP r v)] → d = .int (v : Int)
def g_number_in : Gd := fun as P' => ∃ (f : Pl) (r : Nat), okL 0 f ∧ cntL f ≤ 1000 ∧ r < 4 ∧ as = [.dat (plan f), .dat (.int (r : Int))] ∧ P' = NumIn f r
section
variable {P : Program} {w : World} {K : PySem.W.Frag} {mg : Str → Option Value} {base : Heap} {T : List (Addr × Str)}
theorem head2 (x y z : PyData) : cutD [x, y, z] none (some 2) = [x, y] := cut_to [x, y, z] 2
theorem eqv_pair (k : Bool) (c e : Nat) : PyData.eqv (.tuple [.str (kw k), .str (door c)]) (.tuple [.str "letter", .str (door e)]) = (!k && decide (c = e)) := by
  rw [eqv_tup, eqvAll_cons, eqvAll_cons, eqvAll_nil, eqv_str, eqv_str, Bool.and_true]
  have e1 : decide (kw k = "letter") = !k := by cases k <;> decide
  have e2 : decide (door c = door e) = decide (c = e) := by
    rw [Bool.eq_iff_iff]
    simp only [decide_eq_true_iff]
    exact ⟨door_inj, fun h => by rw [h]⟩
  rw [e1, e2]
theorem q_number_in (M : Hd w K mg) (tb : Tb K mg base) : Cal P w K mg base 131 "number_in" (spD K (pureA tb.T) g_number_in) :=
  cl_number_in M _ (by rintro as P' ⟨f, r, _, _, _, rfl, rfl⟩; rfl) (fun f cdv A' o s H E r => pr_number_in M (q_number_plan M tb) (by omega) (q_plain M tb 62 (by omega)) (by omega) f cdv A' o s H E r) (by
    rintro as P' ⟨f, r, ok, cn, hr, rfl, rfl⟩
    have hl := len_cnt f
    refine rn_asgLS (P := fun es => es = (heldP f r).map plan) (el_lc (fun i acc => acc = (heldP (f.take i) r).map plan) (ei_plan (ev_var rfl)) rfl (fun i acc hi e => ?_) (fun i acc d hi e yd => ?_) fun acc e => by rw [e, List.take_length]) fun es e => ?_
    · rw [e, List.length_map]
      have := heldP_len (f.take i) r
      rw [List.length_take] at this
      omega
    · obtain ⟨x, hx, rfl⟩ := yd
      have hm := List.mem_of_getElem? hx
      have okx := ok.1 x hm
      cases x with
      | name v => exact (ok_name okx).elim
      | got g => exact absurd (ok_got.mp okx) (Nat.not_lt_zero _)
      | node k c q =>
        have ht := heldP_take (c := r) hx
        refine ⟨[3, 4], _, IsB (!k && decide (c = 12 + r)), eg_item, fun j hj => hj, ?_, fun hb => ?_, fun hb => ?_⟩
        · rw [enc_node]
          refine (et_test (ev_eqP (d := .tuple [.str (kw k), .str (door c)]) (e := .tuple [.str "letter", .str (door (12 + r))]) ((ev_slT (es := [.str (kw k), .str (door c), plan q]) (ev_var rfl) eo_none (eo_some ev_int)).eq (congrArg PyData.tuple (head2 _ _ _))) (ev_tup1 (ed_one ev_str (ed_one (ev_reg hr (ev_var rfl)) (ed_nil rfl))) (by show 2 ≤ 100000; decide)) ?_)).to (eqv_pair k c (12 + r))
          simp [PyData.depth, PyData.depthAll]
        · have hb := hb.symm
          simp only [Bool.and_eq_true, Bool.not_eq_true', decide_eq_true_eq] at hb
          obtain ⟨rfl, rfl⟩ := hb
          rw [heldF_one] at ht
          rw [enc_node]
          refine (ev_at (es := [.str (kw false), .str (door (12 + r)), plan q]) (d := plan q) (ev_var rfl) rfl).to ?_
          rw [e, ht, List.map_append]
          rfl
        · have hf : heldF r (.node k c q) = none := by
            cases k with
            | true => rfl
            | false =>
              show (if c = 12 + r then some q else none) = none
              rw [if_neg]
              have hb : false = (true && decide (c = 12 + r)) := hb
              rw [Bool.true_and] at hb
              exact of_decide_eq_false hb.symm
          rw [hf] at ht
          rw [e, ht]
          simp
    · subst e
      refine rn_forS (fun i ds => (∃ z, ds = [.dat (plan f), .dat (.int (r : Int)), .own ((heldP f r).map plan), .emp, .emp, z]) ∧ ∀ v, v < i → heldP f r ≠ [plainL (numP r v)]) (ei_range (m := 21) ((ev_add ev_int ev_int).eq rfl) (by decide) (by decide)) ⟨⟨_, rfl⟩, fun v hv => absurd hv (Nat.not_lt_zero _)⟩ ?_ ?_
      · rintro i ds d hi ⟨⟨z, rfl⟩, hn⟩ rfl
        have hi : i < 21 := hi
        refine ⟨_, _, eg_name, ?_⟩
        have hdp := num_dp r i
        have hcn := num_cnt r i
        refine rn_if (Pb := IsB (PyData.eqvAll ((heldP f r).map plan) [plan (plainL (numP r i))])) (et_test (ev_eqLL (er_own rfl) (er_new (el_lst (Pd := fun es => es = [plan (plainL (numP r i))]) (ed_one (ev_callF (es := [plan (numP r i)]) le (ea_one (ev_callF (es := [.int (r : Int), .int (i : Int)]) le (ea_one (ev_var rfl) (ea_one (ev_var rfl) (ea_nil rfl))) ⟨r, i, hr, by omega, rfl, rfl⟩) (ea_nil rfl)) ⟨numP r i, 0, num_ok hr i 0, by omega, by omega, rfl, rfl⟩) (ed_nil rfl)) fun es e => ⟨by rw [e]; show 1 ≤ 100000; decide, e⟩)) ?_)) (fun hb => ?_) fun hb => ?_
        · have h1 := plan_depth (plainL (numP r i))
          rw [dp_plain.2, hdp] at h1
          have h2 : PyData.depthAll [plan (plainL (numP r i))] = (plan (plainL (numP r i))).depth := by simp [PyData.depthAll]
          omega
        · have hh := (eqv_held _ _).mp hb.symm
          refine rn_ret1 (ev_var rfl) ⟨.inr ⟨i, rfl⟩, fun e => ?_, fun v _ e => ?_⟩
          · rw [hh] at e; cases e
          · rw [hh] at e
            injection e with e
            rw [num_inj e]
        · refine rn_next ⟨⟨_, rfl⟩, fun v hv => ?_⟩
          by_cases c : v = i
          · subst c
            intro e
            have := (eqv_held _ _).mpr e
            rw [← hb] at this
            cases this
          · exact hn v (by omega)
      · rintro ds ⟨⟨z, rfl⟩, hn⟩
        exact rn_ret1 ev_non ⟨.inl rfl, fun _ => rfl, fun v hv e => absurd e (hn v (by show v < 21; omega))⟩)
/-! ### standing_of -/
def f_standing_of : List PyData → PyData → Prop := fun es d => ∃ (m : List Ins) (a : Nat) (ns : List Nat) (k : Nat), StOk m a ns ∧ es = [encM m, plan (plainL (midP m a ns k))] ∧ ((k = 0 ∧ d = encSt (a, ns)) ∨ (k = 1 ∧ d = .none) ∨ ((k = 2 ∨ k = 3) ∧ (∃ r n o, m[a]? = some (.dn r n o)) ∧ d = .none))
theorem scal_num {f : Pl} {r : Nat} {d : PyData} (h : NumIn f r d) : scalD d = true := by
  rcases h.1 with e | ⟨v, e⟩ <;> rw [e] <;> rfl
/-- the four numbers -/
theorem nums_all {f : Pl} {acc : List PyData} {ns : List Nat} (hn : ns.length = 4) (hl : acc.length = 4) (h : ∀ (j : Nat) (d : PyData), acc[j]? = some d → NumIn f j d) (hh : ∀ c v, ns[c]? = some v → v ≤ 20 ∧ heldP f c = [plainL (numP c v)]) : acc = ns.map natD := by
  apply List.ext_getElem?
  intro j
  rw [List.getElem?_map]
  by_cases hj : j < 4
  · have e1 : acc[j]? = some (acc[j]'(by omega)) := List.getElem?_eq_getElem (by omega)
    have e2 : ns[j]? = some (ns[j]'(by omega)) := List.getElem?_eq_getElem (by omega)
    obtain ⟨h1, h2⟩ := hh j _ e2
    rw [e1, e2, (h j _ e1).2.2 _ h1 h2]
    rfl
  · rw [List.getElem?_eq_none (by omega), List.getElem?_eq_none (by omega)]
    rfl
theorem q_standing_of (M : Hd w K mg) (tb : Tb K mg base) : Cal P w K mg base 132 "standing_of" (spD K (pureA tb.T) (gF f_standing_of)) :=
  cl_standing_of M _ (by rintro as P' ⟨es, d, ⟨m, a, ns, k, _, rfl, _⟩, rfl, rfl⟩; rfl) (fun f cdv A' o s H E r => pr_standing_of M (q_check_machine (T := tb.T) M) (by omega) (q_check_plan (T := tb.T) M 30) (by omega) (q_plain M tb 30 (by omega)) (by omega) (q_number_in M tb) (by omega) (q_raw_plan M tb) (by omega) f cdv A' o s H E r) (by
    rintro as P' ⟨es, d, ⟨m, a, ns, k, h, rfl, hk⟩, rfl, rfl⟩
    have okT := mid_ok h k
    have smT := h.small k
    have hm := h.mok.le
    have hns := h.n
    have okF : okL 0 (plainL (midP m a ns k)) := okL_plain.mpr okT
    have dpF : dpL (plainL (midP m a ns k)) ≤ 30 := by rw [dp_plain.2]; exact smT.dp
    have cnF : cntL (plainL (midP m a ns k)) ≤ 1000 := by rw [cnt_plain.2]; have := smT.cnt; omega
    have fix := plainL_idem (midP m a ns k)
    generalize hF : plainL (midP m a ns k) = F at okF dpF cnF fix
    refine rn_seq (M := fun ds => ds = [.dat (encM m), .dat (plan F), .emp, .emp, .emp, .emp]) (rn_drop (P := Is .none) (ev_callF (es := [encM m]) le (ea_one (ev_var rfl) (ea_nil rfl)) ⟨m, h.mok, rfl, rfl⟩) rfl) ?_
    rintro ds rfl
    refine rn_seq (M := fun ds => ds = [.dat (encM m), .dat (plan F), .emp, .emp, .emp, .emp]) (rn_drop (P := Is .none) (ev_callF (es := [plan F]) le (ea_one (ev_var rfl) (ea_nil rfl)) ⟨F, okF, dpF, rfl, rfl⟩) rfl) ?_
    rintro ds rfl
    refine rn_asg1 (d := plan F) (ev_callF (es := [plan F]) le (ea_one (ev_var rfl) (ea_nil rfl)) ⟨F, 0, okF, dpF, cnF, rfl, by rw [fix]⟩) ?_
    refine rn_asgS (P := fun d => ∃ acc : List PyData, d = .tuple acc ∧ acc.length = 4 ∧ ∀ (j : Nat) (e : PyData), acc[j]? = some e → NumIn F j e) (ev_tupL (Pl := fun acc => acc.length = 4 ∧ ∀ (j : Nat) (e : PyData), acc[j]? = some e → NumIn F j e) (er_new (el_lc (fun i acc => acc.length = i ∧ ∀ (j : Nat) (e : PyData), acc[j]? = some e → NumIn F j e) (ei_range (m := 4) ((ev_lenS ev_str (by decide)).eq rfl) (by decide) (by decide)) ⟨rfl, fun j e he => by simp at he⟩ (fun i acc hi e => by have : i < 4 := hi; omega) (fun i acc d hi e yd => ?_) fun acc e => e)) fun es h => ⟨es, rfl, h⟩) fun d hd => ?_
    · subst yd
      have hi : i < 4 := hi
      refine ⟨[4], _, IsB true, eg_name, fun j hj => hj, fun H0 H σ Q n q => q true H rfl (Xt.refl H), fun _ => ?_, fun z => nomatch z⟩
      refine (ev_call (G := g_number_in) (P := NumIn F i) (Pa := fun as => as = [.dat (plan F), .dat (.int (i : Int))]) le (ea_one (ev_var rfl) (ea_one (ev_var rfl) (ea_nil rfl))) fun as e => ⟨_, ⟨F, i, okF, cnF, hi, e, rfl⟩, fun d h => h⟩).imp fun y hy => ⟨by rw [List.length_append, e.1]; rfl, fun j b hb => ?_⟩
      by_cases c : j < acc.length
      · rw [List.getElem?_append_left c] at hb
        exact e.2 j b hb
      · rw [List.getElem?_append_right (by omega)] at hb
        cases hjj : j - acc.length with
        | zero =>
          rw [hjj] at hb
          cases hb
          have : j = i := by have := e.1; omega
          rw [this]
          exact hy
        | succ u => rw [hjj] at hb; simp at hb
    · obtain ⟨acc, rfl, hl, hN⟩ := hd
      have hsc : acc.all scalD = true := by
        rw [List.all_eq_true]
        intro x hx
        obtain ⟨j, hj⟩ := List.getElem?_of_mem hx
        exact scal_num (hN j x hj)
      have fin : ∀ b : Bool, inV V.non (acc.map toV) = b → EvT K (pureA tb.T) (tTest (tOp (rIn K false) (tC .non) (tVar 3))) [.dat (encM m), .dat (plan F), .dat (plan F), .dat (.tuple acc), .emp, .emp] (IsB b) := fun b hb => (et_test (ev_inT (neg := false) (c := .none) (es := acc) ev_non (ev_var rfl) rfl hsc)).to hb
      rcases Nat.lt_or_ge k 2 with hk2 | hk2
      · have ea : acc = ns.map natD := nums_all hns hl hN fun c v hc => ⟨by have := h.le v (List.mem_of_getElem? hc); omega, by rw [← hF]; exact held_reg h hc (by omega)⟩
        refine rn_skip (fin false ?_) ?_
        · rw [ea]
          cases hv : inV V.non ((ns.map natD).map toV) with
          | false => rfl
          | true =>
            unfold inV at hv
            simp [natD, toV] at hv
            obtain ⟨x, _, e⟩ := hv
            have e : false = true := e
            cases e
        · subst ea
          refine rn_forS (fun i ds => (∃ z, ds = [.dat (encM m), .dat (plan F), .dat (plan F), .dat (encNs ns), .emp, z]) ∧ ∀ b, b < i → plainL (rawP m b ns) ≠ F) (ei_range (m := (m.length : Int)) ((ev_lenT (es := m.map Ins.encI) (ev_var rfl)).eq (by rw [List.length_map])) (by omega) (by omega)) ⟨⟨_, rfl⟩, fun v hv => absurd hv (Nat.not_lt_zero _)⟩ ?_ ?_
          · rintro b ds d hb ⟨⟨z, rfl⟩, hn⟩ rfl
            have hb : b < m.length := hb
            have hs : StOk m b ns := ⟨h.mok, hb, h.n, h.le⟩
            obtain ⟨smR, okR⟩ := hs.raw
            refine ⟨_, _, eg_name, ?_⟩
            refine rn_if (Pb := IsB (PyData.eqv (plan (plainL (rawP m b ns))) (plan F))) (et_test (ev_eqP (ev_callF (es := [plan (rawP m b ns)]) le (ea_one (ev_callF (es := [encM m, encSt (b, ns)]) le (ea_one (ev_var rfl) (ea_one (ev_tup1 (ed_one (ev_var rfl) (ed_one (ev_var rfl) (ed_nil rfl))) (by show 2 ≤ 100000; decide)) (ea_nil rfl))) ⟨m, b, ns, hs, rfl, rfl⟩) (ea_nil rfl)) ⟨_, 0, okR, smR.dp, by have := smR.cnt; omega, rfl, rfl⟩) (ev_var rfl) ?_)) (fun he => ?_) fun he => ?_
            · have h1 := plan_depth F
              omega
            · have e0 : plainL (rawP m b ns) = F := eqv_enc.2 _ _ (by rw [← eqv_tup]; exact he.symm)
              rcases hk with ⟨rfl, rfl⟩ | ⟨rfl, rfl⟩ | ⟨hz, _⟩
              · obtain ⟨i, hi, _⟩ := h.ins
                rw [← hF, raw_mid m a ns hi] at e0
                have := raw_at h hb e0
                subst this
                exact rn_ret1 (ev_tup1 (ed_one (ev_var rfl) (ed_one (ev_var rfl) (ed_nil rfl))) (by show 2 ≤ 100000; decide)) rfl
              · rw [← hF] at e0
                exact absurd e0 (raw_mid1 h hb)
              · omega
            · refine rn_next ⟨⟨_, rfl⟩, fun v hv => ?_⟩
              by_cases c : v = b
              · subst c
                intro e0
                rw [e0] at he
                have he : false = PyData.eqvAll (encL F) (encL F) := by rw [← eqv_tup]; exact he
                have this : PyData.eqvAll (encL F) (encL F) = true := by rw [← eqv_tup]; exact PySem.SeqAt.eqv_refl_plain _ (show PyData.plainAll (encL F) = true from enc_pl.2 F)
                rw [this] at he
                cases he
              · exact hn v (by omega)
          · rintro ds ⟨⟨z, rfl⟩, hn⟩
            rcases hk with ⟨rfl, rfl⟩ | ⟨rfl, rfl⟩ | ⟨hz, _⟩
            · obtain ⟨i, hi, _⟩ := h.ins
              refine absurd ?_ (hn a h.at_)
              rw [← hF, raw_mid m a ns hi]
            · exact rn_ret1 ev_non rfl
            · omega
      · rcases hk with ⟨rfl, _⟩ | ⟨rfl, _⟩ | ⟨hz, ⟨r, n, o, hi⟩, rfl⟩
        · omega
        · omega
        · have gi : r < 4 ∧ n < m.length ∧ o < m.length := h.mok.good _ (List.mem_of_getElem? hi)
          have hh : heldP F r = [] := by rw [← hF]; exact held_lack h hi hz
          have e1 : acc[r]? = some (acc[r]'(by omega)) := List.getElem?_eq_getElem (by omega)
          have e2 := (hN r _ e1).2.1 hh
          rw [e2] at e1
          refine rn_left (fin true ?_) (rn_ret1 ev_non rfl)
          unfold inV
          rw [List.any_map, List.any_eq_true]
          exact ⟨.none, List.mem_of_getElem? e1, rfl⟩)
end
end K87
/-! What the defs do with data: meetings, runs. -/
namespace K87
open PySem PySem.Spec PyProof.Rows L2
def pairD (z : Part × Part) : PyData := .tuple [z.1.enc, z.2.enc]
def meetsI (f : Pl) (l : Pl) : List (Part × Part) := l.flatMap fun x => match x with
  | .node false c _ => (f.filter (isW c)).map (fun y => (x, y))
  | _ => []
theorem meetsI_self (f : Pl) : meetsI f f = meetsL f := rfl
theorem meetsI_take {f : Pl} {l : Pl} {i : Nat} {x : Part} (h : l[i]? = some x) : meetsI f (l.take (i + 1)) = meetsI f (l.take i) ++ meetsI f [x] := by
  unfold meetsI
  rw [List.take_add_one, h, List.flatMap_append]
  rfl
theorem meetsI_len (f : Pl) (i : Nat) : (meetsI f (f.take i)).length ≤ (meetsL f).length := by
  have e : meetsI f (f.take i) ++ meetsI f (f.drop i) = meetsL f := by
    rw [← meetsI_self]
    unfold meetsI
    rw [← List.flatMap_append, List.take_append_drop]
  rw [← e, List.length_append]
  omega
def g_meetings : Gl' := fun as P' => ∃ (f : Pl) (z : Part × Part), okL 0 f ∧ cntL f ≤ 1000 ∧ meetsL f = [z] ∧ as = [.dat (plan f)] ∧ P' = fun es => es = [pairD z]
section
variable {P : Program} {w : World} {K : PySem.W.Frag} {mg : Str → Option Value} {base : Heap} {T : List (Addr × Str)}
theorem q_meetings_of (M : Hd w K mg) : Cal P w K mg base 1 "meetings_of" (spL K (pureA T) g_meetings) :=
  cll_meetings_of M _ (by rintro as P' ⟨f, z, _, _, _, rfl, rfl⟩; rfl) (fun f cdv A' o s H E r => pr_meetings_of M f cdv A' o s H E r) (by
    rintro as P' ⟨f, z, ok, cn, hz, rfl, rfl⟩
    have hl := len_cnt f
    refine rn_asgLS (P := fun es => es = []) (el_lst (Pd := fun es => es = []) (ed_nil rfl) fun es e => ⟨by rw [e]; exact Nat.zero_le _, e⟩) fun es e => ?_
    subst e
    refine rn_forS (fun i ds => ∃ a b c e, ds = [.dat (plan f), .own ((meetsI f (f.take i)).map pairD), a, b, c, e]) (ei_plan (ev_var rfl)) ⟨.emp, .emp, .emp, .emp, rfl⟩ ?_ ?_
    · rintro i ds d hi ⟨a, b, c', e', rfl⟩ ⟨x, hx, rfl⟩
      have hm := List.mem_of_getElem? hx
      have okx := ok.1 x hm
      have ht := meetsI_take (f := f) hx
      have hlen := meetsI_len f i
      rw [hz] at hlen
      refine ⟨_, _, eg_item, ?_⟩
      cases x with
      | name v => exact (ok_name okx).elim
      | got v => exact absurd (ok_got.mp okx) (Nat.not_lt_zero _)
      | node k c q =>
        have hev : ∀ (ds : List SD) (j : Nat) (k : Bool) (c : Nat) (q : Pl), ds[j]? = some (.dat (Part.node k c q).enc) → Ev K (pureA T) (tVar j) ds (Is (.tuple [.str (kw k), .str (door c), plan q])) := fun ds j k c q h => ev_var (by rw [← enc_node]; exact h)
        cases k with
        | true =>
          refine rn_if (Pb := IsB false) (et_str (ev_at (hev _ 3 _ _ _ rfl) rfl) (by decide)) (fun z => nomatch z) fun _ => rn_next ⟨.dat (.int 1), .dat (Part.node true c q).enc, c', e', ?_⟩
          rw [ht]
          have e1 : meetsI f [.node true c q] = [] := rfl
          rw [e1, List.append_nil]
          rfl
        | false =>
          refine rn_if (Pb := IsB true) (et_str (ev_at (hev _ 3 _ _ _ rfl) rfl) (by decide)) (fun _ => ?_) fun z => nomatch z
          refine rn_ext (es := (meetsI f (f.take i)).map pairD) (P := fun fs => fs = (f.filter (isW c)).map fun y => pairD (.node false c q, y)) rfl (el_lc (fun j acc => acc = ((f.take j).filter (isW c)).map fun y => pairD (.node false c q, y)) (ei_plan (ev_var rfl)) rfl (fun j acc hj e => ?_) (fun j acc d hj e yd => ?_) fun acc e => by rw [e, List.take_length]) (fun fs e => ?_) fun fs e => ⟨.dat (.int 1), .dat (Part.node false c q).enc, noOwn c', noOwn e', ?_⟩
          · rw [e, List.length_map]
            have h1 := List.length_filter_le (isW c) (f.take j)
            rw [List.length_take] at h1
            omega
          · obtain ⟨y, hy, rfl⟩ := yd
            have oky := ok.1 y (List.mem_of_getElem? hy)
            cases y with
            | name v => exact (ok_name oky).elim
            | got v => exact absurd (ok_got.mp oky) (Nat.not_lt_zero _)
            | node k2 c2 q2 =>
              have ht2 : (f.take (j + 1)).filter (isW c) = (f.take j).filter (isW c) ++ [Part.node k2 c2 q2].filter (isW c) := by
                rw [List.take_add_one, hy, List.filter_append]
                rfl
              have ew : isW c (.node k2 c2 q2) = (k2 && decide (c2 = c)) := by cases k2 <;> rfl
              refine ⟨[4, 5], _, IsB (k2 && decide (c2 = c)), eg_item, fun j hj => hj, et_and1 (a := k2) (b := decide (c2 = c)) (et_str (ev_at (hev _ 5 _ _ _ rfl) rfl) (by cases k2 <;> decide)) fun _ => (et_test (ev_eqS (c := .str (door c2)) (d := .str (door c)) (ev_at (hev _ 5 _ _ _ rfl) rfl) (ev_at (hev _ 3 _ _ _ rfl) rfl) rfl rfl rfl)).to (dec_str.trans ?_), fun hb => ?_, fun hb => ?_⟩
              · rw [Bool.eq_iff_iff, decide_eq_true_iff, decide_eq_true_iff]
                exact ⟨door_inj, fun h => by rw [h]⟩
              · refine (ev_tup1 (es := [(Part.node false c q).enc, (Part.node k2 c2 q2).enc]) (ed_one (ev_var rfl) (ed_one (ev_var rfl) (ed_nil rfl))) (by show 2 ≤ 100000; decide)).to ?_
                rw [e, ht2, List.filter_cons_of_pos (by rw [ew]; exact hb.symm), List.map_append]
                rfl
              · rw [e, ht2, List.filter_cons_of_neg (by rw [ew, ← hb]; simp), List.filter_nil, List.append_nil]
          · subst e
            rw [List.length_map, List.length_map]
            have h1 := List.length_filter_le (isW c) f
            have h2 : [z].length = 1 := rfl
            omega
          · subst e
            rw [ht, List.map_append]
            have e1 : (meetsI f [.node false c q]).map pairD = (f.filter (isW c)).map fun y => pairD (.node false c q, y) := by
              show (((f.filter (isW c)).map (fun y => (Part.node false c q, y))) ++ []).map pairD = _
              rw [List.append_nil, List.map_map]
              rfl
            rw [e1]
            rfl
    · rintro ds ⟨a, b, c', e', rfl⟩
      rw [List.take_length, meetsI_self, hz]
      exact rn_retO rfl rfl)
/-! ### without -/
def f_without : List PyData → PyData → Prop := fun es d => ∃ (f : Pl) (x : Part), cntL f ≤ 1000 ∧ x.dp ≤ 60 ∧ es = [plan f, x.enc] ∧ d = plan (dropP f x)
theorem same_eqv (x y : Part) : PyData.eqv y.enc x.enc = y.same x := by
  rw [Bool.eq_iff_iff, same_iff]
  exact ⟨eqv_enc.1 y x, fun h => by rw [h]; exact PySem.SeqAt.eqv_refl_plain _ (enc_pl.1 x)⟩
theorem drop_take {f : Pl} {x y : Part} {i : Nat} (h : f[i]? = some y) : dropP (f.take (i + 1)) x = dropP (f.take i) x ++ if y.same x = true then [] else [y] := by
  unfold dropP
  rw [List.take_add_one, h, List.filter_append]
  congr 1
  cases e : y.same x <;> simp [e]
theorem q_without (M : Hd w K mg) : Cal P w K mg base 1 "without" (spD K (pureA T) (gF f_without)) :=
  cl_without M _ (by rintro as P' ⟨es, d, ⟨f, x, _, _, rfl, rfl⟩, rfl, rfl⟩; rfl) (fun f cdv A' o s H E r => pr_without M f cdv A' o s H E r) (by
    rintro as P' ⟨es, d, ⟨f, x, cn, dx, rfl, rfl⟩, rfl, rfl⟩
    have hl := len_cnt f
    refine rn_asgLS (P := fun es => es = []) (el_lst (Pd := fun es => es = []) (ed_nil rfl) fun es e => ⟨by rw [e]; exact Nat.zero_le _, e⟩) fun es e => ?_
    subst e
    refine rn_forS (fun i ds => ∃ a b, ds = [.dat (plan f), .dat x.enc, .own (encL (dropP (f.take i) x)), a, b]) (ei_plan (ev_var rfl)) ⟨.emp, .emp, by rw [show dropP (f.take 0) x = [] from rfl, encL_nil]; rfl⟩ ?_ ?_
    · rintro i ds d hi ⟨a, b, rfl⟩ ⟨y, hy, rfl⟩
      have hs := drop_take (x := x) hy
      refine ⟨_, _, eg_item, ?_⟩
      refine rn_if (Pb := IsB (!y.same x)) ((et_test (ev_neP (d := y.enc) (e := x.enc) (ev_var rfl) (ev_var rfl) ?_)).to (congrArg (!·) (same_eqv x y))) (fun hb => ?_) fun hb => ?_
      · have := enc_depth.1 x
        omega
      · have hb : y.same x = false := by
          cases e : y.same x with
          | false => rfl
          | true => rw [e] at hb; cases hb
        refine rn_app (es := encL (dropP (f.take i) x)) (P := Is (itm y)) rfl (ev_tup1 (es := [.int 1, y.enc]) (ed_one (ev_var rfl) (ed_one (ev_var rfl) (ed_nil rfl))) (by show 2 ≤ 100000; decide)) ?_ fun z e => ⟨.dat (.int 1), .dat y.enc, ?_⟩
        · have h1 := List.length_filter_le (fun y => !y.same x) (f.take i)
          rw [List.length_take] at h1
          rw [encL_length]
          unfold dropP
          omega
        · have e : z = _ := e
          rw [hs, hb, if_neg (by simp), e, encL_snoc]
          rfl
      · have hb : y.same x = true := by
          cases e : y.same x with
          | true => rfl
          | false => rw [e] at hb; cases hb
        refine rn_if (Pb := IsB false) (et_lt (i := 1) (j := 1) (ev_var rfl) ev_int) (fun z => nomatch z) fun _ => rn_next ⟨.dat (.int 1), .dat y.enc, ?_⟩
        rw [hs, if_pos hb, List.append_nil]
        rfl
    · rintro ds ⟨a, b, rfl⟩
      rw [List.take_length]
      exact rn_ret1 (ev_tupL (Pl := fun r => r = encL (dropP f x)) (er_own rfl) fun es h => by rw [h]; rfl) rfl)
/-! ### met_of -/
theorem okL_any {p : Pl} (h : okL 0 (plainL p)) : okL 0 p := okL_plain.mp h
def f_met : List PyData → PyData → Prop := fun es d => ∃ (f f' : Pl) (c : Nat) (p b : Pl), Met f f' c p b ∧ Small f ∧ Small f' ∧ okL 0 f' ∧ es = [plan f, pairD (letter c p, wait c b)] ∧ d = plan f'
theorem q_met_of (M : Hd w K mg) (tb : Tb K mg base) : Cal P w K mg base 68 "met_of" (spD K (pureA tb.T) (gF f_met)) :=
  cl_met_of M _ (by rintro as P' ⟨es, d, ⟨f, f', c, p, b, _, _, _, _, rfl, rfl⟩, rfl, rfl⟩; rfl) (fun f cdv A' o s H E r => pr_met_of M (q_without (T := tb.T) M) (by omega) (q_roomy_brought M tb 30 30 (by omega) (by omega)) (by omega) (q_plain M tb 30 (by omega)) (by omega) f cdv A' o s H E r) (by
    rintro as P' ⟨es, d, ⟨f, f', c, p, b, h, sf, sf', ok', rfl, rfl⟩, rfl, rfl⟩
    have dl := dpL_le.mp sf.dp _ h.inp
    have dw := dpL_le.mp sf.dp _ h.inb
    rw [dp_node] at dl dw
    have c1 := sf.cnt
    have c2 := sf'.cnt
    have d2 := sf'.dp
    have hcn := h.cn
    have hdn := h.dn
    have s1 : (dropP f (letter c p)).Sublist f := List.filter_sublist
    have s2 : (dropP (dropP f (letter c p)) (wait c b)).Sublist f := List.filter_sublist.trans s1
    refine rn_seq (M := fun ds => ds = [.dat (plan f), .dat (pairD (letter c p, wait c b)), .dat (letter c p).enc, .dat (wait c b).enc, .emp]) (rn_asgG (P := Is (pairD (letter c p, wait c b))) (ev_var rfl) fun d ed => ⟨_, by rw [ed]; exact eg_pair (a := (letter c p).enc) (b := (wait c b).enc), rfl⟩) ?_
    rintro ds rfl
    refine rn_asg1 (d := plan (dropP (dropP f (letter c p)) (wait c b))) (ev_callF (es := [plan (dropP f (letter c p)), (wait c b).enc]) le (ea_one (ev_callF (es := [plan f, (letter c p).enc]) le (ea_one (ev_var rfl) (ea_one (ev_var rfl) (ea_nil rfl))) ⟨f, letter c p, by omega, by rw [dp_node]; omega, rfl, rfl⟩) (ea_one (ev_var rfl) (ea_nil rfl))) ⟨dropP f (letter c p), wait c b, by have := sub_cnt s1; omega, by rw [dp_node]; omega, rfl, rfl⟩) ?_
    have hev : ∀ (ds : List SD) (j : Nat) (k : Bool) (q : Pl), ds[j]? = some (.dat (Part.node k c q).enc) → Ev K (pureA tb.T) (tVar j) ds (Is (.tuple [.str (kw k), .str (door c), plan q])) := fun ds j k q h => ev_var (by rw [← enc_node]; exact h)
    refine rn_ret1 (ev_callF (es := [plan (dropP (dropP f (letter c p)) (wait c b) ++ bringP b p)]) le (ea_one (ev_callF (es := [plan (dropP (dropP f (letter c p)) (wait c b)), plan b, plan p]) le (ea_one (ev_var rfl) (ea_one (ev_at (hev _ 3 _ _ rfl) rfl) (ea_one (ev_at (hev _ 2 _ _ rfl) rfl) (ea_nil rfl)))) ⟨_, b, p, Nat.le_trans (sub_dp s2) sf.dp, Nat.le_trans (sub_cnt s2) sf.cnt, by omega, h.cb, by omega, h.cp, by omega, by omega, rfl, rfl⟩) (ea_nil rfl)) ⟨_, 0, ?_, by omega, by omega, rfl, rfl⟩) ?_
    · exact okL_any (by rw [← h.nx]; exact ok')
    · show plan _ = plan f'
      rw [← h.nx])
/-! ### choices -/
def g_choices : Gd := fun as P' => ∃ n : Nat, n ≤ 200 ∧ as = [.lst (List.replicate n (.int 0))] ∧ P' = Is .none
theorem q_check_choices (M : Hd w K mg) : Cal P w K mg base 2 "check_choices" (spD K (pureA T) g_choices) :=
  cl_check_choices M _ (by rintro as P' ⟨n, _, rfl, rfl⟩; rfl) (fun f cdv A' o s H E r => pr_check_choices M (q_is_listed (T := T) M) (by omega) (q_is_integer (T := T) M) (by omega) f cdv A' o s H E r) (by
    rintro as P' ⟨n, hn, rfl, rfl⟩
    refine rn_skip (et_or1 (a := false) (b := false) (et_not1 (a := true) (et_B (ev_call (G := g_listed) (P := Is (.bool true)) (Pa := fun as => as = [.lst (List.replicate n (.int 0))]) le (ea_lst (Pa := fun es => es = List.replicate n (.int 0)) (er_lst rfl) fun d e => ea_nil (by rw [e])) fun as e => ⟨_, ⟨_, e, rfl⟩, fun d h => h⟩))) fun _ => (et_lt (i := (n : Int)) (j := 200) ((ev_lenL (er_lst rfl)).eq (by rw [List.length_replicate])) ev_int).to (decide_eq_false (by omega))) ?_
    refine rn_if (Pb := IsB false) (et_not1 (a := true) (et_B (ev_allT (js := [1]) (l := List.replicate n (.int 0)) (ei_lst rfl) (fun i d _ h => h) rfl (by rw [List.length_replicate]; omega) (fun j hj => hj) fun d hd => ?_))) (fun z => nomatch z) fun _ => rn_next rfl
    rw [List.eq_of_mem_replicate hd]
    exact ⟨_, eg_name, ev_andV (a := true) (b := true) (ev_callF (es := [.int 0]) le (ea_one (ev_var rfl) (ea_nil rfl)) rfl) fun _ => (ev_opI (i := (0 : Int)) (j := 0) (c := .bool (decide ((0 : Int) ≤ 0))) (ev_var rfl) ev_int fun _ => .bl _).eq rfl⟩)
/-! ### runs -/
/-- a chain of forms, each met from the one ahead -/
structure Chain (F : Nat → Pl) (n : Nat) : Prop where
  ok : ∀ i, i ≤ n → okL 0 (F i) ∧ Small (F i)
  pl : plainL (F 0) = F 0
  met : ∀ i, i < n → ∃ c p b, Met (F i) (F (i + 1)) c p b
def forms (F : Nat → Pl) (k : Nat) : List PyData := (List.range k).map fun i => plan (F i)
theorem forms_len (F : Nat → Pl) (k : Nat) : (forms F k).length = k := by unfold forms; rw [List.length_map, List.length_range]
theorem forms_succ (F : Nat → Pl) (k : Nat) : forms F (k + 1) = forms F k ++ [plan (F k)] := by unfold forms; rw [List.range_succ, List.map_append]; rfl
theorem forms_last (F : Nat → Pl) (k : Nat) : atI (forms F (k + 1)) (-1) = some (plan (F k)) := by
  rw [at_last (by rw [forms_len]; omega), forms_len, forms_succ, Nat.add_sub_cancel, List.getElem?_append_right (by rw [forms_len]; omega), forms_len, Nat.sub_self]
  rfl
def g_run : Gd := fun as P' => ∃ (F : Nat → Pl) (n : Nat), Chain F n ∧ n ≤ 200 ∧ as = [.dat (plan (F 0)), .lst (List.replicate n (.int 0))] ∧ P' = Is (.tuple (forms F (n + 1)))
theorem q_run (M : Hd w K mg) (tb : Tb K mg base) : Cal P w K mg base 69 "run" (spD K (pureA tb.T) g_run) :=
  cl_run M _ (by rintro as P' ⟨F, n, _, _, rfl, rfl⟩; rfl) (fun f cdv A' o s H E r => pr_run M (q_check_plan (T := tb.T) M 30) (by omega) (q_check_choices (T := tb.T) M) (by omega) (q_plain M tb 30 (by omega)) (by omega) (q_meetings_of (T := tb.T) M) (by omega) (q_met_of M tb) (by omega) f cdv A' o s H E r) (by
    rintro as P' ⟨F, n, ch, hn, rfl, rfl⟩
    obtain ⟨ok0, sm0⟩ := ch.ok 0 (Nat.zero_le _)
    have c0 := sm0.cnt
    refine rn_seq (M := fun ds => ds = [.dat (plan (F 0)), .lst (List.replicate n (.int 0)), .emp, .emp, .emp]) (rn_drop (P := Is .none) (ev_callF (es := [plan (F 0)]) le (ea_one (ev_var rfl) (ea_nil rfl)) ⟨F 0, ok0, sm0.dp, rfl, rfl⟩) rfl) ?_
    rintro ds rfl
    refine rn_seq (M := fun ds => ds = [.dat (plan (F 0)), .lst (List.replicate n (.int 0)), .emp, .emp, .emp]) (rn_drop (P := Is .none) (ev_call (G := g_choices) (Pa := fun as => as = [.lst (List.replicate n (.int 0))]) le (ea_lst (Pa := fun es => es = List.replicate n (.int 0)) (er_lst rfl) fun d e => ea_nil (by rw [e])) fun as e => ⟨_, ⟨n, hn, e, rfl⟩, fun d h => h⟩) rfl) ?_
    rintro ds rfl
    refine rn_asgLS (P := fun es => es = forms F 1) (el_lst (Pd := fun es => es = forms F 1) (ed_one (ev_callF (es := [plan (F 0)]) le (ea_one (ev_var rfl) (ea_nil rfl)) ⟨F 0, 0, ok0, sm0.dp, by omega, rfl, rfl⟩) (ed_nil (by rw [ch.pl]; rfl))) fun es e => ⟨by rw [e, forms_len]; decide, e⟩) fun es e => ?_
    subst e
    refine rn_forS (fun i ds => ∃ a b, ds = [.dat (plan (F 0)), .lst (List.replicate n (.int 0)), .own (forms F (i + 1)), a, b]) (ei_lst (l := List.replicate n (.int 0)) rfl) ⟨.emp, .emp, rfl⟩ ?_ ?_
    · rintro i ds d hi ⟨a, b, rfl⟩ hd
      rw [List.length_replicate] at hi
      rw [List.getElem?_replicate, if_pos hi] at hd
      cases hd
      obtain ⟨ok1, sm1⟩ := ch.ok i (by omega)
      obtain ⟨ok2, sm2⟩ := ch.ok (i + 1) (by omega)
      obtain ⟨c, p, bb, met⟩ := ch.met i hi
      have c1 := sm1.cnt
      refine ⟨_, _, eg_name, ?_⟩
      refine rn_asgLS (P := fun es => es = [pairD (letter c p, wait c bb)]) (el_call (G := g_meetings) (Pa := fun as => as = [.dat (plan (F i))]) le (ea_one (ev_ixL (er_own rfl) (ev_neg ev_int) (forms_last F i)) (ea_nil rfl)) fun as e => ⟨_, ⟨F i, _, ok1, by omega, met.pairs, e, rfl⟩, fun d h => h⟩) fun es e => ?_
      subst e
      refine rn_skip ((et_le (i := 0) (j := 1) (ev_var rfl) (ev_lenL (es := [pairD (letter c p, wait c bb)]) (er_own rfl))).to rfl) ?_
      refine rn_app (es := forms F (i + 1)) (P := Is (plan (F (i + 1)))) rfl (ev_callF (es := [plan (F i), pairD (letter c p, wait c bb)]) le (ea_one (ev_ixL (er_own rfl) (ev_neg ev_int) (forms_last F i)) (ea_one (ev_ixL (er_own rfl) (ev_var rfl) (at_zero _ _)) (ea_nil rfl))) ⟨F i, F (i + 1), c, p, bb, met, sm1, sm2, ok2, rfl, rfl⟩) (by rw [forms_len]; omega) fun d e => ⟨.dat (.int 0), .emp, ?_⟩
      have e : d = _ := e
      rw [e, forms_succ F (i + 1)]
      rfl
    · rintro ds ⟨a, b, rfl⟩
      rw [List.length_replicate]
      exact rn_ret1 (ev_tupL (Pl := fun r => r = forms F (n + 1)) (er_own rfl) fun es h => by rw [h]) rfl)
end
end K87
/-! The law's tape: what holds of it, and the picks. -/
namespace K87
open PySem PySem.Spec PyProof.Rows L2
def tapeL (S : Addr) (pos : Nat) (cur st cnt : Int) : List V := [.ref S, .int (pos : Int), .int cur, .int st, .int cnt]
/-- the tape at L, its script at S -/
def TapeAt (L S : Addr) (H : Hp) : Prop := ∃ (pos : Nat) (cur st cnt : Int) (xs : List Int), H L = some (.lst (tapeL S pos cur st cnt)) ∧ H S = some (.lst (xs.map V.int))
def tapeA (T : List (Addr × Str)) (L S : Addr) : Amb where
  tp := [L, S]
  inv := fun H => (pureA T).inv H ∧ TapeAt L S H
  lst := fun H a ⟨_, pos, cur, st, cnt, xs, h1, h2⟩ m => by
    rcases List.mem_cons.mp m with z | z
    · rw [z]; exact ⟨_, h1⟩
    · rw [List.mem_singleton.mp z]; exact ⟨_, h2⟩
  new := fun H p o ⟨i, pos, cur, st, cnt, xs, h1, h2⟩ n => ⟨(pureA T).new H p o i n, pos, cur, st, cnt, xs, (upd_ne (ne_of_none h1 n)).trans h1, (upd_ne (ne_of_none h2 n)).trans h2⟩
  wrt := fun H p us ys ⟨i, pos, cur, st, cnt, xs, h1, h2⟩ h m => ⟨(pureA T).wrt H p us ys i h List.not_mem_nil, pos, cur, st, cnt, xs, (upd_ne fun z => m (by rw [← z]; exact List.mem_cons_self)).trans h1, (upd_ne fun z => m (by rw [← z]; exact List.mem_cons_of_mem _ List.mem_cons_self)).trans h2⟩
theorem leT {T : List (Addr × Str)} {L S : Addr} : Le (pureA T) (tapeA T L S) where
  tp := rfl
  inv := fun _ i => i.1
  xt := fun H H' ⟨i, pos, cur, st, cnt, xs, h1, h2⟩ x => ⟨fun b o h n _ => x.kp b o h n List.not_mem_nil, fun _ => ⟨x.inv i, pos, cur, st, cnt, xs, x.kp _ _ h1 (fun _ z => nomatch z) List.not_mem_nil, x.kp _ _ h2 (fun _ z => nomatch z) List.not_mem_nil⟩, x.fr⟩
theorem tape_ne {L S : Addr} {H : Hp} (h : TapeAt L S H) : L ≠ S := fun z => by
  obtain ⟨pos, cur, st, cnt, xs, h1, h2⟩ := h
  subst z
  rw [h1] at h2
  injection h2 with h2
  injection h2 with h2
  cases xs with
  | nil => cases h2
  | cons x xs => cases h2
section
variable {K : PySem.W.Frag} {T : List (Addr × Str)} {L S : Addr} {ds : List SD} {P : PyData → Prop} {Po : Post} {te ta tb : TE} {t u : TS} {σ : L2.St} {H : Hp} {Q : VK}
theorem ix_raw {i : Nat} {j : Int} {vs : List V} {v : V} (h : σ[i]? = some (some (.ref L))) (hL : H L = some (.lst vs)) (e : atI vs j = some v) (q : Q v H) : (tOp (rIxL K) (tVar i) (tC (.int j))) σ H Q :=
  ⟨_, h, L, vs, j, v, rfl, rfl, SqL.of hL, e, q⟩
abbrev AnyI : PyData → Prop := fun d => ∃ i : Int, d = .int i ∧ True
/-- a field of the tape -/
theorem ev_tape {i : Nat} {j : Int} (h : ds[i]? = some (.raw (.ref L))) (hj : j = 1 ∨ j = 2 ∨ j = 3 ∨ j = 4) : Ev K (tapeA T L S) (tOp (rIxL K) (tVar i) (tC (.int j))) ds AnyI := fun H0 H σ Q n q => by
  have hv := n.slot i _ h
  obtain ⟨_, pos, cur, st, cnt, xs, h1, h2⟩ := n.inv
  rcases hj with rfl | rfl | rfl | rfl
  · exact ix_raw hv h1 (v := .int (pos : Int)) rfl (q _ _ H ⟨_, rfl, trivial⟩ (Xt.refl H) (.int _))
  · exact ix_raw hv h1 (v := .int cur) rfl (q _ _ H ⟨_, rfl, trivial⟩ (Xt.refl H) (.int _))
  · exact ix_raw hv h1 (v := .int st) rfl (q _ _ H ⟨_, rfl, trivial⟩ (Xt.refl H) (.int _))
  · exact ix_raw hv h1 (v := .int cnt) rfl (q _ _ H ⟨_, rfl, trivial⟩ (Xt.refl H) (.int _))
theorem ev_tape1 {i : Nat} (h : ds[i]? = some (.raw (.ref L))) : Ev K (tapeA T L S) (tOp (rIxL K) (tVar i) (tC (.int 1))) ds (fun d => ∃ i : Int, d = .int i ∧ 0 ≤ i) := fun H0 H σ Q n q => by
  have hv := n.slot i _ h
  obtain ⟨_, pos, cur, st, cnt, xs, h1, h2⟩ := n.inv
  exact ix_raw hv h1 (v := .int (pos : Int)) rfl (q _ _ H ⟨_, rfl, by omega⟩ (Xt.refl H) (.int _))
/-- the tape is written -/
theorem En.tape {H0 : Hp} {vs ws : List V} (n : En K (tapeA T L S) H0 H σ ds) (hL : H L = some (.lst vs)) (hw : TapeAt L S (upd H L (.lst ws))) : En K (tapeA T L S) H0 (upd H L (.lst ws)) σ ds := by
  have hm : L ∈ (tapeA T L S).tp := List.mem_cons_self
  refine ⟨n.inv0, ⟨(pureA T).wrt H L vs ws n.inv.1 hL List.not_mem_nil, hw⟩, fun b o h nt m => ?_, fun b e => ?_, n.len, fun i d e => ?_⟩
  · rw [upd_ne fun z => m (by rw [z]; exact hm)]
    exact n.kp b o h nt m
  · unfold upd at e
    split at e
    · cases e
    · exact n.fr b e
  · have s := n.slot i d e
    have ne : ∀ a, a ∉ (tapeA T L S).tp → a ≠ L := fun a m z => m (by rw [z]; exact hm)
    cases d with
    | emp => trivial
    | dat d => obtain ⟨v, e1, a⟩ := s; exact ⟨v, e1, a.mono (sqt_upd hL)⟩
    | lst es =>
      obtain ⟨a, us, e1, nt, r0, r, q⟩ := s
      refine ⟨a, us, e1, nt, r0, ?_, q.mono (sqt_upd hL)⟩
      rcases r with r | ⟨o, r⟩
      · exact .inl (by rw [upd_ne (ne a nt)]; exact r)
      · exact .inr ⟨o, by rw [upd_ne (ne a nt)]; exact r⟩
    | own es =>
      obtain ⟨p, us, e1, np, hp, q⟩ := s
      exact ⟨p, us, e1, np, by rw [upd_ne (ne p (own_ne n.inv0 np))]; exact hp, q.mono (sqt_upd hL)⟩
    | raw v => exact s
theorem go_tape {ws : List V} : Go (tapeA T L S) σ ds H σ ds (upd H L (.lst ws)) :=
  ⟨fun b o h nt m _ => by
    rw [upd_ne fun z => m (by rw [z]; exact List.mem_cons_self)]
    exact h, fun b z => .inr z, fun b e => by
    unfold upd at e
    split at e
    · cases e
    · exact e⟩
theorem rn_tape {i : Nat} {j : Int} (h : ds[i]? = some (.raw (.ref L))) (hj : j = 1 ∨ j = 2 ∨ j = 3 ∨ j = 4) (he : Ev K (tapeA T L S) te ds (fun d => ∃ i : Int, d = .int i ∧ (j = 1 → 0 ≤ i))) (k : Po.nx ds) : Rn K (tapeA T L S) (tAsg te (gSub (tVar i) (tC (.int j)) rSetL)) ds Po := fun H0 H σ D n a _ _ _ =>
  he H0 H σ _ n fun v d H1 ⟨x, e, hx⟩ x1 z => by
    subst e
    cases z
    have n1 := n.xt x1
    have hv := n1.slot i _ h
    obtain ⟨_, pos, cur, st, cnt, xs, h1, h2⟩ := n1.inv
    have ne := tape_ne n1.inv.2
    have up : ∀ ws, upd H1 L (.lst ws) L = some (.lst ws) := fun ws => upd_same
    have us : ∀ ws, upd H1 L (.lst ws) S = some (.lst (xs.map V.int)) := fun ws => (upd_ne (Ne.symm ne)).trans h2
    refine ⟨_, hv, L, tapeL S pos cur st cnt, j, j.toNat, rfl, rfl, h1, ?_, ?_⟩
    · rcases hj with rfl | rfl | rfl | rfl <;> rfl
    · have hw : TapeAt L S (upd H1 L (.lst ((tapeL S pos cur st cnt).set j.toNat (.int x)))) := by
        rcases hj with rfl | rfl | rfl | rfl
        · have h0 := hx rfl
          obtain ⟨m, rfl⟩ := Int.eq_ofNat_of_zero_le h0
          exact ⟨m, cur, st, cnt, xs, up _, us _⟩
        · exact ⟨pos, x, st, cnt, xs, up _, us _⟩
        · exact ⟨pos, cur, x, cnt, xs, up _, us _⟩
        · exact ⟨pos, cur, st, x, xs, up _, us _⟩
      exact a ds σ _ k (n1.tape h1 hw) ((Go.of x1).trans go_tape)
theorem rn_tapeS {i : Nat} {j : Int} (h : ds[i]? = some (.raw (.ref L))) (hj : j = 1 ∨ j = 2 ∨ j = 3 ∨ j = 4) (he : Ev K (tapeA T L S) te ds (fun d => ∃ i : Int, d = .int i ∧ (j = 1 → 0 ≤ i))) (k : Rn K (tapeA T L S) u ds Po) : Rn K (tapeA T L S) (tSeq (tAsg te (gSub (tVar i) (tC (.int j)) rSetL)) u) ds Po :=
  rn_seq (M := fun es => es = ds) (rn_tape h hj he rfl) fun es e => by rw [e]; exact k
theorem ev_any {i : Int} {A : Amb} (h : Ev K A te ds (Is (.int i))) : Ev K A te ds AnyI := h.to ⟨i, rfl, trivial⟩
theorem ev_int1 {A : Amb} {Pa : Int → Prop} (h : Ev K A te ds (fun d => ∃ i : Int, d = .int i ∧ Pa i)) : Ev K A (tCB rInt1 (tCons te tNil)) ds (fun d => ∃ i : Int, d = .int i ∧ Pa i) := fun H0 H σ Q n q => h H0 H σ _ n fun v d H1 p x a => by
  obtain ⟨i, rfl, pi⟩ := p
  cases a
  exact .inl ⟨i, rfl, q _ _ H1 ⟨i, rfl, pi⟩ x (.int i)⟩
theorem Ev.as {A : Amb} {Pa : Int → Prop} (h : Ev K A te ds AnyI) (i : ∀ x, Pa x) : Ev K A te ds (fun d => ∃ i : Int, d = .int i ∧ Pa i) := h.imp fun d ⟨x, e, _⟩ => ⟨x, e, i x⟩
theorem ev_anyP {A : Amb} {Pa : Int → Prop} (h : Ev K A te ds (fun d => ∃ i : Int, d = .int i ∧ Pa i)) : Ev K A te ds AnyI := h.imp fun d ⟨x, e, _⟩ => ⟨x, e, trivial⟩
theorem ev_addA {A : Amb} (ha : Ev K A ta ds AnyI) (hb : Ev K A tb ds AnyI) : Ev K A (tOp (rI0 fun i j => .int (i + j)) ta tb) ds AnyI := ev_opP (f := fun i j => .int (i + j)) ha hb (fun _ _ _ => .int _) fun i j _ _ => ⟨_, rfl, trivial⟩
theorem ev_mulA {A : Amb} {c : Int} (hc : -(2 ^ 64) < c ∧ c < 2 ^ 64) (ha : Ev K A ta ds AnyI) : Ev K A (tOp (rI CMul fun i j => .int (i * j)) ta (tC (.int c))) ds AnyI := ev_opPC (f := fun i j => .int (i * j)) (Pb := fun j => j = c) ha (ev_intP ev_int rfl) (fun i j _ e => .inr (by rw [e]; exact hc)) (fun _ _ _ => .int _) fun i j _ _ => ⟨_, rfl, trivial⟩
theorem ev_divA {A : Amb} {c : Int} (hc : 0 < c ∧ c < 1073741824) (ha : Ev K A ta ds AnyI) (hb : Ev K A tb ds (Is (.int c))) : Ev K A (tOp (rI CDivN fun i j => .int (i.fdiv j)) ta tb) ds AnyI := ev_opPC (f := fun i j => .int (i.fdiv j)) (Pb := fun j => j = c) ha (ev_intP hb rfl) (fun i j _ e => by rw [e]; exact ⟨by omega, by omega⟩) (fun _ _ _ => .int _) fun i j _ _ => ⟨_, rfl, trivial⟩
theorem ev_modA {A : Amb} {c : Int} (hc : 0 < c) (ha : Ev K A ta ds AnyI) (hb : Ev K A tb ds (Is (.int c))) : Ev K A (tOp (rI (fun _ j => j ≠ 0) fun i j => .int (i.fmod j)) ta tb) ds (fun d => ∃ i : Int, d = .int i ∧ 0 ≤ i ∧ i < c) := ev_opPC (f := fun i j => .int (i.fmod j)) (Pb := fun j => j = c) ha (ev_intP hb rfl) (fun i j _ e => by rw [e]; omega) (fun _ _ _ => .int _) fun i j _ e => by
  subst e
  exact ⟨_, rfl, Int.fmod_nonneg_of_pos i hc, Int.fmod_lt_of_pos i hc⟩
/-- a test that may be either -/
theorem et_any {A : Amb} {g : Int → Int → Bool} (ha : Ev K A ta ds AnyI) (hb : Ev K A tb ds AnyI) : EvT K A (tTest (tOp (rI0 fun i j => .bl (g i j)) ta tb)) ds (fun _ => True) :=
  et_testP (ev_opP (f := fun i j => .bool (g i j)) ha hb (fun _ _ _ => .bl _) fun i j _ _ => ⟨_, rfl, trivial⟩)
/-- the cell is read, if there is one -/
theorem rn_cell {n0 : Int} (k : ∀ i : Int, Po.nx [.raw (.ref L), .dat (.int n0), .emp, .dat (.int i), .emp]) : Rn K (tapeA T L S) (tIfS (tTest (tOp (rI0 fun i j => .bl (decide (i < j))) (tOp (rIxL K) (tVar 0) (tC (.int 1))) (tCB (rLenSeq K) (tCons (tOp (rIxL K) (tVar 0) (tC (.int 0))) tNil)))) (tSeq (tAsg (tOp (rIxL K) (tOp (rIxL K) (tVar 0) (tC (.int 0))) (tOp (rIxL K) (tVar 0) (tC (.int 1)))) (gName 3))
    (tAsg (tOp (rI0 fun i j => .int (i + j)) (tOp (rIxL K) (tVar 0) (tC (.int 1))) (tC (.int 1))) (gSub (tVar 0) (tC (.int 1)) rSetL))) tNext) [.raw (.ref L), .dat (.int n0), .emp, .dat (.int 0), .emp] Po := fun H0 H σ D n a b c e => by
  have hv := n.slot 0 _ rfl
  obtain ⟨_, pos, cur, st, cnt, xs, h1, h2⟩ := n.inv
  show (tOp (rIxL K) (tVar 0) (tC (.int 1))) σ H _
  refine ix_raw hv h1 (v := .int (pos : Int)) rfl ?_
  show (tOp (rIxL K) (tVar 0) (tC (.int 0))) σ H _
  refine ix_raw hv h1 (v := .ref S) rfl ?_
  refine ⟨S, _, rfl, .inl (SqL.of h2), (pos : Int), ((xs.map V.int).length : Int), rfl, rfl, _, rfl, ?_⟩
  by_cases hp : pos < xs.length
  · have e1 : decide ((pos : Int) < ((xs.map V.int).length : Int)) = true := decide_eq_true (by rw [List.length_map]; omega)
    rw [e1]
    show (tOp (rIxL K) (tVar 0) (tC (.int 0))) σ H _
    refine ix_raw hv h1 (v := .ref S) rfl ?_
    show (tOp (rIxL K) (tVar 0) (tC (.int 1))) σ H _
    refine ix_raw hv h1 (v := .int (pos : Int)) rfl ?_
    refine ⟨S, xs.map V.int, (pos : Int), .int (xs[pos]'hp), rfl, rfl, SqL.of h2, by rw [at_nat, List.getElem?_map, List.getElem?_eq_getElem hp]; rfl, ?_⟩
    have n1 := n.set (v := .int (xs[pos]'hp)) (d := .dat (.int (xs[pos]'hp))) 3 ⟨_, rfl, .int _⟩
    have g1 : Go (tapeA T L S) σ [.raw (.ref L), .dat (.int n0), .emp, .dat (.int 0), .emp] H (σ.set 3 (some (.int (xs[pos]'hp)))) ([SD.raw (.ref L), .dat (.int n0), .emp, .dat (.int 0), .emp].set 3 (.dat (.int (xs[pos]'hp)))) H := Go.set (Xt.refl H) fun ls e => nomatch e
    refine rn_tape (K := K) (Po := Po) (te := (tOp (rI0 fun i j => .int (i + j)) (tOp (rIxL K) (tVar 0) (tC (.int 1))) (tC (.int 1)))) (ds := [.raw (.ref L), .dat (.int n0), .emp, .dat (.int (xs[pos]'hp)), .emp]) (i := 0) rfl (.inl rfl) ?_ (k _) H0 H (σ.set 3 (some (.int (xs[pos]'hp)))) D n1 (fun es σ' H' z n' g => a es σ' H' z n' (g1.trans g)) b (fun es σ' H' z n' g => c es σ' H' z n' (g1.trans g)) fun es σ' H' z n' g => e es σ' H' z n' (g1.trans g)
    exact ev_opP (f := fun i j => .int (i + j)) (Pb := fun j => j = 1) (ev_tape1 rfl) (ev_intP ev_int rfl) (fun _ _ _ => .int _) fun i j h e => ⟨_, rfl, fun _ => by omega⟩
  · have e1 : decide ((pos : Int) < ((xs.map V.int).length : Int)) = false := decide_eq_false (by rw [List.length_map]; omega)
    rw [e1]
    exact a _ σ H (k 0) n (Go.of (Xt.refl H))
end
/-! ### promises for each of many -/
def spX {ι : Type} (f : ι → Sp) : Sp := fun vs H Q E => ∃ i, f i vs H Q E
section
variable {P : Program} {w : World} {K : PySem.W.Frag} {mg : Str → Option Value} {base : Heap} {x : Str} {st : Stmt} {N ps : List Str} {k : Nat} {t : TS} {ds : List SD} {ta : TA}
theorem cal_fam {ι : Type} {A : ι → Amb} (D : Dfn K mg x st) (S : FnScope N ps (defScope st)) (G : ι → Gd) (hl : ∀ i as P', G i as P' → as.length = ps.length)
    (hb : ∀ (dV kV doc pm : Value) (an : Option Addr) (cdv ct : Value) (us : List Value), dV = .none → us.length = ps.length → bindArgs (PySem.W.fnOf x x (defArgs st) (defBody st) (defScope st) .none kV doc pm an cdv ct) ⟨us, []⟩ = pure (ps.zip us))
    (hp : ∀ (f : Addr) (cdv : Value) (A' : Around) (outer : List Env) (s : Shared) (H : Hp) (E : XK), Room k (Bx P w K mg base N x st f cdv A' outer s H E).A → PSs (Bx P w K mg base N x st f cdv A' outer s H E) (defBody st) t)
    (hr : ∀ i as P', G i as P' → Rn K (A i) t (as ++ List.replicate (N.length - as.length) .emp) (retD P')) : Cal P w K mg base (k + 1) x (spX fun i => spD K (A i) (G i)) := by
  obtain ⟨f, fd, h1, F⟩ := D
  refine ⟨f, fd, ps, h1, F.kp, F.bindsN fun kV doc pm an cdv ct us h => hb .none kV doc pm an cdv ct us rfl h, ?_⟩
  refine F.ok S (fun vs H Q E h => ?_) fun cdv A' outer s H vs Q E room h => ⟨t, (hp f cdv A' outer s H E room).nox, ?_⟩
  · obtain ⟨i, _, as, P', g, al, _⟩ := h
    rw [al.length]
    exact hl i as P' g
  · obtain ⟨ix, i, as, P', g, al, q⟩ := h
    have n := en_start (N := N) i al
    refine hr ix as P' g H H _ _ n (fun es σ' H' z n' _ => q .non .none H' z n'.x0 .non) (fun v r H' z x' a => ?_) (fun _ _ _ z => z.elim) fun _ _ _ z => z.elim
    cases r with
    | inl d => exact q v d H' z x' a
    | inr es => exact (show False from z).elim
theorem ev_callX {ι : Type} {B : ι → Amb} {G : ι → Gd} {P : PyData → Prop} {Pa : List SD → Prop} (i : ι) (h : EvA K (B i) ta ds Pa) (g : ∀ as, Pa as → ∃ P', G i as P' ∧ ∀ d, P' d → P d) : Ev K (B i) (tCall (spX fun i => spD K (B i) (G i)) [] E0 ta) ds P := fun H0 H σ Q n q => h H0 H σ _ n fun vs as H1 p1 x1 a1 => by
  obtain ⟨P', g1, im⟩ := g as p1
  rw [List.append_nil]
  exact ⟨i, x1.inv n.inv, as, P', g1, a1, fun v d H2 p2 x2 a2 => q v d H2 (im d p2) (x1.trans x2) a2⟩
end
/-! ### picks -/
section
variable {P : Program} {w : World} {K : PySem.W.Frag} {mg : Str → Option Value} {base : Heap} {T : List (Addr × Str)}
abbrev TapeX (T : List (Addr × Str)) : Addr × Addr → Amb := fun i => tapeA T i.1 i.2
/-- what a pick of so many hands back -/
def Pick (n : Int) : PyData → Prop := fun d => ∃ k : Nat, (k : Int) < n ∧ d = .int (k : Int)
def g_pick : Addr × Addr → Gd := fun i as P' => ∃ n : Int, 0 < n ∧ n < 1073741824 ∧ as = [.raw (.ref i.1), .dat (.int n)] ∧ P' = Pick n
abbrev spPick (K : PySem.W.Frag) (T : List (Addr × Str)) : Sp := spX fun i => spD K (TapeX T i) (g_pick i)
theorem pick_of {n : Int} {d : PyData} (h : ∃ i : Int, d = .int i ∧ 0 ≤ i ∧ i < n) : Pick n d := by
  obtain ⟨i, rfl, h0, h1⟩ := h
  obtain ⟨m, rfl⟩ := Int.eq_ofNat_of_zero_le h0
  exact ⟨m, h1, rfl⟩
theorem q_pick (M : Hd w K mg) : Cal P w K mg base 1 "_law_pick" (spPick K T) :=
  cal_fam M.d__law_pick sc__law_pick _ (by rintro i as P' ⟨n, _, _, rfl, rfl⟩; rfl) (fun _ _ _ _ _ _ _ us _ hl => match us, hl with | [_, _], _ => rfl) (fun f cdv A' o s H E r => pr__law_pick M f cdv A' o s H E r) (by
    rintro ⟨L, S⟩ as P' ⟨n, hn, hn2, rfl, rfl⟩
    have tp : ∀ {ds : List SD} (j : Int), ds[0]? = some (.raw (.ref L)) → (j = 1 ∨ j = 2 ∨ j = 3 ∨ j = 4) → Ev K (tapeA T L S) (tOp (rIxL K) (tVar 0) (tC (.int j))) ds AnyI := fun {ds} j h hj => ev_tape (T := T) (S := S) h hj
    refine rn_ifS (Pb := fun _ => True) (et_any (tp 2 rfl (by decide)) (ev_any ev_int)) (fun _ => ?_) fun _ => rn_nextS ?_
    · refine rn_seq (M := fun _ => False) ?_ fun _ z => z.elim
      refine rn_asgS (ev_modA hn (ev_anyP (ev_int1 (tp 2 rfl (by decide)))) (ev_var rfl)) fun d hd => ?_
      refine rn_tapeS rfl (.inr (.inl rfl)) (Ev.as (ev_divA ⟨hn, hn2⟩ (tp 2 rfl (by decide)) (ev_var rfl)) fun x z => by omega) ?_
      exact rn_ret (P := fun e => e = d) (ev_var rfl) fun e he => by rw [he]; exact pick_of hd
    · refine rn_tapeS rfl (.inr (.inr (.inr rfl))) (Ev.as (ev_addA (tp 4 rfl (by decide)) (ev_any ev_int)) fun x z => by omega) ?_
      refine rn_asg1 (d := .int 0) ev_int ?_
      refine rn_seq (M := fun ds => ∃ i : Int, ds = [.raw (.ref L), .dat (.int n), .emp, .dat (.int i), .emp]) (rn_cell fun i => ⟨i, rfl⟩) ?_
      rintro ds ⟨c, rfl⟩
      refine rn_ifS (Pb := fun _ => True) (et_any (ev_any (ev_var rfl)) (ev_any (ev_opC ev_int ev_int (show CPow 10 18 from ⟨by decide, by decide, by decide⟩) fun _ => .int _))) (fun _ => ?_) fun _ => rn_nextS ?_
      · refine rn_seq (M := fun _ => False) ?_ fun _ z => z.elim
        refine rn_tapeS rfl (.inr (.inl rfl)) (Ev.as (ev_divA ⟨hn, hn2⟩ (ev_any (ev_var rfl)) (ev_var rfl)) fun x z => by omega) ?_
        exact rn_ret (ev_modA hn (ev_anyP (ev_int1 (ev_any (ev_var rfl)))) (ev_var rfl)) fun e he => pick_of he
      · refine rn_asgS (ev_modA (c := 2147483647) (by decide) (ev_anyP (ev_int1 (ev_addA (ev_addA (ev_mulA (by decide) (tp 3 rfl (by decide))) (ev_anyP (ev_modA (c := 2147483629) (by decide) (ev_anyP (ev_int1 (ev_any (ev_var rfl)))) ev_int))) (ev_mulA (by decide) (tp 4 rfl (by decide)))))) ev_int) fun d hd => ?_
        obtain ⟨x, rfl, hx0, hx1⟩ := hd
        refine rn_asgS (ev_modA (c := 2147483399) (by decide) (ev_anyP (ev_int1 (ev_anyP (ev_opPC (f := fun i j => .int (i * j)) (P := AnyI) (Pa := fun i => i = x) (ev_intP (ev_var rfl) rfl) (ev_addA (ev_divA (c := 1009) (by decide) (ev_any (ev_var rfl)) ev_int) (ev_any ev_int)) (fun i j e _ => .inl (by omega)) (fun _ _ _ => .int _) fun i j _ _ => ⟨_, rfl, trivial⟩)))) ev_int) fun d hd => ?_
        obtain ⟨y, rfl, hy0, hy1⟩ := hd
        refine rn_tapeS rfl (.inr (.inr (.inl rfl))) (ev_intP (ev_var rfl) fun z => by omega) ?_
        exact rn_ret (ev_modA hn (ev_anyP (ev_int1 (ev_divA (c := 16) (by decide) (ev_any (ev_var rfl)) ev_int))) (ev_var rfl)) fun e he => pick_of he)
end
end K87
/-! The law's own machine; what is due; what is the same. -/
namespace K87
open PySem PySem.Spec PyProof.Rows L2
section
variable {P : Program} {w : World} {K : PySem.W.Frag} {mg : Str → Option Value} {base : Heap} {T : List (Addr × Str)}
/-! ### _law_next -/
def f_next : List PyData → PyData → Prop := fun es d => ∃ (m : List Ins) (s : Nat × List Nat) (i : Ins), MS m s ∧ m[s.1]? = some i ∧ es = [encM m, encSt s] ∧ d = if i = .halt then .none else encSt (nx m s)
theorem set_get {ns : List Nat} {r v : Nat} : (ns.map natD).set r (.int (v : Int)) = (ns.set r v).map natD := by
  rw [List.map_set]
  rfl
theorem q_law_next (M : Hd w K mg) : Cal P w K mg base 1 "_law_next" (spD K (pureA T) (gF f_next)) :=
  cl__law_next M _ (by rintro as P' ⟨es, d, ⟨m, s, i, _, _, rfl, _⟩, rfl, rfl⟩; rfl) (fun f cdv A' o s H E r => pr__law_next M f cdv A' o s H E r) (by
    rintro as P' ⟨es, d, ⟨m, s, i, ms, e, rfl, hd⟩, rfl, rfl⟩
    obtain ⟨i', e', g⟩ := ms.get
    rw [e] at e'
    cases e'
    have h4 : (s.2.map natD).length = 4 := by rw [List.length_map]; exact ms.n
    refine rn_seq (M := fun ds => ds = [.dat (encM m), .dat (encSt s), .dat (.int (s.1 : Int)), .dat (encNs s.2), .emp, .emp]) (rn_asgG (P := Is (encSt s)) (ev_var rfl) fun d ed => ⟨_, by rw [ed]; exact eg_pair (a := .int (s.1 : Int)) (b := encNs s.2), rfl⟩) ?_
    rintro ds rfl
    refine rn_asg1 (d := i.encI) (ev_atN (es := m.map Ins.encI) (k := s.1) (ev_var rfl) (ev_var rfl) (encM_get e)) ?_
    have hnx : nx m s = nextS m s.1 s.2 := rfl
    have fin : ∀ (rest : List PyData) (word : Str) (r n v : Nat), i.encI = .tuple (.str word :: .int (r : Int) :: .int (n : Int) :: rest) → nx m s = (n, s.2.set r v) →
        Rn K (pureA T) (tRet (tTup (tCons (tOp (rIxT K) (tVar 4) (tC (.int 2))) (tCons (tCB (rTupOf K) (tCons (tVar 5) tNil)) tNil)))) [.dat (encM m), .dat (encSt s), .dat (.int (s.1 : Int)), .dat (encNs s.2), .dat i.encI, .own ((s.2.set r v).map natD)] (retD (Is (encSt (nx m s)))) := by
      intro rest word r n v ei hn
      rw [hn]
      refine rn_ret1 (ev_tup1 (ed_one (ev_at (es := .str word :: .int (r : Int) :: .int (n : Int) :: rest) (ev_var (by rw [← ei]; rfl)) ?_) (ed_one (ev_tupL (Pl := fun x => x = (s.2.set r v).map natD) (er_own rfl) fun es h => by rw [h]; rfl) (ed_nil rfl))) (by show 2 ≤ 100000; decide)) rfl
      exact at_nat _ 2
    cases i with
    | halt =>
      rw [if_pos rfl] at hd
      subst hd
      exact rn_left (et_str (ev_at (es := [.str "halt"]) (ev_var rfl) rfl) (by decide)) (rn_ret1 ev_non rfl)
    | up r n =>
      rw [if_neg (by simp)] at hd
      subst hd
      have hev : ∀ (ds : List SD), ds[4]? = some (.dat (Ins.up r n).encI) → Ev K (pureA T) (tVar 4) ds (Is (.tuple [.str "up", .int (r : Int), .int (n : Int)])) := fun ds h => ev_var h
      have hrl : r < s.2.length := by rw [ms.n]; exact g.1
      refine rn_skip (et_str (ev_at (hev _ rfl) rfl) (by decide)) ?_
      refine rn_asgLS (P := fun x => x = s.2.map natD) (el_listT (es := s.2.map natD) (ev_var rfl)) fun es he => ?_
      subst he
      refine rn_ifS (Pb := IsB true) (et_str (ev_at (hev _ rfl) rfl) (by decide)) (fun _ => ?_) fun z => nomatch z
      refine rn_seq (M := fun ds => ds = [.dat (encM m), .dat (encSt s), .dat (.int (s.1 : Int)), .dat (encNs s.2), .dat (Ins.up r n).encI, .own ((s.2.set r (s.2.getD r 0 + 1)).map natD)]) (rn_setL (m := r) (d := .int ((s.2.getD r 0 + 1 : Nat) : Int)) (es := s.2.map natD) (j := (r : Int)) rfl ((ev_add (ev_ixL (er_own rfl) (ev_at (hev _ rfl) rfl) ((at_nat _ r).trans (getD_get hrl))) ev_int).eq rfl) (ev_at (hev _ rfl) rfl) (by unfold ixN; rw [if_pos (by omega), if_pos (by rw [h4]; have := g.1; omega)]; rfl) (by rw [set_get]; rfl)) ?_
      rintro ds rfl
      exact fin [] "up" r n _ rfl (by rw [hnx, nextS_up e])
    | dn r n o =>
      rw [if_neg (by simp)] at hd
      subst hd
      have hev : ∀ (ds : List SD), ds[4]? = some (.dat (Ins.dn r n o).encI) → Ev K (pureA T) (tVar 4) ds (Is (.tuple [.str "down", .int (r : Int), .int (n : Int), .int (o : Int)])) := fun ds h => ev_var h
      have hrl : r < s.2.length := by rw [ms.n]; exact g.1
      refine rn_skip (et_str (ev_at (hev _ rfl) rfl) (by decide)) ?_
      refine rn_asgLS (P := fun x => x = s.2.map natD) (el_listT (es := s.2.map natD) (ev_var rfl)) fun es he => ?_
      subst he
      refine rn_ifS (Pb := IsB false) (et_str (ev_at (hev _ rfl) rfl) (by decide)) (fun z => nomatch z) fun _ => ?_
      refine rn_ifS (Pb := IsB (decide (s.2.getD r 0 = 0))) ((et_test (ev_eqS (c := .int (s.2.getD r 0 : Int)) (d := .int 0) (ev_ixL (er_own rfl) (ev_at (hev _ rfl) rfl) ((at_nat _ r).trans (getD_get hrl))) ev_int rfl rfl rfl)).to (dec_nat (n := 0))) (fun h => ?_) fun h => ?_
      · have h0 : s.2.getD r 0 = 0 := of_decide_eq_true h.symm
        rw [hnx, nextS_dn e, if_pos h0]
        exact rn_retS (rn_ret1 (ev_tup1 (ed_one (ev_at (hev _ rfl) rfl) (ed_one (ev_var rfl) (ed_nil rfl))) (by show 2 ≤ 100000; decide)) rfl)
      · have h0 : s.2.getD r 0 ≠ 0 := of_decide_eq_false h.symm
        refine rn_seq (M := fun ds => ds = [.dat (encM m), .dat (encSt s), .dat (.int (s.1 : Int)), .dat (encNs s.2), .dat (Ins.dn r n o).encI, .own ((s.2.set r (s.2.getD r 0 - 1)).map natD)]) (rn_setL (m := r) (d := .int ((s.2.getD r 0 - 1 : Nat) : Int)) (es := s.2.map natD) (j := (r : Int)) rfl ((ev_sub (ev_ixL (er_own rfl) (ev_at (hev _ rfl) rfl) ((at_nat _ r).trans (getD_get hrl))) ev_int).eq (congrArg PyData.int (by omega))) (ev_at (hev _ rfl) rfl) (by unfold ixN; rw [if_pos (by omega), if_pos (by rw [h4]; have := g.1; omega)]; rfl) (by rw [set_get]; rfl)) ?_
        rintro ds rfl
        exact fin [.int (o : Int)] "down" r n _ rfl (by rw [hnx, nextS_dn e, if_neg h0]))
/-! ### _law_same -/
/-- whole numbers, None, tuples of such, nested so deep -/
inductive Dt : Nat → PyData → Prop
  | non {n : Nat} : Dt n .none
  | int {n : Nat} {i : Int} : Dt n (.int i)
  | tup {n : Nat} {es : List PyData} : es.length ≤ 100000 → (∀ e ∈ es, Dt n e) → Dt (n + 1) (.tuple es)
def f_same (n : Nat) : List PyData → PyData → Prop := fun es d => ∃ x, Dt n x ∧ es = [x, x] ∧ d = .bool true
def f_same_lt (n : Nat) : List PyData → PyData → Prop := fun es d => ∃ (k : Nat) (x : PyData), k < n ∧ Dt k x ∧ es = [x, x] ∧ d = .bool true
theorem i_same (M : Hd w K mg) {n j : Nat} (c : Cal P w K mg base j "_law_same" (spD K (pureA T) (gF (f_same_lt n)))) : Cal P w K mg base (j + 1) "_law_same" (spD K (pureA T) (gF (f_same n))) :=
  cl__law_same M _ (by rintro as P' ⟨es, d, ⟨x, _, rfl, rfl⟩, rfl, rfl⟩; rfl) (fun f cdv A' o s H E r => pr__law_same M c (Nat.le_refl _) f cdv A' o s H E r) (by
    rintro as P' ⟨es, d, ⟨x, hx, rfl, rfl⟩, rfl, rfl⟩
    cases hx with
    | non => exact rn_left ((et_test (ev_isN (d := .none) (ev_var rfl) rfl)).to rfl) (rn_ret1 ((ev_isN (d := .none) (ev_var rfl) rfl).eq rfl) rfl)
    | @int _ i =>
      refine rn_skip ((et_test (ev_isN (d := .int i) (ev_var rfl) rfl)).to rfl) ?_
      refine rn_skip (et_or1 (a := false) (b := false) (et_B (ev_isi (d := .int i) (ev_var rfl) rfl)) fun _ => et_B (ev_isi (d := .int i) (ev_var rfl) rfl)) ?_
      refine rn_left (et_or1 (a := false) (b := true) (et_B (ev_isi (d := .int i) (ev_var rfl) rfl)) fun _ => et_B (ev_isi (d := .int i) (ev_var rfl) rfl)) ?_
      refine rn_ret1 (ev_andV (a := true) (b := true) ((ev_eqS (c := .bool false) (d := .bool false) (ev_isi (d := .int i) (ev_var rfl) rfl) (ev_isi (d := .int i) (ev_var rfl) rfl) rfl rfl rfl).eq rfl) fun _ => ev_andV (a := true) (b := true) ((ev_isi2 (d := .int i) (b1 := true) (b2 := false) (ev_var rfl) rfl rfl).eq rfl) fun _ => (ev_eqS (c := .int i) (d := .int i) (ev_var rfl) (ev_var rfl) rfl rfl rfl).eq (congrArg PyData.bool (decide_eq_true rfl))) rfl
    | @tup n es hl he =>
      refine rn_skip ((et_test (ev_isNT (es := es) (ev_var rfl))).to rfl) ?_
      refine rn_skip (et_or1 (a := false) (b := false) (et_B (ev_isi (d := .tuple es) (ev_var rfl) rfl)) fun _ => et_B (ev_isi (d := .tuple es) (ev_var rfl) rfl)) ?_
      refine rn_skip (et_or1 (a := false) (b := false) (et_B (ev_isi (d := .tuple es) (ev_var rfl) rfl)) fun _ => et_B (ev_isi (d := .tuple es) (ev_var rfl) rfl)) ?_
      refine rn_skip (et_or1 (a := false) (b := false) ((et_test (ev_neS (c := .bool true) (d := .bool true) (ev_isi (d := .tuple es) (ev_var rfl) rfl) (ev_isi (d := .tuple es) (ev_var rfl) rfl) rfl rfl rfl)).to rfl) fun _ => et_not1 (a := true) ((et_B (ev_isi2 (d := .tuple es) (b1 := false) (b2 := true) (ev_var rfl) rfl rfl)).to rfl)) ?_
      refine rn_ret1 (ev_andV (a := true) (b := true) ((ev_eqS (c := .int (es.length : Int)) (d := .int (es.length : Int)) (ev_lenT (ev_var rfl)) (ev_lenT (ev_var rfl)) rfl rfl rfl).eq (congrArg PyData.bool (decide_eq_true rfl))) fun _ => ?_) rfl
      refine ev_allT (js := [2]) (l := (List.range es.length).map natD) (ei_range (m := (es.length : Int)) (ev_lenT (ev_var rfl)) (by omega) (by omega)) (fun i d hi yd => ?_) (by rw [List.length_map, List.length_range]; rfl) (by rw [Int.toNat_natCast]; exact hl) (fun j hj => hj) fun d hd => ?_
      · rw [Int.toNat_natCast] at hi
        rw [List.getElem?_map, List.getElem?_range hi, yd]
        rfl
      · obtain ⟨i, hi, rfl⟩ := List.mem_map.mp hd
        have hi := List.mem_range.mp hi
        have e1 : es[i]? = some (es[i]'hi) := List.getElem?_eq_getElem hi
        exact ⟨_, eg_name, ev_callF (es := [es[i]'hi, es[i]'hi]) le (ea_one (ev_atN (ev_var rfl) (ev_var rfl) e1) (ea_one (ev_atN (ev_var rfl) (ev_var rfl) e1) (ea_nil rfl))) ⟨n, _, Nat.lt_succ_self n, he _ (List.getElem_mem hi), rfl, rfl⟩⟩)
theorem Dt.mono {k : Nat} {x : PyData} (h : Dt k x) : ∀ {n : Nat}, k ≤ n → Dt n x := by
  induction h with
  | non => intro n _; exact .non
  | int => intro n _; exact .int
  | tup hl _ ih =>
    intro n hn
    cases n with
    | zero => omega
    | succ n => exact .tup hl fun e he => ih e he (by omega)
theorem q_same (M : Hd w K mg) : ∀ n, Cal P w K mg base (n + 1) "_law_same" (spD K (pureA T) (gF (f_same n)))
  | 0 => i_same M (n := 0) (j := 0) ((cal_void M.d__law_same sc__law_same (fun _ _ _ _ _ _ _ us _ hl => match us, hl with | [_, _], _ => rfl) 0).imp fun as P' ⟨es, d, ⟨k, x, z, _⟩, _⟩ => absurd z (Nat.not_lt_zero _))
  | n + 1 => i_same M (n := n + 1) (j := n + 1) ((q_same M n).imp fun as P' ⟨es, d, ⟨k, x, z, h1, h2⟩, h3⟩ => ⟨es, d, ⟨x, h1.mono (by omega), h2⟩, h3⟩)
/-! ### _law_due -/
def Ins.ix : Ins → Int
  | .dn _ _ _ => 1
  | _ => 0
theorem ev_wcost {A : Amb} {ds : List SD} {te : TE} {i : Ins} (hi : i ≠ .halt) (h : Ev K A te ds (Is (.str i.word))) : Ev K A (tOp (rIxL K) (tLst (tCons (tC (.int 2)) (tCons (tC (.int 4)) tNil))) (tBM K "list" (rIndex K) (tLst (tCons (tC (.str "up")) (tCons (tC (.str "down")) tNil))) (tCons te tNil))) ds (Is (.int (cost i : Int))) := by
  have hx : Ev K A (tBM K "list" (rIndex K) (tLst (tCons (tC (.str "up")) (tCons (tC (.str "down")) tNil))) (tCons te tNil)) ds (Is (.int i.ix)) := fun H0 H σ Q n q => by
    have L : EvL K A (tLst (tCons (tC (.str "up")) (tCons (tC (.str "down")) tNil))) ds (fun es => es = [.str "up", .str "down"]) := el_lst (Pd := fun es => es = [.str "up", .str "down"]) (ed_one ev_str (ed_one ev_str (ed_nil rfl))) fun es e => ⟨by rw [e]; show 2 ≤ 100000; decide, e⟩
    refine L H0 H σ _ n fun p vs es H1 e np x1 hp hall => ?_
    subst e
    have ev : vs = [.str "up", .str "down"] := by
      cases hall with
      | cons a b => cases a; cases b with
        | cons a b => cases a; cases b; rfl
    subst ev
    refine ⟨.inl ⟨rfl, _, SqL.of hp⟩, h H0 H1 σ _ (n.xt x1) fun v d H2 p2 x2 a2 => ?_⟩
    subst p2
    cases a2
    have hp2 := x2.kp p _ hp (fun _ z => nomatch z) (own_ne n.inv np)
    cases i with
    | halt => exact absurd rfl hi
    | up r n => exact ⟨p, _, .str "up", 0, .str "up", rfl, rfl, SqL.of hp2, rfl, rfl, rfl, by decide, fun m z hm => absurd hm (Nat.not_lt_zero _), q _ _ H2 rfl (x1.trans x2) (.int 0)⟩
    | dn r n o => exact ⟨p, _, .str "down", 1, .str "down", rfl, rfl, SqL.of hp2, rfl, rfl, rfl, by decide, fun m z hm e => by
        have : m = 0 := by omega
        subst this
        cases e
        decide, q _ _ H2 rfl (x1.trans x2) (.int 1)⟩
  refine ev_ixL (er_new (el_lst (Pd := fun es => es = [.int 2, .int 4]) (ed_one ev_int (ed_one ev_int (ed_nil rfl))) fun es e => ⟨by rw [e]; show 2 ≤ 100000; decide, e⟩)) hx ?_
  cases i with
  | halt => exact absurd rfl hi
  | up r n => rfl
  | dn r n o => rfl
def f_due : List PyData → PyData → Prop := fun es d => ∃ (m : List Ins) (s s' : Nat × List Nat) (l left k : Nat), MS m s ∧ l ≤ 100000 ∧ Told m l s s' left k ∧ es = [encM m, encSt s, .int (l : Int)] ∧ d = .tuple [encSt s', .int (left : Int), .int (k : Int)]
theorem q_law_due (M : Hd w K mg) : Cal P w K mg base 2 "_law_due" (spD K (pureA T) (gF f_due)) :=
  cl__law_due M _ (by rintro as P' ⟨es, d, ⟨m, s, s', l, left, k, _, _, _, rfl, rfl⟩, rfl, rfl⟩; rfl) (fun f cdv A' o s H E r => pr__law_due M (q_law_next (T := T) M) (by omega) f cdv A' o s H E r) (by
    rintro as P' ⟨es, d, ⟨m, s, s', l, left, k, ms, hl, ht, rfl, rfl⟩, rfl, rfl⟩
    refine rn_asg1 (d := .int ((0 : Nat) : Int)) ev_int ?_
    refine rn_forS (fun i ds => ∃ (t : Nat × List Nat) (j r q : Nat) (x y z : SD), MS m t ∧ Told m j t s' left r ∧ q + r = k ∧ 2 * i + j ≤ l ∧ ds = [.dat (encM m), .dat (encSt t), .dat (.int (j : Int)), .dat (.int (q : Int)), x, y, z]) (ei_range (m := (l : Int)) (ev_var rfl) (by omega) (by omega)) ⟨s, l, k, 0, .emp, .emp, .emp, ms, ht, by omega, by omega, rfl⟩ ?_ ?_
    · rintro i ds d hi ⟨t, j, r, q, x, y, z, mt, tt, hk, hj, rfl⟩ rfl
      have hi : i < l := hi
      refine ⟨_, _, eg_name, ?_⟩
      have call : ∀ {ins : Ins}, m[t.1]? = some ins → ∀ ds : List SD, ds[0]? = some (.dat (encM m)) → ds[1]? = some (.dat (encSt t)) → Ev K (pureA T) (tCall (spD K (pureA T) (gF f_next)) [] E0 (tCons (tVar 0) (tCons (tVar 1) tNil))) ds (Is (if ins = .halt then .none else encSt (nx m t))) := fun {ins} e ds h0 h1 => ev_callF (es := [encM m, encSt t]) le (ea_one (ev_var h0) (ea_one (ev_var h1) (ea_nil rfl))) ⟨m, t, ins, mt, e, rfl, rfl⟩
      cases tt with
      | halt e =>
        refine rn_asg1 (d := .none) ((call e _ rfl rfl).eq (if_pos rfl)) ?_
        refine rn_left ((et_test (ev_isN (d := .none) (ev_var rfl) rfl)).to rfl) ?_
        have hq : q = k := by omega
        subst hq
        refine rn_ret1 (ev_tup1 (ed_one (ev_var rfl) (ed_one (d := .int ((min j 1 : Nat) : Int)) (ev_two2 (i := (j : Int)) (j := 1) (ev_var rfl) ev_int fun H Q q => ⟨_, _, rfl, ?_⟩) (ed_one (ev_var rfl) (ed_nil rfl)))) (by show 3 ≤ 100000; decide)) rfl
        have e1 : (if (1 : Int) < (j : Int) then (1 : Int) else (j : Int)) = ((min j 1 : Nat) : Int) := by split <;> omega
        rw [e1]
        exact q
      | @stop _ _ ins e hn hc =>
        refine rn_asg1 (d := encSt (nx m s')) ((call e _ rfl rfl).eq (if_neg hn)) ?_
        refine rn_skip ((et_test (ev_isNT (es := [.int ((nx m s').1 : Int), encNs (nx m s').2]) (ev_var rfl))).to rfl) ?_
        refine rn_asg1 (d := .int (cost ins : Int)) (ev_wcost hn (ev_word 0 1 rfl rfl e)) ?_
        refine rn_left ((et_lt (ev_var rfl) (ev_var rfl)).to (decide_eq_true (by omega))) ?_
        have hq : q = k := by omega
        subst hq
        exact rn_ret1 (ev_tup1 (ed_one (ev_var rfl) (ed_one (ev_var rfl) (ed_one (ev_var rfl) (ed_nil rfl)))) (by show 3 ≤ 100000; decide)) rfl
      | @step _ _ _ ins _ r e hn hc tt =>
        have hp := cost_pos hn
        refine rn_asg1 (d := encSt (nx m t)) ((call e _ rfl rfl).eq (if_neg hn)) ?_
        refine rn_skip ((et_test (ev_isNT (es := [.int ((nx m t).1 : Int), encNs (nx m t).2]) (ev_var rfl))).to rfl) ?_
        refine rn_asg1 (d := .int (cost ins : Int)) (ev_wcost hn (ev_word 0 1 rfl rfl e)) ?_
        refine rn_skip ((et_lt (ev_var rfl) (ev_var rfl)).to (decide_eq_false (by omega))) ?_
        refine rn_asg1 (d := .int ((j - cost ins : Nat) : Int)) ((ev_sub (ev_var rfl) (ev_var rfl)).eq (congrArg PyData.int (by omega))) ?_
        refine rn_asg1 (d := encSt (nx m t)) (ev_var rfl) ?_
        refine rn_asg (P := Is (.int ((q + 1 : Nat) : Int))) ((ev_add (ev_var rfl) ev_int).eq rfl) fun d ed => ?_
        subst ed
        exact ⟨nx m t, j - cost ins, r, q + 1, _, _, _, mt.next, tt, by omega, by omega, rfl⟩
    · rintro ds ⟨t, j, r, q, x, y, z, mt, tt, hk, hj, rfl⟩
      have hj : 2 * l + j ≤ l := hj
      have h0 : j = 0 := by omega
      subst h0
      have hr := tt.le
      have : s' = t ∧ left = 0 ∧ q = k := by
        cases tt with
        | halt e => exact ⟨rfl, by omega, by omega⟩
        | stop e hn hc => exact ⟨rfl, rfl, by omega⟩
        | step e hn hc _ => have := cost_pos hn; omega
      obtain ⟨rfl, rfl, rfl⟩ := this
      exact rn_ret1 (ev_tup1 (ed_one (ev_var rfl) (ed_one ev_int (ed_one (ev_var rfl) (ed_nil rfl)))) (by show 3 ≤ 100000; decide)) rfl)
/-! ### _law_sorts -/
def sortsF (m : List Ins) : Nat → Nat × List Nat → List Ins
  | 0, _ => []
  | k + 1, s => m.getD s.1 .halt :: sortsF m k (nx m s)
def costF (m : List Ins) (k : Nat) (s : Nat × List Nat) : Nat := ((sortsF m k s).map cost).sum
theorem sortsF_len (m : List Ins) : ∀ (k : Nat) (s : Nat × List Nat), (sortsF m k s).length = k
  | 0, _ => rfl
  | k + 1, s => congrArg (· + 1) (sortsF_len m k (nx m s))
theorem getD_ins {m : List Ins} {a : Nat} {i : Ins} (h : m[a]? = some i) : m.getD a .halt = i := by rw [List.getD_eq_getElem?_getD, h]; rfl
theorem Told.sorts {m : List Ins} {l : Nat} {s s' : Nat × List Nat} {left k : Nat} (h : Told m l s s' left k) : (∀ i ∈ sortsF m k s, i ≠ .halt) ∧ ((m[s'.1]? = some .halt → left ≤ 1 ∧ costF m k s + left ≤ l) ∧ ((∃ i, m[s'.1]? = some i ∧ i ≠ .halt ∧ left < cost i) → costF m k s + left = l)) ∧ (m[s'.1]? = some .halt ∨ ∃ i, m[s'.1]? = some i ∧ i ≠ .halt ∧ left < cost i) := by
  induction h with
  | halt e => exact ⟨fun i hi => (nomatch hi), ⟨fun _ => ⟨by omega, by show 0 + _ ≤ _; omega⟩, fun ⟨i, e', hn, _⟩ => by rw [e] at e'; cases e'; exact absurd rfl hn⟩, .inl e⟩
  | stop e hn hc => exact ⟨fun i hi => (nomatch hi), ⟨fun e' => by rw [e] at e'; cases e'; exact absurd rfl hn, fun _ => Nat.zero_add _⟩, .inr ⟨_, e, hn, hc⟩⟩
  | @step l s s' i left k e hn hc t ih =>
    have e1 : sortsF m (k + 1) s = i :: sortsF m k (nx m s) := by
      show m.getD s.1 .halt :: _ = _
      rw [getD_ins e]
    have e2 : costF m (k + 1) s = cost i + costF m k (nx m s) := by
      unfold costF
      rw [e1, List.map_cons, List.sum_cons]
    refine ⟨fun j hj => ?_, ⟨fun h => ?_, fun h => ?_⟩, ih.2.2⟩
    · rw [e1] at hj
      rcases List.mem_cons.mp hj with z | z
      · rw [z]; exact hn
      · exact ih.1 j z
    · have := ih.2.1.1 h
      rw [e2]
      omega
    · have := ih.2.1.2 h
      rw [e2]
      omega
def g_sorts : Gl' := fun as P' => ∃ (m : List Ins) (s : Nat × List Nat) (k : Nat), MS m s ∧ k ≤ 1000 ∧ as = [.dat (encM m), .dat (encSt s), .dat (.int (k : Int))] ∧ (∀ i ∈ sortsF m k s, i ≠ .halt) ∧ P' = fun es => es = (sortsF m k s).map fun i => .str i.word
theorem q_law_sorts (M : Hd w K mg) : Cal P w K mg base 2 "_law_sorts" (spL K (pureA T) g_sorts) :=
  cll__law_sorts M _ (by rintro as P' ⟨m, s, k, _, _, rfl, _, rfl⟩; rfl) (fun f cdv A' o s H E r => pr__law_sorts M (q_law_next (T := T) M) (by omega) f cdv A' o s H E r) (by
    rintro as P' ⟨m, s, k, ms, hk, rfl, hn, rfl⟩
    refine rn_asgLS (P := fun es => es = []) (el_lst (Pd := fun es => es = []) (ed_nil rfl) fun es e => ⟨by rw [e]; exact Nat.zero_le _, e⟩) fun es e => ?_
    subst e
    refine rn_forS (fun i ds => ∃ (t : Nat × List Nat) (acc : List Ins) (z : SD), MS m t ∧ acc.length = i ∧ acc ++ sortsF m (k - i) t = sortsF m k s ∧ ds = [.dat (encM m), .dat (encSt t), .dat (.int (k : Int)), .own (acc.map fun i => .str i.word), z]) (ei_range (m := (k : Int)) (ev_var rfl) (by omega) (by omega)) ⟨s, [], .emp, ms, rfl, rfl, rfl⟩ ?_ ?_
    · rintro i ds d hi ⟨t, acc, z, mt, hl, ha, rfl⟩ rfl
      have hi : i < k := hi
      obtain ⟨ins, e, g⟩ := mt.get
      have e1 : sortsF m (k - i) t = ins :: sortsF m (k - (i + 1)) (nx m t) := by
        rw [show k - i = k - (i + 1) + 1 by omega]
        show m.getD t.1 .halt :: _ = _
        rw [getD_ins e]
      have hin : ins ≠ .halt := hn ins (by rw [← ha, e1]; simp)
      refine ⟨_, _, eg_name, ?_⟩
      refine rn_appS (es := acc.map fun i => .str i.word) (P := Is (.str ins.word)) rfl (ev_word 0 1 rfl rfl e) (by rw [List.length_map]; omega) fun d ed => ?_
      subst ed
      refine rn_asg (P := Is (encSt (nx m t))) ((ev_callF (es := [encM m, encSt t]) le (ea_one (ev_var rfl) (ea_one (ev_var rfl) (ea_nil rfl))) ⟨m, t, ins, mt, e, rfl, rfl⟩).eq (if_neg hin)) fun d ed => ?_
      subst ed
      exact ⟨nx m t, acc ++ [ins], _, mt.next, by rw [List.length_append, hl]; rfl, by rw [List.append_assoc, ← ha, e1]; rfl, by rw [List.map_append]; rfl⟩
    · rintro ds ⟨t, acc, z, mt, hl, ha, rfl⟩
      have ha : acc ++ sortsF m (k - k) t = sortsF m k s := ha
      rw [Nat.sub_self] at ha
      have ha : acc ++ [] = sortsF m k s := ha
      rw [List.append_nil] at ha
      rw [← ha]
      exact rn_retO rfl rfl)
end
end K87
/-! What the law draws, what it asks of told_steps and done. -/
namespace K87
open PySem PySem.Spec PyProof.Rows L2
section
variable {P : Program} {w : World} {K : PySem.W.Frag} {mg : Str → Option Value} {base : Heap} {T : List (Addr × Str)} {L S : Addr} {ds : List SD} {te tn ta : TE} {A : Amb}
theorem ev_pick {n : Int} {i : Nat} (h0 : 0 < n) (h1 : n < 1073741824) (hr : ds[i]? = some (.raw (.ref L))) (hn : Ev K (tapeA T L S) tn ds (Is (.int n))) : Ev K (tapeA T L S) (tCall (spPick K T) [] E0 (tCons (tVar i) (tCons tn tNil))) ds (Pick n) :=
  ev_callX (B := TapeX T) (G := g_pick) (Pa := fun as => as = [.raw (.ref L), .dat (.int n)]) (L, S) (ea_raw hr (ea_one hn (ea_nil rfl))) fun as e => ⟨_, ⟨n, h0, h1, e, rfl⟩, fun _ h => h⟩
theorem Pick.any {n : Int} {d : PyData} (h : Pick n d) : ∃ i : Int, d = .int i ∧ ∃ k : Nat, i = (k : Int) ∧ (k : Int) < n := by
  obtain ⟨k, h, rfl⟩ := h
  exact ⟨_, rfl, k, rfl, h⟩
/-- a number is nought: either may be -/
theorem ev_eq0 {c : Int} {Pa : Int → Prop} (h : Ev K A te ds (fun d => ∃ i : Int, d = .int i ∧ Pa i)) : Ev K A (tOp rEq te (tC (.int c))) ds (fun d => ∃ b, d = .bool b ∧ True) :=
  ev_two h (fun _ _ => ev_int (i := c)) fun d e H0 H σ x y Q p1 p2 n a b q => by
    obtain ⟨i, rfl, _⟩ := p1
    subst p2
    cases a
    cases b
    exact ⟨rfl, q _ _ H ⟨_, rfl, trivial⟩ (Xt.refl H) (.bl _)⟩
/-- four numbers, drawn one by one -/
theorem el_four {j : Nat} {Pv : Nat → Prop} (h : ∀ i : Nat, Ev K A te ((wipeD ds [j]).set j (.dat (.int (i : Int)))) (fun d => ∃ v : Nat, Pv v ∧ d = .int (v : Int))) : EvL K A (tLc (iRng1 (tCons (tC (.int 4)) tNil)) (gName j) tYes te [j]) ds (fun acc => ∃ ns : List Nat, ns.length = 4 ∧ (∀ v ∈ ns, Pv v) ∧ acc = ns.map natD) :=
  el_lc (fun i acc => ∃ ns : List Nat, ns.length = i ∧ (∀ v ∈ ns, Pv v) ∧ acc = ns.map natD) (ei_range (m := 4) ev_int (by decide) (by decide)) ⟨[], rfl, fun v hv => (nomatch hv), rfl⟩ (fun i acc hi ⟨ns, h1, _, h2⟩ => by
    have hi : i < 4 := hi
    rw [h2, List.length_map]
    omega) (fun i acc d hi ⟨ns, h1, h2, h3⟩ yd => by
    subst yd
    refine ⟨[j], _, IsB true, eg_name, fun j hj => hj, fun H0 H σ Q n q => q true H rfl (Xt.refl H), fun _ => ?_, fun z => nomatch z⟩
    refine (h i).imp fun y ⟨v, pv, ey⟩ => ⟨ns ++ [v], by rw [List.length_append, h1]; rfl, fun u hu => ?_, by rw [h3, ey, List.map_append]; rfl⟩
    rcases List.mem_append.mp hu with z | z
    · exact h2 u z
    · rw [List.mem_singleton.mp z]; exact pv) fun acc ⟨ns, h1, h2, h3⟩ => ⟨ns, h1, h2, h3⟩
/-! ### _law_machine -/
def g_machine : Addr × Addr → Gd := fun i as P' => ∃ n : Int, 0 < n ∧ n ≤ 12 ∧ as = [.raw (.ref i.1), .dat (.int n)] ∧ P' = fun d => ∃ m, Mach m ∧ d = encM m
abbrev spMachine (K : PySem.W.Frag) (T : List (Addr × Str)) : Sp := spX fun i => spD K (TapeX T i) (g_machine i)
theorem q_law_machine (M : Hd w K mg) : Cal P w K mg base 2 "_law_machine" (spMachine K T) :=
  cal_fam M.d__law_machine sc__law_machine _ (by rintro i as P' ⟨n, _, _, rfl, rfl⟩; rfl) (fun _ _ _ _ _ _ _ us _ hl => match us, hl with | [_, _], _ => rfl) (fun f cdv A' o s H E r => pr__law_machine M (q_pick (T := T) M) (by omega) f cdv A' o s H E r) (by
    rintro ⟨L, S⟩ as P' ⟨n, hn, hn2, rfl, rfl⟩
    refine rn_asgS (P := fun d => ∃ k : Nat, 1 ≤ k ∧ k ≤ 12 ∧ d = .int (k : Int)) (ev_opP (f := fun i j => .int (i + j)) (Pa := fun i => i = 1) (ev_intP ev_int rfl) ((ev_pick (S := S) hn (by omega) rfl (ev_var rfl)).imp fun d h => h.any) (fun _ _ _ => .int _) fun i j h1 ⟨k, h2, h3⟩ => ⟨k + 1, by omega, by omega, by subst h1 h2; exact congrArg PyData.int (by omega)⟩) fun d hd => ?_
    obtain ⟨k, k1, k2, rfl⟩ := hd
    refine rn_asgLS (P := fun es => es = []) (el_lst (Pd := fun es => es = []) (ed_nil rfl) fun es e => ⟨by rw [e]; exact Nat.zero_le _, e⟩) fun es e => ?_
    subst e
    refine rn_forS (fun i ds => ∃ (m : List Ins) (x y z : SD), m.length = i ∧ (∀ x ∈ m, x.good k) ∧ ds = [.raw (.ref L), .dat (.int n), .dat (.int (k : Int)), .own (m.map Ins.encI), x, y, z]) (ei_range (m := (k : Int)) (ev_var rfl) (by omega) (by omega)) ⟨[], .emp, .emp, .emp, rfl, fun x hx => (nomatch hx), rfl⟩ ?_ ?_
    · rintro i ds d hi ⟨m, x, y, z, hl, hg, rfl⟩ rfl
      have hi : i < k := hi
      refine ⟨_, _, eg_name, ?_⟩
      refine rn_asgS (ev_pick (S := S) (n := 6) (by decide) (by decide) rfl ev_int) fun d hd => ?_
      obtain ⟨kk, hkk, rfl⟩ := hd
      refine rn_asgS (ev_pick (S := S) (n := 4) (by decide) (by decide) rfl ev_int) fun d hd => ?_
      obtain ⟨r, hr, rfl⟩ := hd
      have fin : ∀ (d : PyData), (∃ ins : Ins, ins.good k ∧ d = ins.encI) → ∃ (m' : List Ins) (x y z : SD), m'.length = i + 1 ∧ (∀ x ∈ m', x.good k) ∧ ([SD.raw (.ref L), .dat (.int n), .dat (.int (k : Int)), .own (m.map Ins.encI), .dat (.int (i : Int)), .dat (.int (kk : Int)), .dat (.int (r : Int))].map noOwn).set 3 (.own (m.map Ins.encI ++ [d])) = [.raw (.ref L), .dat (.int n), .dat (.int (k : Int)), .own (m'.map Ins.encI), x, y, z] := by
        rintro d ⟨ins, g, rfl⟩
        refine ⟨m ++ [ins], .dat (.int (i : Int)), .dat (.int (kk : Int)), .dat (.int (r : Int)), by rw [List.length_append, hl]; rfl, fun x hx => ?_, by rw [List.map_append]; rfl⟩
        rcases List.mem_append.mp hx with z | z
        · exact hg x z
        · rw [List.mem_singleton.mp z]; exact g
      have hml : (m.map Ins.encI).length < 100000 := by rw [List.length_map]; omega
      have pk : ∀ {ds : List SD}, ds[0]? = some (.raw (.ref L)) → ds[2]? = some (.dat (.int (k : Int))) → Ev K (tapeA T L S) (tCall (spPick K T) [] E0 (tCons (tVar 0) (tCons (tVar 2) tNil))) ds (Pick (k : Int)) := fun {ds} h0 h2 => ev_pick (by omega) (by omega) h0 (ev_var h2)
      refine rn_if (Pb := IsB (decide (kk = 0))) ((et_test (ev_eqS (c := .int (kk : Int)) (d := .int 0) (ev_var rfl) ev_int rfl rfl rfl)).to (dec_nat (n := 0))) (fun _ => ?_) fun _ => ?_
      · exact rn_app (es := m.map Ins.encI) (P := fun d => ∃ ins : Ins, ins.good k ∧ d = ins.encI) rfl ((ev_tup1 (es := [.str "halt"]) (ed_one ev_str (ed_nil rfl)) (by show 1 ≤ 100000; decide)).to ⟨.halt, trivial, rfl⟩) hml fin
      · refine rn_if (Pb := IsB (decide ((kk : Int) < 3))) (et_test (ev_opI (ev_var rfl) ev_int fun _ => .bl _)) (fun _ => ?_) fun _ => ?_
        · refine rn_app (es := m.map Ins.encI) (P := fun d => ∃ ins : Ins, ins.good k ∧ d = ins.encI) rfl (ev_tup (Pd := fun es => ∃ a : Nat, a < k ∧ es = [.str "up", .int (r : Int), .int (a : Int)]) (ed_one ev_str (ed_one (ev_var rfl) (ed_cons (pk rfl rfl) fun d hd => ?_))) fun es he => ?_) hml fin
          · obtain ⟨a, ha, rfl⟩ := hd
            exact ed_nil ⟨a, by omega, rfl⟩
          · obtain ⟨a, ha, rfl⟩ := he
            exact ⟨by show 3 ≤ 100000; decide, .up r a, ⟨by omega, ha⟩, rfl⟩
        · refine rn_app (es := m.map Ins.encI) (P := fun d => ∃ ins : Ins, ins.good k ∧ d = ins.encI) rfl (ev_tup (Pd := fun es => ∃ a b : Nat, a < k ∧ b < k ∧ es = [.str "down", .int (r : Int), .int (a : Int), .int (b : Int)]) (ed_one ev_str (ed_one (ev_var rfl) (ed_cons (pk rfl rfl) fun d hd => ?_))) fun es he => ?_) hml fin
          · obtain ⟨a, ha, rfl⟩ := hd
            refine ed_cons (pk rfl rfl) fun d hd => ?_
            obtain ⟨b, hb, rfl⟩ := hd
            exact ed_nil ⟨a, b, by omega, by omega, rfl⟩
          · obtain ⟨a, b, ha, hb, rfl⟩ := he
            exact ⟨by show 4 ≤ 100000; decide, .dn r a b, ⟨by omega, ha, hb⟩, rfl⟩
    · rintro ds ⟨m, x, y, z, hl, hg, rfl⟩
      have hl : m.length = k := hl
      exact rn_ret (ev_tupL (Pl := fun es => es = m.map Ins.encI) (P := fun d => d = encM m) (er_own rfl) fun es h => by rw [h]; rfl) fun d e => ⟨m, ⟨by omega, by omega, fun x hx => by rw [hl]; exact hg x hx⟩, e⟩)
/-! ### _law_standing -/
def g_standing : Addr × Addr → Gd := fun i as P' => ∃ m : List Ins, Mach m ∧ as = [.raw (.ref i.1), .dat (encM m), .dat (.int 3)] ∧ P' = fun d => ∃ (a : Nat) (ns : List Nat), a < m.length ∧ ns.length = 4 ∧ (∀ v ∈ ns, v < 3) ∧ d = encSt (a, ns)
abbrev spStanding (K : PySem.W.Frag) (T : List (Addr × Str)) : Sp := spX fun i => spD K (TapeX T i) (g_standing i)
theorem q_law_standing (M : Hd w K mg) : Cal P w K mg base 2 "_law_standing" (spStanding K T) :=
  cal_fam M.d__law_standing sc__law_standing _ (by rintro i as P' ⟨m, _, rfl, rfl⟩; rfl) (fun _ _ _ _ _ _ _ us _ hl => match us, hl with | [_, _, _], _ => rfl) (fun f cdv A' o s H E r => pr__law_standing M (q_pick (T := T) M) (by omega) f cdv A' o s H E r) (by
    rintro ⟨L, S⟩ as P' ⟨m, mok, rfl, rfl⟩
    have p1 := mok.pos
    have p2 := mok.le
    refine rn_ret (ev_tup (Pd := fun es => ∃ (a : Nat) (ns : List Nat), a < m.length ∧ ns.length = 4 ∧ (∀ v ∈ ns, v < 3) ∧ es = [.int (a : Int), encNs ns]) (ed_cons (ev_pick (S := S) (n := (m.length : Int)) (by omega) (by omega) rfl ((ev_lenT (es := m.map Ins.encI) (ev_var rfl)).eq (by rw [List.length_map]))) fun d hd => ?_) fun es he => ?_) fun d hd => hd
    · obtain ⟨a, ha, rfl⟩ := hd
      refine ed_cons (Pa := fun d => ∃ ns : List Nat, ns.length = 4 ∧ (∀ v ∈ ns, v < 3) ∧ d = encNs ns) (ev_tupL (Pl := fun acc => ∃ ns : List Nat, ns.length = 4 ∧ (∀ v ∈ ns, v < 3) ∧ acc = ns.map natD) (er_new (el_four (Pv := fun v => v < 3) fun i => (ev_pick (S := S) (n := 3) (by decide) (by decide) rfl (ev_var rfl)).imp fun d ⟨v, hv, e⟩ => ⟨v, by omega, e⟩)) fun es ⟨ns, h1, h2, h3⟩ => ⟨ns, h1, h2, by rw [h3]; rfl⟩) fun d hd => ?_
      obtain ⟨ns, h1, h2, rfl⟩ := hd
      exact ed_nil ⟨a, ns, by omega, h1, h2, rfl⟩
    · obtain ⟨a, ns, h1, h2, h3, rfl⟩ := he
      exact ⟨by show 2 ≤ 100000; decide, a, ns, h1, h2, h3, rfl⟩)
/-! ### _law_great -/
def g_great : Addr × Addr → Gd := fun i as P' => as = [.raw (.ref i.1)] ∧ P' = fun d => ∃ v : Nat, True ∧ d = .int (v : Int)
abbrev spGreat (K : PySem.W.Frag) (T : List (Addr × Str)) : Sp := spX fun i => spD K (TapeX T i) (g_great i)
theorem pow8 : Ev K A (tOp (rI CPow fun i j => .int (i ^ j.toNat)) (tC (.int 10)) (tC (.int 8))) ds (Is (.int 100000000)) := (ev_opC ev_int ev_int (show CPow 10 8 from ⟨by decide, by decide, by decide⟩) fun _ => .int _).eq rfl
theorem pow16 : Ev K A (tOp (rI CPow fun i j => .int (i ^ j.toNat)) (tC (.int 10)) (tC (.int 16))) ds (Is (.int 10000000000000000)) := (ev_opC ev_int ev_int (show CPow 10 16 from ⟨by decide, by decide, by decide⟩) fun _ => .int _).eq rfl
theorem q_law_great (M : Hd w K mg) : Cal P w K mg base 2 "_law_great" (spGreat K T) :=
  cal_fam M.d__law_great sc__law_great _ (by rintro i as P' ⟨rfl, rfl⟩; rfl) (fun _ _ _ _ _ _ _ us _ hl => match us, hl with | [_], _ => rfl) (fun f cdv A' o s H E r => pr__law_great M (q_pick (T := T) M) (by omega) f cdv A' o s H E r) (by
    rintro ⟨L, S⟩ as P' ⟨rfl, rfl⟩
    have pk : ∀ {ds : List SD}, ds[0]? = some (.raw (.ref L)) → Ev K (tapeA T L S) (tCall (spPick K T) [] E0 (tCons (tVar 0) (tCons (tOp (rI CPow fun i j => .int (i ^ j.toNat)) (tC (.int 10)) (tC (.int 8))) tNil))) ds (fun d => ∃ i : Int, d = .int i ∧ 0 ≤ i) := fun {ds} h => (ev_pick (n := 100000000) (by decide) (by decide) h pow8).imp fun d ⟨k, _, e⟩ => ⟨k, e, by omega⟩
    refine rn_ret (P := fun d => ∃ i : Int, d = .int i ∧ 0 ≤ i) (ev_opP (f := fun i j => .int (i + j)) (Pa := fun i => 0 ≤ i) (Pb := fun i => 0 ≤ i) (ev_opPC (f := fun i j => .int (i * j)) (Pa := fun i => 0 ≤ i) (Pb := fun j => j = 10000000000000000) (pk rfl) (ev_intP pow16 rfl) (fun i j _ e => .inr (by rw [e]; decide)) (fun _ _ _ => .int _) fun i j h e => ⟨_, rfl, Int.mul_nonneg h (by rw [e]; decide)⟩) (ev_opPC (f := fun i j => .int (i * j)) (Pa := fun i => 0 ≤ i) (Pb := fun j => j = 100000000) (pk rfl) (ev_intP pow8 rfl) (fun i j _ e => .inr (by rw [e]; decide)) (fun _ _ _ => .int _) fun i j h e => ⟨_, rfl, Int.mul_nonneg h (by rw [e]; decide)⟩) (fun _ _ _ => .int _) fun i j h1 h2 => ⟨_, rfl, by omega⟩) fun d hd => ?_
    obtain ⟨i, rfl, h0⟩ := hd
    obtain ⟨v, rfl⟩ := Int.eq_ofNat_of_zero_le h0
    exact ⟨v, trivial, rfl⟩)
/-! ### _law_asked -/
theorem dt_ns (ns : List Nat) (h : ns.length = 4) : Dt 1 (encNs ns) := .tup (by rw [List.length_map]; omega) fun e he => by
  obtain ⟨n, _, rfl⟩ := List.mem_map.mp he
  exact .int
theorem dt_st {s : Nat × List Nat} (h : s.2.length = 4) : Dt 2 (encSt s) := .tup (by show 2 ≤ 100000; decide) fun e he => by
  rcases List.mem_cons.mp he with z | z
  · rw [z]; exact .int
  · rw [List.mem_singleton.mp z]; exact dt_ns _ h
theorem dt_told {s : Nat × List Nat} (h : s.2.length = 4) (l : Nat) : Dt 3 (.tuple [encSt s, .int (l : Int)]) := .tup (by show 2 ≤ 100000; decide) fun e he => by
  rcases List.mem_cons.mp he with z | z
  · rw [z]; exact dt_st h
  · rw [List.mem_singleton.mp z]; exact .int
theorem eg_three {i j k : Nat} {a b c : PyData} : EvG K A (gTup K 3 (gCons (gName i) (gCons (gName j) (gCons (gName k) gNil)))) [i, j, k] (.tuple [a, b, c]) ds (((ds.set i (.dat a)).set j (.dat b)).set k (.dat c)) := eg_tup (egs_cons eg_name (egs_cons eg_name (egs_cons eg_name egs_nil))) rfl
def g_asked : Addr × Addr → Gd := fun i as P' => ∃ m : List Ins, Mach m ∧ as = [.raw (.ref i.1), .dat (encM m)] ∧ P' = Is (.bool true)
abbrev spAsked (K : PySem.W.Frag) (T : List (Addr × Str)) : Sp := spX fun i => spD K (TapeX T i) (g_asked i)
theorem q_law_asked (M : Hd w K mg) : Cal P w K mg base 8 "_law_asked" (spAsked K T) :=
  cal_fam M.d__law_asked sc__law_asked _ (by rintro i as P' ⟨m, _, rfl, rfl⟩; rfl) (fun _ _ _ _ _ _ _ us _ hl => match us, hl with | [_, _], _ => rfl) (fun f cdv A' o s H E r => pr__law_asked M (q_law_standing (T := T) M) (by omega) (q_pick (T := T) M) (by omega) (q_law_great (T := T) M) (by omega) (q_law_due (T := T) M) (by omega) (q_told_steps (T := T) M) (by omega) (q_same (T := T) M 3) (by omega) (q_done (T := T) M) (by omega) f cdv A' o s H E r) (by
    rintro ⟨L, S⟩ as P' ⟨m, mok, rfl, rfl⟩
    refine rn_asgS (ev_callX (B := TapeX T) (G := g_standing) (P := fun d => ∃ (a : Nat) (ns : List Nat), a < m.length ∧ ns.length = 4 ∧ d = encSt (a, ns)) (Pa := fun as => as = [.raw (.ref L), .dat (encM m), .dat (.int 3)]) (L, S) (ea_raw rfl (ea_one (ev_var rfl) (ea_one ev_int (ea_nil rfl)))) fun as e => ⟨_, ⟨m, mok, e, rfl⟩, fun d ⟨a, ns, h1, h2, _, h3⟩ => ⟨a, ns, h1, h2, h3⟩⟩) fun d hd => ?_
    obtain ⟨a, ns, ha, hns, rfl⟩ := hd
    refine rn_seq (M := fun ds => ∃ ns : List Nat, ns.length = 4 ∧ ds = [.raw (.ref L), .dat (encM m), .dat (encSt (a, ns)), .emp, .emp, .emp, .emp, .emp]) (rn_if (Pb := fun _ => True) (et_testP (ev_eq0 ((ev_pick (S := S) (n := 4) (by decide) (by decide) rfl ev_int).imp fun d h => h.any))) (fun _ => ?_) fun _ => rn_next ⟨ns, hns, rfl⟩) ?_
    · refine rn_asg (P := fun d => ∃ ns : List Nat, ns.length = 4 ∧ d = encSt (a, ns)) (ev_tup (Pd := fun es => ∃ ns : List Nat, ns.length = 4 ∧ es = [.int (a : Int), encNs ns]) (ed_one (ev_at (es := [.int (a : Int), encNs ns]) (ev_var rfl) rfl) (ed_cons (Pa := fun d => ∃ ns : List Nat, ns.length = 4 ∧ d = encNs ns) (ev_tupL (Pl := fun acc => ∃ ns : List Nat, ns.length = 4 ∧ (∀ v ∈ ns, True) ∧ acc = ns.map natD) (er_new (el_four (Pv := fun _ => True) fun i => ev_callX (B := TapeX T) (G := g_great) (Pa := fun as => as = [.raw (.ref L)]) (L, S) (ea_raw rfl (ea_nil rfl)) fun as e => ⟨_, ⟨e, rfl⟩, fun d h => h⟩)) fun es ⟨ns, h1, _, h3⟩ => ⟨ns, h1, by rw [h3]; rfl⟩) fun d ⟨ns, h1, h2⟩ => ed_nil ⟨ns, h1, by rw [h2]⟩)) fun es ⟨ns, h1, h2⟩ => ⟨by rw [h2]; show 2 ≤ 100000; decide, ns, h1, by rw [h2]; rfl⟩) fun d hd => ?_
      obtain ⟨ns, h1, rfl⟩ := hd
      exact ⟨ns, h1, rfl⟩
    · rintro ds ⟨ns, hns, rfl⟩
      refine rn_asgS (ev_pick (S := S) (n := 30) (by decide) (by decide) rfl ev_int) fun d hd => ?_
      obtain ⟨l, hl, rfl⟩ := hd
      have ms : MS m (a, ns) := ⟨mok, ha, hns⟩
      obtain ⟨s', left, k, tt⟩ := told_ex l ms
      have ms' := tt.ms ms
      have hle := tt.le
      refine rn_seq (M := fun ds => ds = [.raw (.ref L), .dat (encM m), .dat (encSt (a, ns)), .emp, .dat (.int (l : Int)), .dat (encSt s'), .dat (.int (left : Int)), .dat (.int (k : Int))]) (rn_asgG (P := Is (.tuple [encSt s', .int (left : Int), .int (k : Int)])) (ev_callF (es := [encM m, encSt (a, ns), .int (l : Int)]) leT (ea_one (ev_var rfl) (ea_one (ev_var rfl) (ea_one (ev_var rfl) (ea_nil rfl)))) ⟨m, (a, ns), s', l, left, k, ms, by omega, tt, rfl, rfl⟩) fun d ed => ⟨_, by rw [ed]; exact eg_three, rfl⟩) ?_
      rintro ds rfl
      refine rn_skip (et_not1 (a := true) (et_B (ev_callF (es := [.tuple [encSt s', .int (left : Int)], .tuple [encSt s', .int (left : Int)]]) leT (ea_one (ev_callF (es := [encM m, encSt (a, ns), .int (l : Int)]) leT (ea_one (ev_var rfl) (ea_one (ev_var rfl) (ea_one (ev_var rfl) (ea_nil rfl)))) ⟨m, (a, ns), s', l, left, k, ms, by omega, tt, rfl, rfl⟩) (ea_one (ev_tup1 (ed_one (ev_var rfl) (ed_one (ev_var rfl) (ed_nil rfl))) (by show 2 ≤ 100000; decide)) (ea_nil rfl))) ⟨_, dt_told ms'.n left, rfl, rfl⟩))) ?_
      exact rn_ret1 (ev_callF (es := [encSt s', encSt s']) leT (ea_one ((ev_callF (es := [encM m, encSt (a, ns), .int (k : Int)]) leT (ea_one (ev_var rfl) (ea_one (ev_var rfl) (ea_one (ev_var rfl) (ea_nil rfl)))) ⟨m, (a, ns), k, ms, by omega, rfl, rfl⟩).eq (by rw [tt.it])) (ea_one (ev_var rfl) (ea_nil rfl))) ⟨_, (dt_st ms'.n).mono (by omega), rfl, rfl⟩) rfl)
/-! ### _law_for_ever -/
def everM : List Ins := [.up 0 1, .up 1 0]
def everS (w : Nat) : Nat × List Nat := (w % 2, [5 + (w - w / 2), w / 2, 0, 0])
theorem ever_ok : Mach everM := ⟨by decide, by decide, fun i hi => by
  rcases List.mem_cons.mp hi with z | z
  · rw [z]; exact ⟨by decide, by decide⟩
  · rw [List.mem_singleton.mp z]; exact ⟨by decide, by decide⟩⟩
theorem ever_ms (w : Nat) : MS everM (everS w) := ⟨ever_ok, by show w % 2 < 2; omega, rfl⟩
theorem ever_nx (w : Nat) : ∃ i, everM[(everS w).1]? = some i ∧ i ≠ .halt ∧ cost i = 2 ∧ nx everM (everS w) = everS (w + 1) := by
  rcases Nat.mod_two_eq_zero_or_one w with h | h
  · have e : everM[(everS w).1]? = some (.up 0 1) := by
      show everM[w % 2]? = _
      rw [h]
      rfl
    refine ⟨_, e, by simp, rfl, ?_⟩
    show nextS everM (everS w).1 (everS w).2 = _
    rw [nextS_up e]
    show (1, [5 + (w - w / 2) + 1, w / 2, 0, 0]) = ((w + 1) % 2, [5 + (w + 1 - (w + 1) / 2), (w + 1) / 2, 0, 0])
    rw [show (w + 1) % 2 = 1 by omega, show (w + 1) / 2 = w / 2 by omega, show 5 + (w + 1 - w / 2) = 5 + (w - w / 2) + 1 by omega]
  · have e : everM[(everS w).1]? = some (.up 1 0) := by
      show everM[w % 2]? = _
      rw [h]
      rfl
    refine ⟨_, e, by simp, rfl, ?_⟩
    show nextS everM (everS w).1 (everS w).2 = _
    rw [nextS_up e]
    show (0, [5 + (w - w / 2), w / 2 + 1, 0, 0]) = ((w + 1) % 2, [5 + (w + 1 - (w + 1) / 2), (w + 1) / 2, 0, 0])
    rw [show (w + 1) % 2 = 0 by omega, show (w + 1) / 2 = w / 2 + 1 by omega, show 5 + (w + 1 - (w / 2 + 1)) = 5 + (w - w / 2) by omega]
theorem ever_told : ∀ (l w : Nat), Told everM l (everS w) (everS (w + l / 2)) (l % 2) (l / 2) := by
  intro l
  induction l using Nat.strongRecOn with
  | ind l ih =>
    intro w
    obtain ⟨i, e, hi, hc, hn⟩ := ever_nx w
    by_cases h : l < 2
    · have e1 : l / 2 = 0 := by omega
      have e2 : l % 2 = l := by omega
      rw [e1, e2]
      exact .stop e hi (by omega)
    · have t := ih (l - 2) (by omega) (w + 1)
      rw [show w + 1 + (l - 2) / 2 = w + l / 2 by omega, show (l - 2) % 2 = l % 2 by omega, ← hn] at t
      rw [show l / 2 = (l - 2) / 2 + 1 by omega] at t ⊢
      exact .step e hi (by omega) (by rw [hc]; exact t)
def g_ever : Addr × Addr → Gd := fun i as P' => as = [.raw (.ref i.1)] ∧ P' = Is (.bool true)
abbrev spEver (K : PySem.W.Frag) (T : List (Addr × Str)) : Sp := spX fun i => spD K (TapeX T i) (g_ever i)
theorem half (w : Nat) : (w : Int).fdiv 2 = ((w / 2 : Nat) : Int) := by
  rw [Int.fdiv_eq_ediv_of_nonneg _ (by decide)]
  omega
theorem ev_half {w : Nat} (h : Ev K A te ds (Is (.int (w : Int)))) : Ev K A (tOp (rI CDivN fun i j => .int (i.fdiv j)) te (tC (.int 2))) ds (Is (.int ((w / 2 : Nat) : Int))) := (ev_opC h ev_int (show CDivN (w : Int) 2 from ⟨by decide, by decide⟩) fun _ => .int _).eq (congrArg PyData.int (half w))
theorem ev_dbl {w : Int} (h : Ev K A te ds (Is (.int w))) : Ev K A (tOp (rI CMul fun i j => .int (i * j)) te (tC (.int 2))) ds (Is (.int (w * 2))) := ev_opC h ev_int (show CMul w 2 from .inr (by decide)) fun _ => .int _
theorem q_law_ever (M : Hd w K mg) : Cal P w K mg base 8 "_law_for_ever" (spEver K T) :=
  cal_fam M.d__law_for_ever sc__law_for_ever _ (by rintro i as P' ⟨rfl, rfl⟩; rfl) (fun _ _ _ _ _ _ _ us _ hl => match us, hl with | [_], _ => rfl) (fun f cdv A' o s H E r => pr__law_for_ever M (q_pick (T := T) M) (by omega) (q_told_steps (T := T) M) (by omega) (q_same (T := T) M 3) (by omega) f cdv A' o s H E r) (by
    rintro ⟨L, S⟩ as P' ⟨rfl, rfl⟩
    refine rn_asg1 (d := encM everM) (ev_tup1 (es := everM.map Ins.encI) (ed_one (ev_tup1 (es := [.str "up", .int 0, .int 1]) (ed_one ev_str (ed_one ev_int (ed_one ev_int (ed_nil rfl)))) (by show 3 ≤ 100000; decide)) (ed_one (ev_tup1 (es := [.str "up", .int 1, .int 0]) (ed_one ev_str (ed_one ev_int (ed_one ev_int (ed_nil rfl)))) (by show 3 ≤ 100000; decide)) (ed_nil rfl))) (by show 2 ≤ 100000; decide)) ?_
    refine rn_asgS (ev_pick (S := S) (n := 20001) (by decide) (by decide) rfl ev_int) fun d hd => ?_
    obtain ⟨l, hl, rfl⟩ := hd
    have tt := ever_told l 0
    rw [Nat.zero_add] at tt
    refine rn_asg1 (d := .int ((l / 2 : Nat) : Int)) (ev_half (ev_var rfl)) ?_
    refine rn_asg1 (d := .tuple [encSt (everS (l / 2)), .int ((l % 2 : Nat) : Int)]) (ev_callF (es := [encM everM, encSt (everS 0), .int (l : Int)]) leT (ea_one (ev_var rfl) (ea_one (ev_tup1 (es := [.int ((everS 0).1 : Int), encNs (everS 0).2]) (ed_one ev_int (ed_one (ev_tup1 (es := [.int 5, .int 0, .int 0, .int 0]) (ed_one ev_int (ed_one ev_int (ed_one ev_int (ed_one ev_int (ed_nil rfl))))) (by show 4 ≤ 100000; decide)) (ed_nil rfl))) (by show 2 ≤ 100000; decide)) (ea_one (ev_var rfl) (ea_nil rfl)))) ⟨everM, everS 0, everS (l / 2), l, l % 2, l / 2, ever_ms 0, by omega, tt, rfl, rfl⟩) ?_
    refine rn_ret1 (ev_callF (es := [.tuple [encSt (everS (l / 2)), .int ((l % 2 : Nat) : Int)], .tuple [encSt (everS (l / 2)), .int ((l % 2 : Nat) : Int)]]) leT (ea_one (ev_var rfl) (ea_one (ev_tup1 (ed_one (d := encSt (everS (l / 2))) (ev_tup1 (es := [.int ((everS (l / 2)).1 : Int), encNs (everS (l / 2)).2]) (ed_one ((ev_sub (ev_var rfl) (ev_dbl (ev_half (ev_var rfl)))).eq (congrArg PyData.int ?_)) (ed_one (ev_tup1 (es := [.int ((5 + (l / 2 - l / 2 / 2) : Nat) : Int), .int ((l / 2 / 2 : Nat) : Int), .int 0, .int 0]) (ed_one ((ev_sub (ev_add ev_int (ev_var rfl)) (ev_half (ev_var rfl))).eq (congrArg PyData.int ?_)) (ed_one (ev_half (ev_var rfl)) (ed_one ev_int (ed_one ev_int (ed_nil rfl))))) (by show 4 ≤ 100000; decide)) (ed_nil rfl))) (by show 2 ≤ 100000; decide)) (ed_one ((ev_sub (ev_var rfl) (ev_dbl (ev_var rfl))).eq (congrArg PyData.int ?_)) (ed_nil rfl))) (by show 2 ≤ 100000; decide)) (ea_nil rfl))) ⟨_, dt_told rfl (l % 2), rfl, rfl⟩) rfl
    · show _ = ((l / 2 % 2 : Nat) : Int)
      omega
    · omega
    · omega)
end
end K87
/-! The run by meetings. -/
namespace K87
open PySem PySem.Spec PyProof.Rows L2
/-! ### paths of forms -/
def Good (f : Pl) : Prop := okL 0 f ∧ Small f
inductive Path : Pl → Nat → Pl → Prop
  | nil {f : Pl} : Good f → Path f 0 f
  | cons {f f' g : Pl} {n c : Nat} {p b : Pl} : Good f → Met f f' c p b → Path f' n g → Path f (n + 1) g
theorem Path.good {f g : Pl} {n : Nat} (h : Path f n g) : Good f := by cases h <;> assumption
theorem Path.trans {f g h : Pl} {n k : Nat} (a : Path f n g) (b : Path g k h) : Path f (n + k) h := by
  induction a with
  | nil _ => rw [Nat.zero_add]; exact b
  | cons gd met _ ih => rw [Nat.add_right_comm]; exact .cons gd met (ih b)
theorem Path.fn {f g : Pl} {n : Nat} (h : Path f n g) : ∃ F : Nat → Pl, F 0 = f ∧ F n = g ∧ (∀ i, i ≤ n → okL 0 (F i) ∧ Small (F i)) ∧ ∀ i, i < n → ∃ c p b, Met (F i) (F (i + 1)) c p b := by
  induction h with
  | @nil f gd => exact ⟨fun _ => f, rfl, rfl, fun _ _ => gd, fun i hi => absurd hi (Nat.not_lt_zero _)⟩
  | @cons f f' g n c p b gd met _ ih =>
    obtain ⟨F, h0, hn, ho, hm⟩ := ih
    refine ⟨fun i => match i with | 0 => f | i + 1 => F i, rfl, hn, fun i hi => ?_, fun i hi => ?_⟩
    · cases i with
      | zero => exact gd
      | succ i => exact ho i (by omega)
    · cases i with
      | zero => exact ⟨c, p, b, by show Met f (F 0) c p b; rw [h0]; exact met⟩
      | succ i => exact hm i (by omega)
section
variable {m : List Ins} {a : Nat} {ns : List Nat}
theorem StOk.good (h : StOk m a ns) (k : Nat) : Good (plainL (midP m a ns k)) :=
  ⟨okL_plain.mpr (mid_ok h k), ⟨by rw [cnt_plain.2]; exact (h.small k).cnt, by rw [dp_plain.2]; exact (h.small k).dp⟩⟩
theorem path_meet {T T' : Pl} (h : Meet T T') (g : Good (plainL T)) (g' : Good (plainL T')) : Path (plainL T) 1 (plainL T') := by
  obtain ⟨A, c, p, b, w⟩ := h
  exact .cons g w.form (.nil g')
theorem StOk.raw0 (h : StOk m a ns) : midP m a ns 0 = rawP m a ns := by
  obtain ⟨i, hi, _⟩ := h.ins
  exact raw_mid m a ns hi
theorem path_go (h : StOk m a ns) : Path (plainL (rawP m a ns)) 1 (plainL (midP m a ns 1)) := by
  obtain ⟨i, hi, _⟩ := h.ins
  exact path_meet (meet_go h hi) (by rw [← h.raw0]; exact h.good 0) (h.good 1)
/-- one whole step -/
theorem path_step (h : StOk m a ns) {i : Ins} (hi : m[a]? = some i) (hn : i ≠ .halt) (h' : StOk m (nextS m a ns).1 (nextS m a ns).2) : Path (plainL (rawP m a ns)) (cost i) (plainL (rawP m (nextS m a ns).1 (nextS m a ns).2)) := by
  have g' : Good (plainL (rawP m (nextS m a ns).1 (nextS m a ns).2)) := by rw [← h'.raw0]; exact h'.good 0
  cases i with
  | halt => exact absurd rfl hn
  | up r n =>
    have e : nextS m a ns = (n, ns.set r (ns.getD r 0 + 1)) := nextS_up hi
    have mu := meet_up h hi
    rw [e] at g' ⊢
    exact (path_go h).trans (path_meet mu (h.good 1) g')
  | dn r n o =>
    exact (((path_go h).trans (path_meet (meet_dn h hi) (h.good 1) (h.good 2))).trans (path_meet (meet_dn2 h hi) (h.good 2) (h.good 3))).trans (path_meet (meet_dn3 h hi) (h.good 3) g')
/-- what is left of a step -/
theorem path_rest (h : StOk m a ns) {i : Ins} (hi : m[a]? = some i) {left : Nat} (hl : (i = .halt ∧ left ≤ 1) ∨ left < cost i) : Path (plainL (rawP m a ns)) left (plainL (midP m a ns left)) := by
  have h1 : left ≤ 1 → Path (plainL (rawP m a ns)) left (plainL (midP m a ns left)) := fun c => by
    rcases Nat.lt_or_ge left 1 with z | z
    · have : left = 0 := by omega
      subst this
      rw [h.raw0]
      exact .nil (by rw [← h.raw0]; exact h.good 0)
    · have : left = 1 := by omega
      subst this
      exact path_go h
  cases i with
  | halt => exact h1 (by rcases hl with z | z; exact z.2; exact absurd z (Nat.not_lt_zero _))
  | up r n =>
    refine h1 ?_
    rcases hl with ⟨z, _⟩ | z
    · cases z
    · have z : left < 2 := z
      omega
  | dn r n o =>
    rcases hl with ⟨z, _⟩ | z
    · cases z
    · have z : left < 4 := z
      by_cases c : left ≤ 1
      · exact h1 c
      · by_cases c2 : left = 2
        · subst c2
          exact (path_go h).trans (path_meet (meet_dn h hi) (h.good 1) (h.good 2))
        · have : left = 3 := by omega
          subst this
          exact ((path_go h).trans (path_meet (meet_dn h hi) (h.good 1) (h.good 2))).trans (path_meet (meet_dn2 h hi) (h.good 2) (h.good 3))
end
/-- standings whose numbers stay small for l meetings -/
structure StL (m : List Ins) (l : Nat) (s : Nat × List Nat) : Prop where
  ms : MS m s
  le : ∀ v ∈ s.2, 2 * v + l ≤ 12
theorem StL.ok {m : List Ins} {l : Nat} {s : Nat × List Nat} (h : StL m l s) : StOk m s.1 s.2 := ⟨h.ms.mok, h.ms.at_, h.ms.n, fun v hv => by have := h.le v hv; omega⟩
theorem StL.next {m : List Ins} {l : Nat} {s : Nat × List Nat} (h : StL m l s) {i : Ins} (hi : m[s.1]? = some i) (hn : i ≠ .halt) (hc : cost i ≤ l) : StL m (l - cost i) (nx m s) := by
  refine ⟨h.ms.next, fun v hv => ?_⟩
  have hp := cost_pos hn
  have old : ∀ u ∈ s.2, 2 * u + (l - cost i) ≤ 12 := fun u hu => by have := h.le u hu; omega
  have hg : ∀ r, r < 4 → s.2.getD r 0 ∈ s.2 := fun r hr => by
    rw [List.getD_eq_getElem?_getD, List.getElem?_eq_getElem (by rw [h.ms.n]; exact hr)]
    exact List.getElem_mem _
  have hgood : i.good m.length := h.ms.mok.good _ (List.mem_of_getElem? hi)
  unfold nx at hv
  cases i with
  | halt => exact absurd rfl hn
  | up r n =>
    rw [nextS_up hi] at hv
    rcases List.mem_or_eq_of_mem_set hv with z | z
    · exact old v z
    · have := h.le _ (hg r hgood.1)
      have hc : 2 ≤ l := hc
      show 2 * v + (l - 2) ≤ 12
      omega
  | dn r n o =>
    rw [nextS_dn hi] at hv
    split at hv
    · exact old v hv
    · rcases List.mem_or_eq_of_mem_set hv with z | z
      · exact old v z
      · have := old _ (hg r hgood.1)
        omega
theorem Told.path {m : List Ins} {l : Nat} {s s' : Nat × List Nat} {left k : Nat} (h : Told m l s s' left k) : StL m l s → Path (plainL (rawP m s.1 s.2)) (costF m k s + left) (plainL (midP m s'.1 s'.2 left)) ∧ StOk m s'.1 s'.2 := by
  induction h with
  | halt e =>
    intro h
    refine ⟨?_, h.ok⟩
    rw [show costF m 0 _ = 0 from rfl, Nat.zero_add]
    exact path_rest h.ok e (.inl ⟨rfl, by omega⟩)
  | stop e hn hc =>
    intro h
    refine ⟨?_, h.ok⟩
    rw [show costF m 0 _ = 0 from rfl, Nat.zero_add]
    exact path_rest h.ok e (.inr hc)
  | @step l s s' i left k e hn hc t ih =>
    intro h
    have hx := h.next e hn hc
    obtain ⟨p, ok'⟩ := ih hx
    have e1 : costF m (k + 1) s = cost i + costF m k (nx m s) := by
      unfold costF
      show ((m.getD s.1 .halt :: sortsF m k (nx m s)).map cost).sum = _
      rw [getD_ins e, List.map_cons, List.sum_cons]
    rw [e1, Nat.add_assoc]
    exact ⟨(path_step h.ok e hn hx.ok).trans p, ok'⟩
section
variable {P : Program} {w : World} {K : PySem.W.Frag} {mg : Str → Option Value} {base : Heap} {T : List (Addr × Str)} {L S : Addr} {ds : List SD} {te ta tb : TE} {A : Amb}
theorem flat_zero : ∀ n : Nat, (List.replicate n [V.int 0]).flatten = (List.replicate n (0 : Int)).map V.int
  | 0 => rfl
  | n + 1 => by rw [List.replicate_succ, List.flatten_cons, flat_zero n, List.replicate_succ]; rfl
/-- [0] * n -/
theorem el_rep {n : Nat} (hn : n ≤ 1000) (h : Ev K A te ds (Is (.int (n : Int)))) : EvL K A (tOp rRep (tLst (tCons (tC (.int 0)) tNil)) te) ds (fun es => es = List.replicate n (.int 0)) := fun H0 H σ Q n' q => by
  have L : EvL K A (tLst (tCons (tC (.int 0)) tNil)) ds (fun es => es = [.int 0]) := el_lst (Pd := fun es => es = [.int 0]) (ed_one ev_int (ed_nil rfl)) fun es e => ⟨by rw [e]; show 1 ≤ 100000; decide, e⟩
  refine L H0 H σ _ n' fun p vs es H1 e np x1 hp hall => h H0 H1 σ _ (n'.xt x1) fun v d H2 p2 x2 a2 => ?_
  subst e p2
  cases a2
  have ev : vs = [.int 0] := by
    cases hall with
    | cons a b => cases a; cases b; rfl
  subst ev
  have hp2 := x2.kp p _ hp (fun _ z => nomatch z) (own_ne n'.inv np)
  refine ⟨p, (n : Int), [.int 0], rfl, rfl, hp2, by omega, by omega, ?_, fun r hr => ?_⟩
  · rw [Int.toNat_natCast, List.length_singleton, Nat.one_mul]
    exact Nat.le_trans hn (by decide)
  · have e1 : (List.replicate (n : Int).toNat [V.int 0]).flatten = (List.replicate n (0 : Int)).map V.int := by
      rw [Int.toNat_natCast]
      exact flat_zero n
    have e2 : List.replicate n (PyData.int 0) = (List.replicate n (0 : Int)).map .int := by rw [List.map_replicate]
    refine q r _ _ _ rfl ((x1.trans x2).fr r hr) ((x1.trans x2).trans (Xt.new hr)) upd_same ?_
    rw [e1, e2]
    exact AtAll.of_ints _
theorem sum_nat (l : List Nat) : (l.map fun n : Nat => (n : Int)).sum = ((l.sum : Nat) : Int) := by
  induction l with
  | nil => rfl
  | cons x r ih => rw [List.map_cons, List.sum_cons, ih, List.sum_cons]; omega
def g_run_by : Addr × Addr → Gd := fun i as P' => ∃ m : List Ins, Mach m ∧ as = [.raw (.ref i.1), .dat (encM m)] ∧ P' = Is (.bool true)
abbrev spRunBy (K : PySem.W.Frag) (T : List (Addr × Str)) : Sp := spX fun i => spD K (TapeX T i) (g_run_by i)
/-- over a list that a call hands back -/
theorem ei_newP {l : List PyData} (h : EvL K A te ds (fun x => x = l)) : EvI K A (iList K te) ds l.length (fun i d => l[i]? = some d) := ei_new h
theorem q_law_run_by (M : Hd w K mg) (tb : Tb K mg base) : Cal P w K mg base 133 "_law_run_by" (spRunBy K tb.T) :=
  cal_fam M.d__law_run_by sc__law_run_by _ (by rintro i as P' ⟨m, _, rfl, rfl⟩; rfl) (fun _ _ _ _ _ _ _ us _ hl => match us, hl with | [_, _], _ => rfl) (fun f cdv A' o s H E r => pr__law_run_by M (q_law_standing (T := tb.T) M) (by omega) (q_pick (T := tb.T) M) (by omega) (q_law_due (T := tb.T) M) (by omega) (q_law_sorts (T := tb.T) M) (by omega) (q_plan_of M tb) (by omega) (q_run M tb) (by omega) (q_standing_of M tb) (by omega) (q_same (T := tb.T) M 3) (by omega) f cdv A' o s H E r) (by
    rintro ⟨L, S⟩ as P' ⟨m, mok, rfl, rfl⟩
    refine rn_asgS (ev_callX (B := TapeX tb.T) (G := g_standing) (P := fun d => ∃ (a : Nat) (ns : List Nat), a < m.length ∧ ns.length = 4 ∧ (∀ v ∈ ns, v < 3) ∧ d = encSt (a, ns)) (Pa := fun as => as = [.raw (.ref L), .dat (encM m), .dat (.int 3)]) (L, S) (ea_raw rfl (ea_one (ev_var rfl) (ea_one ev_int (ea_nil rfl)))) fun as e => ⟨_, ⟨m, mok, e, rfl⟩, fun d h => h⟩) fun d hd => ?_
    obtain ⟨a, ns, ha, hns, hlt, rfl⟩ := hd
    refine rn_asgS (ev_pick (S := S) (n := 8) (by decide) (by decide) rfl ev_int) fun d hd => ?_
    obtain ⟨l, hl, rfl⟩ := hd
    have ms : MS m (a, ns) := ⟨mok, ha, hns⟩
    have stl : StL m l (a, ns) := ⟨ms, fun v hv => by have := hlt v hv; omega⟩
    obtain ⟨s', left, k, tt⟩ := told_ex l ms
    have ms' := tt.ms ms
    have hle := tt.le
    obtain ⟨path, ok'⟩ := tt.path stl
    obtain ⟨hno, ⟨hh1, hh2⟩, hor⟩ := tt.sorts
    refine rn_seq (M := fun ds => ds = [.raw (.ref L), .dat (encM m), .dat (encSt (a, ns)), .dat (.int (l : Int)), .dat (encSt s'), .dat (.int (left : Int)), .dat (.int (k : Int)), .emp, .emp, .emp, .emp, .emp]) (rn_asgG (P := Is (.tuple [encSt s', .int (left : Int), .int (k : Int)])) (ev_callF (es := [encM m, encSt (a, ns), .int (l : Int)]) leT (ea_one (ev_var rfl) (ea_one (ev_var rfl) (ea_one (ev_var rfl) (ea_nil rfl)))) ⟨m, (a, ns), s', l, left, k, ms, by omega, tt, rfl, rfl⟩) fun d ed => ⟨_, by rw [ed]; exact eg_three, rfl⟩) ?_
    rintro ds rfl
    obtain ⟨i', e', g'⟩ := ms'.get
    refine rn_asg1 (d := .bool (decide (i'.word = "halt"))) (et_strB (ev_word 1 4 rfl rfl e') rfl) ?_
    refine rn_asg1 (d := .int (l : Int)) (ev_var rfl) ?_
    have hcan : costF m k (a, ns) + left ≤ l := by
      rcases hor with h | h
      · exact (hh1 h).2
      · exact Nat.le_of_eq (hh2 h)
    refine rn_seq (M := fun ds => ds = [.raw (.ref L), .dat (encM m), .dat (encSt (a, ns)), .dat (.int (l : Int)), .dat (encSt s'), .dat (.int (left : Int)), .dat (.int (k : Int)), .dat (.bool (decide (i'.word = "halt"))), .dat (.int ((costF m k (a, ns) + left : Nat) : Int)), .emp, .emp, .emp]) ?_ ?_
    · refine rn_if (Pb := IsB (decide (i'.word = "halt"))) (et_B (ev_var rfl)) (fun hb => ?_) fun hb => ?_
      · refine rn_asg (P := Is (.int ((costF m k (a, ns) + left : Nat) : Int))) ?_ fun d ed => by subst ed; rfl
        refine (ev_add (i := ((costF m k (a, ns) : Nat) : Int)) (ev_sum (Pn := fun zs => zs = ((sortsF m k (a, ns)).map cost).map fun n : Nat => (n : Int)) ((er_new (el_mapR (js := [9]) (l := (sortsF m k (a, ns)).map fun i => .str i.word) (rs := (sortsF m k (a, ns)).map fun i => .int (cost i : Int)) (ei_new (l := (sortsF m k (a, ns)).map fun i => .str i.word) (el_call (G := g_sorts) (Pa := fun as => as = [.dat (encM m), .dat (encSt (a, ns)), .dat (.int (k : Int))]) leT (ea_one (ev_var rfl) (ea_one (ev_var rfl) (ea_one (ev_var rfl) (ea_nil rfl)))) fun as e => ⟨_, ⟨m, (a, ns), k, ms, by omega, e, hno, rfl⟩, fun d h => h⟩)) (fun i d _ h => h) rfl (by rw [List.length_map, List.length_map]) (by rw [List.length_map, sortsF_len]; omega) (fun j hj => hj) fun i d e hd he => ?_)).imp fun r hr => ⟨_, by rw [hr, List.map_map, List.map_map]; rfl, rfl⟩) fun zs e => ?_) (ev_var rfl)).eq (congrArg PyData.int (by omega))
        · rw [List.getElem?_map] at hd he
          cases hx : (sortsF m k (a, ns))[i]? with
          | none => rw [hx] at hd; cases hd
          | some ins =>
            rw [hx] at hd he
            cases hd
            cases he
            exact ⟨_, eg_name, ev_wcost (hno ins (List.mem_of_getElem? hx)) (ev_var rfl)⟩
        · rw [e, sum_nat]
          rfl
      · have hne : i' ≠ .halt := fun z => by
          subst z
          have hb : false = true := hb
          cases hb
        have : costF m k (a, ns) + left = l := hh2 (by
          rcases hor with h | h
          · rw [e'] at h
            cases h
            exact absurd rfl hne
          · exact h)
        exact rn_next (by rw [this]; rfl)
    · rintro ds rfl
      obtain ⟨F, f0, fn, fok, fmet⟩ := path.fn
      have stok : StOk m a ns := stl.ok
      have ch : Chain F (costF m k (a, ns) + left) := ⟨fok, by rw [f0]; exact plainL_idem _, fmet⟩
      refine rn_asg1 (d := plan (plainL (midP m s'.1 s'.2 left))) ?_ ?_
      · refine (ev_ixT (es := forms F (costF m k (a, ns) + left + 1)) (ev_call (G := g_run) (P := Is (.tuple (forms F (costF m k (a, ns) + left + 1)))) (Pa := fun as => as = [.dat (plan (F 0)), .lst (List.replicate (costF m k (a, ns) + left) (.int 0))]) leT (ea_one ((ev_callF (es := [encM m, encSt (a, ns)]) leT (ea_one (ev_var rfl) (ea_one (ev_var rfl) (ea_nil rfl))) ⟨m, a, ns, stok, rfl, rfl⟩).eq (congrArg plan f0.symm)) (ea_lst (er_new (el_rep (by omega) (ev_var rfl))) fun d e => ea_nil (by rw [e]))) fun as e => ⟨_, ⟨F, _, ch, by omega, e, rfl⟩, fun d h => h⟩) (ev_neg ev_int) (forms_last F _)).eq (by rw [fn])
      · have same : ∀ (ds : List SD) (d : PyData), Dt 3 d → ds[1]? = some (.dat (encM m)) → ds[10]? = some (.dat (plan (plainL (midP m s'.1 s'.2 left)))) → ds[11]? = some (.dat d) → ((left = 0 ∧ d = encSt (s'.1, s'.2)) ∨ (left = 1 ∧ d = .none) ∨ ((left = 2 ∨ left = 3) ∧ (∃ r n o, m[s'.1]? = some (.dn r n o)) ∧ d = .none)) → Ev K (tapeA tb.T L S) (tCall (spD K (pureA tb.T) (gF (f_same 3))) [] E0 (tCons (tCall (spD K (pureA tb.T) (gF f_standing_of)) [] E0 (tCons (tVar 1) (tCons (tVar 10) tNil))) (tCons (tVar 11) tNil))) ds (Is (.bool true)) := fun ds d hd h1 h2 h3 h4 => ev_callF (es := [d, d]) leT (ea_one (ev_callF (es := [encM m, plan (plainL (midP m s'.1 s'.2 left))]) leT (ea_one (ev_var h1) (ea_one (ev_var h2) (ea_nil rfl))) ⟨m, s'.1, s'.2, left, ok', rfl, h4⟩) (ea_one (ev_var h3) (ea_nil rfl))) ⟨d, hd, rfl, rfl⟩
        have t0 : ∀ (ds : List SD), ds[5]? = some (.dat (.int (left : Int))) → EvT K (tapeA tb.T L S) (tTest (tOp rEq (tVar 5) (tC (.int 0)))) ds (IsB (decide (left = 0))) := fun ds h => (et_test (ev_eqS (c := .int (left : Int)) (d := .int 0) (ev_var h) ev_int rfl rfl rfl)).to (dec_nat (n := 0))
        by_cases c0 : left = 0
        · refine rn_asg1 (d := encSt s') (ev_if (Pt := IsB true) ((t0 _ rfl).to (decide_eq_true c0)) (fun _ => ev_var rfl) fun z => nomatch z) ?_
          exact rn_ret1 (same _ (encSt s') ((dt_st ms'.n).mono (by omega)) rfl rfl rfl (.inl ⟨c0, rfl⟩)) rfl
        · refine rn_asg1 (d := .none) (ev_if (Pt := IsB false) ((t0 _ rfl).to (decide_eq_false c0)) (fun z => nomatch z) fun _ => ev_non) ?_
          refine rn_ret1 (same _ .none .non rfl rfl rfl (.inr ?_)) rfl
          rcases hor with h | ⟨i, hi, hn, hc⟩
          · exact .inl ⟨by have := (hh1 h).1; omega, rfl⟩
          · cases i with
            | halt => exact absurd rfl hn
            | up r n =>
              have hc : left < 2 := hc
              exact .inl ⟨by omega, rfl⟩
            | dn r n o =>
              have hc : left < 4 := hc
              by_cases c1 : left = 1
              · exact .inl ⟨c1, rfl⟩
              · exact .inr ⟨by omega, ⟨r, n, o, hi⟩, rfl⟩)
end
end K87
/-! The law. -/
namespace K87
open PySem PySem.Spec PyProof.Rows L2
/-- the script: a list that stands, or one of the module's objects -/
def ScrD (K : PySem.W.Frag) (sd : SD) (xs : List Int) : Prop := sd = .lst (xs.map .int) ∨ ∃ a, sd = .raw (.ref a) ∧ ∀ H, SqL K H a (xs.map V.int)
theorem scr_at {K : PySem.W.Frag} {A : Amb} {H0 H : Hp} {o : Option (Option V)} {sd : SD} {xs : List Int} (h : ScrD K sd xs) (s : SlotAt K A H0 H o sd) : ∃ a, o = some (some (.ref a)) ∧ SqL K H a (xs.map V.int) := by
  rcases h with rfl | ⟨a, rfl, h⟩
  · obtain ⟨a, vs, e, _, _, r, q⟩ := s
    have eu := q.ints
    subst eu
    exact ⟨a, e, .inl r⟩
  · exact ⟨a, s, h H⟩
theorem ev_lenScr {K : PySem.W.Frag} {A : Amb} {ds : List SD} {sd : SD} {xs : List Int} {i : Nat} (h : ScrD K sd xs) (hi : ds[i]? = some sd) : Ev K A (tCB (rLenSeq K) (tCons (tVar i) tNil)) ds (Is (.int (xs.length : Int))) := fun H0 H σ Q n q => by
  obtain ⟨a, e, sq⟩ := scr_at h (n.slot i _ hi)
  exact ⟨_, e, a, _, rfl, .inl sq, by rw [List.length_map]; exact q _ _ H rfl (Xt.refl H) (.int _)⟩
def spTape (K : PySem.W.Frag) (T : List (Addr × Str)) : Sp := fun vs H Q _ => (pureA T).inv H ∧ ∃ (xs : List Int) (a : Addr), vs = [.ref a] ∧ SqL K H a (xs.map V.int) ∧
  ∀ L S H', H L = none → H S = none → Xt (pureA T) H H' → H' L = some (.lst (tapeL S 0 0 1 0)) → H' S = some (.lst (xs.map V.int)) → Q (.ref L) H'
section
variable {P : Program} {w : World} {K : PySem.W.Frag} {mg : Str → Option Value} {base : Heap} {T : List (Addr × Str)}
theorem upd_none {H : Hp} {S L : Addr} {o : HO} (h : upd H S o L = none) : L ≠ S ∧ H L = none := by
  unfold upd at h
  split at h
  · cases h
  · rename_i c
    exact ⟨c, h⟩
theorem q_law_tape (M : Hd w K mg) : Cal P w K mg base 1 "_law_tape" (spTape K T) := by
  obtain ⟨f, fd, h1, F⟩ := M.d__law_tape
  refine ⟨f, fd, ["_law_script"], h1, F.kp, F.bindsN fun kV doc pm an cdv ct us hl => (match us, hl with | [_], _ => rfl), ?_⟩
  refine F.ok sc__law_tape (fun vs H Q E h => ?_) fun cdv A' outer s H vs Q E room h => ⟨t__law_tape K, (pr__law_tape (k := 0) M f cdv A' outer s H E room).nox, ?_⟩
  · obtain ⟨_, xs, a, e, _⟩ := h
    rw [e]
    rfl
  · obtain ⟨i, xs, a, ev, sq, q⟩ := h
    subst ev
    have n := en_start (K := K) (N := ["_law_script"]) (vs := [.ref a]) (as := [.raw (.ref a)]) i (.cons rfl .nil)
    have e := n.slot 0 _ rfl
    refine ⟨.ref a, e, a, _, rfl, .inl sq, fun S hS => ⟨(by show 5 ≤ sizeLine; decide), fun L hL => ?_⟩⟩
    obtain ⟨hne, hL0⟩ := upd_none hL
    exact q L S _ hL0 hS ((Xt.new hS).trans (Xt.new hL)) upd_same ((upd_ne (Ne.symm hne)).trans upd_same)
/-- from the pure part to the tape's -/
theorem rn_switch {u : TS} {xs : List Int} {sd : SD} (hs : ScrD K sd xs) (h : ∀ L S, Rn K (tapeA T L S) u [sd, .raw (.ref L), .emp, .emp, .emp, .emp] ⟨fun _ => False, fun r => r = .inl (.bool true), fun _ => False, fun _ => False⟩) :
    Rn K (pureA T) (tSeq (tAsg (tCall (spTape K T) [] E0 (tCons (tVar 0) tNil)) (gName 1)) u) [sd, .emp, .emp, .emp, .emp, .emp] (retD (Is (.bool true))) := fun H0 H σ D n a b c e => by
  obtain ⟨av, e0, sq⟩ := scr_at hs (n.slot 0 _ rfl)
  refine ⟨_, e0, n.inv, xs, av, rfl, sq, fun L S H' nL nS x hL hS => ?_⟩
  have lenσ := n.len
  have ne : ∀ b o, H0 b = some o → b ∉ [L, S] := fun b o hb hm => by
    rcases List.mem_cons.mp hm with z | z
    · rw [z, n.fr L nL] at hb; cases hb
    · rw [List.mem_singleton.mp z, n.fr S nS] at hb; cases hb
  have n' : En K (tapeA T L S) H' H' (σ.set 1 (some (.ref L))) [sd, .raw (.ref L), .emp, .emp, .emp, .emp] := by
    refine ⟨⟨x.inv n.inv, 0, 0, 1, 0, xs, hL, hS⟩, ⟨x.inv n.inv, 0, 0, 1, 0, xs, hL, hS⟩, Kp.refl H', fun _ h => h, by rw [List.length_set]; exact lenσ, fun i d hd => ?_⟩
    match i, hd with
    | 0, hd =>
      have hd : sd = d := Option.some.inj hd
      subst hd
      rcases hs with rfl | ⟨sa, rfl, _⟩
      · obtain ⟨av, vs, e0, nt, r0, r, q⟩ := n.slot 0 _ rfl
        have nt2 : av ∉ [L, S] := by
          rcases r0 with z | ⟨o, z⟩
          · exact ne _ _ z
          · exact ne _ _ z
        have r' := rdl_kp x.kp List.not_mem_nil r
        exact ⟨av, vs, by rw [List.getElem?_set_ne (by decide)]; exact e0, nt2, r', r', q.kp n.inv x.kp⟩
      · have s0 := n.slot 0 _ rfl
        show (σ.set 1 (some (V.ref L)))[0]? = some (some (.ref sa))
        rw [List.getElem?_set_ne (by decide)]
        exact s0
    | 1, hd =>
      cases hd
      show (σ.set 1 (some (V.ref L)))[1]? = some (some (.ref L))
      rw [List.getElem?_set_self (by rw [lenσ]; show 1 < 6; decide)]
    | 2, hd => cases hd; trivial
    | 3, hd => cases hd; trivial
    | 4, hd => cases hd; trivial
    | 5, hd => cases hd; trivial
    | i + 6, hd => cases hd
  have x1 : Xt (pureA T) H0 H' := n.x0.trans x
  refine h L S H' H' (σ.set 1 (some (.ref L))) D n' (fun es σ' H'' z _ _ => (show False from z).elim) (fun v rv H'' hr x2 ra => ?_) (fun es σ' H'' z _ _ => (show False from z).elim) fun es σ' H'' z _ _ => (show False from z).elim
  have hr : rv = .inl (.bool true) := hr
  subst hr
  exact b v (.inl (.bool true)) H'' rfl ⟨fun b o hb ht _ => x2.kp b o (x1.kp b o hb ht List.not_mem_nil) ht (ne b o hb), fun _ => (x2.inv n'.inv).1, fun b hb => x1.fr b (x2.fr b hb)⟩ ra
def g_law (K : PySem.W.Frag) : Gd := fun as P' => ∃ (xs : List Int) (sd : SD), ScrD K sd xs ∧ as = [sd] ∧ P' = Is (.bool true)
theorem r_law : ∀ as P', g_law K as P' → Rn K (pureA T) (t_law K (spTape K T) (spPick K T) (spMachine K T) (spAsked K T) (spRunBy K T) (spEver K T)) (as ++ List.replicate (6 - as.length) .emp) (retD P') := by
  rintro as P' ⟨xs, sd, hs, rfl, rfl⟩
  refine rn_switch hs fun L S => ?_
  refine rn_asgS (P := fun d => ∃ b, d = .bool b ∧ True) (ev_eq0 ((ev_pick (S := S) (n := 8) (by decide) (by decide) rfl ev_int).imp fun d h => h.any)) fun d hd => ?_
  obtain ⟨b, rfl, _⟩ := hd
  refine rn_asgS (P := fun d => ∃ n : Int, 0 < n ∧ n ≤ 12 ∧ d = .int n) (ev_if (Pt := fun _ => True) (et_testP (ev_eq0 ((ev_pick (S := S) (n := 6) (by decide) (by decide) rfl ev_int).imp fun d h => h.any))) (fun _ => ev_int.to ⟨12, by decide, by decide, rfl⟩) fun _ => ev_int.to ⟨4, by decide, by decide, rfl⟩) fun d hd => ?_
  obtain ⟨n, n0, n1, rfl⟩ := hd
  refine rn_asgS (P := fun d => ∃ m, Mach m ∧ d = encM m) (ev_callX (B := TapeX T) (G := g_machine) (Pa := fun as => as = [.raw (.ref L), .dat (.int n)]) (L, S) (ea_raw rfl (ea_one (ev_var rfl) (ea_nil rfl))) fun as e => ⟨_, ⟨n, n0, n1, e, rfl⟩, fun d h => h⟩) fun d hd => ?_
  obtain ⟨m, mok, rfl⟩ := hd
  refine rn_forS (fun i ds => ∃ z, ds = [sd, .raw (.ref L), .dat (.bool b), .dat (.int n), .dat (encM m), z]) (ei_range (m := if (if (xs.length : Int) < 5 then (xs.length : Int) else 5) > 2 then (if (xs.length : Int) < 5 then (xs.length : Int) else 5) else 2) (ev_two2 (i := 2) (j := if (xs.length : Int) < 5 then (xs.length : Int) else 5) ev_int (ev_two2 (i := 5) (j := (xs.length : Int)) ev_int (ev_lenScr hs rfl) fun H Q q => ⟨_, _, rfl, q⟩) fun H Q q => ⟨_, _, rfl, q⟩) (by split <;> omega) (by split <;> (try split) <;> omega)) ⟨.emp, rfl⟩ ?_ ?_
  · rintro i ds d hi ⟨z, rfl⟩ rfl
    refine ⟨_, _, eg_name, rn_if (Pb := IsB false) (et_not1 (a := true) (et_B (ev_callX (B := TapeX T) (G := g_asked) (P := Is (.bool true)) (Pa := fun as => as = [.raw (.ref L), .dat (encM m)]) (L, S) (ea_raw rfl (ea_one (ev_var rfl) (ea_nil rfl))) fun as e => ⟨_, ⟨m, mok, e, rfl⟩, fun d h => h⟩))) (fun z => nomatch z) fun _ => rn_next ⟨_, rfl⟩⟩
  · rintro ds ⟨z, rfl⟩
    refine rn_ret1 (d := .bool true) (ev_andV (a := true) (b := true) (ev_callX (B := TapeX T) (G := g_run_by) (P := Is (.bool true)) (Pa := fun as => as = [.raw (.ref L), .dat (encM m)]) (L, S) (ea_raw rfl (ea_one (ev_var rfl) (ea_nil rfl))) fun as e => ⟨_, ⟨m, mok, e, rfl⟩, fun d h => h⟩) fun _ => (ev_orV (a := !b) (b := true) (ev_notV (ev_var rfl)) fun _ => ev_callX (B := TapeX T) (G := g_ever) (P := Is (.bool true)) (Pa := fun as => as = [.raw (.ref L)]) (L, S) (ea_raw rfl (ea_nil rfl)) fun as e => ⟨_, ⟨e, rfl⟩, fun d h => h⟩).eq (by cases b <;> rfl)) rfl
/-- a def by its body, its function object told -/
theorem fn_data {x : Str} {st : Stmt} {N ps : List Str} {k : Nat} {A : Amb} {t : TS} {f : Addr} {fd : FuncData} (F : FunD K x x (defArgs st) (defBody st) (defScope st) [] [] f fd) (S : FnScope N ps (defScope st)) (G : Gd) (hl : ∀ as P', G as P' → as.length = ps.length)
    (hp : ∀ (f : Addr) (cdv : Value) (A' : Around) (outer : List Env) (s : Shared) (H : Hp) (E : XK), Room k (Bx P w K mg base N x st f cdv A' outer s H E).A → PSs (Bx P w K mg base N x st f cdv A' outer s H E) (defBody st) t)
    (hr : ∀ as P', G as P' → Rn K A t (as ++ List.replicate (N.length - as.length) .emp) (retD P')) : FnOk P w K mg base CX0 (k + 1) f fd ps (spD K A G) := by
  refine F.ok S (fun vs H Q E h => ?_) fun cdv A' outer s H vs Q E room h => ⟨t, (hp f cdv A' outer s H E room).nox, ?_⟩
  · obtain ⟨_, as, P', g, al, _⟩ := h
    rw [al.length]
    exact hl as P' g
  · obtain ⟨i, as, P', g, al, q⟩ := h
    have n := en_start (N := N) i al
    refine hr as P' g H H _ _ n (fun es σ' H' z n' _ => q .non .none H' z n'.x0 .non) (fun v r H' z x' a => ?_) (fun _ _ _ z => z.elim) fun _ _ _ z => z.elim
    cases r with
    | inl d => exact q v d H' z x' a
    | inr es => exact (show False from z).elim
theorem fn_law (M : Hd w K mg) (tb : Tb K mg base) {f : Addr} {fd : FuncData} (F : FunD K "law" "law" (defArgs s_law) (defBody s_law) (defScope s_law) [] [] f fd) : FnOk P w K mg base CX0 134 f fd ["_law_script"] (spD K (pureA tb.T) (g_law K)) :=
  fn_data F sc_law _ (by rintro as P' ⟨xs, sd, _, rfl, rfl⟩; rfl) (fun f cdv A' o s H E r => pr_law M (q_law_tape (T := tb.T) M) (by omega) (q_pick (T := tb.T) M) (by omega) (q_law_machine (T := tb.T) M) (by omega) (q_law_asked (T := tb.T) M) (by omega) (q_law_run_by M tb) (by omega) (q_law_ever (T := tb.T) M) (by omega) f cdv A' o s H E r) r_law
end
end K87
/-! What the head's facts give. -/
namespace K87
open PySem PySem.Spec PyProof.Rows L2
section
variable {w : World} {K : PySem.W.Frag} {h : Heap} {mg : Str → Option Value}
theorem ndB_ok : ∀ {l : List Addr}, ndB l = true → l.Nodup
  | [], _ => List.nodup_nil
  | a :: r, e => by
    obtain ⟨e1, e2⟩ := He.ba (show (!(r.any fun b => Nat.beq a b) && ndB r) = true from e)
    refine List.nodup_cons.mpr ⟨fun hm => ?_, ndB_ok e2⟩
    have : (r.any fun b => Nat.beq a b) = true := List.any_eq_true.mpr ⟨a, hm, Nat.beq_refl a⟩
    rw [this] at e1
    cases e1
theorem dfn_of (KX : K.In h) (G : h.Ns mainGlobals mg) (c : He.SaysD faH fnH K) {x : Str} {st : Stmt} (i : Nat) (hd : fnH[i]? = some (dd x st)) (hg : faH[i]? = some (.glo x)) : Dfn K mg x st := by
  obtain ⟨fd, F⟩ := c.def_ i hd
  exact ⟨_, fd, He.glo_ok KX G (c.fact i hg), F⟩
theorem dfnT_of (KX : K.In h) (G : h.Ns mainGlobals mg) (c : He.SaysD faH fnH K) {x : Str} {st : Stmt} (i : Nat) (hd : fnH[i]? = some (dd x st)) (hg : faH[i]? = some (.glo x)) : DfnT K mg x st (He.cT K (x, none)).1 := by
  obtain ⟨fd, F⟩ := c.def_ i hd
  refine ⟨_, fd, He.glo_ok KX G (c.fact i hg), F, ?_⟩
  obtain ⟨oc, od, dV, kV, doc, pm, an, cdv, ct, osl, e, lk, hc, _⟩ := F.ex
  obtain ⟨cc, rfl⟩ := He.codeIn_ref hc
  have ec : fd.code = .ref cc := by rw [e]
  rw [ec, show (He.cT K (x, none)).1 = cc from He.codeOf_eq (p := (x, none)) lk ec]
theorem dk_of (KX : K.In h) (G : h.Ns mainGlobals mg) (c : He.SaysX faH fnH tsH tfH exH w h K) {x : Str} {vs : List (Str × Int)} (i j : Nat) (ht : tsH[i]? = some (fun K => He.ga K x, vs.map (·.1))) (hg : faH[j]? = some (.glo x)) (hv : He.valsB K (He.ga K x) (kvH vs) = true) : DkOk w K mg x vs := by
  obtain ⟨es, n, D⟩ := c.t.tab i ht
  refine ⟨_, es, n, He.glo_ok KX G (c.t.d.fact j hg), D, fun z i hz => ?_⟩
  obtain ⟨u, e, r⟩ := He.valsB_ok hv (q := (z, .int i)) (List.mem_map.mpr ⟨_, hz, rfl⟩)
  obtain ⟨t, rfl⟩ := r
  exact ⟨t, e⟩
theorem ex3 (c : He.SaysX faH fnH tsH tfH exH w h K) : He.valsB K (He.ga K "RANKS") (kvH v_RANKS) = true ∧ He.valsB K (He.ga K "LENGTHS") (kvH v_LENGTHS) = true ∧ He.valsB K (He.ga K "MEETINGS") (kvH v_MEETINGS) = true ∧ ndB (tfH.map fun p => (He.cT K p).2) = true := by
  have e := c.more
  obtain ⟨e, e4⟩ := He.ba e
  obtain ⟨e, e3⟩ := He.ba e
  obtain ⟨e1, e2⟩ := He.ba e
  exact ⟨e1, e2, e3, e4⟩
theorem hd_of (KX : K.In h) (G : h.Ns mainGlobals mg) (c : He.SaysX faH fnH tsH tfH exH w h K) : Hd w K mg where
  len := He.free_ok KX G (c.t.d.fact 66 (f := .free "len") rfl)
  isinstance := He.free_ok KX G (c.t.d.fact 67 (f := .free "isinstance") rfl)
  all := He.free_ok KX G (c.t.d.fact 68 (f := .free "all") rfl)
  sum := He.free_ok KX G (c.t.d.fact 69 (f := .free "sum") rfl)
  max := He.free_ok KX G (c.t.d.fact 70 (f := .free "max") rfl)
  min := He.free_ok KX G (c.t.d.fact 71 (f := .free "min") rfl)
  sorted := He.free_ok KX G (c.t.d.fact 72 (f := .free "sorted") rfl)
  enumerate := He.free_ok KX G (c.t.d.fact 73 (f := .free "enumerate") rfl)
  range := He.free_ok KX G (c.t.d.fact 74 (f := .free "range") rfl)
  int := He.free_ok KX G (c.t.d.fact 75 (f := .free "int") rfl)
  str := He.free_ok KX G (c.t.d.fact 76 (f := .free "str") rfl)
  bool := He.free_ok KX G (c.t.d.fact 77 (f := .free "bool") rfl)
  tuple := He.free_ok KX G (c.t.d.fact 78 (f := .free "tuple") rfl)
  list := He.free_ok KX G (c.t.d.fact 79 (f := .free "list") rfl)
  g_MOST_WORD := He.int_ok KX G (c.t.d.fact 80 (f := .int "MOST_WORD" c_MOST_WORD) rfl)
  g_MOST_ITEMS := He.int_ok KX G (c.t.d.fact 81 (f := .int "MOST_ITEMS" c_MOST_ITEMS) rfl)
  g_MOST_NESTED := He.int_ok KX G (c.t.d.fact 82 (f := .int "MOST_NESTED" c_MOST_NESTED) rfl)
  g_MOST_INSTRUCTIONS := He.int_ok KX G (c.t.d.fact 83 (f := .int "MOST_INSTRUCTIONS" c_MOST_INSTRUCTIONS) rfl)
  g_MOST_NUMBER := He.int_ok KX G (c.t.d.fact 84 (f := .int "MOST_NUMBER" c_MOST_NUMBER) rfl)
  g_MOST_STEPS := He.int_ok KX G (c.t.d.fact 85 (f := .int "MOST_STEPS" c_MOST_STEPS) rfl)
  g_MOST_CHOICES := He.int_ok KX G (c.t.d.fact 86 (f := .int "MOST_CHOICES" c_MOST_CHOICES) rfl)
  g_SMALL := He.str_ok KX G (c.t.d.fact 87 (f := .str "SMALL" c_SMALL) rfl)
  g_REGISTERS := He.str_ok KX G (c.t.d.fact 88 (f := .str "REGISTERS" c_REGISTERS) rfl)
  k_RANKS := dk_of KX G c 0 63 rfl rfl (ex3 c).1
  k_LENGTHS := dk_of KX G c 1 64 rfl rfl (ex3 c).2.1
  k_MEETINGS := dk_of KX G c 2 65 rfl rfl (ex3 c).2.2.1
  d_is_integer := dfn_of KX G c.t.d 0 rfl rfl
  d_is_within := dfn_of KX G c.t.d 1 rfl rfl
  d_is_pair := dfn_of KX G c.t.d 2 rfl rfl
  d_is_triple := dfn_of KX G c.t.d 3 rfl rfl
  d_is_listed := dfn_of KX G c.t.d 4 rfl rfl
  d_is_word := dfn_of KX G c.t.d 5 rfl rfl
  d_is_door := dfn_of KX G c.t.d 6 rfl rfl
  d_is_part := dfn_of KX G c.t.d 7 rfl rfl
  d_is_plan_in := dfn_of KX G c.t.d 8 rfl rfl
  d_check_plan := dfn_of KX G c.t.d 9 rfl rfl
  d_check_count := dfn_of KX G c.t.d 10 rfl rfl
  d_part_key := dfn_of KX G c.t.d 11 rfl rfl
  d_plan_key := dfn_of KX G c.t.d 12 rfl rfl
  d_sorted_items := dfn_of KX G c.t.d 13 rfl rfl
  d_parts_within := dfn_of KX G c.t.d 14 rfl rfl
  d_items_in := dfn_of KX G c.t.d 15 rfl rfl
  d_nesting := dfn_of KX G c.t.d 16 rfl rfl
  d_check_room := dfn_of KX G c.t.d 17 rfl rfl
  d_roomy := dfn_of KX G c.t.d 18 rfl rfl
  d_gots_at := dfn_of KX G c.t.d 19 rfl rfl
  d_mapped := dfn_of KX G c.t.d 20 rfl rfl
  d_raised := dfn_of KX G c.t.d 21 rfl rfl
  d_brought := dfn_of KX G c.t.d 22 rfl rfl
  d_roomy_brought := dfn_of KX G c.t.d 23 rfl rfl
  d_bound_to := dfn_of KX G c.t.d 24 rfl rfl
  d_folded := dfn_of KX G c.t.d 25 rfl rfl
  d_plain_of := dfn_of KX G c.t.d 26 rfl rfl
  d_is_instruction := dfn_of KX G c.t.d 27 rfl rfl
  d_is_machine := dfn_of KX G c.t.d 28 rfl rfl
  d_is_standing := dfn_of KX G c.t.d 29 rfl rfl
  d_check_machine := dfn_of KX G c.t.d 30 rfl rfl
  d_check_both := dfn_of KX G c.t.d 31 rfl rfl
  d_behind_step := dfn_of KX G c.t.d 32 rfl rfl
  d_done := dfn_of KX G c.t.d 33 rfl rfl
  d_told_steps := dfn_of KX G c.t.d 34 rfl rfl
  d_word_of := dfn_of KX G c.t.d 35 rfl rfl
  d_letter_of := dfn_of KX G c.t.d 36 rfl rfl
  d_wait_of := dfn_of KX G c.t.d 37 rfl rfl
  d_going_of := dfn_of KX G c.t.d 38 rfl rfl
  d_number_plan := dfn_of KX G c.t.d 39 rfl rfl
  d_doing_of := dfn_of KX G c.t.d 40 rfl rfl
  d_raw_plan := dfn_of KX G c.t.d 41 rfl rfl
  d_plan_of := dfn_of KX G c.t.d 42 rfl rfl
  d_number_in := dfn_of KX G c.t.d 43 rfl rfl
  d_standing_of := dfn_of KX G c.t.d 44 rfl rfl
  d_meetings_of := dfn_of KX G c.t.d 45 rfl rfl
  d_without := dfn_of KX G c.t.d 46 rfl rfl
  d_met_of := dfn_of KX G c.t.d 47 rfl rfl
  d_check_choices := dfn_of KX G c.t.d 48 rfl rfl
  d_run := dfn_of KX G c.t.d 49 rfl rfl
  d__law_tape := dfn_of KX G c.t.d 50 rfl rfl
  d__law_pick := dfn_of KX G c.t.d 51 rfl rfl
  d__law_machine := dfn_of KX G c.t.d 52 rfl rfl
  d__law_standing := dfn_of KX G c.t.d 53 rfl rfl
  d__law_next := dfn_of KX G c.t.d 54 rfl rfl
  d__law_same := dfn_of KX G c.t.d 55 rfl rfl
  d__law_due := dfn_of KX G c.t.d 56 rfl rfl
  d__law_great := dfn_of KX G c.t.d 57 rfl rfl
  d__law_asked := dfn_of KX G c.t.d 58 rfl rfl
  d__law_run_by := dfn_of KX G c.t.d 59 rfl rfl
  d__law_sorts := dfn_of KX G c.t.d 60 rfl rfl
  d__law_for_ever := dfn_of KX G c.t.d 61 rfl rfl
  d_law := dfn_of KX G c.t.d 62 rfl rfl
/-- the tables of the defs that make functions -/
def tbH (KX : K.In h) (G : h.Ns mainGlobals mg) (c : He.SaysX faH fnH tsH tfH exH w h K) {base : Heap} (hb : ∀ p ∈ tfH.map (He.cT K), LamX.TabB base mg p.1 p.2) : Tb K mg base where
  cS := (He.cT K ("sorted_items", none)).1
  pS := (He.cT K ("sorted_items", none)).2
  cR := (He.cT K ("raised", none)).1
  pR := (He.cT K ("raised", none)).2
  cB := (He.cT K ("brought", none)).1
  pB := (He.cT K ("brought", none)).2
  cM := (He.cT K ("bound_to", none)).1
  pM := (He.cT K ("bound_to", none)).2
  tS := hb _ (List.mem_map.mpr ⟨("sorted_items", none), by unfold tfH; simp, rfl⟩)
  tR := hb _ (List.mem_map.mpr ⟨("raised", none), by unfold tfH; simp, rfl⟩)
  tB := hb _ (List.mem_map.mpr ⟨("brought", none), by unfold tfH; simp, rfl⟩)
  tM := hb _ (List.mem_map.mpr ⟨("bound_to", none), by unfold tfH; simp, rfl⟩)
  nd := ndB_ok (ex3 c).2.2.2
  dS := dfnT_of KX G c.t.d 13 rfl rfl
  dR := dfnT_of KX G c.t.d 21 rfl rfl
  dB := dfnT_of KX G c.t.d 22 rfl rfl
  dM := dfnT_of KX G c.t.d 24 rfl rfl
end
end K87
set_option maxHeartbeats 0
/-! The law's end. -/
namespace K87
open PySem PySem.Spec PyProof.Rows L2
def TH (K : PySem.W.Frag) : List (Addr × Str) := [((He.cT K ("sorted_items", none)).2, qS), ((He.cT K ("raised", none)).2, qR), ((He.cT K ("brought", none)).2, qB), ((He.cT K ("bound_to", none)).2, qM)]
theorem law_at {w : World} {K : PySem.W.Frag} {h : Heap} {mg : Str → Option Value} {fa : Addr} (KX : K.In h) (G : h.Ns mainGlobals mg) (c : He.SaysX faH fnH tsH tfH exH w h K) (hfa : mg ("law" : Str) = some (.ref fa)) :
    LamX.LawAtS PySem.Challenge.rw_sealedplans_k87_whole_steps_told_of_meet w K CX0 134 63 "_law_script" mg fa h := by
  obtain ⟨fd, F⟩ := c.t.d.def_ 62 (d := dd "law" s_law) rfl
  have e := hfa.symm.trans (He.glo_ok KX G (c.t.d.fact 62 (f := .glo "law") rfl))
  cases e
  have b := FunD.bindsA (ps := ["_law_script"]) F fun _ _ _ _ _ _ us hl => match us, hl with | [_], _ => rfl
  refine ⟨fd, tfH.map (He.cT K), spD K (pureA (TH K)) (g_law K), fun p hp => ?_, fun p hp => ?_, fun p hp => ?_, fun s u => b s [u] rfl, fun H a ns hl hbits hT hS => ?_, fun base KB GB hB => ?_⟩
  · obtain ⟨q, hq, rfl⟩ := List.mem_map.mp hp
    exact c.empty q hq
  · obtain ⟨q, hq, rfl⟩ := List.mem_map.mp hp
    exact c.out q hq
  · obtain ⟨q, hq, rfl⟩ := List.mem_map.mp hp
    exact PySem.W.codeHd_of_K KX (c.hd q hq)
  · have inv : (pureA (TH K)).inv H := fun q hq => by
      have hm : ∃ p ∈ tfH.map (He.cT K), p.2 = q.1 := by
        unfold TH at hq
        simp only [List.mem_cons, List.not_mem_nil, or_false] at hq
        rcases hq with rfl | rfl | rfl | rfl
        · exact ⟨_, List.mem_map.mpr ⟨("sorted_items", none), by unfold tfH; simp, rfl⟩, rfl⟩
        · exact ⟨_, List.mem_map.mpr ⟨("raised", none), by unfold tfH; simp, rfl⟩, rfl⟩
        · exact ⟨_, List.mem_map.mpr ⟨("brought", none), by unfold tfH; simp, rfl⟩, rfl⟩
        · exact ⟨_, List.mem_map.mpr ⟨("bound_to", none), by unfold tfH; simp, rfl⟩, rfl⟩
      obtain ⟨p, hp, ep⟩ := hm
      exact LamX.TabS.nil (by rw [← ep]; exact hT p hp)
    have fin : ∀ v d H', d = PyData.bool true → Xt (pureA (TH K)) H H' → At K H' v d → v = .bl true := fun v d H' e _ a => by
      subst e
      cases a
      rfl
    rcases hS with r | z
    · exact ⟨inv, [.lst (ns.map .int)], Is (.bool true), ⟨ns, _, .inl rfl, rfl, rfl⟩, .cons ⟨a, _, rfl, List.not_mem_nil, r, AtAll.of_ints ns⟩ .nil, fin⟩
    · exact ⟨inv, [.raw (.ref a)], Is (.bool true), ⟨ns, _, .inr ⟨a, rfl, fun H' => .inr z⟩, rfl, rfl⟩, .cons rfl .nil, fin⟩
  · exact fn_law (P := (PySem.Challenge.rw_sealedplans_k87_whole_steps_told_of_meet).prog) (hd_of KX G c) (tbH KX G c hB) F
end K87
open PySem PySem.W PySem.Calls PyProof.Rows
theorem PySem.Challenge.cw_sealedplans_k87_whole_steps_told_of_meet_holds : PySem.Challenge.rw_sealedplans_k87_whole_steps_told_of_meet.Holds := by
  w_on; o_law
  refine HandSHeadRun.head_any (r := K87.RH) (q := K87.qvH) (H := K87.hkH) (ob := K87.obH) (M := 20000) (loose := K87.looseH) (d := HandSHeadRun.topDef K87.RH.prog 90) (kwd := []) K87.obH_eq
    (by kernel_rfl) (fun s => by kernel_rfl) K87.headRun (by kernel_rfl) (by kernel_rfl) (by kernel_rfl) (by rfl) (by first | assumption | decide +kernel) (by decide +kernel) ⟨rfl, rfl, rfl, rfl, rfl, by decide +kernel⟩ ?hw ?hc
  case hw => w_witness2
  case hc =>
    refine LamX.walk_ofTsE (l := PySem.Challenge.rw_sealedplans_k87_whole_steps_told_of_meet) (n := 63) (k := 134) (x := "_law_script") (CX := fun _ => L2.CX0) rfl (by decide) (by kernel_rfl) ⟨rfl, by decide, by decide⟩ ?F (fun _ _ _ _ _ z => z)
    intro w mg fa h Y G hmg0
    obtain ⟨K, KX, c⟩ := Y
    have hmg : mg ("law" : PySem.Str) = some (.ref fa) := by
      have e : (HandSHeadRun.topDef K87.RH.prog 90).name = ("law" : PySem.Str) := by kernel_rfl
      rw [← e]
      exact hmg0
    exact ⟨K, KX, K87.law_at KX G c hmg⟩
