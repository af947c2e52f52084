import PyProof.Rows.All
import Wide.All
import OpenK.AllK
import Wide.FinOn
import HandS.ForMost
import HandS.DictComp
import HandS.Zip
import HandS.Property
import HandS.IsInst
import HandS.OwnEq
import HandS.Defaults
import HandS.Conv
import HandS.Style
import HandS.Flow
import HandS.SortOrd
import HandS.TupLe
import HandS.TupAny
import HandS.More
import HandS.Wide
import HandS.StrMore
import KE.SortKeyed
import KE.DataEq
import PySem.Challenge.RW_humphollow_k89_whole_gluing_keeps_what_c
import HandS.MakeKwOnly
import HandS.Head0
import HandS.Head1
import HandS.Head2
import HandS.HeadEnd
import HandS.HeadHook1
import HandS.HeadHook2
import HandS.HeadHook4
import HandS.Words
import HandS.WordsExc
set_option Elab.async false
set_option linter.all false
set_option maxRecDepth 100000
set_option maxHeartbeats 0
/-! text VLa -/
/-! VLa: data, what stands for it in the abstract heap, slots. -/
namespace VL
open PySem PySem.Spec PyProof.Rows L2
/-- a datum -/
inductive D where
  | non | bl (b : Bool) | int (i : Int) | str (x : Str)
  | lst (xs : List D) | tup (xs : List D)
  | dic (ks : List Str) (vs : List D)
  | obj (C : Addr) (fs : List Str) (vs : List D)
  | sto
abbrev Set_ := Addr → Prop
def kz (ks : List Str) (vs : List V) : List (Key × V) := (ks.map Sum.inr).zip vs
mutual
/-- v stands for the datum in H, its objects off A; st: where the store is -/
def At (st : Option (Addr × Addr)) (A : Set_) (H : Hp) : V → D → Prop
  | v, .non => v = .non
  | v, .bl b => v = .bl b
  | v, .int i => v = .int i
  | v, .str x => v = .str x
  | v, .lst ds => ∃ a vs, v = .ref a ∧ ¬ A a ∧ H a = some (.lst vs) ∧ AtAll st A H vs ds
  | v, .tup ds => ∃ a vs, v = .ref a ∧ ¬ A a ∧ H a = some (.tup vs) ∧ AtAll st A H vs ds
  | v, .dic ks ds => ∃ a vs, v = .ref a ∧ ¬ A a ∧ Rd H a (.dK (kz ks vs)) ∧ ks.length = ds.length ∧ AtAll st A H vs ds
  | v, .obj C fs ds => ∃ a dx vs, v = .ref a ∧ ¬ A a ∧ H a = some (.ins C dx (fs.zip vs)) ∧ fs.length = ds.length ∧ AtAll st A H vs ds
  | v, .sto => ∃ s c, st = some (s, c) ∧ v = .ref s
def AtAll (st : Option (Addr × Addr)) (A : Set_) (H : Hp) : List V → List D → Prop
  | vs, [] => vs = []
  | vs, d :: ds => ∃ x r, vs = x :: r ∧ At st A H x d ∧ AtAll st A H r ds
end
/-- H' has all of H but what M may have changed; nothing is lost -/
structure Fr (M : Set_) (H H' : Hp) : Prop where
  keep : ∀ b o, ¬ M b → H b = some o → H' b = some o
  dom : ∀ b, H' b = none → H b = none
theorem Fr.refl {M : Set_} {H : Hp} : Fr M H H := ⟨fun _ _ _ h => h, fun _ h => h⟩
theorem Fr.trans {M : Set_} {H H1 H2 : Hp} (a : Fr M H H1) (b : Fr M H1 H2) : Fr M H H2 := ⟨fun c o m h => b.keep c o m (a.keep c o m h), fun c h => a.dom c (b.dom c h)⟩
theorem Fr.weak {M N : Set_} {H H1 : Hp} (a : Fr M H H1) (h : ∀ x, M x → N x) : Fr N H H1 := ⟨fun c o m q => a.keep c o (fun z => m (h c z)) q, a.dom⟩
theorem Fr.new {M : Set_} {H : Hp} {p : Addr} {o : HO} (h : H p = none) : Fr M H (upd H p o) := ⟨fun b u _ e => by rw [upd_ne (ne_of_none e h)]; exact e, fun b e => by
  by_cases q : b = p
  · rw [q]; exact h
  · rw [upd_ne q] at e; exact e⟩
theorem Fr.set {M : Set_} {H : Hp} {p : Addr} {o : HO} (h : M p) : Fr M H (upd H p o) := ⟨fun b u m e => by rw [upd_ne (fun q => m (by rw [q]; exact h))]; exact e, fun b e => by
  by_cases q : b = p
  · rw [q, upd_same] at e; cases e
  · rw [upd_ne q] at e; exact e⟩
theorem Fr.rd {M : Set_} {H H1 : Hp} (f : Fr M H H1) {a : Addr} {u : HO} (hm : ¬ M a) (h : Rd H a u) : Rd H1 a u := by
  rcases h with h | ⟨o, h⟩
  · exact .inl (f.keep _ _ hm h)
  · exact .inr ⟨o, f.keep _ _ hm h⟩
theorem rd_live {H : Hp} {a : Addr} {u : HO} (h : Rd H a u) : H a ≠ none := by
  rcases h with h | ⟨o, h⟩ <;> rw [h] <;> simp
theorem Fr.live {M : Set_} {H H1 : Hp} (a : Fr M H H1) {x : Addr} (h : H x ≠ none) : H1 x ≠ none := fun z => h (a.dom x z)
section
variable {st : Option (Addr × Addr)} {A A' M : Set_} {H H' : Hp}
mutual
theorem At.step (f : Fr M H H') (hm : ∀ a, M a → A a) : ∀ {d : D} {v : V}, At st A H v d → At st A H' v d
  | .non, _, h => by simp only [At] at h ⊢; exact h
  | .bl _, _, h => by simp only [At] at h ⊢; exact h
  | .int _, _, h => by simp only [At] at h ⊢; exact h
  | .str _, _, h => by simp only [At] at h ⊢; exact h
  | .lst ds, _, h => by
    simp only [At] at h ⊢
    obtain ⟨a, vs, e, na, ha, hs⟩ := h
    exact ⟨a, vs, e, na, f.keep a _ (fun z => na (hm a z)) ha, AtAll.step f hm hs⟩
  | .tup ds, _, h => by
    simp only [At] at h ⊢
    obtain ⟨a, vs, e, na, ha, hs⟩ := h
    exact ⟨a, vs, e, na, f.keep a _ (fun z => na (hm a z)) ha, AtAll.step f hm hs⟩
  | .dic ks ds, _, h => by
    simp only [At] at h ⊢
    obtain ⟨a, vs, e, na, ha, hl, hs⟩ := h
    exact ⟨a, vs, e, na, f.rd (fun z => na (hm a z)) ha, hl, AtAll.step f hm hs⟩
  | .obj C fs ds, _, h => by
    simp only [At] at h ⊢
    obtain ⟨a, dx, vs, e, na, ha, hl, hs⟩ := h
    exact ⟨a, dx, vs, e, na, f.keep a _ (fun z => na (hm a z)) ha, hl, AtAll.step f hm hs⟩
  | .sto, _, h => by simp only [At] at h ⊢; exact h
theorem AtAll.step (f : Fr M H H') (hm : ∀ a, M a → A a) : ∀ {ds : List D} {vs : List V}, AtAll st A H vs ds → AtAll st A H' vs ds
  | [], _, h => by simp only [AtAll] at h ⊢; exact h
  | d :: ds, _, h => by
    simp only [AtAll] at h ⊢
    obtain ⟨x, r, e, h1, h2⟩ := h
    exact ⟨x, r, e, At.step f hm h1, AtAll.step f hm h2⟩
end
mutual
theorem At.off (hm : ∀ a, A' a → A a ∨ H a = none) : ∀ {d : D} {v : V}, At st A H v d → At st A' H v d
  | .non, _, h => by simp only [At] at h ⊢; exact h
  | .bl _, _, h => by simp only [At] at h ⊢; exact h
  | .int _, _, h => by simp only [At] at h ⊢; exact h
  | .str _, _, h => by simp only [At] at h ⊢; exact h
  | .lst ds, _, h => by
    simp only [At] at h ⊢
    obtain ⟨a, vs, e, na, ha, hs⟩ := h
    exact ⟨a, vs, e, fun z => (hm a z).elim na (fun q => by rw [q] at ha; cases ha), ha, AtAll.off hm hs⟩
  | .tup ds, _, h => by
    simp only [At] at h ⊢
    obtain ⟨a, vs, e, na, ha, hs⟩ := h
    exact ⟨a, vs, e, fun z => (hm a z).elim na (fun q => by rw [q] at ha; cases ha), ha, AtAll.off hm hs⟩
  | .dic ks ds, _, h => by
    simp only [At] at h ⊢
    obtain ⟨a, vs, e, na, ha, hl, hs⟩ := h
    exact ⟨a, vs, e, fun z => (hm a z).elim na (fun q => rd_live ha q), ha, hl, AtAll.off hm hs⟩
  | .obj C fs ds, _, h => by
    simp only [At] at h ⊢
    obtain ⟨a, dx, vs, e, na, ha, hl, hs⟩ := h
    exact ⟨a, dx, vs, e, fun z => (hm a z).elim na (fun q => by rw [q] at ha; cases ha), ha, hl, AtAll.off hm hs⟩
  | .sto, _, h => by simp only [At] at h ⊢; exact h
theorem AtAll.off (hm : ∀ a, A' a → A a ∨ H a = none) : ∀ {ds : List D} {vs : List V}, AtAll st A H vs ds → AtAll st A' H vs ds
  | [], _, h => by simp only [AtAll] at h ⊢; exact h
  | d :: ds, _, h => by
    simp only [AtAll] at h ⊢
    obtain ⟨x, r, e, h1, h2⟩ := h
    exact ⟨x, r, e, At.off hm h1, AtAll.off hm h2⟩
end
theorem AtAll.length : ∀ {ds : List D} {vs : List V}, AtAll st A H vs ds → vs.length = ds.length
  | [], _, h => by simp only [AtAll] at h; rw [h]; rfl
  | d :: ds, _, h => by
    simp only [AtAll] at h
    obtain ⟨x, r, e, h1, h2⟩ := h
    rw [e, List.length_cons, List.length_cons, AtAll.length h2]
theorem AtAll.get : ∀ {ds : List D} {vs : List V} {i : Nat} {d : D}, AtAll st A H vs ds → ds[i]? = some d → ∃ v, vs[i]? = some v ∧ At st A H v d
  | [], _, _, _, _, e => by simp at e
  | c :: ds, _, 0, d, h, e => by
    simp only [AtAll] at h
    obtain ⟨x, r, e1, h1, h2⟩ := h
    simp at e; subst e; subst e1
    exact ⟨x, rfl, h1⟩
  | c :: ds, _, i + 1, d, h, e => by
    simp only [AtAll] at h
    obtain ⟨x, r, e1, h1, h2⟩ := h
    subst e1
    obtain ⟨v, q1, q2⟩ := AtAll.get h2 (i := i) (d := d) (by simpa using e)
    exact ⟨v, by simpa using q1, q2⟩
theorem AtAll.getV {ds : List D} {vs : List V} {i : Nat} {v : V} (h : AtAll st A H vs ds) (e : vs[i]? = some v) : ∃ d, ds[i]? = some d ∧ At st A H v d := by
  have hl := h.length
  have hi : i < ds.length := by rw [← hl]; exact (List.getElem?_eq_some_iff.mp e).1
  obtain ⟨w, q1, q2⟩ := h.get (i := i) (d := ds[i]) (by simp [hi])
  rw [e] at q1
  cases q1
  exact ⟨ds[i], by simp [hi], q2⟩
theorem AtAll.app : ∀ {ds es : List D} {vs us : List V}, AtAll st A H vs ds → AtAll st A H us es → AtAll st A H (vs ++ us) (ds ++ es)
  | [], _, _, _, h, k => by simp only [AtAll] at h; rw [h]; exact k
  | d :: ds, _, _, _, h, k => by
    simp only [AtAll] at h
    obtain ⟨x, r, e, h1, h2⟩ := h
    rw [e]
    show AtAll st A H (x :: (r ++ _)) (d :: (ds ++ _))
    simp only [AtAll]
    exact ⟨x, _, rfl, h1, h2.app k⟩
theorem AtAll.one {v : V} {d : D} (h : At st A H v d) : AtAll st A H [v] [d] := by
  simp only [AtAll]
  exact ⟨v, [], rfl, h, rfl⟩
theorem AtAll.mk {v : V} {d : D} {vs : List V} {ds : List D} (h : At st A H v d) (k : AtAll st A H vs ds) : AtAll st A H (v :: vs) (d :: ds) := by
  simp only [AtAll]
  exact ⟨v, vs, rfl, h, k⟩
theorem AtAll.uncons {d : D} {vs : List V} {ds : List D} (h : AtAll st A H vs (d :: ds)) : ∃ x r, vs = x :: r ∧ At st A H x d ∧ AtAll st A H r ds := by
  simp only [AtAll] at h
  exact h
theorem AtAll.nil : AtAll st A H [] [] := by simp only [AtAll]
theorem AtAll.nil_of {vs : List V} (h : AtAll st A H vs []) : vs = [] := by simp only [AtAll] at h; exact h
theorem AtAll.of_get {vs : List V} {ds : List D} (hl : vs.length = ds.length) (h : ∀ (i : Nat) v d, vs[i]? = some v → ds[i]? = some d → At st A H v d) : AtAll st A H vs ds := by
  induction ds generalizing vs with
  | nil => simp only [AtAll]; exact List.length_eq_zero_iff.mp hl
  | cons d ds ih =>
    cases vs with
    | nil => simp at hl
    | cons v vs => exact .mk (h 0 v d rfl rfl) (ih (by simpa using hl) fun i v' d' e1 e2 => h (i + 1) v' d' (by simpa using e1) (by simpa using e2))
theorem AtAll.drop {ds : List D} {vs : List V} (h : AtAll st A H vs ds) (n : Nat) : AtAll st A H (vs.drop n) (ds.drop n) :=
  .of_get (by rw [List.length_drop, List.length_drop, h.length]) fun i v d e1 e2 => by
    rw [List.getElem?_drop] at e1 e2
    obtain ⟨w, q1, q2⟩ := h.get e2
    rw [e1] at q1
    cases q1
    exact q2
theorem AtAll.take {ds : List D} {vs : List V} (h : AtAll st A H vs ds) (n : Nat) : AtAll st A H (vs.take n) (ds.take n) :=
  .of_get (by rw [List.length_take, List.length_take, h.length]) fun i v d e1 e2 => by
    rw [List.getElem?_take] at e1 e2
    split at e1
    · rename_i hn
      rw [if_pos hn] at e2
      obtain ⟨w, q1, q2⟩ := h.get e2
      rw [e1] at q1
      cases q1
      exact q2
    · cases e1
theorem AtAll.set {ds : List D} {vs : List V} (h : AtAll st A H vs ds) (n : Nat) {v : V} {d : D} (hv : At st A H v d) : AtAll st A H (vs.set n v) (ds.set n d) :=
  .of_get (by rw [List.length_set, List.length_set, h.length]) fun i w e e1 e2 => by
    rw [List.getElem?_set] at e1 e2
    split at e1
    · rename_i hn
      rw [if_pos hn] at e2
      split at e1
      · rename_i hl
        rw [if_pos (by rw [← h.length]; exact hl)] at e2
        cases e1
        cases e2
        exact hv
      · cases e1
    · rename_i hn
      rw [if_neg hn] at e2
      obtain ⟨w', q1, q2⟩ := h.get e2
      rw [e1] at q1
      cases q1
      exact q2
theorem AtAll.reverse {ds : List D} {vs : List V} (h : AtAll st A H vs ds) : AtAll st A H vs.reverse ds.reverse := by
  induction ds generalizing vs with
  | nil => rw [h.nil_of]; exact .nil
  | cons d ds ih =>
    obtain ⟨x, r, rfl, h1, h2⟩ := h.uncons
    rw [List.reverse_cons, List.reverse_cons]
    exact (ih h2).app (.one h1)
/-- what is told without a heap -/
def imm : D → Option V
  | .non => some .non
  | .bl b => some (.bl b)
  | .int i => some (.int i)
  | .str x => some (.str x)
  | _ => none
theorem At.imm {v x : V} {d : D} (h : At st A H v d) (e : imm d = some x) : v = x := by
  cases d <;> simp only [VL.imm, Option.some.injEq, reduceCtorEq] at e <;> simp only [At] at h <;> rw [h, ← e]
theorem At.ofImm {x : V} {d : D} (e : VL.imm d = some x) : At st A H x d := by
  cases d <;> simp only [VL.imm, Option.some.injEq, reduceCtorEq] at e <;> simp only [At] <;> rw [← e]
theorem at_int {i : Int} : At st A H (.int i) (.int i) := At.ofImm rfl
theorem at_str {i : Str} : At st A H (.str i) (.str i) := At.ofImm rfl
theorem at_bl {i : Bool} : At st A H (.bl i) (.bl i) := At.ofImm rfl
theorem at_non : At st A H .non .non := At.ofImm rfl
theorem AtAll.ofImms {α : Type} {f : α → D} {g : α → V} (hf : ∀ x, VL.imm (f x) = some (g x)) : ∀ xs : List α, AtAll st A H (xs.map g) (xs.map f)
  | [] => .nil
  | x :: xs => .mk (.ofImm (hf x)) (AtAll.ofImms hf xs)
theorem AtAll.imms {α : Type} {f : α → D} {g : α → V} (hf : ∀ x, VL.imm (f x) = some (g x)) : ∀ {xs : List α} {vs : List V}, AtAll st A H vs (xs.map f) → vs = xs.map g
  | [], _, h => h.nil_of
  | x :: xs, _, h => by
    obtain ⟨v, r, rfl, h1, h2⟩ := AtAll.uncons (d := f x) (ds := xs.map f) h
    rw [List.map_cons, h1.imm (hf x), AtAll.imms hf h2]
end
/-! ### the store: a list at s, its cells at c -/
def StoreAt (H : Hp) (s c : Addr) : Prop := ∃ (i r n z : Int) (ns : List Int), H s = some (.lst [.ref c, .int i, .int r, .int n, .int z]) ∧ H c = some (.lst (ns.map V.int)) ∧ 0 ≤ i ∧ ns.length ≤ 63
def HI (st : Option (Addr × Addr)) (H : Hp) : Prop := match st with
  | none => True
  | some (s, c) => StoreAt H s c
def isSt (st : Option (Addr × Addr)) : Set_ := fun a => ∃ s c, st = some (s, c) ∧ a = s
def inSt (st : Option (Addr × Addr)) : Set_ := fun a => ∃ s c, st = some (s, c) ∧ (a = s ∨ a = c)
theorem inSt.of {st : Option (Addr × Addr)} {a : Addr} (h : isSt st a) : inSt st a := by
  obtain ⟨s, c, e, q⟩ := h
  exact ⟨s, c, e, .inl q⟩
theorem HI.off {st : Option (Addr × Addr)} {H H' : Hp} {M : Set_} (h : HI st H) (f : Fr M H H') (hm : ∀ a, M a → ¬ inSt st a) : HI st H' := by
  cases st with
  | none => trivial
  | some p =>
    obtain ⟨s, c⟩ := p
    obtain ⟨i, r, n, z, ns, h1, h2, h3, h4⟩ := h
    exact ⟨i, r, n, z, ns, f.keep _ _ (fun m => hm s m ⟨s, c, rfl, .inl rfl⟩) h1, f.keep _ _ (fun m => hm c m ⟨s, c, rfl, .inr rfl⟩) h2, h3, h4⟩
theorem HI.live {st : Option (Addr × Addr)} {H : Hp} (h : HI st H) {a : Addr} (m : inSt st a) : H a ≠ none := by
  obtain ⟨s, c, rfl, q⟩ := m
  obtain ⟨i, r, n, z, ns, h1, h2, h3, h4⟩ := h
  rcases q with q | q
  · rw [q, h1]; simp
  · rw [q, h2]; simp
theorem HI.new {st : Option (Addr × Addr)} {H : Hp} {p : Addr} {o : HO} (h : HI st H) (hp : H p = none) : HI st (upd H p o) :=
  h.off (M := fun _ => False) (Fr.new hp) fun _ z => z.elim
/-- what an expression may have done to the heap -/
structure Fx (st : Option (Addr × Addr)) (H H' : Hp) : Prop where
  fr : Fr (isSt st) H H'
  hi : HI st H'
theorem Fx.trans {st : Option (Addr × Addr)} {H H1 H2 : Hp} (a : Fx st H H1) (b : Fx st H1 H2) : Fx st H H2 := ⟨a.fr.trans b.fr, b.hi⟩
theorem Fx.refl {st : Option (Addr × Addr)} {H : Hp} (h : HI st H) : Fx st H H := ⟨.refl, h⟩
theorem Fx.new {st : Option (Addr × Addr)} {H : Hp} {p : Addr} {o : HO} (h : HI st H) (hp : H p = none) : Fx st H (upd H p o) := ⟨Fr.new hp, h.new hp⟩
end VL
/-! text VLb -/
/-! VLb: slots, the judgements at data, names, displays, operators, calls. -/
namespace VL
open PySem PySem.Spec PyProof.Rows L2
abbrev Sto := Option (Addr × Addr)
inductive Sl where
  | no | sh (d : D) | bo (d : D) | ow (d : D)
abbrev Ga := List Sl
structure Foot where
  N : Set_
  A : Set_
  L : Set_
def OwnAt (st : Sto) (A : Set_) (H : Hp) (l : Addr) : D → Prop
  | .lst ds => ∃ vs, H l = some (.lst vs) ∧ AtAll st A H vs ds
  | .dic ks ds => ∃ vs, H l = some (.dK (kz ks vs)) ∧ ks.length = ds.length ∧ AtAll st A H vs ds
  | .obj C fs ds => ∃ dx vs, H l = some (.ins C dx (fs.zip vs)) ∧ fs.length = ds.length ∧ AtAll st A H vs ds
  | _ => False
theorem OwnAt.step {st : Sto} {A M : Set_} {H H' : Hp} {l : Addr} {d : D} (f : Fr M H H') (hm : ∀ a, M a → A a) (hl : ¬ M l) (h : OwnAt st A H l d) : OwnAt st A H' l d := by
  cases d with
  | lst ds => obtain ⟨vs, h1, h2⟩ := h; exact ⟨vs, f.keep _ _ hl h1, h2.step f hm⟩
  | dic ks ds => obtain ⟨vs, h1, h3, h2⟩ := h; exact ⟨vs, f.keep _ _ hl h1, h3, h2.step f hm⟩
  | obj C fs ds => obtain ⟨dx, vs, h1, h3, h2⟩ := h; exact ⟨dx, vs, f.keep _ _ hl h1, h3, h2.step f hm⟩
  | _ => exact h.elim
theorem OwnAt.off {st : Sto} {A A' : Set_} {H : Hp} {l : Addr} {d : D} (hm : ∀ a, A' a → A a ∨ H a = none) (h : OwnAt st A H l d) : OwnAt st A' H l d := by
  cases d with
  | lst ds => obtain ⟨vs, h1, h2⟩ := h; exact ⟨vs, h1, h2.off hm⟩
  | dic ks ds => obtain ⟨vs, h1, h3, h2⟩ := h; exact ⟨vs, h1, h3, h2.off hm⟩
  | obj C fs ds => obtain ⟨dx, vs, h1, h3, h2⟩ := h; exact ⟨dx, vs, h1, h3, h2.off hm⟩
  | _ => exact h.elim
theorem OwnAt.at_ {st : Sto} {A : Set_} {H : Hp} {l : Addr} {d : D} (h : OwnAt st A H l d) (hl : ¬ A l) : At st A H (.ref l) d := by
  cases d with
  | lst ds => obtain ⟨vs, h1, h2⟩ := h; simp only [At]; exact ⟨l, vs, rfl, hl, h1, h2⟩
  | dic ks ds => obtain ⟨vs, h1, h3, h2⟩ := h; simp only [At]; exact ⟨l, vs, rfl, hl, .inl h1, h3, h2⟩
  | obj C fs ds => obtain ⟨dx, vs, h1, h3, h2⟩ := h; simp only [At]; exact ⟨l, dx, vs, rfl, hl, h1, h3, h2⟩
  | _ => exact h.elim
theorem OwnAt.live {st : Sto} {A : Set_} {H : Hp} {l : Addr} {d : D} (h : OwnAt st A H l d) : H l ≠ none := by
  cases d with
  | lst ds => obtain ⟨vs, h1, h2⟩ := h; rw [h1]; simp
  | dic ks ds => obtain ⟨vs, h1, h3, h2⟩ := h; rw [h1]; simp
  | obj C fs ds => obtain ⟨dx, vs, h1, h3, h2⟩ := h; rw [h1]; simp
  | _ => exact h.elim
def pl (A : Set_) (p : Addr) : Set_ := fun a => A a ∨ a = p
/-- seen, not to be kept -/
def AtB (st : Sto) (A : Set_) (H : Hp) (v : V) (d : D) : Prop := At st A H v d ∨ ∃ l, v = .ref l ∧ (¬ inSt st l ∧ A l) ∧ OwnAt st A H l d
def SlAt (st : Sto) (F : Foot) (H : Hp) : Option V → Sl → Prop
  | _, .no => True
  | v, .sh d => ∃ x, v = some x ∧ At st F.A H x d
  | v, .bo d => ∃ x, v = some x ∧ (At st F.A H x d ∨ ∃ l, x = .ref l ∧ ¬ F.N l ∧ (¬ F.L l ∧ F.A l) ∧ OwnAt st F.A H l d)
  | v, .ow d => ∃ l, v = some (.ref l) ∧ F.L l ∧ OwnAt st F.A H l d
structure FOk (st : Sto) (F : Foot) (H : Hp) : Prop where
  ln : ∀ a, F.L a → ¬ F.N a
  la : ∀ a, F.L a → F.A a
  na : ∀ a, F.N a → F.A a
  sn : ∀ a, inSt st a → F.N a
  live : ∀ a, F.A a → H a ≠ none
  hi : HI st H
structure EI (st : Sto) (F : Foot) (G : Ga) (σ : L2.St) (H : Hp) : Prop extends FOk st F H where
  len : σ.length = G.length
  slot : ∀ (i : Nat) t, G[i]? = some t → ∃ v, σ[i]? = some v ∧ SlAt st F H v t
  dis : ∀ (i j : Nat) d e l, G[i]? = some (.ow d) → G[j]? = some (.ow e) → σ[i]? = some (some (.ref l)) → σ[j]? = some (some (.ref l)) → i = j
section
variable {st : Sto} {F : Foot} {H H' : Hp} {G : Ga} {σ : L2.St}
theorem FOk.step {M : Set_} (o : FOk st F H) (f : Fr M H H') (hi : HI st H') : FOk st F H' := ⟨o.ln, o.la, o.na, o.sn, fun a m => f.live (o.live a m), hi⟩
theorem FOk.fx (o : FOk st F H) (f : Fx st H H') : FOk st F H' := o.step f.fr f.hi
theorem FOk.sa (o : FOk st F H) : ∀ a, isSt st a → F.A a := fun a m => o.na a (o.sn a (.of m))
theorem FOk.fresh (o : FOk st F H) {p : Addr} (hp : H p = none) : ¬ F.A p := fun m => o.live p m hp
theorem EI.step {M : Set_} (I : EI st F G σ H) (f : Fr M H H') (hm : ∀ a, M a → F.N a) (hi : HI st H') : EI st F G σ H' := by
  have ha : ∀ a, M a → F.A a := fun a m => I.na a (hm a m)
  refine ⟨I.toFOk.step f hi, I.len, fun i t e => ?_, I.dis⟩
  obtain ⟨v, e1, h⟩ := I.slot i t e
  refine ⟨v, e1, ?_⟩
  cases t with
  | no => trivial
  | sh d => obtain ⟨x, e2, h⟩ := h; exact ⟨x, e2, h.step f ha⟩
  | bo d =>
    obtain ⟨x, e2, h⟩ := h
    refine ⟨x, e2, ?_⟩
    rcases h with h | ⟨l, e3, n1, n2, h⟩
    · exact .inl (h.step f ha)
    · exact .inr ⟨l, e3, n1, n2, h.step f ha fun m => n1 (hm l m)⟩
  | ow d =>
    obtain ⟨l, e2, hl, h⟩ := h
    exact ⟨l, e2, hl, h.step f ha fun m => I.ln l hl (hm l m)⟩
theorem EI.fx (I : EI st F G σ H) (f : Fx st H H') : EI st F G σ H' := I.step f.fr (fun a m => I.sn a (.of m)) f.hi
theorem AtB.fx {A : Set_} {v : V} {d : D} (h : AtB st A H v d) (f : Fx st H H') (hs : ∀ a, isSt st a → A a) : AtB st A H' v d := by
  rcases h with h | ⟨l, e, n, h⟩
  · exact .inl (h.step f.fr hs)
  · exact .inr ⟨l, e, n, h.step f.fr hs fun m => n.1 (.of m)⟩
theorem AtB.imm {A : Set_} {v x : V} {d : D} (h : AtB st A H v d) (e : VL.imm d = some x) : v = x := by
  rcases h with h | ⟨l, e2, n, h⟩
  · exact h.imm e
  · cases d <;> first | exact h.elim | cases e
theorem AtB.lst {A : Set_} {v : V} {ds : List D} (h : AtB st A H v (.lst ds)) : ∃ a vs, v = .ref a ∧ H a = some (.lst vs) ∧ AtAll st A H vs ds := by
  rcases h with h | ⟨l, e, n, vs, h1, h2⟩
  · simp only [At] at h
    obtain ⟨a, vs, e, _, h1, h2⟩ := h
    exact ⟨a, vs, e, h1, h2⟩
  · exact ⟨l, vs, e, h1, h2⟩
theorem AtB.tup {A : Set_} {v : V} {ds : List D} (h : AtB st A H v (.tup ds)) : ∃ a vs, v = .ref a ∧ ¬ A a ∧ H a = some (.tup vs) ∧ AtAll st A H vs ds := by
  rcases h with h | ⟨l, e, n, h⟩
  · simp only [At] at h
    exact h
  · exact h.elim
theorem AtB.dic {A : Set_} {v : V} {ks : List Str} {ds : List D} (h : AtB st A H v (.dic ks ds)) : ∃ a vs, v = .ref a ∧ Rd H a (.dK (kz ks vs)) ∧ ks.length = ds.length ∧ AtAll st A H vs ds := by
  rcases h with h | ⟨l, e, n, vs, h1, h2⟩
  · simp only [At] at h
    obtain ⟨a, vs, e, _, h1, h2⟩ := h
    exact ⟨a, vs, e, h1, h2⟩
  · exact ⟨l, vs, e, .inl h1, h2⟩
theorem AtB.obj {A : Set_} {v : V} {C : Addr} {fs : List Str} {ds : List D} (h : AtB st A H v (.obj C fs ds)) : ∃ a dx vs, v = .ref a ∧ H a = some (.ins C dx (fs.zip vs)) ∧ fs.length = ds.length ∧ AtAll st A H vs ds := by
  rcases h with h | ⟨l, e, n, dx, vs, h1, h2⟩
  · simp only [At] at h
    obtain ⟨a, dx, vs, e, _, h1, h2⟩ := h
    exact ⟨a, dx, vs, e, h1, h2⟩
  · exact ⟨l, dx, vs, e, h1, h2⟩
theorem EI.sh {i : Nat} {d : D} (I : EI st F G σ H) (h : G[i]? = some (.sh d)) : ∃ v, σ[i]? = some (some v) ∧ At st F.A H v d := by
  obtain ⟨v, e, x, rfl, h⟩ := I.slot i _ h
  exact ⟨x, e, h⟩
theorem EI.any {i : Nat} {d : D} (I : EI st F G σ H) (h : G[i]? = some (.sh d) ∨ G[i]? = some (.bo d) ∨ G[i]? = some (.ow d)) : ∃ v, σ[i]? = some (some v) ∧ AtB st F.A H v d := by
  rcases h with h | h | h
  · obtain ⟨v, e, h⟩ := I.sh h
    exact ⟨v, e, .inl h⟩
  · obtain ⟨v, e, x, rfl, h⟩ := I.slot i _ h
    refine ⟨x, e, ?_⟩
    rcases h with h | ⟨l, e3, n1, n2, h⟩
    · exact .inl h
    · exact .inr ⟨l, e3, ⟨fun m => n1 (I.sn l m), n2.2⟩, h⟩
  · obtain ⟨v, e, l, rfl, hl, h⟩ := I.slot i _ h
    exact ⟨_, e, .inr ⟨l, rfl, ⟨fun m => I.ln l hl (I.sn l m), I.la l hl⟩, h⟩⟩
end
/-! ### judgements -/
abbrev WE := Ga → (D → Prop) → Prop
abbrev WT := Ga → (Bool → Prop) → Prop
abbrev WA := Ga → (List Sl → Prop) → Prop
def tE (st : Sto) (w : WE) : TE := fun σ H Q => ∃ F G R, EI st F G σ H ∧ w G R ∧ ∀ d v H', R d → Fx st H H' → At st F.A H' v d → Q v H'
def tO (st : Sto) (w : WE) : TE := fun σ H Q => ∃ F G R, EI st F G σ H ∧ w G R ∧ ∀ d v H', R d → Fx st H H' → AtB st F.A H' v d → Q v H'
def tF (st : Sto) (w : WE) : TE := fun σ H Q => ∃ F G R, EI st F G σ H ∧ w G R ∧ ∀ d p H', R d → Fx st H H' → H p = none → OwnAt st (pl F.A p) H' p d → Q (.ref p) H'
def tT (st : Sto) (w : WT) : TT := fun σ H Q => ∃ F G R, EI st F G σ H ∧ w G R ∧ ∀ b H', R b → Fx st H H' → Q b H'
def ArAt (st : Sto) (A : Set_) (H : Hp) (v : V) : Sl → Prop
  | .sh d => At st A H v d
  | .bo d => AtB st A H v d
  | _ => False
def ArAll (st : Sto) (A : Set_) (H : Hp) : List V → List Sl → Prop := Paired (ArAt st A H)
def tA (st : Sto) (w : WA) : TA := fun σ H Q => ∃ F G R, EI st F G σ H ∧ w G R ∧ ∀ as vs H', R as → Fx st H H' → ArAll st F.A H' vs as → Q vs H'
/-- an expression to keep, to see, a new object; a test; arguments -/
abbrev VE (X : Cx) (st : Sto) (e : Expr) (w : WE) : Prop := PE X e (tE st w)
abbrev VO (X : Cx) (st : Sto) (e : Expr) (w : WE) : Prop := PE X e (tO st w)
abbrev VF (X : Cx) (st : Sto) (e : Expr) (w : WE) : Prop := PE X e (tF st w)
abbrev VT (X : Cx) (st : Sto) (e : Expr) (w : WT) : Prop := PT X e (tT st w)
abbrev VAr (X : Cx) (st : Sto) (es : List Expr) (w : WA) : Prop := PA X es (tA st w)
theorem PEmono {X : Cx} {e : Expr} {t t' : TE} (h : PE X e t) (k : ∀ σ H Q, t' σ H Q → t σ H Q) : PE X e t' := ⟨fun pins s σ H Q I q => h.run pins s σ H Q I (k σ H Q q)⟩
theorem PTmono {X : Cx} {e : Expr} {t t' : TT} (h : PT X e t) (k : ∀ σ H Q, t' σ H Q → t σ H Q) : PT X e t' := ⟨fun pins s σ H Q I q => h.run pins s σ H Q I (k σ H Q q)⟩
theorem PAmono {X : Cx} {e : List Expr} {t t' : TA} (h : PA X e t) (k : ∀ σ H Q, t' σ H Q → t σ H Q) : PA X e t' := ⟨fun pos pins s σ H Q I q => h.run pos pins s σ H Q I (k σ H Q q)⟩
theorem PSmono {X : Cx} {e : Stmt} {t t' : TS} (h : PS X e t) (k : ∀ D σ H, t' D σ H → t D σ H) : PS X e t' := ⟨fun pins s σ H D I q => h.run pins s σ H D I (k D σ H q)⟩
theorem PSsmono {X : Cx} {e : List Stmt} {t t' : TS} (h : PSs X e t) (k : ∀ D σ H, t' D σ H → t D σ H) : PSs X e t' := ⟨fun pins s σ H D I q => h.run pins s σ H D I (k D σ H q)⟩
section
variable {X : Cx} {st : Sto} {e a b : Expr} {w wa wb : WE} {pos : Pos}
/-- seen -/
theorem VE.o (h : VE X st e w) : VO X st e w := PEmono h fun σ H Q ⟨F, G, R, I, hw, k⟩ => ⟨F, G, R, I, hw, fun d v H' r f q => k d v H' r f (.inl q)⟩
theorem VF.ve (h : VF X st e w) : VE X st e w := PEmono h fun σ H Q ⟨F, G, R, I, hw, k⟩ => ⟨F, G, R, I, hw, fun d p H' r f n q => k d (.ref p) H' r f ((q.off fun a m => .inl (.inl m)).at_ (I.fresh n))⟩
theorem VF.o (h : VF X st e w) : VO X st e w := VE.o (VF.ve h)
/-- run a part, go on -/
theorem tE.bind {w : WE} {σ : L2.St} {H : Hp} {F : Foot} {G : Ga} {R : D → Prop} {Q : VK} (I : EI st F G σ H) (hw : w G R) (k : ∀ d v H', R d → EI st F G σ H' → Fx st H H' → At st F.A H' v d → Q v H') : tE st w σ H Q :=
  ⟨F, G, R, I, hw, fun d v H' r f q => k d v H' r (I.fx f) f q⟩
theorem tO.bind {w : WE} {σ : L2.St} {H : Hp} {F : Foot} {G : Ga} {R : D → Prop} {Q : VK} (I : EI st F G σ H) (hw : w G R) (k : ∀ d v H', R d → EI st F G σ H' → Fx st H H' → AtB st F.A H' v d → Q v H') : tO st w σ H Q :=
  ⟨F, G, R, I, hw, fun d v H' r f q => k d v H' r (I.fx f) f q⟩
theorem tA.bind {w : WA} {σ : L2.St} {H : Hp} {F : Foot} {G : Ga} {R : List Sl → Prop} {Q : List V → Hp → Prop} (I : EI st F G σ H) (hw : w G R) (k : ∀ d v H', R d → EI st F G σ H' → Fx st H H' → ArAll st F.A H' v d → Q v H') : tA st w σ H Q :=
  ⟨F, G, R, I, hw, fun d v H' r f q => k d v H' r (I.fx f) f q⟩
theorem tT.bind {w : WT} {σ : L2.St} {H : Hp} {F : Foot} {G : Ga} {R : Bool → Prop} {Q : Bool → Hp → Prop} (I : EI st F G σ H) (hw : w G R) (k : ∀ d H', R d → EI st F G σ H' → Fx st H H' → Q d H') : tT st w σ H Q :=
  ⟨F, G, R, I, hw, fun d H' r f => k d H' r (I.fx f) f⟩
/-! ### names, constants -/
def wv (i : Nat) : WE := fun G R => match G[i]? with
  | some (.sh d) => R d
  | _ => False
def wo (i : Nat) : WE := fun G R => match G[i]? with
  | some (.sh d) => R d
  | some (.bo d) => R d
  | some (.ow d) => R d
  | _ => False
def wc (d : D) : WE := fun _ R => R d
theorem tE_var (i : Nat) : ∀ σ H Q, tE st (wv i) σ H Q → tVar i σ H Q := fun σ H Q ⟨F, G, R, I, hw, k⟩ => by
  unfold wv at hw
  split at hw
  · rename_i d e
    obtain ⟨v, e1, h⟩ := I.sh e
    exact ⟨v, e1, k d v H hw (.refl I.hi) h⟩
  · exact hw.elim
theorem tO_var (i : Nat) : ∀ σ H Q, tO st (wo i) σ H Q → tVar i σ H Q := fun σ H Q ⟨F, G, R, I, hw, k⟩ => by
  unfold wo at hw
  split at hw
  · rename_i d e
    obtain ⟨v, e1, h⟩ := I.any (.inl e)
    exact ⟨v, e1, k d v H hw (.refl I.hi) h⟩
  · rename_i d e
    obtain ⟨v, e1, h⟩ := I.any (.inr (.inl e))
    exact ⟨v, e1, k d v H hw (.refl I.hi) h⟩
  · rename_i d e
    obtain ⟨v, e1, h⟩ := I.any (.inr (.inr e))
    exact ⟨v, e1, k d v H hw (.refl I.hi) h⟩
  · exact hw.elim
theorem ev (i : Nat) {x : Str} (hN : X.N[i]? = some x := by rfl) (hv : Vis X.env.scope x := by first | exact Or.inl rfl | exact Or.inr (Or.inl rfl) | exact Or.inr (Or.inr rfl)) (hd : (x == ("__debug__" : Str)) = false := by decide)
    (hcd : (x == ("__classdict__" : Str)) = false := by decide) : VE X st (.Name x pos) (wv i) := PEmono (pe_var hN hv hd hcd) (tE_var i)
theorem ov (i : Nat) {x : Str} (hN : X.N[i]? = some x := by rfl) (hv : Vis X.env.scope x := by first | exact Or.inl rfl | exact Or.inr (Or.inl rfl) | exact Or.inr (Or.inr rfl)) (hd : (x == ("__debug__" : Str)) = false := by decide)
    (hcd : (x == ("__classdict__" : Str)) = false := by decide) : VO X st (.Name x pos) (wo i) := PEmono (pe_var hN hv hd hcd) (tO_var i)
theorem tE_c {d : D} {x : V} (e : imm d = some x) : ∀ σ H Q, tE st (wc d) σ H Q → tC x σ H Q := fun σ H Q ⟨F, G, R, I, hw, k⟩ => k d x H hw (.refl I.hi) (.ofImm e)
theorem e_int {i j pos} : VE X st (.Constant (.int i) j pos) (wc (.int i)) := PEmono pe_int (tE_c rfl)
theorem e_bl {i j pos} : VE X st (.Constant (.bool i) j pos) (wc (.bl i)) := PEmono pe_bl (tE_c rfl)
theorem e_non {j pos} : VE X st (.Constant .none j pos) (wc .non) := PEmono pe_non (tE_c rfl)
theorem e_str {x j pos} : VE X st (.Constant (.str x) j pos) (wc (.str x)) := PEmono pe_str (tE_c rfl)
/-- a constant of the module -/
theorem e_glob {x : Str} {d : D} {v : V} {u : Value} (hd' : imm d = some v) (hm : X.mg x = some u) (r : RelV v u) (hg : Gl X x := by rfl) (hd : (x == ("__debug__" : Str)) = false := by decide) : VE X st (.Name x pos) (wc d) := PEmono (pe_glob hg hm r hd) (tE_c hd')
/-! ### arguments -/
def wan : WA := fun _ R => R []
def wac (w : WE) (r : WA) : WA := fun G R => w G fun d => r G fun as => R (.sh d :: as)
def wab (w : WE) (r : WA) : WA := fun G R => w G fun d => r G fun as => R (.bo d :: as)
theorem ArAt.fx {A : Set_} {H H' : Hp} {v : V} {t : Sl} (h : ArAt st A H v t) (f : Fx st H H') (hs : ∀ a, isSt st a → A a) : ArAt st A H' v t := by
  cases t with
  | sh d => exact At.step f.fr hs h
  | bo d => exact AtB.fx h f hs
  | _ => exact h.elim
theorem ArAll.fx {A : Set_} {H H' : Hp} {vs : List V} {as : List Sl} (h : ArAll st A H vs as) (f : Fx st H H') (hs : ∀ a, isSt st a → A a) : ArAll st A H' vs as := Paired.mapP h fun _ _ q => q.fx f hs
theorem an : VAr X st [] wan := PAmono pa_nil fun σ H Q ⟨F, G, R, I, hw, k⟩ => k [] [] H hw (.refl I.hi) .nil
theorem ac {es : List Expr} {r : WA} (ha : VE X st a wa) (hr : VAr X st es r) (hs : starEach (a :: es) X.env = (false, eval a X.env) :: starEach es X.env := by rfl) : VAr X st (a :: es) (wac wa r) :=
  PAmono (pa_cons ha hr hs) fun σ H Q ⟨F, G, R, I, hw, k⟩ => tE.bind I hw fun d v H1 r1 I1 f1 q1 => tA.bind I1 r1 fun as vs H2 r2 I2 f2 q2 =>
    k _ _ H2 r2 (f1.trans f2) (.cons (At.step f2.fr I.sa q1) q2)
theorem ab {es : List Expr} {r : WA} (ha : VO X st a wa) (hr : VAr X st es r) (hs : starEach (a :: es) X.env = (false, eval a X.env) :: starEach es X.env := by rfl) : VAr X st (a :: es) (wab wa r) :=
  PAmono (pa_cons ha hr hs) fun σ H Q ⟨F, G, R, I, hw, k⟩ => tO.bind I hw fun d v H1 r1 I1 f1 q1 => tA.bind I1 r1 fun as vs H2 r2 I2 f2 q2 =>
    k _ _ H2 r2 (f1.trans f2) (.cons (AtB.fx q1 f2 I.sa) q2)
def shs : List Sl → Option (List D)
  | [] => some []
  | .sh d :: r => (shs r).map (d :: ·)
  | _ => none
theorem ArAll.shs {A : Set_} {H : Hp} : ∀ {as : List Sl} {vs : List V} {ds : List D}, ArAll st A H vs as → VL.shs as = some ds → AtAll st A H vs ds
  | [], _, _, .nil, e => by cases e; exact .nil
  | .sh d :: r, _, ds, .cons h t, e => by
    rw [VL.shs] at e
    cases q : VL.shs r with
    | none => rw [q] at e; cases e
    | some es => rw [q] at e; cases e; exact .mk h (ArAll.shs t q)
  | .no :: _, _, _, .cons h _, _ => h.elim
  | .bo _ :: _, _, _, .cons h _, e => by cases e
  | .ow _ :: _, _, _, .cons h _, _ => h.elim
def wtup (wa : WA) : WE := fun G R => wa G fun as => match shs as with
  | some ds => ds.length ≤ 100 ∧ R (.tup ds)
  | none => False
def wlst (wa : WA) : WE := fun G R => wa G fun as => match shs as with
  | some ds => ds.length ≤ 100 ∧ R (.lst ds)
  | none => False
theorem plo {A : Set_} {H : Hp} {p : Addr} (hp : H p = none) : ∀ a, pl A p a → A a ∨ H a = none := fun a m => m.elim .inl fun q => .inr (by rw [q]; exact hp)
theorem line100 {n : Nat} (h : n ≤ 100) : n ≤ sizeLine := Nat.le_trans h (by decide)
theorem e_tup {es : List Expr} {r : WA} {x1} (h : VAr X st es r) : VE X st (.Tuple es x1 pos) (wtup r) :=
  PEmono (pe_tup h) fun σ H Q ⟨F, G, R, I, hw, k⟩ => tA.bind I hw fun as vs H1 r1 I1 f1 q1 => by
    split at r1
    · rename_i ds e
      have q2 := q1.shs e
      refine ⟨line100 (by rw [q2.length]; exact r1.1), fun p hp => k _ _ _ r1.2 (f1.trans (.new I1.hi hp)) ?_⟩
      simp only [At]
      exact ⟨p, vs, rfl, I1.fresh hp, upd_same, q2.step (Fr.new (M := isSt st) hp) I1.sa⟩
    · exact r1.elim
theorem f_lst {es : List Expr} {r : WA} (h : VAr X st es r) : VF X st (.List es pos) (wlst r) :=
  PEmono (pe_lst h) fun σ H Q ⟨F, G, R, I, hw, k⟩ => tA.bind I hw fun as vs H1 r1 I1 f1 q1 => by
    split at r1
    · rename_i ds e
      have q2 := q1.shs e
      exact ⟨line100 (by rw [q2.length]; exact r1.1), fun p hp => k _ _ _ r1.2 (f1.trans (.new I1.hi hp)) (f1.fr.dom p hp) ⟨vs, upd_same, (q2.off (plo hp)).step (Fr.new (M := isSt st) hp) (fun a m => .inl (I1.sa a m))⟩⟩
    · exact r1.elim
/-! ### operators of two places, of one -/
abbrev O2 := D → D → (D → Prop) → Prop
abbrev O1 := D → (D → Prop) → Prop
def OpD (st : Sto) (r : R2) (o : O2) : Prop := ∀ (F : Foot) (H : Hp) (x y : D) (v u : V) (R : D → Prop) (Q : VK), FOk st F H → AtB st F.A H v x → AtB st F.A H u y → o x y R → (∀ d z H', R d → Fx st H H' → At st F.A H' z d → Q z H') → r v u H Q
def UnD (st : Sto) (r : V → Hp → VK → Prop) (o : O1) : Prop := ∀ (F : Foot) (H : Hp) (x : D) (v : V) (R : D → Prop) (Q : VK), FOk st F H → AtB st F.A H v x → o x R → (∀ d z H', R d → Fx st H H' → At st F.A H' z d → Q z H') → r v H Q
def w2 (o : O2) (wa wb : WE) : WE := fun G R => wa G fun x => wb G fun y => o x y R
def w1 (o : O1) (wa : WE) : WE := fun G R => wa G fun x => o x R
theorem t2 {r : R2} {o : O2} (hr : OpD st r o) : ∀ σ H Q, tE st (w2 o wa wb) σ H Q → tOp r (tO st wa) (tO st wb) σ H Q := fun σ H Q ⟨F, G, R, I, hw, k⟩ =>
  tO.bind I hw fun x v H1 r1 I1 f1 q1 => tO.bind I1 r1 fun y u H2 r2 I2 f2 q2 => hr F H2 x y v u R Q I2.toFOk (q1.fx f2 I.sa) q2 r2 fun d z H' r f q => k d z H' r ((f1.trans f2).trans f) q
theorem t1 {r : V → Hp → VK → Prop} {o : O1} (hr : UnD st r o) : ∀ σ H Q, tE st (w1 o wa) σ H Q → tUn r (tO st wa) σ H Q := fun σ H Q ⟨F, G, R, I, hw, k⟩ =>
  tO.bind I hw fun x v H1 r1 I1 f1 q1 => hr F H1 x v R Q I1.toFOk q1 r1 fun d z H' r f q => k d z H' r (f1.trans f) q
theorem e_op {op : Operator} {r : R2} {o : O2} (ho : OpR X (binaryOp op) r) (hr : OpD st r o) (ha : VO X st a wa) (hb : VO X st b wb) : VE X st (.BinOp a op b pos) (w2 o wa wb) := PEmono (pe_op ho ha hb) (t2 hr)
theorem e_un {op : UnaryOp} {r : V → Hp → VK → Prop} {o : O1} (ho : UnR X (unaryOp op) r) (hr : UnD st r o) (ha : VO X st a wa) : VE X st (.UnaryOp op a pos) (w1 o wa) := PEmono (pe_un ho ha) (t1 hr)
theorem e_cmp {op : CmpOp} {r : R2} {o : O2} (ho : OpR X (compareOp op) r) (hr : OpD st r o) (ha : VO X st a wa) (hb : VO X st b wb) (hm : behindInMarks op b = false := by first | exact nomark _ | rfl) : VE X st (.Compare a [op] [b] pos) (w2 o wa wb) := PEmono (pe_cmpR ho ha hb hm) (t2 hr)
def isB (R : Bool → Prop) : D → Prop := fun d => match d with
  | .bl k => R k
  | _ => False
def wt (w : WE) : WT := fun G R => w G (isB R)
theorem isB_of {R : Bool → Prop} {d : D} (h : isB R d) : ∃ k, d = .bl k ∧ R k := by
  cases d <;> first | exact ⟨_, rfl, h⟩ | exact h.elim
theorem tT_test {te : TE} {w : WE} (h : ∀ σ H Q, tE st w σ H Q → te σ H Q) : ∀ σ H Q, tT st (wt w) σ H Q → tTest te σ H Q := fun σ H Q ⟨F, G, R, I, hw, k⟩ =>
  h σ H _ ⟨F, G, isB R, I, hw, fun d v H' r f q => by
    obtain ⟨c, rfl, r⟩ := isB_of r
    simp only [At] at q
    exact ⟨c, q, k c H' r f⟩⟩
theorem t_cmp {op : CmpOp} {r : R2} {o : O2} (ho : OpR X (compareOp op) r) (hr : OpD st r o) (ha : VO X st a wa) (hb : VO X st b wb) (hm : behindInMarks op b = false := by first | exact nomark _ | rfl) : VT X st (.Compare a [op] [b] pos) (wt (w2 o wa wb)) := PTmono (pt_cmpR ho ha hb hm) (tT_test (t2 hr))
/-- a bool, as a test -/
theorem t_val (h : VE X st e w) (he : ∀ whole, isTrue e X.env whole = (do let v ← whole; standAt e.pos; holding [v] (truthy v)) := by intro _; rfl) : VT X st e (wt w) := PTmono (pt_val h he) (tT_test (te := tE st w) fun _ _ _ q => q)
def wand (t u : WT) : WT := fun G R => t G fun c => if c = true then u G R else R false
def wor (t u : WT) : WT := fun G R => t G fun c => if c = true then R true else u G R
def wnot (t : WT) : WT := fun G R => t G fun c => R (!c)
theorem tT_and {t u : WT} : ∀ σ H Q, tT st (wand t u) σ H Q → tAnd (tT st t) (tT st u) σ H Q := fun σ H Q ⟨F, G, R, I, hw, k⟩ => tT.bind I hw fun c H1 r1 I1 f1 => by
  cases c with
  | true =>
    rw [if_pos rfl] at r1 ⊢
    exact tT.bind I1 r1 fun d H2 r2 I2 f2 => k d H2 r2 (f1.trans f2)
  | false =>
    rw [if_neg (by decide)] at r1 ⊢
    exact k false H1 r1 f1
theorem tT_or {t u : WT} : ∀ σ H Q, tT st (wor t u) σ H Q → tOr (tT st t) (tT st u) σ H Q := fun σ H Q ⟨F, G, R, I, hw, k⟩ => tT.bind I hw fun c H1 r1 I1 f1 => by
  cases c with
  | false =>
    rw [if_neg (by decide)] at r1 ⊢
    exact tT.bind I1 r1 fun d H2 r2 I2 f2 => k d H2 r2 (f1.trans f2)
  | true =>
    rw [if_pos rfl] at r1 ⊢
    exact k true H1 r1 f1
theorem PWmono {X : Cx} {e : Expr} {t t' : TT} (h : PW X e t) (k : ∀ σ H Q, t' σ H Q → t σ H Q) : PW X e t' := ⟨fun wh pins s σ H Q I q => h.run wh pins s σ H Q I (k σ H Q q)⟩
abbrev VW (X : Cx) (st : Sto) (e : Expr) (w : WT) : Prop := PW X e (tT st w)
section
variable {ta tb : WT} {rest : List Expr}
theorem x_and1 (ha : VT X st a ta) : VW X st (.BoolOp .And [a] pos) ta := pw_and1 ha
theorem x_or1 (ha : VT X st a ta) : VW X st (.BoolOp .Or [a] pos) ta := pw_or1 ha
theorem x_and (ha : VT X st a ta) (hb : VW X st (.BoolOp .And (b :: rest) pos) tb) : VW X st (.BoolOp .And (a :: b :: rest) pos) (wand ta tb) := PWmono (pw_and ha hb) tT_and
theorem x_or (ha : VT X st a ta) (hb : VW X st (.BoolOp .Or (b :: rest) pos) tb) : VW X st (.BoolOp .Or (a :: b :: rest) pos) (wor ta tb) := PWmono (pw_or ha hb) tT_or
theorem t_w (h : VW X st e ta) : VT X st e ta := h.pt
theorem t_not (ha : VT X st a ta) : VT X st (.UnaryOp .Not a pos) (wnot ta) := PTmono (pt_not ha) fun σ H Q ⟨F, G, R, I, hw, k⟩ => tT.bind I hw fun c H1 r1 I1 f1 => k _ H1 r1 f1
end
/-! ### and, or, not as values of bools -/
def wandV (wa wb : WE) : WE := fun G R => wa G (isB fun c => if c = true then wb G R else R (.bl false))
def worV (wa wb : WE) : WE := fun G R => wa G (isB fun c => if c = true then R (.bl true) else wb G R)
def wnotV (wa : WE) : WE := fun G R => wa G (isB fun c => R (.bl (!c)))
theorem e_one {op} (h : VE X st a w) : VE X st (.BoolOp op [a] pos) w := pe_one h
theorem e_and {rest : List Expr} (ha : VE X st a wa) (hb : VE X st (.BoolOp .And (b :: rest) pos) wb) : VE X st (.BoolOp .And (a :: b :: rest) pos) (wandV wa wb) :=
  PEmono (pe_and ha hb) fun σ H Q ⟨F, G, R, I, hw, k⟩ => tE.bind I hw fun x v H1 r1 I1 f1 q1 => by
    obtain ⟨c, rfl, r2⟩ := isB_of r1
    simp only [At] at q1
    clear r1
    have r1 := r2
    clear r2
    refine ⟨c, q1, ?_⟩
    cases c with
    | true =>
      rw [if_pos rfl] at r1 ⊢
      exact tE.bind I1 r1 fun d v H2 r2 I2 f2 q => k d v H2 r2 (f1.trans f2) q
    | false =>
      rw [if_neg (by decide)] at r1 ⊢
      exact k _ _ H1 r1 f1 at_bl
theorem e_or {rest : List Expr} (ha : VE X st a wa) (hb : VE X st (.BoolOp .Or (b :: rest) pos) wb) : VE X st (.BoolOp .Or (a :: b :: rest) pos) (worV wa wb) :=
  PEmono (pe_or ha hb) fun σ H Q ⟨F, G, R, I, hw, k⟩ => tE.bind I hw fun x v H1 r1 I1 f1 q1 => by
    obtain ⟨c, rfl, r2⟩ := isB_of r1
    simp only [At] at q1
    clear r1
    have r1 := r2
    clear r2
    refine ⟨c, q1, ?_⟩
    cases c with
    | false =>
      rw [if_neg (by decide)] at r1 ⊢
      exact tE.bind I1 r1 fun d v H2 r2 I2 f2 q => k d v H2 r2 (f1.trans f2) q
    | true =>
      rw [if_pos rfl] at r1 ⊢
      exact k _ _ H1 r1 f1 at_bl
theorem e_not (ha : VE X st a wa) : VE X st (.UnaryOp .Not a pos) (wnotV wa) :=
  PEmono (pe_not ha) fun σ H Q ⟨F, G, R, I, hw, k⟩ => tE.bind I hw fun x v H1 r1 I1 f1 q1 => by
    obtain ⟨c, rfl, r2⟩ := isB_of r1
    simp only [At] at q1
    exact ⟨c, q1, k _ _ H1 r2 f1 at_bl⟩
/-! ### calls by value -/
abbrev OC := List Sl → (D → Prop) → Prop
/-- what a def promises, at data -/
def spD (st : Sto) (C : OC) : Sp := fun vs H Q _ => ∃ F as R, FOk st F H ∧ ArAll st F.A H vs as ∧ C as R ∧ ∀ d v H', R d → Fx st H H' → At st F.A H' v d → Q v H'
def wcall (C : OC) (wa : WA) : WE := fun G R => wa G fun as => C as R
section
theorem tcall {C : OC} {r : WA} {E : XK} : ∀ σ H Q, tE st (wcall C r) σ H Q → tCall (spD st C) [] E (tA st r) σ H Q := fun σ H Q ⟨F, G, R, I, hw, k⟩ => tA.bind I hw fun as vs H1 r1 I1 f1 q1 =>
    ⟨F, as, R, I1.toFOk, by rw [List.append_nil]; exact q1, r1, fun d v H' r f q => k d v H' r (f1.trans f) q⟩
end
/-- a built-in function on values -/
def CallD (st : Sto) (r : List V → Hp → VK → Prop) (o : OC) : Prop := ∀ (F : Foot) (H : Hp) (as : List Sl) (vs : List V) (R : D → Prop) (Q : VK), FOk st F H → ArAll st F.A H vs as → o as R → (∀ d z H', R d → Fx st H H' → At st F.A H' z d → Q z H') → r vs H Q
def CallF (st : Sto) (r : List V → Hp → VK → Prop) (o : OC) : Prop := ∀ (F : Foot) (H : Hp) (as : List Sl) (vs : List V) (R : D → Prop) (Q : VK), FOk st F H → ArAll st F.A H vs as → o as R → (∀ d z H', R d → Fx st H H' → H z = none → OwnAt st (pl F.A z) H' z d → Q (.ref z) H') → r vs H Q
section
variable {x : Str} {p : Pos} {es : List Expr} {r : WA} {id T : String} {rr : List V → Hp → VK → Prop} {o : OC}
theorem tcb (hr : CallD st rr o) : ∀ σ H Q, tE st (wcall o r) σ H Q → tCB rr (tA st r) σ H Q := fun σ H Q ⟨F, G, R, I, hw, k⟩ => tA.bind I hw fun as vs H1 r1 I1 f1 q1 =>
  hr F H1 as vs R Q I1.toFOk q1 r1 fun d z H' r f q => k d z H' r (f1.trans f) q
theorem tcf (hr : CallF st rr o) : ∀ σ H Q, tF st (wcall o r) σ H Q → tCB rr (tA st r) σ H Q := fun σ H Q ⟨F, G, R, I, hw, k⟩ => tA.bind I hw fun as vs H1 r1 I1 f1 q1 =>
  hr F H1 as vs R Q I1.toFOk q1 r1 fun d z H' r f n q => k d z H' r (f1.trans f) (f1.fr.dom z n) q
end
end
end VL
/-! text VLc -/
/-! VLc: statements, loops, defs at data. -/
namespace VL
open PySem PySem.Spec PyProof.Rows L2
/-- since when: the heap H0, what may change, what must be kept off, what stood -/
structure Bs where
  A0 : Set_
  B : Set_
  M : Set_
  H0 : Hp
  pin : Option Addr
structure SF (st : Sto) (b : Bs) (F : Foot) (σ : L2.St) (H : Hp) : Prop where
  nn : ∀ a, F.N a → inSt st a
  a0 : ∀ a, b.A0 a → F.A a
  l0 : ∀ a, F.L a → ¬ b.A0 a
  bb : ∀ a, F.A a → b.B a ∨ b.H0 a = none
  fr : Fr b.M b.H0 H
  lm : ∀ a, F.L a → b.M a ∨ b.H0 a = none
  sm : ∀ a, isSt st a → b.M a
  pn : ∀ x, b.pin = some x → σ[0]? = some (some (.ref x))
def SX (st : Sto) (b : Bs) (G : Ga) (σ : L2.St) (H : Hp) : Prop := ∃ F, EI st F G σ H ∧ SF st b F σ H
structure Po where
  nx : Ga → Prop
  rt : D → Prop
  bk : Ga → Prop := fun _ => False
  ct : Ga → Prop := fun _ => False
abbrev WS := Ga → Po → Prop
structure PO (st : Sto) (b : Bs) (P : Po) (Dn : Ends) : Prop where
  nx : ∀ G σ H, P.nx G → SX st b G σ H → Dn.nx σ H
  rt : ∀ d v H, P.rt d → Fr b.M b.H0 H → HI st H → At st b.A0 H v d → Dn.rt v H
  bk : ∀ G σ H, P.bk G → SX st b G σ H → Dn.bk σ H
  ct : ∀ G σ H, P.ct G → SX st b G σ H → Dn.ct σ H
def tS (st : Sto) (b : Bs) (w : WS) : TS := fun Dn σ H => ∃ G P, SX st b G σ H ∧ w G P ∧ PO st b P Dn
/-- p: the first name is one's own self, and stays so -/
abbrev VS (X : Cx) (st : Sto) (p : Bool) (s : Stmt) (w : WS) : Prop := ∀ b : Bs, (p = false → b.pin = none) → PS X s (tS st b w)
abbrev VSs (X : Cx) (st : Sto) (p : Bool) (s : List Stmt) (w : WS) : Prop := ∀ b : Bs, (p = false → b.pin = none) → PSs X s (tS st b w)
section
variable {st : Sto} {b : Bs} {F : Foot} {G : Ga} {σ : L2.St} {H H' : Hp}
theorem SF.fx (s : SF st b F σ H) (f : Fx st H H') : SF st b F σ H' := ⟨s.nn, s.a0, s.l0, s.bb, s.fr.trans (f.fr.weak s.sm), s.lm, s.sm, s.pn⟩
theorem SF.off {is : List Nat} {σ' : L2.St} (s : SF st b F σ H) (o : σ'[0]? = σ[0]? ∨ b.pin = none) : SF st b F σ' H := ⟨s.nn, s.a0, s.l0, s.bb, s.fr, s.lm, s.sm, fun x e => by
  rcases o with o | o
  · rw [o]; exact s.pn x e
  · rw [o] at e; cases e⟩
end
section
variable {X : Cx} {st : Sto} {pos : Pos} {e : Expr} {w : WE} {s : Stmt} {ss : List Stmt} {ws wr : WS} {p : Bool}
def wnext : WS := fun G P => P.nx G
def wseq (a b : WS) : WS := fun G P => a G { P with nx := fun G' => b G' P }
theorem ss_nil : VSs X st p [] wnext := fun b hp => PSsmono pss_nil fun Dn σ H ⟨G, P, S, hw, po⟩ => po.nx G σ H hw S
theorem ss_one (h : VS X st p s ws) : VSs X st p [s] ws := fun b hp => pss_one (h b hp)
theorem ss_cons (h : VS X st p s ws) (hr : VSs X st p ss wr) : VSs X st p (s :: ss) (wseq ws wr) := fun b hp => PSsmono (pss_cons (h b hp) (hr b hp)) fun Dn σ H ⟨G, P, S, hw, po⟩ =>
  ⟨G, { P with nx := fun G' => wr G' P }, S, hw, ⟨fun G' σ' H' q S' => ⟨G', P, S', q, po⟩, po.rt, po.bk, po.ct⟩⟩
def wnever : WS := fun _ _ => False
theorem s_never : VS X st p s wnever := fun b hp => PSmono (t := tNever) ps_never fun Dn σ H ⟨G, P, S, hw, po⟩ => hw
theorem ss_never : VSs X st p ss wnever := fun b hp => PSsmono (t := tNever) pss_never fun Dn σ H ⟨G, P, S, hw, po⟩ => hw
theorem s_pass : VS X st p (.Pass pos) wnext := fun b hp => PSmono ps_pass fun Dn σ H ⟨G, P, S, hw, po⟩ => po.nx G σ H hw S
def wbreak : WS := fun G P => P.bk G
theorem s_break : VS X st p (.Break pos) wbreak := fun b hp => PSmono ps_break fun Dn σ H ⟨G, P, S, hw, po⟩ => po.bk G σ H hw S
def wret (w : WE) : WS := fun G P => w G P.rt
theorem s_ret (h : VE X st e w) : VS X st p (.Return (some e) pos) (wret w) := fun b hp => PSmono (ps_ret h) fun Dn σ H ⟨G, P, ⟨F, I, sf⟩, hw, po⟩ =>
  tE.bind I hw fun d v H1 r1 I1 f1 q1 => po.rt d v H1 r1 (sf.fx f1).fr I1.hi (At.off (fun a m => .inl (sf.a0 a m)) q1)
def wdrop (w : WE) : WS := fun G P => w G fun _ => P.nx G
theorem s_expr (h : VE X st e w) (hs : swapsWith e none pos.line X.env = pure false := by rfl) : VS X st p (.Expr e pos) (wdrop w) := fun b hp => PSmono (ps_expr h hs) fun Dn σ H ⟨G, P, ⟨F, I, sf⟩, hw, po⟩ =>
  tE.bind I hw fun d v H1 r1 I1 f1 q1 => po.nx G σ H1 r1 ⟨F, I1, sf.fx f1⟩
def wif (c : WT) (a b : WS) : WS := fun G P => c G fun t => if t = true then a G P else b G P
theorem s_if {c : Expr} {x y : List Stmt} {tc : WT} {wa wb : WS} (hc : VT X st c tc) (ha : VSs X st p x wa) (hb : VSs X st p y wb) : VS X st p (.If c x y pos) (wif tc wa wb) := fun b hp => PSmono (ps_if hc (ha b hp) (hb b hp)) fun Dn σ H ⟨G, P, ⟨F, I, sf⟩, hw, po⟩ =>
  tT.bind I hw fun d H1 r1 I1 f1 => by
    cases d with
    | true =>
      rw [if_pos rfl] at r1 ⊢
      exact ⟨G, P, ⟨F, I1, sf.fx f1⟩, r1, po⟩
    | false =>
      rw [if_neg (by decide)] at r1 ⊢
      exact ⟨G, P, ⟨F, I1, sf.fx f1⟩, r1, po⟩
/-! ### targets -/
abbrev WG := D → Ga → (Ga → Prop) → Prop
abbrev WGs := List D → Ga → (Ga → Prop) → Prop
def Off (is : List Nat) (σ σ' : L2.St) : Prop := σ'.length = σ.length ∧ ∀ j, j ∉ is → σ'[j]? = σ[j]?
theorem Off.refl (is : List Nat) (σ : L2.St) : Off is σ σ := ⟨rfl, fun _ _ => rfl⟩
theorem Off.app {is js : List Nat} {σ σ1 σ2 : L2.St} (a : Off is σ σ1) (b : Off js σ1 σ2) : Off (is ++ js) σ σ2 := ⟨b.1.trans a.1, fun j h => (b.2 j fun q => h (List.mem_append_right _ q)).trans (a.2 j fun q => h (List.mem_append_left _ q))⟩
def tG (st : Sto) (is : List Nat) (w : WG) : TG := fun v σ H Q => ∃ F G d R, EI st F G σ H ∧ At st F.A H v d ∧ w d G R ∧ ∀ G' σ', R G' → EI st F G' σ' H → Off is σ σ' → Q σ' H
def tGs (st : Sto) (is : List Nat) (w : WGs) : TGs := fun vs σ H Q => ∃ F G ds R, EI st F G σ H ∧ AtAll st F.A H vs ds ∧ w ds G R ∧ ∀ G' σ', R G' → EI st F G' σ' H → Off is σ σ' → Q σ' H
abbrev VG (X : Cx) (st : Sto) (e : Expr) (is : List Nat) (w : WG) : Prop := PG X e (tG st is w)
abbrev VGs (X : Cx) (st : Sto) (es : List Expr) (is : List Nat) (w : WGs) : Prop := PGs X es (tGs st is w)
theorem PGmono {e : Expr} {t t' : TG} (h : PG X e t) (k : ∀ v σ H Q, t' v σ H Q → t v σ H Q) : PG X e t' := ⟨fun pins s σ H v u Q I r q => h.run pins s σ H v u Q I r (k v σ H Q q)⟩
theorem PGsmono {e : List Expr} {t t' : TGs} (h : PGs X e t) (k : ∀ v σ H Q, t' v σ H Q → t v σ H Q) : PGs X e t' := ⟨fun pins s σ H v u Q I r q => h.run pins s σ H v u Q I r (k v σ H Q q)⟩
theorem EI.setSh {F : Foot} {G : Ga} {σ : L2.St} {H : Hp} {i : Nat} {v : V} {d : D} (I : EI st F G σ H) (h : At st F.A H v d) : EI st F (G.set i (.sh d)) (σ.set i (some v)) H := by
  refine ⟨I.toFOk, by rw [List.length_set, List.length_set]; exact I.len, fun j t e => ?_, fun j k d1 d2 l e1 e2 e3 e4 => ?_⟩
  · by_cases q : i = j
    · subst q
      have hi : i < G.length := by
        have := (List.getElem?_eq_some_iff.mp e).1
        rwa [List.length_set] at this
      rw [List.getElem?_set_self hi] at e
      cases e
      exact ⟨some v, by rw [List.getElem?_set_self (by rw [I.len]; exact hi)], v, rfl, h⟩
    · rw [List.getElem?_set_ne q] at e ⊢
      exact I.slot j t e
  · have nj : ∀ (j : Nat) (d3 : D), (G.set i (Sl.sh d))[j]? = some (Sl.ow d3) → i ≠ j := fun j d3 e q => by
      subst q
      have hi : i < G.length := by
        have := (List.getElem?_eq_some_iff.mp e).1
        rwa [List.length_set] at this
      rw [List.getElem?_set_self hi] at e
      cases e
    have h1 := nj j d1 e1
    have h2 := nj k d2 e2
    rw [List.getElem?_set_ne h1] at e1 e3
    rw [List.getElem?_set_ne h2] at e2 e4
    exact I.dis j k d1 d2 l e1 e2 e3 e4
def gn (i : Nat) : WG := fun d G R => R (G.set i (.sh d))
theorem tG_name (i : Nat) : ∀ v σ H Q, tG st [i] (gn i) v σ H Q → gName i v σ H Q := fun v σ H Q ⟨F, G, d, R, I, hd, hw, k⟩ => k _ _ hw (I.setSh hd) ⟨List.length_set, fun j h => List.getElem?_set_ne fun q => h (by simp [q])⟩
theorem g_name {i : Nat} {x : Str} (hN : X.N.Nodup) (hi : X.N[i]? = some x := by rfl) (hx : Loc X.env.scope x := by first | exact .inl rfl | exact .inr rfl) (hf : X.fn x = true ∨ X.env.scope.names.lookup x = some .local := by first | exact .inl rfl | exact .inr rfl) : VG X st (.Name x pos) [i] (gn i) :=
  PGmono (pg_name hN hi hx hf) (tG_name i)
def gsn : WGs := fun ds G R => ds = [] ∧ R G
def gsc (g : WG) (r : WGs) : WGs := fun ds G R => match ds with
  | d :: ds => g d G fun G' => r ds G' R
  | [] => False
theorem gs_nil : VGs X st [] [] gsn := PGsmono pgs_nil fun vs σ H Q ⟨F, G, ds, R, I, hd, hw, k⟩ => by
  obtain ⟨rfl, hw⟩ := hw
  exact ⟨hd.nil_of, k G σ hw I (.refl _ _)⟩
theorem gs_cons {a : Expr} {es : List Expr} {g : WG} {r : WGs} {is js : List Nat} (h1 : VG X st a is g) (h2 : VGs X st es js r) (hs : (assignEach (a :: es) X.env).map (·.2) = assign a X.env :: (assignEach es X.env).map (·.2) := by rfl) : VGs X st (a :: es) (is ++ js) (gsc g r) :=
  PGsmono (pgs_cons h1 h2 hs) fun vs σ H Q ⟨F, G, ds, R, I, hd, hw, k⟩ => by
    cases ds with
    | nil => exact hw.elim
    | cons d ds =>
      obtain ⟨x, rr, rfl, q1, q2⟩ := hd.uncons
      exact ⟨x, rr, rfl, F, G, d, fun G' => r ds G' R, I, q1, hw, fun G' σ' hr I' o => ⟨F, G', ds, R, I', q2, hr, fun G2 σ2 r2 I2 o2 => k G2 σ2 r2 I2 (o.app o2)⟩⟩
def gtup (n : Nat) (r : WGs) : WG := fun d G R => match d with
  | .tup ds => ds.length = n ∧ r ds G R
  | _ => False
theorem g_tup {es : List Expr} {k : Nat} {r : WGs} {n : Nat} {is : List Nat} (hc : X.calm = true) (h : VGs X st es is r) (hn : (assignEach es X.env).length = n := by rfl) (hst : (assignEach es X.env).findIdx? (·.1) = none := by rfl) : VG X st (.Tuple es k pos) is (gtup n r) :=
  PGmono (pg_tup hc h hn hst) fun v σ H Q ⟨F, G, d, R, I, hd, hw, k⟩ => by
    cases d <;> first
      | (obtain ⟨a, vs, e, _, ha, hs⟩ := AtB.tup (.inl hd)
         exact ⟨a, vs, e, .of ha, by rw [hs.length]; exact hw.1, F, G, _, R, I, hs, hw.2, k⟩)
      | exact hw.elim
theorem pin_off {b : Bs} {is : List Nat} {σ σ' : L2.St} (hp : p = false → b.pin = none) (h0 : p = true → 0 ∉ is) (o : Off is σ σ') : σ'[0]? = σ[0]? ∨ b.pin = none := by
  cases p with
  | true => exact .inl (o.2 0 (h0 rfl))
  | false => exact .inr (hp rfl)
theorem pin_set {b : Bs} {i : Nat} {σ : L2.St} {v : Option V} (hp : p = false → b.pin = none) (h0 : p = true → i ≠ 0) : (σ.set i v)[0]? = σ[0]? ∨ b.pin = none := by
  cases p with
  | true => exact .inl (List.getElem?_set_ne (h0 rfl))
  | false => exact .inr (hp rfl)
/-- name = e; (a, b) = e -/
def wasg (w : WE) (g : WG) : WS := fun G P => w G fun d => g d G P.nx
theorem s_asg {tg : Expr} {g : WG} {is : List Nat} (he : VE X st e w) (hg : VG X st tg is g) (h0 : p = true → 0 ∉ is := by first | decide | (intro h; cases h)) (hs : swapsWithSole [tg] e pos.line X.env = pure false := by rfl) (hw : swappedStores [tg] e X.env = pure none := by rfl)
    (h1 : (assignEach [tg] X.env).map (·.2) = [assign tg X.env] := by rfl) : VS X st p (.Assign [tg] e pos) (wasg w g) := fun b hp => PSmono (ps_asg he hg hs hw h1) fun Dn σ H ⟨G, P, ⟨F, I, sf⟩, hw, po⟩ =>
  tE.bind I hw fun d v H1 r1 I1 f1 q1 => ⟨F, G, d, P.nx, I1, q1, r1, fun G' σ' q I' o => po.nx G' σ' H1 q ⟨F, I', (sf.fx f1).off (is := is) (pin_off hp h0 o)⟩⟩
def wset (i : Nat) (w : WE) : WS := fun G P => w G fun d => P.nx (G.set i (.sh d))
theorem tS_set {b : Bs} (hp : p = false → b.pin = none) (i : Nat) (h0 : p = true → i ≠ 0) : ∀ Dn σ H, tS st b (wset i w) Dn σ H → tAsg (tE st w) (gName i) Dn σ H := fun Dn σ H ⟨G, P, ⟨F, I, sf⟩, hw, po⟩ =>
  tE.bind I hw fun d v H1 r1 I1 f1 q1 => po.nx _ _ _ r1 ⟨F, I1.setSh q1, (sf.fx f1).off (is := []) (pin_set hp h0)⟩
theorem s_set {i : Nat} {x : Str} {pos' : Pos} (hN : X.N.Nodup) (he : VE X st e w) (h0 : p = true → i ≠ 0 := by first | decide | (intro h; cases h)) (hi : X.N[i]? = some x := by rfl) (hx : Loc X.env.scope x := by first | exact .inl rfl | exact .inr rfl) (hs : swapsWith e (some (.Name x pos')) pos.line X.env = pure false := by rfl)
    (hf : X.fn x = true ∨ X.env.scope.names.lookup x = some .local := by first | exact .inl rfl | exact .inr rfl) : VS X st p (.Assign [.Name x pos'] e pos) (wset i w) := fun b hp => PSmono (ps_set hN hi hx he hs hf) (tS_set hp i h0)
/-! ### a new object, owned by its name -/
def F_own (F : Foot) (p : Addr) : Foot := ⟨F.N, pl F.A p, pl F.L p⟩
theorem EI.own {F : Foot} {G : Ga} {σ : L2.St} {H H' : Hp} {i : Nat} {p : Addr} {d : D} (I : EI st F G σ H) (f : Fx st H H') (hp : H p = none) (h : OwnAt st (pl F.A p) H' p d) : EI st (F_own F p) (G.set i (.ow d)) (σ.set i (some (.ref p))) H' := by
  have nln : ∀ l, F.L l → l ≠ p := fun l hl q => I.live l (I.la l hl) (by rw [q]; exact hp)
  have np : ¬ F.A p := I.fresh hp
  have hm : ∀ a, isSt st a → (pl F.A p) a := fun a m => .inl (I.sa a m)
  refine ⟨⟨fun a m => m.elim (I.ln a) fun q z => np (I.na p (q ▸ z)), fun a m => m.elim (fun z => .inl (I.la a z)) .inr, fun a m => .inl (I.na a m), I.sn, fun a m => m.elim (fun z => f.fr.live (I.live a z)) fun q => q ▸ h.live, f.hi⟩,
    by rw [List.length_set, List.length_set]; exact I.len, fun j t e => ?_, fun j k d1 d2 l e1 e2 e3 e4 => ?_⟩
  · by_cases q : i = j
    · subst q
      have hi : i < G.length := by
        have := (List.getElem?_eq_some_iff.mp e).1
        rwa [List.length_set] at this
      rw [List.getElem?_set_self hi] at e
      cases e
      exact ⟨_, by rw [List.getElem?_set_self (by rw [I.len]; exact hi)], p, rfl, .inr rfl, h⟩
    · rw [List.getElem?_set_ne q] at e ⊢
      obtain ⟨v, e1, h1⟩ := I.slot j t e
      refine ⟨v, e1, ?_⟩
      cases t with
      | no => trivial
      | sh d => obtain ⟨x, e2, h⟩ := h1; exact ⟨x, e2, (h.off (plo hp)).step f.fr hm⟩
      | bo d =>
        obtain ⟨x, e2, h⟩ := h1
        refine ⟨x, e2, ?_⟩
        rcases h with h | ⟨l, e3, n1, n2, h⟩
        · exact .inl ((h.off (plo hp)).step f.fr hm)
        · exact .inr ⟨l, e3, n1, ⟨fun m => m.elim n2.1 fun q => h.live (by rw [q]; exact hp), .inl n2.2⟩, (h.off (plo hp)).step f.fr hm fun m => n1 (I.sn l (.of m))⟩
      | ow d =>
        obtain ⟨l, e2, hl, h⟩ := h1
        exact ⟨l, e2, .inl hl, (h.off (plo hp)).step f.fr hm fun m => I.ln l hl (I.sn l (.of m))⟩
  · have self : ∀ (d1 : D) (l : Addr), (G.set i (.ow d))[i]? = some (.ow d1) → (σ.set i (some (.ref p)))[i]? = some (some (.ref l)) → l = p := fun d l e1 e2 => by
      have hi : i < σ.length := by
        have := (List.getElem?_eq_some_iff.mp e2).1
        rwa [List.length_set] at this
      rw [List.getElem?_set_self hi] at e2
      cases e2 
      rfl
    have other : ∀ (j : Nat) (d1 : D) (l : Addr), i ≠ j → (G.set i (.ow d))[j]? = some (.ow d1) → (σ.set i (some (.ref p)))[j]? = some (some (.ref l)) → G[j]? = some (.ow d1) ∧ σ[j]? = some (some (.ref l)) ∧ l ≠ p := fun j d l q e1 e2 => by
      rw [List.getElem?_set_ne q] at e1 e2
      refine ⟨e1, e2, ?_⟩
      obtain ⟨v, e3, l', e4, hl, _⟩ := I.slot j _ e1
      rw [e2] at e3
      rw [e4] at e3
      cases e3
      exact nln l hl
    by_cases q1 : i = j
    · by_cases q2 : i = k
      · exact q1.symm.trans q2
      · have z1 := self d1 l (q1 ▸ e1) (q1 ▸ e3)
        exact absurd z1 (other k d2 l q2 e2 e4).2.2
    · by_cases q2 : i = k
      · have z1 := self d2 l (q2 ▸ e2) (q2 ▸ e4)
        exact absurd z1 (other j d1 l q1 e1 e3).2.2
      · obtain ⟨a1, a2, _⟩ := other j d1 l q1 e1 e3
        obtain ⟨b1, b2, _⟩ := other k d2 l q2 e2 e4
        exact I.dis j k d1 d2 l a1 b1 a2 b2
theorem SF.own {b : Bs} {F : Foot} {σ : L2.St} {H H' : Hp} {p : Addr} (s : SF st b F σ H) (o : FOk st F H) (f : Fx st H H') (hp : H p = none) : SF st b (F_own F p) σ H' := by
  have h0 : b.H0 p = none := s.fr.dom p hp
  exact ⟨s.nn, fun a m => .inl (s.a0 a m), fun a m => m.elim (s.l0 a) fun q z => o.fresh hp (s.a0 p (q ▸ z)), fun a m => m.elim (s.bb a) fun q => .inr (q ▸ h0), s.fr.trans (f.fr.weak s.sm), fun a m => m.elim (s.lm a) fun q => .inr (q ▸ h0), s.sm, s.pn⟩
def wown (i : Nat) (w : WE) : WS := fun G P => w G fun d => P.nx (G.set i (.ow d))
theorem tS_own {b : Bs} (hp : p = false → b.pin = none) (i : Nat) (h0 : p = true → i ≠ 0) : ∀ Dn σ H, tS st b (wown i w) Dn σ H → tAsg (tF st w) (gName i) Dn σ H := fun Dn σ H ⟨G, P, ⟨F, I, sf⟩, hw, po⟩ =>
  ⟨F, G, _, I, hw, fun d p H1 r1 f1 n1 q1 => po.nx _ _ _ r1 ⟨F_own F p, I.own f1 n1 q1, (sf.own I.toFOk f1 n1).off (is := []) (pin_set hp h0)⟩⟩
theorem s_own {i : Nat} {x : Str} {pos' : Pos} (hN : X.N.Nodup) (he : VF X st e w) (h0 : p = true → i ≠ 0 := by first | decide | (intro h; cases h)) (hi : X.N[i]? = some x := by rfl) (hx : Loc X.env.scope x := by first | exact .inl rfl | exact .inr rfl) (hs : swapsWith e (some (.Name x pos')) pos.line X.env = pure false := by rfl)
    (hf : X.fn x = true ∨ X.env.scope.names.lookup x = some .local := by first | exact .inl rfl | exact .inr rfl) : VS X st p (.Assign [.Name x pos'] e pos) (wown i w) := fun b hp => PSmono (ps_set hN hi hx he hs hf) (tS_own hp i h0)
/-- what a name owns is given free: from now on it stays as it is -/
theorem SX.freeze {b : Bs} {G : Ga} {σ : L2.St} {H : Hp} {i : Nat} {d : D} (S : SX st b G σ H) (h : G[i]? = some (.ow d)) : SX st b (G.set i (.sh d)) σ H := by
  obtain ⟨F, I, s⟩ := S
  obtain ⟨v, e, l, rfl, hl, ho⟩ := I.slot i _ h
  have off : ∀ a, (F.A a ∧ a ≠ l) → F.A a ∨ H a = none := fun a m => .inl m.1
  refine ⟨⟨F.N, fun a => F.A a ∧ a ≠ l, fun a => F.L a ∧ a ≠ l⟩, ⟨⟨fun a m => I.ln a m.1, fun a m => ⟨I.la a m.1, m.2⟩, fun a m => ⟨I.na a m, fun q => I.ln l hl (q ▸ m)⟩, I.sn, fun a m => I.live a m.1, I.hi⟩, by rw [List.length_set]; exact I.len, fun j t e' => ?_, fun j k d1 d2 l' e1 e2 e3 e4 => ?_⟩,
    ⟨s.nn, fun a m => ⟨s.a0 a m, fun q => s.l0 l hl (q ▸ m)⟩, fun a m => s.l0 a m.1, fun a m => s.bb a m.1, s.fr, fun a m => s.lm a m.1, s.sm, s.pn⟩⟩
  · by_cases q : i = j
    · subst q
      have hi : i < G.length := (List.getElem?_eq_some_iff.mp h).1
      rw [List.getElem?_set_self hi] at e'
      cases e'
      exact ⟨_, e, _, rfl, (ho.off off).at_ fun m => m.2 rfl⟩
    · rw [List.getElem?_set_ne q] at e'
      obtain ⟨v, e1, h1⟩ := I.slot j t e'
      refine ⟨v, e1, ?_⟩
      cases t with
      | no => trivial
      | sh d => obtain ⟨x, e2, h⟩ := h1; exact ⟨x, e2, h.off off⟩
      | bo d =>
        obtain ⟨x, e2, h⟩ := h1
        refine ⟨x, e2, ?_⟩
        rcases h with h | ⟨l2, e3, n1, n2, h⟩
        · exact .inl (h.off off)
        · exact .inr ⟨l2, e3, n1, ⟨fun m => n2.1 m.1, n2.2, fun q => n2.1 (q ▸ hl)⟩, h.off off⟩
      | ow d2 =>
        obtain ⟨l2, e2, hl2, h2⟩ := h1
        refine ⟨l2, e2, ⟨hl2, fun z => ?_⟩, h2.off off⟩
        subst z
        subst e2
        exact q (I.dis i j _ _ l2 h e' e e1)
  · have nj : ∀ (j : Nat) (d' : D), (G.set i (Sl.sh d))[j]? = some (Sl.ow d') → i ≠ j := fun j d' e q => by
      subst q
      rw [List.getElem?_set_self (List.getElem?_eq_some_iff.mp h).1] at e
      cases e
    rw [List.getElem?_set_ne (nj j d1 e1)] at e1
    rw [List.getElem?_set_ne (nj k d2 e2)] at e2
    exact I.dis j k d1 d2 l' e1 e2 e3 e4
/-- ahead of a statement a name's own object is given free -/
def wfrz (i : Nat) (w : WS) : WS := fun G P => ∃ d, G[i]? = some (.ow d) ∧ w (G.set i (.sh d)) P
theorem ss_frz (i : Nat) (h : VSs X st p ss ws) : VSs X st p ss (wfrz i ws) := fun b hp => PSsmono (h b hp) fun Dn σ H ⟨G, P, S, ⟨d, e, hw⟩, po⟩ => ⟨_, P, S.freeze e, hw, po⟩
/-! ### changing an own object -/
theorem EI.put {F : Foot} {G : Ga} {σ : L2.St} {H : Hp} {i : Nat} {l : Addr} {d d' : D} {o : HO} (I : EI st F G σ H) (h : G[i]? = some (.ow d)) (hv : σ[i]? = some (some (.ref l))) (hn : OwnAt st F.A (upd H l o) l d') : EI st F (G.set i (.ow d')) σ (upd H l o) := by
  obtain ⟨v, e, l2, rfl, hl, ho⟩ := I.slot i _ h
  rw [hv] at e
  cases e
  have f : Fr (fun a => a = l) H (upd H l o) := Fr.set rfl
  have hm : ∀ a, a = l → F.A a := fun a q => by rw [q]; exact I.la l hl
  have hi : HI st (upd H l o) := I.hi.off f fun a q m => I.ln l hl (I.sn l (q ▸ m))
  refine ⟨I.toFOk.step f hi, by rw [List.length_set]; exact I.len, fun j t e' => ?_, fun j k d1 d2 l' e1 e2 e3 e4 => ?_⟩
  · by_cases q : i = j
    · subst q
      rw [List.getElem?_set_self (List.getElem?_eq_some_iff.mp h).1] at e'
      cases e'
      exact ⟨_, hv, l, rfl, hl, hn⟩
    · rw [List.getElem?_set_ne q] at e'
      obtain ⟨v, e1, h1⟩ := I.slot j t e'
      refine ⟨v, e1, ?_⟩
      cases t with
      | no => trivial
      | sh d => obtain ⟨x, e2, h⟩ := h1; exact ⟨x, e2, h.step f hm⟩
      | bo d =>
        obtain ⟨x, e2, h⟩ := h1
        refine ⟨x, e2, ?_⟩
        rcases h with h | ⟨l2, e3, n1, n2, h⟩
        · exact .inl (h.step f hm)
        · exact .inr ⟨l2, e3, n1, n2, h.step f hm fun q => n2.1 (q ▸ hl)⟩
      | ow d2 =>
        obtain ⟨l2, e2, hl2, h2⟩ := h1
        subst e2
        exact ⟨l2, rfl, hl2, h2.step f hm fun z => q (I.dis i j _ _ l h e' hv (z ▸ e1))⟩
  · have back : ∀ (j : Nat) (d1 : D), (G.set i (Sl.ow d'))[j]? = some (Sl.ow d1) → ∃ d0 : D, G[j]? = some (Sl.ow d0) := fun j d1 e => by
      by_cases q : i = j
      · exact ⟨d, q ▸ h⟩
      · rw [List.getElem?_set_ne q] at e
        exact ⟨d1, e⟩
    obtain ⟨d3, e1⟩ := back j d1 e1
    obtain ⟨d4, e2⟩ := back k d2 e2
    exact I.dis j k d3 d4 l' e1 e2 e3 e4
theorem SF.put {b : Bs} {F : Foot} {σ : L2.St} {H : Hp} {l : Addr} {o : HO} (s : SF st b F σ H) (hl : F.L l) : SF st b F σ (upd H l o) := by
  refine ⟨s.nn, s.a0, s.l0, s.bb, ⟨fun c u m e => ?_, fun c e => s.fr.dom c ((Fr.set (M := fun a => a = l) rfl : Fr _ H (upd H l o)).dom c e)⟩, s.lm, s.sm, s.pn⟩
  by_cases q : c = l
  · subst q
    rcases s.lm c hl with z | z
    · exact absurd z m
    · rw [z] at e; cases e
  · rw [upd_ne q]
    exact s.fr.keep c u m e
end
end VL
/-! text VLd -/
/-! VLd: what is walked, for, while, comprehensions at data. -/
namespace VL
open PySem PySem.Spec PyProof.Rows L2
def slM (st : Sto) (F : Foot) : Set_ := fun a => isSt st a ∨ F.L a
/-- an iterator made when the heap was H1, with the items ds, for as long as no more than the own objects change -/
structure ItOk (st : Sto) (F : Foot) (J : It) (ds : List D) (H1 : Hp) : Prop where
  go : ∀ (i : Nat) H', Fr (slM st F) H1 H' → i < ds.length → J.go i H'
  stop : ∀ H', Fr (slM st F) H1 H' → J.stop ds.length H'
  yld : ∀ (A' : Set_) (i : Nat) H' x H'', i < ds.length → Fr (slM st F) H1 H' → HI st H' → (∀ a, A' a → F.A a ∨ H1 a = none) → (∀ a, A' a → H' a ≠ none) → J.yld i H' x H'' → Fx st H' H'' ∧ ∃ d, ds[i]? = some d ∧ At st A' H'' x d
abbrev WI := Ga → (List D → Prop) → Prop
def tI (st : Sto) (w : WI) : TI := fun σ H R => ∃ F G Rd, EI st F G σ H ∧ w G Rd ∧ ∀ ds J H1, Rd ds → Fx st H H1 → ItOk st F J ds H1 → R J H1
abbrev VI (X : Cx) (st : Sto) (tg iter : Expr) (w : WI) : Prop := PI X tg iter (tI st w)
theorem PImono {X : Cx} {tg e : Expr} {t t' : TI} (h : PI X tg e t) (k : ∀ σ H R, t' σ H R → t σ H R) : PI X tg e t' := ⟨fun pins s σ H R I q => h.run pins s σ H R I (k σ H R q)⟩
theorem sl_A {st : Sto} {F : Foot} {H : Hp} (o : FOk st F H) : ∀ a, slM st F a → F.A a := fun a m => m.elim (o.sa a) (o.la a)
/-- what stood off at the start stands off later, off what came since -/
theorem At.later {st : Sto} {F : Foot} {A' : Set_} {H1 H' : Hp} {v : V} {d : D} (o : FOk st F H1) (f : Fr (slM st F) H1 H') (h : At st F.A H1 v d) (off : ∀ a, A' a → F.A a ∨ H1 a = none) : At st A' H' v d :=
  At.off (A := fun a => F.A a ∨ A' a) (fun a m => .inl (.inr m)) (At.step f (fun a m => .inl (sl_A o a m)) (At.off (A := F.A) (fun a m => m.elim .inl (off a)) h))
section
variable {X : Cx} {st : Sto} {tg e : Expr} {w : WE} {pos : Pos}
def wil (w : WE) : WI := fun G R => w G fun d => match d with
  | .lst ds => R ds
  | _ => False
def wit (w : WE) : WI := fun G R => w G fun d => match d with
  | .tup ds => R ds
  | _ => False
theorem itl_ok {F : Foot} {H : Hp} {a : Addr} {vs : List V} {ds : List D} {K : PySem.W.Frag} (o : FOk st F H) (na : ¬ F.A a) (ha : H a = some (.lst vs)) (hs : AtAll st F.A H vs ds) : ItOk st F (Itl K a) ds H := by
  have keep : ∀ H', Fr (slM st F) H H' → H' a = some (.lst vs) := fun H' f => f.keep _ _ (fun m => na (sl_A o a m)) ha
  have hl := hs.length
  refine ⟨fun i H' f hi => ?_, fun H' f => ⟨vs, .of (keep H' f), by rw [hl]; exact Nat.le_refl _⟩, fun A' i H' x H'' hlt f hi off lv y => ?_⟩
  · exact ⟨vs, vs[i]'(by rw [hl]; exact hi), .of (keep H' f), by simp [hl, hi]⟩
  · obtain ⟨rfl, y⟩ := y
    have hx := y vs (.of (keep _ f))
    obtain ⟨d, e, h⟩ := hs.getV hx
    exact ⟨.refl hi, d, e, h.later o f off⟩
theorem itt_ok {F : Foot} {H : Hp} {a : Addr} {vs : List V} {ds : List D} {K : PySem.W.Frag} (o : FOk st F H) (na : ¬ F.A a) (ha : H a = some (.tup vs)) (hs : AtAll st F.A H vs ds) : ItOk st F (Itt K a) ds H := by
  have keep : ∀ H', Fr (slM st F) H H' → H' a = some (.tup vs) := fun H' f => f.keep _ _ (fun m => na (sl_A o a m)) ha
  have hl := hs.length
  refine ⟨fun i H' f hi => ?_, fun H' f => ⟨vs, .of (keep H' f), by rw [hl]; exact Nat.le_refl _⟩, fun A' i H' x H'' hlt f hi off lv y => ?_⟩
  · exact ⟨vs, vs[i]'(by rw [hl]; exact hi), .of (keep H' f), by simp [hl, hi]⟩
  · obtain ⟨rfl, y⟩ := y
    have hx := y vs (.of (keep _ f))
    obtain ⟨d, e, h⟩ := hs.getV hx
    exact ⟨.refl hi, d, e, h.later o f off⟩
theorem i_list (h : VE X st e w) : VI X st tg e (wil w) := PImono (pi_list h) fun σ H R ⟨F, G, Rd, I, hw, k⟩ => tE.bind I hw fun d v H1 r1 I1 f1 q1 => by
  cases d <;> first
    | (simp only [At] at q1
       obtain ⟨a, vs, rfl, na, ha, hs⟩ := q1
       exact ⟨a, rfl, ⟨vs, .of ha⟩, k _ _ H1 r1 f1 (itl_ok I1.toFOk na ha hs)⟩)
    | exact r1.elim
theorem i_tup (h : VE X st e w) : VI X st tg e (wit w) := PImono (pi_tup h) fun σ H R ⟨F, G, Rd, I, hw, k⟩ => tE.bind I hw fun d v H1 r1 I1 f1 q1 => by
  cases d <;> first
    | (simp only [At] at q1
       obtain ⟨a, vs, rfl, na, ha, hs⟩ := q1
       exact ⟨a, rfl, ⟨vs, .of ha⟩, k _ _ H1 r1 f1 (itt_ok I1.toFOk na ha hs)⟩)
    | exact r1.elim
/-- lo, lo + 1, .. -/
def rng (lo hi : Int) : List D := (List.range (hi - lo).toNat).map fun i => .int (lo + (i : Nat))
theorem itr_ok {F : Foot} {H : Hp} {lo : Int} {n : Nat} {ds : List D} (e : ds = (List.range n).map fun i => D.int (lo + (i : Nat))) : ItOk st F (Itr lo n) ds H := by
  subst e
  refine ⟨fun i H' f hi => (by simpa using hi : i < n), fun H' f => (by simp : n ≤ ((List.range n).map fun i => D.int (lo + (i : Nat))).length), fun A' i H' x H'' hlt f hi off lv y => ?_⟩
  obtain ⟨rfl, rfl⟩ := y
  have hn : i < n := by simpa using hlt
  exact ⟨.refl hi, .int (lo + i), by simp [hn], at_int⟩
def wir1 (wa : WA) : WI := fun G R => wa G fun as => match as with
  | [.sh (.int j)] => (-100000 ≤ j ∧ j ≤ 100000) ∧ R (rng 0 j)
  | _ => False
def wir2 (wa : WA) : WI := fun G R => wa G fun as => match as with
  | [.sh (.int i), .sh (.int j)] => (-100000 ≤ i ∧ i ≤ 100000 ∧ -100000 ≤ j ∧ j ≤ 100000) ∧ R (rng i j)
  | _ => False
theorem ar1 {A : Set_} {H : Hp} {vs : List V} {t : Sl} (h : ArAll st A H vs [t]) : ∃ v, vs = [v] ∧ ArAt st A H v t := by
  cases h with
  | cons h k => cases k; exact ⟨_, rfl, h⟩
theorem ar2 {A : Set_} {H : Hp} {vs : List V} {t u : Sl} (h : ArAll st A H vs [t, u]) : ∃ v w, vs = [v, w] ∧ ArAt st A H v t ∧ ArAt st A H w u := by
  cases h with
  | cons h k =>
    obtain ⟨w, e, k2⟩ := ar1 k
    subst e
    exact ⟨_, _, rfl, h, k2⟩
theorem tI_r1 {r : WA} : ∀ σ H R, tI st (wir1 r) σ H R → iRng1 (tA st r) σ H R := fun σ H R ⟨F, G, Rd, I, hw, k⟩ => tA.bind I hw fun as vs H1 r1 I1 f1 q1 => by
  split at r1
  · rename_i j
    obtain ⟨v, rfl, h⟩ := ar1 q1
    have e : v = .int j := At.imm h rfl
    subst e
    refine ⟨j, rfl, by omega, by omega, k _ _ H1 r1.2 f1 (itr_ok (by unfold rng; simp))⟩
  · exact r1.elim
theorem tI_r2 {r : WA} : ∀ σ H R, tI st (wir2 r) σ H R → iRng2 (tA st r) σ H R := fun σ H R ⟨F, G, Rd, I, hw, k⟩ => tA.bind I hw fun as vs H1 r1 I1 f1 q1 => by
  split at r1
  · rename_i i j
    obtain ⟨v, u, rfl, h, h'⟩ := ar2 q1
    have e : v = .int i := At.imm h rfl
    have e' : u = .int j := At.imm h' rfl
    subst e
    subst e'
    refine ⟨i, j, rfl, ⟨by omega, by omega, by omega, by omega⟩, k _ _ H1 r1.2 f1 (itr_ok rfl)⟩
  · exact r1.elim
/-! ### for -/
def wfor (wi : WI) (g : WG) (wb : WS) : WS := fun G P => wi G fun ds => ∃ I : Nat → Ga → Prop, I 0 G ∧
  (∀ (i : Nat) d G', ds[i]? = some d → I i G' → g d G' fun G2 => wb G2 { nx := I (i + 1), ct := I (i + 1), bk := P.nx, rt := P.rt }) ∧ ∀ G', I ds.length G' → P.nx G'
def bsOf (st : Sto) (b : Bs) (F : Foot) (H : Hp) : Bs := ⟨b.A0, F.A, slM st F, H, b.pin⟩
theorem SF.start {b : Bs} {F : Foot} {σ : L2.St} {H : Hp} (s : SF st b F σ H) : SF st (bsOf st b F H) F σ H :=
  ⟨s.nn, s.a0, s.l0, fun a m => .inl m, .refl, fun a m => .inl (.inr m), fun a m => .inl m, s.pn⟩
theorem SF.fr2 {b : Bs} {F : Foot} {σ : L2.St} {H1 H : Hp} (s : SF st b F σ H1) (f : Fr (slM st F) H1 H) : Fr b.M b.H0 H := by
  refine ⟨fun c u m e => f.keep c u (fun q => ?_) (s.fr.keep c u m e), fun c e => s.fr.dom c (f.dom c e)⟩
  rcases q with q | q
  · exact m (s.sm c q)
  · rcases s.lm c q with z | z
    · exact m z
    · rw [z] at e; cases e
theorem SX.back {b : Bs} {F : Foot} {G : Ga} {σ σ1 : L2.St} {H1 H : Hp} (s : SF st b F σ1 H1) (S : SX st (bsOf st b F H1) G σ H) : SX st b G σ H := by
  obtain ⟨F', I, s'⟩ := S
  refine ⟨F', I, s'.nn, s'.a0, s'.l0, fun a m => ?_, s.fr2 s'.fr, fun a m => ?_, s.sm, s'.pn⟩
  · rcases s'.bb a m with z | z
    · exact s.bb a z
    · exact .inr (s.fr.dom a z)
  · rcases s'.lm a m with (z | z) | z
    · exact .inl (s.sm a z)
    · exact s.lm a z
    · exact .inr (s.fr.dom a z)
theorem tS_for {b : Bs} {p : Bool} {wi : WI} {g : WG} {is : List Nat} {wb : WS} (hp : p = false → b.pin = none) (hz0 : p = true → 0 ∉ is) : ∀ Dn σ H, tS st b (wfor wi g wb) Dn σ H → ∀ tb : TS, (∀ b Dn σ H, (p = false → b.pin = none) → tS st b wb Dn σ H → tb Dn σ H) → tFor (tI st wi) (tG st is g) tb Dn σ H := by
  intro Dn σ H ⟨G, P, ⟨F, I, sf⟩, hw, po⟩ tb htb
  refine ⟨F, G, _, I, hw, fun ds J H1 hI f1 ok => ?_⟩
  obtain ⟨Iv, h0, hs, hd⟩ := hI
  have I1 := I.fx f1
  have sf1 := sf.fx f1
  refine ⟨fun i m σ H => m = ds.length - i ∧ i ≤ ds.length ∧ ∃ G', Iv i G' ∧ SX st (bsOf st b F H1) G' σ H, ⟨ds.length, by simp, Nat.zero_le _, G, h0, F, I1, sf1.start⟩, ?_⟩
  rintro i m σ H ⟨rfl, hi, G', hv, S⟩
  obtain ⟨F', I', s'⟩ := id S
  by_cases hlt : i < ds.length
  · refine .inr ⟨ok.go i H s'.fr hlt, fun σ H => ∃ G', Iv (i + 1) G' ∧ SX st (bsOf st b F H1) G' σ H, fun σ2 H2 ⟨G2, h2, S2⟩ => ⟨ds.length - (i + 1), by omega, rfl, hlt, G2, h2, S2⟩, fun x H2 y => ?_⟩
    obtain ⟨f2, d, e, hx⟩ := ok.yld F'.A i H x H2 hlt s'.fr I'.hi s'.bb I'.live y
    refine ⟨F', G', d, _, I'.fx f2, hx, hs i d G' e hv, fun G2 σ2 r2 I2 o2 => htb (bsOf st b F H1) _ _ _ hp ⟨G2, _, ⟨F', I2, (s'.fx f2).off (is := is) (pin_off hp hz0 o2)⟩, r2, ?_⟩⟩
    exact ⟨fun G3 σ3 H3 q S3 => ⟨G3, q, S3⟩, fun d v H3 q f3 h3 a3 => po.rt d v H3 q (sf1.fr2 f3) h3 a3, fun G3 σ3 H3 q S3 => po.nx G3 σ3 H3 q (S3.back sf1), fun G3 σ3 H3 q S3 => ⟨G3, q, S3⟩⟩
  · have e : i = ds.length := by omega
    subst e
    exact .inl ⟨ok.stop H s'.fr, po.nx G' σ H (hd G' hv) (S.back sf1)⟩
theorem s_for {p : Bool} {iter : Expr} {body : List Stmt} {wi : WI} {g : WG} {is : List Nat} {wb : WS} (hp : PassesOwn (model X.prog X.w) X.A X.env X.xe) (hc : X.calm = true) (hi : VI X st tg iter wi) (hg : VG X st tg is g) (hb : VSs X st p body wb) (h0 : p = true → 0 ∉ is := by first | decide | (intro h; cases h)) (hs : ∀ x, foldedSetIterable iter X.env x = pure x := by intro _; rfl) :
    VS X st p (.For tg iter body [] pos) (wfor wi g wb) := by
  intro b hpb
  have hb' : PSs X body fun Dn σ H => ∃ b : Bs, (p = false → b.pin = none) ∧ tS st b wb Dn σ H := ⟨fun pins s σ H D I ⟨b, h, q⟩ => (hb b h).run pins s σ H D I q⟩
  exact PSmono (ps_for hp hc hi hg hb' hs) fun Dn σ H q => tS_for hpb h0 Dn σ H q _ fun b Dn σ H h q => ⟨b, h, q⟩
/-- while: a word with a number that falls -/
def wwhile (c : WT) (wb : WS) : WS := fun G P => ∃ I : Nat → Ga → Prop, (∃ m, I m G) ∧ ∀ m G', I m G' → c G' fun t => if t = true then wb G' { nx := fun G2 => ∃ m', m' < m ∧ I m' G2, ct := fun G2 => ∃ m', m' < m ∧ I m' G2, bk := P.nx, rt := P.rt } else P.nx G'
theorem s_while {p : Bool} {c : Expr} {body : List Stmt} {tc : WT} {wb : WS} (hp : PassesOwn (model X.prog X.w) X.A X.env X.xe) (hc : VT X st c tc) (hb : VSs X st p body wb) : VS X st p (.While c body [] pos) (wwhile tc wb) := fun b hpb =>
  PSmono (ps_while hp hc (hb b hpb)) fun Dn σ H ⟨G, P, S, ⟨Iv, ⟨m0, h0⟩, hs⟩, po⟩ => by
    refine ⟨fun m σ H => ∃ G', Iv m G' ∧ SX st b G' σ H, ⟨m0, G, h0, S⟩, fun m σ H ⟨G', hv, F, I, sf⟩ => ?_⟩
    refine tT.bind I (hs m G' hv) fun t H1 r1 I1 f1 => ?_
    cases t with
    | true =>
      rw [if_pos rfl] at r1 ⊢
      exact ⟨fun σ H => ∃ G', (∃ m', m' < m ∧ Iv m' G') ∧ SX st b G' σ H, fun σ2 H2 ⟨G2, ⟨m', l, h2⟩, S2⟩ => ⟨m', l, G2, h2, S2⟩,
        G', _, ⟨F, I1, sf.fx f1⟩, r1, fun G2 σ2 H2 q S2 => ⟨G2, q, S2⟩, po.rt, po.nx, fun G2 σ2 H2 q S2 => ⟨G2, q, S2⟩⟩
    | false =>
      rw [if_neg (by decide)] at r1 ⊢
      exact po.nx G' σ H1 r1 ⟨F, I1, sf.fx f1⟩
/-! ### comprehensions -/
def wipeG (G : Ga) : List Nat → Ga
  | [] => G
  | v :: vs => (wipeG G vs).set v .no
theorem EI.clear {F : Foot} {G : Ga} {σ : L2.St} {H : Hp} {i : Nat} (I : EI st F G σ H) : EI st F (G.set i .no) (σ.set i none) H := by
  have nj : ∀ (j : Nat) (d : D), (G.set i Sl.no)[j]? = some (Sl.ow d) → i ≠ j := fun j d e q => by
    subst q
    have hi : i < G.length := by
      have := (List.getElem?_eq_some_iff.mp e).1
      rwa [List.length_set] at this
    rw [List.getElem?_set_self hi] at e
    cases e
  refine ⟨I.toFOk, by rw [List.length_set, List.length_set]; exact I.len, fun j t e => ?_, fun j k d1 d2 l e1 e2 e3 e4 => ?_⟩
  · by_cases q : i = j
    · subst q
      have hi : i < G.length := by
        have := (List.getElem?_eq_some_iff.mp e).1
        rwa [List.length_set] at this
      rw [List.getElem?_set_self hi] at e
      cases e
      exact ⟨none, by rw [List.getElem?_set_self (by rw [I.len]; exact hi)], trivial⟩
    · rw [List.getElem?_set_ne q] at e ⊢
      exact I.slot j t e
  · have h1 := nj j d1 e1
    have h2 := nj k d2 e2
    rw [List.getElem?_set_ne h1] at e1 e3
    rw [List.getElem?_set_ne h2] at e2 e4
    exact I.dis j k d1 d2 l e1 e2 e3 e4
theorem EI.wipe {F : Foot} {G : Ga} {σ : L2.St} {H : Hp} (I : EI st F G σ H) : ∀ vs : List Nat, EI st F (wipeG G vs) (L2.wipe σ vs) H
  | [] => I
  | v :: vs => (I.wipe vs).clear
theorem wipe_at {σ : L2.St} {j : Nat} : ∀ {vs : List Nat}, (L2.wipe σ vs)[j]? = if j ∈ vs then (if j < σ.length then some none else none) else σ[j]?
  | [] => by simp [L2.wipe]
  | v :: vs => by
    unfold L2.wipe
    rw [List.getElem?_set]
    by_cases q : v = j
    · subst q
      simp [L2.wipe_length]
    · rw [if_neg q, wipe_at (vs := vs)]
      have q' : ¬ j = v := fun e => q e.symm
      simp only [List.mem_cons, q', false_or]
theorem wipe_off {σ σ2 : L2.St} {vs is : List Nat} (h : ∀ i ∈ is, i ∈ vs) (o : Off is (L2.wipe σ vs) σ2) : L2.wipe σ2 vs = L2.wipe σ vs := by
  apply List.ext_getElem?
  intro j
  rw [wipe_at, wipe_at]
  have hl : σ2.length = σ.length := by rw [o.1, L2.wipe_length]
  rw [hl]
  by_cases q : j ∈ vs
  · rw [if_pos q, if_pos q]
  · rw [if_neg q, if_neg q, o.2 j (fun z => q (h j z)), wipe_at, if_neg q]
/-- the foot, with what is being made -/
def F_new (F : Foot) (p : Addr) : Foot := ⟨pl F.N p, pl F.A p, F.L⟩
theorem EI.new {F : Foot} {G : Ga} {σ : L2.St} {H : Hp} {p : Addr} {o : HO} (I : EI st F G σ H) (hp : H p = none) : EI st (F_new F p) G σ (upd H p o) := by
  have np : ¬ F.A p := I.fresh hp
  have f : Fr (isSt st) H (upd H p o) := Fr.new hp
  have hm : ∀ a, isSt st a → (pl F.A p) a := fun a m => .inl (I.sa a m)
  refine ⟨⟨fun a m z => z.elim (I.ln a m) fun q => np (I.la p (q ▸ m)), fun a m => .inl (I.la a m), fun a m => m.elim (fun z => .inl (I.na a z)) .inr, fun a m => .inl (I.sn a m), fun a m => m.elim (fun z => f.live (I.live a z)) fun q => by rw [q, upd_same]; simp, I.hi.new hp⟩, I.len, fun j t e => ?_, I.dis⟩
  obtain ⟨v, e1, h1⟩ := I.slot j t e
  refine ⟨v, e1, ?_⟩
  cases t with
  | no => trivial
  | sh d => obtain ⟨x, e2, h⟩ := h1; exact ⟨x, e2, (h.off (plo hp)).step f hm⟩
  | bo d =>
    obtain ⟨x, e2, h⟩ := h1
    refine ⟨x, e2, ?_⟩
    rcases h with h | ⟨l, e3, n1, n2, h⟩
    · exact .inl ((h.off (plo hp)).step f hm)
    · exact .inr ⟨l, e3, fun m => m.elim n1 fun q => h.live (by rw [q]; exact hp), ⟨n2.1, .inl n2.2⟩, (h.off (plo hp)).step f hm fun m => n1 (I.sn l (.of m))⟩
  | ow d =>
    obtain ⟨l, e2, hl, h⟩ := h1
    exact ⟨l, e2, hl, (h.off (plo hp)).step f hm fun m => I.ln l hl (I.sn l (.of m))⟩
/-- what a new thing at p has been through since H1 -/
structure Mid (st : Sto) (F : Foot) (H1 : Hp) (p : Addr) (G : Ga) (σ : L2.St) (H : Hp) : Prop where
  ei : EI st (F_new F p) G σ H
  fr : Fr (isSt st) H1 H
def wlc (vs : List Nat) (wi : WI) (g : WG) (tt : WT) (te : WE) : WE := fun G R => wi G fun ds => ds.length ≤ 1000 ∧ ∃ I : Nat → List D → Prop, I 0 [] ∧
  (∀ (i : Nat) d acc, ds[i]? = some d → I i acc → g d (wipeG G vs) fun G2 => tt G2 fun b => if b = true then te G2 fun y => I (i + 1) (acc ++ [y]) else I (i + 1) acc) ∧ ∀ acc, I ds.length acc → R (.lst acc)
theorem Mid.upd {F : Foot} {H1 : Hp} {p : Addr} {G : Ga} {σ : L2.St} {H : Hp} {o : HO} (m : Mid st F H1 p G σ H) (o1 : FOk st F H1) (hp : H1 p = none) : Mid st F H1 p G σ (L2.upd H p o) := by
  have f : Fr (fun a => a = p) H (L2.upd H p o) := Fr.set rfl
  have hs : ∀ a, a = p → ¬ inSt st a := fun a q z => o1.live a (o1.na a (o1.sn a z)) (by rw [q]; exact hp)
  refine ⟨m.ei.step f (fun a q => .inr q) (m.ei.hi.off f hs), ⟨fun b u nb e => ?_, fun b e => m.fr.dom b (f.dom b e)⟩⟩
  have nb' : b ≠ p := fun q => by rw [q, hp] at e; cases e
  rw [upd_ne nb']
  exact m.fr.keep b u nb e
theorem Mid.fx {F : Foot} {H1 : Hp} {p : Addr} {G G2 : Ga} {σ σ2 : L2.St} {H H2 : Hp} (m : Mid st F H1 p G σ H) (f : Fx st H H2) : Mid st F H1 p G σ H2 := ⟨m.ei.fx f, m.fr.trans f.fr⟩
theorem Mid.off {F : Foot} {H1 : Hp} {p : Addr} (hp : H1 p = none) : ∀ a, (F_new F p).A a → F.A a ∨ H1 a = none := fun a m => m.elim .inl fun q => .inr (by rw [q]; exact hp)
def tests : Ga → WT → (Bool → Prop) → Prop := fun G t R => t G R
def tTs (st : Sto) (w : WT) : TT := tT st w
abbrev VTs (X : Cx) (st : Sto) (ifs : List Expr) (w : WT) : Prop := PTs X ifs (tT st w)
def wyes : WT := fun _ R => R true
theorem PTsmono {X : Cx} {e : List Expr} {t t' : TT} (h : PTs X e t) (k : ∀ σ H Q, t' σ H Q → t σ H Q) : PTs X e t' := ⟨fun pins s σ H Q I q => h.run pins s σ H Q I (k σ H Q q)⟩
theorem ts_nil : VTs X st [] wyes := PTsmono pts_nil fun σ H Q ⟨F, G, R, I, hw, k⟩ => k true H hw (.refl I.hi)
theorem ts_one {c : Expr} {t : WT} (h : VT X st c t) : VTs X st [c] t := pts_one h
theorem tF_lc {vs is : List Nat} {wi : WI} {g : WG} {tt : WT} {te : WE} (his : ∀ i ∈ is, i ∈ vs) : ∀ σ H Q, tF st (wlc vs wi g tt te) σ H Q → tLc (tI st wi) (tG st is g) (tT st tt) (tE st te) vs σ H Q := by
  intro σ H Q ⟨F, G, R, I, hw, k⟩
  refine ⟨F, G, _, I, hw, fun ds J H1 hI f1 ok Dl hD => ?_⟩
  obtain ⟨hz, Iv, h0, hs, hd⟩ := hI
  have I1 := I.fx f1
  refine ⟨fun i m H => m = ds.length - i ∧ i ≤ ds.length ∧ ∃ acc us, Iv i acc ∧ acc.length ≤ i ∧ Mid st F H1 Dl (wipeG G vs) (L2.wipe σ vs) H ∧ H Dl = some (.lst us) ∧ AtAll st (F_new F Dl).A H us acc,
    ⟨ds.length, by simp, Nat.zero_le _, [], [], h0, Nat.le_refl _, ⟨(I1.wipe vs).new hD, Fr.new hD⟩, upd_same, .nil⟩, ?_⟩
  rintro i m H ⟨rfl, hi, acc, us, hv, hl, mid, hu, ha⟩
  have frM : Fr (slM st F) H1 H := mid.fr.weak fun a m => .inl m
  by_cases hlt : i < ds.length
  · refine .inr ⟨ok.go i H frM hlt, fun H' => ∃ acc us, Iv (i + 1) acc ∧ acc.length ≤ i + 1 ∧ Mid st F H1 Dl (wipeG G vs) (L2.wipe σ vs) H' ∧ H' Dl = some (.lst us) ∧ AtAll st (F_new F Dl).A H' us acc, fun H' q => ⟨ds.length - (i + 1), by omega, rfl, hlt, q⟩, fun x H2 y => ?_⟩
    obtain ⟨f2, d, e, hx⟩ := ok.yld (F_new F Dl).A i H x H2 hlt frM mid.ei.hi (Mid.off hD) mid.ei.live y
    have nD : ¬ isSt st Dl := fun z => I1.live Dl (I1.sa Dl z) hD
    have m2 : Mid st F H1 Dl (wipeG G vs) (L2.wipe σ vs) H2 := mid.fx (G2 := G) (σ2 := σ) f2
    refine ⟨F_new F Dl, wipeG G vs, d, _, m2.ei, hx, hs i d acc e hv, fun G2 σ2 r2 I2 o2 => ⟨wipe_off his o2, ?_⟩⟩
    refine tT.bind I2 r2 fun b H3 r3 I3 f3 => ?_
    have f13 := f2.trans f3
    have m3 : Mid st F H1 Dl (wipeG G vs) (L2.wipe σ vs) H3 := mid.fx (G2 := G) (σ2 := σ) f13
    cases b with
    | true =>
      rw [if_pos rfl] at r3 ⊢
      refine tE.bind I3 r3 fun y v H4 r4 I4 f4 q4 => ?_
      have f14 := f13.trans f4
      have m4 : Mid st F H1 Dl (wipeG G vs) (L2.wipe σ vs) H4 := mid.fx (G2 := G) (σ2 := σ) f14
      have hz2 : us.length < sizeLine := by rw [ha.length]; exact Nat.lt_of_le_of_lt hl (small1000 (by omega))
      have fD : Fr (fun a => a = Dl) H4 (L2.upd H4 Dl (.lst (us ++ [v]))) := Fr.set rfl
      refine ⟨us, f14.fr.keep _ _ nD hu, hz2, acc ++ [y], us ++ [v], r4, by rw [List.length_append]; simp; omega, m4.upd I1.toFOk hD, upd_same, ?_⟩
      exact ((ha.step f14.fr mid.ei.sa).app (.one q4)).step fD fun a q => .inr q
    | false =>
      rw [if_neg (by decide)] at r3 ⊢
      exact ⟨acc, us, r3, by omega, m3, f13.fr.keep _ _ nD hu, ha.step f13.fr mid.ei.sa⟩
  · have e : i = ds.length := by omega
    subst e
    exact .inl ⟨ok.stop H frM, k (.lst acc) Dl H (hd acc hv) (f1.trans ⟨mid.fr, mid.ei.hi⟩) (f1.fr.dom Dl hD) ⟨us, hu, ha⟩⟩
/-! ### dicts -/
section
variable {α β : Type}
def dget (ks : List Str) (vs : List α) (k : Str) : Option α := ((ks.zip vs).find? fun p => decide (p.1 = k)).map (·.2)
def dputK (ks : List Str) (k : Str) : List Str := if k ∈ ks then ks else ks ++ [k]
def dputV (ks : List Str) (vs : List α) (k : Str) (v : α) : List α := if k ∈ ks then (ks.zip vs).map (fun p => if p.1 = k then v else p.2) else vs ++ [v]
theorem dputV_length {ks : List Str} {vs : List α} {k : Str} {v : α} (h : ks.length = vs.length) : (dputV ks vs k v).length = (dputK ks k).length := by
  unfold dputV dputK
  split <;> simp [h]
end
theorem kz_get : ∀ (ks : List Str) (vs : List V) (k : Str), valV (kz ks vs) (Sum.inr k) = dget ks vs k
  | [], vs, k => by simp [kz, dget, valV]
  | _ :: _, [], k => by simp [kz, dget, valV]
  | x :: ks, v :: vs, k => by
    have ih := kz_get ks vs k
    have e : kz (x :: ks) (v :: vs) = (Sum.inr x, v) :: kz ks vs := rfl
    rw [e]
    by_cases q : x = k
    · subst q
      rw [valV_pos rfl]
      simp [dget]
    · rw [valV_neg (by intro z; exact q (Sum.inr.inj z)), ih]
      simp [dget, q]
theorem kz_any (ks : List Str) (vs : List V) (k : Str) (h : ks.length = vs.length) : ((kz ks vs).any fun kv => decide (kv.1 = Sum.inr k)) = decide (k ∈ ks) := by
  induction ks generalizing vs with
  | nil => simp [kz]
  | cons x ks ih =>
    cases vs with
    | nil => simp at h
    | cons v vs =>
      have e : kz (x :: ks) (v :: vs) = (Sum.inr x, v) :: kz ks vs := rfl
      rw [e, List.any_cons, ih vs (by simpa using h)]
      by_cases q : x = k
      · subst q; simp
      · have q1 : ¬ (Sum.inr x : Key) = Sum.inr k := fun z => q (Sum.inr.inj z)
        have q2 : ¬ k = x := fun z => q z.symm
        simp [q1, q2]
theorem kz_put (ks : List Str) (vs : List V) (k : Str) (v : V) (h : ks.length = vs.length) : putK (kz ks vs) (Sum.inr k) v = kz (dputK ks k) (dputV ks vs k v) := by
  unfold putK dputK dputV
  rw [kz_any ks vs k h]
  by_cases q : k ∈ ks
  · rw [if_pos (by simpa using q), if_pos q, if_pos q]
    clear q
    induction ks generalizing vs with
    | nil => simp [kz]
    | cons x ks ih =>
      cases vs with
      | nil => simp at h
      | cons w vs =>
        have e : ∀ (us : List V) (w : V), kz (x :: ks) (w :: us) = (Sum.inr x, w) :: kz ks us := fun _ _ => rfl
        rw [e, List.map_cons, ih vs (by simpa using h), List.zip_cons_cons, List.map_cons, e]
        by_cases q : x = k
        · subst q; simp
        · have q1 : ¬ (Sum.inr x : Key) = Sum.inr k := fun z => q (Sum.inr.inj z)
          simp [q, q1]
  · rw [if_neg (by simpa using q), if_neg q, if_neg q]
    unfold kz
    rw [List.map_append, List.zip_append (by simpa using h)]
    rfl
theorem AtAll.dget {A : Set_} {H : Hp} {ks : List Str} {vs : List V} {ds : List D} {k : Str} {d : D} (h : AtAll st A H vs ds) (e : VL.dget ks ds k = some d) : ∃ v, VL.dget ks vs k = some v ∧ At st A H v d := by
  induction ks generalizing vs ds with
  | nil => simp [VL.dget] at e
  | cons x ks ih =>
    cases ds with
    | nil => simp [VL.dget] at e
    | cons d' ds =>
      obtain ⟨v, r, rfl, h1, h2⟩ := h.uncons
      by_cases q : x = k
      · subst q
        simp [VL.dget] at e ⊢
        rw [← e]
        exact h1
      · have e' : VL.dget ks ds k = some d := by
          simp only [VL.dget, List.zip_cons_cons, List.find?_cons, decide_eq_false q] at e
          exact e
        obtain ⟨w, q1, q2⟩ := ih h2 e'
        refine ⟨w, ?_, q2⟩
        simp only [VL.dget, List.zip_cons_cons, List.find?_cons, decide_eq_false q]
        exact q1
theorem dget_some {α : Type} {ks : List Str} {vs : List α} {k : Str} (h : ks.length = vs.length) : (dget ks vs k).isSome = decide (k ∈ ks) := by
  induction ks generalizing vs with
  | nil => simp [dget]
  | cons x ks ih =>
    cases vs with
    | nil => simp at h
    | cons v vs =>
      by_cases q : x = k
      · subst q; simp [dget]
      · have e : dget (x :: ks) (v :: vs) k = dget ks vs k := by
          simp only [dget, List.zip_cons_cons, List.find?_cons, decide_eq_false q]
        have q2 : ¬ k = x := fun z => q z.symm
        rw [e, ih (by simpa using h)]
        simp [q2]
theorem AtAll.dput {A : Set_} {H : Hp} {ks : List Str} {vs : List V} {ds : List D} {k : Str} {v : V} {d : D} (h : AtAll st A H vs ds) (hl : ks.length = ds.length) (hv : At st A H v d) : AtAll st A H (dputV ks vs k v) (dputV ks ds k d) := by
  unfold dputV
  split
  · rename_i q
    clear q
    induction ks generalizing vs ds with
    | nil => exact .nil
    | cons x ks ih =>
      cases ds with
      | nil => simp at hl
      | cons d' ds =>
        obtain ⟨w, r, rfl, h1, h2⟩ := h.uncons
        rw [List.zip_cons_cons, List.zip_cons_cons, List.map_cons, List.map_cons]
        refine .mk ?_ (ih h2 (by simpa using hl))
        by_cases q : x = k
        · simp only [q, if_true]; exact hv
        · simp only [q, if_false]; exact h1
  · exact h.app (.one hv)
theorem kz_length {ks : List Str} {vs : List V} (h : ks.length = vs.length) : (kz ks vs).length = ks.length := by
  unfold kz
  rw [List.length_zip, List.length_map, ← h, Nat.min_self]
def wdc (vs : List Nat) (wi : WI) (g : WG) (tt : WT) (tk te : WE) : WE := fun G R => wi G fun ds => ds.length ≤ 1000 ∧ ∃ I : Nat → List Str → List D → Prop, I 0 [] [] ∧
  (∀ (i : Nat) d ks acc, ds[i]? = some d → I i ks acc → g d (wipeG G vs) fun G2 => tt G2 fun b => if b = true then tk G2 fun k => te G2 fun y => match k with
      | .str k => I (i + 1) (dputK ks k) (dputV ks acc k y)
      | _ => False
    else I (i + 1) ks acc) ∧ ∀ ks acc, I ds.length ks acc → R (.dic ks acc)
theorem tF_dc {vs is : List Nat} {wi : WI} {g : WG} {tt : WT} {tk te : WE} (his : ∀ i ∈ is, i ∈ vs) : ∀ σ H Q, tF st (wdc vs wi g tt tk te) σ H Q → tDc (tI st wi) (tG st is g) (tT st tt) (tE st tk) (tE st te) vs σ H Q := by
  intro σ H Q ⟨F, G, R, I, hw, k⟩
  refine ⟨F, G, _, I, hw, fun ds J H1 hI f1 ok Dl hD => ?_⟩
  obtain ⟨hz, Iv, h0, hs, hd⟩ := hI
  have I1 := I.fx f1
  refine ⟨fun i m H => m = ds.length - i ∧ i ≤ ds.length ∧ ∃ ks acc us, Iv i ks acc ∧ ks.length ≤ i ∧ ks.length = acc.length ∧ Mid st F H1 Dl (wipeG G vs) (L2.wipe σ vs) H ∧ H Dl = some (.dK (kz ks us)) ∧ AtAll st (F_new F Dl).A H us acc,
    ⟨ds.length, by simp, Nat.zero_le _, [], [], [], h0, Nat.le_refl _, rfl, ⟨(I1.wipe vs).new hD, Fr.new hD⟩, upd_same, .nil⟩, ?_⟩
  rintro i m H ⟨rfl, hi, ks, acc, us, hv, hl, hkl, mid, hu, ha⟩
  have frM : Fr (slM st F) H1 H := mid.fr.weak fun a m => .inl m
  by_cases hlt : i < ds.length
  · refine .inr ⟨ok.go i H frM hlt, fun H' => ∃ ks acc us, Iv (i + 1) ks acc ∧ ks.length ≤ i + 1 ∧ ks.length = acc.length ∧ Mid st F H1 Dl (wipeG G vs) (L2.wipe σ vs) H' ∧ H' Dl = some (.dK (kz ks us)) ∧ AtAll st (F_new F Dl).A H' us acc, fun H' q => ⟨ds.length - (i + 1), by omega, rfl, hlt, q⟩, fun x H2 y => ?_⟩
    obtain ⟨f2, d, e, hx⟩ := ok.yld (F_new F Dl).A i H x H2 hlt frM mid.ei.hi (Mid.off hD) mid.ei.live y
    have nD : ¬ isSt st Dl := fun z => I1.live Dl (I1.sa Dl z) hD
    have m2 : Mid st F H1 Dl (wipeG G vs) (L2.wipe σ vs) H2 := mid.fx (G2 := G) (σ2 := σ) f2
    refine ⟨F_new F Dl, wipeG G vs, d, _, m2.ei, hx, hs i d ks acc e hv, fun G2 σ2 r2 I2 o2 => ⟨wipe_off his o2, ?_⟩⟩
    refine tT.bind I2 r2 fun b H3 r3 I3 f3 => ?_
    have f13 := f2.trans f3
    have m3 : Mid st F H1 Dl (wipeG G vs) (L2.wipe σ vs) H3 := mid.fx (G2 := G) (σ2 := σ) f13
    cases b with
    | true =>
      rw [if_pos rfl] at r3 ⊢
      refine tE.bind I3 r3 fun kk kv H4 r4 I4 f4 q4 => ?_
      refine tE.bind I4 r4 fun y v H5 r5 I5 f5 q5 => ?_
      cases kk with
      | str kx =>
        have ek : kv = .str kx := q4.imm rfl
        subst ek
        have f15 := (f13.trans f4).trans f5
        have m5 : Mid st F H1 Dl (wipeG G vs) (L2.wipe σ vs) H5 := mid.fx (G2 := G) (σ2 := σ) f15
        have hlu : ks.length = us.length := by rw [ha.length]; exact hkl
        have hz2 : (kz ks us).length < sizeLine := by rw [kz_length hlu]; exact Nat.lt_of_le_of_lt hl (small1000 (by omega))
        have fD : Fr (fun a => a = Dl) H5 (L2.upd H5 Dl (.dK (putK (kz ks us) (Sum.inr kx) v))) := Fr.set rfl
        refine ⟨kz ks us, Sum.inr kx, rfl, f15.fr.keep _ _ nD hu, hz2, dputK ks kx, dputV ks acc kx y, dputV ks us kx v, r5, ?_, (dputV_length hkl).symm, m5.upd I1.toFOk hD, by rw [kz_put _ _ _ _ hlu]; exact upd_same, ?_⟩
        · unfold dputK
          split
          · omega
          · rw [List.length_append]; simp; omega
        · exact ((ha.step f15.fr mid.ei.sa).dput hkl q5).step fD fun a q => .inr q
      | _ => exact r5.elim
    | false =>
      rw [if_neg (by decide)] at r3 ⊢
      exact ⟨ks, acc, us, r3, by omega, hkl, m3, f13.fr.keep _ _ nD hu, ha.step f13.fr mid.ei.sa⟩
  · have e : i = ds.length := by omega
    subst e
    exact .inl ⟨ok.stop H frM, k (.dic ks acc) Dl H (hd ks acc hv) (f1.trans ⟨mid.fr, mid.ei.hi⟩) (f1.fr.dom Dl hD) ⟨us, hu, hkl, ha⟩⟩
end
end VL
/-! text VLe -/
/-! VLe: operators, built-in functions, own lists and dicts, at data. -/
namespace VL
open PySem PySem.Spec PyProof.Rows L2
section
variable {st : Sto} {K : PySem.W.Frag} {X : Cx}
/-! ### + - * // % ** and order -/
abbrev rAddA (K : PySem.W.Frag) : R2 := fun x y H Q => rI0 (fun i j => .int (i + j)) x y H Q ∨ (∃ i j, x = .str i ∧ y = .str j ∧ i.length + j.length ≤ sizeLine ∧ Q (.str (i ++ j)) H) ∨ rCat x y H Q ∨ rCatT K x y H Q
theorem op_addA : OpR X (binaryOp .Add) (rAddA X.K) := op_add.or (op_add_str.or (op_cat.or op_catT))
def oAdd : O2 := fun x y R => match x, y with
  | .int i, .int j => R (.int (i + j))
  | .str i, .str j => i.length + j.length ≤ 100000 ∧ R (.str (i ++ j))
  | .lst a, .lst b => a.length + b.length ≤ 100000 ∧ R (.lst (a ++ b))
  | .tup a, .tup b => (a ≠ [] ∧ b ≠ [] ∧ a.length + b.length ≤ 100000) ∧ R (.tup (a ++ b))
  | _, _ => False
theorem line5 {n : Nat} (h : n ≤ 100000) : n ≤ sizeLine := Nat.le_trans h (by decide)
theorem d_add : OpD st (rAddA K) oAdd := by
  intro F H x y v u R Q o hx hy hw k
  unfold oAdd at hw
  split at hw
  · rename_i i j
    have e1 : v = .int i := hx.imm rfl
    have e2 : u = .int j := hy.imm rfl
    subst e1 e2
    exact .inl ⟨i, j, rfl, rfl, k _ _ H hw (.refl o.hi) at_int⟩
  · rename_i i j
    have e1 : v = .str i := hx.imm rfl
    have e2 : u = .str j := hy.imm rfl
    subst e1 e2
    exact .inr (.inl ⟨i, j, rfl, rfl, line5 hw.1, k _ _ H hw.2 (.refl o.hi) at_str⟩)
  · rename_i a b
    obtain ⟨p, vs, rfl, h1, h2⟩ := hx.lst
    obtain ⟨q, us, rfl, h3, h4⟩ := hy.lst
    refine .inr (.inr (.inl ⟨p, q, vs, us, rfl, rfl, h1, h3, line5 (by rw [h2.length, h4.length]; exact hw.1), fun z hz => k _ _ _ hw.2 (.new o.hi hz) ?_⟩))
    simp only [At]
    exact ⟨z, _, rfl, o.fresh hz, upd_same, (h2.app h4).step (Fr.new (M := isSt st) hz) o.sa⟩
  · rename_i a b
    obtain ⟨p, vs, rfl, _, h1, h2⟩ := hx.tup
    obtain ⟨q, us, rfl, _, h3, h4⟩ := hy.tup
    obtain ⟨⟨n1, n2, hl⟩, hw⟩ := hw
    have m1 : vs ≠ [] := fun z => n1 (by have := h2.length; rw [z] at this; exact List.length_eq_zero_iff.mp this.symm)
    have m2 : us ≠ [] := fun z => n2 (by have := h4.length; rw [z] at this; exact List.length_eq_zero_iff.mp this.symm)
    refine .inr (.inr (.inr ⟨p, q, vs, us, rfl, rfl, .of h1, .of h3, m1, line5 (by rw [h2.length, h4.length]; exact hl), fun z => absurd z m2, fun _ z hz => k _ _ _ hw (.new o.hi hz) ?_⟩))
    simp only [At]
    exact ⟨z, _, rfl, o.fresh hz, upd_same, (h2.app h4).step (Fr.new (M := isSt st) hz) o.sa⟩
  · exact hw.elim
def o2i (C : Int → Int → Prop) (g : Int → Int → D) : O2 := fun x y R => match x, y with
  | .int i, .int j => C i j ∧ R (g i j)
  | _, _ => False
theorem d_2i {C : Int → Int → Prop} {g : Int → Int → D} {g' : Int → Int → V} (hg : ∀ i j, imm (g i j) = some (g' i j)) : OpD st (rI C g') (o2i C g) := by
  intro F H x y v u R Q o hx hy hw k
  unfold o2i at hw
  split at hw
  · rename_i i j
    have e1 : v = .int i := hx.imm rfl
    have e2 : u = .int j := hy.imm rfl
    subst e1 e2
    exact ⟨i, j, rfl, rfl, hw.1, k _ _ H hw.2 (.refl o.hi) (.ofImm (hg i j))⟩
  · exact hw.elim
theorem d_2i0 {g : Int → Int → D} {g' : Int → Int → V} (hg : ∀ i j, imm (g i j) = some (g' i j)) : OpD st (rI0 g') (o2i (fun _ _ => True) g) := by
  intro F H x y v u R Q o hx hy hw k
  obtain ⟨i, j, a, b, _, q⟩ := d_2i (st := st) (C := fun _ _ => True) hg F H x y v u R Q o hx hy hw k
  exact ⟨i, j, a, b, q⟩
abbrev oSub : O2 := o2i (fun _ _ => True) fun i j => .int (i - j)
abbrev oMul : O2 := o2i CMul fun i j => .int (i * j)
abbrev oMod : O2 := o2i (fun _ j => 0 < j) fun i j => .int (i % j)
abbrev oPow : O2 := o2i CPow fun i j => .int (i ^ j.toNat)
theorem d_sub : OpD st (rI0 fun i j => .int (i - j)) oSub := d_2i0 fun _ _ => rfl
theorem d_mul : OpD st (rI CMul fun i j => .int (i * j)) oMul := d_2i fun _ _ => rfl
theorem d_mod : OpD st (rI (fun _ j => 0 < j) fun i j => .int (i % j)) oMod := d_2i fun _ _ => rfl
theorem d_pow : OpD st (rI CPow fun i j => .int (i ^ j.toNat)) oPow := d_2i fun _ _ => rfl
abbrev oDiv : O2 := o2i CDiv fun i j => .int (i / j)
theorem d_div : OpD st (rI CDiv fun i j => .int (i / j)) oDiv := d_2i fun _ _ => rfl
abbrev rLtA : R2 := fun x y H Q => rI0 (fun i j => .bl (decide (i < j))) x y H Q ∨ (∃ i j, x = .str i ∧ y = .str j ∧ Q (.bl (decide (i.cps.toList < j.cps.toList))) H)
theorem op_ltA : OpR X (compareOp .Lt) rLtA := op_lt.or op_lt_str
def oLt : O2 := fun x y R => match x, y with
  | .int i, .int j => R (.bl (decide (i < j)))
  | .str i, .str j => R (.bl (decide (i.cps.toList < j.cps.toList)))
  | _, _ => False
theorem d_lt : OpD st rLtA oLt := by
  intro F H x y v u R Q o hx hy hw k
  unfold oLt at hw
  split at hw
  · rename_i i j
    have e1 : v = .int i := hx.imm rfl
    have e2 : u = .int j := hy.imm rfl
    subst e1 e2
    exact .inl ⟨i, j, rfl, rfl, k _ _ H hw (.refl o.hi) at_bl⟩
  · rename_i i j
    have e1 : v = .str i := hx.imm rfl
    have e2 : u = .str j := hy.imm rfl
    subst e1 e2
    exact .inr ⟨i, j, rfl, rfl, k _ _ H hw (.refl o.hi) at_bl⟩
  · exact hw.elim
def oCm (p : Int → Int → Bool) : O2 := fun x y R => match x, y with
  | .int i, .int j => R (.bl (p i j))
  | _, _ => False
theorem d_cm {p : Int → Int → Bool} : OpD st (rI0 fun i j => .bl (p i j)) (oCm p) := by
  intro F H x y v u R Q o hx hy hw k
  unfold oCm at hw
  split at hw
  · rename_i i j
    have e1 : v = .int i := hx.imm rfl
    have e2 : u = .int j := hy.imm rfl
    subst e1 e2
    exact ⟨i, j, rfl, rfl, k _ _ H hw (.refl o.hi) at_bl⟩
  · exact hw.elim
abbrev oGt : O2 := oCm fun i j => decide (j < i)
abbrev oLe : O2 := oCm fun i j => decide (i ≤ j)
abbrev oGe : O2 := oCm fun i j => decide (j ≤ i)
def o1i (g : Int → D) : O1 := fun x R => match x with
  | .int i => R (g i)
  | _ => False
theorem d_neg : UnD st (rU fun i => .int (-i)) (o1i fun i => .int (-i)) := by
  intro F H x v R Q o hx hw k
  unfold o1i at hw
  split at hw
  · rename_i i
    have e1 : v = .int i := hx.imm rfl
    subst e1
    exact ⟨i, rfl, k _ _ H hw (.refl o.hi) at_int⟩
  · exact hw.elim
/-! ### == != -/
mutual
def toPy : D → Option PyData
  | .non => some .none
  | .bl b => some (.bool b)
  | .int i => some (.int i)
  | .str x => some (.str x)
  | .lst ds => (toPys ds).map .list
  | .tup ds => (toPys ds).map .tuple
  | _ => none
def toPys : List D → Option (List PyData)
  | [] => some []
  | d :: ds => match toPy d, toPys ds with
    | some p, some ps => some (p :: ps)
    | _, _ => none
end
mutual
theorem At.dp {A : Set_} {H : Hp} : ∀ {d : D} {v : V} {p : PyData}, At st A H v d → toPy d = some p → Dp K H v p
  | .non, _, _, h, e => by simp only [At] at h; simp only [toPy, Option.some.injEq] at e; rw [h, ← e]; exact .non
  | .bl b, _, _, h, e => by simp only [At] at h; simp only [toPy, Option.some.injEq] at e; rw [h, ← e]; exact .bl b
  | .int b, _, _, h, e => by simp only [At] at h; simp only [toPy, Option.some.injEq] at e; rw [h, ← e]; exact .int b
  | .str b, _, _, h, e => by simp only [At] at h; simp only [toPy, Option.some.injEq] at e; rw [h, ← e]; exact .str b
  | .lst ds, _, _, h, e => by
    simp only [At] at h
    obtain ⟨a, vs, rfl, _, h1, h2⟩ := h
    simp only [toPy, Option.map_eq_some_iff] at e
    obtain ⟨ps, e, rfl⟩ := e
    exact .lst (.of h1) (AtAll.dp h2 e)
  | .tup ds, _, _, h, e => by
    simp only [At] at h
    obtain ⟨a, vs, rfl, _, h1, h2⟩ := h
    simp only [toPy, Option.map_eq_some_iff] at e
    obtain ⟨ps, e, rfl⟩ := e
    exact .tup (.of h1) (AtAll.dp h2 e)
  | .dic _ _, _, _, _, e => by simp [toPy] at e
  | .obj _ _ _, _, _, _, e => by simp [toPy] at e
  | .sto, _, _, _, e => by simp [toPy] at e
theorem AtAll.dp {A : Set_} {H : Hp} : ∀ {ds : List D} {vs : List V} {ps : List PyData}, AtAll st A H vs ds → toPys ds = some ps → DpAll K H vs ps
  | [], _, _, h, e => by rw [h.nil_of]; simp only [toPys, Option.some.injEq] at e; rw [← e]; exact .nil
  | d :: ds, _, _, h, e => by
    simp only [AtAll] at h
    obtain ⟨x, r, rfl, h1, h2⟩ := h
    simp only [toPys] at e
    cases e1 : toPy d with
    | none => rw [e1] at e; simp at e
    | some p =>
      cases e2 : toPys ds with
      | none => rw [e1, e2] at e; simp at e
      | some ps =>
        rw [e1, e2] at e
        simp only [Option.some.injEq] at e
        rw [← e]
        exact .cons (At.dp h1 e1) (AtAll.dp h2 e2)
end
theorem AtB.dp {A : Set_} {H : Hp} {d : D} {v : V} {p : PyData} (h : AtB st A H v d) (e : toPy d = some p) : Dp K H v p := by
  rcases h with h | ⟨l, rfl, _, h⟩
  · exact h.dp e
  · cases d <;> first | exact h.elim | skip
    · obtain ⟨vs, h1, h2⟩ := h
      simp only [toPy, Option.map_eq_some_iff] at e
      obtain ⟨ps, e, rfl⟩ := e
      exact .lst (.of h1) (h2.dp e)
    · simp [toPy] at e
    · simp [toPy] at e
mutual
theorem plain_toPy : ∀ {d : D} {p : PyData}, toPy d = some p → p.plain = true
  | .non, _, e => by simp only [toPy, Option.some.injEq] at e; rw [← e]; rfl
  | .bl b, _, e => by simp only [toPy, Option.some.injEq] at e; rw [← e]; rfl
  | .int b, _, e => by simp only [toPy, Option.some.injEq] at e; rw [← e]; rfl
  | .str b, _, e => by simp only [toPy, Option.some.injEq] at e; rw [← e]; rfl
  | .lst ds, _, e => by
    simp only [toPy, Option.map_eq_some_iff] at e
    obtain ⟨ps, e, rfl⟩ := e
    simp only [PyData.plain]
    exact plain_toPys e
  | .tup ds, _, e => by
    simp only [toPy, Option.map_eq_some_iff] at e
    obtain ⟨ps, e, rfl⟩ := e
    simp only [PyData.plain]
    exact plain_toPys e
  | .dic _ _, _, e => by simp [toPy] at e
  | .obj _ _ _, _, e => by simp [toPy] at e
  | .sto, _, e => by simp [toPy] at e
theorem plain_toPys : ∀ {ds : List D} {ps : List PyData}, toPys ds = some ps → PyData.plainAll ps = true
  | [], _, e => by simp only [toPys, Option.some.injEq] at e; rw [← e]; rfl
  | d :: ds, _, e => by
    simp only [toPys] at e
    cases e1 : toPy d with
    | none => rw [e1] at e; simp at e
    | some p =>
      cases e2 : toPys ds with
      | none => rw [e1, e2] at e; simp at e
      | some ps =>
        rw [e1, e2] at e
        simp only [Option.some.injEq] at e
        rw [← e]
        simp only [PyData.plainAll, plain_toPy e1, plain_toPys e2, Bool.and_self]
end
abbrev rEqP (K : PySem.W.Frag) : R2 := fun x y H Q => ∃ d e, Dp K H x d ∧ Dp K H y e ∧ d.plain = true ∧ e.plain = true ∧ d.depth ≤ 64 ∧ Q (.bl (PyData.eqv d e)) H
abbrev rNeP (K : PySem.W.Frag) : R2 := fun x y H Q => ∃ d e, Dp K H x d ∧ Dp K H y e ∧ d.plain = true ∧ e.plain = true ∧ d.depth ≤ 64 ∧ Q (.bl (!PyData.eqv d e)) H
theorem op_eqP (hu : X.A.units + 64 < cLine) : OpR X (compareOp .Eq) (rEqP X.K) := by
  intro pins s σ H x y v u Q I rx ry h
  obtain ⟨d, e, hd, he, sd, se, hz, q⟩ := h
  obtain ⟨as, r1⟩ := Dp.reads I d x v hd rx
  obtain ⟨bs, r2⟩ := Dp.reads I e y u he ry
  exact SeqAt.eq_plain r1 r2 sd se (by have := Nat.min_le_left d.depth e.depth; omega) ⟨.bl _, H, I, rfl, q⟩
theorem op_neP (hu : X.A.units + 64 < cLine) : OpR X (compareOp .NotEq) (rNeP X.K) := by
  intro pins s σ H x y v u Q I rx ry h
  obtain ⟨d, e, hd, he, sd, se, hz, q⟩ := h
  obtain ⟨as, r1⟩ := Dp.reads I d x v hd rx
  obtain ⟨bs, r2⟩ := Dp.reads I e y u he ry
  exact SeqAt.ne_plain r1 r2 sd se (by have := Nat.min_le_left d.depth e.depth; omega) ⟨.bl _, H, I, rfl, q⟩
def oEq : O2 := fun x y R => match toPy x, toPy y with
  | some p, some q => p.depth ≤ 64 ∧ R (.bl (PyData.eqv p q))
  | _, _ => False
def oNe : O2 := fun x y R => match toPy x, toPy y with
  | some p, some q => p.depth ≤ 64 ∧ R (.bl (!PyData.eqv p q))
  | _, _ => False
theorem d_eq : OpD st (rEqP K) oEq := by
  intro F H x y v u R Q o hx hy hw k
  unfold oEq at hw
  split at hw
  · rename_i p q e1 e2
    exact ⟨p, q, hx.dp e1, hy.dp e2, plain_toPy e1, plain_toPy e2, hw.1, k _ _ H hw.2 (.refl o.hi) at_bl⟩
  · exact hw.elim
theorem d_ne : OpD st (rNeP K) oNe := by
  intro F H x y v u R Q o hx hy hw k
  unfold oNe at hw
  split at hw
  · rename_i p q e1 e2
    exact ⟨p, q, hx.dp e1, hy.dp e2, plain_toPy e1, plain_toPy e2, hw.1, k _ _ H hw.2 (.refl o.hi) at_bl⟩
  · exact hw.elim
/-! ### is None -/
def isNonD : D → Bool
  | .non => true
  | _ => false
theorem AtB.non {A : Set_} {H : Hp} {d : D} {v : V} (h : AtB st A H v d) : decide (v = .non) = isNonD d := by
  rcases h with h | ⟨l, rfl, _, h⟩
  · cases d <;> simp only [At] at h
    · rw [h]; rfl
    · rw [h]; rfl
    · rw [h]; rfl
    · rw [h]; rfl
    · obtain ⟨a, vs, rfl, _⟩ := h; rfl
    · obtain ⟨a, vs, rfl, _⟩ := h; rfl
    · obtain ⟨a, vs, rfl, _⟩ := h; rfl
    · obtain ⟨a, dx, vs, rfl, _⟩ := h; rfl
    · obtain ⟨s, c, _, rfl⟩ := h; rfl
  · cases d <;> first | exact h.elim | rfl
def wisN (w : WE) : WE := fun G R => w G fun d => R (.bl (isNonD d))
def wnotN (w : WE) : WE := fun G R => w G fun d => R (.bl (!isNonD d))
theorem tE_isN {w : WE} : ∀ σ H Q, tE st (wisN w) σ H Q → tIsN (tO st w) σ H Q := fun σ H Q ⟨F, G, R, I, hw, k⟩ => tO.bind I hw fun d v H1 r1 I1 f1 q1 => by rw [q1.non]; exact k _ _ H1 r1 f1 at_bl
theorem tE_notN {w : WE} : ∀ σ H Q, tE st (wnotN w) σ H Q → tNotN (tO st w) σ H Q := fun σ H Q ⟨F, G, R, I, hw, k⟩ => tO.bind I hw fun d v H1 r1 I1 f1 q1 => by rw [q1.non]; exact k _ _ H1 r1 f1 at_bl
/-! ### in -/
def imms : List D → Option (List V)
  | [] => some []
  | d :: ds => match imm d, imms ds with
    | some v, some vs => some (v :: vs)
    | _, _ => none
theorem AtAll.immsOf {A : Set_} {H : Hp} : ∀ {ds : List D} {vs us : List V}, AtAll st A H vs ds → VL.imms ds = some us → vs = us
  | [], vs, us, h, e => by
    have e1 : ([] : List V) = us := by
      simp only [VL.imms, Option.some.injEq] at e
      exact e
    rw [h.nil_of, e1]
  | d :: ds, _, _, h, e => by
    obtain ⟨x, r, rfl, h1, h2⟩ := h.uncons
    simp only [VL.imms] at e
    cases e1 : VL.imm d with
    | none => rw [e1] at e; simp at e
    | some p =>
      cases e2 : VL.imms ds with
      | none => rw [e1, e2] at e; simp at e
      | some ps =>
        rw [e1, e2] at e
        simp only [Option.some.injEq] at e
        rw [← e, h1.imm e1, AtAll.immsOf h2 e2]
theorem imm_flat {d : D} {v : V} (h : imm d = some v) : flatV v = true := by cases d <;> simp only [imm, Option.some.injEq, reduceCtorEq] at h <;> rw [← h] <;> rfl
theorem imms_flat : ∀ {ds : List D} {vs : List V}, imms ds = some vs → vs.all flatV = true
  | [], _, e => by
    simp only [imms, Option.some.injEq] at e
    rw [← e]; rfl
  | d :: ds, _, e => by
    simp only [imms] at e
    cases e1 : imm d with
    | none => rw [e1] at e; simp at e
    | some p =>
      cases e2 : imms ds with
      | none => rw [e1, e2] at e; simp at e
      | some ps =>
        rw [e1, e2] at e
        simp only [Option.some.injEq] at e
        rw [← e, List.all_cons, imm_flat e1, imms_flat e2]; rfl
def itemsD : D → Option (List D)
  | .lst ds => some ds
  | .tup ds => some ds
  | _ => none
theorem AtB.items {A : Set_} {H : Hp} {d : D} {v : V} {ds : List D} (h : AtB st A H v d) (e : itemsD d = some ds) : ∃ a vs, v = .ref a ∧ (SqL K H a vs ∨ SqT K H a vs) ∧ AtAll st A H vs ds := by
  cases d <;> simp only [itemsD, Option.some.injEq, reduceCtorEq] at e
  · obtain ⟨a, vs, rfl, h1, h2⟩ := h.lst; exact ⟨a, vs, rfl, .inl (.of h1), e ▸ h2⟩
  · obtain ⟨a, vs, rfl, _, h1, h2⟩ := h.tup; exact ⟨a, vs, rfl, .inr (.of h1), e ▸ h2⟩
def oIn (neg : Bool) : O2 := fun x y R => match imm x, (itemsD y).bind imms with
  | some v, some vs => R (.bl (if neg then !inV v vs else inV v vs))
  | _, _ => False
theorem d_in {neg : Bool} : OpD st (rIn K neg) (oIn neg) := by
  intro F H x y v u R Q o hx hy hw k
  unfold oIn at hw
  split at hw
  · rename_i w ws e1 e2
    obtain ⟨ds, e3, e4⟩ := Option.bind_eq_some_iff.mp e2
    obtain ⟨a, us, rfl, h1, h2⟩ := hy.items (K := K) e3
    have q1 := h2.immsOf e4
    have q2 := hx.imm e1
    subst q1 q2
    exact ⟨a, us, rfl, h1, imm_flat e1, imms_flat e4, k _ _ H hw (.refl o.hi) at_bl⟩
  · exact hw.elim
/-- one sign in a text -/
def sign : Str → Option Nat := fun x => match x.cps.toList with
  | [c] => some c
  | _ => none
abbrev rInSign (neg : Bool) : R2 := fun x y H Q => ∃ (c : Nat) (z : Str), x = .str ⟨#[c]⟩ ∧ y = .str z ∧ Q (.bl (if neg then !decide (c ∈ z.cps.toList) else decide (c ∈ z.cps.toList))) H
theorem op_inSign : OpR X (compareOp .In) (rInSign false) := op_in_sign
theorem op_ninSign : OpR X (compareOp .NotIn) (rInSign true) := op_notIn_sign
def oInS (neg : Bool) : O2 := fun x y R => match x, y with
  | .str a, .str b => (match sign a with
    | some c => R (.bl (if neg then !decide (c ∈ b.cps.toList) else decide (c ∈ b.cps.toList)))
    | none => False)
  | _, _ => False
theorem sign_eq {a : Str} {c : Nat} (h : sign a = some c) : a = ⟨#[c]⟩ := by
  unfold sign at h
  split at h
  · rename_i d e
    cases h
    obtain ⟨⟨l⟩⟩ := a
    simp only at e
    subst e
    rfl
  · cases h
theorem d_inS {neg : Bool} : OpD st (rInSign neg) (oInS neg) := by
  intro F H x y v u R Q o hx hy hw k
  unfold oInS at hw
  split at hw
  · rename_i a b
    split at hw
    · rename_i c e
      have e1 : v = .str a := hx.imm rfl
      have e2 : u = .str b := hy.imm rfl
      subst e1 e2
      exact ⟨c, b, by rw [sign_eq e], rfl, k _ _ H hw (.refl o.hi) at_bl⟩
    · exact hw.elim
  · exact hw.elim
/-- a key in a dict -/
def winD (neg : Bool) (wy wd : WE) : WE := fun G R => wy G fun y => wd G fun d => match y, d with
  | .str k, .dic ks ds => R (.bl (if neg then !decide (k ∈ ks) else decide (k ∈ ks)))
  | _, _ => False
theorem dget_of {H : Hp} {a : Addr} {ks : List Str} {us : List V} {k : Str} (h : Rd H a (.dK (kz ks us))) : DGet H a (.str k) (dget ks us k) := .inl ⟨_, Sum.inr k, h, rfl, (kz_get ks us k).symm⟩
theorem tE_inD {wy wd : WE} : ∀ σ H Q, tE st (winD false wy wd) σ H Q → tDIn (tO st wy) (tO st wd) σ H Q := fun σ H Q ⟨F, G, R, I, hw, k⟩ => tO.bind I hw fun y v H1 r1 I1 f1 q1 => tO.bind I1 r1 fun d u H2 r2 I2 f2 q2 => by
  split at r2
  · rename_i kx ks ds
    have e1 : v = .str kx := q1.imm rfl
    subst e1
    obtain ⟨a, us, rfl, h1, h2, h3⟩ := q2.dic
    refine ⟨a, _, rfl, dget_of h1, ?_⟩
    rw [dget_some (by rw [h3.length]; exact h2)]
    exact k _ _ H2 r2 (f1.trans f2) at_bl
  · exact r2.elim
theorem tE_ninD {wy wd : WE} : ∀ σ H Q, tE st (winD true wy wd) σ H Q → tDNotIn (tO st wy) (tO st wd) σ H Q := fun σ H Q ⟨F, G, R, I, hw, k⟩ => tO.bind I hw fun y v H1 r1 I1 f1 q1 => tO.bind I1 r1 fun d u H2 r2 I2 f2 q2 => by
  split at r2
  · rename_i kx ks ds
    have e1 : v = .str kx := q1.imm rfl
    subst e1
    obtain ⟨a, us, rfl, h1, h2, h3⟩ := q2.dic
    refine ⟨a, _, rfl, dget_of h1, ?_⟩
    rw [dget_some (by rw [h3.length]; exact h2)]
    exact k _ _ H2 r2 (f1.trans f2) at_bl
  · exact r2.elim
/-- d[k] -/
def wdget (wd wy : WE) : WE := fun G R => wd G fun d => wy G fun y => match y, d with
  | .str k, .dic ks ds => (match dget ks ds k with
    | some x => R x
    | none => False)
  | _, _ => False
theorem tE_dget {wy wd : WE} : ∀ σ H Q, tE st (wdget wd wy) σ H Q → tDGet (tO st wd) (tO st wy) σ H Q := fun σ H Q ⟨F, G, R, I, hw, k⟩ => tO.bind I hw fun d u H1 r1 I1 f1 q1 => tO.bind I1 r1 fun y v H2 r2 I2 f2 q2 => by
  split at r2
  · rename_i kx ks ds
    split at r2
    · rename_i x e
      have e1 : v = .str kx := q2.imm rfl
      subst e1
      obtain ⟨a, us, rfl, h1, h2, h3⟩ := (q1.fx f2 I1.sa).dic
      obtain ⟨w, e2, h4⟩ := h3.dget e
      exact ⟨a, w, rfl, by rw [← e2]; exact dget_of h1, k _ _ H2 r2 (f1.trans f2) h4⟩
    · exact r2.elim
  · exact r2.elim
/-! ### x[i] -/
def oIx : O2 := fun x y R => match x, y with
  | .lst ds, .int i => (match atI ds i with
    | some d => R d
    | none => False)
  | .tup ds, .int i => (match atI ds i with
    | some d => R d
    | none => False)
  | .str z, .int i => z.length ≤ 100000 ∧ (match atI z.cps.toList i with
    | some c => R (.str ⟨#[c]⟩)
    | none => False)
  | _, _ => False
theorem AtAll.atI {A : Set_} {H : Hp} {vs : List V} {ds : List D} {i : Int} {d : D} (h : AtAll st A H vs ds) (e : L2.atI ds i = some d) : ∃ v, L2.atI vs i = some v ∧ At st A H v d := by
  unfold L2.atI at e ⊢
  obtain ⟨j, e1, e2⟩ := Option.bind_eq_some_iff.mp e
  obtain ⟨v, q1, q2⟩ := h.get e2
  exact ⟨v, by rw [h.length, e1]; exact q1, q2⟩
theorem d_ix : OpD st (rIx K) oIx := by
  intro F H x y v u R Q o hx hy hw k
  unfold oIx at hw
  split at hw
  · rename_i ds i
    split at hw
    · rename_i d e
      have e2 : u = .int i := hy.imm rfl
      subst e2
      obtain ⟨a, vs, rfl, h1, h2⟩ := hx.lst
      obtain ⟨w, q1, q2⟩ := h2.atI e
      exact .inl ⟨a, vs, i, w, rfl, rfl, .of h1, q1, k _ _ H hw (.refl o.hi) q2⟩
    · exact hw.elim
  · rename_i ds i
    split at hw
    · rename_i d e
      have e2 : u = .int i := hy.imm rfl
      subst e2
      obtain ⟨a, vs, rfl, _, h1, h2⟩ := hx.tup
      obtain ⟨w, q1, q2⟩ := h2.atI e
      exact .inr (.inl ⟨a, vs, i, w, rfl, rfl, .of h1, q1, k _ _ H hw (.refl o.hi) q2⟩)
    · exact hw.elim
  · rename_i z i
    obtain ⟨hl, hw⟩ := hw
    split at hw
    · rename_i c e
      have e2 : u = .int i := hy.imm rfl
      have e1 : v = .str z := hx.imm rfl
      subst e1 e2
      exact .inr (.inr ⟨z, i, c, rfl, rfl, line5 hl, e, k _ _ H hw (.refl o.hi) at_str⟩)
    · exact hw.elim
  · exact hw.elim
theorem e_ix {a b : Expr} {wa wb : WE} {pos : Pos} (ha : VO X st a wa) (hb : VO X st b wb) (hs : PlainIx b := by exact fun _ _ => rfl) : VE X st (.Subscript a b pos) (w2 oIx wa wb) := PEmono (pe_ix ix_seq ha hb hs) (t2 d_ix)
/-! ### slices -/
def cutD (xs : List D) (lo hi : Option Int) : List D := (xs.drop (HT.sIx xs.length 0 lo)).take (HT.sIx xs.length xs.length hi - HT.sIx xs.length 0 lo)
theorem AtAll.cut {A : Set_} {H : Hp} {vs : List V} {ds : List D} (h : AtAll st A H vs ds) (lo hi : Option Int) : AtAll st A H (cutV vs lo hi) (cutD ds lo hi) := by
  unfold cutV cutD
  rw [h.length]
  exact (h.drop _).take _
abbrev WO := Ga → (Option Int → Prop) → Prop
def tOp' (st : Sto) (w : WO) : TO := fun σ H Q => ∃ F G R, EI st F G σ H ∧ w G R ∧ ∀ i H', R i → Fx st H H' → Q i H'
def wnp : WO := fun _ R => R none
def wpt (w : WE) : WO := fun G R => w G fun d => match d with
  | .int i => R (some i)
  | _ => False
abbrev VOp (X : Cx) (st : Sto) (e : Option Expr) (w : WO) : Prop := L2.PO X e (tOp' st w)
theorem POmono {e : Option Expr} {t t' : TO} (h : L2.PO X e t) (k : ∀ σ H Q, t' σ H Q → t σ H Q) : L2.PO X e t' := by
  constructor
  intro pins s σ H Q I q
  exact h.run pins s σ H Q I (k σ H Q q)
theorem o_no : VOp X st none wnp := POmono po_none fun σ H Q ⟨F, G, R, I, hw, k⟩ => k none H hw (.refl I.hi)
theorem o_so {e : Expr} {w : WE} (h : VE X st e w) : VOp X st (some e) (wpt w) := POmono (po_some h) fun σ H Q ⟨F, G, R, I, hw, k⟩ => tE.bind I hw fun d v H1 r1 I1 f1 q1 => by
  split at r1
  · rename_i i
    have e1 : v = .int i := q1.imm rfl
    exact ⟨i, e1, k _ H1 r1 f1⟩
  · exact r1.elim
def wslL (w : WE) (lo hi : WO) : WE := fun G R => w G fun d => lo G fun l => hi G fun h => match d with
  | .lst ds => R (.lst (cutD ds l h))
  | _ => False
def wslS (w : WE) (lo hi : WO) : WE := fun G R => w G fun d => lo G fun l => hi G fun h => match d with
  | .str z => z.length ≤ 100000 ∧ R (.str (cutS z l h))
  | _ => False
theorem tO.bindP {w : WO} {σ : L2.St} {H : Hp} {F : Foot} {G : Ga} {R : Option Int → Prop} {Q : Option Int → Hp → Prop} (I : EI st F G σ H) (hw : w G R) (k : ∀ d H', R d → EI st F G σ H' → Fx st H H' → Q d H') : tOp' st w σ H Q :=
  ⟨F, G, R, I, hw, fun d H' r f => k d H' r (I.fx f) f⟩
theorem f_slL {e : Expr} {lo hi : Option Expr} {w : WE} {wl wh : WO} {p2 pos : Pos} (he : VO X st e w) (hl : VOp X st lo wl) (hh : VOp X st hi wh) : VF X st (.Subscript e (.Slice lo hi none p2) pos) (wslL w wl wh) :=
  PEmono (pe_slice sl_list he hl hh) fun σ H Q ⟨F, G, R, I, hw, k⟩ => tO.bind I hw fun d v H1 r1 I1 f1 q1 => tO.bindP I1 r1 fun l H2 r2 I2 f2 => tO.bindP I2 r2 fun h H3 r3 I3 f3 => by
    split at r3
    · rename_i ds
      have f13 := (f1.trans f2).trans f3
      obtain ⟨a, vs, rfl, h1, h2⟩ := ((q1.fx f2 I1.sa).fx f3 I1.sa).lst
      exact ⟨a, vs, rfl, .of h1, fun p hp => k _ _ _ r3 (f13.trans (.new I3.hi hp)) (f13.fr.dom p hp) ⟨_, upd_same, ((h2.cut l h).off (plo hp)).step (Fr.new (M := isSt st) hp) (fun a m => .inl (I3.sa a m))⟩⟩
    · exact r3.elim
theorem e_slS {e : Expr} {lo hi : Option Expr} {w : WE} {wl wh : WO} {p2 pos : Pos} (he : VO X st e w) (hl : VOp X st lo wl) (hh : VOp X st hi wh) : VE X st (.Subscript e (.Slice lo hi none p2) pos) (wslS w wl wh) :=
  PEmono (pe_slice sl_str he hl hh) fun σ H Q ⟨F, G, R, I, hw, k⟩ => tO.bind I hw fun d v H1 r1 I1 f1 q1 => tO.bindP I1 r1 fun l H2 r2 I2 f2 => tO.bindP I2 r2 fun h H3 r3 I3 f3 => by
    split at r3
    · rename_i z
      have e1 : v = .str z := q1.imm rfl
      subst e1
      exact ⟨z, rfl, line5 r3.1, k _ _ H3 r3.2 ((f1.trans f2).trans f3) at_str⟩
    · exact r3.elim
def wrev (w : WE) : WE := fun G R => w G fun d => match d with
  | .lst ds => R (.lst ds.reverse)
  | _ => False
theorem f_rev {e : Expr} {k : Nat} {w : WE} {p1 p2 p3 pos : Pos} (he : VO X st e w) : VF X st (.Subscript e (.Slice none none (some (.UnaryOp .USub (.Constant (.int 1) k p1) p2)) p3) pos) (wrev w) :=
  PEmono (pe_revL he) fun σ H Q ⟨F, G, R, I, hw, k⟩ => tO.bind I hw fun d v H1 r1 I1 f1 q1 => by
    split at r1
    · rename_i ds
      obtain ⟨a, vs, rfl, h1, h2⟩ := q1.lst
      exact ⟨a, vs, rfl, .of h1, fun p hp => k _ _ _ r1 (f1.trans (.new I1.hi hp)) (f1.fr.dom p hp) ⟨_, upd_same, (h2.reverse.off (plo hp)).step (Fr.new (M := isSt st) hp) (fun a m => .inl (I1.sa a m))⟩⟩
    · exact r1.elim
end
end VL
/-! text VLf -/
/-! VLf: defs, own objects changed, fields, methods, instances made, built-in functions, at data. -/
namespace VL
open PySem PySem.Spec PyProof.Rows L2
abbrev FnP (K : PySem.W.Frag) (x q : Str) (s : Stmt) (f : Addr) (fd : FuncData) : Prop := FunD K x q (defArgs s) (defBody s) (defScope s) [] [] f fd
def noW : Ga → Prop := fun _ => False
def poF (R : D → Prop) : Po := { nx := fun _ => R .non, rt := R, bk := noW, ct := noW }
def gaOf (n : Nat) (as : List Sl) : Ga := as ++ List.replicate (n - as.length) .no
section
variable {st : Sto} {P : Program} {w : World} {K : PySem.W.Frag} {mg : Str → Option Value} {base : Heap}
theorem ArAll.length {A : Set_} {H : Hp} {vs : List V} {as : List Sl} (h : ArAll st A H vs as) : vs.length = as.length := Paired.length h
theorem paired_get {α β : Type} {G : α → β → Prop} : ∀ {l₁ : List α} {l₂ : List β}, Paired G l₁ l₂ → ∀ {i : Nat} {b : β}, l₂[i]? = some b → ∃ a, l₁[i]? = some a ∧ G a b
  | _, _, .nil, i, b, e => by simp at e
  | _, _, .cons r t, 0, b, e => by simp at e; subst e; exact ⟨_, rfl, r⟩
  | _, _, .cons r t, i + 1, b, e => by
    obtain ⟨a, q1, q2⟩ := paired_get t (i := i) (b := b) (by simpa using e)
    exact ⟨a, by simpa using q1, q2⟩
/-- the slots at a def's entry -/
theorem EI.entry {F : Foot} {H : Hp} {vs : List V} {as : List Sl} {n : Nat} (o : FOk st F H) (hN : ∀ a, F.N a → inSt st a) (hL : ∀ a, ¬ F.L a) (h : ArAll st F.A H vs as) (σ : L2.St) (hσ : σ = vs.map some ++ List.replicate (n - vs.length) none) : EI st F (gaOf n as) σ H := by
  subst hσ
  have hl := h.length
  refine ⟨o, by unfold gaOf; simp [hl], fun i t e => ?_, fun i j d1 d2 l e1 e2 e3 e4 => ?_⟩
  · unfold gaOf at e
    rw [List.getElem?_append] at e ⊢
    by_cases q : i < as.length
    · rw [if_pos q] at e
      rw [if_pos (by simpa [hl] using q)]
      obtain ⟨v, q1, q2⟩ := paired_get h e
      refine ⟨some v, by simp [q1], ?_⟩
      cases t with
      | no => trivial
      | sh d => exact ⟨v, rfl, q2⟩
      | bo d =>
        refine ⟨v, rfl, ?_⟩
        rcases q2 with q2 | ⟨l, rfl, n1, q2⟩
        · exact .inl q2
        · exact .inr ⟨l, rfl, fun m => n1.1 (hN l m), ⟨hL l, n1.2⟩, q2⟩
      | ow d => exact q2.elim
    · rw [if_neg q] at e
      rw [if_neg (by simpa [hl] using q)]
      rw [List.getElem?_replicate] at e
      split at e
      · rename_i hlt
        cases e
        refine ⟨none, ?_, trivial⟩
        rw [List.getElem?_replicate, if_pos (by simpa [hl] using hlt)]
      · cases e
  · exfalso
    unfold gaOf at e1
    rw [List.getElem?_append] at e1
    by_cases q : i < as.length
    · rw [if_pos q] at e1
      obtain ⟨v, q1, q2⟩ := paired_get h e1
      exact q2
    · rw [if_neg q, List.getElem?_replicate] at e1
      split at e1 <;> cases e1
/-- THE RULE for a def at data -/
theorem fn_ok {x qual : Str} {params : Arguments} {body : List Stmt} {scope : Scope} {kws : List (Str × V)} {dvs : List V} {f : Addr} {fd : FuncData} {N ps : List Str} {k : Nat} {C : OC} {ws : WS} (F : FunD K x qual params body scope dvs kws f fd) (S : FnScope N ps scope)
    (hlen : ∀ as R, C as R → as.length = ps.length)
    (hbody : ∀ (cdv : Value) (A : Around) (outer : List Env) (s : Shared) (H : Hp) (E : XK), Room k (A.deeper (envOfC qual scope s.heap.objs.size f cdv)) → VSs (cxOf CX0 P w K mg base N qual scope f cdv A outer s H E).nox st false body ws)
    (hread : ∀ as R, C as R → ws (gaOf N.length as) (poF R)) : FnOk P w K mg base CX0 (k + 1) f fd ps (spD st C) := by
  refine F.ok S (fun vs H Q E ⟨F, as, R, o, ha, hc, _⟩ => by rw [ha.length]; exact hlen as R hc) fun cdv A outer s H vs Q E hr ⟨F, as, R, o, ha, hc, hk⟩ => ?_
  let b : Bs := ⟨F.A, F.A, isSt st, H, none⟩
  refine ⟨_, PSs.nox (hbody cdv A outer s H E hr b fun _ => rfl), gaOf N.length as, poF R, ?_, hread as R hc, ?_⟩
  · refine ⟨⟨inSt st, F.A, fun _ => False⟩, EI.entry (F := ⟨inSt st, F.A, fun _ => False⟩) ⟨fun a m => m.elim, fun a m => m.elim, fun a m => o.na a (o.sn a m), fun a m => m, o.live, o.hi⟩ (fun a m => m) (fun a m => m) ha _ rfl, ?_⟩
    exact ⟨fun a m => m, fun a m => m, fun a m => m.elim, fun a m => .inl m, .refl, fun a m => m.elim, fun a m => m, fun x e => by cases e⟩
  · exact ⟨fun G σ H' q ⟨F', I', s'⟩ => hk _ _ _ q ⟨s'.fr, I'.hi⟩ at_non, fun d v H' q f h a => hk d v H' q ⟨f, h⟩ a, fun _ _ _ q => q.elim, fun _ _ _ q => q.elim⟩
/-- what an __init__ promises: the fields it has made -/
abbrev OCi := List D → (List Str → List D → Prop) → Prop
def spI (st : Sto) (Cc : Addr) (C : OCi) : Sp := fun vs H Q _ => ∃ F as R x dx us, vs = .ref x :: us ∧ FOk st F H ∧ ¬ F.A x ∧ H x = some (.ins Cc dx []) ∧ AtAll st (pl F.A x) H us as ∧ C as R ∧
  ∀ fs ds H', R fs ds → Fr (fun a => isSt st a ∨ a = x) H H' → HI st H' → OwnAt st (pl F.A x) H' x (.obj Cc fs ds) → Q .non H'
def atMe (Cc : Addr) (R : List Str → List D → Prop) : Ga → Prop := fun G => match (G[0]? : Option Sl) with
  | some (.ow (.obj C' fs ds)) => C' = Cc ∧ R fs ds
  | _ => False
def poI (Cc : Addr) (R : List Str → List D → Prop) : Po := { nx := atMe Cc R, rt := fun _ => False, bk := noW, ct := noW }
theorem init_ok {x qual : Str} {params : Arguments} {body : List Stmt} {scope : Scope} {kws : List (Str × V)} {dvs : List V} {f : Addr} {fd : FuncData} {N ps : List Str} {k : Nat} {Cc : Addr} {C : OCi} {ws : WS} (F : FunD K x qual params body scope dvs kws f fd) (S : FnScope N ps scope)
    (hlen : ∀ as R, C as R → as.length + 1 = ps.length)
    (hbody : ∀ (cdv : Value) (A : Around) (outer : List Env) (s : Shared) (H : Hp) (E : XK), Room k (A.deeper (envOfC qual scope s.heap.objs.size f cdv)) → VSs (cxOf CX0 P w K mg base N qual scope f cdv A outer s H E).nox st true body ws)
    (hread : ∀ as R, C as R → ws (gaOf N.length (.ow (.obj Cc [] []) :: as.map .sh)) (poI Cc R)) : FnOk P w K mg base CX0 (k + 1) f fd ps (spI st Cc C) := by
  refine F.ok S (fun vs H Q E ⟨F, as, R, y, dx, us, e, o, ny, hy, ha, hc, _⟩ => by rw [e, List.length_cons, ha.length]; exact hlen as R hc) fun cdv A outer s H vs Q E hr ⟨F, as, R, y, dx, us, e, o, ny, hy, ha, hc, hk⟩ => ?_
  subst e
  let b : Bs := ⟨F.A, pl F.A y, fun a => isSt st a ∨ a = y, H, some y⟩
  refine ⟨_, PSs.nox (hbody cdv A outer s H E hr b fun z => by cases z), gaOf N.length (.ow (.obj Cc [] []) :: as.map .sh), poI Cc R, ?_, hread as R hc, ?_⟩
  · have o' : FOk st ⟨inSt st, pl F.A y, fun a => a = y⟩ H := ⟨fun a m z => ny (m ▸ o.na a (o.sn a z)), fun a m => .inr m, fun a m => .inl (o.na a (o.sn a m)), fun a m => m, fun a m => m.elim (o.live a) fun q => by rw [q, hy]; simp, o.hi⟩
    have hl := ha.length
    have eg : ∀ i t, (gaOf N.length (.ow (.obj Cc [] []) :: as.map .sh))[i + 1]? = some t → (∃ d, t = .sh d ∧ as[i]? = some d) ∨ (t = .no ∧ as.length ≤ i ∧ i + 1 < N.length) := fun i t e => by
      unfold gaOf at e
      rw [List.cons_append, List.getElem?_cons_succ, List.getElem?_append] at e
      split at e
      · rename_i q
        left
        rw [List.getElem?_map] at e
        obtain ⟨d, e1, e2⟩ := Option.map_eq_some_iff.mp e
        exact ⟨d, e2.symm, e1⟩
      · rename_i q
        right
        rw [List.getElem?_replicate] at e
        split at e
        · rename_i q2
          cases e
          simp only [List.length_map, List.length_cons] at q q2
          exact ⟨rfl, by omega, by omega⟩
        · cases e
    refine ⟨⟨inSt st, pl F.A y, fun a => a = y⟩, ⟨o', by unfold gaOf L2.start; simp [hl], fun i t e => ?_, fun i j d1 d2 l e1 e2 e3 e4 => ?_⟩, ?_⟩
    · cases i with
      | zero =>
        unfold gaOf at e
        simp only [List.cons_append, List.getElem?_cons_zero, Option.some.injEq] at e
        subst e
        exact ⟨some (.ref y), by unfold L2.start; simp, y, rfl, rfl, dx, [], hy, rfl, .nil⟩
      | succ i =>
        rcases eg i t e with ⟨d, rfl, e1⟩ | ⟨rfl, q1, q2⟩
        · obtain ⟨v, e2, h2⟩ := ha.get e1
          refine ⟨some v, ?_, v, rfl, h2⟩
          unfold L2.start
          rw [List.map_cons, List.cons_append, List.getElem?_cons_succ, List.getElem?_append, if_pos (by simpa using (List.getElem?_eq_some_iff.mp e2).1), List.getElem?_map, e2]
          rfl
        · refine ⟨none, ?_, trivial⟩
          unfold L2.start
          rw [List.map_cons, List.cons_append, List.getElem?_cons_succ, List.getElem?_append, if_neg (by simp [hl]; exact q1), List.getElem?_replicate, if_pos (by simp only [List.length_cons, List.length_map]; omega)]
    · cases i with
      | zero =>
        cases j with
        | zero => rfl
        | succ j => rcases eg j _ e2 with ⟨d, q, _⟩ | ⟨q, _⟩ <;> cases q
      | succ i => rcases eg i _ e1 with ⟨d, q, _⟩ | ⟨q, _⟩ <;> cases q
    · exact ⟨fun a m => m, fun a m => .inl m, fun a m z => ny (m ▸ z), fun a m => .inl m, .refl, fun a m => .inl (.inr m), fun a m => .inl m, fun x e => by cases e; unfold L2.start; simp⟩
  · refine ⟨fun G σ H' q ⟨F', I', s'⟩ => ?_, fun _ _ _ q => q.elim, fun _ _ _ q => q.elim, fun _ _ _ q => q.elim⟩
    unfold poI atMe at q
    simp only at q
    split at q
    · rename_i C' fs ds e
      obtain ⟨rfl, q⟩ := q
      obtain ⟨v, e1, l, rfl, hl, h⟩ := I'.slot 0 _ e
      rw [s'.pn y rfl] at e1
      cases e1
      exact hk fs ds H' q s'.fr I'.hi (h.off fun a m => m.elim (fun z => .inl (s'.a0 a z)) fun z => .inl (z ▸ I'.la y hl))
    · exact q.elim
/-! ### own lists, dicts, instances changed -/
variable {X : Cx}
def wapp (i : Nat) (w : WE) : WS := fun G P => match (G[i]? : Option Sl) with
  | some (.ow (.lst ds)) => ds.length < 100000 ∧ w G fun d => P.nx (G.set i (.ow (.lst (ds ++ [d]))))
  | _ => False
theorem ltline {n : Nat} (h : n < 100000) : n < sizeLine := Nat.lt_of_lt_of_le h (by decide)
theorem EI.ow_lst {F : Foot} {G : Ga} {σ : L2.St} {H : Hp} {i : Nat} {ds : List D} (I : EI st F G σ H) (e : G[i]? = some (.ow (.lst ds))) : ∃ l vs, σ[i]? = some (some (.ref l)) ∧ F.L l ∧ H l = some (.lst vs) ∧ AtAll st F.A H vs ds := by
  obtain ⟨v, e1, l, rfl, hl, vs, h1, h2⟩ := I.slot i _ e
  exact ⟨l, vs, e1, hl, h1, h2⟩
theorem EI.ow_dic {F : Foot} {G : Ga} {σ : L2.St} {H : Hp} {i : Nat} {ks : List Str} {ds : List D} (I : EI st F G σ H) (e : G[i]? = some (.ow (.dic ks ds))) : ∃ l vs, σ[i]? = some (some (.ref l)) ∧ F.L l ∧ H l = some (.dK (kz ks vs)) ∧ ks.length = ds.length ∧ AtAll st F.A H vs ds := by
  obtain ⟨v, e1, l, rfl, hl, vs, h1, h2, h3⟩ := I.slot i _ e
  exact ⟨l, vs, e1, hl, h1, h2, h3⟩
theorem EI.ow_obj {F : Foot} {G : Ga} {σ : L2.St} {H : Hp} {i : Nat} {C : Addr} {ks : List Str} {ds : List D} (I : EI st F G σ H) (e : G[i]? = some (.ow (.obj C ks ds))) : ∃ l dx vs, σ[i]? = some (some (.ref l)) ∧ F.L l ∧ H l = some (.ins C dx (ks.zip vs)) ∧ ks.length = ds.length ∧ AtAll st F.A H vs ds := by
  obtain ⟨v, e1, l, rfl, hl, dx, vs, h1, h2, h3⟩ := I.slot i _ e
  exact ⟨l, dx, vs, e1, hl, h1, h2, h3⟩
theorem frl {H : Hp} {l : Addr} {o : HO} : Fr (fun a => a = l) H (upd H l o) := Fr.set rfl
theorem tS_app {b : Bs} {i : Nat} {w : WE} : ∀ Dn σ H, tS st b (wapp i w) Dn σ H → tDrop (tBM K "list" rAppend (tVar i) (tCons (tE st w) tNil)) Dn σ H := fun Dn σ H ⟨G, P, ⟨F, I, sf⟩, hw, po⟩ => by
  unfold wapp at hw
  split at hw
  · rename_i ds e
    obtain ⟨l, vs, ev, hl, h1, h2⟩ := I.ow_lst e
    obtain ⟨hz, hw⟩ := hw
    refine ⟨_, ev, .inl ⟨rfl, vs, .of h1⟩, ?_⟩
    refine tE.bind I hw fun d v H1 r1 I1 f1 q1 => ?_
    obtain ⟨l', us, ev', hl', h3, h4⟩ := I1.ow_lst e
    rw [ev] at ev'
    cases ev'
    refine ⟨l, us, v, rfl, rfl, h3, ltline (by rw [h4.length]; exact hz), ?_⟩
    exact po.nx _ _ _ r1 ⟨F, I1.put e ev ⟨_, upd_same, (h4.app (.one q1)).step frl fun a q => by rw [q]; exact I.la l hl⟩, (sf.fx f1).put hl⟩
  · exact hw.elim
/-- x[k] = e, x a list -/
def wput (i : Nat) (wk w : WE) : WS := fun G P => w G fun d => match (G[i]? : Option Sl) with
  | some (.ow (.lst ds)) => wk G fun k => (match k with
    | .int k => (match ixN ds.length k with
      | some j => P.nx (G.set i (.ow (.lst (ds.set j d))))
      | none => False)
    | _ => False)
  | _ => False
theorem tS_put {b : Bs} {i : Nat} {wk w : WE} : ∀ Dn σ H, tS st b (wput i wk w) Dn σ H → tAsg (tE st w) (gSub (tVar i) (tE st wk) rSetL) Dn σ H := fun Dn σ H ⟨G, P, ⟨F, I, sf⟩, hw, po⟩ => by
  refine tE.bind I hw fun d v H1 r1 I1 f1 q1 => ?_
  split at r1
  · rename_i ds e
    obtain ⟨l, us, ev, hl, h3, h4⟩ := I1.ow_lst e
    refine ⟨_, ev, tE.bind I1 r1 fun k kv H2 r2 I2 f2 q2 => ?_⟩
    split at r2
    · rename_i k
      split at r2
      · rename_i j e2
        have e1 : kv = .int k := q2.imm rfl
        obtain ⟨l', us, ev', hl', h3, h4⟩ := I2.ow_lst e
        rw [ev] at ev'
        cases ev'
        refine ⟨l, us, k, j, rfl, e1, h3, by rw [h4.length]; exact e2, ?_⟩
        exact po.nx _ _ _ r2 ⟨F, I2.put e ev ⟨_, upd_same, (h4.set j (q1.step f2.fr I1.sa)).step frl fun a q => by rw [q]; exact I.la l hl⟩, ((sf.fx f1).fx f2).put hl⟩
      · exact r2.elim
    · exact r2.elim
  · exact r1.elim
/-- x[k] = e, x a dict -/
def wdput (i : Nat) (wk w : WE) : WS := fun G P => w G fun d => match (G[i]? : Option Sl) with
  | some (.ow (.dic ks ds)) => wk G fun k => (match k with
    | .str k => ds.length < 100000 ∧ P.nx (G.set i (.ow (.dic (dputK ks k) (dputV ks ds k d))))
    | _ => False)
  | _ => False
theorem tS_dput {b : Bs} {i : Nat} {wk w : WE} : ∀ Dn σ H, tS st b (wdput i wk w) Dn σ H → sDPut (tVar i) (tE st wk) (tE st w) Dn σ H := fun Dn σ H ⟨G, P, ⟨F, I, sf⟩, hw, po⟩ => by
  refine tE.bind I hw fun d v H1 r1 I1 f1 q1 => ?_
  split at r1
  · rename_i ks ds e
    obtain ⟨l, us, ev, hl, h3, h4, h5⟩ := I1.ow_dic e
    refine ⟨_, ev, tE.bind I1 r1 fun k kv H2 r2 I2 f2 q2 => ?_⟩
    split at r2
    · rename_i k
      have e1 : kv = .str k := q2.imm rfl
      subst e1
      obtain ⟨l', us, ev', hl', h3, h4, h5⟩ := I2.ow_dic e
      rw [ev] at ev'
      cases ev'
      have hlu : ks.length = us.length := by rw [h5.length]; exact h4
      refine ⟨l, _, rfl, DPut.k (k := Sum.inr k) h3 (ltline (by rw [kz_length hlu, h4]; exact r2.1)), ?_⟩
      rw [kz_put _ _ _ _ hlu]
      exact po.nx _ _ _ r2.2 ⟨F, I2.put e ev ⟨_, upd_same, (dputV_length h4).symm, (h5.dput h4 (q1.step f2.fr I1.sa)).step frl fun a q => by rw [q]; exact I.la l hl⟩, ((sf.fx f1).fx f2).put hl⟩
    · exact r2.elim
  · exact r1.elim
/-- self.f = e, f new -/
def wfld (Cc : Addr) (i : Nat) (f : Str) (w : WE) : WS := fun G P => w G fun d => match (G[i]? : Option Sl) with
  | some (.ow (.obj C fs ds)) => C = Cc ∧ f ∉ fs ∧ fs.length < 100 ∧ P.nx (G.set i (.ow (.obj C (fs ++ [f]) (ds ++ [d]))))
  | _ => False
theorem putF_new (f : Str) (v : V) : ∀ {fs : List Str} {vs : List V}, f ∉ fs → fs.length = vs.length → putF f v (fs.zip vs) = (fs ++ [f]).zip (vs ++ [v])
  | [], [], _, _ => rfl
  | x :: fs, [], _, h => by simp at h
  | [], y :: vs, _, h => by simp at h
  | x :: fs, y :: vs, h, hl => by
    have hx : ¬ x = f := fun q => h (by simp [q])
    have hf : f ∉ fs := fun q => h (by simp [q])
    show (if x = f then (x, v) :: fs.zip vs else (x, y) :: putF f v (fs.zip vs)) = (x, y) :: (fs ++ [f]).zip (vs ++ [v])
    rw [if_neg hx, putF_new f v hf (by simpa using hl)]
theorem tS_fld {b : Bs} {Cc : Addr} {i : Nat} {f : Str} {w : WE} (cl : Cls K Cc) (na : NoAttr K Cc f) : ∀ Dn σ H, tS st b (wfld Cc i f w) Dn σ H → sFld K (tVar i) (tE st w) f Dn σ H := fun Dn σ H ⟨G, P, ⟨F, I, sf⟩, hw, po⟩ => by
  refine tE.bind I hw fun d v H1 r1 I1 f1 q1 => ?_
  split at r1
  · rename_i C fs ds e
    obtain ⟨rfl, nf, hz, r1⟩ := r1
    obtain ⟨l, dx, us, ev, hl, h3, h4, h5⟩ := I1.ow_obj e
    have hlu : fs.length = us.length := by rw [h5.length]; exact h4
    refine ⟨_, ev, l, C, dx, _, rfl, h3, cl, na, by rw [List.length_zip, ← hlu, Nat.min_self]; omega, ?_⟩
    rw [putF_new f v nf hlu]
    exact po.nx _ _ _ r1 ⟨F, I1.put e ev ⟨dx, _, upd_same, by simp [h4], (h5.app (.one q1)).step frl fun a q => by rw [q]; exact I.la l hl⟩, (sf.fx f1).put hl⟩
  · exact r1.elim
/-! ### fields, properties, methods, new instances -/
theorem zip_lookup (f : Str) : ∀ (fs : List Str) (vs : List V), (fs.zip vs).lookup f = dget fs vs f
  | [], vs => by simp [dget]
  | _ :: _, [] => by simp [dget]
  | x :: fs, v :: vs => by
    have ih := zip_lookup f fs vs
    rw [List.zip_cons_cons, List.lookup_cons]
    by_cases q : f = x
    · subst q
      simp [dget]
    · have q1 : (f == x) = false := by simpa using q
      have q2 : ¬ x = f := fun z => q z.symm
      rw [q1]
      simp only
      rw [ih]
      simp only [dget, List.zip_cons_cons, List.find?_cons, decide_eq_false q2]
def wget (Cc : Addr) (f : Str) (w : WE) : WE := fun G R => w G fun d => match d with
  | .obj C fs ds => C = Cc ∧ (match dget fs ds f with
    | some x => R x
    | none => False)
  | _ => False
theorem tE_fld {Cc : Addr} {f : Str} {w : WE} (cl : Cls K Cc) (na : NoAttr K Cc f) : ∀ σ H Q, tE st (wget Cc f w) σ H Q → tFld K (tO st w) f σ H Q := fun σ H Q ⟨F, G, R, I, hw, k⟩ => tO.bind I hw fun d v H1 r1 I1 f1 q1 => by
  split at r1
  · rename_i C fs ds
    obtain ⟨rfl, r1⟩ := r1
    split at r1
    · rename_i x e
      obtain ⟨a, dx, vs, rfl, h1, h2, h3⟩ := q1.obj
      obtain ⟨u, e2, h4⟩ := h3.dget e
      exact ⟨a, C, dx, _, u, rfl, h1, cl, na, by rw [zip_lookup]; exact e2, k _ _ H1 r1 f1 h4⟩
    · exact r1.elim
  · exact r1.elim
/-- a property, a method without arguments: the instance is seen -/
def wmeth0 (Cc : Addr) (m : Str) (C : OC) (w : WE) : WE := fun G R => w G fun d => match d with
  | .obj C' fs ds => (C' = Cc ∧ m ∉ fs) ∧ C [.bo (.obj C' fs ds)] R
  | _ => False
theorem dget_none {α : Type} {fs : List Str} {vs : List α} {m : Str} (h : m ∉ fs) : dget fs vs m = none := by
  induction fs generalizing vs with
  | nil => simp [dget]
  | cons x fs ih =>
    cases vs with
    | nil => simp [dget]
    | cons v vs =>
      have q : ¬ x = m := fun z => h (by simp [z])
      have q2 : m ∉ fs := fun z => h (by simp [z])
      have := ih (vs := vs) q2
      simp only [dget, List.zip_cons_cons, List.find?_cons, decide_eq_false q] at this ⊢
      exact this
theorem tE_prop {Cc : Addr} {m : Str} {C : OC} {w : WE} {E : XK} : ∀ σ H Q, tE st (wmeth0 Cc m C w) σ H Q → tProp Cc (spD st C) [] E (tO st w) σ H Q := fun σ H Q ⟨F, G, R, I, hw, k⟩ => tO.bind I hw fun d v H1 r1 I1 f1 q1 => by
  split at r1
  · rename_i C' fs ds
    obtain ⟨⟨rfl, nm⟩, r1⟩ := r1
    obtain ⟨a, dx, vs, rfl, h1, h2, h3⟩ := id q1.obj
    exact ⟨a, dx, _, rfl, h1, F, [.bo (.obj C' fs ds)], R, I1.toFOk, .cons q1 .nil, r1, fun d v H' r f q => k d v H' r (f1.trans f) q⟩
  · exact r1.elim
theorem tE_meth0 {Cc : Addr} {m : Str} {C : OC} {w : WE} {E : XK} : ∀ σ H Q, tE st (wmeth0 Cc m C w) σ H Q → tMeth Cc m (spD st C) [] E (tO st w) tNil σ H Q := fun σ H Q ⟨F, G, R, I, hw, k⟩ => tO.bind I hw fun d v H1 r1 I1 f1 q1 => by
  split at r1
  · rename_i C' fs ds
    obtain ⟨⟨rfl, nm⟩, r1⟩ := r1
    obtain ⟨a, dx, vs, rfl, h1, h2, h3⟩ := id q1.obj
    exact ⟨a, dx, _, rfl, h1, by rw [zip_lookup]; exact dget_none nm, F, [.bo (.obj C' fs ds)], R, I1.toFOk, .cons q1 .nil, r1, fun d v H' r f q => k d v H' r (f1.trans f) q⟩
  · exact r1.elim
def wmeth (Cc : Addr) (m : Str) (C : OC) (w : WE) (r : WA) : WE := fun G R => w G fun d => match d with
  | .obj C' fs ds => (C' = Cc ∧ m ∉ fs) ∧ r G fun as => C (.bo (.obj C' fs ds) :: as) R
  | _ => False
theorem tE_meth {Cc : Addr} {m : Str} {C : OC} {w : WE} {r : WA} {E : XK} : ∀ σ H Q, tE st (wmeth Cc m C w r) σ H Q → tMeth Cc m (spD st C) [] E (tO st w) (tA st r) σ H Q := fun σ H Q ⟨F, G, R, I, hw, k⟩ => tO.bind I hw fun d v H1 r1 I1 f1 q1 => by
  split at r1
  · rename_i C' fs ds
    obtain ⟨⟨rfl, nm⟩, r1⟩ := r1
    obtain ⟨a, dx, vs, rfl, h1, h2, h3⟩ := id q1.obj
    refine ⟨a, dx, _, rfl, h1, by rw [zip_lookup]; exact dget_none nm, tA.bind I1 r1 fun as us H2 r2 I2 f2 q2 => ?_⟩
    exact ⟨F, .bo (.obj C' fs ds) :: as, R, I2.toFOk, by rw [List.append_nil]; exact .cons (AtB.fx q1 f2 I1.sa) q2, r2, fun d v H' r f q => k d v H' r ((f1.trans f2).trans f) q⟩
  · exact r1.elim
/-- C(..) -/
def wmake (Cc : Addr) (C : OCi) (r : WA) : WE := fun G R => r G fun as => match shs as with
  | some ds => C ds fun fs es => R (.obj Cc fs es)
  | none => False
theorem tE_make {Cc : Addr} {C : OCi} {r : WA} {E : XK} : ∀ σ H Q, tF st (wmake Cc C r) σ H Q → tMake Cc (spI st Cc C) [] E (tA st r) σ H Q := fun σ H Q ⟨F, G, R, I, hw, k⟩ => tA.bind I hw fun as us H1 r1 I1 f1 q1 => by
  split at r1
  · rename_i ds e
    intro x dx hx hdx ne
    have q2 := q1.shs e
    have fd : Fr (isSt st) H1 (upd H1 dx (.own x)) := Fr.new hdx
    have hx2 : (upd H1 dx (.own x)) x = none := by rw [upd_ne ne.symm]; exact hx
    have f2 : Fr (isSt st) H1 (upd (upd H1 dx (.own x)) x (.ins Cc dx [])) := fd.trans (Fr.new hx2)
    have h2 : HI st (upd (upd H1 dx (.own x)) x (.ins Cc dx [])) := (I1.hi.new hdx).new hx2
    refine ⟨F, ds, _, x, dx, us, by rw [List.append_nil], I1.toFOk.step f2 h2, I1.fresh hx, upd_same, (q2.off (plo hx)).step f2 fun a m => .inl (I1.sa a m), r1, fun fs es H' rr f3 h3 ho => ⟨rfl, ?_⟩⟩
    have f13 : Fx st H1 H' := ⟨⟨fun b o nb eb => f3.keep b o (fun m => m.elim nb fun q => by rw [q, hx] at eb; cases eb) (f2.keep b o nb eb), fun b eb => f2.dom b (f3.dom b eb)⟩, h3⟩
    exact k _ x H' rr (f1.trans f13) (f1.fr.dom x hx) ho
  · exact r1.elim
end
end VL
/-! text VLg -/
/-! VLg: built-in functions on data. -/
namespace VL
open PySem PySem.Spec PyProof.Rows L2
section
variable {st : Sto} {K : PySem.W.Frag} {X : Cx}
abbrev rLen (K : PySem.W.Frag) : List V → Hp → VK → Prop := fun xs H Q => ∃ x n, xs = [x] ∧ LenV K x H n ∧ Q (.int (n : Nat)) H
def cLen : OC := fun as R => match as with
  | [.bo (.lst ds)] => R (.int (ds.length : Nat))
  | [.bo (.tup ds)] => R (.int (ds.length : Nat))
  | [.bo (.str z)] => z.length ≤ 100000 ∧ R (.int (z.length : Nat))
  | _ => False
theorem d_len : CallD st (rLen K) cLen := by
  intro F H as vs R Q o ha hw k
  unfold cLen at hw
  split at hw
  · rename_i ds
    obtain ⟨v, rfl, h⟩ := ar1 ha
    obtain ⟨a, us, rfl, h1, h2⟩ := AtB.lst h
    exact ⟨_, _, rfl, .inl ⟨us, .of h1, rfl⟩, by rw [h2.length]; exact k _ _ H hw (.refl o.hi) at_int⟩
  · rename_i ds
    obtain ⟨v, rfl, h⟩ := ar1 ha
    obtain ⟨a, us, rfl, _, h1, h2⟩ := AtB.tup h
    exact ⟨_, _, rfl, .inr ⟨us, .of h1, rfl⟩, by rw [h2.length]; exact k _ _ H hw (.refl o.hi) at_int⟩
  · rename_i z
    obtain ⟨v, rfl, h⟩ := ar1 ha
    have e : v = .str z := AtB.imm h rfl
    subst e
    exact ⟨_, _, rfl, ⟨line5 hw.1, rfl⟩, k _ _ H hw.2 (.refl o.hi) at_int⟩
  · exact hw.elim
/-- functions of one int, of two -/
def c1i (C : Int → Prop) (g : Int → D) : OC := fun as R => match as with
  | [.bo (.int i)] => C i ∧ R (g i)
  | _ => False
def c2i (g : Int → Int → D) : OC := fun as R => match as with
  | [.bo (.int i), .bo (.int j)] => R (g i j)
  | _ => False
abbrev cAbs : OC := c1i (fun _ => True) fun i => .int (if i < 0 then -i else i)
theorem d_abs : CallD st (fun xs H Q => ∃ i, xs = [.int i] ∧ Q (.int (if i < 0 then -i else i)) H) cAbs := by
  intro F H as vs R Q o ha hw k
  unfold cAbs c1i at hw
  split at hw
  · rename_i i
    obtain ⟨v, rfl, h⟩ := ar1 ha
    have e : v = .int i := AtB.imm h rfl
    subst e
    exact ⟨i, rfl, k _ _ H hw.2 (.refl o.hi) at_int⟩
  · exact hw.elim
abbrev cInt : OC := c1i (fun _ => True) fun i => .int i
theorem d_int : CallD st (fun xs H Q => (∃ i, xs = [.int i] ∧ Q (.int i) H) ∨ ∃ k, xs = [.bl k] ∧ Q (.int (if k then 1 else 0)) H) cInt := by
  intro F H as vs R Q o ha hw k
  unfold cInt c1i at hw
  split at hw
  · rename_i i
    obtain ⟨v, rfl, h⟩ := ar1 ha
    have e : v = .int i := AtB.imm h rfl
    subst e
    exact .inl ⟨i, rfl, k _ _ H hw.2 (.refl o.hi) at_int⟩
  · exact hw.elim
abbrev cStr : OC := c1i (fun i => i.natAbs < 2 ^ 64) fun i => .str (toString i : Str)
theorem log64 {i : Int} (h : i.natAbs < 2 ^ 64) : i.natAbs.log2 < 1920 := by
  by_cases q : i.natAbs = 0
  · rw [q]; decide
  · have := (Nat.log2_lt q).mpr (Nat.lt_of_lt_of_le h (Nat.pow_le_pow_right (by decide) (by decide : 64 ≤ 1920)))
    exact this
theorem d_str : CallD st (fun xs H Q => ∃ i : Int, xs = [.int i] ∧ i.natAbs.log2 < 1920 ∧ Q (.str (toString i)) H) cStr := by
  intro F H as vs R Q o ha hw k
  unfold cStr c1i at hw
  split at hw
  · rename_i i
    obtain ⟨v, rfl, h⟩ := ar1 ha
    have e : v = .int i := AtB.imm h rfl
    subst e
    exact ⟨i, rfl, log64 hw.1, k _ _ H hw.2 (.refl o.hi) at_str⟩
  · exact hw.elim
abbrev cMax : OC := c2i fun i j => .int (if j > i then j else i)
abbrev cMin : OC := c2i fun i j => .int (if j < i then j else i)
theorem d_2c {g : Int → Int → Int} : CallD st (fun xs H Q => ∃ i j, xs = [.int i, .int j] ∧ Q (.int (g i j)) H) (c2i fun i j => .int (g i j)) := by
  intro F H as vs R Q o ha hw k
  unfold c2i at hw
  split at hw
  · rename_i i j
    obtain ⟨v, u, rfl, h, h'⟩ := ar2 ha
    have e : v = .int i := AtB.imm h rfl
    have e' : u = .int j := AtB.imm h' rfl
    subst e e'
    exact ⟨i, j, rfl, k _ _ H hw (.refl o.hi) at_int⟩
  · exact hw.elim
/-- list(xs), tuple(xs) -/
abbrev rList (K : PySem.W.Frag) : List V → Hp → VK → Prop := fun xs H Q => ∃ p ys, xs = [.ref p] ∧ (SqL K H p ys ∨ SqT K H p ys) ∧ ∀ l, H l = none → Q (.ref l) (upd H l (.lst ys))
abbrev rTuple (K : PySem.W.Frag) : List V → Hp → VK → Prop := fun xs H Q => ∃ p ys, xs = [.ref p] ∧ ((SqL K H p ys ∧ ∀ l, H l = none → Q (.ref l) (upd H l (.tup ys))) ∨ (SqT K H p ys ∧ Q (.ref p) H))
def cSeq (g : List D → D) : OC := fun as R => match as with
  | [.bo (.lst ds)] => R (g ds)
  | [.bo (.tup ds)] => R (g ds)
  | _ => False
theorem c_list : CallF st (rList K) (cSeq .lst) := by
  intro F H as vs R Q o ha hw k
  unfold cSeq at hw
  split at hw
  · rename_i ds
    obtain ⟨v, rfl, h⟩ := ar1 ha
    obtain ⟨a, us, rfl, h1, h2⟩ := AtB.lst h
    exact ⟨a, us, rfl, .inl (.of h1), fun l hl => k _ _ _ hw (.new o.hi hl) hl ⟨_, upd_same, (h2.off (plo hl)).step (Fr.new (M := isSt st) hl) (fun a m => .inl (o.sa a m))⟩⟩
  · rename_i ds
    obtain ⟨v, rfl, h⟩ := ar1 ha
    obtain ⟨a, us, rfl, _, h1, h2⟩ := AtB.tup h
    exact ⟨a, us, rfl, .inr (.of h1), fun l hl => k _ _ _ hw (.new o.hi hl) hl ⟨_, upd_same, (h2.off (plo hl)).step (Fr.new (M := isSt st) hl) (fun a m => .inl (o.sa a m))⟩⟩
  · exact hw.elim
theorem c_tuple : CallD st (rTuple K) (cSeq .tup) := by
  intro F H as vs R Q o ha hw k
  unfold cSeq at hw
  split at hw
  · rename_i ds
    obtain ⟨v, rfl, h⟩ := ar1 ha
    obtain ⟨a, us, rfl, h1, h2⟩ := AtB.lst h
    refine ⟨a, us, rfl, .inl ⟨.of h1, fun l hl => k _ _ _ hw (.new o.hi hl) ?_⟩⟩
    simp only [At]
    exact ⟨l, us, rfl, o.fresh hl, upd_same, h2.step (Fr.new (M := isSt st) hl) o.sa⟩
  · rename_i ds
    obtain ⟨v, rfl, h⟩ := ar1 ha
    obtain ⟨a, us, rfl, na, h1, h2⟩ := AtB.tup h
    refine ⟨a, us, rfl, .inr ⟨.of h1, k _ _ _ hw (.refl o.hi) ?_⟩⟩
    simp only [At]
    exact ⟨a, us, rfl, na, h1, h2⟩
  · exact hw.elim
/-- any, all -/
def boolsD : List D → Option (List Bool)
  | [] => some []
  | .bl b :: ds => (boolsD ds).map (b :: ·)
  | _ => none
theorem AtAll.bools {A : Set_} {H : Hp} : ∀ {ds : List D} {vs : List V} {bs : List Bool}, AtAll st A H vs ds → boolsD ds = some bs → vs = bs.map V.bl
  | [], vs, bs, h, e => by
    have e1 : ([] : List Bool) = bs := Option.some.inj e
    rw [h.nil_of, ← e1]; rfl
  | .bl b :: ds, vs, bs, h, e => by
    obtain ⟨x, r, rfl, h1, h2⟩ := h.uncons
    rw [boolsD] at e
    obtain ⟨cs, e1, e2⟩ := Option.map_eq_some_iff.mp e
    rw [← e2, List.map_cons, ← AtAll.bools h2 e1, h1.imm rfl]
  | .non :: _, _, _, _, e => by cases e
  | .int _ :: _, _, _, _, e => by cases e
  | .str _ :: _, _, _, _, e => by cases e
  | .lst _ :: _, _, _, _, e => by cases e
  | .tup _ :: _, _, _, _, e => by cases e
  | .dic _ _ :: _, _, _, _, e => by cases e
  | .obj _ _ _ :: _, _, _, _, e => by cases e
  | .sto :: _, _, _, _, e => by cases e
def cBools (g : List Bool → Bool) : OC := fun as R => match as with
  | [.bo (.lst ds)] => (match boolsD ds with
    | some bs => R (.bl (g bs))
    | none => False)
  | _ => False
theorem d_bools {g : List Bool → Bool} : CallD st (fun vs H Q => ∃ (a : Addr) (bs : List Bool), vs = [V.ref a] ∧ SqL K H a (bs.map V.bl) ∧ Q (.bl (g bs)) H) (cBools g) := by
  intro F H as vs R Q o ha hw k
  unfold cBools at hw
  split at hw
  · rename_i ds
    split at hw
    · rename_i bs e
      obtain ⟨v, rfl, h⟩ := ar1 ha
      obtain ⟨a, us, rfl, h1, h2⟩ := AtB.lst h
      rw [h2.bools e] at h1
      exact ⟨a, bs, rfl, .of h1, k _ _ _ hw (.refl o.hi) at_bl⟩
    · exact hw.elim
  · exact hw.elim
theorem boolsD_map (bs : List Bool) : boolsD (bs.map D.bl) = some bs := by
  induction bs with
  | nil => rfl
  | cons b bs ih => rw [List.map_cons, boolsD, ih]; rfl
/-- sorted of texts: of a list, of a dict's keys -/
def strsD : List D → Option (List Str)
  | [] => some []
  | .str b :: ds => (strsD ds).map (b :: ·)
  | _ => none
theorem AtAll.strs {A : Set_} {H : Hp} : ∀ {ds : List D} {vs : List V} {bs : List Str}, AtAll st A H vs ds → strsD ds = some bs → vs = bs.map V.str
  | [], vs, bs, h, e => by
    have e1 : ([] : List Str) = bs := Option.some.inj e
    rw [h.nil_of, ← e1]; rfl
  | .str b :: ds, vs, bs, h, e => by
    obtain ⟨x, r, rfl, h1, h2⟩ := h.uncons
    rw [strsD] at e
    obtain ⟨cs, e1, e2⟩ := Option.map_eq_some_iff.mp e
    rw [← e2, List.map_cons, ← AtAll.strs h2 e1, h1.imm rfl]
  | .non :: _, _, _, _, e => by cases e
  | .int _ :: _, _, _, _, e => by cases e
  | .bl _ :: _, _, _, _, e => by cases e
  | .lst _ :: _, _, _, _, e => by cases e
  | .tup _ :: _, _, _, _, e => by cases e
  | .dic _ _ :: _, _, _, _, e => by cases e
  | .obj _ _ _ :: _, _, _, _, e => by cases e
  | .sto :: _, _, _, _, e => by cases e
theorem strsD_map (bs : List Str) : strsD (bs.map D.str) = some bs := by
  induction bs with
  | nil => rfl
  | cons b bs ih => rw [List.map_cons, strsD, ih]; rfl
abbrev rSortedK : List V → Hp → VK → Prop := fun xs H Q => ∃ (a : Addr) (kvs : List (Key × V)) (ks : List Str), xs = [.ref a] ∧ Rd H a (.dK kvs) ∧ kvs.map (·.1) = ks.map Sum.inr ∧ ks.length < 64 ∧
    ∀ ys p, ys.Perm ks → sortedS ys = true → H p = none → Q (.ref p) (upd H p (.lst (ys.map V.str)))
def cSortS : OC := fun as R => match as with
  | [.bo (.lst ds)] => (match strsD ds with
    | some xs => xs.length < 64 ∧ ∀ ys, ys.Perm xs → sortedS ys = true → R (.lst (ys.map .str))
    | none => False)
  | _ => False
def cSortK : OC := fun as R => match as with
  | [.bo (.dic ks _)] => ks.length < 64 ∧ ∀ ys, ys.Perm ks → sortedS ys = true → R (.lst (ys.map .str))
  | _ => False
theorem AtAll.ofStrs {A : Set_} {H : Hp} (xs : List Str) : AtAll st A H (xs.map V.str) (xs.map D.str) := .ofImms (fun _ => rfl) xs
theorem c_sortS : CallF st (rSortedS K) cSortS := by
  intro F H as vs R Q o ha hw k
  unfold cSortS at hw
  split at hw
  · rename_i ds
    split at hw
    · rename_i xs e
      obtain ⟨v, rfl, h⟩ := ar1 ha
      obtain ⟨a, us, rfl, h1, h2⟩ := AtB.lst h
      rw [h2.strs e] at h1
      exact ⟨a, xs, rfl, .of h1, hw.1, fun ys p hp hs hn => k _ _ _ (hw.2 ys hp hs) (.new o.hi hn) hn ⟨_, upd_same, .ofStrs ys⟩⟩
    · exact hw.elim
  · exact hw.elim
theorem kz_keys {ks : List Str} {us : List V} (h : ks.length = us.length) : (kz ks us).map (·.1) = ks.map Sum.inr := by
  unfold kz
  rw [List.map_fst_zip]
  rw [List.length_map, h]
  exact Nat.le_refl _
theorem c_sortK : CallF st rSortedK cSortK := by
  intro F H as vs R Q o ha hw k
  unfold cSortK at hw
  split at hw
  · rename_i ks ds
    obtain ⟨v, rfl, h⟩ := ar1 ha
    obtain ⟨a, us, rfl, h1, h2, h3⟩ := AtB.dic h
    exact ⟨a, _, ks, rfl, h1, kz_keys (by rw [h3.length]; exact h2), hw.1, fun ys p hp hs hn => k _ _ _ (hw.2 ys hp hs) (.new o.hi hn) hn ⟨_, upd_same, .ofStrs ys⟩⟩
  · exact hw.elim
/-- list.index of what is there -/
def wmt1 (o : O2) (w : WE) (r : WE) : WE := fun G R => w G fun d => r G fun e => o d e R
theorem imms_map {α : Type} {f : α → D} {g : α → V} (h : ∀ x, imm (f x) = some (g x)) (xs : List α) : imms (xs.map f) = some (xs.map g) := by
  induction xs with
  | nil => rfl
  | cons x xs ih => rw [List.map_cons, imms, h x, ih]; rfl
def ixOf (v : V) : List V → Option Nat
  | [] => none
  | x :: xs => if eqV x v then some 0 else (ixOf v xs).map (· + 1)
theorem ixOf_at {v : V} : ∀ {xs : List V} {j : Nat}, ixOf v xs = some j → ∃ z, xs[j]? = some z ∧ eqV z v = true ∧ ∀ m z', m < j → xs[m]? = some z' → eqV z' v = false
  | [], j, e => by cases e
  | x :: xs, j, e => by
    unfold ixOf at e
    split at e
    · rename_i q
      cases e
      exact ⟨x, rfl, q, fun m z' h => absurd h (Nat.not_lt_zero _)⟩
    · rename_i q
      obtain ⟨i, e1, rfl⟩ := Option.map_eq_some_iff.mp e
      obtain ⟨z, h1, h2, h3⟩ := ixOf_at e1
      refine ⟨z, by simpa using h1, h2, fun m z' hm hz => ?_⟩
      cases m with
      | zero =>
        simp at hz
        subst hz
        simpa using q
      | succ m => exact h3 m z' (by omega) (by simpa using hz)
def oIndex : O2 := fun x y R => match x, imm y with
  | .lst ds, some v => (match imms ds with
    | some vs => (match ixOf v vs with
      | some j => R (.int (j : Nat))
      | none => False)
    | none => False)
  | _, _ => False
end
end VL
/-! text VLh -/
/-! VLh: rules that the hand layer has not: min of three, text * int, dict.update, list(d.values()), index, isinstance. -/
namespace VL
open PySem PySem.Spec PyProof.Rows L2
section
variable {st : Sto} {K : PySem.W.Frag} {X : Cx}
theorem vals3' {x y z : V} {us : List Value} (r : Vals [x, y, z] us) : ∃ u v w, us = [u, v, w] ∧ RelV x u ∧ RelV y v ∧ RelV z w := by
  cases r with
  | cons r1 r => cases r with
    | cons r2 r => cases r with
      | cons r3 r => cases r; exact ⟨_, _, _, rfl, r1, r2, r3⟩
def min3 (a b c : Int) : Int := if b < a then (if c < b then c else b) else (if c < a then c else a)
theorem call_min3 (hc : X.calm = true) : CallR X (.builtin "min") (fun xs H Q => ∃ i j k, xs = [.int i, .int j, .int k] ∧ Q (.int (min3 i j k)) H) := by
  intro pins s σ H xs us Q I r h
  obtain ⟨i, j, k, rfl, q⟩ := h
  obtain ⟨u1, u2, u3, rfl, ⟨t1, rfl⟩, ⟨t2, rfl⟩, ⟨t3, rfl⟩⟩ := vals3' r
  refine PySem.min_three_ints (I.ok.hd hc) fun h' tk kp => ⟨.int (min3 i j k), H, I.kept (t' := tk) kp, ?_, q⟩
  unfold min3
  split <;> split <;> exact ⟨_, rfl⟩
def cMin3 : OC := fun as R => match as with
  | [.bo (.int i), .bo (.int j), .bo (.int k)] => R (.int (min3 i j k))
  | _ => False
theorem d_min3 : CallD st (fun xs H Q => ∃ i j k, xs = [.int i, .int j, .int k] ∧ Q (.int (min3 i j k)) H) cMin3 := by
  intro F H as vs R Q o ha hw k
  unfold cMin3 at hw
  split at hw
  · rename_i i j l
    cases ha with
    | cons h1 ha =>
      obtain ⟨v, u, rfl, h2, h3⟩ := ar2 ha
      have e1 := AtB.imm h1 (x := .int i) rfl
      have e2 := AtB.imm h2 (x := .int j) rfl
      have e3 := AtB.imm h3 (x := .int l) rfl
      subst e1 e2 e3
      exact ⟨i, j, l, rfl, k _ _ H hw (.refl o.hi) at_int⟩
  · exact hw.elim
/-- text * int -/
def repS (x : Str) (n : Int) : Str := if n < 1 then Str.empty else if n = 1 then x else ⟨(List.replicate n.toNat x.cps).foldl (· ++ ·) #[]⟩
theorem op_repS : OpR X (binaryOp .Mult) (fun x y H Q => ∃ a n, x = .str a ∧ y = .int n ∧ (-100 ≤ n ∧ n ≤ 100 ∧ 0 < a.length ∧ a.length ≤ 100) ∧ Q (.str (repS a n)) H) := by
  intro pins s σ H x y v u Q I rx ry h
  obtain ⟨a, n, rfl, rfl, ⟨h1, h2, h3, h4⟩, q⟩ := h
  obtain ⟨t, rfl⟩ := rx
  obtain ⟨t', rfl⟩ := ry
  refine PySem.P.mul_str (by
    have e1 : ¬ n < -(2 ^ 63 : Int) := by omega
    have e2 : ¬ n ≥ 2 ^ 63 := by omega
    rw [decide_eq_false e1, decide_eq_false e2]; rfl) (fun q1 q2 q3 => ?_) (fun q1 q2 => ?_) ?_
  · have : (100 : Int) ≤ (2 ^ 63 - 1 : Int) / n := Int.le_ediv_of_mul_le (by omega) (by omega)
    omega
  · have hb : a.length * n.toNat ≤ 100 * 100 := Nat.mul_le_mul h4 (by omega)
    show decide (a.length * n.toNat > sizeLine) = false
    rw [decide_eq_false_iff_not, Nat.not_lt]
    exact Nat.le_trans hb (by decide)
  · have hn : ¬ (a.length == 0) = true := by simp; omega
    by_cases q1 : n < 1
    · rw [if_pos q1]
      have e : repS a n = Str.empty := by unfold repS; rw [if_pos q1]
      exact ⟨by decide, .str (repS a n), H, I.tok _, by rw [e]; exact ⟨_, rfl⟩, q⟩
    · rw [if_neg q1]
      by_cases q2 : n = 1
      · rw [if_pos (by simp [q2])]
        refine ⟨.str a, H, I, ⟨_, rfl⟩, ?_⟩
        have e : repS a n = a := by unfold repS; rw [if_neg q1, if_pos q2]
        rw [e] at q; exact q
      · rw [if_neg (by simp [q2]; omega)]
        have e : repS a n = ⟨(List.replicate n.toNat a.cps).foldl (· ++ ·) #[]⟩ := by unfold repS; rw [if_neg q1, if_neg q2]
        refine ⟨?_, .str (repS a n), H, I.tok _, by rw [e]; exact ⟨_, rfl⟩, q⟩
        have hl : ∀ (k : Nat) (acc : Array Nat), ((List.replicate k a.cps).foldl (· ++ ·) acc).size = acc.size + k * a.cps.size := fun k => by
          induction k with
          | zero => intro acc; simp
          | succ k ih =>
            intro acc
            rw [List.replicate_succ, List.foldl_cons, ih, Array.size_append, Nat.succ_mul]
            omega
        have h5 : ((List.replicate n.toNat a.cps).foldl (· ++ ·) #[]).size = n.toNat * a.cps.size := by rw [hl]; simp
        have h6 : n.toNat * a.cps.size ≤ 100 * 100 := Nat.mul_le_mul (by omega) h4
        show ((List.replicate n.toNat a.cps).foldl (· ++ ·) #[]).size ≤ sizeLine
        rw [h5]
        exact Nat.le_trans h6 (by decide)
def oRep : O2 := fun x y R => match x, y with
  | .str a, .int n => (-100 ≤ n ∧ n ≤ 100 ∧ 0 < a.length ∧ a.length ≤ 100) ∧ R (.str (repS a n))
  | _, _ => False
theorem d_rep : OpD st (fun x y H Q => ∃ a n, x = .str a ∧ y = .int n ∧ (-100 ≤ n ∧ n ≤ 100 ∧ 0 < a.length ∧ a.length ≤ 100) ∧ Q (.str (repS a n)) H) oRep := by
  intro F H x y v u R Q o hx hy hw k
  unfold oRep at hw
  split at hw
  · rename_i a n
    have e1 := hx.imm (x := .str a) rfl
    have e2 := hy.imm (x := .int n) rfl
    subst e1 e2
    exact ⟨a, n, rfl, rfl, hw.1, k _ _ H hw.2 (.refl o.hi) at_str⟩
  · exact hw.elim
/-- x.index(y), x a list -/
def wmtL (o : List D → D → (D → Prop) → Prop) (w wy : WE) : WE := fun G R => w G fun d => match d with
  | .lst ds => wy G fun y => o ds y R
  | _ => False
def oIndexL : List D → D → (D → Prop) → Prop := fun ds y R => match imm y, imms ds with
  | some v, some vs => (match ixOf v vs with
    | some j => R (.int (j : Nat))
    | none => False)
  | _, _ => False
theorem tE_index {w wy : WE} : ∀ σ H Q, tE st (wmtL oIndexL w wy) σ H Q → tBM K "list" (rIndex K) (tO st w) (tCons (tO st wy) tNil) σ H Q := fun σ H Q ⟨F, G, R, I, hw, k⟩ => by
  refine tO.bind I hw fun d v H1 r1 I1 f1 q1 => ?_
  split at r1
  · rename_i ds
    obtain ⟨a, vs, rfl, h1, h2⟩ := q1.lst
    refine ⟨.inl ⟨rfl, vs, .of h1⟩, tO.bind I1 r1 fun y u H2 r2 I2 f2 q2 => ?_⟩
    unfold oIndexL at r2
    split at r2
    · rename_i w ws e1 e2
      split at r2
      · rename_i j e3
        obtain ⟨a', us, ea, h3, h4⟩ := (q1.fx f2 I1.sa).lst
        cases ea
        have h5 := h4.immsOf e2
        subst h5
        have e4 := q2.imm e1
        subst e4
        obtain ⟨z, h6, h7, h8⟩ := ixOf_at e3
        exact ⟨a, us, u, j, z, rfl, rfl, .of h3, imm_flat e1, imms_flat e2, h6, h7, h8, k _ _ H2 r2 (f1.trans f2) at_int⟩
      · exact r2.elim
    · exact r2.elim
  · exact r1.elim
/-- d.update(e), both tracked -/
def rUpdate : V → List V → Hp → VK → Prop := fun x vs H Q => ∃ d o kvs more, x = .ref d ∧ vs = [.ref o] ∧ d ≠ o ∧ H d = some (.dK kvs) ∧ Rd H o (.dK more) ∧ kvs.length + more.length ≤ sizeLine ∧ Q .non (upd H d (.dK (mergeK kvs more)))
theorem mt_update : MtM X "dict.update" rUpdate := by
  intro pins s σ H x vs v us Q I rx rv h
  obtain ⟨d, o, kvs, more, rfl, rfl, hdo, hd, ho, hz, q⟩ := h
  cases rx
  obtain ⟨u, rfl, ru⟩ := rv.one
  cases ru
  obtain ⟨z1, sm1, vs1, rel1, dof1⟩ := dk_of I.hok hd
  obtain ⟨z2, sm2, vs2, rel2, dof2⟩ := dk_rd I.hok ho
  refine call_meetsIn PySem.F.slot_dict_update dof1.typeIs PySem.F.entry_dict_update (PySem.F.args_dict_update_2 _ _) (meets_dict_update (mixKind X.prog X.w) d o hdo sm2) ⟨vs1, vs2, dof1, dof2, by rw [← rel1.length, ← rel2.length]; exact hz, fun h' dd' _ hs => ?_⟩
  have he : ∃ q, h'.get? d = some q := let ⟨q, _, _, hq, _⟩ := dd'; ⟨q, hq⟩
  have hl : (mergeK kvs more).length ≤ sizeLine := by have := length_mergeK more kvs; omega
  exact ⟨.non, _, d_write (t' := s.toks) I (by rw [hd]; exact True.intro) hs he (dk_new hl sm1 (KV.merge rel2 rel1) dd'), rfl, q⟩
/-- list(d.values()) -/
def tListVals (td : TE) : TE := fun σ H Q => td σ H fun x H1 => ∃ a kvs, x = .ref a ∧ H1 a = some (.dK kvs) ∧ ∀ p, H1 p = none → Q (.ref p) (upd H1 p (.lst (kvs.map (·.2))))
theorem pe_listVals {o : Expr} {td : TE} {p apos mpos pos : Pos} (hc : X.calm = true) (hg : Gl X "list") (hm : X.mg "list" = none) (hd : PE X o td) (hbase : attributeBase o "values" X.env (eval o X.env) = eval o X.env := by rfl) (hline : (apos.endLine == mpos.line) = true := by rfl)
    (hse : starEach [Expr.Call (.Attribute o "values" apos) [] [] mpos] X.env = [(false, eval (Expr.Call (.Attribute o "values" apos) [] [] mpos) X.env)] := by rfl) :
    PE X (.Call (.Name "list" p) [.Call (.Attribute o "values" apos) [] [] mpos] [] pos) (tListVals td) := by
  refine ⟨fun pins s σ H Q I h => ?_⟩
  refine wpAny_Call_Name_kw (ld_blt I hg hm (u := .type "list") boot_list ?_ (by first | decide +kernel | decide) (by first | decide +kernel | decide))
  rw [hse]
  refine PySem.callWith_type1 (wpAny_Call_method0_late hbase hline (thn (hd.run pins s σ H _ I h) fun v s1 ⟨x, H1, I1, r1, a, kvs, ex, ha, q⟩ => ?_))
  subst ex
  obtain rfl : v = Value.ref a := r1
  obtain ⟨hzl, hsys, vs, rel, dof⟩ := dk_of I1.hok ha
  obtain ⟨ep, dat⟩ := dof.dictAt
  have dat' := dat
  obtain ⟨ob, es, ho, ex, hdat, hko, hpr, hnd⟩ := dat'
  refine ⟨"dict", "dict.values", F.plainAttrs_dict, F.slot_dict_values, F.type_dict_values, ⟨ob, ho, ex.1⟩, fun b e => ?_, Calls.callWith_builtin rfl (PySem.evalArgs_none ?_)⟩
  · cases e
    exact ⟨ob, ho, ex.2.1⟩
  refine call_meetsIn F.slot_dict_values ⟨ob, ho, ex.1⟩ F.entry_dict_values (F.args_dict_values_1 _) (meets_dict_values (mixKind X.prog X.w) a hsys) ⟨⟨vs, dof⟩, ?_⟩
  have k1 : ∀ b u, s1.heap.get? b = some u → (s1.heap.push { cls := .type "dict_values", data := .fields #[.ref a] }).get? b = some u := fun b u e => Heap.get?_push_of_some _ e
  have dat1 : (s1.heap.push { cls := .type "dict_values", data := .fields #[.ref a] }).DictAt (mixKind X.prog X.w) a vs ep := dat.keep k1
  have I2 : Inv X pins σ H1 { s1 with heap := s1.heap.push { cls := .type "dict_values", data := .fields #[.ref a] } } := I1.kept (t' := s1.toks) k1
  have hz2 : vs.length ≤ sizeLine := by rw [← rel.length]; exact hzl
  refine PySem.W.kdl_call (PySem.W.kdl_values (knd := mixKind X.prog X.w) (kvs := vs) (ep := ep) (r := s1.heap.objs.size) (d := a)) (I.ok.hd hc) ⟨⟨_, Heap.get?_push_size _ rfl, rfl, rfl⟩, dat1⟩ hz2 fun h' tk acc c' hk hS hacc => ?_
  have hfr := I2.fresh
  refine ⟨.ref _, upd H1 _ (.lst (kvs.map (·.2))), I2.laid (t' := tk) hk (Nat.le_refl _) ⟨by rw [List.length_map]; exact hzl, acc.toList, c', ?_, by rw [Array.toArray_toList]; exact hS⟩, rfl, q _ hfr⟩
  refine vals_of_at (by
    have e : acc.toList.length = acc.size := by simp
    rw [List.length_map, e, hacc.1]
    exact rel.length) fun j x u e1 e2 => ?_
  obtain ⟨k, e3⟩ := hacc.2 j u (by rw [← Array.getElem?_toList]; exact e2)
  rw [List.getElem?_map] at e1
  obtain ⟨kv, e4, rfl⟩ := Option.map_eq_some_iff.mp e1
  obtain ⟨q2, e5, e6⟩ := kv_get rel (i := j) (k := kv.1) (v := kv.2) (by rw [e4])
  rw [e3] at e5
  cases e5
  exact e6
def wvals (w : WE) : WE := fun G R => w G fun d => match d with
  | .dic _ ds => R (.lst ds)
  | _ => False
theorem kz_vals {ks : List Str} {us : List V} (h : ks.length = us.length) : (kz ks us).map (·.2) = us := by
  unfold kz
  rw [List.map_snd_zip]
  rw [List.length_map, h]
  exact Nat.le_refl _
/-- the values of a name's own dict -/
def wvalsO (i : Nat) : WE := fun G R => match (G[i]? : Option Sl) with
  | some (.ow (.dic _ ds)) => R (.lst ds)
  | _ => False
theorem tF_vals {i : Nat} : ∀ σ H Q, tF st (wvalsO i) σ H Q → tListVals (tVar i) σ H Q := fun σ H Q ⟨F, G, R, I, hw, k⟩ => by
  unfold wvalsO at hw
  split at hw
  · rename_i ks ds e
    obtain ⟨l, us, ev, hl, h1, h2, h3⟩ := I.ow_dic e
    refine ⟨_, ev, l, _, rfl, h1, fun p hp => ?_⟩
    rw [kz_vals (by rw [h3.length]; exact h2)]
    exact k _ _ _ hw (.new I.hi hp) hp ⟨us, upd_same, (h3.off (plo hp)).step (Fr.new (M := isSt st) hp) (fun a m => .inl (I.sa a m))⟩
  · exact hw.elim
/-! x.update(e), x a name's own dict -/
section
variable {α : Type}
def dmerge (ks : List Str) (vs : List α) : List Str → List α → List Str × List α
  | l :: ls, e :: es => dmerge (dputK ks l) (dputV ks vs l e) ls es
  | _, _ => (ks, vs)
end
theorem kz_merge : ∀ (ls : List Str) (ws : List V) (ks : List Str) (us : List V), ks.length = us.length → ls.length = ws.length → mergeK (kz ks us) (kz ls ws) = kz (dmerge ks us ls ws).1 (dmerge ks us ls ws).2
  | [], ws, ks, us, _, _ => by simp [mergeK, kz, dmerge]
  | l :: ls, [], ks, us, _, h => by simp at h
  | l :: ls, w :: ws, ks, us, h, h2 => by
    have ih := kz_merge ls ws (dputK ks l) (dputV ks us l w) (dputV_length h).symm (by simpa using h2)
    have e : kz (l :: ls) (w :: ws) = (Sum.inr l, w) :: kz ls ws := rfl
    rw [e]
    show mergeK (putK (kz ks us) (Sum.inr l) w) (kz ls ws) = _
    rw [kz_put _ _ _ _ h, ih]
    rfl
theorem AtAll.merge {A : Set_} {H : Hp} : ∀ {ls : List Str} {ws : List V} {es : List D} {ks : List Str} {us : List V} {ds : List D}, AtAll st A H us ds → ks.length = ds.length → AtAll st A H ws es → ls.length = es.length → AtAll st A H (dmerge ks us ls ws).2 (dmerge ks ds ls es).2 ∧ (dmerge ks us ls ws).1 = (dmerge ks ds ls es).1 ∧ (dmerge ks ds ls es).1.length = (dmerge ks ds ls es).2.length
  | [], ws, es, ks, us, ds, h, hl, h2, hl2 => ⟨h, rfl, hl⟩
  | l :: ls, ws, [], ks, us, ds, h, hl, h2, hl2 => by simp at hl2
  | l :: ls, ws, e :: es, ks, us, ds, h, hl, h2, hl2 => by
    obtain ⟨w, r, rfl, q1, q2⟩ := h2.uncons
    have ih := AtAll.merge (ls := ls) (ws := r) (es := es) (ks := dputK ks l) (h.dput hl q1) (dputV_length hl).symm q2 (by simpa using hl2)
    exact ih
def wupd (i : Nat) (w : WE) : WS := fun G P => match (G[i]? : Option Sl) with
  | some (.ow (.dic ks ds)) => w G fun d => (match d with
    | .dic ls es => ds.length + es.length ≤ 1000 ∧ P.nx (G.set i (.ow (.dic (dmerge ks ds ls es).1 (dmerge ks ds ls es).2)))
    | _ => False)
  | _ => False
theorem tS_upd {b : Bs} {i : Nat} {w : WE} : ∀ Dn σ H, tS st b (wupd i w) Dn σ H → tDrop (tBM K "dict" rUpdate (tVar i) (tCons (tE st w) tNil)) Dn σ H := fun Dn σ H ⟨G, P, ⟨F, I, sf⟩, hw, po⟩ => by
  unfold wupd at hw
  split at hw
  · rename_i ks ds e
    obtain ⟨l, us, ev, hl, h1, h2, h3⟩ := I.ow_dic e
    refine ⟨_, ev, .inr (.inr (.inl ⟨rfl, .inl ⟨_, h1⟩⟩)), ?_⟩
    refine tE.bind I hw fun d v H1 r1 I1 f1 q1 => ?_
    split at r1
    · rename_i ls es
      obtain ⟨l', us, ev', hl', h1, h2, h3⟩ := I1.ow_dic e
      rw [ev] at ev'
      cases ev'
      simp only [At] at q1
      obtain ⟨o, ws, rfl, no, h4, h5, h6⟩ := q1
      have hlu : ks.length = us.length := by rw [h3.length]; exact h2
      have hlw : ls.length = ws.length := by rw [h6.length]; exact h5
      refine ⟨l, o, _, _, rfl, rfl, fun q => no (q ▸ I.la l hl), h1, h4, ?_, ?_⟩
      · rw [kz_length hlu, kz_length hlw, h2, h5]
        exact line5 (Nat.le_trans r1.1 (by decide))
      · obtain ⟨m1, m2, m3⟩ := AtAll.merge (ks := ks) (ls := ls) h3 h2 h6 h5
        rw [kz_merge _ _ _ _ hlu hlw, m2]
        exact po.nx _ _ _ r1.2 ⟨F, I1.put e ev ⟨_, upd_same, m3, m1.step frl fun a q => by rw [q]; exact I.la l hl⟩, (sf.fx f1).put hl⟩
    · exact r1.elim
  · exact hw.elim
/-- isinstance(x, T), T a built-in type -/
def tyD : D → Option String
  | .non => some "NoneType"
  | .bl _ => some "bool"
  | .int _ => some "int"
  | .str _ => some "str"
  | .lst _ => some "list"
  | .tup _ => some "tuple"
  | .dic _ _ => some "dict"
  | _ => none
theorem AtB.tyX {A : Set_} {H : Hp} {d : D} {v : V} {n : String} (h : AtB st A H v d) (e : tyD d = some n) : TyX K H v (.type n) := by
  cases d <;> simp only [tyD, Option.some.injEq, reduceCtorEq] at e <;> subst e
  · rw [h.imm (x := .non) rfl]; exact .base .non
  · rename_i b; rw [h.imm (x := .bl b) rfl]; exact .base (.bl b)
  · rename_i b; rw [h.imm (x := .int b) rfl]; exact .base (.int b)
  · rename_i b; rw [h.imm (x := .str b) rfl]; exact .base (.str b)
  · obtain ⟨a, vs, rfl, h1, _⟩ := h.lst; exact .base (.lst h1)
  · obtain ⟨a, vs, rfl, _, h1, _⟩ := h.tup; exact .base (.tup h1)
  · obtain ⟨a, vs, rfl, h1, _⟩ := h.dic
    rcases h1 with h1 | ⟨o, h1⟩
    · exact .base (.dK h1)
    · exact .fDict h1
def wisi (m : String) (w : WE) : WE := fun G R => w G fun d => match (tyD d).bind fun n => kitB n m with
  | some b => R (.bl b)
  | none => False
theorem tE_isi {m : String} {w : WE} : ∀ σ H Q, tE st (wisi m w) σ H Q → tCB (rIsi K) (tCons (tO st w) (tCons (tC (.ty m)) tNil)) σ H Q := fun σ H Q ⟨F, G, R, I, hw, k⟩ => by
  refine tO.bind I hw fun d v H1 r1 I1 f1 q1 => ?_
  split at r1
  · rename_i b e
    obtain ⟨n, e1, e2⟩ := Option.bind_eq_some_iff.mp e
    exact ⟨v, .ty m, .type n, .type m, b, rfl, .ty m, q1.tyX e1, kit_ty e2, k _ _ H1 r1 f1 at_bl⟩
  · exact r1.elim
/-- isinstance(x, (T, U)) -/
def wisi2 (m1 m2 : String) (w : WE) : WE := fun G R => w G fun d => match tyD d with
  | some n => (match kitB n m1, kitB n m2 with
    | some a, some b => R (.bl (a || b))
    | _, _ => False)
  | none => False
theorem tE_isi2 {m1 m2 : String} {w : WE} : ∀ σ H Q, tE st (wisi2 m1 m2 w) σ H Q → tCB (rIsiT K) (tCons (tO st w) (tCons (tTup (tCons (tC (.ty m1)) (tCons (tC (.ty m2)) tNil))) tNil)) σ H Q := fun σ H Q ⟨F, G, R, I, hw, k⟩ => by
  refine tO.bind I hw fun d v H1 r1 I1 f1 q1 => ?_
  refine ⟨by show 2 ≤ sizeLine; decide, fun p hp => ?_⟩
  split at r1
  · rename_i n e1
    split at r1
    · rename_i a b e2 e3
      have f2 : Fx st H1 (upd H1 p (.tup [.ty m1, .ty m2])) := .new I1.hi hp
      refine ⟨v, p, _, .type n, [.type m1, .type m2], a || b, rfl, upd_same, .cons (.ty m1) (.cons (.ty m2) .nil), (q1.fx f2 I1.sa).tyX e1, ?_, k _ _ _ r1 (f1.trans f2) at_bl⟩
      refine kitAny_cons (kit_ty e2) (fun h => ?_) (fun h => by rw [h]; rfl)
      refine kitAny_cons (kit_ty e3) (fun h2 => by rw [h, h2]; exact kitAny_nil) (fun h2 => by rw [h2, Bool.or_true])
    · exact r1.elim
  · exact r1.elim
end
end VL
/-! text VLi -/
/-! VLi: len, x[i], in, != of own instances. -/
namespace VL
open PySem PySem.Spec PyProof.Rows L2
section
variable {st : Sto} {X : Cx} {k : Nat} {C f : Addr} {fd : FuncData} {ps : List Str} {sp : Sp}
/-- a def of the text run somewhere below the body -/
theorem run_at {A : Around} {E : Value → Shared → Prop} {pins : List (Addr × Obj)} {σ : L2.St} {H : Hp} {s : Shared} {Q : VK} {us : List Value} {vs : List V} (F : FnOk X.prog X.w X.K X.mg X.base CX0 k f fd ps sp) (hr : Room k A) (hA : A.frames = X.A.frames) (hb : Binds X.K fd ps [])
    (I : Inv X pins σ H s) (r : Vals vs us) (h : sp vs H Q E0) : wpAny (model X.prog X.w) A (call (.ref f) us) (EP X pins σ Q) E s := by
  have e0 : Env0 X.prog X.w X.K X.mg X.base A X.stack s H := by
    have e := I.env0
    exact ⟨by rw [hA]; exact e.frames, e.mod, e.bs, e.bsz, e.funs, e.frf, e.hok, e.bare⟩
  have hl := F.len _ _ _ _ h
  refine wpAny_call (codeAny_mono (F.run A X.stack s H ⟨us, []⟩ us vs Q E0 hr e0 (by
    have := hb s us I.kIn (by rw [List.append_nil, ← r.length]; exact hl)
    simpa using this) r h) fun r s' hq => ?_)
  cases r with
  | error e => exact (hq : False).elim
  | ok fl =>
    cases fl with
    | ret w => exact I.after hq
    | next => exact False.elim hq
    | brk => exact False.elim hq
    | cont => exact False.elim hq
/-- len(o) -/
theorem call_lenO (F : FnOk X.prog X.w X.K X.mg X.base CX0 k f fd ps sp) (hr : Room (k + 1) X.A) (hb : Binds X.K fd ps []) (hs : PySem.W.findIn X.K (.ref C) "__len__" = some (some (.ref f))) (hf : PySem.W.isFn X.K (.ref f) = true) :
    CallR X (.builtin "len") (fun xs H Q => ∃ a dx fs, xs = [.ref a] ∧ H a = some (.ins C dx fs) ∧ sp [.ref a] H (fun v H' => ∃ n : Nat, v = .int n ∧ n ≤ 1000 ∧ Q (.int n) H') E0) := by
  intro pins s σ H xs us Q I r h
  obtain ⟨a, dx, fs, rfl, ha, h⟩ := h
  obtain ⟨u, rfl, ru⟩ := vals1 r
  cases ru
  obtain ⟨mA, J, _⟩ := ins_get I.hok ha
  obtain ⟨od, J, _⟩ := J.look
  obtain ⟨m, hF⟩ := I.fr
  refine PySem.W.len_K hF I.ok.mod.kin J hs hf (thn (run_at (E := X.xe) F hr.in1 rfl hb I (vs := [V.ref a]) (.cons rfl .nil) h) fun v s' q => ?_)
  obtain ⟨z, H', I', rz, n, rfl, hn, q⟩ := q
  obtain ⟨t, rfl⟩ := rz
  exact ⟨⟨by omega, by omega⟩, .int n, H', I'.tok _, ⟨_, rfl⟩, q⟩
/-- o[i] -/
theorem pe_ixO {a b : Expr} {ta tb : TE} {pos : Pos} (F : FnOk X.prog X.w X.K X.mg X.base CX0 k f fd ps sp) (hr : Room (k + 1) X.A) (hb : Binds X.K fd ps []) (hs : PySem.W.findIn X.K (.ref C) "__getitem__" = some (some (.ref f))) (hf : PySem.W.isFn X.K (.ref f) = true) (hfn : PySem.W.fnIn X.K f = true)
    (he : PE X a ta) (hi : PE X b tb) (hsl : ∀ x i, subscripted b true (.ref x) i = runValue (.builtin "lifetime.subscript" ⟨[.ref x, i], []⟩) := by intro _ _; rfl) :
    PE X (.Subscript a b pos) (fun σ H Q => ta σ H fun x H1 => tb σ H1 fun y H2 => ∃ p dx fs, x = .ref p ∧ H2 p = some (.ins C dx fs) ∧ sp [.ref p, y] H2 Q E0) := by
  refine ⟨fun pins s σ H Q I h => ?_⟩
  refine Subscript_ (binT he hi I h fun v u s2 x y H2 I2 rx ry q => ?_)
  obtain ⟨p, dx, fs, rfl, hp, q⟩ := q
  obtain rfl : v = Value.ref p := rx
  obtain ⟨mA, J, _⟩ := ins_get I2.hok hp
  obtain ⟨od, J, _⟩ := J.look
  obtain ⟨m, hF⟩ := I2.fr
  exact PySem.W.sub_K hF I2.ok.mod.kin J hs hfn hf (run_at (E := X.xe) F hr.in1 rfl hb I2 (vs := [V.ref p, y]) (.cons rfl (.cons ry .nil)) q) (hsl p u)
/-- x in o -/
theorem contains_O {A : Around} {E : Value → Shared → Prop} {s : Shared} {K : PySem.W.Frag} {a : Addr} {od : Option Obj} {ob : Obj} {u : Value} {M : Model} {Q : Bool → Shared → Prop} (XK : K.In s.heap) (J : PySem.W.InstAt s.heap a ob C od) (hs : PySem.W.findIn K (.ref C) "__contains__" = some (some (.ref f))) (hf : PySem.W.isFn K (.ref f) = true)
    (h : wpAny M A (call (.ref f) [.ref a, u]) (fun v s' => ∃ b, v = .bool b ∧ Q b s') E s) : wpAny M A (contains (.ref a) u) Q E s := by
  unfold contains
  refine wpAny_holding ?_
  rw [PySem.stdlibNamesSay?_ref]
  refine wpAny_bind (wpAny_bind (J.type.here ((PySem.W.looks_findIn XK hs).here ?_)))
  have n1 : ((some (Value.ref f) : Option Value) == some .none) = false := rfl
  simp only [n1, Bool.false_eq_true, if_false]
  refine wpAny_bind ?_
  unfold callSpecialUnlessNone?
  refine wpAny_bind (wpAny_bind (J.type.here ((PySem.W.looks_findIn XK hs).here ?_)))
  refine wpAny_holding (wpAny_bind ((PySem.W.bind_fn XK _ (beq_iff_eq.mp hf)).here ?_))
  have n2 : (Value.ref f == Value.none) = false := rfl
  simp only [n2, Bool.false_eq_true, if_false]
  refine wpAny_bind (wpAny_mono h (fun v s' q => ?_) fun _ _ e => e)
  obtain ⟨b, rfl, q⟩ := q
  exact wpAny_pure (wpAny_truthy_bool q)
abbrev rInO (C : Addr) (sp : Sp) : R2 := fun x y H Q => ∃ a dx fs, y = .ref a ∧ H a = some (.ins C dx fs) ∧ sp [.ref a, x] H (fun v H' => ∃ b, v = .bl b ∧ Q (.bl b) H') E0
abbrev rNinO (C : Addr) (sp : Sp) : R2 := fun x y H Q => ∃ a dx fs, y = .ref a ∧ H a = some (.ins C dx fs) ∧ sp [.ref a, x] H (fun v H' => ∃ b, v = .bl b ∧ Q (.bl (!b)) H') E0
theorem op_inO (F : FnOk X.prog X.w X.K X.mg X.base CX0 k f fd ps sp) (hr : Room k X.A) (hb : Binds X.K fd ps []) (hs : PySem.W.findIn X.K (.ref C) "__contains__" = some (some (.ref f))) (hf : PySem.W.isFn X.K (.ref f) = true) :
    OpR X (compareOp .In) (rInO C sp) := by
  intro pins s σ H x y v u Q I rx ry h
  obtain ⟨a, dx, fs, rfl, ha, h⟩ := h
  obtain rfl : u = Value.ref a := ry
  obtain ⟨mA, J, _⟩ := ins_get I.hok ha
  obtain ⟨od, J, _⟩ := J.look
  have e : compareOp .In v (.ref a) = (contains (.ref a) v >>= fun b => pure (Value.bool b)) := rfl
  rw [e]
  refine wpAny_bind (contains_O (E := X.xe) I.kIn J hs hf (thn (run_at (E := X.xe) F hr rfl hb I (vs := [V.ref a, x]) (.cons rfl (.cons rx .nil)) h) fun v s' ⟨z, H', I', rz, b, e, q⟩ => ?_))
  subst e
  cases rz
  exact ⟨b, rfl, wpAny_pure ⟨.bl b, H', I', rfl, q⟩⟩
theorem op_ninO (F : FnOk X.prog X.w X.K X.mg X.base CX0 k f fd ps sp) (hr : Room k X.A) (hb : Binds X.K fd ps []) (hs : PySem.W.findIn X.K (.ref C) "__contains__" = some (some (.ref f))) (hf : PySem.W.isFn X.K (.ref f) = true) :
    OpR X (compareOp .NotIn) (rNinO C sp) := by
  intro pins s σ H x y v u Q I rx ry h
  obtain ⟨a, dx, fs, rfl, ha, h⟩ := h
  obtain rfl : u = Value.ref a := ry
  obtain ⟨mA, J, _⟩ := ins_get I.hok ha
  obtain ⟨od, J, _⟩ := J.look
  have e : compareOp .NotIn v (.ref a) = (contains (.ref a) v >>= fun b => pure (Value.bool (!b))) := rfl
  rw [e]
  refine wpAny_bind (contains_O (E := X.xe) I.kIn J hs hf (thn (run_at (E := X.xe) F hr rfl hb I (vs := [V.ref a, x]) (.cons rfl (.cons rx .nil)) h) fun v s' ⟨z, H', I', rz, b, e, q⟩ => ?_))
  subst e
  cases rz
  exact ⟨b, rfl, wpAny_pure ⟨.bl (!b), H', I', rfl, q⟩⟩
/-- x != y, where the class has its own == and no != -/
theorem ifBound_objNe {M : Model} {A : Around} {E : Value → Shared → Prop} {s : Shared} {K : PySem.W.Frag} {x : Addr} {ox : Obj} {od : Option Obj} {args : List Value} {Q : Option Value → Shared → Prop} (XK : K.In s.heap) (I : PySem.W.InstAt s.heap x ox C od) (hs : PySem.W.findIn K (.ref C) "__ne__" = some (some (.builtin "object.__ne__")))
    (h : wpAny M A (call (.builtin "object.__ne__") (.ref x :: args)) (fun v => Q (some v)) E s) : wpAny M A (callSpecialIfBound? (.ref x) "__ne__" args) Q E s := by
  simp only [callSpecialIfBound?, bindSpecialIfBound?]
  refine wpAny_holding (wpAny_bind (wpAny_bind (wpAny_bind (I.type.here ((PySem.W.looks_findIn XK hs).here ?_)))))
  refine wpAny_bind (wpAny_askSetting (wpAny_ite ?_))
  have fin : wpAny M A (call (.builtin "object.__ne__") ([.ref x] ++ args) >>= fun v => pure (some v)) Q E s := wpAny_bind (wpAny_mono h (fun v s' h' => wpAny_pure h') fun _ _ h' => h')
  split
  · exact wpAny_bind (wpAny_of_eq (F.cmp_object.ne.bind _) (wpAny_pure (by exact fin)))
  · exact wpAny_tryCatch (wpAny_bind (wpAny_of_eq (F.cmp_object.ne.bind _) (wpAny_pure (by exact fin))))
abbrev rNeO (C : Addr) (sp : Sp) : R2 := fun x y H Q => ∃ a b dx dy fs gs, x = .ref a ∧ y = .ref b ∧ H a = some (.ins C dx fs) ∧ H b = some (.ins C dy gs) ∧ sp [.ref a, .ref b] H (fun v H' => ∃ b, v = .bl b ∧ Q (.bl (!b)) H') E0
theorem op_neO (F : FnOk X.prog X.w X.K X.mg X.base CX0 k f fd ps sp) (hr : Room (k + 1) X.A) (hb : Binds X.K fd ps []) (hs : PySem.W.findIn X.K (.ref C) "__eq__" = some (some (.ref f))) (hf : PySem.W.isFn X.K (.ref f) = true)
    (hn : PySem.W.findIn X.K (.ref C) "__ne__" = some (some (.builtin "object.__ne__"))) (hm : PySem.W.mroIn X.K C (.type "object") = some true) :
    OpR X (compareOp .NotEq) (rNeO C sp) := by
  intro pins s σ H x y v u Q I rx ry h
  obtain ⟨a, b, dx, dy, fs, gs, rfl, rfl, ha, hb', h⟩ := h
  obtain rfl : v = Value.ref a := rx
  obtain rfl : u = Value.ref b := ry
  obtain ⟨mA, J, _⟩ := ins_get I.hok ha
  obtain ⟨od, J, _⟩ := J.look
  obtain ⟨mB, J2, _⟩ := ins_get I.hok hb'
  obtain ⟨od2, J2, _⟩ := J2.look
  have one : wpAny (model X.prog X.w) X.A (tryCompare (.ref a) "__ne__" (.ref b)) (fun r s' => ∃ v, r = some v ∧ EP X pins σ Q v s') X.xe s := by
    unfold tryCompare
    refine wpAny_bind (ifBound_objNe I.kIn J hn (wpAny_call (codeAny_call_builtin PySem.F.cmp_object.ne.plain PySem.F.cmpEntry_ne (PySem.W.check_slot PySem.F.cmpKind_ne PySem.F.cmpSplit_ne (J.type.andThen (PySem.W.looks_mroIn I.kIn hm)) (PySem.F.cmpArgs_ne _ _) ?_))))
    unfold Builtin.«object.__ne__»
    refine wpAny_bind (m := slotArgs _ _ _) (wpAny_pure ?_)
    refine wpAny_bind (wpAny_cRoomFor (Nat.lt_of_le_of_lt (Nat.le_refl _) hr.in1.units0) ?_)
    refine wpAny_bind (PySem.W.ifBound_K I.kIn J hs hf (wpAny_mono (run_at (E := fun _ _ => False) F hr.in1 rfl hb I (vs := [V.ref a, V.ref b]) (.cons rfl (.cons rfl .nil)) h) (fun v s' q => ?_) fun _ _ z => z.elim))
    obtain ⟨z, H', I', rz, c, e, q⟩ := q
    subst e
    cases rz
    refine wpAny_bind (wpAny_truthy_bool ?_)
    refine wpAny_pure ?_
    exact wpAny_pure ⟨_, rfl, .bl (!c), H', I', rfl, q⟩
  have e : compareOp .NotEq (.ref a) (.ref b) = richCompare .NotEq (.ref a) (.ref b) := rfl
  rw [e]
  unfold richCompare
  simp only [oneThing_ref]
  refine wpAny_holding (wpAny_bind (wpAny_cRoomFor hr.units0 ?_))
  refine wpAny_bind (J.type.here (wpAny_bind (J2.type.here ?_)))
  split
  · rename_i q
    simp at q
  · refine wpAny_bind (wpAny_pure ?_)
    simp only [Bool.false_eq_true, if_false]
    refine wpAny_bind (wpAny_mono one (fun r s' z => ?_) fun _ _ e => e)
    obtain ⟨v, rfl, hq⟩ := z
    exact wpAny_pure hq
end
end VL
/-! text VLj -/
/-! VLj: sorted of tuples. -/
namespace VL
open PySem PySem.Spec PyProof.Rows L2
open PySem.W (EachIs dataLt)
section
variable {st : Sto} {X : Cx} {K : PySem.W.Frag}
def pyOf (d : D) : PyData := (toPy d).getD .none
def leD (a b : D) : Bool := !dataLt (pyOf b) (pyOf a)
theorem toPys_map : ∀ {ds : List D} {ps : List PyData}, toPys ds = some ps → ps = ds.map pyOf ∧ ∀ d ∈ ds, toPy d = some (pyOf d)
  | [], ps, e => by
    have e1 : ([] : List PyData) = ps := Option.some.inj (by rw [← e, toPys])
    exact ⟨e1.symm, fun d h => by cases h⟩
  | d :: ds, ps, e => by
    rw [toPys] at e
    cases e1 : toPy d with
    | none => rw [e1] at e; simp at e
    | some p =>
      cases e2 : toPys ds with
      | none => rw [e1, e2] at e; simp at e
      | some qs =>
        rw [e1, e2] at e
        simp only [Option.some.injEq] at e
        obtain ⟨h1, h2⟩ := toPys_map e2
        have e3 : pyOf d = p := by unfold pyOf; rw [e1]; rfl
        refine ⟨by rw [← e, List.map_cons, e3, h1], fun c hc => ?_⟩
        rcases List.mem_cons.mp hc with rfl | hc
        · rw [e3]; exact e1
        · exact h2 c hc
theorem each_vals {P : V → D → Prop} {R : Value → V × D → Prop} (hR : ∀ u v d, RelV v u → P v d → R u (v, d)) : ∀ {vs : List V} {us : List Value} {ds : List D}, Vals vs us → vs.length = ds.length → (∀ (i : Nat) v d, vs[i]? = some v → ds[i]? = some d → P v d) → EachIs R us (vs.zip ds)
  | [], _, _, .nil, _, _ => by simp; exact .nil
  | v :: vs, _, [], .cons _ _, h, _ => by simp at h
  | v :: vs, _, d :: ds, .cons r t, h, k => by
    rw [List.zip_cons_cons]
    exact .cons (hR _ _ _ r (k 0 v d rfl rfl)) (each_vals hR t (by simpa using h) fun i v' d' e1 e2 => k (i + 1) v' d' (by simpa using e1) (by simpa using e2))
theorem each_map {β γ : Type} {P : Value → γ → Prop} {f : β → γ} : ∀ {us : List Value} {bs : List β}, EachIs (fun v b => P v (f b)) us bs → EachIs P us (bs.map f)
  | _, _, .nil => .nil
  | _, _, .cons h t => .cons h (each_map t)
theorem each_back : ∀ {us : List Value} {bs : List (V × D)} {P : V × D → Prop}, EachIs (fun u b => RelV b.1 u ∧ P b) us bs → Vals (bs.map (·.1)) us
  | _, _, _, .nil => .nil
  | _, _, _, .cons h t => .cons h.1 (each_back t)
theorem cr_sortedD : CallR X (.builtin "sorted") (fun xs H Q => ∃ (a : Addr) (vs : List V) (ds : List D), xs = [.ref a] ∧ SqL X.K H a vs ∧ vs.length = ds.length ∧ (∀ d ∈ ds, toPy d = some (pyOf d)) ∧ (∀ (i : Nat) v d, vs[i]? = some v → ds[i]? = some d → Dp X.K H v (pyOf d)) ∧
    PySem.W.AllAlike (ds.map pyOf) ∧ PySem.W.Sortable (ds.map pyOf) ∧ (∀ d ∈ ds, (pyOf d).depth ≤ 20) ∧ (X.A.units + 100 < cLine) ∧
    ∀ p, H p = none → Q (.ref p) (upd H p (.lst (((vs.zip ds).mergeSort (fun a b => leD a.2 b.2)).map (·.1))))) := by
  intro pins s σ H xs us Q I r h
  obtain ⟨a, vs, ds, rfl, hs, hl, hp, hd, hal, hso, hdp, hu, q⟩ := h
  obtain ⟨u, rfl, ru⟩ := vals1 r
  cases ru
  obtain ⟨its, rv, pl, hz⟩ := I.list hs
  have hzi : its.length ≤ sizeLine := by rw [← rv.length]; exact hz
  have ezip : (vs.zip ds).map (fun b => pyOf b.2) = ds.map pyOf := by
    have : (vs.zip ds).map Prod.snd = ds := by rw [List.map_snd_zip]; rw [hl]; exact Nat.le_refl _
    rw [← this, List.map_map, this]
    rfl
  have each : ∀ h' : Heap, (∀ b o, s.heap.get? b = some o → h'.get? b = some o) → EachIs (fun v b => ∃ as, Reads h' v (pyOf b.2) as) its (vs.zip ds) := fun h' kp =>
    each_vals (P := fun v d => Dp X.K H v (pyOf d)) (fun u v d ru hd => Dp.reads (I.kept (t' := s.toks) (h' := h') kp) _ _ _ hd ru) rv hl hd
  have each2 : ∀ h' : Heap, (∀ b o, s.heap.get? b = some o → h'.get? b = some o) → EachIs (fun v d => ∃ as, Reads h' v d as) its (ds.map pyOf) := fun h' kp => by
    rw [← ezip]
    exact each_map (each h' kp)
  have kp1 : ∀ b o, s.heap.get? b = some o → (PySem.W.sortingHeap (PySem.W.copyHeap s.heap its) (s.heap.objs.size + 1) its).get? b = some o := fun b o e => PySem.W.sorting_copy_old e
  have S : PySem.W.SortsAt X.prog X.w X.A.in1.in1 { s with heap := PySem.W.sortingHeap (PySem.W.copyHeap s.heap its) (s.heap.objs.size + 1) its } (PySem.W.dataKind (PySem.W.sortingHeap (PySem.W.copyHeap s.heap its) (s.heap.objs.size + 1) its) (ds.map pyOf)) its :=
    PySem.W.SortsAt.data (each2 _ kp1) hal hso fun d hd => by
      obtain ⟨c, hc, rfl⟩ := List.mem_map.mp hd
      have := hdp c hc
      show X.A.units + 1 + 1 + _ < cLine
      omega
  refine PySem.W.sorted_vals pl.isList S hzi ?_
  have ko : PySem.W.KeyedOut false ((vs.zip ds).map fun b => pyOf b.2) its (PySem.W.sortVals (PySem.W.dataKind (PySem.W.sortingHeap (PySem.W.copyHeap s.heap its) (s.heap.objs.size + 1) its) (ds.map pyOf)) false its its) :=
    ⟨_, its, by rw [ezip]; exact hal, by rw [ezip], by rw [ezip]; exact each2 _ kp1⟩
  have e0 : EachIs (fun u b => RelV b.1 u ∧ True) its (vs.zip ds) := each_vals (P := fun _ _ => True) (fun u v d ru _ => ⟨ru, trivial⟩) rv hl fun _ _ _ _ _ => trivial
  have out := PySem.W.keyedOut_each (fun b : V × D => pyOf b.2) ko e0
  have rel := each_back (P := fun _ => True) out
  have hlen : (((vs.zip ds).mergeSort (fun a b => leD a.2 b.2)).map (·.1)).length ≤ sizeLine := by
    rw [List.length_map, List.length_mergeSort, List.length_zip, ← hl, Nat.min_self]
    exact hz
  obtain ⟨ep, he⟩ := PyProof.Rows.sortedAll_at s.heap its (PySem.W.sortVals (PySem.W.dataKind (PySem.W.sortingHeap (PySem.W.copyHeap s.heap its) (s.heap.objs.size + 1) its) (ds.map pyOf)) false its its).toArray
  exact ⟨.ref _, upd H (s.heap.objs.size + 1) (.lst (((vs.zip ds).mergeSort (fun a b => leD a.2 b.2)).map (·.1))), I.laid (t' := s.toks) (fun _ _ => PyProof.Rows.sortedAll_old) (Nat.le_succ _) ⟨hlen, _, ep, rel, he⟩, rfl, q _ (I.hok.fresh (Nat.le_succ _))⟩
def cSortD : OC := fun as R => match as with
  | [.bo (.lst ds)] => (ds.length ≤ 1000 ∧ (∀ d ∈ ds, toPy d = some (pyOf d)) ∧ PySem.W.AllAlike (ds.map pyOf) ∧ PySem.W.Sortable (ds.map pyOf) ∧ ∀ d ∈ ds, (pyOf d).depth ≤ 20) ∧ R (.lst (ds.mergeSort leD))
  | _ => False
theorem zip_sort {vs : List V} {ds : List D} (h : vs.length = ds.length) : ((vs.zip ds).mergeSort (fun a b => leD a.2 b.2)).map (·.2) = ds.mergeSort leD := by
  rw [List.map_mergeSort (r := fun a b : V × D => leD a.2 b.2) (s := leD) (f := fun b : V × D => b.2) (fun _ _ _ _ => rfl)]
  congr 1
  rw [List.map_snd_zip]
  rw [h]
  exact Nat.le_refl _
theorem c_sortD (hu : X.A.units + 100 < cLine) : CallF st (fun xs H Q => ∃ (a : Addr) (vs : List V) (ds : List D), xs = [.ref a] ∧ SqL X.K H a vs ∧ vs.length = ds.length ∧ (∀ d ∈ ds, toPy d = some (pyOf d)) ∧ (∀ (i : Nat) v d, vs[i]? = some v → ds[i]? = some d → Dp X.K H v (pyOf d)) ∧
    PySem.W.AllAlike (ds.map pyOf) ∧ PySem.W.Sortable (ds.map pyOf) ∧ (∀ d ∈ ds, (pyOf d).depth ≤ 20) ∧ (X.A.units + 100 < cLine) ∧
    ∀ p, H p = none → Q (.ref p) (upd H p (.lst (((vs.zip ds).mergeSort (fun a b => leD a.2 b.2)).map (·.1))))) cSortD := by
  intro F H as vs R Q o ha hw k
  unfold cSortD at hw
  split at hw
  · rename_i ds
    obtain ⟨v, rfl, h⟩ := ar1 ha
    obtain ⟨a, us, rfl, h1, h2⟩ := AtB.lst h
    obtain ⟨⟨hl, hp, hal, hso, hd⟩, hw⟩ := hw
    refine ⟨a, us, ds, rfl, .of h1, h2.length, hp, fun i v d e1 e2 => ?_, hal, hso, hd, hu, fun p hp2 => k _ _ _ hw (.new o.hi hp2) hp2 ⟨_, upd_same, ?_⟩⟩
    · obtain ⟨w, q1, q2⟩ := h2.get e2
      rw [e1] at q1
      cases q1
      exact q2.dp (hp d (List.mem_of_getElem? e2))
    · rw [← zip_sort h2.length]
      have hmem : ∀ b ∈ us.zip ds, At st F.A H b.1 b.2 := fun b hb => by
        obtain ⟨i, hi⟩ := List.mem_iff_getElem?.mp hb
        obtain ⟨e1, e2⟩ := List.getElem?_zip_eq_some.mp hi
        obtain ⟨w, q1, q2⟩ := h2.get e2
        rw [e1] at q1
        cases q1
        exact q2
      refine AtAll.of_get (by simp) fun i v d e1 e2 => ?_
      rw [List.getElem?_map] at e1 e2
      obtain ⟨b, q1, rfl⟩ := Option.map_eq_some_iff.mp e1
      rw [q1] at e2
      cases e2
      have hb : b ∈ us.zip ds := (List.mergeSort_perm _ _).mem_iff.mp (List.mem_of_getElem? q1)
      exact ((hmem b hb).off (plo hp2)).step (Fr.new (M := isSt st) hp2) fun a m => .inl (o.sa a m)
  · exact hw.elim
end
end VL
/-! text VLk -/
/-! VLk: enumerate, zip, walks of dicts, isinstance of own instances. -/
namespace VL
open PySem PySem.Spec PyProof.Rows L2
section
variable {st : Sto} {X : Cx} {K : PySem.W.Frag}
def enumD (ds : List D) : List D := ds.mapIdx fun i d => .tup [.int (i : Nat), d]
def wienum (w : WE) : WI := fun G R => w G fun d => match d with
  | .lst ds => R (enumD ds)
  | _ => False
theorem pair_at {A : Set_} {H : Hp} {T : Addr} {x y : V} {d e : D} (hT : H T = none) (nT : ¬ A T) (hs : ∀ a, isSt st a → A a) (hx : At st A H x d) (hy : At st A H y e) : At st A (upd H T (.tup [x, y])) (.ref T) (.tup [d, e]) := by
  simp only [At]
  exact ⟨T, _, rfl, nT, upd_same, (AtAll.mk hx (.one hy)).step (Fr.new (M := isSt st) hT) hs⟩
theorem ite_ok {F : Foot} {H : Hp} {a : Addr} {vs : List V} {ds : List D} (o : FOk st F H) (na : ¬ F.A a) (ha : H a = some (.lst vs)) (hs : AtAll st F.A H vs ds) : ItOk st F (Ite K a) (enumD ds) H := by
  have keep : ∀ H', Fr (slM st F) H H' → H' a = some (.lst vs) := fun H' f => f.keep _ _ (fun m => na (sl_A o a m)) ha
  have hl := hs.length
  have hle : (enumD ds).length = ds.length := by unfold enumD; simp
  refine ⟨fun i H' f hi => ?_, fun H' f => ⟨vs, .of (keep H' f), by rw [hl, hle]; exact Nat.le_refl _⟩, fun A' i H' x H'' hlt f hi off lv y => ?_⟩
  · rw [hle] at hi
    exact ⟨vs, vs[i]'(by rw [hl]; exact hi), .of (keep H' f), by simp [hl, hi]⟩
  · obtain ⟨T, x, rfl, hT, rfl, y⟩ := y
    have hx := y vs (.of (keep _ f))
    obtain ⟨d, e, h⟩ := hs.getV hx
    have nT : ¬ A' T := fun m => lv T m hT
    refine ⟨.new hi hT, .tup [.int (i : Nat), d], by unfold enumD; simp [e], ?_⟩
    have h2 := h.later o f off
    simp only [At]
    refine ⟨T, _, rfl, nT, upd_same, ?_⟩
    have fN : Fr (fun _ => False) H' (upd H' T (.tup [.int (i : Nat), x])) := Fr.new hT
    exact AtAll.mk at_int (.one (h2.step fN fun _ z => z.elim))
theorem tI_enum {w : WE} : ∀ σ H R, tI st (wienum w) σ H R → iEnum K (tCons (tE st w) tNil) σ H R := fun σ H R ⟨F, G, Rd, I, hw, k⟩ => tE.bind I hw fun d v H1 r1 I1 f1 q1 => by
  cases d <;> first
    | (simp only [At] at q1
       obtain ⟨a, vs, rfl, na, ha, hs⟩ := q1
       exact ⟨a, vs, rfl, .of ha, k _ _ H1 r1 f1 (ite_ok I1.toFOk na ha hs)⟩)
    | exact r1.elim
def zipD (xs ys : List D) : List D := (xs.zip ys).map fun p => .tup [p.1, p.2]
def wizip (wa wb : WE) : WI := fun G R => wa G fun d => wb G fun e => match d, e with
  | .tup xs, .tup ys => xs.length = ys.length ∧ R (zipD xs ys)
  | _, _ => False
theorem itz_ok {F : Foot} {H : Hp} {a b : Addr} {vs us : List V} {ds es : List D} (o : FOk st F H) (na : ¬ F.A a) (ha : H a = some (.tup vs)) (hs : AtAll st F.A H vs ds) (nb : ¬ F.A b) (hb : H b = some (.tup us)) (hu : AtAll st F.A H us es) (hlen : ds.length = es.length) : ItOk st F (RZ.ItzT K a b) (zipD ds es) H := by
  have keep : ∀ H', Fr (slM st F) H H' → H' a = some (.tup vs) := fun H' f => f.keep _ _ (fun m => na (sl_A o a m)) ha
  have keepb : ∀ H', Fr (slM st F) H H' → H' b = some (.tup us) := fun H' f => f.keep _ _ (fun m => nb (sl_A o b m)) hb
  have hl := hs.length
  have hlu := hu.length
  have hle : (zipD ds es).length = ds.length := by unfold zipD; simp [hlen]
  refine ⟨fun i H' f hi => ?_, fun H' f => ⟨vs, us, .of (keep H' f), .of (keepb H' f), .inl (by rw [hl, hle]; exact Nat.le_refl _)⟩, fun A' i H' x H'' hlt f hi off lv y => ?_⟩
  · rw [hle] at hi
    exact ⟨vs, us, vs[i]'(by rw [hl]; exact hi), us[i]'(by rw [hlu, ← hlen]; exact hi), .of (keep H' f), .of (keepb H' f), by simp [hl, hi], by simp [hlu, ← hlen, hi]⟩
  · obtain ⟨T, x, y, rfl, hT, rfl, y1, y2⟩ := y
    have hx := y1 vs (.of (keep _ f))
    have hy := y2 us (.of (keepb _ f))
    obtain ⟨d, e, h⟩ := hs.getV hx
    obtain ⟨d2, e2, h2⟩ := hu.getV hy
    have nT : ¬ A' T := fun m => lv T m hT
    refine ⟨.new hi hT, .tup [d, d2], by unfold zipD; rw [List.getElem?_map, (List.getElem?_zip_eq_some (z := (d, d2))).mpr ⟨e, e2⟩]; rfl, ?_⟩
    simp only [At]
    refine ⟨T, _, rfl, nT, upd_same, ?_⟩
    have fN : Fr (fun _ => False) H' (upd H' T (.tup [x, y])) := Fr.new hT
    exact AtAll.mk ((h.later o f off).step fN fun _ z => z.elim) (.one ((h2.later o f off).step fN fun _ z => z.elim))
theorem tI_zip {wa wb : WE} : ∀ σ H R, tI st (wizip wa wb) σ H R → RZ.iZipA K (tCons (tE st wa) (tCons (tE st wb) tNil)) σ H R := fun σ H R ⟨F, G, Rd, I, hw, k⟩ => tE.bind I hw fun d v H1 r1 I1 f1 q1 => tE.bind I1 r1 fun e u H2 r2 I2 f2 q2 => by
  split at r2
  · rename_i xs ys
    have q1 := At.step f2.fr I1.sa q1
    simp only [At] at q1 q2
    obtain ⟨a, vs, rfl, na, ha, hs⟩ := q1
    obtain ⟨b, us, rfl, nb, hb, hu⟩ := q2
    exact ⟨a, b, vs, us, rfl, .inr ⟨.of ha, .of hb, k _ _ H2 r2.2 (f1.trans f2) (itz_ok I2.toFOk na ha hs nb hb hu r2.1)⟩⟩
  · exact r2.elim
/-! ### a dict walked: locked meanwhile -/
section
variable {A : Set_} {H H' : Hp} {d : Addr} {od : Obj} {kvs : List (Key × V)}
theorem lock_ne {a : Addr} {o : HO} (hd : H d = some (.dK kvs)) (ha : H a = some o) (hn : o ≠ .dK kvs) : upd H d (.frz od (.dK kvs)) a = some o := by
  rw [upd_ne fun q => by subst q; rw [hd] at ha; exact hn (Option.some.inj ha).symm]
  exact ha
theorem lock_rd {a : Addr} {ls : List (Key × V)} (hd : H d = some (.dK kvs)) (ha : Rd H a (.dK ls)) : Rd (upd H d (.frz od (.dK kvs))) a (.dK ls) := by
  rcases ha with ha | ⟨o, ha⟩
  · by_cases q : a = d
    · subst q
      rw [hd] at ha
      cases ha
      exact .inr ⟨od, upd_same⟩
    · exact .inl (by rw [upd_ne q]; exact ha)
  · exact .inr ⟨o, lock_ne hd ha (by intro z; cases z)⟩
theorem unlock_ne {a : Addr} {o : HO} (hd : H' d = some (.frz od (.dK kvs))) (ha : H' a = some o) (hn : o ≠ .frz od (.dK kvs)) : upd H' d (.dK kvs) a = some o := by
  rw [upd_ne fun q => by subst q; rw [hd] at ha; exact hn (Option.some.inj ha).symm]
  exact ha
theorem unlock_rd {a : Addr} {ls : List (Key × V)} (hd : H' d = some (.frz od (.dK kvs))) (ha : Rd H' a (.dK ls)) : Rd (upd H' d (.dK kvs)) a (.dK ls) := by
  rcases ha with ha | ⟨o, ha⟩
  · exact .inl (unlock_ne hd ha (by intro z; cases z))
  · by_cases q : a = d
    · subst q
      rw [hd] at ha
      cases ha
      exact .inl upd_same
    · exact .inr ⟨o, by rw [upd_ne q]; exact ha⟩
/-- at is carried from heap to heap where lists, tuples, instances and the reading of dicts are kept -/
structure Car (H H' : Hp) : Prop where
  lst : ∀ a vs, H a = some (.lst vs) → H' a = some (.lst vs)
  tup : ∀ a vs, H a = some (.tup vs) → H' a = some (.tup vs)
  ins : ∀ a C dx fs, H a = some (.ins C dx fs) → H' a = some (.ins C dx fs)
  dic : ∀ a ls, Rd H a (.dK ls) → Rd H' a (.dK ls)
mutual
theorem At.car (c : Car H H') : ∀ {x : D} {v : V}, At st A H v x → At st A H' v x
  | .non, _, h => by simp only [At] at h ⊢; exact h
  | .bl _, _, h => by simp only [At] at h ⊢; exact h
  | .int _, _, h => by simp only [At] at h ⊢; exact h
  | .str _, _, h => by simp only [At] at h ⊢; exact h
  | .lst ds, _, h => by
    simp only [At] at h ⊢
    obtain ⟨a, vs, e, na, ha, hs⟩ := h
    exact ⟨a, vs, e, na, c.lst _ _ ha, AtAll.car c hs⟩
  | .tup ds, _, h => by
    simp only [At] at h ⊢
    obtain ⟨a, vs, e, na, ha, hs⟩ := h
    exact ⟨a, vs, e, na, c.tup _ _ ha, AtAll.car c hs⟩
  | .dic ks ds, _, h => by
    simp only [At] at h ⊢
    obtain ⟨a, vs, e, na, ha, hl, hs⟩ := h
    exact ⟨a, vs, e, na, c.dic _ _ ha, hl, AtAll.car c hs⟩
  | .obj C fs ds, _, h => by
    simp only [At] at h ⊢
    obtain ⟨a, dx, vs, e, na, ha, hl, hs⟩ := h
    exact ⟨a, dx, vs, e, na, c.ins _ _ _ _ ha, hl, AtAll.car c hs⟩
  | .sto, _, h => by simp only [At] at h ⊢; exact h
theorem AtAll.car (c : Car H H') : ∀ {ds : List D} {vs : List V}, AtAll st A H vs ds → AtAll st A H' vs ds
  | [], _, h => by simp only [AtAll] at h ⊢; exact h
  | x :: ds, _, h => by
    simp only [AtAll] at h ⊢
    obtain ⟨y, r, e, h1, h2⟩ := h
    exact ⟨y, r, e, At.car c h1, AtAll.car c h2⟩
end
theorem car_lock (hd : H d = some (.dK kvs)) : Car H (upd H d (.frz od (.dK kvs))) :=
  ⟨fun a vs h => lock_ne hd h (by intro z; cases z), fun a vs h => lock_ne hd h (by intro z; cases z), fun a C dx fs h => lock_ne hd h (by intro z; cases z), fun a ls h => lock_rd hd h⟩
theorem car_unlock (hd : H' d = some (.frz od (.dK kvs))) : Car H' (upd H' d (.dK kvs)) :=
  ⟨fun a vs h => unlock_ne hd h (by intro z; cases z), fun a vs h => unlock_ne hd h (by intro z; cases z), fun a C dx fs h => unlock_ne hd h (by intro z; cases z), fun a ls h => unlock_rd hd h⟩
theorem OwnAt.car {l : Addr} {x : D} (c : Car H H') (hk : ∀ o, H l = some o → H' l = some o) (h : OwnAt st A H l x) : OwnAt st A H' l x := by
  cases x with
  | lst ds => obtain ⟨vs, h1, h2⟩ := h; exact ⟨vs, hk _ h1, h2.car c⟩
  | dic ks ds => obtain ⟨vs, h1, h3, h2⟩ := h; exact ⟨vs, hk _ h1, h3, h2.car c⟩
  | obj C fs ds => obtain ⟨dx, vs, h1, h3, h2⟩ := h; exact ⟨dx, vs, hk _ h1, h3, h2.car c⟩
  | _ => exact h.elim
theorem EI.car {F : Foot} {G : Ga} {σ : L2.St} (I : EI st F G σ H) (c : Car H H') (nd : ¬ F.A d) (hk : ∀ b, b ≠ d → H' b = H b) (dl : H' d ≠ none) : EI st F G σ H' := by
  have lv : ∀ a, F.A a → H' a ≠ none := fun a m => by rw [hk a fun q => nd (q ▸ m)]; exact I.live a m
  refine ⟨⟨I.ln, I.la, I.na, I.sn, lv, I.hi.off (M := fun a => a = d) ⟨fun b o nb e => by rw [hk b nb]; exact e, fun b e => ?_⟩ fun a q m => nd (q ▸ I.na a (I.sn a m))⟩, I.len, fun i t e => ?_, I.dis⟩
  · by_cases q : b = d
    · rw [q] at e; exact absurd e dl
    · rw [hk b q] at e; exact e
  · obtain ⟨v, e1, h1⟩ := I.slot i t e
    refine ⟨v, e1, ?_⟩
    cases t with
    | no => trivial
    | sh d => obtain ⟨x, e2, h⟩ := h1; exact ⟨x, e2, h.car c⟩
    | bo d2 =>
      obtain ⟨x, e2, h⟩ := h1
      refine ⟨x, e2, ?_⟩
      rcases h with h | ⟨l, e3, n1, n2, h⟩
      · exact .inl (h.car c)
      · exact .inr ⟨l, e3, n1, n2, h.car c fun o ho => by rw [hk l fun q => nd (q ▸ n2.2)]; exact ho⟩
    | ow d2 =>
      obtain ⟨l, e2, hl, h⟩ := h1
      exact ⟨l, e2, hl, h.car c fun o ho => by rw [hk l fun q => nd (q ▸ I.la l hl)]; exact ho⟩
end
theorem itk_ok {F : Foot} {H : Hp} {d : Addr} {od : Obj} {ks : List Str} {us : List V} (o : FOk st F H) (nd : ¬ F.A d) (hd : H d = some (.frz od (.dK (kz ks us)))) (hl : ks.length = us.length) : ItOk st F (Itk d od (kz ks us)) (ks.map D.str) H := by
  have keep : ∀ H', Fr (slM st F) H H' → H' d = some (.frz od (.dK (kz ks us))) := fun H' f => f.keep _ _ (fun m => nd (sl_A o d m)) hd
  have hz : (kz ks us).length = ks.length := kz_length hl
  refine ⟨fun i H' f hi => ⟨keep H' f, by rw [hz]; simpa using hi⟩, fun H' f => ⟨keep H' f, by rw [hz]; simp⟩, fun A' i H' x H'' hlt f hi off lv y => ?_⟩
  obtain ⟨rfl, k, v, e, rfl⟩ := y
  refine ⟨.refl hi, ?_⟩
  have e2 : ((kz ks us).map (·.1))[i]? = some k := by rw [List.getElem?_map, e]; rfl
  rw [kz_keys hl, List.getElem?_map] at e2
  obtain ⟨x, e3, e4⟩ := Option.map_eq_some_iff.mp e2
  subst e4
  exact ⟨.str x, by rw [List.getElem?_map, e3]; rfl, at_str⟩
def wik (i : Nat) : WI := fun G R => match (G[i]? : Option Sl) with
  | some (.sh (.dic ks _)) => R (ks.map D.str)
  | _ => False
/-- either it is walked as it stands, or it is locked for the walk -/
def tMay (t : TS) : TS := fun D σ H => t D σ H ∨ tLock t D σ H
def tMayE (t : TE) : TE := fun σ H Q => t σ H Q ∨ tLockE t σ H Q
theorem ps_may {s : Stmt} {t : TS} (h : PS X s t) : PS X s (tMay t) := ⟨fun pins s σ H D I q => q.elim (fun q => h.run pins s σ H D I q) fun q => (ps_lock h).run pins s σ H D I q⟩
theorem pe_may {s : Expr} {t : TE} (h : PE X s t) : PE X s (tMayE t) := ⟨fun pins s σ H D I q => q.elim (fun q => h.run pins s σ H D I q) fun q => (pe_lock h).run pins s σ H D I q⟩
/-- the walk's reading over a locked dict -/
theorem tI_keys {i : Nat} {F : Foot} {G : Ga} {σ : L2.St} {H : Hp} {ks : List Str} {ds : List D} {R : It → Hp → Prop} (I : EI st F G σ H) (e : G[i]? = some (.sh (.dic ks ds))) (hz : ∀ d kvs, σ[i]? = some (some (.ref d)) → H d ≠ some (.dK kvs))
    (k : ∀ J, ItOk st F J (ks.map D.str) H → R J H) : iKeys (tVar i) σ H R := by
  obtain ⟨v, ev, h⟩ := I.sh e
  simp only [At] at h
  obtain ⟨d, us, rfl, nd, hd, hl, hs⟩ := h
  rcases hd with hd | ⟨od, hd⟩
  · exact absurd hd (hz d _ ev)
  · exact ⟨_, ev, d, od, rfl, .inl ⟨_, hd, k _ (itk_ok I.toFOk nd hd (by rw [hs.length]; exact hl))⟩⟩
theorem SF.unlock {b : Bs} {F F' : Foot} {σ σ' : L2.St} {H H' : Hp} {d : Addr} {od : Obj} {kvs : List (Key × V)} (s : SF st b F σ H) (o : FOk st F H) (nd : ¬ F.A d) (hd : H d = some (.dK kvs)) (s' : SF st (bsOf st b F (upd H d (.frz od (.dK kvs)))) F' σ' H') : SF st b F' σ' (upd H' d (.dK kvs)) := by
  have ndM : ¬ slM st F d := fun m => nd (sl_A o d m)
  have hd' : H' d = some (.frz od (.dK kvs)) := s'.fr.keep _ _ ndM upd_same
  have dom : ∀ b, (upd H d (.frz od (.dK kvs))) b = none → H b = none := fun b e => by
    by_cases q : b = d
    · rw [q, upd_same] at e; cases e
    · rw [upd_ne q] at e; exact e
  refine ⟨s'.nn, s'.a0, s'.l0, fun a m => ?_, ⟨fun c u m e => ?_, fun c e => ?_⟩, fun a m => ?_, s.sm, s'.pn⟩
  · rcases s'.bb a m with z | z
    · exact s.bb a z
    · exact .inr (s.fr.dom a (dom a z))
  · have e1 := s.fr.keep c u m e
    by_cases q : c = d
    · subst q
      rw [hd] at e1
      cases e1
      exact upd_same
    · rw [upd_ne q]
      refine s'.fr.keep c u (fun z => ?_) (by show upd H d _ c = _; rw [upd_ne q]; exact e1)
      rcases z with z | z
      · exact m (s.sm c z)
      · rcases s.lm c z with z | z
        · exact m z
        · rw [z] at e; cases e
  · refine s.fr.dom c (dom c (s'.fr.dom c ?_))
    by_cases q : c = d
    · rw [q, upd_same] at e; cases e
    · rw [upd_ne q] at e; exact e
  · rcases s'.lm a m with (z | z) | z
    · exact .inl (s.sm a z)
    · exact s.lm a z
    · exact .inr (s.fr.dom a (dom a z))
/-- for over the keys of a dict that a name holds -/
theorem tS_forI {b : Bs} {p : Bool} {g : WG} {is : List Nat} {wb : WS} {wt : TI} {F : Foot} {G : Ga} {P : Po} {Dn : Ends} {σ : L2.St} {H : Hp} {ds : List D} (hp : p = false → b.pin = none) (hz0 : p = true → 0 ∉ is) (I : EI st F G σ H) (sf : SF st b F σ H)
    (hI : ∀ R : It → Hp → Prop, (∀ J, ItOk st F J ds H → R J H) → wt σ H R)
    (hw : ∃ I : Nat → Ga → Prop, I 0 G ∧ (∀ (i : Nat) d G', ds[i]? = some d → I i G' → g d G' fun G2 => wb G2 { nx := I (i + 1), ct := I (i + 1), bk := P.nx, rt := P.rt }) ∧ ∀ G', I ds.length G' → P.nx G')
    (po : PO st (bsOf st b F H) P Dn) (tb : TS) (htb : ∀ b Dn σ H, (p = false → b.pin = none) → tS st b wb Dn σ H → tb Dn σ H) : tFor wt (tG st is g) tb Dn σ H := by
  obtain ⟨Iv, h0, hs, hd⟩ := hw
  refine hI _ fun J ok => ?_
  refine ⟨fun i m σ H' => m = ds.length - i ∧ i ≤ ds.length ∧ ∃ G', Iv i G' ∧ SX st (bsOf st b F H) G' σ H', ⟨ds.length, by simp, Nat.zero_le _, G, h0, F, I, sf.start⟩, ?_⟩
  rintro i m σ H' ⟨rfl, hi, G', hv, S⟩
  obtain ⟨F', I', s'⟩ := id S
  by_cases hlt : i < ds.length
  · refine .inr ⟨ok.go i H' s'.fr hlt, fun σ H' => ∃ G', Iv (i + 1) G' ∧ SX st (bsOf st b F H) G' σ H', fun σ2 H2 ⟨G2, h2, S2⟩ => ⟨ds.length - (i + 1), by omega, rfl, hlt, G2, h2, S2⟩, fun x H2 y => ?_⟩
    obtain ⟨f2, d, e, hx⟩ := ok.yld F'.A i H' x H2 hlt s'.fr I'.hi s'.bb I'.live y
    refine ⟨F', G', d, _, I'.fx f2, hx, hs i d G' e hv, fun G2 σ2 r2 I2 o2 => htb (bsOf st b F H) _ _ _ hp ⟨G2, _, ⟨F', I2, (s'.fx f2).off (is := is) (pin_off hp hz0 o2)⟩, r2, ?_⟩⟩
    exact ⟨fun G3 σ3 H3 q S3 => ⟨G3, q, S3⟩, fun d v H3 q f3 h3 a3 => po.rt d v H3 q f3 h3 a3, fun G3 σ3 H3 q S3 => po.nx G3 σ3 H3 q S3, fun G3 σ3 H3 q S3 => ⟨G3, q, S3⟩⟩
  · have e : i = ds.length := by omega
    subst e
    exact .inl ⟨ok.stop H' s'.fr, po.nx G' σ H' (hd G' hv) S⟩
theorem s_forK {p : Bool} {i : Nat} {x : Str} {tg : Expr} {pos pos' : Pos} {body : List Stmt} {g : WG} {is : List Nat} {wb : WS} (hp : PassesOwn (model X.prog X.w) X.A X.env X.xe) (hc : X.calm = true) (hv : PE X (.Name x pos') (tVar i)) (hg : VG X st tg is g) (hb : VSs X st p body wb) (h0 : p = true → 0 ∉ is := by first | decide | (intro h; cases h))
    (hs : ∀ y, foldedSetIterable (.Name x pos') X.env y = pure y := by intro _; rfl) : VS X st p (.For tg (.Name x pos') body [] pos) (wfor (wik i) g wb) := by
  intro b hpb
  have hb' : PSs X body fun Dn σ H => ∃ b : Bs, (p = false → b.pin = none) ∧ tS st b wb Dn σ H := ⟨fun pins s σ H D I ⟨b, h, q⟩ => (hb b h).run pins s σ H D I q⟩
  refine PSmono (ps_may (ps_for hp hc (pi_keys hv) hg hb' hs)) fun Dn σ H ⟨G, P, ⟨F, I, sf⟩, hw, po⟩ => ?_
  unfold wfor wik at hw
  split at hw
  · rename_i ks ds e
    obtain ⟨v, ev, h⟩ := I.sh e
    simp only [At] at h
    obtain ⟨d, us, rfl, nd, hd, hl, hs⟩ := h
    have hlu : ks.length = us.length := by rw [hs.length]; exact hl
    rcases hd with hd | ⟨od, hd⟩
    · refine .inr ⟨d, .dK (kz ks us), hd, True.intro, fun od => ?_⟩
      have I1 : EI st F G σ (upd H d (.frz od (.dK (kz ks us)))) := I.car (d := d) (car_lock hd) nd (fun b q => upd_ne q) (by rw [upd_same]; simp)
      have sf1 : SF st (bsOf st b F (upd H d (.frz od (.dK (kz ks us))))) F σ (upd H d (.frz od (.dK (kz ks us)))) := ⟨sf.nn, sf.a0, sf.l0, fun a m => .inl m, .refl, fun a m => .inl (.inr m), fun a m => .inl m, sf.pn⟩
      have ndM : ¬ slM st F d := fun m => nd (sl_A I.toFOk d m)
      have un : ∀ G' σ' H', SX st (bsOf st b F (upd H d (.frz od (.dK (kz ks us))))) G' σ' H' → H' d = some (.frz od (.dK (kz ks us))) ∧ SX st b G' σ' (upd H' d (.dK (kz ks us))) := fun G' σ' H' ⟨F', I', s'⟩ => by
        have hd' : H' d = some (.frz od (.dK (kz ks us))) := s'.fr.keep _ _ ndM upd_same
        have nd' : ¬ F'.A d := fun m => (s'.bb d m).elim nd fun z => by
          have z' : upd H d (.frz od (.dK (kz ks us))) d = none := z
          rw [upd_same] at z'
          cases z'
        exact ⟨hd', F', I'.car (d := d) (car_unlock hd') nd' (fun b q => upd_ne q) (by rw [upd_same]; simp), sf.unlock I.toFOk nd hd s'⟩
      refine tS_forI (b := bsOf st b F (upd H d (.frz od (.dK (kz ks us))))) (P := P) (ds := ks.map D.str) (p := p) hpb h0 I1 sf1 (fun R k => ?_) hw ?_ _ fun b Dn σ H h q => ⟨b, h, q⟩
      · exact ⟨_, ev, d, od, rfl, .inl ⟨_, upd_same, k _ (itk_ok I1.toFOk nd upd_same hlu)⟩⟩
      · have back : ∀ G' σ' H', SX st (bsOf st (bsOf st b F (upd H d (.frz od (.dK (kz ks us))))) F (upd H d (.frz od (.dK (kz ks us))))) G' σ' H' → SX st (bsOf st b F (upd H d (.frz od (.dK (kz ks us))))) G' σ' H' := fun G' σ' H' S => S.back sf1
        refine ⟨fun G' σ' H' q S => ?_, fun x v H' q f h a => ?_, fun G' σ' H' q S => ?_, fun G' σ' H' q S => ?_⟩
        · obtain ⟨u1, u2⟩ := un G' σ' H' (back _ _ _ S)
          exact ⟨u1, po.nx _ _ _ q u2⟩
        · have f1 : Fr (slM st F) (upd H d (.frz od (.dK (kz ks us)))) H' := f
          have hd' : H' d = some (.frz od (.dK (kz ks us))) := f1.keep _ _ ndM upd_same
          have sfx : SF st b F σ (upd H' d (.dK (kz ks us))) := sf.unlock (F' := F) (σ' := σ) I.toFOk nd hd ⟨sf.nn, sf.a0, sf.l0, fun a m => .inl m, f1, fun a m => .inl (.inr m), fun a m => .inl m, sf.pn⟩
          refine ⟨hd', po.rt _ _ _ q sfx.fr ?_ (a.car (car_unlock hd'))⟩
          refine h.off (M := fun a => a = d) ⟨fun b o nb e => by rw [upd_ne nb]; exact e, fun b e => ?_⟩ fun a q m => nd (q ▸ I.na a (I.sn a m))
          by_cases q : b = d
          · rw [q, upd_same] at e; cases e
          · rw [upd_ne q] at e; exact e
        · obtain ⟨u1, u2⟩ := un G' σ' H' (back _ _ _ S)
          exact ⟨u1, po.bk _ _ _ q u2⟩
        · obtain ⟨u1, u2⟩ := un G' σ' H' (back _ _ _ S)
          exact ⟨u1, po.ct _ _ _ q u2⟩
    · refine .inl (tS_forI (b := b) (P := P) (ds := ks.map D.str) (p := p) hpb h0 I sf (fun R k => ?_) hw ?_ _ fun b Dn σ H h q => ⟨b, h, q⟩)
      · exact ⟨_, ev, d, od, rfl, .inl ⟨_, hd, k _ (itk_ok I.toFOk nd hd hlu)⟩⟩
      · exact ⟨fun G' σ' H' q S => po.nx _ _ _ q (S.back sf), fun x v H' q f h a => po.rt _ _ _ q (sf.fr2 f) h a, fun G' σ' H' q S => po.bk _ _ _ q (S.back sf), fun G' σ' H' q S => po.ct _ _ _ q (S.back sf)⟩
  · exact hw.elim
/-- a comprehension over the keys of a dict that a name holds -/
theorem tF_lcI {vs is : List Nat} {wt : TI} {g : WG} {tt : WT} {te : WE} {F : Foot} {G : Ga} {R : D → Prop} {Q : VK} {σ : L2.St} {H1 : Hp} {ds : List D} (his : ∀ i ∈ is, i ∈ vs) (I1 : EI st F G σ H1) (hI : ∀ R : It → Hp → Prop, (∀ J, ItOk st F J ds H1 → R J H1) → wt σ H1 R)
    (hw : ds.length ≤ 1000 ∧ ∃ I : Nat → List D → Prop, I 0 [] ∧ (∀ (i : Nat) d acc, ds[i]? = some d → I i acc → g d (wipeG G vs) fun G2 => tt G2 fun b => if b = true then te G2 fun y => I (i + 1) (acc ++ [y]) else I (i + 1) acc) ∧ ∀ acc, I ds.length acc → R (.lst acc))
    (k : ∀ d p H', R d → Fx st H1 H' → H1 p = none → OwnAt st (pl F.A p) H' p d → Q (.ref p) H') : tLc wt (tG st is g) (tT st tt) (tE st te) vs σ H1 Q := by
  refine hI _ fun J ok Dl hD => ?_
  obtain ⟨hz, Iv, h0, hs, hd⟩ := hw
  refine ⟨fun i m H => m = ds.length - i ∧ i ≤ ds.length ∧ ∃ acc us, Iv i acc ∧ acc.length ≤ i ∧ Mid st F H1 Dl (wipeG G vs) (L2.wipe σ vs) H ∧ H Dl = some (.lst us) ∧ AtAll st (F_new F Dl).A H us acc,
    ⟨ds.length, by simp, Nat.zero_le _, [], [], h0, Nat.le_refl _, ⟨(I1.wipe vs).new hD, Fr.new hD⟩, upd_same, .nil⟩, ?_⟩
  rintro i m H ⟨rfl, hi, acc, us, hv, hl, mid, hu, ha⟩
  have frM : Fr (slM st F) H1 H := mid.fr.weak fun a m => .inl m
  by_cases hlt : i < ds.length
  · refine .inr ⟨ok.go i H frM hlt, fun H' => ∃ acc us, Iv (i + 1) acc ∧ acc.length ≤ i + 1 ∧ Mid st F H1 Dl (wipeG G vs) (L2.wipe σ vs) H' ∧ H' Dl = some (.lst us) ∧ AtAll st (F_new F Dl).A H' us acc, fun H' q => ⟨ds.length - (i + 1), by omega, rfl, hlt, q⟩, fun x H2 y => ?_⟩
    obtain ⟨f2, d, e, hx⟩ := ok.yld (F_new F Dl).A i H x H2 hlt frM mid.ei.hi (Mid.off hD) mid.ei.live y
    have nD : ¬ isSt st Dl := fun z => I1.live Dl (I1.sa Dl z) hD
    have m2 : Mid st F H1 Dl (wipeG G vs) (L2.wipe σ vs) H2 := mid.fx (G2 := G) (σ2 := σ) f2
    refine ⟨F_new F Dl, wipeG G vs, d, _, m2.ei, hx, hs i d acc e hv, fun G2 σ2 r2 I2 o2 => ⟨wipe_off his o2, ?_⟩⟩
    refine tT.bind I2 r2 fun b H3 r3 I3 f3 => ?_
    have f13 := f2.trans f3
    have m3 : Mid st F H1 Dl (wipeG G vs) (L2.wipe σ vs) H3 := mid.fx (G2 := G) (σ2 := σ) f13
    cases b with
    | true =>
      rw [if_pos rfl] at r3 ⊢
      refine tE.bind I3 r3 fun y v H4 r4 I4 f4 q4 => ?_
      have f14 := f13.trans f4
      have m4 : Mid st F H1 Dl (wipeG G vs) (L2.wipe σ vs) H4 := mid.fx (G2 := G) (σ2 := σ) f14
      have hz2 : us.length < sizeLine := by rw [ha.length]; exact Nat.lt_of_le_of_lt hl (small1000 (by omega))
      have fD : Fr (fun a => a = Dl) H4 (L2.upd H4 Dl (.lst (us ++ [v]))) := Fr.set rfl
      refine ⟨us, f14.fr.keep _ _ nD hu, hz2, acc ++ [y], us ++ [v], r4, by rw [List.length_append]; simp; omega, m4.upd I1.toFOk hD, upd_same, ?_⟩
      exact ((ha.step f14.fr mid.ei.sa).app (.one q4)).step fD fun a q => .inr q
    | false =>
      rw [if_neg (by decide)] at r3 ⊢
      exact ⟨acc, us, r3, by omega, m3, f13.fr.keep _ _ nD hu, ha.step f13.fr mid.ei.sa⟩
  · have e : i = ds.length := by omega
    subst e
    exact .inl ⟨ok.stop H frM, k (.lst acc) Dl H (hd acc hv) ⟨mid.fr, mid.ei.hi⟩ hD ⟨us, hu, ha⟩⟩
theorem tF_lcK {i : Nat} {vs is : List Nat} {g : WG} {tt : WT} {te : WE} (his : ∀ i ∈ is, i ∈ vs) : ∀ σ H Q, tF st (wlc vs (wik i) g tt te) σ H Q → tMayE (tLc (iKeys (tVar i)) (tG st is g) (tT st tt) (tE st te) vs) σ H Q := by
  intro σ H Q ⟨F, G, R, I, hw, k⟩
  unfold wlc wik at hw
  split at hw
  · rename_i ks ds e
    obtain ⟨v, ev, h⟩ := I.sh e
    simp only [At] at h
    obtain ⟨d, us, rfl, nd, hd, hl, hs⟩ := h
    have hlu : ks.length = us.length := by rw [hs.length]; exact hl
    rcases hd with hd | ⟨od, hd⟩
    · refine .inr ⟨d, .dK (kz ks us), hd, True.intro, fun od => ?_⟩
      have I1 : EI st F G σ (upd H d (.frz od (.dK (kz ks us)))) := I.car (d := d) (car_lock hd) nd (fun b q => upd_ne q) (by rw [upd_same]; simp)
      have ndS : ¬ isSt st d := fun m => nd (I.sa d m)
      refine tF_lcI (ds := ks.map D.str) (R := R) his I1 (fun R k => ⟨_, ev, d, od, rfl, .inl ⟨_, upd_same, k _ (itk_ok I1.toFOk nd upd_same hlu)⟩⟩) hw fun x p H' r f hp o => ?_
      have hd' : H' d = some (.frz od (.dK (kz ks us))) := f.fr.keep _ _ ndS upd_same
      have npd : p ≠ d := fun q => by rw [q, upd_same] at hp; cases hp
      have hp0 : H p = none := by rw [upd_ne npd] at hp; exact hp
      refine ⟨hd', k x p _ r ⟨⟨fun c u m ec => ?_, fun c ec => ?_⟩, ?_⟩ hp0 (o.car (car_unlock hd') fun o ho => by rw [upd_ne npd]; exact ho)⟩
      · by_cases q : c = d
        · subst q
          rw [hd] at ec
          cases ec
          exact upd_same
        · rw [upd_ne q]
          exact f.fr.keep c u m (by rw [upd_ne q]; exact ec)
      · by_cases q : c = d
        · rw [q, upd_same] at ec; cases ec
        · rw [upd_ne q] at ec
          have := f.fr.dom c ec
          rw [upd_ne q] at this
          exact this
      · refine f.hi.off (M := fun a => a = d) ⟨fun b o nb e => by rw [upd_ne nb]; exact e, fun b e => ?_⟩ fun a q m => nd (q ▸ I.na a (I.sn a m))
        by_cases q : b = d
        · rw [q, upd_same] at e; cases e
        · rw [upd_ne q] at e; exact e
    · exact .inl (tF_lcI (ds := ks.map D.str) (R := R) his I (fun R k => ⟨_, ev, d, od, rfl, .inl ⟨_, hd, k _ (itk_ok I.toFOk nd hd hlu)⟩⟩) hw k)
  · exact hw.elim
/-- isinstance(o, C), o an instance of the class C itself -/
structure ClsOk (K : PySem.W.Frag) (C : Addr) : Prop where
  cl : Cls K C
  ha : PySem.W.findIn K (.ref C) "__class__" = some (some (.builtin "object.__class__"))
  hn : PySem.W.specialIn K (.builtin "object.__class__") "__get__" = some (some (.builtin "getset_descriptor.__get__"))
  ht : PySem.W.takesIn K (.builtin "object.__class__") = some true
  hm : PySem.W.mroIn K C (.type "object") = some true
  one : PySem.W.kitOne K (.ref C) (.ref C) = some true
def wisO (Cc : Addr) (w : WE) : WE := fun G R => w G fun d => match d with
  | .obj C _ _ => C = Cc ∧ R (.bl true)
  | _ => False
theorem tE_isO {Cc : Addr} {w : WE} (c : ClsOk K Cc) : ∀ σ H Q, tE st (wisO Cc w) σ H Q → tCB (rIsi K) (tCons (tO st w) (tCons (tC (.ref Cc)) tNil)) σ H Q := fun σ H Q ⟨F, G, R, I, hw, k⟩ => by
  refine tO.bind I hw fun d v H1 r1 I1 f1 q1 => ?_
  split at r1
  · rename_i C fs ds
    obtain ⟨rfl, r1⟩ := r1
    obtain ⟨a, dx, vs, rfl, h1, _⟩ := q1.obj
    exact ⟨_, .ref C, .ref C, .ref C, true, rfl, .own C, .base (.ins h1 c.cl c.ha c.hn c.ht c.hm), c.one, k _ _ H1 r1 f1 at_bl⟩
  · exact r1.elim
/-! ### the special methods at data -/
def cObj (Cc : Addr) (C : OC) : OC := fun as R => match as with
  | [.bo (.obj C' fs ds)] => C' = Cc ∧ C [.bo (.obj C' fs ds)] fun d => (match d with
    | .int n => (0 ≤ n ∧ n ≤ 1000) ∧ R (.int n)
    | _ => False)
  | _ => False
theorem d_lenO {Cc : Addr} {C : OC} : CallD st (fun xs H Q => ∃ a dx fs, xs = [.ref a] ∧ H a = some (.ins Cc dx fs) ∧ spD st C [.ref a] H (fun v H' => ∃ n : Nat, v = .int n ∧ n ≤ 1000 ∧ Q (.int n) H') E0) (cObj Cc C) := by
  intro F H as vs R Q o ha hw k
  unfold cObj at hw
  split at hw
  · rename_i C' fs ds
    obtain ⟨rfl, hw⟩ := hw
    obtain ⟨v, rfl, h⟩ := ar1 ha
    obtain ⟨a, dx, us, rfl, h1, h2, h3⟩ := AtB.obj h
    refine ⟨a, dx, _, rfl, h1, F, [.bo (.obj C' fs ds)], _, o, .cons h .nil, hw, fun d v H' r f q => ?_⟩
    split at r
    · rename_i n
      have e : v = .int n := q.imm rfl
      obtain ⟨m, rfl⟩ := Int.eq_ofNat_of_zero_le r.1.1
      exact ⟨m, e, by omega, k _ _ H' r.2 f at_int⟩
    · exact r.elim
  · exact hw.elim
def oIxO (Cc : Addr) (C : OC) : O2 := fun x y R => match x with
  | .obj C' fs ds => C' = Cc ∧ C [.bo (.obj C' fs ds), .bo y] R
  | _ => False
theorem tE_ixO {Cc : Addr} {C : OC} {wa wb : WE} : ∀ σ H Q, tE st (w2 (oIxO Cc C) wa wb) σ H Q → (tO st wa) σ H fun x H1 => (tO st wb) σ H1 fun y H2 => ∃ p dx fs, x = .ref p ∧ H2 p = some (.ins Cc dx fs) ∧ spD st C [.ref p, y] H2 Q E0 := fun σ H Q ⟨F, G, R, I, hw, k⟩ =>
  tO.bind I hw fun x v H1 r1 I1 f1 q1 => tO.bind I1 r1 fun y u H2 r2 I2 f2 q2 => by
    unfold oIxO at r2
    split at r2
    · rename_i C' fs ds
      obtain ⟨rfl, r2⟩ := r2
      have q1 := q1.fx f2 I1.sa
      obtain ⟨a, dx, us, rfl, h1, h2, h3⟩ := id q1.obj
      exact ⟨a, dx, _, rfl, h1, F, [.bo (.obj C' fs ds), .bo y], R, I2.toFOk, .cons q1 (.cons q2 .nil), r2, fun d v H' r f q => k d v H' r ((f1.trans f2).trans f) q⟩
    · exact r2.elim
def oInO (Cc : Addr) (C : OC) (neg : Bool) : O2 := fun x y R => match y with
  | .obj C' fs ds => C' = Cc ∧ C [.bo (.obj C' fs ds), .bo x] fun d => isB (fun b => R (.bl (if neg then !b else b))) d
  | _ => False
theorem d_inO {Cc : Addr} {C : OC} : OpD st (rInO Cc (spD st C)) (oInO Cc C false) := by
  intro F H x y v u R Q o hx hy hw k
  unfold oInO at hw
  split at hw
  · rename_i C' fs ds
    obtain ⟨rfl, hw⟩ := hw
    obtain ⟨a, dx, us, rfl, h1, h2, h3⟩ := id hy.obj
    refine ⟨a, dx, _, rfl, h1, F, [.bo (.obj C' fs ds), .bo x], _, o, .cons hy (.cons hx .nil), hw, fun d v H' r f q => ?_⟩
    obtain ⟨b, rfl, r⟩ := isB_of r
    exact ⟨b, q.imm rfl, k _ _ H' r f at_bl⟩
  · exact hw.elim
theorem d_ninO {Cc : Addr} {C : OC} : OpD st (rNinO Cc (spD st C)) (oInO Cc C true) := by
  intro F H x y v u R Q o hx hy hw k
  unfold oInO at hw
  split at hw
  · rename_i C' fs ds
    obtain ⟨rfl, hw⟩ := hw
    obtain ⟨a, dx, us, rfl, h1, h2, h3⟩ := id hy.obj
    refine ⟨a, dx, _, rfl, h1, F, [.bo (.obj C' fs ds), .bo x], _, o, .cons hy (.cons hx .nil), hw, fun d v H' r f q => ?_⟩
    obtain ⟨b, rfl, r⟩ := isB_of r
    exact ⟨b, q.imm rfl, k _ _ H' r f at_bl⟩
  · exact hw.elim
def oNeO (Cc : Addr) (C : OC) : O2 := fun x y R => match x, y with
  | .obj C1 fs ds, .obj C2 gs es => C1 = Cc ∧ C2 = Cc ∧ C [.bo (.obj C1 fs ds), .bo (.obj C2 gs es)] fun d => isB (fun b => R (.bl (!b))) d
  | _, _ => False
theorem d_neO {Cc : Addr} {C : OC} : OpD st (rNeO Cc (spD st C)) (oNeO Cc C) := by
  intro F H x y v u R Q o hx hy hw k
  unfold oNeO at hw
  split at hw
  · rename_i C1 fs ds C2 gs es
    obtain ⟨rfl, rfl, hw⟩ := hw
    obtain ⟨a, dx, us, rfl, h1, h2, h3⟩ := id hx.obj
    obtain ⟨b, dy, ws, rfl, h4, h5, h6⟩ := id hy.obj
    refine ⟨a, b, dx, dy, _, _, rfl, rfl, h1, h4, F, [.bo (.obj _ fs ds), .bo (.obj _ gs es)], _, o, .cons hx (.cons hy .nil), hw, fun d v H' r f q => ?_⟩
    obtain ⟨b, rfl, r⟩ := isB_of r
    exact ⟨b, q.imm rfl, k _ _ H' r f at_bl⟩
  · exact hw.elim
end
end VL
/-! text VLl -/
/-! VLl: what the program's names stand for, calls of own defs, the last rules. -/
namespace VL
open PySem PySem.Spec PyProof.Rows L2
section
variable {P : Program} {w : World} {K : PySem.W.Frag} {mg : Str → Option Value} {base : Heap}
/-- a def of the top keeps C at level k -/
structure Cl (P : Program) (w : World) (K : PySem.W.Frag) (mg : Str → Option Value) (base : Heap) (x : Str) (k : Nat) (C : OC) : Prop where
  ex : ∃ f fd ps, mg x = some (.ref f) ∧ (∀ st, FnOk P w K mg base CX0 k f fd ps (spD st C)) ∧ PySem.W.keepIn K (.ref f) = true ∧ Binds K fd ps []
/-- a method -/
structure Me (P : Program) (w : World) (K : PySem.W.Frag) (mg : Str → Option Value) (base : Heap) (Cc : Addr) (m : Str) (k : Nat) (C : OC) : Prop where
  ex : ∃ f fd ps, Meth K Cc m f ∧ PySem.W.fnIn K f = true ∧ (∀ st, FnOk P w K mg base CX0 k f fd ps (spD st C)) ∧ Binds K fd ps []
/-- a property -/
structure Pr (P : Program) (w : World) (K : PySem.W.Frag) (mg : Str → Option Value) (base : Heap) (Cc : Addr) (m : Str) (k : Nat) (C : OC) : Prop where
  ex : ∃ p g fd ps, PropOf K Cc m p g ∧ (∀ st, FnOk P w K mg base CX0 k g fd ps (spD st C)) ∧ Binds K fd ps []
/-- a class that makes -/
structure Mc (P : Program) (w : World) (K : PySem.W.Frag) (mg : Str → Option Value) (base : Heap) (x : Str) (Cc : Addr) (k : Nat) (C : OCi) : Prop where
  ex : ∃ f fd ps, mg x = some (.ref Cc) ∧ Mk K Cc f ∧ (∀ st, FnOk P w K mg base CX0 k f fd ps (spI st Cc C)) ∧ Binds K fd ps []
/-- what a def that gives a new object promises -/
def spF (st : Sto) (C : OC) : Sp := fun vs H Q _ => ∃ F as R, FOk st F H ∧ ArAll st F.A H vs as ∧ C as R ∧ ∀ d p H', R d → Fx st H H' → H p = none → OwnAt st (pl F.A p) H' p d → Q (.ref p) H'
structure MeF (P : Program) (w : World) (K : PySem.W.Frag) (mg : Str → Option Value) (base : Heap) (Cc : Addr) (m : Str) (k : Nat) (C : OC) : Prop where
  ex : ∃ f fd ps, Meth K Cc m f ∧ (∀ st, FnOk P w K mg base CX0 k f fd ps (spF st C)) ∧ Binds K fd ps []
end
section
variable {X : Cx} {st : Sto} {e a b : Expr} {w wa wb : WE} {pos p apos : Pos} {es : List Expr} {r : WA} {x m : Str} {k j : Nat} {C : OC} {Cc : Addr}
theorem e_call (c : Cl X.prog X.w X.K X.mg X.base x k C) (hr : Room j X.A) (ha : VAr X st (e :: es) r) (hk : k ≤ j := by decide) (hg : Gl X x := by rfl) (hdb : (x == ("__debug__" : Str)) = false := by decide) (he : starEach (e :: es) X.env = (false, eval e X.env) :: starEach es X.env := by rfl) (hpl : (backTo pos (starEach es X.env)).any (·.1) = false := by rfl) :
    VE X st (.Call (.Name x p) (e :: es) [] pos) (wcall C r) := by
  obtain ⟨f, fd, ps, h1, h2, h3, h4⟩ := c.ex
  exact PEmono (pe_call (h2 st) (hr.mono hk) hg h1 h3 h4 .nil pass0 ha hdb he hpl) tcall
theorem f_make {Ci : OCi} (c : Mc X.prog X.w X.K X.mg X.base x Cc k Ci) (hr : Room j X.A) (ha : VAr X st (e :: es) r) (hk : k + 1 ≤ j := by decide) (hg : Gl X x := by rfl) (hdb : (x == ("__debug__" : Str)) = false := by decide) (he : starEach (e :: es) X.env = (false, eval e X.env) :: starEach es X.env := by rfl) (hpl : (backTo pos (starEach es X.env)).any (·.1) = false := by rfl) :
    VF X st (.Call (.Name x p) (e :: es) [] pos) (wmake Cc Ci r) := by
  obtain ⟨f, fd, ps, h1, h2, h3, h4⟩ := c.ex
  exact PEmono (pe_make h2 (h3 st) (hr.mono hk) hg h1 h4 .nil pass0 ha hdb he hpl) tE_make
theorem e_prop (cl : Cls X.K Cc) (c : Pr X.prog X.w X.K X.mg X.base Cc m k C) (hr : Room j X.A) (h : VO X st e w) (hk : k + 1 ≤ j := by decide) (hab : attributeBase e m X.env (eval e X.env) = eval e X.env := by rfl) : VE X st (.Attribute e m pos) (wmeth0 Cc m C w) := by
  obtain ⟨q, g, fd, ps, h1, h2, h3⟩ := c.ex
  exact PEmono (pe_prop h cl h1 (h2 st) (hr.mono hk) h3 .nil pass0 hab) tE_prop
theorem e_fld {f : Str} (cl : Cls X.K Cc) (na : NoAttr X.K Cc f) (h : VO X st e w) (hb : attributeBase e f X.env (eval e X.env) = eval e X.env := by rfl) : VE X st (.Attribute e f pos) (wget Cc f w) := PEmono (pe_fld h hb) (tE_fld cl na)
theorem e_meth0 {pl : Sem Bool} (cl : Cls X.K Cc) (c : Me X.prog X.w X.K X.mg X.base Cc m k C) (hr : Room j X.A) (h : VO X st e w) (hk : k ≤ j := by decide)
    (ht : eval (.Call (.Attribute e m apos) [] [] pos) X.env = (do
      let ov ← eval e X.env
      standAt apos.atName
      let (f, first) ← holding [ov] (getMethod ov m pl)
      callWith pos f first (backTo pos (starEach [] X.env)) (backToKw pos (keywordEach [] X.env))) := by rfl) : VE X st (.Call (.Attribute e m apos) [] [] pos) (wmeth0 Cc m C w) := by
  obtain ⟨f, fd, ps, h1, _, h2, h3⟩ := c.ex
  exact PEmono (pe_meth0 h cl h1 (h2 st) (hr.mono hk) h3 .nil pass0 ht) tE_meth0
theorem tF_meth0 {E : XK} : ∀ σ H Q, tF st (wmeth0 Cc m C w) σ H Q → tMeth Cc m (spF st C) [] E (tO st w) tNil σ H Q := fun σ H Q ⟨F, G, R, I, hw, k⟩ => tO.bind I hw fun d v H1 r1 I1 f1 q1 => by
  split at r1
  · rename_i C' fs ds
    obtain ⟨⟨rfl, nm⟩, r1⟩ := r1
    obtain ⟨a, dx, vs, rfl, h1, h2, h3⟩ := id q1.obj
    exact ⟨a, dx, _, rfl, h1, by rw [zip_lookup]; exact dget_none nm, F, [.bo (.obj C' fs ds)], R, I1.toFOk, .cons q1 .nil, r1, fun d p H' r f n q => k d p H' r (f1.trans f) (f1.fr.dom p n) q⟩
  · exact r1.elim
theorem f_meth0 {pl : Sem Bool} (cl : Cls X.K Cc) (c : MeF X.prog X.w X.K X.mg X.base Cc m k C) (hr : Room j X.A) (h : VO X st e w) (hk : k ≤ j := by decide)
    (ht : eval (.Call (.Attribute e m apos) [] [] pos) X.env = (do
      let ov ← eval e X.env
      standAt apos.atName
      let (f, first) ← holding [ov] (getMethod ov m pl)
      callWith pos f first (backTo pos (starEach [] X.env)) (backToKw pos (keywordEach [] X.env))) := by rfl) : VF X st (.Call (.Attribute e m apos) [] [] pos) (wmeth0 Cc m C w) := by
  obtain ⟨f, fd, ps, h1, h2, h3⟩ := c.ex
  exact PEmono (pe_meth0 h cl h1 (h2 st) (hr.mono hk) h3 .nil pass0 ht) tF_meth0
/-! constants of the module -/
theorem e_gint {i : Int} (h : ∃ t, X.mg x = some (.int i t)) (hg : Gl X x := by rfl) (hd : (x == ("__debug__" : Str)) = false := by decide) : VE X st (.Name x pos) (wc (.int i)) := by
  obtain ⟨t, h⟩ := h
  exact e_glob (v := .int i) rfl h ⟨t, rfl⟩ hg hd
theorem e_gstr {i : Str} (h : ∃ t, X.mg x = some (.str i t)) (hg : Gl X x := by rfl) (hd : (x == ("__debug__" : Str)) = false := by decide) : VE X st (.Name x pos) (wc (.str i)) := by
  obtain ⟨t, h⟩ := h
  exact e_glob (v := .str i) rfl h ⟨t, rfl⟩ hg hd
/-! a new dict -/
def wdic0 : WE := fun _ R => R (.dic [] [])
theorem f_dic0 : VF X st (.Dict [] [] pos) wdic0 := PEmono pe_dnewK fun σ H Q ⟨F, G, R, I, hw, k⟩ => fun p hp => k _ _ _ hw (.new I.hi hp) hp ⟨[], upd_same, rfl, .nil⟩
/-! a < b <= c -/
def wchain (o o' : O2) (wa wb wc : WE) : WE := fun G R => wa G fun x => wb G fun y => o x y (isB fun t => if t = true then wc G fun z => o' y z R else R (.bl false))
theorem e_chain {c : Expr} {wc' : WE} {op op' : CmpOp} {r r' : R2} {o o' : O2} (ho : OpR X (compareOp op) r) (ho' : OpR X (compareOp op') r') (hd : OpD st r o) (hd' : OpD st r' o') (ha : VO X st a wa) (hb : VO X st b wb) (hc : VO X st c wc')
    (hm : lastMarks [op, op'] [b, c] = false := by with_unfolding_all rfl) : VE X st (.Compare a [op, op'] [b, c] pos) (wchain o o' wa wb wc') :=
  PEmono (pe_chain ho ho' ha hb hc hm) fun σ H Q ⟨F, G, R, I, hw, k⟩ => tO.bind I hw fun x v H1 r1 I1 f1 q1 => tO.bind I1 r1 fun y u H2 r2 I2 f2 q2 =>
    hd F H2 x y v u _ _ I2.toFOk (q1.fx f2 I.sa) q2 r2 fun d z H3 rr f3 q3 => by
      obtain ⟨t, rfl, rr2⟩ := isB_of rr
      clear rr
      have I3 := I2.fx f3
      have f13 := (f1.trans f2).trans f3
      refine ⟨t, q3.imm rfl, ?_⟩
      cases t with
      | true =>
        rw [if_pos rfl] at rr2 ⊢
        exact tO.bind I3 rr2 fun z' v' H4 r4 I4 f4 q4 => hd' F H4 y z' u v' R Q I4.toFOk ((q2.fx f3 I.sa).fx f4 I.sa) q4 r4 fun d z H5 r5 f5 q5 => k d z H5 r5 ((f13.trans f4).trans f5) q5
      | false =>
        rw [if_neg (by decide)] at rr2 ⊢
        exact k _ _ H3 rr2 f13 at_bl
/-! list(range(n)) -/
def wlrg (w : WE) : WE := fun G R => w G fun d => match d with
  | .int n => (-1000 ≤ n ∧ n ≤ 1000) ∧ R (.lst (rng 0 n))
  | _ => False
theorem f_lrg {p1 pos1 : Pos} (hc : X.calm = true) (hm : X.mg "list" = none) (hm2 : X.mg "range" = none) (ha : VE X st a w) (hg : Gl X "list" := by rfl) (hg2 : Gl X "range" := by rfl) (na : starEach [a] X.env = (false, eval a X.env) :: starEach [] X.env := by rfl)
    (na2 : starEach [Expr.Call (.Name "range" p1) [a] [] pos1] X.env = (false, eval (Expr.Call (.Name "range" p1) [a] [] pos1) X.env) :: starEach [] X.env := by rfl) : VF X st (.Call (.Name "list" p) [.Call (.Name "range" p1) [a] [] pos1] [] pos) (wlrg w) :=
  PEmono (pe_listRg hc hg hm (prg_1 hg2 hm2 ha na) na2) fun σ H Q ⟨F, G, R, I, hw, k⟩ => tE.bind I hw fun d v H1 r1 I1 f1 q1 => by
    split at r1
    · rename_i n
      refine ⟨n, q1.imm rfl, ⟨by omega, by omega, by omega, by omega, by omega⟩, fun q hq => k _ _ _ r1.2 (f1.trans (.new I1.hi hq)) (f1.fr.dom q hq) ⟨_, upd_same, ?_⟩⟩
      exact AtAll.ofImms (f := fun i : Nat => D.int (0 + (i : Nat))) (g := fun i : Nat => V.int (0 + (i : Nat))) (fun _ => rfl) _
    · exact r1.elim
/-! names set to comprehensions -/
section
variable {i : Nat} {y : Str} {py spos : Pos} {elt tg iter : Expr} {ifs : List Expr} {scope : Scope} {own : List (Str × Nat)} {wi : WI} {is : List Nat} {g : WG} {tt : WT} {te : WE} {pp : Bool}
theorem s_ownLc (hc : X.calm = true) (hN : X.N.Nodup) (hi : VI X st tg iter wi) (ok : BlkOk X.N X.env.scope scope own)
    (hg : ∀ (s : Shared) (H : Hp) (C : Addr) (cl : List (Str × Addr)) (fp : List Addr), VG (X.blk s H scope (compEnvC scope cl C X.env) fp) st tg is g) (ht : ∀ (s : Shared) (H : Hp) (C : Addr) (cl : List (Str × Addr)) (fp : List Addr), VTs (X.blk s H scope (compEnvC scope cl C X.env) fp) st ifs tt)
    (he : ∀ (s : Shared) (H : Hp) (C : Addr) (cl : List (Str × Addr)) (fp : List Addr), VE (X.blk s H scope (compEnvC scope cl C X.env) fp) st elt te) (his : ∀ i ∈ is, i ∈ own.map (·.2) := by decide) (h0 : pp = true → i ≠ 0 := by first | decide | (intro h; cases h))
    (hs : ∀ x, foldedSetIterable iter X.env x = pure x := by intro _; rfl) (hy : X.N[i]? = some y := by rfl) (hyl : X.env.scope.names.lookup y = some .local := by rfl) (hsw : swapsWith (.ListComp elt [⟨tg, iter, ifs, 0⟩] scope pos) (some (.Name y py)) spos.line X.env = pure true := by exact sw_true rfl rfl rfl (by decide +kernel)) :
    VS X st pp (.Assign [.Name y py] (.ListComp elt [⟨tg, iter, ifs, 0⟩] scope pos) spos) (wown i (wlc (own.map (·.2)) wi g tt te)) := fun b hp =>
  PSmono (ps_setLc hc hN hy hyl hsw hi ok hg ht he hs) fun Dn σ H h => tF_lc his σ H _ (tS_own hp i h0 Dn σ H h)
/-- shared from the start -/
theorem tF_tE {te : TE} {w : WE} (h : ∀ σ H Q, tF st w σ H Q → te σ H Q) : ∀ σ H Q, tE st w σ H Q → te σ H Q := fun σ H Q ⟨F, G, R, I, hw, k⟩ => h σ H Q ⟨F, G, R, I, hw, fun d p H' r f n q => k d (.ref p) H' r f ((q.off fun a m => .inl (.inl m)).at_ (I.fresh n))⟩
theorem s_setLc (hc : X.calm = true) (hN : X.N.Nodup) (hi : VI X st tg iter wi) (ok : BlkOk X.N X.env.scope scope own)
    (hg : ∀ (s : Shared) (H : Hp) (C : Addr) (cl : List (Str × Addr)) (fp : List Addr), VG (X.blk s H scope (compEnvC scope cl C X.env) fp) st tg is g) (ht : ∀ (s : Shared) (H : Hp) (C : Addr) (cl : List (Str × Addr)) (fp : List Addr), VTs (X.blk s H scope (compEnvC scope cl C X.env) fp) st ifs tt)
    (he : ∀ (s : Shared) (H : Hp) (C : Addr) (cl : List (Str × Addr)) (fp : List Addr), VE (X.blk s H scope (compEnvC scope cl C X.env) fp) st elt te) (his : ∀ i ∈ is, i ∈ own.map (·.2) := by decide) (h0 : pp = true → i ≠ 0 := by first | decide | (intro h; cases h))
    (hs : ∀ x, foldedSetIterable iter X.env x = pure x := by intro _; rfl) (hy : X.N[i]? = some y := by rfl) (hyl : X.env.scope.names.lookup y = some .local := by rfl) (hsw : swapsWith (.ListComp elt [⟨tg, iter, ifs, 0⟩] scope pos) (some (.Name y py)) spos.line X.env = pure true := by exact sw_true rfl rfl rfl (by decide +kernel)) :
    VS X st pp (.Assign [.Name y py] (.ListComp elt [⟨tg, iter, ifs, 0⟩] scope pos) spos) (wset i (wlc (own.map (·.2)) wi g tt te)) := fun b hp =>
  PSmono (ps_setLc hc hN hy hyl hsw hi ok hg ht he hs) fun Dn σ H h => tF_tE (tF_lc his) σ H _ (tS_set hp i h0 Dn σ H h)
theorem f_lc (hc : X.calm = true) (hN : X.N.Nodup) (hi : VI X st tg iter wi) (ok : BlkOk X.N X.env.scope scope own)
    (hg : ∀ (s : Shared) (H : Hp) (C : Addr) (cl : List (Str × Addr)) (fp : List Addr), VG (X.blk s H scope (compEnvC scope cl C X.env) fp) st tg is g) (ht : ∀ (s : Shared) (H : Hp) (C : Addr) (cl : List (Str × Addr)) (fp : List Addr), VTs (X.blk s H scope (compEnvC scope cl C X.env) fp) st ifs tt)
    (he : ∀ (s : Shared) (H : Hp) (C : Addr) (cl : List (Str × Addr)) (fp : List Addr), VE (X.blk s H scope (compEnvC scope cl C X.env) fp) st elt te) (his : ∀ i ∈ is, i ∈ own.map (·.2) := by decide)
    (hs : ∀ x, foldedSetIterable iter X.env x = pure x := by intro _; rfl) : VF X st (.ListComp elt [⟨tg, iter, ifs, 0⟩] scope pos) (wlc (own.map (·.2)) wi g tt te) := PEmono (pe_lc hc hN hi ok hg ht he hs) (tF_lc his)
theorem f_dc {kx : Expr} {tk : WE} (hc : X.calm = true) (hN : X.N.Nodup) (hi : VI X st tg iter wi) (ok : BlkOk X.N X.env.scope scope own)
    (hg : ∀ (s : Shared) (H : Hp) (C : Addr) (cl : List (Str × Addr)) (fp : List Addr), VG (X.blk s H scope (compEnvC scope cl C X.env) fp) st tg is g) (ht : ∀ (s : Shared) (H : Hp) (C : Addr) (cl : List (Str × Addr)) (fp : List Addr), VTs (X.blk s H scope (compEnvC scope cl C X.env) fp) st ifs tt)
    (hk : ∀ (s : Shared) (H : Hp) (C : Addr) (cl : List (Str × Addr)) (fp : List Addr), VE (X.blk s H scope (compEnvC scope cl C X.env) fp) st kx tk)
    (he : ∀ (s : Shared) (H : Hp) (C : Addr) (cl : List (Str × Addr)) (fp : List Addr), VE (X.blk s H scope (compEnvC scope cl C X.env) fp) st elt te) (his : ∀ i ∈ is, i ∈ own.map (·.2) := by decide)
    (hs : ∀ x, foldedSetIterable iter X.env x = pure x := by intro _; rfl) : VF X st (.DictComp kx elt [⟨tg, iter, ifs, 0⟩] scope pos) (wdc (own.map (·.2)) wi g tt tk te) := PEmono (pe_dc hc hN hi ok hg ht hk he hs) (tF_dc his)
/-- over a dict that a name holds -/
theorem f_lcK {i : Nat} {x : Str} {pos' : Pos} (hc : X.calm = true) (hN : X.N.Nodup) (hv : PE X (.Name x pos') (tVar i)) (ok : BlkOk X.N X.env.scope scope own)
    (hg : ∀ (s : Shared) (H : Hp) (C : Addr) (cl : List (Str × Addr)) (fp : List Addr), VG (X.blk s H scope (compEnvC scope cl C X.env) fp) st tg is g) (ht : ∀ (s : Shared) (H : Hp) (C : Addr) (cl : List (Str × Addr)) (fp : List Addr), VTs (X.blk s H scope (compEnvC scope cl C X.env) fp) st ifs tt)
    (he : ∀ (s : Shared) (H : Hp) (C : Addr) (cl : List (Str × Addr)) (fp : List Addr), VE (X.blk s H scope (compEnvC scope cl C X.env) fp) st elt te) (his : ∀ i ∈ is, i ∈ own.map (·.2) := by decide)
    (hs : ∀ y, foldedSetIterable (.Name x pos') X.env y = pure y := by intro _; rfl) : VF X st (.ListComp elt [⟨tg, .Name x pos', ifs, 0⟩] scope pos) (wlc (own.map (·.2)) (wik i) g tt te) := PEmono (pe_may (pe_lc hc hN (pi_keys hv) ok hg ht he hs)) (tF_lcK his)
end
/-! name += e, of ints -/
def waug (i : Nat) (w : WE) : WS := fun G P => match (G[i]? : Option Sl) with
  | some (.sh (.int n)) => w G fun d => (match d with
    | .int m => P.nx (G.set i (.sh (.int (n + m))))
    | _ => False)
  | _ => False
theorem s_aug {pp : Bool} {i : Nat} {pos' : Pos} (hN : X.N.Nodup) (he : VE X st e w) (h0 : pp = true → i ≠ 0 := by first | decide | (intro h; cases h)) (hi : X.N[i]? = some x := by rfl) (hx : Loc X.env.scope x := by first | exact .inl rfl | exact .inr rfl) (hf : X.fn x = true ∨ X.env.scope.names.lookup x = some .local := by first | exact .inl rfl | exact .inr rfl) : VS X st pp (.AugAssign (.Name x pos') .Add e pos) (waug i w) := fun b hp =>
  PSmono (ps_aug hN hi hx he ip_add hf) fun Dn σ H ⟨G, P, ⟨F, I, sf⟩, hw, po⟩ => by
    unfold waug at hw
    split at hw
    · rename_i n e
      obtain ⟨v, ev, q⟩ := I.sh e
      have e1 : v = .int n := q.imm rfl
      subst e1
      refine ⟨_, ev, tE.bind I hw fun d u H1 r1 I1 f1 q1 => ?_⟩
      split at r1
      · rename_i m
        have e2 : u = .int m := q1.imm rfl
        subst e2
        exact ⟨n, m, rfl, rfl, po.nx _ _ _ r1 ⟨F, I1.setSh at_int, (sf.fx f1).off (is := []) (pin_set hp h0)⟩⟩
      · exact r1.elim
    · exact hw.elim
/-! truth -/
def truD : D → Option Bool
  | .bl b => some b
  | .lst ds => some (!ds.isEmpty)
  | .non => some false
  | _ => none
theorem AtB.tru {K : PySem.W.Frag} {A : Set_} {H : Hp} {d : D} {v : V} {c : Bool} (h : AtB st A H v d) (e : truD d = some c) : TruV K v H c := by
  cases d <;> simp only [truD, Option.some.injEq, reduceCtorEq] at e <;> subst e
  · rw [h.imm (x := .non) rfl]; rfl
  · rename_i b; rw [h.imm (x := .bl b) rfl]; rfl
  · rename_i ds
    obtain ⟨a, vs, rfl, h1, h2⟩ := h.lst
    refine .inl ⟨vs, .of h1, ?_⟩
    have := h2.length
    cases vs <;> cases ds <;> simp_all
def wtru (w : WE) : WT := fun G R => w G fun d => match truD d with
  | some c => R c
  | none => False
def wnotT (w : WE) : WE := fun G R => w G fun d => match truD d with
  | some c => R (.bl (!c))
  | none => False
theorem t_tru (h : VO X st e w) (he : ∀ whole, isTrue e X.env whole = (do let v ← whole; standAt e.pos; holding [v] (truthy v)) := by intro _; rfl) : VT X st e (wtru w) :=
  PTmono (pt_truth h he) fun σ H Q ⟨F, G, R, I, hw, k⟩ => tO.bind I hw fun d v H1 r1 I1 f1 q1 => by
    split at r1
    · rename_i c e
      exact ⟨c, q1.tru e, k _ H1 r1 f1⟩
    · exact r1.elim
theorem e_notT (h : VO X st e w) : VE X st (.UnaryOp .Not e pos) (wnotT w) :=
  PEmono (pe_notT h) fun σ H Q ⟨F, G, R, I, hw, k⟩ => tO.bind I hw fun d v H1 r1 I1 f1 q1 => by
    split at r1
    · rename_i c e
      exact ⟨c, q1.tru e, k _ _ H1 r1 f1 at_bl⟩
    · exact r1.elim
/-! a call of a def with keywords -/
theorem hu1 {A : Around} (hr : Room k A) : A.units + 1 < cLine := by have := hr.un; omega
theorem hu100 {A : Around} (hr : Room k A) : A.units + 100 < cLine := by have := hr.un; omega
/-! isinstance -/
theorem e_isi {m : String} {u : Value} {x2 : Str} {p2 : Pos} (hm : X.mg "isinstance" = none) (hm2 : X.mg x2 = none) (hv : bootBuiltins x2 = some u) (r : RelV (.ty m) u) (ha : VO X st a w) (hg : Gl X "isinstance" := by rfl) (hg2 : Gl X x2 := by rfl) (hn : x2 ≠ "__name__" := by decide) (hd : (x2 == ("__debug__" : Str)) = false := by decide)
    (he : starEach [a, .Name x2 p2] X.env = (false, eval a X.env) :: starEach [.Name x2 p2] X.env := by rfl) (he2 : starEach [.Name x2 p2] X.env = (false, eval (.Name x2 p2) X.env) :: starEach [] X.env := by rfl) (hpl : (backTo pos (starEach [.Name x2 p2] X.env)).any (·.1) = false := by rfl) :
    VE X st (.Call (.Name "isinstance" p) [a, .Name x2 p2] [] pos) (wisi m w) :=
  PEmono (pe_callB call_isi hg hm (by decide +kernel) (pa_cons ha (pa_cons (pe_bltn hg2 hm2 hv r hn hd) pa_nil he2) he) (by decide) (by decide) he hpl) tE_isi
theorem e_isi2 {m1 m2 : String} {u1 u2 : Value} {x1 x2 : Str} {p1 p2 tp : Pos} {tk : Nat} (hm : X.mg "isinstance" = none) (hm1 : X.mg x1 = none) (hm2 : X.mg x2 = none) (hv1 : bootBuiltins x1 = some u1) (hv2 : bootBuiltins x2 = some u2) (r1 : RelV (.ty m1) u1) (r2 : RelV (.ty m2) u2) (ha : VO X st a w)
    (hg : Gl X "isinstance" := by rfl) (hg1 : Gl X x1 := by rfl) (hg2 : Gl X x2 := by rfl) (hn1 : x1 ≠ "__name__" := by decide) (hd1 : (x1 == ("__debug__" : Str)) = false := by decide) (hn2 : x2 ≠ "__name__" := by decide) (hd2 : (x2 == ("__debug__" : Str)) = false := by decide)
    (he : starEach [a, .Tuple [.Name x1 p1, .Name x2 p2] tk tp] X.env = (false, eval a X.env) :: starEach [.Tuple [.Name x1 p1, .Name x2 p2] tk tp] X.env := by rfl) (he2 : starEach [.Tuple [.Name x1 p1, .Name x2 p2] tk tp] X.env = (false, eval (.Tuple [.Name x1 p1, .Name x2 p2] tk tp) X.env) :: starEach [] X.env := by rfl) (hpl : (backTo pos (starEach [.Tuple [.Name x1 p1, .Name x2 p2] tk tp] X.env)).any (·.1) = false := by rfl)
    (he3 : starEach [.Name x1 p1, .Name x2 p2] X.env = (false, eval (.Name x1 p1) X.env) :: starEach [.Name x2 p2] X.env := by rfl) (he4 : starEach [.Name x2 p2] X.env = (false, eval (.Name x2 p2) X.env) :: starEach [] X.env := by rfl) :
    VE X st (.Call (.Name "isinstance" p) [a, .Tuple [.Name x1 p1, .Name x2 p2] tk tp] [] pos) (wisi2 m1 m2 w) :=
  PEmono (pe_callB call_isiT hg hm (by decide +kernel) (pa_cons ha (pa_cons (pe_tup (pa_cons (pe_bltn hg1 hm1 hv1 r1 hn1 hd1) (pa_cons (pe_bltn hg2 hm2 hv2 r2 hn2 hd2) pa_nil he4) he3)) pa_nil he2) he) (by decide) (by decide) he hpl) tE_isi2
theorem e_isO {x2 : Str} {p2 : Pos} (c : ClsOk X.K Cc) (hm : X.mg "isinstance" = none) (hm2 : X.mg x2 = some (.ref Cc)) (ha : VO X st a w) (hg : Gl X "isinstance" := by rfl) (hg2 : Gl X x2 := by rfl) (hd : (x2 == ("__debug__" : Str)) = false := by decide)
    (he : starEach [a, .Name x2 p2] X.env = (false, eval a X.env) :: starEach [.Name x2 p2] X.env := by rfl) (he2 : starEach [.Name x2 p2] X.env = (false, eval (.Name x2 p2) X.env) :: starEach [] X.env := by rfl) (hpl : (backTo pos (starEach [.Name x2 p2] X.env)).any (·.1) = false := by rfl) :
    VE X st (.Call (.Name "isinstance" p) [a, .Name x2 p2] [] pos) (wisO Cc w) :=
  PEmono (pe_callB call_isi hg hm (by decide +kernel) (pa_cons ha (pa_cons (pe_glob hg2 hm2 (v := .ref Cc) rfl hd) pa_nil he2) he) (by decide) (by decide) he hpl) (tE_isO c)
/-! built-in functions by name -/
theorem e_cb {id : String} {rr : List V → Hp → VK → Prop} {o : OC} (hc : CallR X (.builtin id) rr) (hd : CallD st rr o) (hm : X.mg x = none) (hv : bootBuiltins x = some (.builtin id)) (ha : VAr X st (e :: es) r) (hg : Gl X x := by rfl) (hn : x ≠ "__name__" := by decide) (hdb : (x == ("__debug__" : Str)) = false := by decide)
    (he : starEach (e :: es) X.env = (false, eval e X.env) :: starEach es X.env := by rfl) (hpl : (backTo pos (starEach es X.env)).any (·.1) = false := by rfl) : VE X st (.Call (.Name x p) (e :: es) [] pos) (wcall o r) := PEmono (pe_callB hc hg hm hv ha hn hdb he hpl) (tcb hd)
theorem e_ct {T : String} {rr : List V → Hp → VK → Prop} {o : OC} (hc : CallR X (.type T) rr) (hd : CallD st rr o) (hm : X.mg x = none) (hv : bootBuiltins x = some (.type T)) (ha : VAr X st (e :: es) r) (hg : Gl X x := by rfl) (hn : x ≠ "__name__" := by decide) (hdb : (x == ("__debug__" : Str)) = false := by decide)
    (he : starEach (e :: es) X.env = (false, eval e X.env) :: starEach es X.env := by rfl) (hpl : (backTo pos (starEach es X.env)).any (·.1) = false := by rfl) : VE X st (.Call (.Name x p) (e :: es) [] pos) (wcall o r) := PEmono (pe_callTy hc hg hm hv ha hn hdb he hpl) (tcb hd)
theorem f_cb {id : String} {rr : List V → Hp → VK → Prop} {o : OC} (hc : CallR X (.builtin id) rr) (hd : CallF st rr o) (hm : X.mg x = none) (hv : bootBuiltins x = some (.builtin id)) (ha : VAr X st (e :: es) r) (hg : Gl X x := by rfl) (hn : x ≠ "__name__" := by decide) (hdb : (x == ("__debug__" : Str)) = false := by decide)
    (he : starEach (e :: es) X.env = (false, eval e X.env) :: starEach es X.env := by rfl) (hpl : (backTo pos (starEach es X.env)).any (·.1) = false := by rfl) : VF X st (.Call (.Name x p) (e :: es) [] pos) (wcall o r) := PEmono (pe_callB hc hg hm hv ha hn hdb he hpl) (tcf hd)
theorem f_ct {T : String} {rr : List V → Hp → VK → Prop} {o : OC} (hc : CallR X (.type T) rr) (hd : CallF st rr o) (hm : X.mg x = none) (hv : bootBuiltins x = some (.type T)) (ha : VAr X st (e :: es) r) (hg : Gl X x := by rfl) (hn : x ≠ "__name__" := by decide) (hdb : (x == ("__debug__" : Str)) = false := by decide)
    (he : starEach (e :: es) X.env = (false, eval e X.env) :: starEach es X.env := by rfl) (hpl : (backTo pos (starEach es X.env)).any (·.1) = false := by rfl) : VF X st (.Call (.Name x p) (e :: es) [] pos) (wcall o r) := PEmono (pe_callTy hc hg hm hv ha hn hdb he hpl) (tcf hd)
/-! own special methods by class -/
theorem e_lenO (c : Me X.prog X.w X.K X.mg X.base Cc "__len__" k C) (hr : Room j X.A) (hm : X.mg "len" = none) (ha : VAr X st [a] r) (hk : k + 1 ≤ j := by decide) (hg : Gl X "len" := by rfl)
    (he : starEach [a] X.env = (false, eval a X.env) :: starEach [] X.env := by rfl) (hpl : (backTo pos (starEach [] X.env)).any (·.1) = false := by rfl) : VE X st (.Call (.Name "len" p) [a] [] pos) (wcall (cObj Cc C) r) := by
  obtain ⟨f, fd, ps, h1, h5, h2, h3⟩ := c.ex
  exact PEmono (pe_callB (call_lenO (h2 st) (hr.mono hk) h3 h1.at_ h1.fn) hg hm (by decide +kernel) ha (by decide) (by decide) he hpl) (tcb d_lenO)
theorem e_ixO (c : Me X.prog X.w X.K X.mg X.base Cc "__getitem__" k C) (hr : Room j X.A) (ha : VO X st a wa) (hb : VO X st b wb) (hk : k + 1 ≤ j := by decide) (hsl : ∀ x i, subscripted b true (.ref x) i = runValue (.builtin "lifetime.subscript" ⟨[.ref x, i], []⟩) := by intro _ _; rfl) : VE X st (.Subscript a b pos) (w2 (oIxO Cc C) wa wb) := by
  obtain ⟨f, fd, ps, h1, h5, h2, h3⟩ := c.ex
  exact PEmono (pe_ixO (h2 st) (hr.mono hk) h3 h1.at_ h1.fn h5 ha hb hsl) tE_ixO
theorem e_inO (c : Me X.prog X.w X.K X.mg X.base Cc "__contains__" k C) (hr : Room j X.A) (ha : VO X st a wa) (hb : VO X st b wb) (hk : k ≤ j := by decide) (hm : behindInMarks .In b = false := by first | exact nomark _ | rfl) : VE X st (.Compare a [.In] [b] pos) (w2 (oInO Cc C false) wa wb) := by
  obtain ⟨f, fd, ps, h1, h5, h2, h3⟩ := c.ex
  exact e_cmp (op_inO (h2 st) (hr.mono hk) h3 h1.at_ h1.fn) d_inO ha hb hm
theorem e_ninO (c : Me X.prog X.w X.K X.mg X.base Cc "__contains__" k C) (hr : Room j X.A) (ha : VO X st a wa) (hb : VO X st b wb) (hk : k ≤ j := by decide) (hm : behindInMarks .NotIn b = false := by first | exact nomark _ | rfl) : VE X st (.Compare a [.NotIn] [b] pos) (w2 (oInO Cc C true) wa wb) := by
  obtain ⟨f, fd, ps, h1, h5, h2, h3⟩ := c.ex
  exact e_cmp (op_ninO (h2 st) (hr.mono hk) h3 h1.at_ h1.fn) d_ninO ha hb hm
theorem e_neO (c : Me X.prog X.w X.K X.mg X.base Cc "__eq__" k C) (hr : Room j X.A) (hn : PySem.W.findIn X.K (.ref Cc) "__ne__" = some (some (.builtin "object.__ne__"))) (hmo : PySem.W.mroIn X.K Cc (.type "object") = some true) (ha : VO X st a wa) (hb : VO X st b wb) (hk : k + 1 ≤ j := by decide) (hm : behindInMarks .NotEq b = false := by first | exact nomark _ | rfl) : VE X st (.Compare a [.NotEq] [b] pos) (w2 (oNeO Cc C) wa wb) := by
  obtain ⟨f, fd, ps, h1, h5, h2, h3⟩ := c.ex
  exact e_cmp (op_neO (h2 st) (hr.mono hk) h3 h1.at_ h1.fn hn hmo) d_neO ha hb hm
/-! dicts, is None, methods of own lists by name -/
theorem e_inD (hr : Room j X.A) (ha : VO X st a wa) (hb : VO X st b wb) (hm : behindInMarks .In b = false := by first | exact nobehind _ (by decide) (by decide) | rfl) : VE X st (.Compare a [.In] [b] pos) (winD false wa wb) := PEmono (pe_cmp (pc_din (hu1 hr) ha hb) hm) tE_inD
theorem e_ninD (hr : Room j X.A) (ha : VO X st a wa) (hb : VO X st b wb) (hm : behindInMarks .NotIn b = false := by first | exact nobehind _ (by decide) (by decide) | rfl) : VE X st (.Compare a [.NotIn] [b] pos) (winD true wa wb) := PEmono (pe_cmp (pc_dnotin (hu1 hr) ha hb) hm) tE_ninD
theorem e_dget (hr : Room j X.A) (ha : VO X st a wa) (hb : VO X st b wb) (hs : NoSl b := by exact fun _ _ => rfl) : VE X st (.Subscript a b pos) (wdget wa wb) := PEmono (pe_dget (hu1 hr) ha hb hs) tE_dget
theorem e_isN {i : Nat} {p2 : Pos} (ha : VO X st a w) : VE X st (.Compare a [.Is] [.Constant .none i p2] pos) (wisN w) := PEmono (pe_cmp (pc_isN ha)) tE_isN
end
end VL
/-! text VLm -/
/-! VLm: statements that change own objects, by name. -/
namespace VL
open PySem PySem.Spec PyProof.Rows L2
section
variable {X : Cx} {st : Sto} {e a b : Expr} {w wk wa wb : WE} {pos p p2 p3 apos : Pos} {x : Str} {i : Nat} {pp : Bool} {Cc : Addr}
theorem s_app (hv : PE X (.Name x p) (tVar i)) (he : VE X st e w) (hbase : attributeBase (.Name x p) "append" X.env (eval (.Name x p) X.env) = eval (.Name x p) X.env := by rfl)
    (hfew : ((backTo pos (starEach [e] X.env)).all (fun x => !x.1) && (backToKw pos (keywordEach [] X.env)).all (fun x => x.1.isSome)
      && decide ([e].length + ([] : List Keyword).length + (if ([] : List Keyword).isEmpty then 0 else 1) < 30)) = true := by rfl)
    (hline : (apos.endLine == pos.line) = true := by rfl) (hs : starEach [e] X.env = (false, eval e X.env) :: starEach [] X.env := by rfl) (hplain : (backTo pos (starEach [] X.env)).any (·.1) = false := by rfl)
    (hsw : swapsWith (.Call (.Attribute (.Name x p) "append" apos) [e] [] pos) none p2.line X.env = pure false := by rfl) :
    VS X st pp (.Expr (.Call (.Attribute (.Name x p) "append" apos) [e] [] pos) p2) (wapp i w) := fun b _ =>
  PSmono (ps_expr (pe_bm PySem.F.plainAttrs_list PySem.F.slot_list_append PySem.F.type_list_append mt_append hv (pa_cons he pa_nil hs) hbase hfew hline hs hplain) hsw) tS_app
theorem s_upd (hv : PE X (.Name x p) (tVar i)) (he : VE X st e w) (hbase : attributeBase (.Name x p) "update" X.env (eval (.Name x p) X.env) = eval (.Name x p) X.env := by rfl)
    (hfew : ((backTo pos (starEach [e] X.env)).all (fun x => !x.1) && (backToKw pos (keywordEach [] X.env)).all (fun x => x.1.isSome)
      && decide ([e].length + ([] : List Keyword).length + (if ([] : List Keyword).isEmpty then 0 else 1) < 30)) = true := by rfl)
    (hline : (apos.endLine == pos.line) = true := by rfl) (hs : starEach [e] X.env = (false, eval e X.env) :: starEach [] X.env := by rfl) (hplain : (backTo pos (starEach [] X.env)).any (·.1) = false := by rfl)
    (hsw : swapsWith (.Call (.Attribute (.Name x p) "update" apos) [e] [] pos) none p2.line X.env = pure false := by rfl) :
    VS X st pp (.Expr (.Call (.Attribute (.Name x p) "update" apos) [e] [] pos) p2) (wupd i w) := fun b _ =>
  PSmono (ps_expr (pe_bm PySem.F.plainAttrs_dict PySem.F.slot_dict_update PySem.F.type_dict_update mt_update hv (pa_cons he pa_nil hs) hbase hfew hline hs hplain) hsw) tS_upd
theorem s_put (hv : PE X (.Name x p) (tVar i)) (hk : VE X st a wk) (he : VE X st e w) (ha : ∀ v, assign (.Subscript (.Name x p) a p2) X.env v = (do
      let ov ← holding [v] (eval (.Name x p) X.env)
      let iv ← holding [v, ov] (eval a X.env)
      standAt p2
      holding [v, ov, iv] (setItem ov iv v)
      release [v, ov, iv] []) := by intro _; rfl) (hs : swapsWithSole [.Subscript (.Name x p) a p2] e pos.line X.env = pure false := by rfl) (hw : swappedStores [.Subscript (.Name x p) a p2] e X.env = pure none := by rfl)
    (h1 : (assignEach [.Subscript (.Name x p) a p2] X.env).map (·.2) = [assign (.Subscript (.Name x p) a p2) X.env] := by rfl) : VS X st pp (.Assign [.Subscript (.Name x p) a p2] e pos) (wput i wk w) := fun b _ =>
  PSmono (ps_asg he (pg_sub hv hk set_list ha) hs hw h1) tS_put
theorem s_dput {j : Nat} (hr : Room j X.A) (hv : PE X (.Name x p) (tVar i)) (hk : VE X st a wk) (he : VE X st e w) (hs : swapsWith e (some (.Subscript (.Name x p) a p2)) pos.line X.env = pure false := by rfl) : VS X st pp (.Assign [.Subscript (.Name x p) a p2] e pos) (wdput i wk w) := fun b _ =>
  PSmono (ps_dput (hu1 hr) hv hk he hs) tS_dput
theorem s_fld {f : Str} (cl : Cls X.K Cc) (na : NoAttr X.K Cc f) (hv : PE X (.Name x p) (tVar i)) (he : VE X st e w) (hs : swapsWith e (some (.Attribute (.Name x p) f p2)) pos.line X.env = pure false := by rfl) : VS X st pp (.Assign [.Attribute (.Name x p) f p2] e pos) (wfld Cc i f w) := fun b _ =>
  PSmono (ps_fld hv he hs) (tS_fld cl na)
theorem e_index (ha : VO X st a wa) (hb : VO X st b wb) (hbase : attributeBase a "index" X.env (eval a X.env) = eval a X.env := by rfl)
    (hfew : ((backTo pos (starEach [b] X.env)).all (fun x => !x.1) && (backToKw pos (keywordEach [] X.env)).all (fun x => x.1.isSome)
      && decide ([b].length + ([] : List Keyword).length + (if ([] : List Keyword).isEmpty then 0 else 1) < 30)) = true := by rfl)
    (hline : (apos.endLine == pos.line) = true := by rfl) (hs : starEach [b] X.env = (false, eval b X.env) :: starEach [] X.env := by rfl) (hplain : (backTo pos (starEach [] X.env)).any (·.1) = false := by rfl) :
    VE X st (.Call (.Attribute a "index" apos) [b] [] pos) (wmtL oIndexL wa wb) :=
  PEmono (pe_bm PySem.F.plainAttrs_list PySem.F.slot_list_index PySem.F.type_list_index mt_index ha (pa_cons hb pa_nil hs) hbase hfew hline hs hplain) tE_index
theorem f_vals (hc : X.calm = true) (hm : X.mg "list" = none) (hd : PE X (.Name x p) (tVar i)) (hg : Gl X "list" := by rfl) (hbase : attributeBase (.Name x p) "values" X.env (eval (.Name x p) X.env) = eval (.Name x p) X.env := by rfl) (hline : (apos.endLine == p2.line) = true := by rfl)
    (hse : starEach [Expr.Call (.Attribute (.Name x p) "values" apos) [] [] p2] X.env = [(false, eval (Expr.Call (.Attribute (.Name x p) "values" apos) [] [] p2) X.env)] := by rfl) :
    VF X st (.Call (.Name "list" p3) [.Call (.Attribute (.Name x p) "values" apos) [] [] p2] [] pos) (wvalsO i) := PEmono (pe_listVals hc hg hm hd hbase hline hse) tF_vals
end
/-! the signs of a text -/
section
variable {X : Cx} {st : Sto} {tg e : Expr} {w : WE}
def signsD (z : Str) : List D := z.cps.toList.map fun c => .str ⟨#[c]⟩
def wis (w : WE) : WI := fun G R => w G fun d => match d with
  | .str z => R (signsD z)
  | _ => False
theorem i_str (h : VE X st e w) : VI X st tg e (wis w) := PImono (pi_str h) fun σ H R ⟨F, G, Rd, I, hw, k⟩ => tE.bind I hw fun d v H1 r1 I1 f1 q1 => by
  split at r1
  · rename_i z
    have e : v = .str z := q1.imm rfl
    subst e
    have hl : (signsD z).length = z.cps.size := by unfold signsD; simp
    refine ⟨z, rfl, k _ _ H1 r1 f1 ⟨fun i H' f hi => by rw [hl] at hi; exact hi, fun H' f => by rw [hl]; exact Nat.le_refl z.cps.size, fun A' i H' x H'' hlt f hi off lv y => ?_⟩⟩
    obtain ⟨rfl, c, ec, rfl⟩ := y
    exact ⟨.refl hi, .str ⟨#[c]⟩, by unfold signsD; rw [List.getElem?_map, Array.getElem?_toList, ec]; rfl, at_str⟩
  · exact r1.elim
/-! tests of the forms that stand by themselves -/
variable {a b : Expr} {wa wb : WE} {pos : Pos} {k j : Nat} {C : OC} {Cc : Addr}
theorem tT_B {te : TE} {w : WE} (h : ∀ σ H Q, tE st w σ H Q → te σ H Q) : ∀ σ H Q, tT st (wt w) σ H Q → tB te σ H Q := fun σ H Q q => tT_test h σ H Q q
theorem t_inD (hr : Room j X.A) (ha : VO X st a wa) (hb : VO X st b wb) (hm : behindInMarks .In b = false := by first | exact nobehind _ (by decide) (by decide) | rfl) : VT X st (.Compare a [.In] [b] pos) (wt (winD false wa wb)) := PTmono (pt_cmp (pc_din (hu1 hr) ha hb) hm) (tT_B tE_inD)
theorem t_ninD (hr : Room j X.A) (ha : VO X st a wa) (hb : VO X st b wb) (hm : behindInMarks .NotIn b = false := by first | exact nobehind _ (by decide) (by decide) | rfl) : VT X st (.Compare a [.NotIn] [b] pos) (wt (winD true wa wb)) := PTmono (pt_cmp (pc_dnotin (hu1 hr) ha hb) hm) (tT_B tE_ninD)
theorem t_isN {i : Nat} {p2 : Pos} (ha : VO X st a w) : VT X st (.Compare a [.Is] [.Constant .none i p2] pos) (wt (wisN w)) := PTmono (pt_cmp (pc_isN ha)) (tT_B tE_isN)
theorem t_inO (c : Me X.prog X.w X.K X.mg X.base Cc "__contains__" k C) (hr : Room j X.A) (ha : VO X st a wa) (hb : VO X st b wb) (hk : k ≤ j := by decide) (hm : behindInMarks .In b = false := by first | exact nomark _ | rfl) : VT X st (.Compare a [.In] [b] pos) (wt (w2 (oInO Cc C false) wa wb)) := by
  obtain ⟨f, fd, ps, h1, h5, h2, h3⟩ := c.ex
  exact t_cmp (op_inO (h2 st) (hr.mono hk) h3 h1.at_ h1.fn) d_inO ha hb hm
theorem t_ninO (c : Me X.prog X.w X.K X.mg X.base Cc "__contains__" k C) (hr : Room j X.A) (ha : VO X st a wa) (hb : VO X st b wb) (hk : k ≤ j := by decide) (hm : behindInMarks .NotIn b = false := by first | exact nomark _ | rfl) : VT X st (.Compare a [.NotIn] [b] pos) (wt (w2 (oInO Cc C true) wa wb)) := by
  obtain ⟨f, fd, ps, h1, h5, h2, h3⟩ := c.ex
  exact t_cmp (op_ninO (h2 st) (hr.mono hk) h3 h1.at_ h1.fn) d_ninO ha hb hm
theorem t_neO (c : Me X.prog X.w X.K X.mg X.base Cc "__eq__" k C) (hr : Room j X.A) (hn : PySem.W.findIn X.K (.ref Cc) "__ne__" = some (some (.builtin "object.__ne__"))) (hmo : PySem.W.mroIn X.K Cc (.type "object") = some true) (ha : VO X st a wa) (hb : VO X st b wb) (hk : k + 1 ≤ j := by decide) (hm : behindInMarks .NotEq b = false := by first | exact nomark _ | rfl) : VT X st (.Compare a [.NotEq] [b] pos) (wt (w2 (oNeO Cc C) wa wb)) := by
  obtain ⟨f, fd, ps, h1, h5, h2, h3⟩ := c.ex
  exact t_cmp (op_neO (h2 st) (hr.mono hk) h3 h1.at_ h1.fn hn hmo) d_neO ha hb hm
end
/-! a def whose result is new -/
section
variable {st : Sto} {P : Program} {w : World} {K : PySem.W.Frag} {mg : Str → Option Value} {base : Heap}
theorem fn_okF {x qual : Str} {params : Arguments} {scope : Scope} {kws : List (Str × V)} {dvs : List V} {f : Addr} {fd : FuncData} {N ps : List Str} {k : Nat} {C : OC} {e : Expr} {pos : Pos} {body : List Stmt} {we : WE} (F : FunD K x qual params body scope dvs kws f fd) (S : FnScope N ps scope) (hb : body = [.Return (some e) pos])
    (hlen : ∀ as R, C as R → as.length = ps.length)
    (hbody : ∀ (cdv : Value) (A : Around) (outer : List Env) (s : Shared) (H : Hp) (E : XK), Room k (A.deeper (envOfC qual scope s.heap.objs.size f cdv)) → VF (cxOf CX0 P w K mg base N qual scope f cdv A outer s H E).nox st e we)
    (hread : ∀ as R, C as R → we (gaOf N.length as) R) : FnOk P w K mg base CX0 (k + 1) f fd ps (spF st C) := by
  subst hb
  refine F.ok S (fun vs H Q E ⟨F, as, R, o, ha, hc, _⟩ => by rw [ha.length]; exact hlen as R hc) fun cdv A outer s H vs Q E hr ⟨F, as, R, o, ha, hc, hk⟩ => ?_
  refine ⟨_, PSs.nox (pss_one (ps_ret (hbody cdv A outer s H E hr))), ⟨inSt st, F.A, fun _ => False⟩, gaOf N.length as, R, ?_, hread as R hc, fun d p H' r f n q => hk d p H' r f n q⟩
  exact EI.entry (F := ⟨inSt st, F.A, fun _ => False⟩) ⟨fun a m => m.elim, fun a m => m.elim, fun a m => o.na a (o.sn a m), fun a m => m, o.live, o.hi⟩ (fun a m => m) (fun a m => m) ha _ rfl
end
end VL
/-! text VLn -/
/-! VLn: the program's names. -/
namespace VL
open PySem PySem.Spec PyProof.Rows L2
def top (i : Nat) : Stmt := PySem.Challenge.pw_humphollow_k89_whole_gluing_keeps_what_c.main.body.getD i (.Pass ⟨0, 0, 0, 0⟩)
def retOf (s : Stmt) : Expr := match defBody s with
  | .Return (some e) _ :: _ => e
  | _ => .Constant .none 0 ⟨0, 0, 0, 0⟩
/-- a def called with one value and one keyword -/
structure Kn (P : Program) (w : World) (K : PySem.W.Frag) (mg : Str → Option Value) (base : Heap) (x : Str) (k : Nat) (C : OC) : Prop where
  ex : ∃ f fd ps g gV, mg x = some (.ref f) ∧ (∀ st, FnOk P w K mg base CX0 k f fd ps (spD st C)) ∧ PySem.W.keepIn K (.ref f) = true ∧ KBn K fd ps 1 ["least"] g gV ∧ ∀ v z, gV [v] [z] = [v, .str "places", z, .int 10]
def wcallN (C : OC) (wa wk : WE) : WE := fun G R => wa G fun d => wk G fun e => C [.sh d, .sh (.str "places"), .sh e, .sh (.int 10)] R
section
variable {X : Cx} {st : Sto} {e a : Expr} {wa wk : WE} {pos p kp : Pos} {x : Str} {k j : Nat} {C : OC}
theorem e_callN (c : Kn X.prog X.w X.K X.mg X.base x k C) (hr : Room j X.A) (ha : VE X st e wa) (hka : VE X st a wk) (hk : k ≤ j := by decide) (hg : Gl X x := by rfl) (hall : (backToKw pos (keywordEach [⟨some "least", a, kp⟩] X.env)).all (·.1.isSome) = true := by rfl) (hks : (backToKw pos (keywordEach [⟨some "least", a, kp⟩] X.env)).filterMap (·.1) = [("least" : Str)] := by rfl)
    (hdb : (x == ("__debug__" : Str)) = false := by decide) (he : starEach [e] X.env = (false, eval e X.env) :: starEach [] X.env := by rfl)
    (hpl : ((backTo pos (starEach [e] X.env)).any (·.1) || (backToKw pos (keywordEach [⟨some "least", a, kp⟩] X.env)).any (·.1.isNone)) = false := by rfl) :
    VE X st (.Call (.Name x p) [e] [⟨some "least", a, kp⟩] pos) (wcallN C wa wk) := by
  obtain ⟨f, fd, ps, g, gV, h1, h2, h3, h4, h5⟩ := c.ex
  refine PEmono (pe_callN (h2 st) (hr.mono hk) hg h1 h3 h4 pass0 (pa_cons ha pa_nil he) (pk_cons hka pk_nil) hall hks hdb he hpl) fun σ H Q ⟨F, G, R, I, hw, k⟩ => tE.bind I hw fun d v H1 r1 I1 f1 q1 => tE.bind I1 r1 fun d2 z H2 r2 I2 f2 q2 => ?_
  refine ⟨rfl, rfl, ?_⟩
  rw [h5]
  exact ⟨F, [.sh d, .sh (.str "places"), .sh d2, .sh (.int 10)], R, I2.toFOk, .cons (At.step f2.fr I.sa q1) (.cons (at_str (st := st) (A := F.A) (H := H2)) (.cons q2 (.cons (at_int (st := st) (A := F.A) (H := H2)) .nil))), r2, fun d v H' r f q => k d v H' r ((f1.trans f2).trans f) q⟩
theorem blkIn {N : List Str} {sc1 sc scope : Scope} {own : List (Str × Nat)} (h : blkC N (relS sc1 sc) scope own = true) : BlkOk N (relS sc1 sc) scope own := blkOk_by h
end
structure Pg (P : Program) (w : World) (K : PySem.W.Frag) (mg : Str → Option Value) (base : Heap) (cW cL cP : Addr) : Prop where
  i_NAME_MOST : ∃ t, mg "NAME_MOST" = some (.int 8 t)
  i_HEIGHT_MOST : ∃ t, mg "HEIGHT_MOST" = some (.int 9999 t)
  i_PLACE_MOST : ∃ t, mg "PLACE_MOST" = some (.int 10 t)
  i_BOND_MOST : ∃ t, mg "BOND_MOST" = some (.int 16 t)
  i_PIECE_PLACES : ∃ t, mg "PIECE_PLACES" = some (.int 6 t)
  i_PIECE_BONDS : ∃ t, mg "PIECE_BONDS" = some (.int 8 t)
  i_BORDER_MOST : ∃ t, mg "BORDER_MOST" = some (.int 3 t)
  s_LETTERS : ∃ t, mg "LETTERS" = some (.str "abcdefghijklmnopqrstuvwxyz" t)
  s_FIGURES : ∃ t, mg "FIGURES" = some (.str "0123456789" t)
  b_len : mg "len" = none
  b_isinstance : mg "isinstance" = none
  b_sorted : mg "sorted" = none
  b_str : mg "str" = none
  b_bool : mg "bool" = none
  b_int : mg "int" = none
  b_dict : mg "dict" = none
  b_list : mg "list" = none
  b_tuple : mg "tuple" = none
  b_all : mg "all" = none
  b_any : mg "any" = none
  b_range : mg "range" = none
  b_enumerate : mg "enumerate" = none
  b_zip : mg "zip" = none
  b_min : mg "min" = none
  b_max : mg "max" = none
  b_abs : mg "abs" = none
  kW : ClsOk K cW
  kLA : ClsOk K cL
  kP : ClsOk K cP
  mW : mg "Web" = some (.ref cW)
  mLA : mg "Land" = some (.ref cL)
  mP : mg "Piece" = some (.ref cP)
  neW : PySem.W.findIn K (.ref cW) "__ne__" = some (some (.builtin "object.__ne__"))
  nW_web_places : NoAttr K cW "web_places"
  nW_web_bonds : NoAttr K cW "web_bonds"
  nW_web_spots : NoAttr K cW "web_spots"
  nW_web_near : NoAttr K cW "web_near"
  nLA_web : NoAttr K cL "web"
  nLA_land_heights : NoAttr K cL "land_heights"
  nP_land : NoAttr K cP "land"
  nP_own_border : NoAttr K cP "own_border"
  nP_own_inner : NoAttr K cP "own_inner"
  nP_own_row : NoAttr K cP "own_row"
end VL
/-! text Wd -/
namespace VL
open PySem PySem.Spec PyProof.Rows L2
section
-- variable {P : Program} {w : World} {K : PySem.W.Frag} {mg : Str → Option Value} {base : Heap} {cW cL cP : Addr}
abbrev N_is_name : List Str := ["value", "sign"]
abbrev p_is_name : List Str := ["value"]
def wt_is_name_1 (cW cL cP : Addr)  : WT := wyes
def we_is_name_2 (cW cL cP : Addr)  : WE := (worV (w2 (oInS false) (wo 1) (wc (.str "abcdefghijklmnopqrstuvwxyz"))) (w2 (oInS false) (wo 1) (wc (.str "0123456789"))))
def ws_is_name (cW cL cP : Addr)  : WS := (wseq (wif (wnot (wtru (wisi "str" (wo 0)))) (wret (wc (.bl false))) wnext) (wseq (wif (wor (wt (w2 oEq (wcall cLen (wab (wo 0) wan)) (wc (.int 0)))) (wor (wt (w2 oGt (wcall cLen (wab (wo 0) wan)) (wc (.int 8)))) (wt (w2 oEq (wo 0) (wc (.str "it")))))) (wret (wc (.bl false))) wnext) (wseq (wif (wt (w2 (oInS true) (w2 oIx (wo 0) (wc (.int 0))) (wc (.str "abcdefghijklmnopqrstuvwxyz")))) (wret (wc (.bl false))) wnext) (wret (wcall (cBools fun bs => bs.all id) (wab (wlc [1] (wis (wv 0)) (gn 1) (wt_is_name_1 cW cL cP) (we_is_name_2 cW cL cP)) wan))))))
abbrev N_is_height : List Str := ["value"]
abbrev p_is_height : List Str := ["value"]
def ws_is_height (cW cL cP : Addr)  : WS := (wseq (wif (wor (wtru (wisi "bool" (wo 0))) (wnot (wtru (wisi "int" (wo 0))))) (wret (wc (.bl false))) wnext) (wret (wchain oLe oLe (w1 (o1i fun i => .int (-i)) (wc (.int 9999))) (wo 0) (wc (.int 9999)))))
abbrev N_need_names : List Str := ["words", "what", "least", "most", "earlier", "word"]
abbrev p_need_names : List Str := ["words", "what", "least", "most"]
def wb_need_names_1 (cW cL cP : Addr) (C_is_name : OC) : WS := (wseq (wif (wnot (wtru (wcall C_is_name (wac (wv 5) wan)))) wnever wnext) (wseq (wif (wt (winD false (wo 5) (wo 4))) wnever wnext) (wdput 4 (wv 5) (wc (.bl true)))))
def ws_need_names (cW cL cP : Addr) (C_is_name : OC) : WS := (wseq (wif (wor (wt (w2 oLt (wcall cLen (wab (wo 0) wan)) (wo 2))) (wt (w2 oGt (wcall cLen (wab (wo 0) wan)) (wo 3)))) wnever wnext) (wseq (wown 4 wdic0) (wseq (wfor (wil (wv 0)) (gn 5) (wb_need_names_1 cW cL cP C_is_name)) (wret (wcall cSortS (wab (wo 0) wan))))))
abbrev N_bond_row : List Str := ["name", "first", "second"]
abbrev p_bond_row : List Str := ["name", "first", "second"]
def ws_bond_row (cW cL cP : Addr)  : WS := (wseq (wif (wt (w2 oLt (wo 1) (wo 2))) (wret (wtup (wac (wv 0) (wac (wv 1) (wac (wv 2) wan))))) wnext) (wret (wtup (wac (wv 0) (wac (wv 2) (wac (wv 1) wan))))))
abbrev N_need_bonds : List Str := ["places", "bonds", "rows", "name", "first", "second"]
abbrev p_need_bonds : List Str := ["places", "bonds"]
def wb_need_bonds_1 (cW cL cP : Addr) (C_is_name : OC) (C_bond_row : OC) : WS := (wseq (wif (wnot (wtru (wcall C_is_name (wac (wv 3) wan)))) wnever wnext) (wseq (wif (wt (winD false (wo 3) (wo 2))) wnever wnext) (wseq (wif (wt (w2 (oIn true) (wo 4) (wo 0))) wnever wnext) (wseq (wif (wt (w2 (oIn true) (wo 5) (wo 0))) wnever wnext) (wseq (wif (wt (w2 oEq (wo 4) (wo 5))) wnever wnext) (wdput 2 (wv 3) (wcall C_bond_row (wac (wv 3) (wac (wv 4) (wac (wv 5) wan))))))))))
def ws_need_bonds (cW cL cP : Addr) (C_is_name : OC) (C_bond_row : OC) : WS := (wseq (wif (wt (w2 oGt (wcall cLen (wab (wo 1) wan)) (wc (.int 16)))) wnever wnext) (wseq (wown 2 wdic0) (wseq (wfor (wil (wv 1)) (gtup 3 (gsc (gn 3) (gsc (gn 4) (gsc (gn 5) gsn)))) (wb_need_bonds_1 cW cL cP C_is_name C_bond_row)) (wret (wcall cSortD (wab (wvalsO 2) wan))))))
abbrev N_W___init__ : List Str := ["self", "places", "bonds", "names", "rows", "at", "place"]
abbrev p_W___init__ : List Str := ["self", "places", "bonds"]
def wt_W___init___1 (cW cL cP : Addr) (C_need_names : OC) (C_need_bonds : OC) (C_neighbour_table_webs : OC) : WT := wyes
def we_W___init___2 (cW cL cP : Addr) (C_need_names : OC) (C_need_bonds : OC) (C_neighbour_table_webs : OC) : WE := (wv 6)
def we_W___init___3 (cW cL cP : Addr) (C_need_names : OC) (C_need_bonds : OC) (C_neighbour_table_webs : OC) : WE := (wv 5)
def ws_W___init__ (cW cL cP : Addr) (C_need_names : OC) (C_need_bonds : OC) (C_neighbour_table_webs : OC) : WS := (wseq (wset 3 (wcallN C_need_names (wv 1) (wc (.int 1)))) (wseq (wset 4 (wcall C_need_bonds (wac (wv 3) (wac (wv 2) wan)))) (wseq (wfld cW 0 "web_places" (wcall (cSeq .tup) (wab (wo 3) wan))) (wseq (wfld cW 0 "web_bonds" (wcall (cSeq .tup) (wab (wo 4) wan))) (wseq (wfld cW 0 "web_spots" (wdc [5, 6] (wienum (wv 3)) (gtup 2 (gsc (gn 5) (gsc (gn 6) gsn))) (wt_W___init___1 cW cL cP C_need_names C_need_bonds C_neighbour_table_webs) (we_W___init___2 cW cL cP C_need_names C_need_bonds C_neighbour_table_webs) (we_W___init___3 cW cL cP C_need_names C_need_bonds C_neighbour_table_webs))) (wfld cW 0 "web_near" (wcall C_neighbour_table_webs (wac (wv 3) (wac (wv 4) wan)))))))))
abbrev N_W_places : List Str := ["self"]
abbrev p_W_places : List Str := ["self"]
def ws_W_places (cW cL cP : Addr)  : WS := (wret (wcall (cSeq .lst) (wab (wget cW "web_places" (wo 0)) wan)))
abbrev N_W_bonds : List Str := ["self"]
abbrev p_W_bonds : List Str := ["self"]
def ws_W_bonds (cW cL cP : Addr)  : WS := (wret (wcall (cSeq .lst) (wab (wget cW "web_bonds" (wo 0)) wan)))
abbrev N_W___len__ : List Str := ["self"]
abbrev p_W___len__ : List Str := ["self"]
def ws_W___len__ (cW cL cP : Addr)  : WS := (wret (wcall cLen (wab (wget cW "web_places" (wo 0)) wan)))
abbrev N_W___eq__ : List Str := ["self", "other"]
abbrev p_W___eq__ : List Str := ["self", "other"]
def ws_W___eq__ (cW cL cP : Addr)  : WS := (wret (wandV (wisO cW (wo 1)) (wandV (w2 oEq (wget cW "web_places" (wo 0)) (wget cW "web_places" (wo 1))) (w2 oEq (wget cW "web_bonds" (wo 0)) (wget cW "web_bonds" (wo 1))))))
abbrev N_LA___init__ : List Str := ["self", "web", "heights", "height"]
abbrev p_LA___init__ : List Str := ["self", "web", "heights"]
def wb_LA___init___1 (cW cL cP : Addr) (C_W___len__ : OC) (C_is_height : OC) : WS := (wif (wnot (wtru (wcall C_is_height (wac (wv 3) wan)))) wnever wnext)
def ws_LA___init__ (cW cL cP : Addr) (C_W___len__ : OC) (C_is_height : OC) : WS := (wseq (wif (wt (w2 oNe (wcall cLen (wab (wo 2) wan)) (wcall (cObj cW C_W___len__) (wab (wo 1) wan)))) wnever wnext) (wseq (wfor (wil (wv 2)) (gn 3) (wb_LA___init___1 cW cL cP C_W___len__ C_is_height)) (wseq (wfld cL 0 "web" (wv 1)) (wfld cL 0 "land_heights" (wcall (cSeq .tup) (wab (wo 2) wan))))))
abbrev N_LA_heights : List Str := ["self"]
abbrev p_LA_heights : List Str := ["self"]
def ws_LA_heights (cW cL cP : Addr)  : WS := (wret (wcall (cSeq .lst) (wab (wget cL "land_heights" (wo 0)) wan)))
abbrev N_LA___getitem__ : List Str := ["self", "place"]
abbrev p_LA___getitem__ : List Str := ["self", "place"]
def ws_LA___getitem__ (cW cL cP : Addr)  : WS := (wseq (wif (wt (winD true (wo 1) (wget cW "web_spots" (wget cL "web" (wo 0))))) wnever wnext) (wret (w2 oIx (wget cL "land_heights" (wo 0)) (wdget (wget cW "web_spots" (wget cL "web" (wo 0))) (wo 1)))))
abbrev N_LA___len__ : List Str := ["self"]
abbrev p_LA___len__ : List Str := ["self"]
def ws_LA___len__ (cW cL cP : Addr)  : WS := (wret (wcall cLen (wab (wget cL "land_heights" (wo 0)) wan)))
abbrev N_LA___contains__ : List Str := ["self", "word"]
abbrev p_LA___contains__ : List Str := ["self", "word"]
def ws_LA___contains__ (cW cL cP : Addr)  : WS := (wret (w2 (oIn false) (wo 1) (wget cW "web_places" (wget cL "web" (wo 0)))))
abbrev N_LA_table : List Str := ["self", "place", "height"]
abbrev p_LA_table : List Str := ["self"]
def wt_LA_table_1 (cW cL cP : Addr)  : WT := wyes
def we_LA_table_2 (cW cL cP : Addr)  : WE := (wv 1)
def we_LA_table_3 (cW cL cP : Addr)  : WE := (wv 2)
def ws_LA_table (cW cL cP : Addr)  : WE := (wdc [1, 2] (wizip (wget cW "web_places" (wget cL "web" (wo 0))) (wget cL "land_heights" (wo 0))) (gtup 2 (gsc (gn 1) (gsc (gn 2) gsn))) (wt_LA_table_1 cW cL cP) (we_LA_table_2 cW cL cP) (we_LA_table_3 cW cL cP))
abbrev N_flat_around : List Str := ["place", "heights", "near", "flat", "at", "here", "other"]
abbrev p_flat_around : List Str := ["place", "heights", "near"]
def wb_flat_around_1 (cW cL cP : Addr)  : WS := (wif (wand (wt (w2 oEq (wdget (wo 1) (wo 6)) (wdget (wo 1) (wo 0)))) (wt (w2 (oIn true) (wo 6) (wo 3)))) (wapp 3 (wv 6)) wnext)
def wt_flat_around_2 (cW cL cP : Addr)  : WT := (wt (w2 oLt (wo 4) (wcall cLen (wab (wo 3) wan))))
def wb_flat_around_3 (cW cL cP : Addr)  : WS := (wseq (wset 5 (w2 oIx (wo 3) (wo 4))) (wseq (wfor (wil (wdget (wo 2) (wo 5))) (gn 6) (wb_flat_around_1 cW cL cP)) (waug 4 (wc (.int 1)))))
def ws_flat_around (cW cL cP : Addr)  : WS := (wseq (wown 3 (wlst (wac (wv 0) wan))) (wseq (wset 4 (wc (.int 0))) (wseq (wwhile (wt_flat_around_2 cW cL cP) (wb_flat_around_3 cW cL cP)) (wret (wcall cSortS (wab (wo 3) wan))))))
abbrev N_all_flats : List Str := ["heights", "near", "flats", "found", "place", "flat", "member"]
abbrev p_all_flats : List Str := ["heights", "near"]
def wb_all_flats_1 (cW cL cP : Addr) (C_flat_around : OC) : WS := (wdput 3 (wv 6) (wc (.bl true)))
def wb_all_flats_2 (cW cL cP : Addr) (C_flat_around : OC) : WS := (wif (wt (winD true (wo 4) (wo 3))) (wseq (wset 5 (wcall C_flat_around (wac (wv 4) (wac (wv 0) (wac (wv 1) wan))))) (wseq (wfor (wil (wv 5)) (gn 6) (wb_all_flats_1 cW cL cP C_flat_around)) (wapp 2 (wv 5)))) wnext)
def ws_all_flats (cW cL cP : Addr) (C_flat_around : OC) : WS := (wseq (wown 2 (wlst wan)) (wseq (wown 3 wdic0) (wseq (wfor (wik 0) (gn 4) (wb_all_flats_2 cW cL cP C_flat_around)) (wfrz 2 (wret (wv 2))))))
abbrev N_flats_of : List Str := ["land"]
abbrev p_flats_of : List Str := ["land"]
def ws_flats_of (cW cL cP : Addr) (C_all_flats : OC) (C_LA_table : OC) (C_neighbour_table_flats : OC) : WS := (wret (wcall C_all_flats (wac (wmeth0 cL "table" C_LA_table (wo 0)) (wac (wcall C_neighbour_table_flats (wac (wget cL "web" (wo 0)) wan)) wan))))
abbrev N_need_same_web : List Str := ["land", "other"]
abbrev p_need_same_web : List Str := ["land", "other"]
def ws_need_same_web (cW cL cP : Addr) (C_W___eq__ : OC) : WS := (wif (wt (w2 (oNeO cW C_W___eq__) (wget cL "web" (wo 1)) (wget cL "web" (wo 0)))) wnever wnext)
abbrev N_slanted_bonds : List Str := ["goal", "table", "rows", "name", "low", "high"]
abbrev p_slanted_bonds : List Str := ["goal"]
def wb_slanted_bonds_1 (cW cL cP : Addr) (C_LA_table : OC) (C_W_bonds : OC) : WS := (wif (wt (w2 oGt (wdget (wo 1) (wo 4)) (wdget (wo 1) (wo 5)))) (wapp 2 (wtup (wac (wv 3) (wac (wv 4) (wac (wv 5) wan))))) (wif (wt (w2 oLt (wdget (wo 1) (wo 4)) (wdget (wo 1) (wo 5)))) (wapp 2 (wtup (wac (wv 3) (wac (wv 5) (wac (wv 4) wan))))) wnext))
def ws_slanted_bonds (cW cL cP : Addr) (C_LA_table : OC) (C_W_bonds : OC) : WS := (wseq (wset 1 (wmeth0 cL "table" C_LA_table (wo 0))) (wseq (wown 2 (wlst wan)) (wseq (wfor (wil (wmeth0 cW "bonds" C_W_bonds (wget cL "web" (wo 0)))) (gtup 3 (gsc (gn 3) (gsc (gn 4) (gsc (gn 5) gsn)))) (wb_slanted_bonds_1 cW cL cP C_LA_table C_W_bonds)) (wfrz 2 (wret (wv 2))))))
abbrev N_broken_rows : List Str := ["slanted", "before", "after", "name", "upper", "lower"]
abbrev p_broken_rows : List Str := ["slanted", "before", "after"]
def wt_broken_rows_1 (cW cL cP : Addr)  : WT := (wor (wt (w2 oLt (wdget (wo 1) (wo 4)) (wdget (wo 2) (wo 4)))) (wt (w2 oGt (wdget (wo 1) (wo 5)) (wdget (wo 2) (wo 5)))))
def we_broken_rows_2 (cW cL cP : Addr)  : WE := (wtup (wac (wv 3) (wac (wv 4) (wac (wv 5) wan))))
def ws_broken_rows (cW cL cP : Addr)  : WS := (wret (wlc [3, 4, 5] (wil (wv 0)) (gtup 3 (gsc (gn 3) (gsc (gn 4) (gsc (gn 5) gsn)))) (wt_broken_rows_1 cW cL cP) (we_broken_rows_2 cW cL cP)))
abbrev N_dry_rows : List Str := ["flats", "before", "after", "flat", "place"]
abbrev p_dry_rows : List Str := ["flats", "before", "after"]
def wt_dry_rows_1 (cW cL cP : Addr)  : WT := wyes
def we_dry_rows_2 (cW cL cP : Addr)  : WE := (w2 oNe (wdget (wo 1) (wo 4)) (wdget (wo 2) (wo 4)))
def wt_dry_rows_3 (cW cL cP : Addr)  : WT := (wtru (wcall (cBools fun bs => bs.all id) (wab (wlc [4] (wil (wv 3)) (gn 4) (wt_dry_rows_1 cW cL cP) (we_dry_rows_2 cW cL cP)) wan)))
def we_dry_rows_4 (cW cL cP : Addr)  : WE := (wv 3)
def ws_dry_rows (cW cL cP : Addr)  : WS := (wret (wlc [3] (wil (wv 0)) (gn 3) (wt_dry_rows_3 cW cL cP) (we_dry_rows_4 cW cL cP)))
abbrev N_springs : List Str := ["start", "goal", "before", "after", "place"]
abbrev p_springs : List Str := ["start", "goal"]
def wt_springs_1 (cW cL cP : Addr) (C_need_same_web : OC) (C_LA_table : OC) : WT := (wt (w2 oEq (wdget (wo 2) (wo 4)) (wdget (wo 3) (wo 4))))
def we_springs_2 (cW cL cP : Addr) (C_need_same_web : OC) (C_LA_table : OC) : WE := (wv 4)
def ws_springs (cW cL cP : Addr) (C_need_same_web : OC) (C_LA_table : OC) : WS := (wseq (wdrop (wcall C_need_same_web (wac (wv 0) (wac (wv 1) wan)))) (wseq (wset 2 (wmeth0 cL "table" C_LA_table (wo 0))) (wseq (wset 3 (wmeth0 cL "table" C_LA_table (wo 1))) (wret (wlc [4] (wik 3) (gn 4) (wt_springs_1 cW cL cP C_need_same_web C_LA_table) (we_springs_2 cW cL cP C_need_same_web C_LA_table))))))
abbrev N_dry_flats : List Str := ["start", "goal"]
abbrev p_dry_flats : List Str := ["start", "goal"]
def ws_dry_flats (cW cL cP : Addr) (C_need_same_web : OC) (C_dry_rows : OC) (C_flats_of : OC) (C_LA_table : OC) : WS := (wseq (wdrop (wcall C_need_same_web (wac (wv 0) (wac (wv 1) wan)))) (wret (wcall C_dry_rows (wac (wcall C_flats_of (wac (wv 1) wan)) (wac (wmeth0 cL "table" C_LA_table (wo 0)) (wac (wmeth0 cL "table" C_LA_table (wo 1)) wan))))))
abbrev N_broken_bonds : List Str := ["start", "goal"]
abbrev p_broken_bonds : List Str := ["start", "goal"]
def ws_broken_bonds (cW cL cP : Addr) (C_need_same_web : OC) (C_broken_rows : OC) (C_slanted_bonds : OC) (C_LA_table : OC) : WS := (wseq (wdrop (wcall C_need_same_web (wac (wv 0) (wac (wv 1) wan)))) (wret (wcall C_broken_rows (wac (wcall C_slanted_bonds (wac (wv 1) wan)) (wac (wmeth0 cL "table" C_LA_table (wo 0)) (wac (wmeth0 cL "table" C_LA_table (wo 1)) wan))))))
abbrev N_comes : List Str := ["start", "goal"]
abbrev p_comes : List Str := ["start", "goal"]
def ws_comes (cW cL cP : Addr) (C_broken_bonds : OC) (C_dry_flats : OC) : WS := (wret (wandV (wnotT (wcall C_broken_bonds (wac (wv 0) (wac (wv 1) wan)))) (wnotT (wcall C_dry_flats (wac (wv 0) (wac (wv 1) wan))))))
abbrev N_bond_paper : List Str := ["start", "goal", "row", "name", "upper", "lower"]
abbrev p_bond_paper : List Str := ["start", "goal", "row"]
def ws_bond_paper (cW cL cP : Addr) (C_LA___getitem__ : OC) : WS := (wseq (wasg (wv 2) (gtup 3 (gsc (gn 3) (gsc (gn 4) (gsc (gn 5) gsn))))) (wret (wtup (wac (wc (.str "bond")) (wac (wv 3) (wac (wv 4) (wac (wv 5) (wac (wtup (wac (w2 (oIxO cL C_LA___getitem__) (wo 0) (wo 4)) (wac (w2 (oIxO cL C_LA___getitem__) (wo 0) (wo 5)) (wac (w2 (oIxO cL C_LA___getitem__) (wo 1) (wo 4)) (wac (w2 (oIxO cL C_LA___getitem__) (wo 1) (wo 5)) wan))))) wan))))))))
abbrev N_never_paper : List Str := ["start", "goal", "broken", "dry"]
abbrev p_never_paper : List Str := ["start", "goal"]
def ws_never_paper (cW cL cP : Addr) (C_broken_bonds : OC) (C_bond_paper : OC) (C_dry_flats : OC) : WS := (wseq (wset 2 (wcall C_broken_bonds (wac (wv 0) (wac (wv 1) wan)))) (wseq (wif (wtru (wo 2)) (wret (wcall C_bond_paper (wac (wv 0) (wac (wv 1) (wac (w2 oIx (wo 2) (wc (.int 0))) wan))))) wnext) (wseq (wset 3 (wcall C_dry_flats (wac (wv 0) (wac (wv 1) wan)))) (wseq (wif (wtru (wo 3)) (wret (wtup (wac (wc (.str "flat")) (wac (wcall (cSeq .tup) (wab (w2 oIx (wo 3) (wc (.int 0))) wan)) wan)))) wnext) (wret (wc .non))))))
abbrev N_P___init__ : List Str := ["self", "land", "border", "earlier", "place"]
abbrev p_P___init__ : List Str := ["self", "land", "border"]
def wb_P___init___1 (cW cL cP : Addr) (C_LA___len__ : OC) (C_W_bonds : OC) (C_LA___contains__ : OC) (C_W_places : OC) (C_LA___getitem__ : OC) : WS := (wseq (wif (wt (w2 (oInO cL C_LA___contains__ true) (wo 4) (wo 1))) wnever wnext) (wseq (wif (wt (winD false (wo 4) (wo 3))) wnever wnext) (wdput 3 (wv 4) (wc (.bl true)))))
def wt_P___init___2 (cW cL cP : Addr) (C_LA___len__ : OC) (C_W_bonds : OC) (C_LA___contains__ : OC) (C_W_places : OC) (C_LA___getitem__ : OC) : WT := (wt (winD true (wo 4) (wo 3)))
def we_P___init___3 (cW cL cP : Addr) (C_LA___len__ : OC) (C_W_bonds : OC) (C_LA___contains__ : OC) (C_W_places : OC) (C_LA___getitem__ : OC) : WE := (wv 4)
def wt_P___init___4 (cW cL cP : Addr) (C_LA___len__ : OC) (C_W_bonds : OC) (C_LA___contains__ : OC) (C_W_places : OC) (C_LA___getitem__ : OC) : WT := wyes
def we_P___init___5 (cW cL cP : Addr) (C_LA___len__ : OC) (C_W_bonds : OC) (C_LA___contains__ : OC) (C_W_places : OC) (C_LA___getitem__ : OC) : WE := (w2 (oIxO cL C_LA___getitem__) (wo 1) (wo 4))
def ws_P___init__ (cW cL cP : Addr) (C_LA___len__ : OC) (C_W_bonds : OC) (C_LA___contains__ : OC) (C_W_places : OC) (C_LA___getitem__ : OC) : WS := (wseq (wif (wt (w2 oGt (wcall (cObj cL C_LA___len__) (wab (wo 1) wan)) (wc (.int 6)))) wnever wnext) (wseq (wif (wt (w2 oGt (wcall cLen (wab (wmeth0 cW "bonds" C_W_bonds (wget cL "web" (wo 1))) wan)) (wc (.int 8)))) wnever wnext) (wseq (wif (wor (wt (w2 oLt (wcall cLen (wab (wo 2) wan)) (wc (.int 1)))) (wt (w2 oGt (wcall cLen (wab (wo 2) wan)) (wc (.int 3))))) wnever wnext) (wseq (wown 3 wdic0) (wseq (wfor (wil (wv 2)) (gn 4) (wb_P___init___1 cW cL cP C_LA___len__ C_W_bonds C_LA___contains__ C_W_places C_LA___getitem__)) (wseq (wfld cP 0 "land" (wv 1)) (wseq (wfld cP 0 "own_border" (wcall cSortS (wab (wo 2) wan))) (wseq (wfld cP 0 "own_inner" (wlc [4] (wil (wmeth0 cW "places" C_W_places (wget cL "web" (wo 1)))) (gn 4) (wt_P___init___2 cW cL cP C_LA___len__ C_W_bonds C_LA___contains__ C_W_places C_LA___getitem__) (we_P___init___3 cW cL cP C_LA___len__ C_W_bonds C_LA___contains__ C_W_places C_LA___getitem__))) (wfld cP 0 "own_row" (wlc [4] (wil (wget cP "own_border" (wo 0))) (gn 4) (wt_P___init___4 cW cL cP C_LA___len__ C_W_bonds C_LA___contains__ C_W_places C_LA___getitem__) (we_P___init___5 cW cL cP C_LA___len__ C_W_bonds C_LA___contains__ C_W_places C_LA___getitem__)))))))))))
abbrev N_P_border : List Str := ["self"]
abbrev p_P_border : List Str := ["self"]
def ws_P_border (cW cL cP : Addr)  : WS := (wret (wcall (cSeq .lst) (wab (wget cP "own_border" (wo 0)) wan)))
abbrev N_P_inner : List Str := ["self"]
abbrev p_P_inner : List Str := ["self"]
def ws_P_inner (cW cL cP : Addr)  : WS := (wret (wcall (cSeq .lst) (wab (wget cP "own_inner" (wo 0)) wan)))
abbrev N_need_same_border : List Str := ["first", "second", "place"]
abbrev p_need_same_border : List Str := ["first", "second"]
def wb_need_same_border_1 (cW cL cP : Addr) (C_P_border : OC) (C_LA___getitem__ : OC) : WS := (wif (wt (w2 oNe (w2 (oIxO cL C_LA___getitem__) (wget cP "land" (wo 0)) (wo 2)) (w2 (oIxO cL C_LA___getitem__) (wget cP "land" (wo 1)) (wo 2)))) wnever wnext)
def ws_need_same_border (cW cL cP : Addr) (C_P_border : OC) (C_LA___getitem__ : OC) : WS := (wseq (wif (wt (w2 oNe (wmeth0 cP "border" C_P_border (wo 0)) (wmeth0 cP "border" C_P_border (wo 1)))) wnever wnext) (wfor (wil (wmeth0 cP "border" C_P_border (wo 0))) (gn 2) (wb_need_same_border_1 cW cL cP C_P_border C_LA___getitem__)))
abbrev N_need_gluable : List Str := ["first", "second", "place", "bond_names", "bond", "together"]
abbrev p_need_gluable : List Str := ["first", "second"]
def wb_need_gluable_1 (cW cL cP : Addr) (C_need_same_border : OC) (C_P_inner : OC) (C_LA___contains__ : OC) (C_W_bonds : OC) (C_LA___len__ : OC) : WS := (wif (wt (w2 (oInO cL C_LA___contains__ false) (wo 2) (wget cP "land" (wo 0)))) wnever wnext)
def wt_need_gluable_2 (cW cL cP : Addr) (C_need_same_border : OC) (C_P_inner : OC) (C_LA___contains__ : OC) (C_W_bonds : OC) (C_LA___len__ : OC) : WT := wyes
def we_need_gluable_3 (cW cL cP : Addr) (C_need_same_border : OC) (C_P_inner : OC) (C_LA___contains__ : OC) (C_W_bonds : OC) (C_LA___len__ : OC) : WE := (w2 oIx (wo 4) (wc (.int 0)))
def wb_need_gluable_4 (cW cL cP : Addr) (C_need_same_border : OC) (C_P_inner : OC) (C_LA___contains__ : OC) (C_W_bonds : OC) (C_LA___len__ : OC) : WS := (wif (wt (w2 (oIn false) (w2 oIx (wo 4) (wc (.int 0))) (wo 3))) wnever wnext)
def ws_need_gluable (cW cL cP : Addr) (C_need_same_border : OC) (C_P_inner : OC) (C_LA___contains__ : OC) (C_W_bonds : OC) (C_LA___len__ : OC) : WS := (wseq (wdrop (wcall C_need_same_border (wac (wv 0) (wac (wv 1) wan)))) (wseq (wfor (wil (wmeth0 cP "inner" C_P_inner (wo 1))) (gn 2) (wb_need_gluable_1 cW cL cP C_need_same_border C_P_inner C_LA___contains__ C_W_bonds C_LA___len__)) (wseq (wset 3 (wlc [4] (wil (wmeth0 cW "bonds" C_W_bonds (wget cL "web" (wget cP "land" (wo 0))))) (gn 4) (wt_need_gluable_2 cW cL cP C_need_same_border C_P_inner C_LA___contains__ C_W_bonds C_LA___len__) (we_need_gluable_3 cW cL cP C_need_same_border C_P_inner C_LA___contains__ C_W_bonds C_LA___len__))) (wseq (wfor (wil (wmeth0 cW "bonds" C_W_bonds (wget cL "web" (wget cP "land" (wo 1))))) (gn 4) (wb_need_gluable_4 cW cL cP C_need_same_border C_P_inner C_LA___contains__ C_W_bonds C_LA___len__)) (wseq (wset 5 (w2 oAdd (wcall (cObj cL C_LA___len__) (wab (wget cP "land" (wo 0)) wan)) (wcall cLen (wab (wmeth0 cP "inner" C_P_inner (wo 1)) wan)))) (wif (wt (w2 oGt (wo 5) (wc (.int 10)))) wnever wnext))))))
abbrev N_land_of_both : List Str := ["first_land", "second_land", "heights", "web", "place"]
abbrev p_land_of_both : List Str := ["first_land", "second_land"]
def wt_land_of_both_1 (cW cL cP : Addr) (C_LA_table : OC) (Ci_W : OCi) (C_W_bonds : OC) (Ci_LA : OCi) (C_W_places : OC) : WT := wyes
def we_land_of_both_2 (cW cL cP : Addr) (C_LA_table : OC) (Ci_W : OCi) (C_W_bonds : OC) (Ci_LA : OCi) (C_W_places : OC) : WE := (wdget (wo 2) (wo 4))
def ws_land_of_both (cW cL cP : Addr) (C_LA_table : OC) (Ci_W : OCi) (C_W_bonds : OC) (Ci_LA : OCi) (C_W_places : OC) : WS := (wseq (wown 2 (wmeth0 cL "table" C_LA_table (wo 0))) (wseq (wupd 2 (wmeth0 cL "table" C_LA_table (wo 1))) (wseq (wset 3 (wmake cW Ci_W (wac (wcall cSortK (wab (wo 2) wan)) (wac (w2 oAdd (wmeth0 cW "bonds" C_W_bonds (wget cL "web" (wo 0))) (wmeth0 cW "bonds" C_W_bonds (wget cL "web" (wo 1)))) wan)))) (wret (wmake cL Ci_LA (wac (wv 3) (wac (wlc [4] (wil (wmeth0 cW "places" C_W_places (wo 3))) (gn 4) (wt_land_of_both_1 cW cL cP C_LA_table Ci_W C_W_bonds Ci_LA C_W_places) (we_land_of_both_2 cW cL cP C_LA_table Ci_W C_W_bonds Ci_LA C_W_places)) wan)))))))
abbrev N_glue : List Str := ["first", "second"]
abbrev p_glue : List Str := ["first", "second"]
def ws_glue (cW cL cP : Addr) (C_need_gluable : OC) (C_land_of_both : OC) : WS := (wseq (wdrop (wcall C_need_gluable (wac (wv 0) (wac (wv 1) wan)))) (wret (wcall C_land_of_both (wac (wget cP "land" (wo 0)) (wac (wget cP "land" (wo 1)) wan)))))
abbrev N_united : List Str := ["first", "second", "first_goal", "second_goal", "place"]
abbrev p_united : List Str := ["first", "second", "first_goal", "second_goal"]
def wb_united_1 (cW cL cP : Addr) (C_need_gluable : OC) (C_W___eq__ : OC) (C_P_border : OC) (C_LA___getitem__ : OC) (C_land_of_both : OC) : WS := (wif (wt (w2 oNe (w2 (oIxO cL C_LA___getitem__) (wo 2) (wo 4)) (w2 (oIxO cL C_LA___getitem__) (wo 3) (wo 4)))) wnever wnext)
def ws_united (cW cL cP : Addr) (C_need_gluable : OC) (C_W___eq__ : OC) (C_P_border : OC) (C_LA___getitem__ : OC) (C_land_of_both : OC) : WS := (wseq (wdrop (wcall C_need_gluable (wac (wv 0) (wac (wv 1) wan)))) (wseq (wif (wt (w2 (oNeO cW C_W___eq__) (wget cL "web" (wo 2)) (wget cL "web" (wget cP "land" (wo 0))))) wnever wnext) (wseq (wif (wt (w2 (oNeO cW C_W___eq__) (wget cL "web" (wo 3)) (wget cL "web" (wget cP "land" (wo 1))))) wnever wnext) (wseq (wfor (wil (wmeth0 cP "border" C_P_border (wo 0))) (gn 4) (wb_united_1 cW cL cP C_need_gluable C_W___eq__ C_P_border C_LA___getitem__ C_land_of_both)) (wret (wcall C_land_of_both (wac (wv 2) (wac (wv 3) wan))))))))
abbrev N_show_of : List Str := ["piece", "goal", "border", "spring_places", "blocks", "flat", "sprung", "places", "place"]
abbrev p_show_of : List Str := ["piece", "goal"]
def wt_show_of_1 (cW cL cP : Addr) (C_W___eq__ : OC) (C_broken_bonds : OC) (C_P_border : OC) (C_springs : OC) (C_flats_of : OC) (C_LA___getitem__ : OC) : WT := wyes
def we_show_of_2 (cW cL cP : Addr) (C_W___eq__ : OC) (C_broken_bonds : OC) (C_P_border : OC) (C_springs : OC) (C_flats_of : OC) (C_LA___getitem__ : OC) : WE := (w2 (oIn false) (wo 8) (wo 3))
def wt_show_of_3 (cW cL cP : Addr) (C_W___eq__ : OC) (C_broken_bonds : OC) (C_P_border : OC) (C_springs : OC) (C_flats_of : OC) (C_LA___getitem__ : OC) : WT := (wt (w2 (oIn false) (wo 8) (wo 2)))
def we_show_of_4 (cW cL cP : Addr) (C_W___eq__ : OC) (C_broken_bonds : OC) (C_P_border : OC) (C_springs : OC) (C_flats_of : OC) (C_LA___getitem__ : OC) : WE := (wv 8)
def wb_show_of_5 (cW cL cP : Addr) (C_W___eq__ : OC) (C_broken_bonds : OC) (C_P_border : OC) (C_springs : OC) (C_flats_of : OC) (C_LA___getitem__ : OC) : WS := (wseq (wset 6 (wcall (cBools fun bs => bs.any id) (wab (wlc [8] (wil (wv 5)) (gn 8) (wt_show_of_1 cW cL cP C_W___eq__ C_broken_bonds C_P_border C_springs C_flats_of C_LA___getitem__) (we_show_of_2 cW cL cP C_W___eq__ C_broken_bonds C_P_border C_springs C_flats_of C_LA___getitem__)) wan))) (wseq (wset 7 (wcall (cSeq .tup) (wab (wlc [8] (wil (wv 5)) (gn 8) (wt_show_of_3 cW cL cP C_W___eq__ C_broken_bonds C_P_border C_springs C_flats_of C_LA___getitem__) (we_show_of_4 cW cL cP C_W___eq__ C_broken_bonds C_P_border C_springs C_flats_of C_LA___getitem__)) wan))) (wif (wt (w2 oGt (wcall cLen (wab (wo 7) wan)) (wc (.int 0)))) (wapp 4 (wtup (wac (wv 7) (wac (wv 6) wan)))) (wif (wnot (wtru (wo 6))) (wret (wc .non)) wnext))))
def wt_show_of_6 (cW cL cP : Addr) (C_W___eq__ : OC) (C_broken_bonds : OC) (C_P_border : OC) (C_springs : OC) (C_flats_of : OC) (C_LA___getitem__ : OC) : WT := wyes
def we_show_of_7 (cW cL cP : Addr) (C_W___eq__ : OC) (C_broken_bonds : OC) (C_P_border : OC) (C_springs : OC) (C_flats_of : OC) (C_LA___getitem__ : OC) : WE := (w2 (oIxO cL C_LA___getitem__) (wo 1) (wo 8))
def ws_show_of (cW cL cP : Addr) (C_W___eq__ : OC) (C_broken_bonds : OC) (C_P_border : OC) (C_springs : OC) (C_flats_of : OC) (C_LA___getitem__ : OC) : WS := (wseq (wif (wt (w2 (oNeO cW C_W___eq__) (wget cL "web" (wo 1)) (wget cL "web" (wget cP "land" (wo 0))))) wnever wnext) (wseq (wif (wt (w2 oGt (wcall cLen (wab (wcall C_broken_bonds (wac (wget cP "land" (wo 0)) (wac (wv 1) wan))) wan)) (wc (.int 0)))) (wret (wc .non)) wnext) (wseq (wset 2 (wmeth0 cP "border" C_P_border (wo 0))) (wseq (wset 3 (wcall C_springs (wac (wget cP "land" (wo 0)) (wac (wv 1) wan)))) (wseq (wown 4 (wlst wan)) (wseq (wfor (wil (wcall C_flats_of (wac (wv 1) wan))) (gn 5) (wb_show_of_5 cW cL cP C_W___eq__ C_broken_bonds C_P_border C_springs C_flats_of C_LA___getitem__)) (wret (wtup (wac (wcall (cSeq .tup) (wab (wlc [8] (wil (wv 2)) (gn 8) (wt_show_of_6 cW cL cP C_W___eq__ C_broken_bonds C_P_border C_springs C_flats_of C_LA___getitem__) (we_show_of_7 cW cL cP C_W___eq__ C_broken_bonds C_P_border C_springs C_flats_of C_LA___getitem__)) wan)) (wac (wcall (cSeq .tup) (wab (wcall cSortD (wab (wo 4) wan)) wan)) wan))))))))))
abbrev N_fits : List Str := ["first", "second", "classes", "places", "sprung", "joined", "good", "apart", "other", "place", "one"]
abbrev p_fits : List Str := ["first", "second"]
def wt_fits_1 (cW cL cP : Addr)  : WT := wyes
def we_fits_2 (cW cL cP : Addr)  : WE := (w2 (oIn false) (wo 9) (wo 3))
def wb_fits_3 (cW cL cP : Addr)  : WS := (wif (wtru (wcall (cBools fun bs => bs.any id) (wab (wlc [9] (wil (w2 oIx (wo 8) (wc (.int 0)))) (gn 9) (wt_fits_1 cW cL cP) (we_fits_2 cW cL cP)) wan))) (wseq (wset 5 (w2 oAdd (wo 5) (w2 oIx (wo 8) (wc (.int 0))))) (wset 6 (worV (wv 6) (w2 oIx (wo 8) (wc (.int 1)))))) (wapp 7 (wv 8)))
def wb_fits_4 (cW cL cP : Addr)  : WS := (wseq (wset 5 (wcall (cSeq .lst) (wab (wo 3) wan))) (wseq (wset 6 (wv 4)) (wseq (wown 7 (wlst wan)) (wseq (wfor (wil (wv 2)) (gn 8) (wb_fits_3 cW cL cP)) (wset 2 (w2 oAdd (wo 7) (wlst (wac (wtup (wac (wv 5) (wac (wv 6) wan))) wan))))))))
def wt_fits_5 (cW cL cP : Addr)  : WT := wyes
def we_fits_6 (cW cL cP : Addr)  : WE := (w2 oIx (wo 10) (wc (.int 1)))
def ws_fits (cW cL cP : Addr)  : WS := (wseq (wif (wt (w2 oNe (w2 oIx (wo 0) (wc (.int 0))) (w2 oIx (wo 1) (wc (.int 0))))) (wret (wc (.bl false))) wnext) (wseq (wset 2 (wlst wan)) (wseq (wfor (wit (w2 oAdd (w2 oIx (wo 0) (wc (.int 1))) (w2 oIx (wo 1) (wc (.int 1))))) (gtup 2 (gsc (gn 3) (gsc (gn 4) gsn))) (wb_fits_4 cW cL cP)) (wret (wcall (cBools fun bs => bs.all id) (wab (wlc [10] (wil (wv 2)) (gn 10) (wt_fits_5 cW cL cP) (we_fits_6 cW cL cP)) wan))))))
abbrev N_law_mixed : List Str := ["_law_cell", "_law_count", "_law_one", "_law_two"]
abbrev p_law_mixed : List Str := ["_law_cell", "_law_count"]
def ws_law_mixed (cW cL cP : Addr)  : WS := (wseq (wset 2 (w2 oMod (wcall cInt (wab (w2 oAdd (w2 oAdd (w2 oMul (wo 0) (wc (.int 48271))) (w2 oMul (wo 1) (wc (.int 69621)))) (wc (.int 12345))) wan)) (wc (.int 2147483647)))) (wseq (wset 3 (w2 oMod (wcall cInt (wab (w2 oAdd (w2 oAdd (w2 oMul (wo 2) (wo 2)) (w2 oMul (wo 1) (wc (.int 40692)))) (wc (.int 7))) wan)) (wc (.int 2147483399)))) (wret (w2 oDiv (w2 oMod (wcall cInt (wab (w2 oAdd (w2 oMul (wo 3) (wc (.int 16807))) (wo 2)) wan)) (wc (.int 2147483647))) (wc (.int 64))))))
abbrev N_law_pick : List Str := ["_law_store_here", "_law_rows"]
abbrev p_law_pick : List Str := ["_law_store_here", "_law_rows"]
def ws_law_pick (cW cL cP : Addr) (C_law_take : OC) : WS := (wret (w2 oIx (wo 1) (wcall C_law_take (wac (wv 0) (wac (wcall cLen (wab (wo 1) wan)) wan)))))
abbrev N_law_number : List Str := ["_law_store_here", "_law_low", "_law_high"]
abbrev p_law_number : List Str := ["_law_store_here", "_law_low", "_law_high"]
def ws_law_number (cW cL cP : Addr) (C_law_take : OC) : WS := (wseq (wif (wt (w2 oEq (wcall C_law_take (wac (wv 0) (wac (wc (.int 3)) wan))) (wc (.int 0)))) (wret (w2 oIx (wlst (wac (wv 1) (wac (wv 2) (wac (wcall cMin (wab (w2 oAdd (wo 1) (wc (.int 1))) (wab (wo 2) wan))) (wac (wcall cMax (wab (w2 oSub (wo 2) (wc (.int 1))) (wab (wo 1) wan))) wan))))) (wcall C_law_take (wac (wv 0) (wac (wc (.int 4)) wan))))) wnext) (wret (w2 oAdd (wo 1) (wcall C_law_take (wac (wv 0) (wac (w2 oAdd (w2 oSub (wo 2) (wo 1)) (wc (.int 1))) wan))))))
abbrev N_law_disorder : List Str := ["_law_store_here", "_law_rows", "_law_left", "_law_kind", "_law_k", "_law_other", "_law_kept"]
abbrev p_law_disorder : List Str := ["_law_store_here", "_law_rows"]
def wb_law_disorder_1 (cW cL cP : Addr) (C_law_take : OC) : WS := (wseq (wset 5 (w2 oAdd (wo 4) (wcall C_law_take (wac (wv 0) (wac (w2 oSub (wcall cLen (wab (wo 2) wan)) (wo 4)) wan))))) (wseq (wset 6 (w2 oIx (wo 2) (wo 4))) (wseq (wput 2 (wv 4) (w2 oIx (wo 2) (wo 5))) (wput 2 (wv 5) (wv 6)))))
def ws_law_disorder (cW cL cP : Addr) (C_law_take : OC) : WS := (wseq (wown 2 (wcall (cSeq .lst) (wab (wo 1) wan))) (wseq (wset 3 (wcall C_law_take (wac (wv 0) (wac (wc (.int 4)) wan)))) (wseq (wif (wt (w2 oEq (wo 3) (wc (.int 0)))) (wfrz 2 (wret (wv 2))) wnext) (wseq (wif (wt (w2 oEq (wo 3) (wc (.int 1)))) (wret (wrev (wo 2))) wnext) (wseq (wfor (wir1 (wac (w2 oSub (wcall cLen (wab (wo 2) wan)) (wc (.int 1))) wan)) (gn 4) (wb_law_disorder_1 cW cL cP C_law_take)) (wfrz 2 (wret (wv 2))))))))
abbrev N_law_name : List Str := ["_law_store_here", "_law_words", "_law_letters", "_law_signs", "_law_word", "_law_k"]
abbrev p_law_name : List Str := ["_law_store_here"]
def wb_law_name_1 (cW cL cP : Addr) (C_law_take : OC) (C_law_pick : OC) (C_law_number : OC) : WS := (wset 4 (w2 oAdd (wo 4) (w2 oIx (wo 3) (wcall C_law_take (wac (wv 0) (wac (wc (.int 36)) wan))))))
def ws_law_name (cW cL cP : Addr) (C_law_take : OC) (C_law_pick : OC) (C_law_number : OC) : WS := (wseq (wif (wt (w2 oEq (wcall C_law_take (wac (wv 0) (wac (wc (.int 8)) wan))) (wc (.int 0)))) (wseq (wset 1 (wlst (wac (wc (.str "a")) (wac (wc (.str "z")) (wac (wc (.str "i")) (wac (wc (.str "t")) (wac (wc (.str "ti")) (wac (wc (.str "it0")) (wac (wc (.str "itt")) (wac (wc (.str "end")) (wac (wc (.str "not")) (wac (wc (.str "else")) (wac (wc (.str "if")) (wac (wc (.str "sink")) (wac (wc (.str "turn")) (wac (wc (.str "hump")) (wac (wc (.str "web")) wan))))))))))))))))) (wret (wcall C_law_pick (wac (wv 0) (wab (w2 oAdd (wo 1) (wlst (wac (wc (.str "place")) (wac (wc (.str "land")) (wac (wc (.str "n1")) (wac (wc (.str "b1")) (wac (wc (.str "p2")) (wac (wc (.str "p10")) (wac (wc (.str "zzzzzzzz")) (wac (wc (.str "a0000000")) (wac (wc (.str "abcdefgh")) wan))))))))))) wan))))) wnext) (wseq (wset 2 (wc (.str "abcdefghijklmnopqrstuvwxyz"))) (wseq (wset 3 (w2 oAdd (wo 2) (wc (.str "0123456789")))) (wseq (wset 4 (w2 oIx (wo 2) (wcall C_law_take (wac (wv 0) (wac (wc (.int 26)) wan))))) (wseq (wfor (wir1 (wac (wcall C_law_number (wac (wv 0) (wac (wc (.int 0)) (wac (wc (.int 7)) wan)))) wan)) (gn 5) (wb_law_name_1 cW cL cP C_law_take C_law_pick C_law_number)) (wseq (wif (wt (w2 oEq (wo 4) (wc (.str "it")))) (wret (wc (.str "it1"))) wnext) (wret (wv 4))))))))
abbrev N_law_names : List Str := ["_law_store_here", "_law_many", "_law_letters", "_law_style", "_law_names_here", "_law_number_here", "_law_k", "_law_word"]
abbrev p_law_names : List Str := ["_law_store_here", "_law_many"]
def wb_law_names_1 (cW cL cP : Addr) (C_law_take : OC) (C_law_name : OC) (C_law_unlike : OC) (C_law_disorder : OC) : WS := (wseq (wset 5 (w2 oAdd (wo 5) (wc (.int 1)))) (wseq (wif (wand (wt (w2 oEq (wo 3) (wc (.int 0)))) (wt (w2 oLe (wo 1) (wc (.int 26))))) (wset 7 (w2 oIx (wo 2) (wo 6))) (wif (wt (w2 oEq (wo 3) (wc (.int 1)))) (wseq (wset 5 (w2 oAdd (wo 5) (wcall C_law_take (wac (wv 0) (wac (wc (.int 9)) wan))))) (wset 7 (w2 oAdd (wc (.str "p")) (wcall cStr (wab (wo 5) wan))))) (wif (wt (w2 oEq (wo 3) (wc (.int 2)))) (wset 7 (w2 oRep (w2 oIx (wo 2) (w2 oDiv (wo 6) (wc (.int 8)))) (w2 oAdd (wc (.int 1)) (w2 oMod (wo 6) (wc (.int 8)))))) (wseq (wset 7 (wcall C_law_name (wac (wv 0) wan))) (wif (wt (w2 (oIn false) (wo 7) (wo 4))) (wset 7 (wcall C_law_unlike (wac (wslS (wo 7) wnp (wpt (wc (.int 6)))) (wab (wo 4) wan)))) wnext))))) (wapp 4 (wv 7))))
def ws_law_names (cW cL cP : Addr) (C_law_take : OC) (C_law_name : OC) (C_law_unlike : OC) (C_law_disorder : OC) : WS := (wseq (wset 2 (wc (.str "abcdefghijklmnopqrstuvwxyz"))) (wseq (wset 3 (wcall C_law_take (wac (wv 0) (wac (wc (.int 5)) wan)))) (wseq (wown 4 (wlst wan)) (wseq (wset 5 (wc (.int 0))) (wseq (wfor (wir1 (wac (wv 1) wan)) (gn 6) (wb_law_names_1 cW cL cP C_law_take C_law_name C_law_unlike C_law_disorder)) (wseq (wif (wt (w2 oLt (wo 3) (wc (.int 3)))) (wfrz 4 (wret (wcall C_law_disorder (wac (wv 0) (wac (wv 4) wan))))) wnext) (wfrz 4 (wret (wv 4)))))))))
abbrev N_law_unlike : List Str := ["_law_base", "_law_names_here", "_law_word", "_law_k"]
abbrev p_law_unlike : List Str := ["_law_base", "_law_names_here"]
def wb_law_unlike_1 (cW cL cP : Addr)  : WS := (wseq (wset 2 (w2 oAdd (wo 0) (wcall cStr (wab (wo 3) wan)))) (wif (wt (w2 (oIn true) (wo 2) (wo 1))) wbreak wnext))
def ws_law_unlike (cW cL cP : Addr)  : WS := (wseq (wset 2 (wv 0)) (wseq (wfor (wir1 (wac (w2 oAdd (wcall cLen (wab (wo 1) wan)) (wc (.int 1))) wan)) (gn 3) (wb_law_unlike_1 cW cL cP)) (wret (wv 2))))
abbrev N_law_stranger : List Str := ["_law_store_here", "_law_names_here", "_law_word"]
abbrev p_law_stranger : List Str := ["_law_store_here", "_law_names_here"]
def ws_law_stranger (cW cL cP : Addr) (C_law_name : OC) (C_law_take : OC) (C_law_pick : OC) (C_law_unlike : OC) : WS := (wseq (wset 2 (wcall C_law_name (wac (wv 0) wan))) (wseq (wif (wand (wt (w2 oGt (wcall cLen (wab (wo 1) wan)) (wc (.int 0)))) (wt (w2 oEq (wcall C_law_take (wac (wv 0) (wac (wc (.int 3)) wan))) (wc (.int 0))))) (wset 2 (w2 oAdd (wslS (wcall C_law_pick (wac (wv 0) (wab (wo 1) wan))) wnp (wpt (wc (.int 5)))) (wcall C_law_pick (wac (wv 0) (wab (wlst (wac (wc (.str "0")) (wac (wc (.str "a")) (wac (wc (.str "z")) wan)))) wan))))) wnext) (wseq (wif (wor (wt (w2 oEq (wo 2) (wc (.str "it")))) (wt (w2 (oIn false) (wo 2) (wo 1)))) (wret (wcall C_law_unlike (wac (wslS (wo 2) wnp (wpt (wc (.int 5)))) (wab (wo 1) wan)))) wnext) (wret (wv 2)))))
abbrev N_law_any_height : List Str := ["_law_store_here", "_law_kind"]
abbrev p_law_any_height : List Str := ["_law_store_here"]
def ws_law_any_height (cW cL cP : Addr) (C_law_take : OC) (C_law_pick : OC) : WS := (wseq (wset 1 (wcall C_law_take (wac (wv 0) (wac (wc (.int 4)) wan)))) (wseq (wif (wt (w2 oEq (wo 1) (wc (.int 0)))) (wret (wcall C_law_pick (wac (wv 0) (wab (wlst (wac (wc (.int 0)) (wac (wc (.int 1)) (wac (w1 (o1i fun i => .int (-i)) (wc (.int 1))) (wac (wc (.int 9)) (wac (wc (.int 10)) (wac (w1 (o1i fun i => .int (-i)) (wc (.int 10))) (wac (wc (.int 9999)) (wac (w1 (o1i fun i => .int (-i)) (wc (.int 9999))) (wac (wc (.int 9998)) (wac (w1 (o1i fun i => .int (-i)) (wc (.int 9998))) (wac (wc (.int 100)) (wac (wc (.int 999)) (wac (wc (.int 1000)) wan)))))))))))))) wan)))) wnext) (wseq (wif (wt (w2 oEq (wo 1) (wc (.int 1)))) (wret (w2 oSub (wcall C_law_take (wac (wv 0) (wac (wc (.int 20)) wan))) (wc (.int 10)))) wnext) (wret (w2 oSub (wcall C_law_take (wac (wv 0) (wac (wc (.int 19999)) wan))) (wc (.int 9999)))))))
abbrev N_law_menu : List Str := ["_law_store_here", "_law_many", "_law_step", "_law_number_here", "_law_rows", "_law_k"]
abbrev p_law_menu : List Str := ["_law_store_here", "_law_many"]
def wb_law_menu_1 (cW cL cP : Addr) (C_law_pick : OC) (C_law_number : OC) (C_law_take : OC) : WS := (wseq (wapp 4 (wv 3)) (wset 3 (w2 oAdd (w2 oAdd (wo 3) (wc (.int 1))) (wcall C_law_take (wac (wv 0) (wac (wv 2) wan))))))
def ws_law_menu (cW cL cP : Addr) (C_law_pick : OC) (C_law_number : OC) (C_law_take : OC) : WS := (wseq (wset 2 (wcall C_law_pick (wac (wv 0) (wab (wlst (wac (wc (.int 1)) (wac (wc (.int 1)) (wac (wc (.int 2)) (wac (wc (.int 9)) (wac (wc (.int 1000)) wan)))))) wan)))) (wseq (wset 3 (wcall C_law_pick (wac (wv 0) (wab (wlst (wac (wc (.int 0)) (wac (wc (.int 0)) (wac (wc (.int 1)) (wac (w1 (o1i fun i => .int (-i)) (wc (.int 2))) (wac (w1 (o1i fun i => .int (-i)) (wc (.int 9999))) wan)))))) wan)))) (wseq (wown 4 (wlst wan)) (wseq (wfor (wir1 (wac (wcall C_law_number (wac (wv 0) (wac (wc (.int 1)) (wac (wv 1) wan)))) wan)) (gn 5) (wb_law_menu_1 cW cL cP C_law_pick C_law_number C_law_take)) (wfrz 4 (wret (wv 4)))))))
abbrev N_law_ends : List Str := ["_law_store_here", "_law_many", "_law_style", "_law_numbers", "_law_pairs", "_law_k", "_law_other", "_law_one", "_law_two"]
abbrev p_law_ends : List Str := ["_law_store_here", "_law_many"]
def wb_law_ends_1 (cW cL cP : Addr) (C_law_take : OC) (C_law_disorder : OC) (C_law_pick : OC) : WS := (wseq (wset 6 (w2 oSub (wo 5) (wc (.int 1)))) (wseq (wif (wt (w2 oEq (wo 2) (wc (.int 1)))) (wset 6 (wc (.int 0))) wnext) (wseq (wif (wt (w2 (oIn false) (wo 2) (wtup (wac (wc (.int 2)) (wac (wc (.int 3)) (wac (wc (.int 6)) wan)))))) (wset 6 (wcall C_law_take (wac (wv 0) (wac (wv 5) wan)))) wnext) (wif (wor (wt (w2 oLt (wo 2) (wc (.int 4)))) (wand (wt (w2 oLt (wo 2) (wc (.int 7)))) (wt (w2 oGt (wcall C_law_take (wac (wv 0) (wac (wc (.int 3)) wan))) (wc (.int 0)))))) (wapp 4 (wtup (wac (wcall cMin (wab (w2 oIx (wo 3) (wo 5)) (wab (w2 oIx (wo 3) (wo 6)) wan))) (wac (wcall cMax (wab (w2 oIx (wo 3) (wo 5)) (wab (w2 oIx (wo 3) (wo 6)) wan))) wan)))) wnext))))
def wb_law_ends_2 (cW cL cP : Addr) (C_law_take : OC) (C_law_disorder : OC) (C_law_pick : OC) : WS := (wif (wand (wt (w2 oGt (wcall cLen (wab (wo 4) wan)) (wc (.int 0)))) (wt (w2 oEq (wcall C_law_take (wac (wv 0) (wac (wc (.int 3)) wan))) (wc (.int 0))))) (wapp 4 (wcall C_law_pick (wac (wv 0) (wab (wo 4) wan)))) (wseq (wset 7 (wcall C_law_take (wac (wv 0) (wac (wv 1) wan)))) (wseq (wset 8 (w2 oMod (wcall cInt (wab (w2 oAdd (w2 oAdd (wo 7) (wc (.int 1))) (wcall C_law_take (wac (wv 0) (wac (w2 oSub (wo 1) (wc (.int 1))) wan)))) wan)) (wo 1))) (wapp 4 (wtup (wac (wcall cMin (wab (wo 7) (wab (wo 8) wan))) (wac (wcall cMax (wab (wo 7) (wab (wo 8) wan))) wan)))))))
def ws_law_ends (cW cL cP : Addr) (C_law_take : OC) (C_law_disorder : OC) (C_law_pick : OC) : WS := (wseq (wif (wt (w2 oLt (wo 1) (wc (.int 2)))) (wret (wlst wan)) wnext) (wseq (wset 2 (wcall C_law_take (wac (wv 0) (wac (wc (.int 8)) wan)))) (wseq (wset 3 (wcall C_law_disorder (wac (wv 0) (wac (wlrg (wv 1)) wan)))) (wseq (wown 4 (wlst wan)) (wseq (wfor (wir2 (wac (wc (.int 1)) (wac (wv 1) wan))) (gn 5) (wb_law_ends_1 cW cL cP C_law_take C_law_disorder C_law_pick)) (wseq (wfor (wir1 (wac (wcall C_law_pick (wac (wv 0) (wab (wlst (wac (wc (.int 0)) (wac (wc (.int 0)) (wac (wc (.int 1)) (wac (wc (.int 2)) (wac (wc (.int 3)) (wac (wc (.int 7)) wan))))))) wan))) wan)) (gn 5) (wb_law_ends_2 cW cL cP C_law_take C_law_disorder C_law_pick)) (wfrz 4 (wret (wv 4)))))))))
abbrev N_law_bond_names : List Str := ["_law_store_here", "_law_places", "_law_many", "_law_kind", "_law_words", "_law_k"]
abbrev p_law_bond_names : List Str := ["_law_store_here", "_law_places", "_law_many"]
def wt_law_bond_names_1 (cW cL cP : Addr) (C_law_take : OC) (C_law_names : OC) (C_law_stranger : OC) : WT := wyes
def we_law_bond_names_2 (cW cL cP : Addr) (C_law_take : OC) (C_law_names : OC) (C_law_stranger : OC) : WE := (w2 oAdd (wc (.str "b")) (wcall cStr (wab (w2 oAdd (wo 5) (wc (.int 1))) wan)))
def wb_law_bond_names_3 (cW cL cP : Addr) (C_law_take : OC) (C_law_names : OC) (C_law_stranger : OC) : WS := (wapp 4 (wcall C_law_stranger (wac (wv 0) (wab (wo 4) wan))))
def ws_law_bond_names (cW cL cP : Addr) (C_law_take : OC) (C_law_names : OC) (C_law_stranger : OC) : WS := (wseq (wset 3 (wcall C_law_take (wac (wv 0) (wac (wc (.int 4)) wan)))) (wseq (wif (wt (w2 oLt (wo 3) (wc (.int 2)))) (wret (wlc [5] (wir1 (wac (wv 2) wan)) (gn 5) (wt_law_bond_names_1 cW cL cP C_law_take C_law_names C_law_stranger) (we_law_bond_names_2 cW cL cP C_law_take C_law_names C_law_stranger))) wnext) (wseq (wif (wt (w2 oEq (wo 3) (wc (.int 2)))) (wret (wcall C_law_names (wac (wv 0) (wac (wv 2) wan)))) wnext) (wseq (wown 4 (wslL (wo 1) wnp (wpt (wv 2)))) (wseq (wfor (wir1 (wac (w2 oSub (wo 2) (wcall cLen (wab (wo 4) wan))) wan)) (gn 5) (wb_law_bond_names_3 cW cL cP C_law_take C_law_names C_law_stranger)) (wfrz 4 (wret (wv 4))))))))
abbrev N_law_bonds : List Str := ["_law_words", "_law_places", "_law_ends_here", "_law_k"]
abbrev p_law_bonds : List Str := ["_law_words", "_law_places", "_law_ends_here"]
def wt_law_bonds_1 (cW cL cP : Addr)  : WT := wyes
def we_law_bonds_2 (cW cL cP : Addr)  : WE := (wtup (wac (w2 oIx (wo 0) (wo 3)) (wac (w2 oIx (wo 1) (w2 oIx (w2 oIx (wo 2) (wo 3)) (wc (.int 0)))) (wac (w2 oIx (wo 1) (w2 oIx (w2 oIx (wo 2) (wo 3)) (wc (.int 1)))) wan))))
def ws_law_bonds (cW cL cP : Addr)  : WS := (wret (wcall cSortD (wab (wlc [3] (wir1 (wac (wcall cLen (wab (wo 2) wan)) wan)) (gn 3) (wt_law_bonds_1 cW cL cP) (we_law_bonds_2 cW cL cP)) wan)))
abbrev N_law_make : List Str := ["_law_land"]
abbrev p_law_make : List Str := ["_law_land"]
def ws_law_make (cW cL cP : Addr) (Ci_LA : OCi) (Ci_W : OCi) : WS := (wret (wmake cL Ci_LA (wac (wmake cW Ci_W (wac (wcall (cSeq .lst) (wab (w2 oIx (wo 0) (wc (.int 0))) wan)) (wac (wcall (cSeq .lst) (wab (w2 oIx (wo 0) (wc (.int 1))) wan)) wan))) (wac (wcall (cSeq .lst) (wab (w2 oIx (wo 0) (wc (.int 2))) wan)) wan))))
abbrev N_law_is_land : List Str := ["_law_value", "_law_land", "_law_told"]
abbrev p_law_is_land : List Str := ["_law_value", "_law_land"]
def ws_law_is_land (cW cL cP : Addr) (C_W_places : OC) (C_W_bonds : OC) (C_LA_heights : OC) (C_law_same : OC) : WS := (wseq (wif (wor (wnot (wtru (wisO cL (wo 0)))) (wnot (wtru (wisO cW (wget cL "web" (wo 0)))))) (wret (wc (.bl false))) wnext) (wseq (wset 2 (wtup (wac (wmeth0 cW "places" C_W_places (wget cL "web" (wo 0))) (wac (wmeth0 cW "bonds" C_W_bonds (wget cL "web" (wo 0))) (wac (wmeth0 cL "heights" C_LA_heights (wo 0)) wan))))) (wret (wcall C_law_same (wac (wv 2) (wac (wtup (wac (wcall (cSeq .lst) (wab (w2 oIx (wo 1) (wc (.int 0))) wan)) (wac (wcall (cSeq .lst) (wab (w2 oIx (wo 1) (wc (.int 1))) wan)) (wac (wcall (cSeq .lst) (wab (w2 oIx (wo 1) (wc (.int 2))) wan)) wan)))) wan))))))
abbrev N_law_beside : List Str := ["_law_bonds_here", "_law_place", "_law_rows", "_law_bond"]
abbrev p_law_beside : List Str := ["_law_bonds_here", "_law_place"]
def wb_law_beside_1 (cW cL cP : Addr)  : WS := (wseq (wif (wt (w2 oEq (w2 oIx (wo 3) (wc (.int 1))) (wo 1))) (wapp 2 (w2 oIx (wo 3) (wc (.int 2)))) wnext) (wif (wt (w2 oEq (w2 oIx (wo 3) (wc (.int 2))) (wo 1))) (wapp 2 (w2 oIx (wo 3) (wc (.int 1)))) wnext))
def ws_law_beside (cW cL cP : Addr)  : WS := (wseq (wown 2 (wlst wan)) (wseq (wfor (wil (wv 0)) (gn 3) (wb_law_beside_1 cW cL cP)) (wfrz 2 (wret (wv 2)))))
abbrev N_law_reach : List Str := ["_law_bonds_here", "_law_allowed", "_law_place", "_law_found", "_law_k", "_law_word"]
abbrev p_law_reach : List Str := ["_law_bonds_here", "_law_allowed", "_law_place"]
def wb_law_reach_1 (cW cL cP : Addr) (C_law_beside : OC) : WS := (wif (wand (wt (w2 (oIn false) (wo 5) (wo 1))) (wt (w2 (oIn true) (wo 5) (wo 3)))) (wapp 3 (wv 5)) wnext)
def wb_law_reach_2 (cW cL cP : Addr) (C_law_beside : OC) : WS := (wif (wt (w2 oLt (wo 4) (wcall cLen (wab (wo 3) wan)))) (wfor (wil (wcall C_law_beside (wac (wv 0) (wac (w2 oIx (wo 3) (wo 4)) wan)))) (gn 5) (wb_law_reach_1 cW cL cP C_law_beside)) wnext)
def ws_law_reach (cW cL cP : Addr) (C_law_beside : OC) : WS := (wseq (wown 3 (wlst (wac (wv 2) wan))) (wseq (wfor (wir1 (wac (wcall cLen (wab (wo 1) wan)) wan)) (gn 4) (wb_law_reach_2 cW cL cP C_law_beside)) (wret (wcall cSortS (wab (wo 3) wan)))))
abbrev N_law_height : List Str := ["_law_land", "_law_place"]
abbrev p_law_height : List Str := ["_law_land", "_law_place"]
def ws_law_height (cW cL cP : Addr)  : WS := (wret (w2 oIx (w2 oIx (wo 0) (wc (.int 2))) (wmtL oIndexL (w2 oIx (wo 0) (wc (.int 0))) (wo 1))))
abbrev N_law_flat : List Str := ["_law_land", "_law_place", "_law_height_here", "_law_allowed", "_law_k"]
abbrev p_law_flat : List Str := ["_law_land", "_law_place"]
def wt_law_flat_1 (cW cL cP : Addr) (C_law_height : OC) (C_law_reach : OC) : WT := (wt (w2 oEq (w2 oIx (w2 oIx (wo 0) (wc (.int 2))) (wo 4)) (wo 2)))
def we_law_flat_2 (cW cL cP : Addr) (C_law_height : OC) (C_law_reach : OC) : WE := (w2 oIx (w2 oIx (wo 0) (wc (.int 0))) (wo 4))
def ws_law_flat (cW cL cP : Addr) (C_law_height : OC) (C_law_reach : OC) : WS := (wseq (wset 2 (wcall C_law_height (wac (wv 0) (wac (wv 1) wan)))) (wseq (wset 3 (wlc [4] (wir1 (wac (wcall cLen (wab (w2 oIx (wo 0) (wc (.int 0))) wan)) wan)) (gn 4) (wt_law_flat_1 cW cL cP C_law_height C_law_reach) (we_law_flat_2 cW cL cP C_law_height C_law_reach))) (wret (wcall C_law_reach (wac (w2 oIx (wo 0) (wc (.int 1))) (wac (wv 3) (wac (wv 1) wan)))))))
abbrev N_law_flats : List Str := ["_law_land", "_law_rows", "_law_place", "_law_flat_here"]
abbrev p_law_flats : List Str := ["_law_land"]
def wb_law_flats_1 (cW cL cP : Addr) (C_law_flat : OC) : WS := (wseq (wset 3 (wcall C_law_flat (wac (wv 0) (wac (wv 2) wan)))) (wif (wt (w2 oEq (w2 oIx (wo 3) (wc (.int 0))) (wo 2))) (wapp 1 (wv 3)) wnext))
def ws_law_flats (cW cL cP : Addr) (C_law_flat : OC) : WS := (wseq (wown 1 (wlst wan)) (wseq (wfor (wil (w2 oIx (wo 0) (wc (.int 0)))) (gn 2) (wb_law_flats_1 cW cL cP C_law_flat)) (wfrz 1 (wret (wv 1)))))
abbrev N_law_papers : List Str := ["_law_start", "_law_last", "_law_rows", "_law_bond", "_law_upper", "_law_lower", "_law_told", "_law_flat_here", "_law_place"]
abbrev p_law_papers : List Str := ["_law_start", "_law_last"]
def wb_law_papers_1 (cW cL cP : Addr) (C_law_height : OC) (C_law_flats : OC) : WS := (wseq (wset 4 (w2 oIx (wo 3) (wc (.int 1)))) (wseq (wset 5 (w2 oIx (wo 3) (wc (.int 2)))) (wseq (wif (wt (w2 oLt (wcall C_law_height (wac (wv 1) (wac (wv 4) wan))) (wcall C_law_height (wac (wv 1) (wac (wv 5) wan))))) (wseq (wset 4 (w2 oIx (wo 3) (wc (.int 2)))) (wset 5 (w2 oIx (wo 3) (wc (.int 1))))) wnext) (wseq (wset 6 (wtup (wac (wcall C_law_height (wac (wv 0) (wac (wv 4) wan))) (wac (wcall C_law_height (wac (wv 0) (wac (wv 5) wan))) wan)))) (wseq (wset 6 (w2 oAdd (wo 6) (wtup (wac (wcall C_law_height (wac (wv 1) (wac (wv 4) wan))) (wac (wcall C_law_height (wac (wv 1) (wac (wv 5) wan))) wan))))) (wif (wand (wt (w2 oGt (w2 oIx (wo 6) (wc (.int 2))) (w2 oIx (wo 6) (wc (.int 3))))) (wor (wt (w2 oLt (w2 oIx (wo 6) (wc (.int 0))) (w2 oIx (wo 6) (wc (.int 2))))) (wt (w2 oGt (w2 oIx (wo 6) (wc (.int 1))) (w2 oIx (wo 6) (wc (.int 3))))))) (wapp 2 (wtup (wac (wc (.str "bond")) (wac (w2 oIx (wo 3) (wc (.int 0))) (wac (wv 4) (wac (wv 5) (wac (wv 6) wan))))))) wnext))))))
def wt_law_papers_2 (cW cL cP : Addr) (C_law_height : OC) (C_law_flats : OC) : WT := wyes
def we_law_papers_3 (cW cL cP : Addr) (C_law_height : OC) (C_law_flats : OC) : WE := (w2 oNe (wcall C_law_height (wac (wv 0) (wac (wv 8) wan))) (wcall C_law_height (wac (wv 1) (wac (wv 8) wan))))
def wb_law_papers_4 (cW cL cP : Addr) (C_law_height : OC) (C_law_flats : OC) : WS := (wif (wtru (wcall (cBools fun bs => bs.all id) (wab (wlc [8] (wil (wv 7)) (gn 8) (wt_law_papers_2 cW cL cP C_law_height C_law_flats) (we_law_papers_3 cW cL cP C_law_height C_law_flats)) wan))) (wapp 2 (wtup (wac (wc (.str "flat")) (wac (wcall (cSeq .tup) (wab (wo 7) wan)) wan)))) wnext)
def ws_law_papers (cW cL cP : Addr) (C_law_height : OC) (C_law_flats : OC) : WS := (wseq (wown 2 (wlst wan)) (wseq (wfor (wil (w2 oIx (wo 0) (wc (.int 1)))) (gn 3) (wb_law_papers_1 cW cL cP C_law_height C_law_flats)) (wseq (wfor (wil (wcall C_law_flats (wac (wv 1) wan))) (gn 7) (wb_law_papers_4 cW cL cP C_law_height C_law_flats)) (wfrz 2 (wret (wv 2))))))
abbrev N_law_piece_land : List Str := ["_law_store_here", "_law_places", "_law_words", "_law_table", "_law_names_here", "_law_ends_here", "_law_land", "_law_place"]
abbrev p_law_piece_land : List Str := ["_law_store_here", "_law_places", "_law_words", "_law_table"]
def wt_law_piece_land_1 (cW cL cP : Addr) (C_law_ends : OC) (C_law_bonds : OC) : WT := wyes
def we_law_piece_land_2 (cW cL cP : Addr) (C_law_ends : OC) (C_law_bonds : OC) : WE := (wdget (wo 3) (wo 7))
def ws_law_piece_land (cW cL cP : Addr) (C_law_ends : OC) (C_law_bonds : OC) : WS := (wseq (wset 4 (wcall cSortS (wab (wo 1) wan))) (wseq (wset 5 (wslL (wcall C_law_ends (wac (wv 0) (wac (wcall cLen (wab (wo 4) wan)) wan))) wnp (wpt (wc (.int 8))))) (wseq (wset 6 (wtup (wac (wv 4) (wac (wcall C_law_bonds (wac (wv 2) (wac (wv 4) (wac (wv 5) wan)))) (wac (wlc [7] (wil (wv 4)) (gn 7) (wt_law_piece_land_1 cW cL cP C_law_ends C_law_bonds) (we_law_piece_land_2 cW cL cP C_law_ends C_law_bonds)) wan))))) (wret (wtup (wac (wv 6) (wac (wslL (wo 2) (wpt (wcall cLen (wab (wo 5) wan))) wnp) wan)))))))
abbrev N_law_pieces : List Str := ["_law_store_here", "_law_room", "_law_menu_here", "_law_many", "_law_one", "_law_two", "_law_places", "_law_table", "_law_place", "_law_words", "_law_first", "_law_second"]
abbrev p_law_pieces : List Str := ["_law_store_here", "_law_room", "_law_menu_here"]
def wb_law_pieces_1 (cW cL cP : Addr) (C_law_pick : OC) (C_law_names : OC) (C_law_disorder : OC) (C_law_bond_names : OC) (C_law_piece_land : OC) : WS := (wdput 7 (wv 8) (wcall C_law_pick (wac (wv 0) (wab (wo 2) wan))))
def ws_law_pieces (cW cL cP : Addr) (C_law_pick : OC) (C_law_names : OC) (C_law_disorder : OC) (C_law_bond_names : OC) (C_law_piece_land : OC) : WS := (wseq (wset 3 (wcall C_law_pick (wac (wv 0) (wab (wlst (wac (wc (.int 1)) (wac (wc (.int 1)) (wac (wc (.int 2)) (wac (wc (.int 2)) (wac (wc (.int 2)) (wac (wc (.int 3)) wan))))))) wan)))) (wseq (wset 4 (wcall cMin (wab (wcall C_law_pick (wac (wv 0) (wab (wlst (wac (wc (.int 0)) (wac (wc (.int 1)) (wac (wc (.int 1)) (wac (wc (.int 2)) (wac (wc (.int 2)) (wac (wc (.int 5)) wan))))))) wan))) (wab (w2 oSub (wo 1) (wo 3)) wan)))) (wseq (wset 5 (wcall cMin3 (wab (wcall C_law_pick (wac (wv 0) (wab (wlst (wac (wc (.int 0)) (wac (wc (.int 1)) (wac (wc (.int 1)) (wac (wc (.int 2)) (wac (wc (.int 2)) (wac (wc (.int 5)) wan))))))) wan))) (wab (w2 oSub (wo 1) (wo 3)) (wab (w2 oSub (w2 oSub (wc (.int 10)) (wo 3)) (wo 4)) wan))))) (wseq (wset 6 (wcall C_law_names (wac (wv 0) (wac (w2 oAdd (w2 oAdd (wo 3) (wo 4)) (wo 5)) wan)))) (wseq (wown 7 wdic0) (wseq (wfor (wil (wv 6)) (gn 8) (wb_law_pieces_1 cW cL cP C_law_pick C_law_names C_law_disorder C_law_bond_names C_law_piece_land)) (wseq (wset 9 (wcall C_law_disorder (wac (wv 0) (wac (wcall C_law_bond_names (wac (wv 0) (wac (wv 6) (wac (wc (.int 16)) wan)))) wan)))) (wfrz 7 (wseq (wset 10 (wcall C_law_piece_land (wac (wv 0) (wac (wslL (wo 6) wnp (wpt (w2 oAdd (wo 3) (wo 4)))) (wac (wv 9) (wac (wv 7) wan)))))) (wseq (wset 11 (wcall C_law_piece_land (wac (wv 0) (wac (w2 oAdd (wslL (wo 6) wnp (wpt (wv 3))) (wslL (wo 6) (wpt (w2 oAdd (wo 3) (wo 4))) wnp)) (wac (w2 oIx (wo 10) (wc (.int 1))) (wac (wv 7) wan)))))) (wret (wtup (wac (w2 oIx (wo 10) (wc (.int 0))) (wac (w2 oIx (wo 11) (wc (.int 0))) (wac (wcall cSortS (wab (wslL (wo 6) wnp (wpt (wv 3))) wan)) wan)))))))))))))))
abbrev N_law_glued : List Str := ["_law_first", "_law_second", "_law_places", "_law_heights", "_law_place"]
abbrev p_law_glued : List Str := ["_law_first", "_law_second"]
def wt_law_glued_1 (cW cL cP : Addr) (C_law_height : OC) : WT := (wt (w2 (oIn true) (wo 4) (w2 oIx (wo 0) (wc (.int 0)))))
def we_law_glued_2 (cW cL cP : Addr) (C_law_height : OC) : WE := (wv 4)
def wb_law_glued_3 (cW cL cP : Addr) (C_law_height : OC) : WS := (wif (wt (w2 (oIn false) (wo 4) (w2 oIx (wo 0) (wc (.int 0))))) (wapp 3 (wcall C_law_height (wac (wv 0) (wac (wv 4) wan)))) (wapp 3 (wcall C_law_height (wac (wv 1) (wac (wv 4) wan)))))
def ws_law_glued (cW cL cP : Addr) (C_law_height : OC) : WS := (wseq (wset 2 (wcall cSortS (wab (w2 oAdd (w2 oIx (wo 0) (wc (.int 0))) (wlc [4] (wil (w2 oIx (wo 1) (wc (.int 0)))) (gn 4) (wt_law_glued_1 cW cL cP C_law_height) (we_law_glued_2 cW cL cP C_law_height))) wan))) (wseq (wown 3 (wlst wan)) (wseq (wfor (wil (wv 2)) (gn 4) (wb_law_glued_3 cW cL cP C_law_height)) (wfrz 3 (wret (wtup (wac (wv 2) (wac (wcall cSortD (wab (w2 oAdd (w2 oIx (wo 0) (wc (.int 1))) (w2 oIx (wo 1) (wc (.int 1)))) wan)) (wac (wv 3) wan)))))))))
abbrev N_law_show : List Str := ["_law_land", "_law_border", "_law_last", "_law_sprung", "_law_flat_here", "_law_spring", "_law_block", "_law_place", "_law_paper"]
abbrev p_law_show : List Str := ["_law_land", "_law_border", "_law_last"]
def wt_law_show_1 (cW cL cP : Addr) (C_law_flats : OC) (C_law_height : OC) (C_law_papers : OC) : WT := wyes
def we_law_show_2 (cW cL cP : Addr) (C_law_flats : OC) (C_law_height : OC) (C_law_papers : OC) : WE := (w2 oEq (wcall C_law_height (wac (wv 0) (wac (wv 7) wan))) (wcall C_law_height (wac (wv 2) (wac (wv 7) wan))))
def wt_law_show_3 (cW cL cP : Addr) (C_law_flats : OC) (C_law_height : OC) (C_law_papers : OC) : WT := (wt (w2 (oIn false) (wo 7) (wo 1)))
def we_law_show_4 (cW cL cP : Addr) (C_law_flats : OC) (C_law_height : OC) (C_law_papers : OC) : WE := (wv 7)
def wb_law_show_5 (cW cL cP : Addr) (C_law_flats : OC) (C_law_height : OC) (C_law_papers : OC) : WS := (wseq (wset 5 (wcall (cBools fun bs => bs.any id) (wab (wlc [7] (wil (wv 4)) (gn 7) (wt_law_show_1 cW cL cP C_law_flats C_law_height C_law_papers) (we_law_show_2 cW cL cP C_law_flats C_law_height C_law_papers)) wan))) (wseq (wset 6 (wcall (cSeq .tup) (wab (wlc [7] (wil (wv 4)) (gn 7) (wt_law_show_3 cW cL cP C_law_flats C_law_height C_law_papers) (we_law_show_4 cW cL cP C_law_flats C_law_height C_law_papers)) wan))) (wif (wt (w2 oNe (wo 6) (wtup wan))) (wapp 3 (wtup (wac (wv 6) (wac (wv 5) wan)))) (wif (wnot (wtru (wo 5))) (wret (wc .non)) wnext))))
def wt_law_show_6 (cW cL cP : Addr) (C_law_flats : OC) (C_law_height : OC) (C_law_papers : OC) : WT := (wt (w2 oEq (w2 oIx (wo 8) (wc (.int 0))) (wc (.str "bond"))))
def we_law_show_7 (cW cL cP : Addr) (C_law_flats : OC) (C_law_height : OC) (C_law_papers : OC) : WE := (wv 8)
def wt_law_show_8 (cW cL cP : Addr) (C_law_flats : OC) (C_law_height : OC) (C_law_papers : OC) : WT := wyes
def we_law_show_9 (cW cL cP : Addr) (C_law_flats : OC) (C_law_height : OC) (C_law_papers : OC) : WE := (wcall C_law_height (wac (wv 2) (wac (wv 7) wan)))
def ws_law_show (cW cL cP : Addr) (C_law_flats : OC) (C_law_height : OC) (C_law_papers : OC) : WS := (wseq (wown 3 (wlst wan)) (wseq (wfor (wil (wcall C_law_flats (wac (wv 2) wan))) (gn 4) (wb_law_show_5 cW cL cP C_law_flats C_law_height C_law_papers)) (wseq (wif (wt (w2 oNe (wlc [8] (wil (wcall C_law_papers (wac (wv 0) (wac (wv 2) wan)))) (gn 8) (wt_law_show_6 cW cL cP C_law_flats C_law_height C_law_papers) (we_law_show_7 cW cL cP C_law_flats C_law_height C_law_papers)) (wlst wan))) (wret (wc .non)) wnext) (wret (wtup (wac (wcall (cSeq .tup) (wab (wlc [7] (wil (wv 1)) (gn 7) (wt_law_show_8 cW cL cP C_law_flats C_law_height C_law_papers) (we_law_show_9 cW cL cP C_law_flats C_law_height C_law_papers)) wan)) (wac (wcall (cSeq .tup) (wab (wcall cSortD (wab (wo 3) wan)) wan)) wan)))))))
abbrev N_law_cut : List Str := ["_law_land", "_law_other", "_law_place"]
abbrev p_law_cut : List Str := ["_law_land", "_law_other"]
def wt_law_cut_1 (cW cL cP : Addr) (C_law_height : OC) : WT := wyes
def we_law_cut_2 (cW cL cP : Addr) (C_law_height : OC) : WE := (wcall C_law_height (wac (wv 0) (wac (wv 2) wan)))
def ws_law_cut (cW cL cP : Addr) (C_law_height : OC) : WS := (wret (wtup (wac (w2 oIx (wo 1) (wc (.int 0))) (wac (w2 oIx (wo 1) (wc (.int 1))) (wac (wlc [2] (wil (w2 oIx (wo 1) (wc (.int 0)))) (gn 2) (wt_law_cut_1 cW cL cP C_law_height) (we_law_cut_2 cW cL cP C_law_height)) wan)))))
abbrev N_law_joining : List Str := ["_law_store_here", "_law_land", "_law_heights", "_law_k", "_law_now", "_law_bond", "_law_side", "_law_place"]
abbrev p_law_joining : List Str := ["_law_store_here", "_law_land"]
def wb_law_joining_1 (cW cL cP : Addr) (C_law_take : OC) (C_law_pick : OC) (C_law_any_height : OC) (C_law_flat : OC) (C_law_height : OC) : WS := (wput 2 (wmtL oIndexL (w2 oIx (wo 1) (wc (.int 0))) (wo 7)) (wcall C_law_height (wac (wv 4) (wac (w2 oIx (wo 5) (w2 oSub (wc (.int 2)) (wo 6))) wan))))
def wb_law_joining_2 (cW cL cP : Addr) (C_law_take : OC) (C_law_pick : OC) (C_law_any_height : OC) (C_law_flat : OC) (C_law_height : OC) : WS := (wseq (wset 4 (wtup (wac (w2 oIx (wo 1) (wc (.int 0))) (wac (w2 oIx (wo 1) (wc (.int 1))) (wac (wcall (cSeq .lst) (wab (wo 2) wan)) wan))))) (wif (wor (wt (w2 oEq (w2 oIx (wo 1) (wc (.int 1))) (wlst wan))) (wt (w2 oEq (wcall C_law_take (wac (wv 0) (wac (wc (.int 8)) wan))) (wc (.int 0))))) (wput 2 (wcall C_law_take (wac (wv 0) (wac (wcall cLen (wab (wo 2) wan)) wan))) (wcall C_law_pick (wac (wv 0) (wab (w2 oAdd (w2 oIx (wo 1) (wc (.int 2))) (wlst (wac (wcall C_law_any_height (wac (wv 0) wan)) wan))) wan)))) (wseq (wset 5 (wcall C_law_pick (wac (wv 0) (wab (w2 oIx (wo 1) (wc (.int 1))) wan)))) (wseq (wset 6 (wcall C_law_take (wac (wv 0) (wac (wc (.int 2)) wan)))) (wfor (wil (wcall C_law_flat (wac (wv 4) (wac (w2 oIx (wo 5) (w2 oAdd (wc (.int 1)) (wo 6))) wan)))) (gn 7) (wb_law_joining_1 cW cL cP C_law_take C_law_pick C_law_any_height C_law_flat C_law_height))))))
def ws_law_joining (cW cL cP : Addr) (C_law_take : OC) (C_law_pick : OC) (C_law_any_height : OC) (C_law_flat : OC) (C_law_height : OC) : WS := (wseq (wown 2 (wcall (cSeq .lst) (wab (w2 oIx (wo 1) (wc (.int 2))) wan))) (wseq (wfor (wir1 (wac (wcall C_law_take (wac (wv 0) (wac (wc (.int 7)) wan))) wan)) (gn 3) (wb_law_joining_2 cW cL cP C_law_take C_law_pick C_law_any_height C_law_flat C_law_height)) (wfrz 2 (wret (wtup (wac (w2 oIx (wo 1) (wc (.int 0))) (wac (w2 oIx (wo 1) (wc (.int 1))) (wac (wv 2) wan))))))))
abbrev N_law_goals : List Str := ["_law_store_here", "_law_first", "_law_second", "_law_whole"]
abbrev p_law_goals : List Str := ["_law_store_here", "_law_first", "_law_second"]
def ws_law_goals (cW cL cP : Addr) (C_law_joining : OC) (C_law_glued : OC) (C_law_cut : OC) : WS := (wseq (wset 3 (wcall C_law_joining (wac (wv 0) (wac (wcall C_law_glued (wac (wv 1) (wac (wv 2) wan))) wan)))) (wret (wtup (wac (wcall C_law_cut (wac (wv 3) (wac (wv 1) wan))) (wac (wcall C_law_cut (wac (wv 3) (wac (wv 2) wan))) wan)))))
abbrev N_law_glued_right : List Str := ["_law_rows", "_law_parts", "_law_lands", "_law_whole", "_law_last", "_law_told", "_law_made", "_law_one", "_law_two", "_law_papers_here", "_law_due"]
abbrev p_law_glued_right : List Str := ["_law_rows", "_law_parts"]
def ws_law_glued_right (cW cL cP : Addr) (C_law_make : OC) (C_law_glued : OC) (C_united : OC) (C_law_is_land : OC) (C_glue : OC) (C_show_of : OC) (C_law_same : OC) (C_law_show : OC) (C_law_papers : OC) (C_never_paper : OC) (C_comes : OC) (C_fits : OC) : WS := (wseq (wset 2 (wlst (wac (wcall C_law_make (wac (w2 oIx (wo 0) (wc (.int 3))) wan)) (wac (wcall C_law_make (wac (w2 oIx (wo 0) (wc (.int 4))) wan)) wan)))) (wseq (wset 3 (wcall C_law_glued (wac (w2 oIx (wo 0) (wc (.int 0))) (wac (w2 oIx (wo 0) (wc (.int 1))) wan)))) (wseq (wset 4 (wcall C_law_glued (wac (w2 oIx (wo 0) (wc (.int 3))) (wac (w2 oIx (wo 0) (wc (.int 4))) wan)))) (wseq (wset 5 (wcall C_united (wac (w2 oIx (wo 1) (wc (.int 0))) (wac (w2 oIx (wo 1) (wc (.int 1))) (wac (w2 oIx (wo 2) (wc (.int 0))) (wac (w2 oIx (wo 2) (wc (.int 1))) wan)))))) (wseq (wif (wor (wnot (wtru (wcall C_law_is_land (wac (wv 5) (wac (wv 4) wan))))) (wnot (wtru (wcall C_law_is_land (wac (wcall C_united (wac (w2 oIx (wo 1) (wc (.int 1))) (wac (w2 oIx (wo 1) (wc (.int 0))) (wac (w2 oIx (wo 2) (wc (.int 1))) (wac (w2 oIx (wo 2) (wc (.int 0))) wan))))) (wac (wv 4) wan)))))) (wret (wc (.bl false))) wnext) (wseq (wset 6 (wcall C_glue (wac (w2 oIx (wo 1) (wc (.int 0))) (wac (w2 oIx (wo 1) (wc (.int 1))) wan)))) (wseq (wif (wor (wnot (wtru (wcall C_law_is_land (wac (wv 6) (wac (wv 3) wan))))) (wnot (wtru (wcall C_law_is_land (wac (wcall C_glue (wac (w2 oIx (wo 1) (wc (.int 1))) (wac (w2 oIx (wo 1) (wc (.int 0))) wan))) (wac (wv 3) wan)))))) (wret (wc (.bl false))) wnext) (wseq (wset 7 (wcall C_show_of (wac (w2 oIx (wo 1) (wc (.int 0))) (wac (w2 oIx (wo 2) (wc (.int 0))) wan)))) (wseq (wset 8 (wcall C_show_of (wac (w2 oIx (wo 1) (wc (.int 1))) (wac (w2 oIx (wo 2) (wc (.int 1))) wan)))) (wseq (wif (wnot (wtru (wcall C_law_same (wac (wv 7) (wac (wcall C_law_show (wac (w2 oIx (wo 0) (wc (.int 0))) (wac (w2 oIx (wo 0) (wc (.int 2))) (wac (w2 oIx (wo 0) (wc (.int 3))) wan)))) wan))))) (wret (wc (.bl false))) wnext) (wseq (wif (wnot (wtru (wcall C_law_same (wac (wv 8) (wac (wcall C_law_show (wac (w2 oIx (wo 0) (wc (.int 1))) (wac (w2 oIx (wo 0) (wc (.int 2))) (wac (w2 oIx (wo 0) (wc (.int 4))) wan)))) wan))))) (wret (wc (.bl false))) wnext) (wseq (wset 9 (wcall C_law_papers (wac (wv 3) (wac (wv 4) wan)))) (wseq (wset 10 (w2 oEq (wo 9) (wlst wan))) (wseq (wif (wnot (wtru (wcall C_law_same (wac (wcall C_never_paper (wac (wv 6) (wac (wv 5) wan))) (wac (w2 oIx (w2 oAdd (wo 9) (wlst (wac (wc .non) wan))) (wc (.int 0))) wan))))) (wret (wc (.bl false))) wnext) (wseq (wif (wor (wnot (wtru (wcall C_law_same (wac (wcall C_comes (wac (wv 6) (wac (wv 5) wan))) (wac (wv 10) wan))))) (wnot (wtru (wcall C_law_same (wac (wcall C_comes (wac (wcall C_law_make (wac (wv 3) wan)) (wac (wcall C_law_make (wac (wv 4) wan)) wan))) (wac (wv 10) wan)))))) (wret (wc (.bl false))) wnext) (wseq (wif (wor (wt (wisN (wo 7))) (wt (wisN (wo 8)))) (wret (wnotT (wo 10))) wnext) (wret (wcall C_law_same (wac (wlst (wac (wcall C_fits (wac (wv 7) (wac (wv 8) wan))) (wac (wcall C_fits (wac (wv 8) (wac (wv 7) wan))) wan))) (wac (wlst (wac (wv 10) (wac (wv 10) wan))) wan))))))))))))))))))))
end
end VL
/-! text G0 -/
namespace VL
open PySem PySem.Spec PyProof.Rows L2
section
variable {P : Program} {w : World} {K : PySem.W.Frag} {mg : Str → Option Value} {base : Heap} {cW cL cP : Addr}
theorem sc_is_name : FnScope N_is_name p_is_name (defScope (top 21)) := ⟨rfl, rfl, rfl, by decide +kernel, rfl, by decide +kernel, by decide +kernel⟩
theorem dv_is_name  (g : Pg P w K mg base cW cL cP)  (st : Sto) (f : Addr) (cdv : Value) (A : Around) (outer : List Env) (s : Shared) (H : Hp) (E : XK) (hr : Room 1 (A.deeper (envOfC "is_name" (defScope (top 21)) s.heap.objs.size f cdv))) : VSs (cxOf CX0 P w K mg base N_is_name "is_name" (defScope (top 21)) f cdv A outer s H E).nox st false (defBody (top 21)) (ws_is_name cW cL cP ) := (ss_cons (s_if (t_not (t_tru (VE.o (e_isi (m := "str") g.b_isinstance g.b_str (by decide +kernel) rfl (ov 0))))) (ss_one (s_ret e_bl)) ss_nil) (ss_cons (s_if (t_w (x_or (t_cmp (op_eqP hr.units) d_eq (VE.o (e_cb call_len d_len g.b_len (by decide +kernel) (ab (ov 0) an))) (VE.o e_int)) (x_or (t_cmp op_gt d_cm (VE.o (e_cb call_len d_len g.b_len (by decide +kernel) (ab (ov 0) an))) (VE.o (e_gint g.i_NAME_MOST))) (x_or1 (t_cmp (op_eqP hr.units) d_eq (ov 0) (VE.o e_str)))))) (ss_one (s_ret e_bl)) ss_nil) (ss_cons (s_if (t_cmp op_ninSign d_inS (VE.o (e_ix (ov 0) (VE.o e_int))) (VE.o (e_gstr g.s_LETTERS))) (ss_one (s_ret e_bl)) ss_nil) (ss_one (s_ret (e_cb (cr_all rfl) d_bools g.b_all (by decide +kernel) (ab (VF.o (f_lc (own := [("sign", 1)]) rfl sc_is_name.nd (i_str (ev 0)) (blkOk_by (own := [("sign", 1)]) (N := N_is_name) (sc := defScope (top 21)) (by decide +kernel)) (fun _ _ _ _ _ => (g_name (i := 1) sc_is_name.nd)) (fun _ _ _ _ _ => ts_nil) (fun _ _ _ _ _ => (e_or (e_cmp op_inSign d_inS (ov 1) (VE.o (e_gstr g.s_LETTERS))) (e_one (e_cmp op_inSign d_inS (ov 1) (VE.o (e_gstr g.s_FIGURES)))))))) an)))))))
theorem sc_W_places : FnScope N_W_places p_W_places (defScope (inClass (top 29) 2)) := ⟨rfl, rfl, rfl, by decide +kernel, rfl, by decide +kernel, by decide +kernel⟩
theorem dv_W_places  (g : Pg P w K mg base cW cL cP)  (st : Sto) (f : Addr) (cdv : Value) (A : Around) (outer : List Env) (s : Shared) (H : Hp) (E : XK) (hr : Room 1 (A.deeper (envOfC "Web.places" (defScope (inClass (top 29) 2)) s.heap.objs.size f cdv))) : VSs (cxOf CX0 P w K mg base N_W_places "Web.places" (defScope (inClass (top 29) 2)) f cdv A outer s H E).nox st false (defBody (inClass (top 29) 2)) (ws_W_places cW cL cP ) := (ss_one (s_ret (VF.ve (f_ct call_list_of c_list g.b_list (by decide +kernel) (ab (VE.o (e_fld g.kW.cl g.nW_web_places (ov 0))) an)))))
theorem sc_LA___getitem__ : FnScope N_LA___getitem__ p_LA___getitem__ (defScope (inClass (top 31) 3)) := ⟨rfl, rfl, rfl, by decide +kernel, rfl, by decide +kernel, by decide +kernel⟩
theorem dv_LA___getitem__  (g : Pg P w K mg base cW cL cP)  (st : Sto) (f : Addr) (cdv : Value) (A : Around) (outer : List Env) (s : Shared) (H : Hp) (E : XK) (hr : Room 1 (A.deeper (envOfC "Land.__getitem__" (defScope (inClass (top 31) 3)) s.heap.objs.size f cdv))) : VSs (cxOf CX0 P w K mg base N_LA___getitem__ "Land.__getitem__" (defScope (inClass (top 31) 3)) f cdv A outer s H E).nox st false (defBody (inClass (top 31) 3)) (ws_LA___getitem__ cW cL cP ) := (ss_cons (s_if (t_ninD hr (ov 1) (VE.o (e_fld g.kW.cl g.nW_web_spots (VE.o (e_fld g.kLA.cl g.nLA_web (ov 0)))))) (ss_one s_never) ss_nil) (ss_one (s_ret (e_ix (VE.o (e_fld g.kLA.cl g.nLA_land_heights (ov 0))) (VE.o (e_dget hr (VE.o (e_fld g.kW.cl g.nW_web_spots (VE.o (e_fld g.kLA.cl g.nLA_web (ov 0))))) (ov 1)))))))
theorem sc_flats_of : FnScope N_flats_of p_flats_of (defScope (top 37)) := ⟨rfl, rfl, rfl, by decide +kernel, rfl, by decide +kernel, by decide +kernel⟩
theorem dv_flats_of {C_all_flats : OC} {C_LA_table : OC} {C_neighbour_table_flats : OC} (g : Pg P w K mg base cW cL cP) (c_all_flats : Cl P w K mg base "all_flats" 4 C_all_flats) (c_LA_table : MeF P w K mg base cL "table" 2 C_LA_table) (c_neighbour_table_flats : Cl P w K mg base "neighbour_table_flats" 5 C_neighbour_table_flats) (st : Sto) (f : Addr) (cdv : Value) (A : Around) (outer : List Env) (s : Shared) (H : Hp) (E : XK) (hr : Room 6 (A.deeper (envOfC "flats_of" (defScope (top 37)) s.heap.objs.size f cdv))) : VSs (cxOf CX0 P w K mg base N_flats_of "flats_of" (defScope (top 37)) f cdv A outer s H E).nox st false (defBody (top 37)) (ws_flats_of cW cL cP C_all_flats C_LA_table C_neighbour_table_flats) := (ss_one (s_ret (e_call c_all_flats hr (ac (VF.ve (f_meth0 g.kLA.cl c_LA_table hr (ov 0))) (ac (e_call c_neighbour_table_flats hr (ac (e_fld g.kLA.cl g.nLA_web (ov 0)) an)) an)))))
theorem sc_dry_flats : FnScope N_dry_flats p_dry_flats (defScope (top 45)) := ⟨rfl, rfl, rfl, by decide +kernel, rfl, by decide +kernel, by decide +kernel⟩
theorem dv_dry_flats {C_need_same_web : OC} {C_dry_rows : OC} {C_flats_of : OC} {C_LA_table : OC} (g : Pg P w K mg base cW cL cP) (c_need_same_web : Cl P w K mg base "need_same_web" 4 C_need_same_web) (c_dry_rows : Cl P w K mg base "dry_rows" 2 C_dry_rows) (c_flats_of : Cl P w K mg base "flats_of" 7 C_flats_of) (c_LA_table : MeF P w K mg base cL "table" 2 C_LA_table) (st : Sto) (f : Addr) (cdv : Value) (A : Around) (outer : List Env) (s : Shared) (H : Hp) (E : XK) (hr : Room 8 (A.deeper (envOfC "dry_flats" (defScope (top 45)) s.heap.objs.size f cdv))) : VSs (cxOf CX0 P w K mg base N_dry_flats "dry_flats" (defScope (top 45)) f cdv A outer s H E).nox st false (defBody (top 45)) (ws_dry_flats cW cL cP C_need_same_web C_dry_rows C_flats_of C_LA_table) := (ss_cons (s_expr (e_call c_need_same_web hr (ac (ev 0) (ac (ev 1) an)))) (ss_one (s_ret (e_call c_dry_rows hr (ac (e_call c_flats_of hr (ac (ev 1) an)) (ac (VF.ve (f_meth0 g.kLA.cl c_LA_table hr (ov 0))) (ac (VF.ve (f_meth0 g.kLA.cl c_LA_table hr (ov 1))) an)))))))
theorem sc_P_border : FnScope N_P_border p_P_border (defScope (inClass (top 54) 1)) := ⟨rfl, rfl, rfl, by decide +kernel, rfl, by decide +kernel, by decide +kernel⟩
theorem dv_P_border  (g : Pg P w K mg base cW cL cP)  (st : Sto) (f : Addr) (cdv : Value) (A : Around) (outer : List Env) (s : Shared) (H : Hp) (E : XK) (hr : Room 1 (A.deeper (envOfC "Piece.border" (defScope (inClass (top 54) 1)) s.heap.objs.size f cdv))) : VSs (cxOf CX0 P w K mg base N_P_border "Piece.border" (defScope (inClass (top 54) 1)) f cdv A outer s H E).nox st false (defBody (inClass (top 54) 1)) (ws_P_border cW cL cP ) := (ss_one (s_ret (VF.ve (f_ct call_list_of c_list g.b_list (by decide +kernel) (ab (VE.o (e_fld g.kP.cl g.nP_own_border (ov 0))) an)))))
theorem sc_united : FnScope N_united p_united (defScope (top 59)) := ⟨rfl, rfl, rfl, by decide +kernel, rfl, by decide +kernel, by decide +kernel⟩
theorem dv_united {C_need_gluable : OC} {C_W___eq__ : OC} {C_P_border : OC} {C_LA___getitem__ : OC} {C_land_of_both : OC} (g : Pg P w K mg base cW cL cP) (c_need_gluable : Cl P w K mg base "need_gluable" 6 C_need_gluable) (c_W___eq__ : Me P w K mg base cW "__eq__" 2 C_W___eq__) (c_P_border : Pr P w K mg base cP "border" 2 C_P_border) (c_LA___getitem__ : Me P w K mg base cL "__getitem__" 2 C_LA___getitem__) (c_land_of_both : Cl P w K mg base "land_of_both" 8 C_land_of_both) (st : Sto) (f : Addr) (cdv : Value) (A : Around) (outer : List Env) (s : Shared) (H : Hp) (E : XK) (hr : Room 9 (A.deeper (envOfC "united" (defScope (top 59)) s.heap.objs.size f cdv))) : VSs (cxOf CX0 P w K mg base N_united "united" (defScope (top 59)) f cdv A outer s H E).nox st false (defBody (top 59)) (ws_united cW cL cP C_need_gluable C_W___eq__ C_P_border C_LA___getitem__ C_land_of_both) := (ss_cons (s_expr (e_call c_need_gluable hr (ac (ev 0) (ac (ev 1) an)))) (ss_cons (s_if (t_neO c_W___eq__ hr g.neW g.kW.hm (VE.o (e_fld g.kLA.cl g.nLA_web (ov 2))) (VE.o (e_fld g.kLA.cl g.nLA_web (VE.o (e_fld g.kP.cl g.nP_land (ov 0)))))) (ss_one s_never) ss_nil) (ss_cons (s_if (t_neO c_W___eq__ hr g.neW g.kW.hm (VE.o (e_fld g.kLA.cl g.nLA_web (ov 3))) (VE.o (e_fld g.kLA.cl g.nLA_web (VE.o (e_fld g.kP.cl g.nP_land (ov 1)))))) (ss_one s_never) ss_nil) (ss_cons (s_for PassesOwn.never rfl (i_list (e_prop g.kP.cl c_P_border hr (ov 0))) (g_name (i := 4) sc_united.nd) (ss_one (s_if (t_cmp (op_neP hr.units) d_ne (VE.o (e_ixO c_LA___getitem__ hr (ov 2) (ov 4))) (VE.o (e_ixO c_LA___getitem__ hr (ov 3) (ov 4)))) (ss_one s_never) ss_nil))) (ss_one (s_ret (e_call c_land_of_both hr (ac (ev 2) (ac (ev 3) an)))))))))
theorem sc_law_disorder : FnScope N_law_disorder p_law_disorder (defScope (top 69)) := ⟨rfl, rfl, rfl, by decide +kernel, rfl, by decide +kernel, by decide +kernel⟩
theorem dv_law_disorder {C_law_take : OC} (g : Pg P w K mg base cW cL cP) (c_law_take : Cl P w K mg base "_law_take" 3 C_law_take) (st : Sto) (f : Addr) (cdv : Value) (A : Around) (outer : List Env) (s : Shared) (H : Hp) (E : XK) (hr : Room 4 (A.deeper (envOfC "_law_disorder" (defScope (top 69)) s.heap.objs.size f cdv))) : VSs (cxOf CX0 P w K mg base N_law_disorder "_law_disorder" (defScope (top 69)) f cdv A outer s H E).nox st false (defBody (top 69)) (ws_law_disorder cW cL cP C_law_take) := (ss_cons (s_own (i := 2) sc_law_disorder.nd (f_ct call_list_of c_list g.b_list (by decide +kernel) (ab (ov 1) an))) (ss_cons (s_set (i := 3) sc_law_disorder.nd (e_call c_law_take hr (ac (ev 0) (ac e_int an)))) (ss_cons (s_if (t_cmp (op_eqP hr.units) d_eq (ov 3) (VE.o e_int)) (ss_frz 2 (ss_one (s_ret (ev 2)))) ss_nil) (ss_cons (s_if (t_cmp (op_eqP hr.units) d_eq (ov 3) (VE.o e_int)) (ss_one (s_ret (VF.ve (f_rev (ov 2))))) ss_nil) (ss_cons (s_for PassesOwn.never rfl (PImono (pi_range1 rfl g.b_range (ac (e_op op_sub d_sub (VE.o (e_cb call_len d_len g.b_len (by decide +kernel) (ab (ov 2) an))) (VE.o e_int)) an)) tI_r1) (g_name (i := 4) sc_law_disorder.nd) (ss_cons (s_set (i := 5) sc_law_disorder.nd (e_op op_addA d_add (ov 4) (VE.o (e_call c_law_take hr (ac (ev 0) (ac (e_op op_sub d_sub (VE.o (e_cb call_len d_len g.b_len (by decide +kernel) (ab (ov 2) an))) (ov 4)) an)))))) (ss_cons (s_set (i := 6) sc_law_disorder.nd (e_ix (ov 2) (ov 4))) (ss_cons (s_put (pv 2) (ev 4) (e_ix (ov 2) (ov 5))) (ss_one (s_put (pv 2) (ev 5) (ev 6))))))) (ss_frz 2 (ss_one (s_ret (ev 2)))))))))
theorem sc_law_menu : FnScope N_law_menu p_law_menu (defScope (top 76)) := ⟨rfl, rfl, rfl, by decide +kernel, rfl, by decide +kernel, by decide +kernel⟩
theorem dv_law_menu {C_law_pick : OC} {C_law_number : OC} {C_law_take : OC} (g : Pg P w K mg base cW cL cP) (c_law_pick : Cl P w K mg base "_law_pick" 5 C_law_pick) (c_law_number : Cl P w K mg base "_law_number" 5 C_law_number) (c_law_take : Cl P w K mg base "_law_take" 3 C_law_take) (st : Sto) (f : Addr) (cdv : Value) (A : Around) (outer : List Env) (s : Shared) (H : Hp) (E : XK) (hr : Room 6 (A.deeper (envOfC "_law_menu" (defScope (top 76)) s.heap.objs.size f cdv))) : VSs (cxOf CX0 P w K mg base N_law_menu "_law_menu" (defScope (top 76)) f cdv A outer s H E).nox st false (defBody (top 76)) (ws_law_menu cW cL cP C_law_pick C_law_number C_law_take) := (ss_cons (s_set (i := 2) sc_law_menu.nd (e_call c_law_pick hr (ac (ev 0) (ab (VF.o (f_lst (ac e_int (ac e_int (ac e_int (ac e_int (ac e_int an))))))) an)))) (ss_cons (s_set (i := 3) sc_law_menu.nd (e_call c_law_pick hr (ac (ev 0) (ab (VF.o (f_lst (ac e_int (ac e_int (ac e_int (ac (e_un un_neg d_neg (VE.o e_int)) (ac (e_un un_neg d_neg (VE.o e_int)) an))))))) an)))) (ss_cons (s_own (i := 4) sc_law_menu.nd (f_lst an)) (ss_cons (s_for PassesOwn.never rfl (PImono (pi_range1 rfl g.b_range (ac (e_call c_law_number hr (ac (ev 0) (ac e_int (ac (ev 1) an)))) an)) tI_r1) (g_name (i := 5) sc_law_menu.nd) (ss_cons (s_app (pv 4) (ev 3)) (ss_one (s_set (i := 3) sc_law_menu.nd (e_op op_addA d_add (VE.o (e_op op_addA d_add (ov 3) (VE.o e_int))) (VE.o (e_call c_law_take hr (ac (ev 0) (ac (ev 2) an))))))))) (ss_frz 4 (ss_one (s_ret (ev 4))))))))
theorem sc_law_beside : FnScope N_law_beside p_law_beside (defScope (top 82)) := ⟨rfl, rfl, rfl, by decide +kernel, rfl, by decide +kernel, by decide +kernel⟩
theorem dv_law_beside  (g : Pg P w K mg base cW cL cP)  (st : Sto) (f : Addr) (cdv : Value) (A : Around) (outer : List Env) (s : Shared) (H : Hp) (E : XK) (hr : Room 1 (A.deeper (envOfC "_law_beside" (defScope (top 82)) s.heap.objs.size f cdv))) : VSs (cxOf CX0 P w K mg base N_law_beside "_law_beside" (defScope (top 82)) f cdv A outer s H E).nox st false (defBody (top 82)) (ws_law_beside cW cL cP ) := (ss_cons (s_own (i := 2) sc_law_beside.nd (f_lst an)) (ss_cons (s_for PassesOwn.never rfl (i_list (ev 0)) (g_name (i := 3) sc_law_beside.nd) (ss_cons (s_if (t_cmp (op_eqP hr.units) d_eq (VE.o (e_ix (ov 3) (VE.o e_int))) (ov 1)) (ss_one (s_app (pv 2) (e_ix (ov 3) (VE.o e_int)))) ss_nil) (ss_one (s_if (t_cmp (op_eqP hr.units) d_eq (VE.o (e_ix (ov 3) (VE.o e_int))) (ov 1)) (ss_one (s_app (pv 2) (e_ix (ov 3) (VE.o e_int)))) ss_nil)))) (ss_frz 2 (ss_one (s_ret (ev 2))))))
theorem sc_law_piece_land : FnScope N_law_piece_land p_law_piece_land (defScope (top 88)) := ⟨rfl, rfl, rfl, by decide +kernel, rfl, by decide +kernel, by decide +kernel⟩
theorem dv_law_piece_land {C_law_ends : OC} {C_law_bonds : OC} (g : Pg P w K mg base cW cL cP) (c_law_ends : Cl P w K mg base "_law_ends" 7 C_law_ends) (c_law_bonds : Cl P w K mg base "_law_bonds" 2 C_law_bonds) (st : Sto) (f : Addr) (cdv : Value) (A : Around) (outer : List Env) (s : Shared) (H : Hp) (E : XK) (hr : Room 8 (A.deeper (envOfC "_law_piece_land" (defScope (top 88)) s.heap.objs.size f cdv))) : VSs (cxOf CX0 P w K mg base N_law_piece_land "_law_piece_land" (defScope (top 88)) f cdv A outer s H E).nox st false (defBody (top 88)) (ws_law_piece_land cW cL cP C_law_ends C_law_bonds) := (ss_cons (s_set (i := 4) sc_law_piece_land.nd (VF.ve (f_cb cr_sortedS c_sortS g.b_sorted (by decide +kernel) (ab (ov 1) an)))) (ss_cons (s_set (i := 5) sc_law_piece_land.nd (VF.ve (f_slL (VE.o (e_call c_law_ends hr (ac (ev 0) (ac (e_cb call_len d_len g.b_len (by decide +kernel) (ab (ov 4) an)) an)))) o_no (o_so e_int)))) (ss_cons (s_set (i := 6) sc_law_piece_land.nd (e_tup (ac (ev 4) (ac (e_call c_law_bonds hr (ac (ev 2) (ac (ev 4) (ac (ev 5) an)))) (ac (VF.ve (f_lc (own := [("_law_place", 7)]) rfl sc_law_piece_land.nd (i_list (ev 4)) (blkOk_by (own := [("_law_place", 7)]) (N := N_law_piece_land) (sc := defScope (top 88)) (by decide +kernel)) (fun _ _ _ _ _ => (g_name (i := 7) sc_law_piece_land.nd)) (fun _ _ _ _ _ => ts_nil) (fun _ _ _ _ _ => (e_dget hr (ov 3) (ov 7))))) an))))) (ss_one (s_ret (e_tup (ac (ev 6) (ac (VF.ve (f_slL (ov 2) (o_so (e_cb call_len d_len g.b_len (by decide +kernel) (ab (ov 5) an))) o_no)) an))))))))
theorem sc_law_goals : FnScope N_law_goals p_law_goals (defScope (top 94)) := ⟨rfl, rfl, rfl, by decide +kernel, rfl, by decide +kernel, by decide +kernel⟩
theorem dv_law_goals {C_law_joining : OC} {C_law_glued : OC} {C_law_cut : OC} (g : Pg P w K mg base cW cL cP) (c_law_joining : Cl P w K mg base "_law_joining" 9 C_law_joining) (c_law_glued : Cl P w K mg base "_law_glued" 4 C_law_glued) (c_law_cut : Cl P w K mg base "_law_cut" 4 C_law_cut) (st : Sto) (f : Addr) (cdv : Value) (A : Around) (outer : List Env) (s : Shared) (H : Hp) (E : XK) (hr : Room 10 (A.deeper (envOfC "_law_goals" (defScope (top 94)) s.heap.objs.size f cdv))) : VSs (cxOf CX0 P w K mg base N_law_goals "_law_goals" (defScope (top 94)) f cdv A outer s H E).nox st false (defBody (top 94)) (ws_law_goals cW cL cP C_law_joining C_law_glued C_law_cut) := (ss_cons (s_set (i := 3) sc_law_goals.nd (e_call c_law_joining hr (ac (ev 0) (ac (e_call c_law_glued hr (ac (ev 1) (ac (ev 2) an))) an)))) (ss_one (s_ret (e_tup (ac (e_call c_law_cut hr (ac (ev 3) (ac (ev 1) an))) (ac (e_call c_law_cut hr (ac (ev 3) (ac (ev 2) an))) an))))))
end
end VL
/-! text G1 -/
namespace VL
open PySem PySem.Spec PyProof.Rows L2
section
variable {P : Program} {w : World} {K : PySem.W.Frag} {mg : Str → Option Value} {base : Heap} {cW cL cP : Addr}
theorem sc_is_height : FnScope N_is_height p_is_height (defScope (top 22)) := ⟨rfl, rfl, rfl, by decide +kernel, rfl, by decide +kernel, by decide +kernel⟩
theorem dv_is_height  (g : Pg P w K mg base cW cL cP)  (st : Sto) (f : Addr) (cdv : Value) (A : Around) (outer : List Env) (s : Shared) (H : Hp) (E : XK) (hr : Room 1 (A.deeper (envOfC "is_height" (defScope (top 22)) s.heap.objs.size f cdv))) : VSs (cxOf CX0 P w K mg base N_is_height "is_height" (defScope (top 22)) f cdv A outer s H E).nox st false (defBody (top 22)) (ws_is_height cW cL cP ) := (ss_cons (s_if (t_w (x_or (t_tru (VE.o (e_isi (m := "bool") g.b_isinstance g.b_bool (by decide +kernel) rfl (ov 0)))) (x_or1 (t_not (t_tru (VE.o (e_isi (m := "int") g.b_isinstance g.b_int (by decide +kernel) rfl (ov 0)))))))) (ss_one (s_ret e_bl)) ss_nil) (ss_one (s_ret (e_chain op_le op_le d_cm d_cm (VE.o (e_un un_neg d_neg (VE.o (e_gint g.i_HEIGHT_MOST)))) (ov 0) (VE.o (e_gint g.i_HEIGHT_MOST))))))
theorem sc_W_bonds : FnScope N_W_bonds p_W_bonds (defScope (inClass (top 29) 3)) := ⟨rfl, rfl, rfl, by decide +kernel, rfl, by decide +kernel, by decide +kernel⟩
theorem dv_W_bonds  (g : Pg P w K mg base cW cL cP)  (st : Sto) (f : Addr) (cdv : Value) (A : Around) (outer : List Env) (s : Shared) (H : Hp) (E : XK) (hr : Room 1 (A.deeper (envOfC "Web.bonds" (defScope (inClass (top 29) 3)) s.heap.objs.size f cdv))) : VSs (cxOf CX0 P w K mg base N_W_bonds "Web.bonds" (defScope (inClass (top 29) 3)) f cdv A outer s H E).nox st false (defBody (inClass (top 29) 3)) (ws_W_bonds cW cL cP ) := (ss_one (s_ret (VF.ve (f_ct call_list_of c_list g.b_list (by decide +kernel) (ab (VE.o (e_fld g.kW.cl g.nW_web_bonds (ov 0))) an)))))
theorem sc_LA___len__ : FnScope N_LA___len__ p_LA___len__ (defScope (inClass (top 31) 4)) := ⟨rfl, rfl, rfl, by decide +kernel, rfl, by decide +kernel, by decide +kernel⟩
theorem dv_LA___len__  (g : Pg P w K mg base cW cL cP)  (st : Sto) (f : Addr) (cdv : Value) (A : Around) (outer : List Env) (s : Shared) (H : Hp) (E : XK) (hr : Room 1 (A.deeper (envOfC "Land.__len__" (defScope (inClass (top 31) 4)) s.heap.objs.size f cdv))) : VSs (cxOf CX0 P w K mg base N_LA___len__ "Land.__len__" (defScope (inClass (top 31) 4)) f cdv A outer s H E).nox st false (defBody (inClass (top 31) 4)) (ws_LA___len__ cW cL cP ) := (ss_one (s_ret (e_cb call_len d_len g.b_len (by decide +kernel) (ab (VE.o (e_fld g.kLA.cl g.nLA_land_heights (ov 0))) an))))
theorem sc_need_same_web : FnScope N_need_same_web p_need_same_web (defScope (top 39)) := ⟨rfl, rfl, rfl, by decide +kernel, rfl, by decide +kernel, by decide +kernel⟩
theorem dv_need_same_web {C_W___eq__ : OC} (g : Pg P w K mg base cW cL cP) (c_W___eq__ : Me P w K mg base cW "__eq__" 2 C_W___eq__) (st : Sto) (f : Addr) (cdv : Value) (A : Around) (outer : List Env) (s : Shared) (H : Hp) (E : XK) (hr : Room 3 (A.deeper (envOfC "need_same_web" (defScope (top 39)) s.heap.objs.size f cdv))) : VSs (cxOf CX0 P w K mg base N_need_same_web "need_same_web" (defScope (top 39)) f cdv A outer s H E).nox st false (defBody (top 39)) (ws_need_same_web cW cL cP C_W___eq__) := (ss_one (s_if (t_neO c_W___eq__ hr g.neW g.kW.hm (VE.o (e_fld g.kLA.cl g.nLA_web (ov 1))) (VE.o (e_fld g.kLA.cl g.nLA_web (ov 0)))) (ss_one s_never) ss_nil))
theorem sc_broken_bonds : FnScope N_broken_bonds p_broken_bonds (defScope (top 46)) := ⟨rfl, rfl, rfl, by decide +kernel, rfl, by decide +kernel, by decide +kernel⟩
theorem dv_broken_bonds {C_need_same_web : OC} {C_broken_rows : OC} {C_slanted_bonds : OC} {C_LA_table : OC} (g : Pg P w K mg base cW cL cP) (c_need_same_web : Cl P w K mg base "need_same_web" 4 C_need_same_web) (c_broken_rows : Cl P w K mg base "broken_rows" 2 C_broken_rows) (c_slanted_bonds : Cl P w K mg base "slanted_bonds" 4 C_slanted_bonds) (c_LA_table : MeF P w K mg base cL "table" 2 C_LA_table) (st : Sto) (f : Addr) (cdv : Value) (A : Around) (outer : List Env) (s : Shared) (H : Hp) (E : XK) (hr : Room 5 (A.deeper (envOfC "broken_bonds" (defScope (top 46)) s.heap.objs.size f cdv))) : VSs (cxOf CX0 P w K mg base N_broken_bonds "broken_bonds" (defScope (top 46)) f cdv A outer s H E).nox st false (defBody (top 46)) (ws_broken_bonds cW cL cP C_need_same_web C_broken_rows C_slanted_bonds C_LA_table) := (ss_cons (s_expr (e_call c_need_same_web hr (ac (ev 0) (ac (ev 1) an)))) (ss_one (s_ret (e_call c_broken_rows hr (ac (e_call c_slanted_bonds hr (ac (ev 1) an)) (ac (VF.ve (f_meth0 g.kLA.cl c_LA_table hr (ov 0))) (ac (VF.ve (f_meth0 g.kLA.cl c_LA_table hr (ov 1))) an)))))))
theorem sc_P_inner : FnScope N_P_inner p_P_inner (defScope (inClass (top 54) 2)) := ⟨rfl, rfl, rfl, by decide +kernel, rfl, by decide +kernel, by decide +kernel⟩
theorem dv_P_inner  (g : Pg P w K mg base cW cL cP)  (st : Sto) (f : Addr) (cdv : Value) (A : Around) (outer : List Env) (s : Shared) (H : Hp) (E : XK) (hr : Room 1 (A.deeper (envOfC "Piece.inner" (defScope (inClass (top 54) 2)) s.heap.objs.size f cdv))) : VSs (cxOf CX0 P w K mg base N_P_inner "Piece.inner" (defScope (inClass (top 54) 2)) f cdv A outer s H E).nox st false (defBody (inClass (top 54) 2)) (ws_P_inner cW cL cP ) := (ss_one (s_ret (VF.ve (f_ct call_list_of c_list g.b_list (by decide +kernel) (ab (VE.o (e_fld g.kP.cl g.nP_own_inner (ov 0))) an)))))
theorem sc_show_of : FnScope N_show_of p_show_of (defScope (top 61)) := ⟨rfl, rfl, rfl, by decide +kernel, rfl, by decide +kernel, by decide +kernel⟩
theorem dv_show_of {C_W___eq__ : OC} {C_broken_bonds : OC} {C_P_border : OC} {C_springs : OC} {C_flats_of : OC} {C_LA___getitem__ : OC} (g : Pg P w K mg base cW cL cP) (c_W___eq__ : Me P w K mg base cW "__eq__" 2 C_W___eq__) (c_broken_bonds : Cl P w K mg base "broken_bonds" 6 C_broken_bonds) (c_P_border : Pr P w K mg base cP "border" 2 C_P_border) (c_springs : Cl P w K mg base "springs" 6 C_springs) (c_flats_of : Cl P w K mg base "flats_of" 7 C_flats_of) (c_LA___getitem__ : Me P w K mg base cL "__getitem__" 2 C_LA___getitem__) (st : Sto) (f : Addr) (cdv : Value) (A : Around) (outer : List Env) (s : Shared) (H : Hp) (E : XK) (hr : Room 8 (A.deeper (envOfC "show_of" (defScope (top 61)) s.heap.objs.size f cdv))) : VSs (cxOf CX0 P w K mg base N_show_of "show_of" (defScope (top 61)) f cdv A outer s H E).nox st false (defBody (top 61)) (ws_show_of cW cL cP C_W___eq__ C_broken_bonds C_P_border C_springs C_flats_of C_LA___getitem__) := (ss_cons (s_if (t_neO c_W___eq__ hr g.neW g.kW.hm (VE.o (e_fld g.kLA.cl g.nLA_web (ov 1))) (VE.o (e_fld g.kLA.cl g.nLA_web (VE.o (e_fld g.kP.cl g.nP_land (ov 0)))))) (ss_one s_never) ss_nil) (ss_cons (s_if (t_cmp op_gt d_cm (VE.o (e_cb call_len d_len g.b_len (by decide +kernel) (ab (VE.o (e_call c_broken_bonds hr (ac (e_fld g.kP.cl g.nP_land (ov 0)) (ac (ev 1) an)))) an))) (VE.o e_int)) (ss_one (s_ret e_non)) ss_nil) (ss_cons (s_set (i := 2) sc_show_of.nd (e_prop g.kP.cl c_P_border hr (ov 0))) (ss_cons (s_set (i := 3) sc_show_of.nd (e_call c_springs hr (ac (e_fld g.kP.cl g.nP_land (ov 0)) (ac (ev 1) an)))) (ss_cons (s_own (i := 4) sc_show_of.nd (f_lst an)) (ss_cons (s_for PassesOwn.never rfl (i_list (e_call c_flats_of hr (ac (ev 1) an))) (g_name (i := 5) sc_show_of.nd) (ss_cons (s_set (i := 6) sc_show_of.nd (e_cb (cr_any rfl) d_bools g.b_any (by decide +kernel) (ab (VF.o (f_lc (own := [("place", 8)]) rfl sc_show_of.nd (i_list (ev 5)) (blkOk_by (own := [("place", 8)]) (N := N_show_of) (sc := defScope (top 61)) (by decide +kernel)) (fun _ _ _ _ _ => (g_name (i := 8) sc_show_of.nd)) (fun _ _ _ _ _ => ts_nil) (fun _ _ _ _ _ => (e_cmp op_in_seq d_in (ov 8) (ov 3))))) an))) (ss_cons (s_set (i := 7) sc_show_of.nd (e_ct call_tuple_of c_tuple g.b_tuple (by decide +kernel) (ab (VF.o (f_lc (own := [("place", 8)]) rfl sc_show_of.nd (i_list (ev 5)) (blkOk_by (own := [("place", 8)]) (N := N_show_of) (sc := defScope (top 61)) (by decide +kernel)) (fun _ _ _ _ _ => (g_name (i := 8) sc_show_of.nd)) (fun _ _ _ _ _ => (ts_one (t_cmp op_in_seq d_in (ov 8) (ov 2)))) (fun _ _ _ _ _ => (ev 8)))) an))) (ss_one (s_if (t_cmp op_gt d_cm (VE.o (e_cb call_len d_len g.b_len (by decide +kernel) (ab (ov 7) an))) (VE.o e_int)) (ss_one (s_app (pv 4) (e_tup (ac (ev 7) (ac (ev 6) an))))) (ss_one (s_if (t_not (t_tru (ov 6))) (ss_one (s_ret e_non)) ss_nil))))))) (ss_one (s_ret (e_tup (ac (e_ct call_tuple_of c_tuple g.b_tuple (by decide +kernel) (ab (VF.o (f_lc (own := [("place", 8)]) rfl sc_show_of.nd (i_list (ev 2)) (blkOk_by (own := [("place", 8)]) (N := N_show_of) (sc := defScope (top 61)) (by decide +kernel)) (fun _ _ _ _ _ => (g_name (i := 8) sc_show_of.nd)) (fun _ _ _ _ _ => ts_nil) (fun _ _ _ _ _ => (e_ixO c_LA___getitem__ hr (ov 1) (ov 8))))) an)) (ac (e_ct call_tuple_of c_tuple g.b_tuple (by decide +kernel) (ab (VF.o (f_cb cr_sortedD (c_sortD (hu100 hr)) g.b_sorted (by decide +kernel) (ab (ov 4) an))) an)) an)))))))))))
theorem sc_law_name : FnScope N_law_name p_law_name (defScope (top 70)) := ⟨rfl, rfl, rfl, by decide +kernel, rfl, by decide +kernel, by decide +kernel⟩
theorem dv_law_name {C_law_take : OC} {C_law_pick : OC} {C_law_number : OC} (g : Pg P w K mg base cW cL cP) (c_law_take : Cl P w K mg base "_law_take" 3 C_law_take) (c_law_pick : Cl P w K mg base "_law_pick" 5 C_law_pick) (c_law_number : Cl P w K mg base "_law_number" 5 C_law_number) (st : Sto) (f : Addr) (cdv : Value) (A : Around) (outer : List Env) (s : Shared) (H : Hp) (E : XK) (hr : Room 6 (A.deeper (envOfC "_law_name" (defScope (top 70)) s.heap.objs.size f cdv))) : VSs (cxOf CX0 P w K mg base N_law_name "_law_name" (defScope (top 70)) f cdv A outer s H E).nox st false (defBody (top 70)) (ws_law_name cW cL cP C_law_take C_law_pick C_law_number) := (ss_cons (s_if (t_cmp (op_eqP hr.units) d_eq (VE.o (e_call c_law_take hr (ac (ev 0) (ac e_int an)))) (VE.o e_int)) (ss_cons (s_set (i := 1) sc_law_name.nd (VF.ve (f_lst (ac e_str (ac e_str (ac e_str (ac e_str (ac e_str (ac e_str (ac e_str (ac e_str (ac e_str (ac e_str (ac e_str (ac e_str (ac e_str (ac e_str (ac e_str an)))))))))))))))))) (ss_one (s_ret (e_call c_law_pick hr (ac (ev 0) (ab (VE.o (e_op op_addA d_add (ov 1) (VF.o (f_lst (ac e_str (ac e_str (ac e_str (ac e_str (ac e_str (ac e_str (ac e_str (ac e_str (ac e_str an))))))))))))) an)))))) ss_nil) (ss_cons (s_set (i := 2) sc_law_name.nd e_str) (ss_cons (s_set (i := 3) sc_law_name.nd (e_op op_addA d_add (ov 2) (VE.o e_str))) (ss_cons (s_set (i := 4) sc_law_name.nd (e_ix (ov 2) (VE.o (e_call c_law_take hr (ac (ev 0) (ac e_int an)))))) (ss_cons (s_for PassesOwn.never rfl (PImono (pi_range1 rfl g.b_range (ac (e_call c_law_number hr (ac (ev 0) (ac e_int (ac e_int an)))) an)) tI_r1) (g_name (i := 5) sc_law_name.nd) (ss_one (s_set (i := 4) sc_law_name.nd (e_op op_addA d_add (ov 4) (VE.o (e_ix (ov 3) (VE.o (e_call c_law_take hr (ac (ev 0) (ac e_int an)))))))))) (ss_cons (s_if (t_cmp (op_eqP hr.units) d_eq (ov 4) (VE.o e_str)) (ss_one (s_ret e_str)) ss_nil) (ss_one (s_ret (ev 4)))))))))
theorem sc_law_ends : FnScope N_law_ends p_law_ends (defScope (top 77)) := ⟨rfl, rfl, rfl, by decide +kernel, rfl, by decide +kernel, by decide +kernel⟩
theorem dv_law_ends {C_law_take : OC} {C_law_disorder : OC} {C_law_pick : OC} (g : Pg P w K mg base cW cL cP) (c_law_take : Cl P w K mg base "_law_take" 3 C_law_take) (c_law_disorder : Cl P w K mg base "_law_disorder" 5 C_law_disorder) (c_law_pick : Cl P w K mg base "_law_pick" 5 C_law_pick) (st : Sto) (f : Addr) (cdv : Value) (A : Around) (outer : List Env) (s : Shared) (H : Hp) (E : XK) (hr : Room 6 (A.deeper (envOfC "_law_ends" (defScope (top 77)) s.heap.objs.size f cdv))) : VSs (cxOf CX0 P w K mg base N_law_ends "_law_ends" (defScope (top 77)) f cdv A outer s H E).nox st false (defBody (top 77)) (ws_law_ends cW cL cP C_law_take C_law_disorder C_law_pick) := (ss_cons (s_if (t_cmp op_ltA d_lt (ov 1) (VE.o e_int)) (ss_one (s_ret (VF.ve (f_lst an)))) ss_nil) (ss_cons (s_set (i := 2) sc_law_ends.nd (e_call c_law_take hr (ac (ev 0) (ac e_int an)))) (ss_cons (s_set (i := 3) sc_law_ends.nd (e_call c_law_disorder hr (ac (ev 0) (ac (VF.ve (f_lrg rfl g.b_list g.b_range (ev 1))) an)))) (ss_cons (s_own (i := 4) sc_law_ends.nd (f_lst an)) (ss_cons (s_for PassesOwn.never rfl (PImono (pi_range2 rfl g.b_range (ac e_int (ac (ev 1) an))) tI_r2) (g_name (i := 5) sc_law_ends.nd) (ss_cons (s_set (i := 6) sc_law_ends.nd (e_op op_sub d_sub (ov 5) (VE.o e_int))) (ss_cons (s_if (t_cmp (op_eqP hr.units) d_eq (ov 2) (VE.o e_int)) (ss_one (s_set (i := 6) sc_law_ends.nd e_int)) ss_nil) (ss_cons (s_if (t_cmp op_in_seq d_in (ov 2) (VE.o (e_tup (ac e_int (ac e_int (ac e_int an)))))) (ss_one (s_set (i := 6) sc_law_ends.nd (e_call c_law_take hr (ac (ev 0) (ac (ev 5) an))))) ss_nil) (ss_one (s_if (t_w (x_or (t_cmp op_ltA d_lt (ov 2) (VE.o e_int)) (x_or1 (t_w (x_and (t_cmp op_ltA d_lt (ov 2) (VE.o e_int)) (x_and1 (t_cmp op_gt d_cm (VE.o (e_call c_law_take hr (ac (ev 0) (ac e_int an)))) (VE.o e_int)))))))) (ss_one (s_app (pv 4) (e_tup (ac (e_cb (call_min2 rfl) d_2c g.b_min (by decide +kernel) (ab (VE.o (e_ix (ov 3) (ov 5))) (ab (VE.o (e_ix (ov 3) (ov 6))) an))) (ac (e_cb (call_max2 rfl) d_2c g.b_max (by decide +kernel) (ab (VE.o (e_ix (ov 3) (ov 5))) (ab (VE.o (e_ix (ov 3) (ov 6))) an))) an))))) ss_nil)))))) (ss_cons (s_for PassesOwn.never rfl (PImono (pi_range1 rfl g.b_range (ac (e_call c_law_pick hr (ac (ev 0) (ab (VF.o (f_lst (ac e_int (ac e_int (ac e_int (ac e_int (ac e_int (ac e_int an)))))))) an))) an)) tI_r1) (g_name (i := 5) sc_law_ends.nd) (ss_one (s_if (t_w (x_and (t_cmp op_gt d_cm (VE.o (e_cb call_len d_len g.b_len (by decide +kernel) (ab (ov 4) an))) (VE.o e_int)) (x_and1 (t_cmp (op_eqP hr.units) d_eq (VE.o (e_call c_law_take hr (ac (ev 0) (ac e_int an)))) (VE.o e_int))))) (ss_one (s_app (pv 4) (e_call c_law_pick hr (ac (ev 0) (ab (ov 4) an))))) (ss_cons (s_set (i := 7) sc_law_ends.nd (e_call c_law_take hr (ac (ev 0) (ac (ev 1) an)))) (ss_cons (s_set (i := 8) sc_law_ends.nd (e_op op_mod d_mod (VE.o (e_ct call_int1 d_int g.b_int (by decide +kernel) (ab (VE.o (e_op op_addA d_add (VE.o (e_op op_addA d_add (ov 7) (VE.o e_int))) (VE.o (e_call c_law_take hr (ac (ev 0) (ac (e_op op_sub d_sub (ov 1) (VE.o e_int)) an)))))) an))) (ov 1))) (ss_one (s_app (pv 4) (e_tup (ac (e_cb (call_min2 rfl) d_2c g.b_min (by decide +kernel) (ab (ov 7) (ab (ov 8) an))) (ac (e_cb (call_max2 rfl) d_2c g.b_max (by decide +kernel) (ab (ov 7) (ab (ov 8) an))) an)))))))))) (ss_frz 4 (ss_one (s_ret (ev 4))))))))))
theorem sc_law_reach : FnScope N_law_reach p_law_reach (defScope (top 83)) := ⟨rfl, rfl, rfl, by decide +kernel, rfl, by decide +kernel, by decide +kernel⟩
theorem dv_law_reach {C_law_beside : OC} (g : Pg P w K mg base cW cL cP) (c_law_beside : Cl P w K mg base "_law_beside" 2 C_law_beside) (st : Sto) (f : Addr) (cdv : Value) (A : Around) (outer : List Env) (s : Shared) (H : Hp) (E : XK) (hr : Room 3 (A.deeper (envOfC "_law_reach" (defScope (top 83)) s.heap.objs.size f cdv))) : VSs (cxOf CX0 P w K mg base N_law_reach "_law_reach" (defScope (top 83)) f cdv A outer s H E).nox st false (defBody (top 83)) (ws_law_reach cW cL cP C_law_beside) := (ss_cons (s_own (i := 3) sc_law_reach.nd (f_lst (ac (ev 2) an))) (ss_cons (s_for PassesOwn.never rfl (PImono (pi_range1 rfl g.b_range (ac (e_cb call_len d_len g.b_len (by decide +kernel) (ab (ov 1) an)) an)) tI_r1) (g_name (i := 4) sc_law_reach.nd) (ss_one (s_if (t_cmp op_ltA d_lt (ov 4) (VE.o (e_cb call_len d_len g.b_len (by decide +kernel) (ab (ov 3) an)))) (ss_one (s_for PassesOwn.never rfl (i_list (e_call c_law_beside hr (ac (ev 0) (ac (e_ix (ov 3) (ov 4)) an)))) (g_name (i := 5) sc_law_reach.nd) (ss_one (s_if (t_w (x_and (t_cmp op_in_seq d_in (ov 5) (ov 1)) (x_and1 (t_cmp op_notIn_seq d_in (ov 5) (ov 3))))) (ss_one (s_app (pv 3) (ev 5))) ss_nil)))) ss_nil))) (ss_one (s_ret (VF.ve (f_cb cr_sortedS c_sortS g.b_sorted (by decide +kernel) (ab (ov 3) an)))))))
theorem sc_law_pieces : FnScope N_law_pieces p_law_pieces (defScope (top 89)) := ⟨rfl, rfl, rfl, by decide +kernel, rfl, by decide +kernel, by decide +kernel⟩
theorem dv_law_pieces {C_law_pick : OC} {C_law_names : OC} {C_law_disorder : OC} {C_law_bond_names : OC} {C_law_piece_land : OC} (g : Pg P w K mg base cW cL cP) (c_law_pick : Cl P w K mg base "_law_pick" 5 C_law_pick) (c_law_names : Cl P w K mg base "_law_names" 9 C_law_names) (c_law_disorder : Cl P w K mg base "_law_disorder" 5 C_law_disorder) (c_law_bond_names : Cl P w K mg base "_law_bond_names" 11 C_law_bond_names) (c_law_piece_land : Cl P w K mg base "_law_piece_land" 9 C_law_piece_land) (st : Sto) (f : Addr) (cdv : Value) (A : Around) (outer : List Env) (s : Shared) (H : Hp) (E : XK) (hr : Room 12 (A.deeper (envOfC "_law_pieces" (defScope (top 89)) s.heap.objs.size f cdv))) : VSs (cxOf CX0 P w K mg base N_law_pieces "_law_pieces" (defScope (top 89)) f cdv A outer s H E).nox st false (defBody (top 89)) (ws_law_pieces cW cL cP C_law_pick C_law_names C_law_disorder C_law_bond_names C_law_piece_land) := (ss_cons (s_set (i := 3) sc_law_pieces.nd (e_call c_law_pick hr (ac (ev 0) (ab (VF.o (f_lst (ac e_int (ac e_int (ac e_int (ac e_int (ac e_int (ac e_int an)))))))) an)))) (ss_cons (s_set (i := 4) sc_law_pieces.nd (e_cb (call_min2 rfl) d_2c g.b_min (by decide +kernel) (ab (VE.o (e_call c_law_pick hr (ac (ev 0) (ab (VF.o (f_lst (ac e_int (ac e_int (ac e_int (ac e_int (ac e_int (ac e_int an)))))))) an)))) (ab (VE.o (e_op op_sub d_sub (ov 1) (ov 3))) an)))) (ss_cons (s_set (i := 5) sc_law_pieces.nd (e_cb (call_min3 rfl) d_min3 g.b_min (by decide +kernel) (ab (VE.o (e_call c_law_pick hr (ac (ev 0) (ab (VF.o (f_lst (ac e_int (ac e_int (ac e_int (ac e_int (ac e_int (ac e_int an)))))))) an)))) (ab (VE.o (e_op op_sub d_sub (ov 1) (ov 3))) (ab (VE.o (e_op op_sub d_sub (VE.o (e_op op_sub d_sub (VE.o e_int) (ov 3))) (ov 4))) an))))) (ss_cons (s_set (i := 6) sc_law_pieces.nd (e_call c_law_names hr (ac (ev 0) (ac (e_op op_addA d_add (VE.o (e_op op_addA d_add (ov 3) (ov 4))) (ov 5)) an)))) (ss_cons (s_own (i := 7) sc_law_pieces.nd f_dic0) (ss_cons (s_for PassesOwn.never rfl (i_list (ev 6)) (g_name (i := 8) sc_law_pieces.nd) (ss_one (s_dput hr (pv 7) (ev 8) (e_call c_law_pick hr (ac (ev 0) (ab (ov 2) an)))))) (ss_cons (s_set (i := 9) sc_law_pieces.nd (e_call c_law_disorder hr (ac (ev 0) (ac (e_call c_law_bond_names hr (ac (ev 0) (ac (ev 6) (ac e_int an)))) an)))) (ss_frz 7 (ss_cons (s_set (i := 10) sc_law_pieces.nd (e_call c_law_piece_land hr (ac (ev 0) (ac (VF.ve (f_slL (ov 6) o_no (o_so (e_op op_addA d_add (ov 3) (ov 4))))) (ac (ev 9) (ac (ev 7) an)))))) (ss_cons (s_set (i := 11) sc_law_pieces.nd (e_call c_law_piece_land hr (ac (ev 0) (ac (e_op op_addA d_add (VF.o (f_slL (ov 6) o_no (o_so (ev 3)))) (VF.o (f_slL (ov 6) (o_so (e_op op_addA d_add (ov 3) (ov 4))) o_no))) (ac (e_ix (ov 10) (VE.o e_int)) (ac (ev 7) an)))))) (ss_one (s_ret (e_tup (ac (e_ix (ov 10) (VE.o e_int)) (ac (e_ix (ov 11) (VE.o e_int)) (ac (VF.ve (f_cb cr_sortedS c_sortS g.b_sorted (by decide +kernel) (ab (VF.o (f_slL (ov 6) o_no (o_so (ev 3)))) an))) an))))))))))))))))
theorem sc_law_glued_right : FnScope N_law_glued_right p_law_glued_right (defScope (top 95)) := ⟨rfl, rfl, rfl, by decide +kernel, rfl, by decide +kernel, by decide +kernel⟩
theorem dv_law_glued_right {C_law_make : OC} {C_law_glued : OC} {C_united : OC} {C_law_is_land : OC} {C_glue : OC} {C_show_of : OC} {C_law_same : OC} {C_law_show : OC} {C_law_papers : OC} {C_never_paper : OC} {C_comes : OC} {C_fits : OC} (g : Pg P w K mg base cW cL cP) (c_law_make : Cl P w K mg base "_law_make" 8 C_law_make) (c_law_glued : Cl P w K mg base "_law_glued" 4 C_law_glued) (c_united : Cl P w K mg base "united" 10 C_united) (c_law_is_land : Cl P w K mg base "_law_is_land" 10 C_law_is_land) (c_glue : Cl P w K mg base "glue" 10 C_glue) (c_show_of : Cl P w K mg base "show_of" 9 C_show_of) (c_law_same : Cl P w K mg base "_law_same" 8 C_law_same) (c_law_show : Cl P w K mg base "_law_show" 12 C_law_show) (c_law_papers : Cl P w K mg base "_law_papers" 10 C_law_papers) (c_never_paper : Cl P w K mg base "never_paper" 11 C_never_paper) (c_comes : Cl P w K mg base "comes" 11 C_comes) (c_fits : Cl P w K mg base "fits" 2 C_fits) (st : Sto) (f : Addr) (cdv : Value) (A : Around) (outer : List Env) (s : Shared) (H : Hp) (E : XK) (hr : Room 13 (A.deeper (envOfC "_law_glued_right" (defScope (top 95)) s.heap.objs.size f cdv))) : VSs (cxOf CX0 P w K mg base N_law_glued_right "_law_glued_right" (defScope (top 95)) f cdv A outer s H E).nox st false (defBody (top 95)) (ws_law_glued_right cW cL cP C_law_make C_law_glued C_united C_law_is_land C_glue C_show_of C_law_same C_law_show C_law_papers C_never_paper C_comes C_fits) := (ss_cons (s_set (i := 2) sc_law_glued_right.nd (VF.ve (f_lst (ac (e_call c_law_make hr (ac (e_ix (ov 0) (VE.o e_int)) an)) (ac (e_call c_law_make hr (ac (e_ix (ov 0) (VE.o e_int)) an)) an))))) (ss_cons (s_set (i := 3) sc_law_glued_right.nd (e_call c_law_glued hr (ac (e_ix (ov 0) (VE.o e_int)) (ac (e_ix (ov 0) (VE.o e_int)) an)))) (ss_cons (s_set (i := 4) sc_law_glued_right.nd (e_call c_law_glued hr (ac (e_ix (ov 0) (VE.o e_int)) (ac (e_ix (ov 0) (VE.o e_int)) an)))) (ss_cons (s_set (i := 5) sc_law_glued_right.nd (e_call c_united hr (ac (e_ix (ov 1) (VE.o e_int)) (ac (e_ix (ov 1) (VE.o e_int)) (ac (e_ix (ov 2) (VE.o e_int)) (ac (e_ix (ov 2) (VE.o e_int)) an)))))) (ss_cons (s_if (t_w (x_or (t_not (t_tru (VE.o (e_call c_law_is_land hr (ac (ev 5) (ac (ev 4) an)))))) (x_or1 (t_not (t_tru (VE.o (e_call c_law_is_land hr (ac (e_call c_united hr (ac (e_ix (ov 1) (VE.o e_int)) (ac (e_ix (ov 1) (VE.o e_int)) (ac (e_ix (ov 2) (VE.o e_int)) (ac (e_ix (ov 2) (VE.o e_int)) an))))) (ac (ev 4) an))))))))) (ss_one (s_ret e_bl)) ss_nil) (ss_cons (s_set (i := 6) sc_law_glued_right.nd (e_call c_glue hr (ac (e_ix (ov 1) (VE.o e_int)) (ac (e_ix (ov 1) (VE.o e_int)) an)))) (ss_cons (s_if (t_w (x_or (t_not (t_tru (VE.o (e_call c_law_is_land hr (ac (ev 6) (ac (ev 3) an)))))) (x_or1 (t_not (t_tru (VE.o (e_call c_law_is_land hr (ac (e_call c_glue hr (ac (e_ix (ov 1) (VE.o e_int)) (ac (e_ix (ov 1) (VE.o e_int)) an))) (ac (ev 3) an))))))))) (ss_one (s_ret e_bl)) ss_nil) (ss_cons (s_set (i := 7) sc_law_glued_right.nd (e_call c_show_of hr (ac (e_ix (ov 1) (VE.o e_int)) (ac (e_ix (ov 2) (VE.o e_int)) an)))) (ss_cons (s_set (i := 8) sc_law_glued_right.nd (e_call c_show_of hr (ac (e_ix (ov 1) (VE.o e_int)) (ac (e_ix (ov 2) (VE.o e_int)) an)))) (ss_cons (s_if (t_not (t_tru (VE.o (e_call c_law_same hr (ac (ev 7) (ac (e_call c_law_show hr (ac (e_ix (ov 0) (VE.o e_int)) (ac (e_ix (ov 0) (VE.o e_int)) (ac (e_ix (ov 0) (VE.o e_int)) an)))) an)))))) (ss_one (s_ret e_bl)) ss_nil) (ss_cons (s_if (t_not (t_tru (VE.o (e_call c_law_same hr (ac (ev 8) (ac (e_call c_law_show hr (ac (e_ix (ov 0) (VE.o e_int)) (ac (e_ix (ov 0) (VE.o e_int)) (ac (e_ix (ov 0) (VE.o e_int)) an)))) an)))))) (ss_one (s_ret e_bl)) ss_nil) (ss_cons (s_set (i := 9) sc_law_glued_right.nd (e_call c_law_papers hr (ac (ev 3) (ac (ev 4) an)))) (ss_cons (s_set (i := 10) sc_law_glued_right.nd (e_cmp (op_eqP hr.units) d_eq (ov 9) (VF.o (f_lst an)))) (ss_cons (s_if (t_not (t_tru (VE.o (e_call c_law_same hr (ac (e_call c_never_paper hr (ac (ev 6) (ac (ev 5) an))) (ac (e_ix (VE.o (e_op op_addA d_add (ov 9) (VF.o (f_lst (ac e_non an))))) (VE.o e_int)) an)))))) (ss_one (s_ret e_bl)) ss_nil) (ss_cons (s_if (t_w (x_or (t_not (t_tru (VE.o (e_call c_law_same hr (ac (e_call c_comes hr (ac (ev 6) (ac (ev 5) an))) (ac (ev 10) an)))))) (x_or1 (t_not (t_tru (VE.o (e_call c_law_same hr (ac (e_call c_comes hr (ac (e_call c_law_make hr (ac (ev 3) an)) (ac (e_call c_law_make hr (ac (ev 4) an)) an))) (ac (ev 10) an))))))))) (ss_one (s_ret e_bl)) ss_nil) (ss_cons (s_if (t_w (x_or (t_isN (ov 7)) (x_or1 (t_isN (ov 8))))) (ss_one (s_ret (e_notT (ov 10)))) ss_nil) (ss_one (s_ret (e_call c_law_same hr (ac (VF.ve (f_lst (ac (e_call c_fits hr (ac (ev 7) (ac (ev 8) an))) (ac (e_call c_fits hr (ac (ev 8) (ac (ev 7) an))) an)))) (ac (VF.ve (f_lst (ac (ev 10) (ac (ev 10) an)))) an)))))))))))))))))))))
end
end VL
/-! text G2 -/
namespace VL
open PySem PySem.Spec PyProof.Rows L2
section
variable {P : Program} {w : World} {K : PySem.W.Frag} {mg : Str → Option Value} {base : Heap} {cW cL cP : Addr}
theorem sc_need_names : FnScope N_need_names p_need_names (defScope (top 23)) := ⟨rfl, rfl, rfl, by decide +kernel, rfl, by decide +kernel, by decide +kernel⟩
theorem dv_need_names {C_is_name : OC} (g : Pg P w K mg base cW cL cP) (c_is_name : Cl P w K mg base "is_name" 2 C_is_name) (st : Sto) (f : Addr) (cdv : Value) (A : Around) (outer : List Env) (s : Shared) (H : Hp) (E : XK) (hr : Room 3 (A.deeper (envOfC "need_names" (defScope (top 23)) s.heap.objs.size f cdv))) : VSs (cxOf CX0 P w K mg base N_need_names "need_names" (defScope (top 23)) f cdv A outer s H E).nox st false (defBody (top 23)) (ws_need_names cW cL cP C_is_name) := (ss_cons (s_if (t_w (x_or (t_cmp op_ltA d_lt (VE.o (e_cb call_len d_len g.b_len (by decide +kernel) (ab (ov 0) an))) (ov 2)) (x_or1 (t_cmp op_gt d_cm (VE.o (e_cb call_len d_len g.b_len (by decide +kernel) (ab (ov 0) an))) (ov 3))))) (ss_one s_never) ss_nil) (ss_cons (s_own (i := 4) sc_need_names.nd f_dic0) (ss_cons (s_for PassesOwn.never rfl (i_list (ev 0)) (g_name (i := 5) sc_need_names.nd) (ss_cons (s_if (t_not (t_tru (VE.o (e_call c_is_name hr (ac (ev 5) an))))) (ss_one s_never) ss_nil) (ss_cons (s_if (t_inD hr (ov 5) (ov 4)) (ss_one s_never) ss_nil) (ss_one (s_dput hr (pv 4) (ev 5) e_bl))))) (ss_one (s_ret (VF.ve (f_cb cr_sortedS c_sortS g.b_sorted (by decide +kernel) (ab (ov 0) an))))))))
theorem sc_W___len__ : FnScope N_W___len__ p_W___len__ (defScope (inClass (top 29) 4)) := ⟨rfl, rfl, rfl, by decide +kernel, rfl, by decide +kernel, by decide +kernel⟩
theorem dv_W___len__  (g : Pg P w K mg base cW cL cP)  (st : Sto) (f : Addr) (cdv : Value) (A : Around) (outer : List Env) (s : Shared) (H : Hp) (E : XK) (hr : Room 1 (A.deeper (envOfC "Web.__len__" (defScope (inClass (top 29) 4)) s.heap.objs.size f cdv))) : VSs (cxOf CX0 P w K mg base N_W___len__ "Web.__len__" (defScope (inClass (top 29) 4)) f cdv A outer s H E).nox st false (defBody (inClass (top 29) 4)) (ws_W___len__ cW cL cP ) := (ss_one (s_ret (e_cb call_len d_len g.b_len (by decide +kernel) (ab (VE.o (e_fld g.kW.cl g.nW_web_places (ov 0))) an))))
theorem sc_LA___contains__ : FnScope N_LA___contains__ p_LA___contains__ (defScope (inClass (top 31) 5)) := ⟨rfl, rfl, rfl, by decide +kernel, rfl, by decide +kernel, by decide +kernel⟩
theorem dv_LA___contains__  (g : Pg P w K mg base cW cL cP)  (st : Sto) (f : Addr) (cdv : Value) (A : Around) (outer : List Env) (s : Shared) (H : Hp) (E : XK) (hr : Room 1 (A.deeper (envOfC "Land.__contains__" (defScope (inClass (top 31) 5)) s.heap.objs.size f cdv))) : VSs (cxOf CX0 P w K mg base N_LA___contains__ "Land.__contains__" (defScope (inClass (top 31) 5)) f cdv A outer s H E).nox st false (defBody (inClass (top 31) 5)) (ws_LA___contains__ cW cL cP ) := (ss_one (s_ret (e_cmp op_in_seq d_in (ov 1) (VE.o (e_fld g.kW.cl g.nW_web_places (VE.o (e_fld g.kLA.cl g.nLA_web (ov 0))))))))
theorem sc_slanted_bonds : FnScope N_slanted_bonds p_slanted_bonds (defScope (top 41)) := ⟨rfl, rfl, rfl, by decide +kernel, rfl, by decide +kernel, by decide +kernel⟩
theorem dv_slanted_bonds {C_LA_table : OC} {C_W_bonds : OC} (g : Pg P w K mg base cW cL cP) (c_LA_table : MeF P w K mg base cL "table" 2 C_LA_table) (c_W_bonds : Pr P w K mg base cW "bonds" 2 C_W_bonds) (st : Sto) (f : Addr) (cdv : Value) (A : Around) (outer : List Env) (s : Shared) (H : Hp) (E : XK) (hr : Room 3 (A.deeper (envOfC "slanted_bonds" (defScope (top 41)) s.heap.objs.size f cdv))) : VSs (cxOf CX0 P w K mg base N_slanted_bonds "slanted_bonds" (defScope (top 41)) f cdv A outer s H E).nox st false (defBody (top 41)) (ws_slanted_bonds cW cL cP C_LA_table C_W_bonds) := (ss_cons (s_set (i := 1) sc_slanted_bonds.nd (VF.ve (f_meth0 g.kLA.cl c_LA_table hr (ov 0)))) (ss_cons (s_own (i := 2) sc_slanted_bonds.nd (f_lst an)) (ss_cons (s_for PassesOwn.never rfl (i_list (e_prop g.kW.cl c_W_bonds hr (VE.o (e_fld g.kLA.cl g.nLA_web (ov 0))))) (g_tup rfl (gs_cons (g_name (i := 3) sc_slanted_bonds.nd) (gs_cons (g_name (i := 4) sc_slanted_bonds.nd) (gs_cons (g_name (i := 5) sc_slanted_bonds.nd) gs_nil)))) (ss_one (s_if (t_cmp op_gt d_cm (VE.o (e_dget hr (ov 1) (ov 4))) (VE.o (e_dget hr (ov 1) (ov 5)))) (ss_one (s_app (pv 2) (e_tup (ac (ev 3) (ac (ev 4) (ac (ev 5) an)))))) (ss_one (s_if (t_cmp op_ltA d_lt (VE.o (e_dget hr (ov 1) (ov 4))) (VE.o (e_dget hr (ov 1) (ov 5)))) (ss_one (s_app (pv 2) (e_tup (ac (ev 3) (ac (ev 5) (ac (ev 4) an)))))) ss_nil))))) (ss_frz 2 (ss_one (s_ret (ev 2)))))))
theorem sc_comes : FnScope N_comes p_comes (defScope (top 47)) := ⟨rfl, rfl, rfl, by decide +kernel, rfl, by decide +kernel, by decide +kernel⟩
theorem dv_comes {C_broken_bonds : OC} {C_dry_flats : OC} (g : Pg P w K mg base cW cL cP) (c_broken_bonds : Cl P w K mg base "broken_bonds" 6 C_broken_bonds) (c_dry_flats : Cl P w K mg base "dry_flats" 9 C_dry_flats) (st : Sto) (f : Addr) (cdv : Value) (A : Around) (outer : List Env) (s : Shared) (H : Hp) (E : XK) (hr : Room 10 (A.deeper (envOfC "comes" (defScope (top 47)) s.heap.objs.size f cdv))) : VSs (cxOf CX0 P w K mg base N_comes "comes" (defScope (top 47)) f cdv A outer s H E).nox st false (defBody (top 47)) (ws_comes cW cL cP C_broken_bonds C_dry_flats) := (ss_one (s_ret (e_and (e_notT (VE.o (e_call c_broken_bonds hr (ac (ev 0) (ac (ev 1) an))))) (e_one (e_notT (VE.o (e_call c_dry_flats hr (ac (ev 0) (ac (ev 1) an)))))))))
theorem sc_need_same_border : FnScope N_need_same_border p_need_same_border (defScope (top 55)) := ⟨rfl, rfl, rfl, by decide +kernel, rfl, by decide +kernel, by decide +kernel⟩
theorem dv_need_same_border {C_P_border : OC} {C_LA___getitem__ : OC} (g : Pg P w K mg base cW cL cP) (c_P_border : Pr P w K mg base cP "border" 2 C_P_border) (c_LA___getitem__ : Me P w K mg base cL "__getitem__" 2 C_LA___getitem__) (st : Sto) (f : Addr) (cdv : Value) (A : Around) (outer : List Env) (s : Shared) (H : Hp) (E : XK) (hr : Room 3 (A.deeper (envOfC "need_same_border" (defScope (top 55)) s.heap.objs.size f cdv))) : VSs (cxOf CX0 P w K mg base N_need_same_border "need_same_border" (defScope (top 55)) f cdv A outer s H E).nox st false (defBody (top 55)) (ws_need_same_border cW cL cP C_P_border C_LA___getitem__) := (ss_cons (s_if (t_cmp (op_neP hr.units) d_ne (VE.o (e_prop g.kP.cl c_P_border hr (ov 0))) (VE.o (e_prop g.kP.cl c_P_border hr (ov 1)))) (ss_one s_never) ss_nil) (ss_one (s_for PassesOwn.never rfl (i_list (e_prop g.kP.cl c_P_border hr (ov 0))) (g_name (i := 2) sc_need_same_border.nd) (ss_one (s_if (t_cmp (op_neP hr.units) d_ne (VE.o (e_ixO c_LA___getitem__ hr (VE.o (e_fld g.kP.cl g.nP_land (ov 0))) (ov 2))) (VE.o (e_ixO c_LA___getitem__ hr (VE.o (e_fld g.kP.cl g.nP_land (ov 1))) (ov 2)))) (ss_one s_never) ss_nil)))))
theorem sc_fits : FnScope N_fits p_fits (defScope (top 62)) := ⟨rfl, rfl, rfl, by decide +kernel, rfl, by decide +kernel, by decide +kernel⟩
theorem dv_fits  (g : Pg P w K mg base cW cL cP)  (st : Sto) (f : Addr) (cdv : Value) (A : Around) (outer : List Env) (s : Shared) (H : Hp) (E : XK) (hr : Room 1 (A.deeper (envOfC "fits" (defScope (top 62)) s.heap.objs.size f cdv))) : VSs (cxOf CX0 P w K mg base N_fits "fits" (defScope (top 62)) f cdv A outer s H E).nox st false (defBody (top 62)) (ws_fits cW cL cP ) := (ss_cons (s_if (t_cmp (op_neP hr.units) d_ne (VE.o (e_ix (ov 0) (VE.o e_int))) (VE.o (e_ix (ov 1) (VE.o e_int)))) (ss_one (s_ret e_bl)) ss_nil) (ss_cons (s_set (i := 2) sc_fits.nd (VF.ve (f_lst an))) (ss_cons (s_for PassesOwn.never rfl (i_tup (e_op op_addA d_add (VE.o (e_ix (ov 0) (VE.o e_int))) (VE.o (e_ix (ov 1) (VE.o e_int))))) (g_tup rfl (gs_cons (g_name (i := 3) sc_fits.nd) (gs_cons (g_name (i := 4) sc_fits.nd) gs_nil))) (ss_cons (s_set (i := 5) sc_fits.nd (VF.ve (f_ct call_list_of c_list g.b_list (by decide +kernel) (ab (ov 3) an)))) (ss_cons (s_set (i := 6) sc_fits.nd (ev 4)) (ss_cons (s_own (i := 7) sc_fits.nd (f_lst an)) (ss_cons (s_for PassesOwn.never rfl (i_list (ev 2)) (g_name (i := 8) sc_fits.nd) (ss_one (s_if (t_tru (VE.o (e_cb (cr_any rfl) d_bools g.b_any (by decide +kernel) (ab (VF.o (f_lc (own := [("place", 9)]) rfl sc_fits.nd (i_list (e_ix (ov 8) (VE.o e_int))) (blkOk_by (own := [("place", 9)]) (N := N_fits) (sc := defScope (top 62)) (by decide +kernel)) (fun _ _ _ _ _ => (g_name (i := 9) sc_fits.nd)) (fun _ _ _ _ _ => ts_nil) (fun _ _ _ _ _ => (e_cmp op_in_seq d_in (ov 9) (ov 3))))) an)))) (ss_cons (s_set (i := 5) sc_fits.nd (e_op op_addA d_add (ov 5) (VE.o (e_ix (ov 8) (VE.o e_int))))) (ss_one (s_set (i := 6) sc_fits.nd (e_or (ev 6) (e_one (e_ix (ov 8) (VE.o e_int))))))) (ss_one (s_app (pv 7) (ev 8)))))) (ss_one (s_set (i := 2) sc_fits.nd (e_op op_addA d_add (ov 7) (VF.o (f_lst (ac (e_tup (ac (ev 5) (ac (ev 6) an))) an))))))))))) (ss_one (s_ret (e_cb (cr_all rfl) d_bools g.b_all (by decide +kernel) (ab (VF.o (f_lc (own := [("one", 10)]) rfl sc_fits.nd (i_list (ev 2)) (blkOk_by (own := [("one", 10)]) (N := N_fits) (sc := defScope (top 62)) (by decide +kernel)) (fun _ _ _ _ _ => (g_name (i := 10) sc_fits.nd)) (fun _ _ _ _ _ => ts_nil) (fun _ _ _ _ _ => (e_ix (ov 10) (VE.o e_int))))) an)))))))
theorem sc_law_names : FnScope N_law_names p_law_names (defScope (top 71)) := ⟨rfl, rfl, rfl, by decide +kernel, rfl, by decide +kernel, by decide +kernel⟩
theorem dv_law_names {C_law_take : OC} {C_law_name : OC} {C_law_unlike : OC} {C_law_disorder : OC} (g : Pg P w K mg base cW cL cP) (c_law_take : Cl P w K mg base "_law_take" 3 C_law_take) (c_law_name : Cl P w K mg base "_law_name" 7 C_law_name) (c_law_unlike : Cl P w K mg base "_law_unlike" 2 C_law_unlike) (c_law_disorder : Cl P w K mg base "_law_disorder" 5 C_law_disorder) (st : Sto) (f : Addr) (cdv : Value) (A : Around) (outer : List Env) (s : Shared) (H : Hp) (E : XK) (hr : Room 8 (A.deeper (envOfC "_law_names" (defScope (top 71)) s.heap.objs.size f cdv))) : VSs (cxOf CX0 P w K mg base N_law_names "_law_names" (defScope (top 71)) f cdv A outer s H E).nox st false (defBody (top 71)) (ws_law_names cW cL cP C_law_take C_law_name C_law_unlike C_law_disorder) := (ss_cons (s_set (i := 2) sc_law_names.nd e_str) (ss_cons (s_set (i := 3) sc_law_names.nd (e_call c_law_take hr (ac (ev 0) (ac e_int an)))) (ss_cons (s_own (i := 4) sc_law_names.nd (f_lst an)) (ss_cons (s_set (i := 5) sc_law_names.nd e_int) (ss_cons (s_for PassesOwn.never rfl (PImono (pi_range1 rfl g.b_range (ac (ev 1) an)) tI_r1) (g_name (i := 6) sc_law_names.nd) (ss_cons (s_set (i := 5) sc_law_names.nd (e_op op_addA d_add (ov 5) (VE.o e_int))) (ss_cons (s_if (t_w (x_and (t_cmp (op_eqP hr.units) d_eq (ov 3) (VE.o e_int)) (x_and1 (t_cmp op_le d_cm (ov 1) (VE.o e_int))))) (ss_one (s_set (i := 7) sc_law_names.nd (e_ix (ov 2) (ov 6)))) (ss_one (s_if (t_cmp (op_eqP hr.units) d_eq (ov 3) (VE.o e_int)) (ss_cons (s_set (i := 5) sc_law_names.nd (e_op op_addA d_add (ov 5) (VE.o (e_call c_law_take hr (ac (ev 0) (ac e_int an)))))) (ss_one (s_set (i := 7) sc_law_names.nd (e_op op_addA d_add (VE.o e_str) (VE.o (e_ct call_str_int d_str g.b_str (by decide +kernel) (ab (ov 5) an))))))) (ss_one (s_if (t_cmp (op_eqP hr.units) d_eq (ov 3) (VE.o e_int)) (ss_one (s_set (i := 7) sc_law_names.nd (e_op op_repS d_rep (VE.o (e_ix (ov 2) (VE.o (e_op op_fdiv d_div (ov 6) (VE.o e_int))))) (VE.o (e_op op_addA d_add (VE.o e_int) (VE.o (e_op op_mod d_mod (ov 6) (VE.o e_int)))))))) (ss_cons (s_set (i := 7) sc_law_names.nd (e_call c_law_name hr (ac (ev 0) an))) (ss_one (s_if (t_cmp op_in_seq d_in (ov 7) (ov 4)) (ss_one (s_set (i := 7) sc_law_names.nd (e_call c_law_unlike hr (ac (e_slS (ov 7) o_no (o_so e_int)) (ab (ov 4) an))))) ss_nil)))))))) (ss_one (s_app (pv 4) (ev 7)))))) (ss_cons (s_if (t_cmp op_ltA d_lt (ov 3) (VE.o e_int)) (ss_frz 4 (ss_one (s_ret (e_call c_law_disorder hr (ac (ev 0) (ac (ev 4) an)))))) ss_nil) (ss_frz 4 (ss_one (s_ret (ev 4))))))))))
theorem sc_law_bond_names : FnScope N_law_bond_names p_law_bond_names (defScope (top 78)) := ⟨rfl, rfl, rfl, by decide +kernel, rfl, by decide +kernel, by decide +kernel⟩
theorem dv_law_bond_names {C_law_take : OC} {C_law_names : OC} {C_law_stranger : OC} (g : Pg P w K mg base cW cL cP) (c_law_take : Cl P w K mg base "_law_take" 3 C_law_take) (c_law_names : Cl P w K mg base "_law_names" 9 C_law_names) (c_law_stranger : Cl P w K mg base "_law_stranger" 9 C_law_stranger) (st : Sto) (f : Addr) (cdv : Value) (A : Around) (outer : List Env) (s : Shared) (H : Hp) (E : XK) (hr : Room 10 (A.deeper (envOfC "_law_bond_names" (defScope (top 78)) s.heap.objs.size f cdv))) : VSs (cxOf CX0 P w K mg base N_law_bond_names "_law_bond_names" (defScope (top 78)) f cdv A outer s H E).nox st false (defBody (top 78)) (ws_law_bond_names cW cL cP C_law_take C_law_names C_law_stranger) := (ss_cons (s_set (i := 3) sc_law_bond_names.nd (e_call c_law_take hr (ac (ev 0) (ac e_int an)))) (ss_cons (s_if (t_cmp op_ltA d_lt (ov 3) (VE.o e_int)) (ss_one (s_ret (VF.ve (f_lc (own := [("_law_k", 5)]) rfl sc_law_bond_names.nd (PImono (pi_range1 rfl g.b_range (ac (ev 2) an)) tI_r1) (blkOk_by (own := [("_law_k", 5)]) (N := N_law_bond_names) (sc := defScope (top 78)) (by decide +kernel)) (fun _ _ _ _ _ => (g_name (i := 5) sc_law_bond_names.nd)) (fun _ _ _ _ _ => ts_nil) (fun _ _ _ _ _ => (e_op op_addA d_add (VE.o e_str) (VE.o (e_ct call_str_int d_str g.b_str (by decide +kernel) (ab (VE.o (e_op op_addA d_add (ov 5) (VE.o e_int))) an))))))))) ss_nil) (ss_cons (s_if (t_cmp (op_eqP hr.units) d_eq (ov 3) (VE.o e_int)) (ss_one (s_ret (e_call c_law_names hr (ac (ev 0) (ac (ev 2) an))))) ss_nil) (ss_cons (s_own (i := 4) sc_law_bond_names.nd (f_slL (ov 1) o_no (o_so (ev 2)))) (ss_cons (s_for PassesOwn.never rfl (PImono (pi_range1 rfl g.b_range (ac (e_op op_sub d_sub (ov 2) (VE.o (e_cb call_len d_len g.b_len (by decide +kernel) (ab (ov 4) an)))) an)) tI_r1) (g_name (i := 5) sc_law_bond_names.nd) (ss_one (s_app (pv 4) (e_call c_law_stranger hr (ac (ev 0) (ab (ov 4) an)))))) (ss_frz 4 (ss_one (s_ret (ev 4)))))))))
theorem sc_law_height : FnScope N_law_height p_law_height (defScope (top 84)) := ⟨rfl, rfl, rfl, by decide +kernel, rfl, by decide +kernel, by decide +kernel⟩
theorem dv_law_height  (g : Pg P w K mg base cW cL cP)  (st : Sto) (f : Addr) (cdv : Value) (A : Around) (outer : List Env) (s : Shared) (H : Hp) (E : XK) (hr : Room 1 (A.deeper (envOfC "_law_height" (defScope (top 84)) s.heap.objs.size f cdv))) : VSs (cxOf CX0 P w K mg base N_law_height "_law_height" (defScope (top 84)) f cdv A outer s H E).nox st false (defBody (top 84)) (ws_law_height cW cL cP ) := (ss_one (s_ret (e_ix (VE.o (e_ix (ov 0) (VE.o e_int))) (VE.o (e_index (VE.o (e_ix (ov 0) (VE.o e_int))) (ov 1))))))
theorem sc_law_glued : FnScope N_law_glued p_law_glued (defScope (top 90)) := ⟨rfl, rfl, rfl, by decide +kernel, rfl, by decide +kernel, by decide +kernel⟩
theorem dv_law_glued {C_law_height : OC} (g : Pg P w K mg base cW cL cP) (c_law_height : Cl P w K mg base "_law_height" 2 C_law_height) (st : Sto) (f : Addr) (cdv : Value) (A : Around) (outer : List Env) (s : Shared) (H : Hp) (E : XK) (hr : Room 3 (A.deeper (envOfC "_law_glued" (defScope (top 90)) s.heap.objs.size f cdv))) : VSs (cxOf CX0 P w K mg base N_law_glued "_law_glued" (defScope (top 90)) f cdv A outer s H E).nox st false (defBody (top 90)) (ws_law_glued cW cL cP C_law_height) := (ss_cons (s_set (i := 2) sc_law_glued.nd (VF.ve (f_cb cr_sortedS c_sortS g.b_sorted (by decide +kernel) (ab (VE.o (e_op op_addA d_add (VE.o (e_ix (ov 0) (VE.o e_int))) (VF.o (f_lc (own := [("_law_place", 4)]) rfl sc_law_glued.nd (i_list (e_ix (ov 1) (VE.o e_int))) (blkOk_by (own := [("_law_place", 4)]) (N := N_law_glued) (sc := defScope (top 90)) (by decide +kernel)) (fun _ _ _ _ _ => (g_name (i := 4) sc_law_glued.nd)) (fun _ _ _ _ _ => (ts_one (t_cmp op_notIn_seq d_in (ov 4) (VE.o (e_ix (ov 0) (VE.o e_int)))))) (fun _ _ _ _ _ => (ev 4)))))) an)))) (ss_cons (s_own (i := 3) sc_law_glued.nd (f_lst an)) (ss_cons (s_for PassesOwn.never rfl (i_list (ev 2)) (g_name (i := 4) sc_law_glued.nd) (ss_one (s_if (t_cmp op_in_seq d_in (ov 4) (VE.o (e_ix (ov 0) (VE.o e_int)))) (ss_one (s_app (pv 3) (e_call c_law_height hr (ac (ev 0) (ac (ev 4) an))))) (ss_one (s_app (pv 3) (e_call c_law_height hr (ac (ev 1) (ac (ev 4) an)))))))) (ss_frz 3 (ss_one (s_ret (e_tup (ac (ev 2) (ac (VF.ve (f_cb cr_sortedD (c_sortD (hu100 hr)) g.b_sorted (by decide +kernel) (ab (VE.o (e_op op_addA d_add (VE.o (e_ix (ov 0) (VE.o e_int))) (VE.o (e_ix (ov 1) (VE.o e_int))))) an))) (ac (ev 3) an))))))))))
end
end VL
/-! text G3 -/
namespace VL
open PySem PySem.Spec PyProof.Rows L2
section
variable {P : Program} {w : World} {K : PySem.W.Frag} {mg : Str → Option Value} {base : Heap} {cW cL cP : Addr}
theorem sc_bond_row : FnScope N_bond_row p_bond_row (defScope (top 25)) := ⟨rfl, rfl, rfl, by decide +kernel, rfl, by decide +kernel, by decide +kernel⟩
theorem dv_bond_row  (g : Pg P w K mg base cW cL cP)  (st : Sto) (f : Addr) (cdv : Value) (A : Around) (outer : List Env) (s : Shared) (H : Hp) (E : XK) (hr : Room 1 (A.deeper (envOfC "bond_row" (defScope (top 25)) s.heap.objs.size f cdv))) : VSs (cxOf CX0 P w K mg base N_bond_row "bond_row" (defScope (top 25)) f cdv A outer s H E).nox st false (defBody (top 25)) (ws_bond_row cW cL cP ) := (ss_cons (s_if (t_cmp op_ltA d_lt (ov 1) (ov 2)) (ss_one (s_ret (e_tup (ac (ev 0) (ac (ev 1) (ac (ev 2) an)))))) ss_nil) (ss_one (s_ret (e_tup (ac (ev 0) (ac (ev 2) (ac (ev 1) an)))))))
theorem sc_W___eq__ : FnScope N_W___eq__ p_W___eq__ (defScope (inClass (top 29) 7)) := ⟨rfl, rfl, rfl, by decide +kernel, rfl, by decide +kernel, by decide +kernel⟩
theorem dv_W___eq__  (g : Pg P w K mg base cW cL cP)  (st : Sto) (f : Addr) (cdv : Value) (A : Around) (outer : List Env) (s : Shared) (H : Hp) (E : XK) (hr : Room 1 (A.deeper (envOfC "Web.__eq__" (defScope (inClass (top 29) 7)) s.heap.objs.size f cdv))) : VSs (cxOf CX0 P w K mg base N_W___eq__ "Web.__eq__" (defScope (inClass (top 29) 7)) f cdv A outer s H E).nox st false (defBody (inClass (top 29) 7)) (ws_W___eq__ cW cL cP ) := (ss_one (s_ret (e_and (e_isO g.kW g.b_isinstance g.mW (ov 1)) (e_and (e_cmp (op_eqP hr.units) d_eq (VE.o (e_fld g.kW.cl g.nW_web_places (ov 0))) (VE.o (e_fld g.kW.cl g.nW_web_places (ov 1)))) (e_one (e_cmp (op_eqP hr.units) d_eq (VE.o (e_fld g.kW.cl g.nW_web_bonds (ov 0))) (VE.o (e_fld g.kW.cl g.nW_web_bonds (ov 1)))))))))
theorem sc_LA_table : FnScope N_LA_table p_LA_table (defScope (inClass (top 31) 10)) := ⟨rfl, rfl, rfl, by decide +kernel, rfl, by decide +kernel, by decide +kernel⟩
theorem dv_LA_table  (g : Pg P w K mg base cW cL cP)  (st : Sto) (f : Addr) (cdv : Value) (A : Around) (outer : List Env) (s : Shared) (H : Hp) (E : XK) (hr : Room 1 (A.deeper (envOfC "Land.table" (defScope (inClass (top 31) 10)) s.heap.objs.size f cdv))) : VF (cxOf CX0 P w K mg base N_LA_table "Land.table" (defScope (inClass (top 31) 10)) f cdv A outer s H E).nox st (retOf (inClass (top 31) 10)) (ws_LA_table cW cL cP ) := (f_dc (own := [("place", 1), ("height", 2)]) rfl sc_LA_table.nd (PImono (RZ.pi_zipA rfl g.b_zip (pa_cons (e_fld g.kW.cl g.nW_web_places (VE.o (e_fld g.kLA.cl g.nLA_web (ov 0)))) (pa_cons (e_fld g.kLA.cl g.nLA_land_heights (ov 0)) pa_nil))) tI_zip) (blkOk_by (own := [("place", 1), ("height", 2)]) (N := N_LA_table) (sc := defScope (inClass (top 31) 10)) (by decide +kernel)) (fun _ _ _ _ _ => (g_tup rfl (gs_cons (g_name (i := 1) sc_LA_table.nd) (gs_cons (g_name (i := 2) sc_LA_table.nd) gs_nil)))) (fun _ _ _ _ _ => ts_nil) (fun _ _ _ _ _ => (ev 1)) (fun _ _ _ _ _ => (ev 2)))
theorem sc_broken_rows : FnScope N_broken_rows p_broken_rows (defScope (top 42)) := ⟨rfl, rfl, rfl, by decide +kernel, rfl, by decide +kernel, by decide +kernel⟩
theorem dv_broken_rows  (g : Pg P w K mg base cW cL cP)  (st : Sto) (f : Addr) (cdv : Value) (A : Around) (outer : List Env) (s : Shared) (H : Hp) (E : XK) (hr : Room 1 (A.deeper (envOfC "broken_rows" (defScope (top 42)) s.heap.objs.size f cdv))) : VSs (cxOf CX0 P w K mg base N_broken_rows "broken_rows" (defScope (top 42)) f cdv A outer s H E).nox st false (defBody (top 42)) (ws_broken_rows cW cL cP ) := (ss_one (s_ret (VF.ve (f_lc (own := [("name", 3), ("upper", 4), ("lower", 5)]) rfl sc_broken_rows.nd (i_list (ev 0)) (blkOk_by (own := [("name", 3), ("upper", 4), ("lower", 5)]) (N := N_broken_rows) (sc := defScope (top 42)) (by decide +kernel)) (fun _ _ _ _ _ => (g_tup rfl (gs_cons (g_name (i := 3) sc_broken_rows.nd) (gs_cons (g_name (i := 4) sc_broken_rows.nd) (gs_cons (g_name (i := 5) sc_broken_rows.nd) gs_nil))))) (fun _ _ _ _ _ => (ts_one (t_w (x_or (t_cmp op_ltA d_lt (VE.o (e_dget hr (ov 1) (ov 4))) (VE.o (e_dget hr (ov 2) (ov 4)))) (x_or1 (t_cmp op_gt d_cm (VE.o (e_dget hr (ov 1) (ov 5))) (VE.o (e_dget hr (ov 2) (ov 5))))))))) (fun _ _ _ _ _ => (e_tup (ac (ev 3) (ac (ev 4) (ac (ev 5) an)))))))))
theorem sc_bond_paper : FnScope N_bond_paper p_bond_paper (defScope (top 48)) := ⟨rfl, rfl, rfl, by decide +kernel, rfl, by decide +kernel, by decide +kernel⟩
theorem dv_bond_paper {C_LA___getitem__ : OC} (g : Pg P w K mg base cW cL cP) (c_LA___getitem__ : Me P w K mg base cL "__getitem__" 2 C_LA___getitem__) (st : Sto) (f : Addr) (cdv : Value) (A : Around) (outer : List Env) (s : Shared) (H : Hp) (E : XK) (hr : Room 3 (A.deeper (envOfC "bond_paper" (defScope (top 48)) s.heap.objs.size f cdv))) : VSs (cxOf CX0 P w K mg base N_bond_paper "bond_paper" (defScope (top 48)) f cdv A outer s H E).nox st false (defBody (top 48)) (ws_bond_paper cW cL cP C_LA___getitem__) := (ss_cons (s_asg (ev 2) (g_tup rfl (gs_cons (g_name (i := 3) sc_bond_paper.nd) (gs_cons (g_name (i := 4) sc_bond_paper.nd) (gs_cons (g_name (i := 5) sc_bond_paper.nd) gs_nil))))) (ss_one (s_ret (e_tup (ac e_str (ac (ev 3) (ac (ev 4) (ac (ev 5) (ac (e_tup (ac (e_ixO c_LA___getitem__ hr (ov 0) (ov 4)) (ac (e_ixO c_LA___getitem__ hr (ov 0) (ov 5)) (ac (e_ixO c_LA___getitem__ hr (ov 1) (ov 4)) (ac (e_ixO c_LA___getitem__ hr (ov 1) (ov 5)) an))))) an)))))))))
theorem sc_need_gluable : FnScope N_need_gluable p_need_gluable (defScope (top 56)) := ⟨rfl, rfl, rfl, by decide +kernel, rfl, by decide +kernel, by decide +kernel⟩
theorem dv_need_gluable {C_need_same_border : OC} {C_P_inner : OC} {C_LA___contains__ : OC} {C_W_bonds : OC} {C_LA___len__ : OC} (g : Pg P w K mg base cW cL cP) (c_need_same_border : Cl P w K mg base "need_same_border" 4 C_need_same_border) (c_P_inner : Pr P w K mg base cP "inner" 2 C_P_inner) (c_LA___contains__ : Me P w K mg base cL "__contains__" 2 C_LA___contains__) (c_W_bonds : Pr P w K mg base cW "bonds" 2 C_W_bonds) (c_LA___len__ : Me P w K mg base cL "__len__" 2 C_LA___len__) (st : Sto) (f : Addr) (cdv : Value) (A : Around) (outer : List Env) (s : Shared) (H : Hp) (E : XK) (hr : Room 5 (A.deeper (envOfC "need_gluable" (defScope (top 56)) s.heap.objs.size f cdv))) : VSs (cxOf CX0 P w K mg base N_need_gluable "need_gluable" (defScope (top 56)) f cdv A outer s H E).nox st false (defBody (top 56)) (ws_need_gluable cW cL cP C_need_same_border C_P_inner C_LA___contains__ C_W_bonds C_LA___len__) := (ss_cons (s_expr (e_call c_need_same_border hr (ac (ev 0) (ac (ev 1) an)))) (ss_cons (s_for PassesOwn.never rfl (i_list (e_prop g.kP.cl c_P_inner hr (ov 1))) (g_name (i := 2) sc_need_gluable.nd) (ss_one (s_if (t_inO c_LA___contains__ hr (ov 2) (VE.o (e_fld g.kP.cl g.nP_land (ov 0)))) (ss_one s_never) ss_nil))) (ss_cons (s_setLc (i := 3) (own := [("bond", 4)]) rfl sc_need_gluable.nd (i_list (e_prop g.kW.cl c_W_bonds hr (VE.o (e_fld g.kLA.cl g.nLA_web (VE.o (e_fld g.kP.cl g.nP_land (ov 0))))))) (blkOk_by (own := [("bond", 4)]) (N := N_need_gluable) (sc := defScope (top 56)) (by decide +kernel)) (fun _ _ _ _ _ => (g_name (i := 4) sc_need_gluable.nd)) (fun _ _ _ _ _ => ts_nil) (fun _ _ _ _ _ => (e_ix (ov 4) (VE.o e_int)))) (ss_cons (s_for PassesOwn.never rfl (i_list (e_prop g.kW.cl c_W_bonds hr (VE.o (e_fld g.kLA.cl g.nLA_web (VE.o (e_fld g.kP.cl g.nP_land (ov 1))))))) (g_name (i := 4) sc_need_gluable.nd) (ss_one (s_if (t_cmp op_in_seq d_in (VE.o (e_ix (ov 4) (VE.o e_int))) (ov 3)) (ss_one s_never) ss_nil))) (ss_cons (s_set (i := 5) sc_need_gluable.nd (e_op op_addA d_add (VE.o (e_lenO c_LA___len__ hr g.b_len (ab (VE.o (e_fld g.kP.cl g.nP_land (ov 0))) an))) (VE.o (e_cb call_len d_len g.b_len (by decide +kernel) (ab (VE.o (e_prop g.kP.cl c_P_inner hr (ov 1))) an))))) (ss_one (s_if (t_cmp op_gt d_cm (ov 5) (VE.o (e_gint g.i_PLACE_MOST))) (ss_one s_never) ss_nil)))))))
theorem sc_law_mixed : FnScope N_law_mixed p_law_mixed (defScope (top 64)) := ⟨rfl, rfl, rfl, by decide +kernel, rfl, by decide +kernel, by decide +kernel⟩
theorem dv_law_mixed  (g : Pg P w K mg base cW cL cP)  (st : Sto) (f : Addr) (cdv : Value) (A : Around) (outer : List Env) (s : Shared) (H : Hp) (E : XK) (hr : Room 1 (A.deeper (envOfC "_law_mixed" (defScope (top 64)) s.heap.objs.size f cdv))) : VSs (cxOf CX0 P w K mg base N_law_mixed "_law_mixed" (defScope (top 64)) f cdv A outer s H E).nox st false (defBody (top 64)) (ws_law_mixed cW cL cP ) := (ss_cons (s_set (i := 2) sc_law_mixed.nd (e_op op_mod d_mod (VE.o (e_ct call_int1 d_int g.b_int (by decide +kernel) (ab (VE.o (e_op op_addA d_add (VE.o (e_op op_addA d_add (VE.o (e_op op_mul d_mul (ov 0) (VE.o e_int))) (VE.o (e_op op_mul d_mul (ov 1) (VE.o e_int))))) (VE.o e_int))) an))) (VE.o e_int))) (ss_cons (s_set (i := 3) sc_law_mixed.nd (e_op op_mod d_mod (VE.o (e_ct call_int1 d_int g.b_int (by decide +kernel) (ab (VE.o (e_op op_addA d_add (VE.o (e_op op_addA d_add (VE.o (e_op op_mul d_mul (ov 2) (ov 2))) (VE.o (e_op op_mul d_mul (ov 1) (VE.o e_int))))) (VE.o e_int))) an))) (VE.o e_int))) (ss_one (s_ret (e_op op_fdiv d_div (VE.o (e_op op_mod d_mod (VE.o (e_ct call_int1 d_int g.b_int (by decide +kernel) (ab (VE.o (e_op op_addA d_add (VE.o (e_op op_mul d_mul (ov 3) (VE.o e_int))) (ov 2))) an))) (VE.o e_int))) (VE.o e_int))))))
theorem sc_law_unlike : FnScope N_law_unlike p_law_unlike (defScope (top 72)) := ⟨rfl, rfl, rfl, by decide +kernel, rfl, by decide +kernel, by decide +kernel⟩
theorem dv_law_unlike  (g : Pg P w K mg base cW cL cP)  (st : Sto) (f : Addr) (cdv : Value) (A : Around) (outer : List Env) (s : Shared) (H : Hp) (E : XK) (hr : Room 1 (A.deeper (envOfC "_law_unlike" (defScope (top 72)) s.heap.objs.size f cdv))) : VSs (cxOf CX0 P w K mg base N_law_unlike "_law_unlike" (defScope (top 72)) f cdv A outer s H E).nox st false (defBody (top 72)) (ws_law_unlike cW cL cP ) := (ss_cons (s_set (i := 2) sc_law_unlike.nd (ev 0)) (ss_cons (s_for PassesOwn.never rfl (PImono (pi_range1 rfl g.b_range (ac (e_op op_addA d_add (VE.o (e_cb call_len d_len g.b_len (by decide +kernel) (ab (ov 1) an))) (VE.o e_int)) an)) tI_r1) (g_name (i := 3) sc_law_unlike.nd) (ss_cons (s_set (i := 2) sc_law_unlike.nd (e_op op_addA d_add (ov 0) (VE.o (e_ct call_str_int d_str g.b_str (by decide +kernel) (ab (ov 3) an))))) (ss_one (s_if (t_cmp op_notIn_seq d_in (ov 2) (ov 1)) (ss_one s_break) ss_nil)))) (ss_one (s_ret (ev 2)))))
theorem sc_law_bonds : FnScope N_law_bonds p_law_bonds (defScope (top 79)) := ⟨rfl, rfl, rfl, by decide +kernel, rfl, by decide +kernel, by decide +kernel⟩
theorem dv_law_bonds  (g : Pg P w K mg base cW cL cP)  (st : Sto) (f : Addr) (cdv : Value) (A : Around) (outer : List Env) (s : Shared) (H : Hp) (E : XK) (hr : Room 1 (A.deeper (envOfC "_law_bonds" (defScope (top 79)) s.heap.objs.size f cdv))) : VSs (cxOf CX0 P w K mg base N_law_bonds "_law_bonds" (defScope (top 79)) f cdv A outer s H E).nox st false (defBody (top 79)) (ws_law_bonds cW cL cP ) := (ss_one (s_ret (VF.ve (f_cb cr_sortedD (c_sortD (hu100 hr)) g.b_sorted (by decide +kernel) (ab (VF.o (f_lc (own := [("_law_k", 3)]) rfl sc_law_bonds.nd (PImono (pi_range1 rfl g.b_range (ac (e_cb call_len d_len g.b_len (by decide +kernel) (ab (ov 2) an)) an)) tI_r1) (blkOk_by (own := [("_law_k", 3)]) (N := N_law_bonds) (sc := defScope (top 79)) (by decide +kernel)) (fun _ _ _ _ _ => (g_name (i := 3) sc_law_bonds.nd)) (fun _ _ _ _ _ => ts_nil) (fun _ _ _ _ _ => (e_tup (ac (e_ix (ov 0) (ov 3)) (ac (e_ix (ov 1) (VE.o (e_ix (VE.o (e_ix (ov 2) (ov 3))) (VE.o e_int)))) (ac (e_ix (ov 1) (VE.o (e_ix (VE.o (e_ix (ov 2) (ov 3))) (VE.o e_int)))) an))))))) an)))))
theorem sc_law_flat : FnScope N_law_flat p_law_flat (defScope (top 85)) := ⟨rfl, rfl, rfl, by decide +kernel, rfl, by decide +kernel, by decide +kernel⟩
theorem dv_law_flat {C_law_height : OC} {C_law_reach : OC} (g : Pg P w K mg base cW cL cP) (c_law_height : Cl P w K mg base "_law_height" 2 C_law_height) (c_law_reach : Cl P w K mg base "_law_reach" 4 C_law_reach) (st : Sto) (f : Addr) (cdv : Value) (A : Around) (outer : List Env) (s : Shared) (H : Hp) (E : XK) (hr : Room 5 (A.deeper (envOfC "_law_flat" (defScope (top 85)) s.heap.objs.size f cdv))) : VSs (cxOf CX0 P w K mg base N_law_flat "_law_flat" (defScope (top 85)) f cdv A outer s H E).nox st false (defBody (top 85)) (ws_law_flat cW cL cP C_law_height C_law_reach) := (ss_cons (s_set (i := 2) sc_law_flat.nd (e_call c_law_height hr (ac (ev 0) (ac (ev 1) an)))) (ss_cons (s_setLc (i := 3) (own := [("_law_k", 4)]) rfl sc_law_flat.nd (PImono (pi_range1 rfl g.b_range (ac (e_cb call_len d_len g.b_len (by decide +kernel) (ab (VE.o (e_ix (ov 0) (VE.o e_int))) an)) an)) tI_r1) (blkOk_by (own := [("_law_k", 4)]) (N := N_law_flat) (sc := defScope (top 85)) (by decide +kernel)) (fun _ _ _ _ _ => (g_name (i := 4) sc_law_flat.nd)) (fun _ _ _ _ _ => (ts_one (t_cmp (op_eqP hr.units) d_eq (VE.o (e_ix (VE.o (e_ix (ov 0) (VE.o e_int))) (ov 4))) (ov 2)))) (fun _ _ _ _ _ => (e_ix (VE.o (e_ix (ov 0) (VE.o e_int))) (ov 4)))) (ss_one (s_ret (e_call c_law_reach hr (ac (e_ix (ov 0) (VE.o e_int)) (ac (ev 3) (ac (ev 1) an))))))))
theorem sc_law_show : FnScope N_law_show p_law_show (defScope (top 91)) := ⟨rfl, rfl, rfl, by decide +kernel, rfl, by decide +kernel, by decide +kernel⟩
theorem dv_law_show {C_law_flats : OC} {C_law_height : OC} {C_law_papers : OC} (g : Pg P w K mg base cW cL cP) (c_law_flats : Cl P w K mg base "_law_flats" 8 C_law_flats) (c_law_height : Cl P w K mg base "_law_height" 2 C_law_height) (c_law_papers : Cl P w K mg base "_law_papers" 10 C_law_papers) (st : Sto) (f : Addr) (cdv : Value) (A : Around) (outer : List Env) (s : Shared) (H : Hp) (E : XK) (hr : Room 11 (A.deeper (envOfC "_law_show" (defScope (top 91)) s.heap.objs.size f cdv))) : VSs (cxOf CX0 P w K mg base N_law_show "_law_show" (defScope (top 91)) f cdv A outer s H E).nox st false (defBody (top 91)) (ws_law_show cW cL cP C_law_flats C_law_height C_law_papers) := (ss_cons (s_own (i := 3) sc_law_show.nd (f_lst an)) (ss_cons (s_for PassesOwn.never rfl (i_list (e_call c_law_flats hr (ac (ev 2) an))) (g_name (i := 4) sc_law_show.nd) (ss_cons (s_set (i := 5) sc_law_show.nd (e_cb (cr_any rfl) d_bools g.b_any (by decide +kernel) (ab (VF.o (f_lc (own := [("_law_place", 7)]) rfl sc_law_show.nd (i_list (ev 4)) (blkOk_by (own := [("_law_place", 7)]) (N := N_law_show) (sc := defScope (top 91)) (by decide +kernel)) (fun _ _ _ _ _ => (g_name (i := 7) sc_law_show.nd)) (fun _ _ _ _ _ => ts_nil) (fun _ _ _ _ _ => (e_cmp (op_eqP hr.units) d_eq (VE.o (e_call c_law_height hr (ac (ev 0) (ac (ev 7) an)))) (VE.o (e_call c_law_height hr (ac (ev 2) (ac (ev 7) an)))))))) an))) (ss_cons (s_set (i := 6) sc_law_show.nd (e_ct call_tuple_of c_tuple g.b_tuple (by decide +kernel) (ab (VF.o (f_lc (own := [("_law_place", 7)]) rfl sc_law_show.nd (i_list (ev 4)) (blkOk_by (own := [("_law_place", 7)]) (N := N_law_show) (sc := defScope (top 91)) (by decide +kernel)) (fun _ _ _ _ _ => (g_name (i := 7) sc_law_show.nd)) (fun _ _ _ _ _ => (ts_one (t_cmp op_in_seq d_in (ov 7) (ov 1)))) (fun _ _ _ _ _ => (ev 7)))) an))) (ss_one (s_if (t_cmp (op_neP hr.units) d_ne (ov 6) (VE.o (e_tup an))) (ss_one (s_app (pv 3) (e_tup (ac (ev 6) (ac (ev 5) an))))) (ss_one (s_if (t_not (t_tru (ov 5))) (ss_one (s_ret e_non)) ss_nil))))))) (ss_cons (s_if (t_cmp (op_neP hr.units) d_ne (VF.o (f_lc (own := [("_law_paper", 8)]) rfl sc_law_show.nd (i_list (e_call c_law_papers hr (ac (ev 0) (ac (ev 2) an)))) (blkOk_by (own := [("_law_paper", 8)]) (N := N_law_show) (sc := defScope (top 91)) (by decide +kernel)) (fun _ _ _ _ _ => (g_name (i := 8) sc_law_show.nd)) (fun _ _ _ _ _ => (ts_one (t_cmp (op_eqP hr.units) d_eq (VE.o (e_ix (ov 8) (VE.o e_int))) (VE.o e_str)))) (fun _ _ _ _ _ => (ev 8)))) (VF.o (f_lst an))) (ss_one (s_ret e_non)) ss_nil) (ss_one (s_ret (e_tup (ac (e_ct call_tuple_of c_tuple g.b_tuple (by decide +kernel) (ab (VF.o (f_lc (own := [("_law_place", 7)]) rfl sc_law_show.nd (i_list (ev 1)) (blkOk_by (own := [("_law_place", 7)]) (N := N_law_show) (sc := defScope (top 91)) (by decide +kernel)) (fun _ _ _ _ _ => (g_name (i := 7) sc_law_show.nd)) (fun _ _ _ _ _ => ts_nil) (fun _ _ _ _ _ => (e_call c_law_height hr (ac (ev 2) (ac (ev 7) an)))))) an)) (ac (e_ct call_tuple_of c_tuple g.b_tuple (by decide +kernel) (ab (VF.o (f_cb cr_sortedD (c_sortD (hu100 hr)) g.b_sorted (by decide +kernel) (ab (ov 3) an))) an)) an))))))))
end
end VL
/-! text G4 -/
namespace VL
open PySem PySem.Spec PyProof.Rows L2
section
variable {P : Program} {w : World} {K : PySem.W.Frag} {mg : Str → Option Value} {base : Heap} {cW cL cP : Addr}
theorem sc_need_bonds : FnScope N_need_bonds p_need_bonds (defScope (top 26)) := ⟨rfl, rfl, rfl, by decide +kernel, rfl, by decide +kernel, by decide +kernel⟩
theorem dv_need_bonds {C_is_name : OC} {C_bond_row : OC} (g : Pg P w K mg base cW cL cP) (c_is_name : Cl P w K mg base "is_name" 2 C_is_name) (c_bond_row : Cl P w K mg base "bond_row" 2 C_bond_row) (st : Sto) (f : Addr) (cdv : Value) (A : Around) (outer : List Env) (s : Shared) (H : Hp) (E : XK) (hr : Room 3 (A.deeper (envOfC "need_bonds" (defScope (top 26)) s.heap.objs.size f cdv))) : VSs (cxOf CX0 P w K mg base N_need_bonds "need_bonds" (defScope (top 26)) f cdv A outer s H E).nox st false (defBody (top 26)) (ws_need_bonds cW cL cP C_is_name C_bond_row) := (ss_cons (s_if (t_cmp op_gt d_cm (VE.o (e_cb call_len d_len g.b_len (by decide +kernel) (ab (ov 1) an))) (VE.o (e_gint g.i_BOND_MOST))) (ss_one s_never) ss_nil) (ss_cons (s_own (i := 2) sc_need_bonds.nd f_dic0) (ss_cons (s_for PassesOwn.never rfl (i_list (ev 1)) (g_tup rfl (gs_cons (g_name (i := 3) sc_need_bonds.nd) (gs_cons (g_name (i := 4) sc_need_bonds.nd) (gs_cons (g_name (i := 5) sc_need_bonds.nd) gs_nil)))) (ss_cons (s_if (t_not (t_tru (VE.o (e_call c_is_name hr (ac (ev 3) an))))) (ss_one s_never) ss_nil) (ss_cons (s_if (t_inD hr (ov 3) (ov 2)) (ss_one s_never) ss_nil) (ss_cons (s_if (t_cmp op_notIn_seq d_in (ov 4) (ov 0)) (ss_one s_never) ss_nil) (ss_cons (s_if (t_cmp op_notIn_seq d_in (ov 5) (ov 0)) (ss_one s_never) ss_nil) (ss_cons (s_if (t_cmp (op_eqP hr.units) d_eq (ov 4) (ov 5)) (ss_one s_never) ss_nil) (ss_one (s_dput hr (pv 2) (ev 3) (e_call c_bond_row hr (ac (ev 3) (ac (ev 4) (ac (ev 5) an)))))))))))) (ss_one (s_ret (VF.ve (f_cb cr_sortedD (c_sortD (hu100 hr)) g.b_sorted (by decide +kernel) (ab (VF.o (f_vals rfl g.b_list (pv 2))) an))))))))
theorem sc_LA___init__ : FnScope N_LA___init__ p_LA___init__ (defScope (inClass (top 31) 0)) := ⟨rfl, rfl, rfl, by decide +kernel, rfl, by decide +kernel, by decide +kernel⟩
theorem dv_LA___init__ {C_W___len__ : OC} {C_is_height : OC} (g : Pg P w K mg base cW cL cP) (c_W___len__ : Me P w K mg base cW "__len__" 2 C_W___len__) (c_is_height : Cl P w K mg base "is_height" 2 C_is_height) (st : Sto) (f : Addr) (cdv : Value) (A : Around) (outer : List Env) (s : Shared) (H : Hp) (E : XK) (hr : Room 3 (A.deeper (envOfC "Land.__init__" (defScope (inClass (top 31) 0)) s.heap.objs.size f cdv))) : VSs (cxOf CX0 P w K mg base N_LA___init__ "Land.__init__" (defScope (inClass (top 31) 0)) f cdv A outer s H E).nox st true (defBody (inClass (top 31) 0)) (ws_LA___init__ cW cL cP C_W___len__ C_is_height) := (ss_cons (s_if (t_cmp (op_neP hr.units) d_ne (VE.o (e_cb call_len d_len g.b_len (by decide +kernel) (ab (ov 2) an))) (VE.o (e_lenO c_W___len__ hr g.b_len (ab (ov 1) an)))) (ss_one s_never) ss_nil) (ss_cons (s_for PassesOwn.never rfl (i_list (ev 2)) (g_name (i := 3) sc_LA___init__.nd) (ss_one (s_if (t_not (t_tru (VE.o (e_call c_is_height hr (ac (ev 3) an))))) (ss_one s_never) ss_nil))) (ss_cons (s_fld g.kLA.cl g.nLA_web (pv 0) (ev 1)) (ss_one (s_fld g.kLA.cl g.nLA_land_heights (pv 0) (e_ct call_tuple_of c_tuple g.b_tuple (by decide +kernel) (ab (ov 2) an)))))))
theorem sc_flat_around : FnScope N_flat_around p_flat_around (defScope (top 35)) := ⟨rfl, rfl, rfl, by decide +kernel, rfl, by decide +kernel, by decide +kernel⟩
theorem dv_flat_around  (g : Pg P w K mg base cW cL cP)  (st : Sto) (f : Addr) (cdv : Value) (A : Around) (outer : List Env) (s : Shared) (H : Hp) (E : XK) (hr : Room 1 (A.deeper (envOfC "flat_around" (defScope (top 35)) s.heap.objs.size f cdv))) : VSs (cxOf CX0 P w K mg base N_flat_around "flat_around" (defScope (top 35)) f cdv A outer s H E).nox st false (defBody (top 35)) (ws_flat_around cW cL cP ) := (ss_cons (s_own (i := 3) sc_flat_around.nd (f_lst (ac (ev 0) an))) (ss_cons (s_set (i := 4) sc_flat_around.nd e_int) (ss_cons (s_while PassesOwn.never (t_cmp op_ltA d_lt (ov 4) (VE.o (e_cb call_len d_len g.b_len (by decide +kernel) (ab (ov 3) an)))) (ss_cons (s_set (i := 5) sc_flat_around.nd (e_ix (ov 3) (ov 4))) (ss_cons (s_for PassesOwn.never rfl (i_list (e_dget hr (ov 2) (ov 5))) (g_name (i := 6) sc_flat_around.nd) (ss_one (s_if (t_w (x_and (t_cmp (op_eqP hr.units) d_eq (VE.o (e_dget hr (ov 1) (ov 6))) (VE.o (e_dget hr (ov 1) (ov 0)))) (x_and1 (t_cmp op_notIn_seq d_in (ov 6) (ov 3))))) (ss_one (s_app (pv 3) (ev 6))) ss_nil))) (ss_one (s_aug (i := 4) sc_flat_around.nd e_int))))) (ss_one (s_ret (VF.ve (f_cb cr_sortedS c_sortS g.b_sorted (by decide +kernel) (ab (ov 3) an))))))))
theorem sc_dry_rows : FnScope N_dry_rows p_dry_rows (defScope (top 43)) := ⟨rfl, rfl, rfl, by decide +kernel, rfl, by decide +kernel, by decide +kernel⟩
theorem dv_dry_rows  (g : Pg P w K mg base cW cL cP)  (st : Sto) (f : Addr) (cdv : Value) (A : Around) (outer : List Env) (s : Shared) (H : Hp) (E : XK) (hr : Room 1 (A.deeper (envOfC "dry_rows" (defScope (top 43)) s.heap.objs.size f cdv))) : VSs (cxOf CX0 P w K mg base N_dry_rows "dry_rows" (defScope (top 43)) f cdv A outer s H E).nox st false (defBody (top 43)) (ws_dry_rows cW cL cP ) := (ss_one (s_ret (VF.ve (f_lc (own := [("flat", 3)]) rfl sc_dry_rows.nd (i_list (ev 0)) (blkOk_by (own := [("flat", 3)]) (N := N_dry_rows) (sc := defScope (top 43)) (by decide +kernel)) (fun _ _ _ _ _ => (g_name (i := 3) sc_dry_rows.nd)) (fun _ _ _ _ _ => (ts_one (t_tru (VE.o (e_cb (cr_all rfl) d_bools g.b_all (by decide +kernel) (ab (VF.o (f_lc (own := [("place", 4)]) rfl sc_dry_rows.nd (i_list (ev 3)) (blkIn (own := [("place", 4)]) (N := N_dry_rows) (sc := defScope (top 43)) (by decide +kernel)) (fun _ _ _ _ _ => (g_name (i := 4) sc_dry_rows.nd)) (fun _ _ _ _ _ => ts_nil) (fun _ _ _ _ _ => (e_cmp (op_neP hr.units) d_ne (VE.o (e_dget hr (ov 1) (ov 4))) (VE.o (e_dget hr (ov 2) (ov 4))))))) an)))))) (fun _ _ _ _ _ => (ev 3))))))
theorem sc_never_paper : FnScope N_never_paper p_never_paper (defScope (top 49)) := ⟨rfl, rfl, rfl, by decide +kernel, rfl, by decide +kernel, by decide +kernel⟩
theorem dv_never_paper {C_broken_bonds : OC} {C_bond_paper : OC} {C_dry_flats : OC} (g : Pg P w K mg base cW cL cP) (c_broken_bonds : Cl P w K mg base "broken_bonds" 6 C_broken_bonds) (c_bond_paper : Cl P w K mg base "bond_paper" 4 C_bond_paper) (c_dry_flats : Cl P w K mg base "dry_flats" 9 C_dry_flats) (st : Sto) (f : Addr) (cdv : Value) (A : Around) (outer : List Env) (s : Shared) (H : Hp) (E : XK) (hr : Room 10 (A.deeper (envOfC "never_paper" (defScope (top 49)) s.heap.objs.size f cdv))) : VSs (cxOf CX0 P w K mg base N_never_paper "never_paper" (defScope (top 49)) f cdv A outer s H E).nox st false (defBody (top 49)) (ws_never_paper cW cL cP C_broken_bonds C_bond_paper C_dry_flats) := (ss_cons (s_set (i := 2) sc_never_paper.nd (e_call c_broken_bonds hr (ac (ev 0) (ac (ev 1) an)))) (ss_cons (s_if (t_tru (ov 2)) (ss_one (s_ret (e_call c_bond_paper hr (ac (ev 0) (ac (ev 1) (ac (e_ix (ov 2) (VE.o e_int)) an)))))) ss_nil) (ss_cons (s_set (i := 3) sc_never_paper.nd (e_call c_dry_flats hr (ac (ev 0) (ac (ev 1) an)))) (ss_cons (s_if (t_tru (ov 3)) (ss_one (s_ret (e_tup (ac e_str (ac (e_ct call_tuple_of c_tuple g.b_tuple (by decide +kernel) (ab (VE.o (e_ix (ov 3) (VE.o e_int))) an)) an))))) ss_nil) (ss_one (s_ret e_non))))))
theorem sc_land_of_both : FnScope N_land_of_both p_land_of_both (defScope (top 57)) := ⟨rfl, rfl, rfl, by decide +kernel, rfl, by decide +kernel, by decide +kernel⟩
theorem dv_land_of_both {C_LA_table : OC} {Ci_W : OCi} {C_W_bonds : OC} {Ci_LA : OCi} {C_W_places : OC} (g : Pg P w K mg base cW cL cP) (c_LA_table : MeF P w K mg base cL "table" 2 C_LA_table) (m_W___init__ : Mc P w K mg base "Web" cW 6 Ci_W) (c_W_bonds : Pr P w K mg base cW "bonds" 2 C_W_bonds) (m_LA___init__ : Mc P w K mg base "Land" cL 4 Ci_LA) (c_W_places : Pr P w K mg base cW "places" 2 C_W_places) (st : Sto) (f : Addr) (cdv : Value) (A : Around) (outer : List Env) (s : Shared) (H : Hp) (E : XK) (hr : Room 7 (A.deeper (envOfC "land_of_both" (defScope (top 57)) s.heap.objs.size f cdv))) : VSs (cxOf CX0 P w K mg base N_land_of_both "land_of_both" (defScope (top 57)) f cdv A outer s H E).nox st false (defBody (top 57)) (ws_land_of_both cW cL cP C_LA_table Ci_W C_W_bonds Ci_LA C_W_places) := (ss_cons (s_own (i := 2) sc_land_of_both.nd (f_meth0 g.kLA.cl c_LA_table hr (ov 0))) (ss_cons (s_upd (pv 2) (VF.ve (f_meth0 g.kLA.cl c_LA_table hr (ov 1)))) (ss_cons (s_set (i := 3) sc_land_of_both.nd (VF.ve (f_make m_W___init__ hr (ac (VF.ve (f_cb (call_sortedD rfl) c_sortK g.b_sorted (by decide +kernel) (ab (ov 2) an))) (ac (e_op op_addA d_add (VE.o (e_prop g.kW.cl c_W_bonds hr (VE.o (e_fld g.kLA.cl g.nLA_web (ov 0))))) (VE.o (e_prop g.kW.cl c_W_bonds hr (VE.o (e_fld g.kLA.cl g.nLA_web (ov 1)))))) an))))) (ss_one (s_ret (VF.ve (f_make m_LA___init__ hr (ac (ev 3) (ac (VF.ve (f_lc (own := [("place", 4)]) rfl sc_land_of_both.nd (i_list (e_prop g.kW.cl c_W_places hr (ov 3))) (blkOk_by (own := [("place", 4)]) (N := N_land_of_both) (sc := defScope (top 57)) (by decide +kernel)) (fun _ _ _ _ _ => (g_name (i := 4) sc_land_of_both.nd)) (fun _ _ _ _ _ => ts_nil) (fun _ _ _ _ _ => (e_dget hr (ov 2) (ov 4))))) an)))))))))
theorem sc_law_pick : FnScope N_law_pick p_law_pick (defScope (top 67)) := ⟨rfl, rfl, rfl, by decide +kernel, rfl, by decide +kernel, by decide +kernel⟩
theorem dv_law_pick {C_law_take : OC} (g : Pg P w K mg base cW cL cP) (c_law_take : Cl P w K mg base "_law_take" 3 C_law_take) (st : Sto) (f : Addr) (cdv : Value) (A : Around) (outer : List Env) (s : Shared) (H : Hp) (E : XK) (hr : Room 4 (A.deeper (envOfC "_law_pick" (defScope (top 67)) s.heap.objs.size f cdv))) : VSs (cxOf CX0 P w K mg base N_law_pick "_law_pick" (defScope (top 67)) f cdv A outer s H E).nox st false (defBody (top 67)) (ws_law_pick cW cL cP C_law_take) := (ss_one (s_ret (e_ix (ov 1) (VE.o (e_call c_law_take hr (ac (ev 0) (ac (e_cb call_len d_len g.b_len (by decide +kernel) (ab (ov 1) an)) an)))))))
theorem sc_law_stranger : FnScope N_law_stranger p_law_stranger (defScope (top 73)) := ⟨rfl, rfl, rfl, by decide +kernel, rfl, by decide +kernel, by decide +kernel⟩
theorem dv_law_stranger {C_law_name : OC} {C_law_take : OC} {C_law_pick : OC} {C_law_unlike : OC} (g : Pg P w K mg base cW cL cP) (c_law_name : Cl P w K mg base "_law_name" 7 C_law_name) (c_law_take : Cl P w K mg base "_law_take" 3 C_law_take) (c_law_pick : Cl P w K mg base "_law_pick" 5 C_law_pick) (c_law_unlike : Cl P w K mg base "_law_unlike" 2 C_law_unlike) (st : Sto) (f : Addr) (cdv : Value) (A : Around) (outer : List Env) (s : Shared) (H : Hp) (E : XK) (hr : Room 8 (A.deeper (envOfC "_law_stranger" (defScope (top 73)) s.heap.objs.size f cdv))) : VSs (cxOf CX0 P w K mg base N_law_stranger "_law_stranger" (defScope (top 73)) f cdv A outer s H E).nox st false (defBody (top 73)) (ws_law_stranger cW cL cP C_law_name C_law_take C_law_pick C_law_unlike) := (ss_cons (s_set (i := 2) sc_law_stranger.nd (e_call c_law_name hr (ac (ev 0) an))) (ss_cons (s_if (t_w (x_and (t_cmp op_gt d_cm (VE.o (e_cb call_len d_len g.b_len (by decide +kernel) (ab (ov 1) an))) (VE.o e_int)) (x_and1 (t_cmp (op_eqP hr.units) d_eq (VE.o (e_call c_law_take hr (ac (ev 0) (ac e_int an)))) (VE.o e_int))))) (ss_one (s_set (i := 2) sc_law_stranger.nd (e_op op_addA d_add (VE.o (e_slS (VE.o (e_call c_law_pick hr (ac (ev 0) (ab (ov 1) an)))) o_no (o_so e_int))) (VE.o (e_call c_law_pick hr (ac (ev 0) (ab (VF.o (f_lst (ac e_str (ac e_str (ac e_str an))))) an))))))) ss_nil) (ss_cons (s_if (t_w (x_or (t_cmp (op_eqP hr.units) d_eq (ov 2) (VE.o e_str)) (x_or1 (t_cmp op_in_seq d_in (ov 2) (ov 1))))) (ss_one (s_ret (e_call c_law_unlike hr (ac (e_slS (ov 2) o_no (o_so e_int)) (ab (ov 1) an))))) ss_nil) (ss_one (s_ret (ev 2))))))
theorem sc_law_make : FnScope N_law_make p_law_make (defScope (top 80)) := ⟨rfl, rfl, rfl, by decide +kernel, rfl, by decide +kernel, by decide +kernel⟩
theorem dv_law_make {Ci_LA : OCi} {Ci_W : OCi} (g : Pg P w K mg base cW cL cP) (m_LA___init__ : Mc P w K mg base "Land" cL 4 Ci_LA) (m_W___init__ : Mc P w K mg base "Web" cW 6 Ci_W) (st : Sto) (f : Addr) (cdv : Value) (A : Around) (outer : List Env) (s : Shared) (H : Hp) (E : XK) (hr : Room 7 (A.deeper (envOfC "_law_make" (defScope (top 80)) s.heap.objs.size f cdv))) : VSs (cxOf CX0 P w K mg base N_law_make "_law_make" (defScope (top 80)) f cdv A outer s H E).nox st false (defBody (top 80)) (ws_law_make cW cL cP Ci_LA Ci_W) := (ss_one (s_ret (VF.ve (f_make m_LA___init__ hr (ac (VF.ve (f_make m_W___init__ hr (ac (VF.ve (f_ct call_list_of c_list g.b_list (by decide +kernel) (ab (VE.o (e_ix (ov 0) (VE.o e_int))) an))) (ac (VF.ve (f_ct call_list_of c_list g.b_list (by decide +kernel) (ab (VE.o (e_ix (ov 0) (VE.o e_int))) an))) an)))) (ac (VF.ve (f_ct call_list_of c_list g.b_list (by decide +kernel) (ab (VE.o (e_ix (ov 0) (VE.o e_int))) an))) an))))))
theorem sc_law_flats : FnScope N_law_flats p_law_flats (defScope (top 86)) := ⟨rfl, rfl, rfl, by decide +kernel, rfl, by decide +kernel, by decide +kernel⟩
theorem dv_law_flats {C_law_flat : OC} (g : Pg P w K mg base cW cL cP) (c_law_flat : Cl P w K mg base "_law_flat" 6 C_law_flat) (st : Sto) (f : Addr) (cdv : Value) (A : Around) (outer : List Env) (s : Shared) (H : Hp) (E : XK) (hr : Room 7 (A.deeper (envOfC "_law_flats" (defScope (top 86)) s.heap.objs.size f cdv))) : VSs (cxOf CX0 P w K mg base N_law_flats "_law_flats" (defScope (top 86)) f cdv A outer s H E).nox st false (defBody (top 86)) (ws_law_flats cW cL cP C_law_flat) := (ss_cons (s_own (i := 1) sc_law_flats.nd (f_lst an)) (ss_cons (s_for PassesOwn.never rfl (i_list (e_ix (ov 0) (VE.o e_int))) (g_name (i := 2) sc_law_flats.nd) (ss_cons (s_set (i := 3) sc_law_flats.nd (e_call c_law_flat hr (ac (ev 0) (ac (ev 2) an)))) (ss_one (s_if (t_cmp (op_eqP hr.units) d_eq (VE.o (e_ix (ov 3) (VE.o e_int))) (ov 2)) (ss_one (s_app (pv 1) (ev 3))) ss_nil)))) (ss_frz 1 (ss_one (s_ret (ev 1))))))
theorem sc_law_cut : FnScope N_law_cut p_law_cut (defScope (top 92)) := ⟨rfl, rfl, rfl, by decide +kernel, rfl, by decide +kernel, by decide +kernel⟩
theorem dv_law_cut {C_law_height : OC} (g : Pg P w K mg base cW cL cP) (c_law_height : Cl P w K mg base "_law_height" 2 C_law_height) (st : Sto) (f : Addr) (cdv : Value) (A : Around) (outer : List Env) (s : Shared) (H : Hp) (E : XK) (hr : Room 3 (A.deeper (envOfC "_law_cut" (defScope (top 92)) s.heap.objs.size f cdv))) : VSs (cxOf CX0 P w K mg base N_law_cut "_law_cut" (defScope (top 92)) f cdv A outer s H E).nox st false (defBody (top 92)) (ws_law_cut cW cL cP C_law_height) := (ss_one (s_ret (e_tup (ac (e_ix (ov 1) (VE.o e_int)) (ac (e_ix (ov 1) (VE.o e_int)) (ac (VF.ve (f_lc (own := [("_law_place", 2)]) rfl sc_law_cut.nd (i_list (e_ix (ov 1) (VE.o e_int))) (blkOk_by (own := [("_law_place", 2)]) (N := N_law_cut) (sc := defScope (top 92)) (by decide +kernel)) (fun _ _ _ _ _ => (g_name (i := 2) sc_law_cut.nd)) (fun _ _ _ _ _ => ts_nil) (fun _ _ _ _ _ => (e_call c_law_height hr (ac (ev 0) (ac (ev 2) an)))))) an))))))
end
end VL
/-! text G5 -/
namespace VL
open PySem PySem.Spec PyProof.Rows L2
section
variable {P : Program} {w : World} {K : PySem.W.Frag} {mg : Str → Option Value} {base : Heap} {cW cL cP : Addr}
theorem sc_W___init__ : FnScope N_W___init__ p_W___init__ (defScope (inClass (top 29) 0)) := ⟨rfl, rfl, rfl, by decide +kernel, rfl, by decide +kernel, by decide +kernel⟩
theorem dv_W___init__ {C_need_names : OC} {C_need_bonds : OC} {C_neighbour_table_webs : OC} (g : Pg P w K mg base cW cL cP) (c_need_names : Kn P w K mg base "need_names" 4 C_need_names) (c_need_bonds : Cl P w K mg base "need_bonds" 4 C_need_bonds) (c_neighbour_table_webs : Cl P w K mg base "neighbour_table_webs" 3 C_neighbour_table_webs) (st : Sto) (f : Addr) (cdv : Value) (A : Around) (outer : List Env) (s : Shared) (H : Hp) (E : XK) (hr : Room 5 (A.deeper (envOfC "Web.__init__" (defScope (inClass (top 29) 0)) s.heap.objs.size f cdv))) : VSs (cxOf CX0 P w K mg base N_W___init__ "Web.__init__" (defScope (inClass (top 29) 0)) f cdv A outer s H E).nox st true (defBody (inClass (top 29) 0)) (ws_W___init__ cW cL cP C_need_names C_need_bonds C_neighbour_table_webs) := (ss_cons (s_set (i := 3) sc_W___init__.nd (e_callN c_need_names hr (ev 1) e_int)) (ss_cons (s_set (i := 4) sc_W___init__.nd (e_call c_need_bonds hr (ac (ev 3) (ac (ev 2) an)))) (ss_cons (s_fld g.kW.cl g.nW_web_places (pv 0) (e_ct call_tuple_of c_tuple g.b_tuple (by decide +kernel) (ab (ov 3) an))) (ss_cons (s_fld g.kW.cl g.nW_web_bonds (pv 0) (e_ct call_tuple_of c_tuple g.b_tuple (by decide +kernel) (ab (ov 4) an))) (ss_cons (s_fld g.kW.cl g.nW_web_spots (pv 0) (VF.ve (f_dc (own := [("at", 5), ("place", 6)]) rfl sc_W___init__.nd (PImono (pi_enum rfl g.b_enumerate (pa_cons (ev 3) pa_nil)) tI_enum) (blkOk_by (own := [("at", 5), ("place", 6)]) (N := N_W___init__) (sc := defScope (inClass (top 29) 0)) (by decide +kernel)) (fun _ _ _ _ _ => (g_tup rfl (gs_cons (g_name (i := 5) sc_W___init__.nd) (gs_cons (g_name (i := 6) sc_W___init__.nd) gs_nil)))) (fun _ _ _ _ _ => ts_nil) (fun _ _ _ _ _ => (ev 6)) (fun _ _ _ _ _ => (ev 5))))) (ss_one (s_fld g.kW.cl g.nW_web_near (pv 0) (e_call c_neighbour_table_webs hr (ac (ev 3) (ac (ev 4) an))))))))))
theorem sc_LA_heights : FnScope N_LA_heights p_LA_heights (defScope (inClass (top 31) 2)) := ⟨rfl, rfl, rfl, by decide +kernel, rfl, by decide +kernel, by decide +kernel⟩
theorem dv_LA_heights  (g : Pg P w K mg base cW cL cP)  (st : Sto) (f : Addr) (cdv : Value) (A : Around) (outer : List Env) (s : Shared) (H : Hp) (E : XK) (hr : Room 1 (A.deeper (envOfC "Land.heights" (defScope (inClass (top 31) 2)) s.heap.objs.size f cdv))) : VSs (cxOf CX0 P w K mg base N_LA_heights "Land.heights" (defScope (inClass (top 31) 2)) f cdv A outer s H E).nox st false (defBody (inClass (top 31) 2)) (ws_LA_heights cW cL cP ) := (ss_one (s_ret (VF.ve (f_ct call_list_of c_list g.b_list (by decide +kernel) (ab (VE.o (e_fld g.kLA.cl g.nLA_land_heights (ov 0))) an)))))
theorem sc_all_flats : FnScope N_all_flats p_all_flats (defScope (top 36)) := ⟨rfl, rfl, rfl, by decide +kernel, rfl, by decide +kernel, by decide +kernel⟩
theorem dv_all_flats {C_flat_around : OC} (g : Pg P w K mg base cW cL cP) (c_flat_around : Cl P w K mg base "flat_around" 2 C_flat_around) (st : Sto) (f : Addr) (cdv : Value) (A : Around) (outer : List Env) (s : Shared) (H : Hp) (E : XK) (hr : Room 3 (A.deeper (envOfC "all_flats" (defScope (top 36)) s.heap.objs.size f cdv))) : VSs (cxOf CX0 P w K mg base N_all_flats "all_flats" (defScope (top 36)) f cdv A outer s H E).nox st false (defBody (top 36)) (ws_all_flats cW cL cP C_flat_around) := (ss_cons (s_own (i := 2) sc_all_flats.nd (f_lst an)) (ss_cons (s_own (i := 3) sc_all_flats.nd f_dic0) (ss_cons (s_forK PassesOwn.never rfl (pv 0) (g_name (i := 4) sc_all_flats.nd) (ss_one (s_if (t_ninD hr (ov 4) (ov 3)) (ss_cons (s_set (i := 5) sc_all_flats.nd (e_call c_flat_around hr (ac (ev 4) (ac (ev 0) (ac (ev 1) an))))) (ss_cons (s_for PassesOwn.never rfl (i_list (ev 5)) (g_name (i := 6) sc_all_flats.nd) (ss_one (s_dput hr (pv 3) (ev 6) e_bl))) (ss_one (s_app (pv 2) (ev 5))))) ss_nil))) (ss_frz 2 (ss_one (s_ret (ev 2)))))))
theorem sc_springs : FnScope N_springs p_springs (defScope (top 44)) := ⟨rfl, rfl, rfl, by decide +kernel, rfl, by decide +kernel, by decide +kernel⟩
theorem dv_springs {C_need_same_web : OC} {C_LA_table : OC} (g : Pg P w K mg base cW cL cP) (c_need_same_web : Cl P w K mg base "need_same_web" 4 C_need_same_web) (c_LA_table : MeF P w K mg base cL "table" 2 C_LA_table) (st : Sto) (f : Addr) (cdv : Value) (A : Around) (outer : List Env) (s : Shared) (H : Hp) (E : XK) (hr : Room 5 (A.deeper (envOfC "springs" (defScope (top 44)) s.heap.objs.size f cdv))) : VSs (cxOf CX0 P w K mg base N_springs "springs" (defScope (top 44)) f cdv A outer s H E).nox st false (defBody (top 44)) (ws_springs cW cL cP C_need_same_web C_LA_table) := (ss_cons (s_expr (e_call c_need_same_web hr (ac (ev 0) (ac (ev 1) an)))) (ss_cons (s_set (i := 2) sc_springs.nd (VF.ve (f_meth0 g.kLA.cl c_LA_table hr (ov 0)))) (ss_cons (s_set (i := 3) sc_springs.nd (VF.ve (f_meth0 g.kLA.cl c_LA_table hr (ov 1)))) (ss_one (s_ret (VF.ve (f_lcK (own := [("place", 4)]) rfl sc_springs.nd (pv 3) (blkOk_by (own := [("place", 4)]) (N := N_springs) (sc := defScope (top 44)) (by decide +kernel)) (fun _ _ _ _ _ => (g_name (i := 4) sc_springs.nd)) (fun _ _ _ _ _ => (ts_one (t_cmp (op_eqP hr.units) d_eq (VE.o (e_dget hr (ov 2) (ov 4))) (VE.o (e_dget hr (ov 3) (ov 4)))))) (fun _ _ _ _ _ => (ev 4)))))))))
theorem sc_P___init__ : FnScope N_P___init__ p_P___init__ (defScope (inClass (top 54) 0)) := ⟨rfl, rfl, rfl, by decide +kernel, rfl, by decide +kernel, by decide +kernel⟩
theorem dv_P___init__ {C_LA___len__ : OC} {C_W_bonds : OC} {C_LA___contains__ : OC} {C_W_places : OC} {C_LA___getitem__ : OC} (g : Pg P w K mg base cW cL cP) (c_LA___len__ : Me P w K mg base cL "__len__" 2 C_LA___len__) (c_W_bonds : Pr P w K mg base cW "bonds" 2 C_W_bonds) (c_LA___contains__ : Me P w K mg base cL "__contains__" 2 C_LA___contains__) (c_W_places : Pr P w K mg base cW "places" 2 C_W_places) (c_LA___getitem__ : Me P w K mg base cL "__getitem__" 2 C_LA___getitem__) (st : Sto) (f : Addr) (cdv : Value) (A : Around) (outer : List Env) (s : Shared) (H : Hp) (E : XK) (hr : Room 3 (A.deeper (envOfC "Piece.__init__" (defScope (inClass (top 54) 0)) s.heap.objs.size f cdv))) : VSs (cxOf CX0 P w K mg base N_P___init__ "Piece.__init__" (defScope (inClass (top 54) 0)) f cdv A outer s H E).nox st true (defBody (inClass (top 54) 0)) (ws_P___init__ cW cL cP C_LA___len__ C_W_bonds C_LA___contains__ C_W_places C_LA___getitem__) := (ss_cons (s_if (t_cmp op_gt d_cm (VE.o (e_lenO c_LA___len__ hr g.b_len (ab (ov 1) an))) (VE.o (e_gint g.i_PIECE_PLACES))) (ss_one s_never) ss_nil) (ss_cons (s_if (t_cmp op_gt d_cm (VE.o (e_cb call_len d_len g.b_len (by decide +kernel) (ab (VE.o (e_prop g.kW.cl c_W_bonds hr (VE.o (e_fld g.kLA.cl g.nLA_web (ov 1))))) an))) (VE.o (e_gint g.i_PIECE_BONDS))) (ss_one s_never) ss_nil) (ss_cons (s_if (t_w (x_or (t_cmp op_ltA d_lt (VE.o (e_cb call_len d_len g.b_len (by decide +kernel) (ab (ov 2) an))) (VE.o e_int)) (x_or1 (t_cmp op_gt d_cm (VE.o (e_cb call_len d_len g.b_len (by decide +kernel) (ab (ov 2) an))) (VE.o (e_gint g.i_BORDER_MOST)))))) (ss_one s_never) ss_nil) (ss_cons (s_own (i := 3) sc_P___init__.nd f_dic0) (ss_cons (s_for PassesOwn.never rfl (i_list (ev 2)) (g_name (i := 4) sc_P___init__.nd) (ss_cons (s_if (t_ninO c_LA___contains__ hr (ov 4) (ov 1)) (ss_one s_never) ss_nil) (ss_cons (s_if (t_inD hr (ov 4) (ov 3)) (ss_one s_never) ss_nil) (ss_one (s_dput hr (pv 3) (ev 4) e_bl))))) (ss_cons (s_fld g.kP.cl g.nP_land (pv 0) (ev 1)) (ss_cons (s_fld g.kP.cl g.nP_own_border (pv 0) (VF.ve (f_cb cr_sortedS c_sortS g.b_sorted (by decide +kernel) (ab (ov 2) an)))) (ss_cons (s_fld g.kP.cl g.nP_own_inner (pv 0) (VF.ve (f_lc (own := [("place", 4)]) rfl sc_P___init__.nd (i_list (e_prop g.kW.cl c_W_places hr (VE.o (e_fld g.kLA.cl g.nLA_web (ov 1))))) (blkOk_by (own := [("place", 4)]) (N := N_P___init__) (sc := defScope (inClass (top 54) 0)) (by decide +kernel)) (fun _ _ _ _ _ => (g_name (i := 4) sc_P___init__.nd)) (fun _ _ _ _ _ => (ts_one (t_ninD hr (ov 4) (ov 3)))) (fun _ _ _ _ _ => (ev 4))))) (ss_one (s_fld g.kP.cl g.nP_own_row (pv 0) (VF.ve (f_lc (own := [("place", 4)]) rfl sc_P___init__.nd (i_list (e_fld g.kP.cl g.nP_own_border (ov 0))) (blkOk_by (own := [("place", 4)]) (N := N_P___init__) (sc := defScope (inClass (top 54) 0)) (by decide +kernel)) (fun _ _ _ _ _ => (g_name (i := 4) sc_P___init__.nd)) (fun _ _ _ _ _ => ts_nil) (fun _ _ _ _ _ => (e_ixO c_LA___getitem__ hr (ov 1) (ov 4)))))))))))))))
theorem sc_glue : FnScope N_glue p_glue (defScope (top 58)) := ⟨rfl, rfl, rfl, by decide +kernel, rfl, by decide +kernel, by decide +kernel⟩
theorem dv_glue {C_need_gluable : OC} {C_land_of_both : OC} (g : Pg P w K mg base cW cL cP) (c_need_gluable : Cl P w K mg base "need_gluable" 6 C_need_gluable) (c_land_of_both : Cl P w K mg base "land_of_both" 8 C_land_of_both) (st : Sto) (f : Addr) (cdv : Value) (A : Around) (outer : List Env) (s : Shared) (H : Hp) (E : XK) (hr : Room 9 (A.deeper (envOfC "glue" (defScope (top 58)) s.heap.objs.size f cdv))) : VSs (cxOf CX0 P w K mg base N_glue "glue" (defScope (top 58)) f cdv A outer s H E).nox st false (defBody (top 58)) (ws_glue cW cL cP C_need_gluable C_land_of_both) := (ss_cons (s_expr (e_call c_need_gluable hr (ac (ev 0) (ac (ev 1) an)))) (ss_one (s_ret (e_call c_land_of_both hr (ac (e_fld g.kP.cl g.nP_land (ov 0)) (ac (e_fld g.kP.cl g.nP_land (ov 1)) an))))))
theorem sc_law_number : FnScope N_law_number p_law_number (defScope (top 68)) := ⟨rfl, rfl, rfl, by decide +kernel, rfl, by decide +kernel, by decide +kernel⟩
theorem dv_law_number {C_law_take : OC} (g : Pg P w K mg base cW cL cP) (c_law_take : Cl P w K mg base "_law_take" 3 C_law_take) (st : Sto) (f : Addr) (cdv : Value) (A : Around) (outer : List Env) (s : Shared) (H : Hp) (E : XK) (hr : Room 4 (A.deeper (envOfC "_law_number" (defScope (top 68)) s.heap.objs.size f cdv))) : VSs (cxOf CX0 P w K mg base N_law_number "_law_number" (defScope (top 68)) f cdv A outer s H E).nox st false (defBody (top 68)) (ws_law_number cW cL cP C_law_take) := (ss_cons (s_if (t_cmp (op_eqP hr.units) d_eq (VE.o (e_call c_law_take hr (ac (ev 0) (ac e_int an)))) (VE.o e_int)) (ss_one (s_ret (e_ix (VF.o (f_lst (ac (ev 1) (ac (ev 2) (ac (e_cb (call_min2 rfl) d_2c g.b_min (by decide +kernel) (ab (VE.o (e_op op_addA d_add (ov 1) (VE.o e_int))) (ab (ov 2) an))) (ac (e_cb (call_max2 rfl) d_2c g.b_max (by decide +kernel) (ab (VE.o (e_op op_sub d_sub (ov 2) (VE.o e_int))) (ab (ov 1) an))) an)))))) (VE.o (e_call c_law_take hr (ac (ev 0) (ac e_int an))))))) ss_nil) (ss_one (s_ret (e_op op_addA d_add (ov 1) (VE.o (e_call c_law_take hr (ac (ev 0) (ac (e_op op_addA d_add (VE.o (e_op op_sub d_sub (ov 2) (ov 1))) (VE.o e_int)) an))))))))
theorem sc_law_any_height : FnScope N_law_any_height p_law_any_height (defScope (top 75)) := ⟨rfl, rfl, rfl, by decide +kernel, rfl, by decide +kernel, by decide +kernel⟩
theorem dv_law_any_height {C_law_take : OC} {C_law_pick : OC} (g : Pg P w K mg base cW cL cP) (c_law_take : Cl P w K mg base "_law_take" 3 C_law_take) (c_law_pick : Cl P w K mg base "_law_pick" 5 C_law_pick) (st : Sto) (f : Addr) (cdv : Value) (A : Around) (outer : List Env) (s : Shared) (H : Hp) (E : XK) (hr : Room 6 (A.deeper (envOfC "_law_any_height" (defScope (top 75)) s.heap.objs.size f cdv))) : VSs (cxOf CX0 P w K mg base N_law_any_height "_law_any_height" (defScope (top 75)) f cdv A outer s H E).nox st false (defBody (top 75)) (ws_law_any_height cW cL cP C_law_take C_law_pick) := (ss_cons (s_set (i := 1) sc_law_any_height.nd (e_call c_law_take hr (ac (ev 0) (ac e_int an)))) (ss_cons (s_if (t_cmp (op_eqP hr.units) d_eq (ov 1) (VE.o e_int)) (ss_one (s_ret (e_call c_law_pick hr (ac (ev 0) (ab (VF.o (f_lst (ac e_int (ac e_int (ac (e_un un_neg d_neg (VE.o e_int)) (ac e_int (ac e_int (ac (e_un un_neg d_neg (VE.o e_int)) (ac e_int (ac (e_un un_neg d_neg (VE.o e_int)) (ac e_int (ac (e_un un_neg d_neg (VE.o e_int)) (ac e_int (ac e_int (ac e_int an))))))))))))))) an))))) ss_nil) (ss_cons (s_if (t_cmp (op_eqP hr.units) d_eq (ov 1) (VE.o e_int)) (ss_one (s_ret (e_op op_sub d_sub (VE.o (e_call c_law_take hr (ac (ev 0) (ac e_int an)))) (VE.o e_int)))) ss_nil) (ss_one (s_ret (e_op op_sub d_sub (VE.o (e_call c_law_take hr (ac (ev 0) (ac e_int an)))) (VE.o e_int)))))))
theorem sc_law_is_land : FnScope N_law_is_land p_law_is_land (defScope (top 81)) := ⟨rfl, rfl, rfl, by decide +kernel, rfl, by decide +kernel, by decide +kernel⟩
theorem dv_law_is_land {C_W_places : OC} {C_W_bonds : OC} {C_LA_heights : OC} {C_law_same : OC} (g : Pg P w K mg base cW cL cP) (c_W_places : Pr P w K mg base cW "places" 2 C_W_places) (c_W_bonds : Pr P w K mg base cW "bonds" 2 C_W_bonds) (c_LA_heights : Pr P w K mg base cL "heights" 2 C_LA_heights) (c_law_same : Cl P w K mg base "_law_same" 8 C_law_same) (st : Sto) (f : Addr) (cdv : Value) (A : Around) (outer : List Env) (s : Shared) (H : Hp) (E : XK) (hr : Room 9 (A.deeper (envOfC "_law_is_land" (defScope (top 81)) s.heap.objs.size f cdv))) : VSs (cxOf CX0 P w K mg base N_law_is_land "_law_is_land" (defScope (top 81)) f cdv A outer s H E).nox st false (defBody (top 81)) (ws_law_is_land cW cL cP C_W_places C_W_bonds C_LA_heights C_law_same) := (ss_cons (s_if (t_w (x_or (t_not (t_tru (VE.o (e_isO g.kLA g.b_isinstance g.mLA (ov 0))))) (x_or1 (t_not (t_tru (VE.o (e_isO g.kW g.b_isinstance g.mW (VE.o (e_fld g.kLA.cl g.nLA_web (ov 0)))))))))) (ss_one (s_ret e_bl)) ss_nil) (ss_cons (s_set (i := 2) sc_law_is_land.nd (e_tup (ac (e_prop g.kW.cl c_W_places hr (VE.o (e_fld g.kLA.cl g.nLA_web (ov 0)))) (ac (e_prop g.kW.cl c_W_bonds hr (VE.o (e_fld g.kLA.cl g.nLA_web (ov 0)))) (ac (e_prop g.kLA.cl c_LA_heights hr (ov 0)) an))))) (ss_one (s_ret (e_call c_law_same hr (ac (ev 2) (ac (e_tup (ac (VF.ve (f_ct call_list_of c_list g.b_list (by decide +kernel) (ab (VE.o (e_ix (ov 1) (VE.o e_int))) an))) (ac (VF.ve (f_ct call_list_of c_list g.b_list (by decide +kernel) (ab (VE.o (e_ix (ov 1) (VE.o e_int))) an))) (ac (VF.ve (f_ct call_list_of c_list g.b_list (by decide +kernel) (ab (VE.o (e_ix (ov 1) (VE.o e_int))) an))) an)))) an)))))))
theorem sc_law_papers : FnScope N_law_papers p_law_papers (defScope (top 87)) := ⟨rfl, rfl, rfl, by decide +kernel, rfl, by decide +kernel, by decide +kernel⟩
theorem dv_law_papers {C_law_height : OC} {C_law_flats : OC} (g : Pg P w K mg base cW cL cP) (c_law_height : Cl P w K mg base "_law_height" 2 C_law_height) (c_law_flats : Cl P w K mg base "_law_flats" 8 C_law_flats) (st : Sto) (f : Addr) (cdv : Value) (A : Around) (outer : List Env) (s : Shared) (H : Hp) (E : XK) (hr : Room 9 (A.deeper (envOfC "_law_papers" (defScope (top 87)) s.heap.objs.size f cdv))) : VSs (cxOf CX0 P w K mg base N_law_papers "_law_papers" (defScope (top 87)) f cdv A outer s H E).nox st false (defBody (top 87)) (ws_law_papers cW cL cP C_law_height C_law_flats) := (ss_cons (s_own (i := 2) sc_law_papers.nd (f_lst an)) (ss_cons (s_for PassesOwn.never rfl (i_list (e_ix (ov 0) (VE.o e_int))) (g_name (i := 3) sc_law_papers.nd) (ss_cons (s_set (i := 4) sc_law_papers.nd (e_ix (ov 3) (VE.o e_int))) (ss_cons (s_set (i := 5) sc_law_papers.nd (e_ix (ov 3) (VE.o e_int))) (ss_cons (s_if (t_cmp op_ltA d_lt (VE.o (e_call c_law_height hr (ac (ev 1) (ac (ev 4) an)))) (VE.o (e_call c_law_height hr (ac (ev 1) (ac (ev 5) an))))) (ss_cons (s_set (i := 4) sc_law_papers.nd (e_ix (ov 3) (VE.o e_int))) (ss_one (s_set (i := 5) sc_law_papers.nd (e_ix (ov 3) (VE.o e_int))))) ss_nil) (ss_cons (s_set (i := 6) sc_law_papers.nd (e_tup (ac (e_call c_law_height hr (ac (ev 0) (ac (ev 4) an))) (ac (e_call c_law_height hr (ac (ev 0) (ac (ev 5) an))) an)))) (ss_cons (s_set (i := 6) sc_law_papers.nd (e_op op_addA d_add (ov 6) (VE.o (e_tup (ac (e_call c_law_height hr (ac (ev 1) (ac (ev 4) an))) (ac (e_call c_law_height hr (ac (ev 1) (ac (ev 5) an))) an)))))) (ss_one (s_if (t_w (x_and (t_cmp op_gt d_cm (VE.o (e_ix (ov 6) (VE.o e_int))) (VE.o (e_ix (ov 6) (VE.o e_int)))) (x_and1 (t_w (x_or (t_cmp op_ltA d_lt (VE.o (e_ix (ov 6) (VE.o e_int))) (VE.o (e_ix (ov 6) (VE.o e_int)))) (x_or1 (t_cmp op_gt d_cm (VE.o (e_ix (ov 6) (VE.o e_int))) (VE.o (e_ix (ov 6) (VE.o e_int)))))))))) (ss_one (s_app (pv 2) (e_tup (ac e_str (ac (e_ix (ov 3) (VE.o e_int)) (ac (ev 4) (ac (ev 5) (ac (ev 6) an)))))))) ss_nil)))))))) (ss_cons (s_for PassesOwn.never rfl (i_list (e_call c_law_flats hr (ac (ev 1) an))) (g_name (i := 7) sc_law_papers.nd) (ss_one (s_if (t_tru (VE.o (e_cb (cr_all rfl) d_bools g.b_all (by decide +kernel) (ab (VF.o (f_lc (own := [("_law_place", 8)]) rfl sc_law_papers.nd (i_list (ev 7)) (blkOk_by (own := [("_law_place", 8)]) (N := N_law_papers) (sc := defScope (top 87)) (by decide +kernel)) (fun _ _ _ _ _ => (g_name (i := 8) sc_law_papers.nd)) (fun _ _ _ _ _ => ts_nil) (fun _ _ _ _ _ => (e_cmp (op_neP hr.units) d_ne (VE.o (e_call c_law_height hr (ac (ev 0) (ac (ev 8) an)))) (VE.o (e_call c_law_height hr (ac (ev 1) (ac (ev 8) an)))))))) an)))) (ss_one (s_app (pv 2) (e_tup (ac e_str (ac (e_ct call_tuple_of c_tuple g.b_tuple (by decide +kernel) (ab (ov 7) an)) an))))) ss_nil))) (ss_frz 2 (ss_one (s_ret (ev 2)))))))
theorem sc_law_joining : FnScope N_law_joining p_law_joining (defScope (top 93)) := ⟨rfl, rfl, rfl, by decide +kernel, rfl, by decide +kernel, by decide +kernel⟩
theorem dv_law_joining {C_law_take : OC} {C_law_pick : OC} {C_law_any_height : OC} {C_law_flat : OC} {C_law_height : OC} (g : Pg P w K mg base cW cL cP) (c_law_take : Cl P w K mg base "_law_take" 3 C_law_take) (c_law_pick : Cl P w K mg base "_law_pick" 5 C_law_pick) (c_law_any_height : Cl P w K mg base "_law_any_height" 7 C_law_any_height) (c_law_flat : Cl P w K mg base "_law_flat" 6 C_law_flat) (c_law_height : Cl P w K mg base "_law_height" 2 C_law_height) (st : Sto) (f : Addr) (cdv : Value) (A : Around) (outer : List Env) (s : Shared) (H : Hp) (E : XK) (hr : Room 8 (A.deeper (envOfC "_law_joining" (defScope (top 93)) s.heap.objs.size f cdv))) : VSs (cxOf CX0 P w K mg base N_law_joining "_law_joining" (defScope (top 93)) f cdv A outer s H E).nox st false (defBody (top 93)) (ws_law_joining cW cL cP C_law_take C_law_pick C_law_any_height C_law_flat C_law_height) := (ss_cons (s_own (i := 2) sc_law_joining.nd (f_ct call_list_of c_list g.b_list (by decide +kernel) (ab (VE.o (e_ix (ov 1) (VE.o e_int))) an))) (ss_cons (s_for PassesOwn.never rfl (PImono (pi_range1 rfl g.b_range (ac (e_call c_law_take hr (ac (ev 0) (ac e_int an))) an)) tI_r1) (g_name (i := 3) sc_law_joining.nd) (ss_cons (s_set (i := 4) sc_law_joining.nd (e_tup (ac (e_ix (ov 1) (VE.o e_int)) (ac (e_ix (ov 1) (VE.o e_int)) (ac (VF.ve (f_ct call_list_of c_list g.b_list (by decide +kernel) (ab (ov 2) an))) an))))) (ss_one (s_if (t_w (x_or (t_cmp (op_eqP hr.units) d_eq (VE.o (e_ix (ov 1) (VE.o e_int))) (VF.o (f_lst an))) (x_or1 (t_cmp (op_eqP hr.units) d_eq (VE.o (e_call c_law_take hr (ac (ev 0) (ac e_int an)))) (VE.o e_int))))) (ss_one (s_put (pv 2) (e_call c_law_take hr (ac (ev 0) (ac (e_cb call_len d_len g.b_len (by decide +kernel) (ab (ov 2) an)) an))) (e_call c_law_pick hr (ac (ev 0) (ab (VE.o (e_op op_addA d_add (VE.o (e_ix (ov 1) (VE.o e_int))) (VF.o (f_lst (ac (e_call c_law_any_height hr (ac (ev 0) an)) an))))) an))))) (ss_cons (s_set (i := 5) sc_law_joining.nd (e_call c_law_pick hr (ac (ev 0) (ab (VE.o (e_ix (ov 1) (VE.o e_int))) an)))) (ss_cons (s_set (i := 6) sc_law_joining.nd (e_call c_law_take hr (ac (ev 0) (ac e_int an)))) (ss_one (s_for PassesOwn.never rfl (i_list (e_call c_law_flat hr (ac (ev 4) (ac (e_ix (ov 5) (VE.o (e_op op_addA d_add (VE.o e_int) (ov 6)))) an)))) (g_name (i := 7) sc_law_joining.nd) (ss_one (s_put (pv 2) (e_index (VE.o (e_ix (ov 1) (VE.o e_int))) (ov 7)) (e_call c_law_height hr (ac (ev 4) (ac (e_ix (ov 5) (VE.o (e_op op_sub d_sub (VE.o e_int) (ov 6)))) an))))))))))))) (ss_frz 2 (ss_one (s_ret (e_tup (ac (e_ix (ov 1) (VE.o e_int)) (ac (e_ix (ov 1) (VE.o e_int)) (ac (ev 2) an)))))))))
end
end VL
/-! text Ma -/
/-! Ma: names in order, rows in order. -/
namespace VL
open PySem PySem.Spec PyProof.Rows L2
def sl (a b : Str) : Prop := a.cps.toList < b.cps.toList
instance : DecidableRel sl := fun a b => inferInstanceAs (Decidable (a.cps.toList < b.cps.toList))
theorem sl_irrefl (a : Str) : ¬ sl a a := List.lt_irrefl _
theorem sl_trans {a b c : Str} (h : sl a b) (k : sl b c) : sl a c := List.lt_trans h k
theorem sl_asymm {a b : Str} (h : sl a b) : ¬ sl b a := fun k => sl_irrefl _ (sl_trans h k)
theorem sl_ne {a b : Str} (h : sl a b) : a ≠ b := fun e => sl_irrefl b (e ▸ h)
theorem sl_tri (a b : Str) : sl a b ∨ a = b ∨ sl b a := by
  rcases Classical.em (sl a b) with h | h
  · exact .inl h
  rcases Classical.em (sl b a) with k | k
  · exact .inr (.inr k)
  · exact .inr (.inl (PySem.W.str_of_cps (List.le_antisymm (List.not_lt.mp k) (List.not_lt.mp h))))
abbrev Asc (xs : List Str) : Prop := xs.Pairwise sl
theorem Asc.nodup {xs : List Str} (h : Asc xs) : xs.Nodup := List.Pairwise.imp (fun q => sl_ne q) h
theorem asc_ext : ∀ {xs ys : List Str}, Asc xs → Asc ys → (∀ x, x ∈ xs ↔ x ∈ ys) → xs = ys
  | [], [], _, _, _ => rfl
  | [], y :: ys, _, _, h => absurd ((h y).mpr (.head _)) (by simp)
  | x :: xs, [], _, _, h => absurd ((h x).mp (.head _)) (by simp)
  | x :: xs, y :: ys, hx, hy, h => by
    have hx' := List.pairwise_cons.mp hx
    have hy' := List.pairwise_cons.mp hy
    have e : x = y := by
      rcases List.mem_cons.mp ((h x).mp (.head _)) with e | m
      · exact e
      rcases List.mem_cons.mp ((h y).mpr (.head _)) with e | k
      · exact e.symm
      · exact absurd (sl_trans (hx'.1 y k) (hy'.1 x m)) (sl_irrefl _)
    subst e
    rw [asc_ext hx'.2 hy'.2 fun z => ⟨fun m => ?_, fun m => ?_⟩]
    · rcases List.mem_cons.mp ((h z).mp (.tail _ m)) with e | k
      · subst e; exact absurd (hx'.1 _ m) (sl_irrefl _)
      · exact k
    · rcases List.mem_cons.mp ((h z).mpr (.tail _ m)) with e | k
      · subst e; exact absurd (hy'.1 _ m) (sl_irrefl _)
      · exact k
theorem risingS_pw : ∀ (ss : List Str) (p : Str), risingS p ss = true → (p :: ss).Pairwise (fun a b => ¬ sl b a)
  | [], p, _ => List.pairwise_singleton _ _
  | x :: r, p, h => by
    rw [risingS, Bool.and_eq_true, ltCps_eq] at h
    have h1 : ¬ sl x p := by
      have := h.1
      intro k
      rw [decide_eq_true (show x.cps.toList < p.cps.toList from k)] at this
      cases this
    have h2 := risingS_pw r x h.2
    refine List.pairwise_cons.mpr ⟨fun y m => ?_, h2⟩
    rcases List.mem_cons.mp m with e | m
    · rw [e]; exact h1
    · have h3 := (List.pairwise_cons.mp h2).1 y m
      intro k
      rcases sl_tri x p with q | q | q
      · exact h1 q
      · exact h3 (q ▸ k)
      · exact h3 (sl_trans k q)
theorem sorted_asc {ys : List Str} (h : sortedS ys = true) (n : ys.Nodup) : Asc ys := by
  cases ys with
  | nil => exact .nil
  | cons x r =>
    refine ((risingS_pw r x h).and n).imp fun q => ?_
    rename_i a b
    rcases sl_tri a b with k | k | k
    · exact k
    · exact absurd k q.2
    · exact absurd k q.1
def srt (xs : List Str) : List Str := xs.mergeSort fun a b => !decide (sl b a)
theorem srt_perm (xs : List Str) : (srt xs).Perm xs := List.mergeSort_perm _ _
theorem srt_asc {xs : List Str} (n : xs.Nodup) : Asc (srt xs) := by
  have h : (srt xs).Pairwise fun a b => (!decide (sl b a)) = true := List.pairwise_mergeSort (fun a b c h1 h2 => by
    simp only [Bool.not_eq_true', decide_eq_false_iff_not] at h1 h2 ⊢
    intro k
    rcases sl_tri b a with q | q | q
    · exact h1 q
    · exact h2 (q ▸ k)
    · exact h2 (sl_trans k q)) (fun a b => by
    rcases sl_tri a b with q | q | q
    · simp [sl_asymm q]
    · subst q; simp [sl_irrefl]
    · simp [sl_asymm q]) xs
  refine (h.and ((srt_perm xs).nodup_iff.mpr n)).imp fun q => ?_
  rename_i a b
  simp only [Bool.not_eq_true', decide_eq_false_iff_not] at q
  rcases sl_tri a b with k | k | k
  · exact k
  · exact absurd k q.2
  · exact absurd k q.1
theorem srt_mem {xs : List Str} {x : Str} : x ∈ srt xs ↔ x ∈ xs := (srt_perm xs).mem_iff
theorem srt_len {xs : List Str} : (srt xs).length = xs.length := (srt_perm xs).length_eq
theorem srt_unique {ys xs : List Str} (p : ys.Perm xs) (s : sortedS ys = true) (n : xs.Nodup) : ys = srt xs :=
  asc_ext (sorted_asc s (p.nodup_iff.mpr n)) (srt_asc n) fun _ => p.mem_iff.trans (srt_perm xs).mem_iff.symm
theorem srt_id {xs : List Str} (h : Asc xs) : srt xs = xs := asc_ext (srt_asc h.nodup) h fun _ => srt_mem
theorem srt_ext {xs ys : List Str} (n : xs.Nodup) (m : ys.Nodup) (h : ∀ x, x ∈ xs ↔ x ∈ ys) : srt xs = srt ys :=
  asc_ext (srt_asc n) (srt_asc m) fun x => srt_mem.trans ((h x).trans srt_mem.symm)
theorem srt_eq {xs ys : List Str} (n : xs.Nodup) (m : Asc ys) (h : ∀ x, x ∈ xs ↔ x ∈ ys) : srt xs = ys :=
  asc_ext (srt_asc n) m fun x => srt_mem.trans (h x)
abbrev Bd := Str × Str × Str
def dBd (b : Bd) : D := .tup [.str b.1, .str b.2.1, .str b.2.2]
theorem pyOf_dBd (b : Bd) : pyOf (dBd b) = .tuple [.str b.1, .str b.2.1, .str b.2.2] := rfl
theorem toPy_dBd (b : Bd) : toPy (dBd b) = some (pyOf (dBd b)) := rfl
def bl (a b : Bd) : Bool := leD (dBd a) (dBd b)
def srtB (bs : List Bd) : List Bd := bs.mergeSort bl
theorem srtB_map (bs : List Bd) : (bs.map dBd).mergeSort leD = (srtB bs).map dBd := (List.map_mergeSort (r := bl) (s := leD) (f := dBd) (l := bs) fun _ _ _ _ => rfl).symm
theorem bl_eq (a b : Bd) : bl a b = !PyProof.Rows.lexLt PyProof.Rows.itemOrd (PySem.W.keyToks (pyOf (dBd b))) (PySem.W.keyToks (pyOf (dBd a))) := rfl
theorem bl_total (a b : Bd) : (bl a b || bl b a) = true := by
  rw [bl_eq, bl_eq]
  cases h : PyProof.Rows.lexLt PyProof.Rows.itemOrd (PySem.W.keyToks (pyOf (dBd b))) (PySem.W.keyToks (pyOf (dBd a))) with
  | false => rfl
  | true =>
    cases k : PyProof.Rows.lexLt PyProof.Rows.itemOrd (PySem.W.keyToks (pyOf (dBd a))) (PySem.W.keyToks (pyOf (dBd b))) with
    | false => rfl
    | true =>
      have := PyProof.Rows.lex_trans (O := PyProof.Rows.itemOrd) _ _ _ h k
      rw [PyProof.Rows.lex_irrefl] at this
      cases this
theorem bl_trans (a b c : Bd) (h : bl a b = true) (k : bl b c = true) : bl a c = true := by
  rw [bl_eq] at h k ⊢
  rw [Bool.not_eq_true'] at h k ⊢
  cases e : PyProof.Rows.lexLt PyProof.Rows.itemOrd (PySem.W.keyToks (pyOf (dBd c))) (PySem.W.keyToks (pyOf (dBd a))) with
  | false => rfl
  | true =>
    rcases PyProof.Rows.lex_negTrans (O := PyProof.Rows.itemOrd) _ (PySem.W.keyToks (pyOf (dBd b))) _ e with q | q
    · rw [k] at q; cases q
    · rw [h] at q; cases q
theorem bl_anti {a b : Bd} (h : bl a b = true) (k : bl b a = true) : a = b := by
  rw [bl_eq, Bool.not_eq_true'] at h k
  have e := PyProof.Rows.lex_total (O := PyProof.Rows.itemOrd) _ _ h k
  rw [pyOf_dBd, pyOf_dBd] at e
  simp [PySem.W.keyToks, PySem.W.keyToksAll] at e
  obtain ⟨a1, a2, a3⟩ := a
  obtain ⟨b1, b2, b3⟩ := b
  obtain ⟨e1, e2, e3⟩ := e
  cases a1; cases a2; cases a3; cases b1; cases b2; cases b3
  simp_all
theorem perm_pw {α : Type} {le : α → α → Prop} (as : ∀ a b, le a b → le b a → a = b) : ∀ {xs ys : List α}, xs.Perm ys → xs.Pairwise le → ys.Pairwise le → xs = ys
  | [], ys, p, _, _ => p.nil_eq
  | x :: xs, [], p, _, _ => absurd p.length_eq (by simp)
  | x :: xs, y :: ys, p, hx, hy => by
    have hx' := List.pairwise_cons.mp hx
    have hy' := List.pairwise_cons.mp hy
    have e : x = y := by
      rcases List.mem_cons.mp (p.mem_iff.mp (.head _)) with e | m
      · exact e
      rcases List.mem_cons.mp (p.mem_iff.mpr (.head _)) with e | k
      · exact e.symm
      · exact as _ _ (hx'.1 y k) (hy'.1 x m)
    subst e
    rw [perm_pw as (List.perm_cons _ |>.mp p) hx'.2 hy'.2]
theorem srtB_perm (bs : List Bd) : (srtB bs).Perm bs := List.mergeSort_perm _ _
theorem srtB_pw (bs : List Bd) : (srtB bs).Pairwise fun a b => bl a b = true := List.pairwise_mergeSort bl_trans bl_total bs
theorem srtB_congr {bs cs : List Bd} (p : bs.Perm cs) : srtB bs = srtB cs :=
  perm_pw (fun _ _ h k => bl_anti h k) ((srtB_perm bs).trans (p.trans (srtB_perm cs).symm)) (srtB_pw bs) (srtB_pw cs)
theorem srtB_idem (bs : List Bd) : srtB (srtB bs) = srtB bs := srtB_congr (srtB_perm bs)
theorem srtB_mem {bs : List Bd} {b : Bd} : b ∈ srtB bs ↔ b ∈ bs := (srtB_perm bs).mem_iff
theorem srtB_len {bs : List Bd} : (srtB bs).length = bs.length := (srtB_perm bs).length_eq
end VL
/-! text Mb -/
/-! Mb: lands, flats, gluing: no program in sight. -/
namespace VL
open PySem PySem.Spec PyProof.Rows L2
structure Ld where
  ps : List Str
  bs : List Bd
  h : Str → Int
def lets : List Nat := (Str.ofString "abcdefghijklmnopqrstuvwxyz").cps.toList
def figs : List Nat := (Str.ofString "0123456789").cps.toList
/-- a name -/
structure Nm (x : Str) : Prop where
  ne : x.length ≠ 0
  le : x.length ≤ 8
  it : x ≠ Str.ofString "it"
  hd : ∀ c, x.cps.toList[0]? = some c → c ∈ lets
  al : ∀ c ∈ x.cps.toList, c ∈ lets ∨ c ∈ figs
structure LdOk (L : Ld) : Prop where
  asc : Asc L.ps
  nm : ∀ p ∈ L.ps, Nm p
  ne : L.ps ≠ []
  len : L.ps.length ≤ 10
  hr : ∀ p ∈ L.ps, -9999 ≤ L.h p ∧ L.h p ≤ 9999
  bn : (L.bs.map (·.1)).Nodup
  bm : ∀ b ∈ L.bs, Nm b.1 ∧ b.2.1 ∈ L.ps ∧ b.2.2 ∈ L.ps ∧ sl b.2.1 b.2.2
  bl : L.bs.length ≤ 16
  bs : srtB L.bs = L.bs
/-- beside -/
def Adj (bs : List Bd) (p q : Str) : Prop := ∃ n, (n, p, q) ∈ bs ∨ (n, q, p) ∈ bs
theorem Adj.symm {bs : List Bd} {p q : Str} (h : Adj bs p q) : Adj bs q p := by
  obtain ⟨n, h⟩ := h
  exact ⟨n, h.symm⟩
inductive Sf (bs : List Bd) (h : Str → Int) (p : Str) : Str → Prop where
  | refl : Sf bs h p p
  | step {q r} : Sf bs h p q → Adj bs q r → h r = h q → Sf bs h p r
theorem Sf.ht {bs : List Bd} {h : Str → Int} {p q : Str} (s : Sf bs h p q) : h q = h p := by
  induction s with
  | refl => rfl
  | step _ _ e ih => rw [e, ih]
theorem Sf.trans {bs : List Bd} {h : Str → Int} {p q r : Str} (s : Sf bs h p q) (t : Sf bs h q r) : Sf bs h p r := by
  induction t with
  | refl => exact s
  | step _ a e ih => exact ih.step a e
theorem Sf.symm {bs : List Bd} {h : Str → Int} {p q : Str} (s : Sf bs h p q) : Sf bs h q p := by
  induction s with
  | refl => exact .refl
  | step _ a e ih => exact (Sf.step .refl a.symm e.symm).trans ih
theorem Sf.mem {bs : List Bd} {h : Str → Int} {p q : Str} {ps : List Str} (hb : ∀ b ∈ bs, b.2.1 ∈ ps ∧ b.2.2 ∈ ps) (s : Sf bs h p q) (hp : p ∈ ps) : q ∈ ps := by
  induction s with
  | refl => exact hp
  | step _ a _ _ =>
    obtain ⟨n, m | m⟩ := a
    · exact (hb _ m).2
    · exact (hb _ m).1
theorem Sf.congr {bs cs : List Bd} {h k : Str → Int} {p q : Str} {ps : List Str} (hb : ∀ b ∈ bs, b.2.1 ∈ ps ∧ b.2.2 ∈ ps) (hc : ∀ b ∈ bs, b ∈ cs) (e : ∀ p ∈ ps, h p = k p) (s : Sf bs h p q) (hp : p ∈ ps) : Sf cs k p q := by
  induction s with
  | refl => exact .refl
  | step s a e1 ih =>
    have m1 := s.mem hb hp
    have m2 := (s.step a e1).mem hb hp
    obtain ⟨n, m⟩ := a
    exact ih.step ⟨n, m.imp (hc _) (hc _)⟩ (by rw [← e _ m1, ← e _ m2, e1])
open Classical in
noncomputable def flat (L : Ld) (p : Str) : List Str := L.ps.filter fun q => decide (Sf L.bs L.h p q)
theorem mem_flat {L : Ld} {p q : Str} : q ∈ flat L p ↔ q ∈ L.ps ∧ Sf L.bs L.h p q := by
  unfold flat
  rw [List.mem_filter]
  simp
noncomputable def flats (L : Ld) : List (List Str) := (L.ps.filter fun p => (flat L p).head? == some p).map (flat L)
theorem flat_asc {L : Ld} (h : Asc L.ps) (p : Str) : Asc (flat L p) := List.Pairwise.filter _ h
theorem flat_self {L : Ld} {p : Str} (h : p ∈ L.ps) : p ∈ flat L p := mem_flat.mpr ⟨h, .refl⟩
theorem flat_eq {L : Ld} {p q : Str} (h : Sf L.bs L.h p q) : flat L p = flat L q := by
  unfold flat
  congr 1
  funext r
  rw [decide_eq_decide]
  exact ⟨fun k => h.symm.trans k, fun k => h.trans k⟩
theorem flat_eq_mem {L : Ld} {p q : Str} (h : q ∈ flat L p) : flat L q = flat L p := (flat_eq (mem_flat.mp h).2).symm
/-- each place lies in one of the flats -/
theorem flat_in {L : Ld} {p : Str} (h : p ∈ L.ps) : flat L p ∈ flats L := by
  unfold flats
  rw [List.mem_map]
  cases e : flat L p with
  | nil => have := flat_self h; rw [e] at this; cases this
  | cons q r =>
    have hq : q ∈ flat L p := by rw [e]; exact .head _
    refine ⟨q, List.mem_filter.mpr ⟨(mem_flat.mp hq).1, ?_⟩, ?_⟩
    · rw [flat_eq_mem hq, e]; simp
    · rw [flat_eq_mem hq, e]
theorem mem_flats {L : Ld} {F : List Str} (h : F ∈ flats L) : ∃ p ∈ L.ps, F = flat L p ∧ F.head? = some p := by
  unfold flats at h
  rw [List.mem_map] at h
  obtain ⟨p, m, rfl⟩ := h
  rw [List.mem_filter] at m
  exact ⟨p, m.1, rfl, by simpa using m.2⟩
/-! ### papers -/
def slant (g : Ld) : List Bd := g.bs.filterMap fun b => if g.h b.2.1 > g.h b.2.2 then some b else if g.h b.2.1 < g.h b.2.2 then some (b.1, b.2.2, b.2.1) else none
def brkT (s g : Ld) (b : Bd) : Bool := decide (s.h b.2.1 < g.h b.2.1 ∨ s.h b.2.2 > g.h b.2.2)
def brk (s g : Ld) : List Bd := (slant g).filter (brkT s g)
noncomputable def dry (s g : Ld) : List (List Str) := (flats g).filter fun F => F.all fun p => s.h p != g.h p
/-- a bond that makes a paper -/
def Bad (s g : Ld) (b : Bd) : Prop := (g.h b.2.1 > g.h b.2.2 ∧ (s.h b.2.1 < g.h b.2.1 ∨ s.h b.2.2 > g.h b.2.2)) ∨ (g.h b.2.1 < g.h b.2.2 ∧ (s.h b.2.2 < g.h b.2.2 ∨ s.h b.2.1 > g.h b.2.1))
theorem brk_nil {s g : Ld} : brk s g = [] ↔ ∀ b ∈ g.bs, ¬ Bad s g b := by
  unfold brk slant
  rw [List.filter_eq_nil_iff]
  constructor
  · intro h b m k
    rcases k with ⟨k1, k2⟩ | ⟨k1, k2⟩
    · exact h b (List.mem_filterMap.mpr ⟨b, m, by rw [if_pos k1]⟩) (by unfold brkT; simpa using k2)
    · exact h (b.1, b.2.2, b.2.1) (List.mem_filterMap.mpr ⟨b, m, by rw [if_neg (by omega), if_pos k1]⟩) (by unfold brkT; simpa using k2)
  · intro h c m k
    obtain ⟨b, mb, e⟩ := List.mem_filterMap.mp m
    unfold brkT at k
    simp only [decide_eq_true_eq] at k
    split at e
    · rename_i q
      have e := Option.some.inj e
      subst e
      exact h b mb (.inl ⟨q, k⟩)
    · split at e
      · rename_i q
        have e := Option.some.inj e
        subst e
        exact h b mb (.inr ⟨q, k⟩)
      · cases e
/-- a flat has a spring -/
def Wet (s g : Ld) (F : List Str) : Prop := ∃ p ∈ F, s.h p = g.h p
theorem dry_nil {s g : Ld} : dry s g = [] ↔ ∀ F ∈ flats g, Wet s g F := by
  unfold dry
  rw [List.filter_eq_nil_iff]
  constructor
  · intro h F m
    apply Classical.byContradiction
    intro k
    refine h F m (List.all_eq_true.mpr fun p mp => ?_)
    rw [bne_iff_ne]
    intro e
    exact k ⟨p, mp, e⟩
  · intro h F m k
    obtain ⟨p, q, e⟩ := h F m
    have := List.all_eq_true.mp k p q
    simp [e] at this
/-! ### shows -/
abbrev Bk := List Str × Bool
noncomputable def blk (s g : Ld) (B F : List Str) : Option Bk := if F.filter (fun p => decide (p ∈ B)) = [] then none else some (F.filter fun p => decide (p ∈ B), F.any fun p => decide (s.h p = g.h p))
noncomputable def blks (s g : Ld) (B : List Str) : List Bk := (flats g).filterMap (blk s g B)
/-- the show is there -/
def Sh (s g : Ld) (B : List Str) : Prop := brk s g = [] ∧ ∀ F ∈ flats g, F.filter (fun p => decide (p ∈ B)) = [] → Wet s g F
/-! ### fits -/
def hits (pl : List Str) (c : Bk) : Bool := c.1.any fun p => decide (p ∈ pl)
def fstep (cl : List Bk) (b : Bk) : List Bk :=
  cl.filter (fun c => !hits b.1 c) ++ [(b.1 ++ ((cl.filter (hits b.1)).flatMap (·.1)), b.2 || (cl.filter (hits b.1)).any (·.2))]
theorem hits_iff {pl : List Str} {c : Bk} : hits pl c = true ↔ ∃ p ∈ c.1, p ∈ pl := by
  unfold hits
  simp
/-- pieces that go together -/
structure Glu (L1 L2 W : Ld) (B : List Str) : Prop where
  ps : ∀ p, p ∈ W.ps ↔ p ∈ L1.ps ∨ p ∈ L2.ps
  bs : ∀ b, b ∈ W.bs ↔ b ∈ L1.bs ∨ b ∈ L2.bs
  h1 : ∀ p ∈ L1.ps, W.h p = L1.h p
  h2 : ∀ p ∈ L2.ps, W.h p = L2.h p
  e1 : ∀ b ∈ L1.bs, b.2.1 ∈ L1.ps ∧ b.2.2 ∈ L1.ps
  e2 : ∀ b ∈ L2.bs, b.2.1 ∈ L2.ps ∧ b.2.2 ∈ L2.ps
  B : ∀ p, p ∈ B ↔ p ∈ L1.ps ∧ p ∈ L2.ps
theorem Glu.symm {L1 L2 W : Ld} {B : List Str} (h : Glu L1 L2 W B) : Glu L2 L1 W B :=
  ⟨fun p => (h.ps p).trans or_comm, fun b => (h.bs b).trans or_comm, h.h2, h.h1, h.e2, h.e1, fun p => (h.B p).trans and_comm⟩
section
variable {L1 L2 W G1 G2 V : Ld} {B : List Str}
theorem Glu.sf1 (h : Glu L1 L2 W B) {p q : Str} (s : Sf L1.bs L1.h p q) (hp : p ∈ L1.ps) : Sf W.bs W.h p q :=
  s.congr h.e1 (fun b m => (h.bs b).mpr (.inl m)) (fun p m => (h.h1 p m).symm) hp
/-- a step in the whole is a step in one of the parts -/
theorem Glu.adj (h : Glu L1 L2 W B) {p q : Str} (a : Adj W.bs p q) : (Adj L1.bs p q ∧ p ∈ L1.ps ∧ q ∈ L1.ps) ∨ (Adj L2.bs p q ∧ p ∈ L2.ps ∧ q ∈ L2.ps) := by
  obtain ⟨n, m | m⟩ := a
  · rcases (h.bs _).mp m with m | m
    · exact .inl ⟨⟨n, .inl m⟩, h.e1 _ m⟩
    · exact .inr ⟨⟨n, .inl m⟩, h.e2 _ m⟩
  · rcases (h.bs _).mp m with m | m
    · exact .inl ⟨⟨n, .inr m⟩, (h.e1 _ m).symm⟩
    · exact .inr ⟨⟨n, .inr m⟩, (h.e2 _ m).symm⟩
/-- an inner flat is a flat of the whole -/
theorem Glu.inner (h : Glu L1 L2 W B) {p q : Str} (hp : p ∈ L1.ps) (hn : ∀ r ∈ flat L1 p, r ∉ B) (s : Sf W.bs W.h p q) : q ∈ flat L1 p := by
  induction s with
  | refl => exact flat_self hp
  | step s a e ih =>
    rename_i q r
    have hq := mem_flat.mp ih
    rcases h.adj a with ⟨a1, m1, m2⟩ | ⟨a1, m1, m2⟩
    · exact mem_flat.mpr ⟨m2, hq.2.step a1 (by rw [← h.h1 _ m1, ← h.h1 _ m2, e])⟩
    · exact absurd ((h.B q).mpr ⟨hq.1, m1⟩) (hn q ih)
/-- s is the start, g the goal, of the parts and of the whole -/
structure Both (L1 L2 W G1 G2 V : Ld) (B : List Str) : Prop where
  s : Glu L1 L2 W B
  g : Glu G1 G2 V B
  p1 : G1.ps = L1.ps
  p2 : G2.ps = L2.ps
theorem Both.symm (h : Both L1 L2 W G1 G2 V B) : Both L2 L1 W G2 G1 V B := ⟨h.s.symm, h.g.symm, h.p2, h.p1⟩
theorem Both.bad1 (h : Both L1 L2 W G1 G2 V B) {b : Bd} (m : b ∈ G1.bs) : Bad W V b ↔ Bad L1 G1 b := by
  have e := h.g.e1 b m
  unfold Bad
  rw [h.g.h1 _ e.1, h.g.h1 _ e.2, h.s.h1 _ (h.p1 ▸ e.1), h.s.h1 _ (h.p1 ▸ e.2)]
theorem Both.nobrk (h : Both L1 L2 W G1 G2 V B) : brk W V = [] ↔ brk L1 G1 = [] ∧ brk L2 G2 = [] := by
  rw [brk_nil, brk_nil, brk_nil]
  constructor
  · intro k
    exact ⟨fun b m q => k b ((h.g.bs b).mpr (.inl m)) ((h.bad1 m).mpr q), fun b m q => k b ((h.g.bs b).mpr (.inr m)) ((h.symm.bad1 m).mpr q)⟩
  · rintro ⟨k1, k2⟩ b m q
    rcases (h.g.bs b).mp m with m | m
    · exact k1 b m ((h.bad1 m).mp q)
    · exact k2 b m ((h.symm.bad1 m).mp q)
theorem nil_of_filter {F B : List Str} : F.filter (fun p => decide (p ∈ B)) = [] ↔ ∀ r ∈ F, r ∉ B := by
  rw [List.filter_eq_nil_iff]
  simp
/-- every flat of the whole is wet -/
def AllWet (W V : Ld) : Prop := ∀ p ∈ V.ps, ∃ z ∈ V.ps, Sf V.bs V.h p z ∧ W.h z = V.h z
theorem allWet_iff {W V : Ld} : AllWet W V ↔ dry W V = [] := by
  rw [dry_nil]
  constructor
  · intro k F m
    obtain ⟨p, hp, rfl, _⟩ := mem_flats m
    obtain ⟨z, hz, s, e⟩ := k p hp
    exact ⟨z, mem_flat.mpr ⟨hz, s⟩, e⟩
  · intro k p hp
    obtain ⟨z, hz, e⟩ := k _ (flat_in hp)
    exact ⟨z, (mem_flat.mp hz).1, (mem_flat.mp hz).2, e⟩
theorem Both.wet1 (h : Both L1 L2 W G1 G2 V B) (k : AllWet W V) {F : List Str} (m : F ∈ flats G1) (n : F.filter (fun p => decide (p ∈ B)) = []) : Wet L1 G1 F := by
  obtain ⟨p, hp, rfl, _⟩ := mem_flats m
  obtain ⟨z, hz, s, e⟩ := k p ((h.g.ps p).mpr (.inl hp))
  have q := h.g.inner hp (nil_of_filter.mp n) s
  have z1 := (mem_flat.mp q).1
  exact ⟨z, q, by rw [← h.s.h1 z (h.p1 ▸ z1), ← h.g.h1 z z1, e]⟩
theorem Both.shows (h : Both L1 L2 W G1 G2 V B) (kb : brk W V = []) (kw : AllWet W V) : Sh L1 G1 B ∧ Sh L2 G2 B :=
  ⟨⟨(h.nobrk.mp kb).1, fun _ m n => h.wet1 kw m n⟩, ⟨(h.nobrk.mp kb).2, fun _ m n => h.symm.wet1 kw m n⟩⟩
/-- the classes, as far as they are laid -/
structure Cla (L1 L2 W G1 G2 V : Ld) (B : List Str) (done : List Bk) (cl : List Bk) : Prop where
  sub : ∀ c ∈ cl, ∀ p ∈ c.1, p ∈ B
  con : ∀ c ∈ cl, ∀ p ∈ c.1, ∀ q ∈ c.1, Sf V.bs V.h p q
  spr : ∀ c ∈ cl, c.2 = true → ∃ p ∈ c.1, ∃ z ∈ V.ps, Sf V.bs V.h p z ∧ W.h z = V.h z
  nem : ∀ c ∈ cl, ∃ p, p ∈ c.1
  has : ∀ b ∈ done, ∃ c ∈ cl, (∀ p ∈ b.1, p ∈ c.1) ∧ (b.2 = true → c.2 = true)
  dis : ∀ c ∈ cl, ∀ d ∈ cl, ∀ p, p ∈ c.1 → p ∈ d.1 → (c.2 = true ↔ d.2 = true) ∧ ∀ q, q ∈ c.1 ↔ q ∈ d.1
/-- a block as it comes -/
structure BkOk (W V : Ld) (B : List Str) (b : Bk) : Prop where
  sub : ∀ p ∈ b.1, p ∈ B
  con : ∀ p ∈ b.1, ∀ q ∈ b.1, Sf V.bs V.h p q
  nem : ∃ p, p ∈ b.1
  spr : b.2 = true → ∃ p ∈ b.1, ∃ z ∈ V.ps, Sf V.bs V.h p z ∧ W.h z = V.h z
theorem Cla.step {done cl : List Bk} {b : Bk} (h : Cla L1 L2 W G1 G2 V B done cl) (k : BkOk W V B b) : Cla L1 L2 W G1 G2 V B (done ++ [b]) (fstep cl b) := by
  have cases_ : ∀ c ∈ fstep cl b, (c ∈ cl ∧ hits b.1 c = false) ∨ c = (b.1 ++ ((cl.filter (hits b.1)).flatMap (·.1)), b.2 || (cl.filter (hits b.1)).any (·.2)) := fun c m => by
    unfold fstep at m
    rcases List.mem_append.mp m with m | m
    · rw [List.mem_filter] at m
      exact .inl ⟨m.1, by simpa using m.2⟩
    · exact .inr (by simpa using m)
  -- the new class
  obtain ⟨b0, hb0⟩ := k.nem
  have inN : ∀ p, p ∈ b.1 ++ ((cl.filter (hits b.1)).flatMap (·.1)) → p ∈ B ∧ Sf V.bs V.h b0 p ∧ (p ∈ b.1 ∨ ∃ c ∈ cl, hits b.1 c = true ∧ p ∈ c.1) := fun p m => by
    rcases List.mem_append.mp m with m | m
    · exact ⟨k.sub p m, k.con _ hb0 _ m, .inl m⟩
    · rw [List.mem_flatMap] at m
      obtain ⟨c, mc, mp⟩ := m
      rw [List.mem_filter] at mc
      obtain ⟨q, q1, q2⟩ := hits_iff.mp mc.2
      exact ⟨h.sub c mc.1 p mp, (k.con _ hb0 _ q2).trans (h.con c mc.1 q q1 p mp), .inr ⟨c, mc.1, mc.2, mp⟩⟩
  have toN : ∀ c ∈ cl, hits b.1 c = true → ∀ p ∈ c.1, p ∈ b.1 ++ ((cl.filter (hits b.1)).flatMap (·.1)) := fun c m e p mp =>
    List.mem_append.mpr (.inr (List.mem_flatMap.mpr ⟨c, List.mem_filter.mpr ⟨m, e⟩, mp⟩))
  have newIn : (b.1 ++ ((cl.filter (hits b.1)).flatMap (·.1)), b.2 || (cl.filter (hits b.1)).any (·.2)) ∈ fstep cl b := by
    unfold fstep
    exact List.mem_append.mpr (.inr (.head _))
  have apart : ∀ c ∈ cl, hits b.1 c = false → ∀ p ∈ c.1, p ∉ b.1 ++ ((cl.filter (hits b.1)).flatMap (·.1)) := fun c m e p mp q => by
    rcases (inN p q).2.2 with q | ⟨d, md, hd, mpd⟩
    · rw [hits_iff.mpr ⟨p, mp, q⟩] at e; cases e
    · obtain ⟨z, z1, z2⟩ := hits_iff.mp hd
      rw [hits_iff.mpr ⟨z, ((h.dis c m d md p mp mpd).2 z).mpr z1, z2⟩] at e
      cases e
  refine ⟨fun c m p mp => ?_, fun c m p mp q mq => ?_, fun c m e => ?_, fun c m => ?_, fun x m => ?_, fun c m d n p mp np => ?_⟩
  · rcases cases_ c m with ⟨m, _⟩ | rfl
    · exact h.sub c m p mp
    · exact (inN p mp).1
  · rcases cases_ c m with ⟨m, _⟩ | rfl
    · exact h.con c m p mp q mq
    · exact (inN p mp).2.1.symm.trans (inN q mq).2.1
  · rcases cases_ c m with ⟨m, _⟩ | rfl
    · exact h.spr c m e
    · simp only [Bool.or_eq_true] at e
      rcases e with e | e
      · obtain ⟨p, mp, z, zv, s, ez⟩ := k.spr e
        exact ⟨p, List.mem_append.mpr (.inl mp), z, zv, s, ez⟩
      · rw [List.any_eq_true] at e
        obtain ⟨d, md, ed⟩ := e
        rw [List.mem_filter] at md
        obtain ⟨p, mp, z, zv, s, ez⟩ := h.spr d md.1 ed
        exact ⟨p, toN d md.1 md.2 p mp, z, zv, s, ez⟩
  · rcases cases_ c m with ⟨m, _⟩ | rfl
    · exact h.nem c m
    · exact ⟨b0, List.mem_append.mpr (.inl hb0)⟩
  · rcases List.mem_append.mp m with m | m
    · obtain ⟨c, mc, h1, h2⟩ := h.has x m
      cases e : hits b.1 c with
      | false =>
        refine ⟨c, ?_, h1, h2⟩
        unfold fstep
        exact List.mem_append.mpr (.inl (List.mem_filter.mpr ⟨mc, by simp [e]⟩))
      | true =>
        refine ⟨_, newIn, fun p mp => toN c mc e p (h1 p mp), fun ex => ?_⟩
        simp only [Bool.or_eq_true]
        exact .inr (List.any_eq_true.mpr ⟨c, List.mem_filter.mpr ⟨mc, e⟩, h2 ex⟩)
    · have : x = b := by simpa using m
      subst this
      exact ⟨_, newIn, fun p mp => List.mem_append.mpr (.inl mp), fun ex => by simp [ex]⟩
  · rcases cases_ c m with ⟨m, hc⟩ | rfl
    · rcases cases_ d n with ⟨n, hd⟩ | rfl
      · exact h.dis c m d n p mp np
      · exact absurd np (apart c m hc p mp)
    · rcases cases_ d n with ⟨n, hd⟩ | rfl
      · exact absurd mp (apart d n hd p np)
      · exact ⟨Iff.rfl, fun _ => Iff.rfl⟩
theorem Cla.foldl : ∀ (bs : List Bk) {done cl : List Bk}, Cla L1 L2 W G1 G2 V B done cl → (∀ b ∈ bs, BkOk W V B b) → Cla L1 L2 W G1 G2 V B (done ++ bs) (bs.foldl fstep cl)
  | [], done, cl, h, _ => by rw [List.append_nil]; exact h
  | b :: bs, done, cl, h, k => by
    have := Cla.foldl bs (h.step (k b (.head _))) fun c m => k c (.tail _ m)
    rw [List.append_assoc] at this
    exact this
theorem mem_blks {s g : Ld} {b : Bk} : b ∈ blks s g B ↔ ∃ F ∈ flats g, (∃ r ∈ F, r ∈ B) ∧ b = (F.filter (fun p => decide (p ∈ B)), F.any fun p => decide (s.h p = g.h p)) := by
  unfold blks
  rw [List.mem_filterMap]
  constructor
  · rintro ⟨F, m, e⟩
    unfold blk at e
    split at e
    · cases e
    · rename_i q
      cases e
      refine ⟨F, m, ?_, rfl⟩
      apply Classical.byContradiction
      intro k
      exact q (nil_of_filter.mpr fun r mr mb => k ⟨r, mr, mb⟩)
  · rintro ⟨F, m, ⟨r, mr, mb⟩, rfl⟩
    exact ⟨F, m, by unfold blk; rw [if_neg fun q => nil_of_filter.mp q r mr mb]⟩
theorem Both.ok1 (h : Both L1 L2 W G1 G2 V B) {b : Bk} (m : b ∈ blks L1 G1 B) : BkOk W V B b := by
  obtain ⟨F, mF, ⟨r, mr, mb⟩, rfl⟩ := mem_blks.mp m
  obtain ⟨p, hp, rfl, _⟩ := mem_flats mF
  have inF : ∀ q ∈ flat G1 p, Sf V.bs V.h p q := fun q mq => h.g.sf1 (mem_flat.mp mq).2 hp
  refine ⟨fun q mq => by simpa using (List.mem_filter.mp mq).2, fun q mq s ms => (inF q (List.mem_filter.mp mq).1).symm.trans (inF s (List.mem_filter.mp ms).1), ⟨r, List.mem_filter.mpr ⟨mr, by simpa using mb⟩⟩, fun e => ?_⟩
  rw [List.any_eq_true] at e
  obtain ⟨z, mz, ez⟩ := e
  have z1 := (mem_flat.mp mz).1
  refine ⟨r, List.mem_filter.mpr ⟨mr, by simpa using mb⟩, z, (h.g.ps z).mpr (.inl z1), (inF r mr).symm.trans (inF z mz), ?_⟩
  rw [h.s.h1 z (h.p1 ▸ z1), h.g.h1 z z1]
  simpa using ez
/-- the block that a border place lies in -/
theorem blk_of {s g : Ld} {p r : Str} (hp : p ∈ g.ps) (hr : r ∈ flat g p) (mb : r ∈ B) : ∃ b ∈ blks s g B, (∀ q ∈ flat g p, q ∈ B → q ∈ b.1) ∧ ((∃ z ∈ flat g p, s.h z = g.h z) → b.2 = true) := by
  refine ⟨_, mem_blks.mpr ⟨flat g p, flat_in hp, ⟨r, hr, mb⟩, rfl⟩, fun q mq qb => List.mem_filter.mpr ⟨mq, by simpa using qb⟩, fun ⟨z, mz, ez⟩ => ?_⟩
  exact List.any_eq_true.mpr ⟨z, mz, by simpa using ez⟩
/-- the law of gluing -/
theorem Both.fits (h : Both L1 L2 W G1 G2 V B) (s1 : Sh L1 G1 B) (s2 : Sh L2 G2 B) {bs : List Bk} (hb : ∀ b, b ∈ bs ↔ b ∈ blks L1 G1 B ∨ b ∈ blks L2 G2 B) :
    ((bs.foldl fstep []).all (·.2) = true) ↔ AllWet W V := by
  have C : Cla L1 L2 W G1 G2 V B ([] ++ bs) (bs.foldl fstep []) := Cla.foldl bs ⟨fun _ m => absurd m (by simp), fun _ m => absurd m (by simp), fun _ m => absurd m (by simp), fun _ m => absurd m (by simp), fun _ m => absurd m (by simp), fun _ m => absurd m (by simp)⟩
    fun b m => ((hb b).mp m).elim h.ok1 h.symm.ok1
  rw [List.nil_append] at C
  generalize bs.foldl fstep [] = cl at C
  have allT : (cl.all (·.2) = true) ↔ ∀ c ∈ cl, c.2 = true := by rw [List.all_eq_true]
  rw [allT]
  constructor
  · intro k p hp
    -- one side
    have one : ∀ {L1 L2 G1 G2 : Ld}, Both L1 L2 W G1 G2 V B → Sh L1 G1 B → (∀ b ∈ blks L1 G1 B, b ∈ bs) → p ∈ G1.ps → ∃ z ∈ V.ps, Sf V.bs V.h p z ∧ W.h z = V.h z := fun {L1 L2 G1 G2} h s1 hb hp => by
      by_cases q : (flat G1 p).filter (fun p => decide (p ∈ B)) = []
      · obtain ⟨z, mz, ez⟩ := s1.2 _ (flat_in hp) q
        have z1 := (mem_flat.mp mz).1
        exact ⟨z, (h.g.ps z).mpr (.inl z1), h.g.sf1 (mem_flat.mp mz).2 hp, by rw [h.s.h1 z (h.p1 ▸ z1), h.g.h1 z z1, ez]⟩
      · have : ∃ r ∈ flat G1 p, r ∈ B := by
          apply Classical.byContradiction
          intro k
          exact q (nil_of_filter.mpr fun r mr mb => k ⟨r, mr, mb⟩)
        obtain ⟨r, mr, mb⟩ := this
        obtain ⟨b, m, b1, b2⟩ := blk_of (s := L1) hp mr mb
        obtain ⟨c, mc, c1, c2⟩ := C.has b (hb b m)
        obtain ⟨x, mx, z, zv, sz, ez⟩ := C.spr c mc (k c mc)
        exact ⟨z, zv, ((h.g.sf1 (mem_flat.mp mr).2 hp).trans (C.con c mc r (c1 r (b1 r mr mb)) x mx)).trans sz, ez⟩
    rcases (h.g.ps p).mp hp with q | q
    · exact one h s1 (fun b m => (hb b).mpr (.inl m)) q
    · exact one h.symm s2 (fun b m => (hb b).mpr (.inr m)) q
  · intro k c mc
    obtain ⟨j, mj⟩ := C.nem c mc
    have jB := C.sub c mc j mj
    obtain ⟨j1, j2⟩ := (h.g.B j).mp jB
    -- all that can be come to from j touches the class
    let S : Str → Prop := fun p => (p ∈ G1.ps ∧ ∃ r ∈ flat G1 p, r ∈ c.1) ∨ (p ∈ G2.ps ∧ ∃ r ∈ flat G2 p, r ∈ c.1)
    have toC : ∀ {L1 L2 G1 G2 : Ld}, Both L1 L2 W G1 G2 V B → (∀ b ∈ blks L1 G1 B, b ∈ bs) → ∀ p ∈ G1.ps, p ∈ B → (∃ r ∈ flat G1 p, r ∈ c.1) → p ∈ c.1 := fun {L1 L2 G1 G2} h hb p hp pB ⟨r, mr, rc⟩ => by
      obtain ⟨b, m, b1, b2⟩ := blk_of (s := L1) hp mr (C.sub c mc r rc)
      obtain ⟨d, md, d1, d2⟩ := C.has b (hb b m)
      exact ((C.dis c mc d md r rc (d1 r (b1 r mr (C.sub c mc r rc)))).2 p).mpr (d1 p (b1 p (flat_self hp) pB))
    have hb1 : ∀ b ∈ blks L1 G1 B, b ∈ bs := fun b m => (hb b).mpr (.inl m)
    have hb2 : ∀ b ∈ blks L2 G2 B, b ∈ bs := fun b m => (hb b).mpr (.inr m)
    have go1 : ∀ {L1 L2 G1 G2 : Ld}, Both L1 L2 W G1 G2 V B → (∀ b ∈ blks L2 G2 B, b ∈ bs) → ∀ p q, ((p ∈ G1.ps ∧ ∃ r ∈ flat G1 p, r ∈ c.1) ∨ (p ∈ G2.ps ∧ ∃ r ∈ flat G2 p, r ∈ c.1)) → Adj G1.bs p q → p ∈ G1.ps → q ∈ G1.ps → V.h q = V.h p → ∃ r ∈ flat G1 q, r ∈ c.1 := fun {L1 L2 G1 G2} h hb2 p q Sp a m1 m2 e => by
      have e1 : G1.h q = G1.h p := by rw [← h.g.h1 _ m1, ← h.g.h1 _ m2, e]
      have ef : flat G1 p = flat G1 q := flat_eq (Sf.step .refl a e1)
      rcases Sp with ⟨_, r, mr, rc⟩ | ⟨m2', r, mr, rc⟩
      · exact ⟨r, ef ▸ mr, rc⟩
      · exact ⟨p, ef ▸ flat_self m1, toC h.symm hb2 p m2' ((h.g.B p).mpr ⟨m1, m2'⟩) ⟨r, mr, rc⟩⟩
    have clo : ∀ z, Sf V.bs V.h j z → S z := fun z s => by
      induction s with
      | refl => exact .inl ⟨j1, j, flat_self j1, mj⟩
      | step s a e ih =>
        rcases h.g.adj a with ⟨a, m1, m2⟩ | ⟨a, m1, m2⟩
        · exact .inl ⟨m2, go1 h hb2 _ _ ih a m1 m2 e⟩
        · exact .inr ⟨m2, go1 h.symm hb1 _ _ ih.symm a m1 m2 e⟩
    obtain ⟨z, hz, s, ez⟩ := k j ((h.g.ps j).mpr (.inl j1))
    have fin : ∀ {L1 L2 G1 G2 : Ld}, Both L1 L2 W G1 G2 V B → (∀ b ∈ blks L1 G1 B, b ∈ bs) → z ∈ G1.ps → (∃ r ∈ flat G1 z, r ∈ c.1) → c.2 = true := fun {L1 L2 G1 G2} h hb hp ⟨r, mr, rc⟩ => by
      obtain ⟨b, m, b1, b2⟩ := blk_of (s := L1) hp mr (C.sub c mc r rc)
      obtain ⟨d, md, d1, d2⟩ := C.has b (hb b m)
      exact (C.dis c mc d md r rc (d1 r (b1 r mr (C.sub c mc r rc)))).1.mpr (d2 (b2 ⟨z, flat_self hp, by rw [← h.s.h1 z (h.p1 ▸ hp), ← h.g.h1 z hp, ez]⟩))
    rcases clo z s with ⟨m, q⟩ | ⟨m, q⟩
    · exact fin h hb1 m q
    · exact fin h.symm hb2 m q
end
end VL
/-! text Mc -/
/-! Mc: neighbours, how a flat grows, the flats one after another. -/
namespace VL
open PySem PySem.Spec PyProof.Rows L2
def nb1 (p : Str) (b : Bd) : List Str := (if b.2.1 = p then [b.2.2] else []) ++ (if b.2.2 = p then [b.2.1] else [])
def nbrs (bs : List Bd) (p : Str) : List Str := bs.flatMap (nb1 p)
theorem mem_nbrs {bs : List Bd} {p q : Str} : q ∈ nbrs bs p ↔ Adj bs p q := by
  unfold nbrs nb1 Adj
  rw [List.mem_flatMap]
  constructor
  · rintro ⟨⟨n, a, b⟩, m, h⟩
    simp only [List.mem_append] at h
    rcases h with h | h
    · split at h
      · rename_i e; subst e; have := List.mem_singleton.mp h; subst this; exact ⟨n, .inl m⟩
      · cases h
    · split at h
      · rename_i e; subst e; have := List.mem_singleton.mp h; subst this; exact ⟨n, .inr m⟩
      · cases h
  · rintro ⟨n, h | h⟩
    · exact ⟨_, h, by simp⟩
    · exact ⟨_, h, by simp⟩
/-- p is known from p: a flat as far as it has grown; what stands ahead of a is done -/
structure Gr (L : Ld) (p : Str) (fl : List Str) (a : Nat) : Prop where
  nd : fl.Nodup
  sf : ∀ q ∈ fl, q ∈ L.ps ∧ Sf L.bs L.h p q
  me : p ∈ fl
  dn : ∀ (j : Nat) q, j < a → fl[j]? = some q → ∀ r ∈ nbrs L.bs q, L.h r = L.h p → r ∈ fl
theorem Gr.start {L : Ld} {p : Str} (h : p ∈ L.ps) : Gr L p [p] 0 := ⟨by simp, fun q m => by rw [List.mem_singleton.mp m]; exact ⟨h, .refl⟩, .head _, fun j q hj => absurd hj (by omega)⟩
theorem len_sub : ∀ {xs ys : List Str}, xs.Nodup → (∀ q ∈ xs, q ∈ ys) → xs.length ≤ ys.length
  | [], _, _, _ => Nat.zero_le _
  | x :: xs, ys, n, h => by
    have n' := List.nodup_cons.mp n
    have hx := h x (.head _)
    have := len_sub (xs := xs) (ys := ys.erase x) n'.2 fun q m => (List.mem_erase_of_ne (show q ≠ x from fun e => n'.1 (e ▸ m))).mpr (h q (.tail _ m))
    rw [List.length_erase_of_mem hx] at this
    have : 0 < ys.length := List.length_pos_of_mem hx
    rw [List.length_cons]
    omega
theorem Gr.len {L : Ld} {p : Str} {fl : List Str} {a : Nat} (g : Gr L p fl a) : fl.length ≤ L.ps.length := len_sub g.nd fun q m => (g.sf q m).1
theorem Gr.lenF {L : Ld} {p : Str} {fl : List Str} {a : Nat} (g : Gr L p fl a) : fl.length ≤ (L.ps.filter fun q => decide (L.h q = L.h p)).length :=
  len_sub g.nd fun q m => List.mem_filter.mpr ⟨(g.sf q m).1, by simpa using (g.sf q m).2.ht⟩
/-- within the turn of the place at a: i of its neighbours are done -/
structure Gi (L : Ld) (p : Str) (fl : List Str) (a : Nat) (here : Str) (i : Nat) : Prop extends Gr L p fl a where
  at_ : fl[a]? = some here
  nb : ∀ r ∈ (nbrs L.bs here).take i, L.h r = L.h p → r ∈ fl
theorem Gr.go {L : Ld} {p : Str} {fl : List Str} {a : Nat} {here : Str} (g : Gr L p fl a) (h : fl[a]? = some here) : Gi L p fl a here 0 := ⟨g, h, by simp⟩
theorem take_succ {α : Type} {xs : List α} {i : Nat} {x : α} (h : xs[i]? = some x) : xs.take (i + 1) = xs.take i ++ [x] := by rw [List.take_add_one, h]; rfl
theorem Gi.skip {L : Ld} {p : Str} {fl : List Str} {a : Nat} {here r : Str} {i : Nat} (g : Gi L p fl a here i) (hr : (nbrs L.bs here)[i]? = some r) (h : L.h r = L.h p → r ∈ fl) : Gi L p fl a here (i + 1) :=
  ⟨g.toGr, g.at_, fun q m => by
    rw [take_succ hr] at m
    rcases List.mem_append.mp m with m | m
    · exact g.nb q m
    · rw [List.mem_singleton.mp m]; exact h⟩
theorem Gi.add {L : Ld} {p : Str} {fl : List Str} {a : Nat} {here r : Str} {i : Nat} (ok : LdOk L) (g : Gi L p fl a here i) (hr : (nbrs L.bs here)[i]? = some r) (h : L.h r = L.h p) (n : r ∉ fl) : Gi L p (fl ++ [r]) a here (i + 1) := by
  have hm := g.sf here (List.mem_of_getElem? g.at_)
  have ha : Adj L.bs here r := mem_nbrs.mp (List.mem_of_getElem? hr)
  have hs : Sf L.bs L.h p r := hm.2.step ha (by rw [h, hm.2.ht])
  have inl : ∀ {q : Str}, q ∈ fl → q ∈ fl ++ [r] := fun m => List.mem_append.mpr (.inl m)
  refine ⟨⟨List.nodup_append.mpr ⟨g.nd, by simp, fun x hx y hy e => n (by rw [← List.mem_singleton.mp hy, ← e]; exact hx)⟩, fun q m => ?_, inl g.me, fun j q hj e s ms hh => ?_⟩, ?_, fun q m hh => ?_⟩
  · rcases List.mem_append.mp m with m | m
    · exact g.sf q m
    · rw [List.mem_singleton.mp m]
      exact ⟨Sf.mem (fun b mb => ⟨(ok.bm b mb).2.1, (ok.bm b mb).2.2.1⟩) hs (g.sf p g.me).1, hs⟩
  · have hl : j < fl.length := Nat.lt_trans hj (List.getElem?_eq_some_iff.mp g.at_).1
    rw [List.getElem?_append_left hl] at e
    exact inl (g.dn j q hj e s ms hh)
  · rw [List.getElem?_append_left (List.getElem?_eq_some_iff.mp g.at_).1]
    exact g.at_
  · rw [take_succ hr] at m
    rcases List.mem_append.mp m with m | m
    · exact inl (g.nb q m hh)
    · exact List.mem_append.mpr (.inr m)
theorem Gi.fin {L : Ld} {p : Str} {fl : List Str} {a : Nat} {here : Str} (g : Gi L p fl a here (nbrs L.bs here).length) : Gr L p fl (a + 1) :=
  ⟨g.nd, g.sf, g.me, fun j q hj e r mr hh => by
    by_cases q' : j < a
    · exact g.dn j q q' e r mr hh
    · have : j = a := by omega
      subst this
      rw [g.at_] at e
      cases e
      exact g.nb r (by rw [List.take_length]; exact mr) hh⟩
theorem Gr.done {L : Ld} {p : Str} {fl : List Str} {a : Nat} (ok : LdOk L) (g : Gr L p fl a) (h : fl.length ≤ a) : srt fl = flat L p := by
  refine srt_eq g.nd (flat_asc ok.asc p) fun q => ⟨fun m => mem_flat.mpr (g.sf q m), fun m => ?_⟩
  have s := (mem_flat.mp m).2
  clear m
  induction s with
  | refl => exact g.me
  | step s ad e ih =>
    obtain ⟨j, hj⟩ := List.getElem?_of_mem ih
    exact g.dn j _ (Nat.lt_of_lt_of_le (List.getElem?_eq_some_iff.mp hj).1 h) hj _ (mem_nbrs.mpr ad) (by rw [e]; exact s.ht)
/-- a place is the head of its flat: no place ahead of it lies there -/
theorem head_iff {L : Ld} {A C : List Str} {p : Str} (hp : L.ps = A ++ p :: C) (asc : Asc L.ps) : (flat L p).head? = some p ↔ ∀ q ∈ A, p ∉ flat L q := by
  have pm : p ∈ L.ps := by rw [hp]; simp
  have ef : flat L p = (A.filter fun q => @decide (Sf L.bs L.h p q) (Classical.propDecidable _)) ++ p :: (C.filter fun q => @decide (Sf L.bs L.h p q) (Classical.propDecidable _)) := by
    unfold flat
    rw [hp, List.filter_append, List.filter_cons]
    simp [Sf.refl]
  have pn : p ∉ A := fun m => by
    have := asc.nodup
    rw [hp, List.nodup_append] at this
    exact this.2.2 p m p (.head _) rfl
  constructor
  · intro h q mq mp
    have hq : q ∈ A.filter fun q => @decide (Sf L.bs L.h p q) (Classical.propDecidable _) := List.mem_filter.mpr ⟨mq, by simpa using (mem_flat.mp mp).2.symm⟩
    rw [ef] at h
    cases e : A.filter fun q => @decide (Sf L.bs L.h p q) (Classical.propDecidable _) with
    | nil => rw [e] at hq; cases hq
    | cons x r =>
      rw [e] at h
      simp at h
      subst h
      have : x ∈ A.filter fun q => @decide (Sf L.bs L.h x q) (Classical.propDecidable _) := by rw [e]; exact .head _
      exact pn (List.mem_filter.mp this).1
  · intro h
    have : A.filter (fun q => @decide (Sf L.bs L.h p q) (Classical.propDecidable _)) = [] := by
      rw [List.filter_eq_nil_iff]
      intro q mq s
      refine h q mq (mem_flat.mpr ⟨pm, ?_⟩)
      exact (by simpa using s : Sf L.bs L.h p q).symm
    rw [ef, this]
    rfl
/-- the flats of the first places -/
noncomputable def flatsTo (L : Ld) (i : Nat) : List (List Str) := ((L.ps.take i).filter fun p => (flat L p).head? == some p).map (flat L)
theorem flatsTo_all {L : Ld} : flatsTo L L.ps.length = flats L := by unfold flatsTo flats; rw [List.take_length]
theorem flatsTo_yes {L : Ld} {i : Nat} {p : Str} (h : L.ps[i]? = some p) (k : (flat L p).head? = some p) : flatsTo L (i + 1) = flatsTo L i ++ [flat L p] := by
  unfold flatsTo
  rw [take_succ h, List.filter_append, List.map_append]
  simp [k]
theorem flatsTo_no {L : Ld} {i : Nat} {p : Str} (h : L.ps[i]? = some p) (k : (flat L p).head? ≠ some p) : flatsTo L (i + 1) = flatsTo L i := by
  unfold flatsTo
  rw [take_succ h, List.filter_append, List.map_append]
  simp [k]
theorem split_at {α : Type} {xs : List α} {i : Nat} {x : α} (h : xs[i]? = some x) : xs = xs.take i ++ x :: xs.drop (i + 1) := by
  obtain ⟨hl, e⟩ := List.getElem?_eq_some_iff.mp h
  subst e
  simp
theorem flat_ne {L : Ld} {p : Str} (h : p ∈ L.ps) : flat L p ≠ [] := fun e => by have := flat_self h; rw [e] at this; cases this
theorem flat_len {L : Ld} {p : Str} : (flat L p).length ≤ L.ps.length := List.length_filter_le _ _
theorem flats_len {L : Ld} : (flats L).length ≤ L.ps.length := by
  unfold flats
  rw [List.length_map]
  exact List.length_filter_le _ _
theorem flatsTo_len {L : Ld} {i : Nat} : (flatsTo L i).length ≤ L.ps.length := by
  unfold flatsTo
  rw [List.length_map]
  refine Nat.le_trans (List.length_filter_le _ _) ?_
  rw [List.length_take]
  omega
theorem flats_sub {L : Ld} {F : List Str} (h : F ∈ flats L) : ∀ q ∈ F, q ∈ L.ps := by
  obtain ⟨p, hp, rfl, _⟩ := mem_flats h
  exact fun q m => (mem_flat.mp m).1
theorem flats_asc {L : Ld} (ok : Asc L.ps) {F : List Str} (h : F ∈ flats L) : Asc F := by
  obtain ⟨p, hp, rfl, _⟩ := mem_flats h
  exact flat_asc ok p
theorem nbrs_mem {L : Ld} (ok : LdOk L) {p q : Str} (h : q ∈ nbrs L.bs p) : q ∈ L.ps := by
  obtain ⟨n, m | m⟩ := mem_nbrs.mp h
  · exact (ok.bm _ m).2.2.1
  · exact (ok.bm _ m).2.1
theorem nbrs_len {bs : List Bd} {p : Str} : (nbrs bs p).length ≤ 2 * bs.length := by
  induction bs with
  | nil => simp [nbrs]
  | cons b bs ih =>
    have : nbrs (b :: bs) p = nb1 p b ++ nbrs bs p := rfl
    rw [this, List.length_append, List.length_cons]
    have : (nb1 p b).length ≤ 2 := by
      unfold nb1
      rw [List.length_append]
      split <;> split <;> simp
    omega
end VL
/-! text Ra -/
/-! Ra: how a reading is read. -/
namespace VL
open PySem PySem.Spec PyProof.Rows L2
section
variable (G : Ga) (P : Po) (R : D → Prop) (T : Bool → Prop) (Q : List Sl → Prop) (i j : Nat) (d x y : D) (w wa wb wy wd wk : WE) (t u : WT) (a b : WS) (r : WA) (C : OC) (o : O2) (o1 : O1)
/-- a list, a tuple -/
def isL (d : D) (R : List D → Prop) : Prop := match d with
  | .lst ds => R ds
  | _ => False
def isT (d : D) (R : List D → Prop) : Prop := match d with
  | .tup ds => R ds
  | _ => False
def isDic (d : D) (R : List Str → List D → Prop) : Prop := match d with
  | .dic ks ds => R ks ds
  | _ => False
def isI (d : D) (R : Int → Prop) : Prop := match d with
  | .int i => R i
  | _ => False
def isS (d : D) (R : Str → Prop) : Prop := match d with
  | .str i => R i
  | _ => False
def isO (C : Addr) (d : D) (R : List Str → List D → Prop) : Prop := match d with
  | .obj C' fs ds => C' = C ∧ R fs ds
  | _ => False
def slD (s : Option Sl) (R : D → Prop) : Prop := match s with
  | some (.sh d) => R d
  | _ => False
def slB (s : Option Sl) (R : D → Prop) : Prop := match s with
  | some (.sh d) => R d
  | some (.bo d) => R d
  | some (.ow d) => R d
  | _ => False
def slO (s : Option Sl) (R : D → Prop) : Prop := match s with
  | some (.ow d) => R d
  | _ => False
@[simp] theorem isL_l (xs : List D) (R) : isL (.lst xs) R = R xs := id rfl
@[simp] theorem isT_t (xs : List D) (R) : isT (.tup xs) R = R xs := id rfl
@[simp] theorem isI_i (n : Int) (R) : isI (.int n) R = R n := id rfl
@[simp] theorem isS_s (n : Str) (R) : isS (.str n) R = R n := id rfl
@[simp] theorem isDic_d (ks ds R) : isDic (.dic ks ds) R = R ks ds := id rfl
@[simp] theorem isB_b (b : Bool) (R) : isB R (.bl b) = R b := id rfl
@[simp] theorem slD_s (d : D) (R) : slD (some (.sh d)) R = R d := id rfl
@[simp] theorem slB_s (d : D) (R) : slB (some (.sh d)) R = R d := id rfl
@[simp] theorem slB_b (d : D) (R) : slB (some (.bo d)) R = R d := id rfl
@[simp] theorem slB_o (d : D) (R) : slB (some (.ow d)) R = R d := id rfl
@[simp] theorem slO_o (d : D) (R) : slO (some (.ow d)) R = R d := id rfl
@[simp] theorem q_wv : wv i G R = slD G[i]? R := by
  unfold wv slD
  generalize G[i]? = z
  rcases z with _ | (_ | d | d | d) <;> first | rfl | (cases d <;> rfl)
@[simp] theorem q_wo : wo i G R = slB G[i]? R := by
  unfold wo slB
  generalize G[i]? = z
  rcases z with _ | (_ | d | d | d) <;> first | rfl | (cases d <;> rfl)
@[simp] theorem q_wc : wc d G R = R d := id rfl
@[simp] theorem q_wan : wan G Q = Q [] := id rfl
@[simp] theorem q_wac : wac w r G Q = w G fun d => r G fun as => Q (.sh d :: as) := id rfl
@[simp] theorem q_wab : wab w r G Q = w G fun d => r G fun as => Q (.bo d :: as) := id rfl
@[simp] theorem q_shs0 : shs [] = some [] := id rfl
@[simp] theorem q_shs1 (as : List Sl) : shs (.sh d :: as) = (shs as).map (d :: ·) := id rfl
@[simp] theorem q_wtup : wtup r G R = r G fun as => match shs as with
  | some ds => ds.length ≤ 100 ∧ R (.tup ds)
  | none => False := rfl
@[simp] theorem q_wlst : wlst r G R = r G fun as => match shs as with
  | some ds => ds.length ≤ 100 ∧ R (.lst ds)
  | none => False := rfl
@[simp] theorem q_w2 : w2 o wa wb G R = wa G fun x => wb G fun y => o x y R := id rfl
@[simp] theorem q_w1 : w1 o1 wa G R = wa G fun x => o1 x R := id rfl
@[simp] theorem q_wt : wt w G T = w G (isB T) := id rfl
@[simp] theorem q_wand : wand t u G T = t G fun c => if c = true then u G T else T false := id rfl
@[simp] theorem q_wor : wor t u G T = t G fun c => if c = true then T true else u G T := id rfl
@[simp] theorem q_wnot : wnot t G T = t G fun c => T (!c) := id rfl
@[simp] theorem q_wandV : wandV wa wb G R = wa G (isB fun c => if c = true then wb G R else R (.bl false)) := id rfl
@[simp] theorem q_worV : worV wa wb G R = wa G (isB fun c => if c = true then R (.bl true) else wb G R) := id rfl
@[simp] theorem q_wnotV : wnotV wa G R = wa G (isB fun c => R (.bl (!c))) := id rfl
@[simp] theorem q_wcall : wcall C r G R = r G fun as => C as R := id rfl
@[simp] theorem q_wcallN : wcallN C wa wk G R = wa G fun d => wk G fun e => C [.sh d, .sh (.str "places"), .sh e, .sh (.int 10)] R := id rfl
@[simp] theorem q_wseq : wseq a b G P = a G { P with nx := fun G' => b G' P } := id rfl
@[simp] theorem q_wnext : wnext G P = P.nx G := id rfl
@[simp] theorem q_wnever : wnever G P = False := id rfl
@[simp] theorem q_wbreak : wbreak G P = P.bk G := id rfl
@[simp] theorem q_wret : wret w G P = w G P.rt := id rfl
@[simp] theorem q_wdrop : wdrop w G P = w G fun _ => P.nx G := id rfl
@[simp] theorem q_wif : wif t a b G P = t G fun c => if c = true then a G P else b G P := id rfl
@[simp] theorem q_wset : wset i w G P = w G fun d => P.nx (G.set i (.sh d)) := id rfl
@[simp] theorem q_wown : wown i w G P = w G fun d => P.nx (G.set i (.ow d)) := id rfl
@[simp] theorem q_wasg (g : WG) : wasg w g G P = w G fun d => g d G P.nx := id rfl
@[simp] theorem q_gn (R : Ga → Prop) : gn i d G R = R (G.set i (.sh d)) := id rfl
@[simp] theorem q_gsn (ds : List D) (R : Ga → Prop) : gsn ds G R = (ds = [] ∧ R G) := id rfl
@[simp] theorem q_gsc (g : WG) (rr : WGs) (ds : List D) (R : Ga → Prop) : gsc g rr (d :: ds) G R = g d G fun G' => rr ds G' R := id rfl
@[simp] theorem q_gtup (n : Nat) (rr : WGs) (R : Ga → Prop) : gtup n rr d G R = isT d fun ds => ds.length = n ∧ rr ds G R := by
  cases d <;> rfl
@[simp] theorem q_wfrz : wfrz i a G P = slO G[i]? fun d => a (G.set i (.sh d)) P := by
  unfold wfrz slO
  apply propext
  constructor
  · rintro ⟨d, e, h⟩
    rw [e]
    exact h
  · intro h
    split at h
    · rename_i d e
      exact ⟨d, e, h⟩
    · exact h.elim
@[simp] theorem q_wapp : wapp i w G P = slO G[i]? fun d => isL d fun ds => ds.length < 100000 ∧ w G fun d => P.nx (G.set i (.ow (.lst (ds ++ [d])))) := by
  unfold wapp slO isL
  generalize G[i]? = z
  rcases z with _ | (_ | d | d | d) <;> first | rfl | (cases d <;> rfl)
@[simp] theorem q_wdput : wdput i wk w G P = w G fun d => slO G[i]? fun e => isDic e fun ks ds => wk G fun k => isS k fun k => ds.length < 100000 ∧ P.nx (G.set i (.ow (.dic (dputK ks k) (dputV ks ds k d)))) := by
  unfold wdput slO isDic
  congr 1
  funext d
  generalize G[i]? = z
  rcases z with _ | (_ | d | d | d) <;> first | rfl | (cases d <;> rfl)
@[simp] theorem q_wput : wput i wk w G P = w G fun d => slO G[i]? fun e => isL e fun ds => wk G fun k => isI k fun k => match ixN ds.length k with
      | some j => P.nx (G.set i (.ow (.lst (ds.set j d))))
      | none => False := by
  unfold wput slO isL
  congr 1
  funext d
  generalize G[i]? = z
  rcases z with _ | (_ | d | d | d) <;> first | rfl | (cases d <;> rfl)
@[simp] theorem q_wfld (Cc : Addr) (f : Str) : wfld Cc i f w G P = w G fun d => slO G[i]? fun e => match e with
  | .obj C fs ds => C = Cc ∧ f ∉ fs ∧ fs.length < 100 ∧ P.nx (G.set i (.ow (.obj C (fs ++ [f]) (ds ++ [d]))))
  | _ => False := by
  unfold wfld slO
  congr 1
  funext d
  generalize G[i]? = z
  rcases z with _ | (_ | d | d | d) <;> first | rfl | (cases d <;> rfl)
@[simp] theorem q_waug : waug i w G P = slD G[i]? fun e => isI e fun n => w G fun d => isI d fun m => P.nx (G.set i (.sh (.int (n + m)))) := by
  unfold waug slD isI
  generalize G[i]? = z
  rcases z with _ | (_ | d | d | d) <;> first | rfl | (cases d <;> rfl)
/-- a field of an object -/
def fldD (Cc : Addr) (f : Str) (d : D) (R : D → Prop) : Prop := match d with
  | .obj C fs ds => C = Cc ∧ (match dget fs ds f with
    | some x => R x
    | none => False)
  | _ => False
@[simp] theorem q_wget (Cc : Addr) (f : Str) : wget Cc f w G R = w G fun d => fldD Cc f d R := id rfl
def metD (Cc : Addr) (m : Str) (C : OC) (d : D) (R : D → Prop) : Prop := match d with
  | .obj C' fs ds => (C' = Cc ∧ m ∉ fs) ∧ C [.bo (.obj C' fs ds)] R
  | _ => False
@[simp] theorem q_wmeth0 (Cc : Addr) (m : Str) : wmeth0 Cc m C w G R = w G fun d => metD Cc m C d R := id rfl
@[simp] theorem q_wmake (Cc : Addr) (Ci : OCi) : wmake Cc Ci r G R = r G fun as => match shs as with
  | some ds => Ci ds fun fs es => R (.obj Cc fs es)
  | none => False := rfl
def dgD (d : D) (y : D) (R : D → Prop) : Prop := match y, d with
  | .str k, .dic ks ds => (match dget ks ds k with
    | some x => R x
    | none => False)
  | _, _ => False
@[simp] theorem q_wdget : wdget wd wy G R = wd G fun d => wy G fun y => dgD d y R := id rfl
def inDD (neg : Bool) (y d : D) (R : D → Prop) : Prop := match y, d with
  | .str k, .dic ks ds => R (.bl (if neg then !decide (k ∈ ks) else decide (k ∈ ks)))
  | _, _ => False
@[simp] theorem q_winD (neg : Bool) : winD neg wy wd G R = wy G fun y => wd G fun d => inDD neg y d R := id rfl
@[simp] theorem q_inDD (neg : Bool) (k : Str) (ks ds) : inDD neg (.str k) (.dic ks ds) R = R (.bl (if neg then !decide (k ∈ ks) else decide (k ∈ ks))) := id rfl
def slLD (d : D) (lo hi : Option Int) (R : D → Prop) : Prop := match d with
  | .lst ds => R (.lst (cutD ds lo hi))
  | _ => False
@[simp] theorem q_wslL (lo hi : WO) : wslL w lo hi G R = w G fun d => lo G fun l => hi G fun h => slLD d l h R := id rfl
def slSD (d : D) (lo hi : Option Int) (R : D → Prop) : Prop := match d with
  | .str z => z.length ≤ 100000 ∧ R (.str (cutS z lo hi))
  | _ => False
@[simp] theorem q_wslS (lo hi : WO) : wslS w lo hi G R = w G fun d => lo G fun l => hi G fun h => slSD d l h R := id rfl
@[simp] theorem q_slSD (z : Str) (lo hi) : slSD (.str z) lo hi R = (z.length ≤ 100000 ∧ R (.str (cutS z lo hi))) := id rfl
@[simp] theorem q_wnp (R : Option Int → Prop) : wnp G R = R none := id rfl
@[simp] theorem q_wpt (R : Option Int → Prop) : wpt w G R = w G fun d => isI d fun i => R (some i) := id rfl
@[simp] theorem q_wrev : wrev w G R = w G fun d => isL d fun ds => R (.lst ds.reverse) := id rfl
@[simp] theorem q_wvalsO : wvalsO i G R = slO G[i]? fun d => isDic d fun _ ds => R (.lst ds) := by
  unfold wvalsO slO isDic
  generalize G[i]? = z
  rcases z with _ | (_ | d | d | d) <;> first | rfl | (cases d <;> rfl)
@[simp] theorem q_wupd : wupd i w G P = slO G[i]? fun e => isDic e fun ks ds => w G fun d => isDic d fun ls es => ds.length + es.length ≤ 1000 ∧ P.nx (G.set i (.ow (.dic (dmerge ks ds ls es).1 (dmerge ks ds ls es).2))) := by
  unfold wupd slO isDic
  generalize G[i]? = z
  rcases z with _ | (_ | d | d | d) <;> first | rfl | (cases d <;> rfl)
@[simp] theorem q_wdic0 : wdic0 G R = R (.dic [] []) := id rfl
@[simp] theorem q_wchain (o o' : O2) (wc : WE) : wchain o o' wa wb wc G R = wa G fun x => wb G fun y => o x y (isB fun t => if t = true then wc G fun z => o' y z R else R (.bl false)) := id rfl
@[simp] theorem q_wlrg : wlrg w G R = w G fun d => isI d fun n => (-1000 ≤ n ∧ n ≤ 1000) ∧ R (.lst (rng 0 n)) := id rfl
def truB (d : D) (T : Bool → Prop) : Prop := match truD d with
  | some c => T c
  | none => False
@[simp] theorem truB_b (c : Bool) : truB (.bl c) T = T c := id rfl
@[simp] theorem truB_l (ds : List D) : truB (.lst ds) T = T (!ds.isEmpty) := id rfl
@[simp] theorem q_wtru : wtru w G T = w G fun d => truB d T := id rfl
@[simp] theorem q_wnotT : wnotT w G R = w G fun d => truB d fun c => R (.bl (!c)) := id rfl
@[simp] theorem q_wisi (m : String) : wisi m w G R = w G fun d => match (tyD d).bind fun n => kitB n m with
  | some b => R (.bl b)
  | none => False := rfl
@[simp] theorem q_wisO (Cc : Addr) : wisO Cc w G R = w G fun d => isO Cc d fun _ _ => R (.bl true) := id rfl
@[simp] theorem q_wisN : wisN w G R = w G fun d => R (.bl (isNonD d)) := id rfl
@[simp] theorem q_wmtL (oo : List D → D → (D → Prop) → Prop) : wmtL oo w wy G R = w G fun d => isL d fun ds => wy G fun y => oo ds y R := id rfl
@[simp] theorem q_wyes : wyes G T = T true := id rfl
@[simp] theorem q_wil (R : List D → Prop) : wil w G R = w G fun d => isL d R := id rfl
@[simp] theorem q_wit (R : List D → Prop) : wit w G R = w G fun d => isT d R := id rfl
@[simp] theorem q_wis (R : List D → Prop) : wis w G R = w G fun d => isS d fun z => R (signsD z) := id rfl
@[simp] theorem q_wik (R : List D → Prop) : wik i G R = slD G[i]? fun d => isDic d fun ks _ => R (ks.map D.str) := by
  unfold wik slD isDic
  generalize G[i]? = z
  rcases z with _ | (_ | d | d | d) <;> first | rfl | (cases d <;> rfl)
@[simp] theorem q_wienum (R : List D → Prop) : wienum w G R = w G fun d => isL d fun ds => R (enumD ds) := id rfl
@[simp] theorem q_wizip (R : List D → Prop) : wizip wa wb G R = wa G fun d => wb G fun e => isT d fun xs => isT e fun ys => xs.length = ys.length ∧ R (zipD xs ys) := by
  unfold wizip isT
  congr 1
  funext d
  congr 1
  funext e
  cases d <;> cases e <;> rfl
@[simp] theorem q_wir1 (R : List D → Prop) : wir1 r G R = r G fun as => match as with
  | [.sh (.int j)] => (-100000 ≤ j ∧ j ≤ 100000) ∧ R (rng 0 j)
  | _ => False := rfl
@[simp] theorem q_wir2 (R : List D → Prop) : wir2 r G R = r G fun as => match as with
  | [.sh (.int i), .sh (.int j)] => (-100000 ≤ i ∧ i ≤ 100000 ∧ -100000 ≤ j ∧ j ≤ 100000) ∧ R (rng i j)
  | _ => False := rfl
/-- a for loop, a while loop, comprehensions -/
def FR (ds : List D) (B : D → Ga → Po → Prop) (G : Ga) (P : Po) : Prop := ∃ I : Nat → Ga → Prop, I 0 G ∧
  (∀ (i : Nat) d G', ds[i]? = some d → I i G' → B d G' { nx := I (i + 1), ct := I (i + 1), bk := P.nx, rt := P.rt }) ∧ ∀ G', I ds.length G' → P.nx G'
@[simp] theorem q_wfor (wi : WI) (g : WG) : wfor wi g a G P = wi G fun ds => FR ds (fun d G' P' => g d G' fun G2 => a G2 P') G P := id rfl
def LC (ds : List D) (B : D → (Option D → Prop) → Prop) (R : D → Prop) : Prop := ds.length ≤ 1000 ∧ ∃ I : Nat → List D → Prop, I 0 [] ∧
  (∀ (i : Nat) d acc, ds[i]? = some d → I i acc → B d fun o => match o with | some y => I (i + 1) (acc ++ [y]) | none => I (i + 1) acc) ∧ ∀ acc, I ds.length acc → R (.lst acc)
@[simp] theorem q_wlc (vs : List Nat) (wi : WI) (g : WG) : wlc vs wi g t w G R = wi G fun ds => LC ds (fun d K => g d (wipeG G vs) fun G2 => t G2 fun b => if b = true then w G2 fun y => K (some y) else K none) R := id rfl
def DC (ds : List D) (B : D → (Option (Str × D) → Prop) → Prop) (R : D → Prop) : Prop := ds.length ≤ 1000 ∧ ∃ I : Nat → List Str → List D → Prop, I 0 [] [] ∧
  (∀ (i : Nat) d ks acc, ds[i]? = some d → I i ks acc → B d fun o => match o with | some (k, y) => I (i + 1) (dputK ks k) (dputV ks acc k y) | none => I (i + 1) ks acc) ∧ ∀ ks acc, I ds.length ks acc → R (.dic ks acc)
@[simp] theorem q_wdc (vs : List Nat) (wi : WI) (g : WG) : wdc vs wi g t wk w G R = wi G fun ds => DC ds (fun d K => g d (wipeG G vs) fun G2 => t G2 fun b => if b = true then wk G2 fun k => w G2 fun y => isS k fun k => K (some (k, y)) else K none) R := id rfl
@[simp] theorem q_wipe0 : wipeG G [] = G := id rfl
@[simp] theorem q_wipe1 (v : Nat) (vs) : wipeG G (v :: vs) = (wipeG G vs).set v .no := id rfl
@[simp] theorem q_poF_nx (G : Ga) : (poF R).nx G = R .non := id rfl
@[simp] theorem q_poF_rt (d : D) : (poF R).rt d = R d := id rfl
@[simp] theorem poF_rt' : (poF R).rt = R := id rfl
@[simp] theorem q_gaOf (n : Nat) (as : List Sl) : gaOf n as = as ++ List.replicate (n - as.length) .no := id rfl
end
/-! ### loops -/
theorem LC_fm {α : Type} {xs : List α} {e : α → D} (f : α → Option D) {B : D → (Option D → Prop) → Prop} {R : D → Prop} (hl : xs.length ≤ 1000) (hb : ∀ x ∈ xs, ∀ K : Option D → Prop, K (f x) → B (e x) K) (hr : R (.lst (xs.filterMap f))) : LC (xs.map e) B R := by
  refine ⟨by rw [List.length_map]; exact hl, fun i acc => acc = (xs.take i).filterMap f, by simp, fun i d acc hd ha => ?_, fun acc ha => ?_⟩
  · rw [List.getElem?_map] at hd
    cases hx : xs[i]? with
    | none => rw [hx] at hd; cases hd
    | some x =>
      rw [hx] at hd
      cases hd
      refine hb x (List.mem_of_getElem? hx) _ ?_
      have et : xs.take (i + 1) = xs.take i ++ [x] := by rw [List.take_add_one, hx]; rfl
      subst ha
      cases hf : f x with
      | none => show _ = _; rw [et, List.filterMap_append]; simp [hf]
      | some y => show _ = _; rw [et, List.filterMap_append]; simp [hf]
  · rw [ha, List.length_map, List.take_length]; exact hr
theorem LC_map {α : Type} {xs : List α} {e : α → D} (f : α → D) {B : D → (Option D → Prop) → Prop} {R : D → Prop} (hl : xs.length ≤ 1000) (hb : ∀ x ∈ xs, ∀ K : Option D → Prop, K (some (f x)) → B (e x) K) (hr : R (.lst (xs.map f))) : LC (xs.map e) B R :=
  LC_fm (fun x => some (f x)) hl hb (by
    have : xs.filterMap (fun x => some (f x)) = xs.map f := by induction xs with
      | nil => rfl
      | cons x xs ih => simp
    rw [this]; exact hr)
theorem LC_filter {α : Type} {xs : List α} {e : α → D} (p : α → Bool) {B : D → (Option D → Prop) → Prop} {R : D → Prop} (hl : xs.length ≤ 1000) (hb : ∀ x ∈ xs, ∀ K : Option D → Prop, K (if p x = true then some (e x) else none) → B (e x) K) (hr : R (.lst ((xs.filter p).map e))) : LC (xs.map e) B R :=
  LC_fm (fun x => if p x = true then some (e x) else none) hl hb (by
    have : xs.filterMap (fun x => if p x = true then some (e x) else none) = (xs.filter p).map e := by
      clear hr hb hl
      induction xs with
      | nil => rfl
      | cons x xs ih =>
        rw [List.filterMap_cons, List.filter_cons]
        cases h : p x <;> simp [ih]
    rw [this]; exact hr)
/-- a loop that makes a state: S b G tells the state -/
theorem FR_fold {α β : Type} {xs : List α} {e : α → D} (S : β → Ga → Prop) (f : β → α → β) (b0 : β) {B : D → Ga → Po → Prop} {G : Ga} {P : Po} (h0 : S b0 G)
    (hb : ∀ (i : Nat) x G' (P' : Po), xs[i]? = some x → S ((xs.take i).foldl f b0) G' → (∀ G2, S (f ((xs.take i).foldl f b0) x) G2 → P'.nx G2) → P'.rt = P.rt → B (e x) G' P') (hr : ∀ G', S (xs.foldl f b0) G' → P.nx G') : FR (xs.map e) B G P := by
  refine ⟨fun i G' => S ((xs.take i).foldl f b0) G', by simpa using h0, fun i d G' hd hs => ?_, fun G' hs => ?_⟩
  · rw [List.getElem?_map] at hd
    cases hx : xs[i]? with
    | none => rw [hx] at hd; cases hd
    | some x =>
      rw [hx] at hd
      cases hd
      refine hb i x G' _ hx hs (fun G2 h => ?_) rfl
      show S ((xs.take (i + 1)).foldl f b0) G2
      have et : xs.take (i + 1) = xs.take i ++ [x] := by rw [List.take_add_one, hx]; rfl
      rw [et, List.foldl_append]
      exact h
  · rw [List.length_map, List.take_length] at hs
    exact hr G' hs
/-- a loop with a law that holds ahead of each turn -/
theorem FR_inv {α : Type} {xs : List α} {e : α → D} (I : Nat → Ga → Prop) {B : D → Ga → Po → Prop} {G : Ga} {P : Po} (h0 : I 0 G)
    (hb : ∀ (i : Nat) x G', xs[i]? = some x → I i G' → B (e x) G' { nx := I (i + 1), ct := I (i + 1), bk := P.nx, rt := P.rt }) (hr : ∀ G', I xs.length G' → P.nx G') : FR (xs.map e) B G P := by
  refine ⟨I, h0, fun i d G' hd hs => ?_, fun G' hs => hr G' (by rwa [List.length_map] at hs)⟩
  rw [List.getElem?_map] at hd
  cases hx : xs[i]? with
  | none => rw [hx] at hd; cases hd
  | some x =>
    rw [hx] at hd
    cases hd
    exact hb i x G' hx hs
/-- a loop over a range -/
theorem FR_rng {n : Nat} (I : Nat → Ga → Prop) {B : D → Ga → Po → Prop} {G : Ga} {P : Po} (h0 : I 0 G)
    (hb : ∀ (i : Nat) G', i < n → I i G' → B (.int (i : Nat)) G' { nx := I (i + 1), ct := I (i + 1), bk := P.nx, rt := P.rt }) (hr : ∀ G', I n G' → P.nx G') : FR (rng 0 (n : Nat)) B G P := by
  have : rng 0 (n : Nat) = (List.range n).map fun i => D.int (i : Nat) := by
    unfold rng
    simp
  rw [this]
  refine FR_inv I h0 (fun i x G' hx hi => ?_) fun G' hi => hr G' (by rwa [List.length_range] at hi)
  rw [List.getElem?_eq_some_iff] at hx
  obtain ⟨hl, hx⟩ := hx
  rw [List.length_range] at hl
  rw [List.getElem_range] at hx
  subst hx
  exact hb i G' hl hi
end VL
/-! text Rb -/
/-! Rb: what the values look like, and what the operators answer on them. -/
namespace VL
open PySem PySem.Spec PyProof.Rows L2
def dS (xs : List Str) : D := .lst (xs.map .str)
def dT (xs : List Str) : D := .tup (xs.map .str)
def dIl (xs : List Int) : D := .lst (xs.map .int)
def dIt (xs : List Int) : D := .tup (xs.map .int)
def dBs (bs : List Bd) : D := .lst (bs.map dBd)
def dBt (bs : List Bd) : D := .tup (bs.map dBd)
def hsOf (L : Ld) : List Int := L.ps.map L.h
def dLL (L : Ld) : D := .tup [dS L.ps, dBs L.bs, dIl (hsOf L)]
def dTab (L : Ld) : D := .dic L.ps ((hsOf L).map .int)
def dSp (ps : List Str) : D := .dic ps ((List.range ps.length).map fun i => .int (i : Nat))
def dWeb (cW : Addr) (nr : D) (L : Ld) : D := .obj cW ["web_places", "web_bonds", "web_spots", "web_near"] [dT L.ps, dBt L.bs, dSp L.ps, nr]
def dLand (cW cL : Addr) (nr : D) (L : Ld) : D := .obj cL ["web", "land_heights"] [dWeb cW nr L, dIt (hsOf L)]
def inner (L : Ld) (B : List Str) : List Str := L.ps.filter fun p => !decide (p ∈ B)
def dPc (cW cL cP : Addr) (nr : D) (L : Ld) (B : List Str) : D := .obj cP ["land", "own_border", "own_inner", "own_row"] [dLand cW cL nr L, dS B, dS (inner L B), dIl (B.map L.h)]
def dFl (Fs : List (List Str)) : D := .lst (Fs.map dS)
def dBk (b : Bk) : D := .tup [dT b.1, .bl b.2]
def dBl (bs : List Bk) : D := .lst (bs.map dBk)
def dShow (hs : List Int) (bs : List Bk) : D := .tup [dIt hs, .tup (bs.map dBk)]
def digI (i : Int) : Str := Str.ofString (toString i)
section
variable (R : D → Prop) (T : List D → Prop) (xs ys : List Str) (ns ms : List Int) (bs cs : List Bd) (L : Ld) (b : Bd) (cW cL cP : Addr) (nr : D) (B : List Str) (C : OC)
@[simp] theorem isL_S : isL (dS xs) T = T (xs.map .str) := id rfl
@[simp] theorem isT_T : isT (dT xs) T = T (xs.map .str) := id rfl
@[simp] theorem isL_I : isL (dIl ns) T = T (ns.map .int) := id rfl
@[simp] theorem isT_I : isT (dIt ns) T = T (ns.map .int) := id rfl
@[simp] theorem isL_B : isL (dBs bs) T = T (bs.map dBd) := id rfl
@[simp] theorem isT_B : isT (dBt bs) T = T (bs.map dBd) := id rfl
@[simp] theorem isT_Bd : isT (dBd b) T = T [.str b.1, .str b.2.1, .str b.2.2] := id rfl
@[simp] theorem isL_Fl (Fs) : isL (dFl Fs) T = T (Fs.map dS) := id rfl
@[simp] theorem isL_Bl (Fs) : isL (dBl Fs) T = T (Fs.map dBk) := id rfl
@[simp] theorem isT_Bk (b : Bk) : isT (dBk b) T = T [dT b.1, .bl b.2] := id rfl
@[simp] theorem isDic_Tab (Q : List Str → List D → Prop) : isDic (dTab L) Q = Q L.ps ((hsOf L).map .int) := id rfl
@[simp] theorem isO_Land (Q : List Str → List D → Prop) : isO cL (dLand cW cL nr L) Q = Q ["web", "land_heights"] [dWeb cW nr L, dIt (hsOf L)] := by simp [isO, dLand]
@[simp] theorem isO_Web (Q : List Str → List D → Prop) : isO cW (dWeb cW nr L) Q = Q ["web_places", "web_bonds", "web_spots", "web_near"] [dT L.ps, dBt L.bs, dSp L.ps, nr] := by simp [isO, dWeb]
@[simp] theorem truB_S (Q) : truB (dS xs) Q = Q (!xs.isEmpty) := by simp [truB, dS, truD]
@[simp] theorem truB_Bs (Q) : truB (dBs bs) Q = Q (!bs.isEmpty) := by simp [truB, dBs, truD]
@[simp] theorem truB_Fl (Q) (Fs : List (List Str)) : truB (dFl Fs) Q = Q (!Fs.isEmpty) := by simp [truB, dFl, truD]
/-! fields -/
theorem dget_hd {α : Type} {k : Str} {ks : List Str} {v : α} {vs : List α} : dget (k :: ks) (v :: vs) k = some v := by simp [dget]
theorem dget_tl {α : Type} {k k' : Str} {ks : List Str} {v : α} {vs : List α} (h : k' ≠ k) : dget (k' :: ks) (v :: vs) k = dget ks vs k := by simp [dget, h]
theorem fldD_of {Cc : Addr} {f : Str} {fs : List Str} {ds : List D} {x : D} (h : dget fs ds f = some x) : fldD Cc f (.obj Cc fs ds) R = R x := by simp [fldD, h]
@[simp] theorem fld_places : fldD cW "web_places" (dWeb cW nr L) R = R (dT L.ps) := fldD_of _ dget_hd
@[simp] theorem fld_bonds : fldD cW "web_bonds" (dWeb cW nr L) R = R (dBt L.bs) := fldD_of _ (by rw [dget_tl (by decide +kernel), dget_hd])
@[simp] theorem fld_spots : fldD cW "web_spots" (dWeb cW nr L) R = R (dSp L.ps) := fldD_of _ (by rw [dget_tl (by decide +kernel), dget_tl (by decide +kernel), dget_hd])
@[simp] theorem fld_web : fldD cL "web" (dLand cW cL nr L) R = R (dWeb cW nr L) := fldD_of _ dget_hd
@[simp] theorem fld_heights : fldD cL "land_heights" (dLand cW cL nr L) R = R (dIt (hsOf L)) := fldD_of _ (by rw [dget_tl (by decide +kernel), dget_hd])
@[simp] theorem fld_land : fldD cP "land" (dPc cW cL cP nr L B) R = R (dLand cW cL nr L) := fldD_of _ dget_hd
@[simp] theorem fld_border : fldD cP "own_border" (dPc cW cL cP nr L B) R = R (dS B) := fldD_of _ (by rw [dget_tl (by decide +kernel), dget_hd])
@[simp] theorem fld_inner : fldD cP "own_inner" (dPc cW cL cP nr L B) R = R (dS (inner L B)) := fldD_of _ (by rw [dget_tl (by decide +kernel), dget_tl (by decide +kernel), dget_hd])
theorem metD_of {Cc : Addr} {f : Str} {fs : List Str} {ds : List D} (h : f ∉ fs) : metD Cc f C (.obj Cc fs ds) R = C [.bo (.obj Cc fs ds)] R := by simp [metD, h]
@[simp] theorem met_places : metD cW "places" C (dWeb cW nr L) R = C [.bo (dWeb cW nr L)] R := metD_of _ _ (by decide +kernel)
@[simp] theorem met_bonds : metD cW "bonds" C (dWeb cW nr L) R = C [.bo (dWeb cW nr L)] R := metD_of _ _ (by decide +kernel)
@[simp] theorem met_heights : metD cL "heights" C (dLand cW cL nr L) R = C [.bo (dLand cW cL nr L)] R := metD_of _ _ (by decide +kernel)
@[simp] theorem met_table : metD cL "table" C (dLand cW cL nr L) R = C [.bo (dLand cW cL nr L)] R := metD_of _ _ (by decide +kernel)
@[simp] theorem met_border : metD cP "border" C (dPc cW cL cP nr L B) R = C [.bo (dPc cW cL cP nr L B)] R := metD_of _ _ (by decide +kernel)
@[simp] theorem met_inner : metD cP "inner" C (dPc cW cL cP nr L B) R = C [.bo (dPc cW cL cP nr L B)] R := metD_of _ _ (by decide +kernel)
@[simp] theorem cObj_Land : cObj cL C [.bo (dLand cW cL nr L)] R = C [.bo (dLand cW cL nr L)] fun d => isI d fun n => (0 ≤ n ∧ n ≤ 1000) ∧ R (.int n) := by
  simp [cObj, dLand]
  rfl
@[simp] theorem cObj_Web : cObj cW C [.bo (dWeb cW nr L)] R = C [.bo (dWeb cW nr L)] fun d => isI d fun n => (0 ≤ n ∧ n ≤ 1000) ∧ R (.int n) := by
  simp [cObj, dWeb]
  rfl
@[simp] theorem oIxO_Land (y : D) : oIxO cL C (dLand cW cL nr L) y R = C [.bo (dLand cW cL nr L), .bo y] R := by simp [oIxO, dLand]
@[simp] theorem oInO_Land (x : D) (neg : Bool) : oInO cL C neg x (dLand cW cL nr L) R = C [.bo (dLand cW cL nr L), .bo x] (isB fun b => R (.bl (if neg then !b else b))) := by
  simp [oInO, dLand]
@[simp] theorem oNeO_Web (nr' : D) (M : Ld) : oNeO cW C (dWeb cW nr L) (dWeb cW nr' M) R = C [.bo (dWeb cW nr L), .bo (dWeb cW nr' M)] (isB fun b => R (.bl (!b))) := by
  simp [oNeO, dWeb]
/-! indices -/
theorem atI_nat {α : Type} (zs : List α) (n : Nat) : atI zs (n : Int) = zs[n]? := by
  unfold atI ixN
  rw [if_pos (by omega)]
  by_cases h : n < zs.length
  · rw [if_pos (by omega)]; simp
  · rw [if_neg (by omega)]; simp; omega
@[simp] theorem atI_0 {α : Type} (zs : List α) : atI zs 0 = zs[0]? := atI_nat zs 0
@[simp] theorem atI_1 {α : Type} (zs : List α) : atI zs 1 = zs[1]? := atI_nat zs 1
@[simp] theorem atI_2 {α : Type} (zs : List α) : atI zs 2 = zs[2]? := atI_nat zs 2
@[simp] theorem atI_3 {α : Type} (zs : List α) : atI zs 3 = zs[3]? := atI_nat zs 3
@[simp] theorem atI_4 {α : Type} (zs : List α) : atI zs 4 = zs[4]? := atI_nat zs 4
theorem ix_l {zs : List D} {n : Int} {x : D} (h : atI zs n = some x) : oIx (.lst zs) (.int n) R = R x := by simp [oIx, h]
theorem ix_t {zs : List D} {n : Int} {x : D} (h : atI zs n = some x) : oIx (.tup zs) (.int n) R = R x := by simp [oIx, h]
@[simp] theorem ix_l0 (a : D) (l : List D) : oIx (.lst (a :: l)) (.int 0) R = R a := ix_l _ (by simp)
@[simp] theorem ix_l1 (a b : D) (l : List D) : oIx (.lst (a :: b :: l)) (.int 1) R = R b := ix_l _ (by simp)
@[simp] theorem ix_l2 (a b c : D) (l : List D) : oIx (.lst (a :: b :: c :: l)) (.int 2) R = R c := ix_l _ (by simp)
@[simp] theorem ix_l3 (a b c d : D) (l : List D) : oIx (.lst (a :: b :: c :: d :: l)) (.int 3) R = R d := ix_l _ (by simp)
@[simp] theorem ix_l4 (a b c d e : D) (l : List D) : oIx (.lst (a :: b :: c :: d :: e :: l)) (.int 4) R = R e := ix_l _ (by simp)
@[simp] theorem ix_t0 (a : D) (l : List D) : oIx (.tup (a :: l)) (.int 0) R = R a := ix_t _ (by simp)
@[simp] theorem ix_t1 (a b : D) (l : List D) : oIx (.tup (a :: b :: l)) (.int 1) R = R b := ix_t _ (by simp)
@[simp] theorem ix_t2 (a b c : D) (l : List D) : oIx (.tup (a :: b :: c :: l)) (.int 2) R = R c := ix_t _ (by simp)
@[simp] theorem ix_t3 (a b c d : D) (l : List D) : oIx (.tup (a :: b :: c :: d :: l)) (.int 3) R = R d := ix_t _ (by simp)
@[simp] theorem ix_t4 (a b c d e : D) (l : List D) : oIx (.tup (a :: b :: c :: d :: e :: l)) (.int 4) R = R e := ix_t _ (by simp)
@[simp] theorem ix_Bd0 : oIx (dBd b) (.int 0) R = R (.str b.1) := ix_t0 _ _ _
@[simp] theorem ix_Bd1 : oIx (dBd b) (.int 1) R = R (.str b.2.1) := ix_t1 _ _ _ _
@[simp] theorem ix_Bd2 : oIx (dBd b) (.int 2) R = R (.str b.2.2) := ix_t2 _ _ _ _ _
@[simp] theorem ix_LL0 : oIx (dLL L) (.int 0) R = R (dS L.ps) := ix_t0 _ _ _
@[simp] theorem ix_LL1 : oIx (dLL L) (.int 1) R = R (dBs L.bs) := ix_t1 _ _ _ _
@[simp] theorem ix_LL2 : oIx (dLL L) (.int 2) R = R (dIl (hsOf L)) := ix_t2 _ _ _ _ _
@[simp] theorem ix_Bk0 (b : Bk) : oIx (dBk b) (.int 0) R = R (dT b.1) := ix_t0 _ _ _
@[simp] theorem ix_Bk1 (b : Bk) : oIx (dBk b) (.int 1) R = R (.bl b.2) := ix_t1 _ _ _ _
@[simp] theorem ix_Sh0 (bs : List Bk) : oIx (dShow ns bs) (.int 0) R = R (dIt ns) := ix_t0 _ _ _
@[simp] theorem ix_Sh1 (bs : List Bk) : oIx (dShow ns bs) (.int 1) R = R (.tup (bs.map dBk)) := ix_t1 _ _ _ _
theorem ix_S {n : Int} {x : Str} (h : atI xs n = some x) : oIx (dS xs) (.int n) R = R (.str x) := ix_l _ (by
  unfold atI at h ⊢
  rw [List.length_map]
  cases e : ixN xs.length n with
  | none => rw [e] at h; cases h
  | some j => rw [e] at h; simpa using h)
theorem ix_I {n : Int} {x : Int} (h : atI ns n = some x) : oIx (dIl ns) (.int n) R = R (.int x) := ix_l _ (by
  unfold atI at h ⊢
  rw [List.length_map]
  cases e : ixN ns.length n with
  | none => rw [e] at h; cases h
  | some j => rw [e] at h; simpa using h)
theorem ix_It {n : Int} {x : Int} (h : atI ns n = some x) : oIx (dIt ns) (.int n) R = R (.int x) := ix_t _ (by
  unfold atI at h ⊢
  rw [List.length_map]
  cases e : ixN ns.length n with
  | none => rw [e] at h; cases h
  | some j => rw [e] at h; simpa using h)
theorem ix_B {n : Int} {x : Bd} (h : atI bs n = some x) : oIx (dBs bs) (.int n) R = R (dBd x) := ix_l _ (by
  unfold atI at h ⊢
  rw [List.length_map]
  cases e : ixN bs.length n with
  | none => rw [e] at h; cases h
  | some j =>
    rw [e] at h
    show (bs.map dBd)[j]? = _
    rw [List.getElem?_map, show bs[j]? = some x from h]
    rfl)
theorem idx_at {p : Str} (h : p ∈ xs) : xs[xs.idxOf p]? = some p := by
  rw [List.getElem?_eq_some_iff]
  exact ⟨List.idxOf_lt_length_of_mem h, List.getElem_idxOf _⟩
theorem hs_at {L : Ld} {p : Str} (h : p ∈ L.ps) : atI (hsOf L) (L.ps.idxOf p : Nat) = some (L.h p) := by
  rw [atI_nat, hsOf, List.getElem?_map, idx_at _ h]
  rfl
/-! tables -/
theorem idx_ne {p y : Str} {ys : List Str} (e : y ≠ p) : (y :: ys).idxOf p = ys.idxOf p + 1 := by
  have : (y == p) = false := by simpa using e
  rw [List.idxOf_cons, this]
  rfl
theorem dget_map {α : Type} {f : Str → α} {p : Str} : ∀ {ks : List Str}, p ∈ ks → dget ks (ks.map f) p = some (f p)
  | k :: ks, h => by
    by_cases e : k = p
    · subst e; exact dget_hd
    · rw [List.map_cons, dget_tl e]
      exact dget_map ((List.mem_cons.mp h).resolve_left fun q => e q.symm)
theorem dg_Tab {L : Ld} {p : Str} (h : p ∈ L.ps) : dgD (dTab L) (.str p) R = R (.int (L.h p)) := by
  unfold dgD dTab hsOf
  simp only [List.map_map]
  rw [dget_map h]
  rfl
theorem dg_map {f : Str → D} {ks : List Str} {p : Str} (h : p ∈ ks) : dgD (.dic ks (ks.map f)) (.str p) R = R (f p) := by
  unfold dgD
  simp only
  rw [dget_map h]
theorem dget_idx {p : Str} : ∀ {ks : List Str} (a : Nat), p ∈ ks → dget ks ((List.range' a ks.length).map fun i => D.int (i : Nat)) p = some (.int (a + ks.idxOf p : Nat))
  | k :: ks, a, h => by
    rw [List.length_cons, List.range'_succ, List.map_cons]
    by_cases e : k = p
    · subst e; rw [dget_hd]; simp
    · rw [dget_tl e, dget_idx (a + 1) ((List.mem_cons.mp h).resolve_left fun q => e q.symm), idx_ne e]
      congr 3
      omega
theorem dg_Sp {p : Str} (h : p ∈ xs) : dgD (dSp xs) (.str p) R = R (.int (xs.idxOf p : Nat)) := by
  unfold dgD dSp
  simp only
  rw [List.range_eq_range', dget_idx 0 h]
  simp
@[simp] theorem in_Tab (neg : Bool) (k : Str) : inDD neg (.str k) (dTab L) R = R (.bl (if neg then !decide (k ∈ L.ps) else decide (k ∈ L.ps))) := id rfl
@[simp] theorem in_Sp (neg : Bool) (k : Str) : inDD neg (.str k) (dSp xs) R = R (.bl (if neg then !decide (k ∈ xs) else decide (k ∈ xs))) := id rfl
/-! lengths, kinds -/
@[simp] theorem len_S : cLen [.bo (dS xs)] R = R (.int (xs.length : Nat)) := by simp [cLen, dS]
@[simp] theorem len_T : cLen [.bo (dT xs)] R = R (.int (xs.length : Nat)) := by simp [cLen, dT]
@[simp] theorem len_Il : cLen [.bo (dIl ns)] R = R (.int (ns.length : Nat)) := by simp [cLen, dIl]
@[simp] theorem len_It : cLen [.bo (dIt ns)] R = R (.int (ns.length : Nat)) := by simp [cLen, dIt]
@[simp] theorem len_B : cLen [.bo (dBs bs)] R = R (.int (bs.length : Nat)) := by simp [cLen, dBs]
@[simp] theorem len_Bl (bs : List Bk) : cLen [.bo (dBl bs)] R = R (.int (bs.length : Nat)) := by simp [cLen, dBl]
@[simp] theorem len_l (zs : List D) : cLen [.bo (.lst zs)] R = R (.int (zs.length : Nat)) := id rfl
@[simp] theorem len_s (z : Str) : cLen [.bo (.str z)] R = (z.length ≤ 100000 ∧ R (.int (z.length : Nat))) := id rfl
@[simp] theorem list_T : cSeq .lst [.bo (dT xs)] R = R (dS xs) := id rfl
@[simp] theorem list_S : cSeq .lst [.bo (dS xs)] R = R (dS xs) := id rfl
@[simp] theorem list_It : cSeq .lst [.bo (dIt ns)] R = R (dIl ns) := id rfl
@[simp] theorem list_Il : cSeq .lst [.bo (dIl ns)] R = R (dIl ns) := id rfl
@[simp] theorem list_B : cSeq .lst [.bo (dBs bs)] R = R (dBs bs) := id rfl
@[simp] theorem list_Bt : cSeq .lst [.bo (dBt bs)] R = R (dBs bs) := id rfl
@[simp] theorem list_l (zs : List D) : cSeq .lst [.bo (.lst zs)] R = R (.lst zs) := id rfl
@[simp] theorem tup_S : cSeq .tup [.bo (dS xs)] R = R (dT xs) := id rfl
@[simp] theorem tup_Il : cSeq .tup [.bo (dIl ns)] R = R (dIt ns) := id rfl
@[simp] theorem tup_B : cSeq .tup [.bo (dBs bs)] R = R (dBt bs) := id rfl
@[simp] theorem tup_Bl (bs : List Bk) : cSeq .tup [.bo (dBl bs)] R = R (.tup (bs.map dBk)) := id rfl
theorem bools_map {α : Type} (f : α → Bool) : ∀ zs : List α, boolsD (zs.map fun z => .bl (f z)) = some (zs.map f)
  | [] => rfl
  | z :: zs => by simp only [List.map_cons, boolsD, bools_map f zs, Option.map_some]
@[simp] theorem bools_l {α : Type} (g : List Bool → Bool) (f : α → Bool) (zs : List α) : cBools g [.bo (.lst (zs.map fun z => .bl (f z)))] R = R (.bl (g (zs.map f))) := by simp [cBools, bools_map]
/-! + -/
@[simp] theorem add_i (i j : Int) : oAdd (.int i) (.int j) R = R (.int (i + j)) := id rfl
@[simp] theorem add_s (i j : Str) : oAdd (.str i) (.str j) R = (i.length + j.length ≤ 100000 ∧ R (.str (i ++ j))) := id rfl
@[simp] theorem add_l (i j : List D) : oAdd (.lst i) (.lst j) R = (i.length + j.length ≤ 100000 ∧ R (.lst (i ++ j))) := id rfl
@[simp] theorem add_t (i j : List D) : oAdd (.tup i) (.tup j) R = ((i ≠ [] ∧ j ≠ [] ∧ i.length + j.length ≤ 100000) ∧ R (.tup (i ++ j))) := id rfl
@[simp] theorem add_S : oAdd (dS xs) (dS ys) R = (xs.length + ys.length ≤ 100000 ∧ R (dS (xs ++ ys))) := by simp [dS]
@[simp] theorem add_B : oAdd (dBs bs) (dBs cs) R = (bs.length + cs.length ≤ 100000 ∧ R (dBs (bs ++ cs))) := by simp [dBs]
@[simp] theorem add_Il : oAdd (dIl ns) (dIl ms) R = (ns.length + ms.length ≤ 100000 ∧ R (dIl (ns ++ ms))) := by simp [dIl]
@[simp] theorem sub_i (i j : Int) : oSub (.int i) (.int j) R = R (.int (i - j)) := by simp [o2i]
@[simp] theorem mul_i (i j : Int) : oMul (.int i) (.int j) R = (CMul i j ∧ R (.int (i * j))) := id rfl
@[simp] theorem mod_i (i j : Int) : oMod (.int i) (.int j) R = (0 < j ∧ R (.int (i % j))) := id rfl
@[simp] theorem div_i (i j : Int) : oDiv (.int i) (.int j) R = (CDiv i j ∧ R (.int (i / j))) := id rfl
@[simp] theorem neg_i (i : Int) : o1i (fun i => .int (-i)) (.int i) R = R (.int (-i)) := id rfl
@[simp] theorem lt_i (i j : Int) : oLt (.int i) (.int j) R = R (.bl (decide (i < j))) := id rfl
@[simp] theorem lt_s (i j : Str) : oLt (.str i) (.str j) R = R (.bl (decide (sl i j))) := id rfl
@[simp] theorem gt_i (i j : Int) : oGt (.int i) (.int j) R = R (.bl (decide (j < i))) := id rfl
@[simp] theorem le_i (i j : Int) : oLe (.int i) (.int j) R = R (.bl (decide (i ≤ j))) := id rfl
@[simp] theorem ge_i (i j : Int) : oGe (.int i) (.int j) R = R (.bl (decide (j ≤ i))) := id rfl
@[simp] theorem max_i (i j : Int) : cMax [.bo (.int i), .bo (.int j)] R = R (.int (if j > i then j else i)) := id rfl
@[simp] theorem min_i (i j : Int) : cMin [.bo (.int i), .bo (.int j)] R = R (.int (if j < i then j else i)) := id rfl
@[simp] theorem int_i (i : Int) : cInt [.bo (.int i)] R = R (.int i) := by simp [c1i]
@[simp] theorem str_i (i : Int) : cStr [.bo (.int i)] R = (i.natAbs < 2 ^ 64 ∧ R (.str (digI i))) := id rfl
/-! == -/
theorem bq {α : Type} [BEq α] [LawfulBEq α] [DecidableEq α] (a b : α) : (a == b) = decide (a = b) := by rw [Bool.eq_iff_iff]; simp
theorem eqvAll_str : ∀ xs ys : List Str, PyData.eqvAll (xs.map .str) (ys.map .str) = decide (xs = ys)
  | [], [] => by simp [PyData.eqvAll]
  | [], y :: ys => by simp [PyData.eqvAll]
  | x :: xs, [] => by simp [PyData.eqvAll]
  | x :: xs, y :: ys => by simp [PyData.eqvAll, PyData.eqv, eqvAll_str xs ys, Bool.decide_and, bq]
theorem eqvAll_int : ∀ xs ys : List Int, PyData.eqvAll (xs.map .int) (ys.map .int) = decide (xs = ys)
  | [], [] => by simp [PyData.eqvAll]
  | [], y :: ys => by simp [PyData.eqvAll]
  | x :: xs, [] => by simp [PyData.eqvAll]
  | x :: xs, y :: ys => by simp [PyData.eqvAll, PyData.eqv, eqvAll_int xs ys, Bool.decide_and, bq]
theorem eqvAll_bd : ∀ xs ys : List Bd, PyData.eqvAll (xs.map fun b => pyOf (dBd b)) (ys.map fun b => pyOf (dBd b)) = decide (xs = ys)
  | [], [] => by simp [PyData.eqvAll]
  | [], y :: ys => by simp [PyData.eqvAll]
  | x :: xs, [] => by simp [PyData.eqvAll]
  | ⟨a, b, c⟩ :: xs, ⟨d, e, f⟩ :: ys => by
    rw [List.map_cons, List.map_cons, PyData.eqvAll, eqvAll_bd xs ys]
    simp [PyData.eqvAll, PyData.eqv, Bool.decide_and, bq, pyOf_dBd]
theorem toPys_of {α : Type} {f : α → D} {g : α → PyData} (h : ∀ x, toPy (f x) = some (g x)) : ∀ zs : List α, toPys (zs.map f) = some (zs.map g)
  | [] => by simp [toPys]
  | z :: zs => by simp [toPys, h, toPys_of h zs]
theorem depthAll_of {α : Type} {g : α → PyData} {n : Nat} (h : ∀ x, (g x).depth ≤ n) : ∀ zs : List α, PyData.depthAll (zs.map g) ≤ n
  | [] => by simp [PyData.depthAll]
  | z :: zs => by
    have := depthAll_of h zs
    have := h z
    simp only [List.map_cons, PyData.depthAll]
    omega
theorem py_S : toPy (dS xs) = some (.list (xs.map .str)) := by simp [toPy, dS, toPys_of (f := D.str) (g := PyData.str) (fun _ => by simp [toPy])]
theorem py_T : toPy (dT xs) = some (.tuple (xs.map .str)) := by simp [toPy, dT, toPys_of (f := D.str) (g := PyData.str) (fun _ => by simp [toPy])]
theorem py_Il : toPy (dIl ns) = some (.list (ns.map .int)) := by simp [toPy, dIl, toPys_of (f := D.int) (g := PyData.int) (fun _ => by simp [toPy])]
theorem py_It : toPy (dIt ns) = some (.tuple (ns.map .int)) := by simp [toPy, dIt, toPys_of (f := D.int) (g := PyData.int) (fun _ => by simp [toPy])]
theorem py_Bs : toPy (dBs bs) = some (.list (bs.map fun b => pyOf (dBd b))) := by simp [toPy, dBs, toPys_of (f := dBd) (g := fun b => pyOf (dBd b)) toPy_dBd]
theorem py_Bt : toPy (dBt bs) = some (.tuple (bs.map fun b => pyOf (dBd b))) := by simp [toPy, dBt, toPys_of (f := dBd) (g := fun b => pyOf (dBd b)) toPy_dBd]
theorem dep_S : (PyData.list (xs.map .str)).depth ≤ 64 := by
  have := depthAll_of (g := PyData.str) (n := 0) (fun _ => by simp [PyData.depth]) xs
  simp only [PyData.depth]; omega
theorem dep_T : (PyData.tuple (xs.map .str)).depth ≤ 64 := by
  have := depthAll_of (g := PyData.str) (n := 0) (fun _ => by simp [PyData.depth]) xs
  simp only [PyData.depth]; omega
theorem dep_It : (PyData.tuple (ns.map .int)).depth ≤ 64 := by
  have := depthAll_of (g := PyData.int) (n := 0) (fun _ => by simp [PyData.depth]) ns
  simp only [PyData.depth]; omega
theorem dep_Bt : (PyData.tuple (bs.map fun b => pyOf (dBd b))).depth ≤ 64 := by
  have := depthAll_of (g := fun b => pyOf (dBd b)) (n := 1) (fun _ => by simp [PyData.depth, pyOf_dBd, PyData.depthAll]) bs
  simp only [PyData.depth]; omega
theorem dep_Bs : (PyData.list (bs.map fun b => pyOf (dBd b))).depth ≤ 64 := by
  have := depthAll_of (g := fun b => pyOf (dBd b)) (n := 1) (fun _ => by simp [PyData.depth, pyOf_dBd, PyData.depthAll]) bs
  simp only [PyData.depth]; omega
@[simp] theorem eq_i (i j : Int) : oEq (.int i) (.int j) R = R (.bl (decide (i = j))) := by simp [oEq, toPy, PyData.eqv, PyData.depth, bq]
@[simp] theorem ne_i (i j : Int) : oNe (.int i) (.int j) R = R (.bl (!decide (i = j))) := by simp [oNe, toPy, PyData.eqv, PyData.depth, bq]
@[simp] theorem eq_s (i j : Str) : oEq (.str i) (.str j) R = R (.bl (decide (i = j))) := by simp [oEq, toPy, PyData.eqv, PyData.depth, bq]
@[simp] theorem ne_s (i j : Str) : oNe (.str i) (.str j) R = R (.bl (!decide (i = j))) := by simp [oNe, toPy, PyData.eqv, PyData.depth, bq]
@[simp] theorem eq_T : oEq (dT xs) (dT ys) R = R (.bl (decide (xs = ys))) := by simp [oEq, py_T, dep_T, PyData.eqv, eqvAll_str]
@[simp] theorem ne_S : oNe (dS xs) (dS ys) R = R (.bl (!decide (xs = ys))) := by simp [oNe, py_S, dep_S, PyData.eqv, eqvAll_str]
@[simp] theorem ne_It : oNe (dIt ns) (dIt ms) R = R (.bl (!decide (ns = ms))) := by simp [oNe, py_It, dep_It, PyData.eqv, eqvAll_int]
@[simp] theorem eq_Bt : oEq (dBt bs) (dBt cs) R = R (.bl (decide (bs = cs))) := by simp [oEq, py_Bt, dep_Bt, PyData.eqv, eqvAll_bd]
@[simp] theorem eq_Bs0 : oEq (dBs bs) (.lst []) R = R (.bl (decide (bs = []))) := by
  have := eqvAll_bd bs []
  rw [List.map_nil] at this
  simp [oEq, py_Bs, dep_Bs, PyData.eqv, toPy, toPys, this]
@[simp] theorem ne_T0 : oNe (dT xs) (.tup []) R = R (.bl (!decide (xs = []))) := by
  have := eqvAll_str xs []
  rw [List.map_nil] at this
  simp [oNe, py_T, dep_T, PyData.eqv, toPy, toPys, this]
/-! in -/
theorem imms_str : ∀ ys : List Str, imms (ys.map .str) = some (ys.map V.str)
  | [] => by simp [imms]
  | y :: ys => by simp [imms, imm, imms_str ys]
theorem imms_int : ∀ ys : List Int, imms (ys.map .int) = some (ys.map V.int)
  | [] => by simp [imms]
  | y :: ys => by simp [imms, imm, imms_int ys]
theorem inV_str (x : Str) : ∀ ys : List Str, inV (.str x) (ys.map V.str) = decide (x ∈ ys)
  | [] => by simp [inV]
  | y :: ys => by
    have := inV_str x ys
    unfold inV at this ⊢
    rw [List.map_cons, List.any_cons, this]
    by_cases e : y = x
    · subst e; simp [eqV]
    · have e' : x ≠ y := fun q => e q.symm
      simp [eqV, e, e']
theorem inV_int (x : Int) : ∀ ys : List Int, inV (.int x) (ys.map V.int) = decide (x ∈ ys)
  | [] => by simp [inV]
  | y :: ys => by
    have := inV_int x ys
    unfold inV at this ⊢
    rw [List.map_cons, List.any_cons, this]
    by_cases e : y = x
    · subst e; simp [eqV]
    · have e' : x ≠ y := fun q => e q.symm
      simp [eqV, e, e']
@[simp] theorem in_S (neg : Bool) (x : Str) : oIn neg (.str x) (dS ys) R = R (.bl (if neg then !decide (x ∈ ys) else decide (x ∈ ys))) := by simp [oIn, imm, dS, itemsD, imms_str, inV_str]
@[simp] theorem in_T (neg : Bool) (x : Str) : oIn neg (.str x) (dT ys) R = R (.bl (if neg then !decide (x ∈ ys) else decide (x ∈ ys))) := by simp [oIn, imm, dT, itemsD, imms_str, inV_str]
@[simp] theorem in_It (neg : Bool) (x : Int) : oIn neg (.int x) (dIt ns) R = R (.bl (if neg then !decide (x ∈ ns) else decide (x ∈ ns))) := by simp [oIn, imm, dIt, itemsD, imms_int, inV_int]
theorem ixOf_str {p : Str} : ∀ {ys : List Str}, p ∈ ys → ixOf (.str p) (ys.map V.str) = some (ys.idxOf p)
  | y :: ys, h => by
    by_cases e : y = p
    · subst e; simp [ixOf, eqV]
    · rw [List.map_cons, ixOf, ixOf_str ((List.mem_cons.mp h).resolve_left fun q => e q.symm), idx_ne e]
      simp [eqV, e]
theorem index_S {p : Str} (h : p ∈ xs) : oIndexL (xs.map .str) (.str p) R = R (.int (xs.idxOf p : Nat)) := by simp [oIndexL, imm, imms_str, ixOf_str h]
/-! sorted -/
theorem strsD_maps : ∀ ys : List Str, strsD (ys.map .str) = some ys
  | [] => rfl
  | y :: ys => by simp [strsD, strsD_maps ys]
theorem sort_S (n : xs.Nodup) (l : xs.length < 64) (h : R (dS (srt xs))) : cSortS [.bo (dS xs)] R := by
  simp only [cSortS, dS, strsD_maps]
  exact ⟨l, fun ys p s => by rw [srt_unique p s n]; exact h⟩
theorem sort_K {vs : List D} (n : xs.Nodup) (l : xs.length < 64) (h : R (dS (srt xs))) : cSortK [.bo (.dic xs vs)] R := by
  simp only [cSortK]
  exact ⟨l, fun ys p s => by rw [srt_unique p s n]; exact h⟩
theorem sort_B (l : bs.length ≤ 1000) (h : R (dBs (srtB bs))) : cSortD [.bo (dBs bs)] R := by
  simp only [cSortD, dBs]
  refine ⟨⟨by simpa using l, fun d m => ?_, fun d m d' m' => ?_, .inl fun d m => ?_, fun d m => ?_⟩, ?_⟩
  · obtain ⟨b, _, rfl⟩ := List.mem_map.mp m; exact toPy_dBd b
  · obtain ⟨e, q, rfl⟩ := List.mem_map.mp m
    obtain ⟨b, _, rfl⟩ := List.mem_map.mp q
    obtain ⟨e', q', rfl⟩ := List.mem_map.mp m'
    obtain ⟨b', _, rfl⟩ := List.mem_map.mp q'
    simp [pyOf_dBd, PySem.W.alike, PySem.W.alikeAll]
  · obtain ⟨e, q, rfl⟩ := List.mem_map.mp m
    obtain ⟨b, _, rfl⟩ := List.mem_map.mp q
    exact ⟨_, _, pyOf_dBd b⟩
  · obtain ⟨b, _, rfl⟩ := List.mem_map.mp m
    simp [pyOf_dBd, PyData.depth, PyData.depthAll]
  · rw [srtB_map]; exact h
theorem py_dBk (b : Bk) : toPy (dBk b) = some (.tuple [.tuple (b.1.map .str), .bool b.2]) := by simp [dBk, toPy, toPys, py_T]
theorem pyOf_dBk (b : Bk) : pyOf (dBk b) = .tuple [.tuple (b.1.map .str), .bool b.2] := by simp [pyOf, py_dBk]
def srtK (bs : List Bk) : List Bk := bs.mergeSort fun a b => leD (dBk a) (dBk b)
theorem srtK_map (bs : List Bk) : (bs.map dBk).mergeSort leD = (srtK bs).map dBk := (List.map_mergeSort (r := fun a b => leD (dBk a) (dBk b)) (s := leD) (f := dBk) (l := bs) fun _ _ _ _ => rfl).symm
theorem srtK_mem {bs : List Bk} {b : Bk} : b ∈ srtK bs ↔ b ∈ bs := (List.mergeSort_perm _ _).mem_iff
theorem srtK_len {bs : List Bk} : (srtK bs).length = bs.length := (List.mergeSort_perm _ _).length_eq
theorem alike_strs : ∀ xs ys : List Str, PySem.W.alikeAll (xs.map .str) (ys.map .str) = true
  | [], _ => by simp [PySem.W.alikeAll]
  | x :: xs, [] => by simp [PySem.W.alikeAll]
  | x :: xs, y :: ys => by simp [PySem.W.alikeAll, PySem.W.alike, alike_strs xs ys]
theorem sort_K' (bs : List Bk) (l : bs.length ≤ 1000) (h : R (dBl (srtK bs))) : cSortD [.bo (dBl bs)] R := by
  simp only [cSortD, dBl]
  refine ⟨⟨by simpa using l, fun d m => ?_, fun d m d' m' => ?_, .inl fun d m => ?_, fun d m => ?_⟩, ?_⟩
  · obtain ⟨b, _, rfl⟩ := List.mem_map.mp m; rw [py_dBk, pyOf_dBk]
  · obtain ⟨e, q, rfl⟩ := List.mem_map.mp m
    obtain ⟨b, _, rfl⟩ := List.mem_map.mp q
    obtain ⟨e', q', rfl⟩ := List.mem_map.mp m'
    obtain ⟨b', _, rfl⟩ := List.mem_map.mp q'
    simp [pyOf_dBk, PySem.W.alike, PySem.W.alikeAll, alike_strs]
  · obtain ⟨e, q, rfl⟩ := List.mem_map.mp m
    obtain ⟨b, _, rfl⟩ := List.mem_map.mp q
    exact ⟨_, _, pyOf_dBk b⟩
  · obtain ⟨b, _, rfl⟩ := List.mem_map.mp m
    have := depthAll_of (g := PyData.str) (n := 0) (fun _ => by simp [PyData.depth]) b.1
    simp only [pyOf_dBk, PyData.depth, PyData.depthAll]
    omega
  · rw [srtK_map]; exact h
end
end VL
/-! text Rc -/
/-! Rc: names, heights, webs. -/
namespace VL
open PySem PySem.Spec PyProof.Rows L2
variable {cW cL cP : Addr}
@[simp] theorem kit_ss : kitB "str" "str" = some true := by decide +kernel
@[simp] theorem kit_ib : kitB "int" "bool" = some false := by decide +kernel
@[simp] theorem kit_ii : kitB "int" "int" = some true := by decide +kernel
@[simp] theorem ty_s (x : Str) : tyD (.str x) = some "str" := rfl
@[simp] theorem ty_i (x : Int) : tyD (.int x) = some "int" := rfl
theorem sign_one (c : Nat) : sign ⟨#[c]⟩ = some c := rfl
@[simp] theorem inS_one (neg : Bool) (c : Nat) (z : Str) (R : D → Prop) : oInS neg (.str ⟨#[c]⟩) (.str z) R = R (.bl (if neg then !decide (c ∈ z.cps.toList) else decide (c ∈ z.cps.toList))) := rfl
theorem ix_s {z : Str} {n : Int} {c : Nat} {R : D → Prop} (h : atI z.cps.toList n = some c) (l : z.length ≤ 100000) : oIx (.str z) (.int n) R = R (.str ⟨#[c]⟩) := by simp [oIx, h, l]
def c_is_name : OC := fun as R => ∃ x, as = [.sh (.str x)] ∧ Nm x ∧ R (.bl true)
theorem r_is_name : ∀ as R, c_is_name as R → ws_is_name cW cL cP (gaOf N_is_name.length as) (poF R) := by
  rintro _ R ⟨x, rfl, hx, h⟩
  have h1 := hx.ne
  have h2 := hx.le
  have h3 : ¬ x = Str.ofString "it" := hx.it
  have hl : x.cps.toList.length ≠ 0 := by
    have : x.cps.toList.length = x.length := by simp [Str.length]
    rw [this]; exact h1
  obtain ⟨c, hc⟩ : ∃ c, x.cps.toList[0]? = some c := by
    cases e : x.cps.toList with
    | nil => rw [e] at hl; simp at hl
    | cons c r => exact ⟨c, rfl⟩
  have hc' := hx.hd c hc
  have e8 : ¬ (8 : Int) < x.length := by omega
  have e0 : ¬ ((x.length : Int) = 0) := by omega
  simp [ws_is_name, h3, e8, h1, show x.length ≤ 100000 by omega]
  rw [ix_s (c := c) (by simpa using hc) (by omega)]
  simp [show c ∈ (Str.ofString "abcdefghijklmnopqrstuvwxyz").cps.toList from hc']
  refine LC_map (xs := x.cps.toList) (e := fun c => .str ⟨#[c]⟩) (fun _ => .bl true) ?_ (fun c m K hK => ?_) ?_
  · have : x.cps.toList.length = x.length := by simp [Str.length]
    omega
  · rcases hx.al c m with q | q
    · simp [wt_is_name_1, we_is_name_2, show c ∈ (Str.ofString "abcdefghijklmnopqrstuvwxyz").cps.toList from q, hK]
    · simp [wt_is_name_1, we_is_name_2, show c ∈ (Str.ofString "0123456789").cps.toList from q, hK]
  · have := bools_l R (fun bs => bs.all id) (fun _ : Nat => true) x.cps.toList
    rw [this]
    have e : ((x.cps.toList.map fun _ => true).all id) = true := by rw [List.all_eq_true]; simp
    rw [e]
    exact h
def c_is_height : OC := fun as R => ∃ x, as = [.sh (.int x)] ∧ (-9999 ≤ x ∧ x ≤ 9999) ∧ R (.bl true)
theorem r_is_height : ∀ as R, c_is_height as R → ws_is_height cW cL cP (gaOf N_is_height.length as) (poF R) := by
  rintro _ R ⟨x, rfl, hx, h⟩
  simp [ws_is_height, hx, h]
/-! a dictionary that grows -/
theorem dputK_new {ks : List Str} {k : Str} (h : k ∉ ks) : dputK ks k = ks ++ [k] := by simp [dputK, h]
theorem dputV_new {α : Type} {ks : List Str} {vs : List α} {k : Str} {v : α} (h : k ∉ ks) : dputV ks vs k v = vs ++ [v] := by simp [dputV, h]
theorem nodup_take {xs : List Str} {i : Nat} {x : Str} (n : xs.Nodup) (h : xs[i]? = some x) : x ∉ xs.take i := fun m => by
  rw [split_at h, List.nodup_append] at n
  exact n.2.2 x m x (.head _) rfl
theorem nodup_take_map {α : Type} {f : α → Str} {xs : List α} {i : Nat} {x : α} (n : (xs.map f).Nodup) (h : xs[i]? = some x) : f x ∉ (xs.take i).map f := by
  have := nodup_take (i := i) (x := f x) n (by rw [List.getElem?_map, h]; rfl)
  rwa [← List.map_take] at this
theorem take_map {α β : Type} {f : α → β} {xs : List α} {i : Nat} {x : α} (h : xs[i]? = some x) : (xs.map f).take (i + 1) = (xs.map f).take i ++ [f x] := take_succ (by rw [List.getElem?_map, h]; rfl)
def c_need_names : OC := fun as R => ∃ ps n z m, as = [.sh (dS ps), .sh n, .sh (.int z), .sh (.int m)] ∧ (ps.Nodup ∧ (∀ p ∈ ps, Nm p) ∧ z ≤ ps.length ∧ ps.length ≤ m ∧ ps.length < 64) ∧ R (dS (srt ps))
theorem r_need_names : ∀ as R, c_need_names as R → ws_need_names cW cL cP c_is_name (gaOf N_need_names.length as) (poF R) := by
  rintro _ R ⟨ps, n, z, m, rfl, ⟨h1, h2, h3, h4, h5⟩, h⟩
  simp [ws_need_names, h3, h4]
  refine FR_inv (fun i G => ∃ t, G = [.sh (dS ps), .sh n, .sh (.int z), .sh (.int m), .ow (.dic (ps.take i) ((ps.take i).map fun _ => .bl true)), t]) ⟨_, rfl⟩ ?_ ?_
  · rintro i x _ hx ⟨t, rfl⟩
    have nx := nodup_take h1 hx
    simp [wb_need_names_1]
    refine ⟨x, rfl, h2 x (List.mem_of_getElem? hx), ?_⟩
    simp [nx, dputK_new nx, dputV_new nx, take_succ hx, take_map hx]
    omega
  · rintro _ ⟨t, rfl⟩
    simp
    exact sort_S _ _ h1 h5 h
def c_bond_row : OC := fun as R => ∃ b : Bd, as = [.sh (.str b.1), .sh (.str b.2.1), .sh (.str b.2.2)] ∧ sl b.2.1 b.2.2 ∧ R (dBd b)
theorem r_bond_row : ∀ as R, c_bond_row as R → ws_bond_row cW cL cP (gaOf N_bond_row.length as) (poF R) := by
  rintro _ R ⟨b, rfl, hb, h⟩
  simp [ws_bond_row, hb]
  exact h
structure BsOk (ps : List Str) (bs : List Bd) : Prop where
  bn : (bs.map (·.1)).Nodup
  bm : ∀ b ∈ bs, Nm b.1 ∧ b.2.1 ∈ ps ∧ b.2.2 ∈ ps ∧ sl b.2.1 b.2.2
  bl : bs.length ≤ 16
def c_need_bonds : OC := fun as R => ∃ ps bs, as = [.sh (dS ps), .sh (dBs bs)] ∧ BsOk ps bs ∧ R (dBs (srtB bs))
theorem r_need_bonds : ∀ as R, c_need_bonds as R → ws_need_bonds cW cL cP c_is_name c_bond_row (gaOf N_need_bonds.length as) (poF R) := by
  rintro _ R ⟨ps, bs, rfl, ok, h⟩
  have hl : (bs.length : Int) ≤ 16 := by have := ok.bl; omega
  simp [ws_need_bonds, hl]
  refine FR_inv (fun i G => ∃ t1 t2 t3, G = [.sh (dS ps), .sh (dBs bs), .ow (.dic ((bs.take i).map (·.1)) ((bs.take i).map dBd)), t1, t2, t3]) ⟨_, _, _, rfl⟩ ?_ ?_
  · rintro i b _ hx ⟨t1, t2, t3, rfl⟩
    have nx := nodup_take_map ok.bn hx
    obtain ⟨b1, b2, b3, b4⟩ := ok.bm b (List.mem_of_getElem? hx)
    simp [wb_need_bonds_1]
    refine ⟨b.1, rfl, b1, ?_⟩
    have nx' : ¬ ∃ x, (b.1, x) ∈ bs.take i := by
      rintro ⟨x, m⟩
      exact nx (List.mem_map.mpr ⟨_, m, rfl⟩)
    simp [b2, b3, sl_ne b4]
    simp at nx
    refine ⟨nx, b, rfl, b4, ?_⟩
    have nx2 := nodup_take_map ok.bn hx
    simp only [List.map_take] at nx2
    have := ok.bl
    simp [dputK_new nx2, dputV_new nx2, take_map hx]
    omega
  · rintro _ ⟨t1, t2, t3, rfl⟩
    simp
    exact sort_B R bs (by omega) h
end VL
/-! text Rd -/
/-! Rd: webs, lands, tables. -/
namespace VL
open PySem PySem.Spec PyProof.Rows L2
variable {cW cL cP : Addr}
@[simp] theorem ne_w1 : (Str.ofString "web_bonds" = Str.ofString "web_places") = False := eq_false (by decide +kernel)
@[simp] theorem ne_w2 : (Str.ofString "web_spots" = Str.ofString "web_places") = False := eq_false (by decide +kernel)
@[simp] theorem ne_w3 : (Str.ofString "web_spots" = Str.ofString "web_bonds") = False := eq_false (by decide +kernel)
@[simp] theorem ne_w4 : (Str.ofString "web_near" = Str.ofString "web_places") = False := eq_false (by decide +kernel)
@[simp] theorem ne_w5 : (Str.ofString "web_near" = Str.ofString "web_bonds") = False := eq_false (by decide +kernel)
@[simp] theorem ne_w6 : (Str.ofString "web_near" = Str.ofString "web_spots") = False := eq_false (by decide +kernel)
@[simp] theorem ne_l1 : (Str.ofString "land_heights" = Str.ofString "web") = False := eq_false (by decide +kernel)
@[simp] theorem ne_p1 : (Str.ofString "own_border" = Str.ofString "land") = False := eq_false (by decide +kernel)
@[simp] theorem ne_p2 : (Str.ofString "own_inner" = Str.ofString "land") = False := eq_false (by decide +kernel)
@[simp] theorem ne_p3 : (Str.ofString "own_inner" = Str.ofString "own_border") = False := eq_false (by decide +kernel)
@[simp] theorem ne_p4 : (Str.ofString "own_row" = Str.ofString "land") = False := eq_false (by decide +kernel)
@[simp] theorem ne_p5 : (Str.ofString "own_row" = Str.ofString "own_border") = False := eq_false (by decide +kernel)
@[simp] theorem ne_p6 : (Str.ofString "own_row" = Str.ofString "own_inner") = False := eq_false (by decide +kernel)
theorem LdOk.toBs {L : Ld} (h : LdOk L) : BsOk L.ps L.bs := ⟨h.bn, h.bm, h.bl⟩
theorem DC_map {α : Type} {xs : List α} {e : α → D} (k : α → Str) (v : α → D) {B : D → (Option (Str × D) → Prop) → Prop} {R : D → Prop} (hl : xs.length ≤ 1000) (n : (xs.map k).Nodup) (hb : ∀ x ∈ xs, ∀ K : Option (Str × D) → Prop, K (some (k x, v x)) → B (e x) K) (hr : R (.dic (xs.map k) (xs.map v))) : DC (xs.map e) B R := by
  refine ⟨by rw [List.length_map]; exact hl, fun i ks acc => ks = (xs.map k).take i ∧ acc = (xs.map v).take i, by simp, fun i d ks acc hd ha => ?_, fun ks acc ha => ?_⟩
  · rw [List.getElem?_map] at hd
    cases hx : xs[i]? with
    | none => rw [hx] at hd; cases hd
    | some x =>
      rw [hx] at hd
      cases hd
      refine hb x (List.mem_of_getElem? hx) _ ?_
      obtain ⟨rfl, rfl⟩ := ha
      have nx := nodup_take_map n hx
      rw [List.map_take] at nx
      show _ ∧ _
      rw [dputK_new nx, dputV_new nx, take_map hx, take_map hx]
      exact ⟨rfl, rfl⟩
  · obtain ⟨rfl, rfl⟩ := ha
    have e1 : (xs.map k).take (xs.map e).length = xs.map k := by rw [List.take_of_length_le]; simp
    have e2 : (xs.map v).take (xs.map e).length = xs.map v := by rw [List.take_of_length_le]; simp
    rw [e1, e2]
    exact hr
theorem enum_S (ps : List Str) : enumD (ps.map .str) = ps.zipIdx.map fun q => .tup [.int (q.2 : Nat), .str q.1] := by
  unfold enumD
  rw [List.mapIdx_eq_zipIdx_map, List.zipIdx_map, List.map_map]
  rfl
def c_ntw : OC := fun as R => ∃ ps bs, as = [.sh (dS ps), .sh (dBs bs)] ∧ (ps.Nodup ∧ ps.length ≤ 10 ∧ BsOk ps bs) ∧ ∀ nr, R nr
def wFs : List Str := ["web_places", "web_bonds", "web_spots", "web_near"]
def ci_W : OCi := fun as R => ∃ L bs, as = [dS L.ps, dBs bs] ∧ (LdOk L ∧ bs.Perm L.bs) ∧ ∀ nr, R ["web_places", "web_bonds", "web_spots", "web_near"] [dT L.ps, dBt L.bs, dSp L.ps, nr]
theorem r_W_init : ∀ as R, ci_W as R → ws_W___init__ cW cL cP c_need_names c_need_bonds c_ntw (gaOf N_W___init__.length (.ow (.obj cW [] []) :: as.map .sh)) (poI cW R) := by
  rintro _ R ⟨L, bs, rfl, ⟨ok, pm⟩, h⟩
  have hl : 0 < L.ps.length := List.length_pos_iff.mpr ok.ne
  have okb : BsOk L.ps bs := ⟨(pm.map _).nodup_iff.mpr ok.bn, fun b m => ok.bm b (pm.mem_iff.mp m), by rw [pm.length_eq]; exact ok.bl⟩
  simp [ws_W___init__]
  refine ⟨L.ps, _, 1, 10, rfl, ⟨ok.asc.nodup, ok.nm, by omega, by have := ok.len; omega, by have := ok.len; omega⟩, ?_⟩
  rw [srt_id ok.asc]
  simp
  refine ⟨L.ps, bs, rfl, okb, ?_⟩
  rw [srtB_congr pm, ok.bs]
  simp
  rw [enum_S]
  refine DC_map (fun q => q.1) (fun q => .int (q.2 : Nat)) ?_ ?_ ?_ ?_
  · have := ok.len; simp; omega
  · rw [show (fun q : Str × Nat => q.1) = Prod.fst from rfl, List.zipIdx_map_fst]; exact ok.asc.nodup
  · rintro ⟨p, i⟩ m K hK
    simp [wt_W___init___1, we_W___init___2, we_W___init___3]
    exact hK
  · rw [show (fun q : Str × Nat => q.1) = Prod.fst from rfl, List.zipIdx_map_fst, show (fun q : Str × Nat => D.int (q.2 : Nat)) = (fun i : Nat => D.int (i : Nat)) ∘ Prod.snd from rfl, ← List.map_map, List.zipIdx_map_snd, ← List.range_eq_range']
    exact ⟨L.ps, L.bs, rfl, ⟨ok.asc.nodup, ok.len, ok.toBs⟩, fun nr => ⟨rfl, h nr⟩⟩
def IsW (cW : Addr) (d : D) (L : Ld) : Prop := ∃ nr, d = dWeb cW nr L
def c_W_places (cW : Addr) : OC := fun as R => ∃ nr L, as = [.bo (dWeb cW nr L)] ∧ R (dS L.ps)
theorem r_W_places : ∀ as R, c_W_places cW as R → ws_W_places cW cL cP (gaOf N_W_places.length as) (poF R) := by
  rintro _ R ⟨nr, L, rfl, h⟩
  simp [ws_W_places, h]
def c_W_bonds (cW : Addr) : OC := fun as R => ∃ nr L, as = [.bo (dWeb cW nr L)] ∧ R (dBs L.bs)
theorem r_W_bonds : ∀ as R, c_W_bonds cW as R → ws_W_bonds cW cL cP (gaOf N_W_bonds.length as) (poF R) := by
  rintro _ R ⟨nr, L, rfl, h⟩
  simp [ws_W_bonds, h]
def c_W_len (cW : Addr) : OC := fun as R => ∃ nr L, as = [.bo (dWeb cW nr L)] ∧ R (.int (L.ps.length : Nat))
theorem r_W_len : ∀ as R, c_W_len cW as R → ws_W___len__ cW cL cP (gaOf N_W___len__.length as) (poF R) := by
  rintro _ R ⟨nr, L, rfl, h⟩
  simp [ws_W___len__, h]
def c_W_eq (cW : Addr) : OC := fun as R => ∃ nr nr' L M, as = [.bo (dWeb cW nr L), .bo (dWeb cW nr' M)] ∧ (L.ps = M.ps ∧ L.bs = M.bs) ∧ R (.bl true)
theorem r_W_eq : ∀ as R, c_W_eq cW as R → ws_W___eq__ cW cL cP (gaOf N_W___eq__.length as) (poF R) := by
  rintro _ R ⟨nr, nr', L, M, rfl, ⟨h1, h2⟩, h⟩
  simp [ws_W___eq__, h1, h2, h]
def ci_LA (cW : Addr) : OCi := fun as R => ∃ nr L, as = [dWeb cW nr L, dIl (hsOf L)] ∧ LdOk L ∧ R ["web", "land_heights"] [dWeb cW nr L, dIt (hsOf L)]
theorem hs_len (L : Ld) : (hsOf L).length = L.ps.length := by unfold hsOf; simp
theorem r_LA_init : ∀ as R, ci_LA cW as R → ws_LA___init__ cW cL cP (c_W_len cW) c_is_height (gaOf N_LA___init__.length (.ow (.obj cL [] []) :: as.map .sh)) (poI cL R) := by
  rintro _ R ⟨nr, L, rfl, ok, h⟩
  simp [ws_LA___init__]
  refine ⟨nr, L, rfl, ?_⟩
  have := ok.len
  simp [hs_len]
  refine ⟨by omega, ?_⟩
  refine FR_inv (fun i G => ∃ t, G = [.ow (.obj cL [] []), .sh (dWeb cW nr L), .sh (dIl (hsOf L)), t]) ⟨_, rfl⟩ ?_ ?_
  · rintro i x _ hx ⟨t, rfl⟩
    simp [wb_LA___init___1]
    refine ⟨x, rfl, ?_, ?_⟩
    · have := List.mem_of_getElem? hx
      unfold hsOf at this
      obtain ⟨p, mp, rfl⟩ := List.mem_map.mp this
      exact ok.hr p mp
    · simp
  · rintro _ ⟨t, rfl⟩
    simp
    exact ⟨rfl, h⟩
def c_LA_heights (cW cL : Addr) : OC := fun as R => ∃ nr L, as = [.bo (dLand cW cL nr L)] ∧ R (dIl (hsOf L))
theorem r_LA_heights : ∀ as R, c_LA_heights cW cL as R → ws_LA_heights cW cL cP (gaOf N_LA_heights.length as) (poF R) := by
  rintro _ R ⟨nr, L, rfl, h⟩
  simp [ws_LA_heights, h]
def c_LA_getitem (cW cL : Addr) : OC := fun as R => ∃ nr L p, as = [.bo (dLand cW cL nr L), .bo (.str p)] ∧ p ∈ L.ps ∧ R (.int (L.h p))
theorem r_LA_getitem : ∀ as R, c_LA_getitem cW cL as R → ws_LA___getitem__ cW cL cP (gaOf N_LA___getitem__.length as) (poF R) := by
  rintro _ R ⟨nr, L, p, rfl, hp, h⟩
  simp [ws_LA___getitem__, hp, dg_Sp _ _ hp]
  rw [ix_It _ _ (hs_at hp)]
  exact h
def c_LA_len (cW cL : Addr) : OC := fun as R => ∃ nr L, as = [.bo (dLand cW cL nr L)] ∧ R (.int (L.ps.length : Nat))
theorem r_LA_len : ∀ as R, c_LA_len cW cL as R → ws_LA___len__ cW cL cP (gaOf N_LA___len__.length as) (poF R) := by
  rintro _ R ⟨nr, L, rfl, h⟩
  simp [ws_LA___len__, hs_len, h]
def c_LA_contains (cW cL : Addr) : OC := fun as R => ∃ nr L p, as = [.bo (dLand cW cL nr L), .bo (.str p)] ∧ R (.bl (decide (p ∈ L.ps)))
theorem r_LA_contains : ∀ as R, c_LA_contains cW cL as R → ws_LA___contains__ cW cL cP (gaOf N_LA___contains__.length as) (poF R) := by
  rintro _ R ⟨nr, L, p, rfl, h⟩
  simp [ws_LA___contains__, h]
def c_LA_table (cW cL : Addr) : OC := fun as R => ∃ nr L, as = [.bo (dLand cW cL nr L)] ∧ (L.ps.Nodup ∧ L.ps.length ≤ 10) ∧ R (dTab L)
theorem zip_PH (L : Ld) : zipD (L.ps.map .str) ((hsOf L).map .int) = L.ps.map fun p => .tup [.str p, .int (L.h p)] := by
  unfold zipD hsOf
  rw [List.map_map, List.zip_map', List.map_map]
  rfl
theorem r_LA_table : ∀ as R, c_LA_table cW cL as R → ws_LA_table cW cL cP (gaOf N_LA_table.length as) R := by
  rintro _ R ⟨nr, L, rfl, ⟨h1, h2⟩, h⟩
  simp [ws_LA_table, hs_len, zip_PH]
  refine DC_map (fun p => p) (fun p => .int (L.h p)) (by omega) (by simpa using h1) (fun p m K hK => ?_) ?_
  · simp [wt_LA_table_1, we_LA_table_2, we_LA_table_3, hK]
  · have : (hsOf L).map D.int = L.ps.map fun p => D.int (L.h p) := by unfold hsOf; rw [List.map_map]; rfl
    unfold dTab at h
    rw [this] at h
    simpa using h
end VL
/-! text Re -/
/-! Re: flats. -/
namespace VL
open PySem PySem.Spec PyProof.Rows L2
variable {cW cL cP : Addr}
def dNear (L : Ld) : D := .dic L.ps (L.ps.map fun p => dS (nbrs L.bs p))
@[simp] theorem dg_Near {L : Ld} {p : Str} (R : D → Prop) (h : p ∈ L.ps) : dgD (dNear L) (.str p) R = R (dS (nbrs L.bs p)) := dg_map R h
@[simp] theorem isDic_Near (L : Ld) (Q : List Str → List D → Prop) : isDic (dNear L) Q = Q L.ps (L.ps.map fun p => dS (nbrs L.bs p)) := id rfl
def c_ntf (cW : Addr) : OC := fun as R => ∃ nr L, as = [.sh (dWeb cW nr L)] ∧ LdOk L ∧ R (dNear L)
theorem wwhile_i {c : WT} {wb : WS} {G : Ga} {P : Po} (I : Nat → Ga → Prop) (m : Nat) (h0 : I m G) (h : ∀ m G', I m G' → c G' fun t => if t = true then wb G' { nx := fun G2 => ∃ m', m' < m ∧ I m' G2, ct := fun G2 => ∃ m', m' < m ∧ I m' G2, bk := P.nx, rt := P.rt } else P.nx G') : wwhile c wb G P := ⟨I, ⟨m, h0⟩, h⟩
def c_flat_around : OC := fun as R => ∃ L p, as = [.sh (.str p), .sh (dTab L), .sh (dNear L)] ∧ (LdOk L ∧ p ∈ L.ps) ∧ R (dS (flat L p))
theorem r_flat_around : ∀ as R, c_flat_around as R → ws_flat_around cW cL cP (gaOf N_flat_around.length as) (poF R) := by
  rintro _ R ⟨L, p, rfl, ⟨ok, hp⟩, h⟩
  have l10 := ok.len
  simp [ws_flat_around]
  refine wwhile_i (fun m G => ∃ fl a t5 t6, G = [.sh (.str p), .sh (dTab L), .sh (dNear L), .ow (dS fl), .sh (.int (a : Nat)), t5, t6] ∧ Gr L p fl a ∧ m + a = 20 ∧ a ≤ 10) 20 ⟨[p], 0, _, _, rfl, .start hp, rfl, by omega⟩ ?_
  rintro m _ ⟨fl, a, t5, t6, rfl, g, hm, ha⟩
  have gl := g.len
  simp [wt_flat_around_2]
  split
  · rename_i hlt
    simp [wb_flat_around_3]
    obtain ⟨here, hh⟩ : ∃ here, fl[a]? = some here := ⟨fl[a], by simp [hlt]⟩
    have hps := (g.sf here (List.mem_of_getElem? hh)).1
    rw [ix_S _ _ (x := here) (by rw [atI_nat]; exact hh)]
    simp [hps]
    refine FR_inv (fun i G => ∃ fl t6, G = [.sh (.str p), .sh (dTab L), .sh (dNear L), .ow (dS fl), .sh (.int (a : Nat)), .sh (.str here), t6] ∧ Gi L p fl a here i) ⟨fl, _, rfl, g.go hh⟩ ?_ ?_
    · rintro i r _ hr ⟨fl, t6, rfl, g⟩
      have hrp := nbrs_mem ok (List.mem_of_getElem? hr)
      have gl := g.len
      simp [wb_flat_around_1, dg_Tab _ hrp, dg_Tab _ hp]
      split
      · rename_i e
        split
        · rename_i n
          exact ⟨fl, rfl, g.skip hr fun _ => n⟩
        · rename_i n
          exact ⟨by omega, fl ++ [r], by simp [dS], g.add ok hr e n⟩
      · rename_i e
        exact ⟨fl, rfl, g.skip hr fun q => absurd q e⟩
    · rintro _ ⟨fl, t6, rfl, g⟩
      have g' := g.fin
      have gl := g'.len
      have := (List.getElem?_eq_some_iff.mp g.at_).1
      simp
      exact ⟨m - 1, by omega, fl, a + 1, ⟨rfl, by simp⟩, g', by omega, by omega⟩
  · rename_i hge
    refine sort_S _ _ g.nd (by omega) ?_
    rw [g.done ok (by omega)]
    exact h
def c_all_flats : OC := fun as R => ∃ L, as = [.sh (dTab L), .sh (dNear L)] ∧ LdOk L ∧ R (dFl (flats L))
theorem r_all_flats : ∀ as R, c_all_flats as R → ws_all_flats cW cL cP c_flat_around (gaOf N_all_flats.length as) (poF R) := by
  rintro _ R ⟨L, rfl, ok, h⟩
  have l10 := ok.len
  simp [ws_all_flats]
  refine FR_inv (fun i G => ∃ ks vs t4 t5 t6, G = [.sh (dTab L), .sh (dNear L), .ow (dFl (flatsTo L i)), .ow (.dic ks vs), t4, t5, t6] ∧ (vs.length = ks.length ∧ ks.Nodup) ∧ ∀ q, q ∈ ks ↔ ∃ p ∈ L.ps.take i, q ∈ flat L p) ⟨[], [], _, _, _, rfl, ⟨rfl, by simp⟩, by simp⟩ ?_ ?_
  · rintro i p _ hp ⟨ks, vs, t4, t5, t6, rfl, ⟨hv, hn⟩, hk⟩
    have pm := List.mem_of_getElem? hp
    have hd := head_iff (split_at hp) ok.asc
    simp [wb_all_flats_2]
    split
    · rename_i n
      have n' : p ∈ ks := n
      have hd' : (flat L p).head? ≠ some p := fun e => by
        obtain ⟨q, mq, mp⟩ := (hk p).mp n'
        exact hd.mp e q mq mp
      refine ⟨ks, vs, ⟨by rw [flatsTo_no hp hd'], rfl, rfl⟩, ⟨hv, hn⟩, fun q => ?_⟩
      rw [hk q, take_succ hp]
      simp only [List.mem_append, List.mem_singleton]
      constructor
      · rintro ⟨r, mr, mq⟩
        exact ⟨r, .inl mr, mq⟩
      · rintro ⟨r, mr | rfl, mq⟩
        · exact ⟨r, mr, mq⟩
        · obtain ⟨s, ms, mp⟩ := (hk r).mp n'
          exact ⟨s, ms, by rw [← flat_eq_mem mp]; exact mq⟩
    · rename_i n
      have hd' : (flat L p).head? = some p := hd.mpr fun q mq mp => n ((hk p).mpr ⟨q, mq, mp⟩)
      refine ⟨L, p, rfl, ⟨ok, pm⟩, ?_⟩
      simp
      refine FR_inv (fun j G => ∃ ks vs t6, G = [.sh (dTab L), .sh (dNear L), .ow (dFl (flatsTo L i)), .ow (.dic ks vs), .sh (.str p), .sh (dS (flat L p)), t6] ∧ (vs.length = ks.length ∧ ks.Nodup) ∧ ∀ q, q ∈ ks ↔ (∃ p ∈ L.ps.take i, q ∈ flat L p) ∨ q ∈ (flat L p).take j) ⟨ks, vs, _, rfl, ⟨hv, hn⟩, by simpa using hk⟩ ?_ ?_
      · rintro j x _ hx ⟨ks, vs, t6, rfl, ⟨hv, hn⟩, hk⟩
        have kl : ks.length ≤ L.ps.length := len_sub hn fun q m => by
          rcases (hk q).mp m with ⟨p, mp, mq⟩ | mq
          · exact (mem_flat.mp mq).1
          · exact (mem_flat.mp (List.mem_of_mem_take mq)).1
        simp [wb_all_flats_1]
        refine ⟨by omega, _, _, ⟨rfl, rfl⟩, ⟨?_, ?_⟩, ?_⟩
        · by_cases m : x ∈ ks
          · simp [dputK, dputV, m, hv]
          · simp [dputK, dputV, m, hv]
        · by_cases m : x ∈ ks
          · simpa [dputK, m] using hn
          · rw [dputK_new m]
            exact List.nodup_append.mpr ⟨hn, by simp, fun a ha b hb e => m (by rw [← List.mem_singleton.mp hb, ← e]; exact ha)⟩
        · intro q
          have e1 : q ∈ dputK ks x ↔ q ∈ ks ∨ q = x := by
            by_cases m : x ∈ ks
            · simp only [dputK, m, if_true]
              exact ⟨.inl, fun h => h.elim id fun e => e ▸ m⟩
            · rw [dputK_new m]; simp
          rw [e1, hk q, take_succ hx]
          simp [or_assoc]
      · rintro _ ⟨ks, vs, t6, rfl, ⟨hv, hn⟩, hk⟩
        rw [List.take_length] at hk
        simp
        have := @flatsTo_len L i
        refine ⟨by omega, ks, vs, ⟨?_, rfl, rfl⟩, ⟨hv, hn⟩, fun q => ?_⟩
        · rw [flatsTo_yes hp hd']; simp [dFl]
        · rw [hk q, take_succ hp]
          simp [or_and_right, exists_or]
  · rintro _ ⟨ks, vs, t4, t5, t6, rfl, _, _⟩
    simp
    rw [flatsTo_all]
    exact h
def c_flats_of (cW cL : Addr) : OC := fun as R => ∃ nr L, as = [.sh (dLand cW cL nr L)] ∧ LdOk L ∧ R (dFl (flats L))
theorem r_flats_of : ∀ as R, c_flats_of cW cL as R → ws_flats_of cW cL cP c_all_flats (c_LA_table cW cL) (c_ntf cW) (gaOf N_flats_of.length as) (poF R) := by
  rintro _ R ⟨nr, L, rfl, ok, h⟩
  simp [ws_flats_of]
  refine ⟨nr, L, rfl, ⟨ok.asc.nodup, ok.len⟩, ?_⟩
  exact ⟨nr, L, rfl, ok, L, rfl, ok, h⟩
def c_need_same_web (cW cL : Addr) : OC := fun as R => ∃ nr nr' L M, as = [.sh (dLand cW cL nr L), .sh (dLand cW cL nr' M)] ∧ (L.ps = M.ps ∧ L.bs = M.bs) ∧ R .non
theorem r_need_same_web : ∀ as R, c_need_same_web cW cL as R → ws_need_same_web cW cL cP (c_W_eq cW) (gaOf N_need_same_web.length as) (poF R) := by
  rintro _ R ⟨nr, nr', L, M, rfl, ⟨h1, h2⟩, h⟩
  simp [ws_need_same_web]
  exact ⟨nr', nr, M, L, rfl, ⟨h1.symm, h2.symm⟩, by simp [h]⟩
end VL
/-! text Rf -/
/-! Rf: papers. -/
namespace VL
open PySem PySem.Spec PyProof.Rows L2
variable {cW cL cP : Addr}
structure Sm (s g : Ld) : Prop where
  ps : s.ps = g.ps
  bs : s.bs = g.bs
  s : LdOk s
  g : LdOk g
def slf (g : Ld) (b : Bd) : Option Bd := if g.h b.2.1 > g.h b.2.2 then some b else if g.h b.2.1 < g.h b.2.2 then some (b.1, b.2.2, b.2.1) else none
theorem slant_eq (g : Ld) : slant g = g.bs.filterMap (slf g) := rfl
theorem fm_take {α β : Type} {f : α → Option β} {xs : List α} {i : Nat} {x : α} (h : xs[i]? = some x) : (xs.take (i + 1)).filterMap f = (xs.take i).filterMap f ++ (f x).toList := by
  rw [take_succ h, List.filterMap_append]
  cases e : f x <;> simp [e]
theorem fm_len {α β : Type} {f : α → Option β} {xs : List α} {i : Nat} : ((xs.take i).filterMap f).length ≤ xs.length := by
  refine Nat.le_trans (List.length_filterMap_le _ _) ?_
  rw [List.length_take]; omega
def c_slanted (cW cL : Addr) : OC := fun as R => ∃ nr L, as = [.sh (dLand cW cL nr L)] ∧ LdOk L ∧ R (dBs (slant L))
theorem r_slanted : ∀ as R, c_slanted cW cL as R → ws_slanted_bonds cW cL cP (c_LA_table cW cL) (c_W_bonds cW) (gaOf N_slanted_bonds.length as) (poF R) := by
  rintro _ R ⟨nr, L, rfl, ok, h⟩
  simp [ws_slanted_bonds]
  refine ⟨nr, L, rfl, ⟨ok.asc.nodup, ok.len⟩, ?_⟩
  simp
  refine ⟨nr, L, rfl, ?_⟩
  simp
  refine FR_inv (fun i G => ∃ t3 t4 t5, G = [.sh (dLand cW cL nr L), .sh (dTab L), .ow (dBs ((L.bs.take i).filterMap (slf L))), t3, t4, t5]) ⟨_, _, _, rfl⟩ ?_ ?_
  · rintro i b _ hb ⟨t3, t4, t5, rfl⟩
    obtain ⟨_, b1, b2, _⟩ := ok.bm b (List.mem_of_getElem? hb)
    have hl := @fm_len _ _ (slf L) L.bs i
    have hl2 := ok.bl
    simp [wb_slanted_bonds_1, dg_Tab _ b1, dg_Tab _ b2]
    have ft := fm_take (f := slf L) hb
    split
    · rename_i e
      refine ⟨by omega, ?_⟩
      rw [ft, slf, if_pos e]
      simp [dBs, dBd]
    · rename_i e
      split
      · rename_i e2
        refine ⟨by omega, ?_⟩
        rw [ft, slf, if_neg e, if_pos e2]
        simp [dBs, dBd]
      · rename_i e2
        rw [ft, slf, if_neg e, if_neg e2]
        simp
  · rintro _ ⟨t3, t4, t5, rfl⟩
    simp
    exact h
theorem slant_sub {L : Ld} (ok : LdOk L) {b : Bd} (m : b ∈ slant L) : b.2.1 ∈ L.ps ∧ b.2.2 ∈ L.ps := by
  rw [slant_eq, List.mem_filterMap] at m
  obtain ⟨c, mc, e⟩ := m
  have := ok.bm c mc
  unfold slf at e
  split at e
  · have e := Option.some.inj e; subst e; exact ⟨this.2.1, this.2.2.1⟩
  · split at e
    · have e := Option.some.inj e; subst e; exact ⟨this.2.2.1, this.2.1⟩
    · cases e
theorem slant_len {L : Ld} : (slant L).length ≤ L.bs.length := List.length_filterMap_le _ _
def c_broken_rows : OC := fun as R => ∃ bs s g, as = [.sh (dBs bs), .sh (dTab s), .sh (dTab g)] ∧ ((∀ b ∈ bs, b.2.1 ∈ s.ps ∧ b.2.2 ∈ s.ps ∧ b.2.1 ∈ g.ps ∧ b.2.2 ∈ g.ps) ∧ bs.length ≤ 16) ∧ R (dBs (bs.filter (brkT s g)))
theorem r_broken_rows : ∀ as R, c_broken_rows as R → ws_broken_rows cW cL cP (gaOf N_broken_rows.length as) (poF R) := by
  rintro _ R ⟨bs, s, g, rfl, ⟨hm, hl⟩, h⟩
  simp [ws_broken_rows]
  refine LC_filter (brkT s g) (by omega) (fun b m K hK => ?_) h
  obtain ⟨h1, h2, h3, h4⟩ := hm b m
  simp [wt_broken_rows_1, we_broken_rows_2, dg_Tab _ h1, dg_Tab _ h2, dg_Tab _ h3, dg_Tab _ h4]
  unfold brkT at hK
  split
  · rename_i e
    rw [if_pos (by simpa using Or.inl e)] at hK
    exact hK
  · rename_i e
    split
    · rename_i e2
      rw [if_pos (by simpa using Or.inr e2)] at hK
      exact hK
    · rename_i e2
      rw [if_neg (by simp; omega)] at hK
      exact hK
def c_dry_rows : OC := fun as R => ∃ Fs s g, as = [.sh (dFl Fs), .sh (dTab s), .sh (dTab g)] ∧ ((∀ F ∈ Fs, F.length ≤ 10 ∧ ∀ p ∈ F, p ∈ s.ps ∧ p ∈ g.ps) ∧ Fs.length ≤ 10) ∧ R (dFl (Fs.filter fun F => F.all fun p => s.h p != g.h p))
theorem all_id {α : Type} (f : α → Bool) (xs : List α) : ((xs.map f).all id) = xs.all f := by rw [List.all_map]; rfl
theorem any_id {α : Type} (f : α → Bool) (xs : List α) : ((xs.map f).any id) = xs.any f := by rw [List.any_map]; rfl
theorem r_dry_rows : ∀ as R, c_dry_rows as R → ws_dry_rows cW cL cP (gaOf N_dry_rows.length as) (poF R) := by
  rintro _ R ⟨Fs, s, g, rfl, ⟨hm, hl⟩, h⟩
  simp [ws_dry_rows]
  have h' : R (.lst ((Fs.filter fun F => F.all fun p => s.h p != g.h p).map dS)) := h
  refine LC_filter (fun F => F.all fun p => s.h p != g.h p) (by omega) (fun F m K hK => ?_) h'
  obtain ⟨h1, h2⟩ := hm F m
  simp [wt_dry_rows_3]
  refine LC_map (fun p => .bl (!decide (s.h p = g.h p))) (by omega) (fun p mp K hK => ?_) ?_
  · obtain ⟨q1, q2⟩ := h2 p mp
    simp [wt_dry_rows_1, we_dry_rows_2, dg_Tab _ q1, dg_Tab _ q2]
    try exact hK
  · rw [bools_l, all_id]
    have e : (F.all fun p => !decide (s.h p = g.h p)) = F.all fun p => s.h p != g.h p := by
      refine congrArg (fun f => F.all f) ?_
      funext p
      rw [bne, bq]
    rw [e]
    clear e
    generalize (F.all fun p => s.h p != g.h p) = c at hK ⊢
    cases c <;> simp [we_dry_rows_4] at hK ⊢ <;> exact hK
def c_springs (cW cL : Addr) : OC := fun as R => ∃ nr nr' s g, as = [.sh (dLand cW cL nr s), .sh (dLand cW cL nr' g)] ∧ Sm s g ∧ R (dS (g.ps.filter fun p => decide (s.h p = g.h p)))
theorem r_springs : ∀ as R, c_springs cW cL as R → ws_springs cW cL cP (c_need_same_web cW cL) (c_LA_table cW cL) (gaOf N_springs.length as) (poF R) := by
  rintro _ R ⟨nr, nr', s, g, rfl, sm, h⟩
  have l := sm.g.len
  simp [ws_springs]
  refine ⟨nr, nr', s, g, rfl, ⟨sm.ps, sm.bs⟩, ?_⟩
  refine ⟨nr, s, rfl, ⟨sm.s.asc.nodup, sm.s.len⟩, ?_⟩
  simp
  refine ⟨nr', g, rfl, ⟨sm.g.asc.nodup, sm.g.len⟩, ?_⟩
  simp
  refine LC_filter (fun p => decide (s.h p = g.h p)) (by omega) (fun p m K hK => ?_) h
  simp [wt_springs_1, we_springs_2, dg_Tab _ (show p ∈ s.ps by rw [sm.ps]; exact m), dg_Tab _ m]
  split <;> simp_all
def c_dry_flats (cW cL : Addr) : OC := fun as R => ∃ nr nr' s g, as = [.sh (dLand cW cL nr s), .sh (dLand cW cL nr' g)] ∧ Sm s g ∧ R (dFl (dry s g))
theorem r_dry_flats : ∀ as R, c_dry_flats cW cL as R → ws_dry_flats cW cL cP (c_need_same_web cW cL) c_dry_rows (c_flats_of cW cL) (c_LA_table cW cL) (gaOf N_dry_flats.length as) (poF R) := by
  rintro _ R ⟨nr, nr', s, g, rfl, sm, h⟩
  have l := sm.g.len
  simp [ws_dry_flats]
  refine ⟨nr, nr', s, g, rfl, ⟨sm.ps, sm.bs⟩, ?_⟩
  refine ⟨nr', g, rfl, sm.g, ?_⟩
  refine ⟨nr, s, rfl, ⟨sm.s.asc.nodup, sm.s.len⟩, ?_⟩
  refine ⟨nr', g, rfl, ⟨sm.g.asc.nodup, sm.g.len⟩, ?_⟩
  refine ⟨flats g, s, g, rfl, ⟨fun F m => ⟨?_, fun p mp => ?_⟩, ?_⟩, h⟩
  · obtain ⟨p, _, rfl, _⟩ := mem_flats m
    have := @flat_len g p
    omega
  · have := flats_sub m p mp
    exact ⟨by rw [sm.ps]; exact this, this⟩
  · have := @flats_len g
    omega
def c_broken_bonds (cW cL : Addr) : OC := fun as R => ∃ nr nr' s g, as = [.sh (dLand cW cL nr s), .sh (dLand cW cL nr' g)] ∧ Sm s g ∧ R (dBs (brk s g))
theorem r_broken_bonds : ∀ as R, c_broken_bonds cW cL as R → ws_broken_bonds cW cL cP (c_need_same_web cW cL) c_broken_rows (c_slanted cW cL) (c_LA_table cW cL) (gaOf N_broken_bonds.length as) (poF R) := by
  rintro _ R ⟨nr, nr', s, g, rfl, sm, h⟩
  simp [ws_broken_bonds]
  refine ⟨nr, nr', s, g, rfl, ⟨sm.ps, sm.bs⟩, ?_⟩
  refine ⟨nr', g, rfl, sm.g, ?_⟩
  refine ⟨nr, s, rfl, ⟨sm.s.asc.nodup, sm.s.len⟩, ?_⟩
  refine ⟨nr', g, rfl, ⟨sm.g.asc.nodup, sm.g.len⟩, ?_⟩
  refine ⟨slant g, s, g, rfl, ⟨fun b m => ?_, ?_⟩, h⟩
  · have := slant_sub sm.g m
    rw [sm.ps]
    exact ⟨this.1, this.2, this⟩
  · have := @slant_len g
    have := sm.g.bl
    omega
noncomputable def okS (s g : Ld) : Bool := (brk s g).isEmpty && (dry s g).isEmpty
def c_comes (cW cL : Addr) : OC := fun as R => ∃ nr nr' s g, as = [.sh (dLand cW cL nr s), .sh (dLand cW cL nr' g)] ∧ Sm s g ∧ R (.bl (okS s g))
theorem r_comes : ∀ as R, c_comes cW cL as R → ws_comes cW cL cP (c_broken_bonds cW cL) (c_dry_flats cW cL) (gaOf N_comes.length as) (poF R) := by
  rintro _ R ⟨nr, nr', s, g, rfl, sm, h⟩
  simp [ws_comes]
  refine ⟨nr, nr', s, g, rfl, sm, ?_⟩
  simp
  unfold okS at h
  split
  · rename_i e
    refine ⟨nr, nr', s, g, rfl, sm, ?_⟩
    simpa [e] using h
  · rename_i e
    have e' : (brk s g).isEmpty = false := by cases q : brk s g with | nil => exact absurd q e | cons => rfl
    rw [e'] at h
    exact h
def dPB (s g : Ld) (b : Bd) : D := .tup [.str "bond", .str b.1, .str b.2.1, .str b.2.2, .tup [.int (s.h b.2.1), .int (s.h b.2.2), .int (g.h b.2.1), .int (g.h b.2.2)]]
def dPF (F : List Str) : D := .tup [.str "flat", dT F]
noncomputable def papers (s g : Ld) : List D := (brk s g).map (dPB s g) ++ (dry s g).map dPF
def c_bond_paper (cW cL : Addr) : OC := fun as R => ∃ nr nr' s g b, as = [.sh (dLand cW cL nr s), .sh (dLand cW cL nr' g), .sh (dBd b)] ∧ (b.2.1 ∈ s.ps ∧ b.2.2 ∈ s.ps ∧ b.2.1 ∈ g.ps ∧ b.2.2 ∈ g.ps) ∧ R (dPB s g b)
theorem r_bond_paper : ∀ as R, c_bond_paper cW cL as R → ws_bond_paper cW cL cP (c_LA_getitem cW cL) (gaOf N_bond_paper.length as) (poF R) := by
  rintro _ R ⟨nr, nr', s, g, b, rfl, ⟨h1, h2, h3, h4⟩, h⟩
  simp [ws_bond_paper]
  refine ⟨nr, s, _, rfl, h1, nr, s, _, rfl, h2, nr', g, _, rfl, h3, nr', g, _, rfl, h4, ?_⟩
  simp
  exact h
theorem brk_sub {s g : Ld} (ok : LdOk g) {b : Bd} (m : b ∈ brk s g) : b.2.1 ∈ g.ps ∧ b.2.2 ∈ g.ps := slant_sub ok (List.mem_filter.mp m).1
def c_never_paper (cW cL : Addr) : OC := fun as R => ∃ nr nr' s g, as = [.sh (dLand cW cL nr s), .sh (dLand cW cL nr' g)] ∧ Sm s g ∧ R ((papers s g).headD .non)
theorem r_never_paper : ∀ as R, c_never_paper cW cL as R → ws_never_paper cW cL cP (c_broken_bonds cW cL) (c_bond_paper cW cL) (c_dry_flats cW cL) (gaOf N_never_paper.length as) (poF R) := by
  rintro _ R ⟨nr, nr', s, g, rfl, sm, h⟩
  simp [ws_never_paper]
  refine ⟨nr, nr', s, g, rfl, sm, ?_⟩
  unfold papers at h
  cases e : brk s g with
  | cons b r =>
    rw [e] at h
    have := brk_sub sm.g (show b ∈ brk s g by rw [e]; exact .head _)
    simp
    rw [ix_B _ _ (x := b) (by simp)]
    exact ⟨nr, nr', s, g, b, rfl, ⟨by rw [sm.ps]; exact this.1, by rw [sm.ps]; exact this.2, this⟩, h⟩
  | nil =>
    rw [e] at h
    simp
    refine ⟨nr, nr', s, g, rfl, sm, ?_⟩
    cases e2 : dry s g with
    | nil =>
      rw [e2] at h
      simp
      exact h
    | cons F r =>
      rw [e2] at h
      simp [dFl]
      exact h
end VL
/-! text Rg -/
/-! Rg: pieces, gluing. -/
namespace VL
open PySem PySem.Spec PyProof.Rows L2
variable {cW cL cP : Addr}
structure PcOk (L : Ld) (B : List Str) : Prop where
  ok : LdOk L
  asc : Asc B
  ne : B ≠ []
  len : B.length ≤ 3
  sub : ∀ p ∈ B, p ∈ L.ps
  pl : L.ps.length ≤ 6
  bl : L.bs.length ≤ 8
theorem filter_len {α : Type} (p : α → Bool) : ∀ xs : List α, (xs.filter p).length + (xs.filter fun x => !p x).length = xs.length
  | [] => rfl
  | x :: xs => by
    have := filter_len p xs
    rw [List.filter_cons, List.filter_cons]
    cases p x <;> simp <;> omega
theorem inner_len {L : Ld} {B : List Str} (n : L.ps.Nodup) (m : B.Nodup) (h : ∀ p ∈ B, p ∈ L.ps) : (inner L B).length + B.length = L.ps.length := by
  have e1 : (L.ps.filter fun p => decide (p ∈ B)).length = B.length := by
    refine Nat.le_antisymm (len_sub (List.Pairwise.filter _ n) fun q mq => by simpa using (List.mem_filter.mp mq).2) (len_sub m fun q mq => List.mem_filter.mpr ⟨h q mq, by simpa using mq⟩)
  have := filter_len (fun p => decide (p ∈ B)) L.ps
  rw [e1] at this
  unfold inner
  omega
theorem inner_mem {L : Ld} {B : List Str} {p : Str} : p ∈ inner L B ↔ p ∈ L.ps ∧ p ∉ B := by
  unfold inner
  rw [List.mem_filter]
  simp
theorem fld_ob3 (a b c : D) (R : D → Prop) : fldD cP "own_border" (.obj cP ["land", "own_border", "own_inner"] [a, b, c]) R = R b := fldD_of _ (by rw [dget_tl (by decide +kernel), dget_hd])
def ci_P (cW cL : Addr) : OCi := fun as R => ∃ nr L B bs, as = [dLand cW cL nr L, dS bs] ∧ (PcOk L B ∧ bs.Perm B) ∧ R ["land", "own_border", "own_inner", "own_row"] [dLand cW cL nr L, dS B, dS (inner L B), dIl (B.map L.h)]
theorem r_P_init : ∀ as R, ci_P cW cL as R → ws_P___init__ cW cL cP (c_LA_len cW cL) (c_W_bonds cW) (c_LA_contains cW cL) (c_W_places cW) (c_LA_getitem cW cL) (gaOf N_P___init__.length (.ow (.obj cP [] []) :: as.map .sh)) (poI cP R) := by
  rintro _ R ⟨nr, L, B, bs, rfl, ⟨ok, pm⟩, h⟩
  have l6 := ok.pl
  have l8 := ok.bl
  have l3 := ok.len
  have lb := pm.length_eq
  have bn : bs.Nodup := pm.nodup_iff.mpr ok.asc.nodup
  have l0 : 0 < bs.length := by rw [lb]; exact List.length_pos_iff.mpr ok.ne
  simp [ws_P___init__]
  refine ⟨nr, L, rfl, ?_⟩
  have q1 : (L.ps.length : Int) ≤ 6 := by omega
  simp [q1]
  refine ⟨by omega, nr, L, rfl, ?_⟩
  have q2 : (L.bs.length : Int) ≤ 8 := by omega
  have q3 : (bs.length : Int) ≤ 3 := by omega
  have q4 : (1 : Int) ≤ bs.length := by omega
  simp [q2, q3, q4]
  refine FR_inv (fun i G => ∃ t4, G = [.ow (.obj cP [] []), .sh (dLand cW cL nr L), .sh (dS bs), .ow (.dic (bs.take i) ((bs.take i).map fun _ => .bl true)), t4]) ⟨_, rfl⟩ ?_ ?_
  · rintro i p _ hp ⟨t4, rfl⟩
    have pm' := pm.mem_iff.mp (List.mem_of_getElem? hp)
    have nx := nodup_take bn hp
    simp [wb_P___init___1]
    refine ⟨nr, L, p, rfl, ?_⟩
    simp [ok.sub p pm', nx, dputK_new nx, dputV_new nx, take_succ hp, take_map hp]
    omega
  · rintro _ ⟨t4, rfl⟩
    simp
    refine sort_S _ _ bn (by omega) ?_
    have e : srt bs = B := srt_eq bn ok.asc fun x => pm.mem_iff
    rw [e]
    refine ⟨nr, L, rfl, ?_⟩
    simp
    refine LC_filter (fun p => !decide (p ∈ B)) (by omega) (fun p m K hK => ?_) ?_
    · simp [wt_P___init___2, we_P___init___3, pm.mem_iff]
      split <;> simp_all
    · simp [fld_ob3]
      refine LC_map (fun p => .int (L.h p)) (by omega) (fun p m K hK => ?_) ?_
      · simp [wt_P___init___4, we_P___init___5]
        exact ⟨nr, L, p, rfl, ok.sub p m, hK⟩
      · refine ⟨rfl, ?_⟩
        have e2 : D.lst (B.map fun p => D.int (L.h p)) = dIl (B.map L.h) := by unfold dIl; rw [List.map_map]; rfl
        rw [e2]
        exact h
def c_P_border (cW cL cP : Addr) : OC := fun as R => ∃ nr L B, as = [.bo (dPc cW cL cP nr L B)] ∧ R (dS B)
theorem r_P_border : ∀ as R, c_P_border cW cL cP as R → ws_P_border cW cL cP (gaOf N_P_border.length as) (poF R) := by
  rintro _ R ⟨nr, L, B, rfl, h⟩
  simp [ws_P_border, h]
def c_P_inner (cW cL cP : Addr) : OC := fun as R => ∃ nr L B, as = [.bo (dPc cW cL cP nr L B)] ∧ R (dS (inner L B))
theorem r_P_inner : ∀ as R, c_P_inner cW cL cP as R → ws_P_inner cW cL cP (gaOf N_P_inner.length as) (poF R) := by
  rintro _ R ⟨nr, L, B, rfl, h⟩
  simp [ws_P_inner, h]
/-- two pieces that can be glued -/
structure Gd (L1 L2 : Ld) (B : List Str) : Prop where
  p1 : PcOk L1 B
  p2 : PcOk L2 B
  iB : ∀ p, p ∈ B ↔ p ∈ L1.ps ∧ p ∈ L2.ps
  bn : ((L1.bs ++ L2.bs).map (·.1)).Nodup
  len : L1.ps.length + L2.ps.length ≤ 10 + B.length
  hB : ∀ p ∈ B, L1.h p = L2.h p
theorem Gd.symm {L1 L2 : Ld} {B : List Str} (g : Gd L1 L2 B) : Gd L2 L1 B := ⟨g.p2, g.p1, fun p => (g.iB p).trans and_comm, by
  have := g.bn
  rw [List.map_append] at this ⊢
  exact (List.perm_append_comm.nodup_iff).mp this, by have := g.len; omega, fun p m => (g.hB p m).symm⟩
def c_need_same_border (cW cL cP : Addr) : OC := fun as R => ∃ nr nr' L1 L2 B, as = [.sh (dPc cW cL cP nr L1 B), .sh (dPc cW cL cP nr' L2 B)] ∧ Gd L1 L2 B ∧ R .non
theorem r_need_same_border : ∀ as R, c_need_same_border cW cL cP as R → ws_need_same_border cW cL cP (c_P_border cW cL cP) (c_LA_getitem cW cL) (gaOf N_need_same_border.length as) (poF R) := by
  rintro _ R ⟨nr, nr', L1, L2, B, rfl, g, h⟩
  simp [ws_need_same_border]
  refine ⟨nr, L1, B, rfl, nr', L2, B, rfl, ?_⟩
  simp
  refine ⟨nr, L1, B, rfl, ?_⟩
  simp
  refine FR_inv (fun i G => ∃ t, G = [.sh (dPc cW cL cP nr L1 B), .sh (dPc cW cL cP nr' L2 B), t]) ⟨_, rfl⟩ ?_ ?_
  · rintro i p _ hp ⟨t, rfl⟩
    have pm := List.mem_of_getElem? hp
    simp [wb_need_same_border_1]
    refine ⟨nr, L1, p, rfl, g.p1.sub p pm, nr', L2, p, rfl, g.p2.sub p pm, ?_⟩
    simp [g.hB p pm]
  · rintro _ ⟨t, rfl⟩
    exact h
def c_need_gluable (cW cL cP : Addr) : OC := fun as R => ∃ nr nr' L1 L2 B, as = [.sh (dPc cW cL cP nr L1 B), .sh (dPc cW cL cP nr' L2 B)] ∧ Gd L1 L2 B ∧ R .non
theorem r_need_gluable : ∀ as R, c_need_gluable cW cL cP as R → ws_need_gluable cW cL cP (c_need_same_border cW cL cP) (c_P_inner cW cL cP) (c_LA_contains cW cL) (c_W_bonds cW) (c_LA_len cW cL) (gaOf N_need_gluable.length as) (poF R) := by
  rintro _ R ⟨nr, nr', L1, L2, B, rfl, g, h⟩
  have l8 := g.p1.bl
  simp [ws_need_gluable]
  refine ⟨nr, nr', L1, L2, B, rfl, g, nr', L2, B, rfl, ?_⟩
  simp
  refine FR_inv (fun i G => ∃ t, G = [.sh (dPc cW cL cP nr L1 B), .sh (dPc cW cL cP nr' L2 B), t, .no, .no, .no]) ⟨_, rfl⟩ ?_ ?_
  · rintro i p _ hp ⟨t, rfl⟩
    have pm := inner_mem.mp (List.mem_of_getElem? hp)
    have np : p ∉ L1.ps := fun q => pm.2 ((g.iB p).mpr ⟨q, pm.1⟩)
    simp [wb_need_gluable_1]
    refine ⟨nr, L1, p, rfl, ?_⟩
    simp [np]
  · rintro _ ⟨t, rfl⟩
    simp
    refine ⟨nr, L1, rfl, ?_⟩
    simp
    refine LC_map (fun b => .str b.1) (by omega) (fun b m K hK => ?_) ?_
    · simp [wt_need_gluable_2, we_need_gluable_3]
      exact hK
    · refine ⟨nr', L2, rfl, ?_⟩
      simp
      have e : D.lst (L1.bs.map fun b => D.str b.1) = dS (L1.bs.map (·.1)) := by unfold dS; rw [List.map_map]; rfl
      rw [e]
      refine FR_inv (fun i G => ∃ t t4, G = [.sh (dPc cW cL cP nr L1 B), .sh (dPc cW cL cP nr' L2 B), t, .sh (dS (L1.bs.map (·.1))), t4, .no]) ⟨_, _, rfl⟩ ?_ ?_
      · rintro i b _ hb ⟨t, t4, rfl⟩
        have pm := List.mem_of_getElem? hb
        have np : ∀ x y : Str, (b.1, x, y) ∉ L1.bs := fun x y q => by
          have := g.bn
          rw [List.map_append, List.nodup_append] at this
          exact this.2.2 b.1 (List.mem_map.mpr ⟨_, q, rfl⟩) b.1 (List.mem_map.mpr ⟨_, pm, rfl⟩) rfl
        simp [wb_need_gluable_4, np]
      · rintro _ ⟨t, t4, rfl⟩
        have il := inner_len g.p2.ok.asc.nodup g.p2.asc.nodup g.p2.sub
        have len := g.len
        have l6 := g.p1.pl
        simp
        refine ⟨nr, L1, rfl, ?_⟩
        simp
        refine ⟨by omega, nr', L2, B, rfl, ?_⟩
        have q : (L1.ps.length : Int) + ((inner L2 B).length : Nat) ≤ 10 := by omega
        simp [q, h]
end VL
/-! text Rh -/
/-! Rh: the glued land. -/
namespace VL
open PySem PySem.Spec PyProof.Rows L2
variable {cW cL cP : Addr}
def gl (L1 L2 : Ld) : Ld := ⟨srt (L1.ps ++ inner L2 L1.ps), srtB (L1.bs ++ L2.bs), fun p => if p ∈ L1.ps then L1.h p else L2.h p⟩
theorem gl_nodup {L1 L2 : Ld} (h1 : L1.ps.Nodup) (h2 : L2.ps.Nodup) : (L1.ps ++ inner L2 L1.ps).Nodup :=
  List.nodup_append.mpr ⟨h1, List.Pairwise.filter _ h2, fun a ha b hb e => (inner_mem.mp hb).2 (e ▸ ha)⟩
theorem gl_mem {L1 L2 : Ld} {p : Str} : p ∈ (gl L1 L2).ps ↔ p ∈ L1.ps ∨ p ∈ L2.ps := by
  show p ∈ srt _ ↔ _
  rw [srt_mem, List.mem_append, inner_mem]
  constructor
  · rintro (h | h)
    · exact .inl h
    · exact .inr h.1
  · rintro (h | h)
    · exact .inl h
    · by_cases q : p ∈ L1.ps
      · exact .inl q
      · exact .inr ⟨h, q⟩
theorem inner_eq {L1 L2 : Ld} {B : List Str} (g : Gd L1 L2 B) : inner L2 L1.ps = inner L2 B := by
  unfold inner
  apply List.filter_congr
  intro p m
  congr 1
  rw [decide_eq_decide, g.iB p]
  exact ⟨fun q => ⟨q, m⟩, fun q => q.1⟩
theorem Gd.ok {L1 L2 : Ld} {B : List Str} (g : Gd L1 L2 B) : LdOk (gl L1 L2) := by
  have n1 := g.p1.ok.asc.nodup
  have n2 := g.p2.ok.asc.nodup
  have bm : ∀ b ∈ (gl L1 L2).bs, b ∈ L1.bs ∨ b ∈ L2.bs := fun b m => List.mem_append.mp (srtB_mem.mp m)
  refine ⟨srt_asc (gl_nodup n1 n2), fun p m => ?_, fun e => ?_, ?_, fun p m => ?_, ?_, fun b m => ?_, ?_, srtB_idem _⟩
  · rcases gl_mem.mp m with m | m
    · exact g.p1.ok.nm p m
    · exact g.p2.ok.nm p m
  · obtain ⟨x, hx⟩ := List.exists_mem_of_ne_nil _ g.p1.ok.ne
    have : x ∈ (gl L1 L2).ps := gl_mem.mpr (.inl hx)
    rw [e] at this
    cases this
  · show (srt _).length ≤ 10
    rw [srt_len, List.length_append, inner_eq g]
    have := inner_len n2 g.p2.asc.nodup g.p2.sub
    have := g.len
    omega
  · show -9999 ≤ (if p ∈ L1.ps then L1.h p else L2.h p) ∧ (if p ∈ L1.ps then L1.h p else L2.h p) ≤ 9999
    split
    · rename_i q; exact g.p1.ok.hr p q
    · rename_i q; exact g.p2.ok.hr p ((gl_mem.mp m).resolve_left q)
  · exact ((srtB_perm _).map _).nodup_iff.mpr g.bn
  · rcases bm b m with m | m
    · obtain ⟨h1, h2, h3, h4⟩ := g.p1.ok.bm b m
      exact ⟨h1, gl_mem.mpr (.inl h2), gl_mem.mpr (.inl h3), h4⟩
    · obtain ⟨h1, h2, h3, h4⟩ := g.p2.ok.bm b m
      exact ⟨h1, gl_mem.mpr (.inr h2), gl_mem.mpr (.inr h3), h4⟩
  · show (srtB _).length ≤ 16
    rw [srtB_len, List.length_append]
    have := g.p1.bl
    have := g.p2.bl
    omega
theorem Gd.glu {L1 L2 : Ld} {B : List Str} (g : Gd L1 L2 B) : Glu L1 L2 (gl L1 L2) B := by
  refine ⟨fun p => gl_mem, fun b => srtB_mem.trans List.mem_append, fun p m => if_pos m, fun p m => ?_, fun b m => ⟨(g.p1.ok.bm b m).2.1, (g.p1.ok.bm b m).2.2.1⟩, fun b m => ⟨(g.p2.ok.bm b m).2.1, (g.p2.ok.bm b m).2.2.1⟩, g.iB⟩
  show (if p ∈ L1.ps then L1.h p else L2.h p) = L2.h p
  split
  · rename_i q; exact g.hB p ((g.iB p).mpr ⟨q, m⟩)
  · rfl
/-- the other order -/
theorem Gd.swap {L1 L2 : Ld} {B : List Str} (g : Gd L1 L2 B) : (gl L2 L1).ps = (gl L1 L2).ps ∧ (gl L2 L1).bs = (gl L1 L2).bs ∧ hsOf (gl L2 L1) = hsOf (gl L1 L2) := by
  have n1 := g.p1.ok.asc.nodup
  have n2 := g.p2.ok.asc.nodup
  have e1 : (gl L2 L1).ps = (gl L1 L2).ps := asc_ext (srt_asc (gl_nodup n2 n1)) (srt_asc (gl_nodup n1 n2)) fun p => gl_mem.trans (or_comm.trans gl_mem.symm)
  refine ⟨e1, srtB_congr List.perm_append_comm, ?_⟩
  unfold hsOf
  rw [e1]
  refine List.map_congr_left fun p m => ?_
  rcases gl_mem.mp m with q | q
  · rw [g.symm.glu.h2 p q, g.glu.h1 p q]
  · rw [g.symm.glu.h1 p q, g.glu.h2 p q]
/-! a dictionary takes in another -/
theorem dput_map {α : Type} {ks : List Str} {f : Str → α} {k : Str} {v : α} : dputV ks (ks.map f) k v = (dputK ks k).map fun p => if p = k then v else f p := by
  by_cases m : k ∈ ks
  · simp only [dputK, dputV, m, if_true]
    clear m
    induction ks with
    | nil => rfl
    | cons x xs ih =>
      simp only [List.map_cons, List.zip_cons_cons]
      rw [ih]
  · rw [dputK_new m, dputV_new m, List.map_append]
    congr 1
    · refine List.map_congr_left fun p q => ?_
      rw [if_neg (show ¬ p = k from fun e => m (e ▸ q))]
    · simp
theorem dmerge_map {α : Type} {g : Str → α} : ∀ (ls : List Str) (ks : List Str) (f : Str → α), ∃ K h, dmerge ks (ks.map f) ls (ls.map g) = (K, K.map h) ∧ (ks.Nodup → K.Nodup) ∧ (∀ p, p ∈ K ↔ p ∈ ks ∨ p ∈ ls) ∧ (∀ p, p ∈ ls → h p = g p) ∧ (∀ p, p ∉ ls → h p = f p)
  | [], ks, f => ⟨ks, f, by simp [dmerge], id, by simp, by simp, by simp⟩
  | l :: ls, ks, f => by
    obtain ⟨K, h, e, n, m, h1, h2⟩ := dmerge_map (g := g) ls (dputK ks l) fun p => if p = l then g l else f p
    have mk : ∀ p, p ∈ dputK ks l ↔ p ∈ ks ∨ p = l := fun p => by
      by_cases q : l ∈ ks
      · simp only [dputK, q, if_true]
        exact ⟨.inl, fun z => z.elim id fun z => z ▸ q⟩
      · rw [dputK_new q]; simp
    refine ⟨K, h, ?_, fun nk => n ?_, fun p => ?_, fun p q => ?_, fun p q => ?_⟩
    · rw [List.map_cons, dmerge, dput_map]
      exact e
    · by_cases q : l ∈ ks
      · simpa [dputK, q] using nk
      · rw [dputK_new q]
        exact List.nodup_append.mpr ⟨nk, by simp, fun a ha b hb e => q (by rw [← List.mem_singleton.mp hb, ← e]; exact ha)⟩
    · rw [m p, mk p, List.mem_cons, or_assoc]
    · by_cases z : p ∈ ls
      · exact h1 p z
      · have : p = l := (List.mem_cons.mp q).resolve_right z
        rw [h2 p z, if_pos this, this]
    · have q' : p ≠ l ∧ p ∉ ls := ⟨fun e => q (e ▸ .head _), fun z => q (.tail _ z)⟩
      rw [h2 p q'.2, if_neg q'.1]
def c_lob (cW cL : Addr) : OC := fun as R => ∃ nr nr' L1 L2 B, as = [.sh (dLand cW cL nr L1), .sh (dLand cW cL nr' L2)] ∧ Gd L1 L2 B ∧ ∀ nr, R (dLand cW cL nr (gl L1 L2))
theorem tab_map (L : Ld) : (hsOf L).map D.int = L.ps.map fun p => D.int (L.h p) := by unfold hsOf; rw [List.map_map]; rfl
theorem r_lob : ∀ as R, c_lob cW cL as R → ws_land_of_both cW cL cP (c_LA_table cW cL) ci_W (c_W_bonds cW) (ci_LA cW) (c_W_places cW) (gaOf N_land_of_both.length as) (poF R) := by
  rintro _ R ⟨nr, nr', L1, L2, B, rfl, g, h⟩
  have l1 := g.p1.pl
  have l2 := g.p2.pl
  have b1 := g.p1.bl
  have b2 := g.p2.bl
  obtain ⟨K, f, e, n, m, h1, h2⟩ := dmerge_map (g := fun p => D.int (L2.h p)) L2.ps L1.ps fun p => D.int (L1.h p)
  have nK := n g.p1.ok.asc.nodup
  simp [ws_land_of_both]
  refine ⟨nr, L1, rfl, ⟨g.p1.ok.asc.nodup, g.p1.ok.len⟩, ?_⟩
  simp
  refine ⟨nr', L2, rfl, ⟨g.p2.ok.asc.nodup, g.p2.ok.len⟩, ?_⟩
  simp [hs_len]
  refine ⟨by omega, ?_⟩
  have e' := e
  rw [← tab_map, ← tab_map] at e'
  rw [e']
  have ek : srt K = (gl L1 L2).ps := srt_eq nK g.ok.asc fun x => (m x).trans gl_mem.symm
  have lk : K.length < 64 := by
    have := g.ok.len
    rw [← ek, srt_len] at this
    omega
  refine sort_K _ _ nK lk ?_
  rw [ek]
  refine ⟨nr, L1, rfl, nr', L2, rfl, ?_⟩
  simp
  refine ⟨by omega, gl L1 L2, L1.bs ++ L2.bs, rfl, ⟨g.ok, (srtB_perm _).symm⟩, fun nr'' => ?_⟩
  show metD cW "places" (c_W_places cW) (dWeb cW nr'' (gl L1 L2)) _
  rw [met_places]
  refine ⟨nr'', gl L1 L2, rfl, ?_⟩
  simp
  have l10 := g.ok.len
  refine LC_map (fun p => f p) (by omega) (fun p mp K' hK => ?_) ?_
  · simp [wt_land_of_both_1, we_land_of_both_2]
    rw [dg_map _ ((m p).mpr (gl_mem.mp mp))]
    exact hK
  · have eh : (gl L1 L2).ps.map f = (hsOf (gl L1 L2)).map D.int := by
      rw [tab_map]
      refine List.map_congr_left fun p mp => ?_
      by_cases q : p ∈ L2.ps
      · rw [h1 p q, g.glu.h2 p q]
      · rw [h2 p q, g.glu.h1 p ((gl_mem.mp mp).resolve_right q)]
    show ci_LA cW [dWeb cW nr'' (gl L1 L2), .lst ((gl L1 L2).ps.map f)] _
    rw [eh]
    exact ⟨nr'', gl L1 L2, rfl, g.ok, h nr''⟩
def c_glue (cW cL cP : Addr) : OC := fun as R => ∃ nr nr' L1 L2 B, as = [.sh (dPc cW cL cP nr L1 B), .sh (dPc cW cL cP nr' L2 B)] ∧ Gd L1 L2 B ∧ ∀ nr, R (dLand cW cL nr (gl L1 L2))
theorem r_glue : ∀ as R, c_glue cW cL cP as R → ws_glue cW cL cP (c_need_gluable cW cL cP) (c_lob cW cL) (gaOf N_glue.length as) (poF R) := by
  rintro _ R ⟨nr, nr', L1, L2, B, rfl, g, h⟩
  simp [ws_glue]
  exact ⟨nr, nr', L1, L2, B, rfl, g, nr, nr', L1, L2, B, rfl, g, h⟩
/-- goals for two pieces -/
structure Gg (L1 L2 G1 G2 : Ld) (B : List Str) : Prop where
  l : Gd L1 L2 B
  g : Gd G1 G2 B
  p1 : L1.ps = G1.ps
  p2 : L2.ps = G2.ps
  b1 : L1.bs = G1.bs
  b2 : L2.bs = G2.bs
theorem Gg.symm {L1 L2 G1 G2 : Ld} {B : List Str} (h : Gg L1 L2 G1 G2 B) : Gg L2 L1 G2 G1 B := ⟨h.l.symm, h.g.symm, h.p2, h.p1, h.b2, h.b1⟩
theorem Gg.sm1 {L1 L2 G1 G2 : Ld} {B : List Str} (h : Gg L1 L2 G1 G2 B) : Sm L1 G1 := ⟨h.p1, h.b1, h.l.p1.ok, h.g.p1.ok⟩
theorem Gg.sm {L1 L2 G1 G2 : Ld} {B : List Str} (h : Gg L1 L2 G1 G2 B) : Sm (gl L1 L2) (gl G1 G2) := ⟨by
  show srt (L1.ps ++ inner L2 L1.ps) = srt (G1.ps ++ inner G2 G1.ps)
  unfold inner
  rw [h.p1, h.p2], by
  show srtB _ = srtB _
  rw [h.b1, h.b2], h.l.ok, h.g.ok⟩
theorem Gg.both {L1 L2 G1 G2 : Ld} {B : List Str} (h : Gg L1 L2 G1 G2 B) : Both L1 L2 (gl L1 L2) G1 G2 (gl G1 G2) B := ⟨h.l.glu, h.g.glu, h.p1.symm, h.p2.symm⟩
def c_united (cW cL cP : Addr) : OC := fun as R => ∃ nr nr' ng ng' L1 L2 G1 G2 B, as = [.sh (dPc cW cL cP nr L1 B), .sh (dPc cW cL cP nr' L2 B), .sh (dLand cW cL ng G1), .sh (dLand cW cL ng' G2)] ∧ Gg L1 L2 G1 G2 B ∧ ∀ nr, R (dLand cW cL nr (gl G1 G2))
theorem r_united : ∀ as R, c_united cW cL cP as R → ws_united cW cL cP (c_need_gluable cW cL cP) (c_W_eq cW) (c_P_border cW cL cP) (c_LA_getitem cW cL) (c_lob cW cL) (gaOf N_united.length as) (poF R) := by
  rintro _ R ⟨nr, nr', ng, ng', L1, L2, G1, G2, B, rfl, g, h⟩
  simp [ws_united]
  refine ⟨nr, nr', L1, L2, B, rfl, g.l, ?_⟩
  refine ⟨ng, nr, G1, L1, rfl, ⟨g.p1.symm, g.b1.symm⟩, ?_⟩
  simp
  refine ⟨ng', nr', G2, L2, rfl, ⟨g.p2.symm, g.b2.symm⟩, ?_⟩
  simp
  refine ⟨nr, L1, B, rfl, ?_⟩
  simp
  refine FR_inv (fun i G => ∃ t, G = [.sh (dPc cW cL cP nr L1 B), .sh (dPc cW cL cP nr' L2 B), .sh (dLand cW cL ng G1), .sh (dLand cW cL ng' G2), t]) ⟨_, rfl⟩ ?_ ?_
  · rintro i p _ hp ⟨t, rfl⟩
    have pm := List.mem_of_getElem? hp
    simp [wb_united_1]
    refine ⟨ng, G1, p, rfl, g.g.p1.sub p pm, ng', G2, p, rfl, g.g.p2.sub p pm, ?_⟩
    simp [g.g.hB p pm]
  · rintro _ ⟨t, rfl⟩
    exact ⟨ng, ng', G1, G2, B, rfl, g.g, h⟩
end VL
/-! text Ri -/
/-! Ri: shows, fits. -/
namespace VL
open PySem PySem.Spec PyProof.Rows L2
variable {cW cL cP : Addr}
/-- a flat that touches the border or has a spring -/
def flOk (s g : Ld) (B F : List Str) : Bool := !(F.filter fun p => decide (p ∈ B)).isEmpty || F.any fun p => decide (s.h p = g.h p)
noncomputable def shOk (s g : Ld) (B : List Str) : Bool := (brk s g).isEmpty && (flats g).all (flOk s g B)
noncomputable def showD (s g : Ld) (B : List Str) : D := if shOk s g B = true then dShow (B.map g.h) (srtK (blks s g B)) else .non
theorem shOk_iff {s g : Ld} {B : List Str} : shOk s g B = true ↔ Sh s g B := by
  unfold shOk Sh
  rw [Bool.and_eq_true, List.isEmpty_iff, List.all_eq_true]
  refine and_congr Iff.rfl (forall_congr' fun F => forall_congr' fun _ => ?_)
  unfold flOk Wet
  rw [Bool.or_eq_true, List.any_eq_true]
  constructor
  · rintro (h | ⟨p, m, e⟩) n
    · rw [n] at h; cases h
    · exact ⟨p, m, by simpa using e⟩
  · intro h
    by_cases n : (F.filter fun p => decide (p ∈ B)) = []
    · obtain ⟨p, m, e⟩ := h n
      exact .inr ⟨p, m, by simpa using e⟩
    · refine .inl ?_
      cases q : (F.filter fun p => decide (p ∈ B)) with
      | nil => exact absurd q n
      | cons => rfl
/-- a border for a show -/
structure Bo (L : Ld) (B : List Str) : Prop where
  ne : B ≠ []
  len : B.length ≤ 3
  sub : ∀ p ∈ B, p ∈ L.ps
theorem blks_len {s g : Ld} {B : List Str} : (blks s g B).length ≤ g.ps.length := Nat.le_trans (List.length_filterMap_le _ _) flats_len
theorem blks_ne {s g : Ld} {B : List Str} (b : Bo g B) : blks s g B ≠ [] := fun e => by
  obtain ⟨x, hx⟩ := List.exists_mem_of_ne_nil _ b.ne
  obtain ⟨c, mc, _⟩ := blk_of (s := s) (g := g) (b.sub x hx) (flat_self (b.sub x hx)) hx
  rw [e] at mc
  cases mc
theorem blks_item {s g : Ld} {B : List Str} {c : Bk} (m : c ∈ blks s g B) : c.1.length ≤ g.ps.length := by
  obtain ⟨F, mF, _, rfl⟩ := mem_blks.mp m
  obtain ⟨p, _, rfl, _⟩ := mem_flats mF
  exact Nat.le_trans (List.length_filter_le _ _) flat_len
def c_show_of (cW cL cP : Addr) : OC := fun as R => ∃ nr nr' L G B, as = [.sh (dPc cW cL cP nr L B), .sh (dLand cW cL nr' G)] ∧ (Sm L G ∧ Bo G B) ∧ R (showD L G B)
theorem r_show_of : ∀ as R, c_show_of cW cL cP as R → ws_show_of cW cL cP (c_W_eq cW) (c_broken_bonds cW cL) (c_P_border cW cL cP) (c_springs cW cL) (c_flats_of cW cL) (c_LA_getitem cW cL) (gaOf N_show_of.length as) (poF R) := by
  rintro _ R ⟨nr, nr', L, G, B, rfl, ⟨sm, bo⟩, h⟩
  have l10 := sm.g.len
  have fl := @flats_len G
  have l3 := bo.len
  unfold showD shOk at h
  simp [ws_show_of]
  refine ⟨nr', nr, G, L, rfl, ⟨sm.ps.symm, sm.bs.symm⟩, ?_⟩
  simp
  refine ⟨nr, nr', L, G, rfl, sm, ?_⟩
  simp
  split
  · rename_i e
    have e' : (brk L G).isEmpty = false := by cases q : brk L G with | nil => rw [q] at e; simp at e | cons => rfl
    rw [e'] at h
    exact h
  · rename_i e
    have e' : (brk L G).isEmpty = true := by cases q : brk L G with | nil => rfl | cons => rw [q] at e; simp at e
    rw [e', Bool.true_and] at h
    refine ⟨nr, L, B, rfl, nr, nr', L, G, rfl, sm, nr', G, rfl, sm.g, ?_⟩
    simp
    refine FR_inv (fun i Ga => ∃ t5 t6 t7, Ga = [.sh (dPc cW cL cP nr L B), .sh (dLand cW cL nr' G), .sh (dS B), .sh (dS (G.ps.filter fun p => decide (L.h p = G.h p))), .ow (dBl (((flats G).take i).filterMap (blk L G B))), t5, t6, t7, .no] ∧ ∀ F ∈ (flats G).take i, flOk L G B F = true) ⟨_, _, _, rfl, by simp⟩ ?_ ?_
    · rintro i F _ hF ⟨t5, t6, t7, rfl, hk⟩
      have mF := List.mem_of_getElem? hF
      have lF : F.length ≤ 10 := by
        obtain ⟨p, _, rfl, _⟩ := mem_flats mF
        have := @flat_len G p
        omega
      have ft := fm_take (f := blk L G B) hF
      have fml := @fm_len _ _ (blk L G B) (flats G) i
      simp [wb_show_of_5]
      refine LC_map (fun p => .bl (decide (L.h p = G.h p))) (by omega) (fun p m K hK => ?_) ?_
      · have pm := flats_sub mF p m
        simp [wt_show_of_1, we_show_of_2, pm]
        exact hK
      · rw [bools_l, any_id]
        refine LC_filter (fun p => decide (p ∈ B)) (by omega) (fun p m K hK => ?_) ?_
        · simp [wt_show_of_3, we_show_of_4]
          split <;> simp_all
        · have eS : D.lst ((F.filter fun p => decide (p ∈ B)).map D.str) = dS (F.filter fun p => decide (p ∈ B)) := rfl
          rw [eS]
          have ok_step : flOk L G B F = true → ∀ F' ∈ (flats G).take (i + 1), flOk L G B F' = true := fun q F' m => by
            rw [take_succ hF] at m
            rcases List.mem_append.mp m with m | m
            · exact hk F' m
            · rw [List.mem_singleton.mp m]; exact q
          rw [tup_S]
          generalize eq : (F.filter fun p => decide (p ∈ B)) = pl at *
          have eb : blk L G B F = if pl = [] then none else some (pl, F.any fun p => decide (L.h p = G.h p)) := by unfold blk; rw [eq]
          have eo : flOk L G B F = (!pl.isEmpty || F.any fun p => decide (L.h p = G.h p)) := by unfold flOk; rw [eq]
          have eall : F ∈ flats G → flOk L G B F = false → ((flats G).all (flOk L G B)) = false := fun m q => by
            rw [List.all_eq_false]
            exact ⟨F, m, by simp [q]⟩
          generalize (F.any fun p => decide (L.h p = G.h p)) = sp at *
          cases pl with
          | cons x r =>
            have eo' : flOk L G B F = true := by rw [eo]; rfl
            simp [dBl]
            refine ⟨by omega, ?_, ok_step eo'⟩
            rw [ft, eb]
            simp [dBk]
          | nil =>
            cases sp with
            | true =>
              have eo' : flOk L G B F = true := by rw [eo]; rfl
              simp
              refine ⟨?_, ok_step eo'⟩
              rw [ft, eb]
              simp
            | false =>
              have eo' : flOk L G B F = false := by rw [eo]; rfl
              rw [eall mF eo'] at h
              simp
              simpa using h
    · rintro _ ⟨t5, t6, t7, rfl, hk⟩
      rw [List.take_length] at hk
      rw [List.all_eq_true.mpr hk] at h
      simp
      refine LC_map (fun p => .int (G.h p)) (by omega) (fun p m K hK => ?_) ?_
      · simp [wt_show_of_6, we_show_of_7]
        exact ⟨nr', G, p, rfl, bo.sub p m, hK⟩
      · have e2 : D.lst (B.map fun p => D.int (G.h p)) = dIl (B.map G.h) := by unfold dIl; rw [List.map_map]; rfl
        rw [e2]
        simp
        have := @blks_len L G B
        refine sort_K' _ (blks L G B) (by omega) ?_
        simp
        exact h
/-! fits -/
def dCl (c : Bk) : D := .tup [dS c.1, .bl c.2]
@[simp] theorem ix_Cl0 (c : Bk) (R : D → Prop) : oIx (dCl c) (.int 0) R = R (dS c.1) := ix_t0 _ _ _
@[simp] theorem ix_Cl1 (c : Bk) (R : D → Prop) : oIx (dCl c) (.int 1) R = R (.bl c.2) := ix_t1 _ _ _ _
abbrev St3 := List Str × Bool × List Bk
def fin1 (pl : List Str) (s : St3) (c : Bk) : St3 := if hits pl c = true then (s.1 ++ c.1, s.2.1 || c.2, s.2.2) else (s.1, s.2.1, s.2.2 ++ [c])
theorem fin1_all (pl : List Str) : ∀ (cl : List Bk) (j : List Str) (g : Bool) (a : List Bk), cl.foldl (fin1 pl) (j, g, a) = (j ++ (cl.filter (hits pl)).flatMap (·.1), g || (cl.filter (hits pl)).any (·.2), a ++ cl.filter fun c => !hits pl c)
  | [], j, g, a => by simp
  | c :: cl, j, g, a => by
    rw [List.foldl_cons, fin1]
    cases h : hits pl c with
    | true =>
      simp only [if_true]
      rw [fin1_all pl cl]
      simp [h, Bool.or_assoc]
    | false =>
      simp only [Bool.false_eq_true, if_false]
      rw [fin1_all pl cl]
      simp [h]
def wsum (cl : List Bk) : Nat := (cl.map (·.1.length)).sum
theorem fm_sum (cl : List Bk) : (cl.flatMap (·.1)).length = wsum cl := by
  unfold wsum
  rw [List.length_flatMap]
theorem wsum_filter (p : Bk → Bool) : ∀ cl : List Bk, wsum (cl.filter p) + wsum (cl.filter fun c => !p c) = wsum cl
  | [] => rfl
  | c :: cl => by
    have := wsum_filter p cl
    unfold wsum at this ⊢
    rw [List.filter_cons, List.filter_cons]
    cases p c <;> simp <;> omega
theorem wsum_fstep (cl : List Bk) (b : Bk) : wsum (fstep cl b) = wsum cl + b.1.length := by
  have h1 := wsum_filter (hits b.1) cl
  have h2 := fm_sum (cl.filter (hits b.1))
  unfold fstep
  have : wsum (cl.filter (fun c => !hits b.1 c) ++ [(b.1 ++ ((cl.filter (hits b.1)).flatMap (·.1)), b.2 || (cl.filter (hits b.1)).any (·.2))]) = wsum (cl.filter fun c => !hits b.1 c) + (b.1 ++ ((cl.filter (hits b.1)).flatMap (·.1))).length := by
    unfold wsum
    simp
  rw [this, List.length_append, h2]
  omega
theorem fstep_len (cl : List Bk) (b : Bk) : (fstep cl b).length ≤ cl.length + 1 := by
  unfold fstep
  rw [List.length_append]
  have := List.length_filter_le (fun c => !hits b.1 c) cl
  simp
  omega
theorem fold_bound : ∀ (bs cl : List Bk), (bs.foldl fstep cl).length ≤ cl.length + bs.length ∧ wsum (bs.foldl fstep cl) = wsum cl + wsum bs
  | [], cl => by simp [wsum]
  | b :: bs, cl => by
    obtain ⟨h1, h2⟩ := fold_bound bs (fstep cl b)
    have h3 := fstep_len cl b
    have h4 := wsum_fstep cl b
    have h5 : wsum (b :: bs) = b.1.length + wsum bs := by unfold wsum; simp
    rw [List.foldl_cons]
    refine ⟨by simp; omega, by omega⟩
theorem wsum_mem : ∀ {cl : List Bk} {c : Bk}, c ∈ cl → c.1.length ≤ wsum cl
  | d :: cl, c, m => by
    have h5 : wsum (d :: cl) = d.1.length + wsum cl := by unfold wsum; simp
    rcases List.mem_cons.mp m with e | m
    · subst e; omega
    · have := wsum_mem m
      omega
theorem wsum_take (cl : List Bk) (i : Nat) : wsum (cl.take i) ≤ wsum cl := by
  have : wsum (cl.take i ++ cl.drop i) = wsum (cl.take i) + wsum (cl.drop i) := by unfold wsum; rw [List.map_append, List.sum_append]
  rw [List.take_append_drop] at this
  omega
def c_fits : OC := fun as R => ∃ hs b1 b2, as = [.sh (dShow hs b1), .sh (dShow hs b2)] ∧ (b1 ≠ [] ∧ b2 ≠ [] ∧ b1.length + b2.length ≤ 50 ∧ wsum (b1 ++ b2) ≤ 500) ∧ R (.bl (((b1 ++ b2).foldl fstep []).all (·.2)))
theorem r_fits : ∀ as R, c_fits as R → ws_fits cW cL cP (gaOf N_fits.length as) (poF R) := by
  rintro _ R ⟨hs, b1, b2, rfl, ⟨n1, n2, hl, hw⟩, h⟩
  simp [ws_fits]
  refine ⟨⟨n1, n2, by omega⟩, ?_⟩
  rw [← List.map_append]
  refine FR_fold (fun (cl : List Bk) G => ∃ t3 t4 t5 t6 t7 t8, G = [.sh (dShow hs b1), .sh (dShow hs b2), .sh (.lst (cl.map dCl)), t3, t4, t5, t6, t7, t8, .no, .no]) fstep [] ⟨_, _, _, _, _, _, rfl⟩ ?_ ?_
  · rintro i b _ P' hb ⟨t3, t4, t5, t6, t7, t8, rfl⟩ hP hrt
    have fb := fold_bound ((b1 ++ b2).take i) []
    have bw := wsum_mem (List.mem_of_getElem? hb)
    have tw := wsum_take (b1 ++ b2) i
    have tl : ((b1 ++ b2).take i).length ≤ 50 := by rw [List.length_take, List.length_append]; omega
    have w0 : wsum [] = 0 := rfl
    generalize ((b1 ++ b2).take i).foldl fstep [] = cl at *
    have bcl : cl.length ≤ 50 := by have := fb.1; simp at this; omega
    have bws : wsum cl ≤ 500 := by have := fb.2; omega
    simp [wb_fits_4]
    refine FR_fold (fun (s : St3) G => ∃ t8, G = [.sh (dShow hs b1), .sh (dShow hs b2), .sh (.lst (cl.map dCl)), .sh (dT b.1), .sh (.bl b.2), .sh (dS s.1), .sh (.bl s.2.1), .ow (.lst (s.2.2.map dCl)), t8, .no, .no]) (fin1 b.1) (b.1, b.2, []) ⟨_, rfl⟩ ?_ ?_
    · rintro k c _ P2 hc ⟨t8, rfl⟩ hP2 hrt2
      have ck := wsum_mem (List.mem_of_getElem? hc)
      have kw := wsum_take cl k
      have sl1 : (((cl.take k).foldl (fin1 b.1) (b.1, b.2, [])).1).length ≤ 1000 := by
        rw [fin1_all]
        show (b.1 ++ _).length ≤ 1000
        rw [List.length_append, fm_sum]
        have := wsum_filter (hits b.1) (cl.take k)
        omega
      have sl2 : (((cl.take k).foldl (fin1 b.1) (b.1, b.2, [])).2.2).length ≤ 1000 := by
        rw [fin1_all]
        show ([] ++ _ : List Bk).length ≤ 1000
        rw [List.nil_append]
        refine Nat.le_trans (List.length_filter_le _ _) ?_
        rw [List.length_take]
        omega
      generalize (cl.take k).foldl (fin1 b.1) (b.1, b.2, []) = s at *
      obtain ⟨j, g, a⟩ := s
      simp [wb_fits_3]
      refine LC_map (fun p => .bl (decide (p ∈ b.1))) (by omega) (fun p m K hK => ?_) ?_
      · simp [wt_fits_1, we_fits_2]
        exact hK
      · rw [bools_l, any_id]
        have eh : (c.1.any fun p => decide (p ∈ b.1)) = hits b.1 c := rfl
        rw [eh]
        simp
        unfold fin1 at hP2
        cases hh : hits b.1 c with
        | true =>
          rw [hh] at hP2
          simp
          simp at sl1
          refine ⟨by omega, ?_⟩
          cases g with
          | true =>
            simp
            exact hP2 _ ⟨_, rfl⟩
          | false =>
            simp
            exact hP2 _ ⟨_, rfl⟩
        | false =>
          rw [hh] at hP2
          simp
          simp at sl2
          refine ⟨by omega, ?_⟩
          refine hP2 _ ⟨.sh (dCl c), ?_⟩
          simp
    · rintro _ ⟨t8, rfl⟩
      rw [fin1_all]
      have fl := List.length_filter_le (fun c => !hits b.1 c) cl
      simp
      refine ⟨by omega, ?_⟩
      have e : (List.map dCl (cl.filter fun c => !hits b.1 c) ++ [D.tup [dS (b.1 ++ (cl.filter (hits b.1)).flatMap (·.1)), .bl (b.2 || cl.any fun a => hits b.1 a && a.2)]]) = (fstep cl b).map dCl := by simp [fstep, dCl]
      rw [e]
      exact hP _ ⟨_, _, _, _, _, _, rfl⟩
  · rintro _ ⟨t3, t4, t5, t6, t7, t8, rfl⟩
    have fb := fold_bound (b1 ++ b2) []
    simp
    simp at fb
    rw [← List.foldl_append]
    refine LC_map (fun c => .bl c.2) (by simp; omega) (fun c m K hK => ?_) ?_
    · simp [wt_fits_5, we_fits_6]
      exact hK
    · rw [bools_l, all_id]
      exact h
end VL
/-! text Rj -/
/-! Rj: the law's own mirror. -/
namespace VL
open PySem PySem.Spec PyProof.Rows L2
variable {cW cL cP : Addr}
/-- plain data of at most this depth -/
def pln : Nat → D → Prop
  | _, .non => True
  | _, .bl _ => True
  | _, .int _ => True
  | _, .str _ => True
  | n + 1, .lst ds => ds.length ≤ 100 ∧ ∀ d ∈ ds, pln n d
  | n + 1, .tup ds => ds.length ≤ 100 ∧ ∀ d ∈ ds, pln n d
  | _, _ => False
def c_law_same (n : Nat) : OC := fun as R => ∃ d, as = [.sh d, .sh d] ∧ pln n d ∧ R (.bl true)
theorem pln_S {n : Nat} {xs : List Str} (h : xs.length ≤ 100) : pln (n + 1) (dS xs) := by
  refine ⟨by simpa using h, fun d m => ?_⟩
  obtain ⟨x, _, rfl⟩ := List.mem_map.mp m
  cases n <;> trivial
theorem pln_T {n : Nat} {xs : List Str} (h : xs.length ≤ 100) : pln (n + 1) (dT xs) := by
  refine ⟨by simpa using h, fun d m => ?_⟩
  obtain ⟨x, _, rfl⟩ := List.mem_map.mp m
  cases n <;> trivial
theorem pln_Il {n : Nat} {xs : List Int} (h : xs.length ≤ 100) : pln (n + 1) (dIl xs) := by
  refine ⟨by simpa using h, fun d m => ?_⟩
  obtain ⟨x, _, rfl⟩ := List.mem_map.mp m
  cases n <;> trivial
theorem pln_It {n : Nat} {xs : List Int} (h : xs.length ≤ 100) : pln (n + 1) (dIt xs) := by
  refine ⟨by simpa using h, fun d m => ?_⟩
  obtain ⟨x, _, rfl⟩ := List.mem_map.mp m
  cases n <;> trivial
theorem pln_Bs {n : Nat} {bs : List Bd} (h : bs.length ≤ 100) : pln (n + 2) (dBs bs) := by
  refine ⟨by simpa using h, fun d m => ?_⟩
  obtain ⟨x, _, rfl⟩ := List.mem_map.mp m
  refine ⟨by simp, fun d m => ?_⟩
  simp at m
  rcases m with rfl | rfl | rfl <;> cases n <;> trivial
theorem pln_LL {L : Ld} (ok : LdOk L) : pln 5 (dLL L) := by
  have := ok.len
  have := ok.bl
  refine ⟨by simp, fun d m => ?_⟩
  simp at m
  rcases m with rfl | rfl | rfl
  · exact pln_S (by omega)
  · exact pln_Bs (by omega)
  · exact pln_Il (by rw [hs_len]; omega)
def c_law_make (cW cL : Addr) : OC := fun as R => ∃ L, as = [.sh (dLL L)] ∧ LdOk L ∧ ∀ nr, R (dLand cW cL nr L)
theorem r_law_make : ∀ as R, c_law_make cW cL as R → ws_law_make cW cL cP (ci_LA cW) ci_W (gaOf N_law_make.length as) (poF R) := by
  rintro _ R ⟨L, rfl, ok, h⟩
  simp [ws_law_make]
  exact ⟨L, L.bs, rfl, ⟨ok, .refl _⟩, fun nr => ⟨nr, L, rfl, ok, h nr⟩⟩
def c_law_is_land (cW cL : Addr) : OC := fun as R => ∃ nr L M, as = [.sh (dLand cW cL nr L), .sh (dLL M)] ∧ (LdOk M ∧ L.ps = M.ps ∧ L.bs = M.bs ∧ hsOf L = hsOf M) ∧ R (.bl true)
theorem r_law_is_land : ∀ as R, c_law_is_land cW cL as R → ws_law_is_land cW cL cP (c_W_places cW) (c_W_bonds cW) (c_LA_heights cW cL) (c_law_same 5) (gaOf N_law_is_land.length as) (poF R) := by
  rintro _ R ⟨nr, L, M, rfl, ⟨ok, e1, e2, e3⟩, h⟩
  simp [ws_law_is_land]
  refine ⟨nr, L, rfl, nr, L, rfl, nr, L, rfl, ?_⟩
  simp [e1, e2, e3]
  exact ⟨dLL M, rfl, pln_LL ok, h⟩
def c_law_beside : OC := fun as R => ∃ bs p, as = [.sh (dBs bs), .sh (.str p)] ∧ bs.length ≤ 16 ∧ R (dS (nbrs bs p))
theorem nbrs_step {bs : List Bd} {i : Nat} {b : Bd} {p : Str} (h : bs[i]? = some b) : nbrs (bs.take (i + 1)) p = nbrs (bs.take i) p ++ nb1 p b := by
  unfold nbrs
  rw [take_succ h, List.flatMap_append]
  simp
theorem r_law_beside : ∀ as R, c_law_beside as R → ws_law_beside cW cL cP (gaOf N_law_beside.length as) (poF R) := by
  rintro _ R ⟨bs, p, rfl, hl, h⟩
  simp [ws_law_beside]
  refine FR_inv (fun i G => ∃ t, G = [.sh (dBs bs), .sh (.str p), .ow (dS (nbrs (bs.take i) p)), t]) ⟨_, rfl⟩ ?_ ?_
  · rintro i b _ hb ⟨t, rfl⟩
    have st := nbrs_step (p := p) hb
    have ln := @nbrs_len (bs.take i) p
    have lt : (bs.take i).length ≤ 16 := by rw [List.length_take]; omega
    simp [wb_law_beside_1]
    unfold nb1 at st
    split
    · rename_i e
      rw [if_pos e] at st
      refine ⟨by omega, ?_⟩
      split
      · rename_i e2
        rw [if_pos e2] at st
        refine ⟨by omega, ?_⟩
        rw [st]; simp [dS]
      · rename_i e2
        rw [if_neg e2] at st
        rw [st]; simp [dS]
    · rename_i e
      rw [if_neg e] at st
      split
      · rename_i e2
        rw [if_pos e2] at st
        refine ⟨by omega, ?_⟩
        rw [st]; simp [dS]
      · rename_i e2
        rw [if_neg e2] at st
        rw [st]; simp
  · rintro _ ⟨t, rfl⟩
    rw [List.take_length]
    simp
    exact h
def like (L : Ld) (p : Str) : List Str := L.ps.filter fun q => decide (L.h q = L.h p)
theorem like_mem {L : Ld} {p q : Str} : q ∈ like L p ↔ q ∈ L.ps ∧ L.h q = L.h p := by
  unfold like
  rw [List.mem_filter]
  simp
def c_law_reach : OC := fun as R => ∃ L p, as = [.sh (dBs L.bs), .sh (dS (like L p)), .sh (.str p)] ∧ (LdOk L ∧ p ∈ L.ps) ∧ R (dS (flat L p))
theorem r_law_reach : ∀ as R, c_law_reach as R → ws_law_reach cW cL cP c_law_beside (gaOf N_law_reach.length as) (poF R) := by
  rintro _ R ⟨L, p, rfl, ⟨ok, hp⟩, h⟩
  have l10 := ok.len
  have b16 := ok.bl
  have ll : (like L p).length ≤ L.ps.length := List.length_filter_le _ _
  simp [ws_law_reach]
  refine ⟨by omega, ?_⟩
  refine FR_rng (fun i G => ∃ fl a t4 t5, G = [.sh (dBs L.bs), .sh (dS (like L p)), .sh (.str p), .ow (dS fl), t4, t5] ∧ Gr L p fl a ∧ (a = i ∨ fl.length ≤ a) ∧ a ≤ i) ⟨[p], 0, _, _, rfl, .start hp, .inl rfl, Nat.le_refl _⟩ ?_ ?_
  · rintro i _ hi ⟨fl, a, t4, t5, rfl, g, ha, hai⟩
    have gl := g.len
    simp [wb_law_reach_2]
    split
    · rename_i hlt
      have ea : a = i := by omega
      subst ea
      obtain ⟨here, hh⟩ : ∃ here, fl[a]? = some here := ⟨fl[a], by simp [hlt]⟩
      have hps := (g.sf here (List.mem_of_getElem? hh)).1
      rw [ix_S _ _ (x := here) (by rw [atI_nat]; exact hh)]
      refine ⟨L.bs, here, rfl, b16, ?_⟩
      simp
      refine FR_inv (fun j G => ∃ fl t5, G = [.sh (dBs L.bs), .sh (dS (like L p)), .sh (.str p), .ow (dS fl), .sh (.int (a : Nat)), t5] ∧ Gi L p fl a here j) ⟨fl, _, rfl, g.go hh⟩ ?_ ?_
      · rintro j r _ hr ⟨fl, t5, rfl, g⟩
        have hrp := nbrs_mem ok (List.mem_of_getElem? hr)
        have gl := g.len
        simp [wb_law_reach_1, like_mem, hrp]
        split
        · rename_i e
          split
          · rename_i n
            exact ⟨fl, rfl, g.skip hr fun _ => n⟩
          · rename_i n
            exact ⟨by omega, fl ++ [r], by simp [dS], g.add ok hr e n⟩
        · rename_i e
          exact ⟨fl, rfl, g.skip hr fun q => absurd q e⟩
      · rintro _ ⟨fl, t5, rfl, g⟩
        exact ⟨fl, ⟨_, _, rfl⟩, a + 1, g.fin, .inl rfl, Nat.le_refl _⟩
    · rename_i hge
      exact ⟨fl, rfl, a, g, .inr (by omega), by omega⟩
  · rintro _ ⟨fl, a, t4, t5, rfl, g, ha, hai⟩
    have gl := g.len
    have gf : fl.length ≤ (like L p).length := g.lenF
    simp
    refine sort_S _ _ g.nd (by omega) ?_
    rw [g.done ok (by omega)]
    exact h
def c_law_height : OC := fun as R => ∃ L p, as = [.sh (dLL L), .sh (.str p)] ∧ p ∈ L.ps ∧ R (.int (L.h p))
theorem r_law_height : ∀ as R, c_law_height as R → ws_law_height cW cL cP (gaOf N_law_height.length as) (poF R) := by
  rintro _ R ⟨L, p, rfl, hp, h⟩
  simp [ws_law_height]
  rw [index_S _ _ hp, ix_I _ _ (hs_at hp)]
  exact h
theorem rng_nat (n : Nat) : rng 0 (n : Nat) = (List.range n).map fun i => D.int (i : Nat) := by
  unfold rng
  simp
theorem LC_ix {α : Type} {xs : List α} (f : α → Option D) {B : D → (Option D → Prop) → Prop} {R : D → Prop} (hl : xs.length ≤ 1000) (hb : ∀ (i : Nat) x, xs[i]? = some x → ∀ K : Option D → Prop, K (f x) → B (.int (i : Nat)) K) (hr : R (.lst (xs.filterMap f))) : LC (rng 0 (xs.length : Nat)) B R := by
  have e0 : (rng 0 (xs.length : Nat)).length = xs.length := by rw [rng_nat]; simp
  refine ⟨by rw [e0]; exact hl, fun i acc => acc = (xs.take i).filterMap f, by simp, fun i d acc hd ha => ?_, fun acc ha => ?_⟩
  · rw [rng_nat, List.getElem?_map] at hd
    have hi : i < xs.length := by
      by_cases q : i < xs.length
      · exact q
      · rw [List.getElem?_eq_none (by simpa using q)] at hd; cases hd
    have hx : xs[i]? = some xs[i] := by simp [hi]
    rw [show (List.range xs.length)[i]? = some i by simp [hi]] at hd
    cases hd
    refine hb i _ hx _ ?_
    have et := fm_take (f := f) hx
    subst ha
    cases hf : f xs[i] with
    | none => show _ = _; rw [et, hf]; simp
    | some y => show _ = _; rw [et, hf]; simp
  · rw [ha, e0, List.take_length]; exact hr
def c_law_flat : OC := fun as R => ∃ L p, as = [.sh (dLL L), .sh (.str p)] ∧ (LdOk L ∧ p ∈ L.ps) ∧ R (dS (flat L p))
theorem fm_filter {α : Type} (p : α → Bool) (e : α → D) (xs : List α) : xs.filterMap (fun x => if p x = true then some (e x) else none) = (xs.filter p).map e := by
  induction xs with
  | nil => rfl
  | cons x xs ih =>
    rw [List.filterMap_cons, List.filter_cons]
    cases h : p x <;> simp [ih]
theorem r_law_flat : ∀ as R, c_law_flat as R → ws_law_flat cW cL cP c_law_height c_law_reach (gaOf N_law_flat.length as) (poF R) := by
  rintro _ R ⟨L, p, rfl, ⟨ok, hp⟩, h⟩
  have l10 := ok.len
  simp [ws_law_flat]
  refine ⟨L, p, rfl, hp, ?_⟩
  simp
  refine ⟨by omega, ?_⟩
  refine LC_ix (xs := L.ps) (fun q => if decide (L.h q = L.h p) = true then some (.str q) else none) (by omega) (fun i q hq K hK => ?_) ?_
  · have hh : atI (hsOf L) (i : Nat) = some (L.h q) := by rw [atI_nat, hsOf, List.getElem?_map, hq]; rfl
    have hs : atI L.ps (i : Nat) = some q := by rw [atI_nat]; exact hq
    simp [wt_law_flat_1, we_law_flat_2]
    rw [ix_I _ _ hh]
    simp
    rw [ix_S _ _ hs]
    split <;> simp_all
  · rw [fm_filter]
    exact ⟨L, p, rfl, ⟨ok, hp⟩, h⟩
def c_law_flats : OC := fun as R => ∃ L, as = [.sh (dLL L)] ∧ LdOk L ∧ R (dFl (flats L))
theorem r_law_flats : ∀ as R, c_law_flats as R → ws_law_flats cW cL cP c_law_flat (gaOf N_law_flats.length as) (poF R) := by
  rintro _ R ⟨L, rfl, ok, h⟩
  have l10 := ok.len
  simp [ws_law_flats]
  refine FR_inv (fun i G => ∃ t2 t3, G = [.sh (dLL L), .ow (dFl (flatsTo L i)), t2, t3]) ⟨_, _, rfl⟩ ?_ ?_
  · rintro i p _ hp ⟨t2, t3, rfl⟩
    have pm := List.mem_of_getElem? hp
    have fl := @flatsTo_len L i
    simp [wb_law_flats_1]
    refine ⟨L, p, rfl, ⟨ok, pm⟩, ?_⟩
    obtain ⟨x, r, e⟩ : ∃ x r, flat L p = x :: r := by
      cases e : flat L p with
      | nil => exact absurd e (flat_ne pm)
      | cons x r => exact ⟨x, r, rfl⟩
    rw [ix_S _ _ (x := x) (by simp [e])]
    simp
    split
    · rename_i q
      refine ⟨by omega, ?_⟩
      rw [flatsTo_yes hp (by rw [e, q]; rfl)]
      simp [dFl]
    · rename_i q
      rw [flatsTo_no hp (by rw [e]; simpa using q)]
  · rintro _ ⟨t2, t3, rfl⟩
    rw [flatsTo_all]
    exact h
end VL
/-! text Rk -/
/-! Rk: the law's papers, shows, and its right. -/
namespace VL
open PySem PySem.Spec PyProof.Rows L2
variable {cW cL cP : Addr}
abbrev Pp := Bd ⊕ List Str
def dPp (s g : Ld) : Pp → D
  | .inl b => dPB s g b
  | .inr F => dPF F
noncomputable def pps (s g : Ld) : List Pp := (brk s g).map .inl ++ (dry s g).map .inr
theorem papers_eq (s g : Ld) : papers s g = (pps s g).map (dPp s g) := by
  unfold papers pps
  rw [List.map_append, List.map_map, List.map_map]
  rfl
def pyPp (s g : Ld) (x : Pp) : PyData := match x with
  | .inl b => .tuple [.str "bond", .str b.1, .str b.2.1, .str b.2.2, .tuple [.int (s.h b.2.1), .int (s.h b.2.2), .int (g.h b.2.1), .int (g.h b.2.2)]]
  | .inr F => .tuple [.str "flat", .tuple (F.map .str)]
theorem py_Pp (s g : Ld) (x : Pp) : toPy (dPp s g x) = some (pyPp s g x) := by
  cases x with
  | inl b => simp [dPp, dPB, pyPp, toPy, toPys]
  | inr F => simp [dPp, dPF, pyPp, toPy, toPys, py_T]
theorem dep_Pp (s g : Ld) (x : Pp) : (pyPp s g x).depth ≤ 3 := by
  cases x with
  | inl b => simp [pyPp, PyData.depth, PyData.depthAll]
  | inr F =>
    have := depthAll_of (g := PyData.str) (n := 0) (fun _ => by simp [PyData.depth]) F
    simp only [pyPp, PyData.depth, PyData.depthAll]
    omega
def dPs (s g : Ld) (xs : List Pp) : D := .lst (xs.map (dPp s g))
theorem py_Ps (s g : Ld) (xs : List Pp) : toPy (dPs s g xs) = some (.list (xs.map (pyPp s g))) := by
  simp [toPy, dPs, toPys_of (f := dPp s g) (g := pyPp s g) (py_Pp s g)]
theorem dep_Ps (s g : Ld) (xs : List Pp) : (PyData.list (xs.map (pyPp s g))).depth ≤ 64 := by
  have := depthAll_of (g := pyPp s g) (n := 3) (dep_Pp s g) xs
  simp only [PyData.depth]
  omega
theorem eqv_nil (zs : List PyData) : PyData.eqvAll zs [] = zs.isEmpty := by cases zs <;> simp [PyData.eqvAll]
@[simp] theorem eq_Ps0 (s g : Ld) (xs : List Pp) (R : D → Prop) : oEq (dPs s g xs) (.lst []) R = R (.bl xs.isEmpty) := by
  simp [oEq, py_Ps, dep_Ps, toPy, toPys, PyData.eqv, eqv_nil]
@[simp] theorem ne_Ps0 (s g : Ld) (xs : List Pp) (R : D → Prop) : oNe (dPs s g xs) (.lst []) R = R (.bl (!xs.isEmpty)) := by
  simp [oNe, py_Ps, dep_Ps, toPy, toPys, PyData.eqv, eqv_nil]
@[simp] theorem ne_fb : (Str.ofString "flat" = Str.ofString "bond") = False := eq_false (by decide +kernel)
@[simp] theorem isL_Ps (s g : Ld) (xs : List Pp) (T : List D → Prop) : isL (dPs s g xs) T = T (xs.map (dPp s g)) := id rfl
def c_law_papers : OC := fun as R => ∃ s g, as = [.sh (dLL s), .sh (dLL g)] ∧ Sm s g ∧ R (dPs s g (pps s g))
/-- what a bond says -/
def bpf (s g : Ld) (b : Bd) : Option Bd := (slf g b).filter (brkT s g)
theorem brk_fm (s g : Ld) (xs : List Bd) : (xs.filterMap (slf g)).filter (brkT s g) = xs.filterMap (bpf s g) := by
  induction xs with
  | nil => rfl
  | cons x xs ih =>
    rw [List.filterMap_cons, List.filterMap_cons]
    have eb : bpf s g x = (slf g x).filter (brkT s g) := rfl
    rw [eb]
    cases e : slf g x with
    | none => exact ih
    | some y =>
      cases h : brkT s g y with
      | true =>
        have : Option.filter (brkT s g) (some y) = some y := by simp [Option.filter, h]
        rw [this, List.filter_cons, h, ← ih]
        rfl
      | false =>
        have : Option.filter (brkT s g) (some y) = none := by simp [Option.filter, h]
        rw [this, List.filter_cons, h, ← ih]
        rfl
theorem brk_eq (s g : Ld) : brk s g = g.bs.filterMap (bpf s g) := brk_fm s g g.bs
theorem r_law_papers : ∀ as R, c_law_papers as R → ws_law_papers cW cL cP c_law_height c_law_flats (gaOf N_law_papers.length as) (poF R) := by
  rintro _ R ⟨s, g, rfl, sm, h⟩
  have l10 := sm.g.len
  have b16 := sm.g.bl
  have fl := @flats_len g
  simp [ws_law_papers]
  rw [sm.bs]
  refine FR_inv (fun i G => ∃ t3 t4 t5 t6, G = [.sh (dLL s), .sh (dLL g), .ow (dPs s g (((g.bs.take i).filterMap (bpf s g)).map .inl)), t3, t4, t5, t6, .no, .no]) ⟨_, _, _, _, rfl⟩ ?_ ?_
  · rintro i b _ hb ⟨t3, t4, t5, t6, rfl⟩
    obtain ⟨_, m1, m2, _⟩ := sm.g.bm b (List.mem_of_getElem? hb)
    have n1 : b.2.1 ∈ s.ps := by rw [sm.ps]; exact m1
    have n2 : b.2.2 ∈ s.ps := by rw [sm.ps]; exact m2
    have ft := fm_take (f := bpf s g) hb
    have fml := @fm_len _ _ (bpf s g) g.bs i
    simp [wb_law_papers_1]
    refine ⟨g, _, rfl, m1, g, _, rfl, m2, ?_⟩
    simp
    split
    · rename_i e
      have e0 : ¬ g.h b.2.2 < g.h b.2.1 := by omega
      refine ⟨s, _, rfl, n2, s, _, rfl, n1, g, _, rfl, m2, g, _, rfl, m1, ?_⟩
      simp [e]
      have eb : bpf s g b = if s.h b.2.2 < g.h b.2.2 ∨ g.h b.2.1 < s.h b.2.1 then some (b.1, b.2.2, b.2.1) else none := by
        unfold bpf slf
        rw [if_neg (by omega), if_pos e]
        simp [Option.filter, brkT]
      rw [eb] at ft
      split
      · rename_i q
        rw [if_pos (.inl q)] at ft
        refine ⟨by omega, ?_⟩
        rw [ft]
        simp [dPs, dPp, dPB]
      · rename_i q
        split
        · rename_i q2
          rw [if_pos (.inr q2)] at ft
          refine ⟨by omega, ?_⟩
          rw [ft]
          simp [dPs, dPp, dPB]
        · rename_i q2
          rw [if_neg (by omega)] at ft
          rw [ft]
          simp
    · rename_i e
      refine ⟨s, _, rfl, n1, s, _, rfl, n2, g, _, rfl, m1, g, _, rfl, m2, ?_⟩
      simp
      split
      · rename_i e2
        have eb : bpf s g b = if s.h b.2.1 < g.h b.2.1 ∨ g.h b.2.2 < s.h b.2.2 then some b else none := by
          unfold bpf slf
          rw [if_pos e2]
          simp [Option.filter, brkT]
        rw [eb] at ft
        split
        · rename_i q
          rw [if_pos (.inl q)] at ft
          refine ⟨by omega, ?_⟩
          rw [ft]
          simp [dPs, dPp, dPB]
        · rename_i q
          split
          · rename_i q2
            rw [if_pos (.inr q2)] at ft
            refine ⟨by omega, ?_⟩
            rw [ft]
            simp [dPs, dPp, dPB]
          · rename_i q2
            rw [if_neg (by omega)] at ft
            rw [ft]
            simp
      · rename_i e2
        have eb : bpf s g b = none := by
          unfold bpf slf
          rw [if_neg e2, if_neg e]
          rfl
        rw [ft, eb]
        simp
  · rintro _ ⟨t3, t4, t5, t6, rfl⟩
    rw [List.take_length, ← brk_eq]
    have bl : (brk s g).length ≤ 16 := by
      rw [brk_eq]
      have := List.length_filterMap_le (bpf s g) g.bs
      omega
    simp
    refine ⟨g, rfl, sm.g, ?_⟩
    simp
    refine FR_inv (fun i G => ∃ t3 t4 t5 t6 t7, G = [.sh (dLL s), .sh (dLL g), .ow (dPs s g ((brk s g).map .inl ++ (((flats g).take i).filter fun F => F.all fun p => s.h p != g.h p).map .inr)), t3, t4, t5, t6, t7, .no]) ⟨t3, t4, t5, t6, .no, by simp⟩ ?_ ?_
    · rintro i F _ hF ⟨t3, t4, t5, t6, t7, rfl⟩
      have mF := List.mem_of_getElem? hF
      have lF : F.length ≤ 10 := by
        obtain ⟨p, _, rfl, _⟩ := mem_flats mF
        have := @flat_len g p
        omega
      have fll : (((flats g).take i).filter fun F => F.all fun p => s.h p != g.h p).length ≤ 10 := by
        refine Nat.le_trans (List.length_filter_le _ _) ?_
        rw [List.length_take]
        omega
      have et := take_succ hF
      simp [wb_law_papers_4]
      refine LC_map (fun p => .bl (!decide (s.h p = g.h p))) (by omega) (fun p m K hK => ?_) ?_
      · have pm := flats_sub mF p m
        simp [wt_law_papers_2, we_law_papers_3]
        refine ⟨s, p, rfl, by rw [sm.ps]; exact pm, g, p, rfl, pm, ?_⟩
        simp
        exact hK
      · rw [bools_l, all_id]
        have e : (F.all fun p => !decide (s.h p = g.h p)) = F.all fun p => s.h p != g.h p := by
          refine congrArg (fun f => F.all f) ?_
          funext p
          rw [bne, bq]
        rw [e]
        have ef : ((flats g).take (i + 1)).filter (fun F => F.all fun p => s.h p != g.h p) = ((flats g).take i).filter (fun F => F.all fun p => s.h p != g.h p) ++ (if (F.all fun p => s.h p != g.h p) = true then [F] else []) := by
          rw [et, List.filter_append]
          congr 1
          rw [List.filter_cons]
          split <;> rfl
        rw [ef]
        clear ef e
        generalize (F.all fun p => s.h p != g.h p) = c
        generalize (((flats g).take i).filter fun F => F.all fun p => s.h p != g.h p) = zs at *
        cases c with
        | true =>
          simp [dPs]
          refine ⟨by omega, ?_⟩
          simp [dPp, dPF]
        | false => simp
    · rintro _ ⟨t3, t4, t5, t6, t7, rfl⟩
      rw [List.take_length]
      exact h
def c_law_glued : OC := fun as R => ∃ L1 L2 B, as = [.sh (dLL L1), .sh (dLL L2)] ∧ Gd L1 L2 B ∧ R (dLL (gl L1 L2))
theorem r_law_glued : ∀ as R, c_law_glued as R → ws_law_glued cW cL cP c_law_height (gaOf N_law_glued.length as) (poF R) := by
  rintro _ R ⟨L1, L2, B, rfl, g, h⟩
  have l1 := g.p1.pl
  have l2 := g.p2.pl
  have b1 := g.p1.bl
  have b2 := g.p2.bl
  have ok := g.ok
  have l10 := ok.len
  simp [ws_law_glued]
  refine LC_filter (fun p => !decide (p ∈ L1.ps)) (by omega) (fun p m K hK => ?_) ?_
  · simp [wt_law_glued_1, we_law_glued_2]
    split <;> simp_all
  · have e1 : D.lst ((L2.ps.filter fun p => !decide (p ∈ L1.ps)).map D.str) = dS (inner L2 L1.ps) := rfl
    have il : (inner L2 L1.ps).length ≤ L2.ps.length := List.length_filter_le _ _
    rw [e1]
    simp
    refine ⟨by omega, ?_⟩
    refine sort_S _ _ (gl_nodup g.p1.ok.asc.nodup g.p2.ok.asc.nodup) (by rw [List.length_append]; omega) ?_
    have e2 : srt (L1.ps ++ inner L2 L1.ps) = (gl L1 L2).ps := rfl
    rw [e2]
    simp
    refine FR_inv (fun i G => ∃ t4, G = [.sh (dLL L1), .sh (dLL L2), .sh (dS (gl L1 L2).ps), .ow (dIl (((gl L1 L2).ps.take i).map (gl L1 L2).h)), t4]) ⟨_, rfl⟩ ?_ ?_
    · rintro i p _ hp ⟨t4, rfl⟩
      have pm := gl_mem.mp (List.mem_of_getElem? hp)
      have et := take_map (f := (gl L1 L2).h) hp
      have tl : ((gl L1 L2).ps.take i).length ≤ 10 := by rw [List.length_take]; omega
      simp [wb_law_glued_3]
      simp at tl
      split
      · rename_i q
        refine ⟨by omega, L1, p, rfl, q, ?_⟩
        rw [et, g.glu.h1 p q]
        simp [dIl]
      · rename_i q
        have q2 := pm.resolve_left q
        refine ⟨by omega, L2, p, rfl, q2, ?_⟩
        rw [et, g.glu.h2 p q2]
        simp [dIl]
    · rintro _ ⟨t4, rfl⟩
      rw [List.take_length]
      simp
      refine ⟨by omega, ?_⟩
      refine sort_B _ _ (by rw [List.length_append]; omega) ?_
      exact h
def c_law_cut : OC := fun as R => ∃ W O, as = [.sh (dLL W), .sh (dLL O)] ∧ ((∀ p ∈ O.ps, p ∈ W.ps) ∧ O.ps.length ≤ 10) ∧ R (dLL ⟨O.ps, O.bs, W.h⟩)
theorem lst_Il (f : Str → Int) (xs : List Str) : D.lst (xs.map fun p => D.int (f p)) = dIl (xs.map f) := by unfold dIl; rw [List.map_map]; rfl
theorem r_law_cut : ∀ as R, c_law_cut as R → ws_law_cut cW cL cP c_law_height (gaOf N_law_cut.length as) (poF R) := by
  rintro _ R ⟨W, O, rfl, ⟨hm, hl⟩, h⟩
  simp [ws_law_cut]
  refine LC_map (fun p => .int (W.h p)) (by omega) (fun p m K hK => ?_) ?_
  · simp [wt_law_cut_1, we_law_cut_2]
    exact ⟨W, p, rfl, hm p m, hK⟩
  · rw [lst_Il]
    exact h
def c_law_show : OC := fun as R => ∃ L B G, as = [.sh (dLL L), .sh (dS B), .sh (dLL G)] ∧ (Sm L G ∧ Bo G B) ∧ R (showD L G B)
theorem pps_bonds (s g : Ld) : ((pps s g).filter fun x => x.isLeft) = (brk s g).map .inl := by
  unfold pps
  rw [List.filter_append]
  have e1 : ((brk s g).map Sum.inl : List Pp).filter (fun x => x.isLeft) = (brk s g).map .inl := by
    rw [List.filter_eq_self]
    intro x m
    obtain ⟨b, _, rfl⟩ := List.mem_map.mp m
    rfl
  have e2 : ((dry s g).map Sum.inr : List Pp).filter (fun x => x.isLeft) = [] := by
    rw [List.filter_eq_nil_iff]
    intro x m
    obtain ⟨b, _, rfl⟩ := List.mem_map.mp m
    simp
  rw [e1, e2, List.append_nil]
theorem pps_len {s g : Ld} (ok : LdOk g) : (pps s g).length ≤ 26 := by
  have := ok.len
  have := ok.bl
  have h1 : (brk s g).length ≤ g.bs.length := by rw [brk_eq]; exact List.length_filterMap_le _ _
  have h2 : (dry s g).length ≤ (flats g).length := List.length_filter_le _ _
  have h3 := @flats_len g
  unfold pps
  rw [List.length_append, List.length_map, List.length_map]
  omega
theorem r_law_show : ∀ as R, c_law_show as R → ws_law_show cW cL cP c_law_flats c_law_height c_law_papers (gaOf N_law_show.length as) (poF R) := by
  rintro _ R ⟨L, B, G, rfl, ⟨sm, bo⟩, h⟩
  have l10 := sm.g.len
  have fl := @flats_len G
  have l3 := bo.len
  have lp := @pps_len L G sm.g
  unfold showD shOk at h
  simp [ws_law_show]
  refine ⟨G, rfl, sm.g, ?_⟩
  simp
  refine FR_inv (fun i Ga => ∃ t4 t5 t6 t7, Ga = [.sh (dLL L), .sh (dS B), .sh (dLL G), .ow (dBl (((flats G).take i).filterMap (blk L G B))), t4, t5, t6, t7, .no] ∧ ∀ F ∈ (flats G).take i, flOk L G B F = true) ⟨_, _, _, _, rfl, by simp⟩ ?_ ?_
  · rintro i F _ hF ⟨t4, t5, t6, t7, rfl, hk⟩
    have mF := List.mem_of_getElem? hF
    have lF : F.length ≤ 10 := by
      obtain ⟨p, _, rfl, _⟩ := mem_flats mF
      have := @flat_len G p
      omega
    have ft := fm_take (f := blk L G B) hF
    have fml := @fm_len _ _ (blk L G B) (flats G) i
    simp [wb_law_show_5]
    refine LC_map (fun p => .bl (decide (L.h p = G.h p))) (by omega) (fun p m K hK => ?_) ?_
    · have pm := flats_sub mF p m
      simp [wt_law_show_1, we_law_show_2]
      refine ⟨L, p, rfl, by rw [sm.ps]; exact pm, G, p, rfl, pm, ?_⟩
      simp
      exact hK
    · rw [bools_l, any_id]
      refine LC_filter (fun p => decide (p ∈ B)) (by omega) (fun p m K hK => ?_) ?_
      · simp [wt_law_show_3, we_law_show_4]
        split <;> simp_all
      · have eS : D.lst ((F.filter fun p => decide (p ∈ B)).map D.str) = dS (F.filter fun p => decide (p ∈ B)) := rfl
        rw [eS]
        have ok_step : flOk L G B F = true → ∀ F' ∈ (flats G).take (i + 1), flOk L G B F' = true := fun q F' m => by
          rw [take_succ hF] at m
          rcases List.mem_append.mp m with m | m
          · exact hk F' m
          · rw [List.mem_singleton.mp m]; exact q
        rw [tup_S]
        generalize eq : (F.filter fun p => decide (p ∈ B)) = pl at *
        have eb : blk L G B F = if pl = [] then none else some (pl, F.any fun p => decide (L.h p = G.h p)) := by unfold blk; rw [eq]
        have eo : flOk L G B F = (!pl.isEmpty || F.any fun p => decide (L.h p = G.h p)) := by unfold flOk; rw [eq]
        have eall : F ∈ flats G → flOk L G B F = false → ((flats G).all (flOk L G B)) = false := fun m q => by
          rw [List.all_eq_false]
          exact ⟨F, m, by simp [q]⟩
        generalize (F.any fun p => decide (L.h p = G.h p)) = sp at *
        cases pl with
        | cons x r =>
          have eo' : flOk L G B F = true := by rw [eo]; rfl
          simp [dBl]
          refine ⟨by omega, ?_, ok_step eo'⟩
          rw [ft, eb]
          simp [dBk]
        | nil =>
          cases sp with
          | true =>
            have eo' : flOk L G B F = true := by rw [eo]; rfl
            simp
            refine ⟨?_, ok_step eo'⟩
            rw [ft, eb]
            simp
          | false =>
            have eo' : flOk L G B F = false := by rw [eo]; rfl
            rw [eall mF eo', Bool.and_false] at h
            simp
            simpa using h
  · rintro _ ⟨t4, t5, t6, t7, rfl, hk⟩
    rw [List.take_length] at hk
    rw [List.all_eq_true.mpr hk, Bool.and_true] at h
    simp
    refine ⟨L, G, rfl, sm, ?_⟩
    simp
    refine LC_filter (fun x => x.isLeft) (by omega) (fun x m K hK => ?_) ?_
    · cases x with
      | inl b =>
        simp [wt_law_show_6, we_law_show_7, dPp, dPB]
        simpa [dPp, dPB] using hK
      | inr F =>
        simp [wt_law_show_6, we_law_show_7, dPp, dPF]
        simpa using hK
    · rw [pps_bonds]
      have eP : D.lst (((brk L G).map Sum.inl : List Pp).map (dPp L G)) = dPs L G ((brk L G).map .inl) := rfl
      rw [eP, ne_Ps0]
      cases e : brk L G with
      | cons b r =>
        rw [e] at h
        simp
        simpa using h
      | nil =>
        rw [e] at h
        simp
        refine LC_map (fun p => .int (G.h p)) (by omega) (fun p m K hK => ?_) ?_
        · simp [wt_law_show_8, we_law_show_9]
          exact ⟨G, p, rfl, bo.sub p m, hK⟩
        · rw [lst_Il]
          simp
          have := @blks_len L G B
          refine sort_K' _ (blks L G B) (by omega) ?_
          simp
          exact h
end VL
/-! text Rl -/
/-! Rl: what the law asks of two glued pieces. -/
namespace VL
open PySem PySem.Spec PyProof.Rows L2
variable {cW cL cP : Addr}
theorem okS_eq (s g : Ld) : okS s g = (pps s g).isEmpty := by
  unfold okS pps
  cases brk s g <;> cases dry s g <;> rfl
theorem wsum_le {n : Nat} : ∀ {cl : List Bk}, (∀ c ∈ cl, c.1.length ≤ n) → wsum cl ≤ n * cl.length
  | [], _ => by simp [wsum]
  | c :: cl, h => by
    have h5 : wsum (c :: cl) = c.1.length + wsum cl := by unfold wsum; simp
    have := wsum_le fun d m => h d (.tail _ m)
    have := h c (.head _)
    rw [h5, List.length_cons, Nat.mul_add]
    omega
theorem pln_show {s g : Ld} {B : List Str} (ok : LdOk g) (l : B.length ≤ 3) : pln 5 (showD s g B) := by
  unfold showD
  split
  · have := ok.len
    refine ⟨by simp, fun d m => ?_⟩
    simp at m
    rcases m with rfl | rfl
    · exact pln_It (by rw [List.length_map]; omega)
    · have := @blks_len s g B
      refine ⟨by rw [List.length_map, srtK_len]; omega, fun d m => ?_⟩
      obtain ⟨b, mb, rfl⟩ := List.mem_map.mp m
      refine ⟨by simp, fun d m => ?_⟩
      simp at m
      rcases m with rfl | rfl
      · have := blks_item (srtK_mem.mp mb)
        exact pln_T (by omega)
      · trivial
  · trivial
theorem pln_head {s g : Ld} (ok : LdOk g) : pln 5 ((papers s g).headD .non) := by
  rw [papers_eq]
  cases e : pps s g with
  | nil => trivial
  | cons x r =>
    cases x with
    | inl b =>
      refine ⟨by simp, fun d m => ?_⟩
      simp at m
      rcases m with rfl | rfl | rfl | rfl | rfl <;> try trivial
      refine ⟨by simp, fun d m => ?_⟩
      simp at m
      rcases m with rfl | rfl | rfl | rfl <;> trivial
    | inr F =>
      have mF : F ∈ dry s g := by
        have : Sum.inr F ∈ pps s g := by rw [e]; exact .head _
        unfold pps at this
        rcases List.mem_append.mp this with q | q
        · obtain ⟨_, _, z⟩ := List.mem_map.mp q; cases z
        · obtain ⟨F', q, z⟩ := List.mem_map.mp q; cases z; exact q
      have lF : F.length ≤ 10 := by
        obtain ⟨p, _, rfl, _⟩ := mem_flats (List.mem_filter.mp mF).1
        have := @flat_len g p
        have := ok.len
        omega
      refine ⟨by simp, fun d m => ?_⟩
      simp at m
      rcases m with rfl | rfl
      · trivial
      · exact pln_T (by omega)
theorem due_iff (s g : Ld) : (pps s g).isEmpty = true ↔ brk s g = [] ∧ AllWet s g := by
  rw [allWet_iff, List.isEmpty_iff]
  unfold pps
  simp
def fitB (b1 b2 : List Bk) : Bool := ((b1 ++ b2).foldl fstep []).all (·.2)
theorem Gg.fit {L1 L2 G1 G2 : Ld} {B : List Str} (g : Gg L1 L2 G1 G2 B) (h1 : shOk L1 G1 B = true) (h2 : shOk L2 G2 B = true) : fitB (srtK (blks L1 G1 B)) (srtK (blks L2 G2 B)) = (pps (gl L1 L2) (gl G1 G2)).isEmpty := by
  have s1 := shOk_iff.mp h1
  have s2 := shOk_iff.mp h2
  rw [Bool.eq_iff_iff, due_iff]
  unfold fitB
  rw [g.both.fits s1 s2 (fun b => by rw [List.mem_append, srtK_mem, srtK_mem])]
  exact ⟨fun q => ⟨g.both.nobrk.mpr ⟨s1.1, s2.1⟩, q⟩, fun q => q.2⟩
theorem Gg.fit' {L1 L2 G1 G2 : Ld} {B : List Str} (g : Gg L1 L2 G1 G2 B) (h1 : shOk L1 G1 B = true) (h2 : shOk L2 G2 B = true) : fitB (srtK (blks L2 G2 B)) (srtK (blks L1 G1 B)) = (pps (gl L1 L2) (gl G1 G2)).isEmpty := by
  have s1 := shOk_iff.mp h1
  have s2 := shOk_iff.mp h2
  rw [Bool.eq_iff_iff, due_iff]
  unfold fitB
  rw [g.both.fits s1 s2 (fun b => by rw [List.mem_append, srtK_mem, srtK_mem, or_comm])]
  exact ⟨fun q => ⟨g.both.nobrk.mpr ⟨s1.1, s2.1⟩, q⟩, fun q => q.2⟩
theorem Gg.notdue {L1 L2 G1 G2 : Ld} {B : List Str} (g : Gg L1 L2 G1 G2 B) (h : ¬ (shOk L1 G1 B = true ∧ shOk L2 G2 B = true)) : (pps (gl L1 L2) (gl G1 G2)).isEmpty = false := by
  rw [Bool.eq_false_iff]
  intro q
  obtain ⟨q1, q2⟩ := (due_iff _ _).mp q
  have := g.both.shows q1 q2
  exact h ⟨shOk_iff.mpr this.1, shOk_iff.mpr this.2⟩
theorem Gg.bo {L1 L2 G1 G2 : Ld} {B : List Str} (g : Gg L1 L2 G1 G2 B) : Bo G1 B := ⟨g.g.p1.ne, g.g.p1.len, g.g.p1.sub⟩
def c_law_glued_right (cW cL cP : Addr) : OC := fun as R => ∃ nr nr' L1 L2 G1 G2 B, as = [.sh (.lst [dLL L1, dLL L2, dS B, dLL G1, dLL G2]), .sh (.lst [dPc cW cL cP nr L1 B, dPc cW cL cP nr' L2 B])] ∧ Gg L1 L2 G1 G2 B ∧ R (.bl true)
@[simp] theorem isNon_show (hs : List Int) (bs : List Bk) : isNonD (dShow hs bs) = false := rfl
@[simp] theorem isNon_non : isNonD .non = true := rfl
theorem r_law_glued_right : ∀ as R, c_law_glued_right cW cL cP as R → ws_law_glued_right cW cL cP (c_law_make cW cL) c_law_glued (c_united cW cL cP) (c_law_is_land cW cL) (c_glue cW cL cP) (c_show_of cW cL cP) (c_law_same 5) c_law_show c_law_papers (c_never_paper cW cL) (c_comes cW cL) c_fits (gaOf N_law_glued_right.length as) (poF R) := by
  rintro _ R ⟨nr, nr', L1, L2, G1, G2, B, rfl, g, h⟩
  have sm := g.sm
  have l3 := g.l.p1.len
  have lp := @pps_len (gl L1 L2) (gl G1 G2) sm.g
  simp [ws_law_glued_right]
  refine ⟨G1, rfl, g.g.p1.ok, fun n1 => ⟨G2, rfl, g.g.p2.ok, fun n2 => ?_⟩⟩
  refine ⟨L1, L2, B, rfl, g.l, G1, G2, B, rfl, g.g, ?_⟩
  simp
  refine ⟨nr, nr', n1, n2, L1, L2, G1, G2, B, rfl, g, fun n3 => ?_⟩
  refine ⟨n3, gl G1 G2, gl G1 G2, rfl, ⟨sm.g, rfl, rfl, rfl⟩, ?_⟩
  simp
  obtain ⟨w1, w2, w3⟩ := g.g.swap
  obtain ⟨v1, v2, v3⟩ := g.l.swap
  refine ⟨nr', nr, n2, n1, L2, L1, G2, G1, B, rfl, g.symm, fun n4 => ?_⟩
  refine ⟨n4, gl G2 G1, gl G1 G2, rfl, ⟨sm.g, w1, w2, w3⟩, ?_⟩
  simp
  refine ⟨nr, nr', L1, L2, B, rfl, g.l, fun n5 => ?_⟩
  refine ⟨n5, gl L1 L2, gl L1 L2, rfl, ⟨sm.s, rfl, rfl, rfl⟩, ?_⟩
  simp
  refine ⟨nr', nr, L2, L1, B, rfl, g.l.symm, fun n6 => ?_⟩
  refine ⟨n6, gl L2 L1, gl L1 L2, rfl, ⟨sm.s, v1, v2, v3⟩, ?_⟩
  simp
  refine ⟨nr, n1, L1, G1, B, rfl, ⟨g.sm1, g.bo⟩, nr', n2, L2, G2, B, rfl, ⟨g.symm.sm1, g.symm.bo⟩, ?_⟩
  refine ⟨L1, B, G1, rfl, ⟨g.sm1, g.bo⟩, _, rfl, pln_show g.g.p1.ok l3, ?_⟩
  simp
  refine ⟨L2, B, G2, rfl, ⟨g.symm.sm1, g.symm.bo⟩, _, rfl, pln_show g.g.p2.ok l3, ?_⟩
  simp
  refine ⟨gl L1 L2, gl G1 G2, rfl, sm, ?_⟩
  simp
  refine ⟨n5, n3, gl L1 L2, gl G1 G2, rfl, sm, ?_⟩
  have hd : ∀ Q : D → Prop, Q ((papers (gl L1 L2) (gl G1 G2)).headD .non) → oAdd (dPs (gl L1 L2) (gl G1 G2) (pps (gl L1 L2) (gl G1 G2))) (.lst [.non]) fun x => oIx x (.int 0) Q := fun Q hQ => by
    rw [papers_eq] at hQ
    show _ ∧ oIx (.lst ((pps (gl L1 L2) (gl G1 G2)).map (dPp (gl L1 L2) (gl G1 G2)) ++ [.non])) (.int 0) Q
    refine ⟨by simp; omega, ?_⟩
    cases e : pps (gl L1 L2) (gl G1 G2) with
    | nil => rw [e] at hQ; simpa using hQ
    | cons x r => rw [e] at hQ; simpa using hQ
  refine hd _ ⟨_, rfl, pln_head sm.g, ?_⟩
  simp
  refine ⟨n5, n3, gl L1 L2, gl G1 G2, rfl, sm, ?_⟩
  rw [okS_eq]
  refine ⟨_, rfl, trivial, ?_⟩
  simp
  refine ⟨gl L1 L2, rfl, sm.s, fun n7 => ⟨gl G1 G2, rfl, sm.g, fun n8 => ?_⟩⟩
  refine ⟨n7, n8, gl L1 L2, gl G1 G2, rfl, sm, ?_⟩
  rw [okS_eq]
  refine ⟨_, rfl, trivial, ?_⟩
  simp
  by_cases q1 : shOk L1 G1 B = true
  · by_cases q2 : shOk L2 G2 B = true
    · have f1 := g.fit q1 q2
      have f2 := g.fit' q1 q2
      have e1 : showD L1 G1 B = dShow (B.map G1.h) (srtK (blks L1 G1 B)) := by unfold showD; rw [if_pos q1]
      have e2 : showD L2 G2 B = dShow (B.map G1.h) (srtK (blks L2 G2 B)) := by
        unfold showD
        rw [if_pos q2]
        congr 1
        exact List.map_congr_left fun p m => (g.g.hB p m).symm
      rw [e1, e2]
      simp
      have ne1 : srtK (blks L1 G1 B) ≠ [] := fun e => blks_ne (s := L1) g.bo (by
        have := @srtK_len (blks L1 G1 B)
        rw [e] at this
        exact List.length_eq_zero_iff.mp this.symm)
      have ne2 : srtK (blks L2 G2 B) ≠ [] := fun e => blks_ne (s := L2) g.symm.bo (by
        have := @srtK_len (blks L2 G2 B)
        rw [e] at this
        exact List.length_eq_zero_iff.mp this.symm)
      have p1 := g.g.p1.pl
      have p2 := g.g.p2.pl
      have k1 := @blks_len L1 G1 B
      have k2 := @blks_len L2 G2 B
      have wl : ∀ x y : List Bk, (∀ c ∈ x, c.1.length ≤ 10) → (∀ c ∈ y, c.1.length ≤ 10) → x.length ≤ 6 → y.length ≤ 6 → wsum (x ++ y) ≤ 500 := fun x y hx hy lx ly => by
        have := wsum_le (n := 10) (cl := x ++ y) fun c m => (List.mem_append.mp m).elim (hx c) (hy c)
        rw [List.length_append] at this
        omega
      have i1 : ∀ c ∈ srtK (blks L1 G1 B), c.1.length ≤ 10 := fun c m => Nat.le_trans (blks_item (srtK_mem.mp m)) (by omega)
      have i2 : ∀ c ∈ srtK (blks L2 G2 B), c.1.length ≤ 10 := fun c m => Nat.le_trans (blks_item (srtK_mem.mp m)) (by omega)
      have l1 : (srtK (blks L1 G1 B)).length ≤ 6 := by rw [srtK_len]; omega
      have l2 : (srtK (blks L2 G2 B)).length ≤ 6 := by rw [srtK_len]; omega
      refine ⟨_, _, _, rfl, ⟨ne1, ne2, by omega, wl _ _ i1 i2 l1 l2⟩, ?_⟩
      refine ⟨_, _, _, rfl, ⟨ne2, ne1, by omega, wl _ _ i2 i1 l2 l1⟩, ?_⟩
      have f1' : ((srtK (blks L1 G1 B) ++ srtK (blks L2 G2 B)).foldl fstep []).all (·.2) = (pps (gl L1 L2) (gl G1 G2)).isEmpty := f1
      have f2' : ((srtK (blks L2 G2 B) ++ srtK (blks L1 G1 B)).foldl fstep []).all (·.2) = (pps (gl L1 L2) (gl G1 G2)).isEmpty := f2
      rw [f1', f2']
      refine ⟨_, rfl, ⟨by simp, fun d m => ?_⟩, h⟩
      simp at m
      subst m
      trivial
    · rw [g.notdue fun z => q2 z.2]
      have e2 : showD L2 G2 B = .non := by unfold showD; rw [if_neg q2]
      rw [e2]
      simp [h]
  · rw [g.notdue fun z => q1 z.1]
    have e1 : showD L1 G1 B = .non := by unfold showD; rw [if_neg q1]
    rw [e1]
    simp [h]
end VL
/-! text Rm -/
/-! Rm: what is drawn: numbers, orders, names. -/
namespace VL
open PySem PySem.Spec PyProof.Rows L2
variable {cW cL cP : Addr}
def c_law_take : OC := fun as R => ∃ n : Int, as = [.sh .sto, .sh (.int n)] ∧ n ≤ 1000000 ∧ ∀ k : Int, 0 ≤ k → (k = 0 ∨ k < n) → R (.int k)
def c_law_pick : OC := fun as R => ∃ ds, as = [.sh .sto, .bo (.lst ds)] ∧ (ds ≠ [] ∧ ds.length ≤ 1000) ∧ ∀ d ∈ ds, R d
theorem at_int_nat {α : Type} {xs : List α} {k : Int} (h0 : 0 ≤ k) (h1 : k < xs.length) : ∃ x, xs[k.toNat]? = some x ∧ atI xs k = some x := by
  have hk : k.toNat < xs.length := by omega
  refine ⟨xs[k.toNat], by simp [hk], ?_⟩
  have h2 := atI_nat xs k.toNat
  rw [show ((k.toNat : Nat) : Int) = k by omega] at h2
  rw [h2]
  simp [hk]
theorem r_law_pick : ∀ as R, c_law_pick as R → ws_law_pick cW cL cP c_law_take (gaOf N_law_pick.length as) (poF R) := by
  rintro _ R ⟨ds, rfl, ⟨ne, l⟩, h⟩
  have hp : 0 < ds.length := List.length_pos_iff.mpr ne
  simp [ws_law_pick]
  refine ⟨ds.length, rfl, by omega, fun k k0 k1 => ?_⟩
  obtain ⟨x, hx, ha⟩ := at_int_nat (xs := ds) k0 (by omega)
  rw [ix_l _ ha]
  exact h x (List.mem_of_getElem? hx)
def c_law_number : OC := fun as R => ∃ lo hi : Int, as = [.sh .sto, .sh (.int lo), .sh (.int hi)] ∧ (lo ≤ hi ∧ -100000 ≤ lo ∧ hi ≤ 100000) ∧ ∀ k : Int, lo ≤ k → k ≤ hi → R (.int k)
theorem r_law_number : ∀ as R, c_law_number as R → ws_law_number cW cL cP c_law_take (gaOf N_law_number.length as) (poF R) := by
  rintro _ R ⟨lo, hi, rfl, ⟨h1, h2, h3⟩, h⟩
  simp [ws_law_number]
  refine ⟨3, rfl, by omega, fun k k0 k1 => ?_⟩
  simp
  split
  · refine ⟨4, rfl, by omega, fun k k0 k1 => ?_⟩
    obtain ⟨x, hx, ha⟩ := at_int_nat (xs := [D.int lo, D.int hi, D.int (if hi < lo + 1 then hi else lo + 1), D.int (if hi - 1 < lo then lo else hi - 1)]) k0 (by simp; omega)
    rw [ix_l _ ha]
    have m := List.mem_of_getElem? hx
    simp at m
    rcases m with rfl | rfl | rfl | rfl
    · exact h _ (by omega) (by omega)
    · exact h _ (by omega) (by omega)
    · exact h _ (by split <;> omega) (by split <;> omega)
    · exact h _ (by split <;> omega) (by split <;> omega)
  · refine ⟨hi - lo + 1, rfl, by omega, fun k k0 k1 => ?_⟩
    simp
    exact h _ (by omega) (by omega)
def c_law_disorder : OC := fun as R => ∃ ds, as = [.sh .sto, .sh (.lst ds)] ∧ ds.length ≤ 1000 ∧ ∀ es, es.Perm ds → R (.lst es)
theorem ixN_nat {n i : Nat} (h : i < n) : ixN n (i : Int) = some i := by
  unfold ixN
  rw [if_pos (by omega), if_pos (by omega)]
  simp
theorem r_law_disorder : ∀ as R, c_law_disorder as R → ws_law_disorder cW cL cP c_law_take (gaOf N_law_disorder.length as) (poF R) := by
  rintro _ R ⟨ds, rfl, l, h⟩
  simp [ws_law_disorder]
  refine ⟨4, rfl, by omega, fun k k0 k1 => ?_⟩
  simp
  split
  · exact h ds (.refl _)
  · split
    · exact h _ (List.reverse_perm _)
    · refine ⟨by omega, ?_⟩
      by_cases e0 : ds.length = 0
      · have er : rng 0 ((ds.length : Int) - 1) = [].map fun i : Nat => D.int (i : Nat) := by rw [e0]; rfl
        rw [er]
        refine FR_inv (fun i G => ∃ t4 t5 t6, G = [.sh .sto, .sh (.lst ds), .ow (.lst ds), .sh (.int k), t4, t5, t6]) ⟨_, _, _, rfl⟩ (by simp) ?_
        rintro _ ⟨t4, t5, t6, rfl⟩
        simp
        exact h ds (.refl _)
      · have er : ((ds.length : Int) - 1) = ((ds.length - 1 : Nat) : Nat) := by omega
        rw [er]
        refine FR_rng (fun i G => ∃ es t4 t5 t6, G = [.sh .sto, .sh (.lst ds), .ow (.lst es), .sh (.int k), t4, t5, t6] ∧ es.Perm ds) ⟨ds, _, _, _, rfl, .refl _⟩ ?_ ?_
        · rintro i _ hi ⟨es, t4, t5, t6, rfl, hp⟩
          have el := hp.length_eq
          simp [wb_law_disorder_1]
          refine ⟨_, rfl, by omega, fun j j0 j1 => ?_⟩
          have hj : (i : Int) + j = ((i + j.toNat : Nat) : Nat) := by omega
          have hi' : i < es.length := by omega
          have hj' : i + j.toNat < es.length := by omega
          simp
          rw [ix_l _ (x := es[i]) (by rw [atI_nat]; simp [hi'])]
          rw [hj, ix_l _ (x := es[i + j.toNat]) (by rw [atI_nat]; simp [hj'])]
          simp [ixN_nat hi']
          rw [show ((i : Int) + max j 0) = ((i + j.toNat : Nat) : Nat) by omega] at *
          rw [ixN_nat hj']
          simp
          exact (List.set_set_perm hi' hj').trans hp
        · rintro _ ⟨es, t4, t5, t6, rfl, hp⟩
          simp
          exact h es hp
end VL
/-! text Rn -/
/-! Rn: names drawn. -/
namespace VL
open PySem PySem.Spec PyProof.Rows L2
variable {cW cL cP : Addr}
/-- a name but for its length and for "it" -/
structure Pre (n : Nat) (x : Str) : Prop where
  ne : x.length ≠ 0
  le : x.length ≤ n
  hd : ∀ c, x.cps.toList[0]? = some c → c ∈ lets
  al : ∀ c ∈ x.cps.toList, c ∈ lets ∨ c ∈ figs
theorem Pre.nm {x : Str} (h : Pre 8 x) (n : x ≠ Str.ofString "it") : Nm x := ⟨h.ne, h.le, n, h.hd, h.al⟩
theorem Nm.pre {x : Str} (h : Nm x) : Pre 8 x := ⟨h.ne, h.le, h.hd, h.al⟩
theorem Pre.mono {m n : Nat} {x : Str} (h : Pre m x) (l : m ≤ n) : Pre n x := ⟨h.ne, Nat.le_trans h.le l, h.hd, h.al⟩
def nmB (x : Str) : Bool := decide (x.length ≠ 0) && decide (x.length ≤ 8) && decide (x ≠ Str.ofString "it") && (match x.cps.toList with | c :: _ => decide (c ∈ lets) | [] => false) && x.cps.toList.all fun c => decide (c ∈ lets ∨ c ∈ figs)
theorem nm_of {x : Str} (h : nmB x = true) : Nm x := by
  unfold nmB at h
  simp only [Bool.and_eq_true, decide_eq_true_eq, List.all_eq_true] at h
  obtain ⟨⟨⟨⟨h1, h2⟩, h3⟩, h4⟩, h5⟩ := h
  refine ⟨h1, h2, h3, fun c e => ?_, h5⟩
  cases q : x.cps.toList with
  | nil => rw [q] at e; cases e
  | cons d r =>
    rw [q] at h4 e
    simp at e h4
    subst e
    exact h4
theorem str_len (x : Str) : x.length = x.cps.toList.length := by simp [Str.length]
theorem app_cps (x y : Str) : (x ++ y).cps.toList = x.cps.toList ++ y.cps.toList := by
  show (x.cps ++ y.cps).toList = _
  simp
theorem app_len (x y : Str) : (x ++ y).length = x.length + y.length := by rw [str_len, str_len, str_len, app_cps, List.length_append]
theorem Pre.app {n : Nat} {x y : Str} (h : Pre n x) (k : ∀ c ∈ y.cps.toList, c ∈ lets ∨ c ∈ figs) : Pre (n + y.length) (x ++ y) := by
  refine ⟨by rw [app_len]; have := h.ne; omega, by rw [app_len]; have := h.le; omega, fun c e => ?_, fun c m => ?_⟩
  · rw [app_cps, List.getElem?_append_left (by have := h.ne; rw [str_len] at this; omega)] at e
    exact h.hd c e
  · rw [app_cps] at m
    exact (List.mem_append.mp m).elim (h.al c) (k c)
theorem cut_cps (x : Str) (n : Nat) : (cutS x none (some (n : Int))).cps.toList = x.cps.toList.take n := by
  unfold cutS
  have e1 : HT.sIx x.length 0 none = 0 := rfl
  have e2 : HT.sIx x.length x.length (some (n : Int)) = min n x.length := HT.sIx_nat _ _ _
  rw [e1, e2]
  simp [List.take_eq_take_iff, Str.length]
theorem Pre.cut {m n : Nat} {x : Str} (h : Pre m x) (hn : 0 < n) : Pre n (cutS x none (some (n : Int))) := by
  have hl := h.ne
  rw [str_len] at hl
  refine ⟨by rw [str_len, cut_cps, List.length_take]; omega, by rw [str_len, cut_cps, List.length_take]; omega, fun c e => ?_, fun c q => ?_⟩
  · rw [cut_cps, List.getElem?_take, if_pos hn] at e
    exact h.hd c e
  · rw [cut_cps] at q
    exact h.al c (List.mem_of_mem_take q)
def dig (k : Nat) : Str := digI (k : Int)
def valL (xs : List Nat) : Nat := xs.foldl (fun a c => 10 * a + (c - 48)) 0
theorem dig_all : ((List.range 200).all fun k => decide ((dig k).length ≠ 0) && decide ((dig k).length ≤ 3) && (decide (100 ≤ k) || decide ((dig k).length ≤ 2)) && ((dig k).cps.toList.all fun c => decide (c ∈ figs)) && decide (valL (dig k).cps.toList = k)) = true := by decide +kernel
theorem dig_of {k : Nat} (h : k < 200) : (dig k).length ≠ 0 ∧ (dig k).length ≤ 3 ∧ (k < 100 → (dig k).length ≤ 2) ∧ (∀ c ∈ (dig k).cps.toList, c ∈ figs) ∧ valL (dig k).cps.toList = k := by
  have := List.all_eq_true.mp dig_all k (by simpa using h)
  simp only [Bool.and_eq_true, Bool.or_eq_true, decide_eq_true_eq, List.all_eq_true] at this
  obtain ⟨⟨⟨⟨h1, h2⟩, h3⟩, h4⟩, h5⟩ := this
  exact ⟨h1, h2, fun q => h3.resolve_left (by omega), h4, h5⟩
theorem dig_inj {j k : Nat} (hj : j < 200) (hk : k < 200) (e : dig j = dig k) : j = k := by
  rw [← (dig_of hj).2.2.2.2, ← (dig_of hk).2.2.2.2, e]
theorem it_nofig : ∀ c ∈ (Str.ofString "it").cps.toList, c ∉ figs := by decide +kernel
theorem app_dig_it {x : Str} {k : Nat} (h : k < 200) : x ++ dig k ≠ Str.ofString "it" := fun e => by
  have h1 := (dig_of h).1
  rw [str_len] at h1
  obtain ⟨c, hc⟩ := List.exists_mem_of_ne_nil (dig k).cps.toList (fun e => h1 (by rw [e]; rfl))
  exact it_nofig c (by rw [← e, app_cps]; exact List.mem_append.mpr (.inr hc)) ((dig_of h).2.2.2.1 c hc)
theorem app_cancel {x y z : Str} (e : x ++ y = x ++ z) : y = z := by
  have := congrArg (fun s : Str => s.cps.toList) e
  simp only [app_cps] at this
  exact PySem.W.str_of_cps (List.append_cancel_left this)
theorem nm_dig {x : Str} {k : Nat} (h : Pre 6 x) (hk : k < 100) : Nm (x ++ dig k) := by
  obtain ⟨_, _, d2, d3, _⟩ := dig_of (show k < 200 by omega)
  exact ((h.app fun c m => .inr (d3 c m)).mono (by have := d2 hk; omega)).nm (app_dig_it (by omega))
/-- n + 1 words of which no two are alike do not all stand among n -/
theorem pigeon {xs : List Str} {f : Nat → Str} {n : Nat} (inj : ∀ j k, j < n → k < n → f j = f k → j = k) (h : ∀ j < n, f j ∈ xs) : n ≤ xs.length := by
  have nd : ((List.range n).map f).Nodup := by
    rw [List.nodup_iff_pairwise_ne, List.pairwise_map]
    refine List.Pairwise.imp_of_mem ?_ (List.nodup_range (n := n))
    intro a b ha hb hab e
    exact hab (inj a b (by simpa using ha) (by simpa using hb) e)
  have := len_sub nd fun q m => by
    obtain ⟨j, hj, rfl⟩ := List.mem_map.mp m
    exact h j (by simpa using hj)
  simpa using this
def c_law_unlike : OC := fun as R => ∃ b xs, as = [.sh (.str b), .bo (dS xs)] ∧ (Pre 6 b ∧ xs.length ≤ 20) ∧ ∀ w, Nm w → w ∉ xs → R (.str w)
theorem r_law_unlike : ∀ as R, c_law_unlike as R → ws_law_unlike cW cL cP (gaOf N_law_unlike.length as) (poF R) := by
  rintro _ R ⟨b, xs, rfl, ⟨hb, hl⟩, h⟩
  have b6 := hb.le
  simp [ws_law_unlike]
  refine ⟨by omega, ?_⟩
  have er : ((xs.length : Int) + 1) = ((xs.length + 1 : Nat) : Nat) := by omega
  rw [er]
  refine FR_rng (fun i G => (∃ t2 t3, G = [.sh (.str b), .bo (dS xs), t2, t3]) ∧ ∀ j < i, b ++ dig j ∈ xs) ⟨⟨_, _, rfl⟩, by omega⟩ ?_ ?_
  · rintro i _ hi ⟨⟨t2, t3, rfl⟩, hk⟩
    obtain ⟨d1, d2, _, _, _⟩ := dig_of (show i < 200 by omega)
    simp [wb_law_unlike_1]
    refine ⟨by omega, ?_⟩
    have ed : digI (i : Int) = dig i := rfl
    rw [ed]
    refine ⟨by omega, ?_⟩
    split
    · rename_i m
      intro j hj
      by_cases q : j < i
      · exact hk j q
      · have : j = i := by omega
        subst this; exact m
    · rename_i m
      exact h _ (nm_dig hb (by omega)) m
  · rintro _ ⟨⟨t2, t3, rfl⟩, hk⟩
    have := pigeon (xs := xs) (f := fun j => b ++ dig j) (n := xs.length + 1) (fun j k hj hk e => dig_inj (by omega) (by omega) (app_cancel e)) hk
    omega
end VL
/-! text Ro -/
/-! Ro: names and heights drawn. -/
namespace VL
open PySem PySem.Spec PyProof.Rows L2
variable {cW cL cP : Addr}
def wordsN : List Str := ["a", "z", "i", "t", "ti", "it0", "itt", "end", "not", "else", "if", "sink", "turn", "hump", "web", "place", "land", "n1", "b1", "p2", "p10", "zzzzzzzz", "a0000000", "abcdefgh"]
theorem wordsN_all : wordsN.all nmB = true := by decide +kernel
theorem lets_len : lets.length = 26 := by decide +kernel
theorem sgn_len : (Str.ofString "abcdefghijklmnopqrstuvwxyz" ++ Str.ofString "0123456789").cps.toList.length = 36 := by decide +kernel
theorem let_len : (Str.ofString "abcdefghijklmnopqrstuvwxyz").length = 26 := by decide +kernel
theorem fig_len : (Str.ofString "0123456789").length = 10 := by decide +kernel
theorem nm_it1 : Nm (Str.ofString "it1") := nm_of (by decide +kernel)
theorem pre_one {c : Nat} (h : c ∈ lets) : Pre 1 ⟨#[c]⟩ := ⟨fun e => absurd (show (1 : Nat) = 0 from e) (by decide), Nat.le_refl _, fun d e => by
  have : c = d := by simpa using e
  rw [← this]; exact h, fun d m => by
  have : d = c := by simpa using m
  rw [this]; exact .inl h⟩
theorem ix_let {k : Int} (R : D → Prop) (h0 : 0 ≤ k) (h1 : k < 26) (h : ∀ c ∈ lets, lets[k.toNat]? = some c → R (.str ⟨#[c]⟩)) : oIx (.str (Str.ofString "abcdefghijklmnopqrstuvwxyz")) (.int k) R := by
  obtain ⟨c, hc, ha⟩ := at_int_nat (xs := lets) h0 (by rw [lets_len]; omega)
  rw [ix_s (c := c) ha (by rw [let_len]; omega)]
  exact h c (List.mem_of_getElem? hc) hc
def c_law_name : OC := fun as R => as = [.sh .sto] ∧ ∀ x, Nm x → R (.str x)
theorem r_law_name : ∀ as R, c_law_name as R → ws_law_name cW cL cP c_law_take c_law_pick c_law_number (gaOf N_law_name.length as) (poF R) := by
  rintro _ R ⟨rfl, h⟩
  simp [ws_law_name]
  refine ⟨8, rfl, by omega, fun k k0 k1 => ?_⟩
  simp
  split
  · refine ⟨wordsN.map .str, rfl, ⟨by simp [wordsN], by simp [wordsN]⟩, fun d m => ?_⟩
    obtain ⟨x, mx, rfl⟩ := List.mem_map.mp m
    exact h x (nm_of (List.all_eq_true.mp wordsN_all x mx))
  · refine ⟨by rw [let_len, fig_len]; omega, 26, rfl, by omega, fun k k0 k1 => ?_⟩
    refine ix_let _ k0 (by omega) fun c mc hc => ?_
    refine ⟨0, 7, rfl, by omega, fun j j0 j1 => ?_⟩
    simp
    refine ⟨by omega, ?_⟩
    have ej : j = (j.toNat : Nat) := by omega
    rw [ej]
    refine FR_rng (fun i G => ∃ x t5, G = [.sh .sto, .no, .sh (.str (Str.ofString "abcdefghijklmnopqrstuvwxyz")), .sh (.str (Str.ofString "abcdefghijklmnopqrstuvwxyz" ++ Str.ofString "0123456789")), .sh (.str x), t5] ∧ Pre (i + 1) x) ⟨_, _, rfl, pre_one mc⟩ ?_ ?_
    · rintro i _ hi ⟨x, t5, rfl, hx⟩
      simp [wb_law_name_1]
      refine ⟨36, rfl, by omega, fun k k0 k1 => ?_⟩
      obtain ⟨c, hc, ha⟩ := at_int_nat (xs := (Str.ofString "abcdefghijklmnopqrstuvwxyz" ++ Str.ofString "0123456789").cps.toList) k0 (by rw [sgn_len]; omega)
      rw [ix_s (c := c) ha (by rw [str_len, sgn_len]; omega)]
      have := hx.le
      simp
      refine ⟨by show x.length + 1 ≤ _; omega, ?_⟩
      have mc := List.mem_of_getElem? hc
      rw [app_cps] at mc
      exact hx.app (y := ⟨#[c]⟩) fun d m => by
        have : d = c := by simpa using m
        rw [this]; exact List.mem_append.mp mc
    · rintro _ ⟨x, t5, rfl, hx⟩
      simp
      split
      · exact h _ nm_it1
      · rename_i q
        exact h x ((hx.mono (by omega)).nm q)
def F0 (j : Nat) : Str := ⟨#[lets.getD j 0]⟩
def F2 (j : Nat) : Str := repS ⟨#[lets.getD (j / 8) 0]⟩ (1 + (j : Int) % 8)
theorem F0_all : (((List.range 16).map F0).all nmB) = true ∧ ((List.range 16).map F0).Nodup := by decide +kernel
theorem F2_all : (((List.range 16).map F2).all nmB) = true ∧ ((List.range 16).map F2).Nodup := by decide +kernel
theorem map_new {F : Nat → Str} {i : Nat} (n : ((List.range 16).map F).Nodup) (h : i < 16) : F i ∉ (List.range i).map F := fun m => by
  have e : (List.range 16).map F = (List.range (i + 1)).map F ++ ((List.range 16).drop (i + 1)).map F := by
    rw [← List.map_append]
    congr 1
    rw [show List.range (i + 1) = (List.range 16).take (i + 1) by rw [List.take_range]; congr 1; omega, List.take_append_drop]
  rw [e, List.range_succ, List.map_append, List.append_assoc, List.nodup_append] at n
  exact n.2.2 _ m (F i) (by simp) rfl
theorem map_nm {F : Nat → Str} {i : Nat} (n : (((List.range 16).map F).all nmB) = true) (h : i < 16) : Nm (F i) := nm_of (List.all_eq_true.mp n _ (List.mem_map.mpr ⟨i, by simpa using h, rfl⟩))
def c_law_names : OC := fun as R => ∃ n : Nat, as = [.sh .sto, .sh (.int (n : Nat))] ∧ n ≤ 16 ∧ ∀ xs : List Str, xs.Nodup → (∀ x ∈ xs, Nm x) → xs.length = n → R (dS xs)
def pS : Str := Str.ofString "p"
theorem pre_p : Pre 1 pS := ⟨by decide +kernel, by decide +kernel, fun c e => by
  have : pS.cps.toList[0]? = some 112 := by decide +kernel
  rw [this] at e
  cases e
  decide +kernel, by decide +kernel⟩
/-- the names so far -/
structure Nms (st : Int) (i : Nat) (m : Nat) (xs : List Str) : Prop where
  z : st = 0 → xs = (List.range i).map F0
  t : st = 2 → xs = (List.range i).map F2
  o : m ≤ 10 * i
  q : st = 1 → ∀ x ∈ xs, ∃ k ≤ m, x = pS ++ dig k
  nd : xs.Nodup
  nm : ∀ x ∈ xs, Nm x
  le : xs.length = i
theorem nodup_snoc {xs : List Str} {x : Str} (h : xs.Nodup) (n : x ∉ xs) : (xs ++ [x]).Nodup := List.nodup_append.mpr ⟨h, by simp, fun a ha b hb e => n (by rw [← List.mem_singleton.mp hb, ← e]; exact ha)⟩
theorem Nms.add {st : Int} {i m m' : Nat} {xs : List Str} {x : Str} (h : Nms st i m xs) (hz : st = 0 → x = F0 i) (ht : st = 2 → x = F2 i) (hm : m ≤ m') (ho : m' ≤ m + 10) (hq : st = 1 → x = pS ++ dig m') (hn : Nm x) (hx : x ∉ xs) : Nms st (i + 1) m' (xs ++ [x]) :=
  ⟨fun e => by rw [h.z e, hz e, List.range_succ, List.map_append]; rfl, fun e => by rw [h.t e, ht e, List.range_succ, List.map_append]; rfl, by have := h.o; omega, fun e y my => (List.mem_append.mp my).elim (fun q => by
    obtain ⟨k, hk, e'⟩ := h.q e y q
    exact ⟨k, by omega, e'⟩) fun q => ⟨m', Nat.le_refl _, by rw [List.mem_singleton.mp q]; exact hq e⟩, nodup_snoc h.nd hx, fun y my => (List.mem_append.mp my).elim (h.nm y) fun q => by rw [List.mem_singleton.mp q]; exact hn, by rw [List.length_append, h.le]; rfl⟩
theorem rep_one (c : Nat) (k : Int) (R : D → Prop) (h0 : -100 ≤ k) (h1 : k ≤ 100) : oRep (.str ⟨#[c]⟩) (.int k) R = R (.str (repS ⟨#[c]⟩ k)) := by
  have : (⟨#[c]⟩ : Str).length = 1 := rfl
  simp [oRep, h0, h1, this]
theorem let_at {k : Nat} {c : Nat} (h : lets[k]? = some c) : lets.getD k 0 = c := by rw [List.getD_eq_getElem?_getD, h]; rfl
theorem r_law_names : ∀ as R, c_law_names as R → ws_law_names cW cL cP c_law_take c_law_name c_law_unlike c_law_disorder (gaOf N_law_names.length as) (poF R) := by
  rintro _ R ⟨n, rfl, hn, h⟩
  simp [ws_law_names]
  refine ⟨5, rfl, by omega, fun st s0 s1 => ?_⟩
  simp
  refine ⟨by omega, ?_⟩
  refine FR_rng (fun i G => ∃ xs m t6 t7, G = [.sh .sto, .sh (.int (n : Nat)), .sh (.str (Str.ofString "abcdefghijklmnopqrstuvwxyz")), .sh (.int st), .ow (dS xs), .sh (.int (m : Nat)), t6, t7] ∧ Nms st i m xs) ⟨[], 0, _, _, rfl, ⟨fun _ => rfl, fun _ => rfl, by omega, fun _ x m => absurd m (by simp), by simp, fun x m => absurd m (by simp), rfl⟩⟩ ?_ ?_
  · rintro i _ hi ⟨xs, m, t6, t7, rfl, g⟩
    have gl := g.le
    have go := g.o
    have n26 : (n : Int) ≤ 26 := by omega
    have lx : xs.length < 100000 := by omega
    have fin : ∀ (x : Str) (m' : Nat), Nms st (i + 1) m' (xs ++ [x]) → ∃ xs_1, D.lst (xs.map D.str ++ [D.str x]) = dS xs_1 ∧ ∃ x, m' = x ∧ Nms st (i + 1) x xs_1 := fun x m' q => ⟨xs ++ [x], by simp [dS], m', rfl, q⟩
    simp [wb_law_names_1, n26]
    by_cases e0 : st = 0
    · subst e0
      simp
      refine ix_let _ (by omega) (by omega) fun c mc hc => ?_
      have ec : (⟨#[c]⟩ : Str) = F0 i := by unfold F0; rw [let_at (by simpa using hc)]
      rw [ec]
      simp [lx]
      refine ⟨xs ++ [F0 i], m + 1, ⟨by simp [dS], by simp⟩, g.add (fun _ => rfl) (fun q => by omega) (by omega) (by omega) (fun q => by omega) (map_nm F0_all.1 (by omega)) ?_⟩
      rw [g.z rfl]
      exact map_new F0_all.2 (by omega)
    · by_cases e1 : st = 1
      · subst e1
        simp
        refine ⟨9, rfl, by omega, fun k k0 k1 => ?_⟩
        have em : (m : Int) + 1 + k = ((m + 1 + k.toNat : Nat) : Nat) := by omega
        have hb : m + 1 + k.toNat < 200 := by omega
        obtain ⟨d1, d2, _, d4, _⟩ := dig_of hb
        simp
        rw [em]
        have ed : digI ((m + 1 + k.toNat : Nat) : Int) = dig (m + 1 + k.toNat) := rfl
        rw [ed]
        refine ⟨by omega, by have : (Str.ofString "p").length = 1 := (by decide +kernel); omega, lx, ?_⟩
        have ep : Str.ofString "p" = pS := rfl
        rw [ep]
        refine ⟨xs ++ [pS ++ dig (m + 1 + k.toNat)], m + 1 + k.toNat, ⟨by simp [dS], rfl⟩, g.add (fun q => by omega) (fun q => by omega) (by omega) (by omega) (fun _ => rfl) ?_ fun mx => ?_⟩
        · exact ((pre_p.app fun c mc => .inr (d4 c mc)).mono (by omega)).nm (app_dig_it hb)
        · obtain ⟨k', hk', e⟩ := g.q rfl _ mx
          have := dig_inj hb (by omega) (app_cancel e)
          omega
      · by_cases e2 : st = 2
        · subst e2
          simp
          refine ⟨⟨by omega, by omega⟩, ?_⟩
          have ei : (i : Int) / 8 = ((i / 8 : Nat) : Int) := by omega
          refine ix_let _ (by omega) (by omega) fun c mc hc => ?_
          rw [rep_one _ _ _ (by omega) (by omega)]
          have ec : repS ⟨#[c]⟩ (1 + (i : Int) % 8) = F2 i := by
            unfold F2
            rw [let_at (k := i / 8) (c := c) (by rw [show ((i : Int) / 8).toNat = i / 8 by omega] at hc; exact hc)]
          rw [ec]
          simp [lx]
          refine ⟨xs ++ [F2 i], m + 1, ⟨by simp [dS], by simp⟩, g.add (fun q => by omega) (fun _ => rfl) (by omega) (by omega) (fun q => by omega) (map_nm F2_all.1 (by omega)) ?_⟩
          rw [g.t rfl]
          exact map_new F2_all.2 (by omega)
        · simp [e0, e1, e2]
          refine ⟨rfl, fun w hw => ?_⟩
          simp
          split
          · rename_i mw
            have := hw.le
            refine ⟨by omega, _, xs, rfl, ⟨hw.pre.cut (n := 6) (by omega), by omega⟩, fun w2 hw2 n2 => ?_⟩
            simp [lx]
            exact ⟨xs ++ [w2], m + 1, ⟨by simp [dS], by simp⟩, g.add (fun q => absurd q e0) (fun q => absurd q e2) (by omega) (by omega) (fun q => absurd q e1) hw2 n2⟩
          · rename_i mw
            refine ⟨lx, xs ++ [w], m + 1, ⟨by simp [dS], by simp⟩, g.add (fun q => absurd q e0) (fun q => absurd q e2) (by omega) (by omega) (fun q => absurd q e1) hw mw⟩
  · rintro _ ⟨xs, m, t6, t7, rfl, g⟩
    have gl := g.le
    simp
    split
    · refine ⟨xs.map .str, rfl, by simp; omega, fun es pm => ?_⟩
      -- a permutation of texts is one of a list of texts
      have : ∀ (es ds : List D), es.Perm ds → ∀ xs : List Str, ds = xs.map .str → ∃ ys : List Str, es = ys.map .str ∧ ys.Perm xs := fun es ds pm => by
        induction pm with
        | nil => intro xs e; exact ⟨[], rfl, by cases xs with | nil => exact .refl _ | cons => cases e⟩
        | cons x _ ih =>
          intro xs e
          cases xs with
          | nil => cases e
          | cons y ys =>
            rw [List.map_cons] at e
            cases e
            obtain ⟨zs, e1, p1⟩ := ih ys rfl
            exact ⟨y :: zs, by rw [e1]; rfl, p1.cons y⟩
        | swap x y l =>
          intro xs e
          match xs, e with
          | a :: b :: r, e =>
            simp only [List.map_cons, List.cons.injEq] at e
            obtain ⟨rfl, rfl, rfl⟩ := e
            exact ⟨b :: a :: r, rfl, .swap _ _ _⟩
          | [_], e => simp at e
          | [], e => simp at e
        | trans _ _ ih1 ih2 =>
          intro xs e
          obtain ⟨ys, e1, p1⟩ := ih2 xs e
          obtain ⟨zs, e2, p2⟩ := ih1 ys e1
          exact ⟨zs, e2, p2.trans p1⟩
      obtain ⟨ys, e1, p1⟩ := this es _ pm xs rfl
      subst e1
      exact h ys (p1.nodup_iff.mpr g.nd) (fun x m => g.nm x (p1.mem_iff.mp m)) (by rw [p1.length_eq]; exact gl)
    · exact h xs g.nd g.nm gl
end VL
/-! text Rp -/
/-! Rp: strangers, heights, menus, bond ends. -/
namespace VL
open PySem PySem.Spec PyProof.Rows L2
variable {cW cL cP : Addr}
@[simp] theorem isL_pick (xs : List Str) : D.lst (xs.map .str) = dS xs := rfl
theorem cut_take {α : Type} (f : α → D) (xs : List α) {k : Int} (h : 0 ≤ k) : cutD (xs.map f) none (some k) = (xs.take k.toNat).map f := by
  unfold cutD
  have e1 : HT.sIx (xs.map f).length 0 none = 0 := rfl
  have e2 : HT.sIx (xs.map f).length (xs.map f).length (some k) = min k.toNat (xs.map f).length := by
    have := HT.sIx_nat (xs.map f).length (xs.map f).length k.toNat
    rw [show ((k.toNat : Nat) : Int) = k by omega] at this
    exact this
  rw [e1, e2, List.drop_zero, Nat.sub_zero, List.map_take]
  rw [List.take_eq_take_iff]
  omega
theorem cut_drop {α : Type} (f : α → D) (xs : List α) {k : Int} (h : 0 ≤ k) : cutD (xs.map f) (some k) none = (xs.drop k.toNat).map f := by
  unfold cutD
  have e1 : HT.sIx (xs.map f).length (xs.map f).length none = (xs.map f).length := rfl
  have e2 : HT.sIx (xs.map f).length 0 (some k) = min k.toNat (xs.map f).length := by
    have := HT.sIx_nat (xs.map f).length 0 k.toNat
    rw [show ((k.toNat : Nat) : Int) = k by omega] at this
    exact this
  rw [e1, e2, List.map_drop]
  have e3 : (xs.map f).drop (min k.toNat (xs.map f).length) = (xs.map f).drop k.toNat := by
    by_cases q : k.toNat ≤ (xs.map f).length
    · rw [Nat.min_eq_left q]
    · rw [Nat.min_eq_right (by omega), List.drop_length, List.drop_eq_nil_of_le (by omega)]
  rw [e3]
  exact List.take_of_length_le (by rw [List.length_drop]; omega)
theorem slL_take {α : Type} (f : α → D) (xs : List α) {k : Int} (h : 0 ≤ k) (R : D → Prop) : slLD (.lst (xs.map f)) none (some k) R = R (.lst ((xs.take k.toNat).map f)) := by
  show R (.lst (cutD _ _ _)) = _
  rw [cut_take f xs h]
theorem slL_S (xs : List Str) {k : Int} (h : 0 ≤ k) (R : D → Prop) : slLD (dS xs) none (some k) R = R (dS (xs.take k.toNat)) := slL_take .str xs h R
theorem slL_Sd (xs : List Str) {k : Int} (h : 0 ≤ k) (R : D → Prop) : slLD (dS xs) (some k) none R = R (dS (xs.drop k.toNat)) := by
  show R (.lst (cutD _ _ _)) = _
  rw [cut_drop .str xs h]
  rfl
theorem perm_map_inv {α β : Type} {f : α → β} : ∀ {es ds : List β}, es.Perm ds → ∀ xs : List α, ds = xs.map f → ∃ ys : List α, es = ys.map f ∧ ys.Perm xs := fun {es ds} pm => by
  induction pm with
  | nil => intro xs e; exact ⟨[], rfl, by cases xs with | nil => exact .refl _ | cons => cases e⟩
  | cons x _ ih =>
    intro xs e
    cases xs with
    | nil => cases e
    | cons y ys =>
      rw [List.map_cons] at e
      injection e with e1 e2
      obtain ⟨zs, e3, p1⟩ := ih ys e2
      exact ⟨y :: zs, by rw [e3, e1]; rfl, p1.cons y⟩
  | swap x y l =>
    intro xs e
    match xs, e with
    | a :: b :: r, e =>
      simp only [List.map_cons, List.cons.injEq] at e
      obtain ⟨rfl, rfl, rfl⟩ := e
      exact ⟨b :: a :: r, rfl, .swap _ _ _⟩
    | [_], e => simp at e
    | [], e => simp at e
  | trans _ _ ih1 ih2 =>
    intro xs e
    obtain ⟨ys, e1, p1⟩ := ih2 xs e
    obtain ⟨zs, e2, p2⟩ := ih1 ys e1
    exact ⟨zs, e2, p2.trans p1⟩
def c_law_stranger : OC := fun as R => ∃ xs, as = [.sh .sto, .bo (dS xs)] ∧ (xs.length ≤ 20 ∧ ∀ x ∈ xs, Nm x) ∧ ∀ w, Nm w → w ∉ xs → R (.str w)
theorem r_law_stranger : ∀ as R, c_law_stranger as R → ws_law_stranger cW cL cP c_law_name c_law_take c_law_pick c_law_unlike (gaOf N_law_stranger.length as) (poF R) := by
  rintro _ R ⟨xs, rfl, ⟨hl, hx⟩, h⟩
  have fin : ∀ w, Pre 8 w → (w.length ≤ 100000 ∧ c_law_unlike [.sh (.str (cutS w none (some 5))), .bo (dS xs)] R) ∧ (w ≠ Str.ofString "it" → w ∉ xs → R (.str w)) := fun w hw => by
    have := hw.le
    refine ⟨⟨by omega, _, xs, rfl, ⟨(hw.cut (n := 5) (by omega)).mono (by omega), hl⟩, h⟩, fun q1 q2 => h w (hw.nm q1) q2⟩
  simp [ws_law_stranger]
  refine ⟨rfl, fun w hw => ?_⟩
  simp
  have rest : ∀ w, Pre 8 w → if w = Str.ofString "it" then w.length ≤ 100000 ∧ c_law_unlike [Sl.sh (D.str (cutS w none (some 5))), Sl.bo (dS xs)] R else if w ∈ xs then w.length ≤ 100000 ∧ c_law_unlike [Sl.sh (D.str (cutS w none (some 5))), Sl.bo (dS xs)] R else R (D.str w) := fun w hw => by
    obtain ⟨f1, f2⟩ := fin w hw
    split
    · exact f1
    · rename_i q1
      split
      · exact f1
      · rename_i q2
        exact f2 q1 q2
  split
  · rename_i hp
    refine ⟨3, rfl, by omega, fun k k0 k1 => ?_⟩
    simp
    split
    · refine ⟨xs.map .str, rfl, ⟨fun e => by simp at e; rw [e] at hp; simp at hp, by simp; omega⟩, fun d m => ?_⟩
      obtain ⟨x, mx, rfl⟩ := List.mem_map.mp m
      have hx' := (hx x mx).pre
      have := hx'.le
      simp
      refine ⟨by omega, ?_⟩
      have pc : Pre 5 (cutS x none (some 5)) := hx'.cut (n := 5) (by omega)
      refine ⟨(["0", "a", "z"] : List Str).map .str, rfl, ⟨by simp, by simp⟩, fun d m => ?_⟩
      have pl := pc.le
      obtain ⟨y, my, rfl⟩ := List.mem_map.mp m
      have hy : y.length = 1 ∧ ∀ c ∈ y.cps.toList, c ∈ lets ∨ c ∈ figs := by
        simp at my
        rcases my with rfl | rfl | rfl <;> decide +kernel
      simp
      refine ⟨by rw [hy.1]; omega, rest _ ((pc.app hy.2).mono (by rw [hy.1]; omega))⟩
    · exact rest w hw.pre
  · exact rest w hw.pre
def c_law_any_height : OC := fun as R => as = [.sh .sto] ∧ ∀ k : Int, -9999 ≤ k → k ≤ 9999 → R (.int k)
theorem r_law_any_height : ∀ as R, c_law_any_height as R → ws_law_any_height cW cL cP c_law_take c_law_pick (gaOf N_law_any_height.length as) (poF R) := by
  rintro _ R ⟨rfl, h⟩
  simp [ws_law_any_height]
  refine ⟨4, rfl, by omega, fun k k0 k1 => ?_⟩
  simp
  split
  · refine ⟨_, rfl, ⟨by simp, by simp⟩, fun d m => ?_⟩
    simp at m
    rcases m with rfl | rfl | rfl | rfl | rfl | rfl | rfl | rfl | rfl | rfl | rfl | rfl | rfl <;> exact h _ (by omega) (by omega)
  · split
    · refine ⟨20, rfl, by omega, fun k k0 k1 => ?_⟩
      simp
      exact h _ (by omega) (by omega)
    · refine ⟨19999, rfl, by omega, fun k k0 k1 => ?_⟩
      simp
      exact h _ (by omega) (by omega)
def c_law_menu : OC := fun as R => ∃ n : Int, as = [.sh .sto, .sh (.int n)] ∧ (1 ≤ n ∧ n ≤ 4) ∧ ∀ hs : List Int, hs ≠ [] → hs.length ≤ 4 → (∀ h ∈ hs, -9999 ≤ h ∧ h ≤ 9999) → R (dIl hs)
theorem r_law_menu : ∀ as R, c_law_menu as R → ws_law_menu cW cL cP c_law_pick c_law_number c_law_take (gaOf N_law_menu.length as) (poF R) := by
  rintro _ R ⟨n, rfl, ⟨n1, n4⟩, h⟩
  simp [ws_law_menu]
  refine ⟨_, rfl, ⟨by simp, by simp⟩, fun d m => ?_⟩
  have hd : ∃ st : Int, d = .int st ∧ 1 ≤ st ∧ st ≤ 1000 := by
    simp at m
    rcases m with rfl | rfl | rfl | rfl
    · exact ⟨1, rfl, by omega, by omega⟩
    · exact ⟨2, rfl, by omega, by omega⟩
    · exact ⟨9, rfl, by omega, by omega⟩
    · exact ⟨1000, rfl, by omega, by omega⟩
  obtain ⟨st, rfl, s1, s2⟩ := hd
  refine ⟨_, rfl, ⟨by simp, by simp⟩, fun d m => ?_⟩
  have hd : ∃ v : Int, d = .int v ∧ -9999 ≤ v ∧ v ≤ 1 := by
    simp at m
    rcases m with rfl | rfl | rfl | rfl
    · exact ⟨0, rfl, by omega, by omega⟩
    · exact ⟨1, rfl, by omega, by omega⟩
    · exact ⟨-2, rfl, by omega, by omega⟩
    · exact ⟨-9999, rfl, by omega, by omega⟩
  obtain ⟨v, rfl, v1, v2⟩ := hd
  refine ⟨1, n, rfl, by omega, fun j j0 j1 => ?_⟩
  simp
  refine ⟨by omega, ?_⟩
  have ej : j = (j.toNat : Nat) := by omega
  rw [ej]
  refine FR_rng (fun i G => ∃ v hs t5, G = [.sh .sto, .sh (.int n), .sh (.int st), .sh (.int v), .ow (dIl hs), t5] ∧ hs.length = i ∧ (∀ h ∈ hs, -9999 ≤ h ∧ h ≤ 9999) ∧ -9999 ≤ v ∧ v ≤ 1 + 1000 * i) ⟨v, [], _, rfl, rfl, by simp, v1, by omega⟩ ?_ ?_
  · rintro i _ hi ⟨v, hs, t5, rfl, hl, hh, v1, v2⟩
    simp [wb_law_menu_1]
    refine ⟨by omega, st, rfl, by omega, fun k k0 k1 => ?_⟩
    simp
    refine ⟨_, hs ++ [v], ⟨rfl, by simp [dIl]⟩, by simp [hl], fun h m => ?_, by omega, by omega⟩
    rcases List.mem_append.mp m with m | m
    · exact hh h m
    · rw [List.mem_singleton.mp m]; omega
  · rintro _ ⟨v, hs, t5, rfl, hl, hh, v1, v2⟩
    simp
    exact h hs (fun e => by rw [e] at hl; simp at hl; omega) (by omega) hh
end VL
/-! text Rq -/
/-! Rq: bonds drawn. -/
namespace VL
open PySem PySem.Spec PyProof.Rows L2
variable {cW cL cP : Addr}
def dE (e : Nat × Nat) : D := .tup [.int (e.1 : Nat), .int (e.2 : Nat)]
@[simp] theorem ix_E0 (e : Nat × Nat) (R : D → Prop) : oIx (dE e) (.int 0) R = R (.int (e.1 : Nat)) := ix_t0 _ _ _
@[simp] theorem ix_E1 (e : Nat × Nat) (R : D → Prop) : oIx (dE e) (.int 1) R = R (.int (e.2 : Nat)) := ix_t1 _ _ _ _
def dEs (es : List (Nat × Nat)) : D := .lst (es.map dE)
@[simp] theorem len_Es (es : List (Nat × Nat)) (R : D → Prop) : cLen [.bo (dEs es)] R = R (.int (es.length : Nat)) := by simp [cLen, dEs]
@[simp] theorem in_3 (neg : Bool) (x a b c : Int) (R : D → Prop) : oIn neg (.int x) (.tup [.int a, .int b, .int c]) R = R (.bl (if neg then !decide (x ∈ [a, b, c]) else decide (x ∈ [a, b, c]))) := in_It R [a, b, c] neg x
def EOk (n : Nat) (e : Nat × Nat) : Prop := e.1 < e.2 ∧ e.2 < n
def c_law_ends : OC := fun as R => ∃ n : Nat, as = [.sh .sto, .sh (.int (n : Nat))] ∧ n ≤ 10 ∧ ∀ es : List (Nat × Nat), es.length ≤ 20 → (∀ e ∈ es, EOk n e) → R (dEs es)
theorem FR_rng1 {n : Nat} (I : Nat → Ga → Prop) {B : D → Ga → Po → Prop} {G : Ga} {P : Po} (h0 : I 0 G)
    (hb : ∀ (i : Nat) G', i + 1 < n → I i G' → B (.int ((i + 1 : Nat) : Nat)) G' { nx := I (i + 1), ct := I (i + 1), bk := P.nx, rt := P.rt }) (hr : ∀ G', I (n - 1) G' → P.nx G') : FR (rng 1 (n : Nat)) B G P := by
  have : rng 1 (n : Nat) = (List.range (n - 1)).map fun i => D.int ((i + 1 : Nat) : Nat) := by
    unfold rng
    rw [show ((n : Int) - 1).toNat = n - 1 by omega]
    refine List.map_congr_left fun i _ => ?_
    rw [show (1 + (i : Int)) = ((i + 1 : Nat) : Int) by omega]
  rw [this]
  refine FR_inv I h0 (fun i x G' hx hi => ?_) fun G' hi => hr G' (by rwa [List.length_range] at hi)
  rw [List.getElem?_eq_some_iff] at hx
  obtain ⟨hl, hx⟩ := hx
  rw [List.length_range] at hl
  rw [List.getElem_range] at hx
  subst hx
  exact hb i G' (by omega) hi
theorem pairD (a b : Nat) (h : a ≠ b) (n : Nat) (ha : a < n) (hb : b < n) : ∃ e, EOk n e ∧ D.tup [.int (if (b : Int) < a then b else a), .int (if (b : Int) > a then b else a)] = dE e := by
  by_cases q : b < a
  · refine ⟨(b, a), ⟨q, ha⟩, ?_⟩
    rw [if_pos (by omega), if_neg (by omega)]
    rfl
  · refine ⟨(a, b), ⟨by show a < b; omega, hb⟩, ?_⟩
    rw [if_neg (by omega), if_pos (by omega)]
    rfl
theorem es_add {n : Nat} {es : List (Nat × Nat)} {e : Nat × Nat} (h : ∀ e ∈ es, EOk n e) (k : EOk n e) : ∀ e' ∈ es ++ [e], EOk n e' := fun e' m => (List.mem_append.mp m).elim (h e') fun q => by rw [List.mem_singleton.mp q]; exact k
theorem r_law_ends : ∀ as R, c_law_ends as R → ws_law_ends cW cL cP c_law_take c_law_disorder c_law_pick (gaOf N_law_ends.length as) (poF R) := by
  rintro _ R ⟨n, rfl, hn, h⟩
  simp [ws_law_ends]
  split
  · exact h [] (by simp) (by simp)
  rename_i n2
  refine ⟨8, rfl, by omega, fun st s0 s1 => ?_⟩
  simp
  refine ⟨by omega, ?_⟩
  refine ⟨rng 0 (n : Nat), rfl, by rw [rng_nat]; simp; omega, fun ds pm => ?_⟩
  obtain ⟨ys, e, py⟩ := perm_map_inv pm (List.range n) (rng_nat n)
  subst e
  have yl : ys.length = n := by rw [py.length_eq, List.length_range]
  have yn : ys.Nodup := py.nodup_iff.mpr List.nodup_range
  have ylt : ∀ y ∈ ys, y < n := fun y m => by simpa using py.mem_iff.mp m
  have yat : ∀ (R : D → Prop) (k : Nat) (h : k < ys.length), oIx (.lst (ys.map fun i : Nat => D.int (i : Nat))) (.int (k : Nat)) R = R (.int (ys[k] : Nat)) := fun R k hk => ix_l _ (by rw [atI_nat]; simp [hk])
  refine ⟨by omega, ?_⟩
  refine FR_rng1 (fun i G => ∃ es t5 t6, G = [.sh .sto, .sh (.int (n : Nat)), .sh (.int st), .sh (.lst (ys.map fun i : Nat => D.int (i : Nat))), .ow (dEs es), t5, t6, .no, .no] ∧ es.length = es.length ∧ es.length ≤ i ∧ ∀ e ∈ es, EOk n e) ⟨[], _, _, rfl, rfl, by simp, by simp⟩ ?_ ?_
  · rintro i _ hi ⟨es, t5, t6, rfl, _, el, eo⟩
    -- the last step, whatever the other is
    have last : ∀ j : Nat, j < i + 1 → ∃ es_1 : List (Nat × Nat), D.lst (es.map dE ++ [D.tup [.int (if (ys[j]! : Int) < ys[i + 1]! then ys[j]! else ys[i + 1]!), .int (if (ys[j]! : Int) > ys[i + 1]! then ys[j]! else ys[i + 1]!)]]) = dEs es_1 ∧ es_1.length ≤ i + 1 ∧ ∀ e ∈ es_1, EOk n e := fun j hj => by
      have h1 : j < ys.length := by omega
      have h2 : i + 1 < ys.length := by omega
      have ne : ys[i + 1] ≠ ys[j] := fun e => by
        have := (List.getElem_inj yn).mp e
        omega
      obtain ⟨e, ok, ed⟩ := pairD ys[i + 1] ys[j] ne n (ylt _ (List.getElem_mem _)) (ylt _ (List.getElem_mem _))
      refine ⟨es ++ [e], ?_, by simp; omega, es_add eo ok⟩
      rw [getElem!_pos ys j h1, getElem!_pos ys (i + 1) h2, ed]
      simp [dEs]
    have yb : ∀ (R : D → Prop) (k : Nat), k < n → oIx (.lst (ys.map fun i : Nat => D.int (i : Nat))) (.int (k : Nat)) R = R (.int (ys[k]! : Nat)) := fun R k hk => by
      rw [yat R k (by omega), getElem!_pos ys k (by omega)]
    have keep : ∃ es_1 : List (Nat × Nat), dEs es = dEs es_1 ∧ es_1.length ≤ i + 1 ∧ ∀ e ∈ es_1, EOk n e := ⟨es, rfl, by omega, eo⟩
    have lx : es.length < 100000 := by omega
    have app : ∀ j : Nat, j < i + 1 → ∀ d, d = D.int (j : Nat) → isL (dEs es) fun ds => ds.length < 100000 ∧ oIx (D.lst (List.map (fun i : Nat => D.int (i : Nat)) ys)) (D.int (↑i + 1)) fun d_1 => oIx (D.lst (List.map (fun i : Nat => D.int (i : Nat)) ys)) d fun d_2 => cMin [Sl.bo d_1, Sl.bo d_2] fun d_3 =>
        oIx (D.lst (List.map (fun i : Nat => D.int (i : Nat)) ys)) (D.int (↑i + 1)) fun d_4 => oIx (D.lst (List.map (fun i : Nat => D.int (i : Nat)) ys)) d fun d => cMax [Sl.bo d_4, Sl.bo d] fun d => ∃ es, D.lst (ds ++ [D.tup [d_3, d]]) = dEs es ∧ es.length ≤ i + 1 ∧ ∀ (a b : Nat), (a, b) ∈ es → EOk n (a, b) := fun j hj d e => by
      subst e
      have l := last j hj
      have ei : (i : Int) + 1 = ((i + 1 : Nat) : Int) := by omega
      rw [ei]
      refine ⟨by simpa using lx, ?_⟩
      rw [yb _ (i + 1) (by omega), yb _ j (by omega)]
      simp only [min_i]
      rw [yb _ (i + 1) (by omega), yb _ j (by omega)]
      simp only [max_i]
      obtain ⟨es1, q1, q2, q3⟩ := l
      exact ⟨es1, q1, q2, fun a b m => q3 (a, b) m⟩
    have keep' : ∃ es_1, dEs es = dEs es_1 ∧ es_1.length ≤ i + 1 ∧ ∀ (a b : Nat), (a, b) ∈ es_1 → EOk n (a, b) := ⟨es, rfl, by omega, fun a b m => eo (a, b) m⟩
    have tl : ∀ j : Nat, j < i + 1 → ∀ d, d = D.int (j : Nat) → if st < 4 then isL (dEs es) fun ds => ds.length < 100000 ∧ oIx (D.lst (List.map (fun i : Nat => D.int (i : Nat)) ys)) (D.int (↑i + 1)) fun d_1 => oIx (D.lst (List.map (fun i : Nat => D.int (i : Nat)) ys)) d fun d_2 => cMin [Sl.bo d_1, Sl.bo d_2] fun d_3 =>
        oIx (D.lst (List.map (fun i : Nat => D.int (i : Nat)) ys)) (D.int (↑i + 1)) fun d_4 => oIx (D.lst (List.map (fun i : Nat => D.int (i : Nat)) ys)) d fun d => cMax [Sl.bo d_4, Sl.bo d] fun d => ∃ es, D.lst (ds ++ [D.tup [d_3, d]]) = dEs es ∧ es.length ≤ i + 1 ∧ ∀ (a b : Nat), (a, b) ∈ es → EOk n (a, b)
        else if st < 7 then c_law_take [Sl.sh D.sto, Sl.sh (D.int 3)] fun x => oGt x (D.int 0) (isB fun c => if c = true then isL (dEs es) fun ds => ds.length < 100000 ∧ oIx (D.lst (List.map (fun i : Nat => D.int (i : Nat)) ys)) (D.int (↑i + 1)) fun d_1 => oIx (D.lst (List.map (fun i : Nat => D.int (i : Nat)) ys)) d fun d_2 => cMin [Sl.bo d_1, Sl.bo d_2] fun d_3 =>
        oIx (D.lst (List.map (fun i : Nat => D.int (i : Nat)) ys)) (D.int (↑i + 1)) fun d_4 => oIx (D.lst (List.map (fun i : Nat => D.int (i : Nat)) ys)) d fun d => cMax [Sl.bo d_4, Sl.bo d] fun d => ∃ es, D.lst (ds ++ [D.tup [d_3, d]]) = dEs es ∧ es.length ≤ i + 1 ∧ ∀ (a b : Nat), (a, b) ∈ es → EOk n (a, b)
        else ∃ es_1, dEs es = dEs es_1 ∧ es_1.length ≤ i + 1 ∧ ∀ (a b : Nat), (a, b) ∈ es_1 → EOk n (a, b))
        else ∃ es_1, dEs es = dEs es_1 ∧ es_1.length ≤ i + 1 ∧ ∀ (a b : Nat), (a, b) ∈ es_1 → EOk n (a, b) := fun j hj d e => by
      split
      · exact app j hj d e
      · split
        · refine ⟨3, rfl, by omega, fun k k0 k1 => ?_⟩
          simp only [gt_i, isB_b]
          split
          · exact app j hj d e
          · exact keep'
        · exact keep'
    have tk : ∀ k : Int, 0 ≤ k → (k = 0 ∨ k < (i : Int) + 1) → k.toNat < i + 1 ∧ D.int k = D.int (k.toNat : Nat) := fun k k0 k1 => ⟨by omega, by rw [show ((k.toNat : Nat) : Int) = k by omega]⟩
    simp [wb_law_ends_1]
    split
    · split
      · refine ⟨_, rfl, by omega, fun k k0 k1 => ?_⟩
        exact tl k.toNat (tk k k0 k1).1 _ (tk k k0 k1).2
      · exact tl 0 (by omega) _ rfl
    · split
      · refine ⟨_, rfl, by omega, fun k k0 k1 => ?_⟩
        exact tl k.toNat (tk k k0 k1).1 _ (tk k k0 k1).2
      · exact tl i (by omega) _ rfl
  · rintro _ ⟨es, t5, t6, rfl, _, el, eo⟩
    have el' : es.length ≤ 9 := by omega
    simp
    refine ⟨_, rfl, ⟨by simp, by simp⟩, fun d m => ?_⟩
    have hd : ∃ j : Nat, d = .int (j : Nat) ∧ j ≤ 7 := by
      simp at m
      rcases m with rfl | rfl | rfl | rfl | rfl
      · exact ⟨0, rfl, by omega⟩
      · exact ⟨1, rfl, by omega⟩
      · exact ⟨2, rfl, by omega⟩
      · exact ⟨3, rfl, by omega⟩
      · exact ⟨7, rfl, by omega⟩
    obtain ⟨j, rfl, j7⟩ := hd
    simp
    refine ⟨by omega, ?_⟩
    refine FR_rng (fun i G => ∃ es t5 t6 t7 t8, G = [.sh .sto, .sh (.int (n : Nat)), .sh (.int st), .sh (.lst (ys.map fun i : Nat => D.int (i : Nat))), .ow (dEs es), t5, t6, t7, t8] ∧ es.length ≤ 9 + i ∧ ∀ e ∈ es, EOk n e) ⟨es, _, _, _, _, rfl, by omega, eo⟩ ?_ ?_
    · rintro i _ hi ⟨es, t5, t6, t7, t8, rfl, el, eo⟩
      have lx : es.length < 100000 := by omega
      have one : c_law_take [Sl.sh D.sto, Sl.sh (D.int ↑n)] fun d => oAdd d (D.int 1) fun x => c_law_take [Sl.sh D.sto, Sl.sh (D.int (↑n - 1))] fun y => oAdd x y fun d_1 => cInt [Sl.bo d_1] fun x => oMod x (D.int ↑n) fun d_2 =>
          isL (dEs es) fun ds => ds.length < 100000 ∧ cMin [Sl.bo d, Sl.bo d_2] fun d_3 => cMax [Sl.bo d, Sl.bo d_2] fun d_4 => ∃ es, D.lst (ds ++ [D.tup [d_3, d_4]]) = dEs es ∧ es.length ≤ 9 + (i + 1) ∧ ∀ (a b : Nat), (a, b) ∈ es → EOk n (a, b) := by
        refine ⟨_, rfl, by omega, fun a a0 a1 => ?_⟩
        simp only [add_i]
        refine ⟨_, rfl, by omega, fun k k0 k1 => ?_⟩
        simp only [add_i, int_i, mod_i]
        refine ⟨by omega, by simpa using lx, ?_⟩
        simp only [min_i, max_i]
        have ea : a = (a.toNat : Nat) := by omega
        have hm : ∃ b : Nat, (a + 1 + k) % (n : Int) = (b : Nat) ∧ b < n ∧ a.toNat ≠ b := by
          by_cases q : a + 1 + k < n
          · rw [Int.emod_eq_of_lt (by omega) q]
            exact ⟨(a + 1 + k).toNat, by omega, by omega, by omega⟩
          · have : (a + 1 + k) % (n : Int) = (a + 1 + k - n) % (n : Int) := by
              have := Int.sub_emod_right (a + 1 + k) (n : Int)
              exact this.symm
            rw [this, Int.emod_eq_of_lt (by omega) (by omega)]
            exact ⟨(a + 1 + k - n).toNat, by omega, by omega, by omega⟩
        obtain ⟨b, eb, bl, bn⟩ := hm
        rw [eb, ea]
        obtain ⟨e, ok, ed⟩ := pairD a.toNat b bn n (by omega) bl
        rw [ed]
        exact ⟨es ++ [e], by simp [dEs], by simp; omega, fun a b m => es_add eo ok (a, b) m⟩
      simp [wb_law_ends_2]
      split
      · rename_i hp
        refine ⟨3, rfl, by omega, fun k k0 k1 => ?_⟩
        simp
        split
        · refine ⟨by simpa [dEs] using lx, ?_⟩
          refine ⟨es.map dE, rfl, ⟨fun e => by simp at e; rw [e] at hp; simp at hp, by simp; omega⟩, fun d m => ?_⟩
          obtain ⟨e, me, rfl⟩ := List.mem_map.mp m
          exact ⟨es ++ [e], by simp [dEs], by simp; omega, fun a b m => es_add eo (eo e me) (a, b) m⟩
        · exact one
      · exact one
    · rintro _ ⟨es, t5, t6, t7, t8, rfl, el, eo⟩
      simp
      exact h es (by omega) eo
end VL
/-! text Rr -/
/-! Rr: bond names, bonds, lands drawn. -/
namespace VL
open PySem PySem.Spec PyProof.Rows L2
variable {cW cL cP : Addr}
def FB (j : Nat) : Str := Str.ofString "b" ++ digI (((j : Int) + 1))
theorem FB_all : (((List.range 16).map FB).all nmB) = true ∧ ((List.range 16).map FB).Nodup := by decide +kernel
def c_law_bond_names : OC := fun as R => ∃ ps, as = [.sh .sto, .sh (dS ps), .sh (.int 16)] ∧ (ps.Nodup ∧ (∀ p ∈ ps, Nm p) ∧ ps.length ≤ 16) ∧ ∀ ws : List Str, ws.Nodup → (∀ w ∈ ws, Nm w) → ws.length = 16 → R (dS ws)
theorem LC_rng {n : Nat} (f : Nat → D) {B : D → (Option D → Prop) → Prop} {R : D → Prop} (hl : n ≤ 1000) (hb : ∀ i < n, ∀ K : Option D → Prop, K (some (f i)) → B (.int (i : Nat)) K) (hr : R (.lst ((List.range n).map f))) : LC (rng 0 (n : Nat)) B R := by
  rw [rng_nat]
  exact LC_map f (by simpa using hl) (fun i m => hb i (by simpa using m)) hr
theorem r_law_bond_names : ∀ as R, c_law_bond_names as R → ws_law_bond_names cW cL cP c_law_take c_law_names c_law_stranger (gaOf N_law_bond_names.length as) (poF R) := by
  rintro _ R ⟨ps, rfl, ⟨hn, hm, hl⟩, h⟩
  simp [ws_law_bond_names]
  refine ⟨4, rfl, by omega, fun k k0 k1 => ?_⟩
  simp
  split
  · refine LC_rng (n := 16) (fun i => .str (FB i)) (by omega) (fun i hi K hK => ?_) ?_
    · simp [wt_law_bond_names_1, we_law_bond_names_2]
      refine ⟨by omega, ?_, hK⟩
      have e1 : (Str.ofString "b").length = 1 := by decide +kernel
      have e2 := (dig_of (show i + 1 < 200 by omega)).2.1
      have e3 : digI ((i : Int) + 1) = dig (i + 1) := by unfold dig; rw [show (((i + 1 : Nat) : Int)) = (i : Int) + 1 by omega]
      rw [e3]
      omega
    · have e : D.lst ((List.range 16).map fun i => D.str (FB i)) = dS ((List.range 16).map FB) := by unfold dS; rw [List.map_map]; rfl
      rw [e]
      refine h _ FB_all.2 (fun w m => nm_of (List.all_eq_true.mp FB_all.1 w m)) (by simp)
  · split
    · exact ⟨16, rfl, by omega, fun xs n m l => h xs n m l⟩
    · rw [slL_S _ (by omega)]
      have et : ps.take (16 : Int).toNat = ps := List.take_of_length_le hl
      rw [et]
      simp
      refine ⟨by omega, ?_⟩
      have er : (16 : Int) - ps.length = ((16 - ps.length : Nat) : Nat) := by omega
      rw [er]
      refine FR_rng (fun i G => ∃ ws t5, G = [.sh .sto, .sh (dS ps), .sh (.int 16), .sh (.int k), .ow (dS ws), t5] ∧ ws.length = ps.length + i ∧ ws.Nodup ∧ ∀ w ∈ ws, Nm w) ⟨ps, _, rfl, rfl, hn, hm⟩ ?_ ?_
      · rintro i _ hi ⟨ws, t5, rfl, hw, wn, wm⟩
        simp [wb_law_bond_names_3]
        refine ⟨by omega, ws, rfl, ⟨by omega, wm⟩, fun w mw nw => ?_⟩
        refine ⟨ws ++ [w], by simp [dS], by simp; omega, nodup_snoc wn nw, fun w' m => ?_⟩
        rcases List.mem_append.mp m with m | m
        · exact wm w' m
        · rw [List.mem_singleton.mp m]; exact mw
      · rintro _ ⟨ws, t5, rfl, hw, wn, wm⟩
        simp
        exact h ws wn wm (by omega)
/-- the bonds that ends and names make -/
def mkB (ws ps : List Str) (es : List (Nat × Nat)) : List Bd := (ws.zip es).map fun x => (x.1, ps.getD x.2.1 Str.empty, ps.getD x.2.2 Str.empty)
def c_law_bonds : OC := fun as R => ∃ ws ps es, as = [.sh (dS ws), .sh (dS ps), .sh (dEs es)] ∧ (es.length ≤ ws.length ∧ es.length ≤ 16 ∧ ∀ e ∈ es, EOk ps.length e) ∧ R (dBs (srtB (mkB ws ps es)))
theorem r_law_bonds : ∀ as R, c_law_bonds as R → ws_law_bonds cW cL cP (gaOf N_law_bonds.length as) (poF R) := by
  rintro _ R ⟨ws, ps, es, rfl, ⟨h1, h2, h3⟩, h⟩
  simp [ws_law_bonds]
  refine ⟨by omega, ?_⟩
  have hlen : (mkB ws ps es).length = es.length := by unfold mkB; rw [List.length_map, List.length_zip]; omega
  have hz : (ws.zip es).length = es.length := by rw [List.length_zip]; omega
  rw [← hz]
  refine LC_ix (xs := ws.zip es) (fun x => some (dBd (x.1, ps.getD x.2.1 Str.empty, ps.getD x.2.2 Str.empty))) (by omega) (fun i x hx K hK => ?_) ?_
  · obtain ⟨w, a, b⟩ := x
    have hi : i < (ws.zip es).length := (List.getElem?_eq_some_iff.mp hx).1
    have hw : ws[i]? = some w ∧ es[i]? = some (a, b) := by
      rw [List.getElem?_zip_eq_some] at hx
      exact hx
    obtain ⟨e1, e2⟩ := h3 _ (List.mem_of_getElem? hw.2)
    have ha : a < ps.length := by simp only at e1 e2; omega
    have hb : b < ps.length := e2
    simp [wt_law_bonds_1, we_law_bonds_2]
    rw [ix_S _ _ (x := w) (by rw [atI_nat]; exact hw.1)]
    have hE : ∀ R : D → Prop, oIx (dEs es) (.int (i : Nat)) R = R (dE (a, b)) := fun R => ix_l _ (by rw [atI_nat]; simp [hw.2])
    rw [hE]
    simp
    rw [ix_S _ _ (x := ps.getD a Str.empty) (by rw [atI_nat]; simp [ha])]
    rw [hE]
    simp
    rw [ix_S _ _ (x := ps.getD b Str.empty) (by rw [atI_nat]; simp [hb])]
    simp [ha, hb] at hK
    simp [ha, hb]
    exact hK
  · have e : D.lst ((ws.zip es).filterMap fun x => some (dBd (x.1, ps.getD x.2.1 Str.empty, ps.getD x.2.2 Str.empty))) = dBs (mkB ws ps es) := by
      unfold dBs mkB
      rw [List.map_map]
      congr 1
      induction ws.zip es with
      | nil => rfl
      | cons x xs ih => rw [List.filterMap_cons]; simp [ih]
    rw [e]
    exact sort_B _ _ (by omega) h
theorem mkB_ok {ws ps : List Str} {es : List (Nat × Nat)} (hw : ws.Nodup) (hm : ∀ w ∈ ws, Nm w) (hl : es.length ≤ ws.length) (h8 : es.length ≤ 16) (hp : Asc ps) (he : ∀ e ∈ es, EOk ps.length e) : BsOk ps (mkB ws ps es) ∧ (mkB ws ps es).map (·.1) = ws.take es.length := by
  have e1 : (mkB ws ps es).map (·.1) = ws.take es.length := by
    unfold mkB
    rw [List.map_map]
    clear hw hm h8 he
    induction ws generalizing es with
    | nil =>
      have : es = [] := List.length_eq_zero_iff.mp (by simpa using hl)
      subst this; rfl
    | cons w ws ih =>
      cases es with
      | nil => rfl
      | cons e es =>
        rw [List.zip_cons_cons, List.map_cons, List.length_cons, List.take_succ_cons, ih (by simpa using hl)]
        rfl
  refine ⟨⟨?_, fun b m => ?_, ?_⟩, e1⟩
  · rw [e1]; exact hw.sublist (List.take_sublist _ _)
  · unfold mkB at m
    obtain ⟨⟨w, x, y⟩, mz, rfl⟩ := List.mem_map.mp m
    have mw := List.of_mem_zip mz
    obtain ⟨e2, e3⟩ := he _ mw.2
    simp only at e2 e3
    have hx : x < ps.length := by omega
    have e4 : ps.getD x Str.empty = ps[x] := by simp [hx]
    have e5 : ps.getD y Str.empty = ps[y] := by simp [e3]
    refine ⟨hm w mw.1, ?_, ?_, ?_⟩
    · show ps.getD x Str.empty ∈ ps
      rw [e4]; exact List.getElem_mem _
    · show ps.getD y Str.empty ∈ ps
      rw [e5]; exact List.getElem_mem _
    · show sl (ps.getD x Str.empty) (ps.getD y Str.empty)
      rw [e4, e5]
      exact (List.pairwise_iff_getElem.mp hp) x y hx e3 e2
  · unfold mkB
    rw [List.length_map, List.length_zip]
    omega
def c_law_piece_land : OC := fun as R => ∃ ps ws ks f, as = [.sh .sto, .sh (dS ps), .sh (dS ws), .sh (.dic ks (ks.map fun p => D.int (f p)))] ∧
  (ps.Nodup ∧ (∀ p ∈ ps, Nm p ∧ p ∈ ks ∧ -9999 ≤ f p ∧ f p ≤ 9999) ∧ ps ≠ [] ∧ ps.length ≤ 10 ∧ ws.Nodup ∧ (∀ w ∈ ws, Nm w) ∧ 8 ≤ ws.length) ∧
  ∀ bs, LdOk ⟨srt ps, bs, f⟩ → bs.length ≤ 8 → (∀ b ∈ bs, b.1 ∈ ws.take bs.length) → R (.tup [dLL ⟨srt ps, bs, f⟩, dS (ws.drop bs.length)])
theorem slL_Es (es : List (Nat × Nat)) {k : Int} (h : 0 ≤ k) (R : D → Prop) : slLD (dEs es) none (some k) R = R (dEs (es.take k.toNat)) := slL_take dE es h R
theorem r_law_piece_land : ∀ as R, c_law_piece_land as R → ws_law_piece_land cW cL cP c_law_ends c_law_bonds (gaOf N_law_piece_land.length as) (poF R) := by
  rintro _ R ⟨ps, ws, ks, f, rfl, ⟨h1, h2, h3, h4, h5, h6, h7⟩, h⟩
  simp [ws_law_piece_land]
  refine sort_S _ _ h1 (by omega) ?_
  simp [srt_len]
  refine ⟨(srt ps).length, by rw [srt_len], by rw [srt_len]; omega, fun es el eo => ?_⟩
  dsimp only
  rw [slL_Es _ (by omega)]
  have e8 : (8 : Int).toNat = 8 := rfl
  rw [e8]
  have tl : (es.take 8).length ≤ 8 := by rw [List.length_take]; omega
  have to : ∀ e ∈ es.take 8, EOk (srt ps).length e := fun e m => eo e (List.mem_of_mem_take m)
  generalize es.take 8 = es at *
  simp
  refine ⟨ws, srt ps, es, rfl, ⟨by omega, by omega, to⟩, ?_⟩
  have asc := srt_asc h1
  obtain ⟨ok, em⟩ := mkB_ok h5 h6 (by omega) (by omega) asc to
  refine LC_map (fun p => .int (f p)) (by rw [srt_len]; omega) (fun p m K hK => ?_) ?_
  · simp [wt_law_piece_land_1, we_law_piece_land_2]
    rw [dg_map _ (h2 p (srt_mem.mp m)).2.1]
    exact hK
  · rw [lst_Il]
    rw [slL_Sd _ (by omega)]
    simp
    have lm : (srtB (mkB ws (srt ps) es)).length = es.length := by
      rw [srtB_len]
      unfold mkB
      rw [List.length_map, List.length_zip]
      omega
    have L : LdOk ⟨srt ps, srtB (mkB ws (srt ps) es), f⟩ := ⟨asc, fun p m => (h2 p (srt_mem.mp m)).1, fun e => by
      have := @srt_len ps
      rw [show srt ps = [] from e] at this
      exact h3 (List.length_eq_zero_iff.mp this.symm), by show (srt ps).length ≤ 10; rw [srt_len]; exact h4, fun p m => (h2 p (srt_mem.mp m)).2.2,
      ((srtB_perm _).map _).nodup_iff.mpr ok.bn, fun b m => ok.bm b (srtB_mem.mp m), by show (srtB _).length ≤ 16; omega, srtB_idem _⟩
    have := h _ L (by omega) (fun b m => by
      rw [lm, ← em]
      exact List.mem_map.mpr ⟨b, srtB_mem.mp m, rfl⟩)
    rw [lm] at this
    exact this
end VL
/-! text Rs -/
/-! Rs: pieces and goals drawn. -/
namespace VL
open PySem PySem.Spec PyProof.Rows L2
variable {cW cL cP : Addr}
def c_law_pieces : OC := fun as R => ∃ hs : List Int, as = [.sh .sto, .sh (.int 5), .sh (dIl hs)] ∧ (hs ≠ [] ∧ hs.length ≤ 10 ∧ ∀ h ∈ hs, -9999 ≤ h ∧ h ≤ 9999) ∧ ∀ L1 L2 B, Gd L1 L2 B → R (.tup [dLL L1, dLL L2, dS B])
@[simp] theorem min3_i (a b c : Int) (R : D → Prop) : cMin3 [.bo (.int a), .bo (.int b), .bo (.int c)] R = R (.int (min3 a b c)) := id rfl
theorem r_law_pieces : ∀ as R, c_law_pieces as R → ws_law_pieces cW cL cP c_law_pick c_law_names c_law_disorder c_law_bond_names c_law_piece_land (gaOf N_law_pieces.length as) (poF R) := by
  rintro _ R ⟨hs, rfl, ⟨hne, hl, hr⟩, h⟩
  simp [ws_law_pieces]
  refine ⟨_, rfl, ⟨by simp, by simp⟩, fun d m => ?_⟩
  have hd : ∃ k : Nat, d = .int (k : Nat) ∧ 1 ≤ k ∧ k ≤ 3 := by
    simp at m
    rcases m with rfl | rfl | rfl
    · exact ⟨1, rfl, by omega, by omega⟩
    · exact ⟨2, rfl, by omega, by omega⟩
    · exact ⟨3, rfl, by omega, by omega⟩
  clear m
  obtain ⟨m, rfl, m1, m3⟩ := hd
  refine ⟨_, rfl, ⟨by simp, by simp⟩, fun d q => ?_⟩
  have hd : ∃ k : Nat, d = .int (k : Nat) ∧ k ≤ 5 := by
    simp at q
    rcases q with rfl | rfl | rfl | rfl
    · exact ⟨0, rfl, by omega⟩
    · exact ⟨1, rfl, by omega⟩
    · exact ⟨2, rfl, by omega⟩
    · exact ⟨5, rfl, by omega⟩
  clear q
  obtain ⟨o', rfl, o5⟩ := hd
  simp
  have eo : ∃ o : Nat, (if 5 - (m : Int) < o' then 5 - (m : Int) else o') = (o : Nat) ∧ m + o ≤ 5 := by
    split
    · exact ⟨5 - m, by omega, by omega⟩
    · exact ⟨o', rfl, by omega⟩
  obtain ⟨o, e1, mo⟩ := eo
  rw [e1]
  refine ⟨_, rfl, ⟨by simp, by simp⟩, fun d q => ?_⟩
  have hd : ∃ k : Nat, d = .int (k : Nat) ∧ k ≤ 5 := by
    simp at q
    rcases q with rfl | rfl | rfl | rfl
    · exact ⟨0, rfl, by omega⟩
    · exact ⟨1, rfl, by omega⟩
    · exact ⟨2, rfl, by omega⟩
    · exact ⟨5, rfl, by omega⟩
  clear q
  obtain ⟨t', rfl, t5⟩ := hd
  simp
  have et : ∃ t : Nat, min3 (t' : Nat) (5 - (m : Int)) (10 - (m : Int) - o) = (t : Nat) ∧ m + t ≤ 5 ∧ m + o + t ≤ 10 := by
    unfold min3
    split
    · split
      · exact ⟨10 - m - o, by omega, by omega, by omega⟩
      · exact ⟨5 - m, by omega, by omega, by omega⟩
    · split
      · exact ⟨10 - m - o, by omega, by omega, by omega⟩
      · exact ⟨t', by omega, by omega, by omega⟩
  obtain ⟨t, e2, mt, mot⟩ := et
  rw [e2]
  refine ⟨m + o + t, by simp, by omega, fun xs xn xm xl => ?_⟩
  simp
  refine FR_inv (fun i G => ∃ (f : Str → Int) (t8 : Sl), G = [.sh .sto, .sh (.int 5), .sh (dIl hs), .sh (.int (m : Nat)), .sh (.int (o : Nat)), .sh (.int (t : Nat)), .sh (dS xs), .ow (.dic (xs.take i) ((xs.take i).map fun p => D.int (f p))), t8, .no, .no, .no] ∧ ∀ p ∈ xs.take i, -9999 ≤ f p ∧ f p ≤ 9999) ⟨fun _ => 0, _, rfl, by simp⟩ ?_ ?_
  · rintro i x _ hx ⟨f, t8, rfl, hf⟩
    have nx := nodup_take xn hx
    simp [wb_law_pieces_1]
    refine ⟨hs.map .int, rfl, ⟨by simpa using hne, by simp; omega⟩, fun d q => ?_⟩
    obtain ⟨v, mv, rfl⟩ := List.mem_map.mp q
    have hv := hr v mv
    have e3 : (xs.take (i + 1)).map (fun p => D.int (if p = x then v else f p)) = (xs.take i).map (fun p => D.int (f p)) ++ [D.int v] := by
      rw [take_succ hx, List.map_append]
      congr 1
      · refine List.map_congr_left fun p mp => ?_
        rw [if_neg (show ¬ p = x from fun e => nx (e ▸ mp))]
      · simp
    refine ⟨by first | omega | (simp; omega), fun p => if p = x then v else f p, ?_, fun p mp => ?_⟩
    · rw [dputK_new nx, take_succ hx, ← List.map_take, dputV_new nx, ← take_succ hx, ← List.map_take, e3]
      exact ⟨rfl, rfl⟩
    · rw [take_succ hx] at mp
      show -9999 ≤ (if p = x then v else f p) ∧ (if p = x then v else f p) ≤ 9999
      split
      · exact hv
      · rename_i q
        exact hf p ((List.mem_append.mp mp).resolve_right fun z => q (by simpa using z))
  · rintro _ ⟨f, t8, rfl, hf⟩
    rw [List.take_length] at hf
    simp
    refine ⟨xs, rfl, ⟨xn, xm, by omega⟩, fun ws wn wm wl => ?_⟩
    refine ⟨ws.map .str, rfl, by simp; omega, fun es pm => ?_⟩
    obtain ⟨ys, e3, py⟩ := perm_map_inv pm ws rfl
    subst e3
    have yn : ys.Nodup := py.nodup_iff.mpr wn
    have ym : ∀ w ∈ ys, Nm w := fun w mw => wm w (py.mem_iff.mp mw)
    have yl : ys.length = 16 := by rw [py.length_eq]; exact wl
    simp
    have emo : (m : Int) + (o : Int) = ((m + o : Nat) : Int) := by omega
    rw [slL_S _ (by omega)]
    have tn1 : ((m : Int) + (o : Int)).toNat = m + o := by omega
    rw [tn1]
    have s1 : ∀ p ∈ xs.take (m + o), p ∈ xs := fun p mp => List.mem_of_mem_take mp
    have s2 : ∀ p ∈ xs.take m ++ xs.drop (m + o), p ∈ xs := fun p mp => (List.mem_append.mp mp).elim List.mem_of_mem_take List.mem_of_mem_drop
    have n1 : (xs.take (m + o)).Nodup := xn.sublist (List.take_sublist _ _)
    have dis : ∀ p ∈ xs.take (m + o), p ∉ xs.drop (m + o) := fun p mp mq => by
      have := xn
      rw [← List.take_append_drop (m + o) xs, List.nodup_append] at this
      exact this.2.2 p mp p mq rfl
    have sub : ∀ p ∈ xs.take m, p ∈ xs.take (m + o) := fun p mp => by
      rw [show xs.take m = (xs.take (m + o)).take m by rw [List.take_take, Nat.min_eq_left (by omega)]] at mp
      exact List.mem_of_mem_take mp
    have n2 : (xs.take m ++ xs.drop (m + o)).Nodup := List.nodup_append.mpr ⟨xn.sublist (List.take_sublist _ _), xn.sublist (List.drop_sublist _ _), fun a ha b hb e => dis a (sub a ha) (e ▸ hb)⟩
    have l1 : (xs.take (m + o)).length = m + o := by rw [List.length_take]; omega
    have l2 : (xs.take m ++ xs.drop (m + o)).length = m + t := by rw [List.length_append, List.length_take, List.length_drop]; omega
    have l0 : (xs.take m).length = m := by rw [List.length_take]; omega
    refine ⟨xs.take (m + o), ys, xs, f, rfl, ⟨n1, fun p mp => ⟨xm p (s1 p mp), s1 p mp, hf p (s1 p mp)⟩, fun e => by rw [e] at l1; simp at l1; omega, by omega, yn, ym, by omega⟩, fun b1 ok1 b18 b1n => ?_⟩
    simp
    rw [slL_S _ (by omega)]
    rw [slL_Sd _ (by omega), tn1]
    simp
    refine ⟨by omega, ?_⟩
    have dn : (ys.drop b1.length).Nodup := yn.sublist (List.drop_sublist _ _)
    refine ⟨xs.take m ++ xs.drop (m + o), ys.drop b1.length, xs, f, rfl, ⟨n2, fun p mp => ⟨xm p (s2 p mp), s2 p mp, hf p (s2 p mp)⟩, fun e => by rw [e] at l2; simp at l2; omega, by omega, dn, fun w mw => ym w (List.mem_of_mem_drop mw), by rw [List.length_drop]; omega⟩, fun b2 ok2 b28 b2n => ?_⟩
    simp
    rw [slL_S _ (by omega)]
    simp
    refine sort_S _ _ (xn.sublist (List.take_sublist _ _)) (by omega) ?_
    refine h ⟨srt (xs.take (m + o)), b1, f⟩ ⟨srt (xs.take m ++ xs.drop (m + o)), b2, f⟩ (srt (xs.take m)) ?_
    have bne : srt (xs.take m) ≠ [] := fun e => by
      have := @srt_len (xs.take m)
      rw [e, l0] at this
      simp at this
      omega
    refine ⟨⟨ok1, srt_asc (xn.sublist (List.take_sublist _ _)), bne, by rw [srt_len]; omega, fun p mp => srt_mem.mpr (sub p (srt_mem.mp mp)), by show (srt _).length ≤ 6; rw [srt_len]; omega, b18⟩,
      ⟨ok2, srt_asc (xn.sublist (List.take_sublist _ _)), bne, by rw [srt_len]; omega, fun p mp => srt_mem.mpr (List.mem_append.mpr (.inl (srt_mem.mp mp))), by show (srt _).length ≤ 6; rw [srt_len]; omega, b28⟩, fun p => ?_, ?_, ?_, fun _ _ => rfl⟩
    · show p ∈ srt _ ↔ p ∈ srt _ ∧ p ∈ srt _
      rw [srt_mem, srt_mem, srt_mem, List.mem_append]
      constructor
      · intro q
        exact ⟨sub p q, .inl q⟩
      · rintro ⟨q1, q2⟩
        exact q2.resolve_right fun z => dis p q1 z
    · rw [List.map_append]
      refine List.nodup_append.mpr ⟨ok1.bn, ok2.bn, fun a ha b hb e => ?_⟩
      obtain ⟨x, mx, rfl⟩ := List.mem_map.mp ha
      obtain ⟨y, my, rfl⟩ := List.mem_map.mp hb
      have q1 := b1n x mx
      have q2 := List.mem_of_mem_take (b2n y my)
      have := yn
      rw [← List.take_append_drop b1.length ys, List.nodup_append] at this
      exact this.2.2 _ q1 _ q2 e
    · show (srt _).length + (srt _).length ≤ 10 + (srt _).length
      rw [srt_len, srt_len, srt_len, l1, l2, l0]
      omega
theorem set_map {α β : Type} [DecidableEq α] {f : α → β} {v : β} {x : α} : ∀ {xs : List α} {k : Nat}, xs.Nodup → xs[k]? = some x → (xs.map f).set k v = xs.map fun p => if p = x then v else f p
  | y :: ys, 0, n, h => by
    simp at h
    subst h
    rw [List.map_cons, List.set_cons_zero, List.map_cons, if_pos rfl]
    congr 1
    refine List.map_congr_left fun p mp => ?_
    rw [if_neg (show ¬ p = y from fun e => (List.nodup_cons.mp n).1 (e ▸ mp))]
  | y :: ys, k + 1, n, h => by
    have h' : ys[k]? = some x := by simpa using h
    rw [List.map_cons, List.set_cons_succ, List.map_cons, set_map (List.nodup_cons.mp n).2 h', if_neg (show ¬ y = x from fun e => (List.nodup_cons.mp n).1 (e ▸ List.mem_of_getElem? h'))]
def c_law_joining : OC := fun as R => ∃ L, as = [.sh .sto, .sh (dLL L)] ∧ LdOk L ∧ ∀ h', (∀ p ∈ L.ps, -9999 ≤ h' p ∧ h' p ≤ 9999) → R (dLL ⟨L.ps, L.bs, h'⟩)
@[simp] theorem add_Il_l (ns : List Int) (l : List D) (R : D → Prop) : oAdd (dIl ns) (.lst l) R = (ns.length + l.length ≤ 100000 ∧ R (.lst (ns.map .int ++ l))) := by simp [dIl]
theorem r_law_joining : ∀ as R, c_law_joining as R → ws_law_joining cW cL cP c_law_take c_law_pick c_law_any_height c_law_flat c_law_height (gaOf N_law_joining.length as) (poF R) := by
  rintro _ R ⟨L, rfl, ok, h⟩
  have l10 := ok.len
  have l0 : 0 < L.ps.length := List.length_pos_iff.mpr ok.ne
  have b16 := ok.bl
  have pn := ok.asc.nodup
  simp [ws_law_joining]
  refine ⟨7, rfl, by omega, fun j j0 j1 => ?_⟩
  simp
  refine ⟨by omega, ?_⟩
  have ej : j = (j.toNat : Nat) := by omega
  rw [ej]
  refine FR_rng (fun i G => ∃ (f : Str → Int) (t3 t4 t5 t6 t7 : Sl), G = [.sh .sto, .sh (dLL L), .ow (dIl (L.ps.map f)), t3, t4, t5, t6, t7] ∧ ∀ p ∈ L.ps, -9999 ≤ f p ∧ f p ≤ 9999) ⟨L.h, _, _, _, _, _, rfl, ok.hr⟩ ?_ ?_
  · rintro i _ hi ⟨f, t3, t4, t5, t6, t7, rfl, hf⟩
    have now : D.tup [dS L.ps, dBs L.bs, dIl (L.ps.map f)] = dLL ⟨L.ps, L.bs, f⟩ := rfl
    have okn : LdOk ⟨L.ps, L.bs, f⟩ := ⟨ok.asc, ok.nm, ok.ne, ok.len, hf, ok.bn, ok.bm, ok.bl, ok.bs⟩
    have step : ∀ (f : Str → Int) (k : Nat) (v : Int), (∀ p ∈ L.ps, -9999 ≤ f p ∧ f p ≤ 9999) → k < L.ps.length → -9999 ≤ v → v ≤ 9999 → ∃ g : Str → Int, D.lst (((L.ps.map f).map D.int).set k (.int v)) = dIl (L.ps.map g) ∧ ∀ p ∈ L.ps, -9999 ≤ g p ∧ g p ≤ 9999 := fun f k v hf hk v1 v2 => by
      refine ⟨fun p => if p = L.ps[k] then v else f p, ?_, fun p mp => ?_⟩
      · unfold dIl
        rw [← List.map_set, set_map pn (x := L.ps[k]) (by simp [hk])]
      · show -9999 ≤ (if p = L.ps[k] then v else f p) ∧ (if p = L.ps[k] then v else f p) ≤ 9999
        split
        · exact ⟨v1, v2⟩
        · exact hf p mp
    have putS : c_law_any_height [Sl.sh D.sto] fun d => (hsOf L).length ≤ 99999 ∧ c_law_pick [Sl.sh D.sto, Sl.bo (D.lst ((hsOf L).map D.int ++ [d]))] fun d => c_law_take [Sl.sh D.sto, Sl.sh (D.int (L.ps.length : Nat))] fun k => isI k fun k => match ixN L.ps.length k with
        | some j => ∃ g : Str → Int, D.lst ((L.ps.map (D.int ∘ f)).set j d) = dIl (L.ps.map g) ∧ ∀ p ∈ L.ps, -9999 ≤ g p ∧ g p ≤ 9999
        | none => False := by
      refine ⟨rfl, fun v v1 v2 => ⟨by rw [hs_len]; omega, _, rfl, ⟨by simp, by simp [hs_len]; omega⟩, fun d md => ?_⟩⟩
      have hd : ∃ v : Int, d = .int v ∧ -9999 ≤ v ∧ v ≤ 9999 := by
        rcases List.mem_append.mp md with md | md
        · obtain ⟨v, mv, rfl⟩ := List.mem_map.mp md
          unfold hsOf at mv
          obtain ⟨p, mp, rfl⟩ := List.mem_map.mp mv
          exact ⟨_, rfl, ok.hr p mp⟩
        · rw [List.mem_singleton.mp md]
          exact ⟨v, rfl, v1, v2⟩
      obtain ⟨v, rfl, v1, v2⟩ := hd
      refine ⟨_, rfl, by omega, fun k k0 k1 => ?_⟩
      have ek : k = (k.toNat : Nat) := by omega
      rw [ek]
      simp only [isI_i]
      rw [ixN_nat (show k.toNat < L.ps.length by omega)]
      have := step f k.toNat v hf (by omega) v1 v2
      rw [List.map_map] at this
      exact this
    simp [wb_law_joining_2]
    rw [now]
    split
    · exact putS
    · rename_i bne
      refine ⟨8, rfl, by omega, fun k k0 k1 => ?_⟩
      simp only [eq_i, isB_b]
      split
      · exact putS
      · refine ⟨L.bs.map dBd, rfl, ⟨by simpa using bne, by simp; omega⟩, fun d md => ?_⟩
        obtain ⟨b, mb, rfl⟩ := List.mem_map.mp md
        obtain ⟨_, b1, b2, _⟩ := ok.bm b mb
        refine ⟨2, rfl, by omega, fun sd k0 k1 => ?_⟩
        have hx : ∃ x y, x ∈ L.ps ∧ y ∈ L.ps ∧ (∀ R : D → Prop, oIx (dBd b) (.int (1 + sd)) R = R (.str x)) ∧ (∀ R : D → Prop, oIx (dBd b) (.int (2 - sd)) R = R (.str y)) := by
          rcases (show sd = 0 ∨ sd = 1 by omega) with rfl | rfl
          · exact ⟨_, _, b1, b2, fun R => ix_Bd1 R b, fun R => ix_Bd2 R b⟩
          · exact ⟨_, _, b2, b1, fun R => ix_Bd2 R b, fun R => ix_Bd1 R b⟩
        obtain ⟨x, y, hx, hy, ex, ey⟩ := hx
        simp only [add_i]
        rw [ex]
        refine ⟨⟨L.ps, L.bs, f⟩, x, rfl, ⟨okn, hx⟩, ?_⟩
        simp
        refine FR_inv (fun i2 G => ∃ (f2 : Str → Int) (t7 : Sl), G = [.sh .sto, .sh (dLL L), .ow (dIl (L.ps.map f2)), .sh (.int (i : Nat)), .sh (dLL ⟨L.ps, L.bs, f⟩), .sh (dBd b), .sh (.int sd), t7] ∧ ∀ p ∈ L.ps, -9999 ≤ f2 p ∧ f2 p ≤ 9999) ⟨f, _, rfl, hf⟩ ?_ ?_
        · rintro i2 p _ hp ⟨f2, t7, rfl, hf2⟩
          have pm : p ∈ L.ps := (mem_flat.mp (List.mem_of_getElem? hp)).1
          simp [wb_law_joining_1]
          rw [ey]
          refine ⟨⟨L.ps, L.bs, f⟩, y, rfl, hy, ?_⟩
          simp
          rw [index_S _ _ pm]
          have il := List.idxOf_lt_length_of_mem pm
          simp only [isI_i]
          rw [ixN_nat il]
          have := step f2 (L.ps.idxOf p) (f y) hf2 il (hf y hy).1 (hf y hy).2
          rw [List.map_map] at this
          obtain ⟨g, e1, e2⟩ := this
          exact ⟨g, e1, e2⟩
        · rintro _ ⟨f2, t7, rfl, hf2⟩
          exact ⟨f2, ⟨_, _, _, _, _, rfl⟩, hf2⟩
  · rintro _ ⟨f, t3, t4, t5, t6, t7, rfl, hf⟩
    simp
    exact h f hf
def c_law_goals : OC := fun as R => ∃ L1 L2 B, as = [.sh .sto, .sh (dLL L1), .sh (dLL L2)] ∧ Gd L1 L2 B ∧ ∀ G1 G2, Gg L1 L2 G1 G2 B → R (.tup [dLL G1, dLL G2])
theorem PcOk.goal {L : Ld} {B : List Str} (h : PcOk L B) {f : Str → Int} (hf : ∀ p ∈ L.ps, -9999 ≤ f p ∧ f p ≤ 9999) : PcOk ⟨L.ps, L.bs, f⟩ B :=
  ⟨⟨h.ok.asc, h.ok.nm, h.ok.ne, h.ok.len, hf, h.ok.bn, h.ok.bm, h.ok.bl, h.ok.bs⟩, h.asc, h.ne, h.len, h.sub, h.pl, h.bl⟩
theorem r_law_goals : ∀ as R, c_law_goals as R → ws_law_goals cW cL cP c_law_joining c_law_glued c_law_cut (gaOf N_law_goals.length as) (poF R) := by
  rintro _ R ⟨L1, L2, B, rfl, g, h⟩
  simp [ws_law_goals]
  refine ⟨L1, L2, B, rfl, g, ?_⟩
  refine ⟨gl L1 L2, rfl, g.ok, fun f hf => ?_⟩
  refine ⟨⟨(gl L1 L2).ps, (gl L1 L2).bs, f⟩, L1, rfl, ⟨fun p m => gl_mem.mpr (.inl m), g.p1.ok.len⟩, ?_⟩
  refine ⟨⟨(gl L1 L2).ps, (gl L1 L2).bs, f⟩, L2, rfl, ⟨fun p m => gl_mem.mpr (.inr m), g.p2.ok.len⟩, ?_⟩
  exact h _ _ ⟨g, ⟨g.p1.goal fun p m => hf p (gl_mem.mpr (.inl m)), g.p2.goal fun p m => hf p (gl_mem.mpr (.inr m)), g.iB, g.bn, g.len, fun _ _ => rfl⟩, rfl, rfl, rfl, rfl⟩
end VL
/-! text Rt -/
/-! Rt: _law_same. -/
namespace VL
open PySem PySem.Spec PyProof.Rows L2
section
variable {P : Program} {w : World} {K : PySem.W.Frag} {mg : Str → Option Value} {base : Heap} {cW cL cP : Addr}
abbrev N_law_same : List Str := ["_law_one", "_law_two", "_law_k"]
abbrev p_law_same : List Str := ["_law_one", "_law_two"]
def wb_law_same_1 (cW cL cP : Addr) (C_law_same : OC) : WS := (wif (wnot (wtru (wcall C_law_same (wac (w2 oIx (wo 0) (wo 2)) (wac (w2 oIx (wo 1) (wo 2)) wan))))) (wret (wc (.bl false))) wnext)
def ws_law_same (cW cL cP : Addr) (C_law_same : OC) : WS := (wseq (wif (wor (wt (wisN (wo 0))) (wt (wisN (wo 1)))) (wret (wandV (wisN (wo 0)) (wisN (wo 1)))) wnext) (wseq (wif (wor (wtru (wisi "bool" (wo 0))) (wtru (wisi "bool" (wo 1)))) (wret (wandV (wisi "bool" (wo 0)) (wandV (wisi "bool" (wo 1)) (w2 oEq (wo 0) (wo 1))))) wnext) (wseq (wif (wor (wtru (wisi "int" (wo 0))) (wtru (wisi "int" (wo 1)))) (wret (wandV (wisi "int" (wo 0)) (wandV (wisi "int" (wo 1)) (w2 oEq (wo 0) (wo 1))))) wnext) (wseq (wif (wor (wtru (wisi "str" (wo 0))) (wtru (wisi "str" (wo 1)))) (wret (wandV (wisi "str" (wo 0)) (wandV (wisi "str" (wo 1)) (w2 oEq (wo 0) (wo 1))))) wnext) (wseq (wif (wor (wtru (wisi "dict" (wo 0))) (wtru (wisi "dict" (wo 1)))) wnever wnext) (wseq (wif (wor (wnot (wtru (wisi2 "list" "tuple" (wo 0)))) (wnot (wtru (wisi2 "list" "tuple" (wo 1))))) (wret (wc (.bl false))) wnext) (wseq (wif (wor (wt (w2 oNe (wisi "list" (wo 0)) (wisi "list" (wo 1)))) (wt (w2 oNe (wcall cLen (wab (wo 0) wan)) (wcall cLen (wab (wo 1) wan))))) (wret (wc (.bl false))) wnext) (wseq (wfor (wir1 (wac (wcall cLen (wab (wo 0) wan)) wan)) (gn 2) (wb_law_same_1 cW cL cP C_law_same)) (wret (wc (.bl true)))))))))))
theorem sc_law_same : FnScope N_law_same p_law_same (defScope (top 74)) := ⟨rfl, rfl, rfl, by decide +kernel, rfl, by decide +kernel, by decide +kernel⟩
theorem dv_law_same {C_law_same : OC} (g : Pg P w K mg base cW cL cP) {k : Nat} (c_law_same : Cl P w K mg base "_law_same" k C_law_same) (st : Sto) (f : Addr) (cdv : Value) (A : Around) (outer : List Env) (s : Shared) (H : Hp) (E : XK) (hr : Room k (A.deeper (envOfC "_law_same" (defScope (top 74)) s.heap.objs.size f cdv))) : VSs (cxOf CX0 P w K mg base N_law_same "_law_same" (defScope (top 74)) f cdv A outer s H E).nox st false (defBody (top 74)) (ws_law_same cW cL cP C_law_same) := (ss_cons (s_if (t_w (x_or (t_isN (ov 0)) (x_or1 (t_isN (ov 1))))) (ss_one (s_ret (e_and (e_isN (ov 0)) (e_one (e_isN (ov 1)))))) ss_nil) (ss_cons (s_if (t_w (x_or (t_tru (VE.o (e_isi (m := "bool") g.b_isinstance g.b_bool (by decide +kernel) rfl (ov 0)))) (x_or1 (t_tru (VE.o (e_isi (m := "bool") g.b_isinstance g.b_bool (by decide +kernel) rfl (ov 1))))))) (ss_one (s_ret (e_and (e_isi (m := "bool") g.b_isinstance g.b_bool (by decide +kernel) rfl (ov 0)) (e_and (e_isi (m := "bool") g.b_isinstance g.b_bool (by decide +kernel) rfl (ov 1)) (e_one (e_cmp (op_eqP hr.units) d_eq (ov 0) (ov 1))))))) ss_nil) (ss_cons (s_if (t_w (x_or (t_tru (VE.o (e_isi (m := "int") g.b_isinstance g.b_int (by decide +kernel) rfl (ov 0)))) (x_or1 (t_tru (VE.o (e_isi (m := "int") g.b_isinstance g.b_int (by decide +kernel) rfl (ov 1))))))) (ss_one (s_ret (e_and (e_isi (m := "int") g.b_isinstance g.b_int (by decide +kernel) rfl (ov 0)) (e_and (e_isi (m := "int") g.b_isinstance g.b_int (by decide +kernel) rfl (ov 1)) (e_one (e_cmp (op_eqP hr.units) d_eq (ov 0) (ov 1))))))) ss_nil) (ss_cons (s_if (t_w (x_or (t_tru (VE.o (e_isi (m := "str") g.b_isinstance g.b_str (by decide +kernel) rfl (ov 0)))) (x_or1 (t_tru (VE.o (e_isi (m := "str") g.b_isinstance g.b_str (by decide +kernel) rfl (ov 1))))))) (ss_one (s_ret (e_and (e_isi (m := "str") g.b_isinstance g.b_str (by decide +kernel) rfl (ov 0)) (e_and (e_isi (m := "str") g.b_isinstance g.b_str (by decide +kernel) rfl (ov 1)) (e_one (e_cmp (op_eqP hr.units) d_eq (ov 0) (ov 1))))))) ss_nil) (ss_cons (s_if (t_w (x_or (t_tru (VE.o (e_isi (m := "dict") g.b_isinstance g.b_dict (by decide +kernel) rfl (ov 0)))) (x_or1 (t_tru (VE.o (e_isi (m := "dict") g.b_isinstance g.b_dict (by decide +kernel) rfl (ov 1))))))) ss_never ss_nil) (ss_cons (s_if (t_w (x_or (t_not (t_tru (VE.o (e_isi2 (m1 := "list") (m2 := "tuple") g.b_isinstance g.b_list g.b_tuple (by decide +kernel) (by decide +kernel) rfl rfl (ov 0))))) (x_or1 (t_not (t_tru (VE.o (e_isi2 (m1 := "list") (m2 := "tuple") g.b_isinstance g.b_list g.b_tuple (by decide +kernel) (by decide +kernel) rfl rfl (ov 1)))))))) (ss_one (s_ret e_bl)) ss_nil) (ss_cons (s_if (t_w (x_or (t_cmp (op_neP hr.units) d_ne (VE.o (e_isi (m := "list") g.b_isinstance g.b_list (by decide +kernel) rfl (ov 0))) (VE.o (e_isi (m := "list") g.b_isinstance g.b_list (by decide +kernel) rfl (ov 1)))) (x_or1 (t_cmp (op_neP hr.units) d_ne (VE.o (e_cb call_len d_len g.b_len (by decide +kernel) (ab (ov 0) an))) (VE.o (e_cb call_len d_len g.b_len (by decide +kernel) (ab (ov 1) an))))))) (ss_one (s_ret e_bl)) ss_nil) (ss_cons (s_for PassesOwn.never rfl (PImono (pi_range1 rfl g.b_range (ac (e_cb call_len d_len g.b_len (by decide +kernel) (ab (ov 0) an)) an)) tI_r1) (g_name (i := 2) sc_law_same.nd) (ss_one (s_if (t_not (t_tru (VE.o (e_call c_law_same hr (ac (e_ix (ov 0) (ov 2)) (ac (e_ix (ov 1) (ov 2)) an)) (hk := Nat.le_refl _))))) (ss_one (s_ret e_bl)) ss_nil))) (ss_one (s_ret e_bl))))))))))
end
variable {cW cL cP : Addr}
@[simp] theorem kit_bb : kitB "bool" "bool" = some true := by decide +kernel
@[simp] theorem kit_sb : kitB "str" "bool" = some false := by decide +kernel
@[simp] theorem kit_si : kitB "str" "int" = some false := by decide +kernel
@[simp] theorem kit_lb : kitB "list" "bool" = some false := by decide +kernel
@[simp] theorem kit_li : kitB "list" "int" = some false := by decide +kernel
@[simp] theorem kit_ls : kitB "list" "str" = some false := by decide +kernel
@[simp] theorem kit_ld : kitB "list" "dict" = some false := by decide +kernel
@[simp] theorem kit_ll : kitB "list" "list" = some true := by decide +kernel
@[simp] theorem kit_lt : kitB "list" "tuple" = some false := by decide +kernel
@[simp] theorem kit_tb : kitB "tuple" "bool" = some false := by decide +kernel
@[simp] theorem kit_ti : kitB "tuple" "int" = some false := by decide +kernel
@[simp] theorem kit_ts : kitB "tuple" "str" = some false := by decide +kernel
@[simp] theorem kit_td : kitB "tuple" "dict" = some false := by decide +kernel
@[simp] theorem kit_tl : kitB "tuple" "list" = some false := by decide +kernel
@[simp] theorem kit_tt : kitB "tuple" "tuple" = some true := by decide +kernel
@[simp] theorem ty_b (x : Bool) : tyD (.bl x) = some "bool" := rfl
@[simp] theorem ty_l (x : List D) : tyD (.lst x) = some "list" := rfl
@[simp] theorem ty_t (x : List D) : tyD (.tup x) = some "tuple" := rfl
@[simp] theorem nn_b (x : Bool) : isNonD (.bl x) = false := rfl
@[simp] theorem nn_i (x : Int) : isNonD (.int x) = false := rfl
@[simp] theorem nn_s (x : Str) : isNonD (.str x) = false := rfl
@[simp] theorem nn_l (x : List D) : isNonD (.lst x) = false := rfl
@[simp] theorem nn_t (x : List D) : isNonD (.tup x) = false := rfl
@[simp] theorem len_t (zs : List D) (R : D → Prop) : cLen [.bo (.tup zs)] R = R (.int (zs.length : Nat)) := id rfl
@[simp] theorem eq_b (i j : Bool) (R : D → Prop) : oEq (.bl i) (.bl j) R = R (.bl (decide (i = j))) := by simp [oEq, toPy, PyData.eqv, PyData.depth, bq]
@[simp] theorem ne_b (i j : Bool) (R : D → Prop) : oNe (.bl i) (.bl j) R = R (.bl (!decide (i = j))) := by simp [oNe, toPy, PyData.eqv, PyData.depth, bq]
@[simp] theorem q_wisi2 (G : Ga) (R : D → Prop) (w : WE) (m1 m2 : String) : wisi2 m1 m2 w G R = w G fun d => match tyD d with
  | some n => (match kitB n m1, kitB n m2 with
    | some a, some b => R (.bl (a || b))
    | _, _ => False)
  | none => False := id rfl
def c_prev : Nat → OC
  | 0 => fun _ _ => False
  | n + 1 => c_law_same n
theorem r_law_same (n : Nat) : ∀ as R, c_law_same n as R → ws_law_same cW cL cP (c_prev n) (gaOf N_law_same.length as) (poF R) := by
  rintro _ R ⟨d, rfl, hd, h⟩
  cases d with
  | non => simp [ws_law_same, h]
  | bl b => simp [ws_law_same, h]
  | int b => simp [ws_law_same, h]
  | str b => simp [ws_law_same, h]
  | lst ds =>
    cases n with
    | zero => exact hd.elim
    | succ n =>
      obtain ⟨hl, hm⟩ := hd
      simp [ws_law_same]
      refine ⟨by omega, ?_⟩
      refine FR_rng (fun i G => ∃ t, G = [.sh (.lst ds), .sh (.lst ds), t]) ⟨_, rfl⟩ ?_ ?_
      · rintro i _ hi ⟨t, rfl⟩
        have e : atI ds (i : Nat) = some ds[i] := by rw [atI_nat]; simp [hi]
        simp [wb_law_same_1]
        rw [ix_l _ e, ix_l _ e]
        refine ⟨_, rfl, hm _ (List.getElem_mem _), ?_⟩
        simp
      · rintro _ ⟨t, rfl⟩
        simp
        exact h
  | tup ds =>
    cases n with
    | zero => exact hd.elim
    | succ n =>
      obtain ⟨hl, hm⟩ := hd
      simp [ws_law_same]
      refine ⟨by omega, ?_⟩
      refine FR_rng (fun i G => ∃ t, G = [.sh (.tup ds), .sh (.tup ds), t]) ⟨_, rfl⟩ ?_ ?_
      · rintro i _ hi ⟨t, rfl⟩
        have e : atI ds (i : Nat) = some ds[i] := by rw [atI_nat]; simp [hi]
        simp [wb_law_same_1]
        rw [ix_t _ e, ix_t _ e]
        refine ⟨_, rfl, hm _ (List.getElem_mem _), ?_⟩
        simp
      · rintro _ ⟨t, rfl⟩
        simp
        exact h
  | dic => cases n <;> exact hd.elim
  | obj => cases n <;> exact hd.elim
  | sto => cases n <;> exact hd.elim
def c_law_mixed : OC := fun as R => ∃ a b, as = [.sh (.int a), .sh (.int b)] ∧ ∀ k, R (.int k)
theorem r_law_mixed : ∀ as R, c_law_mixed as R → ws_law_mixed cW cL cP (gaOf N_law_mixed.length as) (poF R) := by
  rintro _ R ⟨a, b, rfl, h⟩
  simp [ws_law_mixed]
  have m1 := Int.emod_nonneg (a * 48271 + b * 69621 + 12345) (show (2147483647 : Int) ≠ 0 by decide)
  have m2 := Int.emod_lt_of_pos (a * 48271 + b * 69621 + 12345) (show (0 : Int) < 2147483647 by decide)
  refine ⟨.inr ⟨by omega, by omega⟩, .inr ⟨by omega, by omega⟩, .inr ⟨by omega, by omega⟩, .inr ⟨by omega, by omega⟩, .inr ⟨by omega, by omega⟩, ⟨by omega, by omega⟩, ?_⟩
  exact h _
end VL
/-! text Ru -/
/-! Ru: _law_take, at the hand layer. -/
namespace VL
open PySem PySem.Spec PyProof.Rows L2
abbrev N_law_take : List Str := ["_law_store_here", "_law_many", "_law_rest", "_law_cell"]
abbrev p_law_take : List Str := ["_law_store_here", "_law_many"]
theorem sc_law_take : FnScope N_law_take p_law_take (defScope (top 66)) := ⟨rfl, rfl, rfl, by decide +kernel, rfl, by decide +kernel, by decide +kernel⟩
/-- the store, told -/
def stA (H : Hp) (s c : Addr) (i r m z : Int) (ns : List Int) : Prop := H s = some (.lst [.ref c, .int i, .int r, .int m, .int z]) ∧ H c = some (.lst (ns.map V.int))
theorem rd_ix {K : PySem.W.Frag} {H : Hp} {p : Addr} {xs : List V} {k : Int} {v : V} {Q : VK} (h : H p = some (.lst xs)) (e : atI xs k = some v) (q : Q v H) : rIx K (.ref p) (.int k) H Q := .inl ⟨p, xs, k, v, rfl, rfl, .of h, e, q⟩
theorem seq_tail {t u : TS} {D : Ends} {σ : L2.St} {H : Hp} (Z : L2.St → Hp → Prop) (hz : ∀ σ' H', Z σ' H' → u D σ' H') (h : (∀ σ' H', Z σ' H' → u D σ' H') → t { D with nx := u D } σ H) : tSeq t u D σ H := h hz
theorem spD_mono {st : Sto} {C : OC} {vs : List V} {H : Hp} {Q Q' : VK} {E : XK} (h : spD st C vs H Q E) (k : ∀ v H', Q v H' → Q' v H') : spD st C vs H Q' E := by
  obtain ⟨F, as, R, a, b, c, d⟩ := h
  exact ⟨F, as, R, a, b, c, fun e v H' r f q => k v H' (d e v H' r f q)⟩
section
variable {P : Program} {w : World} {K : PySem.W.Frag} {mg : Str → Option Value} {base : Heap} {cW cL cP : Addr}
theorem dv_law_take (g : Pg P w K mg base cW cL cP) (cm : Cl P w K mg base "_law_mixed" 2 c_law_mixed) (st : Sto) (f : Addr) (cdv : Value) (A : Around) (outer : List Env) (s : Shared) (H0 : Hp) (E : XK) (hr : Room 2 (A.deeper (envOfC "_law_take" (defScope (top 66)) s.heap.objs.size f cdv))) :
    ∃ t, PSs (cxOf CX0 P w K mg base N_law_take "_law_take" (defScope (top 66)) f cdv A outer s H0 E).nox (defBody (top 66)) t ∧
      ∀ (sa c : Addr) (n : Int) (F : Foot) (H : Hp) (Q : VK), st = some (sa, c) → FOk st F H → n ≤ 1000000 → (∀ (k : Int) H', 0 ≤ k → (k = 0 ∨ k < n) → Fx st H H' → Q (.int k) H') → t { nx := fun _ H' => Q .non H', rt := Q } (start N_law_take [.ref sa, .int n]) H := by
  obtain ⟨fm, fdm, psm, m1, m2, m3, m4⟩ := cm.ex
  refine ⟨_, pss_cons (ps_if (pt_cmpR op_lt (pv 1) pe_int (nomark _)) (pss_one (ps_ret pe_int)) pss_nil)
    (pss_cons (ps_asg (pe_op op_add (pe_ix ix_seq (pv 0) pe_int (fun _ _ => rfl)) pe_int) (pg_sub (pv 0) pe_int set_list) (by rfl) (by rfl) (by rfl))
    (pss_cons (ps_set (i := 2) sc_law_take.nd (by rfl) (by exact .inl rfl) (pe_ix ix_seq (pv 0) pe_int (fun _ _ => rfl)))
    (pss_cons (ps_if (pw_and (pt_cmpR op_lt (pv 2) pe_int (nomark _)) (pw_and1 (pt_cmpR op_lt (pe_ix ix_seq (pv 0) pe_int (fun _ _ => rfl)) (pe_callB call_len (by rfl) g.b_len boot_len (pa_cons (pe_ix ix_seq (pv 0) pe_int (fun _ _ => rfl)) pa_nil)) (nomark _)))).pt
      (pss_cons (ps_set (i := 3) sc_law_take.nd (by rfl) (by exact .inl rfl) (pe_ix ix_seq (pe_ix ix_seq (pv 0) pe_int (fun _ _ => rfl)) (pe_ix ix_seq (pv 0) pe_int (fun _ _ => rfl)) (fun _ _ => rfl)))
      (pss_cons (ps_asg (pe_op op_add (pe_ix ix_seq (pv 0) pe_int (fun _ _ => rfl)) pe_int) (pg_sub (pv 0) pe_int set_list) (by rfl) (by rfl) (by rfl))
      (pss_cons (ps_set (i := 2) sc_law_take.nd (by rfl) (by exact .inl rfl) (pe_callB call_abs (by rfl) g.b_abs (by decide +kernel) (pa_cons (pv 3) pa_nil)))
      (pss_one (ps_if (pt_cmpR op_lt (pv 2) (pe_op op_pow pe_int pe_int) (nomark _))
        (pss_one (ps_ret (pe_op op_mod (pe_callTy call_int1 (by rfl) g.b_int (by decide +kernel) (pa_cons (pe_call (m2 st) hr (by rfl) m1 m3 m4 .nil pass0 (pa_cons (pv 3) (pa_cons (pe_ix ix_seq (pv 0) pe_int (fun _ _ => rfl)) pa_nil))) pa_nil)) (pv 1)))) pss_nil))))) pss_nil)
    (pss_cons (ps_if (pt_cmpR op_gt (pv 2) pe_int (nomark _))
      (pss_cons (ps_asg (pe_op op_fdiv (pv 2) (pv 1)) (pg_sub (pv 0) pe_int set_list) (by rfl) (by rfl) (by rfl))
      (pss_one (ps_ret (pe_op op_mod (pe_callTy call_int1 (by rfl) g.b_int (by decide +kernel) (pa_cons (pv 2) pa_nil)) (pv 1))))) pss_nil)
    (pss_cons (ps_asg pe_int (pg_sub (pv 0) pe_int set_list) (by rfl) (by rfl) (by rfl))
    (pss_one (ps_ret (pe_op op_mod (pe_callTy call_int1 (by rfl) g.b_int (by decide +kernel) (pa_cons (pe_call (m2 st) hr (by rfl) m1 m3 m4 .nil pass0 (pa_cons (pe_op op_add (pe_ix ix_seq (pv 0) pe_int (fun _ _ => rfl)) pe_int) (pa_cons (pe_ix ix_seq (pv 0) pe_int (fun _ _ => rfl)) pa_nil))) pa_nil)) (pv 1))))))))), ?_⟩
  intro sa c n F H Q hst o hn hQ
  subst hst
  obtain ⟨i, r, m, z, ns, h1, h2, h3, h4⟩ := o.hi
  have nsc : sa ≠ c := fun e => by
    rw [e, h2] at h1
    cases ns with
    | nil => simp at h1
    | cons a b => simp at h1
  have up : ∀ (H1 : Hp) (i r m z : Int), Fx (some (sa, c)) H H1 → H1 c = some (.lst (ns.map V.int)) → 0 ≤ i → stA (upd H1 sa (.lst [.ref c, .int i, .int r, .int m, .int z])) sa c i r m z ns ∧ Fx (some (sa, c)) H (upd H1 sa (.lst [.ref c, .int i, .int r, .int m, .int z])) := fun H1 i r m z fx hc hi => by
    have hc' : (upd H1 sa (.lst [.ref c, .int i, .int r, .int m, .int z])) c = some (.lst (ns.map V.int)) := by rw [upd_ne nsc.symm]; exact hc
    refine ⟨⟨upd_same, hc'⟩, fx.fr.trans (Fr.set ⟨sa, c, rfl, rfl⟩), ?_⟩
    exact ⟨i, r, m, z, ns, upd_same, hc', hi, h4⟩
  have fin : ∀ (H1 : Hp) (a b : Int), Fx (some (sa, c)) H H1 → 2 ≤ n → spD (some (sa, c)) c_law_mixed [.int a, .int b] H1 (fun v H' => (∃ k, v = .int k ∧ Q (.int (k % n)) H')) E0 := fun H1 a b fx hn2 => by
    refine ⟨F, [.sh (.int a), .sh (.int b)], fun d => ∃ k, d = .int k, o.step fx.fr fx.hi, .cons (at_int (st := some (sa, c)) (A := F.A) (H := H1)) (.cons (at_int (st := some (sa, c)) (A := F.A) (H := H1)) .nil), ⟨a, b, rfl, fun k => ⟨k, rfl⟩⟩, fun d v H' hd f q => ?_⟩
    obtain ⟨k, rfl⟩ := hd
    refine ⟨k, q.imm rfl, ?_⟩
    exact hQ _ _ (Int.emod_nonneg _ (by omega)) (.inr (Int.emod_lt_of_pos _ (by omega))) (fx.trans f)
  refine ⟨_, rfl, _, _, rfl, rfl, _, rfl, ?_⟩
  dsimp only
  split
  · exact hQ 0 H (by omega) (.inl rfl) (.refl o.hi)
  · rename_i hlt
    have hn2 : 2 ≤ n := by simpa using hlt
    refine ⟨_, rfl, rd_ix h1 (by rfl) ⟨_, _, rfl, rfl, ⟨_, rfl, ⟨_, _, _, _, rfl, rfl, h1, rfl, ?_⟩⟩⟩⟩
    obtain ⟨u1, f1⟩ := up H i r (m + 1) z (.refl o.hi) h2 h3
    show tSeq _ _ _ _ (upd H sa (.lst [.ref c, .int i, .int r, .int (m + 1), .int z]))
    generalize upd H sa (.lst [.ref c, .int i, .int r, .int (m + 1), .int z]) = H1 at u1 f1
    obtain ⟨a1, a2⟩ := u1
    refine ⟨_, rfl, rd_ix a1 (by rfl) ?_⟩
    unfold gName
    dsimp only
    refine seq_tail (Z := fun σ' H' => ∃ (rest : Int) (y : Option V) (i' r' m' z' : Int), σ' = [some (.ref sa), some (.int n), some (.int rest), y] ∧ stA H' sa c i' r' m' z' ns ∧ 0 ≤ i' ∧ Fx (some (sa, c)) H H') ?_ ?_
    · rintro _ H2 ⟨rest, y, i', r', m', z', rfl, ⟨b1, b2⟩, hi', f2⟩
      refine ⟨_, rfl, _, _, rfl, rfl, _, rfl, ?_⟩
      dsimp only
      split
      · refine ⟨_, rfl, _, rfl, _, _, rfl, rfl, ⟨by omega, by omega⟩, ⟨_, rfl, ⟨_, _, _, _, rfl, rfl, b1, rfl, ?_⟩⟩⟩
        obtain ⟨u2, f3⟩ := up H2 i' (rest / n) m' z' f2 b2 hi'
        refine ⟨_, rfl, .inl ⟨_, rfl, ?_⟩⟩
        refine ⟨_, rfl, _, _, rfl, rfl, by omega, ?_⟩
        exact hQ _ _ (Int.emod_nonneg _ (by omega)) (.inr (Int.emod_lt_of_pos _ (by omega))) f3
      · refine ⟨_, rfl, ⟨_, _, _, _, rfl, rfl, b1, rfl, ?_⟩⟩
        obtain ⟨u2, f3⟩ := up H2 i' 0 m' z' f2 b2 hi'
        dsimp only
        show tRet _ _ _ (upd H2 sa (.lst [.ref c, .int i', .int 0, .int m', .int z']))
        generalize upd H2 sa (.lst [.ref c, .int i', .int 0, .int m', .int z']) = H3 at u2 f3
        obtain ⟨c1, c2⟩ := u2
        refine ⟨_, rfl, rd_ix c1 (by rfl) ⟨_, _, rfl, rfl, ⟨_, rfl, rd_ix c1 (by rfl) ?_⟩⟩⟩
        refine spD_mono (fin H3 (z' + 1000003) m' f3 hn2) fun v H' hv => ?_
        obtain ⟨k, rfl, hq⟩ := hv
        exact .inl ⟨_, rfl, _, rfl, _, _, rfl, rfl, by omega, hq⟩
    · intro tail
      refine ⟨_, rfl, _, _, rfl, rfl, _, rfl, ?_⟩
      dsimp only
      split
      · refine ⟨_, rfl, rd_ix a1 (by rfl) ⟨_, rfl, rd_ix a1 (by rfl) ⟨V.ref c, (ns.map V.int).length, rfl, Or.inl ⟨_, .of a2, rfl⟩, _, _, rfl, rfl, _, rfl, ?_⟩⟩⟩
        dsimp only
        split
        · rename_i hil
          have hil' : i.toNat < ns.length := by simp at hil; omega
          have hat : atI (ns.map V.int) i = some (V.int ns[i.toNat]) := by
            have := atI_nat (ns.map V.int) i.toNat
            rw [show ((i.toNat : Nat) : Int) = i by omega] at this
            rw [this]
            simp [hil']
          refine ⟨_, rfl, rd_ix a1 (by rfl) ⟨_, rfl, rd_ix a1 (by rfl) (rd_ix a2 hat ?_)⟩⟩
          refine ⟨_, rfl, rd_ix a1 (by rfl) ⟨_, _, rfl, rfl, ⟨_, rfl, ⟨_, _, _, _, rfl, rfl, a1, rfl, ?_⟩⟩⟩⟩
          obtain ⟨u2, f3⟩ := up H1 (i + 1) r (m + 1) z f1 a2 (by omega)
          show tSeq _ _ _ _ (upd H1 sa (.lst [.ref c, .int (i + 1), .int r, .int (m + 1), .int z]))
          generalize upd H1 sa (.lst [.ref c, .int (i + 1), .int r, .int (m + 1), .int z]) = H2 at u2 f3
          obtain ⟨b1, b2⟩ := u2
          refine ⟨_, rfl, _, rfl, ?_⟩
          generalize (if ns[i.toNat] < 0 then -ns[i.toNat] else ns[i.toNat]) = ab
          refine ⟨_, rfl, ⟨_, _, rfl, rfl, ⟨by omega, by omega, by decide⟩, _, _, rfl, rfl, _, rfl, ?_⟩⟩
          dsimp only
          split
          · refine ⟨_, rfl, ⟨_, rfl, rd_ix b1 (by rfl) ?_⟩⟩
            refine spD_mono (fin H2 _ (m + 1) f3 hn2) fun v H' hv => ?_
            obtain ⟨k, rfl, hq⟩ := hv
            exact .inl ⟨_, rfl, _, rfl, _, _, rfl, rfl, by omega, hq⟩
          · exact tail _ _ ⟨_, _, _, _, _, _, rfl, ⟨b1, b2⟩, by omega, f3⟩
        · exact tail _ _ ⟨_, _, _, _, _, _, rfl, ⟨a1, a2⟩, h3, f1⟩
      · exact tail _ _ ⟨_, _, _, _, _, _, rfl, ⟨a1, a2⟩, h3, f1⟩
end
end VL
/-! text Ca -/
/-! Ca: each def keeps its contract (printed by gen3.py). -/
namespace VL
open PySem PySem.Spec PyProof.Rows L2
section
variable {P : Program} {w : World} {K : PySem.W.Frag} {mg : Str → Option Value} {base : Heap} {cW cL cP : Addr} {f : Addr} {fd : FuncData}
theorem fnIn_of {x qual : Str} {params : Arguments} {body : List Stmt} {scope : Scope} {dvs : List V} {kws : List (Str × V)} (F : FunD K x qual params body scope dvs kws f fd) : PySem.W.fnIn K f = true := by
  obtain ⟨_, _, _, _, _, _, _, _, _, _, rfl, lk, _⟩ := F.ex
  unfold PySem.W.fnIn
  rw [lk]
theorem cl_is_name (g : Pg P w K mg base cW cL cP) (F : FunD K "is_name" "is_name" (defArgs (top 21)) (defBody (top 21)) (defScope (top 21)) [] [] f fd) (hm : mg "is_name" = some (.ref f))  : Cl P w K mg base "is_name" 2 c_is_name := ⟨⟨f, fd, p_is_name, hm, fun st => fn_ok F sc_is_name (fun _ _ h => by obtain ⟨_, rfl, _⟩ := h; rfl) (fun cdv A outer s H E hr => dv_is_name g  st f cdv A outer s H E hr) r_is_name, F.kp, F.bindsN fun _ _ _ _ _ _ us hl => match us, hl with | [_], _ => rfl⟩⟩
theorem cl_is_height (g : Pg P w K mg base cW cL cP) (F : FunD K "is_height" "is_height" (defArgs (top 22)) (defBody (top 22)) (defScope (top 22)) [] [] f fd) (hm : mg "is_height" = some (.ref f))  : Cl P w K mg base "is_height" 2 c_is_height := ⟨⟨f, fd, p_is_height, hm, fun st => fn_ok F sc_is_height (fun _ _ h => by obtain ⟨_, rfl, _⟩ := h; rfl) (fun cdv A outer s H E hr => dv_is_height g  st f cdv A outer s H E hr) r_is_height, F.kp, F.bindsN fun _ _ _ _ _ _ us hl => match us, hl with | [_], _ => rfl⟩⟩
theorem ok_need_names (g : Pg P w K mg base cW cL cP) (F : FunD K "need_names" "need_names" (defArgs (top 23)) (defBody (top 23)) (defScope (top 23)) [] [("what", .str "places"), ("least", .int 0), ("most", .int 10)] f fd) (c_is_name : Cl P w K mg base "is_name" 2 c_is_name) : ∀ st, FnOk P w K mg base CX0 4 f fd p_need_names (spD st c_need_names) := fun st => fn_ok F sc_need_names (fun _ _ h => by obtain ⟨_, _, _, _, rfl, _⟩ := h; rfl) (fun cdv A outer s H E hr => dv_need_names g c_is_name st f cdv A outer s H E hr) r_need_names
theorem cl_bond_row (g : Pg P w K mg base cW cL cP) (F : FunD K "bond_row" "bond_row" (defArgs (top 25)) (defBody (top 25)) (defScope (top 25)) [] [] f fd) (hm : mg "bond_row" = some (.ref f))  : Cl P w K mg base "bond_row" 2 c_bond_row := ⟨⟨f, fd, p_bond_row, hm, fun st => fn_ok F sc_bond_row (fun _ _ h => by obtain ⟨_, rfl, _⟩ := h; rfl) (fun cdv A outer s H E hr => dv_bond_row g  st f cdv A outer s H E hr) r_bond_row, F.kp, F.bindsN fun _ _ _ _ _ _ us hl => match us, hl with | [_, _, _], _ => rfl⟩⟩
theorem cl_need_bonds (g : Pg P w K mg base cW cL cP) (F : FunD K "need_bonds" "need_bonds" (defArgs (top 26)) (defBody (top 26)) (defScope (top 26)) [] [] f fd) (hm : mg "need_bonds" = some (.ref f)) (c_is_name : Cl P w K mg base "is_name" 2 c_is_name) (c_bond_row : Cl P w K mg base "bond_row" 2 c_bond_row) : Cl P w K mg base "need_bonds" 4 c_need_bonds := ⟨⟨f, fd, p_need_bonds, hm, fun st => fn_ok F sc_need_bonds (fun _ _ h => by obtain ⟨_, _, rfl, _⟩ := h; rfl) (fun cdv A outer s H E hr => dv_need_bonds g c_is_name c_bond_row st f cdv A outer s H E hr) r_need_bonds, F.kp, F.bindsN fun _ _ _ _ _ _ us hl => match us, hl with | [_, _], _ => rfl⟩⟩
theorem cl_W___init__ (g : Pg P w K mg base cW cL cP) (F : FunD K "__init__" "Web.__init__" (defArgs (inClass (top 29) 0)) (defBody (inClass (top 29) 0)) (defScope (inClass (top 29) 0)) [] [] f fd) (hm : mg "Web" = some (.ref cW)) (mk : Mk K cW f) (c_need_names : Kn P w K mg base "need_names" 4 c_need_names) (c_need_bonds : Cl P w K mg base "need_bonds" 4 c_need_bonds) (c_neighbour_table_webs : Cl P w K mg base "neighbour_table_webs" 3 c_ntw) : Mc P w K mg base "Web" cW 6 ci_W := ⟨⟨f, fd, p_W___init__, hm, mk, fun st => init_ok F sc_W___init__ (fun _ _ h => by obtain ⟨_, _, rfl, _⟩ := h; rfl) (fun cdv A outer s H E hr => dv_W___init__ g c_need_names c_need_bonds c_neighbour_table_webs st f cdv A outer s H E hr) r_W_init, F.bindsN fun _ _ _ _ _ _ us hl => match us, hl with | [_, _, _], _ => rfl⟩⟩
theorem cl_W_places {p : Addr} (g : Pg P w K mg base cW cL cP) (F : FunD K "places" "Web.places" (defArgs (inClass (top 29) 2)) (defBody (inClass (top 29) 2)) (defScope (inClass (top 29) 2)) [] [] f fd) (me : PropOf K cW "places" p f)  : Pr P w K mg base cW "places" 2 (c_W_places cW) := ⟨⟨p, f, fd, p_W_places, me, fun st => fn_ok F sc_W_places (fun _ _ h => by obtain ⟨_, _, rfl, _⟩ := h; rfl) (fun cdv A outer s H E hr => dv_W_places g  st f cdv A outer s H E hr) r_W_places, F.bindsN fun _ _ _ _ _ _ us hl => match us, hl with | [_], _ => rfl⟩⟩
theorem cl_W_bonds {p : Addr} (g : Pg P w K mg base cW cL cP) (F : FunD K "bonds" "Web.bonds" (defArgs (inClass (top 29) 3)) (defBody (inClass (top 29) 3)) (defScope (inClass (top 29) 3)) [] [] f fd) (me : PropOf K cW "bonds" p f)  : Pr P w K mg base cW "bonds" 2 (c_W_bonds cW) := ⟨⟨p, f, fd, p_W_bonds, me, fun st => fn_ok F sc_W_bonds (fun _ _ h => by obtain ⟨_, _, rfl, _⟩ := h; rfl) (fun cdv A outer s H E hr => dv_W_bonds g  st f cdv A outer s H E hr) r_W_bonds, F.bindsN fun _ _ _ _ _ _ us hl => match us, hl with | [_], _ => rfl⟩⟩
theorem cl_W___len__ (g : Pg P w K mg base cW cL cP) (F : FunD K "__len__" "Web.__len__" (defArgs (inClass (top 29) 4)) (defBody (inClass (top 29) 4)) (defScope (inClass (top 29) 4)) [] [] f fd) (me : Meth K cW "__len__" f)  : Me P w K mg base cW "__len__" 2 (c_W_len cW) := ⟨⟨f, fd, p_W___len__, me, fnIn_of F, fun st => fn_ok F sc_W___len__ (fun _ _ h => by obtain ⟨_, _, rfl, _⟩ := h; rfl) (fun cdv A outer s H E hr => dv_W___len__ g  st f cdv A outer s H E hr) r_W_len, F.bindsN fun _ _ _ _ _ _ us hl => match us, hl with | [_], _ => rfl⟩⟩
theorem cl_W___eq__ (g : Pg P w K mg base cW cL cP) (F : FunD K "__eq__" "Web.__eq__" (defArgs (inClass (top 29) 7)) (defBody (inClass (top 29) 7)) (defScope (inClass (top 29) 7)) [] [] f fd) (me : Meth K cW "__eq__" f)  : Me P w K mg base cW "__eq__" 2 (c_W_eq cW) := ⟨⟨f, fd, p_W___eq__, me, fnIn_of F, fun st => fn_ok F sc_W___eq__ (fun _ _ h => by obtain ⟨_, _, _, _, rfl, _⟩ := h; rfl) (fun cdv A outer s H E hr => dv_W___eq__ g  st f cdv A outer s H E hr) r_W_eq, F.bindsN fun _ _ _ _ _ _ us hl => match us, hl with | [_, _], _ => rfl⟩⟩
theorem cl_LA___init__ (g : Pg P w K mg base cW cL cP) (F : FunD K "__init__" "Land.__init__" (defArgs (inClass (top 31) 0)) (defBody (inClass (top 31) 0)) (defScope (inClass (top 31) 0)) [] [] f fd) (hm : mg "Land" = some (.ref cL)) (mk : Mk K cL f) (c_W___len__ : Me P w K mg base cW "__len__" 2 (c_W_len cW)) (c_is_height : Cl P w K mg base "is_height" 2 c_is_height) : Mc P w K mg base "Land" cL 4 (ci_LA cW) := ⟨⟨f, fd, p_LA___init__, hm, mk, fun st => init_ok F sc_LA___init__ (fun _ _ h => by obtain ⟨_, _, rfl, _⟩ := h; rfl) (fun cdv A outer s H E hr => dv_LA___init__ g c_W___len__ c_is_height st f cdv A outer s H E hr) r_LA_init, F.bindsN fun _ _ _ _ _ _ us hl => match us, hl with | [_, _, _], _ => rfl⟩⟩
theorem cl_LA_heights {p : Addr} (g : Pg P w K mg base cW cL cP) (F : FunD K "heights" "Land.heights" (defArgs (inClass (top 31) 2)) (defBody (inClass (top 31) 2)) (defScope (inClass (top 31) 2)) [] [] f fd) (me : PropOf K cL "heights" p f)  : Pr P w K mg base cL "heights" 2 (c_LA_heights cW cL) := ⟨⟨p, f, fd, p_LA_heights, me, fun st => fn_ok F sc_LA_heights (fun _ _ h => by obtain ⟨_, _, rfl, _⟩ := h; rfl) (fun cdv A outer s H E hr => dv_LA_heights g  st f cdv A outer s H E hr) r_LA_heights, F.bindsN fun _ _ _ _ _ _ us hl => match us, hl with | [_], _ => rfl⟩⟩
theorem cl_LA___getitem__ (g : Pg P w K mg base cW cL cP) (F : FunD K "__getitem__" "Land.__getitem__" (defArgs (inClass (top 31) 3)) (defBody (inClass (top 31) 3)) (defScope (inClass (top 31) 3)) [] [] f fd) (me : Meth K cL "__getitem__" f)  : Me P w K mg base cL "__getitem__" 2 (c_LA_getitem cW cL) := ⟨⟨f, fd, p_LA___getitem__, me, fnIn_of F, fun st => fn_ok F sc_LA___getitem__ (fun _ _ h => by obtain ⟨_, _, _, rfl, _⟩ := h; rfl) (fun cdv A outer s H E hr => dv_LA___getitem__ g  st f cdv A outer s H E hr) r_LA_getitem, F.bindsN fun _ _ _ _ _ _ us hl => match us, hl with | [_, _], _ => rfl⟩⟩
theorem cl_LA___len__ (g : Pg P w K mg base cW cL cP) (F : FunD K "__len__" "Land.__len__" (defArgs (inClass (top 31) 4)) (defBody (inClass (top 31) 4)) (defScope (inClass (top 31) 4)) [] [] f fd) (me : Meth K cL "__len__" f)  : Me P w K mg base cL "__len__" 2 (c_LA_len cW cL) := ⟨⟨f, fd, p_LA___len__, me, fnIn_of F, fun st => fn_ok F sc_LA___len__ (fun _ _ h => by obtain ⟨_, _, rfl, _⟩ := h; rfl) (fun cdv A outer s H E hr => dv_LA___len__ g  st f cdv A outer s H E hr) r_LA_len, F.bindsN fun _ _ _ _ _ _ us hl => match us, hl with | [_], _ => rfl⟩⟩
theorem cl_LA___contains__ (g : Pg P w K mg base cW cL cP) (F : FunD K "__contains__" "Land.__contains__" (defArgs (inClass (top 31) 5)) (defBody (inClass (top 31) 5)) (defScope (inClass (top 31) 5)) [] [] f fd) (me : Meth K cL "__contains__" f)  : Me P w K mg base cL "__contains__" 2 (c_LA_contains cW cL) := ⟨⟨f, fd, p_LA___contains__, me, fnIn_of F, fun st => fn_ok F sc_LA___contains__ (fun _ _ h => by obtain ⟨_, _, _, rfl, _⟩ := h; rfl) (fun cdv A outer s H E hr => dv_LA___contains__ g  st f cdv A outer s H E hr) r_LA_contains, F.bindsN fun _ _ _ _ _ _ us hl => match us, hl with | [_, _], _ => rfl⟩⟩
theorem cl_LA_table (g : Pg P w K mg base cW cL cP) (F : FunD K "table" "Land.table" (defArgs (inClass (top 31) 10)) (defBody (inClass (top 31) 10)) (defScope (inClass (top 31) 10)) [] [] f fd) (me : Meth K cL "table" f)  : MeF P w K mg base cL "table" 2 (c_LA_table cW cL) := ⟨⟨f, fd, p_LA_table, me, fun st => fn_okF F sc_LA_table (by rfl) (fun _ _ h => by obtain ⟨_, _, rfl, _⟩ := h; rfl) (fun cdv A outer s H E hr => dv_LA_table g  st f cdv A outer s H E hr) r_LA_table, F.bindsN fun _ _ _ _ _ _ us hl => match us, hl with | [_], _ => rfl⟩⟩
theorem cl_flat_around (g : Pg P w K mg base cW cL cP) (F : FunD K "flat_around" "flat_around" (defArgs (top 35)) (defBody (top 35)) (defScope (top 35)) [] [] f fd) (hm : mg "flat_around" = some (.ref f))  : Cl P w K mg base "flat_around" 2 c_flat_around := ⟨⟨f, fd, p_flat_around, hm, fun st => fn_ok F sc_flat_around (fun _ _ h => by obtain ⟨_, _, rfl, _⟩ := h; rfl) (fun cdv A outer s H E hr => dv_flat_around g  st f cdv A outer s H E hr) r_flat_around, F.kp, F.bindsN fun _ _ _ _ _ _ us hl => match us, hl with | [_, _, _], _ => rfl⟩⟩
theorem cl_all_flats (g : Pg P w K mg base cW cL cP) (F : FunD K "all_flats" "all_flats" (defArgs (top 36)) (defBody (top 36)) (defScope (top 36)) [] [] f fd) (hm : mg "all_flats" = some (.ref f)) (c_flat_around : Cl P w K mg base "flat_around" 2 c_flat_around) : Cl P w K mg base "all_flats" 4 c_all_flats := ⟨⟨f, fd, p_all_flats, hm, fun st => fn_ok F sc_all_flats (fun _ _ h => by obtain ⟨_, rfl, _⟩ := h; rfl) (fun cdv A outer s H E hr => dv_all_flats g c_flat_around st f cdv A outer s H E hr) r_all_flats, F.kp, F.bindsN fun _ _ _ _ _ _ us hl => match us, hl with | [_, _], _ => rfl⟩⟩
theorem cl_flats_of (g : Pg P w K mg base cW cL cP) (F : FunD K "flats_of" "flats_of" (defArgs (top 37)) (defBody (top 37)) (defScope (top 37)) [] [] f fd) (hm : mg "flats_of" = some (.ref f)) (c_all_flats : Cl P w K mg base "all_flats" 4 c_all_flats) (c_LA_table : MeF P w K mg base cL "table" 2 (c_LA_table cW cL)) (c_neighbour_table_flats : Cl P w K mg base "neighbour_table_flats" 5 (c_ntf cW)) : Cl P w K mg base "flats_of" 7 (c_flats_of cW cL) := ⟨⟨f, fd, p_flats_of, hm, fun st => fn_ok F sc_flats_of (fun _ _ h => by obtain ⟨_, _, rfl, _⟩ := h; rfl) (fun cdv A outer s H E hr => dv_flats_of g c_all_flats c_LA_table c_neighbour_table_flats st f cdv A outer s H E hr) r_flats_of, F.kp, F.bindsN fun _ _ _ _ _ _ us hl => match us, hl with | [_], _ => rfl⟩⟩
theorem cl_need_same_web (g : Pg P w K mg base cW cL cP) (F : FunD K "need_same_web" "need_same_web" (defArgs (top 39)) (defBody (top 39)) (defScope (top 39)) [] [] f fd) (hm : mg "need_same_web" = some (.ref f)) (c_W___eq__ : Me P w K mg base cW "__eq__" 2 (c_W_eq cW)) : Cl P w K mg base "need_same_web" 4 (c_need_same_web cW cL) := ⟨⟨f, fd, p_need_same_web, hm, fun st => fn_ok F sc_need_same_web (fun _ _ h => by obtain ⟨_, _, _, _, rfl, _⟩ := h; rfl) (fun cdv A outer s H E hr => dv_need_same_web g c_W___eq__ st f cdv A outer s H E hr) r_need_same_web, F.kp, F.bindsN fun _ _ _ _ _ _ us hl => match us, hl with | [_, _], _ => rfl⟩⟩
theorem cl_slanted_bonds (g : Pg P w K mg base cW cL cP) (F : FunD K "slanted_bonds" "slanted_bonds" (defArgs (top 41)) (defBody (top 41)) (defScope (top 41)) [] [] f fd) (hm : mg "slanted_bonds" = some (.ref f)) (c_LA_table : MeF P w K mg base cL "table" 2 (c_LA_table cW cL)) (c_W_bonds : Pr P w K mg base cW "bonds" 2 (c_W_bonds cW)) : Cl P w K mg base "slanted_bonds" 4 (c_slanted cW cL) := ⟨⟨f, fd, p_slanted_bonds, hm, fun st => fn_ok F sc_slanted_bonds (fun _ _ h => by obtain ⟨_, _, rfl, _⟩ := h; rfl) (fun cdv A outer s H E hr => dv_slanted_bonds g c_LA_table c_W_bonds st f cdv A outer s H E hr) r_slanted, F.kp, F.bindsN fun _ _ _ _ _ _ us hl => match us, hl with | [_], _ => rfl⟩⟩
theorem cl_broken_rows (g : Pg P w K mg base cW cL cP) (F : FunD K "broken_rows" "broken_rows" (defArgs (top 42)) (defBody (top 42)) (defScope (top 42)) [] [] f fd) (hm : mg "broken_rows" = some (.ref f))  : Cl P w K mg base "broken_rows" 2 c_broken_rows := ⟨⟨f, fd, p_broken_rows, hm, fun st => fn_ok F sc_broken_rows (fun _ _ h => by obtain ⟨_, _, _, rfl, _⟩ := h; rfl) (fun cdv A outer s H E hr => dv_broken_rows g  st f cdv A outer s H E hr) r_broken_rows, F.kp, F.bindsN fun _ _ _ _ _ _ us hl => match us, hl with | [_, _, _], _ => rfl⟩⟩
theorem cl_dry_rows (g : Pg P w K mg base cW cL cP) (F : FunD K "dry_rows" "dry_rows" (defArgs (top 43)) (defBody (top 43)) (defScope (top 43)) [] [] f fd) (hm : mg "dry_rows" = some (.ref f))  : Cl P w K mg base "dry_rows" 2 c_dry_rows := ⟨⟨f, fd, p_dry_rows, hm, fun st => fn_ok F sc_dry_rows (fun _ _ h => by obtain ⟨_, _, _, rfl, _⟩ := h; rfl) (fun cdv A outer s H E hr => dv_dry_rows g  st f cdv A outer s H E hr) r_dry_rows, F.kp, F.bindsN fun _ _ _ _ _ _ us hl => match us, hl with | [_, _, _], _ => rfl⟩⟩
theorem cl_springs (g : Pg P w K mg base cW cL cP) (F : FunD K "springs" "springs" (defArgs (top 44)) (defBody (top 44)) (defScope (top 44)) [] [] f fd) (hm : mg "springs" = some (.ref f)) (c_need_same_web : Cl P w K mg base "need_same_web" 4 (c_need_same_web cW cL)) (c_LA_table : MeF P w K mg base cL "table" 2 (c_LA_table cW cL)) : Cl P w K mg base "springs" 6 (c_springs cW cL) := ⟨⟨f, fd, p_springs, hm, fun st => fn_ok F sc_springs (fun _ _ h => by obtain ⟨_, _, _, _, rfl, _⟩ := h; rfl) (fun cdv A outer s H E hr => dv_springs g c_need_same_web c_LA_table st f cdv A outer s H E hr) r_springs, F.kp, F.bindsN fun _ _ _ _ _ _ us hl => match us, hl with | [_, _], _ => rfl⟩⟩
theorem cl_dry_flats (g : Pg P w K mg base cW cL cP) (F : FunD K "dry_flats" "dry_flats" (defArgs (top 45)) (defBody (top 45)) (defScope (top 45)) [] [] f fd) (hm : mg "dry_flats" = some (.ref f)) (c_need_same_web : Cl P w K mg base "need_same_web" 4 (c_need_same_web cW cL)) (c_dry_rows : Cl P w K mg base "dry_rows" 2 c_dry_rows) (c_flats_of : Cl P w K mg base "flats_of" 7 (c_flats_of cW cL)) (c_LA_table : MeF P w K mg base cL "table" 2 (c_LA_table cW cL)) : Cl P w K mg base "dry_flats" 9 (c_dry_flats cW cL) := ⟨⟨f, fd, p_dry_flats, hm, fun st => fn_ok F sc_dry_flats (fun _ _ h => by obtain ⟨_, _, _, _, rfl, _⟩ := h; rfl) (fun cdv A outer s H E hr => dv_dry_flats g c_need_same_web c_dry_rows c_flats_of c_LA_table st f cdv A outer s H E hr) r_dry_flats, F.kp, F.bindsN fun _ _ _ _ _ _ us hl => match us, hl with | [_, _], _ => rfl⟩⟩
theorem cl_broken_bonds (g : Pg P w K mg base cW cL cP) (F : FunD K "broken_bonds" "broken_bonds" (defArgs (top 46)) (defBody (top 46)) (defScope (top 46)) [] [] f fd) (hm : mg "broken_bonds" = some (.ref f)) (c_need_same_web : Cl P w K mg base "need_same_web" 4 (c_need_same_web cW cL)) (c_broken_rows : Cl P w K mg base "broken_rows" 2 c_broken_rows) (c_slanted_bonds : Cl P w K mg base "slanted_bonds" 4 (c_slanted cW cL)) (c_LA_table : MeF P w K mg base cL "table" 2 (c_LA_table cW cL)) : Cl P w K mg base "broken_bonds" 6 (c_broken_bonds cW cL) := ⟨⟨f, fd, p_broken_bonds, hm, fun st => fn_ok F sc_broken_bonds (fun _ _ h => by obtain ⟨_, _, _, _, rfl, _⟩ := h; rfl) (fun cdv A outer s H E hr => dv_broken_bonds g c_need_same_web c_broken_rows c_slanted_bonds c_LA_table st f cdv A outer s H E hr) r_broken_bonds, F.kp, F.bindsN fun _ _ _ _ _ _ us hl => match us, hl with | [_, _], _ => rfl⟩⟩
theorem cl_comes (g : Pg P w K mg base cW cL cP) (F : FunD K "comes" "comes" (defArgs (top 47)) (defBody (top 47)) (defScope (top 47)) [] [] f fd) (hm : mg "comes" = some (.ref f)) (c_broken_bonds : Cl P w K mg base "broken_bonds" 6 (c_broken_bonds cW cL)) (c_dry_flats : Cl P w K mg base "dry_flats" 9 (c_dry_flats cW cL)) : Cl P w K mg base "comes" 11 (c_comes cW cL) := ⟨⟨f, fd, p_comes, hm, fun st => fn_ok F sc_comes (fun _ _ h => by obtain ⟨_, _, _, _, rfl, _⟩ := h; rfl) (fun cdv A outer s H E hr => dv_comes g c_broken_bonds c_dry_flats st f cdv A outer s H E hr) r_comes, F.kp, F.bindsN fun _ _ _ _ _ _ us hl => match us, hl with | [_, _], _ => rfl⟩⟩
theorem cl_bond_paper (g : Pg P w K mg base cW cL cP) (F : FunD K "bond_paper" "bond_paper" (defArgs (top 48)) (defBody (top 48)) (defScope (top 48)) [] [] f fd) (hm : mg "bond_paper" = some (.ref f)) (c_LA___getitem__ : Me P w K mg base cL "__getitem__" 2 (c_LA_getitem cW cL)) : Cl P w K mg base "bond_paper" 4 (c_bond_paper cW cL) := ⟨⟨f, fd, p_bond_paper, hm, fun st => fn_ok F sc_bond_paper (fun _ _ h => by obtain ⟨_, _, _, _, _, rfl, _⟩ := h; rfl) (fun cdv A outer s H E hr => dv_bond_paper g c_LA___getitem__ st f cdv A outer s H E hr) r_bond_paper, F.kp, F.bindsN fun _ _ _ _ _ _ us hl => match us, hl with | [_, _, _], _ => rfl⟩⟩
theorem cl_never_paper (g : Pg P w K mg base cW cL cP) (F : FunD K "never_paper" "never_paper" (defArgs (top 49)) (defBody (top 49)) (defScope (top 49)) [] [] f fd) (hm : mg "never_paper" = some (.ref f)) (c_broken_bonds : Cl P w K mg base "broken_bonds" 6 (c_broken_bonds cW cL)) (c_bond_paper : Cl P w K mg base "bond_paper" 4 (c_bond_paper cW cL)) (c_dry_flats : Cl P w K mg base "dry_flats" 9 (c_dry_flats cW cL)) : Cl P w K mg base "never_paper" 11 (c_never_paper cW cL) := ⟨⟨f, fd, p_never_paper, hm, fun st => fn_ok F sc_never_paper (fun _ _ h => by obtain ⟨_, _, _, _, rfl, _⟩ := h; rfl) (fun cdv A outer s H E hr => dv_never_paper g c_broken_bonds c_bond_paper c_dry_flats st f cdv A outer s H E hr) r_never_paper, F.kp, F.bindsN fun _ _ _ _ _ _ us hl => match us, hl with | [_, _], _ => rfl⟩⟩
theorem cl_P___init__ (g : Pg P w K mg base cW cL cP) (F : FunD K "__init__" "Piece.__init__" (defArgs (inClass (top 54) 0)) (defBody (inClass (top 54) 0)) (defScope (inClass (top 54) 0)) [] [] f fd) (hm : mg "Piece" = some (.ref cP)) (mk : Mk K cP f) (c_LA___len__ : Me P w K mg base cL "__len__" 2 (c_LA_len cW cL)) (c_W_bonds : Pr P w K mg base cW "bonds" 2 (c_W_bonds cW)) (c_LA___contains__ : Me P w K mg base cL "__contains__" 2 (c_LA_contains cW cL)) (c_W_places : Pr P w K mg base cW "places" 2 (c_W_places cW)) (c_LA___getitem__ : Me P w K mg base cL "__getitem__" 2 (c_LA_getitem cW cL)) : Mc P w K mg base "Piece" cP 4 (ci_P cW cL) := ⟨⟨f, fd, p_P___init__, hm, mk, fun st => init_ok F sc_P___init__ (fun _ _ h => by obtain ⟨_, _, _, _, rfl, _⟩ := h; rfl) (fun cdv A outer s H E hr => dv_P___init__ g c_LA___len__ c_W_bonds c_LA___contains__ c_W_places c_LA___getitem__ st f cdv A outer s H E hr) r_P_init, F.bindsN fun _ _ _ _ _ _ us hl => match us, hl with | [_, _, _], _ => rfl⟩⟩
theorem cl_P_border {p : Addr} (g : Pg P w K mg base cW cL cP) (F : FunD K "border" "Piece.border" (defArgs (inClass (top 54) 1)) (defBody (inClass (top 54) 1)) (defScope (inClass (top 54) 1)) [] [] f fd) (me : PropOf K cP "border" p f)  : Pr P w K mg base cP "border" 2 (c_P_border cW cL cP) := ⟨⟨p, f, fd, p_P_border, me, fun st => fn_ok F sc_P_border (fun _ _ h => by obtain ⟨_, _, _, rfl, _⟩ := h; rfl) (fun cdv A outer s H E hr => dv_P_border g  st f cdv A outer s H E hr) r_P_border, F.bindsN fun _ _ _ _ _ _ us hl => match us, hl with | [_], _ => rfl⟩⟩
theorem cl_P_inner {p : Addr} (g : Pg P w K mg base cW cL cP) (F : FunD K "inner" "Piece.inner" (defArgs (inClass (top 54) 2)) (defBody (inClass (top 54) 2)) (defScope (inClass (top 54) 2)) [] [] f fd) (me : PropOf K cP "inner" p f)  : Pr P w K mg base cP "inner" 2 (c_P_inner cW cL cP) := ⟨⟨p, f, fd, p_P_inner, me, fun st => fn_ok F sc_P_inner (fun _ _ h => by obtain ⟨_, _, _, rfl, _⟩ := h; rfl) (fun cdv A outer s H E hr => dv_P_inner g  st f cdv A outer s H E hr) r_P_inner, F.bindsN fun _ _ _ _ _ _ us hl => match us, hl with | [_], _ => rfl⟩⟩
theorem cl_need_same_border (g : Pg P w K mg base cW cL cP) (F : FunD K "need_same_border" "need_same_border" (defArgs (top 55)) (defBody (top 55)) (defScope (top 55)) [] [] f fd) (hm : mg "need_same_border" = some (.ref f)) (c_P_border : Pr P w K mg base cP "border" 2 (c_P_border cW cL cP)) (c_LA___getitem__ : Me P w K mg base cL "__getitem__" 2 (c_LA_getitem cW cL)) : Cl P w K mg base "need_same_border" 4 (c_need_same_border cW cL cP) := ⟨⟨f, fd, p_need_same_border, hm, fun st => fn_ok F sc_need_same_border (fun _ _ h => by obtain ⟨_, _, _, _, _, rfl, _⟩ := h; rfl) (fun cdv A outer s H E hr => dv_need_same_border g c_P_border c_LA___getitem__ st f cdv A outer s H E hr) r_need_same_border, F.kp, F.bindsN fun _ _ _ _ _ _ us hl => match us, hl with | [_, _], _ => rfl⟩⟩
theorem cl_need_gluable (g : Pg P w K mg base cW cL cP) (F : FunD K "need_gluable" "need_gluable" (defArgs (top 56)) (defBody (top 56)) (defScope (top 56)) [] [] f fd) (hm : mg "need_gluable" = some (.ref f)) (c_need_same_border : Cl P w K mg base "need_same_border" 4 (c_need_same_border cW cL cP)) (c_P_inner : Pr P w K mg base cP "inner" 2 (c_P_inner cW cL cP)) (c_LA___contains__ : Me P w K mg base cL "__contains__" 2 (c_LA_contains cW cL)) (c_W_bonds : Pr P w K mg base cW "bonds" 2 (c_W_bonds cW)) (c_LA___len__ : Me P w K mg base cL "__len__" 2 (c_LA_len cW cL)) : Cl P w K mg base "need_gluable" 6 (c_need_gluable cW cL cP) := ⟨⟨f, fd, p_need_gluable, hm, fun st => fn_ok F sc_need_gluable (fun _ _ h => by obtain ⟨_, _, _, _, _, rfl, _⟩ := h; rfl) (fun cdv A outer s H E hr => dv_need_gluable g c_need_same_border c_P_inner c_LA___contains__ c_W_bonds c_LA___len__ st f cdv A outer s H E hr) r_need_gluable, F.kp, F.bindsN fun _ _ _ _ _ _ us hl => match us, hl with | [_, _], _ => rfl⟩⟩
theorem cl_land_of_both (g : Pg P w K mg base cW cL cP) (F : FunD K "land_of_both" "land_of_both" (defArgs (top 57)) (defBody (top 57)) (defScope (top 57)) [] [] f fd) (hm : mg "land_of_both" = some (.ref f)) (c_LA_table : MeF P w K mg base cL "table" 2 (c_LA_table cW cL)) (m_W___init__ : Mc P w K mg base "Web" cW 6 ci_W) (c_W_bonds : Pr P w K mg base cW "bonds" 2 (c_W_bonds cW)) (m_LA___init__ : Mc P w K mg base "Land" cL 4 (ci_LA cW)) (c_W_places : Pr P w K mg base cW "places" 2 (c_W_places cW)) : Cl P w K mg base "land_of_both" 8 (c_lob cW cL) := ⟨⟨f, fd, p_land_of_both, hm, fun st => fn_ok F sc_land_of_both (fun _ _ h => by obtain ⟨_, _, _, _, _, rfl, _⟩ := h; rfl) (fun cdv A outer s H E hr => dv_land_of_both g c_LA_table m_W___init__ c_W_bonds m_LA___init__ c_W_places st f cdv A outer s H E hr) r_lob, F.kp, F.bindsN fun _ _ _ _ _ _ us hl => match us, hl with | [_, _], _ => rfl⟩⟩
theorem cl_glue (g : Pg P w K mg base cW cL cP) (F : FunD K "glue" "glue" (defArgs (top 58)) (defBody (top 58)) (defScope (top 58)) [] [] f fd) (hm : mg "glue" = some (.ref f)) (c_need_gluable : Cl P w K mg base "need_gluable" 6 (c_need_gluable cW cL cP)) (c_land_of_both : Cl P w K mg base "land_of_both" 8 (c_lob cW cL)) : Cl P w K mg base "glue" 10 (c_glue cW cL cP) := ⟨⟨f, fd, p_glue, hm, fun st => fn_ok F sc_glue (fun _ _ h => by obtain ⟨_, _, _, _, _, rfl, _⟩ := h; rfl) (fun cdv A outer s H E hr => dv_glue g c_need_gluable c_land_of_both st f cdv A outer s H E hr) r_glue, F.kp, F.bindsN fun _ _ _ _ _ _ us hl => match us, hl with | [_, _], _ => rfl⟩⟩
theorem cl_united (g : Pg P w K mg base cW cL cP) (F : FunD K "united" "united" (defArgs (top 59)) (defBody (top 59)) (defScope (top 59)) [] [] f fd) (hm : mg "united" = some (.ref f)) (c_need_gluable : Cl P w K mg base "need_gluable" 6 (c_need_gluable cW cL cP)) (c_W___eq__ : Me P w K mg base cW "__eq__" 2 (c_W_eq cW)) (c_P_border : Pr P w K mg base cP "border" 2 (c_P_border cW cL cP)) (c_LA___getitem__ : Me P w K mg base cL "__getitem__" 2 (c_LA_getitem cW cL)) (c_land_of_both : Cl P w K mg base "land_of_both" 8 (c_lob cW cL)) : Cl P w K mg base "united" 10 (c_united cW cL cP) := ⟨⟨f, fd, p_united, hm, fun st => fn_ok F sc_united (fun _ _ h => by obtain ⟨_, _, _, _, _, _, _, _, _, rfl, _⟩ := h; rfl) (fun cdv A outer s H E hr => dv_united g c_need_gluable c_W___eq__ c_P_border c_LA___getitem__ c_land_of_both st f cdv A outer s H E hr) r_united, F.kp, F.bindsN fun _ _ _ _ _ _ us hl => match us, hl with | [_, _, _, _], _ => rfl⟩⟩
theorem cl_show_of (g : Pg P w K mg base cW cL cP) (F : FunD K "show_of" "show_of" (defArgs (top 61)) (defBody (top 61)) (defScope (top 61)) [] [] f fd) (hm : mg "show_of" = some (.ref f)) (c_W___eq__ : Me P w K mg base cW "__eq__" 2 (c_W_eq cW)) (c_broken_bonds : Cl P w K mg base "broken_bonds" 6 (c_broken_bonds cW cL)) (c_P_border : Pr P w K mg base cP "border" 2 (c_P_border cW cL cP)) (c_springs : Cl P w K mg base "springs" 6 (c_springs cW cL)) (c_flats_of : Cl P w K mg base "flats_of" 7 (c_flats_of cW cL)) (c_LA___getitem__ : Me P w K mg base cL "__getitem__" 2 (c_LA_getitem cW cL)) : Cl P w K mg base "show_of" 9 (c_show_of cW cL cP) := ⟨⟨f, fd, p_show_of, hm, fun st => fn_ok F sc_show_of (fun _ _ h => by obtain ⟨_, _, _, _, _, rfl, _⟩ := h; rfl) (fun cdv A outer s H E hr => dv_show_of g c_W___eq__ c_broken_bonds c_P_border c_springs c_flats_of c_LA___getitem__ st f cdv A outer s H E hr) r_show_of, F.kp, F.bindsN fun _ _ _ _ _ _ us hl => match us, hl with | [_, _], _ => rfl⟩⟩
theorem cl_fits (g : Pg P w K mg base cW cL cP) (F : FunD K "fits" "fits" (defArgs (top 62)) (defBody (top 62)) (defScope (top 62)) [] [] f fd) (hm : mg "fits" = some (.ref f))  : Cl P w K mg base "fits" 2 c_fits := ⟨⟨f, fd, p_fits, hm, fun st => fn_ok F sc_fits (fun _ _ h => by obtain ⟨_, _, _, rfl, _⟩ := h; rfl) (fun cdv A outer s H E hr => dv_fits g  st f cdv A outer s H E hr) r_fits, F.kp, F.bindsN fun _ _ _ _ _ _ us hl => match us, hl with | [_, _], _ => rfl⟩⟩
theorem cl_law_mixed (g : Pg P w K mg base cW cL cP) (F : FunD K "_law_mixed" "_law_mixed" (defArgs (top 64)) (defBody (top 64)) (defScope (top 64)) [] [] f fd) (hm : mg "_law_mixed" = some (.ref f))  : Cl P w K mg base "_law_mixed" 2 c_law_mixed := ⟨⟨f, fd, p_law_mixed, hm, fun st => fn_ok F sc_law_mixed (fun _ _ h => by obtain ⟨_, _, rfl, _⟩ := h; rfl) (fun cdv A outer s H E hr => dv_law_mixed g  st f cdv A outer s H E hr) r_law_mixed, F.kp, F.bindsN fun _ _ _ _ _ _ us hl => match us, hl with | [_, _], _ => rfl⟩⟩
theorem cl_law_pick (g : Pg P w K mg base cW cL cP) (F : FunD K "_law_pick" "_law_pick" (defArgs (top 67)) (defBody (top 67)) (defScope (top 67)) [] [] f fd) (hm : mg "_law_pick" = some (.ref f)) (c_law_take : Cl P w K mg base "_law_take" 3 c_law_take) : Cl P w K mg base "_law_pick" 5 c_law_pick := ⟨⟨f, fd, p_law_pick, hm, fun st => fn_ok F sc_law_pick (fun _ _ h => by obtain ⟨_, rfl, _⟩ := h; rfl) (fun cdv A outer s H E hr => dv_law_pick g c_law_take st f cdv A outer s H E hr) r_law_pick, F.kp, F.bindsN fun _ _ _ _ _ _ us hl => match us, hl with | [_, _], _ => rfl⟩⟩
theorem cl_law_number (g : Pg P w K mg base cW cL cP) (F : FunD K "_law_number" "_law_number" (defArgs (top 68)) (defBody (top 68)) (defScope (top 68)) [] [] f fd) (hm : mg "_law_number" = some (.ref f)) (c_law_take : Cl P w K mg base "_law_take" 3 c_law_take) : Cl P w K mg base "_law_number" 5 c_law_number := ⟨⟨f, fd, p_law_number, hm, fun st => fn_ok F sc_law_number (fun _ _ h => by obtain ⟨_, _, rfl, _⟩ := h; rfl) (fun cdv A outer s H E hr => dv_law_number g c_law_take st f cdv A outer s H E hr) r_law_number, F.kp, F.bindsN fun _ _ _ _ _ _ us hl => match us, hl with | [_, _, _], _ => rfl⟩⟩
theorem cl_law_disorder (g : Pg P w K mg base cW cL cP) (F : FunD K "_law_disorder" "_law_disorder" (defArgs (top 69)) (defBody (top 69)) (defScope (top 69)) [] [] f fd) (hm : mg "_law_disorder" = some (.ref f)) (c_law_take : Cl P w K mg base "_law_take" 3 c_law_take) : Cl P w K mg base "_law_disorder" 5 c_law_disorder := ⟨⟨f, fd, p_law_disorder, hm, fun st => fn_ok F sc_law_disorder (fun _ _ h => by obtain ⟨_, rfl, _⟩ := h; rfl) (fun cdv A outer s H E hr => dv_law_disorder g c_law_take st f cdv A outer s H E hr) r_law_disorder, F.kp, F.bindsN fun _ _ _ _ _ _ us hl => match us, hl with | [_, _], _ => rfl⟩⟩
theorem cl_law_name (g : Pg P w K mg base cW cL cP) (F : FunD K "_law_name" "_law_name" (defArgs (top 70)) (defBody (top 70)) (defScope (top 70)) [] [] f fd) (hm : mg "_law_name" = some (.ref f)) (c_law_take : Cl P w K mg base "_law_take" 3 c_law_take) (c_law_pick : Cl P w K mg base "_law_pick" 5 c_law_pick) (c_law_number : Cl P w K mg base "_law_number" 5 c_law_number) : Cl P w K mg base "_law_name" 7 c_law_name := ⟨⟨f, fd, p_law_name, hm, fun st => fn_ok F sc_law_name (fun _ _ h => by obtain ⟨rfl, _⟩ := h; rfl) (fun cdv A outer s H E hr => dv_law_name g c_law_take c_law_pick c_law_number st f cdv A outer s H E hr) r_law_name, F.kp, F.bindsN fun _ _ _ _ _ _ us hl => match us, hl with | [_], _ => rfl⟩⟩
theorem cl_law_names (g : Pg P w K mg base cW cL cP) (F : FunD K "_law_names" "_law_names" (defArgs (top 71)) (defBody (top 71)) (defScope (top 71)) [] [] f fd) (hm : mg "_law_names" = some (.ref f)) (c_law_take : Cl P w K mg base "_law_take" 3 c_law_take) (c_law_name : Cl P w K mg base "_law_name" 7 c_law_name) (c_law_unlike : Cl P w K mg base "_law_unlike" 2 c_law_unlike) (c_law_disorder : Cl P w K mg base "_law_disorder" 5 c_law_disorder) : Cl P w K mg base "_law_names" 9 c_law_names := ⟨⟨f, fd, p_law_names, hm, fun st => fn_ok F sc_law_names (fun _ _ h => by obtain ⟨_, rfl, _⟩ := h; rfl) (fun cdv A outer s H E hr => dv_law_names g c_law_take c_law_name c_law_unlike c_law_disorder st f cdv A outer s H E hr) r_law_names, F.kp, F.bindsN fun _ _ _ _ _ _ us hl => match us, hl with | [_, _], _ => rfl⟩⟩
theorem cl_law_unlike (g : Pg P w K mg base cW cL cP) (F : FunD K "_law_unlike" "_law_unlike" (defArgs (top 72)) (defBody (top 72)) (defScope (top 72)) [] [] f fd) (hm : mg "_law_unlike" = some (.ref f))  : Cl P w K mg base "_law_unlike" 2 c_law_unlike := ⟨⟨f, fd, p_law_unlike, hm, fun st => fn_ok F sc_law_unlike (fun _ _ h => by obtain ⟨_, _, rfl, _⟩ := h; rfl) (fun cdv A outer s H E hr => dv_law_unlike g  st f cdv A outer s H E hr) r_law_unlike, F.kp, F.bindsN fun _ _ _ _ _ _ us hl => match us, hl with | [_, _], _ => rfl⟩⟩
theorem cl_law_stranger (g : Pg P w K mg base cW cL cP) (F : FunD K "_law_stranger" "_law_stranger" (defArgs (top 73)) (defBody (top 73)) (defScope (top 73)) [] [] f fd) (hm : mg "_law_stranger" = some (.ref f)) (c_law_name : Cl P w K mg base "_law_name" 7 c_law_name) (c_law_take : Cl P w K mg base "_law_take" 3 c_law_take) (c_law_pick : Cl P w K mg base "_law_pick" 5 c_law_pick) (c_law_unlike : Cl P w K mg base "_law_unlike" 2 c_law_unlike) : Cl P w K mg base "_law_stranger" 9 c_law_stranger := ⟨⟨f, fd, p_law_stranger, hm, fun st => fn_ok F sc_law_stranger (fun _ _ h => by obtain ⟨_, rfl, _⟩ := h; rfl) (fun cdv A outer s H E hr => dv_law_stranger g c_law_name c_law_take c_law_pick c_law_unlike st f cdv A outer s H E hr) r_law_stranger, F.kp, F.bindsN fun _ _ _ _ _ _ us hl => match us, hl with | [_, _], _ => rfl⟩⟩
theorem cl_law_any_height (g : Pg P w K mg base cW cL cP) (F : FunD K "_law_any_height" "_law_any_height" (defArgs (top 75)) (defBody (top 75)) (defScope (top 75)) [] [] f fd) (hm : mg "_law_any_height" = some (.ref f)) (c_law_take : Cl P w K mg base "_law_take" 3 c_law_take) (c_law_pick : Cl P w K mg base "_law_pick" 5 c_law_pick) : Cl P w K mg base "_law_any_height" 7 c_law_any_height := ⟨⟨f, fd, p_law_any_height, hm, fun st => fn_ok F sc_law_any_height (fun _ _ h => by obtain ⟨rfl, _⟩ := h; rfl) (fun cdv A outer s H E hr => dv_law_any_height g c_law_take c_law_pick st f cdv A outer s H E hr) r_law_any_height, F.kp, F.bindsN fun _ _ _ _ _ _ us hl => match us, hl with | [_], _ => rfl⟩⟩
theorem cl_law_menu (g : Pg P w K mg base cW cL cP) (F : FunD K "_law_menu" "_law_menu" (defArgs (top 76)) (defBody (top 76)) (defScope (top 76)) [] [] f fd) (hm : mg "_law_menu" = some (.ref f)) (c_law_pick : Cl P w K mg base "_law_pick" 5 c_law_pick) (c_law_number : Cl P w K mg base "_law_number" 5 c_law_number) (c_law_take : Cl P w K mg base "_law_take" 3 c_law_take) : Cl P w K mg base "_law_menu" 7 c_law_menu := ⟨⟨f, fd, p_law_menu, hm, fun st => fn_ok F sc_law_menu (fun _ _ h => by obtain ⟨_, rfl, _⟩ := h; rfl) (fun cdv A outer s H E hr => dv_law_menu g c_law_pick c_law_number c_law_take st f cdv A outer s H E hr) r_law_menu, F.kp, F.bindsN fun _ _ _ _ _ _ us hl => match us, hl with | [_, _], _ => rfl⟩⟩
theorem cl_law_ends (g : Pg P w K mg base cW cL cP) (F : FunD K "_law_ends" "_law_ends" (defArgs (top 77)) (defBody (top 77)) (defScope (top 77)) [] [] f fd) (hm : mg "_law_ends" = some (.ref f)) (c_law_take : Cl P w K mg base "_law_take" 3 c_law_take) (c_law_disorder : Cl P w K mg base "_law_disorder" 5 c_law_disorder) (c_law_pick : Cl P w K mg base "_law_pick" 5 c_law_pick) : Cl P w K mg base "_law_ends" 7 c_law_ends := ⟨⟨f, fd, p_law_ends, hm, fun st => fn_ok F sc_law_ends (fun _ _ h => by obtain ⟨_, rfl, _⟩ := h; rfl) (fun cdv A outer s H E hr => dv_law_ends g c_law_take c_law_disorder c_law_pick st f cdv A outer s H E hr) r_law_ends, F.kp, F.bindsN fun _ _ _ _ _ _ us hl => match us, hl with | [_, _], _ => rfl⟩⟩
theorem cl_law_bond_names (g : Pg P w K mg base cW cL cP) (F : FunD K "_law_bond_names" "_law_bond_names" (defArgs (top 78)) (defBody (top 78)) (defScope (top 78)) [] [] f fd) (hm : mg "_law_bond_names" = some (.ref f)) (c_law_take : Cl P w K mg base "_law_take" 3 c_law_take) (c_law_names : Cl P w K mg base "_law_names" 9 c_law_names) (c_law_stranger : Cl P w K mg base "_law_stranger" 9 c_law_stranger) : Cl P w K mg base "_law_bond_names" 11 c_law_bond_names := ⟨⟨f, fd, p_law_bond_names, hm, fun st => fn_ok F sc_law_bond_names (fun _ _ h => by obtain ⟨_, rfl, _⟩ := h; rfl) (fun cdv A outer s H E hr => dv_law_bond_names g c_law_take c_law_names c_law_stranger st f cdv A outer s H E hr) r_law_bond_names, F.kp, F.bindsN fun _ _ _ _ _ _ us hl => match us, hl with | [_, _, _], _ => rfl⟩⟩
theorem cl_law_bonds (g : Pg P w K mg base cW cL cP) (F : FunD K "_law_bonds" "_law_bonds" (defArgs (top 79)) (defBody (top 79)) (defScope (top 79)) [] [] f fd) (hm : mg "_law_bonds" = some (.ref f))  : Cl P w K mg base "_law_bonds" 2 c_law_bonds := ⟨⟨f, fd, p_law_bonds, hm, fun st => fn_ok F sc_law_bonds (fun _ _ h => by obtain ⟨_, _, _, rfl, _⟩ := h; rfl) (fun cdv A outer s H E hr => dv_law_bonds g  st f cdv A outer s H E hr) r_law_bonds, F.kp, F.bindsN fun _ _ _ _ _ _ us hl => match us, hl with | [_, _, _], _ => rfl⟩⟩
theorem cl_law_make (g : Pg P w K mg base cW cL cP) (F : FunD K "_law_make" "_law_make" (defArgs (top 80)) (defBody (top 80)) (defScope (top 80)) [] [] f fd) (hm : mg "_law_make" = some (.ref f)) (m_LA___init__ : Mc P w K mg base "Land" cL 4 (ci_LA cW)) (m_W___init__ : Mc P w K mg base "Web" cW 6 ci_W) : Cl P w K mg base "_law_make" 8 (c_law_make cW cL) := ⟨⟨f, fd, p_law_make, hm, fun st => fn_ok F sc_law_make (fun _ _ h => by obtain ⟨_, rfl, _⟩ := h; rfl) (fun cdv A outer s H E hr => dv_law_make g m_LA___init__ m_W___init__ st f cdv A outer s H E hr) r_law_make, F.kp, F.bindsN fun _ _ _ _ _ _ us hl => match us, hl with | [_], _ => rfl⟩⟩
theorem cl_law_is_land (g : Pg P w K mg base cW cL cP) (F : FunD K "_law_is_land" "_law_is_land" (defArgs (top 81)) (defBody (top 81)) (defScope (top 81)) [] [] f fd) (hm : mg "_law_is_land" = some (.ref f)) (c_W_places : Pr P w K mg base cW "places" 2 (c_W_places cW)) (c_W_bonds : Pr P w K mg base cW "bonds" 2 (c_W_bonds cW)) (c_LA_heights : Pr P w K mg base cL "heights" 2 (c_LA_heights cW cL)) (c_law_same : Cl P w K mg base "_law_same" 8 (c_law_same 5)) : Cl P w K mg base "_law_is_land" 10 (c_law_is_land cW cL) := ⟨⟨f, fd, p_law_is_land, hm, fun st => fn_ok F sc_law_is_land (fun _ _ h => by obtain ⟨_, _, _, rfl, _⟩ := h; rfl) (fun cdv A outer s H E hr => dv_law_is_land g c_W_places c_W_bonds c_LA_heights c_law_same st f cdv A outer s H E hr) r_law_is_land, F.kp, F.bindsN fun _ _ _ _ _ _ us hl => match us, hl with | [_, _], _ => rfl⟩⟩
theorem cl_law_beside (g : Pg P w K mg base cW cL cP) (F : FunD K "_law_beside" "_law_beside" (defArgs (top 82)) (defBody (top 82)) (defScope (top 82)) [] [] f fd) (hm : mg "_law_beside" = some (.ref f))  : Cl P w K mg base "_law_beside" 2 c_law_beside := ⟨⟨f, fd, p_law_beside, hm, fun st => fn_ok F sc_law_beside (fun _ _ h => by obtain ⟨_, _, rfl, _⟩ := h; rfl) (fun cdv A outer s H E hr => dv_law_beside g  st f cdv A outer s H E hr) r_law_beside, F.kp, F.bindsN fun _ _ _ _ _ _ us hl => match us, hl with | [_, _], _ => rfl⟩⟩
theorem cl_law_reach (g : Pg P w K mg base cW cL cP) (F : FunD K "_law_reach" "_law_reach" (defArgs (top 83)) (defBody (top 83)) (defScope (top 83)) [] [] f fd) (hm : mg "_law_reach" = some (.ref f)) (c_law_beside : Cl P w K mg base "_law_beside" 2 c_law_beside) : Cl P w K mg base "_law_reach" 4 c_law_reach := ⟨⟨f, fd, p_law_reach, hm, fun st => fn_ok F sc_law_reach (fun _ _ h => by obtain ⟨_, _, rfl, _⟩ := h; rfl) (fun cdv A outer s H E hr => dv_law_reach g c_law_beside st f cdv A outer s H E hr) r_law_reach, F.kp, F.bindsN fun _ _ _ _ _ _ us hl => match us, hl with | [_, _, _], _ => rfl⟩⟩
theorem cl_law_height (g : Pg P w K mg base cW cL cP) (F : FunD K "_law_height" "_law_height" (defArgs (top 84)) (defBody (top 84)) (defScope (top 84)) [] [] f fd) (hm : mg "_law_height" = some (.ref f))  : Cl P w K mg base "_law_height" 2 c_law_height := ⟨⟨f, fd, p_law_height, hm, fun st => fn_ok F sc_law_height (fun _ _ h => by obtain ⟨_, _, rfl, _⟩ := h; rfl) (fun cdv A outer s H E hr => dv_law_height g  st f cdv A outer s H E hr) r_law_height, F.kp, F.bindsN fun _ _ _ _ _ _ us hl => match us, hl with | [_, _], _ => rfl⟩⟩
theorem cl_law_flat (g : Pg P w K mg base cW cL cP) (F : FunD K "_law_flat" "_law_flat" (defArgs (top 85)) (defBody (top 85)) (defScope (top 85)) [] [] f fd) (hm : mg "_law_flat" = some (.ref f)) (c_law_height : Cl P w K mg base "_law_height" 2 c_law_height) (c_law_reach : Cl P w K mg base "_law_reach" 4 c_law_reach) : Cl P w K mg base "_law_flat" 6 c_law_flat := ⟨⟨f, fd, p_law_flat, hm, fun st => fn_ok F sc_law_flat (fun _ _ h => by obtain ⟨_, _, rfl, _⟩ := h; rfl) (fun cdv A outer s H E hr => dv_law_flat g c_law_height c_law_reach st f cdv A outer s H E hr) r_law_flat, F.kp, F.bindsN fun _ _ _ _ _ _ us hl => match us, hl with | [_, _], _ => rfl⟩⟩
theorem cl_law_flats (g : Pg P w K mg base cW cL cP) (F : FunD K "_law_flats" "_law_flats" (defArgs (top 86)) (defBody (top 86)) (defScope (top 86)) [] [] f fd) (hm : mg "_law_flats" = some (.ref f)) (c_law_flat : Cl P w K mg base "_law_flat" 6 c_law_flat) : Cl P w K mg base "_law_flats" 8 c_law_flats := ⟨⟨f, fd, p_law_flats, hm, fun st => fn_ok F sc_law_flats (fun _ _ h => by obtain ⟨_, rfl, _⟩ := h; rfl) (fun cdv A outer s H E hr => dv_law_flats g c_law_flat st f cdv A outer s H E hr) r_law_flats, F.kp, F.bindsN fun _ _ _ _ _ _ us hl => match us, hl with | [_], _ => rfl⟩⟩
theorem cl_law_papers (g : Pg P w K mg base cW cL cP) (F : FunD K "_law_papers" "_law_papers" (defArgs (top 87)) (defBody (top 87)) (defScope (top 87)) [] [] f fd) (hm : mg "_law_papers" = some (.ref f)) (c_law_height : Cl P w K mg base "_law_height" 2 c_law_height) (c_law_flats : Cl P w K mg base "_law_flats" 8 c_law_flats) : Cl P w K mg base "_law_papers" 10 c_law_papers := ⟨⟨f, fd, p_law_papers, hm, fun st => fn_ok F sc_law_papers (fun _ _ h => by obtain ⟨_, _, rfl, _⟩ := h; rfl) (fun cdv A outer s H E hr => dv_law_papers g c_law_height c_law_flats st f cdv A outer s H E hr) r_law_papers, F.kp, F.bindsN fun _ _ _ _ _ _ us hl => match us, hl with | [_, _], _ => rfl⟩⟩
theorem cl_law_piece_land (g : Pg P w K mg base cW cL cP) (F : FunD K "_law_piece_land" "_law_piece_land" (defArgs (top 88)) (defBody (top 88)) (defScope (top 88)) [] [] f fd) (hm : mg "_law_piece_land" = some (.ref f)) (c_law_ends : Cl P w K mg base "_law_ends" 7 c_law_ends) (c_law_bonds : Cl P w K mg base "_law_bonds" 2 c_law_bonds) : Cl P w K mg base "_law_piece_land" 9 c_law_piece_land := ⟨⟨f, fd, p_law_piece_land, hm, fun st => fn_ok F sc_law_piece_land (fun _ _ h => by obtain ⟨_, _, _, _, rfl, _⟩ := h; rfl) (fun cdv A outer s H E hr => dv_law_piece_land g c_law_ends c_law_bonds st f cdv A outer s H E hr) r_law_piece_land, F.kp, F.bindsN fun _ _ _ _ _ _ us hl => match us, hl with | [_, _, _, _], _ => rfl⟩⟩
theorem cl_law_pieces (g : Pg P w K mg base cW cL cP) (F : FunD K "_law_pieces" "_law_pieces" (defArgs (top 89)) (defBody (top 89)) (defScope (top 89)) [] [] f fd) (hm : mg "_law_pieces" = some (.ref f)) (c_law_pick : Cl P w K mg base "_law_pick" 5 c_law_pick) (c_law_names : Cl P w K mg base "_law_names" 9 c_law_names) (c_law_disorder : Cl P w K mg base "_law_disorder" 5 c_law_disorder) (c_law_bond_names : Cl P w K mg base "_law_bond_names" 11 c_law_bond_names) (c_law_piece_land : Cl P w K mg base "_law_piece_land" 9 c_law_piece_land) : Cl P w K mg base "_law_pieces" 13 c_law_pieces := ⟨⟨f, fd, p_law_pieces, hm, fun st => fn_ok F sc_law_pieces (fun _ _ h => by obtain ⟨_, rfl, _⟩ := h; rfl) (fun cdv A outer s H E hr => dv_law_pieces g c_law_pick c_law_names c_law_disorder c_law_bond_names c_law_piece_land st f cdv A outer s H E hr) r_law_pieces, F.kp, F.bindsN fun _ _ _ _ _ _ us hl => match us, hl with | [_, _, _], _ => rfl⟩⟩
theorem cl_law_glued (g : Pg P w K mg base cW cL cP) (F : FunD K "_law_glued" "_law_glued" (defArgs (top 90)) (defBody (top 90)) (defScope (top 90)) [] [] f fd) (hm : mg "_law_glued" = some (.ref f)) (c_law_height : Cl P w K mg base "_law_height" 2 c_law_height) : Cl P w K mg base "_law_glued" 4 c_law_glued := ⟨⟨f, fd, p_law_glued, hm, fun st => fn_ok F sc_law_glued (fun _ _ h => by obtain ⟨_, _, _, rfl, _⟩ := h; rfl) (fun cdv A outer s H E hr => dv_law_glued g c_law_height st f cdv A outer s H E hr) r_law_glued, F.kp, F.bindsN fun _ _ _ _ _ _ us hl => match us, hl with | [_, _], _ => rfl⟩⟩
theorem cl_law_show (g : Pg P w K mg base cW cL cP) (F : FunD K "_law_show" "_law_show" (defArgs (top 91)) (defBody (top 91)) (defScope (top 91)) [] [] f fd) (hm : mg "_law_show" = some (.ref f)) (c_law_flats : Cl P w K mg base "_law_flats" 8 c_law_flats) (c_law_height : Cl P w K mg base "_law_height" 2 c_law_height) (c_law_papers : Cl P w K mg base "_law_papers" 10 c_law_papers) : Cl P w K mg base "_law_show" 12 c_law_show := ⟨⟨f, fd, p_law_show, hm, fun st => fn_ok F sc_law_show (fun _ _ h => by obtain ⟨_, _, _, rfl, _⟩ := h; rfl) (fun cdv A outer s H E hr => dv_law_show g c_law_flats c_law_height c_law_papers st f cdv A outer s H E hr) r_law_show, F.kp, F.bindsN fun _ _ _ _ _ _ us hl => match us, hl with | [_, _, _], _ => rfl⟩⟩
theorem cl_law_cut (g : Pg P w K mg base cW cL cP) (F : FunD K "_law_cut" "_law_cut" (defArgs (top 92)) (defBody (top 92)) (defScope (top 92)) [] [] f fd) (hm : mg "_law_cut" = some (.ref f)) (c_law_height : Cl P w K mg base "_law_height" 2 c_law_height) : Cl P w K mg base "_law_cut" 4 c_law_cut := ⟨⟨f, fd, p_law_cut, hm, fun st => fn_ok F sc_law_cut (fun _ _ h => by obtain ⟨_, _, rfl, _⟩ := h; rfl) (fun cdv A outer s H E hr => dv_law_cut g c_law_height st f cdv A outer s H E hr) r_law_cut, F.kp, F.bindsN fun _ _ _ _ _ _ us hl => match us, hl with | [_, _], _ => rfl⟩⟩
theorem cl_law_joining (g : Pg P w K mg base cW cL cP) (F : FunD K "_law_joining" "_law_joining" (defArgs (top 93)) (defBody (top 93)) (defScope (top 93)) [] [] f fd) (hm : mg "_law_joining" = some (.ref f)) (c_law_take : Cl P w K mg base "_law_take" 3 c_law_take) (c_law_pick : Cl P w K mg base "_law_pick" 5 c_law_pick) (c_law_any_height : Cl P w K mg base "_law_any_height" 7 c_law_any_height) (c_law_flat : Cl P w K mg base "_law_flat" 6 c_law_flat) (c_law_height : Cl P w K mg base "_law_height" 2 c_law_height) : Cl P w K mg base "_law_joining" 9 c_law_joining := ⟨⟨f, fd, p_law_joining, hm, fun st => fn_ok F sc_law_joining (fun _ _ h => by obtain ⟨_, rfl, _⟩ := h; rfl) (fun cdv A outer s H E hr => dv_law_joining g c_law_take c_law_pick c_law_any_height c_law_flat c_law_height st f cdv A outer s H E hr) r_law_joining, F.kp, F.bindsN fun _ _ _ _ _ _ us hl => match us, hl with | [_, _], _ => rfl⟩⟩
theorem cl_law_goals (g : Pg P w K mg base cW cL cP) (F : FunD K "_law_goals" "_law_goals" (defArgs (top 94)) (defBody (top 94)) (defScope (top 94)) [] [] f fd) (hm : mg "_law_goals" = some (.ref f)) (c_law_joining : Cl P w K mg base "_law_joining" 9 c_law_joining) (c_law_glued : Cl P w K mg base "_law_glued" 4 c_law_glued) (c_law_cut : Cl P w K mg base "_law_cut" 4 c_law_cut) : Cl P w K mg base "_law_goals" 11 c_law_goals := ⟨⟨f, fd, p_law_goals, hm, fun st => fn_ok F sc_law_goals (fun _ _ h => by obtain ⟨_, _, _, rfl, _⟩ := h; rfl) (fun cdv A outer s H E hr => dv_law_goals g c_law_joining c_law_glued c_law_cut st f cdv A outer s H E hr) r_law_goals, F.kp, F.bindsN fun _ _ _ _ _ _ us hl => match us, hl with | [_, _, _], _ => rfl⟩⟩
theorem cl_law_glued_right (g : Pg P w K mg base cW cL cP) (F : FunD K "_law_glued_right" "_law_glued_right" (defArgs (top 95)) (defBody (top 95)) (defScope (top 95)) [] [] f fd) (hm : mg "_law_glued_right" = some (.ref f)) (c_law_make : Cl P w K mg base "_law_make" 8 (c_law_make cW cL)) (c_law_glued : Cl P w K mg base "_law_glued" 4 c_law_glued) (c_united : Cl P w K mg base "united" 10 (c_united cW cL cP)) (c_law_is_land : Cl P w K mg base "_law_is_land" 10 (c_law_is_land cW cL)) (c_glue : Cl P w K mg base "glue" 10 (c_glue cW cL cP)) (c_show_of : Cl P w K mg base "show_of" 9 (c_show_of cW cL cP)) (c_law_same : Cl P w K mg base "_law_same" 8 (c_law_same 5)) (c_law_show : Cl P w K mg base "_law_show" 12 c_law_show) (c_law_papers : Cl P w K mg base "_law_papers" 10 c_law_papers) (c_never_paper : Cl P w K mg base "never_paper" 11 (c_never_paper cW cL)) (c_comes : Cl P w K mg base "comes" 11 (c_comes cW cL)) (c_fits : Cl P w K mg base "fits" 2 c_fits) : Cl P w K mg base "_law_glued_right" 14 (c_law_glued_right cW cL cP) := ⟨⟨f, fd, p_law_glued_right, hm, fun st => fn_ok F sc_law_glued_right (fun _ _ h => by obtain ⟨_, _, _, _, _, _, _, rfl, _⟩ := h; rfl) (fun cdv A outer s H E hr => dv_law_glued_right g c_law_make c_law_glued c_united c_law_is_land c_glue c_show_of c_law_same c_law_show c_law_papers c_never_paper c_comes c_fits st f cdv A outer s H E hr) r_law_glued_right, F.kp, F.bindsN fun _ _ _ _ _ _ us hl => match us, hl with | [_, _], _ => rfl⟩⟩
end
end VL
/-! text Rv -/
/-! Rv: _law_store and law. -/
namespace VL
open PySem PySem.Spec PyProof.Rows L2
section
variable {P : Program} {w : World} {K : PySem.W.Frag} {mg : Str → Option Value} {base : Heap} {cW cL cP : Addr}
abbrev N_law_store : List Str := ["_law_script", "_law_cells", "_law_seed", "_law_number_here", "_law_cell"]
abbrev p_law_store : List Str := ["_law_script"]
def wb_law_store_1 (cW cL cP : Addr)  : WS := (wset 2 (w2 oMod (wcall cInt (wab (w2 oAdd (w2 oAdd (w2 oMul (wo 2) (wc (.int 69069))) (wo 3)) (wc (.int 1))) wan)) (wc (.int 2147483647))))
def ws_law_store (cW cL cP : Addr)  : WS := (wseq (wset 2 (wc (.int 7))) (wseq (wfor (wil (wv 1)) (gn 3) (wb_law_store_1 cW cL cP)) (wret (wlst (wac (wv 1) (wac (wc (.int 0)) (wac (wc (.int 0)) (wac (wc (.int 0)) (wac (wv 2) wan)))))))))
theorem sc_law_store : FnScope N_law_store p_law_store (defScope (top 65)) := ⟨rfl, rfl, rfl, by decide +kernel, rfl, by decide +kernel, by decide +kernel⟩
theorem dv_law_store  (g : Pg P w K mg base cW cL cP)  (st : Sto) (f : Addr) (cdv : Value) (A : Around) (outer : List Env) (s : Shared) (H : Hp) (E : XK) (hr : Room 1 (A.deeper (envOfC "_law_store" (defScope (top 65)) s.heap.objs.size f cdv))) : VSs (cxOf CX0 P w K mg base N_law_store "_law_store" (defScope (top 65)) f cdv A outer s H E).nox st false (defBody (top 65)).tail (ws_law_store cW cL cP ) := (ss_cons (s_set (i := 2) sc_law_store.nd e_int) (ss_cons (s_for PassesOwn.never rfl (i_list (ev 1)) (g_name (i := 3) sc_law_store.nd) (ss_one (s_set (i := 2) sc_law_store.nd (e_op op_mod d_mod (VE.o (e_ct call_int1 d_int g.b_int (by decide +kernel) (ab (VE.o (e_op op_addA d_add (VE.o (e_op op_addA d_add (VE.o (e_op op_mul d_mul (ov 2) (VE.o e_int))) (ov 3))) (VE.o e_int))) an))) (VE.o e_int))))) (ss_one (s_ret (VF.ve (f_lst (ac (ev 1) (ac e_int (ac e_int (ac e_int (ac (ev 2) an)))))))))))
abbrev N_law : List Str := ["_law_script", "_law_store_here", "_law_told", "_law_parts", "_law_last", "_law_other", "_law_rows"]
abbrev p_law : List Str := ["_law_script"]
def ws_law (cW cL cP : Addr) (C_law_pieces : OC) (C_law_menu : OC) (Ci_P : OCi) (C_law_make : OC) (C_law_disorder : OC) (C_law_goals : OC) (C_law_glued_right : OC) : WS := (wseq (wset 2 (wcall C_law_pieces (wac (wv 1) (wac (wc (.int 5)) (wac (wcall C_law_menu (wac (wv 1) (wac (wc (.int 4)) wan))) wan))))) (wseq (wset 3 (wlst (wac (wmake cP Ci_P (wac (wcall C_law_make (wac (w2 oIx (wo 2) (wc (.int 0))) wan)) (wac (wcall C_law_disorder (wac (wv 1) (wac (w2 oIx (wo 2) (wc (.int 2))) wan))) wan))) (wac (wmake cP Ci_P (wac (wcall C_law_make (wac (w2 oIx (wo 2) (wc (.int 1))) wan)) (wac (wcall (cSeq .lst) (wab (w2 oIx (wo 2) (wc (.int 2))) wan)) wan))) wan)))) (wseq (wset 4 (wcall C_law_goals (wac (wv 1) (wac (w2 oIx (wo 2) (wc (.int 0))) (wac (w2 oIx (wo 2) (wc (.int 1))) wan))))) (wseq (wset 5 (wcall C_law_goals (wac (wv 1) (wac (w2 oIx (wo 2) (wc (.int 0))) (wac (w2 oIx (wo 2) (wc (.int 1))) wan))))) (wseq (wset 6 (wlst (wac (w2 oIx (wo 2) (wc (.int 0))) (wac (w2 oIx (wo 2) (wc (.int 1))) (wac (w2 oIx (wo 2) (wc (.int 2))) (wac (w2 oIx (wo 4) (wc (.int 0))) (wac (w2 oIx (wo 4) (wc (.int 1))) wan))))))) (wseq (wif (wnot (wtru (wcall C_law_glued_right (wac (wv 6) (wac (wv 3) wan))))) (wret (wc (.bl false))) wnext) (wseq (wif (wnot (wtru (wcall C_law_glued_right (wac (wlst (wac (w2 oIx (wo 2) (wc (.int 0))) (wac (w2 oIx (wo 2) (wc (.int 1))) (wac (w2 oIx (wo 2) (wc (.int 2))) (wac (w2 oIx (wo 5) (wc (.int 0))) (wac (w2 oIx (wo 5) (wc (.int 1))) wan)))))) (wac (wv 3) wan))))) (wret (wc (.bl false))) wnext) (wret (wcall C_law_glued_right (wac (wv 6) (wac (wv 3) wan)))))))))))
theorem sc_law : FnScope N_law p_law (defScope (top 96)) := ⟨rfl, rfl, rfl, by decide +kernel, rfl, by decide +kernel, by decide +kernel⟩
theorem dv_law {C_law_pieces : OC} {C_law_menu : OC} {Ci_P : OCi} {C_law_make : OC} {C_law_disorder : OC} {C_law_goals : OC} {C_law_glued_right : OC} (g : Pg P w K mg base cW cL cP) (c_law_pieces : Cl P w K mg base "_law_pieces" 13 C_law_pieces) (c_law_menu : Cl P w K mg base "_law_menu" 7 C_law_menu) (m_P___init__ : Mc P w K mg base "Piece" cP 4 Ci_P) (c_law_make : Cl P w K mg base "_law_make" 8 C_law_make) (c_law_disorder : Cl P w K mg base "_law_disorder" 5 C_law_disorder) (c_law_goals : Cl P w K mg base "_law_goals" 11 C_law_goals) (c_law_glued_right : Cl P w K mg base "_law_glued_right" 14 C_law_glued_right) (st : Sto) (f : Addr) (cdv : Value) (A : Around) (outer : List Env) (s : Shared) (H : Hp) (E : XK) (hr : Room 15 (A.deeper (envOfC "law" (defScope (top 96)) s.heap.objs.size f cdv))) : VSs (cxOf CX0 P w K mg base N_law "law" (defScope (top 96)) f cdv A outer s H E).nox st false (defBody (top 96)).tail (ws_law cW cL cP C_law_pieces C_law_menu Ci_P C_law_make C_law_disorder C_law_goals C_law_glued_right) := (ss_cons (s_set (i := 2) sc_law.nd (e_call c_law_pieces hr (ac (ev 1) (ac e_int (ac (e_call c_law_menu hr (ac (ev 1) (ac e_int an))) an))))) (ss_cons (s_set (i := 3) sc_law.nd (VF.ve (f_lst (ac (VF.ve (f_make m_P___init__ hr (ac (e_call c_law_make hr (ac (e_ix (ov 2) (VE.o e_int)) an)) (ac (e_call c_law_disorder hr (ac (ev 1) (ac (e_ix (ov 2) (VE.o e_int)) an))) an)))) (ac (VF.ve (f_make m_P___init__ hr (ac (e_call c_law_make hr (ac (e_ix (ov 2) (VE.o e_int)) an)) (ac (VF.ve (f_ct call_list_of c_list g.b_list (by decide +kernel) (ab (VE.o (e_ix (ov 2) (VE.o e_int))) an))) an)))) an))))) (ss_cons (s_set (i := 4) sc_law.nd (e_call c_law_goals hr (ac (ev 1) (ac (e_ix (ov 2) (VE.o e_int)) (ac (e_ix (ov 2) (VE.o e_int)) an))))) (ss_cons (s_set (i := 5) sc_law.nd (e_call c_law_goals hr (ac (ev 1) (ac (e_ix (ov 2) (VE.o e_int)) (ac (e_ix (ov 2) (VE.o e_int)) an))))) (ss_cons (s_set (i := 6) sc_law.nd (VF.ve (f_lst (ac (e_ix (ov 2) (VE.o e_int)) (ac (e_ix (ov 2) (VE.o e_int)) (ac (e_ix (ov 2) (VE.o e_int)) (ac (e_ix (ov 4) (VE.o e_int)) (ac (e_ix (ov 4) (VE.o e_int)) an)))))))) (ss_cons (s_if (t_not (t_tru (VE.o (e_call c_law_glued_right hr (ac (ev 6) (ac (ev 3) an)))))) (ss_one (s_ret e_bl)) ss_nil) (ss_cons (s_if (t_not (t_tru (VE.o (e_call c_law_glued_right hr (ac (VF.ve (f_lst (ac (e_ix (ov 2) (VE.o e_int)) (ac (e_ix (ov 2) (VE.o e_int)) (ac (e_ix (ov 2) (VE.o e_int)) (ac (e_ix (ov 5) (VE.o e_int)) (ac (e_ix (ov 5) (VE.o e_int)) an))))))) (ac (ev 3) an)))))) (ss_one (s_ret e_bl)) ss_nil) (ss_one (s_ret (e_call c_law_glued_right hr (ac (ev 6) (ac (ev 3) an))))))))))))
end
variable {cW cL cP : Addr}
theorem r_law_store (ns : List Int) (hl : ns.length ≤ 63) (R : D → Prop) (h : ∀ z, R (.lst [dIl ns, .int 0, .int 0, .int 0, .int z])) : ws_law_store cW cL cP [.no, .sh (dIl ns), .no, .no, .no] (poF R) := by
  simp [ws_law_store]
  refine FR_inv (fun i G => ∃ z t3, G = [.no, .sh (dIl ns), .sh (.int z), t3, .no]) ⟨_, _, rfl⟩ ?_ ?_
  · rintro i n _ hn ⟨z, t3, rfl⟩
    simp [wb_law_store_1]
    exact .inr ⟨by omega, by omega⟩
  · rintro _ ⟨z, t3, rfl⟩
    simp
    exact h z
/-- from the second statement on -/
theorem r_law (R : D → Prop) (h : R (.bl true)) : ws_law cW cL cP c_law_pieces c_law_menu (ci_P cW cL) (c_law_make cW cL) c_law_disorder c_law_goals (c_law_glued_right cW cL cP) [.no, .sh .sto, .no, .no, .no, .no, .no] (poF R) := by
  simp [ws_law]
  refine ⟨4, rfl, by omega, fun hs h1 h2 h3 => ?_⟩
  refine ⟨hs, rfl, ⟨h1, by omega, h3⟩, fun L1 L2 B g => ?_⟩
  simp
  refine ⟨L1, rfl, g.p1.ok, fun n1 => ?_⟩
  refine ⟨B.map .str, rfl, by have := g.p1.len; simp; omega, fun es pm => ?_⟩
  obtain ⟨bs, e, pb⟩ := perm_map_inv pm B rfl
  subst e
  refine ⟨n1, L1, B, bs, rfl, ⟨g.p1, pb⟩, ?_⟩
  refine ⟨L2, rfl, g.p2.ok, fun n2 => ?_⟩
  simp
  refine ⟨n2, L2, B, B, rfl, ⟨g.p2, .refl _⟩, ?_⟩
  refine ⟨L1, L2, B, rfl, g, fun G1 G2 gg => ?_⟩
  simp
  refine ⟨L1, L2, B, rfl, g, fun G3 G4 gg2 => ?_⟩
  simp
  refine ⟨n1, n2, L1, L2, G1, G2, B, rfl, gg, ?_⟩
  simp
  refine ⟨n1, n2, L1, L2, G3, G4, B, rfl, gg2, ?_⟩
  simp
  exact ⟨n1, n2, L1, L2, G1, G2, B, rfl, gg, h⟩
end VL
/-! text Cb -/
/-! Cb: the last links of the chain. -/
namespace VL
open PySem PySem.Spec PyProof.Rows L2
section
variable {P : Program} {w : World} {K : PySem.W.Frag} {mg : Str → Option Value} {base : Heap} {cW cL cP : Addr} {f : Addr} {fd : FuncData}
theorem cl_law_take (g : Pg P w K mg base cW cL cP) (F : FunD K "_law_take" "_law_take" (defArgs (top 66)) (defBody (top 66)) (defScope (top 66)) [] [] f fd) (hm : mg "_law_take" = some (.ref f)) (cm : Cl P w K mg base "_law_mixed" 2 c_law_mixed) : Cl P w K mg base "_law_take" 3 c_law_take := by
  refine ⟨⟨f, fd, p_law_take, hm, fun st => ?_, F.kp, F.bindsN fun _ _ _ _ _ _ us hl => match us, hl with | [_, _], _ => rfl⟩⟩
  refine F.ok sc_law_take (fun vs H Q E h => ?_) fun cdv A outer s H vs Q E hr h => ?_
  · obtain ⟨F', as, R, o, ha, ⟨n, rfl, _⟩, _⟩ := h
    exact ha.length
  · obtain ⟨F', as, R, o, ha, ⟨n, rfl, hn, hk⟩, k⟩ := h
    obtain ⟨t, ht, run⟩ := dv_law_take g cm st f cdv A outer s H E hr
    refine ⟨t, PSs.nox ht, ?_⟩
    cases ha with
    | cons h1 h2 =>
      cases h2 with
      | cons h3 h4 =>
        cases h4
        have q1 : At st F'.A H _ .sto := h1
        simp only [At] at q1
        obtain ⟨sa, c, e, rfl⟩ := q1
        have q3 := At.imm (show At st F'.A H _ (.int n) from h3) rfl
        subst q3
        refine run sa c n F' H Q e o hn fun j H' j0 j1 fx => k (.int j) (.int j) H' (hk j j0 j1) fx (at_int (st := st) (A := F'.A) (H := H'))
theorem fn_false {C : OC} (hC : ∀ as R, ¬ C as R) {ps : List Str} {k : Nat} (st : Sto) : FnOk P w K mg base CX0 k f fd ps (spD st C) :=
  ⟨fun vs H Q E ⟨F, as, R, o, ha, hc, _⟩ => (hC as R hc).elim, fun A outer s H args us vs Q E hr he hb hv ⟨F, as, R, o, ha, hc, _⟩ => (hC as R hc).elim⟩
theorem cl_law_same (g : Pg P w K mg base cW cL cP) (F : FunD K "_law_same" "_law_same" (defArgs (top 74)) (defBody (top 74)) (defScope (top 74)) [] [] f fd) (hm : mg "_law_same" = some (.ref f)) : ∀ n, Cl P w K mg base "_law_same" (n + 1) (c_prev n)
  | 0 => ⟨⟨f, fd, p_law_same, hm, fun st => fn_false (fun _ _ h => h) st, F.kp, F.bindsN fun _ _ _ _ _ _ us hl => match us, hl with | [_, _], _ => rfl⟩⟩
  | n + 1 => ⟨⟨f, fd, p_law_same, hm, fun st => fn_ok F sc_law_same (fun _ _ h => by obtain ⟨_, rfl, _⟩ := h; rfl) (fun cdv A outer s H E hr => dv_law_same g (cl_law_same g F hm n) st f cdv A outer s H E hr) (r_law_same n), F.kp, F.bindsN fun _ _ _ _ _ _ us hl => match us, hl with | [_, _], _ => rfl⟩⟩
theorem Cl.mono {x : Str} {j k : Nat} {C : OC} (c : Cl P w K mg base x j C) (h : j ≤ k) : Cl P w K mg base x k C := by
  obtain ⟨f, fd, ps, h1, h2, h3, h4⟩ := c.ex
  exact ⟨⟨f, fd, ps, h1, fun st => (h2 st).mono h, h3, h4⟩⟩
theorem cl_need_names (g : Pg P w K mg base cW cL cP) (F : FunD K "need_names" "need_names" (defArgs (top 23)) (defBody (top 23)) (defScope (top 23)) [] [("what", .str "places"), ("least", .int 0), ("most", .int 10)] f fd) (hm : mg "need_names" = some (.ref f)) (ci : Cl P w K mg base "is_name" 2 c_is_name) : Kn P w K mg base "need_names" 4 c_need_names := by
  obtain ⟨mv, kb⟩ := FunD.kbinds0 (ps := p_need_names) F 1 ["least"] [("what", .str "places"), ("most", .int 10)] (fun {α} vs mz zs => vs ++ (mz.take 1 ++ (zs ++ mz.drop 1))) (by simp) (by simp) (fun h1 h2 h3 => h1.append ((h2.take 1).append (h3.append (h2.drop 1))))
    (fun D doc pm an cdv ct us mv ws h1 h2 h3 => match us, mv, ws, h1, h2, h3 with
      | [a], [b, c], [d], _, _, _ => ⟨_, _, _, _, _, _, rfl, rfl, ⟨_, _, _, _, _, _, rfl, rfl, rfl⟩⟩)
  exact ⟨⟨f, fd, p_need_names, _, _, hm, ok_need_names g F ci, F.kp, kb, fun v z => rfl⟩⟩
end
end VL
/-! text Rw -/
/-! Rw: _law_store and law, at the hand layer. -/
namespace VL
open PySem PySem.Spec PyProof.Rows L2
section
variable {P : Program} {w : World} {K : PySem.W.Frag} {mg : Str → Option Value} {base : Heap} {cW cL cP : Addr} {f : Addr} {fd : FuncData}
theorem SqL.keep {M : Set_} {H H' : Hp} {a : Addr} {xs : List V} (h : SqL K H a xs) (fr : Fr M H H') (hm : ¬ M a) : SqL K H' a xs := by
  rcases h with h | h
  · exact .inl (fr.rd hm h)
  · exact .inr h
theorem itl_sq {st : Sto} {F : Foot} {H : Hp} {a : Addr} {ns : List Int} (hs : SqL K H a (ns.map V.int)) (hm : ¬ slM st F a) : ItOk st F (Itl K a) (ns.map D.int) H := by
  refine ⟨fun i H' f hi => ?_, fun H' f => ⟨_, SqL.keep hs f hm, by simp⟩, fun A' i H' x H'' hlt f hi off lv y => ?_⟩
  · rw [List.length_map] at hi
    exact ⟨_, .int ns[i], SqL.keep hs f hm, by simp [hi]⟩
  · obtain ⟨rfl, y⟩ := y
    have hx := y _ (SqL.keep hs f hm)
    rw [List.length_map] at hlt
    simp [hlt] at hx
    subst hx
    exact ⟨.refl hi, .int ns[i], by simp [hlt], at_int⟩
theorem tF_lcJ {st : Sto} {vs is : List Nat} {g : WG} {tt : WT} {te : WE} (his : ∀ i ∈ is, i ∈ vs) {σ : L2.St} {H H1 : Hp} {Q : VK} {F : Foot} {G : Ga} {R : D → Prop} {J : It} {ds : List D} (I : EI st F G σ H) (f1 : Fx st H H1) (ok : ItOk st F J ds H1)
    (hI : ds.length ≤ 1000 ∧ ∃ I : Nat → List D → Prop, I 0 [] ∧ (∀ (i : Nat) d acc, ds[i]? = some d → I i acc → g d (wipeG G vs) fun G2 => tt G2 fun b => if b = true then te G2 fun y => I (i + 1) (acc ++ [y]) else I (i + 1) acc) ∧ ∀ acc, I ds.length acc → R (.lst acc))
    (k : ∀ d p H', R d → Fx st H H' → H p = none → OwnAt st (pl F.A p) H' p d → Q (.ref p) H') : tLc (fun _ _ R => R J H1) (tG st is g) (tT st tt) (tE st te) vs σ H Q := by
  intro Dl hD
  obtain ⟨hz, Iv, h0, hs, hd⟩ := hI
  have I1 := I.fx f1
  refine ⟨fun i m H => m = ds.length - i ∧ i ≤ ds.length ∧ ∃ acc us, Iv i acc ∧ acc.length ≤ i ∧ Mid st F H1 Dl (wipeG G vs) (L2.wipe σ vs) H ∧ H Dl = some (.lst us) ∧ AtAll st (F_new F Dl).A H us acc,
    ⟨ds.length, by simp, Nat.zero_le _, [], [], h0, Nat.le_refl _, ⟨(I1.wipe vs).new hD, Fr.new hD⟩, upd_same, .nil⟩, ?_⟩
  rintro i m H ⟨rfl, hi, acc, us, hv, hl, mid, hu, ha⟩
  have frM : Fr (slM st F) H1 H := mid.fr.weak fun a m => .inl m
  by_cases hlt : i < ds.length
  · refine .inr ⟨ok.go i H frM hlt, fun H' => ∃ acc us, Iv (i + 1) acc ∧ acc.length ≤ i + 1 ∧ Mid st F H1 Dl (wipeG G vs) (L2.wipe σ vs) H' ∧ H' Dl = some (.lst us) ∧ AtAll st (F_new F Dl).A H' us acc, fun H' q => ⟨ds.length - (i + 1), by omega, rfl, hlt, q⟩, fun x H2 y => ?_⟩
    obtain ⟨f2, d, e, hx⟩ := ok.yld (F_new F Dl).A i H x H2 hlt frM mid.ei.hi (Mid.off hD) mid.ei.live y
    have nD : ¬ isSt st Dl := fun z => I1.live Dl (I1.sa Dl z) hD
    have m2 : Mid st F H1 Dl (wipeG G vs) (L2.wipe σ vs) H2 := mid.fx (G2 := G) (σ2 := σ) f2
    refine ⟨F_new F Dl, wipeG G vs, d, _, m2.ei, hx, hs i d acc e hv, fun G2 σ2 r2 I2 o2 => ⟨wipe_off his o2, ?_⟩⟩
    refine tT.bind I2 r2 fun b H3 r3 I3 f3 => ?_
    have f13 := f2.trans f3
    have m3 : Mid st F H1 Dl (wipeG G vs) (L2.wipe σ vs) H3 := mid.fx (G2 := G) (σ2 := σ) f13
    cases b with
    | true =>
      rw [if_pos rfl] at r3 ⊢
      refine tE.bind I3 r3 fun y v H4 r4 I4 f4 q4 => ?_
      have f14 := f13.trans f4
      have m4 : Mid st F H1 Dl (wipeG G vs) (L2.wipe σ vs) H4 := mid.fx (G2 := G) (σ2 := σ) f14
      have hz2 : us.length < sizeLine := by rw [ha.length]; exact Nat.lt_of_le_of_lt hl (small1000 (by omega))
      have fD : Fr (fun a => a = Dl) H4 (L2.upd H4 Dl (.lst (us ++ [v]))) := Fr.set rfl
      refine ⟨us, f14.fr.keep _ _ nD hu, hz2, acc ++ [y], us ++ [v], r4, by rw [List.length_append]; simp; omega, m4.upd I1.toFOk hD, upd_same, ?_⟩
      exact ((ha.step f14.fr mid.ei.sa).app (.one q4)).step fD fun a q => .inr q
    | false =>
      rw [if_neg (by decide)] at r3 ⊢
      exact ⟨acc, us, r3, by omega, m3, f13.fr.keep _ _ nD hu, ha.step f13.fr mid.ei.sa⟩
  · have e : i = ds.length := by omega
    subst e
    exact .inl ⟨ok.stop H frM, k (.lst acc) Dl H (hd acc hv) (f1.trans ⟨mid.fr, mid.ei.hi⟩) (f1.fr.dom Dl hD) ⟨us, hu, ha⟩⟩
def wk (ds : List D) : WI := fun _ R => R ds
/-- the law's store, new -/
def spStore (K : PySem.W.Frag) : Sp := fun vs H Q _ => ∃ (a : Addr) (ns : List Int), vs = [.ref a] ∧ SqL K H a (ns.map V.int) ∧ ns.length ≤ 63 ∧
  ∀ (s c : Addr) H' z, H s = none → H c = none → H' s = some (.lst [.ref c, .int 0, .int 0, .int 0, .int z]) → H' c = some (.lst (ns.map V.int)) → Q (.ref s) H'
theorem dv_store1 (g : Pg P w K mg base cW cL cP) (f : Addr) (cdv : Value) (A : Around) (outer : List Env) (s : Shared) (H0 : Hp) (E : XK) (hr : Room 1 (A.deeper (envOfC "_law_store" (defScope (top 65)) s.heap.objs.size f cdv))) :
    ∃ t, PSs (cxOf CX0 P w K mg base N_law_store "_law_store" (defScope (top 65)) f cdv A outer s H0 E).nox (defBody (top 65)) t ∧ ∀ (H : Hp) (Q : VK) (E : XK) (vs : List V), spStore K vs H Q E → t { nx := fun _ H' => Q .non H', rt := Q } (start N_law_store vs) H := by
  have hb : PSs (cxOf CX0 P w K mg base N_law_store "_law_store" (defScope (top 65)) f cdv A outer s H0 E).nox (defBody (top 65)).tail (fun Dn σ H => ∃ b : Bs, (false = false → b.pin = none) ∧ tS none b (ws_law_store cW cL cP) Dn σ H) :=
    ⟨fun pins s' σ H D I ⟨b, h, q⟩ => (dv_law_store g none f cdv A outer s H0 E hr b h).run pins s' σ H D I q⟩
  refine ⟨_, pss_cons (ps_setLc (i := 1) (own := [("_law_cell", 4)]) (g := tG none [4] (gn 4)) (tt := tT none wyes) (te := tE none (wcall cInt (wab (wo 4) wan))) rfl sc_law_store.nd (by rfl) (by rfl) (by exact sw_true rfl rfl rfl (by decide +kernel)) (pi_list (pv 0)) (blkOk_by (own := [("_law_cell", 4)]) (N := N_law_store) (sc := defScope (top 65)) (by decide +kernel)) (fun _ _ _ _ _ => g_name (i := 4) sc_law_store.nd) (fun _ _ _ _ _ => ts_nil) (fun _ _ _ _ _ => e_ct call_int1 d_int g.b_int (by decide +kernel) (ab (ov 4) an)) (by intro _; rfl)) hb, ?_⟩
  rintro H Q E' vs ⟨a, ns, rfl, hS, hl, hQ⟩
  let F : Foot := ⟨fun _ => False, fun x => H x ≠ none, fun _ => False⟩
  have I0 : EI none F [.no, .no, .no, .no, .no] (start N_law_store [V.ref a]) H := ⟨⟨fun _ h => h.elim, fun _ h => h.elim, fun _ h => h.elim, fun x ⟨s, c, e, _⟩ => (by cases e), fun _ h => h, trivial⟩, rfl, fun i t e => by
    match i, e with
    | 0, e => cases e; exact ⟨_, rfl, trivial⟩
    | 1, e => cases e; exact ⟨_, rfl, trivial⟩
    | 2, e => cases e; exact ⟨_, rfl, trivial⟩
    | 3, e => cases e; exact ⟨_, rfl, trivial⟩
    | 4, e => cases e; exact ⟨_, rfl, trivial⟩
    | n + 5, e => simp at e, fun i j d e l h1 => by
    match i, h1 with
    | 0, e => cases e
    | 1, e => cases e
    | 2, e => cases e
    | 3, e => cases e
    | 4, e => cases e
    | n + 5, e => simp at e⟩
  have nm : ∀ x, ¬ slM none F x := fun x h => h.elim (fun ⟨s, c, e, _⟩ => by cases e) id
  have hlc : (ns.map D.int).length ≤ 1000 ∧ ∃ I : Nat → List D → Prop, I 0 [] ∧ (∀ (i : Nat) d acc, (ns.map D.int)[i]? = some d → I i acc → gn 4 d (wipeG [.no, .no, .no, .no, .no] [4]) fun G2 => wyes G2 fun b => if b = true then (wcall cInt (wab (wo 4) wan)) G2 fun y => I (i + 1) (acc ++ [y]) else I (i + 1) acc) ∧ ∀ acc, I (ns.map D.int).length acc → (fun d => d = dIl ns) (.lst acc) := by
    refine ⟨by simp; omega, fun i acc => acc = (ns.map D.int).take i, by simp, fun i d acc hd ha => ?_, fun acc ha => ?_⟩
    · rw [List.getElem?_map] at hd
      cases hx : ns[i]? with
      | none => rw [hx] at hd; cases hd
      | some x =>
        rw [hx] at hd
        cases hd
        have et := take_map (f := D.int) hx
        simp [ha, et]
    · rw [ha, List.length_map]
      show D.lst _ = D.lst _
      rw [List.take_of_length_le (by simp)]
  have key := tF_lcJ (st := none) (is := [4]) (vs := [4]) (g := gn 4) (tt := wyes) (te := wcall cInt (wab (wo 4) wan)) (by decide) (R := fun d => d = dIl ns) (Q := fun v H1 => gName 1 v (start N_law_store [V.ref a]) H1 fun σ H => ∃ b : Bs, (false = false → b.pin = none) ∧ tS none b (ws_law_store cW cL cP) { nx := fun _ H' => Q .non H', rt := Q } σ H)
    I0 (.refl trivial) (itl_sq hS (nm a)) hlc fun d p H1 hd fx hp ow => ?_
  · exact ⟨_, rfl, a, rfl, ⟨_, hS⟩, key⟩
  · subst hd
    let Bb : Bs := ⟨F.A, F.A, fun _ => False, H, none⟩
    refine ⟨Bb, fun _ => rfl, ?_⟩
    have np : ¬ F.A p := fun h => h hp
    have ho : At none F.A H1 (.ref p) (dIl ns) := (OwnAt.off (A' := F.A) (fun a h => .inl (.inl h)) ow).at_ np
    have I1 := (I0.fx fx).setSh (i := 1) ho
    refine ⟨_, poF fun d => ∃ z, d = .lst [dIl ns, .int 0, .int 0, .int 0, .int z], ⟨F, I1, ⟨fun a h => h.elim, fun a h => h, fun a h => h.elim, fun a h => .inl h, fx.fr.weak fun x ⟨s, c, e, _⟩ => (by cases e), fun a h => h.elim, fun x ⟨s, c, e, _⟩ => (by cases e), fun x e => (by cases e)⟩⟩, r_law_store ns hl _ fun z => ⟨z, rfl⟩, ?_⟩
    refine ⟨fun G σ H' h => ?_, fun d v H' hd fr hi at_ => ?_, fun G σ H' h => h.elim, fun G σ H' h => h.elim⟩
    · obtain ⟨z, e⟩ := h
      cases e
    · obtain ⟨z, rfl⟩ := hd
      simp only [At] at at_
      obtain ⟨s1, vs, rfl, ns1, h1, h2⟩ := at_
      obtain ⟨v1, r1, rfl, q1, h2⟩ := h2.uncons
      obtain ⟨v2, r2, rfl, q2, h2⟩ := h2.uncons
      obtain ⟨v3, r3, rfl, q3, h2⟩ := h2.uncons
      obtain ⟨v4, r4, rfl, q4, h2⟩ := h2.uncons
      obtain ⟨v5, r5, rfl, q5, h2⟩ := h2.uncons
      have := h2.nil_of
      subst this
      have e2 := q2.imm rfl
      have e3 := q3.imm rfl
      have e4 := q4.imm rfl
      have e5 := q5.imm rfl
      subst e2 e3 e4 e5
      unfold dIl at q1
      simp only [At] at q1
      obtain ⟨c1, us, rfl, nc, h3, h4⟩ := q1
      have := AtAll.imms (f := D.int) (g := V.int) (fun _ => rfl) h4
      subst this
      refine hQ s1 c1 H' z ?_ ?_ h1 h3
      · apply Classical.byContradiction
        intro q
        exact ns1 q
      · apply Classical.byContradiction
        intro q
        exact nc q
theorem cl_law_store (g : Pg P w K mg base cW cL cP) (F : FunD K "_law_store" "_law_store" (defArgs (top 65)) (defBody (top 65)) (defScope (top 65)) [] [] f fd) : FnOk P w K mg base CX0 2 f fd p_law_store (spStore K) := by
  refine F.ok sc_law_store (fun vs H Q E h => ?_) fun cdv A outer s H vs Q E hr h => ?_
  · obtain ⟨a, ns, rfl, _⟩ := h
    rfl
  · obtain ⟨t, ht, run⟩ := dv_store1 g f cdv A outer s H E hr
    exact ⟨t, PSs.nox ht, run H Q E vs h⟩
def spLaw (K : PySem.W.Frag) : Sp := fun vs H Q _ => ∃ (a : Addr) (ns : List Int), vs = [.ref a] ∧ SqL K H a (ns.map V.int) ∧ ns.length ≤ 63 ∧ ∀ H', Q (.bl true) H'
theorem ok_law (g : Pg P w K mg base cW cL cP) (F : FunD K "law" "law" (defArgs (top 96)) (defBody (top 96)) (defScope (top 96)) [] [] f fd) {fs : Addr} {fds : FuncData} (Fs : FunD K "_law_store" "_law_store" (defArgs (top 65)) (defBody (top 65)) (defScope (top 65)) [] [] fs fds) (hs : mg "_law_store" = some (.ref fs))
    (c1 : Cl P w K mg base "_law_pieces" 13 c_law_pieces) (c2 : Cl P w K mg base "_law_menu" 7 c_law_menu) (c3 : Mc P w K mg base "Piece" cP 4 (ci_P cW cL)) (c4 : Cl P w K mg base "_law_make" 8 (c_law_make cW cL)) (c5 : Cl P w K mg base "_law_disorder" 5 c_law_disorder) (c6 : Cl P w K mg base "_law_goals" 11 c_law_goals)
    (c7 : Cl P w K mg base "_law_glued_right" 14 (c_law_glued_right cW cL cP)) : FnOk P w K mg base CX0 16 f fd p_law (spLaw K) := by
  refine F.ok sc_law (fun vs H Q E h => ?_) fun cdv A outer s H0 vs Q E hr h => ?_
  · obtain ⟨a, ns, rfl, _⟩ := h
    rfl
  · have hb : PSs (cxOf CX0 P w K mg base N_law "law" (defScope (top 96)) f cdv A outer s H0 E).nox (defBody (top 96)).tail (fun Dn σ H => ∃ (st : Sto) (b : Bs), (false = false → b.pin = none) ∧ tS st b (ws_law cW cL cP c_law_pieces c_law_menu (ci_P cW cL) (c_law_make cW cL) c_law_disorder c_law_goals (c_law_glued_right cW cL cP)) Dn σ H) :=
      ⟨fun pins s' σ H D I ⟨st, b, h, q⟩ => (dv_law g c1 c2 c3 c4 c5 c6 c7 st f cdv A outer s H0 E hr b h).run pins s' σ H D I q⟩
    have bs : Binds K fds p_law_store [] := Fs.bindsN fun _ _ _ _ _ _ us hl => match us, hl with | [_], _ => rfl
    refine ⟨_, PSs.nox (pss_cons (ps_set (i := 1) sc_law.nd (by rfl) (by exact .inl rfl) (pe_call (cl_law_store g Fs) (hr.mono (by decide)) (by rfl) hs Fs.kp bs .nil pass0 (pa_cons (pv 0) pa_nil))) hb), ?_⟩
    obtain ⟨a, ns, rfl, hS, hl, hQ⟩ := h
    refine ⟨_, rfl, a, ns, rfl, hS, hl, fun s1 c1 H1 z n1 n2 h1 h2 => ?_⟩
    let st : Sto := some (s1, c1)
    have liv : ∀ x, inSt st x → H1 x ≠ none := fun x hx => by
      obtain ⟨s', c', e, q⟩ := hx
      have e' : some (s1, c1) = some (s', c') := e
      cases e'
      rcases q with rfl | rfl
      · rw [h1]; simp
      · rw [h2]; simp
    let F1 : Foot := ⟨inSt st, inSt st, fun _ => False⟩
    refine ⟨st, ⟨inSt st, inSt st, isSt st, H1, none⟩, fun _ => rfl, [.no, .sh .sto, .no, .no, .no, .no, .no], poF fun d => d = .bl true, ⟨F1, ⟨⟨fun _ h => h.elim, fun _ h => h.elim, fun _ h => h, fun _ h => h, liv, ⟨0, 0, 0, z, ns, h1, h2, by omega, hl⟩⟩, rfl, fun i t e => ?_, fun i j d e l q1 => ?_⟩, ⟨fun _ h => h, fun _ h => h, fun _ h => h.elim, fun _ h => .inl h, .refl, fun _ h => h.elim, fun _ h => h, fun x e => (by cases e)⟩⟩, r_law _ rfl, ?_⟩
    · match i, e with
      | 0, e => cases e; exact ⟨_, rfl, trivial⟩
      | 1, e => cases e; exact ⟨_, rfl, .ref s1, rfl, by simp only [At]; exact ⟨s1, c1, rfl, rfl⟩⟩
      | 2, e => cases e; exact ⟨_, rfl, trivial⟩
      | 3, e => cases e; exact ⟨_, rfl, trivial⟩
      | 4, e => cases e; exact ⟨_, rfl, trivial⟩
      | 5, e => cases e; exact ⟨_, rfl, trivial⟩
      | 6, e => cases e; exact ⟨_, rfl, trivial⟩
      | n + 7, e => simp at e
    · match i, q1 with
      | 0, e => cases e
      | 1, e => cases e
      | 2, e => cases e
      | 3, e => cases e
      | 4, e => cases e
      | 5, e => cases e
      | 6, e => cases e
      | n + 7, e => simp at e
    · refine ⟨fun G σ H' h => (by cases h), fun d v H' hd fr hi at_ => ?_, fun G σ H' h => h.elim, fun G σ H' h => h.elim⟩
      subst hd
      have := at_.imm rfl
      subst this
      exact hQ H'
end
end VL
/-! text Na -/
/-! Na: a dictionary of own things, laid and changed. -/
namespace VL
open PySem PySem.Spec PyProof.Rows L2
/-- at D a dictionary of the names ks, each with a thing of its own (at qs: ls, told by ob); all new since H1 -/
structure NS {β : Type} (st : Sto) (ob : β → HO) (H1 H : Hp) (D : Addr) (ks : List Str) (qs : List Addr) (ls : List β) : Prop where
  fx : Fx st H1 H
  n0 : H1 D = none
  hd : H D = some (.dK (kz ks (qs.map V.ref)))
  l1 : qs.length = ks.length
  l2 : ls.length = ks.length
  ob : ∀ (j : Nat) q l, qs[j]? = some q → ls[j]? = some l → H q = some (ob l)
  nd : qs.Nodup
  nD : D ∉ qs
  nw : ∀ q ∈ qs, H1 q = none
section
variable {β : Type} {st : Sto} {ob : β → HO} {H1 H H2 : Hp} {D : Addr} {ks : List Str} {qs : List Addr} {ls : List β}
theorem fx_new {p : Addr} {o : HO} (hi1 : HI st H1) (f : Fx st H1 H) (h : H1 p = none) : Fx st H1 (upd H p o) := by
  refine ⟨⟨fun b u m e => ?_, fun b e => ?_⟩, ?_⟩
  · rw [upd_ne (fun q => by rw [q, h] at e; cases e)]
    exact f.fr.keep b u m e
  · by_cases q : b = p
    · rw [q]; exact h
    · rw [upd_ne q] at e; exact f.fr.dom b e
  · exact f.hi.off (M := fun a => a = p) (Fr.set rfl) fun a e m => hi1.live m (by rw [e]; exact h)
theorem NS.start (hi1 : HI st H1) (h : H1 D = none) : NS st ob H1 (upd H1 D (.dK [])) D [] [] [] :=
  ⟨fx_new hi1 (.refl hi1) h, h, upd_same, rfl, rfl, fun j q l e => by simp at e, .nil, by simp, by simp⟩
theorem NS.live (h : NS st ob H1 H D ks qs ls) {q : Addr} (m : q ∈ qs) : H q ≠ none := by
  obtain ⟨j, hj⟩ := List.getElem?_of_mem m
  have hl : j < ls.length := by
    have := (List.getElem?_eq_some_iff.mp hj).1
    rw [h.l2, ← h.l1]; exact this
  rw [h.ob j q ls[j] hj (by simp [hl])]
  simp
theorem NS.add {p : Addr} {k : Str} {l : β} (hi1 : HI st H1) (h : NS st ob H1 H D ks qs ls) (hp : H p = none) (hk : k ∉ ks) :
    NS st ob H1 (upd (upd H p (ob l)) D (.dK (putK (kz ks (qs.map V.ref)) (Sum.inr k) (.ref p)))) D (ks ++ [k]) (qs ++ [p]) (ls ++ [l]) := by
  have hp1 : H1 p = none := h.fx.fr.dom p hp
  have pD : p ≠ D := fun e => by rw [e, h.hd] at hp; cases hp
  have pq : p ∉ qs := fun m => h.live m hp
  have f2 := fx_new (o := ob l) hi1 h.fx hp1
  refine ⟨fx_new hi1 f2 h.n0, h.n0, ?_, by simp [h.l1], by simp [h.l2], fun j q l' e1 e2 => ?_, ?_, ?_, fun q m => ?_⟩
  · rw [upd_same, kz_put _ _ _ _ (by simp [h.l1]), dputK_new hk, dputV_new hk, List.map_append]
    rfl
  · by_cases hj : j < qs.length
    · rw [List.getElem?_append_left hj] at e1
      rw [List.getElem?_append_left (by rw [h.l2, ← h.l1]; exact hj)] at e2
      have mq := List.mem_of_getElem? e1
      rw [upd_ne (show q ≠ D from fun e => h.nD (e ▸ mq)), upd_ne (show q ≠ p from fun e => pq (e ▸ mq))]
      exact h.ob j q l' e1 e2
    · have ej : j = qs.length := by
        have := (List.getElem?_eq_some_iff.mp e1).1
        simp at this
        omega
      subst ej
      have e1' : p = q := by simpa using e1
      have e2' : l = l' := by
        have : qs.length = ls.length := by rw [h.l1, h.l2]
        rw [this] at e2
        simpa using e2
      subst e1' e2'
      rw [upd_ne pD]
      exact upd_same
  · exact List.nodup_append.mpr ⟨h.nd, by simp, fun a ha b hb e => pq (by rw [← List.mem_singleton.mp hb, ← e]; exact ha)⟩
  · intro m
    rcases List.mem_append.mp m with m | m
    · exact h.nD m
    · exact pD (List.mem_singleton.mp m).symm
  · rcases List.mem_append.mp m with m | m
    · exact h.nw q m
    · rw [List.mem_singleton.mp m]; exact hp1
theorem NS.mut {j : Nat} {q : Addr} {l' : β} (hi1 : HI st H1) (h : NS st ob H1 H D ks qs ls) (hq : qs[j]? = some q) : NS st ob H1 (upd H q (ob l')) D ks qs (ls.set j l') := by
  have mq := List.mem_of_getElem? hq
  have qD : D ≠ q := fun e => h.nD (e ▸ mq)
  refine ⟨fx_new hi1 h.fx (h.nw q mq), h.n0, by rw [upd_ne qD]; exact h.hd, h.l1, by rw [List.length_set]; exact h.l2, fun i r l e1 e2 => ?_, h.nd, h.nD, h.nw⟩
  by_cases e : i = j
  · subst e
    rw [hq] at e1
    cases e1
    have hl : i < ls.length := by
      have := (List.getElem?_eq_some_iff.mp e2).1
      simpa using this
    rw [List.getElem?_set_self hl] at e2
    cases e2
    exact upd_same
  · rw [List.getElem?_set_ne (fun z => e z.symm)] at e2
    have rq : r ≠ q := fun z => by
      subst z
      obtain ⟨h1, h2⟩ := List.getElem?_eq_some_iff.mp e1
      obtain ⟨h3, h4⟩ := List.getElem?_eq_some_iff.mp hq
      exact e ((List.getElem_inj h.nd).mp (h2.trans h4.symm))
    rw [upd_ne rq]
    exact h.ob i r l e1 e2
theorem NS.turn (h : NS st ob H1 H D ks qs ls) (hi1 : HI st H1) (f : Fx st H H2) : NS st ob H1 H2 D ks qs ls := by
  have nst : ∀ a, H1 a = none → ¬ isSt st a := fun a e m => hi1.live (.of m) e
  refine ⟨h.fx.trans f, h.n0, f.fr.keep _ _ (nst D h.n0) h.hd, h.l1, h.l2, fun j q l e1 e2 => f.fr.keep _ _ (nst q (h.nw q (List.mem_of_getElem? e1))) (h.ob j q l e1 e2), h.nd, h.nD, h.nw⟩
theorem dget_nth : ∀ {ks : List Str} {vs : List V} {j : Nat} {k : Str} {v : V}, ks.Nodup → ks[j]? = some k → vs[j]? = some v → dget ks vs k = some v
  | x :: ks, y :: vs, 0, k, v, _, e1, e2 => by
    simp at e1 e2
    subst e1 e2
    exact dget_hd
  | x :: ks, y :: vs, j + 1, k, v, n, e1, e2 => by
    have e1' : ks[j]? = some k := by simpa using e1
    have e2' : vs[j]? = some v := by simpa using e2
    rw [dget_tl (show x ≠ k from fun e => (List.nodup_cons.mp n).1 (e ▸ List.mem_of_getElem? e1'))]
    exact dget_nth (List.nodup_cons.mp n).2 e1' e2'
  | [], _, _, _, _, _, e1, _ => by simp at e1
  | _ :: _, [], _, _, _, _, _, e2 => by simp at e2
theorem NS.get (h : NS st ob H1 H D ks qs ls) (n : ks.Nodup) {k : Str} (hk : k ∈ ks) : ∃ (j : Nat) (q : Addr) (l : β), ks[j]? = some k ∧ qs[j]? = some q ∧ ls[j]? = some l ∧ H q = some (ob l) ∧ DGet H D (.str k) (some (.ref q)) := by
  obtain ⟨j, hj⟩ := List.getElem?_of_mem hk
  have hl := (List.getElem?_eq_some_iff.mp hj).1
  have h1 : j < qs.length := by rw [h.l1]; exact hl
  have h2 : j < ls.length := by rw [h.l2]; exact hl
  refine ⟨j, qs[j], ls[j], hj, by simp [h1], by simp [h2], h.ob j _ _ (by simp [h1]) (by simp [h2]), ?_⟩
  rw [← dget_nth (vs := qs.map V.ref) n hj (by simp [h1])]
  exact dget_of (.inl h.hd)
end
/-- a fresh thing for each name -/
theorem run_dcJ {β : Type} {st : Sto} {ob : β → HO} {l0 : β} {F : Foot} {H H1 : Hp} {J : It} {ps : List Str} {σ : L2.St} {i0 : Nat} {tv : TE} {vs : List Nat} {Q : VK} (o : FOk st F H1) (ok : ItOk st F J (ps.map D.str) H1) (hn : ps.Nodup) (hl : ps.length ≤ 100)
    (hv : ∀ σ H Q', (∀ p, H p = none → Q' (.ref p) (upd H p (ob l0))) → tv σ H Q') (hi0 : i0 ∈ vs) (hs0 : i0 < σ.length)
    (hQ : ∀ D H2 qs, NS st ob H1 H2 D ps qs (ps.map fun _ => l0) → Q (.ref D) H2) : tDc (fun _ _ R => R J H1) (gName i0) tYes (tVar i0) tv vs σ H Q := by
  intro Dl hD
  refine ⟨fun i m H => m = ps.length - i ∧ i ≤ ps.length ∧ ∃ qs, NS st ob H1 H Dl (ps.take i) qs ((ps.take i).map fun _ => l0), ⟨ps.length, by simp, Nat.zero_le _, [], by simpa using NS.start o.hi hD⟩, ?_⟩
  rintro i m H3 ⟨rfl, hi, qs, ns⟩
  have frM : Fr (slM st F) H1 H3 := ns.fx.fr.weak fun a m => .inl m
  by_cases hlt : i < ps.length
  · refine .inr ⟨ok.go i H3 frM (by simpa using hlt), fun H' => ∃ qs, NS st ob H1 H' Dl (ps.take (i + 1)) qs ((ps.take (i + 1)).map fun _ => l0), fun H' q => ⟨ps.length - (i + 1), by omega, rfl, hlt, q⟩, fun x H4 y => ?_⟩
    obtain ⟨f2, d, e, hx⟩ := ok.yld F.A i H3 x H4 (by simpa using hlt) frM ns.fx.hi (fun a h => .inl h) (fun a h => ns.fx.fr.live (o.live a h)) y
    have hp : ps[i]? = some ps[i] := by simp [hlt]
    rw [List.getElem?_map, hp] at e
    cases e
    have ex := hx.imm rfl
    subst ex
    have hw : i0 < (wipe σ vs).length := by rw [wipe_length]; exact hs0
    refine ⟨wipe_off (is := [i0]) (fun i m => by rw [List.mem_singleton.mp m]; exact hi0) ⟨List.length_set, fun j h => List.getElem?_set_ne fun q => h (by simp [q])⟩, ?_⟩
    unfold tYes
    dsimp only
    rw [if_pos rfl]
    refine ⟨.str ps[i], by rw [List.getElem?_set_self hw], ?_⟩
    have ns4 := ns.turn o.hi f2
    refine hv _ _ _ fun p hp' => ?_
    have pD : Dl ≠ p := fun e => by rw [← e, ns4.hd] at hp'; cases hp'
    have hkl : (kz (ps.take i) (qs.map V.ref)).length = (ps.take i).length := kz_length (by simp [ns4.l1])
    refine ⟨_, Sum.inr ps[i], rfl, by rw [upd_ne pD]; exact ns4.hd, ltline (by rw [hkl, List.length_take]; omega), qs ++ [p], ?_⟩
    rw [take_succ hp, List.map_append]
    exact ns4.add o.hi hp' (nodup_take hn hp)
  · have e : i = ps.length := by omega
    subst e
    rw [List.take_length] at ns
    exact .inl ⟨ok.stop H3 (by simpa using frM) |> fun z => by simpa using z, hQ Dl H3 qs ns⟩
end VL
/-! text Nb -/
/-! Nb: the loop over the bonds. -/
namespace VL
open PySem PySem.Spec PyProof.Rows L2
def acc1 (up : List Str → Str → List Str) (p : Str) (l : List Str) (b : Bd) : List Str := if b.2.2 = p then up (if b.2.1 = p then up l b.2.2 else l) b.2.1 else (if b.2.1 = p then up l b.2.2 else l)
def accU (up : List Str → Str → List Str) (bs : List Bd) (p : Str) : List Str := bs.foldl (acc1 up p) []
theorem accU_succ {up : List Str → Str → List Str} {bs : List Bd} {i : Nat} {b : Bd} (h : bs[i]? = some b) (p : Str) : accU up (bs.take (i + 1)) p = acc1 up p (accU up (bs.take i) p) b := by
  unfold accU
  rw [take_succ h, List.foldl_append]
  rfl
theorem accU_len {up : List Str → Str → List Str} (hu : ∀ l c, (up l c).length ≤ l.length + 1) (p : Str) : ∀ (bs : List Bd), (accU up bs p).length ≤ 2 * bs.length := by
  have go : ∀ (bs : List Bd) (l : List Str), (bs.foldl (acc1 up p) l).length ≤ l.length + 2 * bs.length := fun bs => by
    induction bs with
    | nil => intro l; simp
    | cons b bs ih =>
      intro l
      rw [List.foldl_cons]
      have h1 : (acc1 up p l b).length ≤ l.length + 2 := by
        unfold acc1
        have := hu l b.2.2
        split
        · split
          · have := hu (up l b.2.2) b.2.1; omega
          · have := hu l b.2.1; omega
        · split <;> omega
      have := ih (acc1 up p l b)
      simp
      omega
  intro bs
  have := go bs []
  simpa [accU] using this
theorem accU_nbrs (bs : List Bd) (p : Str) : accU (fun l c => l ++ [c]) bs p = nbrs bs p := by
  have go : ∀ (bs : List Bd) (l : List Str), bs.foldl (acc1 (fun l c => l ++ [c]) p) l = l ++ nbrs bs p := fun bs => by
    induction bs with
    | nil => intro l; simp [nbrs]
    | cons b bs ih =>
      intro l
      rw [List.foldl_cons, ih]
      have : nbrs (b :: bs) p = nb1 p b ++ nbrs bs p := rfl
      rw [this, ← List.append_assoc]
      congr 1
      unfold acc1 nb1
      split <;> split <;> simp
  exact (go bs []).trans (by simp)
/-- what one half of the turn does -/
def Half (n : Nat) (ob : List Str → HO) (up : List Str → Str → List Str) (ta : TS) (x y : Bd → Str) : Prop := ∀ (Dn : Ends) (σ : L2.St) (H : Hp) (a D q : Addr) (l : List Str) (b : Bd), σ[n]? = some (some (.ref D)) → σ[n + 1]? = some (some (.ref a)) → H a = some (.tup [.str b.1, .str b.2.1, .str b.2.2]) →
  DGet H D (.str (x b)) (some (.ref q)) → H q = some (ob l) → l.length ≤ 1000 → Dn.nx σ (upd H q (ob (up l (y b)))) → ta Dn σ H
theorem EI.setNo {st : Sto} {F : Foot} {G : Ga} {σ : L2.St} {H : Hp} {i : Nat} (v : Option V) (I : EI st F G σ H) : EI st F (G.set i .no) (σ.set i v) H := by
  have nj : ∀ (j : Nat) (d : D), (G.set i Sl.no)[j]? = some (Sl.ow d) → i ≠ j := fun j d e q => by
    subst q
    have hi : i < G.length := by
      have := (List.getElem?_eq_some_iff.mp e).1
      rwa [List.length_set] at this
    rw [List.getElem?_set_self hi] at e
    cases e
  refine ⟨I.toFOk, by rw [List.length_set, List.length_set]; exact I.len, fun j t e => ?_, fun j k d1 d2 l e1 e2 e3 e4 => ?_⟩
  · by_cases q : i = j
    · subst q
      have hi : i < G.length := by
        have := (List.getElem?_eq_some_iff.mp e).1
        rwa [List.length_set] at this
      rw [List.getElem?_set_self hi] at e
      cases e
      exact ⟨v, by rw [List.getElem?_set_self (by rw [I.len]; exact hi)], trivial⟩
    · rw [List.getElem?_set_ne q] at e ⊢
      exact I.slot j t e
  · have h1 := nj j d1 e1
    have h2 := nj k d2 e2
    rw [List.getElem?_set_ne h1] at e1 e3
    rw [List.getElem?_set_ne h2] at e2 e4
    exact I.dis j k d1 d2 l e1 e2 e3 e4
def F_tab (st : Sto) (A : Set_) (D : Addr) (qs : List Addr) : Foot := ⟨inSt st, fun a => A a ∨ a = D ∨ a ∈ qs, fun a => a = D ∨ a ∈ qs⟩
/-- the loop over the bonds: every turn changes two of the things -/
theorem run_forJ {st : Sto} {ob : List Str → HO} {up : List Str → Str → List Str} {A : Set_} {H1 H3 : Hp} {J : It} {L : Ld} {D : Addr} {qs : List Addr} {ta tb : TS} {n : Nat} {Dn : Ends} (sf : Option V → L2.St) (hs1 : ∀ y, (sf y)[n]? = some (some (.ref D))) (hs2 : ∀ y, (sf y)[n + 1]? = some y) (hs3 : ∀ y v, (sf y).set (n + 1) v = sf v)
    (hu : ∀ l c, (up l c).length ≤ l.length + 1) (hi1 : HI st H1) (hA : ∀ a, A a → H1 a ≠ none) (hsA : ∀ a, inSt st a → A a) (okL : BsOk L.ps L.bs) (hn : L.ps.Nodup) (hl : L.bs.length ≤ 16)
    (ok : ItOk st (F_tab st A D qs) J (L.bs.map dBd) H3) (ns : NS st ob H1 H3 D L.ps qs (L.ps.map fun _ => [])) (ha : Half n ob up ta (·.2.1) (·.2.2)) (hb : Half n ob up tb (·.2.2) (·.2.1))
    (hQ : ∀ H4 y, NS st ob H1 H4 D L.ps qs (L.ps.map (accU up L.bs)) → Dn.nx (sf y) H4) (x2 : Option V) :
    tFor (fun _ _ R => R J H3) (gName (n + 1)) (tSeq ta tb) Dn (sf x2) H3 := by
  have stA : ∀ a, isSt st a → A a := fun a m => hsA a (.of m)
  refine ⟨fun i m σ H => m = L.bs.length - i ∧ i ≤ L.bs.length ∧ (∃ y, σ = sf y) ∧ Fr (slM st (F_tab st A D qs)) H3 H ∧ NS st ob H1 H D L.ps qs (L.ps.map (accU up (L.bs.take i))), ⟨L.bs.length, by simp, Nat.zero_le _, ⟨_, rfl⟩, .refl, ns⟩, ?_⟩
  rintro i m σ H ⟨rfl, hi, ⟨y, rfl⟩, fr, ns⟩
  by_cases hlt : i < L.bs.length
  · refine .inr ⟨ok.go i H fr (by simpa using hlt), fun σ H' => (∃ y, σ = sf y) ∧ Fr (slM st (F_tab st A D qs)) H3 H' ∧ NS st ob H1 H' D L.ps qs (L.ps.map (accU up (L.bs.take (i + 1)))), fun σ' H' q => ⟨L.bs.length - (i + 1), by omega, rfl, hlt, q⟩, fun x H4 yy => ?_⟩
    have live : ∀ a, (F_tab st A D qs).A a → H a ≠ none := fun a h => by
      rcases h with h | h | h
      · exact ns.fx.fr.live (hA a h)
      · rw [h, ns.hd]; simp
      · exact ns.live h
    obtain ⟨f2, d, e, hx⟩ := ok.yld (F_tab st A D qs).A i H x H4 (by simpa using hlt) fr ns.fx.hi (fun a h => .inl h) live yy
    have hb0 : L.bs[i]? = some L.bs[i] := by simp [hlt]
    rw [List.getElem?_map, hb0] at e
    cases e
    generalize L.bs[i] = b at *
    obtain ⟨_, b1, b2, b3⟩ := okL.bm b (List.mem_of_getElem? hb0)
    unfold dBd at hx
    simp only [At] at hx
    obtain ⟨a, vs, rfl, na, hva, hs⟩ := hx
    obtain ⟨w1, r1, rfl, q1, hs⟩ := hs.uncons
    obtain ⟨w2, r2, rfl, q2, hs⟩ := hs.uncons
    obtain ⟨w3, r3, rfl, q3, hs⟩ := hs.uncons
    have e0 := hs.nil_of
    subst e0
    have e1 := q1.imm rfl
    have e2 := q2.imm rfl
    have e3 := q3.imm rfl
    subst e1 e2 e3
    have ns4 := ns.turn hi1 f2
    have fr4 : Fr (slM st (F_tab st A D qs)) H3 H4 := fr.trans (f2.fr.weak fun a m => .inl m)
    have bound : ∀ p, (accU up (L.bs.take i) p).length ≤ 32 := fun p => by
      have := accU_len hu p (L.bs.take i)
      rw [List.length_take] at this
      omega
    obtain ⟨j, q, l, h1, h2, h3, h4, h5⟩ := ns4.get hn b1
    have hl1 : l = accU up (L.bs.take i) b.2.1 := by
      rw [List.getElem?_map, h1] at h3
      simpa using h3.symm
    subst hl1
    show tSeq ta tb _ ((sf y).set (n + 1) (some (.ref a))) H4
    rw [hs3]
    refine ha _ _ H4 a D q _ b (hs1 _) (hs2 _) hva h5 h4 (Nat.le_trans (bound _) (by omega)) ?_
    have ns5 := ns4.mut (l' := up (accU up (L.bs.take i) b.2.1) b.2.2) hi1 h2
    have mq := List.mem_of_getElem? h2
    have fr5 : Fr (slM st (F_tab st A D qs)) H3 (upd H4 q (ob (up (accU up (L.bs.take i) b.2.1) b.2.2))) := fr4.trans (Fr.set (.inr (.inr mq)))
    have aq : a ≠ q := fun e => na (.inr (.inr (e ▸ mq)))
    have hva5 : (upd H4 q (ob (up (accU up (L.bs.take i) b.2.1) b.2.2))) a = some (.tup [.str b.1, .str b.2.1, .str b.2.2]) := by rw [upd_ne aq]; exact hva
    rw [set_map hn h1] at ns5
    generalize upd H4 q (ob (up (accU up (L.bs.take i) b.2.1) b.2.2)) = H5 at *
    obtain ⟨j', q', l', k1, k2, k3, k4, k5⟩ := ns5.get hn b2
    have ne := sl_ne b3
    have hl2 : l' = accU up (L.bs.take i) b.2.2 := by
      rw [List.getElem?_map, k1] at k3
      have : (if b.2.2 = b.2.1 then up (accU up (L.bs.take i) b.2.1) b.2.2 else accU up (L.bs.take i) b.2.2) = l' := by simpa using k3
      rw [if_neg (fun e => ne e.symm)] at this
      exact this.symm
    subst hl2
    refine hb _ _ H5 a D q' _ b (hs1 _) (hs2 _) hva5 k5 k4 (Nat.le_trans (bound _) (by omega)) ?_
    have ns6 := ns5.mut (l' := up (accU up (L.bs.take i) b.2.2) b.2.1) hi1 k2
    rw [set_map hn k1] at ns6
    refine ⟨⟨_, rfl⟩, fr5.trans (Fr.set (.inr (.inr (List.mem_of_getElem? k2)))), ?_⟩
    have em : (L.ps.map fun p => if p = b.2.2 then up (accU up (L.bs.take i) b.2.2) b.2.1 else if p = b.2.1 then up (accU up (L.bs.take i) b.2.1) b.2.2 else accU up (L.bs.take i) p) = L.ps.map (accU up (L.bs.take (i + 1))) := by
      refine List.map_congr_left fun p _ => ?_
      rw [accU_succ hb0]
      unfold acc1
      by_cases e1 : b.2.2 = p
      · subst e1
        simp [ne]
      · have e1' : ¬ p = b.2.2 := fun e => e1 e.symm
        by_cases e2 : b.2.1 = p
        · subst e2
          simp [e1, e1']
        · have e2' : ¬ p = b.2.1 := fun e => e2 e.symm
          simp [e1, e1', e2, e2']
    rw [em] at ns6
    exact ns6
  · have e : i = L.bs.length := by omega
    subst e
    rw [List.take_length] at ns
    refine .inl ⟨?_, hQ H y ns⟩
    have := ok.stop H fr
    simpa using this
end VL
/-! text Nd -/
/-! Nd: a dictionary's comprehension, given to a name. -/
namespace VL
open PySem PySem.Spec PyProof.Rows L2
section
variable {X : Cx}
theorem sw_trueD {kx vx : Expr} {gs : List Comprehension} {sc1 : Scope} {p1 p2 : Pos} {nm : Str} {ln : Nat} {en : Env} (a1 : en.scope.kind = .function) (a2 : en.scope.names.lookup nm = some .local) (a3 : (p2.line == p1.line) = true)
    (a4 : (sc1.names.any fun (n, k) => n == nm && (k == .local || k == .cell)) = false) : swapsWith (.DictComp kx vx gs sc1 p1) (some (.Name nm p2)) ln en = pure true := by
  have b1 : en.kindOf nm = some .local := a2
  have b2 : en.blockKind = .function := by unfold Env.blockKind; rw [a1]; rfl
  unfold swapsWith; simp only [b2, b1, a4, Expr.pos, a3]; rfl
theorem ps_setDc {n0 : Nat} {nm : Str} {pn : Pos} {kx vx tg iter : Expr} {ifs : List Expr} {sc1 : Scope} {own : List (Str × Nat)} {p1 p2 : Pos} {wi : TI} {g : TG} {tt : TT} {tk tv : TE} (hc : X.calm = true) (hN : X.N.Nodup) (hy : X.N[n0]? = some nm) (hyl : X.env.scope.names.lookup nm = some .local)
    (hsw : swapsWith (.DictComp kx vx [⟨tg, iter, ifs, 0⟩] sc1 p1) (some (.Name nm pn)) p2.line X.env = pure true) (hi : PI X tg iter wi) (ok : BlkOk X.N X.env.scope sc1 own)
    (hg : ∀ (s : Shared) (H : Hp) (C : Addr) (cl : List (Str × Addr)) (fp : List Addr), PG (X.blk s H sc1 (compEnvC sc1 cl C X.env) fp) tg g) (ht : ∀ (s : Shared) (H : Hp) (C : Addr) (cl : List (Str × Addr)) (fp : List Addr), PTs (X.blk s H sc1 (compEnvC sc1 cl C X.env) fp) ifs tt)
    (hk : ∀ (s : Shared) (H : Hp) (C : Addr) (cl : List (Str × Addr)) (fp : List Addr), PE (X.blk s H sc1 (compEnvC sc1 cl C X.env) fp) kx tk)
    (he : ∀ (s : Shared) (H : Hp) (C : Addr) (cl : List (Str × Addr)) (fp : List Addr), PE (X.blk s H sc1 (compEnvC sc1 cl C X.env) fp) vx tv) (hs : ∀ x, foldedSetIterable iter X.env x = pure x) :
    PS X (.Assign [.Name nm pn] (.DictComp kx vx [⟨tg, iter, ifs, 0⟩] sc1 p1) p2) (tAsg (tDc wi g tt tk tv (own.map (·.2))) (gName n0)) := by
  constructor
  intro pins s σ H Dn I h
  rw [exec_Assign_Name_used _ _ _ _ hsw]
  apply wpAny_bind; apply wpAny_standAt; apply wpAny_bind
  show wpAny _ X.A (do let _ ← comprehension (.DictComp kx vx [⟨tg, iter, ifs, 0⟩] sc1 p1) sc1 X.env (firstIterPos [⟨tg, iter, ifs, 0⟩] p1) newDict false (eval iter X.env) (some (assign (.Name nm pn) X.env))) _ _ s
  have hh : tDc wi g tt tk tv (own.map (·.2)) σ H (fun x H1 => gName n0 x σ H1 Dn.nx) := h
  have core := dc_core (pos := p1) (pins := pins) (Qf := fun _ s' => SP X pins Dn .next s') (use := some (assign (.Name nm pn) X.env)) (pos' := firstIterPos [⟨tg, iter, ifs, 0⟩] p1) hc hN I hi ok hg ht hk he hs hh (fun L C s' m H' I' q hn ff => by
    show wpAny _ _ (assign (.Name nm pn) X.env (.ref L)) _ _ _
    obtain ⟨f0, f1, f2, f3, f4, f5⟩ := ff
    refine wpAny_assign_Name (store_ok2 (v := V.ref L) I' hN hy (.inl hyl) rfl (fun s2 I2 ⟨a, sb, ha⟩ => ?_) (.inr hyl))
    have ne : C ≠ a := ha.elim (fun z => by rw [z]; exact f1) fun z e => f4 nm a z e.symm
    exact ⟨m, hn.sameBut sb ne, fun h3 sb3 => ⟨_, H', I2.turned (t' := s2.toks) (fun b o hb e => (sb3.2 b hb).trans e) f0 f1 f3 f4 f5, q⟩⟩)
  exact wpAny_bind (thn core fun _ s' hq => wpAny_pure (wpAny_pure hq))
end
end VL
/-! text Nc -/
/-! Nc: neighbour_table of flats. -/
namespace VL
open PySem PySem.Spec PyProof.Rows L2
abbrev N_ntf : List Str := ["web", "near", "row", "place"]
abbrev p_ntf : List Str := ["web"]
theorem sc_ntf : FnScope N_ntf p_ntf (defScope (top 33)) := ⟨rfl, rfl, rfl, by decide +kernel, rfl, by decide +kernel, by decide +kernel⟩
def obL (l : List Str) : HO := .lst (l.map V.str)
def upL (l : List Str) (c : Str) : List Str := l ++ [c]
theorem rd_tup {K : PySem.W.Frag} {H : Hp} {p : Addr} {xs : List V} {k : Int} {v : V} {Q : VK} (h : H p = some (.tup xs)) (e : atI xs k = some v) (q : Q v H) : rIx K (.ref p) (.int k) H Q := .inr (.inl ⟨p, xs, k, v, rfl, rfl, .of h, e, q⟩)
theorem seq_asg {te : TE} {g : TG} {u : TS} {Dn : Ends} {σ : L2.St} {H : Hp} (h : te σ H fun x H1 => g x σ H1 (u Dn)) : tSeq (tAsg te g) u Dn σ H := h
theorem seq_any {t u : TS} {Dn : Ends} {σ : L2.St} {H : Hp} (h : t { Dn with nx := u Dn } σ H) : tSeq t u Dn σ H := h
theorem at_name {i : Nat} {v : V} {σ : L2.St} {H : Hp} {Q : L2.St → Hp → Prop} (h : Q (σ.set i (some v)) H) : gName i v σ H Q := h
theorem run_dcT {wi : TI} {g : TG} {tt : TT} {tk tv : TE} {vs : List Nat} {σ : L2.St} {H : Hp} {Q : VK} (h : wi σ H fun J H1 => tDc (fun _ _ R => R J H1) g tt tk tv vs σ H Q) : tDc wi g tt tk tv vs σ H Q := h
theorem run_forT {wi : TI} {g : TG} {tb : TS} {σ : L2.St} {H : Hp} {Dn : Ends} (h : wi σ H fun J H1 => tFor (fun _ _ R => R J H1) g tb Dn σ H1) : tFor wi g tb Dn σ H := h
theorem EI_of {st : Sto} {F : Foot} {G : Ga} {σ : L2.St} {H : Hp} (o : FOk st F H) (hl : σ.length = G.length) (h : ∀ (i : Nat) t, G[i]? = some t → t = .no ∨ ∃ d v, t = .sh d ∧ σ[i]? = some (some v) ∧ At st F.A H v d) : EI st F G σ H := by
  refine ⟨o, hl, fun i t e => ?_, fun i j d1 d2 l e1 => ?_⟩
  · rcases h i t e with rfl | ⟨d, v, rfl, e2, e3⟩
    · have hi : i < σ.length := by rw [hl]; exact (List.getElem?_eq_some_iff.mp e).1
      exact ⟨σ[i], by simp [hi], trivial⟩
    · exact ⟨some v, e2, v, rfl, e3⟩
  · rcases h i _ e1 with q | ⟨d, v, q, _⟩ <;> cases q
theorem FOk_tab {st : Sto} {F : Foot} {H H1 H2 : Hp} {D : Addr} {β : Type} {ob : β → HO} {ks : List Str} {qs : List Addr} {ls : List β} (o : FOk st F H) (fx : Fx st H H1) (ns : NS st ob H1 H2 D ks qs ls) : FOk st (F_tab st F.A D qs) H2 := by
  have hnew : ∀ a, a = D ∨ a ∈ qs → H1 a = none := fun a h => h.elim (fun e => by rw [e]; exact ns.n0) (ns.nw a)
  refine ⟨fun a h m => fx.hi.live m (hnew a h), fun a h => .inr h, fun a m => .inl (o.na a (o.sn a m)), fun a m => m, fun a h => ?_, ns.fx.hi⟩
  rcases h with h | h | h
  · exact ns.fx.fr.live (fx.fr.live (o.live a h))
  · rw [h, ns.hd]; simp
  · exact ns.live h
theorem At_tab {st : Sto} {F : Foot} {H H1 H2 : Hp} {D : Addr} {β : Type} {ob : β → HO} {ks : List Str} {qs : List Addr} {ls : List β} {v : V} {d : VL.D} (o : FOk st F H) (fx : Fx st H H1) (ns : NS st ob H1 H2 D ks qs ls) (h : At st F.A H v d) : At st (F_tab st F.A D qs).A H2 v d := by
  have hs : ∀ a, isSt st a → F.A a := fun a m => o.na a (o.sn a (.of m))
  have h1 := At.step fx.fr hs h
  have h2 : At st (F_tab st F.A D qs).A H1 v d := At.off (fun a m => m.elim .inl fun m => .inr (m.elim (fun e => by rw [e]; exact ns.n0) (ns.nw a))) h1
  exact At.step ns.fx.fr (fun a m => .inl (hs a m)) h2
section
variable {P : Program} {w : World} {K : PySem.W.Frag} {mg : Str → Option Value} {base : Heap} {cW cL cP : Addr} {f : Addr} {fd : FuncData}
theorem half_app {i1 i2 : Int} {x y : Bd → Str} (hx : ∀ b : Bd, atI [V.str b.1, .str b.2.1, .str b.2.2] i1 = some (.str (x b))) (hy : ∀ b : Bd, atI [V.str b.1, .str b.2.1, .str b.2.2] i2 = some (.str (y b))) :
    Half 1 obL upL (tDrop (tBM K "list" rAppend (tDGet (tVar 1) (tOp (rIx K) (tVar 2) (tC (.int i1)))) (tCons (tOp (rIx K) (tVar 2) (tC (.int i2))) tNil))) x y := by
  intro Dn σ H a D q l b h1 h2 hva hg hq hl hn
  refine ⟨_, h1, _, h2, rd_tup hva (hx b) ⟨D, .ref q, rfl, hg, .inl ⟨rfl, _, .of hq⟩, _, h2, rd_tup hva (hy b) ?_⟩⟩
  refine ⟨q, _, _, rfl, rfl, hq, ltline (by rw [List.length_map]; omega), ?_⟩
  have : obL (upL l (y b)) = .lst (l.map V.str ++ [.str (y b)]) := by unfold obL upL; rw [List.map_append]; rfl
  rw [this] at hn
  exact hn
theorem dv_ntf (g : Pg P w K mg base cW cL cP) (c1 : Pr P w K mg base cW "places" 2 (c_W_places cW)) (c2 : Pr P w K mg base cW "bonds" 2 (c_W_bonds cW)) (st : Sto) (f : Addr) (cdv : Value) (A : Around) (outer : List Env) (s : Shared) (H0 : Hp) (E : XK) (hr : Room 4 (A.deeper (envOfC "neighbour_table" (defScope (top 33)) s.heap.objs.size f cdv))) :
    ∃ t, PSs (cxOf CX0 P w K mg base N_ntf "neighbour_table" (defScope (top 33)) f cdv A outer s H0 E).nox (defBody (top 33)) t ∧
      ∀ (F : Foot) (H : Hp) (Q : VK) (v0 : V) (nr : D) (L : Ld), FOk st F H → At st F.A H v0 (dWeb cW nr L) → LdOk L → (∀ v H', Fx st H H' → At st F.A H' v (dNear L) → Q v H') → t { nx := fun _ H' => Q .non H', rt := Q } (start N_ntf [v0]) H := by
  refine ⟨_, pss_cons (ps_setDc (n0 := 1) (own := [("place", 3)]) (g := gName 3) (tt := tYes) (tk := tVar 3) (tv := tLst tNil) rfl sc_ntf.nd (by rfl) (by rfl) (by exact sw_trueD rfl rfl rfl (by decide +kernel)) (i_list (st := st) (e_prop g.kW.cl c1 hr (ov 0))) (blkOk_by (own := [("place", 3)]) (N := N_ntf) (sc := defScope (top 33)) (by decide +kernel)) (fun _ _ _ _ _ => pg_name sc_ntf.nd (by rfl) (by first | exact .inl rfl | exact .inr rfl)) (fun _ _ _ _ _ => pts_nil) (fun _ _ _ _ _ => pv 3) (fun _ _ _ _ _ => pe_lst pa_nil) (by intro _; rfl))
    (pss_cons (ps_for (g := gName 2) PassesOwn.never rfl (i_list (st := st) (e_prop g.kW.cl c2 hr (ov 0))) (pg_name sc_ntf.nd (by rfl) (by first | exact .inl rfl | exact .inr rfl))
      (pss_cons (ps_expr (pe_bm PySem.F.plainAttrs_list PySem.F.slot_list_append PySem.F.type_list_append mt_append (pe_dget (hu1 hr) (pv 1) (pe_ix ix_seq (pv 2) pe_int (fun _ _ => rfl)) (fun _ _ => rfl)) (pa_cons (pe_ix ix_seq (pv 2) pe_int (fun _ _ => rfl)) pa_nil)) (by rfl))
        (pss_one (ps_expr (pe_bm PySem.F.plainAttrs_list PySem.F.slot_list_append PySem.F.type_list_append mt_append (pe_dget (hu1 hr) (pv 1) (pe_ix ix_seq (pv 2) pe_int (fun _ _ => rfl)) (fun _ _ => rfl)) (pa_cons (pe_ix ix_seq (pv 2) pe_int (fun _ _ => rfl)) pa_nil)) (by rfl)))) (by intro _; rfl))
      (pss_one (ps_ret (pv 1)))), ?_⟩
  intro F H Q v0 nr L o hv ok hQ
  have o1 : FOk st ⟨inSt st, F.A, fun _ => False⟩ H := ⟨fun a m => m.elim, fun a m => m.elim, fun a m => o.na a (o.sn a m), fun a m => m, o.live, o.hi⟩
  have I0 : EI st ⟨inSt st, F.A, fun _ => False⟩ [.sh (dWeb cW nr L), .no, .no, .no] (start N_ntf [v0]) H := EI_of o1 rfl fun i t e => by
    match i, e with
    | 0, e => cases e; exact .inr ⟨_, _, rfl, rfl, hv⟩
    | 1, e => cases e; exact .inl rfl
    | 2, e => cases e; exact .inl rfl
    | 3, e => cases e; exact .inl rfl
    | n + 4, e => simp at e
  have hw1 : wil (wmeth0 cW "places" (c_W_places cW) (wo 0)) [.sh (dWeb cW nr L), .no, .no, .no] (fun ds => ds = L.ps.map D.str) := by
    simp
    exact ⟨nr, L, rfl, rfl⟩
  have hw2 : wil (wmeth0 cW "bonds" (c_W_bonds cW) (wo 0)) [.sh (dWeb cW nr L), .no, .no, .no] (fun ds => ds = L.bs.map dBd) := by
    simp
    exact ⟨nr, L, rfl, rfl⟩
  refine seq_asg (run_dcT ?_)
  refine ⟨⟨inSt st, F.A, fun _ => False⟩, _, fun ds => ds = L.ps.map D.str, I0, hw1, fun ds J H1 e fx okJ => ?_⟩
  subst e
  have hi1 : HI st H1 := fx.hi
  refine run_dcJ (ob := obL) (l0 := []) (i0 := 3) (tv := tLst tNil) (vs := [3]) (σ := start N_ntf [v0]) (H := H) (o1.step fx.fr fx.hi) okJ ok.asc.nodup (by have := ok.len; omega) (fun σ H Q' h => ⟨Nat.zero_le _, h⟩) (by simp) (by show 3 < 4; omega) fun D H2 qs ns => ?_
  have o2 := FOk_tab o fx ns
  have I2 : EI st (F_tab st F.A D qs) [.sh (dWeb cW nr L), .no, .no, .no] [some v0, some (.ref D), none, none] H2 := EI_of o2 rfl fun i t e => by
    match i, e with
    | 0, e => cases e; exact .inr ⟨_, _, rfl, rfl, At_tab o fx ns hv⟩
    | 1, e => cases e; exact .inl rfl
    | 2, e => cases e; exact .inl rfl
    | 3, e => cases e; exact .inl rfl
    | n + 4, e => simp at e
  refine at_name (seq_any (run_forT ?_))
  refine ⟨F_tab st F.A D qs, _, fun ds => ds = L.bs.map dBd, I2, hw2, fun ds J3 H3 e fx3 ok3 => ?_⟩
  subst e
  have hsA : ∀ a, inSt st a → F.A a := fun a m => o.na a (o.sn a m)
  refine run_forJ (ob := obL) (up := upL) (A := F.A) (n := 1) (L := L) (fun y => [some v0, some (.ref D), y, none]) (fun y => rfl) (fun y => rfl) (fun y v => rfl) (fun l c => by unfold upL; simp) hi1 (fun a h => fx.fr.live (o.live a h)) hsA ok.toBs ok.asc.nodup ok.bl ok3 (ns.turn hi1 fx3)
    (half_app (fun b => rfl) (fun b => rfl)) (half_app (fun b => rfl) (fun b => rfl)) (fun H4 y ns4 => ?_) none
  have nA : ∀ a, H1 a = none → ¬ F.A a := fun a h m => o.live a m (fx.fr.dom a h)
  refine ⟨_, rfl, hQ _ H4 (fx.trans ns4.fx) ?_⟩
  unfold dNear
  simp only [At]
  refine ⟨D, qs.map V.ref, rfl, nA D ns4.n0, .inl ns4.hd, by simp, AtAll.of_get (by simp [ns4.l1]) fun i v d e1 e2 => ?_⟩
  rw [List.getElem?_map] at e1 e2
  cases h1 : qs[i]? with
  | none => rw [h1] at e1; cases e1
  | some q =>
    cases h2 : L.ps[i]? with
    | none => rw [h2] at e2; cases e2
    | some p =>
      rw [h1] at e1
      rw [h2] at e2
      cases e1
      cases e2
      have hq := ns4.ob i q (accU upL L.bs p) h1 (by rw [List.getElem?_map, h2]; rfl)
      have en : accU upL L.bs p = nbrs L.bs p := accU_nbrs L.bs p
      rw [en] at hq
      unfold dS
      simp only [At]
      exact ⟨q, _, rfl, nA q (ns4.nw q (List.mem_of_getElem? h1)), hq, AtAll.ofImms (fun _ => rfl) _⟩
theorem cl_ntf (g : Pg P w K mg base cW cL cP) (F : FunD K "neighbour_table" "neighbour_table" (defArgs (top 33)) (defBody (top 33)) (defScope (top 33)) [] [] f fd) (hm : mg "neighbour_table_flats" = some (.ref f)) (c1 : Pr P w K mg base cW "places" 2 (c_W_places cW)) (c2 : Pr P w K mg base cW "bonds" 2 (c_W_bonds cW)) : Cl P w K mg base "neighbour_table_flats" 5 (c_ntf cW) := by
  refine ⟨⟨f, fd, p_ntf, hm, fun st => ?_, F.kp, F.bindsN fun _ _ _ _ _ _ us hl => match us, hl with | [_], _ => rfl⟩⟩
  refine F.ok sc_ntf (fun vs H Q E h => ?_) fun cdv A outer s H vs Q E hr h => ?_
  · obtain ⟨F', as, R, o, ha, ⟨nr, L, rfl, _⟩, _⟩ := h
    exact ha.length
  · obtain ⟨F', as, R, o, ha, ⟨nr, L, rfl, ok, hR⟩, k⟩ := h
    obtain ⟨t, ht, run⟩ := dv_ntf g c1 c2 st f cdv A outer s H E hr
    refine ⟨t, PSs.nox ht, ?_⟩
    cases ha with
    | cons h1 h2 =>
      cases h2
      exact run F' H Q _ nr L o h1 ok fun v H' fx at_ => k _ v H' hR fx at_
end
end VL
/-! text Ne -/
/-! Ne: neighbour_table of webs. -/
namespace VL
open PySem PySem.Spec PyProof.Rows L2
abbrev N_ntw : List Str := ["places", "rows", "found", "row", "place"]
abbrev p_ntw : List Str := ["places", "rows"]
theorem sc_ntw : FnScope N_ntw p_ntw (defScope (top 27)) := ⟨rfl, rfl, rfl, by decide +kernel, rfl, by decide +kernel, by decide +kernel⟩
def obD (l : List Str) : HO := .dK (kz l (l.map fun _ => V.bl true))
theorem kz_all (l : List Str) (c : Str) : putK (kz l (l.map fun _ => V.bl true)) (Sum.inr c) (.bl true) = kz (dputK l c) ((dputK l c).map fun _ => V.bl true) := by
  rw [kz_put _ _ _ _ (by simp), dput_map (f := fun _ => V.bl true)]
  congr 1
  refine List.map_congr_left fun p _ => ?_
  split <;> rfl
section
variable {P : Program} {w : World} {K : PySem.W.Frag} {mg : Str → Option Value} {base : Heap} {cW cL cP : Addr} {f : Addr} {fd : FuncData}
theorem half_put {i1 i2 : Int} {x y : Bd → Str} (hx : ∀ b : Bd, atI [V.str b.1, .str b.2.1, .str b.2.2] i1 = some (.str (x b))) (hy : ∀ b : Bd, atI [V.str b.1, .str b.2.1, .str b.2.2] i2 = some (.str (y b))) :
    Half 2 obD dputK (sDPut (tDGet (tVar 2) (tOp (rIx K) (tVar 3) (tC (.int i1)))) (tOp (rIx K) (tVar 3) (tC (.int i2))) (tC (.bl true))) x y := by
  intro Dn σ H a D q l b h1 h2 hva hg hq hl hn
  refine ⟨_, h1, _, h2, rd_tup hva (hx b) ⟨D, .ref q, rfl, hg, _, h2, rd_tup hva (hy b) ⟨q, _, rfl, DPut.k (k := Sum.inr (y b)) hq (ltline (by rw [kz_length (by simp)]; omega)), ?_⟩⟩⟩
  rw [kz_all]
  exact hn
/-- what stands at D and at its things -/
structure Fd (H : Hp) (D : Addr) (ps : List Str) (qs : List Addr) (ls : List (List Str)) : Prop where
  hd : H D = some (.dK (kz ps (qs.map V.ref)))
  l1 : qs.length = ps.length
  l2 : ls.length = ps.length
  ob : ∀ (j : Nat) q l, qs[j]? = some q → ls[j]? = some l → H q = some (obD l)
theorem Fd.keep {M : Set_} {H H' : Hp} {D : Addr} {ps : List Str} {qs : List Addr} {ls : List (List Str)} (h : Fd H D ps qs ls) (f : Fr M H H') (n : ∀ a, a = D ∨ a ∈ qs → ¬ M a) : Fd H' D ps qs ls :=
  ⟨f.keep _ _ (n _ (.inl rfl)) h.hd, h.l1, h.l2, fun j q l e1 e2 => f.keep _ _ (n _ (.inr (List.mem_of_getElem? e1))) (h.ob j q l e1 e2)⟩
theorem Fd.get {H : Hp} {D : Addr} {ps : List Str} {qs : List Addr} {ls : List (List Str)} {i : Nat} {p : Str} (h : Fd H D ps qs ls) (n : ps.Nodup) (hp : ps[i]? = some p) : ∃ q l, ls[i]? = some l ∧ H q = some (obD l) ∧ DGet H D (.str p) (some (.ref q)) := by
  have hj : i < ps.length := (List.getElem?_eq_some_iff.mp hp).1
  have h1 : i < qs.length := by rw [h.l1]; exact hj
  have h2 : i < ls.length := by rw [h.l2]; exact hj
  refine ⟨qs[i], ls[i], by simp [h2], h.ob i _ _ (by simp [h1]) (by simp [h2]), ?_⟩
  rw [← dget_nth (vs := qs.map V.ref) n hp (by simp [h1])]
  exact dget_of (.inl h.hd)
theorem run_tabV {σ : L2.St} {H : Hp} {Q : VK} {D q : Addr} {l : List Str} {p : Str} (h2 : σ[2]? = some (some (.ref D))) (h4 : σ[4]? = some (some (.str p))) (hg : DGet H D (.str p) (some (.ref q))) (hq : H q = some (obD l)) (hl : l.length < 64)
    (h : ∀ (ys : List Str) (p1 p2 : Addr), ys.Perm l → H p1 = none → (upd H p1 (.lst (ys.map V.str))) p2 = none → Q (.ref p2) (upd (upd H p1 (.lst (ys.map V.str))) p2 (.tup (ys.map V.str)))) :
    tCB (rTuple K) (tCons (tCB rSortedK (tCons (tDGet (tVar 2) (tVar 4)) tNil)) tNil) σ H Q := by
  refine ⟨.ref D, h2, .str p, h4, D, .ref q, rfl, hg, q, kz l (l.map fun _ => V.bl true), l, rfl, .inl hq, kz_keys (by simp), hl, fun ys p1 perm _ hp1 => ?_⟩
  exact ⟨p1, ys.map V.str, rfl, .inl ⟨.of upd_same, fun p2 hp2 => h ys p1 p2 perm hp1 hp2⟩⟩
theorem run_tabJ {st : Sto} {F : Foot} {H H5 : Hp} {J : It} {ps : List Str} {v0 v1 : V} {y z : Option V} {Q : VK} {D : Addr} {qs : List Addr} {ls : List (List Str)} (o : FOk st F H5) (ok : ItOk st F J (ps.map VL.D.str) H5) (hn : ps.Nodup) (hl : ps.length ≤ 100)
    (fd : Fd H5 D ps qs ls) (nS : ∀ a, a = D ∨ a ∈ qs → ¬ isSt st a) (bnd : ∀ (j : Nat) l, ls[j]? = some l → l.length < 64)
    (hQ : ∀ D2 H6 us ds, Fx st H5 H6 → H5 D2 = none → H6 D2 = some (.dK (kz ps us)) → us.length = ps.length → AtAll st F.A H6 us ds → Q (.ref D2) H6) :
    tDc (fun _ _ R => R J H5) (gName 4) tYes (tVar 4) (tCB (rTuple K) (tCons (tCB rSortedK (tCons (tDGet (tVar 2) (tVar 4)) tNil)) tNil)) [4] [some v0, some v1, some (.ref D), y, z] H Q := by
  intro D2 hD2
  have nD2 : ∀ a, a = D ∨ a ∈ qs → a ≠ D2 := fun a m e => by
    subst e
    rcases m with e | m
    · rw [e, fd.hd] at hD2; cases hD2
    · obtain ⟨j, hj⟩ := List.getElem?_of_mem m
      have hlj : j < ls.length := by rw [fd.l2, ← fd.l1]; exact (List.getElem?_eq_some_iff.mp hj).1
      rw [fd.ob j a ls[j] hj (by simp [hlj])] at hD2
      cases hD2
  have nS2 : ¬ isSt st D2 := fun m => o.hi.live (.of m) hD2
  refine ⟨fun i m H => m = ps.length - i ∧ i ≤ ps.length ∧ Fx st H5 H ∧ Fd H D ps qs ls ∧ ∃ us ds, H D2 = some (.dK (kz (ps.take i) us)) ∧ us.length = i ∧ AtAll st (pl F.A D2) H us ds, ⟨ps.length, by simp, Nat.zero_le _, Fx.new o.hi hD2, fd.keep (M := fun _ => False) (Fr.new hD2) (fun _ _ m => m), [], [], by rw [upd_same]; rfl, rfl, .nil⟩, ?_⟩
  rintro i m H3 ⟨rfl, hi, fx, fd3, us, ds, hd2, hul, hat⟩
  have frM : Fr (slM st F) H5 H3 := fx.fr.weak fun a m => .inl m
  by_cases hlt : i < ps.length
  · refine .inr ⟨ok.go i H3 frM (by simpa using hlt), fun H' => Fx st H5 H' ∧ Fd H' D ps qs ls ∧ ∃ us ds, H' D2 = some (.dK (kz (ps.take (i + 1)) us)) ∧ us.length = i + 1 ∧ AtAll st (pl F.A D2) H' us ds, fun H' q => ⟨ps.length - (i + 1), by omega, rfl, hlt, q⟩, fun x H4 yy => ?_⟩
    obtain ⟨f2, d, e, hx⟩ := ok.yld F.A i H3 x H4 (by simpa using hlt) frM fx.hi (fun a h => .inl h) (fun a h => fx.fr.live (o.live a h)) yy
    have hp : ps[i]? = some ps[i] := by simp [hlt]
    rw [List.getElem?_map, hp] at e
    cases e
    have ex := hx.imm rfl
    subst ex
    generalize ps[i] = p at *
    refine ⟨rfl, ?_⟩
    unfold tYes
    dsimp only
    rw [if_pos rfl]
    refine ⟨.str p, rfl, ?_⟩
    have fd4 := fd3.keep f2.fr nS
    obtain ⟨q, l, e1, e2, e3⟩ := fd4.get hn hp
    refine run_tabV rfl rfl e3 e2 (bnd i l e1) fun ys p1 p2 perm hp1 hp2 => ?_
    have hd4 : H4 D2 = some (.dK (kz (ps.take i) us)) := f2.fr.keep _ _ nS2 hd2
    have fr1 : Fr (fun _ => False) H4 (upd (upd H4 p1 (.lst (ys.map V.str))) p2 (.tup (ys.map V.str))) := (Fr.new hp1).trans (Fr.new hp2)
    have fx1 : Fx st H4 (upd (upd H4 p1 (.lst (ys.map V.str))) p2 (.tup (ys.map V.str))) := (Fx.new f2.hi hp1).trans (Fx.new (f2.hi.new hp1) hp2)
    have hp24 : H4 p2 = none := (Fr.new (M := fun _ => False) hp1).dom _ hp2
    have hd5 := fr1.keep _ _ (fun m => m) hd4
    have fd5 := fd4.keep fr1 (fun _ _ m => m)
    have hat4 : AtAll st (pl F.A D2) H4 us ds := AtAll.step f2.fr (fun a m => .inl (o.na a (o.sn a (.of m)))) hat
    have hat5 := AtAll.step fr1 (fun _ m => m.elim) hat4
    have p2D : p2 ≠ D2 := fun e => by rw [e, hd4] at hp24; cases hp24
    have nA2 : ¬ F.A p2 := fun m => (fx.fr.trans f2.fr).live (o.live p2 m) hp24
    have hat6 : At st (pl F.A D2) (upd (upd H4 p1 (.lst (ys.map V.str))) p2 (.tup (ys.map V.str))) (.ref p2) (dT ys) := by
      unfold dT
      simp only [At]
      exact ⟨p2, _, rfl, fun m => m.elim nA2 p2D, upd_same, AtAll.ofStrs ys⟩
    have nAD : ¬ F.A D2 := fun m => o.live D2 m hD2
    generalize upd (upd H4 p1 (.lst (ys.map V.str))) p2 (.tup (ys.map V.str)) = H5' at *
    have fx5 : Fx st H5 H5' := fx.trans (f2.trans fx1)
    refine ⟨_, Sum.inr p, rfl, hd5, ltline (by rw [kz_length (by rw [List.length_take, hul]; omega), List.length_take]; omega), ?_⟩
    have hlen : (ps.take i).length = us.length := by rw [List.length_take, hul]; omega
    have hn' := nodup_take hn hp
    rw [kz_put _ _ _ _ hlen, dputK_new hn', dputV_new hn', ← take_succ hp]
    have fr6 : ∀ o : HO, Fr (fun a => a = D2) H5' (upd H5' D2 o) := fun o => Fr.set rfl
    exact ⟨fx_new o.hi fx5 hD2, fd5.keep (fr6 _) nD2, us ++ [.ref p2], ds ++ [dT ys], upd_same, by simp [hul], AtAll.step (fr6 _) (fun a m => .inr m) (AtAll.app hat5 (.one hat6))⟩
  · have e : i = ps.length := by omega
    subst e
    rw [List.take_length] at hd2
    exact .inl ⟨by simpa using ok.stop H3 frM, hQ D2 H3 us ds fx hD2 hd2 hul (AtAll.off (fun a h => .inl (.inl h)) hat)⟩
theorem run_retT {te : TE} {Dn : Ends} {σ : L2.St} {H : Hp} (h : te σ H Dn.rt) : tRet te Dn σ H := h
theorem dputK_len (l : List Str) (c : Str) : (dputK l c).length ≤ l.length + 1 := by
  unfold dputK
  split <;> simp
theorem dv_ntw (g : Pg P w K mg base cW cL cP) (st : Sto) (f : Addr) (cdv : Value) (A : Around) (outer : List Env) (s : Shared) (H0 : Hp) (E : XK) (hr : Room 2 (A.deeper (envOfC "neighbour_table" (defScope (top 27)) s.heap.objs.size f cdv))) :
    ∃ t, PSs (cxOf CX0 P w K mg base N_ntw "neighbour_table" (defScope (top 27)) f cdv A outer s H0 E).nox (defBody (top 27)) t ∧
      ∀ (F : Foot) (H : Hp) (Q : VK) (v0 v1 : V) (ps : List Str) (bs : List Bd), FOk st F H → At st F.A H v0 (dS ps) → At st F.A H v1 (dBs bs) → ps.Nodup → ps.length ≤ 10 → BsOk ps bs → (∀ v H' nr, Fx st H H' → At st F.A H' v nr → Q v H') → t { nx := fun _ H' => Q .non H', rt := Q } (start N_ntw [v0, v1]) H := by
  refine ⟨_, pss_cons (ps_set (i := 2) sc_ntw.nd (by rfl) (by first | exact .inl rfl | exact .inr rfl) (pe_dc (own := [("place", 4)]) (g := gName 4) (tt := tYes) (tk := tVar 4) (tv := tDNewK) rfl sc_ntw.nd (i_list (st := st) (ev 0)) (blkOk_by (own := [("place", 4)]) (N := N_ntw) (sc := defScope (top 27)) (by decide +kernel)) (fun _ _ _ _ _ => pg_name sc_ntw.nd (by rfl) (by first | exact .inl rfl | exact .inr rfl)) (fun _ _ _ _ _ => pts_nil) (fun _ _ _ _ _ => pv 4) (fun _ _ _ _ _ => pe_dnewK) (by intro _; rfl)) (by rfl) (by first | exact .inl rfl | exact .inr rfl))
    (pss_cons (ps_for (g := gName 3) PassesOwn.never rfl (i_list (st := st) (ev 1)) (pg_name sc_ntw.nd (by rfl) (by first | exact .inl rfl | exact .inr rfl))
      (pss_cons (ps_dput (hu1 hr) (pe_dget (hu1 hr) (pv 2) (pe_ix ix_seq (pv 3) pe_int (fun _ _ => rfl)) (fun _ _ => rfl)) (pe_ix ix_seq (pv 3) pe_int (fun _ _ => rfl)) pe_bl (by rfl))
        (pss_one (ps_dput (hu1 hr) (pe_dget (hu1 hr) (pv 2) (pe_ix ix_seq (pv 3) pe_int (fun _ _ => rfl)) (fun _ _ => rfl)) (pe_ix ix_seq (pv 3) pe_int (fun _ _ => rfl)) pe_bl (by rfl)))) (by intro _; rfl))
      (pss_one (ps_ret (pe_dc (own := [("place", 4)]) (g := gName 4) (tt := tYes) (tk := tVar 4) (tv := tCB (rTuple K) (tCons (tCB rSortedK (tCons (tDGet (tVar 2) (tVar 4)) tNil)) tNil)) rfl sc_ntw.nd (i_list (st := st) (ev 0)) (blkOk_by (own := [("place", 4)]) (N := N_ntw) (sc := defScope (top 27)) (by decide +kernel)) (fun _ _ _ _ _ => pg_name sc_ntw.nd (by rfl) (by first | exact .inl rfl | exact .inr rfl)) (fun _ _ _ _ _ => pts_nil) (fun _ _ _ _ _ => pv 4)
        (fun _ _ _ _ _ => pe_callTy call_tuple_of (by rfl) g.b_tuple (by decide +kernel) (pa_cons (pe_callB (call_sortedD rfl) (by rfl) g.b_sorted (by decide +kernel) (pa_cons (pe_dget (hu1 hr) (pv 2) (pv 4) (fun _ _ => rfl)) pa_nil)) pa_nil)) (by intro _; rfl))))), ?_⟩
  intro F H Q v0 v1 ps bs o hv0 hv1 hn hl hb hQ
  have o1 : FOk st ⟨inSt st, F.A, fun _ => False⟩ H := ⟨fun a m => m.elim, fun a m => m.elim, fun a m => o.na a (o.sn a m), fun a m => m, o.live, o.hi⟩
  have I0 : EI st ⟨inSt st, F.A, fun _ => False⟩ [.sh (dS ps), .sh (dBs bs), .no, .no, .no] (start N_ntw [v0, v1]) H := EI_of o1 rfl fun i t e => by
    match i, e with
    | 0, e => cases e; exact .inr ⟨_, _, rfl, rfl, hv0⟩
    | 1, e => cases e; exact .inr ⟨_, _, rfl, rfl, hv1⟩
    | 2, e => cases e; exact .inl rfl
    | 3, e => cases e; exact .inl rfl
    | 4, e => cases e; exact .inl rfl
    | n + 5, e => simp at e
  have hw1 : ∀ u v : Sl, wil (wv 0) [.sh (dS ps), .sh (dBs bs), u, v, .no] (fun ds => ds = ps.map D.str) := fun u v => rfl
  have hw2 : ∀ u v : Sl, wil (wv 1) [.sh (dS ps), .sh (dBs bs), u, v, .no] (fun ds => ds = bs.map dBd) := fun u v => rfl
  refine seq_asg (run_dcT ?_)
  refine ⟨⟨inSt st, F.A, fun _ => False⟩, _, fun ds => ds = ps.map D.str, I0, hw1 _ _, fun ds J H1 e fx okJ => ?_⟩
  subst e
  have hi1 : HI st H1 := fx.hi
  refine run_dcJ (ob := obD) (l0 := []) (i0 := 4) (tv := tDNewK) (vs := [4]) (σ := start N_ntw [v0, v1]) (H := H) (o1.step fx.fr fx.hi) okJ hn (by omega) (fun σ H Q' h => h) (by simp) (by show 4 < 5; omega) fun D H2 qs ns => ?_
  have o2 := FOk_tab o fx ns
  have I2 : EI st (F_tab st F.A D qs) [.sh (dS ps), .sh (dBs bs), .no, .no, .no] [some v0, some v1, some (.ref D), none, none] H2 := EI_of o2 rfl fun i t e => by
    match i, e with
    | 0, e => cases e; exact .inr ⟨_, _, rfl, rfl, At_tab o fx ns hv0⟩
    | 1, e => cases e; exact .inr ⟨_, _, rfl, rfl, At_tab o fx ns hv1⟩
    | 2, e => cases e; exact .inl rfl
    | 3, e => cases e; exact .inl rfl
    | 4, e => cases e; exact .inl rfl
    | n + 5, e => simp at e
  refine at_name (seq_any (run_forT ?_))
  refine ⟨F_tab st F.A D qs, _, fun ds => ds = bs.map dBd, I2, hw2 _ _, fun ds J3 H3 e fx3 ok3 => ?_⟩
  subst e
  have hsA : ∀ a, inSt st a → F.A a := fun a m => o.na a (o.sn a m)
  have hbl : bs.length ≤ 16 := hb.bl
  refine run_forJ (ob := obD) (up := dputK) (A := F.A) (n := 2) (L := ⟨ps, bs, fun _ => 0⟩) (fun y => [some v0, some v1, some (.ref D), y, none]) (fun y => rfl) (fun y => rfl) (fun y v => rfl) dputK_len hi1 (fun a h => fx.fr.live (o.live a h)) hsA hb hn hbl ok3 (ns.turn hi1 fx3)
    (half_put (fun b => rfl) (fun b => rfl)) (half_put (fun b => rfl) (fun b => rfl)) (fun H4 y ns4 => ?_) none
  have o4 := FOk_tab o fx ns4
  have I4 : EI st (F_tab st F.A D qs) [.sh (dS ps), .sh (dBs bs), .no, .no, .no] [some v0, some v1, some (.ref D), y, none] H4 := EI_of o4 rfl fun i t e => by
    match i, e with
    | 0, e => cases e; exact .inr ⟨_, _, rfl, rfl, At_tab o fx ns4 hv0⟩
    | 1, e => cases e; exact .inr ⟨_, _, rfl, rfl, At_tab o fx ns4 hv1⟩
    | 2, e => cases e; exact .inl rfl
    | 3, e => cases e; exact .inl rfl
    | 4, e => cases e; exact .inl rfl
    | n + 5, e => simp at e
  dsimp only
  refine run_retT (run_dcT ?_)
  refine ⟨F_tab st F.A D qs, _, fun ds => ds = ps.map VL.D.str, I4, hw1 _ _, fun ds J5 H5 e fx5 ok5 => ?_⟩
  subst e
  have ns5 := ns4.turn hi1 fx5
  have nS : ∀ a, a = D ∨ a ∈ qs → ¬ isSt st a := fun a h m => hi1.live (.of m) (h.elim (fun e => by rw [e]; exact ns.n0) (ns4.nw a))
  have fd5 : Fd H5 D ps qs (ps.map (accU dputK bs)) := ⟨ns5.hd, ns5.l1, ns5.l2, ns5.ob⟩
  refine run_tabJ (o4.step fx5.fr fx5.hi) ok5 hn (by omega) fd5 nS (fun j l e => ?_) fun D2 H6 us ds fx6 hD2 hd2 hul hat => ?_
  · rw [List.getElem?_map] at e
    cases h1 : ps[j]? with
    | none => rw [h1] at e; cases e
    | some p =>
      rw [h1] at e
      cases e
      have := accU_len dputK_len p bs
      omega
  · have fxa : Fx st H H6 := fx.trans (ns5.fx.trans fx6)
    refine hQ _ H6 (.dic ps ds) fxa ?_
    simp only [At]
    have nA : ¬ F.A D2 := fun m => (fx.trans ns5.fx).fr.live (o.live D2 m) hD2
    exact ⟨D2, us, rfl, nA, .inl hd2, by rw [← hul, hat.length], AtAll.off (fun a m => .inl (.inl m)) hat⟩
theorem cl_ntw (g : Pg P w K mg base cW cL cP) (F : FunD K "neighbour_table" "neighbour_table" (defArgs (top 27)) (defBody (top 27)) (defScope (top 27)) [] [] f fd) (hm : mg "neighbour_table_webs" = some (.ref f)) : Cl P w K mg base "neighbour_table_webs" 3 c_ntw := by
  refine ⟨⟨f, fd, p_ntw, hm, fun st => ?_, F.kp, F.bindsN fun _ _ _ _ _ _ us hl => match us, hl with | [_, _], _ => rfl⟩⟩
  refine F.ok sc_ntw (fun vs H Q E h => ?_) fun cdv A outer s H vs Q E hr h => ?_
  · obtain ⟨F', as, R, o, ha, ⟨ps, bs, rfl, _⟩, _⟩ := h
    exact ha.length
  · obtain ⟨F', as, R, o, ha, ⟨ps, bs, rfl, ⟨hn, hl, hb⟩, hR⟩, k⟩ := h
    obtain ⟨t, ht, run⟩ := dv_ntw g st f cdv A outer s H E hr
    refine ⟨t, PSs.nox ht, ?_⟩
    cases ha with
    | cons h1 h2 =>
      cases h2 with
      | cons h2 h3 =>
        cases h3
        exact run F' H Q _ _ ps bs o h1 h2 hn hl hb fun v H' nr fx at_ => k _ v H' (hR nr) fx at_
end
end VL
/-! text Hd -/
/-! Ha: the head: what the top leaves, by names (printed by genh.py). -/
namespace VL
open PySem PySem.Spec PyProof.Rows L2
/-! ### a def by its address -/
structure Dd where
  ad : PySem.W.Frag → Addr
  nm : Str
  ql : Str
  tx : Stmt
  kw : List (Str × He.Dv) := []
def fnA (K : PySem.W.Frag) (a : Addr) : He.FnW := match K.lookup a with
  | some ⟨_, _, .func d, _⟩ => some (d.name, d.qualname, d.params, d.body, d.scope, d.globals, d.closure, d.builtins)
  | _ => none
def Dd.want (d : Dd) : He.FnW := some (d.nm, d.ql, defArgs d.tx, .stmts (defBody d.tx), defScope d.tx, mainGlobals, [], builtinsNs)
def Dd.kws (K : PySem.W.Frag) (d : Dd) : List (Str × V) := d.kw.map fun q => (q.1, q.2.v K)
def Dd.good (K : PySem.W.Frag) (d : Dd) : Bool := PySem.W.keepIn K (.ref (d.ad K)) && match K.lookup (d.ad K) with
  | some ⟨_, _, .func e, _⟩ => PySem.W.codeIn K e.code d.ql && (He.dflB K e.defaults [] && He.kwdB K e.kwdefaults (d.kws K))
  | _ => false
theorem Dd.funD {K : PySem.W.Frag} {d : Dd} (e : fnA K (d.ad K) = d.want) (c : d.good K = true) : ∃ fd, FunD K d.nm d.ql (defArgs d.tx) (defBody d.tx) (defScope d.tx) [] (d.kws K) (d.ad K) fd := by
  have c' := Bool.and_eq_true_iff.mp c
  have c2 := c'.2
  unfold fnA at e
  cases hq : K.lookup (d.ad K) with
  | none => rw [hq] at c2; exact absurd c2 Bool.false_ne_true
  | some ob =>
    obtain ⟨oc, od, dt, osl⟩ := ob
    rw [hq] at c2 e
    cases dt with
    | func fd =>
      obtain ⟨m1, m2, m3, m4, m5, m6, m7, m8, m9, m10, m11, m12, m13, m14, m15⟩ := fd
      have z : (some (m1, m2, m3, m4, m5, m6, m7, m15) : He.FnW) = some (d.nm, d.ql, defArgs d.tx, .stmts (defBody d.tx), defScope d.tx, mainGlobals, [], builtinsNs) := e
      simp only [Option.some.injEq, Prod.mk.injEq] at z
      obtain ⟨rfl, rfl, rfl, rfl, rfl, rfl, rfl, rfl⟩ := z
      have z3 := Bool.and_eq_true_iff.mp (show (PySem.W.codeIn K m13 d.ql && (He.dflB K m8 [] && He.kwdB K m9 (d.kws K))) = true from c2)
      have z4 := Bool.and_eq_true_iff.mp z3.2
      exact ⟨_, ⟨⟨oc, od, m8, m9, m10, m11, m12, m13, m14, osl, rfl, hq, z3.1, He.dflB_ok z4.1, He.kwdB_ok z4.2⟩, c'.1⟩⟩
    | _ => exact absurd c2 Bool.false_ne_true
/-! ### the Hook: facts, defs, one Bool more -/
abbrev AlV : Type := Bool × List He.FnW
def obV (fa : List He.Fa) (fn : List Dd) (ex : PySem.W.Frag → Bool) (K : PySem.W.Frag) : AlV := ((fa.all fun q => q.ok K) && ((fn.all fun d => d.good K) && ex K), fn.map fun d => fnA K (d.ad K))
def vaV (fn : List Dd) : AlV := (true, fn.map Dd.want)
def SayV (fa : List He.Fa) (fn : List Dd) (ex : PySem.W.Frag → Bool) (K : PySem.W.Frag) : Prop := obV fa fn ex K = vaV fn
def fnc (g : Addr → Option Obj) (as : List Addr) : List Addr := as.flatMap fun a => match g a with
  | some ⟨_, _, .func d, _⟩ => He.refV d.code ++ He.refV d.kwdefaults
  | _ => []
def nsc (g : Addr → Option Obj) (as : List Addr) : List Addr := as.flatMap fun a => match g a with
  | some ⟨_, _, .cls d, _⟩ => [d.ns]
  | _ => []
def dic (g : Addr → Option Obj) (as : List Addr) : List Addr := as.flatMap fun a => match g a with
  | some ⟨_, _, .dict es _, _⟩ => es.toList.flatMap fun e => He.refV e.val
  | _ => []
def fld (g : Addr → Option Obj) (as : List Addr) : List Addr := as.flatMap fun a => match g a with
  | some ⟨_, _, .fields vs, _⟩ => vs.toList.flatMap He.refV
  | _ => []
def asV (g : Addr → Option Obj) : List Addr :=
  let r1 := dic g [mainGlobals]
  let n1 := nsc g r1
  let m1 := dic g n1
  let p1 := fld g m1
  mainGlobals :: (r1 ++ (n1 ++ (m1 ++ (p1 ++ (fnc g r1 ++ (fnc g m1 ++ fnc g p1))))))
def obVG (fa : List He.Fa) (fn : List Dd) (ex : PySem.W.Frag → Bool) (g : Addr → Option Obj) : AlV := obV fa fn ex (He.frG g (asV g))
def hookV (fa : List He.Fa) (fn : List Dd) (ex : PySem.W.Frag → Bool) : PySem.W.Hook :=
  { α := AlV, obs := fun s => obVG fa fn ex s.heap.get?, val := fun _ => vaV fn, says := fun _ h => ∃ K : PySem.W.Frag, K.In h ∧ SayV fa fn ex K, of := fun _ _ e => ⟨_, He.frG_in, e⟩, keeps := fun _ _ _ ⟨K, hK, c⟩ k => ⟨K, PySem.W.Frag.In.keeps hK k, c⟩ }
section
variable {fa : List He.Fa} {fn : List Dd} {ex : PySem.W.Frag → Bool} {K : PySem.W.Frag}
theorem SayV.b (c : SayV fa fn ex K) : (fa.all fun q => q.ok K) = true ∧ (fn.all fun d => d.good K) = true ∧ ex K = true := by
  have h : ((fa.all fun q => q.ok K) && ((fn.all fun d => d.good K) && ex K)) = true := congrArg Prod.fst c
  rw [Bool.and_eq_true, Bool.and_eq_true] at h
  exact h
theorem SayV.fact (c : SayV fa fn ex K) (i : Nat) {q : He.Fa} (h : fa[i]? = some q := by rfl) : q.ok K = true := List.all_eq_true.mp c.b.1 q (List.mem_of_getElem? h)
theorem SayV.def_ (c : SayV fa fn ex K) (i : Nat) {d : Dd} (h : fn[i]? = some d := by rfl) : ∃ fd, FunD K d.nm d.ql (defArgs d.tx) (defBody d.tx) (defScope d.tx) [] (d.kws K) (d.ad K) fd := by
  have e : fn.map (fun d => fnA K (d.ad K)) = fn.map Dd.want := congrArg Prod.snd c
  have e2 := congrArg (fun l => l[i]?) e
  simp only [List.getElem?_map, h, Option.map_some, Option.some.injEq] at e2
  exact Dd.funD e2 (List.all_eq_true.mp c.b.2.1 d (List.mem_of_getElem? h))
end
def gAd (x : Str) (K : PySem.W.Frag) : Addr := He.ga K x
def mAd (C m : Str) (K : PySem.W.Frag) : Addr := He.ma K (He.ga K C) m
def pAd (C m : Str) (K : PySem.W.Frag) : Addr := match PySem.W.recIn K (mAd C m K) "property" with
  | some (.ref g :: _) => g
  | _ => 0
def fnH0 : List Dd := [⟨gAd "is_name", "is_name", "is_name", (top 21), []⟩, ⟨gAd "is_height", "is_height", "is_height", (top 22), []⟩, ⟨gAd "need_names", "need_names", "need_names", (top 23), [("what", .str "places"), ("least", .int 0), ("most", .int 10)]⟩, ⟨gAd "bond_row", "bond_row", "bond_row", (top 25), []⟩, ⟨gAd "need_bonds", "need_bonds", "need_bonds", (top 26), []⟩, ⟨mAd "Web" "__init__", "__init__", "Web.__init__", (inClass (top 29) 0), []⟩, ⟨pAd "Web" "places", "places", "Web.places", (inClass (top 29) 2), []⟩, ⟨pAd "Web" "bonds", "bonds", "Web.bonds", (inClass (top 29) 3), []⟩, ⟨mAd "Web" "__len__", "__len__", "Web.__len__", (inClass (top 29) 4), []⟩, ⟨mAd "Web" "__eq__", "__eq__", "Web.__eq__", (inClass (top 29) 7), []⟩, ⟨mAd "Land" "__init__", "__init__", "Land.__init__", (inClass (top 31) 0), []⟩, ⟨pAd "Land" "heights", "heights", "Land.heights", (inClass (top 31) 2), []⟩, ⟨mAd "Land" "__getitem__", "__getitem__", "Land.__getitem__", (inClass (top 31) 3), []⟩, ⟨mAd "Land" "__len__", "__len__", "Land.__len__", (inClass (top 31) 4), []⟩, ⟨mAd "Land" "__contains__", "__contains__", "Land.__contains__", (inClass (top 31) 5), []⟩, ⟨mAd "Land" "table", "table", "Land.table", (inClass (top 31) 10), []⟩, ⟨gAd "flat_around", "flat_around", "flat_around", (top 35), []⟩, ⟨gAd "all_flats", "all_flats", "all_flats", (top 36), []⟩, ⟨gAd "flats_of", "flats_of", "flats_of", (top 37), []⟩, ⟨gAd "need_same_web", "need_same_web", "need_same_web", (top 39), []⟩, ⟨gAd "slanted_bonds", "slanted_bonds", "slanted_bonds", (top 41), []⟩, ⟨gAd "broken_rows", "broken_rows", "broken_rows", (top 42), []⟩, ⟨gAd "dry_rows", "dry_rows", "dry_rows", (top 43), []⟩, ⟨gAd "springs", "springs", "springs", (top 44), []⟩, ⟨gAd "dry_flats", "dry_flats", "dry_flats", (top 45), []⟩, ⟨gAd "broken_bonds", "broken_bonds", "broken_bonds", (top 46), []⟩, ⟨gAd "comes", "comes", "comes", (top 47), []⟩, ⟨gAd "bond_paper", "bond_paper", "bond_paper", (top 48), []⟩, ⟨gAd "never_paper", "never_paper", "never_paper", (top 49), []⟩, ⟨mAd "Piece" "__init__", "__init__", "Piece.__init__", (inClass (top 54) 0), []⟩]
def fnH1 : List Dd := [⟨pAd "Piece" "border", "border", "Piece.border", (inClass (top 54) 1), []⟩, ⟨pAd "Piece" "inner", "inner", "Piece.inner", (inClass (top 54) 2), []⟩, ⟨gAd "need_same_border", "need_same_border", "need_same_border", (top 55), []⟩, ⟨gAd "need_gluable", "need_gluable", "need_gluable", (top 56), []⟩, ⟨gAd "land_of_both", "land_of_both", "land_of_both", (top 57), []⟩, ⟨gAd "glue", "glue", "glue", (top 58), []⟩, ⟨gAd "united", "united", "united", (top 59), []⟩, ⟨gAd "show_of", "show_of", "show_of", (top 61), []⟩, ⟨gAd "fits", "fits", "fits", (top 62), []⟩, ⟨gAd "_law_mixed", "_law_mixed", "_law_mixed", (top 64), []⟩, ⟨gAd "_law_store", "_law_store", "_law_store", (top 65), []⟩, ⟨gAd "_law_pick", "_law_pick", "_law_pick", (top 67), []⟩, ⟨gAd "_law_number", "_law_number", "_law_number", (top 68), []⟩, ⟨gAd "_law_disorder", "_law_disorder", "_law_disorder", (top 69), []⟩, ⟨gAd "_law_name", "_law_name", "_law_name", (top 70), []⟩, ⟨gAd "_law_names", "_law_names", "_law_names", (top 71), []⟩, ⟨gAd "_law_unlike", "_law_unlike", "_law_unlike", (top 72), []⟩, ⟨gAd "_law_stranger", "_law_stranger", "_law_stranger", (top 73), []⟩, ⟨gAd "_law_same", "_law_same", "_law_same", (top 74), []⟩, ⟨gAd "_law_any_height", "_law_any_height", "_law_any_height", (top 75), []⟩, ⟨gAd "_law_menu", "_law_menu", "_law_menu", (top 76), []⟩, ⟨gAd "_law_ends", "_law_ends", "_law_ends", (top 77), []⟩, ⟨gAd "_law_bond_names", "_law_bond_names", "_law_bond_names", (top 78), []⟩, ⟨gAd "_law_bonds", "_law_bonds", "_law_bonds", (top 79), []⟩, ⟨gAd "_law_make", "_law_make", "_law_make", (top 80), []⟩, ⟨gAd "_law_is_land", "_law_is_land", "_law_is_land", (top 81), []⟩, ⟨gAd "_law_beside", "_law_beside", "_law_beside", (top 82), []⟩, ⟨gAd "_law_reach", "_law_reach", "_law_reach", (top 83), []⟩, ⟨gAd "_law_height", "_law_height", "_law_height", (top 84), []⟩, ⟨gAd "_law_flat", "_law_flat", "_law_flat", (top 85), []⟩]
def fnH2 : List Dd := [⟨gAd "_law_flats", "_law_flats", "_law_flats", (top 86), []⟩, ⟨gAd "_law_papers", "_law_papers", "_law_papers", (top 87), []⟩, ⟨gAd "_law_piece_land", "_law_piece_land", "_law_piece_land", (top 88), []⟩, ⟨gAd "_law_pieces", "_law_pieces", "_law_pieces", (top 89), []⟩, ⟨gAd "_law_glued", "_law_glued", "_law_glued", (top 90), []⟩, ⟨gAd "_law_show", "_law_show", "_law_show", (top 91), []⟩, ⟨gAd "_law_cut", "_law_cut", "_law_cut", (top 92), []⟩, ⟨gAd "_law_joining", "_law_joining", "_law_joining", (top 93), []⟩, ⟨gAd "_law_goals", "_law_goals", "_law_goals", (top 94), []⟩, ⟨gAd "_law_glued_right", "_law_glued_right", "_law_glued_right", (top 95), []⟩, ⟨gAd "law", "law", "law", (top 96), []⟩, ⟨gAd "neighbour_table_webs", "neighbour_table", "neighbour_table", top 27, []⟩, ⟨gAd "neighbour_table_flats", "neighbour_table", "neighbour_table", top 33, []⟩, ⟨gAd "_law_take", "_law_take", "_law_take", top 66, []⟩]
def fnH : List Dd := fnH0 ++ fnH1 ++ fnH2
def faH0 : List He.Fa := [.glo "is_name", .glo "is_height", .glo "need_names", .glo "bond_row", .glo "need_bonds", .mkr "Web", .meth "Web" "__len__", .meth "Web" "__eq__", .mkr "Land", .meth "Land" "__getitem__", .meth "Land" "__len__", .meth "Land" "__contains__", .meth "Land" "table", .glo "flat_around", .glo "all_flats", .glo "flats_of", .glo "need_same_web", .glo "slanted_bonds", .glo "broken_rows", .glo "dry_rows", .glo "springs", .glo "dry_flats", .glo "broken_bonds", .glo "comes", .glo "bond_paper", .glo "never_paper", .mkr "Piece", .glo "need_same_border", .glo "need_gluable", .glo "land_of_both", .glo "glue", .glo "united", .glo "show_of", .glo "fits", .glo "_law_mixed"]
def faH1 : List He.Fa := [.glo "_law_store", .glo "_law_pick", .glo "_law_number", .glo "_law_disorder", .glo "_law_name", .glo "_law_names", .glo "_law_unlike", .glo "_law_stranger", .glo "_law_same", .glo "_law_any_height", .glo "_law_menu", .glo "_law_ends", .glo "_law_bond_names", .glo "_law_bonds", .glo "_law_make", .glo "_law_is_land", .glo "_law_beside", .glo "_law_reach", .glo "_law_height", .glo "_law_flat", .glo "_law_flats", .glo "_law_papers", .glo "_law_piece_land", .glo "_law_pieces", .glo "_law_glued", .glo "_law_show", .glo "_law_cut", .glo "_law_joining", .glo "_law_goals", .glo "_law_glued_right", .glo "law", .glo "neighbour_table_webs", .glo "neighbour_table_flats", .glo "_law_take", .glo "Web"]
def faH2 : List He.Fa := [.glo "Land", .glo "Piece", .int "NAME_MOST" 8, .int "HEIGHT_MOST" 9999, .int "PLACE_MOST" 10, .int "BOND_MOST" 16, .int "PIECE_PLACES" 6, .int "PIECE_BONDS" 8, .int "BORDER_MOST" 3, .str "LETTERS" "abcdefghijklmnopqrstuvwxyz", .str "FIGURES" "0123456789", .free "len", .free "isinstance", .free "sorted", .free "str", .free "bool", .free "int", .free "dict", .free "list", .free "tuple", .free "all", .free "any", .free "range", .free "enumerate", .free "zip", .free "min", .free "max", .free "abs", .cls "Web", .cls "Land", .cls "Piece", .noat "Web" "web_places", .noat "Web" "web_bonds", .noat "Web" "web_spots", .noat "Web" "web_near"]
def faH3 : List He.Fa := [.noat "Land" "web", .noat "Land" "land_heights", .noat "Piece" "land", .noat "Piece" "own_border", .noat "Piece" "own_inner", .noat "Piece" "own_row"]
def faH : List He.Fa := faH0 ++ faH1 ++ faH2 ++ faH3
def clsB (K : PySem.W.Frag) (x : Str) : Bool := He.eqO (PySem.W.findIn K (.ref (He.ga K x)) "__class__") (some (some (.builtin "object.__class__"))) && (decide (PySem.W.mroIn K (He.ga K x) (.type "object") = some true) && decide (PySem.W.kitOne K (.ref (He.ga K x)) (.ref (He.ga K x)) = some true))
def proB (K : PySem.W.Frag) (C m : Str) : Bool := He.eqO (PySem.W.findIn K (.ref (He.ga K C)) m) (some (some (.ref (mAd C m K)))) && (He.eqO (PySem.W.specialIn K (.ref (mAd C m K)) "__get__") (some (some (.builtin "property.__get__"))) && (decide (PySem.W.takesIn K (.ref (mAd C m K)) = some true) && match PySem.W.recIn K (mAd C m K) "property" with
  | some (.ref _ :: _) => true
  | _ => false))
def exH (K : PySem.W.Frag) : Bool := He.eqO (PySem.W.specialIn K (.builtin "object.__class__") "__get__") (some (some (.builtin "getset_descriptor.__get__"))) && (decide (PySem.W.takesIn K (.builtin "object.__class__") = some true) && (He.eqO (PySem.W.findIn K (.ref (He.ga K "Web")) "__ne__") (some (some (.builtin "object.__ne__"))) &&
  (clsB K "Web" && (clsB K "Land" && (clsB K "Piece" && (proB K "Web" "places" && (proB K "Web" "bonds" && (proB K "Land" "heights" && (proB K "Piece" "border" && proB K "Piece" "inner")))))))))
def looH0 : List Str := ["_wall", "__name__", "HumphollowError", "FormError", "DeedError", "BadName", "BadHeight", "WrongCount", "Duplicate", "Loop", "UnknownBond", "WrongWeb", "WrongBorder", "UnknownPlace", "NAME_MOST", "HEIGHT_MOST"]
def looH1 : List Str := ["PLACE_MOST", "BOND_MOST", "LETTERS", "FIGURES", "is_name", "is_height", "need_names", "bond_row", "need_bonds", "neighbour_table", "neighbour_table_webs", "Web", "Land", "neighbour_table_flats", "flat_around", "all_flats"]
def looH2 : List Str := ["flats_of", "need_same_web", "slanted_bonds", "broken_rows", "dry_rows", "springs", "dry_flats", "broken_bonds", "comes", "bond_paper", "never_paper", "PIECE_PLACES", "PIECE_BONDS", "BORDER_MOST", "Piece", "need_same_border"]
def looH3 : List Str := ["need_gluable", "land_of_both", "glue", "united", "show_of", "fits", "_law_mixed", "_law_store", "_law_take", "_law_pick", "_law_number", "_law_disorder", "_law_name", "_law_names", "_law_unlike", "_law_stranger"]
def looH4 : List Str := ["_law_same", "_law_any_height", "_law_menu", "_law_ends", "_law_bond_names", "_law_bonds", "_law_make", "_law_is_land", "_law_beside", "_law_reach", "_law_height", "_law_flat", "_law_flats", "_law_papers", "_law_piece_land", "_law_pieces"]
def looH5 : List Str := ["_law_glued", "_law_show", "_law_cut", "_law_joining", "_law_goals", "_law_glued_right"]
def looH : List Str := looH0 ++ looH1 ++ looH2 ++ looH3 ++ looH4 ++ looH5
abbrev RH : PySem.W.OpenRow := PySem.W.OpenLaw.row PySem.Challenge.rw_humphollow_k89_whole_gluing_keeps_what_c
abbrev hkH : PySem.W.Hook := hookV faH fnH exH
def obH (s : PySem.W.SharedT) : AlV := obVG faH fnH exH (HandSHeadRun.getT s)
theorem obH_eq (s : PySem.W.SharedT) : obH s = hkH.obs s.abs := by
  have e : HandSHeadRun.getT s = s.abs.heap.get? := funext (HandSHeadRun.getT_eq s)
  unfold obH
  rw [e]
  rfl
end VL
/-! text Hf -/
/-! Hf: from the head's facts the law's def keeps its promise (printed by genf.py). -/
namespace VL
open PySem PySem.Spec PyProof.Rows L2
theorem and3 {a b : Bool} (h : (a && b) = true) : a = true ∧ b = true := Bool.and_eq_true_iff.mp h
theorem clsOk_of {K : PySem.W.Frag} {x : Str} (h0 : (He.Fa.cls x).ok K = true) (h : clsB K x = true) (hn : PySem.W.specialIn K (.builtin "object.__class__") "__get__" = some (some (.builtin "getset_descriptor.__get__"))) (ht : PySem.W.takesIn K (.builtin "object.__class__") = some true) : ClsOk K (He.ga K x) := by
  obtain ⟨h1, h2⟩ := and3 h
  obtain ⟨h3, h4⟩ := and3 h2
  exact ⟨He.cls_ok h0, He.eqO_ok h1, hn, ht, of_decide_eq_true h3, of_decide_eq_true h4⟩
theorem propOf_of {K : PySem.W.Frag} {C m : Str} (h : proB K C m = true) : PropOf K (He.ga K C) m (mAd C m K) (pAd C m K) := by
  obtain ⟨h1, h2⟩ := and3 h
  obtain ⟨h3, h4⟩ := and3 h2
  obtain ⟨h5, h6⟩ := and3 h4
  refine ⟨He.eqO_ok h1, He.eqO_ok h3, of_decide_eq_true h5, ?_⟩
  unfold pAd
  split at h6
  · rename_i g r e
    rw [e]
    exact ⟨r, rfl⟩
  · cases h6
theorem pg_of {P : Program} {w : World} {K : PySem.W.Frag} {h : Heap} {mg : Str → Option Value} {base : Heap} (X : K.In h) (G : h.Ns mainGlobals mg) (c : SayV faH fnH exH K) : Pg P w K mg base (He.ga K "Web") (He.ga K "Land") (He.ga K "Piece") ∧ PropOf K (He.ga K "Web") "places" (mAd "Web" "places" K) (pAd "Web" "places" K) ∧ PropOf K (He.ga K "Web") "bonds" (mAd "Web" "bonds" K) (pAd "Web" "bonds" K) ∧ PropOf K (He.ga K "Land") "heights" (mAd "Land" "heights" K) (pAd "Land" "heights" K) ∧ PropOf K (He.ga K "Piece") "border" (mAd "Piece" "border" K) (pAd "Piece" "border" K) ∧ PropOf K (He.ga K "Piece") "inner" (mAd "Piece" "inner" K) (pAd "Piece" "inner" K) := by
  obtain ⟨e1, z⟩ := and3 (show exH K = true from c.b.2.2)
  obtain ⟨e2, z⟩ := and3 z
  obtain ⟨e3, z⟩ := and3 z
  obtain ⟨e4, z⟩ := and3 z
  obtain ⟨e5, z⟩ := and3 z
  obtain ⟨e6, z⟩ := and3 z
  obtain ⟨e7, z⟩ := and3 z
  obtain ⟨e8, z⟩ := and3 z
  obtain ⟨e9, z⟩ := and3 z
  obtain ⟨e10, e11⟩ := and3 z
  have hn := He.eqO_ok e1
  have ht := of_decide_eq_true e2
  exact ⟨{ i_NAME_MOST := He.int_ok X G (c.fact 72 (q := .int "NAME_MOST" 8) rfl), i_HEIGHT_MOST := He.int_ok X G (c.fact 73 (q := .int "HEIGHT_MOST" 9999) rfl), i_PLACE_MOST := He.int_ok X G (c.fact 74 (q := .int "PLACE_MOST" 10) rfl), i_BOND_MOST := He.int_ok X G (c.fact 75 (q := .int "BOND_MOST" 16) rfl), i_PIECE_PLACES := He.int_ok X G (c.fact 76 (q := .int "PIECE_PLACES" 6) rfl), i_PIECE_BONDS := He.int_ok X G (c.fact 77 (q := .int "PIECE_BONDS" 8) rfl), i_BORDER_MOST := He.int_ok X G (c.fact 78 (q := .int "BORDER_MOST" 3) rfl), s_LETTERS := He.str_ok X G (c.fact 79 (q := .str "LETTERS" "abcdefghijklmnopqrstuvwxyz") rfl), s_FIGURES := He.str_ok X G (c.fact 80 (q := .str "FIGURES" "0123456789") rfl), b_len := He.free_ok X G (c.fact 81 (q := .free "len") rfl), b_isinstance := He.free_ok X G (c.fact 82 (q := .free "isinstance") rfl), b_sorted := He.free_ok X G (c.fact 83 (q := .free "sorted") rfl), b_str := He.free_ok X G (c.fact 84 (q := .free "str") rfl), b_bool := He.free_ok X G (c.fact 85 (q := .free "bool") rfl), b_int := He.free_ok X G (c.fact 86 (q := .free "int") rfl), b_dict := He.free_ok X G (c.fact 87 (q := .free "dict") rfl), b_list := He.free_ok X G (c.fact 88 (q := .free "list") rfl), b_tuple := He.free_ok X G (c.fact 89 (q := .free "tuple") rfl), b_all := He.free_ok X G (c.fact 90 (q := .free "all") rfl), b_any := He.free_ok X G (c.fact 91 (q := .free "any") rfl), b_range := He.free_ok X G (c.fact 92 (q := .free "range") rfl), b_enumerate := He.free_ok X G (c.fact 93 (q := .free "enumerate") rfl), b_zip := He.free_ok X G (c.fact 94 (q := .free "zip") rfl), b_min := He.free_ok X G (c.fact 95 (q := .free "min") rfl), b_max := He.free_ok X G (c.fact 96 (q := .free "max") rfl), b_abs := He.free_ok X G (c.fact 97 (q := .free "abs") rfl), kW := clsOk_of (c.fact 98 (q := .cls "Web") rfl) e4 hn ht, kLA := clsOk_of (c.fact 99 (q := .cls "Land") rfl) e5 hn ht, kP := clsOk_of (c.fact 100 (q := .cls "Piece") rfl) e6 hn ht, mW := (He.glo_ok X G (c.fact 69 (q := .glo "Web") rfl)), mLA := (He.glo_ok X G (c.fact 70 (q := .glo "Land") rfl)), mP := (He.glo_ok X G (c.fact 71 (q := .glo "Piece") rfl)), neW := He.eqO_ok e3, nW_web_places := He.noat_ok (c.fact 101 (q := .noat "Web" "web_places") rfl), nW_web_bonds := He.noat_ok (c.fact 102 (q := .noat "Web" "web_bonds") rfl), nW_web_spots := He.noat_ok (c.fact 103 (q := .noat "Web" "web_spots") rfl), nW_web_near := He.noat_ok (c.fact 104 (q := .noat "Web" "web_near") rfl), nLA_web := He.noat_ok (c.fact 105 (q := .noat "Land" "web") rfl), nLA_land_heights := He.noat_ok (c.fact 106 (q := .noat "Land" "land_heights") rfl), nP_land := He.noat_ok (c.fact 107 (q := .noat "Piece" "land") rfl), nP_own_border := He.noat_ok (c.fact 108 (q := .noat "Piece" "own_border") rfl), nP_own_inner := He.noat_ok (c.fact 109 (q := .noat "Piece" "own_inner") rfl), nP_own_row := He.noat_ok (c.fact 110 (q := .noat "Piece" "own_row") rfl) }, propOf_of e7, propOf_of e8, propOf_of e9, propOf_of e10, propOf_of e11⟩
theorem factsH {P : Program} {w : World} {K : PySem.W.Frag} {h : Heap} {mg : Str → Option Value} {f : Addr} (X : K.In h) (G : h.Ns mainGlobals mg) (hfa : mg ("law" : Str) = some (.ref f)) (c : SayV faH fnH exH K) :
    ∃ fd : FuncData, (∀ (s : Shared) (v : Value), BindsTo s fd ⟨[v], []⟩ [("_law_script", v)]) ∧ ∀ base : Heap, K.In base → base.Ns mainGlobals mg → FnOk P w K mg base CX0 16 f fd p_law (spLaw K) := by
  have e := hfa.symm.trans (He.glo_ok X G (c.fact 65 (q := .glo "law") rfl))
  cases e
  obtain ⟨fd_is_name, F_is_name⟩ := c.def_ 0 (d := ⟨gAd "is_name", "is_name", "is_name", (top 21), []⟩) rfl
  obtain ⟨fd_is_height, F_is_height⟩ := c.def_ 1 (d := ⟨gAd "is_height", "is_height", "is_height", (top 22), []⟩) rfl
  obtain ⟨fd_need_names, F_need_names⟩ := c.def_ 2 (d := ⟨gAd "need_names", "need_names", "need_names", (top 23), [("what", .str "places"), ("least", .int 0), ("most", .int 10)]⟩) rfl
  obtain ⟨fd_bond_row, F_bond_row⟩ := c.def_ 3 (d := ⟨gAd "bond_row", "bond_row", "bond_row", (top 25), []⟩) rfl
  obtain ⟨fd_need_bonds, F_need_bonds⟩ := c.def_ 4 (d := ⟨gAd "need_bonds", "need_bonds", "need_bonds", (top 26), []⟩) rfl
  obtain ⟨fd_neighbour_table_webs, F_neighbour_table_webs⟩ := c.def_ 71 (d := ⟨gAd "neighbour_table_webs", "neighbour_table", "neighbour_table", top 27, []⟩) rfl
  obtain ⟨fd_W___init__, F_W___init__⟩ := c.def_ 5 (d := ⟨mAd "Web" "__init__", "__init__", "Web.__init__", (inClass (top 29) 0), []⟩) rfl
  obtain ⟨fd_W_places, F_W_places⟩ := c.def_ 6 (d := ⟨pAd "Web" "places", "places", "Web.places", (inClass (top 29) 2), []⟩) rfl
  obtain ⟨fd_W_bonds, F_W_bonds⟩ := c.def_ 7 (d := ⟨pAd "Web" "bonds", "bonds", "Web.bonds", (inClass (top 29) 3), []⟩) rfl
  obtain ⟨fd_W___len__, F_W___len__⟩ := c.def_ 8 (d := ⟨mAd "Web" "__len__", "__len__", "Web.__len__", (inClass (top 29) 4), []⟩) rfl
  obtain ⟨fd_W___eq__, F_W___eq__⟩ := c.def_ 9 (d := ⟨mAd "Web" "__eq__", "__eq__", "Web.__eq__", (inClass (top 29) 7), []⟩) rfl
  obtain ⟨fd_LA___init__, F_LA___init__⟩ := c.def_ 10 (d := ⟨mAd "Land" "__init__", "__init__", "Land.__init__", (inClass (top 31) 0), []⟩) rfl
  obtain ⟨fd_LA_heights, F_LA_heights⟩ := c.def_ 11 (d := ⟨pAd "Land" "heights", "heights", "Land.heights", (inClass (top 31) 2), []⟩) rfl
  obtain ⟨fd_LA___getitem__, F_LA___getitem__⟩ := c.def_ 12 (d := ⟨mAd "Land" "__getitem__", "__getitem__", "Land.__getitem__", (inClass (top 31) 3), []⟩) rfl
  obtain ⟨fd_LA___len__, F_LA___len__⟩ := c.def_ 13 (d := ⟨mAd "Land" "__len__", "__len__", "Land.__len__", (inClass (top 31) 4), []⟩) rfl
  obtain ⟨fd_LA___contains__, F_LA___contains__⟩ := c.def_ 14 (d := ⟨mAd "Land" "__contains__", "__contains__", "Land.__contains__", (inClass (top 31) 5), []⟩) rfl
  obtain ⟨fd_LA_table, F_LA_table⟩ := c.def_ 15 (d := ⟨mAd "Land" "table", "table", "Land.table", (inClass (top 31) 10), []⟩) rfl
  obtain ⟨fd_flat_around, F_flat_around⟩ := c.def_ 16 (d := ⟨gAd "flat_around", "flat_around", "flat_around", (top 35), []⟩) rfl
  obtain ⟨fd_all_flats, F_all_flats⟩ := c.def_ 17 (d := ⟨gAd "all_flats", "all_flats", "all_flats", (top 36), []⟩) rfl
  obtain ⟨fd_neighbour_table_flats, F_neighbour_table_flats⟩ := c.def_ 72 (d := ⟨gAd "neighbour_table_flats", "neighbour_table", "neighbour_table", top 33, []⟩) rfl
  obtain ⟨fd_flats_of, F_flats_of⟩ := c.def_ 18 (d := ⟨gAd "flats_of", "flats_of", "flats_of", (top 37), []⟩) rfl
  obtain ⟨fd_need_same_web, F_need_same_web⟩ := c.def_ 19 (d := ⟨gAd "need_same_web", "need_same_web", "need_same_web", (top 39), []⟩) rfl
  obtain ⟨fd_slanted_bonds, F_slanted_bonds⟩ := c.def_ 20 (d := ⟨gAd "slanted_bonds", "slanted_bonds", "slanted_bonds", (top 41), []⟩) rfl
  obtain ⟨fd_broken_rows, F_broken_rows⟩ := c.def_ 21 (d := ⟨gAd "broken_rows", "broken_rows", "broken_rows", (top 42), []⟩) rfl
  obtain ⟨fd_dry_rows, F_dry_rows⟩ := c.def_ 22 (d := ⟨gAd "dry_rows", "dry_rows", "dry_rows", (top 43), []⟩) rfl
  obtain ⟨fd_springs, F_springs⟩ := c.def_ 23 (d := ⟨gAd "springs", "springs", "springs", (top 44), []⟩) rfl
  obtain ⟨fd_dry_flats, F_dry_flats⟩ := c.def_ 24 (d := ⟨gAd "dry_flats", "dry_flats", "dry_flats", (top 45), []⟩) rfl
  obtain ⟨fd_broken_bonds, F_broken_bonds⟩ := c.def_ 25 (d := ⟨gAd "broken_bonds", "broken_bonds", "broken_bonds", (top 46), []⟩) rfl
  obtain ⟨fd_comes, F_comes⟩ := c.def_ 26 (d := ⟨gAd "comes", "comes", "comes", (top 47), []⟩) rfl
  obtain ⟨fd_bond_paper, F_bond_paper⟩ := c.def_ 27 (d := ⟨gAd "bond_paper", "bond_paper", "bond_paper", (top 48), []⟩) rfl
  obtain ⟨fd_never_paper, F_never_paper⟩ := c.def_ 28 (d := ⟨gAd "never_paper", "never_paper", "never_paper", (top 49), []⟩) rfl
  obtain ⟨fd_P___init__, F_P___init__⟩ := c.def_ 29 (d := ⟨mAd "Piece" "__init__", "__init__", "Piece.__init__", (inClass (top 54) 0), []⟩) rfl
  obtain ⟨fd_P_border, F_P_border⟩ := c.def_ 30 (d := ⟨pAd "Piece" "border", "border", "Piece.border", (inClass (top 54) 1), []⟩) rfl
  obtain ⟨fd_P_inner, F_P_inner⟩ := c.def_ 31 (d := ⟨pAd "Piece" "inner", "inner", "Piece.inner", (inClass (top 54) 2), []⟩) rfl
  obtain ⟨fd_need_same_border, F_need_same_border⟩ := c.def_ 32 (d := ⟨gAd "need_same_border", "need_same_border", "need_same_border", (top 55), []⟩) rfl
  obtain ⟨fd_need_gluable, F_need_gluable⟩ := c.def_ 33 (d := ⟨gAd "need_gluable", "need_gluable", "need_gluable", (top 56), []⟩) rfl
  obtain ⟨fd_land_of_both, F_land_of_both⟩ := c.def_ 34 (d := ⟨gAd "land_of_both", "land_of_both", "land_of_both", (top 57), []⟩) rfl
  obtain ⟨fd_glue, F_glue⟩ := c.def_ 35 (d := ⟨gAd "glue", "glue", "glue", (top 58), []⟩) rfl
  obtain ⟨fd_united, F_united⟩ := c.def_ 36 (d := ⟨gAd "united", "united", "united", (top 59), []⟩) rfl
  obtain ⟨fd_show_of, F_show_of⟩ := c.def_ 37 (d := ⟨gAd "show_of", "show_of", "show_of", (top 61), []⟩) rfl
  obtain ⟨fd_fits, F_fits⟩ := c.def_ 38 (d := ⟨gAd "fits", "fits", "fits", (top 62), []⟩) rfl
  obtain ⟨fd_law_mixed, F_law_mixed⟩ := c.def_ 39 (d := ⟨gAd "_law_mixed", "_law_mixed", "_law_mixed", (top 64), []⟩) rfl
  obtain ⟨fd_law_store, F_law_store⟩ := c.def_ 40 (d := ⟨gAd "_law_store", "_law_store", "_law_store", (top 65), []⟩) rfl
  obtain ⟨fd_law_take, F_law_take⟩ := c.def_ 73 (d := ⟨gAd "_law_take", "_law_take", "_law_take", top 66, []⟩) rfl
  obtain ⟨fd_law_pick, F_law_pick⟩ := c.def_ 41 (d := ⟨gAd "_law_pick", "_law_pick", "_law_pick", (top 67), []⟩) rfl
  obtain ⟨fd_law_number, F_law_number⟩ := c.def_ 42 (d := ⟨gAd "_law_number", "_law_number", "_law_number", (top 68), []⟩) rfl
  obtain ⟨fd_law_disorder, F_law_disorder⟩ := c.def_ 43 (d := ⟨gAd "_law_disorder", "_law_disorder", "_law_disorder", (top 69), []⟩) rfl
  obtain ⟨fd_law_name, F_law_name⟩ := c.def_ 44 (d := ⟨gAd "_law_name", "_law_name", "_law_name", (top 70), []⟩) rfl
  obtain ⟨fd_law_unlike, F_law_unlike⟩ := c.def_ 46 (d := ⟨gAd "_law_unlike", "_law_unlike", "_law_unlike", (top 72), []⟩) rfl
  obtain ⟨fd_law_names, F_law_names⟩ := c.def_ 45 (d := ⟨gAd "_law_names", "_law_names", "_law_names", (top 71), []⟩) rfl
  obtain ⟨fd_law_stranger, F_law_stranger⟩ := c.def_ 47 (d := ⟨gAd "_law_stranger", "_law_stranger", "_law_stranger", (top 73), []⟩) rfl
  obtain ⟨fd_law_same, F_law_same⟩ := c.def_ 48 (d := ⟨gAd "_law_same", "_law_same", "_law_same", (top 74), []⟩) rfl
  obtain ⟨fd_law_any_height, F_law_any_height⟩ := c.def_ 49 (d := ⟨gAd "_law_any_height", "_law_any_height", "_law_any_height", (top 75), []⟩) rfl
  obtain ⟨fd_law_menu, F_law_menu⟩ := c.def_ 50 (d := ⟨gAd "_law_menu", "_law_menu", "_law_menu", (top 76), []⟩) rfl
  obtain ⟨fd_law_ends, F_law_ends⟩ := c.def_ 51 (d := ⟨gAd "_law_ends", "_law_ends", "_law_ends", (top 77), []⟩) rfl
  obtain ⟨fd_law_bond_names, F_law_bond_names⟩ := c.def_ 52 (d := ⟨gAd "_law_bond_names", "_law_bond_names", "_law_bond_names", (top 78), []⟩) rfl
  obtain ⟨fd_law_bonds, F_law_bonds⟩ := c.def_ 53 (d := ⟨gAd "_law_bonds", "_law_bonds", "_law_bonds", (top 79), []⟩) rfl
  obtain ⟨fd_law_make, F_law_make⟩ := c.def_ 54 (d := ⟨gAd "_law_make", "_law_make", "_law_make", (top 80), []⟩) rfl
  obtain ⟨fd_law_is_land, F_law_is_land⟩ := c.def_ 55 (d := ⟨gAd "_law_is_land", "_law_is_land", "_law_is_land", (top 81), []⟩) rfl
  obtain ⟨fd_law_beside, F_law_beside⟩ := c.def_ 56 (d := ⟨gAd "_law_beside", "_law_beside", "_law_beside", (top 82), []⟩) rfl
  obtain ⟨fd_law_reach, F_law_reach⟩ := c.def_ 57 (d := ⟨gAd "_law_reach", "_law_reach", "_law_reach", (top 83), []⟩) rfl
  obtain ⟨fd_law_height, F_law_height⟩ := c.def_ 58 (d := ⟨gAd "_law_height", "_law_height", "_law_height", (top 84), []⟩) rfl
  obtain ⟨fd_law_flat, F_law_flat⟩ := c.def_ 59 (d := ⟨gAd "_law_flat", "_law_flat", "_law_flat", (top 85), []⟩) rfl
  obtain ⟨fd_law_flats, F_law_flats⟩ := c.def_ 60 (d := ⟨gAd "_law_flats", "_law_flats", "_law_flats", (top 86), []⟩) rfl
  obtain ⟨fd_law_papers, F_law_papers⟩ := c.def_ 61 (d := ⟨gAd "_law_papers", "_law_papers", "_law_papers", (top 87), []⟩) rfl
  obtain ⟨fd_law_piece_land, F_law_piece_land⟩ := c.def_ 62 (d := ⟨gAd "_law_piece_land", "_law_piece_land", "_law_piece_land", (top 88), []⟩) rfl
  obtain ⟨fd_law_pieces, F_law_pieces⟩ := c.def_ 63 (d := ⟨gAd "_law_pieces", "_law_pieces", "_law_pieces", (top 89), []⟩) rfl
  obtain ⟨fd_law_glued, F_law_glued⟩ := c.def_ 64 (d := ⟨gAd "_law_glued", "_law_glued", "_law_glued", (top 90), []⟩) rfl
  obtain ⟨fd_law_show, F_law_show⟩ := c.def_ 65 (d := ⟨gAd "_law_show", "_law_show", "_law_show", (top 91), []⟩) rfl
  obtain ⟨fd_law_cut, F_law_cut⟩ := c.def_ 66 (d := ⟨gAd "_law_cut", "_law_cut", "_law_cut", (top 92), []⟩) rfl
  obtain ⟨fd_law_joining, F_law_joining⟩ := c.def_ 67 (d := ⟨gAd "_law_joining", "_law_joining", "_law_joining", (top 93), []⟩) rfl
  obtain ⟨fd_law_goals, F_law_goals⟩ := c.def_ 68 (d := ⟨gAd "_law_goals", "_law_goals", "_law_goals", (top 94), []⟩) rfl
  obtain ⟨fd_law_glued_right, F_law_glued_right⟩ := c.def_ 69 (d := ⟨gAd "_law_glued_right", "_law_glued_right", "_law_glued_right", (top 95), []⟩) rfl
  obtain ⟨fd_law, F_law⟩ := c.def_ 70 (d := ⟨gAd "law", "law", "law", (top 96), []⟩) rfl
  have b := FunD.bindsA (ps := p_law) F_law fun _ _ _ _ _ _ us hl => match us, hl with | [_], _ => rfl
  refine ⟨fd_law, fun s v => b s [v] rfl, fun base _ _ => ?_⟩
  obtain ⟨g, pr1, pr2, pr3, pr4, pr5⟩ := pg_of (P := P) (w := w) (base := base) X G c
  have c_is_name := cl_is_name g F_is_name (He.glo_ok X G (c.fact 0 (q := .glo "is_name") rfl)) 
  have c_is_height := cl_is_height g F_is_height (He.glo_ok X G (c.fact 1 (q := .glo "is_height") rfl)) 
  have c_need_names := cl_need_names g F_need_names (He.glo_ok X G (c.fact 2 (q := .glo "need_names") rfl)) c_is_name
  have c_bond_row := cl_bond_row g F_bond_row (He.glo_ok X G (c.fact 3 (q := .glo "bond_row") rfl)) 
  have c_need_bonds := cl_need_bonds g F_need_bonds (He.glo_ok X G (c.fact 4 (q := .glo "need_bonds") rfl)) c_is_name c_bond_row
  have c_neighbour_table_webs := cl_ntw g F_neighbour_table_webs (He.glo_ok X G (c.fact 66 (q := .glo "neighbour_table_webs") rfl))
  have m_W___init__ := cl_W___init__ g F_W___init__ (He.glo_ok X G (c.fact 69 (q := .glo "Web") rfl)) (He.mkr_ok (c.fact 5 (q := .mkr "Web") rfl)) c_need_names c_need_bonds c_neighbour_table_webs
  have c_W_places := cl_W_places g F_W_places pr1 
  have c_W_bonds := cl_W_bonds g F_W_bonds pr2 
  have c_W___len__ := cl_W___len__ g F_W___len__ (He.meth_ok (c.fact 6 (q := .meth "Web" "__len__") rfl)) 
  have c_W___eq__ := cl_W___eq__ g F_W___eq__ (He.meth_ok (c.fact 7 (q := .meth "Web" "__eq__") rfl)) 
  have m_LA___init__ := cl_LA___init__ g F_LA___init__ (He.glo_ok X G (c.fact 70 (q := .glo "Land") rfl)) (He.mkr_ok (c.fact 8 (q := .mkr "Land") rfl)) c_W___len__ c_is_height
  have c_LA_heights := cl_LA_heights g F_LA_heights pr3 
  have c_LA___getitem__ := cl_LA___getitem__ g F_LA___getitem__ (He.meth_ok (c.fact 9 (q := .meth "Land" "__getitem__") rfl)) 
  have c_LA___len__ := cl_LA___len__ g F_LA___len__ (He.meth_ok (c.fact 10 (q := .meth "Land" "__len__") rfl)) 
  have c_LA___contains__ := cl_LA___contains__ g F_LA___contains__ (He.meth_ok (c.fact 11 (q := .meth "Land" "__contains__") rfl)) 
  have c_LA_table := cl_LA_table g F_LA_table (He.meth_ok (c.fact 12 (q := .meth "Land" "table") rfl)) 
  have c_flat_around := cl_flat_around g F_flat_around (He.glo_ok X G (c.fact 13 (q := .glo "flat_around") rfl)) 
  have c_all_flats := cl_all_flats g F_all_flats (He.glo_ok X G (c.fact 14 (q := .glo "all_flats") rfl)) c_flat_around
  have c_neighbour_table_flats := cl_ntf g F_neighbour_table_flats (He.glo_ok X G (c.fact 67 (q := .glo "neighbour_table_flats") rfl)) c_W_places c_W_bonds
  have c_flats_of := cl_flats_of g F_flats_of (He.glo_ok X G (c.fact 15 (q := .glo "flats_of") rfl)) c_all_flats c_LA_table c_neighbour_table_flats
  have c_need_same_web := cl_need_same_web g F_need_same_web (He.glo_ok X G (c.fact 16 (q := .glo "need_same_web") rfl)) c_W___eq__
  have c_slanted_bonds := cl_slanted_bonds g F_slanted_bonds (He.glo_ok X G (c.fact 17 (q := .glo "slanted_bonds") rfl)) c_LA_table c_W_bonds
  have c_broken_rows := cl_broken_rows g F_broken_rows (He.glo_ok X G (c.fact 18 (q := .glo "broken_rows") rfl)) 
  have c_dry_rows := cl_dry_rows g F_dry_rows (He.glo_ok X G (c.fact 19 (q := .glo "dry_rows") rfl)) 
  have c_springs := cl_springs g F_springs (He.glo_ok X G (c.fact 20 (q := .glo "springs") rfl)) c_need_same_web c_LA_table
  have c_dry_flats := cl_dry_flats g F_dry_flats (He.glo_ok X G (c.fact 21 (q := .glo "dry_flats") rfl)) c_need_same_web c_dry_rows c_flats_of c_LA_table
  have c_broken_bonds := cl_broken_bonds g F_broken_bonds (He.glo_ok X G (c.fact 22 (q := .glo "broken_bonds") rfl)) c_need_same_web c_broken_rows c_slanted_bonds c_LA_table
  have c_comes := cl_comes g F_comes (He.glo_ok X G (c.fact 23 (q := .glo "comes") rfl)) c_broken_bonds c_dry_flats
  have c_bond_paper := cl_bond_paper g F_bond_paper (He.glo_ok X G (c.fact 24 (q := .glo "bond_paper") rfl)) c_LA___getitem__
  have c_never_paper := cl_never_paper g F_never_paper (He.glo_ok X G (c.fact 25 (q := .glo "never_paper") rfl)) c_broken_bonds c_bond_paper c_dry_flats
  have m_P___init__ := cl_P___init__ g F_P___init__ (He.glo_ok X G (c.fact 71 (q := .glo "Piece") rfl)) (He.mkr_ok (c.fact 26 (q := .mkr "Piece") rfl)) c_LA___len__ c_W_bonds c_LA___contains__ c_W_places c_LA___getitem__
  have c_P_border := cl_P_border g F_P_border pr4 
  have c_P_inner := cl_P_inner g F_P_inner pr5 
  have c_need_same_border := cl_need_same_border g F_need_same_border (He.glo_ok X G (c.fact 27 (q := .glo "need_same_border") rfl)) c_P_border c_LA___getitem__
  have c_need_gluable := cl_need_gluable g F_need_gluable (He.glo_ok X G (c.fact 28 (q := .glo "need_gluable") rfl)) c_need_same_border c_P_inner c_LA___contains__ c_W_bonds c_LA___len__
  have c_land_of_both := cl_land_of_both g F_land_of_both (He.glo_ok X G (c.fact 29 (q := .glo "land_of_both") rfl)) c_LA_table m_W___init__ c_W_bonds m_LA___init__ c_W_places
  have c_glue := cl_glue g F_glue (He.glo_ok X G (c.fact 30 (q := .glo "glue") rfl)) c_need_gluable c_land_of_both
  have c_united := cl_united g F_united (He.glo_ok X G (c.fact 31 (q := .glo "united") rfl)) c_need_gluable c_W___eq__ c_P_border c_LA___getitem__ c_land_of_both
  have c_show_of := cl_show_of g F_show_of (He.glo_ok X G (c.fact 32 (q := .glo "show_of") rfl)) c_W___eq__ c_broken_bonds c_P_border c_springs c_flats_of c_LA___getitem__
  have c_fits := cl_fits g F_fits (He.glo_ok X G (c.fact 33 (q := .glo "fits") rfl)) 
  have c_law_mixed := cl_law_mixed g F_law_mixed (He.glo_ok X G (c.fact 34 (q := .glo "_law_mixed") rfl)) 
  have c_law_take := cl_law_take g F_law_take (He.glo_ok X G (c.fact 68 (q := .glo "_law_take") rfl)) c_law_mixed
  have c_law_pick := cl_law_pick g F_law_pick (He.glo_ok X G (c.fact 36 (q := .glo "_law_pick") rfl)) c_law_take
  have c_law_number := cl_law_number g F_law_number (He.glo_ok X G (c.fact 37 (q := .glo "_law_number") rfl)) c_law_take
  have c_law_disorder := cl_law_disorder g F_law_disorder (He.glo_ok X G (c.fact 38 (q := .glo "_law_disorder") rfl)) c_law_take
  have c_law_name := cl_law_name g F_law_name (He.glo_ok X G (c.fact 39 (q := .glo "_law_name") rfl)) c_law_take c_law_pick c_law_number
  have c_law_unlike := cl_law_unlike g F_law_unlike (He.glo_ok X G (c.fact 41 (q := .glo "_law_unlike") rfl)) 
  have c_law_names := cl_law_names g F_law_names (He.glo_ok X G (c.fact 40 (q := .glo "_law_names") rfl)) c_law_take c_law_name c_law_unlike c_law_disorder
  have c_law_stranger := cl_law_stranger g F_law_stranger (He.glo_ok X G (c.fact 42 (q := .glo "_law_stranger") rfl)) c_law_name c_law_take c_law_pick c_law_unlike
  have c_law_same := (cl_law_same g F_law_same (He.glo_ok X G (c.fact 43 (q := .glo "_law_same") rfl)) 6).mono (show 7 ≤ 8 by decide)
  have c_law_any_height := cl_law_any_height g F_law_any_height (He.glo_ok X G (c.fact 44 (q := .glo "_law_any_height") rfl)) c_law_take c_law_pick
  have c_law_menu := cl_law_menu g F_law_menu (He.glo_ok X G (c.fact 45 (q := .glo "_law_menu") rfl)) c_law_pick c_law_number c_law_take
  have c_law_ends := cl_law_ends g F_law_ends (He.glo_ok X G (c.fact 46 (q := .glo "_law_ends") rfl)) c_law_take c_law_disorder c_law_pick
  have c_law_bond_names := cl_law_bond_names g F_law_bond_names (He.glo_ok X G (c.fact 47 (q := .glo "_law_bond_names") rfl)) c_law_take c_law_names c_law_stranger
  have c_law_bonds := cl_law_bonds g F_law_bonds (He.glo_ok X G (c.fact 48 (q := .glo "_law_bonds") rfl)) 
  have c_law_make := cl_law_make g F_law_make (He.glo_ok X G (c.fact 49 (q := .glo "_law_make") rfl)) m_LA___init__ m_W___init__
  have c_law_is_land := cl_law_is_land g F_law_is_land (He.glo_ok X G (c.fact 50 (q := .glo "_law_is_land") rfl)) c_W_places c_W_bonds c_LA_heights c_law_same
  have c_law_beside := cl_law_beside g F_law_beside (He.glo_ok X G (c.fact 51 (q := .glo "_law_beside") rfl)) 
  have c_law_reach := cl_law_reach g F_law_reach (He.glo_ok X G (c.fact 52 (q := .glo "_law_reach") rfl)) c_law_beside
  have c_law_height := cl_law_height g F_law_height (He.glo_ok X G (c.fact 53 (q := .glo "_law_height") rfl)) 
  have c_law_flat := cl_law_flat g F_law_flat (He.glo_ok X G (c.fact 54 (q := .glo "_law_flat") rfl)) c_law_height c_law_reach
  have c_law_flats := cl_law_flats g F_law_flats (He.glo_ok X G (c.fact 55 (q := .glo "_law_flats") rfl)) c_law_flat
  have c_law_papers := cl_law_papers g F_law_papers (He.glo_ok X G (c.fact 56 (q := .glo "_law_papers") rfl)) c_law_height c_law_flats
  have c_law_piece_land := cl_law_piece_land g F_law_piece_land (He.glo_ok X G (c.fact 57 (q := .glo "_law_piece_land") rfl)) c_law_ends c_law_bonds
  have c_law_pieces := cl_law_pieces g F_law_pieces (He.glo_ok X G (c.fact 58 (q := .glo "_law_pieces") rfl)) c_law_pick c_law_names c_law_disorder c_law_bond_names c_law_piece_land
  have c_law_glued := cl_law_glued g F_law_glued (He.glo_ok X G (c.fact 59 (q := .glo "_law_glued") rfl)) c_law_height
  have c_law_show := cl_law_show g F_law_show (He.glo_ok X G (c.fact 60 (q := .glo "_law_show") rfl)) c_law_flats c_law_height c_law_papers
  have c_law_cut := cl_law_cut g F_law_cut (He.glo_ok X G (c.fact 61 (q := .glo "_law_cut") rfl)) c_law_height
  have c_law_joining := cl_law_joining g F_law_joining (He.glo_ok X G (c.fact 62 (q := .glo "_law_joining") rfl)) c_law_take c_law_pick c_law_any_height c_law_flat c_law_height
  have c_law_goals := cl_law_goals g F_law_goals (He.glo_ok X G (c.fact 63 (q := .glo "_law_goals") rfl)) c_law_joining c_law_glued c_law_cut
  have c_law_glued_right := cl_law_glued_right g F_law_glued_right (He.glo_ok X G (c.fact 64 (q := .glo "_law_glued_right") rfl)) c_law_make c_law_glued c_united c_law_is_land c_glue c_show_of c_law_same c_law_show c_law_papers c_never_paper c_comes c_fits
  exact ok_law g F_law F_law_store (He.glo_ok X G (c.fact 35 (q := .glo "_law_store") rfl)) c_law_pieces c_law_menu m_P___init__ c_law_make c_law_disorder c_law_goals c_law_glued_right
end VL
/-! text Ha -/
namespace VL
open PySem PySem.Spec PyProof.Rows L2
theorem runH (w : World) : HandSHeadRun.RunEq RH (PySem.W.view RH.prog [96]) hkH obH 15000 looH w := by
  intro os
  kernel_rfl
end VL
/-! text Hz -/
open PySem PySem.W PySem.Calls PyProof.Rows
theorem PySem.Challenge.cw_humphollow_k89_whole_gluing_keeps_what_c_holds : PySem.Challenge.rw_humphollow_k89_whole_gluing_keeps_what_c.Holds := by
  w_on; o_law
  refine HandSHeadRun.head_any (r := VL.RH) (q := view VL.RH.prog [96]) (H := VL.hkH) (ob := VL.obH) (M := 15000) (loose := VL.looH) (d := HandSHeadRun.topDef VL.RH.prog 96) (kwd := []) VL.obH_eq
    (by kernel_rfl) (fun s => by kernel_rfl) VL.runH (by kernel_rfl) (by kernel_rfl) (by kernel_rfl) (by rfl) (by first | assumption | decide +kernel) (by decide +kernel) ⟨rfl, rfl, rfl, rfl, rfl, by decide +kernel⟩ ?hw ?hc
  case hw => w_witness2
  case hc =>
    refine L2.walk_ofE (l := PySem.Challenge.rw_humphollow_k89_whole_gluing_keeps_what_c) (n := 63) (k := 16) (x := "_law_script") (CX := L2.CX0) rfl (by decide) (by kernel_rfl) ⟨rfl, by decide, by decide⟩ ?F (fun _ _ _ _ z => z)
    intro w mg fa h Y G hmg0
    obtain ⟨K, KX, c⟩ := Y
    have hmg : mg ("law" : PySem.Str) = some (.ref fa) := by
      have e : (HandSHeadRun.topDef VL.RH.prog 96).name = ("law" : PySem.Str) := by kernel_rfl
      rw [← e]
      exact hmg0
    obtain ⟨fd, hb, hF⟩ := VL.factsH (P := (PySem.Challenge.rw_humphollow_k89_whole_gluing_keeps_what_c).prog) (w := w) KX G hmg c
    exact ⟨K, fd, VL.spLaw K, KX, hb, fun H a ns hl _ hS => ⟨a, ns, rfl, hS, hl, fun _ => rfl⟩, hF⟩
