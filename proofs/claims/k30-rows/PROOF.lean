import PyProof.Rows.All
import HandS.ForMost
import HandS.DictComp
import HandS.Style
import HandS.Zip
import HandS.Deep
import HandS.IsInst
import HandS.Wide
import HandS.TupLe
import HandS.TupAny
import KE.SortData
import PyProof.ReprRoads
import HandS.Star
import KE.DataMinMax
import HandS.SetTxt0
import HandS.SetFor
import KE.GoesMore
import PyProof.SumAny
import PyProof.Rows.SeqMore
import HandS.RevTup
import KE.KDictPairs
import HandS.Defaults
import HandS.HeadHook1
import HandS.HeadHook2
import HandS.HeadEnd
import HandS.Head0
import HandS.Head1
import HandS.Head2
import KE.KStateDown
import PySem.Challenge.RW_keptalong_k30_whole_rows_that_do_not_fit
set_option Elab.async false
set_option linter.all false
set_option maxRecDepth 100000
/-! DLa: data over the abstract heap. F is the frozen part of the heap H; data are read off F; owned lists stand in H beside it. -/
namespace KL
open PySem PySem.Spec L2

def plainO : HO → Prop
  | .frz _ _ => False
  | _ => True
/-- at a stands a tuple that has no dict of its own -/
def Nd (F : Hp) (a : Addr) : Prop := ∃ o xs, F a = some (.frz o (.tup xs)) ∧ o.dict = none
/-- what F tells may be read off H -/
structure Le (F H : Hp) : Prop where
  rd : ∀ a u, plainO u → Rd F a u → Rd H a u
  dom : ∀ a, H a = none → F a = none
  ex : ∀ a φ, F a = some (.ext φ) → H a = some (.ext φ)
  fz : ∀ a, Nd F a → Nd H a
theorem Le.refl (H : Hp) : Le H H := ⟨fun _ _ _ h => h, fun _ h => h, fun _ _ h => h, fun _ h => h⟩
theorem Le.trans {F G H : Hp} (a : Le F G) (b : Le G H) : Le F H := ⟨fun x u p h => b.rd x u p (a.rd x u p h), fun x h => a.dom x (b.dom x h), fun x φ h => b.ex x φ (a.ex x φ h), fun x h => b.fz x (a.fz x h)⟩
theorem Le.of {H H' : Hp} (s : Same H H') : Le H H' := ⟨fun a u _ h => by
  rcases h with h | ⟨o, h⟩
  · exact .inl (s _ _ h)
  · exact .inr ⟨o, s _ _ h⟩, fun _ h => s.free h, fun _ _ h => s _ _ h, fun _ ⟨o, xs, e, d⟩ => ⟨o, xs, s _ _ e, d⟩⟩
theorem Le.sqL {K : PySem.W.Frag} {F H : Hp} (l : Le F H) {a : Addr} {xs : List V} (h : SqL K F a xs) : SqL K H a xs := by
  rcases h with h | h
  · exact .inl (l.rd _ _ trivial h)
  · exact .inr h
theorem Le.sqT {K : PySem.W.Frag} {F H : Hp} (l : Le F H) {a : Addr} {xs : List V} (h : SqT K F a xs) : SqT K H a xs := by
  rcases h with h | h
  · exact .inl (l.rd _ _ trivial h)
  · exact .inr h
mutual
theorem Le.dp {K : PySem.W.Frag} {F H : Hp} (l : Le F H) : ∀ {v : V} {d : PyData}, Dp K F v d → Dp K H v d
  | _, _, .non => .non
  | _, _, .bl b => .bl b
  | _, _, .int i => .int i
  | _, _, .str x => .str x
  | _, _, .lst s h => .lst (l.sqL s) (l.dps h)
  | _, _, .tup s h => .tup (l.sqT s) (l.dps h)
theorem Le.dps {K : PySem.W.Frag} {F H : Hp} (l : Le F H) : ∀ {vs : List V} {ds : List PyData}, DpAll K F vs ds → DpAll K H vs ds
  | _, _, .nil => .nil
  | _, _, .cons h t => .cons (l.dp h) (l.dps t)
end

/-- from (F, H) to (F', H'): only growth; what is owned (in H, not in F) stays owned and as it is -/
structure Ext (F H F' H' : Hp) : Prop where
  ff : Le F F'
  fh : Le F' H'
  hh : Same H H'
  own : ∀ a, F a = none → H a ≠ none → F' a = none
theorem Ext.refl {F H : Hp} (l : Le F H) : Ext F H F H := ⟨.refl F, l, .refl H, fun _ h _ => h⟩
theorem same_ne {H H' : Hp} (s : Same H H') {a : Addr} (h : H a ≠ none) : H' a ≠ none := by
  intro e
  exact h (s.free e)
theorem Ext.trans {F H F1 H1 F2 H2 : Hp} (a : Ext F H F1 H1) (b : Ext F1 H1 F2 H2) : Ext F H F2 H2 :=
  ⟨a.ff.trans b.ff, b.fh, a.hh.trans b.hh, fun x h1 h2 => b.own x (a.own x h1 h2) (same_ne a.hh h2)⟩
/-- the heap alone grows by a new thing -/
theorem Ext.newH {F H : Hp} (l : Le F H) {p : Addr} {o : HO} (n : H p = none) : Ext F H F (upd H p o) := by
  have s : Same H (upd H p o) := fun b u e => by rw [upd_ne (ne_of_none e n)]; exact e
  exact ⟨.refl F, l.trans (.of s), s, fun _ h _ => h⟩
theorem rd_upd {F : Hp} {p a : Addr} {o u : HO} (h : Rd (upd F p o) a u) : (a = p ∧ (u = o ∨ ∃ b, o = .frz b u)) ∨ Rd F a u := by
  by_cases e : a = p
  · left
    refine ⟨e, ?_⟩
    rcases h with h | ⟨b, h⟩
    · rw [e, upd_same] at h
      exact .inl (Option.some.inj h).symm
    · rw [e, upd_same] at h
      exact .inr ⟨b, Option.some.inj h⟩
  · right
    rcases h with h | ⟨b, h⟩
    · rw [upd_ne e] at h
      exact .inl h
    · rw [upd_ne e] at h
      exact .inr ⟨b, h⟩
theorem upd_rd {F : Hp} {p a : Addr} {o u : HO} (n : F p = none) (h : Rd F a u) : Rd (upd F p o) a u := by
  rcases h with h | ⟨b, h⟩
  · exact .inl (by rw [upd_ne (ne_of_none h n)]; exact h)
  · exact .inr ⟨b, by rw [upd_ne (ne_of_none h n)]; exact h⟩
/-- a thing that stands in H, and is not in F, is frozen -/
theorem Ext.freeze {F H : Hp} (l : Le F H) {p : Addr} {o : HO} (nF : F p = none) (e : H p = some o) (po : plainO o) : Le F (upd F p o) ∧ Le (upd F p o) H := by
  refine ⟨⟨fun a u _ h => upd_rd nF h, fun a h => ?_, fun a φ h => by rw [upd_ne (ne_of_none h nF)]; exact h, fun a ⟨o', xs, h, d⟩ => ⟨o', xs, by rw [upd_ne (ne_of_none h nF)]; exact h, d⟩⟩, ⟨fun a u pu h => ?_, fun a h => ?_, fun a φ h => ?_, fun a ⟨o', xs, h, d⟩ => ?_⟩⟩
  · by_cases z : a = p
    · rw [z]; exact nF
    · rw [upd_ne z] at h; exact h
  · rcases rd_upd h with ⟨e1, h2⟩ | h2
    · rcases h2 with e2 | ⟨b, e2⟩
      · rw [e1, e2]
        exact .inl e
      · rw [e2] at po
        exact absurd po (fun z => z)
    · exact l.rd a u pu h2
  · by_cases z : a = p
    · rw [z, e] at h; cases h
    · rw [upd_ne z]; exact l.dom a h
  · by_cases z : a = p
    · rw [z, upd_same] at h
      rw [z, e]; exact h
    · rw [upd_ne z] at h; exact l.ex a φ h
  · by_cases z : a = p
    · rw [z, upd_same] at h
      cases h
      exact absurd po fun w => w
    · rw [upd_ne z] at h; exact l.fz a ⟨o', xs, h, d⟩

/-! ### data with dicts -/
inductive D where
  | d (x : PyData)
  | dk (kvs : List (Key × PyData))
  | dt (kvs : List (List Key × PyData))
  | dd (kvs : List (Key × List (Key × PyData)))
  | raw (v : V)
  /-- a tuple of data whose first item is a tuple made by tuple() -/
  | tf (ds es : List PyData)
  /-- a tuple of data made by tuple() -/
  | tn (ds : List PyData)
  /-- the bag of numbers, and the cells it draws from -/
  | bag
/-- what is true of a bag at a: three counts, and the cells at c -/
def BagAt (h : Heap) (a c : Addr) : Prop := ∃ (i j k : Int) (t u v : Tok) (n : Nat), 0 ≤ i ∧ 0 ≤ j ∧ j < 2147483647 ∧ 0 ≤ k ∧ h.get? a = some { cls := .type "list", data := .seq [Value.int i t, .int j u, .int k v, .ref c].toArray n }
def bagO (a c : Addr) : HO := .ext fun h => BagAt h a c
def KDat {κ : Type} (K : PySem.W.Frag) (F : Hp) : List (κ × V) → List (κ × PyData) → Prop := Paired fun p q => p.1 = q.1 ∧ Dp K F p.2 q.2
def Is (K : PySem.W.Frag) (F : Hp) (v : V) : D → Prop
  | .d x => Dp K F v x
  | .dk kvs => ∃ a vs, v = .ref a ∧ Rd F a (.dK vs) ∧ KDat K F vs kvs
  | .dt kvs => ∃ a vs, v = .ref a ∧ Rd F a (.dT vs) ∧ KDat K F vs kvs
  | .dd kvs => ∃ a vs, v = .ref a ∧ Rd F a (.dK vs) ∧ Paired (fun (p : Key × V) (q : Key × List (Key × PyData)) => p.1 = q.1 ∧ ∃ b ws, p.2 = .ref b ∧ Rd F b (.dK ws) ∧ KDat K F ws q.2) vs kvs
  | .raw u => v = u
  | .tn ds => ∃ b ys, v = .ref b ∧ SqT K F b ys ∧ Nd F b ∧ DpAll K F ys ds
  | .tf ds es => ∃ a b xs ys, v = .ref a ∧ SqT K F a (.ref b :: xs) ∧ SqT K F b ys ∧ Nd F b ∧ DpAll K F ys ds ∧ DpAll K F xs es
  | .bag => ∃ (a c : Addr) (ns : List Int), v = .ref a ∧ a ≠ c ∧ F a = some (bagO a c) ∧ Rd F c (.lst (ns.map V.int)) ∧ ns.length ≤ 1000 ∧ ∀ n ∈ ns, (0 : Int) ≤ n
theorem Le.kdat {κ : Type} {K : PySem.W.Frag} {F H : Hp} (l : Le F H) {vs : List (κ × V)} {kvs : List (κ × PyData)} (h : KDat K F vs kvs) : KDat K H vs kvs :=
  Paired.mapP h fun _ _ z => ⟨z.1, l.dp z.2⟩
theorem Le.is {K : PySem.W.Frag} {F H : Hp} (l : Le F H) {v : V} {d : D} (h : Is K F v d) : Is K H v d := by
  cases d with
  | d x => exact l.dp h
  | dk kvs => obtain ⟨a, vs, e, r, k⟩ := h; exact ⟨a, vs, e, l.rd _ _ trivial r, l.kdat k⟩
  | dt kvs => obtain ⟨a, vs, e, r, k⟩ := h; exact ⟨a, vs, e, l.rd _ _ trivial r, l.kdat k⟩
  | dd kvs =>
    obtain ⟨a, vs, e, r, k⟩ := h
    exact ⟨a, vs, e, l.rd _ _ trivial r, Paired.mapP k fun p q ⟨z, b, ws, e1, e2, e3⟩ => ⟨z, b, ws, e1, l.rd _ _ trivial e2, l.kdat e3⟩⟩
  | raw u => exact h
  | tn ds =>
    obtain ⟨b, ys, e, h2, h3, h4⟩ := h
    exact ⟨b, ys, e, l.sqT h2, l.fz b h3, l.dps h4⟩
  | tf ds es =>
    obtain ⟨a, b, xs, ys, e, h1, h2, h3, h4, h5⟩ := h
    exact ⟨a, b, xs, ys, e, l.sqT h1, l.sqT h2, l.fz b h3, l.dps h4, l.dps h5⟩
  | bag =>
    obtain ⟨a, c, ns, e, ne, h1, h2, h3, h4⟩ := h
    exact ⟨a, c, ns, e, ne, l.ex _ _ h1, l.rd _ _ trivial h2, h3, h4⟩
def IsAll (K : PySem.W.Frag) (F : Hp) : List V → List D → Prop := Paired (Is K F)
theorem Le.isAll {K : PySem.W.Frag} {F H : Hp} (l : Le F H) {vs : List V} {ds : List D} (h : IsAll K F vs ds) : IsAll K H vs ds := Paired.mapP h fun _ _ z => l.is z

/-! ### slots -/
inductive Sl where
  /-- frozen data -/
  | fr (d : D)
  /-- an owned list of frozen data -/
  | ow (ds : List PyData)
  /-- an owned dict of owned lists -/
  | od (kvs : List (Key × List PyData))
  /-- an owned dict of owned dicts -/
  | oo (kvs : List (Key × List (Key × PyData)))
  /-- the bag, opened -/
  | bg (a c : Addr) (i j k : Int) (ns : List Int)
  | un
inductive OwD (K : PySem.W.Frag) (F H : Hp) : List (Key × List PyData) → List (Key × V) → List Addr → Prop
  | nil : OwD K F H [] [] []
  | cons {k ds kvs vs b bs xs} : H b = some (.lst xs) → DpAll K F xs ds → b ∉ bs → OwD K F H kvs vs bs → OwD K F H ((k, ds) :: kvs) ((k, .ref b) :: vs) (b :: bs)
inductive OwO (K : PySem.W.Frag) (F H : Hp) : List (Key × List (Key × PyData)) → List (Key × V) → List Addr → Prop
  | nil : OwO K F H [] [] []
  | cons {k q kvs vs b bs ws} : H b = some (.dK ws) → KDat K F ws q → b ∉ bs → OwO K F H kvs vs bs → OwO K F H ((k, q) :: kvs) ((k, .ref b) :: vs) (b :: bs)
def SlOk (K : PySem.W.Frag) (F H : Hp) : Sl → Option V → List Addr → Prop
  | .fr d, s, A => A = [] ∧ ∃ v, s = some v ∧ Is K F v d
  | .ow ds, s, A => ∃ a xs, s = some (.ref a) ∧ A = [a] ∧ H a = some (.lst xs) ∧ DpAll K F xs ds
  | .od kvs, s, A => ∃ a vs bs, s = some (.ref a) ∧ A = a :: bs ∧ H a = some (.dK vs) ∧ OwD K F H kvs vs bs
  | .oo kvs, s, A => ∃ a vs bs, s = some (.ref a) ∧ A = a :: bs ∧ a ∉ bs ∧ H a = some (.dK vs) ∧ OwO K F H kvs vs bs
  | .bg a c i j k ns, s, A => s = some (.ref a) ∧ A = [a] ∧ H a = some (.lst [.int i, .int j, .int k, .ref c]) ∧ Rd F c (.lst (ns.map V.int))
  | .un, _, A => A = []
inductive RepL (K : PySem.W.Frag) (F H : Hp) : List Sl → St → List Addr → Prop
  | nil : RepL K F H [] [] []
  | cons {r s A ρ σ B} : SlOk K F H r s A → RepL K F H ρ σ B → (∀ a ∈ A, a ∉ B) → RepL K F H (r :: ρ) (s :: σ) (A ++ B)
/-- the slots hold what ρ tells; B bounds what is owned (of a def: things made since its entry) -/
structure Rep (K : PySem.W.Frag) (F H : Hp) (ρ : List Sl) (σ : St) (A : List Addr) : Prop where
  rl : RepL K F H ρ σ A
  nf : ∀ a ∈ A, F a = none
section
variable {K : PySem.W.Frag} {F H F' H' : Hp}
theorem OwD.mem (h : OwD K F H kvs vs bs) : ∀ b ∈ bs, ∃ xs, H b = some (.lst xs) := by
  induction h with
  | nil => intro b z; cases z
  | cons e _ _ _ ih =>
    intro b z
    rcases List.mem_cons.mp z with rfl | z
    · exact ⟨_, e⟩
    · exact ih b z
theorem OwD.mono (ff : Le F F') (h : OwD K F H kvs vs bs) (hh : ∀ b ∈ bs, H' b = H b) : OwD K F' H' kvs vs bs := by
  induction h with
  | nil => exact .nil
  | cons e d n _ ih =>
    exact .cons ((hh _ List.mem_cons_self).trans e) (ff.dps d) n (ih fun b z => hh b (List.mem_cons_of_mem _ z))
theorem OwO.mem (h : OwO K F H kvs vs bs) : ∀ b ∈ bs, ∃ ws, H b = some (.dK ws) := by
  induction h with
  | nil => intro b z; cases z
  | cons e _ _ _ ih =>
    intro b z
    rcases List.mem_cons.mp z with rfl | z
    · exact ⟨_, e⟩
    · exact ih b z
theorem OwO.mono (ff : Le F F') (h : OwO K F H kvs vs bs) (hh : ∀ b ∈ bs, H' b = H b) : OwO K F' H' kvs vs bs := by
  induction h with
  | nil => exact .nil
  | cons e d n _ ih =>
    exact .cons ((hh _ List.mem_cons_self).trans e) (ff.kdat d) n (ih fun b z => hh b (List.mem_cons_of_mem _ z))
theorem SlOk.some_of {r : Sl} {s : Option V} {A : List Addr} (h : SlOk K F H r s A) : ∀ a ∈ A, H a ≠ none := by
  cases r with
  | fr d => obtain ⟨rfl, _⟩ := h; intro a z; cases z
  | ow ds =>
    obtain ⟨a, xs, _, rfl, e, _⟩ := h
    intro b z
    have : b = a := by simpa using z
    rw [this, e]; simp
  | od kvs =>
    obtain ⟨a, vs, bs, _, rfl, e, o⟩ := h
    intro b z
    rcases List.mem_cons.mp z with rfl | z
    · rw [e]; simp
    · obtain ⟨xs, q⟩ := o.mem b z
      rw [q]; simp
  | oo kvs =>
    obtain ⟨a, vs, bs, _, rfl, _, e, o⟩ := h
    intro b z
    rcases List.mem_cons.mp z with rfl | z
    · rw [e]; simp
    · obtain ⟨xs, q⟩ := o.mem b z
      rw [q]; simp
  | bg a c i j k ns =>
    obtain ⟨_, rfl, e, _⟩ := h
    intro b z
    have : b = a := by simpa using z
    rw [this, e]; simp
  | un => cases h; intro a z; cases z
theorem SlOk.mono {r : Sl} {s : Option V} {A : List Addr} (h : SlOk K F H r s A) (ff : Le F F') (hh : ∀ a ∈ A, H' a = H a) : SlOk K F' H' r s A := by
  cases r with
  | fr d => obtain ⟨rfl, v, e, q⟩ := h; exact ⟨rfl, v, e, ff.is q⟩
  | ow ds =>
    obtain ⟨a, xs, e1, rfl, e, q⟩ := h
    exact ⟨a, xs, e1, rfl, (hh a (by simp)).trans e, ff.dps q⟩
  | od kvs =>
    obtain ⟨a, vs, bs, e1, rfl, e, q⟩ := h
    exact ⟨a, vs, bs, e1, rfl, (hh a (by simp)).trans e, q.mono ff fun b z => hh b (List.mem_cons_of_mem _ z)⟩
  | oo kvs =>
    obtain ⟨a, vs, bs, e1, rfl, n, e, q⟩ := h
    exact ⟨a, vs, bs, e1, rfl, n, (hh a (by simp)).trans e, q.mono ff fun b z => hh b (List.mem_cons_of_mem _ z)⟩
  | bg a c i j k ns =>
    obtain ⟨e1, rfl, e, q⟩ := h
    exact ⟨e1, rfl, (hh a (by simp)).trans e, ff.rd _ _ trivial q⟩
  | un => exact h
theorem RepL.some_of {ρ : List Sl} {σ : St} {A : List Addr} (h : RepL K F H ρ σ A) : ∀ a ∈ A, H a ≠ none := by
  induction h with
  | nil => intro a z; cases z
  | cons r _ _ ih =>
    intro a z
    rcases List.mem_append.mp z with z | z
    · exact r.some_of a z
    · exact ih a z
theorem RepL.mono {ρ : List Sl} {σ : St} {A : List Addr} (h : RepL K F H ρ σ A) (ff : Le F F') (hh : ∀ a ∈ A, H' a = H a) : RepL K F' H' ρ σ A := by
  induction h with
  | nil => exact .nil
  | cons r _ n ih => exact .cons (r.mono ff fun a z => hh a (List.mem_append_left _ z)) (ih fun a z => hh a (List.mem_append_right _ z)) n
theorem same_at {H H' : Hp} (s : Same H H') {a : Addr} (h : H a ≠ none) : H' a = H a := by
  cases e : H a with
  | none => exact absurd e h
  | some o => exact s a o e
theorem Rep.mono {ρ : List Sl} {σ : St} {A : List Addr} (h : Rep K F H ρ σ A) (e : Ext F H F' H') : Rep K F' H' ρ σ A :=
  ⟨h.rl.mono e.ff fun a z => same_at e.hh (h.rl.some_of a z), fun a z => e.own a (h.nf a z) (h.rl.some_of a z)⟩
theorem RepL.len {ρ : List Sl} {σ : St} {A : List Addr} (h : RepL K F H ρ σ A) : ρ.length = σ.length := by
  induction h with
  | nil => rfl
  | cons _ _ _ ih => simp [ih]
theorem RepL.at {ρ : List Sl} {σ : St} {A : List Addr} (h : RepL K F H ρ σ A) : ∀ {i : Nat} {r : Sl}, ρ[i]? = some r → ∃ s B, σ[i]? = some s ∧ SlOk K F H r s B ∧ ∀ b ∈ B, b ∈ A := by
  induction h with
  | nil => intro i r e; simp at e
  | cons q _ n ih =>
    intro i r e
    cases i with
    | zero =>
      have e' : _ = r := Option.some.inj e
      subst e'
      exact ⟨_, _, rfl, q, fun b z => List.mem_append_left _ z⟩
    | succ i =>
      obtain ⟨s, B, e1, e2, e3⟩ := ih (i := i) (r := r) (by simpa using e)
      exact ⟨s, B, by simpa using e1, e2, fun b z => List.mem_append_right _ (e3 b z)⟩
theorem Rep.fr {ρ : List Sl} {σ : St} {A : List Addr} (h : Rep K F H ρ σ A) {i : Nat} {d : D} (e : ρ[i]? = some (.fr d)) : ∃ v, σ[i]? = some (some v) ∧ Is K F v d := by
  obtain ⟨s, B, e1, ⟨_, v, e2, q⟩, _⟩ := h.rl.at e
  exact ⟨v, by rw [e1, e2], q⟩
theorem Rep.ow {ρ : List Sl} {σ : St} {A : List Addr} (h : Rep K F H ρ σ A) {i : Nat} {ds : List PyData} (e : ρ[i]? = some (.ow ds)) : ∃ a xs, σ[i]? = some (some (.ref a)) ∧ a ∈ A ∧ H a = some (.lst xs) ∧ DpAll K F xs ds := by
  obtain ⟨s, B, e1, ⟨a, xs, e2, e4, e3, q⟩, hm⟩ := h.rl.at e
  exact ⟨a, xs, by rw [e1, e2], hm a (by rw [e4]; simp), e3, q⟩
/-- a slot is set -/
theorem RepL.set {ρ : List Sl} {σ : St} {A : List Addr} (h : RepL K F H ρ σ A) : ∀ (i : Nat) {r : Sl} {s : Option V} {B : List Addr}, SlOk K F H r s B → (∀ b ∈ B, b ∉ A) →
    ∃ A', RepL K F H (ρ.set i r) (σ.set i s) A' ∧ ∀ a ∈ A', a ∈ A ∨ a ∈ B := by
  induction h with
  | nil => intro i r s B _ _; exact ⟨[], .nil, fun a z => nomatch z⟩
  | @cons r0 s0 A0 ρ0 σ0 B0 q t n ih =>
    intro i r s B hs hn
    cases i with
    | zero =>
      refine ⟨B ++ B0, .cons hs t fun a z w => hn a z (List.mem_append_right _ w), fun a z => ?_⟩
      rcases List.mem_append.mp z with z | z
      · exact .inr z
      · exact .inl (List.mem_append_right _ z)
    | succ i =>
      obtain ⟨A', h1, h2⟩ := ih i hs fun b z w => hn b z (List.mem_append_right _ w)
      refine ⟨A0 ++ A', .cons q h1 fun a z w => ?_, fun a z => ?_⟩
      · rcases h2 a w with w | w
        · exact n a z w
        · exact hn a w (List.mem_append_left _ z)
      · rcases List.mem_append.mp z with z | z
        · exact .inl (List.mem_append_left _ z)
        · rcases h2 a z with z | z
          · exact .inl (List.mem_append_right _ z)
          · exact .inr z
/-- the slots' own thing at i may be changed in place: r to r' over the same things B ⊆ A -/
theorem RepL.change {ρ : List Sl} {σ : St} {A : List Addr} (h : RepL K F H ρ σ A) : ∀ {i : Nat} {r r' : Sl} {s : Option V}, ρ[i]? = some r → σ[i]? = some s →
    (∀ B, SlOk K F H r s B → ∃ B', SlOk K F H' r' s B' ∧ (∀ b ∈ B', b ∈ B) ∧ ∀ b, b ∉ B → H b ≠ none → H' b = H b) → ∃ A', RepL K F H' (ρ.set i r') σ A' ∧ ∀ a ∈ A', a ∈ A := by
  induction h with
  | nil => intro i r r' s e; simp at e
  | @cons r0 s0 A0 ρ0 σ0 B0 q t n ih =>
    intro i r r' s e es hc
    cases i with
    | zero =>
      have e1 : r0 = r := Option.some.inj e
      have e2 : s0 = s := Option.some.inj es
      subst e1 e2
      obtain ⟨B', h1, h2, h3⟩ := hc A0 q
      refine ⟨B' ++ B0, .cons h1 (t.mono (.refl F) fun a z => h3 a (fun w => n a w z) (t.some_of a z)) fun a z => n a (h2 a z), fun a z => ?_⟩
      rcases List.mem_append.mp z with z | z
      · exact List.mem_append_left _ (h2 a z)
      · exact List.mem_append_right _ z
    | succ i =>
      have e1 : ρ0[i]? = some r := by simpa using e
      have e2 : σ0[i]? = some s := by simpa using es
      obtain ⟨A', h1, h2⟩ := ih (r' := r') e1 e2 hc
      obtain ⟨s', B, e3, q3, hB⟩ := t.at e1
      rw [e2] at e3
      cases e3
      obtain ⟨B', _, _, h5⟩ := hc B q3
      refine ⟨A0 ++ A', .cons (q.mono (.refl F) fun a z => h5 a (fun w => n a z (hB a w)) (q.some_of a z)) h1 fun a z w => n a z (h2 a w), fun a z => ?_⟩
      rcases List.mem_append.mp z with z | z
      · exact List.mem_append.mpr (.inl z)
      · exact List.mem_append_right _ (h2 a z)
/-- slots forgotten -/
def wipeR (ρ : List Sl) : List Nat → List Sl
  | [] => ρ
  | v :: vs => (wipeR ρ vs).set v .un
theorem Rep.wipe {ρ : List Sl} {σ : St} {A : List Addr} (h : Rep K F H ρ σ A) : ∀ vs : List Nat, ∃ A', Rep K F H (wipeR ρ vs) (wipe σ vs) A' ∧ ∀ a ∈ A', a ∈ A
  | [] => ⟨A, h, fun _ z => z⟩
  | v :: vs => by
    obtain ⟨A1, h1, q1⟩ := Rep.wipe h vs
    obtain ⟨A2, h2, q2⟩ := h1.rl.set v (r := .un) (s := none) (B := []) rfl (fun _ z => nomatch z)
    exact ⟨A2, ⟨h2, fun a z => h1.nf a ((q2 a z).resolve_right fun w => nomatch w)⟩, fun a z => q1 a ((q2 a z).resolve_right fun w => nomatch w)⟩
end
/-- statements: what stands at A may change, new things may be owned -/
structure StEx (F H : Hp) (A : List Addr) (F' H' : Hp) (A' : List Addr) : Prop where
  ff : Le F F'
  fh : Le F' H'
  hh : ∀ a o, a ∉ A → H a = some o → H' a = some o
  own : ∀ a, F a = none → H a ≠ none → a ∉ A → F' a = none
  al : ∀ a, H a ≠ none → H' a ≠ none
  new : ∀ a ∈ A', a ∈ A ∨ H a = none
theorem StEx.refl {F H : Hp} (l : Le F H) (A : List Addr) : StEx F H A F H A := ⟨.refl F, l, fun _ _ _ h => h, fun _ h _ _ => h, fun _ h => h, fun _ h => .inl h⟩
theorem StEx.trans {F H F1 H1 F2 H2 : Hp} {A A1 A2 : List Addr} (a : StEx F H A F1 H1 A1) (b : StEx F1 H1 A1 F2 H2 A2) : StEx F H A F2 H2 A2 := by
  have n1 : ∀ x, H x ≠ none → x ∉ A → x ∉ A1 := fun x h n z => by
    rcases a.new x z with z | z
    · exact n z
    · exact h z
  refine ⟨a.ff.trans b.ff, b.fh, fun x o n h => b.hh x o (n1 x (by rw [h]; simp) n) (a.hh x o n h), fun x h1 h2 n => b.own x (a.own x h1 h2 n) (a.al x h2) (n1 x h2 n), fun x h => b.al x (a.al x h), fun x z => ?_⟩
  rcases b.new x z with z | z
  · exact a.new x z
  · right
    cases e : H x with
    | none => rfl
    | some o => exact absurd z (a.al x (by rw [e]; simp))
theorem Ext.st {F H F' H' : Hp} (e : Ext F H F' H') (A : List Addr) : StEx F H A F' H' A :=
  ⟨e.ff, e.fh, fun a o _ h => e.hh a o h, fun a h1 h2 _ => e.own a h1 h2, fun a h => same_ne e.hh h, fun _ h => .inl h⟩
theorem StEx.ext {F H F' H' : Hp} {A' : List Addr} (e : StEx F H [] F' H' A') : Ext F H F' H' :=
  ⟨e.ff, e.fh, fun a o h => e.hh a o (by simp) h, fun a h1 h2 => e.own a h1 h2 (by simp)⟩
end KL
/-! DLb: expressions over data. -/
namespace KL
theorem small {n : Nat} (h : Nat.ble n 8 = true) : n ≤ PySem.sizeLine := Nat.le_trans (Nat.le_of_ble_eq_true h) (by decide)
open PySem PySem.Spec L2

theorem _root_.L2.PE.imp {X : Cx} {e : Expr} {t t' : TE} (h : PE X e t) (i : ∀ σ H Q, t' σ H Q → t σ H Q) : PE X e t' := ⟨fun pins s σ H Q I q => h.run pins s σ H Q I (i σ H Q q)⟩
theorem _root_.L2.PT.imp {X : Cx} {e : Expr} {t t' : TT} (h : PT X e t) (i : ∀ σ H Q, t' σ H Q → t σ H Q) : PT X e t' := ⟨fun pins s σ H Q I q => h.run pins s σ H Q I (i σ H Q q)⟩
theorem _root_.L2.PA.imp {X : Cx} {e : List Expr} {t t' : TA} (h : PA X e t) (i : ∀ σ H Q, t' σ H Q → t σ H Q) : PA X e t' := ⟨fun pos pins s σ H Q I q => h.run pos pins s σ H Q I (i σ H Q q)⟩
theorem _root_.L2.PE.all {X : Cx} {e : Expr} {ι : Type} {t : ι → TE} (h : ∀ i, PE X e (t i)) : PE X e (fun σ H Q => ∃ i, t i σ H Q) := ⟨fun pins s σ H Q I ⟨i, q⟩ => (h i).run pins s σ H Q I q⟩
theorem _root_.L2.PT.all {X : Cx} {e : Expr} {ι : Type} {t : ι → TT} (h : ∀ i, PT X e (t i)) : PT X e (fun σ H Q => ∃ i, t i σ H Q) := ⟨fun pins s σ H Q I ⟨i, q⟩ => (h i).run pins s σ H Q I q⟩

/-! ### the kinds of what an expression gives -/
abbrev RK := Hp → Hp → Hp → Hp → V → Prop
def RD (K : PySem.W.Frag) (d : D) : RK := fun _ _ F' _ v => Is K F' v d
def RX (K : PySem.W.Frag) (x : PyData) : RK := fun _ _ _ H' v => Dp K H' v x
/-- a list to be read, its items frozen -/
def RS (K : PySem.W.Frag) (ds : List PyData) : RK := fun _ _ F' H' v => ∃ a xs, v = .ref a ∧ SqL K H' a xs ∧ DpAll K F' xs ds
/-- a new list -/
def RN (K : PySem.W.Frag) (ds : List PyData) : RK := fun F H F' H' v => ∃ p xs, v = .ref p ∧ F' p = none ∧ H p = none ∧ H' p = some (.lst xs) ∧ xs.length ≤ sizeLine ∧ DpAll K F' xs ds
def tR (K : PySem.W.Frag) (ρ : List Sl) (R : RK) : TE := fun σ H Q => ∃ F A, Le F H ∧ Rep K F H ρ σ A ∧ ∀ F' H' v, Ext F H F' H' → R F H F' H' v → Q v H'
abbrev tD (K : PySem.W.Frag) (ρ : List Sl) (d : D) : TE := tR K ρ (RD K d)
abbrev tX (K : PySem.W.Frag) (ρ : List Sl) (x : PyData) : TE := tR K ρ (RX K x)
abbrev tS (K : PySem.W.Frag) (ρ : List Sl) (ds : List PyData) : TE := tR K ρ (RS K ds)
abbrev tN (K : PySem.W.Frag) (ρ : List Sl) (ds : List PyData) : TE := tR K ρ (RN K ds)
def tT (K : PySem.W.Frag) (ρ : List Sl) (b : Bool) : TT := fun σ H Q => ∃ F A, Le F H ∧ Rep K F H ρ σ A ∧ ∀ F' H', Ext F H F' H' → Q b H'
def tAr (K : PySem.W.Frag) (ρ : List Sl) (ds : List D) : TA := fun σ H Q => ∃ F A, Le F H ∧ Rep K F H ρ σ A ∧ ∀ F' H' vs, Ext F H F' H' → IsAll K F' vs ds → Q vs H'

section
variable {X : Cx} {ρ : List Sl} {e a b c : Expr} {d d1 d2 : D} {x y : PyData} {ds es : List PyData} {pos : Pos} {R R' : RK}
theorem tR.conv (h : PE X e (tR X.K ρ R)) (i : ∀ F H F' H' v, Le F H → Ext F H F' H' → R F H F' H' v → ∃ F2, Ext F H F2 H' ∧ R' F H F2 H' v) : PE X e (tR X.K ρ R') :=
  h.imp fun σ H Q ⟨F, A, l, r, k⟩ => ⟨F, A, l, r, fun F' H' v ex q => by
    obtain ⟨F2, e2, q2⟩ := i F H F' H' v l ex q
    exact k F2 H' v e2 q2⟩
theorem _root_.L2.PE.eqD (h : PE X e (tD X.K ρ d1)) (q : d1 = d2) : PE X e (tD X.K ρ d2) := q ▸ h
theorem _root_.L2.PE.eqN (h : PE X e (tN X.K ρ ds)) (q : ds = es) : PE X e (tN X.K ρ es) := q ▸ h
theorem n2d (h : PE X e (tN X.K ρ ds)) : PE X e (tD X.K ρ (.d (.list ds))) := tR.conv h fun F H F' H' v l ex ⟨p, xs, ev, nF, nH, eH, _, dp⟩ => by
  obtain ⟨l1, l2⟩ := Ext.freeze ex.fh nF eH trivial
  refine ⟨upd F' p (.lst xs), ⟨ex.ff.trans l1, l2, ex.hh, fun a h1 h2 => ?_⟩, ?_⟩
  · have : a ≠ p := fun z => h2 (z ▸ nH)
    rw [upd_ne this]
    exact ex.own a h1 h2
  · rw [ev]
    exact Dp.lst (.inl (.inl upd_same)) (l1.dps dp)
theorem n2s (h : PE X e (tN X.K ρ ds)) : PE X e (tS X.K ρ ds) := tR.conv h fun F H F' H' v l ex ⟨p, xs, ev, nF, nH, eH, _, dp⟩ => ⟨F', ex, p, xs, ev, .inl (.inl eH), dp⟩
theorem s2x (h : PE X e (tS X.K ρ ds)) : PE X e (tX X.K ρ (.list ds)) := tR.conv h fun F H F' H' v l ex ⟨p, xs, ev, s, dp⟩ => ⟨F', ex, by rw [ev]; exact .lst s (ex.fh.dps dp)⟩
theorem d2x (h : PE X e (tD X.K ρ (.d x))) : PE X e (tX X.K ρ x) := tR.conv h fun F H F' H' v l ex q => ⟨F', ex, ex.fh.dp q⟩
theorem d2s (h : PE X e (tD X.K ρ (.d (.list ds)))) : PE X e (tS X.K ρ ds) := tR.conv h fun F H F' H' v l ex q => ⟨F', ex, by
  have q' : Dp X.K F' v (.list ds) := q
  cases q' with
  | lst s dp => exact ⟨_, _, rfl, ex.fh.sqL s, dp⟩⟩
theorem n2x (h : PE X e (tN X.K ρ ds)) : PE X e (tX X.K ρ (.list ds)) := s2x (n2s h)

/-! ### names, constants -/
theorem dvar (i : Nat) {x : Str} (hρ : ρ[i]? = some (.fr d) := by rfl) (hN : X.N[i]? = some x := by rfl) (hv : Vis X.env.scope x := by first | exact Or.inl rfl | exact Or.inr (Or.inl rfl) | exact Or.inr (Or.inr rfl)) (hd : (x == ("__debug__" : Str)) = false := by decide)
    (hcd : (x == ("__classdict__" : Str)) = false := by decide) : PE X (.Name x pos) (tD X.K ρ d) :=
  (pe_var hN hv hd hcd).imp fun σ H Q ⟨F, A, l, r, k⟩ => by
    obtain ⟨v, e, q⟩ := r.fr hρ
    exact ⟨v, e, k F H v (.refl l) q⟩
/-- an owned list, read -/
theorem svar (i : Nat) {x : Str} (hρ : ρ[i]? = some (.ow ds) := by rfl) (hN : X.N[i]? = some x := by rfl) (hv : Vis X.env.scope x := by first | exact Or.inl rfl | exact Or.inr (Or.inl rfl) | exact Or.inr (Or.inr rfl)) (hd : (x == ("__debug__" : Str)) = false := by decide)
    (hcd : (x == ("__classdict__" : Str)) = false := by decide) : PE X (.Name x pos) (tS X.K ρ ds) :=
  (pe_var hN hv hd hcd).imp fun σ H Q ⟨F, A, l, r, k⟩ => by
    obtain ⟨a, xs, e, _, eH, dp⟩ := r.ow hρ
    exact ⟨.ref a, e, k F H _ (.refl l) ⟨a, xs, rfl, .inl (.inl eH), dp⟩⟩
theorem ofC {v : V} (h : PE X e (tC v)) (q : ∀ F, Is X.K F v d) : PE X e (tD X.K ρ d) := h.imp fun σ H Q ⟨F, A, l, r, k⟩ => k F H v (.refl l) (q F)
theorem dint {i j} : PE X (.Constant (.int i) j pos) (tD X.K ρ (.d (.int i))) := ofC pe_int fun _ => .int i
theorem dbl {i j} : PE X (.Constant (.bool i) j pos) (tD X.K ρ (.d (.bool i))) := ofC pe_bl fun _ => .bl i
theorem dnon {j} : PE X (.Constant .none j pos) (tD X.K ρ (.d .none)) := ofC pe_non fun _ => .non
theorem dstr {i j} : PE X (.Constant (.str i) j pos) (tD X.K ρ (.d (.str i))) := ofC pe_str fun _ => .str i
/-- a constant of the module -/
theorem dglobI {x : Str} {i : Int} {t : Tok} (hg : Gl X x) (hm : X.mg x = some (.int i t)) (hd : (x == ("__debug__" : Str)) = false := by decide) : PE X (.Name x pos) (tD X.K ρ (.d (.int i))) :=
  ofC (pe_glob hg hm (v := .int i) ⟨t, rfl⟩ hd) fun _ => .int i
theorem dglobS {x : Str} {i : Str} {t : Tok} (hg : Gl X x) (hm : X.mg x = some (.str i t)) (hd : (x == ("__debug__" : Str)) = false := by decide) : PE X (.Name x pos) (tD X.K ρ (.d (.str i))) :=
  ofC (pe_glob hg hm (v := .str i) ⟨t, rfl⟩ hd) fun _ => .str i

/-! ### arguments, displays -/
theorem an : PA X [] (tAr X.K ρ []) := pa_nil.imp fun σ H Q ⟨F, A, l, r, k⟩ => k F H [] (.refl l) .nil
theorem ac {ds : List D} {es : List Expr} (ha : PE X e (tD X.K ρ d)) (hr : PA X es (tAr X.K ρ ds)) (hs : starEach (e :: es) X.env = (false, eval e X.env) :: starEach es X.env := by rfl) : PA X (e :: es) (tAr X.K ρ (d :: ds)) :=
  (pa_cons ha hr hs).imp fun σ H Q ⟨F, A, l, r, k⟩ => ⟨F, A, l, r, fun F1 H1 v e1 q1 => ⟨F1, A, e1.fh, r.mono e1, fun F2 H2 vs e2 q2 => k F2 H2 (v :: vs) (e1.trans e2) (.cons (e2.ff.is q1) q2)⟩⟩
theorem isAll_dp {K : PySem.W.Frag} {F : Hp} : ∀ {vs : List V} {ds : List PyData}, IsAll K F vs (ds.map D.d) → DpAll K F vs ds
  | _, [], h => by cases h; exact .nil
  | _, d :: ds, h => by
    cases h with
    | cons h t => exact .cons h (isAll_dp t)
theorem dp_isAll {K : PySem.W.Frag} {F : Hp} : ∀ {vs : List V} {ds : List PyData}, DpAll K F vs ds → IsAll K F vs (ds.map D.d)
  | _, [], h => by cases h; exact .nil
  | _, d :: ds, h => by
    cases h with
    | cons h t => exact .cons h (dp_isAll t)
theorem DpAll.len {K : PySem.W.Frag} {F : Hp} : ∀ {vs : List V} {ds : List PyData}, DpAll K F vs ds → vs.length = ds.length
  | _, _, .nil => rfl
  | _, _, .cons _ t => by simp [DpAll.len t]
/-- a new thing frozen at once -/
theorem new_fr {F H F' H' : Hp} (ex : Ext F H F' H') {p : Addr} {o : HO} (n : H' p = none) (po : plainO o) : Ext F H (upd F' p o) (upd H' p o) ∧ Le F' (upd F' p o) := by
  have nF : F' p = none := ex.fh.dom p n
  have e1 : Ext F H F' (upd H' p o) := ex.trans (.newH ex.fh n)
  obtain ⟨l1, l2⟩ := Ext.freeze e1.fh nF upd_same po
  refine ⟨⟨ex.ff.trans l1, l2, e1.hh, fun a h1 h2 => ?_⟩, l1⟩
  have : a ≠ p := fun z => h2 (z ▸ ex.hh.free n)
  rw [upd_ne this]
  exact ex.own a h1 h2
theorem dtup {x1} {es : List Expr} (h : PA X es (tAr X.K ρ (ds.map .d))) (hl : ds.length ≤ sizeLine := by first | exact small rfl | decide) : PE X (.Tuple es x1 pos) (tD X.K ρ (.d (.tuple ds))) :=
  (pe_tup h).imp fun σ H Q ⟨F, A, l, r, k⟩ => ⟨F, A, l, r, fun F1 H1 vs e1 q1 => by
    have q2 := isAll_dp q1
    refine ⟨by rw [DpAll.len q2]; exact hl, fun p n => ?_⟩
    obtain ⟨e2, l2⟩ := new_fr e1 (o := .tup vs) n trivial
    exact k _ _ _ e2 (Dp.tup (.inl (.inl upd_same)) (l2.dps q2))⟩
theorem nlst {es : List Expr} (h : PA X es (tAr X.K ρ (ds.map .d))) (hl : ds.length ≤ sizeLine := by first | exact small rfl | decide) : PE X (.List es pos) (tN X.K ρ ds) :=
  (pe_lst h).imp fun σ H Q ⟨F, A, l, r, k⟩ => ⟨F, A, l, r, fun F1 H1 vs e1 q1 => by
    have q2 := isAll_dp q1
    refine ⟨by rw [DpAll.len q2]; exact hl, fun p n => ?_⟩
    exact k F1 _ _ (e1.trans (.newH e1.fh n)) ⟨p, vs, rfl, e1.fh.dom p n, e1.hh.free n, upd_same, by rw [DpAll.len q2]; exact hl, q2⟩⟩
end
end KL
/-! DLc: operators, tests, subscripts, calls of built-ins over data. -/
namespace KL
open PySem PySem.Spec L2
section
variable {X : Cx} {ρ : List Sl} {e a b c : Expr} {d d1 d2 : D} {x y : PyData} {ds es : List PyData} {pos : Pos} {R R' Ra Rb : RK}

theorem op2 {K : PySem.W.Frag} {r : R2} {σ : L2.St} {H : Hp} {Q : VK} (h : ∀ F H F1 H1 F2 H2 x y (Q : VK), Le F H → Ext F H F1 H1 → Ra F H F1 H1 x → Ext F1 H1 F2 H2 → Rb F1 H1 F2 H2 y → (∀ F' H' v, Ext F H F' H' → R F H F' H' v → Q v H') → r x y H2 Q)
    (q : tR K ρ R σ H Q) : tOp r (tR K ρ Ra) (tR K ρ Rb) σ H Q := by
  obtain ⟨F, A, l, rp, k⟩ := q
  exact ⟨F, A, l, rp, fun F1 H1 x e1 q1 => ⟨F1, A, e1.fh, rp.mono e1, fun F2 H2 y e2 q2 => h F H F1 H1 F2 H2 x y Q l e1 q1 e2 q2 k⟩⟩
theorem op1 {K : PySem.W.Frag} {r : V → Hp → VK → Prop} {σ : L2.St} {H : Hp} {Q : VK} (h : ∀ F H F1 H1 x (Q : VK), Le F H → Ext F H F1 H1 → Ra F H F1 H1 x → (∀ F' H' v, Ext F H F' H' → R F H F' H' v → Q v H') → r x H1 Q)
    (q : tR K ρ R σ H Q) : tR K ρ Ra σ H (fun x H1 => r x H1 Q) := by
  obtain ⟨F, A, l, rp, k⟩ := q
  exact ⟨F, A, l, rp, fun F1 H1 x e1 q1 => h F H F1 H1 x Q l e1 q1 k⟩
/-- a binary operator -/
theorem dop {op : Operator} {r : R2} (ho : OpR X (binaryOp op) r) (ha : PE X a (tR X.K ρ Ra)) (hb : PE X b (tR X.K ρ Rb))
    (h : ∀ F H F1 H1 F2 H2 x y (Q : VK), Le F H → Ext F H F1 H1 → Ra F H F1 H1 x → Ext F1 H1 F2 H2 → Rb F1 H1 F2 H2 y → (∀ F' H' v, Ext F H F' H' → R F H F' H' v → Q v H') → r x y H2 Q) : PE X (.BinOp a op b pos) (tR X.K ρ R) :=
  (pe_op ho ha hb).imp fun σ H Q q => op2 h q
theorem dadd {i j : Int} (ha : PE X a (tD X.K ρ (.d (.int i)))) (hb : PE X b (tD X.K ρ (.d (.int j)))) : PE X (.BinOp a .Add b pos) (tD X.K ρ (.d (.int (i + j)))) :=
  dop op_add ha hb fun F H F1 H1 F2 H2 x y Q l e1 q1 e2 q2 k => by
    cases (show Dp X.K F1 x (.int i) from q1)
    cases (show Dp X.K F2 y (.int j) from q2)
    exact ⟨i, j, rfl, rfl, k F2 H2 _ (e1.trans e2) (Dp.int _)⟩
theorem dsub {i j : Int} (ha : PE X a (tD X.K ρ (.d (.int i)))) (hb : PE X b (tD X.K ρ (.d (.int j)))) : PE X (.BinOp a .Sub b pos) (tD X.K ρ (.d (.int (i - j)))) :=
  dop op_sub ha hb fun F H F1 H1 F2 H2 x y Q l e1 q1 e2 q2 k => by
    cases (show Dp X.K F1 x (.int i) from q1)
    cases (show Dp X.K F2 y (.int j) from q2)
    exact ⟨i, j, rfl, rfl, k F2 H2 _ (e1.trans e2) (Dp.int _)⟩
theorem dneg {i : Int} (ha : PE X a (tD X.K ρ (.d (.int i)))) : PE X (.UnaryOp .USub a pos) (tD X.K ρ (.d (.int (-i)))) :=
  (pe_un un_neg ha).imp fun σ H Q q => op1 (r := rU fun i => .int (-i)) (fun F H F1 H1 x Q l e1 q1 k => by
    cases (show Dp X.K F1 x (.int i) from q1)
    exact ⟨i, rfl, k F1 H1 _ e1 (Dp.int _)⟩) q
theorem dpAll_append {K : PySem.W.Frag} {F : Hp} : ∀ {xs ys : List V} {ds es : List PyData}, DpAll K F xs ds → DpAll K F ys es → DpAll K F (xs ++ ys) (ds ++ es)
  | _, _, _, _, .nil, s => s
  | _, _, _, _, .cons h t, s => .cons h (dpAll_append t s)
theorem rd_strict {F H : Hp} {a : Addr} {xs : List V} (h : Rd H a (.lst xs)) : Rd H a (.lst xs) := h
/-- tuples joined -/
theorem dcat (ha : PE X a (tD X.K ρ (.d (.tuple ds)))) (hb : PE X b (tD X.K ρ (.d (.tuple es)))) (hl : ds.length + es.length ≤ sizeLine) : PE X (.BinOp a .Add b pos) (tD X.K ρ (.d (.tuple (ds ++ es)))) :=
  dop op_catA ha hb fun F H F1 H1 F2 H2 x y Q l e1 q1 e2 q2 k => by
    have q1' : Dp X.K F1 x (.tuple ds) := q1
    have q2' : Dp X.K F2 y (.tuple es) := q2
    cases q1' with
    | tup s1 d1 =>
      cases q2' with
      | tup s2 d2 =>
        rename_i a1 xs a2 ys
        have d1' := e2.ff.dps d1
        have l1 := DpAll.len d1
        have l2 := DpAll.len d2
        refine ⟨a1, a2, xs, ys, rfl, rfl, (e2.ff.trans e2.fh).sqT s1, e2.fh.sqT s2, by omega, fun z => ?_, fun z1 z2 => ?_, fun z1 z2 p n => ?_⟩
        · subst z
          cases d1'
          exact k F2 H2 _ (e1.trans e2) (Dp.tup s2 d2)
        · subst z2
          cases d2
          rw [List.append_nil] at k
          exact k F2 H2 _ (e1.trans e2) (Dp.tup (e2.ff.sqT s1) d1')
        · obtain ⟨e3, l3⟩ := new_fr (e1.trans e2) (o := .tup (xs ++ ys)) n trivial
          exact k _ _ _ e3 (Dp.tup (.inl (.inl upd_same)) (l3.dps (dpAll_append d1' d2)))

/-! ### comparisons -/
theorem pc_of {op : CmpOp} {r : R2} {ta tb : TE} (ho : OpR X (compareOp op) r) (ha : PE X a ta) (hb : PE X b tb) : PC X op a b (tOp r ta tb) :=
  ⟨fun pins s σ H Q I h => bin ha hb I h fun v u s2 x y H2 I2 rx ry q => ho pins s2 σ H2 x y v u Q I2 rx ry q⟩
theorem _root_.L2.PC.imp {op : CmpOp} {t t' : TE} (h : PC X op a b t) (i : ∀ σ H Q, t' σ H Q → t σ H Q) : PC X op a b t' := ⟨fun pins s σ H Q I q => h.run pins s σ H Q I (i σ H Q q)⟩
theorem cmp {op : CmpOp} {r : R2} {k : Bool} (ho : OpR X (compareOp op) r) (ha : PE X a (tR X.K ρ Ra)) (hb : PE X b (tR X.K ρ Rb))
    (h : ∀ F H F1 H1 F2 H2 x y (Q : VK), Le F H → Ext F H F1 H1 → Ra F H F1 H1 x → Ext F1 H1 F2 H2 → Rb F1 H1 F2 H2 y → Q (.bl k) H2 → r x y H2 Q) : PC X op a b (tD X.K ρ (.d (.bool k))) :=
  (pc_of ho ha hb).imp fun σ H Q q => op2 (R := RD X.K (.d (.bool k))) (fun F H F1 H1 F2 H2 x y Q l e1 q1 e2 q2 kk => h F H F1 H1 F2 H2 x y Q l e1 q1 e2 q2 (kk F2 H2 _ (e1.trans e2) (Dp.bl k))) q
theorem c_eq (hu : X.A.units + 64 < cLine) (ha : PE X a (tX X.K ρ x)) (hb : PE X b (tX X.K ρ y)) (sx : SeqAt.shaped x = true) (sy : SeqAt.shaped y = true) : PC X .Eq a b (tD X.K ρ (.d (.bool (PyData.eqv x y)))) :=
  cmp (op_eqD hu) ha hb fun F H F1 H1 F2 H2 u v Q l e1 q1 e2 q2 k => ⟨x, y, (Le.of e2.hh).dp q1, q2, sx, sy, k⟩
theorem c_ne (hu : X.A.units + 64 < cLine) (ha : PE X a (tX X.K ρ x)) (hb : PE X b (tX X.K ρ y)) (sx : SeqAt.shaped x = true) (sy : SeqAt.shaped y = true) : PC X .NotEq a b (tD X.K ρ (.d (.bool (!PyData.eqv x y)))) :=
  cmp (op_neD hu) ha hb fun F H F1 H1 F2 H2 u v Q l e1 q1 e2 q2 k => ⟨x, y, (Le.of e2.hh).dp q1, q2, sx, sy, k⟩
theorem c_int {op : CmpOp} {g : Int → Int → Bool} {i j : Int} (ho : OpR X (compareOp op) (rI0 fun i j => .bl (g i j))) (ha : PE X a (tD X.K ρ (.d (.int i)))) (hb : PE X b (tD X.K ρ (.d (.int j)))) : PC X op a b (tD X.K ρ (.d (.bool (g i j)))) :=
  cmp ho ha hb fun F H F1 H1 F2 H2 u v Q l e1 q1 e2 q2 k => by
    cases (show Dp X.K F1 u (.int i) from q1)
    cases (show Dp X.K F2 v (.int j) from q2)
    exact ⟨i, j, rfl, rfl, k⟩
theorem c_ltS {i j : Str} (ha : PE X a (tD X.K ρ (.d (.str i)))) (hb : PE X b (tD X.K ρ (.d (.str j)))) : PC X .Lt a b (tD X.K ρ (.d (.bool (decide (i.cps.toList < j.cps.toList))))) :=
  cmp op_lt_str ha hb fun F H F1 H1 F2 H2 u v Q l e1 q1 e2 q2 k => by
    cases (show Dp X.K F1 u (.str i) from q1)
    cases (show Dp X.K F2 v (.str j) from q2)
    exact ⟨i, j, rfl, rfl, k⟩
theorem c_inSign {c : Nat} {z : Str} (ha : PE X a (tD X.K ρ (.d (.str ⟨#[c]⟩)))) (hb : PE X b (tD X.K ρ (.d (.str z)))) : PC X .In a b (tD X.K ρ (.d (.bool (decide (c ∈ z.cps.toList))))) :=
  cmp op_in_sign ha hb fun F H F1 H1 F2 H2 u v Q l e1 q1 e2 q2 k => by
    cases (show Dp X.K F1 u (.str ⟨#[c]⟩) from q1)
    cases (show Dp X.K F2 v (.str z) from q2)
    exact ⟨c, z, rfl, rfl, k⟩
/-- flat things -/
def flatD : PyData → Bool
  | .none => true
  | .bool _ => true
  | .int _ => true
  | .str _ => true
  | _ => false
theorem flat_of {K : PySem.W.Frag} {F : Hp} {v : V} {d : PyData} (h : Dp K F v d) (f : flatD d = true) : flatV v = true := by
  cases h <;> first | rfl | (exact absurd f Bool.false_ne_true)
theorem eqV_of {K : PySem.W.Frag} {F : Hp} {v u : V} {d d' : PyData} (h : Dp K F v d) (f : flatD d = true) (h' : Dp K F u d') (f' : flatD d' = true) : eqV v u = PyData.eqv d d' := by
  cases h <;> first
    | (exact absurd f Bool.false_ne_true)
    | (cases h' <;> first | (exact absurd f' Bool.false_ne_true) | simp [eqV, PyData.eqv])
theorem flats_of {K : PySem.W.Frag} {F : Hp} : ∀ {vs : List V} {ds : List PyData}, DpAll K F vs ds → ds.all flatD = true → vs.all flatV = true
  | _, _, .nil, _ => rfl
  | _, _, .cons h t, f => by
    rw [List.all_cons, Bool.and_eq_true] at f ⊢
    exact ⟨flat_of h f.1, flats_of t f.2⟩
theorem inV_of {K : PySem.W.Frag} {F : Hp} {v : V} {d : PyData} (h : Dp K F v d) (f : flatD d = true) : ∀ {vs : List V} {ds : List PyData}, DpAll K F vs ds → ds.all flatD = true → inV v vs = ds.any fun z => PyData.eqv z d
  | _, _, .nil, _ => rfl
  | _, _, .cons h1 t, f1 => by
    rw [List.all_cons, Bool.and_eq_true] at f1
    unfold inV
    rw [List.any_cons, List.any_cons, eqV_of h1 f1.1 h f]
    exact congrArg _ (inV_of h f t f1.2)
theorem c_in (ha : PE X a (tD X.K ρ (.d x))) (hb : PE X b (tS X.K ρ ds)) (fx : flatD x = true) (fs : ds.all flatD = true) : PC X .In a b (tD X.K ρ (.d (.bool (ds.any fun z => PyData.eqv z x)))) :=
  cmp op_in_seq ha hb fun F H F1 H1 F2 H2 u v Q l e1 q1 e2 ⟨p, xs, ev, s, dp⟩ k => by
    have hx := e2.ff.dp (show Dp X.K F1 u x from q1)
    refine ⟨p, xs, ev, .inl s, flat_of hx fx, flats_of dp fs, ?_⟩
    rw [if_neg Bool.false_ne_true, inV_of hx fx dp fs]
    exact k
theorem c_ni (ha : PE X a (tD X.K ρ (.d x))) (hb : PE X b (tS X.K ρ ds)) (fx : flatD x = true) (fs : ds.all flatD = true) : PC X .NotIn a b (tD X.K ρ (.d (.bool (!ds.any fun z => PyData.eqv z x)))) :=
  cmp op_notIn_seq ha hb fun F H F1 H1 F2 H2 u v Q l e1 q1 e2 ⟨p, xs, ev, s, dp⟩ k => by
    have hx := e2.ff.dp (show Dp X.K F1 u x from q1)
    refine ⟨p, xs, ev, .inl s, flat_of hx fx, flats_of dp fs, ?_⟩
    rw [if_pos rfl, inV_of hx fx dp fs]
    exact k
theorem c_inT (ha : PE X a (tD X.K ρ (.d x))) (hb : PE X b (tD X.K ρ (.d (.tuple ds)))) (fx : flatD x = true) (fs : ds.all flatD = true) : PC X .In a b (tD X.K ρ (.d (.bool (ds.any fun z => PyData.eqv z x)))) :=
  cmp op_in_seq ha hb fun F H F1 H1 F2 H2 u v Q l e1 q1 e2 q2 k => by
    have hx := e2.ff.dp (show Dp X.K F1 u x from q1)
    have q2' : Dp X.K F2 v (.tuple ds) := q2
    cases q2' with
    | tup s dp =>
      refine ⟨_, _, rfl, .inr (e2.fh.sqT s), flat_of hx fx, flats_of dp fs, ?_⟩
      rw [if_neg Bool.false_ne_true, inV_of hx fx dp fs]
      exact k
theorem c_niT (ha : PE X a (tD X.K ρ (.d x))) (hb : PE X b (tD X.K ρ (.d (.tuple ds)))) (fx : flatD x = true) (fs : ds.all flatD = true) : PC X .NotIn a b (tD X.K ρ (.d (.bool (!ds.any fun z => PyData.eqv z x)))) :=
  cmp op_notIn_seq ha hb fun F H F1 H1 F2 H2 u v Q l e1 q1 e2 q2 k => by
    have hx := e2.ff.dp (show Dp X.K F1 u x from q1)
    have q2' : Dp X.K F2 v (.tuple ds) := q2
    cases q2' with
    | tup s dp =>
      refine ⟨_, _, rfl, .inr (e2.fh.sqT s), flat_of hx fx, flats_of dp fs, ?_⟩
      rw [if_pos rfl, inV_of hx fx dp fs]
      exact k
theorem c_niD (hu : X.A.units + 65 < cLine) (ha : PE X a (tD X.K ρ (.d x))) (hb : PE X b (tX X.K ρ (.list ds))) (sx : SeqAt.shaped x = true) (ss : SeqAt.shaped (.list ds) = true) : PC X .NotIn a b (tD X.K ρ (.d (.bool (!ds.any fun z => PyData.eqv z x)))) :=
  cmp (op_notInD hu) ha hb fun F H F1 H1 F2 H2 u v Q l e1 q1 e2 q2 k => ⟨x, ds, (e2.ff.trans e2.fh).dp (show Dp X.K F1 u x from q1), q2, sx, ss, k⟩
/-- in a dict -/
def look {κ : Type} [DecidableEq κ] (kvs : List (κ × PyData)) (k : κ) : Option PyData := (kvs.find? fun p => decide (p.1 = k)).map (·.2)
theorem kdat_val {κ : Type} [DecidableEq κ] {K : PySem.W.Frag} {F : Hp} (k : κ) : ∀ {vs : List (κ × V)} {kvs : List (κ × PyData)}, KDat K F vs kvs → (valV vs k = none ∧ look kvs k = none) ∨ ∃ v d, valV vs k = some v ∧ look kvs k = some d ∧ Dp K F v d
  | _, _, .nil => Or.inl ⟨rfl, rfl⟩
  | p :: vs, q :: kvs, .cons ⟨e, h⟩ t => by
    by_cases z : p.1 = k
    · right
      refine ⟨p.2, q.2, valV_pos z, ?_, h⟩
      unfold look
      rw [List.find?_cons_of_pos (by rw [← e]; exact decide_eq_true z)]
      rfl
    · rw [valV_neg z]
      have : look (q :: kvs) k = look kvs k := by
        unfold look
        rw [List.find?_cons_of_neg (by rw [← e]; exact fun w => z (of_decide_eq_true w))]
      rw [this]
      exact kdat_val k t
theorem kdat_some {κ : Type} [DecidableEq κ] {K : PySem.W.Frag} {F : Hp} (k : κ) {vs : List (κ × V)} {kvs : List (κ × PyData)} (h : KDat K F vs kvs) : (valV vs k).isSome = (look kvs k).isSome := by
  rcases kdat_val k h with ⟨e1, e2⟩ | ⟨v, d, e1, e2, _⟩ <;> rw [e1, e2] <;> rfl
def keyD : Key → PyData
  | .inl i => .int i
  | .inr x => .str x
theorem dp_key {K : PySem.W.Frag} {F : Hp} {v : V} {k : Key} (h : Dp K F v (keyD k)) : v = kV k := by
  cases k <;> cases h <;> rfl
theorem c_inK {k : Key} {kvs : List (Key × PyData)} (hu : X.A.units + 1 < cLine) (ha : PE X a (tD X.K ρ (.d (keyD k)))) (hb : PE X b (tD X.K ρ (.dk kvs))) : PC X .In a b (tD X.K ρ (.d (.bool (look kvs k).isSome))) :=
  (pc_din hu ha hb).imp fun σ H Q ⟨F, A, l, rp, kk⟩ => ⟨F, A, l, rp, fun F1 H1 x e1 q1 => ⟨F1, A, e1.fh, rp.mono e1, fun F2 H2 y e2 q2 => by
    obtain ⟨p, vs, rfl, r, kd⟩ := q2
    have hx := dp_key (show Dp X.K F1 x (keyD k) from q1)
    refine ⟨p, valV vs k, rfl, .inl ⟨vs, k, e2.fh.rd _ _ trivial r, hx, rfl⟩, ?_⟩
    rw [kdat_some k kd]
    exact kk F2 H2 _ (e1.trans e2) (Dp.bl _)⟩⟩
/-- a comparison: its value; the test by it -/
theorem cv {op : CmpOp} {k : Bool} (h : PC X op a b (tD X.K ρ (.d (.bool k)))) (h1 : behindInMarks op b = false := by first | exact nobehind _ (by decide) (by decide) | rfl) : PE X (.Compare a [op] [b] pos) (tD X.K ρ (.d (.bool k))) := pe_cmp h h1
theorem tB_of {K : PySem.W.Frag} {k : Bool} {σ : L2.St} {H : Hp} {Q : Bool → Hp → Prop} (q : tT K ρ k σ H Q) : tB (tD K ρ (.d (.bool k))) σ H Q := by
  obtain ⟨F, A, l, rp, kk⟩ := q
  exact ⟨F, A, l, rp, fun F1 H1 v e1 q1 => by
    cases (show Dp K F1 v (.bool k) from q1)
    exact ⟨k, rfl, kk F1 H1 e1⟩⟩
theorem ct {op : CmpOp} {k : Bool} (h : PC X op a b (tD X.K ρ (.d (.bool k)))) (h1 : behindInMarks op b = false := by first | exact nobehind _ (by decide) (by decide) | rfl) : PT X (.Compare a [op] [b] pos) (tT X.K ρ k) := (pt_cmp h h1).imp fun _ _ _ q => tB_of q
theorem tv {k : Bool} (h : PE X e (tD X.K ρ (.d (.bool k)))) (he : ∀ whole, isTrue e X.env whole = (do let v ← whole; standAt e.pos; holding [v] (truthy v)) := by intro _; rfl) : PT X e (tT X.K ρ k) := (pt_val h he).imp fun _ _ _ q => tB_of q
theorem _root_.L2.PT.eqT {k k' : Bool} (h : PT X e (tT X.K ρ k)) (q : k = k') : PT X e (tT X.K ρ k') := q ▸ h

/-! ### and, or, not, if -/
theorem tnot {k : Bool} (h : PT X e (tT X.K ρ k)) : PT X (.UnaryOp .Not e pos) (tT X.K ρ (!k)) := (pt_not h).imp fun σ H Q ⟨F, A, l, rp, kk⟩ => ⟨F, A, l, rp, fun F1 H1 e1 => kk F1 H1 e1⟩
theorem vnot {k : Bool} (h : PE X e (tD X.K ρ (.d (.bool k)))) : PE X (.UnaryOp .Not e pos) (tD X.K ρ (.d (.bool (!k)))) := (pe_not h).imp fun σ H Q ⟨F, A, l, rp, kk⟩ => ⟨F, A, l, rp, fun F1 H1 v e1 q1 => by
  cases (show Dp X.K F1 v (.bool k) from q1)
  exact ⟨k, rfl, kk F1 H1 _ e1 (Dp.bl _)⟩⟩
def tNo : TT := fun _ _ _ => False
def tNoE : TE := fun _ _ _ => False
theorem pw_no : PW X e tNo := ⟨fun _ _ _ _ _ _ _ h => h.elim⟩
theorem pt_no : PT X e tNo := ⟨fun _ _ _ _ _ _ h => h.elim⟩
theorem pe_no : PE X e tNoE := ⟨fun _ _ _ _ _ _ h => h.elim⟩
theorem _root_.L2.PW.imp {X : Cx} {e : Expr} {t t' : TT} (h : PW X e t) (i : ∀ σ H Q, t' σ H Q → t σ H Q) : PW X e t' := ⟨fun w pins s σ H Q I q => h.run w pins s σ H Q I (i σ H Q q)⟩
variable {rest : List Expr}
theorem wand1 {k : Bool} (h : PT X a (tT X.K ρ k)) : PW X (.BoolOp .And [a] pos) (tT X.K ρ k) := pw_and1 h
theorem wor1 {k : Bool} (h : PT X a (tT X.K ρ k)) : PW X (.BoolOp .Or [a] pos) (tT X.K ρ k) := pw_or1 h
theorem wand {k k' : Bool} (ha : PT X a (tT X.K ρ k)) (hb : k = true → PW X (.BoolOp .And (b :: rest) pos) (tT X.K ρ k')) : PW X (.BoolOp .And (a :: b :: rest) pos) (tT X.K ρ (k && k')) := by
  cases k with
  | true => exact (pw_and ha (hb rfl)).imp fun σ H Q ⟨F, A, l, rp, kk⟩ => ⟨F, A, l, rp, fun F1 H1 e1 => by
      exact iteT <| ⟨F1, A, e1.fh, rp.mono e1, fun F2 H2 e2 => kk F2 H2 (e1.trans e2)⟩⟩
  | false => exact (pw_and ha pw_no).imp fun σ H Q ⟨F, A, l, rp, kk⟩ => ⟨F, A, l, rp, fun F1 H1 e1 => by
      exact iteF <| kk F1 H1 e1⟩
theorem wor {k k' : Bool} (ha : PT X a (tT X.K ρ k)) (hb : k = false → PW X (.BoolOp .Or (b :: rest) pos) (tT X.K ρ k')) : PW X (.BoolOp .Or (a :: b :: rest) pos) (tT X.K ρ (k || k')) := by
  cases k with
  | false => exact (pw_or ha (hb rfl)).imp fun σ H Q ⟨F, A, l, rp, kk⟩ => ⟨F, A, l, rp, fun F1 H1 e1 => by
      exact iteF <| ⟨F1, A, e1.fh, rp.mono e1, fun F2 H2 e2 => kk F2 H2 (e1.trans e2)⟩⟩
  | true => exact (pw_or ha pw_no).imp fun σ H Q ⟨F, A, l, rp, kk⟩ => ⟨F, A, l, rp, fun F1 H1 e1 => by
      exact iteT <| kk F1 H1 e1⟩
theorem vand {k k' : Bool} (ha : PE X a (tD X.K ρ (.d (.bool k)))) (hb : k = true → PE X (.BoolOp .And (b :: rest) pos) (tD X.K ρ (.d (.bool k')))) : PE X (.BoolOp .And (a :: b :: rest) pos) (tD X.K ρ (.d (.bool (k && k')))) := by
  cases k with
  | true => exact (pe_and ha (hb rfl)).imp fun σ H Q ⟨F, A, l, rp, kk⟩ => ⟨F, A, l, rp, fun F1 H1 v e1 q1 => by
      cases (show Dp X.K F1 v (.bool true) from q1)
      refine ⟨true, rfl, ?_⟩
      exact iteT <| ⟨F1, A, e1.fh, rp.mono e1, fun F2 H2 v e2 q2 => kk F2 H2 v (e1.trans e2) q2⟩⟩
  | false => exact (pe_and ha pe_no).imp fun σ H Q ⟨F, A, l, rp, kk⟩ => ⟨F, A, l, rp, fun F1 H1 v e1 q1 => by
      cases (show Dp X.K F1 v (.bool false) from q1)
      refine ⟨false, rfl, ?_⟩
      exact iteF <| kk F1 H1 _ e1 (Dp.bl _)⟩
theorem vone {op} (h : PE X a (tR X.K ρ R)) : PE X (.BoolOp op [a] pos) (tR X.K ρ R) := pe_one h
/-- what may be told from further back -/
def Bk (R : RK) : Prop := ∀ F H F1 H1 F2 H2 v, Ext F H F1 H1 → R F1 H1 F2 H2 v → R F H F2 H2 v
theorem bk_d {K : PySem.W.Frag} {d : D} : Bk (RD K d) := fun _ _ _ _ _ _ _ _ h => h
theorem bk_x {K : PySem.W.Frag} {d : PyData} : Bk (RX K d) := fun _ _ _ _ _ _ _ _ h => h
theorem bk_s {K : PySem.W.Frag} {d : List PyData} : Bk (RS K d) := fun _ _ _ _ _ _ _ _ h => h
theorem bk_n {K : PySem.W.Frag} {d : List PyData} : Bk (RN K d) := fun _ _ _ _ _ _ _ e ⟨p, xs, h1, h2, h3, h4⟩ => ⟨p, xs, h1, h2, e.hh.free h3, h4⟩
theorem dif {k : Bool} (hc : PT X c (tT X.K ρ k)) (ha : k = true → PE X a (tR X.K ρ R)) (hb : k = false → PE X b (tR X.K ρ R)) (hk : Bk R := by first | exact bk_d | exact bk_n | exact bk_s | exact bk_x) : PE X (.IfExp c a b pos) (tR X.K ρ R) := by
  cases k with
  | true => exact (pe_ifExp hc (ha rfl) pe_no).imp fun σ H Q ⟨F, A, l, rp, kk⟩ => ⟨F, A, l, rp, fun F1 H1 e1 => by
      exact iteT <| ⟨F1, A, e1.fh, rp.mono e1, fun F2 H2 v e2 q2 => kk F2 H2 v (e1.trans e2) (hk _ _ _ _ _ _ _ e1 q2)⟩⟩
  | false => exact (pe_ifExp hc pe_no (hb rfl)).imp fun σ H Q ⟨F, A, l, rp, kk⟩ => ⟨F, A, l, rp, fun F1 H1 e1 => by
      exact iteF <| ⟨F1, A, e1.fh, rp.mono e1, fun F2 H2 v e2 q2 => kk F2 H2 v (e1.trans e2) (hk _ _ _ _ _ _ _ e1 q2)⟩⟩
end
end KL
/-! DLd: subscripts, slices, calls. -/
namespace KL
open PySem PySem.Spec L2
section
variable {X : Cx} {ρ : List Sl} {e a b c : Expr} {d d1 d2 : D} {x y : PyData} {ds es : List PyData} {pos : Pos} {R R' Ra Rb : RK}
theorem dpAll_get {K : PySem.W.Frag} {F : Hp} : ∀ {vs : List V} {ds : List PyData} {i : Nat} {d : PyData}, DpAll K F vs ds → ds[i]? = some d → ∃ v, vs[i]? = some v ∧ Dp K F v d
  | _, _, _, _, .nil, h => by simp at h
  | _, _, 0, _, .cons h t, e => by simp at e; subst e; exact ⟨_, rfl, h⟩
  | _, _, i + 1, d, .cons h t, e => by
    obtain ⟨v, h1, h2⟩ := dpAll_get (i := i) (d := d) t (by simpa using e)
    exact ⟨v, by simpa using h1, h2⟩
theorem dpAll_atI {K : PySem.W.Frag} {F : Hp} {vs : List V} {ds : List PyData} {i : Int} {d : PyData} (h : DpAll K F vs ds) (e : atI ds i = some d) : ∃ v, atI vs i = some v ∧ Dp K F v d := by
  unfold atI at e ⊢
  rw [DpAll.len h]
  cases z : ixN ds.length i with
  | none => rw [z] at e; cases e
  | some j =>
    rw [z] at e
    exact dpAll_get h e
theorem ixS {i : Int} {z : PyData} (ha : PE X a (tS X.K ρ ds)) (hb : PE X b (tD X.K ρ (.d (.int i)))) (h : atI ds i = some z) (hs : PlainIx b := by intro _ _; rfl) : PE X (.Subscript a b pos) (tD X.K ρ (.d z)) :=
  (pe_ix ix_list ha hb hs).imp fun σ H Q q => op2 (fun F H F1 H1 F2 H2 u v Q l e1 ⟨p, xs, e, s, dp⟩ e2 q2 k => by
    cases (show Dp X.K F2 v (.int i) from q2)
    obtain ⟨w, h1, h2⟩ := dpAll_atI dp h
    exact ⟨p, xs, i, w, e, rfl, (Le.of e2.hh).sqL s, h1, k F2 H2 w (e1.trans e2) (e2.ff.dp h2)⟩) q
theorem ixT {i : Int} {z : PyData} (ha : PE X a (tD X.K ρ (.d (.tuple ds)))) (hb : PE X b (tD X.K ρ (.d (.int i)))) (h : atI ds i = some z) (hs : PlainIx b := by intro _ _; rfl) : PE X (.Subscript a b pos) (tD X.K ρ (.d z)) :=
  (pe_ix ix_tup ha hb hs).imp fun σ H Q q => op2 (fun F H F1 H1 F2 H2 u v Q l e1 q1 e2 q2 k => by
    cases (show Dp X.K F2 v (.int i) from q2)
    have q1' : Dp X.K F1 u (.tuple ds) := q1
    cases q1' with
    | tup s dp =>
      obtain ⟨w, h1, h2⟩ := dpAll_atI dp h
      exact ⟨_, _, i, w, rfl, rfl, (e2.ff.trans e2.fh).sqT s, h1, k F2 H2 w (e1.trans e2) (e2.ff.dp h2)⟩) q
/-- d[k] -/
theorem dgK {k : Key} {z : PyData} {kvs : List (Key × PyData)} (hu : X.A.units + 1 < cLine) (ha : PE X a (tD X.K ρ (.dk kvs))) (hb : PE X b (tD X.K ρ (.d (keyD k)))) (h : look kvs k = some z) (hs : NoSl b := by intro _ _; rfl) : PE X (.Subscript a b pos) (tD X.K ρ (.d z)) :=
  (pe_dget hu ha hb hs).imp fun σ H Q ⟨F, A, l, rp, kk⟩ => ⟨F, A, l, rp, fun F1 H1 x e1 q1 => ⟨F1, A, e1.fh, rp.mono e1, fun F2 H2 y e2 q2 => by
    obtain ⟨p, vs, rfl, r, kd⟩ := q1
    have hx := dp_key (show Dp X.K F2 y (keyD k) from q2)
    rcases kdat_val k kd with ⟨_, n⟩ | ⟨v, d, h1, h2, h3⟩
    · rw [h] at n; cases n
    · rw [h] at h2
      cases h2
      exact ⟨p, v, rfl, .inl ⟨vs, k, (e2.ff.trans e2.fh).rd _ _ trivial r, hx, h1.symm⟩, kk F2 H2 v (e1.trans e2) (e2.ff.dp h3)⟩⟩⟩
/-- d[k] of a dict of dicts -/
theorem dgD {k : Key} {z : List (Key × PyData)} {kvs : List (Key × List (Key × PyData))} (hu : X.A.units + 1 < cLine) (ha : PE X a (tD X.K ρ (.dd kvs))) (hb : PE X b (tD X.K ρ (.d (keyD k)))) (h : (kvs.find? fun p => decide (p.1 = k)).map (·.2) = some z) (hs : NoSl b := by intro _ _; rfl) :
    PE X (.Subscript a b pos) (tD X.K ρ (.dk z)) :=
  (pe_dget hu ha hb hs).imp fun σ H Q ⟨F, A, l, rp, kk⟩ => ⟨F, A, l, rp, fun F1 H1 x e1 q1 => ⟨F1, A, e1.fh, rp.mono e1, fun F2 H2 y e2 q2 => by
    obtain ⟨p, vs, rfl, r, kd⟩ := q1
    have hx := dp_key (show Dp X.K F2 y (keyD k) from q2)
    have : ∀ {vs : List (Key × V)} {kvs : List (Key × List (Key × PyData))}, Paired (fun (p : Key × V) (q : Key × List (Key × PyData)) => p.1 = q.1 ∧ ∃ b ws, p.2 = .ref b ∧ Rd F1 b (.dK ws) ∧ KDat X.K F1 ws q.2) vs kvs →
        (kvs.find? fun p => decide (p.1 = k)).map (·.2) = some z → ∃ b ws, valV vs k = some (.ref b) ∧ Rd F1 b (.dK ws) ∧ KDat X.K F1 ws z := by
      intro vs kvs h
      induction h with
      | nil => intro n; cases n
      | @cons p q vs kvs hd _ ih =>
        intro n
        by_cases w : q.1 = k
        · rw [List.find?_cons_of_pos (by exact decide_eq_true w)] at n
          cases n
          obtain ⟨w1, b, ws, w2, w3, w4⟩ := hd
          exact ⟨b, ws, by rw [valV_pos (w1.trans w), w2], w3, w4⟩
        · rw [List.find?_cons_of_neg (by exact fun u => w (of_decide_eq_true u))] at n
          obtain ⟨b, ws, h1, h2⟩ := ih n
          exact ⟨b, ws, by rw [valV_neg (fun u => w (hd.1.symm.trans u))]; exact h1, h2⟩
    obtain ⟨b', ws, h1, h2, h3⟩ := this kd h
    exact ⟨p, _, rfl, .inl ⟨vs, k, (e2.ff.trans e2.fh).rd _ _ trivial r, hx, h1.symm⟩, kk F2 H2 _ (e1.trans e2) ⟨b', ws, rfl, e2.ff.rd _ _ trivial h2, e2.ff.kdat h3⟩⟩⟩⟩
/-- keys that are tuples of texts, written -/
theorem dp_keys {K : PySem.W.Frag} {F : Hp} : ∀ {vs : List V} {ks : List Key}, DpAll K F vs (ks.map keyD) → vs = ks.map kV
  | _, [], h => by cases h; rfl
  | _, k :: ks, h => by
    cases h with
    | cons h t => rw [dp_key h, dp_keys t]; rfl
theorem ktup {es : List Expr} {x1} {ks : List Key} {t : TE} (h : PA X es (tAr X.K ρ ((ks.map keyD).map .d))) (hl : ks.length ≤ sizeLine := by first | exact small rfl | decide) :
    PE X (.Tuple es x1 pos) (tR X.K ρ fun _ _ _ H' v => ∃ q, v = .ref q ∧ H' q = some (.tup (ks.map kV))) :=
  (pe_tup h).imp fun σ H Q ⟨F, A, l, r, k⟩ => ⟨F, A, l, r, fun F1 H1 vs e1 q1 => by
    have q2 := isAll_dp q1
    have q3 := dp_keys q2
    refine ⟨by rw [DpAll.len q2, List.length_map]; exact hl, fun p n => ?_⟩
    exact k F1 _ _ (e1.trans (.newH e1.fh n)) ⟨p, rfl, by rw [upd_same, q3]⟩⟩
theorem dgT {es : List Expr} {x1} {tpos : Pos} {ks : List Key} {z : PyData} {kvs : List (List Key × PyData)} (hu : X.A.units + 1 < cLine) (ha : PE X a (tD X.K ρ (.dt kvs))) (hb : PA X es (tAr X.K ρ ((ks.map keyD).map .d))) (h : look kvs ks = some z) (hl : ks.length ≤ sizeLine := by first | exact small rfl | decide) (hs : NoSl (.Tuple es x1 tpos) := by intro _ _; rfl) :
    PE X (.Subscript a (.Tuple es x1 tpos) pos) (tD X.K ρ (.d z)) :=
  (pe_dget hu ha (ktup (t := tNoE) hb hl) hs).imp fun σ H Q ⟨F, A, l, rp, kk⟩ => ⟨F, A, l, rp, fun F1 H1 x e1 q1 => ⟨F1, A, e1.fh, rp.mono e1, fun F2 H2 y e2 ⟨q, ey, eq⟩ => by
    obtain ⟨p, vs, rfl, r, kd⟩ := q1
    rcases kdat_val ks kd with ⟨_, n⟩ | ⟨v, d, h1, h2, h3⟩
    · rw [h] at n; cases n
    · rw [h] at h2
      cases h2
      exact ⟨p, v, rfl, .inr ⟨vs, ks, q, (e2.ff.trans e2.fh).rd _ _ trivial r, ey, eq, h1.symm⟩, kk F2 H2 v (e1.trans e2) (e2.ff.dp h3)⟩⟩⟩
theorem c_inKT {es : List Expr} {x1} {tpos : Pos} {ks : List Key} {kvs : List (List Key × PyData)} (hu : X.A.units + 1 < cLine) (ha : PA X es (tAr X.K ρ ((ks.map keyD).map .d))) (hb : PE X b (tD X.K ρ (.dt kvs))) (hl : ks.length ≤ sizeLine := by first | exact small rfl | decide) : PC X .In (.Tuple es x1 tpos) b (tD X.K ρ (.d (.bool (look kvs ks).isSome))) :=
  (pc_din hu (ktup (t := tNoE) ha hl) hb).imp fun σ H Q ⟨F, A, l, rp, kk⟩ => ⟨F, A, l, rp, fun F1 H1 x e1 ⟨q, ey, eq⟩ => ⟨F1, A, e1.fh, rp.mono e1, fun F2 H2 y e2 q2 => by
    obtain ⟨p, vs, rfl, r, kd⟩ := q2
    refine ⟨p, valV vs ks, rfl, .inr ⟨vs, ks, q, e2.fh.rd _ _ trivial r, ey, e2.hh _ _ eq, rfl⟩, ?_⟩
    rw [kdat_some ks kd]
    exact kk F2 H2 _ (e1.trans e2) (Dp.bl _)⟩⟩

/-! ### slices -/
def cutD (ds : List PyData) (lo hi : Option Int) : List PyData := (ds.drop (HT.sIx ds.length 0 lo)).take (HT.sIx ds.length ds.length hi - HT.sIx ds.length 0 lo)
theorem dpAll_drop {K : PySem.W.Frag} {F : Hp} : ∀ (n : Nat) {vs : List V} {ds : List PyData}, DpAll K F vs ds → DpAll K F (vs.drop n) (ds.drop n)
  | 0, _, _, h => h
  | n + 1, _, _, .nil => .nil
  | n + 1, _, _, .cons _ t => dpAll_drop n t
theorem dpAll_take {K : PySem.W.Frag} {F : Hp} : ∀ (n : Nat) {vs : List V} {ds : List PyData}, DpAll K F vs ds → DpAll K F (vs.take n) (ds.take n)
  | 0, _, _, h => .nil
  | n + 1, _, _, .nil => .nil
  | n + 1, _, _, .cons h t => .cons h (dpAll_take n t)
theorem dpAll_rev {K : PySem.W.Frag} {F : Hp} : ∀ {vs : List V} {ds : List PyData}, DpAll K F vs ds → DpAll K F vs.reverse ds.reverse
  | _, _, .nil => .nil
  | _, _, .cons h t => by
    rewrite [List.reverse_cons]; rw [List.reverse_cons]
    exact dpAll_append (dpAll_rev t) (.cons h .nil)
theorem dpAll_cut {K : PySem.W.Frag} {F : Hp} {vs : List V} {ds : List PyData} (h : DpAll K F vs ds) (lo hi : Option Int) : DpAll K F (cutV vs lo hi) (cutD ds lo hi) := by
  unfold cutV cutD
  rw [DpAll.len h]
  exact dpAll_take _ (dpAll_drop _ h)
/-- a bound of a slice -/
def tOO (K : PySem.W.Frag) (ρ : List Sl) (o : Option Int) : TO := fun σ H Q => ∃ F A, Le F H ∧ Rep K F H ρ σ A ∧ ∀ F' H', Ext F H F' H' → Q o H'
theorem _root_.L2.PO.imp {e : Option Expr} {t t' : TO} (h : PO X e t) (i : ∀ σ H Q, t' σ H Q → t σ H Q) : PO X e t' := ⟨fun pins s σ H Q I q => h.run pins s σ H Q I (i σ H Q q)⟩
theorem o_no : PO X none (tOO X.K ρ none) := po_none.imp fun σ H Q ⟨F, A, l, rp, k⟩ => k F H (.refl l)
theorem o_so {i : Int} (h : PE X e (tD X.K ρ (.d (.int i)))) : PO X (some e) (tOO X.K ρ (some i)) := (po_some h).imp fun σ H Q ⟨F, A, l, rp, k⟩ => ⟨F, A, l, rp, fun F1 H1 v e1 q1 => by
  cases (show Dp X.K F1 v (.int i) from q1)
  exact ⟨i, rfl, k F1 H1 e1⟩⟩
theorem slS {lo hi : Option Expr} {p2 : Pos} {l h : Option Int} (ha : PE X a (tS X.K ρ ds)) (hl : PO X lo (tOO X.K ρ l)) (hh : PO X hi (tOO X.K ρ h)) (hz : ds.length ≤ sizeLine) : PE X (.Subscript a (.Slice lo hi none p2) pos) (tN X.K ρ (cutD ds l h)) :=
  (pe_slice sl_list ha hl hh).imp fun σ H Q ⟨F, A, le, rp, k⟩ => ⟨F, A, le, rp, fun F1 H1 v e1 ⟨p, xs, ev, s, dp⟩ => ⟨F1, A, e1.fh, rp.mono e1, fun F2 H2 e2 => ⟨F2, A, e2.fh, rp.mono (e1.trans e2), fun F3 H3 e3 => by
    have e23 := e2.trans e3
    refine ⟨p, xs, ev, (Le.of e23.hh).sqL s, fun q n => ?_⟩
    have e13 := e1.trans e23
    refine k F3 _ _ (e13.trans (.newH e3.fh n)) ⟨q, _, rfl, e3.fh.dom q n, e13.hh.free n, upd_same, Nat.le_trans (cutV_length _ _ _) (by rw [DpAll.len dp]; exact hz), dpAll_cut (e23.ff.dps dp) l h⟩⟩⟩⟩
theorem slT {lo hi : Option Expr} {p2 : Pos} {l h : Option Int} (ha : PE X a (tD X.K ρ (.d (.tuple ds)))) (hl : PO X lo (tOO X.K ρ l)) (hh : PO X hi (tOO X.K ρ h)) : PE X (.Subscript a (.Slice lo hi none p2) pos) (tD X.K ρ (.d (.tuple (cutD ds l h)))) :=
  (pe_slice sl_tupA ha hl hh).imp fun σ H Q ⟨F, A, le, rp, k⟩ => ⟨F, A, le, rp, fun F1 H1 v e1 q1 => ⟨F1, A, e1.fh, rp.mono e1, fun F2 H2 e2 => ⟨F2, A, e2.fh, rp.mono (e1.trans e2), fun F3 H3 e3 => by
    have e23 := e2.trans e3
    have e13 := e1.trans e23
    have q1' : Dp X.K F1 v (.tuple ds) := q1
    cases q1' with
    | tup s dp =>
      rename_i aa xs
      refine ⟨aa, xs, rfl, (e23.ff.trans e3.fh).sqT s, fun w => ?_, fun w q n => ?_⟩
      · have : cutD ds l h = ds := by
          unfold cutD
          rw [← DpAll.len dp, w.1, w.2, List.drop_zero, Nat.sub_zero, List.take_of_length_le (by rw [DpAll.len dp]; exact Nat.le_refl _)]
        rw [this] at k
        exact k F3 H3 _ e13 (Dp.tup (e23.ff.sqT s) (e23.ff.dps dp))
      · obtain ⟨e4, l4⟩ := new_fr e13 (o := .tup (cutV xs l h)) n trivial
        exact k _ _ _ e4 (Dp.tup (.inl (.inl upd_same)) (l4.dps (dpAll_cut (e23.ff.dps dp) l h)))⟩⟩⟩
theorem revS {k : Nat} {p1 p2 p3 : Pos} (ha : PE X a (tS X.K ρ ds)) (hz : ds.length ≤ sizeLine) : PE X (.Subscript a (.Slice none none (some (.UnaryOp .USub (.Constant (.int 1) k p1) p2)) p3) pos) (tN X.K ρ ds.reverse) :=
  (pe_revL ha).imp fun σ H Q ⟨F, A, le, rp, kk⟩ => ⟨F, A, le, rp, fun F1 H1 v e1 ⟨p, xs, ev, s, dp⟩ => ⟨p, xs, ev, s, fun q n =>
    kk F1 _ _ (e1.trans (.newH e1.fh n)) ⟨q, _, rfl, e1.fh.dom q n, e1.hh.free n, upd_same, by rw [List.length_reverse, DpAll.len dp]; exact hz, dpAll_rev dp⟩⟩⟩

/-! ### built-ins by name, of one argument -/
theorem call1 {r : List V → Hp → VK → Prop} {nm : Str} {id : String} {p : Pos} (hc : CallR X (.builtin id) r) (hg : Gl X nm) (hm : X.mg nm = none) (hv : bootBuiltins nm = some (.builtin id)) (ha : PE X e (tR X.K ρ Ra))
    (h : ∀ F H F1 H1 x (Q : VK), Le F H → Ext F H F1 H1 → Ra F H F1 H1 x → (∀ F' H' v, Ext F H F' H' → R F H F' H' v → Q v H') → r [x] H1 Q) (hn : nm ≠ "__name__" := by decide) (hdb : (nm == ("__debug__" : Str)) = false := by decide)
    (he : starEach [e] X.env = (false, eval e X.env) :: starEach [] X.env := by rfl) (hpl : (backTo pos (starEach [] X.env)).any (·.1) = false := by rfl) : PE X (.Call (.Name nm p) [e] [] pos) (tR X.K ρ R) :=
  (pe_callB hc hg hm hv (pa_cons ha pa_nil he) hn hdb he hpl).imp fun σ H Q q => op1 (r := fun x H1 Q => r [x] H1 Q) h q
theorem callT1 {r : List V → Hp → VK → Prop} {nm : Str} {T : String} {p : Pos} (hc : CallR X (.type T) r) (hg : Gl X nm) (hm : X.mg nm = none) (hv : bootBuiltins nm = some (.type T)) (ha : PE X e (tR X.K ρ Ra))
    (h : ∀ F H F1 H1 x (Q : VK), Le F H → Ext F H F1 H1 → Ra F H F1 H1 x → (∀ F' H' v, Ext F H F' H' → R F H F' H' v → Q v H') → r [x] H1 Q) (hn : nm ≠ "__name__" := by decide) (hdb : (nm == ("__debug__" : Str)) = false := by decide)
    (he : starEach [e] X.env = (false, eval e X.env) :: starEach [] X.env := by rfl) (hpl : (backTo pos (starEach [] X.env)).any (·.1) = false := by rfl) : PE X (.Call (.Name nm p) [e] [] pos) (tR X.K ρ R) :=
  (pe_callTy hc hg hm hv (pa_cons ha pa_nil he) hn hdb he hpl).imp fun σ H Q q => op1 (r := fun x H1 Q => r [x] H1 Q) h q
variable {p : Pos}
theorem lenS (hg : Gl X "len") (hm : X.mg "len" = none) (ha : PE X e (tS X.K ρ ds)) (he : starEach [e] X.env = (false, eval e X.env) :: starEach [] X.env := by rfl) : PE X (.Call (.Name "len" p) [e] [] pos) (tD X.K ρ (.d (.int ds.length))) :=
  call1 call_len_seq (he := he) hg hm PySem.boot_len ha fun F H F1 H1 x Q l e1 ⟨q, xs, ev, s, dp⟩ k => ⟨q, xs, by rw [ev], .inl s, by
    rw [DpAll.len dp]
    exact k F1 H1 _ e1 (Dp.int _)⟩
theorem lenT (hg : Gl X "len") (hm : X.mg "len" = none) (ha : PE X e (tD X.K ρ (.d (.tuple ds)))) (he : starEach [e] X.env = (false, eval e X.env) :: starEach [] X.env := by rfl) : PE X (.Call (.Name "len" p) [e] [] pos) (tD X.K ρ (.d (.int ds.length))) :=
  call1 call_len_seq (he := he) hg hm PySem.boot_len ha fun F H F1 H1 x Q l e1 q k => by
    have q' : Dp X.K F1 x (.tuple ds) := q
    cases q' with
    | tup s dp =>
      refine ⟨_, _, rfl, .inr (e1.fh.sqT s), ?_⟩
      rw [DpAll.len dp]
      exact k F1 H1 _ e1 (Dp.int _)
theorem lenStr {z : Str} (hg : Gl X "len") (hm : X.mg "len" = none) (ha : PE X e (tD X.K ρ (.d (.str z)))) (hz : z.length ≤ sizeLine) (he : starEach [e] X.env = (false, eval e X.env) :: starEach [] X.env := by rfl) : PE X (.Call (.Name "len" p) [e] [] pos) (tD X.K ρ (.d (.int z.length))) :=
  call1 call_len_str (he := he) hg hm PySem.boot_len ha fun F H F1 H1 x Q l e1 q k => by
    cases (show Dp X.K F1 x (.str z) from q)
    exact ⟨z, rfl, hz, k F1 H1 _ e1 (Dp.int _)⟩
theorem kdat_len {κ : Type} {K : PySem.W.Frag} {F : Hp} {vs : List (κ × V)} {kvs : List (κ × PyData)} (h : KDat K F vs kvs) : vs.length = kvs.length := Paired.length h
theorem lenK {kvs : List (Key × PyData)} (hg : Gl X "len") (hm : X.mg "len" = none) (ha : PE X e (tD X.K ρ (.dk kvs))) (he : starEach [e] X.env = (false, eval e X.env) :: starEach [] X.env := by rfl) : PE X (.Call (.Name "len" p) [e] [] pos) (tD X.K ρ (.d (.int kvs.length))) :=
  call1 (r := fun xs H Q => ∃ a vs, xs = [.ref a] ∧ Rd H a (.dK vs) ∧ Q (.int vs.length) H) (fun pins s σ H xs us Q I r ⟨a, vs, ex, rd, q⟩ => by
    subst ex
    rw [Vals.ref1 r]
    exact d_len I rd fun t s' I' => ⟨.int vs.length, H, I', ⟨t, rfl⟩, q⟩) (he := he) hg hm PySem.boot_len ha fun F H F1 H1 x Q l e1 ⟨q, vs, ev, rd, kd⟩ k => ⟨q, vs, by rw [ev], e1.fh.rd _ _ trivial rd, by
    rw [kdat_len kd]
    exact k F1 H1 _ e1 (Dp.int _)⟩
theorem dpAll_bls {K : PySem.W.Frag} {F : Hp} : ∀ {vs : List V} {bs : List Bool}, DpAll K F vs (bs.map .bool) → vs = bs.map .bl
  | _, [], h => by cases h; rfl
  | _, k :: ks, h => by
    cases h with
    | cons h t => cases h; rw [dpAll_bls t]; rfl
theorem dpAll_strs {K : PySem.W.Frag} {F : Hp} : ∀ {vs : List V} {bs : List Str}, DpAll K F vs (bs.map .str) → vs = bs.map .str
  | _, [], h => by cases h; rfl
  | _, k :: ks, h => by
    cases h with
    | cons h t => cases h; rw [dpAll_strs t]; rfl
theorem dpAll_ints {K : PySem.W.Frag} {F : Hp} : ∀ {vs : List V} {bs : List Int}, DpAll K F vs (bs.map .int) → vs = bs.map .int
  | _, [], h => by cases h; rfl
  | _, k :: ks, h => by
    cases h with
    | cons h t => cases h; rw [dpAll_ints t]; rfl
theorem strs_dp {K : PySem.W.Frag} {F : Hp} : ∀ (bs : List Str), DpAll K F (bs.map .str) (bs.map .str)
  | [] => .nil
  | b :: bs => .cons (.str b) (strs_dp bs)
theorem ints_dp {K : PySem.W.Frag} {F : Hp} : ∀ (bs : List Int), DpAll K F (bs.map .int) (bs.map .int)
  | [] => .nil
  | b :: bs => .cons (.int b) (ints_dp bs)
theorem allS {bs : List Bool} (hc : X.calm = true) (hg : Gl X "all") (hm : X.mg "all" = none) (hv : bootBuiltins "all" = some (.builtin "all")) (ha : PE X e (tS X.K ρ (bs.map .bool))) (he : starEach [e] X.env = (false, eval e X.env) :: starEach [] X.env := by rfl) : PE X (.Call (.Name "all" p) [e] [] pos) (tD X.K ρ (.d (.bool (bs.all id)))) :=
  call1 (cr_all hc) (he := he) hg hm hv ha fun F H F1 H1 x Q l e1 ⟨q, xs, ev, s, dp⟩ k => ⟨q, bs, by rw [ev], by rw [← dpAll_bls dp]; exact s, k F1 H1 _ e1 (Dp.bl _)⟩
theorem tupS (hg : Gl X "tuple") (hm : X.mg "tuple" = none) (hv : bootBuiltins "tuple" = some (.type "tuple")) (ha : PE X e (tS X.K ρ ds)) (he : starEach [e] X.env = (false, eval e X.env) :: starEach [] X.env := by rfl) : PE X (.Call (.Name "tuple" p) [e] [] pos) (tD X.K ρ (.d (.tuple ds))) :=
  callT1 call_tuple_of (he := he) hg hm hv ha fun F H F1 H1 x Q l e1 ⟨q, xs, ev, s, dp⟩ k => ⟨q, xs, by rw [ev], .inl ⟨s, fun t n => by
    obtain ⟨e2, l2⟩ := new_fr e1 (o := .tup xs) n trivial
    exact k _ _ _ e2 (Dp.tup (.inl (.inl upd_same)) (l2.dps dp))⟩⟩
theorem lstS (hg : Gl X "list") (hm : X.mg "list" = none) (hv : bootBuiltins "list" = some (.type "list")) (ha : PE X e (tS X.K ρ ds)) (hz : ds.length ≤ sizeLine) (he : starEach [e] X.env = (false, eval e X.env) :: starEach [] X.env := by rfl) : PE X (.Call (.Name "list" p) [e] [] pos) (tN X.K ρ ds) :=
  callT1 call_list_of (he := he) hg hm hv ha fun F H F1 H1 x Q l e1 ⟨q, xs, ev, s, dp⟩ k => ⟨q, xs, by rw [ev], .inl s, fun t n =>
    k F1 _ _ (e1.trans (.newH e1.fh n)) ⟨t, xs, rfl, e1.fh.dom t n, e1.hh.free n, upd_same, by rw [DpAll.len dp]; exact hz, dp⟩⟩
theorem lstT (hg : Gl X "list") (hm : X.mg "list" = none) (hv : bootBuiltins "list" = some (.type "list")) (ha : PE X e (tD X.K ρ (.d (.tuple ds)))) (hz : ds.length ≤ sizeLine) (he : starEach [e] X.env = (false, eval e X.env) :: starEach [] X.env := by rfl) : PE X (.Call (.Name "list" p) [e] [] pos) (tN X.K ρ ds) :=
  callT1 call_list_of (he := he) hg hm hv ha fun F H F1 H1 x Q l e1 q k => by
    have q' : Dp X.K F1 x (.tuple ds) := q
    cases q' with
    | tup s dp =>
      exact ⟨_, _, rfl, .inr (e1.fh.sqT s), fun t n => k F1 _ _ (e1.trans (.newH e1.fh n)) ⟨t, _, rfl, e1.fh.dom t n, e1.hh.free n, upd_same, by rw [DpAll.len dp]; exact hz, dp⟩⟩

/-! ### sorted -/
def srt (ds : List PyData) : List PyData := ds.mergeSort (PySem.W.dataLe false fun d => d)
theorem srt_length (ds : List PyData) : (srt ds).length = ds.length := List.length_mergeSort ..
def rSortD (K : PySem.W.Frag) : List V → Hp → VK → Prop := fun vs H Q => ∃ (a : Addr) (xs : List V) (ds : List PyData), vs = [V.ref a] ∧ SqL K H a xs ∧ DpAll K H xs ds ∧ PySem.W.AllAlike ds ∧ PySem.W.Sortable ds ∧ (∀ d ∈ ds, d.depth ≤ 20) ∧
  ∀ (bs : List (V × PyData)) (p : Addr), bs.Perm (xs.zip ds) → bs.map (·.2) = srt ds → H p = none → Q (.ref p) (upd H p (.lst (bs.map (·.1))))
theorem each_vals {xs : List V} : ∀ {ds : List PyData} {its : List Value}, Vals xs its → xs.length = ds.length → PySem.W.EachIs (fun v (b : V × PyData) => RelV b.1 v) its (xs.zip ds) := by
  induction xs with
  | nil => intro ds its h _; cases h; exact .nil
  | cons x xs ih =>
    intro ds its h hl
    cases h with
    | cons h t =>
      cases ds with
      | nil => cases hl
      | cons d ds => exact .cons h (ih t (by simpa using hl))
theorem vals_each : ∀ {bs : List (V × PyData)} {its : List Value}, PySem.W.EachIs (fun v (b : V × PyData) => RelV b.1 v) its bs → Vals (bs.map (·.1)) its
  | _, _, .nil => .nil
  | _, _, .cons h t => .cons h (vals_each t)
theorem each_reads {pins : List (Addr × Obj)} {σ : L2.St} {H : Hp} {s : Shared} (I : Inv X pins σ H s) : ∀ {xs : List V} {ds : List PyData} {its : List Value}, Vals xs its → DpAll X.K H xs ds → PySem.W.EachIs (fun v (b : V × PyData) => ∃ as, Reads s.heap v b.2 as) its (xs.zip ds)
  | _, _, _, .nil, .nil => .nil
  | _, _, _, .cons r t, .cons h q => .cons (Dp.reads I _ _ _ h r) (each_reads I t q)
theorem zip_snd {α β : Type} : ∀ {xs : List α} {ds : List β}, xs.length = ds.length → (xs.zip ds).map (·.2) = ds := fun h => List.map_snd_zip (by omega)
theorem cr_sortD (hu : X.A.units + 64 < cLine) : CallR X (.builtin "sorted") (rSortD X.K) := by
  intro pins s σ H vs us Q; intro I r h
  obtain ⟨a, xs, ds, rfl, hs, dp, hal, hk, hd, q⟩ := h
  rcases I.list hs with ⟨its, rv, hl, hz⟩
  rw [Vals.ref1 r]
  have hlen := DpAll.len dp
  have hm : (xs.zip ds).map (fun b : V × PyData => b.2) = ds := zip_snd hlen
  have hzl : (xs.zip ds).length = xs.length := by rw [List.length_zip]; omega
  refine PySem.W.sorted_data (enc := fun b : V × PyData => b.2) (bs := xs.zip ds) hl.isList (each_vals rv hlen) (each_reads I rv dp) (by rw [hm]; exact hal) (by rw [hm]; exact hk) (by rw [hzl]; exact hz) (fun b hb => ?_) fun out h1 h2 => ?_
  · have := hd b.2 (by rw [← hm]; exact List.mem_map.mpr ⟨b, hb, rfl⟩)
    omega
  · obtain ⟨ep, he'⟩ := PyProof.Rows.sortedAll_at s.heap its out.toArray
    refine ⟨.ref _, upd H (s.heap.objs.size + 1) (.lst (((xs.zip ds).mergeSort (PySem.W.dataLe false fun b : V × PyData => b.2)).map (·.1))), I.laid (t' := s.toks) (fun _ _ => PyProof.Rows.sortedAll_old) (Nat.le_succ _)
      ⟨?_, out, ep, vals_each h2, he'⟩, rfl, q _ _ (List.mergeSort_perm _ _) ?_ (I.hok.fresh (Nat.le_succ _))⟩
    · rw [List.length_map, List.length_mergeSort, hzl]; exact hz
    · unfold srt
      have z := PySem.W.sort_maps (r := PySem.W.dataLe false fun b : V × PyData => b.2) (s := PySem.W.dataLe false fun d => d) (fun b : V × PyData => b.2) (l := xs.zip ds) (fun _ _ _ _ => rfl)
      rw [hm] at z
      exact z
theorem dpAll_zip {K : PySem.W.Frag} {F : Hp} : ∀ {vs : List V} {ds : List PyData}, DpAll K F vs ds → ∀ b ∈ vs.zip ds, Dp K F b.1 b.2
  | _, _, .nil, b, h => by simp at h
  | _, _, .cons h t, b, m => by
    rw [List.zip_cons_cons] at m
    rcases List.mem_cons.mp m with rfl | m
    · exact h
    · exact dpAll_zip t b m
theorem zip_dpAll {K : PySem.W.Frag} {F : Hp} : ∀ {bs : List (V × PyData)}, (∀ b ∈ bs, Dp K F b.1 b.2) → DpAll K F (bs.map (·.1)) (bs.map (·.2))
  | [], _ => .nil
  | b :: bs, h => .cons (h b List.mem_cons_self) (zip_dpAll fun c m => h c (List.mem_cons_of_mem _ m))
theorem srtS (hu : X.A.units + 64 < cLine) (hg : Gl X "sorted") (hm : X.mg "sorted" = none) (hv : bootBuiltins "sorted" = some (.builtin "sorted")) (ha : PE X e (tS X.K ρ ds)) (hal : PySem.W.AllAlike ds) (hk : PySem.W.Sortable ds) (hd : ∀ d ∈ ds, d.depth ≤ 20) (hz : ds.length ≤ sizeLine) (he : starEach [e] X.env = (false, eval e X.env) :: starEach [] X.env := by rfl) :
    PE X (.Call (.Name "sorted" p) [e] [] pos) (tN X.K ρ (srt ds)) :=
  call1 (cr_sortD hu) (he := he) hg hm hv ha fun F H F1 H1 x Q l e1 ⟨q, xs, ev, s, dp⟩ k => ⟨q, xs, ds, by rw [ev], s, e1.fh.dps dp, hal, hk, hd, fun bs t pm es n => by
    refine k F1 _ _ (e1.trans (.newH e1.fh n)) ⟨t, _, rfl, e1.fh.dom t n, e1.hh.free n, upd_same, ?_, ?_⟩
    · rw [List.length_map, pm.length_eq, List.length_zip, DpAll.len dp]; omega
    · rw [← es]
      exact zip_dpAll fun b m => dpAll_zip dp b (pm.mem_iff.mp m)⟩

/-! ### calls of the program's own defs -/
def spD (K : PySem.W.Frag) (R : List D → D → Prop) : Sp := fun vs H Q _ => ∃ F ds d, Le F H ∧ IsAll K F vs ds ∧ R ds d ∧ ∀ F' H' v, Ext F H F' H' → Is K F' v d → Q v H'
theorem dcall {k : Nat} {f : Addr} {fd : FuncData} {ps : List Str} {Rf : List D → D → Prop} {nm : Str} {es : List Expr} {dl : List D} (G : FnOk X.prog X.w X.K X.mg X.base CX0 k f fd ps (spD X.K Rf)) (hr : Room k X.A) (hg : Gl X nm) (hm : X.mg nm = some (.ref f))
    (hk : PySem.W.keepIn X.K (.ref f) = true) (hb : Binds X.K fd ps []) (ha : PA X (e :: es) (tAr X.K ρ dl)) (h : Rf dl d) (hdb : (nm == ("__debug__" : Str)) = false := by decide) (he : starEach (e :: es) X.env = (false, eval e X.env) :: starEach es X.env := by rfl)
    (hpl : (backTo pos (starEach es X.env)).any (·.1) = false := by rfl) : PE X (.Call (.Name nm p) (e :: es) [] pos) (tD X.K ρ d) :=
  (pe_call G hr hg hm hk hb .nil pass0 ha hdb he hpl).imp fun σ H Q ⟨F, A, l, rp, kk⟩ => ⟨F, A, l, rp, fun F1 H1 vs e1 q1 => by
    show spD X.K Rf (vs ++ []) H1 Q E0
    rw [List.append_nil]
    exact ⟨F1, dl, d, e1.fh, q1, h, fun F2 H2 v e2 q2 => kk F2 H2 v (e1.trans e2) q2⟩⟩
end
end KL
/-! DLe: what is walked, targets, comprehensions over data. -/
namespace KL
open PySem PySem.Spec L2
/-- J walks the items, whatever grows meanwhile (but for what stands at A) -/
def Walks (K : PySem.W.Frag) (J : It) (F1 H1 : Hp) (A1 : List Addr) (items : List PyData) : Prop :=
  ∀ i F H A, StEx F1 H1 A1 F H A → (items.length ≤ i → J.stop i H) ∧ ∀ d, items[i]? = some d → J.go i H ∧ ∀ x H', J.yld i H x H' → ∃ F', Ext F H F' H' ∧ Dp K F' x d
/-- c: of a comprehension (nothing that stands changes meanwhile) -/
def tI (K : PySem.W.Frag) (ρ : List Sl) (c : Bool) (items : List PyData) : TI := fun σ H R => ∃ F A, Le F H ∧ Rep K F H ρ σ A ∧ ∀ F1 H1 J, Ext F H F1 H1 → Walks K J F1 H1 (if c = true then [] else A) items → R J H1
theorem _root_.L2.PI.imp {X : Cx} {tg e : Expr} {t t' : TI} (h : PI X tg e t) (i : ∀ σ H Q, t' σ H Q → t σ H Q) : PI X tg e t' := ⟨fun pins s σ H Q I q => h.run pins s σ H Q I (i σ H Q q)⟩
theorem _root_.L2.PI.all {X : Cx} {tg e : Expr} {ι : Type} {t : ι → TI} (h : ∀ i, PI X tg e (t i)) : PI X tg e (fun σ H Q => ∃ i, t i σ H Q) := ⟨fun pins s σ H Q I ⟨i, q⟩ => (h i).run pins s σ H Q I q⟩
theorem _root_.L2.PG.all {X : Cx} {tg : Expr} {ι : Type} {t : ι → TG} (h : ∀ i, PG X tg (t i)) : PG X tg (fun v σ H Q => ∃ i, t i v σ H Q) := ⟨fun pins s σ H v u Q I r ⟨i, q⟩ => (h i).run pins s σ H v u Q I r q⟩
theorem _root_.L2.PTs.all {X : Cx} {e : List Expr} {ι : Type} {t : ι → TT} (h : ∀ i, PTs X e (t i)) : PTs X e (fun σ H Q => ∃ i, t i σ H Q) := ⟨fun pins s σ H Q I ⟨i, q⟩ => (h i).run pins s σ H Q I q⟩
theorem _root_.L2.PG.imp {X : Cx} {tg : Expr} {t t' : TG} (h : PG X tg t) (i : ∀ v σ H Q, t' v σ H Q → t v σ H Q) : PG X tg t' := ⟨fun pins s σ H v u Q I r q => h.run pins s σ H v u Q I r (i v σ H Q q)⟩
theorem _root_.L2.PGs.imp {X : Cx} {tg : List Expr} {t t' : TGs} (h : PGs X tg t) (i : ∀ v σ H Q, t' v σ H Q → t v σ H Q) : PGs X tg t' := ⟨fun pins s σ H v u Q I r q => h.run pins s σ H v u Q I r (i v σ H Q q)⟩
theorem _root_.L2.PTs.imp {X : Cx} {e : List Expr} {t t' : TT} (h : PTs X e t) (i : ∀ σ H Q, t' σ H Q → t σ H Q) : PTs X e t' := ⟨fun pins s σ H Q I q => h.run pins s σ H Q I (i σ H Q q)⟩

section
variable {K : PySem.W.Frag}
theorem walks_list {F1 H1 : Hp} {A : List Addr} {a : Addr} {xs : List V} {ds : List PyData} (hs : ∀ F H A', StEx F1 H1 A F H A' → SqL K H a xs) (dp : DpAll K F1 xs ds) : Walks K (Itl K a) F1 H1 A ds := fun i F H A' st => by
  have s := hs F H A' st
  refine ⟨fun hi => ⟨xs, s, by rw [DpAll.len dp]; exact hi⟩, fun d e => ?_⟩
  obtain ⟨v, h1, h2⟩ := dpAll_get dp e
  refine ⟨⟨xs, v, s, h1⟩, fun x H' ⟨e1, y⟩ => ?_⟩
  subst e1
  have := y xs s
  rw [h1] at this
  cases this
  exact ⟨F, .refl st.fh, st.ff.dp h2⟩
theorem walks_tup {F1 H1 : Hp} {A : List Addr} {a : Addr} {xs : List V} {ds : List PyData} (hs : ∀ F H A', StEx F1 H1 A F H A' → SqT K H a xs) (dp : DpAll K F1 xs ds) : Walks K (Itt K a) F1 H1 A ds := fun i F H A' st => by
  have s := hs F H A' st
  refine ⟨fun hi => ⟨xs, s, by rw [DpAll.len dp]; exact hi⟩, fun d e => ?_⟩
  obtain ⟨v, h1, h2⟩ := dpAll_get dp e
  refine ⟨⟨xs, v, s, h1⟩, fun x H' ⟨e1, y⟩ => ?_⟩
  subst e1
  have := y xs s
  rw [h1] at this
  cases this
  exact ⟨F, .refl st.fh, st.ff.dp h2⟩
def enumD (ds : List PyData) : List PyData := ds.zipIdx.map fun p => .tuple [.int (p.2 : Nat), p.1]
theorem enumD_get {ds : List PyData} {i : Nat} {d : PyData} (h : (enumD ds)[i]? = some d) : ∃ z, ds[i]? = some z ∧ d = .tuple [.int (i : Nat), z] := by
  unfold enumD at h
  rw [List.getElem?_map, List.getElem?_zipIdx] at h
  cases e : ds[i]? with
  | none => rewrite [e] at h; cases h
  | some z =>
    rw [e] at h
    refine ⟨z, rfl, ?_⟩
    simp at h
    exact h.symm
theorem enumD_length (ds : List PyData) : (enumD ds).length = ds.length := by simp [enumD]
theorem walks_enum {F1 H1 : Hp} {A : List Addr} {a : Addr} {xs : List V} {ds : List PyData} (hs : ∀ F H A', StEx F1 H1 A F H A' → SqL K H a xs) (dp : DpAll K F1 xs ds) : Walks K (Ite K a) F1 H1 A (enumD ds) := fun i F H A' st => by
  have s := hs F H A' st
  refine ⟨fun hi => ⟨xs, s, by rw [DpAll.len dp, ← enumD_length ds]; exact hi⟩, fun d e => ?_⟩
  obtain ⟨z, ez, rfl⟩ := enumD_get e
  obtain ⟨v, h1, h2⟩ := dpAll_get dp ez
  refine ⟨⟨xs, v, s, h1⟩, fun x H' ⟨T, y, ex, n, eH, yy⟩ => ?_⟩
  subst ex
  subst eH
  have := yy xs s
  rw [h1] at this
  cases this
  obtain ⟨e2, l2⟩ := new_fr (.refl st.fh) (o := .tup [.int (i : Nat), v]) n trivial
  exact ⟨_, e2, .tup (.inl (.inl upd_same)) (.cons (.int _) (.cons (l2.dp (st.ff.dp h2)) .nil))⟩
def zipD (ds es : List PyData) : List PyData := List.zipWith (fun x y => .tuple [x, y]) ds es
theorem zipD_get {ds es : List PyData} {i : Nat} {d : PyData} (h : (zipD ds es)[i]? = some d) : ∃ x y, ds[i]? = some x ∧ es[i]? = some y ∧ d = .tuple [x, y] := by
  unfold zipD at h
  rw [List.getElem?_zipWith] at h
  cases e1 : ds[i]? with
  | none => rw [e1] at h; cases h
  | some x =>
    cases e2 : es[i]? with
    | none => rw [e1, e2] at h; cases h
    | some y =>
      rw [e1, e2] at h
      exact ⟨x, y, rfl, rfl, (Option.some.inj h).symm⟩
theorem walks_zip {F1 H1 : Hp} {A : List Addr} {a b : Addr} {xs ys : List V} {ds es : List PyData} (hs : ∀ F H A', StEx F1 H1 A F H A' → SqL K H a xs ∧ SqL K H b ys) (dp : DpAll K F1 xs ds) (dp2 : DpAll K F1 ys es) : Walks K (Itz K a b) F1 H1 A (zipD ds es) := fun i F H A' st => by
  obtain ⟨s, s2⟩ := hs F H A' st
  refine ⟨fun hi => ⟨xs, ys, s, s2, ?_⟩, fun d e => ?_⟩
  · unfold zipD at hi
    rw [List.length_zipWith] at hi
    rw [DpAll.len dp, DpAll.len dp2]
    omega
  · obtain ⟨x, y, ex, ey, rfl⟩ := zipD_get e
    obtain ⟨v, h1, h2⟩ := dpAll_get dp ex
    obtain ⟨w, g1, g2⟩ := dpAll_get dp2 ey
    refine ⟨⟨xs, ys, v, w, s, s2, h1, g1⟩, fun z H' ⟨T, u1, u2, ez, n, eH, y1, y2⟩ => ?_⟩
    subst ez
    subst eH
    have z1 := y1 xs s
    have z2 := y2 ys s2
    rw [h1] at z1
    rw [g1] at z2
    cases z1
    cases z2
    obtain ⟨e2, l2⟩ := new_fr (.refl st.fh) (o := .tup [v, w]) n trivial
    exact ⟨_, e2, .tup (.inl (.inl upd_same)) (.cons (l2.dp (st.ff.dp h2)) (.cons (l2.dp (st.ff.dp g2)) .nil))⟩
theorem walks_zipT {F1 H1 : Hp} {A : List Addr} {a b : Addr} {xs ys : List V} {ds es : List PyData} (hs : ∀ F H A', StEx F1 H1 A F H A' → SqT K H a xs ∧ SqT K H b ys) (dp : DpAll K F1 xs ds) (dp2 : DpAll K F1 ys es) : Walks K (RZ.ItzT K a b) F1 H1 A (zipD ds es) := fun i F H A' st => by
  obtain ⟨s, s2⟩ := hs F H A' st
  refine ⟨fun hi => ⟨xs, ys, s, s2, ?_⟩, fun d e => ?_⟩
  · unfold zipD at hi
    rw [List.length_zipWith] at hi
    rw [DpAll.len dp, DpAll.len dp2]
    omega
  · obtain ⟨x, y, ex, ey, rfl⟩ := zipD_get e
    obtain ⟨v, h1, h2⟩ := dpAll_get dp ex
    obtain ⟨w, g1, g2⟩ := dpAll_get dp2 ey
    refine ⟨⟨xs, ys, v, w, s, s2, h1, g1⟩, fun z H' ⟨T, u1, u2, ez, n, eH, y1, y2⟩ => ?_⟩
    subst ez
    subst eH
    have z1 := y1 xs s
    have z2 := y2 ys s2
    rw [h1] at z1
    rw [g1] at z2
    cases z1
    cases z2
    obtain ⟨e2, l2⟩ := new_fr (.refl st.fh) (o := .tup [v, w]) n trivial
    exact ⟨_, e2, .tup (.inl (.inl upd_same)) (.cons (l2.dp (st.ff.dp h2)) (.cons (l2.dp (st.ff.dp g2)) .nil))⟩
def rangeD (n : Nat) : List PyData := (List.range n).map fun i => .int (i : Nat)
theorem walks_range {F1 H1 : Hp} {A : List Addr} (n : Nat) : Walks K (Itr 0 n) F1 H1 A (rangeD n) := fun i F H A' st => by
  refine ⟨fun hi => by
    have z : n ≤ i := by simpa [rangeD] using hi
    exact z, fun d e => ?_⟩
  unfold rangeD at e
  rw [List.getElem?_map] at e
  by_cases h : i < n
  · rw [List.getElem?_range h] at e
    cases e
    refine ⟨h, fun x H' ⟨e1, ex⟩ => ?_⟩
    subst e1
    rw [ex, Int.zero_add]
    exact ⟨F, .refl st.fh, .int _⟩
  · rw [List.getElem?_eq_none (by simpa using h)] at e
    cases e
theorem walks_rev {F1 H1 : Hp} {A : List Addr} {a : Addr} {xs : List V} {ds : List PyData} (hs : ∀ F H A', StEx F1 H1 A F H A' → SqL K H a xs) (dp : DpAll K F1 xs ds) : Walks K (Itv K a xs.length) F1 H1 A ds.reverse := fun i F H A' st => by
  have s := hs F H A' st
  have hl := DpAll.len dp
  refine ⟨fun hi => by rw [List.length_reverse] at hi; show xs.length ≤ i; omega, fun d e => ?_⟩
  have hi : i < ds.length := by
    have := (List.getElem?_eq_some_iff.mp e).1
    rw [List.length_reverse] at this
    exact this
  rw [List.getElem?_reverse hi] at e
  obtain ⟨v, h1, h2⟩ := dpAll_get dp e
  have e1 : ds.length - 1 - i = xs.length - 1 - i := by omega
  rw [e1] at h1
  refine ⟨⟨by omega, xs, v, s, h1⟩, fun x H' ⟨e1, y⟩ => ?_⟩
  subst e1
  have := y xs s
  rw [h1] at this
  cases this
  exact ⟨F, .refl st.fh, st.ff.dp h2⟩
def signsD (x : Str) : List PyData := x.cps.toList.map fun c => .str ⟨#[c]⟩
theorem walks_str {F1 H1 : Hp} {A : List Addr} (x : Str) : Walks K (Its x) F1 H1 A (signsD x) := fun i F H A' st => by
  refine ⟨fun hi => by
    have z : x.cps.size ≤ i := by simpa [signsD] using hi
    exact z, fun d e => ?_⟩
  unfold signsD at e
  rw [List.getElem?_map] at e
  cases h : x.cps.toList[i]? with
  | none => rw [h] at e; cases e
  | some c =>
    rw [h] at e
    cases e
    have h' : x.cps[i]? = some c := by rw [← Array.getElem?_toList]; exact h
    refine ⟨(Array.getElem?_eq_some_iff.mp h').1, fun v H' ⟨e1, c', ec, ev⟩ => ?_⟩
    subst e1
    rw [h'] at ec
    cases ec
    rw [ev]
    exact ⟨F, .refl st.fh, .str _⟩
end

section
variable {X : Cx} {ρ : List Sl} {tg e e2 : Expr} {ds es : List PyData} {pos p : Pos} {c : Bool}
theorem i_s (h : PE X e (tS X.K ρ ds)) : PI X tg e (tI X.K ρ true ds) := (pi_list h).imp fun σ H R ⟨F, A, l, rp, k⟩ => ⟨F, A, l, rp, fun F1 H1 v e1 ⟨a, xs, ev, s, dp⟩ =>
  ⟨a, ev, ⟨xs, s⟩, k F1 H1 _ e1 (by rw [if_pos rfl]; exact walks_list (fun F H A' st => (Le.of st.ext.hh).sqL s) dp)⟩⟩
theorem i_l (h : PE X e (tD X.K ρ (.d (.list ds)))) : PI X tg e (tI X.K ρ c ds) := (pi_list h).imp fun σ H R ⟨F, A, l, rp, k⟩ => ⟨F, A, l, rp, fun F1 H1 v e1 q => by
  have q' : Dp X.K F1 v (.list ds) := q
  cases q' with
  | lst s dp => exact ⟨_, rfl, ⟨_, e1.fh.sqL s⟩, k F1 H1 _ e1 (walks_list (fun F H A' st => (st.ff.trans st.fh).sqL s) dp)⟩⟩
theorem i_t (h : PE X e (tD X.K ρ (.d (.tuple ds)))) : PI X tg e (tI X.K ρ c ds) := (pi_tup h).imp fun σ H R ⟨F, A, l, rp, k⟩ => ⟨F, A, l, rp, fun F1 H1 v e1 q => by
  have q' : Dp X.K F1 v (.tuple ds) := q
  cases q' with
  | tup s dp => exact ⟨_, rfl, ⟨_, e1.fh.sqT s⟩, k F1 H1 _ e1 (walks_tup (fun F H A' st => (st.ff.trans st.fh).sqT s) dp)⟩⟩
theorem i_str {x : Str} (h : PE X e (tD X.K ρ (.d (.str x)))) : PI X tg e (tI X.K ρ c (signsD x)) := (pi_str h).imp fun σ H R ⟨F, A, l, rp, k⟩ => ⟨F, A, l, rp, fun F1 H1 v e1 q => by
  cases (show Dp X.K F1 v (.str x) from q)
  exact ⟨x, rfl, k F1 H1 _ e1 (walks_str x)⟩⟩
variable {elts : List Expr} {kk : Nat} {tpos : Pos}
theorem i_enumS (hg : Gl X "enumerate") (hm : X.mg "enumerate" = none) (h : PE X e (tS X.K ρ ds)) (hs : starEach [e] X.env = [(false, eval e X.env)] := by rfl) : PI X (.Tuple elts kk tpos) (.Call (.Name "enumerate" p) [e] [] pos) (tI X.K ρ true (enumD ds)) :=
  (pi_enum hg hm (pa_cons h pa_nil hs) hs).imp fun σ H R ⟨F, A, l, rp, k⟩ => ⟨F, A, l, rp, fun F1 H1 v e1 ⟨a, xs, ev, s, dp⟩ =>
    ⟨a, xs, by rw [ev], s, k F1 H1 _ e1 (by rw [if_pos rfl]; exact walks_enum (fun F H A' st => (Le.of st.ext.hh).sqL s) dp)⟩⟩
theorem i_enumL (hg : Gl X "enumerate") (hm : X.mg "enumerate" = none) (h : PE X e (tD X.K ρ (.d (.list ds)))) (hs : starEach [e] X.env = [(false, eval e X.env)] := by rfl) : PI X (.Tuple elts kk tpos) (.Call (.Name "enumerate" p) [e] [] pos) (tI X.K ρ c (enumD ds)) :=
  (pi_enum hg hm (pa_cons h pa_nil hs) hs).imp fun σ H R ⟨F, A, l, rp, k⟩ => ⟨F, A, l, rp, fun F1 H1 v e1 q => by
    have q' : Dp X.K F1 v (.list ds) := q
    cases q' with
    | lst s dp => exact ⟨_, _, rfl, e1.fh.sqL s, k F1 H1 _ e1 (walks_enum (fun F H A' st => (st.ff.trans st.fh).sqL s) dp)⟩⟩
theorem i_zipL (hg : Gl X "zip") (hm : X.mg "zip" = none) (h : PE X e (tD X.K ρ (.d (.list ds)))) (h2 : PE X e2 (tD X.K ρ (.d (.list es)))) (hs : starEach [e, e2] X.env = (false, eval e X.env) :: starEach [e2] X.env := by rfl) (hs2 : starEach [e2] X.env = (false, eval e2 X.env) :: starEach [] X.env := by rfl)
    (hpl : (backTo pos (starEach [e2] X.env)).any (·.1) = false := by rfl) : PI X (.Tuple elts kk tpos) (.Call (.Name "zip" p) [e, e2] [] pos) (tI X.K ρ c (zipD ds es)) :=
  (RZ.pi_zipA hg hm (pa_cons h (pa_cons h2 pa_nil hs2) hs) hs hpl).imp fun σ H R ⟨F, A, l, rp, k⟩ => ⟨F, A, l, rp, fun F1 H1 v e1 q1 => ⟨F1, A, e1.fh, rp.mono e1, fun F2 H2 w e2 q2 => by
    have q1' : Dp X.K F1 v (.list ds) := q1
    have q2' : Dp X.K F2 w (.list es) := q2
    cases q1' with
    | lst s1 d1 =>
      cases q2' with
      | lst s2 d2 =>
        exact ⟨_, _, _, _, rfl, .inl ⟨(e2.ff.trans e2.fh).sqL s1, e2.fh.sqL s2, k F2 H2 _ (e1.trans e2) (walks_zip (fun F H A' st => ⟨((e2.ff.trans st.ff).trans st.fh).sqL s1, (st.ff.trans st.fh).sqL s2⟩) (e2.ff.dps d1) d2)⟩⟩⟩⟩
theorem i_zipT (hg : Gl X "zip") (hm : X.mg "zip" = none) (h : PE X e (tD X.K ρ (.d (.tuple ds)))) (h2 : PE X e2 (tD X.K ρ (.d (.tuple es)))) (hs : starEach [e, e2] X.env = (false, eval e X.env) :: starEach [e2] X.env := by rfl) (hs2 : starEach [e2] X.env = (false, eval e2 X.env) :: starEach [] X.env := by rfl)
    (hpl : (backTo pos (starEach [e2] X.env)).any (·.1) = false := by rfl) : PI X (.Tuple elts kk tpos) (.Call (.Name "zip" p) [e, e2] [] pos) (tI X.K ρ c (zipD ds es)) :=
  (RZ.pi_zipA hg hm (pa_cons h (pa_cons h2 pa_nil hs2) hs) hs hpl).imp fun σ H R ⟨F, A, l, rp, k⟩ => ⟨F, A, l, rp, fun F1 H1 v e1 q1 => ⟨F1, A, e1.fh, rp.mono e1, fun F2 H2 w e2 q2 => by
    have q1' : Dp X.K F1 v (.tuple ds) := q1
    have q2' : Dp X.K F2 w (.tuple es) := q2
    cases q1' with
    | tup s1 d1 =>
      cases q2' with
      | tup s2 d2 =>
        exact ⟨_, _, _, _, rfl, .inr ⟨(e2.ff.trans e2.fh).sqT s1, e2.fh.sqT s2, k F2 H2 _ (e1.trans e2) (walks_zipT (fun F H A' st => ⟨((e2.ff.trans st.ff).trans st.fh).sqT s1, (st.ff.trans st.fh).sqT s2⟩) (e2.ff.dps d1) d2)⟩⟩⟩⟩
theorem i_range {n : Nat} (hg : Gl X "range") (hm : X.mg "range" = none) (h : PE X e (tD X.K ρ (.d (.int (n : Nat))))) (hn : n < 2 ^ 60) (hs : starEach [e] X.env = [(false, eval e X.env)] := by rfl) : PI X tg (.Call (.Name "range" p) [e] [] pos) (tI X.K ρ c (rangeD n)) :=
  (pi_range1 hg hm (pa_cons h pa_nil hs) hs).imp fun σ H R ⟨F, A, l, rp, k⟩ => ⟨F, A, l, rp, fun F1 H1 v e1 q => by
    cases (show Dp X.K F1 v (.int (n : Nat)) from q)
    refine ⟨(n : Nat), rfl, by omega, by omega, ?_⟩
    rw [Int.toNat_natCast]
    exact k F1 H1 _ e1 (walks_range n)⟩
theorem i_rev (hg : Gl X "reversed") (hm : X.mg "reversed" = none) (h : PE X e (tD X.K ρ (.d (.list ds)))) (hs : starEach [e] X.env = [(false, eval e X.env)] := by rfl) : PI X tg (.Call (.Name "reversed" p) [e] [] pos) (tI X.K ρ c ds.reverse) :=
  (pi_reversed hg hm (pa_cons h pa_nil hs) hs).imp fun σ H R ⟨F, A, l, rp, k⟩ => ⟨F, A, l, rp, fun F1 H1 v e1 q => by
    have q' : Dp X.K F1 v (.list ds) := q
    cases q' with
    | lst s dp => exact ⟨_, _, rfl, e1.fh.sqL s, k F1 H1 _ e1 (walks_rev (fun F H A' st => (st.ff.trans st.fh).sqL s) dp)⟩⟩

/-! ### targets -/
def tG (K : PySem.W.Frag) (ρ : List Sl) (d : PyData) (ρ' : List Sl) (vs : List Nat) : TG := fun v σ H Q => ∃ F A, Le F H ∧ Rep K F H ρ σ A ∧ Dp K F v d ∧ ∀ σ' A', Rep K F H ρ' σ' A' → wipe σ' vs = wipe σ vs → (∀ a ∈ A', a ∈ A) → Q σ' H
def tGs (K : PySem.W.Frag) (ρ : List Sl) (ds : List PyData) (ρ' : List Sl) (vs : List Nat) : TGs := fun xs σ H Q => ∃ F A, Le F H ∧ Rep K F H ρ σ A ∧ DpAll K F xs ds ∧ ∀ σ' A', Rep K F H ρ' σ' A' → wipe σ' vs = wipe σ vs → (∀ a ∈ A', a ∈ A) → Q σ' H
theorem wipe_set : ∀ {vs : List Nat} {σ : L2.St} {i : Nat} {x : Option V}, i ∈ vs → wipe (σ.set i x) vs = wipe σ vs
  | v :: vs, σ, i, x, h => by
    unfold wipe
    by_cases e : i = v
    · subst e
      have : ∀ (vs : List Nat) (σ : L2.St), (wipe (σ.set i x) vs).set i none = (wipe σ vs).set i none := by
        intro vs
        induction vs with
        | nil => intro σ; unfold wipe; rw [List.set_set]
        | cons w vs ih =>
          intro σ
          unfold wipe
          by_cases z : w = i
          · subst z; rw [ih]
          · rw [List.set_comm _ _ z, ih, List.set_comm _ _ (Ne.symm z)]
      exact this vs σ
    · rw [wipe_set (List.mem_of_ne_of_mem e h)]
theorem g_name (i : Nat) {x : Str} {d : PyData} {vs : List Nat} (hN : X.N.Nodup) (hv : i ∈ vs := by decide) (hi : X.N[i]? = some x := by rfl) (hx : Loc X.env.scope x := by first | exact Or.inl rfl | exact Or.inr rfl) (hf : X.fn x = true ∨ X.env.scope.names.lookup x = some .local := by first | exact .inl rfl | exact .inr rfl | assumption) :
    PG X (.Name x pos) (tG X.K ρ d (ρ.set i (.fr (.d d))) vs) :=
  (pg_name hN hi hx hf).imp fun v σ H Q ⟨F, A, l, rp, dp, k⟩ => by
    obtain ⟨A', h1, h2⟩ := rp.rl.set i (r := .fr (.d d)) (s := some v) (B := []) ⟨rfl, v, rfl, dp⟩ (fun _ z => nomatch z)
    exact k _ A' ⟨h1, fun a z => rp.nf a ((h2 a z).resolve_right fun w => nomatch w)⟩ (wipe_set hv) fun a z => (h2 a z).resolve_right fun w => nomatch w
theorem gs_nil {vs : List Nat} : PGs X [] (tGs X.K ρ [] ρ vs) := pgs_nil.imp fun v σ H Q ⟨F, A, l, rp, dp, k⟩ => by
  cases dp
  exact ⟨rfl, k σ A rp rfl fun a z => z⟩
theorem gs_cons {vs : List Nat} {d : PyData} {ρ1 ρ2 : List Sl} {tg : Expr} {tgs : List Expr} (h1 : PG X tg (tG X.K ρ d ρ1 vs)) (h2 : PGs X tgs (tGs X.K ρ1 ds ρ2 vs)) (hs : (assignEach (tg :: tgs) X.env).map (·.2) = assign tg X.env :: (assignEach tgs X.env).map (·.2) := by rfl) :
    PGs X (tg :: tgs) (tGs X.K ρ (d :: ds) ρ2 vs) := (pgs_cons h1 h2 hs).imp fun xs σ H Q ⟨F, A, l, rp, dp, k⟩ => by
  cases dp with
  | cons q t => exact ⟨_, _, rfl, F, A, l, rp, q, fun σ1 A1 r1 w1 s1 => ⟨F, A1, l, r1, t, fun σ2 A2 r2 w2 s2 => k σ2 A2 r2 (w2.trans w1) fun a z => s1 a (s2 a z)⟩⟩
theorem g_tup {vs : List Nat} {tgs : List Expr} {k : Nat} {ρ' : List Sl} {n : Nat} (hc : X.calm = true) (h : PGs X tgs (tGs X.K ρ ds ρ' vs)) (hl : ds.length = n := by rfl)
    (hn : (assignEach tgs X.env).length = n := by rfl) (hst : (assignEach tgs X.env).findIdx? (·.1) = none := by rfl) : PG X (.Tuple tgs k pos) (tG X.K ρ (.tuple ds) ρ' vs) :=
  (pg_tup hc h hn hst).imp fun v σ H Q ⟨F, A, l, rp, dp, kk⟩ => by
    cases dp with
    | tup s q => exact ⟨_, _, rfl, l.sqT s, by rw [DpAll.len q]; exact hl, F, A, l, rp, q, kk⟩

/-! ### list comprehensions -/
variable {iter elt : Expr} {ifs : List Expr} {scope : Scope} {own : List (Str × Nat)}
def tTs (K : PySem.W.Frag) (ρ : List Sl) (b : Bool) : TT := tT K ρ b
theorem pts_no : PTs X [] (tT X.K ρ true) := pts_nil.imp fun σ H Q ⟨F, A, l, rp, k⟩ => k F H (.refl l)
theorem pts_if {k : Bool} (h : PT X e (tT X.K ρ k)) : PTs X [e] (tT X.K ρ k) := pts_one h
theorem StEx.upd {F1 H1 F H : Hp} {D : Addr} {B : List Addr} {o : HO} (h : StEx F1 H1 [] F H B) (n : H1 D = none) (nF : F D = none) (hd : H D ≠ none) : StEx F1 H1 [] F (upd H D o) [D] := by
  refine ⟨h.ff, ⟨fun a u pu r => ?_, fun a e => ?_, fun a φ r => by rw [upd_ne (ne_of_none r nF)]; exact h.fh.ex a φ r, fun a ⟨o', xs, q, d⟩ => by
    obtain ⟨o2, xs2, e2, d2⟩ := h.fh.fz a ⟨o', xs, q, d⟩
    exact ⟨o2, xs2, by rw [upd_ne (ne_of_none q nF)]; exact e2, d2⟩⟩, fun a u _ e => ?_, h.own, fun a e => ?_, fun a z => .inr ?_⟩
  · have z : a ≠ D := fun z => by
      rcases r with r | ⟨b, r⟩ <;> rw [z, nF] at r <;> cases r
    rcases h.fh.rd a u pu r with q | ⟨b, q⟩
    · exact .inl (by rw [upd_ne z]; exact q)
    · exact .inr ⟨b, by rw [upd_ne z]; exact q⟩
  · by_cases z : a = D
    · rw [z]; exact nF
    · rw [upd_ne z] at e
      exact h.fh.dom a e
  · have z : a ≠ D := fun z => by rw [z, n] at e; cases e
    rw [upd_ne z]
    exact h.hh a u (by simp) e
  · by_cases z : a = D
    · rw [z, upd_same]; simp
    · rw [upd_ne z]; exact h.al a e
  · have : a = D := by simpa using z
    rw [this]; exact n
theorem take_filter_succ {α : Type} {xs : List α} {i : Nat} {x : α} (h : xs[i]? = some x) (p : α → Bool) : (xs.take (i + 1)).filter p = (xs.take i).filter p ++ if p x then [x] else [] := by
  rewrite [List.take_add_one]; rw [h, List.filter_append]
  congr 1
  cases e : p x <;> simp [e]
theorem wipe_get : ∀ (vs : List Nat) (σ : L2.St) (i : Nat), (wipe σ vs)[i]? = if i ∈ vs then (σ[i]?).map (fun _ => none) else σ[i]?
  | [], σ, i => by simp [wipe]
  | v :: vs, σ, i => by
    unfold wipe
    rw [List.getElem?_set, wipe_get vs σ i, wipe_length]
    by_cases e : v = i
    · subst e
      by_cases h : v < σ.length
      · simp [h]
      · simp [h]
    · have e' : ¬ i = v := fun z => e z.symm
      simp [e, e']
theorem wipe_wipe (vs : List Nat) (σ : L2.St) : wipe (wipe σ vs) vs = wipe σ vs := by
  apply List.ext_getElem?
  intro i
  rw [wipe_get, wipe_get]
  by_cases h : i ∈ vs
  · simp [h]
    rfl
  · simp [h]
theorem stex_new {F1 H1 : Hp} (l : Le F1 H1) {D : Addr} {o : HO} (n : H1 D = none) : StEx F1 H1 [] F1 (L2.upd H1 D o) [D] := by
  have z := Ext.newH (o := o) l n
  exact ⟨z.ff, z.fh, fun a u _ e => z.hh a u e, fun a h1 _ _ => h1, fun a h => same_ne z.hh h, fun a q => .inr (by rw [show a = D by simpa using q]; exact n)⟩
/-- the reading of a comprehension whose source has come: J walks the items from (F1, H1) on -/
def tLC (K : PySem.W.Frag) (ρ : List Sl) (wi : TI) (items : List PyData) (R : RK) : TE := fun σ H Q => wi σ H fun J H1 => ∃ F1 A, Le F1 H1 ∧ Rep K F1 H1 ρ σ A ∧ Walks K J F1 H1 [] items ∧ ∀ F' H' v, Ext F1 H1 F' H' → R F1 H1 F' H' v → Q v H'
abbrev gU (K : PySem.W.Frag) (ρ : List Sl) (vs : List Nat) {α : Type} (xs : List α) (enc : α → PyData) (ρ' : α → List Sl) : TG := fun v σ H Q => ∃ i : { x // x ∈ xs }, tG K (wipeR ρ vs) (enc i.1) (ρ' i.1) vs v σ H Q
abbrev ttU (K : PySem.W.Frag) {α : Type} (xs : List α) (ρ' : α → List Sl) (pr : α → Bool) : TT := fun σ H Q => ∃ i : { x // x ∈ xs }, tT K (ρ' i.1) (pr i.1) σ H Q
abbrev teU (K : PySem.W.Frag) {α : Type} (xs : List α) (ρ' : α → List Sl) (pr : α → Bool) (f : α → PyData) : TE := fun σ H Q => ∃ i : { x // x ∈ xs ∧ pr x = true }, tD K (ρ' i.1) (.d (f i.1)) σ H Q
def MonoI (wi : TI) : Prop := ∀ σ H R R', (∀ J H, R J H → R' J H) → wi σ H R → wi σ H R'
theorem lcR {K : PySem.W.Frag} {wi : TI} {α : Type} {xs : List α} {enc : α → PyData} {ρ' : α → List Sl} {pr : α → Bool} {f : α → PyData} {vs : List Nat} (hz : xs.length ≤ sizeLine) (mono : MonoI wi) {σ : L2.St} {H : Hp} {Q : VK} (q : tLC K ρ wi (xs.map enc) (RN K ((xs.filter pr).map f)) σ H Q) :
    tLc wi (gU K ρ vs xs enc ρ') (ttU K xs ρ' pr) (teU K xs ρ' pr f) vs σ H Q := by
  refine mono _ _ _ _ (fun J H1 ⟨F1, A, l1, rp1, wk, k⟩ => fun D nD => ?_) q
  have nF1 : F1 D = none := l1.dom D nD
  refine ⟨fun i m H => m = xs.length - i ∧ i ≤ xs.length ∧ ∃ F acc, StEx F1 H1 [] F H [D] ∧ H D = some (.lst acc) ∧ F D = none ∧ DpAll K F acc (((xs.take i).filter pr).map f),
    ⟨xs.length, by simp, Nat.zero_le _, F1, [], stex_new l1 nD, upd_same, nF1, by simp; exact .nil⟩, ?_⟩
  rintro i m H2 ⟨rfl, hi, F2, acc, st, eD, nF, dp⟩
  obtain ⟨stop, item⟩ := wk i F2 H2 [D] st
  have lacc : acc.length ≤ i := by
    rw [DpAll.len dp, List.length_map]
    exact Nat.le_trans (List.length_filter_le _ _) (by rw [List.length_take]; omega)
  by_cases hlt : i < xs.length
  · have ex : xs[i]? = some xs[i] := List.getElem?_eq_getElem hlt
    have hx : xs[i] ∈ xs := List.getElem_mem hlt
    generalize xs[i] = x at ex hx
    obtain ⟨go, yl⟩ := item (enc x) (by rw [List.getElem?_map, ex]; rfl)
    refine .inr ⟨go, fun H' => ∃ F acc, StEx F1 H1 [] F H' [D] ∧ H' D = some (.lst acc) ∧ F D = none ∧ DpAll K F acc (((xs.take (i + 1)).filter pr).map f), fun H' q => ⟨xs.length - (i + 1), by omega, rfl, hlt, q⟩, fun v H3 y => ?_⟩
    obtain ⟨F3, e3, dpx⟩ := yl v H3 y
    have st3 := st.trans (e3.st [D])
    obtain ⟨A', rpw, _⟩ := (rp1.mono st3.ext).wipe vs
    have hD2 : H2 D ≠ none := by rw [eD]; simp
    refine ⟨⟨x, hx⟩, F3, A', st3.fh, rpw, dpx, fun σ' A2 r2 w2 s2 => ⟨w2.trans (wipe_wipe _ _), ⟨x, hx⟩, F3, A2, st3.fh, r2, fun F4 H4 e4 => ?_⟩⟩
    have e34 := e3.trans e4
    have dp4 := e34.ff.dps dp
    have nF4 := e34.own D nF hD2
    have eD4 := e34.hh _ _ eD
    have tf := take_filter_succ ex pr
    cases hp : pr x with
    | true =>
      rw [hp, if_pos rfl] at tf
      refine iteT ⟨⟨x, hx, hp⟩, F4, A2, e4.fh, r2.mono e4, fun F5 H5 v5 e5 q5 => ⟨acc, e5.hh _ _ eD4, by omega, ?_⟩⟩
      refine ⟨F5, acc ++ [v5], ((st3.trans (e4.st [D])).trans (e5.st [D])).upd nD (e5.own D nF4 (by rw [eD4]; simp)) (by rw [e5.hh _ _ eD4]; simp), upd_same, e5.own D nF4 (by rw [eD4]; simp), ?_⟩
      rw [tf, List.map_append]
      exact dpAll_append (e5.ff.dps dp4) (.cons q5 .nil)
    | false =>
      rw [hp, if_neg Bool.false_ne_true, List.append_nil] at tf
      refine iteF ⟨F4, acc, st3.trans (e4.st [D]), eD4, nF4, ?_⟩
      rw [tf]
      exact dp4
  · have ei : i = xs.length := by omega
    subst ei
    rw [List.take_length] at dp
    refine .inl ⟨stop (by simp), k F2 H2 _ st.ext ⟨D, acc, rfl, nF, nD, eD, by omega, dp⟩⟩
theorem lcore {wi : TI} {α : Type} {xs : List α} {enc : α → PyData} {ρ' : α → List Sl} {pr : α → Bool} {f : α → PyData} (hi : PI X tg iter wi) (ok : BlkOk X.N X.env.scope scope own)
    (hg : ∀ x ∈ xs, ∀ (s : Shared) (H : Hp) (C : Addr) (cl : List (Str × Addr)) (fp : List Addr), PG (X.blk s H scope (compEnvC scope cl C X.env) fp) tg (tG X.K (wipeR ρ (own.map (·.2))) (enc x) (ρ' x) (own.map (·.2))))
    (ht : ∀ x ∈ xs, ∀ (s : Shared) (H : Hp) (C : Addr) (cl : List (Str × Addr)) (fp : List Addr), PTs (X.blk s H scope (compEnvC scope cl C X.env) fp) ifs (tT X.K (ρ' x) (pr x)))
    (he : ∀ x ∈ xs, pr x = true → ∀ (s : Shared) (H : Hp) (C : Addr) (cl : List (Str × Addr)) (fp : List Addr), PE (X.blk s H scope (compEnvC scope cl C X.env) fp) elt (tD X.K (ρ' x) (.d (f x))))
    (hz : xs.length ≤ sizeLine) (hc : X.calm = true) (hN : X.N.Nodup) (hs : ∀ x, foldedSetIterable iter X.env x = pure x) (mono : MonoI wi) :
    PE X (.ListComp elt [⟨tg, iter, ifs, 0⟩] scope pos) (tLC X.K ρ wi (xs.map enc) (RN X.K ((xs.filter pr).map f))) :=
  (pe_lc (g := gU X.K ρ (own.map (·.2)) xs enc ρ') (tt := ttU X.K xs ρ' pr) (te := teU X.K xs ρ' pr f) hc hN hi ok
    (fun s H C cl fp => .all fun i => hg i.1 i.2 s H C cl fp) (fun s H C cl fp => .all fun i => ht i.1 i.2 s H C cl fp) (fun s H C cl fp => .all fun i => he i.1 i.2.1 i.2.2 s H C cl fp) hs).imp
    fun σ H Q q => lcR hz mono q
/-- .. given to a name -/
theorem _root_.L2.PS.imp {X : Cx} {st : Stmt} {t t' : TS} (h : PS X st t) (i : ∀ D σ H, t' D σ H → t D σ H) : PS X st t' := ⟨fun pins s σ H D I q => h.run pins s σ H D I (i D σ H q)⟩
theorem lcoreSet {wi : TI} {α : Type} {xs : List α} {enc : α → PyData} {ρ' : α → List Sl} {pr : α → Bool} {f : α → PyData} {i : Nat} {y : Str} {py spos : Pos} (hi : PI X tg iter wi) (ok : BlkOk X.N X.env.scope scope own)
    (hg : ∀ x ∈ xs, ∀ (s : Shared) (H : Hp) (C : Addr) (cl : List (Str × Addr)) (fp : List Addr), PG (X.blk s H scope (compEnvC scope cl C X.env) fp) tg (tG X.K (wipeR ρ (own.map (·.2))) (enc x) (ρ' x) (own.map (·.2))))
    (ht : ∀ x ∈ xs, ∀ (s : Shared) (H : Hp) (C : Addr) (cl : List (Str × Addr)) (fp : List Addr), PTs (X.blk s H scope (compEnvC scope cl C X.env) fp) ifs (tT X.K (ρ' x) (pr x)))
    (he : ∀ x ∈ xs, pr x = true → ∀ (s : Shared) (H : Hp) (C : Addr) (cl : List (Str × Addr)) (fp : List Addr), PE (X.blk s H scope (compEnvC scope cl C X.env) fp) elt (tD X.K (ρ' x) (.d (f x))))
    (hz : xs.length ≤ sizeLine) (hc : X.calm = true) (hN : X.N.Nodup) (hs : ∀ x, foldedSetIterable iter X.env x = pure x) (mono : MonoI wi) (hy : X.N[i]? = some y) (hyl : X.env.scope.names.lookup y = some .local)
    (hsw : swapsWith (.ListComp elt [⟨tg, iter, ifs, 0⟩] scope pos) (some (.Name y py)) spos.line X.env = pure true) :
    PS X (.Assign [.Name y py] (.ListComp elt [⟨tg, iter, ifs, 0⟩] scope pos) spos) (tAsg (tLC X.K ρ wi (xs.map enc) (RN X.K ((xs.filter pr).map f))) (gName i)) :=
  (ps_setLc (g := gU X.K ρ (own.map (·.2)) xs enc ρ') (tt := ttU X.K xs ρ' pr) (te := teU X.K xs ρ' pr f) hc hN hy hyl hsw hi ok
    (fun s H C cl fp => .all fun i => hg i.1 i.2 s H C cl fp) (fun s H C cl fp => .all fun i => ht i.1 i.2 s H C cl fp) (fun s H C cl fp => .all fun i => he i.1 i.2.1 i.2.2 s H C cl fp) hs).imp
    fun D σ H q => by
      show tLc _ _ _ _ _ σ H fun x H1 => gName i x σ H1 D.nx
      exact lcR hz mono q
theorem lcomp {α : Type} {xs : List α} {enc : α → PyData} {ρ' : α → List Sl} {pr : α → Bool} {f : α → PyData} (hi : PI X tg iter (tI X.K ρ true (xs.map enc))) (ok : BlkOk X.N X.env.scope scope own)
    (hg : ∀ x ∈ xs, ∀ (s : Shared) (H : Hp) (C : Addr) (cl : List (Str × Addr)) (fp : List Addr), PG (X.blk s H scope (compEnvC scope cl C X.env) fp) tg (tG X.K (wipeR ρ (own.map (·.2))) (enc x) (ρ' x) (own.map (·.2))))
    (ht : ∀ x ∈ xs, ∀ (s : Shared) (H : Hp) (C : Addr) (cl : List (Str × Addr)) (fp : List Addr), PTs (X.blk s H scope (compEnvC scope cl C X.env) fp) ifs (tT X.K (ρ' x) (pr x)))
    (he : ∀ x ∈ xs, pr x = true → ∀ (s : Shared) (H : Hp) (C : Addr) (cl : List (Str × Addr)) (fp : List Addr), PE (X.blk s H scope (compEnvC scope cl C X.env) fp) elt (tD X.K (ρ' x) (.d (f x))))
    (hz : xs.length ≤ sizeLine) (hc : X.calm = true := by rfl) (hN : X.N.Nodup := by decide) (hs : ∀ x, foldedSetIterable iter X.env x = pure x := by intro _; rfl) :
    PE X (.ListComp elt [⟨tg, iter, ifs, 0⟩] scope pos) (tN X.K ρ ((xs.filter pr).map f)) :=
  (lcore hi ok hg ht he hz hc hN hs fun σ H R R' i ⟨F, A, l, rp, k⟩ => ⟨F, A, l, rp, fun F1 H1 J e w => i _ _ (k F1 H1 J e w)⟩).imp fun σ H Q ⟨F, A, l, rp, k⟩ => ⟨F, A, l, rp, fun F1 H1 J e1 wk =>
    ⟨F1, A, e1.fh, rp.mono e1, by rw [if_pos rfl] at wk; exact wk, fun F' H' v e2 r => k F' H' v (e1.trans e2) (bk_n _ _ _ _ _ _ _ e1 r)⟩⟩

/-! ### the keys of a dict: it is locked meanwhile -/
theorem lock_le {F H : Hp} {d : Addr} {u : HO} {od : Obj} (l : Le F H) (e : H d = some u) (po : plainO u) (nx : ∀ φ, u ≠ .ext φ := by intro _ h; cases h) : Le F (upd H d (.frz od u)) := by
  refine ⟨fun a w pw r => ?_, fun a z => ?_, fun a φ h => ?_, fun a h => ?_⟩
  · by_cases ha : a = d
    · subst ha
      rcases l.rd a w pw r with q | ⟨b, q⟩
      · rw [e] at q
        cases q
        exact .inr ⟨od, upd_same⟩
      · rw [e] at q
        cases q
        exact absurd po fun z => z
    · rcases l.rd a w pw r with q | ⟨b, q⟩
      · exact .inl (by rw [upd_ne ha]; exact q)
      · exact .inr ⟨b, by rw [upd_ne ha]; exact q⟩
  · by_cases ha : a = d
    · rw [ha, upd_same] at z; cases z
    · rw [upd_ne ha] at z
      exact l.dom a z
  · have hH := l.ex a φ h
    by_cases ha : a = d
    · rw [ha, e] at hH
      exact absurd (Option.some.inj hH) (nx φ)
    · rw [upd_ne ha]; exact hH
  · obtain ⟨o2, xs2, e2, d2⟩ := l.fz a h
    refine ⟨o2, xs2, ?_, d2⟩
    by_cases ha : a = d
    · rw [ha, e] at e2
      cases e2
      exact absurd po fun w => w
    · rw [upd_ne ha]; exact e2
theorem unlock_ext {F H F' H' : Hp} {d : Addr} {u : HO} {od : Obj} (x : Ext F (upd H d (.frz od u)) F' H') (l : Le F H) (e : H d = some u) (po : plainO u) (nt : ∀ xs, u ≠ .tup xs := by intro _ h; cases h) : Ext F H F' (upd H' d u) ∧ H' d = some (.frz od u) := by
  have ed : H' d = some (.frz od u) := x.hh _ _ upd_same
  refine ⟨⟨x.ff, ⟨fun a w pw r => ?_, fun a z => ?_, fun a φ h => ?_, fun a h => ?_⟩, fun a o h => ?_, fun a h1 h2 => x.own a h1 ?_⟩, ed⟩
  · rcases x.fh.rd a w pw r with q | ⟨b, q⟩
    · by_cases ha : a = d
      · rw [ha, ed] at q
        cases q
        exact absurd pw fun z => z
      · exact .inl (by rw [upd_ne ha]; exact q)
    · by_cases ha : a = d
      · rw [ha, ed] at q
        cases q
        rw [ha]
        exact .inl upd_same
      · exact .inr ⟨b, by rw [upd_ne ha]; exact q⟩
  · by_cases ha : a = d
    · rw [ha, upd_same] at z; cases z
    · rw [upd_ne ha] at z
      exact x.fh.dom a z
  · have hH := x.fh.ex a φ h
    by_cases ha : a = d
    · rw [ha, ed] at hH; cases hH
    · rw [upd_ne ha]; exact hH
  · obtain ⟨o2, xs2, e2, d2⟩ := x.fh.fz a h
    refine ⟨o2, xs2, ?_, d2⟩
    by_cases ha : a = d
    · rw [ha, ed] at e2
      cases e2
      exact absurd rfl (nt xs2)
    · rw [upd_ne ha]; exact e2
  · by_cases ha : a = d
    · rw [ha, e] at h
      cases h
      rw [ha, upd_same]
    · rw [upd_ne ha]
      exact x.hh a o (by rw [upd_ne ha]; exact h)
  · by_cases ha : a = d
    · rw [ha, upd_same]; simp
    · rw [upd_ne ha]; exact h2
theorem walks_keys {K : PySem.W.Frag} {F1 H1 : Hp} {d : Addr} {o : Obj} {vs : List (Key × V)} {kvs : List (Key × PyData)} {A : List Addr} (e : H1 d = some (.frz o (.dK vs))) (nA : d ∉ A) (kd : KDat K F1 vs kvs) : Walks K (Itk d o vs) F1 H1 A (kvs.map fun p => keyD p.1) := fun i F H B st => by
  have e' := st.hh _ _ nA e
  have hl := kdat_len kd
  refine ⟨fun hi => ⟨e', by rw [hl]; simpa using hi⟩, fun x ex => ?_⟩
  rw [List.getElem?_map] at ex
  cases z : kvs[i]? with
  | none => rw [z] at ex; cases ex
  | some q =>
    rw [z] at ex
    cases ex
    have hi : i < vs.length := by rw [hl]; exact (List.getElem?_eq_some_iff.mp z).1
    refine ⟨⟨e', hi⟩, fun y H' ⟨eH, k, v, ek, ey⟩ => ?_⟩
    subst eH
    obtain ⟨q', ez, hk, _⟩ := paired_get kd ek
    rw [z] at ez
    cases ez
    refine ⟨F, .refl st.fh, ?_⟩
    rw [ey]
    have hk' : k = q.1 := hk
    show Dp K F (kV k) (keyD q.1)
    rw [← hk']
    cases k with
    | inl i => exact .int i
    | inr x => exact .str x
/-- where the source is: it gives the dict that stands at d, and changes nothing -/
def Src (K : PySem.W.Frag) (ρ : List Sl) (te : TE) (kvs : List (Key × PyData)) : Prop :=
  ∀ σ F H A, Le F H → Rep K F H ρ σ A → ∃ d vs, Rd F d (.dK vs) ∧ KDat K F vs kvs ∧ ∀ H2 (Q : VK), Le F H2 → Rep K F H2 ρ σ A → Q (.ref d) H2 → te σ H2 Q
theorem src_var {K : PySem.W.Frag} {i : Nat} {kvs : List (Key × PyData)} (h : ρ[i]? = some (.fr (.dk kvs))) : Src K ρ (tVar i) kvs := fun σ F H A l rp => by
  obtain ⟨v, e, d, vs, rfl, r, kd⟩ := rp.fr h
  exact ⟨d, vs, r, kd, fun H2 Q _ _ q => ⟨_, e, q⟩⟩
theorem rep_lock {K : PySem.W.Frag} {F H : Hp} {σ : L2.St} {A : List Addr} {d : Addr} {o : HO} {w : HO} (rp : Rep K F H ρ σ A) (r : Rd F d w) : Rep K F (upd H d o) ρ σ A ∧ d ∉ A := by
  have nd : d ∉ A := fun z => by
    have := rp.nf d z
    rcases r with r | ⟨b, r⟩ <;> rw [r] at this <;> cases this
  exact ⟨⟨rp.rl.mono (.refl F) fun a z => upd_ne fun e => nd (e ▸ z), rp.nf⟩, nd⟩
theorem _root_.L2.PE.or {t1 t2 : TE} (h1 : PE X e t1) (h2 : PE X e t2) : PE X e (fun σ H Q => t1 σ H Q ∨ t2 σ H Q) := ⟨fun pins s σ H Q I q => q.elim (h1.run pins s σ H Q I) (h2.run pins s σ H Q I)⟩
/-- any comprehension over the keys of a dict -/
theorem overKeys {te : TE} {kvs : List (Key × PyData)} {R : RK} (src : Src X.K ρ te kvs) (h : PE X e (tLC X.K ρ (iKeys te) (kvs.map fun p => keyD p.1) R)) (bk : Bk R) (un : ∀ F H F' H' d u v, F d ≠ none → H d ≠ none → R F H F' H' v → R F H F' (upd H' d u) v) (rel : ∀ F H F' H' d u v, H d ≠ none → R F (upd H d u) F' H' v → R F H F' H' v) : PE X e (tR X.K ρ R) :=
  ((pe_lock h).or h).imp fun σ H Q ⟨F, A, l, rp, k⟩ => by
    obtain ⟨d, vs, r, kd, go⟩ := src σ F H A l rp
    have dF : F d ≠ none := by rcases r with r | ⟨b, r⟩ <;> rw [r] <;> simp
    rcases l.rd d (.dK vs) trivial r with eH | ⟨o, eH⟩
    · left
      refine ⟨d, _, eH, trivial, fun od => ?_⟩
      have l1 := lock_le (u := .dK vs) (od := od) l eH trivial
      obtain ⟨rp1, nd⟩ := rep_lock (o := .frz od (.dK vs)) rp r
      refine go _ _ l1 rp1 ⟨d, od, rfl, .inl ⟨vs, upd_same, F, A, l1, rp1, walks_keys upd_same (by simp) kd, fun F' H' v ex rr => ?_⟩⟩
      obtain ⟨ex2, ed⟩ := unlock_ext (u := .dK vs) ex l eH trivial
      exact ⟨ed, k F' _ v ex2 (rel _ _ _ _ d _ v (by rw [eH]; simp) (un _ _ _ _ d _ v dF (by rw [upd_same]; simp) rr))⟩
    · right
      exact go _ _ l rp ⟨d, o, rfl, .inl ⟨vs, eH, F, A, l, rp, walks_keys eH (by simp) kd, k⟩⟩
end
end KL
/-! DLf: dict comprehensions over data. -/
namespace KL
open PySem PySem.Spec L2

/-! ### keys that are tuples: a dict comprehension of the layer's kind -/
/-- what the comprehension's store asks, keys being tuples of keys -/
def tDt (wi : TI) (g : TG) (tt : TT) (tk tv : TE) (vs : List Nat) : TE := fun σ H Q => wi σ H fun J H1 => ∀ D, H1 D = none → ∃ W : Nat → Nat → Hp → Prop, (∃ m, W 0 m (upd H1 D (.dT []))) ∧ ∀ i m H, W i m H →
  (J.stop i H ∧ Q (.ref D) H) ∨ (J.go i H ∧ ∃ Then : Hp → Prop, (∀ H', Then H' → ∃ m', m' < m ∧ W (i + 1) m' H') ∧ ∀ x H', J.yld i H x H' → g x (wipe σ vs) H' fun σ2 H2 => wipe σ2 vs = wipe σ vs ∧ tt σ2 H2 fun b H3 =>
    if b = true then tk σ2 H3 fun y H4 => tv σ2 H4 fun z H5 => ∃ kvs ks q, y = .ref q ∧ H5 q = some (.tup (ks.map kV)) ∧ H5 D = some (.dT kvs) ∧ kvs.length < sizeLine ∧ Then (upd H5 D (.dT (putK kvs ks z))) else Then H3)
theorem tupSet {X : Cx} {pins : List (Addr × Obj)} {σ : L2.St} {H : Hp} {s : Shared} {E : Value → Shared → Prop} {D q : Addr} {kvs : List (List Key × V)} {ks : List Key} {v : V} {r : Value} {Q : Unit → Shared → Prop} (hu : X.A.units < cLine) (I : Inv X pins σ H s)
    (hD : H D = some (.dT kvs)) (hq : H q = some (.tup (ks.map kV))) (hz : kvs.length < sizeLine) (rv : RelV v r) (h : ∀ s', Inv X pins σ (upd H D (.dT (putK kvs ks v))) s' → Q () s') : wpAny (model X.prog X.w) X.A (dictSet D (.ref q) r) Q E s := by
  obtain ⟨_, hd, xs, rel, dd⟩ := dt_of I.hok hD
  have hlx : xs.length ≤ sizeLine := by
    have := Paired.length rel
    omega
  have hlk : (putK kvs ks v).length ≤ sizeLine := by
    have := length_putK kvs ks v
    omega
  refine wpAny_dictSet_heap (hsz := hlx) (show (tupleKind (mixKind X.prog X.w)).room X.A from hu) (key_of I.hok hq) dd fun h' dd' sb => h _ ?_
  obtain ⟨o, es, ep, ho, c1, c2, c3, _, c4⟩ := dd'
  refine d_write I (by rw [hD]; exact True.intro) sb ⟨o, ho⟩ ⟨hlk, hd, _, (rel.put ks hq rv).keeps fun c ys ec => ?_, o, es, ep, ho, c1, c2, c3, c4⟩
  rw [upd_ne (ne_of ec hD (fun z => nomatch z))]
  exact ec
section
variable {X : Cx} {kx vx tg iter : Expr} {ifs : List Expr} {scope : Scope} {own : List (Str × Nat)} {pos : Pos}
theorem pe_dt {wi : TI} {g : TG} {tt : TT} {tk tv : TE} (hu : X.A.units < cLine) (calm : X.calm = true) (nd : X.N.Nodup) (src : PI X tg iter wi) (blk : BlkOk X.N X.env.scope scope own)
    (pg : ∀ (s : Shared) (H : Hp) (C : Addr) (cl : List (Str × Addr)) (fp : List Addr), PG (X.blk s H scope (compEnvC scope cl C X.env) fp) tg g)
    (pt : ∀ (s : Shared) (H : Hp) (C : Addr) (cl : List (Str × Addr)) (fp : List Addr), PTs (X.blk s H scope (compEnvC scope cl C X.env) fp) ifs tt)
    (pk : ∀ (s : Shared) (H : Hp) (C : Addr) (cl : List (Str × Addr)) (fp : List Addr), PE (X.blk s H scope (compEnvC scope cl C X.env) fp) kx tk)
    (pv : ∀ (s : Shared) (H : Hp) (C : Addr) (cl : List (Str × Addr)) (fp : List Addr), PE (X.blk s H scope (compEnvC scope cl C X.env) fp) vx tv) (hs : ∀ x, foldedSetIterable iter X.env x = pure x := by intro _; rfl) :
    PE X (.DictComp kx vx [⟨tg, iter, ifs, 0⟩] scope pos) (tDt wi g tt tk tv (own.map (·.2))) := by
  refine ⟨fun pins s0 σ H Q I0 want => ?_⟩
  rw [arm_eval_DictComp]
  have fr0 : ∀ y ∈ scope.names, y.2 = .free → ∃ c, X.env.cells.lookup y.1 = some c := by
    intro y hy e
    rcases blk.free y hy e with z | z
    · exact I0.ok.has y.1 (.inl z)
    · exact I0.ok.has y.1 (.inr z)
  refine wpAny_comprehension_free (use := none) rfl hs (closure_ok fr0) blk.kind (fun y hy e => (blk.uniq y hy).trans (by rw [e])) (thn (src.run pins s0 σ H _ I0 want) fun xv sa ha => thn ha fun itv sb hb => ?_)
  obtain ⟨it, fp, tn, J, Ha, rfl, Ia, T, ta, fa, q⟩ := hb
  refine wpAny_newObj_type <| newEnv_comp ?_
  generalize eD : sb.heap.objs.size = D
  have nD : Ha D = none := Ia.hok.fresh (Nat.le_of_eq eD)
  obtain ⟨W, ⟨m0, w0⟩, go⟩ := q D nD
  generalize ec : ({ sb with heap := sb.heap.push { cls := .type "dict", data := .dict #[] } } : Shared) = sc
  have hp : sc.heap = sb.heap.push { cls := .type "dict", data := .dict #[] } := by rw [← ec]
  have Ic : Inv X pins σ (upd Ha D (.dT [])) sc := by
    rw [← ec]
    exact Ia.laid (t' := sb.toks) (fun b o e => Heap.get?_push_of_some _ e) (Nat.le_of_eq eD) (by rw [← eD]; exact dt_empty sb.heap Ia.big)
  have fc : ∀ b ∈ fp, FpOk X pins (upd Ha D (.dT [])) b ∧ b < sc.heap.objs.size := by
    intro b mb
    obtain ⟨o, eo, _⟩ := T.obj _ _ ta b mb
    have lt := Heap.lt_size eo
    have nb : b ≠ D := by rw [← eD]; exact Nat.ne_of_lt lt
    exact ⟨⟨by rw [upd_ne nb]; exact (fa b mb).1, (fa b mb).2⟩, by rw [hp, Heap.size_push]; exact Nat.lt_succ_of_lt lt⟩
  have tc : tn 0 sc.heap := T.keep _ _ _ ta fun b _ o e => by rw [hp]; exact Heap.get?_push_of_some _ e
  have I1 := block_start Ic blk nd fc
  have g1 := pg sc (upd Ha D (.dT [])) sc.heap.objs.size (cellsFrom (sc.heap.objs.size + 1) scope.names (cloFrom X.env.cells scope.names [])) fp
  have t1 := pt sc (upd Ha D (.dT [])) sc.heap.objs.size (cellsFrom (sc.heap.objs.size + 1) scope.names (cloFrom X.env.cells scope.names [])) fp
  have k1 := pk sc (upd Ha D (.dT [])) sc.heap.objs.size (cellsFrom (sc.heap.objs.size + 1) scope.names (cloFrom X.env.cells scope.names [])) fp
  have v1 := pv sc (upd Ha D (.dT [])) sc.heap.objs.size (cellsFrom (sc.heap.objs.size + 1) scope.names (cloFrom X.env.cells scope.names [])) fp
  show codeAny _ _ (.compStart (.DictComp kx vx [⟨tg, iter, ifs, 0⟩] scope pos) 0 (.ref it) (.ref D) (compEnvC scope (cellsFrom (sc.heap.objs.size + 1) scope.names (cloFrom X.env.cells scope.names [])) sc.heap.objs.size X.env)) (compPost (model X.prog X.w) X.A X.xe none (EP X pins σ Q) (.ref D) sc.heap.objs.size) { sc with heap := pushCells (sc.heap.push { cls := .type "dict", data := .dict #[] }) scope.names }
  generalize ece : compEnvC scope (cellsFrom (sc.heap.objs.size + 1) scope.names (cloFrom X.env.cells scope.names [])) sc.heap.objs.size X.env = ce at I1 g1 t1 k1 v1 ⊢
  have lce : ce.locals = sc.heap.objs.size := by rw [← ece]; rfl
  have nfp : ∀ b ∈ fp, upd Ha D (.dT []) b = none := fun b mb => (fc b mb).1.1
  generalize eH : upd Ha D (.dT []) = Hc at Ic I1 g1 t1 k1 v1 w0 nfp fc
  generalize es1 : ({ sc with heap := pushCells (sc.heap.push { cls := .type "dict", data := .dict #[] }) scope.names } : Shared) = s1 at I1 ⊢
  have tt1 : tn 0 s1.heap := T.keep _ _ _ tc fun b _ o e => by rw [← es1]; exact pushCells_keeps _ _ _ _ (Heap.get?_push_of_some _ e)
  have still : ∀ {σ' : L2.St} {H' : Hp} {s' : Shared}, Inv (X.blk sc Hc scope ce fp) [] σ' H' s' → (∀ b ∈ fp, H' b = none) → ∀ b ∈ fp, FpOk (X.blk sc Hc scope ce fp) [] H' b := by
    intro σ' H' s' J' nn b mb
    refine ⟨nn b mb, (J'.ok.exf b mb).1, J'.ok.exfs b mb, .inl mb, fun x c e => (J'.ok.exf b mb).2 x c e, fun p mp => ?_⟩
    have mp' : p ∈ ([] : List (Addr × Obj)) := by simpa using mp
    cases mp'
  have loop : codeAny (model X.prog X.w) X.A (.compLoop (.DictComp kx vx [⟨tg, iter, ifs, 0⟩] scope pos) 0 (.ref it) (.ref D) ce) (compPost (model X.prog X.w) X.A X.xe none (EP X pins σ Q) (.ref D) sc.heap.objs.size) s1 := by
    refine compLoop_anyD (fun n s' => ∃ i H', Inv (X.blk sc Hc scope ce fp) [] (wipe σ (own.map (·.2))) H' s' ∧ tn i s'.heap ∧ (∀ b ∈ fp, H' b = none) ∧ W i n H') ?_ m0 ⟨0, Hc, I1, tt1, nfp, w0⟩
    rintro n s2 ⟨i, H2, I2, tn2, n2, w2⟩
    rcases go i n H2 w2 with ⟨stop, last⟩ | ⟨more, Nx, less, turn⟩
    · refine thnF (T.done (X.blk sc Hc scope ce fp) rfl rfl rfl calm i [] s2 _ H2 (fun _ _ => False) I2 (still I2 n2) tn2 stop) fun r s3 ⟨er, I3⟩ => ?_
      subst er
      have back : Inv X pins σ H2 s3 := Ic.call' (ch := fp) I3.os I3.base I3.hok I3.bare fun b mb =>
        let z := (fc b mb).1.2
        ⟨z.2.2.1, z.1, z.2.2.2.1, z.2.2.2.2⟩
      have nC : H2 sc.heap.objs.size = none := by
        rw [← lce]
        exact I3.free
      obtain ⟨m, ns, _⟩ := I3.loc
      have ns' : s3.heap.Ns ce.locals m := ns
      rw [lce] at ns'
      obtain ⟨f0, f1, f2, f3, f4, f5⟩ := Ic.fpOk (Nat.le_refl _) nC
      exact ⟨m, ns', fun h4 sb4 => ⟨.ref D, H2, back.turned (t' := s3.toks) (fun b o nb e => (sb4.2 b nb).trans e) f0 f1 f3 f4 f5, rfl, last⟩⟩
    · refine thnF (T.item (X.blk sc Hc scope ce fp) rfl rfl rfl calm i [] s2 _ H2 (fun _ _ => False) I2 (still I2 n2) tn2 more) fun r s3 ⟨u, er, h3⟩ => ?_
      subst er
      refine thnF h3 fun _ s4 ⟨x, H4, I4, r4, y4, tn4, n4⟩ => ?_
      have I4p := I4.pinned (still I4 n4) (T.obj _ _ tn4)
      refine thnF (g1.run _ s4 _ H4 x u _ I4p r4 (turn x H4 y4)) fun _ s5 ⟨σ5, H5, I5, ew, q5⟩ => ?_
      refine thnF (t1.run _ s5 σ5 H5 _ I5 q5) fun b s6 ⟨H6, I6, q6⟩ => ?_
      have fin : ∀ {s' : Shared} {H' : Hp}, Inv (X.blk sc Hc scope ce fp) ([] ++ pinsAt fp s4.heap) σ5 H' s' → Nx H' → ∃ m, m < n ∧ ∃ i H', Inv (X.blk sc Hc scope ce fp) [] (wipe σ (own.map (·.2))) H' s' ∧ tn i s'.heap ∧ (∀ b ∈ fp, H' b = none) ∧ W i m H' := by
        intro s' H' I' nx
        obtain ⟨m', lm, w'⟩ := less H' nx
        have pinned : ∀ b ∈ fp, ∀ o, s4.heap.get? b = some o → s'.heap.get? b = some o ∧ H' b = none := by
          intro b mb o e
          have z := I'.pin (b, o) (List.mem_append_right _ (List.mem_append_right _ (mem_pinsAt mb e)))
          exact ⟨z.1, z.2.1⟩
        have len : (wipe σ (own.map (·.2))).length = σ5.length := by rw [← ew, wipe_length]
        refine ⟨m', lm, i + 1, H', (I'.unpinned (pins := [])).weak len (fun j v e => ?_), T.keep _ _ _ tn4 fun b mb o e => (pinned b mb o e).1, fun b mb => ?_, w'⟩
        · rw [← ew] at e
          exact (wipe_some e).1
        · obtain ⟨o, e, _⟩ := T.obj _ _ tn4 b mb
          exact (pinned b mb o e).2
      cases b with
      | false =>
        simp only [Bool.false_eq_true, if_false] at q6 ⊢
        exact fin I6 q6
      | true =>
        simp only [if_true] at q6 ⊢
        refine thnF (k1.run _ s6 σ5 H6 _ I6 q6) fun z s7 ⟨yk, H7, I7, r7, q7⟩ => ?_
        refine thnF (v1.run _ s7 σ5 H7 _ I7 q7) fun z2 s8 ⟨yv, H8, I8, r8, kvs, ks, qa, ek, eq, eDD, lz, nx⟩ => ?_
        subst ek
        cases r7
        exact tupSet (X := X.blk sc Hc scope ce fp) hu I8 eDD eq lz r8 fun s9 I9 => fin I9 nx
  exact codeAny_compStart_dict loop (T.self X.A 0 _ _ _ tt1 loop)
end
end KL
/-! DLg: comprehensions over keys, dict comprehensions. -/
namespace KL
open PySem PySem.Spec L2
section
variable {X : Cx} {ρ : List Sl} {tg e elt kx vx iter : Expr} {ifs : List Expr} {scope : Scope} {own : List (Str × Nat)} {pos : Pos} {ds es : List PyData} {R : RK}
def MonoE (te : TE) : Prop := ∀ σ H (Q Q' : VK), (∀ v H, Q v H → Q' v H) → te σ H Q → te σ H Q'
theorem mono_var {i : Nat} : MonoE (tVar i) := fun _ _ _ _ h ⟨v, e, q⟩ => ⟨v, e, h _ _ q⟩
theorem mono_keys {te : TE} (h : MonoE te) : MonoI (iKeys te) := fun σ H R R' i q => h σ H _ _ (fun v H1 ⟨d, o, ev, z⟩ => ⟨d, o, ev, by
  rcases z with ⟨kvs, e, r⟩ | ⟨kvs, e, r⟩
  · exact .inl ⟨kvs, e, i _ _ r⟩
  · exact .inr ⟨kvs, e, i _ _ r⟩⟩) q
theorem mono_tI {K : PySem.W.Frag} {c : Bool} {items : List PyData} : MonoI (tI K ρ c items) := fun σ H R R' i ⟨F, A, l, rp, k⟩ => ⟨F, A, l, rp, fun F1 H1 J e w => i _ _ (k F1 H1 J e w)⟩
/-- a comprehension over tI, by its core -/
theorem overI {items : List PyData} (h : PE X e (tLC X.K ρ (tI X.K ρ true items) items R)) (bk : Bk R) : PE X e (tR X.K ρ R) := h.imp fun σ H Q ⟨F, A, l, rp, k⟩ => ⟨F, A, l, rp, fun F1 H1 J e1 wk =>
    ⟨F1, A, e1.fh, rp.mono e1, by rw [if_pos rfl] at wk; exact wk, fun F' H' v e2 r => k F' H' v (e1.trans e2) (bk _ _ _ _ _ _ _ e1 r)⟩⟩
theorem kcomp {te : TE} {kvs : List (Key × PyData)} {ρ' : Key × PyData → List Sl} {pr : Key × PyData → Bool} {f : Key × PyData → PyData} (hsrc : PE X iter te) (src : Src X.K ρ te kvs) (me : MonoE te) (ok : BlkOk X.N X.env.scope scope own)
    (hg : ∀ x ∈ kvs, ∀ (s : Shared) (H : Hp) (C : Addr) (cl : List (Str × Addr)) (fp : List Addr), PG (X.blk s H scope (compEnvC scope cl C X.env) fp) tg (tG X.K (wipeR ρ (own.map (·.2))) (keyD x.1) (ρ' x) (own.map (·.2))))
    (ht : ∀ x ∈ kvs, ∀ (s : Shared) (H : Hp) (C : Addr) (cl : List (Str × Addr)) (fp : List Addr), PTs (X.blk s H scope (compEnvC scope cl C X.env) fp) ifs (tT X.K (ρ' x) (pr x)))
    (he : ∀ x ∈ kvs, pr x = true → ∀ (s : Shared) (H : Hp) (C : Addr) (cl : List (Str × Addr)) (fp : List Addr), PE (X.blk s H scope (compEnvC scope cl C X.env) fp) elt (tD X.K (ρ' x) (.d (f x))))
    (hz : kvs.length ≤ sizeLine) (hc : X.calm = true := by rfl) (hN : X.N.Nodup := by decide) (hs : ∀ x, foldedSetIterable iter X.env x = pure x := by intro _; rfl) :
    PE X (.ListComp elt [⟨tg, iter, ifs, 0⟩] scope pos) (tN X.K ρ ((kvs.filter pr).map f)) :=
  overKeys src (lcore (enc := fun x : Key × PyData => keyD x.1) (pi_keys hsrc) ok hg ht he hz hc hN hs (mono_keys me)) bk_n (fun F H F' H' d u v _ h2 ⟨p, xs, ev, nF, nH, eH, r⟩ => ⟨p, xs, ev, nF, nH, by
    have z : p ≠ d := fun z => h2 (by rw [← z]; exact nH)
    rw [upd_ne z]
    exact eH, r⟩)
    fun F H F' H' d u v h2 ⟨p, xs, ev, nF, nH, r⟩ => ⟨p, xs, ev, nF, by
      by_cases z : p = d
      · rw [z, upd_same] at nH; cases nH
      · rw [upd_ne z] at nH; exact nH, r⟩

/-! ### dicts -/
theorem yes_of {σ : L2.St} {H : Hp} {P R : Hp → Prop} (h : P H) : tYes σ H (fun b H3 => if b = true then P H3 else R H3) := by
  show (if true = true then P H else R H)
  rw [if_pos rfl]
  exact h
theorem kdat_append {κ : Type} {K : PySem.W.Frag} {F : Hp} : ∀ {a b : List (κ × V)} {c d : List (κ × PyData)}, KDat K F a c → KDat K F b d → KDat K F (a ++ b) (c ++ d)
  | _, _, _, _, .nil, s => s
  | _, _, _, _, .cons h t, s => .cons h (kdat_append t s)
theorem look_none {κ : Type} [DecidableEq κ] {kvs : List (κ × PyData)} {k : κ} (h : k ∉ kvs.map (·.1)) : look kvs k = none := by
  unfold look
  rw [List.find?_eq_none.mpr]
  · rfl
  · intro p hp e
    exact h (List.mem_map.mpr ⟨_, hp, of_decide_eq_true e⟩)
theorem val_none {κ : Type} [DecidableEq κ] {K : PySem.W.Frag} {F : Hp} {vs : List (κ × V)} {kvs : List (κ × PyData)} (h : KDat K F vs kvs) {k : κ} (n : k ∉ kvs.map (·.1)) : valV vs k = none := by
  rcases kdat_val k h with ⟨e, _⟩ | ⟨v, d, _, e, _⟩
  · exact e
  · rw [look_none n] at e; cases e
theorem nodup_take {α : Type} {xs : List α} {κ : Type} {kf : α → κ} (hd : (xs.map kf).Nodup) {i : Nat} {x : α} (e : xs[i]? = some x) : kf x ∉ (xs.take i).map kf := by
  intro h
  obtain ⟨y, hy, ey⟩ := List.mem_map.mp h
  rcases List.mem_iff_getElem?.mp hy with ⟨j, hj⟩
  have hji : j < i := by
    have := (List.getElem?_eq_some_iff.mp hj).1
    rw [List.length_take] at this
    omega
  rw [List.getElem?_take_of_lt hji] at hj
  have a1 : (xs.map kf)[i]? = some (kf x) := by rw [List.getElem?_map, e]; rfl
  have a2 : (xs.map kf)[j]? = some (kf x) := by rw [List.getElem?_map, hj]; exact congrArg some ey
  have := nd_ix hd a1 a2
  omega
theorem dkcore {wi : TI} {α : Type} {xs : List α} {enc : α → PyData} {ρ' : α → List Sl} {kf : α → Key} {f : α → PyData} (hi : PI X tg iter wi) (ok : BlkOk X.N X.env.scope scope own)
    (hg : ∀ x ∈ xs, ∀ (s : Shared) (H : Hp) (C : Addr) (cl : List (Str × Addr)) (fp : List Addr), PG (X.blk s H scope (compEnvC scope cl C X.env) fp) tg (tG X.K (wipeR ρ (own.map (·.2))) (enc x) (ρ' x) (own.map (·.2))))
    (hk : ∀ x ∈ xs, ∀ (s : Shared) (H : Hp) (C : Addr) (cl : List (Str × Addr)) (fp : List Addr), PE (X.blk s H scope (compEnvC scope cl C X.env) fp) kx (tD X.K (ρ' x) (.d (keyD (kf x)))))
    (he : ∀ x ∈ xs, ∀ (s : Shared) (H : Hp) (C : Addr) (cl : List (Str × Addr)) (fp : List Addr), PE (X.blk s H scope (compEnvC scope cl C X.env) fp) vx (tD X.K (ρ' x) (.d (f x))))
    (hz : xs.length ≤ sizeLine) (hd : (xs.map kf).Nodup) (hc : X.calm = true) (hN : X.N.Nodup) (hs : ∀ x, foldedSetIterable iter X.env x = pure x) (mono : MonoI wi) :
    PE X (.DictComp kx vx [⟨tg, iter, [], 0⟩] scope pos) (tLC X.K ρ wi (xs.map enc) (RD X.K (.dk (xs.map fun x => (kf x, f x))))) := by
  refine (pe_dc (g := fun v σ H Q => ∃ i : { x // x ∈ xs }, tG X.K (wipeR ρ (own.map (·.2))) (enc i.1) (ρ' i.1) (own.map (·.2)) v σ H Q)
    (tt := tYes) (tk := fun σ H Q => ∃ i : { x // x ∈ xs }, tD X.K (ρ' i.1) (.d (keyD (kf i.1))) σ H Q) (tv := fun σ H Q => ∃ i : { x // x ∈ xs }, tD X.K (ρ' i.1) (.d (f i.1)) σ H Q) hc hN hi ok
    (fun s H C cl fp => .all fun i => hg i.1 i.2 s H C cl fp) (fun s H C cl fp => pts_nil) (fun s H C cl fp => .all fun i => hk i.1 i.2 s H C cl fp) (fun s H C cl fp => .all fun i => he i.1 i.2 s H C cl fp) hs).imp
    fun σ H Q q => mono _ _ _ _ (fun J H1 ⟨F1, A, l1, rp1, wk, k⟩ => fun D nD => ?_) q
  have nF1 : F1 D = none := l1.dom D nD
  refine ⟨fun i m H => m = xs.length - i ∧ i ≤ xs.length ∧ ∃ F vs, StEx F1 H1 [] F H [D] ∧ H D = some (.dK vs) ∧ F D = none ∧ KDat X.K F vs ((xs.take i).map fun x => (kf x, f x)),
    ⟨xs.length, by simp, Nat.zero_le _, F1, [], stex_new l1 nD, upd_same, nF1, by simp; exact .nil⟩, ?_⟩
  rintro i m H2 ⟨rfl, hi, F2, vs, st, eD, nF, kd⟩
  obtain ⟨stop, item⟩ := wk i F2 H2 [D] st
  have lvs : vs.length ≤ i := by
    rw [kdat_len kd, List.length_map, List.length_take]
    omega
  by_cases hlt : i < xs.length
  · have ex : xs[i]? = some xs[i] := List.getElem?_eq_getElem hlt
    have hx : xs[i] ∈ xs := List.getElem_mem hlt
    generalize xs[i] = x at ex hx
    obtain ⟨go, yl⟩ := item (enc x) (by rw [List.getElem?_map, ex]; rfl)
    refine .inr ⟨go, fun H' => ∃ F vs, StEx F1 H1 [] F H' [D] ∧ H' D = some (.dK vs) ∧ F D = none ∧ KDat X.K F vs ((xs.take (i + 1)).map fun x => (kf x, f x)), fun H' q => ⟨xs.length - (i + 1), by omega, rfl, hlt, q⟩, fun v H3 y => ?_⟩
    obtain ⟨F3, e3, dpx⟩ := yl v H3 y
    have st3 := st.trans (e3.st [D])
    obtain ⟨A', rpw, _⟩ := (rp1.mono st3.ext).wipe (own.map (·.2))
    have hD2 : H2 D ≠ none := by rw [eD]; simp
    refine ⟨⟨x, hx⟩, F3, A', st3.fh, rpw, dpx, fun σ' A2 r2 w2 s2 => ⟨w2.trans (wipe_wipe _ _), yes_of ⟨⟨x, hx⟩, F3, A2, st3.fh, r2, fun F4 H4 vk e4 qk => ⟨⟨x, hx⟩, F4, A2, e4.fh, r2.mono e4, fun F5 H5 v5 e5 q5 => ?_⟩⟩⟩⟩
    have e35 := (e3.trans e4).trans e5
    have eD5 := e35.hh _ _ eD
    refine ⟨vs, kf x, dp_key (show Dp X.K F4 vk (keyD (kf x)) from qk), eD5, by omega, F5, _, ((st3.trans (e4.st [D])).trans (e5.st [D])).upd nD (e35.own D nF hD2) (by rw [eD5]; simp), upd_same, e35.own D nF hD2, ?_⟩
    have nk : kf x ∉ ((xs.take i).map fun x => (kf x, f x)).map (·.1) := by
      rw [List.map_map]
      exact nodup_take hd ex
    rw [putK_new _ (val_none kd nk), List.take_add_one, ex, List.map_append]
    exact kdat_append (e35.ff.kdat kd) (.cons ⟨rfl, q5⟩ .nil)
  · have ei : i = xs.length := by omega
    subst ei
    rw [List.take_length] at kd
    obtain ⟨l1, l2⟩ := Ext.freeze st.fh nF eD trivial
    refine .inl ⟨stop (by simp), k (upd F2 D (.dK vs)) H2 _ ⟨st.ff.trans l1, l2, st.ext.hh, fun a h1 h2 => ?_⟩ ⟨D, vs, rfl, .inl upd_same, l1.kdat kd⟩⟩
    have : a ≠ D := fun z => h2 (z ▸ nD)
    rw [upd_ne this]
    exact st.ext.own a h1 h2
theorem dcomp {α : Type} {xs : List α} {enc : α → PyData} {ρ' : α → List Sl} {kf : α → Key} {f : α → PyData} (hi : PI X tg iter (tI X.K ρ true (xs.map enc))) (ok : BlkOk X.N X.env.scope scope own)
    (hg : ∀ x ∈ xs, ∀ (s : Shared) (H : Hp) (C : Addr) (cl : List (Str × Addr)) (fp : List Addr), PG (X.blk s H scope (compEnvC scope cl C X.env) fp) tg (tG X.K (wipeR ρ (own.map (·.2))) (enc x) (ρ' x) (own.map (·.2))))
    (hk : ∀ x ∈ xs, ∀ (s : Shared) (H : Hp) (C : Addr) (cl : List (Str × Addr)) (fp : List Addr), PE (X.blk s H scope (compEnvC scope cl C X.env) fp) kx (tD X.K (ρ' x) (.d (keyD (kf x)))))
    (he : ∀ x ∈ xs, ∀ (s : Shared) (H : Hp) (C : Addr) (cl : List (Str × Addr)) (fp : List Addr), PE (X.blk s H scope (compEnvC scope cl C X.env) fp) vx (tD X.K (ρ' x) (.d (f x))))
    (hz : xs.length ≤ sizeLine) (hd : (xs.map kf).Nodup) (hc : X.calm = true := by rfl) (hN : X.N.Nodup := by decide) (hs : ∀ x, foldedSetIterable iter X.env x = pure x := by intro _; rfl) :
    PE X (.DictComp kx vx [⟨tg, iter, [], 0⟩] scope pos) (tD X.K ρ (.dk (xs.map fun x => (kf x, f x)))) := overI (dkcore hi ok hg hk he hz hd hc hN hs mono_tI) bk_d
theorem dkcomp {te : TE} {kvs : List (Key × PyData)} {ρ' : Key × PyData → List Sl} {kf : Key × PyData → Key} {f : Key × PyData → PyData} (hsrc : PE X iter te) (src : Src X.K ρ te kvs) (me : MonoE te) (ok : BlkOk X.N X.env.scope scope own)
    (hg : ∀ x ∈ kvs, ∀ (s : Shared) (H : Hp) (C : Addr) (cl : List (Str × Addr)) (fp : List Addr), PG (X.blk s H scope (compEnvC scope cl C X.env) fp) tg (tG X.K (wipeR ρ (own.map (·.2))) (keyD x.1) (ρ' x) (own.map (·.2))))
    (hk : ∀ x ∈ kvs, ∀ (s : Shared) (H : Hp) (C : Addr) (cl : List (Str × Addr)) (fp : List Addr), PE (X.blk s H scope (compEnvC scope cl C X.env) fp) kx (tD X.K (ρ' x) (.d (keyD (kf x)))))
    (he : ∀ x ∈ kvs, ∀ (s : Shared) (H : Hp) (C : Addr) (cl : List (Str × Addr)) (fp : List Addr), PE (X.blk s H scope (compEnvC scope cl C X.env) fp) vx (tD X.K (ρ' x) (.d (f x))))
    (hz : kvs.length ≤ sizeLine) (hd : (kvs.map kf).Nodup) (hc : X.calm = true := by rfl) (hN : X.N.Nodup := by decide) (hs : ∀ x, foldedSetIterable iter X.env x = pure x := by intro _; rfl) :
    PE X (.DictComp kx vx [⟨tg, iter, [], 0⟩] scope pos) (tD X.K ρ (.dk (kvs.map fun x => (kf x, f x)))) :=
  overKeys src (dkcore (enc := fun x : Key × PyData => keyD x.1) (pi_keys hsrc) ok hg hk he hz hd hc hN hs (mono_keys me)) bk_d (fun _ _ _ _ _ _ _ _ _ h => h) fun _ _ _ _ _ _ _ _ h => h
/-- keys that are tuples, written as displays -/
theorem dtcomp {α : Type} {xs : List α} {enc : α → PyData} {ρ' : α → List Sl} {kf : α → List Key} {f : α → PyData} {kes : List Expr} {kn : Nat} {kpos : Pos} (hu : X.A.units < cLine) (hi : PI X tg iter (tI X.K ρ true (xs.map enc))) (ok : BlkOk X.N X.env.scope scope own)
    (hg : ∀ x ∈ xs, ∀ (s : Shared) (H : Hp) (C : Addr) (cl : List (Str × Addr)) (fp : List Addr), PG (X.blk s H scope (compEnvC scope cl C X.env) fp) tg (tG X.K (wipeR ρ (own.map (·.2))) (enc x) (ρ' x) (own.map (·.2))))
    (hk : ∀ x ∈ xs, ∀ (s : Shared) (H : Hp) (C : Addr) (cl : List (Str × Addr)) (fp : List Addr), PA (X.blk s H scope (compEnvC scope cl C X.env) fp) kes (tAr X.K (ρ' x) (((kf x).map keyD).map .d)))
    (he : ∀ x ∈ xs, ∀ (s : Shared) (H : Hp) (C : Addr) (cl : List (Str × Addr)) (fp : List Addr), PE (X.blk s H scope (compEnvC scope cl C X.env) fp) vx (tD X.K (ρ' x) (.d (f x))))
    (hz : xs.length ≤ sizeLine) (hd : (xs.map kf).Nodup) (h2 : ∀ x, (kf x).length ≤ sizeLine) (hc : X.calm = true := by rfl) (hN : X.N.Nodup := by decide) (hs : ∀ x, foldedSetIterable iter X.env x = pure x := by intro _; rfl) :
    PE X (.DictComp (.Tuple kes kn kpos) vx [⟨tg, iter, [], 0⟩] scope pos) (tD X.K ρ (.dt (xs.map fun x => (kf x, f x)))) := by
  refine overI (R := RD X.K _) ((pe_dt (g := fun v σ H Q => ∃ i : { x // x ∈ xs }, tG X.K (wipeR ρ (own.map (·.2))) (enc i.1) (ρ' i.1) (own.map (·.2)) v σ H Q)
    (tt := tYes) (tk := fun σ H Q => ∃ i : { x // x ∈ xs }, tR X.K (ρ' i.1) (fun _ _ _ H' v => ∃ q, v = .ref q ∧ H' q = some (.tup ((kf i.1).map kV))) σ H Q) (tv := fun σ H Q => ∃ i : { x // x ∈ xs }, tD X.K (ρ' i.1) (.d (f i.1)) σ H Q) hu hc hN hi ok
    (fun s H C cl fp => .all fun i => hg i.1 i.2 s H C cl fp) (fun s H C cl fp => pts_nil) (fun s H C cl fp => .all fun i => ktup (t := tNoE) (hk i.1 i.2 s H C cl fp) (h2 i.1)) (fun s H C cl fp => .all fun i => he i.1 i.2 s H C cl fp) hs).imp
    fun σ H Q q => mono_tI _ _ _ _ (fun J H1 ⟨F1, A, l1, rp1, wk, k⟩ => fun D nD => ?_) q) bk_d
  have nF1 : F1 D = none := l1.dom D nD
  refine ⟨fun i m H => m = xs.length - i ∧ i ≤ xs.length ∧ ∃ F vs, StEx F1 H1 [] F H [D] ∧ H D = some (.dT vs) ∧ F D = none ∧ KDat X.K F vs ((xs.take i).map fun x => (kf x, f x)),
    ⟨xs.length, by simp, Nat.zero_le _, F1, [], stex_new l1 nD, upd_same, nF1, by simp; exact .nil⟩, ?_⟩
  rintro i m H2 ⟨rfl, hi, F2, vs, st, eD, nF, kd⟩
  obtain ⟨stop, item⟩ := wk i F2 H2 [D] st
  have lvs : vs.length ≤ i := by
    rw [kdat_len kd, List.length_map, List.length_take]
    omega
  by_cases hlt : i < xs.length
  · have ex : xs[i]? = some xs[i] := List.getElem?_eq_getElem hlt
    have hx : xs[i] ∈ xs := List.getElem_mem hlt
    generalize xs[i] = x at ex hx
    obtain ⟨go, yl⟩ := item (enc x) (by rw [List.getElem?_map, ex]; rfl)
    refine .inr ⟨go, fun H' => ∃ F vs, StEx F1 H1 [] F H' [D] ∧ H' D = some (.dT vs) ∧ F D = none ∧ KDat X.K F vs ((xs.take (i + 1)).map fun x => (kf x, f x)), fun H' q => ⟨xs.length - (i + 1), by omega, rfl, hlt, q⟩, fun v H3 y => ?_⟩
    obtain ⟨F3, e3, dpx⟩ := yl v H3 y
    have st3 := st.trans (e3.st [D])
    obtain ⟨A', rpw, _⟩ := (rp1.mono st3.ext).wipe (own.map (·.2))
    have hD2 : H2 D ≠ none := by rw [eD]; simp
    refine ⟨⟨x, hx⟩, F3, A', st3.fh, rpw, dpx, fun σ' A2 r2 w2 s2 => ⟨w2.trans (wipe_wipe _ _), yes_of ⟨⟨x, hx⟩, F3, A2, st3.fh, r2, fun F4 H4 vk e4 ⟨q, ek, eq⟩ => ⟨⟨x, hx⟩, F4, A2, e4.fh, r2.mono e4, fun F5 H5 v5 e5 q5 => ?_⟩⟩⟩⟩
    have e35 := (e3.trans e4).trans e5
    have eD5 := e35.hh _ _ eD
    refine ⟨vs, kf x, q, ek, e5.hh _ _ eq, eD5, by omega, F5, _, ((st3.trans (e4.st [D])).trans (e5.st [D])).upd nD (e35.own D nF hD2) (by rw [eD5]; simp), upd_same, e35.own D nF hD2, ?_⟩
    have nk : kf x ∉ ((xs.take i).map fun x => (kf x, f x)).map (·.1) := by
      rw [List.map_map]
      exact nodup_take hd ex
    rw [putK_new _ (val_none kd nk), List.take_add_one, ex, List.map_append]
    exact kdat_append (e35.ff.kdat kd) (.cons ⟨rfl, q5⟩ .nil)
  · have ei : i = xs.length := by omega
    subst ei
    rw [List.take_length] at kd
    obtain ⟨l1, l2⟩ := Ext.freeze st.fh nF eD trivial
    refine .inl ⟨stop (by simp), k (upd F2 D (.dT vs)) H2 _ ⟨st.ff.trans l1, l2, st.ext.hh, fun a h1 h2 => ?_⟩ ⟨D, vs, rfl, .inl upd_same, l1.kdat kd⟩⟩
    have : a ≠ D := fun z => h2 (z ▸ nD)
    rw [upd_ne this]
    exact st.ext.own a h1 h2

/-! ### an owned dict of owned lists -/
def RO (K : PySem.W.Frag) (kvs : List (Key × List PyData)) : RK := fun F H F' H' v => ∃ p vs bs, v = .ref p ∧ H' p = some (.dK vs) ∧ OwD K F' H' kvs vs bs ∧ ∀ b ∈ p :: bs, F' b = none ∧ H b = none
theorem bk_o {K : PySem.W.Frag} {kvs : List (Key × List PyData)} : Bk (RO K kvs) := fun F H F1 H1 F2 H2 v e ⟨p, vs, bs, e1, e2, e3, e4⟩ => ⟨p, vs, bs, e1, e2, e3, fun b m => ⟨(e4 b m).1, e.hh.free (e4 b m).2⟩⟩
theorem OwD.snoc {K : PySem.W.Frag} {F H : Hp} {k : Key} {ds : List PyData} {b : Addr} {xs : List V} : ∀ {kvs : List (Key × List PyData)} {vs : List (Key × V)} {bs : List Addr}, OwD K F H kvs vs bs → H b = some (.lst xs) → DpAll K F xs ds → b ∉ bs →
    OwD K F H (kvs ++ [(k, ds)]) (vs ++ [(k, .ref b)]) (bs ++ [b])
  | _, _, _, .nil, e, d, _ => .cons e d (by simp) .nil
  | _, _, _, .cons e1 d1 n1 t, e, d, n => by
    have n2 : ¬ (_ ∨ _) := fun z => n (List.mem_cons.mpr z)
    exact .cons e1 d1 (by
      intro z
      rcases List.mem_append.mp z with z | z
      · exact n1 z
      · exact n2 (.inl (by simpa using z : _ = b).symm)) (OwD.snoc t e d fun z => n2 (.inr z))
theorem OwD.keys {K : PySem.W.Frag} {F H : Hp} : ∀ {kvs : List (Key × List PyData)} {vs : List (Key × V)} {bs : List Addr}, OwD K F H kvs vs bs → vs.map (·.1) = kvs.map (·.1)
  | _, _, _, .nil => rfl
  | _, _, _, .cons _ _ _ t => by rw [List.map_cons, List.map_cons, OwD.keys t]
theorem valV_none {κ : Type} [DecidableEq κ] {kvs : List (κ × V)} {k : κ} (h : k ∉ kvs.map (·.1)) : valV kvs k = none := by
  unfold valV
  rw [List.find?_eq_none.mpr]
  · rfl
  · intro p hp e
    exact h (List.mem_map.mpr ⟨_, hp, of_decide_eq_true e⟩)
abbrev tkU (K : PySem.W.Frag) {α : Type} (xs : List α) (ρ' : α → List Sl) (kf : α → Key) : TE := fun σ H Q => ∃ i : { x // x ∈ xs }, tD K (ρ' i.1) (.d (keyD (kf i.1))) σ H Q
abbrev tvU (K : PySem.W.Frag) {α : Type} (xs : List α) (ρ' : α → List Sl) (f : α → List PyData) : TE := fun σ H Q => ∃ i : { x // x ∈ xs }, tN K (ρ' i.1) (f i.1) σ H Q
theorem doR {K : PySem.W.Frag} {wi : TI} {vs0 : List Nat} {α : Type} {xs : List α} {enc : α → PyData} {ρ' : α → List Sl} {kf : α → Key} {f : α → List PyData} (hz : xs.length ≤ sizeLine) (hd : (xs.map kf).Nodup) (mono : MonoI wi) {σ : L2.St} {H : Hp} {Q : VK} (q : tLC K ρ wi (xs.map enc) (RO K (xs.map fun x => (kf x, f x))) σ H Q) :
    tDc wi (gU K ρ vs0 xs enc ρ') tYes (tkU K xs ρ' kf) (tvU K xs ρ' f) vs0 σ H Q := by
  refine mono _ _ _ _ (fun J H1 ⟨F1, A, l1, rp1, wk, k⟩ => fun D nD => ?_) q
  have nF1 : F1 D = none := l1.dom D nD
  refine ⟨fun i m H => m = xs.length - i ∧ i ≤ xs.length ∧ ∃ F vs bs, StEx F1 H1 [] F H [D] ∧ H D = some (.dK vs) ∧ F D = none ∧ OwD K F H ((xs.take i).map fun x => (kf x, f x)) vs bs ∧ D ∉ bs ∧ ∀ b ∈ bs, F b = none ∧ H1 b = none,
    ⟨xs.length, by simp, Nat.zero_le _, F1, [], [], stex_new l1 nD, upd_same, nF1, by simp; exact .nil, by simp, by simp⟩, ?_⟩
  rintro i m H2 ⟨rfl, hi, F2, vs, bs, st, eD, nF, kd, nDb, fr⟩
  obtain ⟨stop, item⟩ := wk i F2 H2 [D] st
  have lvs : vs.length ≤ i := by
    have := congrArg List.length kd.keys
    simp only [List.length_map, List.length_take] at this
    omega
  by_cases hlt : i < xs.length
  · have ex : xs[i]? = some xs[i] := List.getElem?_eq_getElem hlt
    have hx : xs[i] ∈ xs := List.getElem_mem hlt
    generalize xs[i] = x at ex hx
    obtain ⟨go, yl⟩ := item (enc x) (by rw [List.getElem?_map, ex]; rfl)
    refine .inr ⟨go, fun H' => ∃ F vs bs, StEx F1 H1 [] F H' [D] ∧ H' D = some (.dK vs) ∧ F D = none ∧ OwD K F H' ((xs.take (i + 1)).map fun x => (kf x, f x)) vs bs ∧ D ∉ bs ∧ ∀ b ∈ bs, F b = none ∧ H1 b = none, fun H' q => ⟨xs.length - (i + 1), by omega, rfl, hlt, q⟩, fun v H3 y => ?_⟩
    obtain ⟨F3, e3, dpx⟩ := yl v H3 y
    have st3 := st.trans (e3.st [D])
    obtain ⟨A', rpw, _⟩ := (rp1.mono st3.ext).wipe vs0
    have hD2 : H2 D ≠ none := by rw [eD]; simp
    refine ⟨⟨x, hx⟩, F3, A', st3.fh, rpw, dpx, fun σ' A2 r2 w2 s2 => ⟨w2.trans (wipe_wipe _ _), yes_of ⟨⟨x, hx⟩, F3, A2, st3.fh, r2, fun F4 H4 vk e4 qk => ⟨⟨x, hx⟩, F4, A2, e4.fh, r2.mono e4, fun F5 H5 v5 e5 q5 => ?_⟩⟩⟩⟩
    have e35 := (e3.trans e4).trans e5
    have eD5 := e35.hh _ _ eD
    obtain ⟨b, ys, eb, nb, nb4, lb, _, dpb⟩ := q5
    have nb2 : H2 b = none := (e3.trans e4).hh.free nb4
    have nbD : b ≠ D := fun z => by rw [z, eD] at nb2; cases nb2
    have live : ∀ c ∈ bs, H2 c ≠ none := fun c m => by
      obtain ⟨zs, ez⟩ := kd.mem c m
      rw [ez]; simp
    have nbb : b ∉ bs := fun z => live b z nb2
    refine ⟨vs, kf x, dp_key (show Dp K F4 vk (keyD (kf x)) from qk), eD5, by omega, F5, _, bs ++ [b], ((st3.trans (e4.st [D])).trans (e5.st [D])).upd nD (e35.own D nF hD2) (by rw [eD5]; simp), upd_same, e35.own D nF hD2, ?_, ?_, ?_⟩
    · have nk : kf x ∉ vs.map (·.1) := by
        rw [kd.keys, List.map_map]
        exact nodup_take hd ex
      rw [putK_new _ (valV_none nk), List.take_add_one, ex, List.map_append, eb]
      refine OwD.snoc (kd.mono e35.ff fun c m => ?_) (by rw [upd_ne nbD]; exact lb) dpb nbb
      have z : c ≠ D := fun z => nDb (by rw [← z]; exact m)
      rw [upd_ne z]
      exact same_at e35.hh (live c m)
    · intro z
      rcases List.mem_append.mp z with z | z
      · exact nDb z
      · exact nbD (by simpa using z : D = b).symm
    · intro c z
      rcases List.mem_append.mp z with z | z
      · exact ⟨e35.own c (fr c z).1 (live c z), (fr c z).2⟩
      · have : c = b := by simpa using z
        rw [this]
        refine ⟨nb, ?_⟩
        cases w : H1 b with
        | none => rfl
        | some o => exact absurd nb2 (st.al b (by rw [w]; simp))
  · have ei : i = xs.length := by omega
    subst ei
    rw [List.take_length] at kd
    refine .inl ⟨stop (by simp), k F2 H2 _ st.ext ⟨D, vs, bs, rfl, eD, kd, fun b m => ?_⟩⟩
    rcases List.mem_cons.mp m with rfl | m
    · exact ⟨nF, nD⟩
    · exact fr b m
theorem docomp {α : Type} {xs : List α} {enc : α → PyData} {ρ' : α → List Sl} {kf : α → Key} {f : α → List PyData} (hi : PI X tg iter (tI X.K ρ true (xs.map enc))) (ok : BlkOk X.N X.env.scope scope own)
    (hg : ∀ x ∈ xs, ∀ (s : Shared) (H : Hp) (C : Addr) (cl : List (Str × Addr)) (fp : List Addr), PG (X.blk s H scope (compEnvC scope cl C X.env) fp) tg (tG X.K (wipeR ρ (own.map (·.2))) (enc x) (ρ' x) (own.map (·.2))))
    (hk : ∀ x ∈ xs, ∀ (s : Shared) (H : Hp) (C : Addr) (cl : List (Str × Addr)) (fp : List Addr), PE (X.blk s H scope (compEnvC scope cl C X.env) fp) kx (tD X.K (ρ' x) (.d (keyD (kf x)))))
    (he : ∀ x ∈ xs, ∀ (s : Shared) (H : Hp) (C : Addr) (cl : List (Str × Addr)) (fp : List Addr), PE (X.blk s H scope (compEnvC scope cl C X.env) fp) vx (tN X.K (ρ' x) (f x)))
    (hz : xs.length ≤ sizeLine) (hd : (xs.map kf).Nodup) (hc : X.calm = true := by rfl) (hN : X.N.Nodup := by decide) (hs : ∀ x, foldedSetIterable iter X.env x = pure x := by intro _; rfl) :
    PE X (.DictComp kx vx [⟨tg, iter, [], 0⟩] scope pos) (tR X.K ρ (RO X.K (xs.map fun x => (kf x, f x)))) :=
  overI (R := RO X.K _) ((pe_dc (g := gU X.K ρ (own.map (·.2)) xs enc ρ') (tt := tYes) (tk := tkU X.K xs ρ' kf) (tv := tvU X.K xs ρ' f) hc hN hi ok
    (fun s H C cl fp => .all fun i => hg i.1 i.2 s H C cl fp) (fun s H C cl fp => pts_nil) (fun s H C cl fp => .all fun i => hk i.1 i.2 s H C cl fp) (fun s H C cl fp => .all fun i => he i.1 i.2 s H C cl fp) hs).imp
    fun σ H Q q => doR hz hd mono_tI q) bk_o
/-- .. given to a name on one line -/
theorem docompSet {α : Type} {xs : List α} {enc : α → PyData} {ρ' : α → List Sl} {kf : α → Key} {f : α → List PyData} {i : Nat} {y : Str} {py spos : Pos} (hi : PI X tg iter (tI X.K ρ true (xs.map enc))) (ok : BlkOk X.N X.env.scope scope own)
    (hg : ∀ x ∈ xs, ∀ (s : Shared) (H : Hp) (C : Addr) (cl : List (Str × Addr)) (fp : List Addr), PG (X.blk s H scope (compEnvC scope cl C X.env) fp) tg (tG X.K (wipeR ρ (own.map (·.2))) (enc x) (ρ' x) (own.map (·.2))))
    (hk : ∀ x ∈ xs, ∀ (s : Shared) (H : Hp) (C : Addr) (cl : List (Str × Addr)) (fp : List Addr), PE (X.blk s H scope (compEnvC scope cl C X.env) fp) kx (tD X.K (ρ' x) (.d (keyD (kf x)))))
    (he : ∀ x ∈ xs, ∀ (s : Shared) (H : Hp) (C : Addr) (cl : List (Str × Addr)) (fp : List Addr), PE (X.blk s H scope (compEnvC scope cl C X.env) fp) vx (tN X.K (ρ' x) (f x)))
    (hz : xs.length ≤ sizeLine) (hd : (xs.map kf).Nodup) (hc : X.calm = true) (hN : X.N.Nodup) (hs : ∀ x, foldedSetIterable iter X.env x = pure x) (hy : X.N[i]? = some y) (hyl : X.env.scope.names.lookup y = some .local)
    (hsw : swapsWith (.DictComp kx vx [⟨tg, iter, [], 0⟩] scope pos) (some (.Name y py)) spos.line X.env = pure true) :
    PS X (.Assign [.Name y py] (.DictComp kx vx [⟨tg, iter, [], 0⟩] scope pos) spos) (tAsg (tLC X.K ρ (tI X.K ρ true (xs.map enc)) (xs.map enc) (RO X.K (xs.map fun x => (kf x, f x)))) (gName i)) := by
  refine ⟨fun pins s σ H D I given => ?_⟩
  rewrite [exec_Assign_Name_used _ _ _ _ hsw]
  have h : tLC X.K ρ (tI X.K ρ true (xs.map enc)) (xs.map enc) (RO X.K (xs.map fun x => (kf x, f x))) σ H (fun x H1 => gName i x σ H1 D.nx) := given
  refine wpAny_bind (wpAny_standAt <| wpAny_bind ?_)
  show wpAny _ X.A (do let _ ← comprehension (.DictComp kx vx [⟨tg, iter, [], 0⟩] scope pos) scope X.env (firstIterPos [⟨tg, iter, [], 0⟩] pos) newDict false (eval iter X.env) (some (assign (.Name y py) X.env))) _ _ s
  refine wpAny_bind (thn (dc_core (Qf := fun _ s' => SP X pins D .next s') (g := gU X.K ρ (own.map (·.2)) xs enc ρ') (tt := tYes) (tk := tkU X.K xs ρ' kf) (tv := tvU X.K xs ρ' f) hc hN I hi ok
    (fun s H C cl fp => .all fun i => hg i.1 i.2 s H C cl fp) (fun s H C cl fp => pts_nil) (fun s H C cl fp => .all fun i => hk i.1 i.2 s H C cl fp) (fun s H C cl fp => .all fun i => he i.1 i.2 s H C cl fp) hs (doR hz hd mono_tI h) fun L C s' m H' I' q ns fo => ?_) fun _ s' hq => wpAny_pure (wpAny_pure hq))
  show wpAny _ _ (assign (.Name y py) X.env (Value.ref L)) _ _ _
  obtain ⟨f0, f1, f2, f3, f4, f5⟩ := fo
  refine wpAny_assign_Name (store_ok2 (v := V.ref L) I' hN hy (.inl hyl) rfl (fun s2 I2 ⟨a, sb, there⟩ => ?_) (.inr hyl))
  have nCa : C ≠ a := by
    rcases there with z | z
    · rw [z]; exact f1
    · exact fun eq => (f4 y a z) eq.symm
  refine ⟨m, ns.sameBut sb nCa, fun h3 sb3 => ⟨_, H', I2.turned (t' := s2.toks) (fun b o nb e => (sb3.2 b nb).trans e) f0 f1 f3 f4 f5, q⟩⟩
/-- [elt for .. in nothing for .. in ..] -/
theorem lc2no {tg1 iter1 : Expr} {ifs1 : List Expr} {vs1 : List Nat} (hi : PI X tg iter (tI X.K ρ true [])) (ok : BlkOk X.N X.env.scope scope own) (hv : ∀ i ∈ vs1, i ∈ own.map (·.2)) (hc : X.calm = true := by rfl) (hN : X.N.Nodup := by decide) (hs : ∀ x, foldedSetIterable iter X.env x = pure x := by intro _; rfl)
    (hs1 : ∀ env x, foldedSetIterable iter1 env x = pure x := by intro _ _; rfl) : PE X (.ListComp elt [⟨tg, iter, ifs, 0⟩, ⟨tg1, iter1, ifs1, 0⟩] scope pos) (tN X.K ρ []) :=
  (pe_lc2 (g := fun _ _ _ _ => False) (tt := fun _ _ _ => False) (te := tNoE) (wi1 := fun _ _ _ => False) (g1 := fun _ _ _ _ => False) (tt1 := fun _ _ _ => False) (vs1 := vs1) hc hN hi ok hv (fun _ _ _ _ _ => ⟨fun _ _ _ _ _ _ _ _ _ h => h.elim⟩) (fun _ _ _ _ _ => ⟨fun _ _ _ _ _ _ h => h.elim⟩) (fun _ _ _ _ _ => ⟨fun _ _ _ _ _ _ h => h.elim⟩)
    (fun _ _ _ _ _ => ⟨fun _ _ _ _ _ _ _ _ _ h => h.elim⟩) (fun _ _ _ _ _ => ⟨fun _ _ _ _ _ _ h => h.elim⟩) (fun _ _ _ _ _ => pe_no) hs hs1).imp fun σ H Q ⟨F, A, l, rp, k⟩ => ⟨F, A, l, rp, fun F1 H1 J e1 wk D nD =>
      ⟨fun i m H => i = 0 ∧ H = upd H1 D (.lst []), ⟨0, rfl, rfl⟩, fun i m H ⟨ei, eH⟩ => by
        rw [if_pos rfl] at wk
        subst ei eH
        have st := stex_new (o := .lst []) e1.fh nD
        exact .inl ⟨(wk 0 F1 _ _ st).1 (Nat.le_refl _), k F1 _ _ (e1.trans st.ext) ⟨D, [], rfl, e1.fh.dom D nD, e1.hh.free nD, upd_same, Nat.zero_le _, .nil⟩⟩⟩⟩
end
end KL
/-! DLh: statements and defs over data. -/
namespace KL
open PySem PySem.Spec L2
inductive Out where
  | nx (ρ : List Sl)
  | rt (P : D → Prop)
  | bk (ρ : List Sl)
  | ct (ρ : List Sl)
  | nxs (T : List Sl → Prop)
  /-- a return, with what the slots hold then -/
  | rts (P : D → Prop) (T : List Sl → Prop)
def OutK (K : PySem.W.Frag) (F H : Hp) (A : List Addr) (Dn : Ends) : Out → Prop
  | .nx ρ' => ∀ F' H' σ' A', StEx F H A F' H' A' → Rep K F' H' ρ' σ' A' → Dn.nx σ' H'
  | .rt P => ∀ F' H' v d A', StEx F H A F' H' A' → P d → Is K F' v d → Dn.rt v H'
  | .bk ρ' => ∀ F' H' σ' A', StEx F H A F' H' A' → Rep K F' H' ρ' σ' A' → Dn.bk σ' H'
  | .ct ρ' => ∀ F' H' σ' A', StEx F H A F' H' A' → Rep K F' H' ρ' σ' A' → Dn.ct σ' H'
  | .nxs T => ∀ ρ' F' H' σ' A', T ρ' → StEx F H A F' H' A' → Rep K F' H' ρ' σ' A' → Dn.nx σ' H'
  | .rts P T => ∀ ρ' F' H' σ' A' v d, T ρ' → StEx F H A F' H' A' → Rep K F' H' ρ' σ' A' → P d → Is K F' v d → Dn.rt v H'
def tW (K : PySem.W.Frag) (ρ : List Sl) (O : Out) : TS := fun Dn σ H => ∃ F A, Le F H ∧ Rep K F H ρ σ A ∧ OutK K F H A Dn O
theorem OutK.step {K : PySem.W.Frag} {F H F1 H1 : Hp} {A A1 : List Addr} {Dn : Ends} {O : Out} (h : OutK K F H A Dn O) (st : StEx F H A F1 H1 A1) : OutK K F1 H1 A1 Dn O := by
  cases O with
  | nx ρ => exact fun F' H' σ' A' s r => h F' H' σ' A' (st.trans s) r
  | rt P => exact fun F' H' v d A' s p q => h F' H' v d A' (st.trans s) p q
  | bk ρ => exact fun F' H' σ' A' s r => h F' H' σ' A' (st.trans s) r
  | ct ρ => exact fun F' H' σ' A' s r => h F' H' σ' A' (st.trans s) r
  | nxs T => exact fun ρ' F' H' σ' A' t s r => h ρ' F' H' σ' A' t (st.trans s) r
  | rts P T => exact fun ρ' F' H' σ' A' v d t s r => h ρ' F' H' σ' A' v d t (st.trans s) r
theorem _root_.L2.PSs.imp {X : Cx} {st : List Stmt} {t t' : TS} (h : PSs X st t) (i : ∀ D σ H, t' D σ H → t D σ H) : PSs X st t' := ⟨fun pins s σ H D I q => h.run pins s σ H D I (i D σ H q)⟩
theorem _root_.L2.PSs.all {X : Cx} {st : List Stmt} {ι : Type} {t : ι → TS} (h : ∀ i, PSs X st (t i)) : PSs X st (fun D σ H => ∃ i, t i D σ H) := ⟨fun pins s σ H D I ⟨i, q⟩ => (h i).run pins s σ H D I q⟩
section
variable {X : Cx} {ρ ρ1 ρ2 : List Sl} {e c tg iter : Expr} {s : Stmt} {rest body els : List Stmt} {pos : Pos} {O : Out} {d : D} {ds : List PyData} {P : D → Prop} {k : Bool}
theorem w_nil : PSs X [] (tW X.K ρ (.nx ρ)) := pss_nil.imp fun D σ H ⟨F, A, l, rp, q⟩ => q F H σ A (.refl l A) rp
theorem w_cons (h1 : PS X s (tW X.K ρ (.nx ρ1))) (h2 : PSs X rest (tW X.K ρ1 O)) : PSs X (s :: rest) (tW X.K ρ O) :=
  (pss_cons h1 h2).imp fun D σ H ⟨F, A, l, rp, q⟩ => ⟨F, A, l, rp, fun F1 H1 σ1 A1 st r1 => ⟨F1, A1, st.fh, r1, q.step st⟩⟩
theorem w_one (h : PS X s (tW X.K ρ O)) : PSs X [s] (tW X.K ρ O) := pss_one h
def notNx : Out → Prop
  | .nx _ => False
  | .nxs _ => False
  | _ => True
theorem w_end (h : PS X s (tW X.K ρ O)) (n : notNx O := by trivial) : PSs X (s :: rest) (tW X.K ρ O) :=
  (pss_cons h pss_never).imp fun D σ H ⟨F, A, l, rp, q⟩ => ⟨F, A, l, rp, by
    cases O with
    | nx ρ => exact False.elim n
    | rt P => exact q
    | bk ρ => exact q
    | ct ρ => exact q
    | nxs T => exact False.elim n
    | rts P T => exact q⟩
theorem tW_all {ι : Type} {Oi : ι → Out} {ρi : ι → List Sl} (h : ∀ i, PSs X rest (tW X.K (ρi i) (Oi i))) : PSs X rest (fun D σ H => ∃ i, tW X.K (ρi i) (Oi i) D σ H) := .all h
/-- a slot takes frozen data -/
theorem rep_set {K : PySem.W.Frag} {F H : Hp} {σ : L2.St} {A : List Addr} (rp : Rep K F H ρ σ A) (i : Nat) {v : V} {d : D} (q : Is K F v d) : ∃ A', Rep K F H (ρ.set i (.fr d)) (σ.set i (some v)) A' ∧ ∀ a ∈ A', a ∈ A := by
  obtain ⟨A', h1, h2⟩ := rp.rl.set i (r := .fr d) (s := some v) (B := []) ⟨rfl, v, rfl, q⟩ (fun _ z => nomatch z)
  have h3 : ∀ a ∈ A', a ∈ A := fun a z => (h2 a z).resolve_right fun w => nomatch w
  exact ⟨A', ⟨h1, fun a z => rp.nf a (h3 a z)⟩, h3⟩
theorem stEx_sub {F H F' H' : Hp} {A A1 A2 : List Addr} (st : StEx F H A F' H' A1) (h : ∀ a ∈ A2, a ∈ A1) : StEx F H A F' H' A2 := ⟨st.ff, st.fh, st.hh, st.own, st.al, fun a z => st.new a (h a z)⟩
/-- a slot takes a new list -/
theorem rep_own {K : PySem.W.Frag} {F H : Hp} {σ : L2.St} {A : List Addr} (rp : Rep K F H ρ σ A) (i : Nat) {p : Addr} {xs : List V} {ds : List PyData} (e : H p = some (.lst xs)) (q : DpAll K F xs ds) (nF : F p = none) (nA : p ∉ A) :
    ∃ A', Rep K F H (ρ.set i (.ow ds)) (σ.set i (some (.ref p))) A' ∧ ∀ a ∈ A', a ∈ A ∨ a = p := by
  obtain ⟨A', h1, h2⟩ := rp.rl.set i (r := .ow ds) (s := some (.ref p)) (B := [p]) ⟨p, xs, rfl, rfl, e, q⟩ (fun b z => by rw [show b = p by simpa using z]; exact nA)
  have h3 : ∀ a ∈ A', a ∈ A ∨ a = p := fun a z => (h2 a z).imp id fun w => by simpa using w
  exact ⟨A', ⟨h1, fun a z => (h3 a z).elim (rp.nf a) fun w => by rw [w]; exact nF⟩, h3⟩
theorem asg_fr {K : PySem.W.Frag} {i : Nat} {D : Ends} {σ : L2.St} {H : Hp} (h : tW K ρ (.nx (ρ.set i (.fr d))) D σ H) : tAsg (tD K ρ d) (gName i) D σ H := by
  obtain ⟨F, A, l, rp, q⟩ := h
  refine ⟨F, A, l, rp, fun F1 H1 v e1 q1 => ?_⟩
  obtain ⟨A', r', sub⟩ := rep_set (rp.mono e1) i q1
  exact q F1 H1 _ A' (stEx_sub (e1.st A) sub) r'
theorem own_new {F H F' H' : Hp} {A : List Addr} {K : PySem.W.Frag} {σ : L2.St} (rp : Rep K F H ρ σ A) {p : Addr} (n : H p = none) : p ∉ A := fun z => rp.rl.some_of p z n
theorem asg_ow {K : PySem.W.Frag} {i : Nat} {D : Ends} {σ : L2.St} {H : Hp} (h : tW K ρ (.nx (ρ.set i (.ow ds))) D σ H) : tAsg (tN K ρ ds) (gName i) D σ H := by
  obtain ⟨F, A, l, rp, q⟩ := h
  refine ⟨F, A, l, rp, fun F1 H1 v e1 ⟨p, xs, ev, nF, nH, eH, lz, dp⟩ => ?_⟩
  have nA : p ∉ A := fun z => rp.rl.some_of p z nH
  obtain ⟨A', r', sub⟩ := rep_own (rp.mono e1) i eH dp nF nA
  have st := e1.st A
  rw [ev]
  exact q F1 H1 _ A' ⟨st.ff, st.fh, st.hh, st.own, st.al, fun a z => (sub a z).imp id fun w => by rw [w]; exact nH⟩ r'
theorem w_set (i : Nat) {x : Str} {pos' : Pos} (he : PE X e (tD X.K ρ d)) (hN : X.N.Nodup := by decide) (hi : X.N[i]? = some x := by rfl) (hx : Loc X.env.scope x := by first | exact Or.inl rfl | exact Or.inr rfl) (hs : swapsWith e (some (.Name x pos')) pos.line X.env = pure false := by rfl)
    (hf : X.fn x = true ∨ X.env.scope.names.lookup x = some .local := by first | exact .inl rfl | exact .inr rfl | assumption) : PS X (.Assign [.Name x pos'] e pos) (tW X.K ρ (.nx (ρ.set i (.fr d)))) :=
  (ps_set hN hi hx he hs hf).imp fun D σ H h => asg_fr h
theorem w_own (i : Nat) {x : Str} {pos' : Pos} (he : PE X e (tN X.K ρ ds)) (hN : X.N.Nodup := by decide) (hi : X.N[i]? = some x := by rfl) (hx : Loc X.env.scope x := by first | exact Or.inl rfl | exact Or.inr rfl) (hs : swapsWith e (some (.Name x pos')) pos.line X.env = pure false := by rfl)
    (hf : X.fn x = true ∨ X.env.scope.names.lookup x = some .local := by first | exact .inl rfl | exact .inr rfl | assumption) : PS X (.Assign [.Name x pos'] e pos) (tW X.K ρ (.nx (ρ.set i (.ow ds)))) :=
  (ps_set hN hi hx he hs hf).imp fun D σ H h => asg_ow h
/-- y = [.. for .. in ..] on one line, y a local -/
theorem w_lc {elt : Expr} {ifs : List Expr} {scope : Scope} {own : List (Str × Nat)} {α : Type} {xs : List α} {enc : α → PyData} {ρ' : α → List Sl} {pr : α → Bool} {f : α → PyData} (i : Nat) {y : Str} {py spos : Pos} (hi : PI X tg iter (tI X.K ρ true (xs.map enc))) (ok : BlkOk X.N X.env.scope scope own)
    (hg : ∀ x ∈ xs, ∀ (s : Shared) (H : Hp) (C : Addr) (cl : List (Str × Addr)) (fp : List Addr), PG (X.blk s H scope (compEnvC scope cl C X.env) fp) tg (tG X.K (wipeR ρ (own.map (·.2))) (enc x) (ρ' x) (own.map (·.2))))
    (ht : ∀ x ∈ xs, ∀ (s : Shared) (H : Hp) (C : Addr) (cl : List (Str × Addr)) (fp : List Addr), PTs (X.blk s H scope (compEnvC scope cl C X.env) fp) ifs (tT X.K (ρ' x) (pr x)))
    (he : ∀ x ∈ xs, pr x = true → ∀ (s : Shared) (H : Hp) (C : Addr) (cl : List (Str × Addr)) (fp : List Addr), PE (X.blk s H scope (compEnvC scope cl C X.env) fp) elt (tD X.K (ρ' x) (.d (f x))))
    (hz : xs.length ≤ sizeLine) (hc : X.calm = true := by rfl) (hN : X.N.Nodup := by decide) (hs : ∀ x, foldedSetIterable iter X.env x = pure x := by intro _; rfl) (hy : X.N[i]? = some y := by rfl) (hyl : X.env.scope.names.lookup y = some .local := by rfl)
    (hsw : swapsWith (.ListComp elt [⟨tg, iter, ifs, 0⟩] scope pos) (some (.Name y py)) spos.line X.env = pure true := by first | rfl | exact sw_true rfl rfl rfl (by decide +kernel)) :
    PS X (.Assign [.Name y py] (.ListComp elt [⟨tg, iter, ifs, 0⟩] scope pos) spos) (tW X.K ρ (.nx (ρ.set i (.ow ((xs.filter pr).map f))))) :=
  (lcoreSet hi ok hg ht he hz hc hN hs mono_tI hy hyl hsw).imp fun D σ H h => by
    obtain ⟨F, A, l, rp, k⟩ := asg_ow h
    exact ⟨F, A, l, rp, fun F1 H1 J e1 wk => ⟨F1, A, e1.fh, rp.mono e1, by rw [if_pos rfl] at wk; exact wk, fun F' H' v e2 r => k F' H' v (e1.trans e2) (bk_n _ _ _ _ _ _ _ e1 r)⟩⟩
theorem w_ret (he : PE X e (tD X.K ρ d)) (p : P d) : PS X (.Return (some e) pos) (tW X.K ρ (.rt P)) :=
  (ps_ret he).imp fun D σ H ⟨F, A, l, rp, q⟩ => ⟨F, A, l, rp, fun F1 H1 v e1 q1 => q F1 H1 v d A (e1.st A) p q1⟩
theorem w_drop (he : PE X e (tD X.K ρ d)) (hs : swapsWith e none pos.line X.env = pure false := by rfl) : PS X (.Expr e pos) (tW X.K ρ (.nx ρ)) :=
  (ps_expr he hs).imp fun D σ H ⟨F, A, l, rp, q⟩ => ⟨F, A, l, rp, fun F1 H1 v e1 q1 => q F1 H1 σ A (e1.st A) (rp.mono e1)⟩
def tNoS : TS := fun _ _ _ => False
theorem w_if (hc : PT X c (tT X.K ρ k)) (ha : k = true → PSs X body (tW X.K ρ O)) (hb : k = false → PSs X els (tW X.K ρ O)) : PS X (.If c body els pos) (tW X.K ρ O) := by
  cases k with
  | true => exact (ps_if hc (ha rfl) pss_never).imp fun D σ H ⟨F, A, l, rp, q⟩ => ⟨F, A, l, rp, fun F1 H1 e1 => iteT ⟨F1, A, e1.fh, rp.mono e1, q.step (e1.st A)⟩⟩
  | false => exact (ps_if hc pss_never (hb rfl)).imp fun D σ H ⟨F, A, l, rp, q⟩ => ⟨F, A, l, rp, fun F1 H1 e1 => iteF ⟨F1, A, e1.fh, rp.mono e1, q.step (e1.st A)⟩⟩
theorem w_break : PS X (.Break pos) (tW X.K ρ (.bk ρ)) := ps_break.imp fun D σ H ⟨F, A, l, rp, q⟩ => q F H σ A (.refl l A) rp
/-- what is owned is given away -/
theorem rep_freeze {K : PySem.W.Frag} {F H : Hp} {σ : L2.St} {A : List Addr} {i : Nat} (l : Le F H) (rp : Rep K F H ρ σ A) (h : ρ[i]? = some (.ow ds)) : ∃ F' A', Le F' H ∧ Rep K F' H (ρ.set i (.fr (.d (.list ds)))) σ A' ∧ StEx F H A F' H A' := by
  obtain ⟨a, xs, e1, mA, eH, dp⟩ := rp.ow h
  have nF := rp.nf a mA
  obtain ⟨l1, l2⟩ := Ext.freeze l nF eH trivial
  have key : ∀ {ρ : List Sl} {σ : L2.St} {A : List Addr} {i : Nat}, RepL K F H ρ σ A → (∀ b ∈ A, F b = none) → ρ[i]? = some (.ow ds) → σ[i]? = some (some (.ref a)) → ∃ A', RepL K (upd F a (.lst xs)) H (ρ.set i (.fr (.d (.list ds)))) σ A' ∧ ∀ b ∈ A', b ∈ A ∧ b ≠ a := by
    intro ρ σ A i hr
    induction hr generalizing i with
    | nil => intro _ e; simp at e
    | @cons r0 s0 A0 ρ0 σ0 B0 q t n ih =>
      intro nf er es
      cases i with
      | zero =>
        have e1 : r0 = .ow ds := Option.some.inj er
        have e2 : s0 = some (.ref a) := Option.some.inj es
        subst e1 e2
        obtain ⟨b, ys, eb, eA, eHb, dpb⟩ := q
        cases eb
        rw [eH] at eHb
        cases eHb
        subst eA
        have na : a ∉ B0 := n a (by simp)
        refine ⟨[] ++ B0, .cons ⟨rfl, .ref a, rfl, .lst (.inl (.inl upd_same)) (l1.dps dpb)⟩ (t.mono l1 fun c z => rfl) (fun b z => nomatch z), fun b z => ?_⟩
        have z' : b ∈ B0 := by simpa using z
        exact ⟨List.mem_append_right _ z', fun w => na (by rw [← w]; exact z')⟩
      | succ i =>
        have er' : ρ0[i]? = some (.ow ds) := by simpa using er
        have es' : σ0[i]? = some (some (.ref a)) := by simpa using es
        obtain ⟨A', h1, h2⟩ := ih (fun b m => nf b (List.mem_append_right _ m)) er' es'
        obtain ⟨s1, B1, w1, ⟨b1, ys1, w2, w3, w4, w5⟩, w6⟩ := t.at er'
        rw [es'] at w1
        cases w1
        cases w2
        have na : a ∉ A0 := fun z => n a z (w6 a (by rw [w3]; simp))
        refine ⟨A0 ++ A', .cons (q.mono l1 fun c z => rfl) h1 (fun b z w => n b z (h2 b w).1), fun b z => ?_⟩
        rcases List.mem_append.mp z with z | z
        · exact ⟨List.mem_append_left _ z, fun w => na (by rw [← w]; exact z)⟩
        · exact ⟨List.mem_append_right _ (h2 b z).1, (h2 b z).2⟩
  obtain ⟨A', h1, h2⟩ := key rp.rl rp.nf h e1
  refine ⟨upd F a (.lst xs), A', l2, ⟨h1, fun b z => ?_⟩, l1, l2, fun _ _ _ h => h, fun b n1 n2 n3 => ?_, fun _ h => h, fun b z => .inl (h2 b z).1⟩
  · rw [upd_ne (h2 b z).2]
    exact rp.nf b (h2 b z).1
  · rw [upd_ne fun w => n3 (by rw [w]; exact mA)]
    exact n1
theorem w_freeze {sts : List Stmt} (i : Nat) (h : PSs X sts (tW X.K (ρ.set i (.fr (.d (.list ds)))) O)) (hi : ρ[i]? = some (.ow ds) := by rfl) : PSs X sts (tW X.K ρ O) := h.imp fun D σ H ⟨F, A, l, rp, q⟩ => by
  obtain ⟨F', A', l', rp', st⟩ := rep_freeze l rp hi
  exact ⟨F', A', l', rp', q.step st⟩

/-! ### owned lists changed -/
/-- the list of slot i is changed to one of the items es -/
theorem rep_change {K : PySem.W.Frag} {F H : Hp} {σ : L2.St} {A : List Addr} {i : Nat} {es : List PyData} {a : Addr} {xs ys : List V} (l : Le F H) (rp : Rep K F H ρ σ A) (h : ρ[i]? = some (.ow ds)) (e1 : σ[i]? = some (some (.ref a))) (dp : DpAll K F ys es) :
    ∃ A', Rep K F (upd H a (.lst ys)) (ρ.set i (.ow es)) σ A' ∧ StEx F H A F (upd H a (.lst ys)) A' := by
  obtain ⟨a', xs', e2, mA, eH, _⟩ := rp.ow h
  rw [e1] at e2
  cases e2
  have nF := rp.nf a mA
  obtain ⟨A', h1, h2⟩ := rp.rl.change (r' := .ow es) (H' := upd H a (.lst ys)) h e1 fun B ⟨b, zs, eb, eB, eHb, dpb⟩ => by
    cases eb
    refine ⟨[a], ⟨a, ys, rfl, rfl, upd_same, dp⟩, fun b z => by rw [eB]; exact z, fun b n _ => upd_ne fun z => n (by rw [eB, z]; simp)⟩
  have hs : σ.set i (some (.ref a)) = σ := by
    apply List.ext_getElem?
    intro j
    rw [List.getElem?_set]
    by_cases z : i = j
    · subst z
      rw [if_pos rfl, if_pos (List.getElem?_eq_some_iff.mp e1).1]
      exact e1.symm
    · rw [if_neg z]
  refine ⟨A', ⟨h1, fun b z => rp.nf b (h2 b z)⟩, .refl F, ⟨fun b u pu r => ?_, fun b z => ?_, fun b φ r => by rw [upd_ne (ne_of_none r nF)]; exact l.ex b φ r, fun b ⟨o2, xs2, r, d2⟩ => by
    obtain ⟨o3, xs3, e4, d3⟩ := l.fz b ⟨o2, xs2, r, d2⟩
    exact ⟨o3, xs3, by rw [upd_ne (ne_of_none r nF)]; exact e4, d3⟩⟩, fun b o n e => ?_, fun b n _ _ => n, fun b n => ?_, fun b z => .inl (h2 b z)⟩
  · have : b ≠ a := fun z => by rcases r with r | ⟨_, r⟩ <;> rw [z, nF] at r <;> cases r
    rcases l.rd b u pu r with q | ⟨o, q⟩
    · exact .inl (by rw [upd_ne this]; exact q)
    · exact .inr ⟨o, by rw [upd_ne this]; exact q⟩
  · by_cases w : b = a
    · rw [w, upd_same] at z; cases z
    · rw [upd_ne w] at z; exact l.dom b z
  · rw [upd_ne fun w => n (by rw [w]; exact mA)]
    exact e
  · by_cases w : b = a
    · rw [w, upd_same]; simp
    · rw [upd_ne w]; exact n
/-- x.m(e), x an owned list: the reading of the method tells the new items -/
theorem w_append (i : Nat) {x : Str} {p1 p2 cpos : Pos} {a : PyData} (he : PE X e (tD X.K ρ (.d a))) (hz : ds.length < sizeLine) (hρ : ρ[i]? = some (.ow ds) := by rfl) (hN : X.N[i]? = some x := by rfl) (hv : Vis X.env.scope x := by first | exact Or.inl rfl | exact Or.inr (Or.inl rfl) | exact Or.inr (Or.inr rfl))
    (hd : (x == ("__debug__" : Str)) = false := by decide) (hcd : (x == ("__classdict__" : Str)) = false := by decide) (hbase : attributeBase (.Name x p1) "append" X.env (eval (.Name x p1) X.env) = eval (.Name x p1) X.env := by rfl)
    (hfew : ((backTo cpos (starEach [e] X.env)).all (fun x => !x.1) && (backToKw cpos (keywordEach [] X.env)).all (fun x => x.1.isSome) && decide ([e].length + ([] : List Keyword).length + (if ([] : List Keyword).isEmpty then 0 else 1) < 30)) = true := by rfl)
    (hline : (p2.endLine == cpos.line) = true := by rfl) (hs : starEach [e] X.env = (false, eval e X.env) :: starEach [] X.env := by rfl) (hplain : (backTo cpos (starEach [] X.env)).any (·.1) = false := by rfl) (hw : swapsWith (.Call (.Attribute (.Name x p1) "append" p2) [e] [] cpos) none pos.line X.env = pure false := by rfl) :
    PS X (.Expr (.Call (.Attribute (.Name x p1) "append" p2) [e] [] cpos) pos) (tW X.K ρ (.nx (ρ.set i (.ow (ds ++ [a]))))) :=
  (ps_expr (pe_bm PySem.F.plainAttrs_list PySem.F.slot_list_append PySem.F.type_list_append mt_append (pe_var (i := i) hN hv hd hcd) (pa_cons he pa_nil hs) hbase hfew hline hs hplain) hw).imp fun D σ H ⟨F, A, l, rp, q⟩ => by
    obtain ⟨p, xs, e1, mA, eH, dp⟩ := rp.ow hρ
    refine ⟨.ref p, e1, .inl ⟨rfl, xs, .inl (.inl eH)⟩, F, A, l, rp, fun F1 H1 v e2 q1 => ⟨p, xs, v, rfl, rfl, e2.hh _ _ eH, by rw [DpAll.len dp]; exact hz, ?_⟩⟩
    obtain ⟨A', r', st⟩ := rep_change (xs := xs) (es := ds ++ [a]) e2.fh (rp.mono e2) hρ e1 (dpAll_append (e2.ff.dps dp) (.cons q1 .nil))
    exact q F1 _ σ A' ((e2.st A).trans st) r'
theorem w_extend (i : Nat) {x : Str} {p1 p2 cpos : Pos} {es : List PyData} (he : PE X e (tN X.K ρ es)) (hz : ds.length + es.length ≤ sizeLine) (hρ : ρ[i]? = some (.ow ds) := by rfl) (hN : X.N[i]? = some x := by rfl) (hv : Vis X.env.scope x := by first | exact Or.inl rfl | exact Or.inr (Or.inl rfl) | exact Or.inr (Or.inr rfl))
    (hd : (x == ("__debug__" : Str)) = false := by decide) (hcd : (x == ("__classdict__" : Str)) = false := by decide) (hbase : attributeBase (.Name x p1) "extend" X.env (eval (.Name x p1) X.env) = eval (.Name x p1) X.env := by rfl)
    (hfew : ((backTo cpos (starEach [e] X.env)).all (fun x => !x.1) && (backToKw cpos (keywordEach [] X.env)).all (fun x => x.1.isSome) && decide ([e].length + ([] : List Keyword).length + (if ([] : List Keyword).isEmpty then 0 else 1) < 30)) = true := by rfl)
    (hline : (p2.endLine == cpos.line) = true := by rfl) (hs : starEach [e] X.env = (false, eval e X.env) :: starEach [] X.env := by rfl) (hplain : (backTo cpos (starEach [] X.env)).any (·.1) = false := by rfl) (hw : swapsWith (.Call (.Attribute (.Name x p1) "extend" p2) [e] [] cpos) none pos.line X.env = pure false := by rfl) :
    PS X (.Expr (.Call (.Attribute (.Name x p1) "extend" p2) [e] [] cpos) pos) (tW X.K ρ (.nx (ρ.set i (.ow (ds ++ es))))) :=
  (ps_expr (pe_bm PySem.F.plainAttrs_list PySem.F.slot_list_extend PySem.F.type_list_extend mt_extend (pe_var (i := i) hN hv hd hcd) (pa_cons he pa_nil hs) hbase hfew hline hs hplain) hw).imp fun D σ H ⟨F, A, l, rp, q⟩ => by
    obtain ⟨p, xs, e1, mA, eH, dp⟩ := rp.ow hρ
    refine ⟨.ref p, e1, .inl ⟨rfl, xs, .inl (.inl eH)⟩, F, A, l, rp, fun F1 H1 v e2 ⟨b, ys, ev, nF, nH, eb, lz, dp2⟩ => ⟨p, b, xs, ys, rfl, by rw [ev], e2.hh _ _ eH, eb, by rw [DpAll.len dp, DpAll.len dp2]; exact hz, ?_⟩⟩
    obtain ⟨A', r', st⟩ := rep_change (xs := xs) (es := ds ++ es) e2.fh (rp.mono e2) hρ e1 (dpAll_append (e2.ff.dps dp) dp2)
    exact q F1 _ σ A' ((e2.st A).trans st) r'
/-- y = x.pop() -/
theorem w_pop (i j : Nat) {x y : Str} {p1 p2 p3 cpos : Pos} {a : PyData} (hN : X.N[i]? = some x := by rfl) (hρ : ρ[i]? = some (.ow (ds ++ [a])) := by rfl) (hv : Vis X.env.scope x := by first | exact Or.inl rfl | exact Or.inr (Or.inl rfl) | exact Or.inr (Or.inr rfl))
    (hd : (x == ("__debug__" : Str)) = false := by decide) (hcd : (x == ("__classdict__" : Str)) = false := by decide) (hbase : attributeBase (.Name x p1) "pop" X.env (eval (.Name x p1) X.env) = eval (.Name x p1) X.env := by rfl) (hline : (p2.endLine == cpos.line) = true := by rfl)
    (hND : X.N.Nodup := by decide) (hj : X.N[j]? = some y := by rfl) (hx : Loc X.env.scope y := by first | exact Or.inl rfl | exact Or.inr rfl) (hs : swapsWith (.Call (.Attribute (.Name x p1) "pop" p2) [] [] cpos) (some (.Name y p3)) pos.line X.env = pure false := by rfl)
    (hf : X.fn y = true ∨ X.env.scope.names.lookup y = some .local := by first | exact .inl rfl | exact .inr rfl | assumption) :
    PS X (.Assign [.Name y p3] (.Call (.Attribute (.Name x p1) "pop" p2) [] [] cpos) pos) (tW X.K ρ (.nx ((ρ.set i (.ow ds)).set j (.fr (.d a))))) :=
  (ps_set hND hj hx (pe_bm0 PySem.F.plainAttrs_list PySem.F.slot_list_pop PySem.F.type_list_pop mt_pop (pe_var (i := i) hN hv hd hcd) hbase hline) hs hf).imp fun D σ H ⟨F, A, l, rp, q⟩ => by
    obtain ⟨p, xs, e1, mA, eH, dp⟩ := rp.ow hρ
    obtain ⟨v, hv1, hv2⟩ := dpAll_get (i := ds.length) (d := a) dp (by simp)
    have hl : xs.length = ds.length + 1 := by rw [DpAll.len dp]; simp
    refine ⟨.ref p, e1, .inl ⟨rfl, xs, .inl (.inl eH)⟩, p, xs, v, rfl, rfl, eH, by rw [hl]; exact hv1, ?_⟩
    have dd : DpAll X.K F xs.dropLast ds := by
      have := dpAll_take ds.length dp
      rw [List.take_append_of_le_length (Nat.le_refl _), List.take_length] at this
      rw [List.dropLast_eq_take, hl]
      exact this
    obtain ⟨A', r', st⟩ := rep_change (xs := xs) (es := ds) l rp hρ e1 dd
    obtain ⟨A2, r2, sub⟩ := rep_set (d := .d a) r' j hv2
    exact q F _ _ A2 (stEx_sub st sub) r2
end
end KL
/-! DLi: loops, defs, several targets. -/
namespace KL
open PySem PySem.Spec L2
section
variable {X : Cx} {ρ ρ1 ρ2 ρe : List Sl} {a b e c tg iter : Expr} {s : Stmt} {rest body els : List Stmt} {pos : Pos} {O : Out} {d : D} {ds : List PyData} {P : D → Prop} {k : Bool} {α : Type} {xs : List α} {enc : α → PyData} {vs : List Nat}
/-- slots may be forgotten -/
inductive Wk : List Sl → List Sl → Prop
  | nil : Wk [] []
  | keep {r a b} : Wk a b → Wk (r :: a) (r :: b)
  | drop {r a b} : Wk a b → Wk (r :: a) (.un :: b)
theorem Wk.refl : ∀ a : List Sl, Wk a a
  | [] => .nil
  | _ :: a => .keep (Wk.refl a)
theorem RepL.wk {K : PySem.W.Frag} {F H : Hp} : ∀ {ρ ρ' : List Sl} {σ : L2.St} {A : List Addr}, Wk ρ ρ' → RepL K F H ρ σ A → ∃ A', RepL K F H ρ' σ A' ∧ ∀ a ∈ A', a ∈ A
  | _, _, _, _, .nil, .nil => ⟨[], .nil, fun _ z => z⟩
  | _, _, _, _, .keep h, .cons q t n => by
    obtain ⟨A', h1, h2⟩ := RepL.wk h t
    refine ⟨_, .cons q h1 fun a z w => n a z (h2 a w), fun a z => ?_⟩
    rcases List.mem_append.mp z with z | z
    · exact List.mem_append.mpr (.inl z)
    · exact List.mem_append_right _ (h2 a z)
  | _, _, _, _, .drop h, .cons q t n => by
    obtain ⟨A', h1, h2⟩ := RepL.wk h t
    exact ⟨[] ++ A', .cons (A := []) rfl h1 fun a z => (nomatch z), fun a z => List.mem_append_right _ (h2 a (by simpa using z))⟩
theorem Rep.wk {K : PySem.W.Frag} {F H : Hp} {ρ ρ' : List Sl} {σ : L2.St} {A : List Addr} (w : Wk ρ ρ') (h : Rep K F H ρ σ A) : ∃ A', Rep K F H ρ' σ A' ∧ ∀ a ∈ A', a ∈ A := by
  obtain ⟨A', h1, h2⟩ := RepL.wk w h.rl
  exact ⟨A', ⟨h1, fun a z => h.nf a (h2 a z)⟩, h2⟩
theorem w_wk {sts : List Stmt} (h : PSs X sts (tW X.K ρ (.nx ρ1))) (w : Wk ρ1 ρ2 := by repeat (first | exact Wk.nil | refine Wk.keep ?_ | refine Wk.drop ?_)) : PSs X sts (tW X.K ρ (.nx ρ2)) := h.imp fun D σ H ⟨F, A, l, rp, q⟩ => ⟨F, A, l, rp, fun F' H' σ' A' st r => by
  obtain ⟨A2, r2, sub⟩ := r.wk w
  exact q F' H' σ' A2 (stEx_sub st sub) r2⟩
/-- for: st i holds ahead of turn i -/
theorem w_for (st : Nat → List Sl) (ρ' : Nat → α → List Sl) (hi : PI X tg iter (tI X.K ρ false (xs.map enc))) (h0 : st 0 = ρ)
    (hg : ∀ i x, xs[i]? = some x → PG X tg (tG X.K (st i) (enc x) (ρ' i x) vs)) (hb : ∀ i x, xs[i]? = some x → PSs X body (tW X.K (ρ' i x) (.nx (st (i + 1)))))
    (hp : PassesOwn (model X.prog X.w) X.A X.env X.xe := by exact PassesOwn.never) (hc : X.calm = true := by rfl) (hs : ∀ x, foldedSetIterable iter X.env x = pure x := by intro _; rfl) :
    PS X (.For tg iter body [] pos) (tW X.K ρ (.nx (st xs.length))) := by
  refine (ps_for (g := fun v σ H Q => ∃ j : { p : Nat × α // xs[p.1]? = some p.2 }, tG X.K (st j.1.1) (enc j.1.2) (ρ' j.1.1 j.1.2) vs v σ H Q) (tb := fun D σ H => ∃ j : { p : Nat × α // xs[p.1]? = some p.2 }, tW X.K (ρ' j.1.1 j.1.2) (.nx (st (j.1.1 + 1))) D σ H)
    hp hc hi (.all fun j => hg j.1.1 j.1.2 j.2) (.all fun j => hb j.1.1 j.1.2 j.2) hs).imp fun D σ H ⟨F, A, l, rp, q⟩ => ⟨F, A, l, rp, fun F1 H1 J e1 wk => ?_⟩
  rw [if_neg Bool.false_ne_true] at wk
  have rp1 := rp.mono e1
  refine ⟨fun i m σ H => m = xs.length - i ∧ i ≤ xs.length ∧ ∃ F A', StEx F1 H1 A F H A' ∧ Rep X.K F H (st i) σ A', ⟨xs.length, by simp, Nat.zero_le _, F1, A, .refl e1.fh A, by rw [h0]; exact rp1⟩, ?_⟩
  rintro i m σ2 H2 ⟨rfl, hi, F2, A2, st2, r2⟩
  obtain ⟨stop, item⟩ := wk i F2 H2 A2 st2
  by_cases hlt : i < xs.length
  · have ex : xs[i]? = some xs[i] := List.getElem?_eq_getElem hlt
    generalize xs[i] = x at ex
    obtain ⟨go, yl⟩ := item (enc x) (by rw [List.getElem?_map, ex]; rfl)
    refine .inr ⟨go, fun σ' H' => ∃ F A', StEx F1 H1 A F H' A' ∧ Rep X.K F H' (st (i + 1)) σ' A', fun σ' H' q => ⟨xs.length - (i + 1), by omega, rfl, hlt, q⟩, fun v H3 y => ?_⟩
    obtain ⟨F3, e3, dpx⟩ := yl v H3 y
    refine ⟨⟨(i, x), ex⟩, F3, A2, e3.fh, r2.mono e3, dpx, fun σ3 A3 r3 _ sub => ⟨⟨(i, x), ex⟩, F3, A3, e3.fh, r3, fun F4 H4 σ4 A4 st4 r4 => ?_⟩⟩
    exact ⟨F4, A4, (st2.trans (stEx_sub (e3.st A2) sub)).trans st4, r4⟩
  · have ei : i = xs.length := by omega
    subst ei
    exact .inl ⟨stop (by simp), q F2 H2 σ2 A2 ((e1.st A).trans st2) r2⟩
/-- for with a break at turn n -/
theorem w_for_bk (n : Nat) {y : α} (st : Nat → List Sl) (ρ' : Nat → α → List Sl) (hi : PI X tg iter (tI X.K ρ false (xs.map enc))) (h0 : st 0 = ρ) (hy : xs[n]? = some y)
    (hg : ∀ i x, xs[i]? = some x → i ≤ n → PG X tg (tG X.K (st i) (enc x) (ρ' i x) vs)) (hb : ∀ i x, xs[i]? = some x → i < n → PSs X body (tW X.K (ρ' i x) (.nx (st (i + 1))))) (hbn : PSs X body (tW X.K (ρ' n y) (.bk ρe)))
    (hp : PassesOwn (model X.prog X.w) X.A X.env X.xe := by exact PassesOwn.never) (hc : X.calm = true := by rfl) (hs : ∀ x, foldedSetIterable iter X.env x = pure x := by intro _; rfl) :
    PS X (.For tg iter body [] pos) (tW X.K ρ (.nx ρe)) := by
  refine (ps_for (g := fun v σ H Q => ∃ j : { p : Nat × α // xs[p.1]? = some p.2 ∧ p.1 ≤ n }, tG X.K (st j.1.1) (enc j.1.2) (ρ' j.1.1 j.1.2) vs v σ H Q) (tb := fun D σ H => (∃ j : { p : Nat × α // xs[p.1]? = some p.2 ∧ p.1 < n }, tW X.K (ρ' j.1.1 j.1.2) (.nx (st (j.1.1 + 1))) D σ H) ∨ tW X.K (ρ' n y) (.bk ρe) D σ H)
    hp hc hi (.all fun j => hg j.1.1 j.1.2 j.2.1 j.2.2) ⟨fun pins s σ H D I q => q.elim (fun ⟨j, q⟩ => (hb j.1.1 j.1.2 j.2.1 j.2.2).run pins s σ H D I q) (hbn.run pins s σ H D I)⟩ hs).imp fun D σ H ⟨F, A, l, rp, q⟩ => ⟨F, A, l, rp, fun F1 H1 J e1 wk => ?_⟩
  rw [if_neg Bool.false_ne_true] at wk
  have rp1 := rp.mono e1
  refine ⟨fun i m σ H => m = n - i ∧ i ≤ n ∧ ∃ F A', StEx F1 H1 A F H A' ∧ Rep X.K F H (st i) σ A', ⟨n, by simp, Nat.zero_le _, F1, A, .refl e1.fh A, by rw [h0]; exact rp1⟩, ?_⟩
  rintro i m σ2 H2 ⟨rfl, hi, F2, A2, st2, r2⟩
  obtain ⟨stop, item⟩ := wk i F2 H2 A2 st2
  by_cases hlt : i < n
  · have hn := (List.getElem?_eq_some_iff.mp hy).1
    have hil : i < xs.length := by omega
    have ex : xs[i]? = some xs[i] := List.getElem?_eq_getElem hil
    generalize xs[i] = x at ex
    obtain ⟨go, yl⟩ := item (enc x) (by rw [List.getElem?_map, ex]; rfl)
    refine .inr ⟨go, fun σ' H' => ∃ F A', StEx F1 H1 A F H' A' ∧ Rep X.K F H' (st (i + 1)) σ' A', fun σ' H' q => ⟨n - (i + 1), by omega, rfl, hlt, q⟩, fun v H3 y => ?_⟩
    obtain ⟨F3, e3, dpx⟩ := yl v H3 y
    refine ⟨⟨(i, x), ex, hi⟩, F3, A2, e3.fh, r2.mono e3, dpx, fun σ3 A3 r3 _ sub => .inl ⟨⟨(i, x), ex, hlt⟩, F3, A3, e3.fh, r3, fun F4 H4 σ4 A4 st4 r4 => ?_⟩⟩
    exact ⟨F4, A4, (st2.trans (stEx_sub (e3.st A2) sub)).trans st4, r4⟩
  · have ei : i = n := by omega
    subst ei
    obtain ⟨go, yl⟩ := item (enc y) (by rw [List.getElem?_map, hy]; rfl)
    refine .inr ⟨go, fun _ _ => False, fun _ _ z => z.elim, fun v H3 yy => ?_⟩
    obtain ⟨F3, e3, dpx⟩ := yl v H3 yy
    refine ⟨⟨(i, y), hy, hi⟩, F3, A2, e3.fh, r2.mono e3, dpx, fun σ3 A3 r3 _ sub => .inr ⟨F3, A3, e3.fh, r3, fun F4 H4 σ4 A4 st4 r4 => ?_⟩⟩
    exact q F4 H4 σ4 A4 ((e1.st A).trans ((st2.trans (stEx_sub (e3.st A2) sub)).trans st4)) r4
theorem w_while (n : Nat) (st : Nat → List Sl) (h0 : st 0 = ρ) (hc : ∀ i, i < n → PT X c (tT X.K (st i) true)) (hcn : PT X c (tT X.K (st n) false)) (hb : ∀ i, i < n → PSs X body (tW X.K (st i) (.nx (st (i + 1)))))
    (hp : PassesOwn (model X.prog X.w) X.A X.env X.xe := by exact PassesOwn.never) : PS X (.While c body [] pos) (tW X.K ρ (.nx (st n))) := by
  refine (ps_while (tc := fun σ H Q => (∃ j : { i : Nat // i < n }, tT X.K (st j.1) true σ H Q) ∨ tT X.K (st n) false σ H Q) (tb := fun D σ H => ∃ j : { i : Nat // i < n }, tW X.K (st j.1) (.nx (st (j.1 + 1))) D σ H)
    hp ⟨fun pins s σ H Q I q => q.elim (fun ⟨j, q⟩ => (hc j.1 j.2).run pins s σ H Q I q) (hcn.run pins s σ H Q I)⟩ (.all fun j => hb j.1 j.2)).imp fun D σ H ⟨F, A, l, rp, q⟩ => ?_
  refine ⟨fun m σ' H' => ∃ i, m = n - i ∧ i ≤ n ∧ ∃ F' A', StEx F H A F' H' A' ∧ Rep X.K F' H' (st i) σ' A', ⟨n, 0, by simp, Nat.zero_le _, F, A, .refl l A, by rw [h0]; exact rp⟩, ?_⟩
  rintro m σ2 H2 ⟨i, rfl, hi, F2, A2, st2, r2⟩
  by_cases hlt : i < n
  · refine .inl ⟨⟨i, hlt⟩, F2, A2, st2.fh, r2, fun F3 H3 e3 => iteT ⟨fun σ' H' => ∃ F' A', StEx F H A F' H' A' ∧ Rep X.K F' H' (st (i + 1)) σ' A', fun σ' H' z => ⟨n - (i + 1), by omega, i + 1, rfl, hlt, z⟩, ⟨i, hlt⟩, F3, A2, e3.fh, r2.mono e3, fun F4 H4 σ4 A4 st4 r4 => ?_⟩⟩
    exact ⟨F4, A4, (st2.trans (e3.st A2)).trans st4, r4⟩
  · have ei : i = n := by omega
    subst ei
    exact .inr ⟨F2, A2, st2.fh, r2, fun F3 H3 e3 => iteF (q F3 H3 σ2 A2 (st2.trans (e3.st A2)) (r2.mono e3))⟩
/-- a loop whose source gives nothing -/
theorem w_for0 (hi : PI X tg iter (tI X.K ρ false [])) (hp : PassesOwn (model X.prog X.w) X.A X.env X.xe := by exact PassesOwn.never) (hc : X.calm = true := by rfl) (hs : ∀ x, foldedSetIterable iter X.env x = pure x := by intro _; rfl) :
    PS X (.For tg iter body [] pos) (tW X.K ρ (.nx ρ)) :=
  (ps_for (g := fun _ _ _ _ => False) hp hc hi ⟨fun _ _ _ _ _ _ _ _ _ h => h.elim⟩ pss_never hs).imp fun D σ H ⟨F, A, l, rp, q⟩ => ⟨F, A, l, rp, fun F1 H1 J e1 wk => by
    rw [if_neg Bool.false_ne_true] at wk
    exact ⟨fun i m σ' H' => i = 0 ∧ σ' = σ ∧ H' = H1, ⟨0, rfl, rfl, rfl⟩, fun i m σ' H' ⟨z1, z2, z3⟩ => by
      subst z1 z2 z3
      exact .inl ⟨(wk 0 F1 _ A (.refl e1.fh A)).1 (Nat.le_refl _), q F1 _ σ' A (e1.st A) (rp.mono e1)⟩⟩⟩

/-! ### several targets -/
/-- what a value must be for a slot -/
def slR (K : PySem.W.Frag) : Sl → RK
  | .fr d => RD K d
  | .ow ds => RN K ds
  | _ => fun _ _ _ _ _ => False
theorem slR_keep {K : PySem.W.Frag} {r : Sl} {F H F1 H1 F2 H2 : Hp} {v : V} (e1 : Ext F H F1 H1) (e2 : Ext F1 H1 F2 H2) (h : slR K r F H F1 H1 v) : slR K r F H F2 H2 v := by
  cases r with
  | fr d => exact e2.ff.is (show Is K F1 v d from h)
  | ow ds =>
    obtain ⟨p, xs, e, n1, n2, eH, z, dp⟩ := h
    exact ⟨p, xs, e, e2.own p n1 (by rw [eH]; simp), n2, e2.hh _ _ eH, z, e2.ff.dps dp⟩
  | od _ => exact h.elim
  | oo _ => exact h.elim
  | bg _ _ _ _ _ _ => exact h.elim
  | un => exact h.elim
theorem slR_put {K : PySem.W.Frag} {r : Sl} {F H F1 H1 : Hp} {σ : L2.St} {A : List Addr} {v : V} (rp : Rep K F1 H1 ρ σ A) (h : slR K r F H F1 H1 v) (nA : ∀ p ds, r = .ow ds → v = .ref p → H p = none → p ∉ A) (i : Nat) :
    ∃ A', Rep K F1 H1 (ρ.set i r) (σ.set i (some v)) A' ∧ ∀ x ∈ A', x ∈ A ∨ (H x = none ∧ v = .ref x ∧ ∃ ds, r = .ow ds) := by
  cases r with
  | fr d =>
    obtain ⟨A', h1, h2⟩ := rep_set rp i (show Is K F1 v d from h)
    exact ⟨A', h1, fun x z => .inl (h2 x z)⟩
  | ow ds =>
    obtain ⟨p, xs, e, n1, n2, eH, z, dp⟩ := h
    subst e
    obtain ⟨A', h1, h2⟩ := rep_own rp i eH dp n1 (nA p ds rfl rfl n2)
    exact ⟨A', h1, fun x z => (h2 x z).imp id fun w => ⟨by rw [w]; exact n2, by rw [w], ds, rfl⟩⟩
  | od _ => exact h.elim
  | oo _ => exact h.elim
  | bg _ _ _ _ _ _ => exact h.elim
  | un => exact h.elim
theorem st_more {F H F' H' : Hp} {A A' : List Addr} (e : Ext F H F' H') (h : ∀ x ∈ A', x ∈ A ∨ H x = none) : StEx F H A F' H' A' := ⟨e.ff, e.fh, fun a o _ z => e.hh a o z, fun a h1 h2 _ => e.own a h1 h2, fun a z => same_ne e.hh z, h⟩
theorem Same.ext {F H H' : Hp} (l : Le F H) (s : Same H H') : Ext F H F H' := ⟨.refl F, l.trans (.of s), s, fun _ z _ => z⟩
theorem par_read {r1 r2 : Sl} {i j : Nat} {D : Ends} {σ : L2.St} {H : Hp} {K : PySem.W.Frag} (h : tW K ρ (.nx ((ρ.set i r1).set j r2)) D σ H) :
    tCons (tR K ρ (slR K r1)) (tCons (tR K ρ (slR K r2)) tNil) σ H fun vs H1 => ∃ v w, vs = [v, w] ∧ ∀ H2, Same H1 H2 → D.nx ((σ.set i (some v)).set j (some w)) H2 := by
  obtain ⟨F, A, l, rp, q⟩ := h
  refine ⟨F, A, l, rp, fun F1 H1 v e1 q1 => ⟨F1, A, e1.fh, rp.mono e1, fun F2 H2 w e2 q2 => ⟨v, w, rfl, fun H3 s3 => ?_⟩⟩⟩
  have e3 := Same.ext e2.fh s3
  have rp3 := rp.mono (e1.trans (e2.trans e3))
  obtain ⟨A1, h1, s1⟩ := slR_put rp3 (slR_keep e1 (e2.trans e3) q1) (fun p _ _ _ n z => rp.rl.some_of p z n) i
  obtain ⟨A2, h2, s2⟩ := slR_put h1 (slR_keep e2 e3 q2) (fun p _ _ _ n z => by
    rcases s1 p z with z | ⟨_, z2, ds, z3⟩
    · exact (rp.mono e1).rl.some_of p z n
    · subst z3
      obtain ⟨p', xs, e, _, _, eH, _⟩ := q1
      rw [e] at z2
      cases z2
      rw [n] at eH
      cases eH) j
  refine q F2 H3 _ A2 (st_more (e1.trans (e2.trans e3)) fun x z => ?_) h2
  rcases s2 x z with z | ⟨z, _⟩
  · exact (s1 x z).imp id fun z => z.1
  · exact .inr (e1.hh.free z)
theorem par3_read {r1 r2 r3 : Sl} {i j m : Nat} {D : Ends} {σ : L2.St} {H : Hp} {K : PySem.W.Frag} (h : tW K ρ (.nx (((ρ.set i r1).set j r2).set m r3)) D σ H) :
    tCons (tR K ρ (slR K r1)) (tCons (tR K ρ (slR K r2)) (tCons (tR K ρ (slR K r3)) tNil)) σ H fun vs H1 => ∃ u v w, vs = [u, v, w] ∧ D.nx (((σ.set i (some u)).set j (some v)).set m (some w)) H1 := by
  obtain ⟨F, A, l, rp, q⟩ := h
  refine ⟨F, A, l, rp, fun F1 H1 u e1 q1 => ⟨F1, A, e1.fh, rp.mono e1, fun F2 H2 v e2 q2 => ⟨F2, A, e2.fh, (rp.mono e1).mono e2, fun F3 H3 w e3 q3 => ⟨u, v, w, rfl, ?_⟩⟩⟩⟩
  have rp3 := rp.mono (e1.trans (e2.trans e3))
  obtain ⟨A1, h1, s1⟩ := slR_put rp3 (slR_keep e1 (e2.trans e3) q1) (fun p _ _ _ n z => rp.rl.some_of p z n) i
  have in1 : ∀ p, p ∈ A1 → H1 p ≠ none := fun p z n => by
    rcases s1 p z with z | ⟨_, z2, ds, z3⟩
    · exact (rp.mono e1).rl.some_of p z n
    · subst z3
      obtain ⟨p', xs, e, _, _, eH, _⟩ := q1
      rw [e] at z2
      cases z2
      rw [n] at eH
      cases eH
  obtain ⟨A2, h2, s2⟩ := slR_put h1 (slR_keep e2 e3 q2) (fun p _ _ _ n z => in1 p z n) j
  have in2 : ∀ p, p ∈ A2 → H2 p ≠ none := fun p z n => by
    rcases s2 p z with z | ⟨_, z2, ds, z3⟩
    · exact in1 p z (e2.hh.free n)
    · subst z3
      obtain ⟨p', xs, e, _, _, eH, _⟩ := q2
      rw [e] at z2
      cases z2
      rw [n] at eH
      cases eH
  obtain ⟨A3, h3, s3⟩ := slR_put h2 q3 (fun p _ _ _ n z => in2 p z n) m
  refine q F3 H3 _ A3 (st_more (e1.trans (e2.trans e3)) fun x z => ?_) h3
  rcases s3 x z with z | ⟨z, _⟩
  · rcases s2 x z with z | ⟨z, _⟩
    · exact (s1 x z).imp id fun z => z.1
    · exact .inr (e1.hh.free z)
  · exact .inr (e1.hh.free (e2.hh.free z))
/-- x, y = a, b with local names -/
theorem w_par (i j : Nat) {r1 r2 : Sl} {x y : Str} {px py pt : Pos} {kt k2 pt2} (ha : PE X a (tR X.K ρ (slR X.K r1))) (hb : PE X b (tR X.K ρ (slR X.K r2))) (hc : X.calm = true := by rfl) (hN : X.N.Nodup := by decide) (hi : X.N[i]? = some x := by rfl) (hj : X.N[j]? = some y := by rfl) (hij : i ≠ j := by decide)
    (hx : X.env.scope.names.lookup x = some .local := by rfl) (hy : X.env.scope.names.lookup y = some .local := by rfl) (hs1 : starEach [a, b] X.env = (false, eval a X.env) :: starEach [b] X.env := by rfl) (hs2 : starEach [b] X.env = (false, eval b X.env) :: starEach [] X.env := by rfl)
    (hw : swappedStores [.Tuple [.Name x px, .Name y py] kt pt] (.Tuple [a, b] k2 pt2) X.env = pure (some [x, y]) := by rfl)
    (hs : swapsWithSole [.Tuple [.Name x px, .Name y py] kt pt] (.Tuple [a, b] k2 pt2) pos.line X.env = pure false := by rfl) : PS X (.Assign [.Tuple [.Name x px, .Name y py] kt pt] (.Tuple [a, b] k2 pt2) pos) (tW X.K ρ (.nx ((ρ.set i r1).set j r2))) :=
  (ps_par hc hN hi hj hij hx hy (pa_cons ha (pa_cons hb pa_nil hs2) hs1) hw hs).imp fun D σ H h => by
    obtain ⟨F, A, l, rp, q⟩ := par_read h
    exact ⟨F, A, l, rp, fun F1 H1 v e1 q1 => by
      obtain ⟨F2, A2, l2, rp2, q2⟩ := q F1 H1 v e1 q1
      exact ⟨F2, A2, l2, rp2, fun F3 H3 w e3 q3 => by
        obtain ⟨v', w', ev, z⟩ := q2 F3 H3 w e3 q3
        exact ⟨v', w', ev, z H3 (.refl H3)⟩⟩⟩
theorem w_par3 (i j m : Nat) {r1 r2 r3 : Sl} {x y z : Str} {px py pz pt : Pos} {kt k2 pt2} (ha : PE X a (tR X.K ρ (slR X.K r1))) (hb : PE X b (tR X.K ρ (slR X.K r2))) (hcc : PE X c (tR X.K ρ (slR X.K r3))) (hc : X.calm = true := by rfl) (hN : X.N.Nodup := by decide) (hi : X.N[i]? = some x := by rfl) (hj : X.N[j]? = some y := by rfl) (hm : X.N[m]? = some z := by rfl)
    (hij : i ≠ j := by decide) (him : i ≠ m := by decide) (hjm : j ≠ m := by decide)
    (hx : X.env.scope.names.lookup x = some .local := by rfl) (hy : X.env.scope.names.lookup y = some .local := by rfl) (hz : X.env.scope.names.lookup z = some .local := by rfl) (hs1 : starEach [a, b, c] X.env = (false, eval a X.env) :: starEach [b, c] X.env := by rfl) (hs2 : starEach [b, c] X.env = (false, eval b X.env) :: starEach [c] X.env := by rfl)
    (hs3 : starEach [c] X.env = (false, eval c X.env) :: starEach [] X.env := by rfl) (hw : swappedStores [.Tuple [.Name x px, .Name y py, .Name z pz] kt pt] (.Tuple [a, b, c] k2 pt2) X.env = pure (some [x, y, z]) := by rfl)
    (hs : swapsWithSole [.Tuple [.Name x px, .Name y py, .Name z pz] kt pt] (.Tuple [a, b, c] k2 pt2) pos.line X.env = pure false := by rfl) : PS X (.Assign [.Tuple [.Name x px, .Name y py, .Name z pz] kt pt] (.Tuple [a, b, c] k2 pt2) pos) (tW X.K ρ (.nx (((ρ.set i r1).set j r2).set m r3))) :=
  (ps_par3 hc hN hi hj hm hij him hjm hx hy hz (pa_cons ha (pa_cons hb (pa_cons hcc pa_nil hs3) hs2) hs1) hw hs).imp fun D σ H h => par3_read h
/-- x, y = a, b with any names of the def: the tuple is laid -/
theorem w_parC (i j : Nat) {r1 r2 : Sl} {x y : Str} {px py pt : Pos} {kt k2 pt2} (ha : PE X a (tR X.K ρ (slR X.K r1))) (hb : PE X b (tR X.K ρ (slR X.K r2))) (hc : X.calm = true := by rfl) (hN : X.N.Nodup := by decide) (hi : X.N[i]? = some x := by rfl) (hj : X.N[j]? = some y := by rfl)
    (hx : Loc X.env.scope x := by first | exact Or.inl rfl | exact Or.inr rfl) (hy : Loc X.env.scope y := by first | exact Or.inl rfl | exact Or.inr rfl) (hfx : X.fn x = true ∨ X.env.scope.names.lookup x = some .local := by first | exact .inl rfl | exact .inr rfl) (hfy : X.fn y = true ∨ X.env.scope.names.lookup y = some .local := by first | exact .inl rfl | exact .inr rfl)
    (hs1 : starEach [a, b] X.env = (false, eval a X.env) :: starEach [b] X.env := by rfl) (hs2 : starEach [b] X.env = (false, eval b X.env) :: starEach [] X.env := by rfl)
    (hs : swapsWithSole [.Tuple [.Name x px, .Name y py] kt pt] (.Tuple [a, b] k2 pt2) pos.line X.env = pure false := by rfl) (hw : swappedStores [.Tuple [.Name x px, .Name y py] kt pt] (.Tuple [a, b] k2 pt2) X.env = pure none := by rfl)
    (h1 : (assignEach [.Tuple [.Name x px, .Name y py] kt pt] X.env).map (·.2) = [assign (.Tuple [.Name x px, .Name y py] kt pt) X.env] := by rfl) (h2 : (assignEach [.Name x px, .Name y py] X.env).map (·.2) = assign (.Name x px) X.env :: (assignEach [.Name y py] X.env).map (·.2) := by rfl)
    (h3 : (assignEach [.Name y py] X.env).map (·.2) = assign (.Name y py) X.env :: (assignEach [] X.env).map (·.2) := by rfl) (hn : (assignEach [.Name x px, .Name y py] X.env).length = 2 := by rfl) (hst : (assignEach [.Name x px, .Name y py] X.env).findIdx? (·.1) = none := by rfl) :
    PS X (.Assign [.Tuple [.Name x px, .Name y py] kt pt] (.Tuple [a, b] k2 pt2) pos) (tW X.K ρ (.nx ((ρ.set i r1).set j r2))) :=
  (ps_asg (pe_tup (pa_cons ha (pa_cons hb pa_nil hs2) hs1)) (pg_tup hc (pgs_cons (pg_name hN hi hx hfx) (pgs_cons (pg_name hN hj hy hfy) pgs_nil h3) h2) hn hst) hs hw h1).imp fun D σ H h => by
    obtain ⟨F, A, l, rp, q⟩ := par_read h
    exact ⟨F, A, l, rp, fun F1 H1 v e1 q1 => by
      obtain ⟨F2, A2, l2, rp2, q2⟩ := q F1 H1 v e1 q1
      exact ⟨F2, A2, l2, rp2, fun F3 H3 w e3 q3 => by
        obtain ⟨v', w', ev, z⟩ := q2 F3 H3 w e3 q3
        cases ev
        refine ⟨by show 2 ≤ sizeLine; decide, fun T n => ⟨T, [v, w], rfl, .inl (.inl upd_same), rfl, v, [w], rfl, w, [], rfl, rfl, z _ fun b u e => by rw [upd_ne (ne_of_none e n)]; exact e⟩⟩⟩⟩

/-! ### defs -/
def startR (N : List Str) (ds : List D) : List Sl := ds.map .fr ++ List.replicate (N.length - ds.length) .un
theorem rep_start {K : PySem.W.Frag} {F H : Hp} : ∀ {vs : List V} {ds : List D} (n : Nat), IsAll K F vs ds → RepL K F H (ds.map .fr ++ List.replicate n .un) (vs.map some ++ List.replicate n none) []
  | _, _, 0, .nil => .nil
  | _, _, n + 1, .nil => by
    have := rep_start (K := K) (F := F) (H := H) n (Paired.nil : IsAll K F [] [])
    exact .cons (A := []) rfl this (fun _ z => nomatch z)
  | _, _, n, .cons h t => .cons (A := []) ⟨rfl, _, rfl, h⟩ (rep_start n t) (fun _ z => nomatch z)
end
section
variable {mg : Str → Option Value} {base : Heap} {P : Program} {w : World} {K : PySem.W.Frag}
theorem def_of {x qual : Str} {st : Stmt} {f : Addr} {fd : FuncData} {N ps : List Str} {k : Nat} {R : List D → D → Prop} (F : Fun K x qual st f fd) (S : FnScope N ps (defScope st)) (hl : ∀ ds d, R ds d → ds.length = ps.length)
    (hb : ∀ (cdv : Value) (A : Around) (outer : List Env) (s : Shared) (H : Hp) (E : XK), Room k (A.deeper (PyProof.Rows.envOfC qual (defScope st) s.heap.objs.size f cdv)) → ∀ ds d, R ds d →
      PSs (cxOf CX0 P w K mg base N qual (defScope st) f cdv A outer s H E).nox (defBody st) (tW K (startR N ds) (.rt (· = d)))) : FnOk P w K mg base CX0 (k + 1) f fd ps (spD K R) := by
  refine F.ok S (fun vs H Q E ⟨F, ds, d, l, q, r, _⟩ => ?_) (fun cdv A outer s H vs Q E hr ⟨F, ds, d, l, q, r, kk⟩ => ⟨_, hb cdv A outer s H E hr ds d r, F, [], l, ⟨?_, fun _ z => nomatch z⟩, fun F' H' v d' A' st p is => kk F' H' v st.ext (by rw [← p]; exact is)⟩)
  · rw [← hl ds d r]; exact Paired.length q
  · unfold startR L2.start
    rw [Paired.length q]
    exact rep_start _ q
end
end KL
/-! DLj: owned dicts of owned lists, stars in displays, least and greatest texts. -/
namespace KL
open PySem PySem.Spec L2
section
variable {X : Cx} {ρ ρ1 ρ2 : List Sl} {a b e c tg iter : Expr} {s : Stmt} {rest body els : List Stmt} {pos : Pos} {O : Out} {d : D} {ds es : List PyData} {kvs : List (Key × List PyData)}
/-! ### [*a, b, ..] -/
theorem nstar {r : List Expr} {p1 : Pos} (ha : PE X a (tS X.K ρ ds)) (hr : PA X r (tAr X.K ρ (es.map .d))) (hz : ds.length + es.length ≤ sizeLine) (hs : starEach (.Starred a p1 :: r) X.env = (true, eval a X.env) :: starEach r X.env := by rfl) : PE X (.List (.Starred a p1 :: r) pos) (tN X.K ρ (ds ++ es)) := by
  refine (pe_lst (t := fun σ H Q => ∃ F A, Le F H ∧ Rep X.K F H ρ σ A ∧ ∀ F' H' vs, Ext F H F' H' → DpAll X.K F' vs (ds ++ es) → Q vs H') ⟨fun pos pins s σ H Q I ⟨F, A, l, rp, k⟩ => ?_⟩).imp fun σ H Q ⟨F, A, l, rp, k⟩ => ⟨F, A, l, rp, fun F1 H1 vs e1 q1 => ⟨by rw [DpAll.len q1, List.length_append]; exact hz, fun p n => ?_⟩⟩
  · refine PySem.W.items_star (thn (ha.run pins s σ H _ I ⟨F, A, l, rp, fun F1 H1 v e1 q1 => (⟨F1, e1, q1⟩ : ∃ F1, Ext F H F1 H1 ∧ RS X.K ds F H F1 H1 v)⟩) fun v s1 ⟨x, H1, I1, r1, F1, e1, p, xs, ev, sq, dp⟩ => ?_) hs
    subst ev
    cases r1
    refine StX.star_lst I1 sq fun us s2 I2 rv => thn (hr.run pos pins s2 σ H1 _ I2 ⟨F1, A, e1.fh, rp.mono e1, fun F2 H2 vs e2 q2 => (⟨F2, e2, q2⟩ : ∃ F2, Ext F1 H1 F2 H2 ∧ IsAll X.K F2 vs (es.map .d))⟩) fun ws s3 ⟨ys, H2, I3, r3, F2, e2, q2⟩ => ?_
    exact ⟨xs ++ ys, H2, I3, rv.append r3, k F2 H2 _ (e1.trans e2) (dpAll_append (e2.ff.dps dp) (isAll_dp q2))⟩
  · exact k F1 _ _ (e1.trans (.newH e1.fh n)) ⟨p, vs, rfl, e1.fh.dom p n, e1.hh.free n, upd_same, by rw [DpAll.len q1, List.length_append]; exact hz, q1⟩

/-! ### an owned dict of owned lists -/
theorem asg_od {K : PySem.W.Frag} {i : Nat} {D : Ends} {σ : L2.St} {H : Hp} (h : tW K ρ (.nx (ρ.set i (.od kvs))) D σ H) : tAsg (tR K ρ (RO K kvs)) (gName i) D σ H := by
  obtain ⟨F, A, l, rp, q⟩ := h
  refine ⟨F, A, l, rp, fun F1 H1 v e1 ⟨p, vs, bs, ev, eH, ow, fr⟩ => ?_⟩
  have rp1 := rp.mono e1
  obtain ⟨A', h1, h2⟩ := rp1.rl.set i (r := .od kvs) (s := some (.ref p)) (B := p :: bs) ⟨p, vs, bs, rfl, rfl, eH, ow⟩ (fun b z w => rp.rl.some_of b w (fr b z).2)
  rw [ev]
  refine q F1 H1 _ A' (st_more e1 fun x z => (h2 x z).imp id fun w => (fr x w).2) ⟨h1, fun x z => (h2 x z).elim (rp1.nf x) fun w => (fr x w).1⟩
theorem w_od (i : Nat) {x : Str} {pos' : Pos} (he : PE X e (tR X.K ρ (RO X.K kvs))) (hN : X.N.Nodup := by decide) (hi : X.N[i]? = some x := by rfl) (hx : Loc X.env.scope x := by first | exact Or.inl rfl | exact Or.inr rfl) (hs : swapsWith e (some (.Name x pos')) pos.line X.env = pure false := by rfl)
    (hf : X.fn x = true ∨ X.env.scope.names.lookup x = some .local := by first | exact .inl rfl | exact .inr rfl | assumption) : PS X (.Assign [.Name x pos'] e pos) (tW X.K ρ (.nx (ρ.set i (.od kvs)))) :=
  (ps_set hN hi hx he hs hf).imp fun D σ H h => asg_od h
theorem Rep.od {K : PySem.W.Frag} {F H : Hp} {σ : L2.St} {A : List Addr} (h : Rep K F H ρ σ A) {i : Nat} (e : ρ[i]? = some (.od kvs)) : ∃ a vs bs, σ[i]? = some (some (.ref a)) ∧ (∀ b ∈ a :: bs, b ∈ A) ∧ H a = some (.dK vs) ∧ OwD K F H kvs vs bs := by
  obtain ⟨s, B, e1, ⟨a, vs, bs, e2, e4, e3, q⟩, hm⟩ := h.rl.at e
  exact ⟨a, vs, bs, by rw [e1, e2], fun b z => hm b (by rw [e4]; exact z), e3, q⟩
/-- the item at k gets x at its end -/
def appK (kvs : List (Key × List PyData)) (k : Key) (x : PyData) : List (Key × List PyData) := kvs.map fun p => if p.1 = k then (p.1, p.2 ++ [x]) else p
theorem appK_none {k : Key} {x : PyData} : ∀ {kvs : List (Key × List PyData)}, k ∉ kvs.map (·.1) → appK kvs k x = kvs
  | [], _ => rfl
  | p :: r, h => by
    have h1 : ¬ p.1 = k := fun z => h (by rw [List.map_cons, ← z]; exact List.mem_cons_self)
    have h2 : k ∉ r.map (·.1) := fun z => h (List.mem_cons_of_mem _ z)
    unfold appK
    rw [List.map_cons, if_neg h1]
    exact congrArg _ (appK_none h2)
theorem OwD.change {K : PySem.W.Frag} {F H : Hp} {k : Key} {x : PyData} {v : V} (hx : Dp K F v x) : ∀ {kvs : List (Key × List PyData)} {vs : List (Key × V)} {bs : List Addr}, OwD K F H kvs vs bs → (kvs.map (·.1)).Nodup → k ∈ kvs.map (·.1) →
    ∃ b xs ds, valV vs k = some (.ref b) ∧ b ∈ bs ∧ H b = some (.lst xs) ∧ DpAll K F xs ds ∧ (k, ds) ∈ kvs ∧ OwD K F (upd H b (.lst (xs ++ [v]))) (appK kvs k x) vs bs
  | _, _, _, .nil, _, m => nomatch m
  | _, _, _, @OwD.cons _ _ _ k0 ds0 kvs vs b bs xs e d n t, nd, m => by
    have nd' := (List.nodup_cons.mp (show (k0 :: kvs.map (·.1)).Nodup from nd))
    by_cases hk : k0 = k
    · subst hk
      refine ⟨b, xs, ds0, valV_pos rfl, List.mem_cons_self, e, d, List.mem_cons_self, ?_⟩
      have : appK ((k0, ds0) :: kvs) k0 x = (k0, ds0 ++ [x]) :: kvs := by
        have z := appK_none (x := x) nd'.1
        unfold appK at z ⊢
        rw [List.map_cons, z]
        simp
      rw [this]
      exact .cons upd_same (dpAll_append d (.cons hx .nil)) n (t.mono (.refl F) fun c z => upd_ne fun w => n (by rw [← w]; exact z))
    · have m' : k ∈ kvs.map (·.1) := by
        rcases List.mem_cons.mp m with z | z
        · exact absurd z.symm hk
        · exact z
      obtain ⟨b', ys, ds', h1, h2, h3, h4, h5, h6⟩ := OwD.change hx t nd'.2 m'
      refine ⟨b', ys, ds', by rw [valV_neg hk]; exact h1, List.mem_cons_of_mem _ h2, h3, h4, List.mem_cons_of_mem _ h5, ?_⟩
      have : appK ((k0, ds0) :: kvs) k x = (k0, ds0) :: appK kvs k x := by
        unfold appK
        rw [List.map_cons, if_neg hk]
      rw [this]
      exact .cons (by rw [upd_ne fun w => n (by rw [w]; exact h2)]; exact e) d n h6
/-- d[k].append(x) -/
theorem w_odApp (i : Nat) {x : Str} {k : Key} {i1 : Expr} {p0 p1 p2 cpos : Pos} {y : PyData} (hu : X.A.units + 1 < cLine) (hk : PE X i1 (tD X.K ρ (.d (keyD k)))) (he : PE X e (tD X.K ρ (.d y))) (hnd : (kvs.map (·.1)).Nodup) (hm : k ∈ kvs.map (·.1)) (hz : ∀ p ∈ kvs, p.2.length < sizeLine) (hρ : ρ[i]? = some (.od kvs) := by rfl) (hN : X.N[i]? = some x := by rfl)
    (hv : Vis X.env.scope x := by first | exact Or.inl rfl | exact Or.inr (Or.inl rfl) | exact Or.inr (Or.inr rfl)) (hns : NoSl i1 := by intro _ _; rfl)
    (hd : (x == ("__debug__" : Str)) = false := by decide) (hcd : (x == ("__classdict__" : Str)) = false := by decide) (hbase : attributeBase (.Subscript (.Name x p0) i1 p1) "append" X.env (eval (.Subscript (.Name x p0) i1 p1) X.env) = eval (.Subscript (.Name x p0) i1 p1) X.env := by rfl)
    (hfew : ((backTo cpos (starEach [e] X.env)).all (fun x => !x.1) && (backToKw cpos (keywordEach [] X.env)).all (fun x => x.1.isSome) && decide ([e].length + ([] : List Keyword).length + (if ([] : List Keyword).isEmpty then 0 else 1) < 30)) = true := by rfl)
    (hline : (p2.endLine == cpos.line) = true := by rfl) (hs : starEach [e] X.env = (false, eval e X.env) :: starEach [] X.env := by rfl) (hplain : (backTo cpos (starEach [] X.env)).any (·.1) = false := by rfl) (hw : swapsWith (.Call (.Attribute (.Subscript (.Name x p0) i1 p1) "append" p2) [e] [] cpos) none pos.line X.env = pure false := by rfl) :
    PS X (.Expr (.Call (.Attribute (.Subscript (.Name x p0) i1 p1) "append" p2) [e] [] cpos) pos) (tW X.K ρ (.nx (ρ.set i (.od (appK kvs k y))))) :=
  (ps_expr (pe_bm PySem.F.plainAttrs_list PySem.F.slot_list_append PySem.F.type_list_append mt_append (pe_dget hu (pe_var (i := i) hN hv hd hcd) hk hns) (pa_cons he pa_nil hs) hbase hfew hline hs hplain) hw).imp fun D σ H ⟨F, A, l, rp, q⟩ => by
    obtain ⟨p, vs, bs, e1, mA, eH, ow⟩ := rp.od hρ
    refine ⟨.ref p, e1, F, A, l, rp, fun F1 H1 kv e2 q1 => ?_⟩
    have hkv := dp_key (show Dp X.K F1 kv (keyD k) from q1)
    have rp1 := rp.mono e2
    have ow1 := ow.mono e2.ff fun b z => same_at e2.hh (by
      obtain ⟨xs, w⟩ := ow.mem b z
      rw [w]; simp : H b ≠ none)
    obtain ⟨b, xs, ds, g1, g2, g3, g4, g5, _⟩ := ow1.change (k := k) (v := .non) (x := .none) .non hnd hm
    refine ⟨p, .ref b, rfl, .inl ⟨vs, k, .inl (e2.hh _ _ eH), hkv, g1.symm⟩, .inl ⟨rfl, xs, .inl (.inl g3)⟩, F1, A, e2.fh, rp1, fun F2 H2 v e3 q3 => ?_⟩
    have rp2 := rp1.mono e3
    have e23 := e2.trans e3
    have eb : H2 b = some (.lst xs) := e3.hh _ _ g3
    refine ⟨b, xs, v, rfl, rfl, eb, by rw [DpAll.len g4]; exact hz _ g5, ?_⟩
    obtain ⟨p', vs', bs', e1', mA', eH', ow2⟩ := rp2.od hρ
    rw [e1] at e1'
    cases e1'
    rw [e23.hh _ _ eH] at eH'
    cases eH'
    obtain ⟨b2, xs2, ds2, f1, f2, f3, f4, f5, f6⟩ := ow2.change (k := k) q3 hnd hm
    rw [g1] at f1
    cases f1
    rw [eb] at f3
    cases f3
    have bA : b ∈ A := mA' b (List.mem_cons_of_mem _ f2)
    have npb : p ≠ b := by
      intro z
      rw [z] at eH
      rw [e23.hh _ _ eH] at eb
      cases eb
    obtain ⟨A', h1, h2⟩ := rp2.rl.change (r' := .od (appK kvs k y)) (H' := upd H2 b (.lst (xs ++ [v]))) hρ e1 fun B ⟨p3, vs3, bs3, w1, w2, w3, w4⟩ => by
      cases w1
      rw [e23.hh _ _ eH] at w3
      cases w3
      obtain ⟨b4, xs4, ds4, z1, z2, z3, z4, z5, z6⟩ := w4.change (k := k) q3 hnd hm
      rw [g1] at z1
      cases z1
      rw [eb] at z3
      cases z3
      exact ⟨p :: bs3, ⟨p, vs, bs3, rfl, rfl, by rw [upd_ne npb]; exact e23.hh _ _ eH, z6⟩, fun x z => by rw [w2]; exact z, fun c n _ => upd_ne fun z => n (by rw [w2, z]; exact List.mem_cons_of_mem _ z2)⟩
    have nF := rp2.nf b bA
    refine q F2 _ σ A' ?_ ⟨h1, fun c z => rp2.nf c (h2 c z)⟩
    refine (e23.st A).trans ⟨.refl F2, ⟨fun c u pu r => ?_, fun c z => ?_, fun c φ r => by rw [upd_ne (ne_of_none r nF)]; exact e3.fh.ex c φ r, fun c ⟨o2, xs2, r, d2⟩ => by
      obtain ⟨o3, xs3, e4, d3⟩ := e3.fh.fz c ⟨o2, xs2, r, d2⟩
      exact ⟨o3, xs3, by rw [upd_ne (ne_of_none r nF)]; exact e4, d3⟩⟩, fun c o n w => ?_, fun c n _ _ => n, fun c n => ?_, fun c z => .inl (h2 c z)⟩
    · have : c ≠ b := fun z => by rcases r with r | ⟨_, r⟩ <;> rw [z, nF] at r <;> cases r
      rcases e3.fh.rd c u pu r with w | ⟨o, w⟩
      · exact .inl (by rw [upd_ne this]; exact w)
      · exact .inr ⟨o, by rw [upd_ne this]; exact w⟩
    · by_cases w : c = b
      · rw [w, upd_same] at z; cases z
      · rw [upd_ne w] at z; exact e3.fh.dom c z
    · rw [upd_ne fun z => n (by rw [z]; exact bA)]
      exact w
    · by_cases w : c = b
      · rw [w, upd_same]; simp
      · rw [upd_ne w]; exact n
/-- the owned dict is given away -/
def odD (kvs : List (Key × List PyData)) : List (Key × PyData) := kvs.map fun p => (p.1, .list p.2)
theorem owd_freeze {K : PySem.W.Frag} {H : Hp} : ∀ {kvs : List (Key × List PyData)} {vs : List (Key × V)} {bs : List Addr} {F : Hp}, Le F H → OwD K F H kvs vs bs → (∀ b ∈ bs, F b = none) → ∃ F', Le F F' ∧ Le F' H ∧ KDat K F' vs (odD kvs) ∧ ∀ b, b ∉ bs → F' b = F b
  | _, _, _, F, l, .nil, _ => ⟨F, .refl F, l, .nil, fun _ _ => rfl⟩
  | _, _, _, F, l, @OwD.cons _ _ _ k ds kvs vs b bs xs e d n t, nf => by
    obtain ⟨F1, h1, h2, h3, h4⟩ := owd_freeze l t fun c z => nf c (List.mem_cons_of_mem _ z)
    have nb : F1 b = none := by rw [h4 b n]; exact nf b List.mem_cons_self
    obtain ⟨l1, l2⟩ := Ext.freeze h2 nb e trivial
    refine ⟨upd F1 b (.lst xs), h1.trans l1, l2, .cons ⟨rfl, .lst (.inl (.inl upd_same)) ((h1.trans l1).dps d)⟩ (l1.kdat h3), fun c z => ?_⟩
    have z' : ¬ (c = b ∨ c ∈ bs) := fun w => z (List.mem_cons.mpr w)
    rw [upd_ne fun w => z' (.inl w)]
    exact h4 c fun w => z' (.inr w)
theorem RepL.frozen {K : PySem.W.Frag} {F F' H : Hp} {d : D} {a : Addr} (ff : Le F F') (is : Is K F' (.ref a) d) : ∀ {ρ : List Sl} {σ : L2.St} {A : List Addr} {i : Nat} {r : Sl}, RepL K F H ρ σ A → ρ[i]? = some r → σ[i]? = some (some (.ref a)) →
    ∃ A' B, RepL K F' H (ρ.set i (.fr d)) σ A' ∧ SlOk K F H r (some (.ref a)) B ∧ (∀ b ∈ A', b ∈ A ∧ b ∉ B) ∧ ∀ b ∈ B, b ∈ A
  | _, _, _, _, _, .nil, h, _ => by simp at h
  | _, _, _, 0, r, @RepL.cons _ _ _ r0 s0 A0 ρ0 σ0 B0 q t n, er, es => by
    have e1 : r0 = r := Option.some.inj er
    have e2 : s0 = some (.ref a) := Option.some.inj es
    subst e1 e2
    exact ⟨[] ++ B0, A0, .cons ⟨rfl, .ref a, rfl, is⟩ (t.mono ff fun c z => rfl) (fun b z => nomatch z), q, fun b z => ⟨List.mem_append_right _ (by simpa using z), fun w => n b w (by simpa using z)⟩, fun b z => List.mem_append_left _ z⟩
  | _, _, _, i + 1, r, @RepL.cons _ _ _ r0 s0 A0 ρ0 σ0 B0 q t n, er, es => by
    obtain ⟨A', B, h1, h2, h3, h4⟩ := RepL.frozen ff is t (by simpa using er) (by simpa using es)
    refine ⟨A0 ++ A', B, .cons (q.mono ff fun c z => rfl) h1 (fun b z w => n b z (h3 b w).1), h2, fun b z => ?_, fun b z => List.mem_append_right _ (h4 b z)⟩
    rcases List.mem_append.mp z with z | z
    · exact ⟨List.mem_append_left _ z, fun w => n b z (h4 b w)⟩
    · exact ⟨List.mem_append_right _ (h3 b z).1, (h3 b z).2⟩
theorem w_freezeOd {sts : List Stmt} (i : Nat) (h : PSs X sts (tW X.K (ρ.set i (.fr (.dk (odD kvs)))) O)) (hi : ρ[i]? = some (.od kvs) := by rfl) : PSs X sts (tW X.K ρ O) := h.imp fun D σ H ⟨F, A, l, rp, q⟩ => by
  obtain ⟨p, vs, bs, e1, mA, eH, ow⟩ := rp.od hi
  have nf : ∀ b ∈ p :: bs, F b = none := fun b z => rp.nf b (mA b z)
  obtain ⟨F1, h1, h2, h3, h4⟩ := owd_freeze l ow fun b z => nf b (List.mem_cons_of_mem _ z)
  have npb : p ∉ bs := fun z => by
    obtain ⟨xs, w⟩ := ow.mem p z
    rw [eH] at w
    cases w
  have nF1 : F1 p = none := by rw [h4 p npb]; exact nf p List.mem_cons_self
  obtain ⟨l1, l2⟩ := Ext.freeze h2 nF1 eH trivial
  obtain ⟨A', B, g1, ⟨p', vs', bs', w1, w2, w3, w4⟩, g3, g4⟩ := RepL.frozen (h1.trans l1) (d := .dk (odD kvs)) ⟨p, vs, rfl, .inl upd_same, l1.kdat h3⟩ rp.rl hi e1
  cases w1
  rw [eH] at w3
  cases w3
  have hbs : bs' = bs := by
    have : ∀ {kvs : List (Key × List PyData)} {vs : List (Key × V)} {bs bs' : List Addr}, OwD X.K F H kvs vs bs → OwD X.K F H kvs vs bs' → bs' = bs := by
      intro kvs vs bs bs' x
      induction x generalizing bs' with
      | nil => intro y; cases y; rfl
      | cons _ _ _ _ ih => intro y; cases y with | cons _ _ _ t => rw [ih t]
    exact this ow w4
  have val : ∀ b, b ∉ p :: bs → (upd F1 p (.dK vs)) b = F b := fun b z => by
    have z' : ¬ (b = p ∨ b ∈ bs) := fun w => z (List.mem_cons.mpr w)
    rw [upd_ne fun w => z' (.inl w)]
    exact h4 b fun w => z' (.inr w)
  refine ⟨upd F1 p (.dK vs), A', l2, ⟨g1, fun b z => ?_⟩, q.step ⟨h1.trans l1, l2, fun _ _ _ e => e, fun b n1 _ n3 => ?_, fun _ n => n, fun b z => .inl (g3 b z).1⟩⟩
  · have nb := (g3 b z).2
    rw [w2, hbs] at nb
    rw [val b nb]
    exact rp.nf b (g3 b z).1
  · rw [val b fun w => n3 (mA b w)]
    exact n1
end
end KL
/-! DLk: the rest of the statements' rules. -/
namespace KL
open PySem PySem.Spec L2
section
variable {X : Cx} {ρ ρ1 ρ2 : List Sl} {a b e c tg iter elt kx vx : Expr} {ifs : List Expr} {scope : Scope} {own : List (Str × Nat)} {s : Stmt} {rest body els : List Stmt} {pos p : Pos} {O : Out} {d : D} {ds es : List PyData} {kvs : List (Key × List PyData)}
/-- y = {k: [..] for ..} on one line, y a local -/
theorem w_odSet {α : Type} {xs : List α} {enc : α → PyData} {ρ' : α → List Sl} {kf : α → Key} {f : α → List PyData} (i : Nat) {y : Str} {py spos : Pos} (hi : PI X tg iter (tI X.K ρ true (xs.map enc))) (ok : BlkOk X.N X.env.scope scope own)
    (hg : ∀ x ∈ xs, ∀ (s : Shared) (H : Hp) (C : Addr) (cl : List (Str × Addr)) (fp : List Addr), PG (X.blk s H scope (compEnvC scope cl C X.env) fp) tg (tG X.K (wipeR ρ (own.map (·.2))) (enc x) (ρ' x) (own.map (·.2))))
    (hk : ∀ x ∈ xs, ∀ (s : Shared) (H : Hp) (C : Addr) (cl : List (Str × Addr)) (fp : List Addr), PE (X.blk s H scope (compEnvC scope cl C X.env) fp) kx (tD X.K (ρ' x) (.d (keyD (kf x)))))
    (he : ∀ x ∈ xs, ∀ (s : Shared) (H : Hp) (C : Addr) (cl : List (Str × Addr)) (fp : List Addr), PE (X.blk s H scope (compEnvC scope cl C X.env) fp) vx (tN X.K (ρ' x) (f x)))
    (hz : xs.length ≤ sizeLine) (hd : (xs.map kf).Nodup) (hc : X.calm = true := by rfl) (hN : X.N.Nodup := by decide) (hs : ∀ x, foldedSetIterable iter X.env x = pure x := by intro _; rfl) (hy : X.N[i]? = some y := by rfl) (hyl : X.env.scope.names.lookup y = some .local := by rfl)
    (hsw : swapsWith (.DictComp kx vx [⟨tg, iter, [], 0⟩] scope pos) (some (.Name y py)) spos.line X.env = pure true := by rfl) :
    PS X (.Assign [.Name y py] (.DictComp kx vx [⟨tg, iter, [], 0⟩] scope pos) spos) (tW X.K ρ (.nx (ρ.set i (.od (xs.map fun x => (kf x, f x)))))) :=
  (docompSet hi ok hg hk he hz hd hc hN hs hy hyl hsw).imp fun D σ H h => by
    obtain ⟨F, A, l, rp, k⟩ := asg_od h
    exact ⟨F, A, l, rp, fun F1 H1 J e1 wk => ⟨F1, A, e1.fh, rp.mono e1, by rw [if_pos rfl] at wk; exact wk, fun F' H' v e2 r => k F' H' v (e1.trans e2) (bk_o _ _ _ _ _ _ _ e1 r)⟩⟩
/-- y = [.. for .. in nothing for .. in ..] on one line -/
theorem w_lc2no {tg1 iter1 : Expr} {ifs1 : List Expr} {vs1 : List Nat} (i : Nat) {y : Str} {py spos : Pos} (hi : PI X tg iter (tI X.K ρ true [])) (ok : BlkOk X.N X.env.scope scope own) (hv : ∀ i ∈ vs1, i ∈ own.map (·.2)) (hc : X.calm = true := by rfl) (hN : X.N.Nodup := by decide) (hs : ∀ x, foldedSetIterable iter X.env x = pure x := by intro _; rfl)
    (hs1 : ∀ env x, foldedSetIterable iter1 env x = pure x := by intro _ _; rfl) (hy : X.N[i]? = some y := by rfl) (hyl : X.env.scope.names.lookup y = some .local := by rfl)
    (hsw : swapsWith (.ListComp elt [⟨tg, iter, ifs, 0⟩, ⟨tg1, iter1, ifs1, 0⟩] scope pos) (some (.Name y py)) spos.line X.env = pure true := by rfl) :
    PS X (.Assign [.Name y py] (.ListComp elt [⟨tg, iter, ifs, 0⟩, ⟨tg1, iter1, ifs1, 0⟩] scope pos) spos) (tW X.K ρ (.nx (ρ.set i (.ow [])))) :=
  (ps_setLc2 (g := fun _ _ _ _ => False) (tt := fun _ _ _ => False) (te := tNoE) (wi1 := fun _ _ _ => False) (g1 := fun _ _ _ _ => False) (tt1 := fun _ _ _ => False) (vs1 := vs1) hc hN hy hyl hsw hi ok hv (fun _ _ _ _ _ => ⟨fun _ _ _ _ _ _ _ _ _ h => h.elim⟩) (fun _ _ _ _ _ => ⟨fun _ _ _ _ _ _ h => h.elim⟩) (fun _ _ _ _ _ => ⟨fun _ _ _ _ _ _ h => h.elim⟩)
    (fun _ _ _ _ _ => ⟨fun _ _ _ _ _ _ _ _ _ h => h.elim⟩) (fun _ _ _ _ _ => ⟨fun _ _ _ _ _ _ h => h.elim⟩) (fun _ _ _ _ _ => pe_no) hs hs1).imp fun D σ H h => by
    obtain ⟨F, A, l, rp, k⟩ := asg_ow h
    exact ⟨F, A, l, rp, fun F1 H1 J e1 wk D nD =>
      ⟨fun i m H => i = 0 ∧ H = upd H1 D (.lst []), ⟨0, rfl, rfl⟩, fun i m H ⟨ei, eH⟩ => by
        rw [if_pos rfl] at wk
        subst ei eH
        have st := stex_new (o := .lst []) e1.fh nD
        exact .inl ⟨(wk 0 F1 _ _ st).1 (Nat.le_refl _), k F1 _ _ (e1.trans st.ext) ⟨D, [], rfl, e1.fh.dom D nD, e1.hh.free nD, upd_same, Nat.zero_le _, .nil⟩⟩⟩⟩
/-- a list that stands by itself in H -/
def RL (K : PySem.W.Frag) (ds : List PyData) : RK := fun _ _ F' H' v => ∃ a xs, v = .ref a ∧ H' a = some (.lst xs) ∧ DpAll K F' xs ds
theorem n2l (h : PE X e (tN X.K ρ ds)) : PE X e (tR X.K ρ (RL X.K ds)) := tR.conv h fun F H F' H' v l ex ⟨p, xs, ev, nF, nH, eH, _, dp⟩ => ⟨F', ex, p, xs, ev, eH, dp⟩
theorem lvar (i : Nat) {x : Str} (hρ : ρ[i]? = some (.ow ds) := by rfl) (hN : X.N[i]? = some x := by rfl) (hv : Vis X.env.scope x := by first | exact Or.inl rfl | exact Or.inr (Or.inl rfl) | exact Or.inr (Or.inr rfl)) (hd : (x == ("__debug__" : Str)) = false := by decide)
    (hcd : (x == ("__classdict__" : Str)) = false := by decide) : PE X (.Name x pos) (tR X.K ρ (RL X.K ds)) :=
  (pe_var hN hv hd hcd).imp fun σ H Q ⟨F, A, l, r, k⟩ => by
    obtain ⟨a, xs, e, _, eH, dp⟩ := r.ow hρ
    exact ⟨.ref a, e, k F H _ (.refl l) ⟨a, xs, rfl, eH, dp⟩⟩
/-- lists joined -/
theorem ncat (ha : PE X a (tR X.K ρ (RL X.K ds))) (hb : PE X b (tR X.K ρ (RL X.K es))) (hz : ds.length + es.length ≤ sizeLine) : PE X (.BinOp a .Add b pos) (tN X.K ρ (ds ++ es)) :=
  dop op_cat ha hb fun F H F1 H1 F2 H2 x y Q l e1 ⟨p1, xs, ex, eH1, d1⟩ e2 ⟨p2, ys, ey, eH2, d2⟩ k => ⟨p1, p2, xs, ys, ex, ey, e2.hh _ _ eH1, eH2, by rw [DpAll.len d1, DpAll.len d2]; exact hz, fun q n =>
    k F2 _ _ ((e1.trans e2).trans (.newH e2.fh n)) ⟨q, xs ++ ys, rfl, e2.fh.dom q n, (e1.trans e2).hh.free n, upd_same, by rw [List.length_append, DpAll.len d1, DpAll.len d2]; exact hz, dpAll_append (e2.ff.dps d1) d2⟩⟩
/-- min of a list of texts (not empty) -/
theorem dmin {x : PyData} (hc : X.calm = true) (hu : X.A.units + 64 < cLine) (hg : Gl X "min") (hm : X.mg "min" = none) (hv : bootBuiltins "min" = some (.builtin "min")) (ha : PE X e (tS X.K ρ (x :: ds))) (hal : PySem.W.AlikeAll (x :: ds)) (hd : PyData.depthAll (x :: ds) ≤ 20) (hf : ∀ y ∈ x :: ds, flatD y = true)
    (he : starEach [e] X.env = (false, eval e X.env) :: starEach [] X.env := by rfl) : PE X (.Call (.Name "min" p) [e] [] pos) (tD X.K ρ (.d (PySem.W.minD x ds))) :=
  call1 (he := he) (r := fun vs H Q => ∃ (a : Addr) (xs : List V), vs = [V.ref a] ∧ SqL X.K H a xs ∧ DpAll X.K H xs (x :: ds) ∧ ∀ v d, v ∈ xs → Dp X.K H v d → d = PySem.W.minD x ds → Q v H) (fun pins s σ H vs us Q I r ⟨a, xs, ev, sq, dp, k⟩ => by
    subst ev
    rw [Vals.ref1 r]
    obtain ⟨its, rv, pl, hz⟩ := I.list sq
    obtain ⟨as, rd⟩ := Dp.readsAll I _ _ _ dp rv
    refine PySem.W.min_list_data (vs := its.toArray) (I.ok.hd hc) pl.isList (by simpa using rd) hal (by omega) fun i v h' tk bs ei rv' kp => ?_
    have ei' : its[i]? = some v := by simpa using ei
    have hil : i < xs.length := by
      have := (List.getElem?_eq_some_iff.mp ei').1
      rw [rv.length]
      exact this
    obtain ⟨u, h1, h2⟩ := rv.get (i := i) (x := xs[i]) (List.getElem?_eq_getElem hil)
    rw [ei'] at h1
    cases h1
    have hil2 : i < (x :: ds).length := by rw [← DpAll.len dp]; exact hil
    obtain ⟨w, g1, g2⟩ := dpAll_get dp (List.getElem?_eq_getElem hil2)
    rw [List.getElem?_eq_getElem hil] at g1
    cases g1
    have I2 : Inv X pins σ H { s with heap := h', toks := tk } := I.kept kp
    have hfl := hf _ (List.getElem_mem hil2)
    refine ⟨xs[i], H, I2, h2, k _ _ (List.getElem_mem hil) g2 ?_⟩
    obtain ⟨as2, q2⟩ := Dp.reads I2 _ _ _ g2 h2
    generalize (x :: ds)[i] = z at q2 hfl
    generalize PySem.W.minD x ds = m at rv'
    cases z <;> first
      | exact absurd hfl Bool.false_ne_true
      | (cases q2; cases rv'; rfl)) hg hm hv ha fun F H F1 H1 v Q l e1 ⟨q, xs, ev, sq, dp⟩ k => ⟨q, xs, by rw [ev], sq, e1.fh.dps dp, fun v d hv hd' ed => by
    subst ed
    refine k F1 H1 v e1 ?_
    have : ∀ {vs : List V} {ds : List PyData}, DpAll X.K F1 vs ds → v ∈ vs → (∀ y ∈ ds, flatD y = true) → ∃ d', Dp X.K F1 v d' ∧ flatD d' = true := by
      intro vs zs h
      induction vs generalizing zs with
      | nil => intro m; cases m
      | cons w ws ih =>
        intro m hfl
        cases h with
        | cons h1 h2 =>
          rcases List.mem_cons.mp m with rfl | m
          · exact ⟨_, h1, hfl _ List.mem_cons_self⟩
          · exact ih h2 m fun y hy => hfl y (List.mem_cons_of_mem _ hy)
    obtain ⟨d', h1, h2⟩ := this dp hv hf
    have h3 := e1.fh.dp h1
    have : d' = PySem.W.minD x ds := by
      generalize PySem.W.minD x ds = m at hd'
      cases h3 <;> first
        | exact absurd h2 Bool.false_ne_true
        | (cases hd'; rfl)
    rw [← this]
    exact h1⟩
end
end KL
/-! DLl: a for statement over the keys of a dict. -/
namespace KL
open PySem PySem.Spec L2
theorem unlock_st {F H F' H' : Hp} {A A' : List Addr} {d : Addr} {u : HO} {od : Obj} (x : StEx F (upd H d (.frz od u)) A F' H' A') (l : Le F H) (e : H d = some u) (po : plainO u) (nA : d ∉ A) (nt : ∀ xs, u ≠ .tup xs := by intro _ h; cases h) : StEx F H A F' (upd H' d u) A' ∧ H' d = some (.frz od u) := by
  have ed : H' d = some (.frz od u) := x.hh _ _ nA upd_same
  refine ⟨⟨x.ff, ⟨fun a w pw r => ?_, fun a z => ?_, fun a φ h => ?_, fun a h => ?_⟩, fun a o na h => ?_, fun a h1 h2 => x.own a h1 ?_, fun a h => ?_, fun a z => ?_⟩, ed⟩
  · rcases x.fh.rd a w pw r with q | ⟨b, q⟩
    · by_cases ha : a = d
      · rw [ha, ed] at q
        cases q
        exact absurd pw fun z => z
      · exact .inl (by rw [upd_ne ha]; exact q)
    · by_cases ha : a = d
      · rw [ha, ed] at q
        cases q
        rw [ha]
        exact .inl upd_same
      · exact .inr ⟨b, by rw [upd_ne ha]; exact q⟩
  · by_cases ha : a = d
    · rw [ha, upd_same] at z; cases z
    · rw [upd_ne ha] at z
      exact x.fh.dom a z
  · have hH := x.fh.ex a φ h
    by_cases ha : a = d
    · rw [ha, ed] at hH; cases hH
    · rw [upd_ne ha]; exact hH
  · obtain ⟨o2, xs2, e2, d2⟩ := x.fh.fz a h
    refine ⟨o2, xs2, ?_, d2⟩
    by_cases ha : a = d
    · rw [ha, ed] at e2
      cases e2
      exact absurd rfl (nt xs2)
    · rw [upd_ne ha]; exact e2
  · by_cases ha : a = d
    · rw [ha, e] at h
      cases h
      rw [ha, upd_same]
    · rw [upd_ne ha]
      exact x.hh a o na (by rw [upd_ne ha]; exact h)
  · by_cases ha : a = d
    · rw [ha, upd_same]; simp
    · rw [upd_ne ha]; exact h2
  · by_cases ha : a = d
    · rw [ha, upd_same]; simp
    · rw [upd_ne ha]
      exact x.al a (by rw [upd_ne ha]; exact h)
  · rcases x.new a z with q | q
    · exact .inl q
    · by_cases ha : a = d
      · rw [ha, upd_same] at q; cases q
      · rw [upd_ne ha] at q; exact .inr q
theorem _root_.L2.PS.or {X : Cx} {st : Stmt} {t1 t2 : TS} (h1 : PS X st t1) (h2 : PS X st t2) : PS X st (fun D σ H => t1 D σ H ∨ t2 D σ H) := ⟨fun pins s σ H D I q => q.elim (h1.run pins s σ H D I) (h2.run pins s σ H D I)⟩
section
variable {X : Cx} {ρ : List Sl} {tg iter : Expr} {body : List Stmt} {pos : Pos} {vs : List Nat}
theorem w_forK {te : TE} {kvs : List (Key × PyData)} (st : Nat → List Sl) (ρ' : Nat → Key × PyData → List Sl) (hsrc : PE X iter te) (src : Src X.K ρ te kvs) (h0 : st 0 = ρ)
    (hg : ∀ i x, kvs[i]? = some x → PG X tg (tG X.K (st i) (keyD x.1) (ρ' i x) vs)) (hb : ∀ i x, kvs[i]? = some x → PSs X body (tW X.K (ρ' i x) (.nx (st (i + 1)))))
    (hp : PassesOwn (model X.prog X.w) X.A X.env X.xe := by exact PassesOwn.never) (hc : X.calm = true := by rfl) (hs : ∀ x, foldedSetIterable iter X.env x = pure x := by intro _; rfl) :
    PS X (.For tg iter body [] pos) (tW X.K ρ (.nx (st kvs.length))) := by
  have base := ps_for (g := fun v σ H Q => ∃ j : { p : Nat × (Key × PyData) // kvs[p.1]? = some p.2 }, tG X.K (st j.1.1) (keyD j.1.2.1) (ρ' j.1.1 j.1.2) vs v σ H Q) (tb := fun D σ H => ∃ j : { p : Nat × (Key × PyData) // kvs[p.1]? = some p.2 }, tW X.K (ρ' j.1.1 j.1.2) (.nx (st (j.1.1 + 1))) D σ H) (pos := pos)
    hp hc (pi_keys hsrc) (.all fun j => hg j.1.1 j.1.2 j.2) (.all fun j => hb j.1.1 j.1.2 j.2) hs
  have core : ∀ (D : Ends) (σ : L2.St) (F1 H1 : Hp) (A : List Addr) (J : It), Le F1 H1 → Rep X.K F1 H1 ρ σ A → Walks X.K J F1 H1 A (kvs.map fun p => keyD p.1) →
      (∀ F2 H2 σ2 A2, StEx F1 H1 A F2 H2 A2 → Rep X.K F2 H2 (st kvs.length) σ2 A2 → D.nx σ2 H2) → tFor (fun σ H R => σ = σ ∧ R J H) (fun v σ H Q => ∃ j : { p : Nat × (Key × PyData) // kvs[p.1]? = some p.2 }, tG X.K (st j.1.1) (keyD j.1.2.1) (ρ' j.1.1 j.1.2) vs v σ H Q) (fun D σ H => ∃ j : { p : Nat × (Key × PyData) // kvs[p.1]? = some p.2 }, tW X.K (ρ' j.1.1 j.1.2) (.nx (st (j.1.1 + 1))) D σ H) D σ H1 := by
    intro D σ F1 H1 A J l1 rp1 wk q
    refine ⟨rfl, fun i m σ H => m = kvs.length - i ∧ i ≤ kvs.length ∧ ∃ F A', StEx F1 H1 A F H A' ∧ Rep X.K F H (st i) σ A', ⟨kvs.length, by simp, Nat.zero_le _, F1, A, .refl l1 A, by rw [h0]; exact rp1⟩, ?_⟩
    rintro i m σ2 H2 ⟨rfl, hi, F2, A2, st2, r2⟩
    obtain ⟨stop, item⟩ := wk i F2 H2 A2 st2
    by_cases hlt : i < kvs.length
    · have ex : kvs[i]? = some kvs[i] := List.getElem?_eq_getElem hlt
      generalize kvs[i] = x at ex
      obtain ⟨go, yl⟩ := item (keyD x.1) (by rw [List.getElem?_map, ex]; rfl)
      refine .inr ⟨go, fun σ' H' => ∃ F A', StEx F1 H1 A F H' A' ∧ Rep X.K F H' (st (i + 1)) σ' A', fun σ' H' q => ⟨kvs.length - (i + 1), by omega, rfl, hlt, q⟩, fun v H3 y => ?_⟩
      obtain ⟨F3, e3, dpx⟩ := yl v H3 y
      refine ⟨⟨(i, x), ex⟩, F3, A2, e3.fh, r2.mono e3, dpx, fun σ3 A3 r3 _ sub => ⟨⟨(i, x), ex⟩, F3, A3, e3.fh, r3, fun F4 H4 σ4 A4 st4 r4 => ?_⟩⟩
      exact ⟨F4, A4, (st2.trans (stEx_sub (e3.st A2) sub)).trans st4, r4⟩
    · have ei : i = kvs.length := by omega
      subst ei
      exact .inl ⟨stop (by simp), q F2 H2 σ2 A2 st2 r2⟩
  refine ((ps_lock base).or base).imp fun D σ H ⟨F, A, l, rp, q⟩ => ?_
  obtain ⟨d, vs', r, kd, go⟩ := src σ F H A l rp
  have dF : F d ≠ none := by rcases r with r | ⟨b, r⟩ <;> rw [r] <;> simp
  rcases l.rd d (.dK vs') trivial r with eH | ⟨o, eH⟩
  · left
    refine ⟨d, _, eH, trivial, fun od => ?_⟩
    have l1 := lock_le (u := .dK vs') (od := od) l eH trivial
    obtain ⟨rp1, nd⟩ := rep_lock (o := .frz od (.dK vs')) rp r
    refine go _ _ l1 rp1 ⟨d, od, rfl, .inl ⟨vs', upd_same, (core _ σ F _ A _ l1 rp1 (walks_keys upd_same nd kd) fun F2 H2 σ2 A2 st2 r2 => ?_).2⟩⟩
    obtain ⟨st3, ed⟩ := unlock_st (u := .dK vs') st2 l eH trivial nd
    have r2' : Rd F2 d (.dK vs') := st2.ff.rd d _ trivial r
    exact ⟨ed, q F2 _ σ2 A2 st3 (rep_lock (o := .dK vs') r2 r2').1⟩
  · right
    obtain ⟨_, nd⟩ := rep_lock (o := .frz o (.dK vs')) rp r
    exact go _ _ l rp ⟨d, o, rfl, .inl ⟨vs', eH, (core _ σ F _ A _ l rp (walks_keys eH nd kd) q).2⟩⟩
end
end KL
/-! DLm: sorted(set(texts)). -/
namespace KL
open PySem PySem.Spec L2 PySem.Froz
/-- a payload that holds the texts l, each once; its table can be walked -/
structure Txs (P : Program) (w : World) (D : SD) (l : List Str) : Prop where
  ok : TxOk P w D l
  nd : l.Nodup
  ris : Ris D.2.2.place.toList
  led : w.params.followText "set-order" = true ∨ D.2.2.led = true
abbrev oSet (w : World) : Obj := sObj "set" (#[], 0, .fresh 0 0 (!w.params.followText "set-order"))
theorem txs_new {P : Program} {w : World} : Txs P w (#[], 0, .fresh 0 0 (!w.params.followText "set-order")) [] where
  ok := .nil rfl
  nd := .nil
  ris := .nil
  led := by
    cases (w.params.followText "set-order")
    · exact .inr rfl
    · exact .inl rfl
theorem tail_ris {ep : Nat} {es1 : Array (Int × Value)} {t2 : SetTable} {wd : Bool} (r : Ris t2.place.toList) : Ris (tailTx ep es1 t2 wd).2.2.place.toList := by
  unfold tailTx
  split
  · exact relayAll_ris ..
  · exact r
theorem tail_led {ep : Nat} {es1 : Array (Int × Value)} {t2 : SetTable} {wd : Bool} (r : t2.led = true) : (tailTx ep es1 t2 wd).2.2.led = true := by
  unfold tailTx
  split
  · exact (relayAll_led ..).trans r
  · exact r
theorem txs_add {P : Program} {w : World} {D : SD} {l : List Str} {k : Str} (u : Tok) (T : Txs P w D l) (hk : k ∉ l) : Txs P w (addTx (hashStr w k) (.str k u) D) (k :: l) := by
  refine ⟨add_ok u T.ok, List.nodup_cons.mpr ⟨hk, T.nd⟩, ?_, ?_⟩
  · have r1 := layNew_ris D.2.2 D.1 (hashStr w k) (.str k u) T.ris
    exact tail_ris (by split <;> exact r1)
  · refine T.led.imp id fun z => ?_
    have r1 := layNew_led D.2.2 D.1 (hashStr w k) (.str k u)
    exact tail_led (by split <;> exact r1.trans z)
def ins1 (l : List Str) (k : Str) : List Str := if k ∈ l then l else k :: l
def insT (l ks : List Str) : List Str := ks.foldl ins1 l
theorem ins1_len (l : List Str) (k : Str) : (ins1 l k).length ≤ l.length + 1 := by
  unfold ins1
  split
  · exact Nat.le_succ _
  · exact Nat.le_refl _
theorem insT_take {ks : List Str} {i : Nat} {k : Str} (h : ks[i]? = some k) : insT [] (ks.take (i + 1)) = ins1 (insT [] (ks.take i)) k := by
  unfold insT
  rewrite [List.take_add_one]; rw [h, List.foldl_append]
  rfl
theorem insT_len : ∀ (ks l : List Str), (insT l ks).length ≤ l.length + ks.length
  | [], l => Nat.le_refl _
  | k :: ks, l => by
    have h1 := insT_len ks (ins1 l k)
    have h2 := ins1_len l k
    show (insT (ins1 l k) ks).length ≤ _
    rw [List.length_cons]
    omega
theorem ins1_mem {l : List Str} {k x : Str} : x ∈ ins1 l k ↔ x ∈ l ∨ x = k := by
  unfold ins1
  split
  · rename_i h
    exact ⟨.inl, fun z => z.elim id fun e => e ▸ h⟩
  · rw [List.mem_cons]
    exact Or.comm
theorem insT_mem {x : Str} : ∀ {ks l : List Str}, x ∈ insT l ks ↔ x ∈ l ∨ x ∈ ks
  | [], l => by simp [insT]
  | k :: ks, l => by
    show x ∈ insT (ins1 l k) ks ↔ _
    rw [insT_mem, ins1_mem, List.mem_cons, or_assoc]
theorem insT_nd : ∀ {ks l : List Str}, l.Nodup → (insT l ks).Nodup
  | [], l, h => h
  | k :: ks, l, h => insT_nd (ks := ks) (l := ins1 l k) (by
    unfold ins1
    split
    · exact h
    · rename_i z
      exact List.nodup_cons.mpr ⟨z, h⟩)
section
variable {s : Shared} {E : Value → Shared → Prop} {A : Around} {w : World} {P : Program}
theorem put_txt {a : Addr} {D : SD} {l : List Str} {k : Str} {u : Tok} {Q : Bool → Shared → Prop} (ho : s.heap.get? a = some (sObj "set" D)) (T : Txs P w D l) (hb : l.length + 1 < scanBound)
    (hQ : ∀ (g : Bool) (h' : Heap) (D' : SD), (∀ b o, b ≠ a → s.heap.get? b = some o → h'.get? b = some o) → h'.objs.size = s.heap.objs.size → h'.get? a = some (sObj "set" D') → Txs P w D' (ins1 l k) → Q g { s with heap := h' }) :
    wpAny (model P w) A (setAddHashed a (.str k u) (hashStr w k)) Q E s := by
  by_cases hk : k ∈ l
  · have he : ins1 l k = l := if_pos hk
    obtain ⟨es, ep, t⟩ := D
    have fin := hQ false s.heap (es, ep, t) (fun _ _ _ z => z) rfl ho (by rw [he]; exact T)
    have hsz : es.size < scanBound := by
      have : es.size = l.length := T.ok.sz
      omega
    have hd : (sObj "set" (es, ep, t)).data = .set es ep t := rfl
    cases hf : List.findIdx? (fun e => (strKind P w).is k e.2) es.toList with
    | none =>
      obtain ⟨e, me, q⟩ := (T.ok.mem k).mp hk
      have c := List.findIdx?_eq_none_iff.mp hf e me
      rw [q] at c
      cases c
    | some j =>
      unfold setAddHashed; unfold setAddHashedIn
      refine wpAny_holding (wpAny_bind (wpAny_setState_of ho hd T.ok.fit ?_))
      show wpAny _ _ (if byScan (.str k u) es = true then _ else _) _ _ _
      rw [byScan_of (knd := strKind P w) rfl hsz T.ok.el, if_pos rfl]
      unfold setAddByScan
      refine wpAny_bind (wpAny_bind (wpAny_rule (wpAny_bind (wpAny_setScan_of (knd := strKind P w) (is_str k u) ho hd T.ok.fit T.ok.el ?_))))
      rw [hf]
      exact wpAny_pure (wpAny_pure fin)
  · refine add_x ho T.ok hk hb ?_
    have he : ins1 l k = k :: l := if_neg hk
    refine hQ true _ (addTx (hashStr w k) (.str k u) D) (fun b o n z => (Heap.get?_update_other _ _ (Ne.symm n)).trans z) (Heap.size_update ..) (get_upd _ ho rfl) ?_
    rw [he]
    exact txs_add u T hk
def Held (P : Program) (w : World) (h : Heap) (a : Addr) (l : List Str) : Prop := ∃ D, h.get? a = some (sObj "set" D) ∧ Txs P w D l
theorem upd_loop {I : Addr} {fp wr : List Addr} {G : Array GenState → Array GenState → Prop} {n : Nat} {Pv : Nat → Value → Prop} {St : Nat → Shared → Prop} {R : Result → Shared → Prop}
    (W : WalksS P w A.in1 I fp wr G n Pv St) (b : Addr) (hf : b ∉ fp) (ks : List Str) (hn : n = ks.length) (hb : ks.length + 1 < scanBound) (vals : ∀ i v, Pv i v → ∃ k t, ks[i]? = some k ∧ v = .str k t)
    (fin : ∀ s' : Shared, Moved (b :: wr) G s s' → Held P w s'.heap b (insT [] ks) → R (.ok (.ret .none)) s') :
    ∀ (m i : Nat) (s1 : Shared), i + m = n → St i s1 → Held P w s1.heap b (insT [] (ks.take i)) → (∀ s2, Moved (b :: wr) G s1 s2 → Moved (b :: wr) G s s2) →
      codeAny (model P w) A (.builtin "set.update.loop" ⟨[.ref b, .ref I], []⟩) R s1 := by
  have nw : b ∉ wr := fun z => hf (W.sub _ z)
  intro m
  induction m with
  | zero =>
    intro i s1 e st hold mv
    have ei : i = ks.length := by omega
    refine codeAny_builtin PyProof.Rows.F.entry_set_update_loop ?_; rewrite [Around.under_plainId PyProof.Rows.F.plain_set_update_loop _]
    show wpAny _ A.in1 (pyNext (.ref I) >>= _) _ _ s1
    refine wpAny_bind (W.done s1 _ _ (by rw [show n = i by omega]; exact st) fun s2 hm => ?_)
    rw [ei, List.take_length] at hold
    obtain ⟨D, ho, T⟩ := hold
    exact wpAny_pure (fin s2 (mv _ (hm.mono fun _ z => List.mem_cons_of_mem _ z)) ⟨D, hm.heap b _ nw ho, T⟩)
  | succ m ih =>
    intro i s1 e st hold mv
    refine codeAny_builtin PyProof.Rows.F.entry_set_update_loop ?_; rewrite [Around.under_plainId PyProof.Rows.F.plain_set_update_loop _]
    show wpAny _ A.in1 (pyNext (.ref I) >>= _) _ _ s1
    refine wpAny_bind (W.item i s1 _ _ (by omega) st fun v s2 pv st2 hm => ?_)
    obtain ⟨k, t, ek, rfl⟩ := vals i v pv
    obtain ⟨D, ho, T⟩ := hold
    have lk := insT_len (ks.take i) []
    rw [List.length_take, List.length_nil] at lk
    show wpAny _ A.in1 (holding [Value.str k t] (setAdd b (.str k t)) >>= _) _ _ s2
    unfold setAdd
    refine wpAny_bind (wpAny_holding (wpAny_holding (wpAny_bind ((strKind P w).pyHash (k := k) (is_str k t) ?_))))
    refine put_txt (s := { s2 with toks := s2.toks + 1 }) (hm.heap b _ nw ho) T (by omega) fun g h' D' old hs ho' T' => ?_
    have oth : ∀ c o, c ≠ b → s2.heap.get? c = some o → h'.get? c = some o := old
    refine wpAny_pure ⟨plainId_quiet PyProof.Rows.F.plain_set_update_loop _, ih (i + 1) _ (by omega) (W.frame _ s2 _ _ st2 (Nat.le_succ _) fun c hc o eo => oth c o (fun z => hf (z ▸ hc)) eo) ⟨D', ho', by rw [insT_take ek]; exact T'⟩ fun s3 hm3 => mv s3 ?_⟩
    exact Moved.trans W.gtrans ((hm.mono fun _ z => List.mem_cons_of_mem _ z).then_heap (Nat.le_succ _) fun c o hc eo => oth c o (fun z => hc (z ▸ List.mem_cons_self)) eo) hm3
set_option maxHeartbeats 3300000 in
theorem call_set_txt {a : Addr} {its : Array Value} (ks : List Str) {Q : Value → Shared → Prop} (hh : A.handled = none) (hl : s.heap.IsList a its) (hk : ∀ (i : Nat) (v : Value), its[i]? = some v → ∃ k t, ks[i]? = some k ∧ v = .str k t) (hz : its.size = ks.length) (hb : ks.length + 1 < scanBound)
    (fin : ∀ (h' : Heap) (tk : Nat), Held P w h' s.heap.objs.size (insT [] ks) → (∀ b o, s.heap.get? b = some o → h'.get? b = some o) → Q (.ref s.heap.objs.size) { s with heap := h', toks := tk }) :
    wpAny (model P w) A (call (.type "set") [.ref a]) Q E s := by
  obtain ⟨c0, tl0, mro0⟩ := F.called_set.mro
  have made0 := F.called_set.made
  have sub0 := F.called_set.sub
  refine wpAny_call <| codeAny_of_tree ?_
  show wpAny _ _ (callAny (.type "set") _) _ _ _; refine wpAny_pure ⟨Code.quiet_builtin _ (by decide +kernel), codeAny_builtin F.entry_type_call ?_⟩
  rw [Around.under_plain (weight_type_call_type "set" [.ref a] []) rfl]
  have z1 := F.called_set.notType
  have z2 := F.called_set.canCreate
  have z3 := F.typeCall_set_1 (.ref a)
  repeat any_goals first | assumption | wp_step
  have ho : (s.heap.push (oSet w)).get? s.heap.objs.size = some (oSet w) := Heap.get?_push_size _ rfl
  refine codeAny_mono (code_set_led1 (.ref a) (E := E) (Q₁ := fun v s1 => v = .ref s.heap.objs.size ∧ s1 = { s with heap := s.heap.push (oSet w) }) ⟨rfl, rfl⟩) fun r s1 q => ?_
  match r, q with
  | .error e, q => exact q
  | .ok (.ret v), q =>
    obtain ⟨rfl, rfl⟩ := q
    have ty : Shared.TypeIs { s with heap := s.heap.push (oSet w) } (.ref s.heap.objs.size) "set" := ⟨_, ho, rfl⟩
    have look0 := F.called_set.init.lookup
    have bind0 := F.called_set.init.bind (.ref s.heap.objs.size)
    repeat any_goals first | assumption | wp_step
    refine codeAny_mono (codeAny_call_builtin (R := wants (fun v s2 => v = .none ∧ ∃ h' tk, s2 = { s with heap := h', toks := tk } ∧ Held P w h' s.heap.objs.size (insT [] ks) ∧ ∀ b o, s.heap.get? b = some o → h'.get? b = some o) E) F.called_set.init.plain F.entry_set_init (check_set_init_1 ty ?_)) fun r2 s2 q2 => ?_
    · have la : a < s.heap.objs.size := let ⟨o, e, _⟩ := hl; Heap.lt_size e
      have hl1 : (s.heap.push (oSet w)).IsList a its := hl.push _
      have nlS := F.sub_list_set
      have nlF := F.sub_list_frozenset
      have nlD : (Value.type "list" == Value.type "dict") = false := by decide
      obtain ⟨ol, eo, ec, nl, ed⟩ := hl
      obtain ⟨c1, d1, d2, d3⟩ := ol
      simp only at ec ed
      subst ec ed
      have eo1 : (s.heap.push (oSet w)).get? a = some { cls := .type "list", dict := d1, data := .seq its nl, slots := d3 } := Heap.get?_push_of_some _ eo
      unfold Builtin.«set.__init__»; unfold noKeywords Builtin.Frozenset.updateFrom
      generalize hg : pyIter = PI
      wp_walk
      subst hg
      refine wpAny_pyIter_list hl1 (wpAny_bind (wpAny_runValue ?_))
      have hh3 : (A.in1.in1.in1).handled = none := by simp [hh]
      have sz1 : (s.heap.push (oSet w)).objs.size = s.heap.objs.size + 1 := Heap.size_push ..
      have ne1 : a ≠ (s.heap.push (oSet w)).objs.size := by rw [sz1]; exact Nat.ne_of_lt (Nat.lt_succ_of_lt la)
      have nin : s.heap.objs.size ∉ [(s.heap.push (oSet w)).objs.size, a] := by
        rw [sz1, List.mem_cons, List.mem_singleton]
        exact fun z => z.elim (fun e => Nat.succ_ne_self _ e.symm) (Nat.ne_of_gt la)
      refine upd_loop ((Walks.list hh3 _ a ne1 its).toS) s.heap.objs.size nin ks hz hb hk (fun s' hm hold => ?_) its.size 0 _ (Nat.zero_add _) ⟨⟨_, Heap.get?_push_size _ rfl, rfl, rfl⟩, hl1.push _⟩ ⟨_, Heap.get?_push_of_some _ ho, txs_new⟩ fun _ z => z
      obtain ⟨h', g', dr', tk', os'⟩ := s'
      have eg := (hm.gens : g' = s.gens)
      have ed : dr' = s.drawn := hm.drawn
      have eo : os' = s.os := hm.os
      subst eg ed eo
      refine wpAny_pure ?_
      show wpAny _ _ (ret Value.none) _ _ _; refine wpAny_pure ⟨rfl, h', tk', rfl, hold, fun b o e => ?_⟩
      have lb := Heap.lt_size e
      refine hm.heap b o (fun z => ?_) (Heap.get?_push_of_some _ (Heap.get?_push_of_some _ e))
      rw [List.mem_cons, List.mem_singleton, sz1] at z
      exact z.elim (Nat.ne_of_lt lb) (Nat.ne_of_lt (Nat.lt_succ_of_lt lb))
    · match r2, q2 with
      | .error e, q2 => exact q2
      | .ok (.ret v), q2 =>
        obtain ⟨rfl, h', tk, rfl, hold, old⟩ := q2
        repeat any_goals first | assumption | wp_step
        exact fin _ _ hold old
end
end KL
/-! DLn: sorted(set(texts)), as rules. -/
namespace KL
open PySem PySem.Spec L2 PySem.Froz
def TxH (P : Program) (w : World) (a : Addr) (l : List Str) : HO := .ext fun h => Held P w h a l
theorem txH_new {w : World} {P : Program} {H : Hp} {h : Heap} {a : Addr} {l : List Str} (R : Held P w h a l) : ObjOk P w H h a (TxH P w a l) := by
  have ⟨D, ho, T⟩ := R
  exact ⟨R, ⟨_, ho⟩, fun h1 h2 ⟨D, e, T⟩ k => ⟨D, k _ e, T⟩⟩
theorem vals_txt : ∀ {ks : List Str} {its : List Value}, Vals (ks.map V.str) its → its.length = ks.length ∧ ∀ (i : Nat) (v : Value), its[i]? = some v → ∃ k t, ks[i]? = some k ∧ v = .str k t
  | [], _, h => by cases h; exact ⟨rfl, fun i v z => by simp at z⟩
  | k :: ks, _, h => by
    cases h with
    | cons r t =>
      obtain ⟨e1, e2⟩ := vals_txt t
      refine ⟨by rw [List.length_cons, List.length_cons, e1], fun i v z => ?_⟩
      cases i with
      | zero =>
        obtain ⟨t, rfl⟩ := r
        cases z
        exact ⟨k, t, rfl, rfl⟩
      | succ i => exact e2 i v z
def rSetT (P : Program) (w : World) (K : PySem.W.Frag) : List V → Hp → VK → Prop := fun vs H Q => ∃ (a : Addr) (ks : List Str), vs = [V.ref a] ∧ SqL K H a (ks.map V.str) ∧ ks.length ≤ 1000 ∧ ∀ p, H p = none → Q (.ref p) (upd H p (TxH P w p (insT [] ks)))
def rSortT (P : Program) (w : World) : List V → Hp → VK → Prop := fun vs H Q => ∃ (a : Addr) (l ds : List Str), vs = [V.ref a] ∧ H a = some (TxH P w a l) ∧ l.length ≤ 1000 ∧ (∀ m : List Str, m.Perm l → srt (m.map .str) = ds.map .str) ∧ ∀ p, H p = none → Q (.ref p) (upd H p (.lst (ds.map V.str)))
theorem reads_txt {h : Heap} {ks : List Str} : ∀ {vs : List Value}, PySem.W.EachIs (fun v k => ∃ t, v = Value.str k t) vs ks → ∀ {a : Addr}, PySem.W.EachIs (fun v k => ∃ as, Reads h v (.str k) as ∧ a ∉ as) vs ks := by
  intro vs e a
  exact e.mono fun v k ⟨t, z⟩ => ⟨[], by rw [z]; exact .str _ _, by simp⟩
theorem each_txt {vs : List Value} (h : ∀ v ∈ vs, ∃ k t, v = Value.str k t) : ∃ ks : List Str, PySem.W.EachIs (fun v k => ∃ t, v = Value.str k t) vs ks := by
  induction vs with
  | nil => exact ⟨[], .nil⟩
  | cons v vs ih =>
    obtain ⟨k, t, e⟩ := h v List.mem_cons_self
    obtain ⟨ks, q⟩ := ih fun u hu => h u (List.mem_cons_of_mem _ hu)
    exact ⟨k :: ks, .cons ⟨t, e⟩ q⟩
theorem each_mem_txt {vs : List Value} {ks : List Str} (e : PySem.W.EachIs (fun v k => ∃ t, v = Value.str k t) vs ks) : ∀ k, k ∈ ks ↔ ∃ v ∈ vs, ∃ t, v = Value.str k t := by
  induction e with
  | nil => simp
  | cons q _ ih =>
    obtain ⟨t, rfl⟩ := q
    intro k
    rw [List.mem_cons, ih k]
    constructor
    · rintro (rfl | ⟨v, hv, z⟩)
      · exact ⟨_, List.mem_cons_self, t, rfl⟩
      · exact ⟨v, List.mem_cons_of_mem _ hv, z⟩
    · rintro ⟨v, hv, t', z⟩
      obtain rfl | hv := List.mem_cons.mp hv
      · cases z
        exact .inl rfl
      · exact .inr ⟨v, hv, t', z⟩
theorem vals_of_txt : ∀ {vs : List Value} {ks : List Str}, PySem.W.EachIs (fun v k => ∃ t, v = Value.str k t) vs ks → Vals (ks.map V.str) vs
  | _, _, .nil => .nil
  | _, _, .cons q r => .cons q (vals_of_txt r)
theorem each_len {α β : Type} {R : α → β → Prop} {vs : List α} {ks : List β} (e : PySem.W.EachIs R vs ks) : vs.length = ks.length := e.length
theorem nd_perm {α : Type} [DecidableEq α] {xs ys : List α} (h1 : ∀ x, x ∈ ys → x ∈ xs) (nd : ys.Nodup) (hl : xs.length = ys.length) : xs.Perm ys := by
  induction ys generalizing xs with
  | nil =>
    cases xs with
    | nil => exact .nil
    | cons x xs => cases hl
  | cons y ys ih =>
    rcases List.nodup_cons.mp nd with ⟨n1, n2⟩
    have hy := h1 y List.mem_cons_self
    have p := List.perm_cons_erase hy
    refine p.trans (.cons y (ih (fun x hx => ?_) n2 ?_))
    · exact (List.mem_erase_of_ne (fun e : x = y => n1 (e ▸ hx))).mpr (h1 x (List.mem_cons_of_mem _ hx))
    · rw [List.length_erase_of_mem hy, hl, List.length_cons, Nat.add_sub_cancel]
theorem aa_txt (xs : List Str) : PySem.W.AllAlike (xs.map fun k : Str => PyData.str k) := fun d hd d' hd' => by
  obtain ⟨x, _, rfl⟩ := List.mem_map.mp hd
  obtain ⟨y, _, rfl⟩ := List.mem_map.mp hd'
  rfl
theorem so_txt (xs : List Str) : PySem.W.Sortable (xs.map fun k : Str => PyData.str k) := .inr fun d hd => by
  obtain ⟨x, _, e⟩ := List.mem_map.mp hd
  rw [← e]
  exact ⟨fun z => (nomatch z), fun _ z => (nomatch z)⟩
section
variable {X : Cx}
theorem cr_setT (hc : X.calm = true) : CallR X (.type "set") (rSetT X.prog X.w X.K) := by
  intro pins s σ H vs us Q; intro I r h
  obtain ⟨a, ks, rfl, hs, hk, q⟩ := h
  rcases I.list hs with ⟨its, rv, hl, hz⟩
  rw [Vals.ref1 r]
  obtain ⟨e1, e2⟩ := vals_txt rv
  refine call_set_txt ks (I.ok.hd hc) hl.isList (fun i v z => e2 i v (by rw [← z, Array.getElem?_toList])) (by simpa using e1) (by unfold scanBound; omega) fun h' tk hold old => ?_
  exact ⟨.ref _, upd H s.heap.objs.size (TxH X.prog X.w s.heap.objs.size (insT [] ks)), I.laid (t' := tk) old (Nat.le_refl _) (txH_new hold), rfl, q _ (I.hok.fresh (Nat.le_refl _))⟩
theorem cr_sortT (hc : X.calm = true) (hu : X.A.units + 64 < cLine) : CallR X (.builtin "sorted") (rSortT X.prog X.w) := by
  intro pins s σ H vs us Q; intro I r h
  obtain ⟨a, l, ds, rfl, ha, hl, hq, q⟩ := h
  rw [Vals.ref1 r]
  obtain ⟨D, ho, T⟩ := (I.hok a _ ha).1
  have hsz : D.1.size < scanBound := by rw [T.ok.sz]; unfold scanBound; omega
  refine Calls.call_function_entry PyProof.Rows.kind_sorted PyProof.Rows.plain_sorted PyProof.Rows.entry_sorted (PyProof.Rows.args_sorted1 _) ?_; unfold Builtin.«sorted»
  refine wpAny_bind (m := checkCount "sorted" 1 1 _) (wpAny_pure (wpAny_bind (collect_set (A := X.A.in1) (I.ok.hd hc) ⟨_, ho, rfl, rfl⟩ T.ok.fit hsz T.ris T.led fun s1 vs k1 z1 g1 o1 pm => ?_)))
  have shape : ∀ v ∈ vs, ∃ k t, v = Value.str k t := fun v hv => by
    obtain ⟨e, he, rfl⟩ := List.mem_map.mp (pm.mem_iff.mp hv)
    obtain ⟨⟨k, z, _⟩, _⟩ := T.ok.el e he
    have z' : Value.isStrOf k e.2 = true := z
    cases hv : e.2 with
    | str k' t => exact ⟨k', t, rfl⟩
    | _ => rw [hv] at z'; cases z'
  obtain ⟨ks, ev⟩ := each_txt shape
  have hvl : vs.length = l.length := by rw [pm.length_eq, List.length_map, Array.length_toList]; exact T.ok.sz
  have pk : ks.Perm l := by
    refine nd_perm (fun x hx => ?_) T.nd (by rw [← each_len ev]; exact hvl)
    obtain ⟨e, he, z⟩ := (T.ok.mem x).mp hx
    refine (each_mem_txt ev x).mpr ⟨e.2, pm.mem_iff.mpr (List.mem_map.mpr ⟨e, he, rfl⟩), ?_⟩
    have z' : Value.isStrOf x e.2 = true := z
    cases hv : e.2 with
    | str k' t =>
      rw [hv] at z'
      have : k' = x := by simpa [Value.isStrOf] using z'
      exact ⟨t, by rw [this]⟩
    | _ => rw [hv] at z'; cases z'
  refine wpAny_bind (wpAny_newList ?_ (by rw [hvl]; exact Nat.le_trans hl (by decide)))
  have hoL : (s1.heap.push (PyProof.Rows.seqObj "list" vs.toArray 0)).get? s1.heap.objs.size = some (PyProof.Rows.seqObj "list" vs.toArray 0) := Heap.get?_push_size _ rfl
  have hdl : ks.length ≤ 1000 := by rw [pk.length_eq]; exact hl
  refine wpAny_bind (wpAny_holding (PySem.W.list_sort_data (R := fun v k => ∃ t, v = Value.str k t) (enc := fun k : Str => .str k) (bs := ks) hoL ev (reads_txt ev) (aa_txt ks) (so_txt ks) (Nat.le_trans hdl (by decide)) (fun b _ => ?_) fun out n1 n2 => ?_))
  · show X.A.in1.units + 1 + 0 < cLine
    have : X.A.in1.units ≤ X.A.units + 1 := by simp
    omega
  · obtain ⟨ep, eh⟩ := PyProof.Rows.sortedHeap_at (out := List.toArray out) hoL
    have es : ks.mergeSort (PySem.W.dataLe false fun k : Str => .str k) = ds := by
      have z := hq ks pk
      unfold srt at z
      have m := PySem.W.sort_maps (r := PySem.W.dataLe false fun k : Str => .str k) (s := PySem.W.dataLe false fun d => d) (fun k : Str => PyData.str k) (l := ks) (fun _ _ _ _ => rfl)
      rw [← m] at z
      exact (List.map_inj_right fun _ _ e => PyData.str.inj e).mp z
    rw [es] at n2
    have vl : Vals (ds.map V.str) out := vals_of_txt n2
    have old : ∀ b u, s.heap.get? b = some u → (PyProof.Rows.sortedHeap (s1.heap.push (PyProof.Rows.seqObj "list" vs.toArray 0)) s1.heap.objs.size vs (List.toArray out)).get? b = some u := fun b u e => by
      have e1 := k1 b u e
      have lt := Heap.lt_size e1
      rw [PyProof.Rows.sortedHeap_old (Nat.ne_of_lt lt) (by rw [Heap.size_push]; exact Nat.lt_succ_of_lt lt)]
      exact Heap.get?_push_of_some _ e1
    have hdl2 : ds.length = ks.length := by rw [← es, List.length_mergeSort]
    have new : ∀ Hx, ObjOk X.prog X.w Hx (PyProof.Rows.sortedHeap (s1.heap.push (PyProof.Rows.seqObj "list" vs.toArray 0)) s1.heap.objs.size vs (List.toArray out)) s1.heap.objs.size (.lst (ds.map V.str)) := fun Hx => ⟨by rw [List.length_map, hdl2]; exact Nat.le_trans hdl (by decide), out, ep, vl, eh⟩
    refine wpAny_pure ⟨_, rfl, .ref _, upd H s1.heap.objs.size (.lst (ds.map V.str)), I.call' (ch := []) o1 (Un.laid old z1 (I.hok.fresh z1)) (I.hok.laid old z1 (new _)) (by have z := I.bare; rw [← g1] at z; exact z) (fun _ z => nomatch z), rfl, q _ (I.hok.fresh z1)⟩
variable {ρ : List Sl} {e : Expr} {p p2 pos pos2 : Pos}
def RTx (P : Program) (w : World) (l : List Str) : RK := fun F H F' H' v => ∃ a, v = .ref a ∧ F' a = none ∧ H a = none ∧ H' a = some (TxH P w a l)
/-- sorted(set(texts)) -/
theorem setsrt {ks ds : List Str} (hu : X.A.units + 64 < cLine) (hg : Gl X "sorted") (hm : X.mg "sorted" = none) (hv : bootBuiltins "sorted" = some (.builtin "sorted")) (hg2 : Gl X "set") (hm2 : X.mg "set" = none) (hv2 : bootBuiltins "set" = some (.type "set")) (ha : PE X e (tS X.K ρ (ks.map .str)))
    (hz : ks.length ≤ 1000) (hq : ∀ m : List Str, m.Perm (insT [] ks) → srt (m.map .str) = ds.map .str) (hc : X.calm = true := by rfl) (he : starEach [e] X.env = (false, eval e X.env) :: starEach [] X.env := by rfl)
    (he2 : starEach [.Call (.Name "set" p2) [e] [] pos2] X.env = (false, eval (.Call (.Name "set" p2) [e] [] pos2) X.env) :: starEach [] X.env := by rfl) :
    PE X (.Call (.Name "sorted" p) [.Call (.Name "set" p2) [e] [] pos2] [] pos) (tN X.K ρ (ds.map .str)) := by
  have hl := insT_len ks []
  rw [List.length_nil] at hl
  have hdl : ds.length ≤ 1000 := by
    have z := congrArg List.length (hq _ (.refl _))
    rw [srt_length, List.length_map, List.length_map] at z
    omega
  have inner : PE X (.Call (.Name "set" p2) [e] [] pos2) (tR X.K ρ (RTx X.prog X.w (insT [] ks))) :=
    callT1 (cr_setT hc) (he := he) hg2 hm2 hv2 ha fun F H F1 H1 x Q l e1 ⟨a, xs, ev, sq, dp⟩ k => ⟨a, ks, by rw [ev], by rw [dpAll_strs dp] at sq; exact sq, hz, fun t n => k F1 _ _ (e1.trans (.newH e1.fh n)) ⟨t, rfl, e1.fh.dom t n, e1.hh.free n, upd_same⟩⟩
  exact call1 (cr_sortT hc hu) (he := he2) hg hm hv inner fun F H F1 H1 x Q l e1 ⟨a, ev, nF, nH, eH⟩ k => ⟨a, insT [] ks, ds, by rw [ev], eH, by omega, hq, fun t n => by
    refine k F1 _ _ (e1.trans (.newH e1.fh n)) ⟨t, _, rfl, e1.fh.dom t n, e1.hh.free n, upd_same, ?_, strs_dp ds⟩
    rw [List.length_map]
    exact Nat.le_trans hdl (by decide)⟩
end
end KL
/-! DLo: the lesser and the greater of two texts. -/
namespace KL
open PySem PySem.Spec L2
def twoT (a b : Str) (i : Nat) : Str := if i = 0 then a else b
def minT (a b : Str) : Str := if b.cps.toList < a.cps.toList then b else a
def maxT (a b : Str) : Str := if a.cps.toList < b.cps.toList then b else a
section
variable {P : Program} {w : World} {A : Around} {E : Value → Shared → Prop} {s : Shared} {a b : Str} {t u : Tok}
theorem two_at {i : Nat} {v : Value} (h : (#[Value.str a t, .str b u] : Array Value)[i]? = some v) : ∃ k, v = .str (twoT a b i) k := by
  match i with
  | 0 => exact ⟨t, by simpa [twoT] using h.symm⟩
  | 1 => exact ⟨u, by simpa [twoT] using h.symm⟩
  | i + 2 => simp at h
theorem gt_txt {x y : Str} {t u : Tok} {Q : Value → Shared → Prop} (h : Q (.bool (decide (y.cps.toList < x.cps.toList))) s) : wpAny (model P w) A (richCompare .Gt (.str x t) (.str y u)) Q E s :=
  richCompare_gives (op := .Gt) (typeIs_str s x t) (typeIs_str s y u) F.slot_str_gt F.entry_str_gt (F.args_str_gt_2 _ _) (gives_str_gt x y t u) (fun e => nomatch e) h
theorem two_max {Q : Value → Shared → Prop} (hh : A.handled = none) (h : ∀ h' tk k, (∀ c o, s.heap.get? c = some o → h'.get? c = some o) → Q (.str (maxT a b) k) { s with heap := h', toks := tk }) :
    wpAny (model P w) A (call (.builtin "max") [.str a t, .str b u]) Q E s := by
  have tp : (s.heap.push { cls := .type "tuple", data := .seq #[.str a t, .str b u] }).IsTuple s.heap.objs.size #[.str a t, .str b u] := ⟨_, Heap.get?_push_size _ rfl, rfl, 0, rfl⟩
  have sz : (s.heap.push { cls := .type "tuple", data := .seq #[.str a t, .str b u] }).objs.size = s.heap.objs.size + 1 := Heap.size_push ..
  refine call_max_two (wpAny_pyIter_tuple tp ⟨_, [_, s.heap.objs.size], [_], _, _, _, fun i j => decide ((twoT a b j).cps.toList < (twoT a b i).cps.toList), rfl, Walks.tuple (A := A.in1) hh _ s.heap.objs.size (by rw [sz]; exact Nat.ne_of_lt (Nat.lt_succ_self _)) #[.str a t, .str b u],
    ⟨⟨_, Heap.get?_push_size _ rfl, rfl, rfl⟩, tp.push _⟩, fun c hc => ?_, by simp, fun i j vi vj s Q E hi hj q => ?_, fun v h' tk hP hk => ?_⟩)
  · show c < ((s.heap.push _).push _).objs.size; rw [Heap.size_push, sz]
    obtain e | hc := List.mem_cons.mp hc
    · rw [e, sz]; exact Nat.lt_succ_self _
    · rw [List.mem_singleton.mp hc]; exact Nat.lt_succ_of_lt (Nat.lt_succ_self _)
  · obtain ⟨k, rfl⟩ := two_at hi
    obtain ⟨m, rfl⟩ := two_at hj
    exact gt_txt q
  · obtain ⟨k, e⟩ := two_at hP
    have e2 : twoT a b (argBest (fun i j => decide ((twoT a b j).cps.toList < (twoT a b i).cps.toList)) 1) = maxT a b := by
      show twoT a b (if decide (a.cps.toList < b.cps.toList) = true then 1 else 0) = maxT a b
      unfold maxT
      by_cases z : a.cps.toList < b.cps.toList
      · rw [if_pos z, if_pos (decide_eq_true z)]; rfl
      · rw [if_neg z, if_neg (fun y => z (of_decide_eq_true y))]; rfl
    rw [e, show (#[Value.str a t, .str b u] : Array Value).size - 1 = 1 from rfl, e2]
    refine h h' tk k fun c o e => hk c o (fun hm => ?_) (Heap.get?_push_of_some _ (Heap.get?_push_of_some _ e))
    have lt := Heap.lt_size e
    rw [List.mem_singleton.mp hm, sz] at lt
    exact Nat.lt_irrefl _ (Nat.lt_of_succ_lt lt)
theorem two_min {Q : Value → Shared → Prop} (hh : A.handled = none) (h : ∀ h' tk k, (∀ c o, s.heap.get? c = some o → h'.get? c = some o) → Q (.str (minT a b) k) { s with heap := h', toks := tk }) :
    wpAny (model P w) A (call (.builtin "min") [.str a t, .str b u]) Q E s := by
  have tp : (s.heap.push { cls := .type "tuple", data := .seq #[.str a t, .str b u] }).IsTuple s.heap.objs.size #[.str a t, .str b u] := ⟨_, Heap.get?_push_size _ rfl, rfl, 0, rfl⟩
  have sz : (s.heap.push { cls := .type "tuple", data := .seq #[.str a t, .str b u] }).objs.size = s.heap.objs.size + 1 := Heap.size_push ..
  refine call_min_two (wpAny_pyIter_tuple tp ⟨_, [_, s.heap.objs.size], [_], _, _, _, fun i j => decide ((twoT a b i).cps.toList < (twoT a b j).cps.toList), rfl, Walks.tuple (A := A.in1) hh _ s.heap.objs.size (by rw [sz]; exact Nat.ne_of_lt (Nat.lt_succ_self _)) #[.str a t, .str b u],
    ⟨⟨_, Heap.get?_push_size _ rfl, rfl, rfl⟩, tp.push _⟩, fun c hc => ?_, by simp, fun i j vi vj s Q E hi hj q => ?_, fun v h' tk hP hk => ?_⟩)
  · show c < ((s.heap.push _).push _).objs.size; rw [Heap.size_push, sz]
    obtain e | hc := List.mem_cons.mp hc
    · rw [e, sz]; exact Nat.lt_succ_self _
    · rw [List.mem_singleton.mp hc]; exact Nat.lt_succ_of_lt (Nat.lt_succ_self _)
  · obtain ⟨k, rfl⟩ := two_at hi
    obtain ⟨m, rfl⟩ := two_at hj
    exact (PyProof.Rows.lt_str q : wpAny (model P w) _ (compareOp .Lt _ _) Q E s)
  · obtain ⟨k, e⟩ := two_at hP
    have e2 : twoT a b (argBest (fun i j => decide ((twoT a b i).cps.toList < (twoT a b j).cps.toList)) 1) = minT a b := by
      show twoT a b (if decide (b.cps.toList < a.cps.toList) = true then 1 else 0) = minT a b
      unfold minT
      by_cases z : b.cps.toList < a.cps.toList
      · rw [if_pos z, if_pos (decide_eq_true z)]; rfl
      · rw [if_neg z, if_neg (fun y => z (of_decide_eq_true y))]; rfl
    rw [e, show (#[Value.str a t, .str b u] : Array Value).size - 1 = 1 from rfl, e2]
    refine h h' tk k fun c o e => hk c o (fun hm => ?_) (Heap.get?_push_of_some _ (Heap.get?_push_of_some _ e))
    have lt := Heap.lt_size e
    rw [List.mem_singleton.mp hm, sz] at lt
    exact Nat.lt_irrefl _ (Nat.lt_of_succ_lt lt)
end
section
variable {X : Cx}
def rTwo (g : Str → Str → Str) : List V → Hp → VK → Prop := fun vs H Q => ∃ i j, vs = [.str i, .str j] ∧ Q (.str (g i j)) H
theorem cr_maxT (hc : X.calm = true) : CallR X (.builtin "max") (rTwo maxT) := by
  intro pins s σ H xs us Q; intro I r h
  obtain ⟨i, j, rfl, q⟩ := h
  rcases vals2 r with ⟨u, w', rfl, ⟨t, rfl⟩, ⟨t', rfl⟩⟩
  exact two_max (I.ok.hd hc) fun h' tk k old => ⟨.str (maxT i j), H, I.kept old, ⟨k, rfl⟩, q⟩
theorem cr_minT (hc : X.calm = true) : CallR X (.builtin "min") (rTwo minT) := by
  intro pins s σ H xs us Q; intro I r h
  obtain ⟨i, j, rfl, q⟩ := h
  rcases vals2 r with ⟨u, w', rfl, ⟨t, rfl⟩, ⟨t', rfl⟩⟩
  exact two_min (I.ok.hd hc) fun h' tk k old => ⟨.str (minT i j), H, I.kept old, ⟨k, rfl⟩, q⟩
variable {ρ : List Sl} {a b : Expr} {p pos : Pos} {x y : Str}
theorem call2T {g : Str → Str → Str} {nm : Str} {id : String} (hr : CallR X (.builtin id) (rTwo g)) (hg : Gl X nm) (hm : X.mg nm = none) (hv : bootBuiltins nm = some (.builtin id)) (ha : PE X a (tD X.K ρ (.d (.str x)))) (hb : PE X b (tD X.K ρ (.d (.str y))))
    (hn : nm ≠ "__name__" := by decide) (hdb : (nm == ("__debug__" : Str)) = false := by decide) (he : starEach [a, b] X.env = (false, eval a X.env) :: starEach [b] X.env := by rfl) (he2 : starEach [b] X.env = (false, eval b X.env) :: starEach [] X.env := by rfl)
    (hpl : (backTo pos (starEach [b] X.env)).any (·.1) = false := by rfl) : PE X (.Call (.Name nm p) [a, b] [] pos) (tD X.K ρ (.d (.str (g x y)))) :=
  (pe_callB hr hg hm hv (ac ha (ac hb an he2) he) hn hdb he hpl).imp fun σ H Q ⟨F, A, l, rp, k⟩ => ⟨F, A, l, rp, fun F1 H1 vs e1 q1 => by
    cases q1 with
    | cons h1 t1 =>
      cases t1 with
      | cons h2 t2 =>
        cases t2
        cases (show Dp X.K F1 _ (.str x) from h1)
        cases (show Dp X.K F1 _ (.str y) from h2)
        exact ⟨x, y, rfl, k F1 H1 _ e1 (Dp.str _)⟩⟩
end
end KL
/-! DLp: isinstance; a chain of two comparisons. -/
namespace KL
open PySem PySem.Spec L2
def tyD : PyData → Option String
  | .none => some "NoneType"
  | .bool _ => some "bool"
  | .int _ => some "int"
  | .str _ => some "str"
  | .list _ => some "list"
  | .tuple _ => some "tuple"
  | _ => none
theorem tyX_of {K : PySem.W.Frag} {H : Hp} {v : V} {d : PyData} (h : Dp K H v d) {T : String} (e : tyD d = some T) : TyX K H v (.type T) := by
  cases h with
  | non => cases e; exact .base .non
  | bl b => cases e; exact .base (.bl b)
  | int i => cases e; exact .base (.int i)
  | str x => cases e; exact .base (.str x)
  | lst s dp =>
    cases e
    rcases s with (s | ⟨o, s⟩) | ⟨o, its, n, h1, h2, _⟩
    · exact .base (.lst s)
    · exact .base (.frz s)
    · exact .kList h1 h2
  | tup s dp =>
    cases e
    rcases s with (s | ⟨o, s⟩) | ⟨o, its, n, h1, h2, _⟩
    · exact .base (.tup s)
    · exact .fTuple s
    · exact .kTuple h1 h2
section
variable {X : Cx} {ρ : List Sl} {e a b c : Expr} {p p2 pos : Pos} {d : PyData}
theorem disi {T : Str} {Tx Td : String} {k : Bool} (hg : Gl X "isinstance") (hm : X.mg "isinstance" = none) (ha : PE X e (tX X.K ρ d)) (hg2 : Gl X T) (hm2 : X.mg T = none) (hv2 : bootBuiltins T = some (.type Tx)) (ht : tyD d = some Td) (hk : kitB Td Tx = some k)
    (hn : T ≠ "__name__" := by decide) (hdb : (T == ("__debug__" : Str)) = false := by decide) (he : starEach [e, .Name T p2] X.env = (false, eval e X.env) :: starEach [.Name T p2] X.env := by rfl) (he2 : starEach [.Name T p2] X.env = (false, eval (.Name T p2) X.env) :: starEach [] X.env := by rfl)
    (hpl : (backTo pos (starEach [.Name T p2] X.env)).any (·.1) = false := by rfl) : PE X (.Call (.Name "isinstance" p) [e, .Name T p2] [] pos) (tD X.K ρ (.d (.bool k))) :=
  (pe_callB call_isi hg hm PyProof.Rows.boot_isinstance (pa_cons ha (pa_cons (pe_bltn hg2 hm2 hv2 (v := .ty Tx) rfl hn hdb) pa_nil he2) he) (by decide) (by decide) he hpl).imp fun σ H Q ⟨F, A, l, rp, q⟩ => ⟨F, A, l, rp, fun F1 H1 v e1 q1 =>
    ⟨v, .ty Tx, .type Td, .type Tx, k, rfl, .ty Tx, tyX_of q1 ht, kit_ty hk, q F1 H1 _ e1 (Dp.bl k)⟩⟩
/-- i ≤ j ≤ k -/
theorem c_le2 {i j k : Int} (ha : PE X a (tD X.K ρ (.d (.int i)))) (hb : PE X b (tD X.K ρ (.d (.int j)))) (hc : PE X c (tD X.K ρ (.d (.int k)))) (h1 : i ≤ j) (hm : lastMarks [.LtE, .LtE] [b, c] = false := by with_unfolding_all rfl) :
    PE X (.Compare a [.LtE, .LtE] [b, c] pos) (tD X.K ρ (.d (.bool (decide (j ≤ k))))) :=
  (pe_chain op_le op_le ha hb hc hm).imp fun σ H Q ⟨F, A, l, rp, q⟩ => ⟨F, A, l, rp, fun F1 H1 v e1 q1 => ⟨F1, A, e1.fh, rp.mono e1, fun F2 H2 u e2 q2 => by
    cases (show Dp X.K F1 v (.int i) from q1)
    cases (show Dp X.K F2 u (.int j) from q2)
    refine ⟨i, j, rfl, rfl, true, congrArg V.bl (decide_eq_true h1), ?_⟩
    rw [if_pos rfl]
    refine ⟨F2, A, e2.fh, (rp.mono e1).mono e2, fun F3 H3 z e3 q3 => ?_⟩
    cases (show Dp X.K F3 z (.int k) from q3)
    exact ⟨j, k, rfl, rfl, q F3 H3 _ ((e1.trans e2).trans e3) (Dp.bl _)⟩⟩⟩
end
end KL
/-! DLq: y = [.. for k in a dict if ..] on one line; FnOk at a higher level. -/
namespace KL
open PySem PySem.Spec L2
section
variable {X : Cx} {ρ : List Sl} {tg iter elt : Expr} {ifs : List Expr} {scope : Scope} {own : List (Str × Nat)} {pos : Pos}
theorem w_lcK {te : TE} {kvs : List (Key × PyData)} {ρ' : Key × PyData → List Sl} {pr : Key × PyData → Bool} {f : Key × PyData → PyData} (i : Nat) {y : Str} {py spos : Pos} (hsrc : PE X iter te) (src : Src X.K ρ te kvs) (me : MonoE te) (ok : BlkOk X.N X.env.scope scope own)
    (hg : ∀ x ∈ kvs, ∀ (s : Shared) (H : Hp) (C : Addr) (cl : List (Str × Addr)) (fp : List Addr), PG (X.blk s H scope (compEnvC scope cl C X.env) fp) tg (tG X.K (wipeR ρ (own.map (·.2))) (keyD x.1) (ρ' x) (own.map (·.2))))
    (ht : ∀ x ∈ kvs, ∀ (s : Shared) (H : Hp) (C : Addr) (cl : List (Str × Addr)) (fp : List Addr), PTs (X.blk s H scope (compEnvC scope cl C X.env) fp) ifs (tT X.K (ρ' x) (pr x)))
    (he : ∀ x ∈ kvs, pr x = true → ∀ (s : Shared) (H : Hp) (C : Addr) (cl : List (Str × Addr)) (fp : List Addr), PE (X.blk s H scope (compEnvC scope cl C X.env) fp) elt (tD X.K (ρ' x) (.d (f x))))
    (hz : kvs.length ≤ sizeLine) (hc : X.calm = true := by rfl) (hN : X.N.Nodup := by decide) (hs : ∀ x, foldedSetIterable iter X.env x = pure x := by intro _; rfl) (hy : X.N[i]? = some y := by rfl) (hyl : X.env.scope.names.lookup y = some .local := by rfl)
    (hsw : swapsWith (.ListComp elt [⟨tg, iter, ifs, 0⟩] scope pos) (some (.Name y py)) spos.line X.env = pure true := by first | rfl | exact sw_true rfl rfl rfl (by decide +kernel)) :
    PS X (.Assign [.Name y py] (.ListComp elt [⟨tg, iter, ifs, 0⟩] scope pos) spos) (tW X.K ρ (.nx (ρ.set i (.ow ((kvs.filter pr).map f))))) := by
  have base := lcoreSet (i := i) (py := py) (spos := spos) (pos := pos) (enc := fun x : Key × PyData => keyD x.1) (pi_keys (tg := tg) hsrc) ok hg ht he hz hc hN hs (mono_keys me) hy hyl hsw
  refine ((ps_lock base).or base).imp fun D σ H h => ?_
  obtain ⟨F, A, l, rp, k⟩ := asg_ow h
  obtain ⟨d, vs, r, kd, go⟩ := src σ F H A l rp
  have dF : F d ≠ none := by rcases r with r | ⟨b, r⟩ <;> rw [r] <;> simp
  rcases l.rd d (.dK vs) trivial r with eH | ⟨o, eH⟩
  · left
    refine ⟨d, _, eH, trivial, fun od => ?_⟩
    have l1 := lock_le (u := .dK vs) (od := od) l eH trivial
    obtain ⟨rp1, nd⟩ := rep_lock (o := .frz od (.dK vs)) rp r
    refine go _ _ l1 rp1 ⟨d, od, rfl, .inl ⟨vs, upd_same, F, A, l1, rp1, walks_keys upd_same (by simp) kd, fun F' H' v ex ⟨p, xs, ev, nF, nH, e3, z⟩ => ?_⟩⟩
    obtain ⟨ex2, ed⟩ := unlock_ext (u := .dK vs) ex l eH trivial
    have hpd : p ≠ d := fun z => by rw [z, upd_same] at nH; cases nH
    refine ⟨ed, k F' _ v ex2 ⟨p, xs, ev, nF, by rw [upd_ne hpd] at nH; exact nH, by rw [upd_ne hpd]; exact e3, z⟩⟩
  · right
    exact go _ _ l rp ⟨d, o, rfl, .inl ⟨vs, eH, F, A, l, rp, walks_keys eH (by simp) kd, k⟩⟩
end
end KL
/-! DLr: what is known only within a set of data. -/
namespace KL
open PySem PySem.Spec L2
/-- the value is one of S -/
def RE (K : PySem.W.Frag) (S : D → Prop) : RK := fun _ _ F' _ v => ∃ d, S d ∧ Is K F' v d
abbrev tE (K : PySem.W.Frag) (ρ : List Sl) (S : D → Prop) : TE := tR K ρ (RE K S)
def tAE (K : PySem.W.Frag) (ρ : List Sl) (S : List D → Prop) : TA := fun σ H Q => ∃ F A, Le F H ∧ Rep K F H ρ σ A ∧ ∀ F' H' vs ds, S ds → Ext F H F' H' → IsAll K F' vs ds → Q vs H'
/-- a test, whatever its answer -/
def tTE (K : PySem.W.Frag) (ρ : List Sl) : TT := fun σ H Q => ∃ F A, Le F H ∧ Rep K F H ρ σ A ∧ ∀ b F' H', Ext F H F' H' → Q b H'
def tOE (K : PySem.W.Frag) (ρ : List Sl) (S : Option Int → Prop) : TO := fun σ H Q => ∃ F A, Le F H ∧ Rep K F H ρ σ A ∧ ∀ i F' H', S i → Ext F H F' H' → Q i H'
section
variable {X : Cx} {ρ : List Sl} {a b c e iter tg elt : Expr} {es : List Expr} {pos p : Pos} {S S1 S2 S3 : D → Prop} {T : List D → Prop} {d : D} {R : RK}
theorem bk_e {K : PySem.W.Frag} {S : D → Prop} : Bk (RE K S) := fun _ _ _ _ _ _ _ _ h => h
theorem toE (h : PE X e (tD X.K ρ d)) (q : S d) : PE X e (tE X.K ρ S) := tR.conv h fun F H F' H' v l ex r => ⟨F', ex, d, q, r⟩
theorem nE {ds : List PyData} (h : PE X e (tN X.K ρ ds)) (q : S (.d (.list ds))) : PE X e (tE X.K ρ S) := toE (n2d h) q
theorem _root_.L2.PE.subE (h : PE X e (tE X.K ρ S1)) (q : ∀ d, S1 d → S d) : PE X e (tE X.K ρ S) := tR.conv h fun F H F' H' v l ex ⟨d, s, r⟩ => ⟨F', ex, d, q d s, r⟩
theorem anE : PA X [] (tAE X.K ρ fun l => l = []) := pa_nil.imp fun σ H Q ⟨F, A, l, rp, k⟩ => k F H [] [] rfl (.refl l) .nil
theorem acE (ha : PE X e (tE X.K ρ S)) (hr : PA X es (tAE X.K ρ T)) (hs : starEach (e :: es) X.env = (false, eval e X.env) :: starEach es X.env := by rfl) : PA X (e :: es) (tAE X.K ρ fun l => ∃ d ds, l = d :: ds ∧ S d ∧ T ds) :=
  (pa_cons ha hr hs).imp fun σ H Q ⟨F, A, l, rp, k⟩ => ⟨F, A, l, rp, fun F1 H1 v e1 ⟨d, sd, is⟩ => ⟨F1, A, e1.fh, rp.mono e1, fun F2 H2 vs ds sds e2 iss => k F2 H2 _ _ ⟨d, ds, rfl, sd, sds⟩ (e1.trans e2) (.cons (e2.ff.is is) iss)⟩⟩
/-- i + j -/
theorem addE (ha : PE X a (tE X.K ρ S1)) (hb : PE X b (tE X.K ρ S2)) (h1 : ∀ d, S1 d → ∃ i : Int, d = .d (.int i)) (h2 : ∀ d, S2 d → ∃ i : Int, d = .d (.int i)) (h : ∀ i j : Int, S1 (.d (.int i)) → S2 (.d (.int j)) → S (.d (.int (i + j)))) : PE X (.BinOp a .Add b pos) (tE X.K ρ S) :=
  dop op_add ha hb fun F H F1 H1 F2 H2 x y Q l e1 ⟨d1, s1, q1⟩ e2 ⟨d2, s2, q2⟩ k => by
    obtain ⟨i, rfl⟩ := h1 d1 s1
    obtain ⟨j, rfl⟩ := h2 d2 s2
    cases (show Dp X.K F1 x (.int i) from q1)
    cases (show Dp X.K F2 y (.int j) from q2)
    exact ⟨i, j, rfl, rfl, k F2 H2 _ (e1.trans e2) ⟨_, h i j s1 s2, Dp.int _⟩⟩
theorem o_noE : PO X none (tOE X.K ρ fun i => i = none) := po_none.imp fun σ H Q ⟨F, A, l, rp, k⟩ => k none F H rfl (.refl l)
theorem o_soE (h : PE X e (tE X.K ρ S)) (h1 : ∀ d, S d → ∃ i : Int, d = .d (.int i)) : PO X (some e) (tOE X.K ρ fun o => ∃ i : Int, o = some i ∧ S (.d (.int i))) := (po_some h).imp fun σ H Q ⟨F, A, l, rp, k⟩ => ⟨F, A, l, rp, fun F1 H1 v e1 ⟨d, s, q⟩ => by
  obtain ⟨i, rfl⟩ := h1 d s
  cases (show Dp X.K F1 v (.int i) from q)
  exact ⟨i, rfl, k (some i) F1 H1 ⟨i, rfl, s⟩ e1⟩⟩
/-- a new list, one of SS -/
def RNE (K : PySem.W.Frag) (SS : List PyData → Prop) : RK := fun F H F' H' v => ∃ ds, SS ds ∧ RN K ds F H F' H' v
def RSE (K : PySem.W.Frag) (SS : List PyData → Prop) : RK := fun F H F' H' v => ∃ ds, SS ds ∧ RS K ds F H F' H' v
variable {SS SS2 : List PyData → Prop} {lo hi : Option Expr} {p2 : Pos} {L U : Option Int → Prop} {es2 : List Expr}
theorem bk_ne {K : PySem.W.Frag} {SS : List PyData → Prop} : Bk (RNE K SS) := fun F H F1 H1 F2 H2 v e ⟨ds, s, r⟩ => ⟨ds, s, bk_n F H F1 H1 F2 H2 v e r⟩
theorem ne2e (h : PE X e (tR X.K ρ (RNE X.K SS))) : PE X e (tE X.K ρ fun d => ∃ ds, SS ds ∧ d = .d (.list ds)) := tR.conv h fun F H F' H' v l ex ⟨ds, ss, p, xs, ev, nF, nH, eH, _, dp⟩ => by
  obtain ⟨l1, l2⟩ := Ext.freeze ex.fh nF eH trivial
  refine ⟨upd F' p (.lst xs), ⟨ex.ff.trans l1, l2, ex.hh, fun a h1 h2 => ?_⟩, _, ⟨ds, ss, rfl⟩, ?_⟩
  · have : a ≠ p := fun z => h2 (z ▸ nH)
    rw [upd_ne this]
    exact ex.own a h1 h2
  · rw [ev]
    exact Dp.lst (.inl (.inl upd_same)) (l1.dps dp)
theorem ne2s (h : PE X e (tR X.K ρ (RNE X.K SS))) : PE X e (tR X.K ρ (RSE X.K SS)) := tR.conv h fun F H F' H' v l ex ⟨ds, ss, p, xs, ev, nF, nH, eH, _, dp⟩ => ⟨F', ex, ds, ss, p, xs, ev, .inl (.inl eH), dp⟩
theorem s2se {ds : List PyData} (h : PE X e (tS X.K ρ ds)) (q : SS ds) : PE X e (tR X.K ρ (RSE X.K SS)) := tR.conv h fun F H F' H' v l ex r => ⟨F', ex, ds, q, r⟩
theorem e2se (h : PE X e (tE X.K ρ S)) (h1 : ∀ d, S d → ∃ ds, d = .d (.list ds)) : PE X e (tR X.K ρ (RSE X.K fun ds => S (.d (.list ds)))) := tR.conv h fun F H F' H' v l ex ⟨d, sd, r⟩ => ⟨F', ex, by
  obtain ⟨ds, rfl⟩ := h1 d sd
  have r' : Dp X.K F' v (.list ds) := r
  cases r' with
  | lst s dp => exact ⟨ds, sd, _, _, rfl, ex.fh.sqL s, dp⟩⟩
theorem slE (ha : PE X a (tR X.K ρ (RSE X.K SS))) (hl : PO X lo (tOE X.K ρ L)) (hh : PO X hi (tOE X.K ρ U)) (hz : ∀ ds, SS ds → ds.length ≤ sizeLine) : PE X (.Subscript a (.Slice lo hi none p2) pos) (tR X.K ρ (RNE X.K fun es => ∃ ds l u, SS ds ∧ L l ∧ U u ∧ es = cutD ds l u)) :=
  (pe_slice sl_list ha hl hh).imp fun σ H Q ⟨F, A, le, rp, k⟩ => ⟨F, A, le, rp, fun F1 H1 v e1 ⟨ds, sd, p, xs, ev, s, dp⟩ => ⟨F1, A, e1.fh, rp.mono e1, fun l F2 H2 hL e2 => ⟨F2, A, e2.fh, rp.mono (e1.trans e2), fun u F3 H3 hU e3 => by
    have e23 := e2.trans e3
    refine ⟨p, xs, ev, (Le.of e23.hh).sqL s, fun q n => ?_⟩
    have e13 := e1.trans e23
    refine k F3 _ _ (e13.trans (.newH e3.fh n)) ⟨_, ⟨ds, l, u, sd, hL, hU, rfl⟩, q, _, rfl, e3.fh.dom q n, e13.hh.free n, upd_same, Nat.le_trans (cutV_length _ _ _) (by rw [DpAll.len dp]; exact hz ds sd), dpAll_cut (e23.ff.dps dp) l u⟩⟩⟩⟩
theorem srtE (hu : X.A.units + 64 < cLine) (hg : Gl X "sorted") (hm : X.mg "sorted" = none) (hv : bootBuiltins "sorted" = some (.builtin "sorted")) (ha : PE X e (tR X.K ρ (RSE X.K SS))) (hq : ∀ ds, SS ds → PySem.W.AllAlike ds ∧ PySem.W.Sortable ds ∧ (∀ d ∈ ds, d.depth ≤ 20) ∧ ds.length ≤ sizeLine) (he : starEach [e] X.env = (false, eval e X.env) :: starEach [] X.env := by rfl) :
    PE X (.Call (.Name "sorted" p) [e] [] pos) (tR X.K ρ (RNE X.K fun es => ∃ ds, SS ds ∧ es = srt ds)) :=
  call1 (cr_sortD hu) (he := he) hg hm hv ha fun F H F1 H1 x Q l e1 ⟨ds, sd, q, xs, ev, s, dp⟩ k => ⟨q, xs, ds, by rw [ev], s, e1.fh.dps dp, (hq ds sd).1, (hq ds sd).2.1, (hq ds sd).2.2.1, fun bs t pm es n => by
    refine k F1 _ _ (e1.trans (.newH e1.fh n)) ⟨_, ⟨ds, sd, rfl⟩, t, _, rfl, e1.fh.dom t n, e1.hh.free n, upd_same, ?_, ?_⟩
    · have := (hq ds sd).2.2.2
      rw [List.length_map, pm.length_eq, List.length_zip, DpAll.len dp]; omega
    · rw [← es]
      exact zip_dpAll fun b m => dpAll_zip dp b (pm.mem_iff.mp m)⟩
theorem tupE (hg : Gl X "tuple") (hm : X.mg "tuple" = none) (hv : bootBuiltins "tuple" = some (.type "tuple")) (ha : PE X e (tR X.K ρ (RSE X.K SS))) (he : starEach [e] X.env = (false, eval e X.env) :: starEach [] X.env := by rfl) : PE X (.Call (.Name "tuple" p) [e] [] pos) (tE X.K ρ fun d => ∃ ds, SS ds ∧ d = .d (.tuple ds)) :=
  callT1 call_tuple_of (he := he) hg hm hv ha fun F H F1 H1 x Q l e1 ⟨ds, sd, q, xs, ev, s, dp⟩ k => ⟨q, xs, by rw [ev], .inl ⟨s, fun t n => by
    obtain ⟨e2, l2⟩ := new_fr e1 (o := .tup xs) n trivial
    exact k _ _ _ e2 ⟨_, ⟨ds, sd, rfl⟩, Dp.tup (.inl (.inl upd_same)) (l2.dps dp)⟩⟩⟩
/-- an owned list and a new one joined -/
theorem catE {ds : List PyData} (ha : PE X a (tR X.K ρ (RL X.K ds))) (hb : PE X b (tR X.K ρ (RNE X.K SS))) (hz : ∀ es, SS es → ds.length + es.length ≤ sizeLine) : PE X (.BinOp a .Add b pos) (tR X.K ρ (RNE X.K fun z => ∃ es, SS es ∧ z = ds ++ es)) :=
  dop op_cat ha hb fun F H F1 H1 F2 H2 x y Q l e1 ⟨p1, xs, ex, eH1, d1⟩ e2 ⟨es, ss, p2, ys, ey, nF, nH, eH2, lz, d2⟩ k => ⟨p1, p2, xs, ys, ex, ey, e2.hh _ _ eH1, eH2, by rw [DpAll.len d1, DpAll.len d2]; exact hz es ss, fun q n =>
    k F2 _ _ ((e1.trans e2).trans (.newH e2.fh n)) ⟨_, ⟨es, ss, rfl⟩, q, xs ++ ys, rfl, e2.fh.dom q n, (e1.trans e2).hh.free n, upd_same, by rw [List.length_append, DpAll.len d1, DpAll.len d2]; exact hz es ss, dpAll_append (e2.ff.dps d1) d2⟩⟩
/-- a == b of whole numbers, whatever the answer -/
theorem eqE (ha : PE X a (tE X.K ρ S1)) (hb : PE X b (tE X.K ρ S2)) (h1 : ∀ d, S1 d → ∃ i : Int, d = .d (.int i)) (h2 : ∀ d, S2 d → ∃ i : Int, d = .d (.int i)) (hm : behindInMarks .Eq b = false := by first | exact nobehind _ (by decide) (by decide) | rfl) : PT X (.Compare a [.Eq] [b] pos) (tTE X.K ρ) :=
  (pt_cmpR op_eq ha hb hm).imp fun σ H Q ⟨F, A, l, rp, k⟩ => ⟨F, A, l, rp, fun F1 H1 v e1 ⟨d1, s1, q1⟩ => ⟨F1, A, e1.fh, rp.mono e1, fun F2 H2 u e2 ⟨d2, s2, q2⟩ => by
    obtain ⟨i, rfl⟩ := h1 d1 s1
    obtain ⟨j, rfl⟩ := h2 d2 s2
    cases (show Dp X.K F1 v (.int i) from q1)
    cases (show Dp X.K F2 u (.int j) from q2)
    exact ⟨rfl, _, rfl, k _ F2 H2 (e1.trans e2)⟩⟩⟩
/-- a if c else b, whatever c -/
theorem ifE (hc : PT X c (tTE X.K ρ)) (ha : PE X a (tR X.K ρ R)) (hb : PE X b (tR X.K ρ R)) (hk : Bk R := by first | exact bk_e | exact bk_ne | exact bk_d) : PE X (.IfExp c a b pos) (tR X.K ρ R) :=
  (pe_ifExp hc ha hb).imp fun σ H Q ⟨F, A, l, rp, kk⟩ => ⟨F, A, l, rp, fun k F1 H1 e1 => by
    cases k with
    | true => exact iteT <| ⟨F1, A, e1.fh, rp.mono e1, fun F2 H2 v e2 q2 => kk F2 H2 v (e1.trans e2) (hk _ _ _ _ _ _ _ e1 q2)⟩
    | false => exact iteF <| ⟨F1, A, e1.fh, rp.mono e1, fun F2 H2 v e2 q2 => kk F2 H2 v (e1.trans e2) (hk _ _ _ _ _ _ _ e1 q2)⟩⟩
/-- a tuple of things, one of T -/
theorem dtupE {x1 : Nat} (h : PA X es (tAE X.K ρ T)) (h1 : ∀ l, T l → ∃ ds : List PyData, l = ds.map .d ∧ ds.length ≤ sizeLine) : PE X (.Tuple es x1 pos) (tE X.K ρ fun d => ∃ ds : List PyData, T (ds.map .d) ∧ d = .d (.tuple ds)) :=
  (pe_tup h).imp fun σ H Q ⟨F, A, l, rp, k⟩ => ⟨F, A, l, rp, fun F1 H1 vs dl tl e1 q1 => by
    obtain ⟨ds, rfl, hz⟩ := h1 dl tl
    have q2 := isAll_dp q1
    refine ⟨by rw [DpAll.len q2]; exact hz, fun p n => ?_⟩
    obtain ⟨e2, l2⟩ := new_fr e1 (o := .tup vs) n trivial
    exact k _ _ _ e2 ⟨_, ⟨ds, tl, rfl⟩, Dp.tup (.inl (.inl upd_same)) (l2.dps q2)⟩⟩
end
/-! ### statements -/
def slRE (K : PySem.W.Frag) (T : Sl → Prop) : RK := fun F H F' H' v => ∃ r, T r ∧ slR K r F H F' H' v
section
variable {X : Cx} {ρ ρ1 : List Sl} {s : Stmt} {rest body sts : List Stmt} {a b e tg iter : Expr} {pos : Pos} {O : Out} {S : D → Prop} {SS : List PyData → Prop} {TT T1 T2 : Sl → Prop} {G : List Sl → Prop} {P : D → Prop}
theorem sl_of_e (h : PE X e (tE X.K ρ S)) : PE X e (tR X.K ρ (slRE X.K fun r => ∃ d, S d ∧ r = .fr d)) := tR.conv h fun F H F' H' v l ex ⟨d, s, r⟩ => ⟨F', ex, _, ⟨d, s, rfl⟩, r⟩
theorem sl_of_ne (h : PE X e (tR X.K ρ (RNE X.K SS))) : PE X e (tR X.K ρ (slRE X.K fun r => ∃ ds, SS ds ∧ r = .ow ds)) := tR.conv h fun F H F' H' v l ex ⟨d, s, r⟩ => ⟨F', ex, _, ⟨d, s, rfl⟩, r⟩
theorem sl_of_n {ds : List PyData} (h : PE X e (tN X.K ρ ds)) : PE X e (tR X.K ρ (slRE X.K fun r => r = .ow ds)) := tR.conv h fun F H F' H' v l ex r => ⟨F', ex, _, rfl, r⟩
theorem w_consE (h1 : PS X s (tW X.K ρ (.nxs G))) (h2 : ∀ ρ1, G ρ1 → PSs X rest (tW X.K ρ1 O)) : PSs X (s :: rest) (tW X.K ρ O) :=
  (pss_cons h1 (u := fun D σ H => ∃ i : { r // G r }, tW X.K i.1 O D σ H) (.all fun i => h2 i.1 i.2)).imp fun D σ H ⟨F, A, l, rp, q⟩ => ⟨F, A, l, rp, fun ρ1 F1 H1 σ1 A1 g st r1 => ⟨⟨ρ1, g⟩, F1, A1, st.fh, r1, q.step st⟩⟩
theorem w_oneE (h1 : PS X s (tW X.K ρ (.nxs G))) : PSs X [s] (tW X.K ρ (.nxs G)) := pss_one h1
theorem w_nilE (h : G ρ) : PSs X [] (tW X.K ρ (.nxs G)) := pss_nil.imp fun D σ H ⟨F, A, l, rp, q⟩ => q ρ F H σ A h (.refl l A) rp
theorem w_subE {G2 : List Sl → Prop} (h : PSs X sts (tW X.K ρ (.nxs G))) (q : ∀ r, G r → ∃ r', Wk r r' ∧ G2 r') : PSs X sts (tW X.K ρ (.nxs G2)) := h.imp fun D σ H ⟨F, A, l, rp, k⟩ => ⟨F, A, l, rp, fun r F' H' σ' A' g st rr => by
  obtain ⟨r', w, g2⟩ := q r g
  obtain ⟨A2, r2, sub⟩ := rr.wk w
  exact k r' F' H' σ' A2 g2 (stEx_sub st sub) r2⟩
theorem nx2nxs (h : PSs X sts (tW X.K ρ (.nx ρ1))) (q : G ρ1) : PSs X sts (tW X.K ρ (.nxs G)) := h.imp fun D σ H ⟨F, A, l, rp, k⟩ => ⟨F, A, l, rp, fun F' H' σ' A' st rr => k ρ1 F' H' σ' A' q st rr⟩
theorem nxs2nx (h : PSs X sts (tW X.K ρ (.nxs G))) (q : ∀ r, G r → Wk r ρ1) : PSs X sts (tW X.K ρ (.nx ρ1)) := h.imp fun D σ H ⟨F, A, l, rp, k⟩ => ⟨F, A, l, rp, fun r F' H' σ' A' g st rr => by
  obtain ⟨A2, r2, sub⟩ := rr.wk (q r g)
  exact k F' H' σ' A2 (stEx_sub st sub) r2⟩
theorem w_setE (i : Nat) {x : Str} {pos' : Pos} (he : PE X e (tR X.K ρ (slRE X.K TT))) (hN : X.N.Nodup := by decide) (hi : X.N[i]? = some x := by rfl) (hx : Loc X.env.scope x := by first | exact Or.inl rfl | exact Or.inr rfl) (hs : swapsWith e (some (.Name x pos')) pos.line X.env = pure false := by rfl)
    (hf : X.fn x = true ∨ X.env.scope.names.lookup x = some .local := by first | exact .inl rfl | exact .inr rfl | assumption) : PS X (.Assign [.Name x pos'] e pos) (tW X.K ρ (.nxs fun r => ∃ z, TT z ∧ r = ρ.set i z)) :=
  (ps_set hN hi hx he hs hf).imp fun D σ H ⟨F, A, l, rp, q⟩ => ⟨F, A, l, rp, fun F1 H1 v e1 ⟨z, tz, sz⟩ => by
    obtain ⟨A', h1, s1⟩ := slR_put (rp.mono e1) sz (fun p _ _ _ n w => rp.rl.some_of p w n) i
    exact q _ F1 H1 _ A' ⟨z, tz, rfl⟩ (st_more e1 fun x w => (s1 x w).imp id fun w => w.1) h1⟩
theorem w_retE (he : PE X e (tE X.K ρ S)) (p : ∀ d, S d → P d) : PS X (.Return (some e) pos) (tW X.K ρ (.rt P)) :=
  (ps_ret he).imp fun D σ H ⟨F, A, l, rp, q⟩ => ⟨F, A, l, rp, fun F1 H1 v e1 ⟨d, sd, is⟩ => q F1 H1 v d A (e1.st A) (p d sd) is⟩
theorem w_parE (i j : Nat) {x y : Str} {px py pt : Pos} {kt k2 pt2} (ha : PE X a (tR X.K ρ (slRE X.K T1))) (hb : PE X b (tR X.K ρ (slRE X.K T2))) (hc : X.calm = true := by rfl) (hN : X.N.Nodup := by decide) (hi : X.N[i]? = some x := by rfl) (hj : X.N[j]? = some y := by rfl) (hij : i ≠ j := by decide)
    (hx : X.env.scope.names.lookup x = some .local := by rfl) (hy : X.env.scope.names.lookup y = some .local := by rfl) (hs1 : starEach [a, b] X.env = (false, eval a X.env) :: starEach [b] X.env := by rfl) (hs2 : starEach [b] X.env = (false, eval b X.env) :: starEach [] X.env := by rfl)
    (hw : swappedStores [.Tuple [.Name x px, .Name y py] kt pt] (.Tuple [a, b] k2 pt2) X.env = pure (some [x, y]) := by rfl)
    (hs : swapsWithSole [.Tuple [.Name x px, .Name y py] kt pt] (.Tuple [a, b] k2 pt2) pos.line X.env = pure false := by rfl) : PS X (.Assign [.Tuple [.Name x px, .Name y py] kt pt] (.Tuple [a, b] k2 pt2) pos) (tW X.K ρ (.nxs fun r => ∃ z1 z2, T1 z1 ∧ T2 z2 ∧ r = (ρ.set i z1).set j z2)) :=
  (ps_par hc hN hi hj hij hx hy (pa_cons ha (pa_cons hb pa_nil hs2) hs1) hw hs).imp fun D σ H ⟨F, A, l, rp, q⟩ => ⟨F, A, l, rp, fun F1 H1 v e1 ⟨z1, t1, q1⟩ => ⟨F1, A, e1.fh, rp.mono e1, fun F2 H2 w e2 ⟨z2, t2, q2⟩ => ⟨v, w, rfl, by
    have e3 := Ext.refl e2.fh
    have rp3 := rp.mono (e1.trans (e2.trans e3))
    obtain ⟨A1, h1, s1⟩ := slR_put rp3 (slR_keep e1 (e2.trans e3) q1) (fun p _ _ _ n z => rp.rl.some_of p z n) i
    obtain ⟨A2, h2, s2⟩ := slR_put h1 (slR_keep e2 e3 q2) (fun p _ _ _ n z => by
      rcases s1 p z with z | ⟨_, z2, ds, z3⟩
      · exact (rp.mono e1).rl.some_of p z n
      · subst z3
        obtain ⟨p', xs, e, _, _, eH, _⟩ := q1
        rw [e] at z2
        cases z2
        rw [n] at eH
        cases eH) j
    refine q _ F2 H2 _ A2 ⟨z1, z2, t1, t2, rfl⟩ (st_more (e1.trans (e2.trans e3)) fun x z => ?_) h2
    rcases s2 x z with z | ⟨z, _⟩
    · exact (s1 x z).imp id fun z => z.1
    · exact .inr (e1.hh.free z)⟩⟩⟩
/-- a target takes apart what is one of S -/
theorem w_unE {vs : List Nat} (rf : PyData → List Sl) (he : PE X e (tE X.K ρ S)) (h1 : ∀ d, S d → ∃ x, d = .d x) (hg : ∀ x, S (.d x) → PG X tg (tG X.K ρ x (rf x) vs)) (hs : swapsWithSole [tg] e pos.line X.env = pure false := by rfl) (hw : swappedStores [tg] e X.env = pure none := by rfl)
    (ha : (assignEach [tg] X.env).map (·.2) = [assign tg X.env] := by rfl) : PS X (.Assign [tg] e pos) (tW X.K ρ (.nxs fun r => ∃ x, S (.d x) ∧ r = rf x)) :=
  (ps_asg he (g := fun v σ H Q => ∃ i : { x // S (.d x) }, tG X.K ρ i.1 (rf i.1) vs v σ H Q) (.all fun i => hg i.1 i.2) hs hw ha).imp fun D σ H ⟨F, A, l, rp, q⟩ => ⟨F, A, l, rp, fun F1 H1 v e1 ⟨d, sd, is⟩ => by
    obtain ⟨x, rfl⟩ := h1 d sd
    exact ⟨⟨x, sd⟩, F1, A, e1.fh, rp.mono e1, is, fun σ' A' r' _ sub => q _ F1 H1 σ' A' ⟨x, sd, rfl⟩ (stEx_sub (e1.st A) sub) r'⟩⟩
theorem w_forE {α : Type} {xs : List α} {enc : α → PyData} {vs : List Nat} (st : Nat → List Sl → Prop) (rf : List Sl → α → List Sl) (hi : PI X tg iter (tI X.K ρ false (xs.map enc))) (h0 : st 0 ρ)
    (hg : ∀ i x r, xs[i]? = some x → st i r → PG X tg (tG X.K r (enc x) (rf r x) vs)) (hb : ∀ i x r, xs[i]? = some x → st i r → PSs X body (tW X.K (rf r x) (.nxs (st (i + 1)))))
    (hp : PassesOwn (model X.prog X.w) X.A X.env X.xe := by exact PassesOwn.never) (hc : X.calm = true := by rfl) (hs : ∀ x, foldedSetIterable iter X.env x = pure x := by intro _; rfl) :
    PS X (.For tg iter body [] pos) (tW X.K ρ (.nxs (st xs.length))) := by
  refine (ps_for (g := fun v σ H Q => ∃ j : { p : Nat × α × List Sl // xs[p.1]? = some p.2.1 ∧ st p.1 p.2.2 }, tG X.K j.1.2.2 (enc j.1.2.1) (rf j.1.2.2 j.1.2.1) vs v σ H Q) (tb := fun D σ H => ∃ j : { p : Nat × α × List Sl // xs[p.1]? = some p.2.1 ∧ st p.1 p.2.2 }, tW X.K (rf j.1.2.2 j.1.2.1) (.nxs (st (j.1.1 + 1))) D σ H)
    hp hc hi (.all fun j => hg j.1.1 j.1.2.1 j.1.2.2 j.2.1 j.2.2) (.all fun j => hb j.1.1 j.1.2.1 j.1.2.2 j.2.1 j.2.2) hs).imp fun D σ H ⟨F, A, l, rp, q⟩ => ⟨F, A, l, rp, fun F1 H1 J e1 wk => ?_⟩
  rw [if_neg Bool.false_ne_true] at wk
  have rp1 := rp.mono e1
  refine ⟨fun i m σ H => m = xs.length - i ∧ i ≤ xs.length ∧ ∃ r F A', st i r ∧ StEx F1 H1 A F H A' ∧ Rep X.K F H r σ A', ⟨xs.length, by simp, Nat.zero_le _, ρ, F1, A, h0, .refl e1.fh A, rp1⟩, ?_⟩
  rintro i m σ2 H2 ⟨rfl, hi, r, F2, A2, sr, st2, r2⟩
  obtain ⟨stop, item⟩ := wk i F2 H2 A2 st2
  by_cases hlt : i < xs.length
  · have ex : xs[i]? = some xs[i] := List.getElem?_eq_getElem hlt
    generalize xs[i] = x at ex
    obtain ⟨go, yl⟩ := item (enc x) (by rw [List.getElem?_map, ex]; rfl)
    refine .inr ⟨go, fun σ' H' => ∃ r F A', st (i + 1) r ∧ StEx F1 H1 A F H' A' ∧ Rep X.K F H' r σ' A', fun σ' H' q => ⟨xs.length - (i + 1), by omega, rfl, hlt, q⟩, fun v H3 y => ?_⟩
    obtain ⟨F3, e3, dpx⟩ := yl v H3 y
    refine ⟨⟨(i, x, r), ex, sr⟩, F3, A2, e3.fh, r2.mono e3, dpx, fun σ3 A3 r3 _ sub => ⟨⟨(i, x, r), ex, sr⟩, F3, A3, e3.fh, r3, fun r4 F4 H4 σ4 A4 g4 st4 rr4 => ?_⟩⟩
    exact ⟨r4, F4, A4, g4, (st2.trans (stEx_sub (e3.st A2) sub)).trans st4, rr4⟩
  · have ei : i = xs.length := by omega
    subst ei
    exact .inl ⟨stop (by simp), q r F2 H2 σ2 A2 sr ((e1.st A).trans st2) r2⟩
end
end KL
/-! DLs: append, insert, comprehensions, calls and defs with sets of answers. -/
namespace KL
open PySem PySem.Spec L2
section
variable {X : Cx} {ρ : List Sl} {e e2 elt tg iter : Expr} {es : List Expr} {pos p : Pos} {S : D → Prop} {SS : List PyData → Prop} {T : List D → Prop} {ds : List PyData} {scope : Scope} {own : List (Str × Nat)}
theorem w_appendE (i : Nat) {x : Str} {p1 p2 cpos : Pos} (he : PE X e (tE X.K ρ S)) (h1 : ∀ d, S d → ∃ a, d = .d a) (hz : ds.length < sizeLine) (hρ : ρ[i]? = some (.ow ds) := by rfl) (hN : X.N[i]? = some x := by rfl) (hv : Vis X.env.scope x := by first | exact Or.inl rfl | exact Or.inr (Or.inl rfl) | exact Or.inr (Or.inr rfl))
    (hd : (x == ("__debug__" : Str)) = false := by decide) (hcd : (x == ("__classdict__" : Str)) = false := by decide) (hbase : attributeBase (.Name x p1) "append" X.env (eval (.Name x p1) X.env) = eval (.Name x p1) X.env := by rfl)
    (hfew : ((backTo cpos (starEach [e] X.env)).all (fun x => !x.1) && (backToKw cpos (keywordEach [] X.env)).all (fun x => x.1.isSome) && decide ([e].length + ([] : List Keyword).length + (if ([] : List Keyword).isEmpty then 0 else 1) < 30)) = true := by rfl)
    (hline : (p2.endLine == cpos.line) = true := by rfl) (hs : starEach [e] X.env = (false, eval e X.env) :: starEach [] X.env := by rfl) (hplain : (backTo cpos (starEach [] X.env)).any (·.1) = false := by rfl) (hw : swapsWith (.Call (.Attribute (.Name x p1) "append" p2) [e] [] cpos) none pos.line X.env = pure false := by rfl) :
    PS X (.Expr (.Call (.Attribute (.Name x p1) "append" p2) [e] [] cpos) pos) (tW X.K ρ (.nxs fun r => ∃ a, S (.d a) ∧ r = ρ.set i (.ow (ds ++ [a])))) :=
  (ps_expr (pe_bm PySem.F.plainAttrs_list PySem.F.slot_list_append PySem.F.type_list_append mt_append (pe_var (i := i) hN hv hd hcd) (pa_cons he pa_nil hs) hbase hfew hline hs hplain) hw).imp fun D σ H ⟨F, A, l, rp, q⟩ => by
    obtain ⟨p, xs, e1, mA, eH, dp⟩ := rp.ow hρ
    refine ⟨.ref p, e1, .inl ⟨rfl, xs, .inl (.inl eH)⟩, F, A, l, rp, fun F1 H1 v e2 ⟨d, sd, q1⟩ => ⟨p, xs, v, rfl, rfl, e2.hh _ _ eH, by rw [DpAll.len dp]; exact hz, ?_⟩⟩
    obtain ⟨a, rfl⟩ := h1 d sd
    obtain ⟨A', r', st⟩ := rep_change (xs := xs) (es := ds ++ [a]) e2.fh (rp.mono e2) hρ e1 (dpAll_append (e2.ff.dps dp) (.cons q1 .nil))
    exact q _ F1 _ σ A' ⟨a, sd, rfl⟩ ((e2.st A).trans st) r'
theorem w_insertE (i : Nat) {x : Str} {p1 p2 cpos : Pos} {a : PyData} (he : PE X e (tE X.K ρ S)) (h1 : ∀ d, S d → ∃ n : Nat, d = .d (.int (n : Nat)) ∧ n < 100000) (ha : PE X e2 (tD X.K ρ (.d a))) (hz : ds.length < sizeLine) (hρ : ρ[i]? = some (.ow ds) := by rfl) (hN : X.N[i]? = some x := by rfl) (hv : Vis X.env.scope x := by first | exact Or.inl rfl | exact Or.inr (Or.inl rfl) | exact Or.inr (Or.inr rfl))
    (hd : (x == ("__debug__" : Str)) = false := by decide) (hcd : (x == ("__classdict__" : Str)) = false := by decide) (hbase : attributeBase (.Name x p1) "insert" X.env (eval (.Name x p1) X.env) = eval (.Name x p1) X.env := by rfl)
    (hfew : ((backTo cpos (starEach [e, e2] X.env)).all (fun x => !x.1) && (backToKw cpos (keywordEach [] X.env)).all (fun x => x.1.isSome) && decide ([e, e2].length + ([] : List Keyword).length + (if ([] : List Keyword).isEmpty then 0 else 1) < 30)) = true := by rfl)
    (hline : (p2.endLine == cpos.line) = true := by rfl) (hs : starEach [e, e2] X.env = (false, eval e X.env) :: starEach [e2] X.env := by rfl) (hs2 : starEach [e2] X.env = (false, eval e2 X.env) :: starEach [] X.env := by rfl) (hplain : (backTo cpos (starEach [e2] X.env)).any (·.1) = false := by rfl) (hw : swapsWith (.Call (.Attribute (.Name x p1) "insert" p2) [e, e2] [] cpos) none pos.line X.env = pure false := by rfl) :
    PS X (.Expr (.Call (.Attribute (.Name x p1) "insert" p2) [e, e2] [] cpos) pos) (tW X.K ρ (.nxs fun r => ∃ n : Nat, S (.d (.int (n : Nat))) ∧ r = ρ.set i (.ow (ds.take n ++ [a] ++ ds.drop n)))) :=
  (ps_expr (pe_bm PySem.F.plainAttrs_list PySem.F.slot_list_insert PySem.F.type_list_insert mt_insert (pe_var (i := i) hN hv hd hcd) (pa_cons he (pa_cons ha pa_nil hs2) hs) hbase hfew hline hs hplain) hw).imp fun D σ H ⟨F, A, l, rp, q⟩ => by
    obtain ⟨p, xs, e1, mA, eH, dp⟩ := rp.ow hρ
    refine ⟨.ref p, e1, .inl ⟨rfl, xs, .inl (.inl eH)⟩, F, A, l, rp, fun F1 H1 v e2 ⟨d, sd, q1⟩ => ⟨F1, A, e2.fh, rp.mono e2, fun F2 H2 u e3 q2 => ?_⟩⟩
    obtain ⟨n, rfl, hn⟩ := h1 d sd
    cases (show Dp X.K F1 v (.int (n : Nat)) from q1)
    have e23 := e2.trans e3
    refine ⟨p, xs, (n : Nat), u, rfl, rfl, e23.hh _ _ eH, by rw [DpAll.len dp]; exact hz, by omega, by omega, ?_⟩
    rw [Int.toNat_natCast]
    have dq := e23.ff.dps dp
    obtain ⟨A', r', st⟩ := rep_change (xs := xs) (es := ds.take n ++ [a] ++ ds.drop n) e23.fh (rp.mono e23) hρ e1 (dpAll_append (dpAll_append (dpAll_take n dq) (.cons q2 .nil)) (dpAll_drop n dq))
    exact q _ F2 _ σ A' ⟨n, sd, rfl⟩ ((e23.st A).trans st) r'
/-! ### calls -/
def spE (K : PySem.W.Frag) (R : List D → (D → Prop) → Prop) : Sp := fun vs H Q _ => ∃ F ds S, Le F H ∧ IsAll K F vs ds ∧ R ds S ∧ ∀ F' H' v d, S d → Ext F H F' H' → Is K F' v d → Q v H'
theorem ecall {k : Nat} {f : Addr} {fd : FuncData} {ps : List Str} {Rf : List D → (D → Prop) → Prop} {nm : Str} (G : FnOk X.prog X.w X.K X.mg X.base CX0 k f fd ps (spE X.K Rf)) (hr : Room k X.A) (hg : Gl X nm) (hm : X.mg nm = some (.ref f))
    (hk : PySem.W.keepIn X.K (.ref f) = true) (hb : Binds X.K fd ps []) (ha : PA X (e :: es) (tAE X.K ρ T)) (h : ∀ dl, T dl → Rf dl S) (hdb : (nm == ("__debug__" : Str)) = false := by decide) (he : starEach (e :: es) X.env = (false, eval e X.env) :: starEach es X.env := by rfl)
    (hpl : (backTo pos (starEach es X.env)).any (·.1) = false := by rfl) : PE X (.Call (.Name nm p) (e :: es) [] pos) (tE X.K ρ S) :=
  (pe_call G hr hg hm hk hb .nil pass0 ha hdb he hpl).imp fun σ H Q ⟨F, A, l, rp, kk⟩ => ⟨F, A, l, rp, fun F1 H1 vs dl tl e1 q1 => by
    show spE X.K Rf (vs ++ []) H1 Q E0
    rw [List.append_nil]
    exact ⟨F1, dl, S, e1.fh, q1, h dl tl, fun F2 H2 v d sd e2 q2 => kk F2 H2 v (e1.trans e2) ⟨d, sd, q2⟩⟩⟩
/-- arguments known one by one -/
theorem ar2e {dl : List D} (h : PA X es (tAr X.K ρ dl)) : PA X es (tAE X.K ρ fun l => l = dl) := h.imp fun σ H Q ⟨F, A, l, rp, k⟩ => ⟨F, A, l, rp, fun F' H' vs ex is => k F' H' vs dl rfl ex is⟩
/-! ### comprehensions over one of SS -/
theorem tLc_mono {wi : TI} {g g' : TG} {tt tt' : TT} {te te' : TE} {vs : List Nat} {σ : L2.St} {H : Hp} {Q : VK} (mono : MonoI wi) (mg : ∀ v σ H (R R' : L2.St → Hp → Prop), (∀ σ H, R σ H → R' σ H) → g v σ H R → g' v σ H R') (mt : ∀ σ H (R R' : Bool → Hp → Prop), (∀ b H, R b H → R' b H) → tt σ H R → tt' σ H R')
    (me : ∀ σ H (R R' : VK), (∀ v H, R v H → R' v H) → te σ H R → te' σ H R') (h : tLc wi g tt te vs σ H Q) : tLc wi g' tt' te' vs σ H Q := by
  refine mono _ _ _ _ (fun J H1 z D n => ?_) h
  obtain ⟨W, w0, turn⟩ := z D n
  refine ⟨W, w0, fun i m H w => ?_⟩
  rcases turn i m H w with z | ⟨go, Nx, n1, n2⟩
  · exact .inl z
  · refine .inr ⟨go, Nx, n1, fun x H' y => mg _ _ _ _ _ (fun σ2 H2 ⟨e, r⟩ => ⟨e, mt _ _ _ _ (fun b H3 r => ?_) r⟩) (n2 x H' y)⟩
    cases b with
    | true => rw [if_pos rfl] at r ⊢; exact me _ _ _ _ (fun _ _ z => z) r
    | false => rw [if_neg Bool.false_ne_true] at r ⊢; exact r
theorem lcompE {α : Type} {SA : List α → Prop} {enc : α → PyData} {ρ' : α → List Sl} {f : α → PyData} (hi : PE X iter (tR X.K ρ (RNE X.K fun ds => ∃ ys : List α, SA ys ∧ ds = ys.map enc))) (ok : BlkOk X.N X.env.scope scope own)
    (hg : ∀ x, ∀ (s : Shared) (H : Hp) (C : Addr) (cl : List (Str × Addr)) (fp : List Addr), PG (X.blk s H scope (compEnvC scope cl C X.env) fp) tg (tG X.K (wipeR ρ (own.map (·.2))) (enc x) (ρ' x) (own.map (·.2))))
    (he : ∀ x, ∀ (s : Shared) (H : Hp) (C : Addr) (cl : List (Str × Addr)) (fp : List Addr), PE (X.blk s H scope (compEnvC scope cl C X.env) fp) elt (tD X.K (ρ' x) (.d (f x))))
    (hz : ∀ ys, SA ys → ys.length ≤ sizeLine) (hc : X.calm = true := by rfl) (hN : X.N.Nodup := by decide) (hs : ∀ x, foldedSetIterable iter X.env x = pure x := by intro _; rfl) :
    PE X (.ListComp elt [⟨tg, iter, [], 0⟩] scope pos) (tR X.K ρ (RNE X.K fun ds => ∃ ys, SA ys ∧ ds = ys.map f)) := by
  have src : PI X tg iter (fun σ H R => ∃ F A, Le F H ∧ Rep X.K F H ρ σ A ∧ ∀ (ys : List α) F1 H1 J, SA ys → Ext F H F1 H1 → Walks X.K J F1 H1 [] (ys.map enc) → R J H1) :=
    (pi_list hi).imp fun σ H R ⟨F, A, l, rp, k⟩ => ⟨F, A, l, rp, fun F1 H1 v e1 ⟨ds, ⟨ys, sy, ed⟩, p, xs, ev, nF, nH, eH, _, dp⟩ =>
      ⟨p, ev, ⟨xs, .inl (.inl eH)⟩, k ys F1 H1 _ sy e1 (by rw [← ed]; exact walks_list (fun F H A' st => .inl (.inl (st.ext.hh _ _ eH))) dp)⟩⟩
  refine (pe_lc (g := fun v σ H Q => ∃ x : α, tG X.K (wipeR ρ (own.map (·.2))) (enc x) (ρ' x) (own.map (·.2)) v σ H Q) (tt := fun σ H Q => ∃ x : α, tT X.K (ρ' x) true σ H Q) (te := fun σ H Q => ∃ x : α, tD X.K (ρ' x) (.d (f x)) σ H Q) hc hN src ok
    (fun s H C cl fp => .all fun x => hg x s H C cl fp) (fun s H C cl fp => .all fun x => pts_no) (fun s H C cl fp => .all fun x => he x s H C cl fp) hs).imp fun σ H Q ⟨F, A, l, rp, k⟩ => ⟨F, A, l, rp, fun ys F1 H1 J sy e1 wk => ?_⟩
  have base : tLc (fun (_ : L2.St) (H : Hp) (R : It → Hp → Prop) => R J H) (gU X.K ρ (own.map (·.2)) ys enc ρ') (ttU X.K ys ρ' fun _ => true) (teU X.K ys ρ' (fun _ => true) f) (own.map (·.2)) σ H1 Q :=
    lcR (H := H1) (hz ys sy) (fun _ _ _ _ h z => h _ _ z) ⟨F1, A, e1.fh, rp.mono e1, wk, fun F2 H2 v e2 r => k F2 H2 v (e1.trans e2) ⟨_, ⟨ys, sy, rfl⟩, by
      have ef : ys.filter (fun _ => true) = ys := List.filter_eq_self.mpr fun _ _ => rfl
      rw [ef] at r
      exact bk_n F H F1 H1 F2 H2 v e1 r⟩⟩
  have fin : tLc (fun (_ : L2.St) (H : Hp) (R : It → Hp → Prop) => R J H) (fun v σ H Q => ∃ x : α, tG X.K (wipeR ρ (own.map (·.2))) (enc x) (ρ' x) (own.map (·.2)) v σ H Q) (fun σ H Q => ∃ x : α, tT X.K (ρ' x) true σ H Q) (fun σ H Q => ∃ x : α, tD X.K (ρ' x) (.d (f x)) σ H Q) (own.map (·.2)) σ H1 Q := tLc_mono (fun _ _ _ _ h z => h _ _ z)
    (fun v σ H R R' h ⟨i, F, A, l, r, dp, z⟩ => ⟨i.1, F, A, l, r, dp, fun σ' A' r' w sub => h _ _ (z σ' A' r' w sub)⟩)
    (fun σ H R R' h ⟨i, F, A, l, r, z⟩ => ⟨i.1, F, A, l, r, fun F' H' e => h _ _ (z F' H' e)⟩)
    (fun σ H R R' h ⟨i, F, A, l, r, z⟩ => ⟨i.1, F, A, l, r, fun F' H' v e q => h _ _ (z F' H' v e q)⟩) base
  exact fin
end
section
variable {mg : Str → Option Value} {base : Heap} {P : Program} {w : World} {K : PySem.W.Frag}
theorem def_ofE {x qual : Str} {st : Stmt} {f : Addr} {fd : FuncData} {N ps : List Str} {k : Nat} {R : List D → (D → Prop) → Prop} (F : Fun K x qual st f fd) (S : FnScope N ps (defScope st)) (hl : ∀ ds S, R ds S → ds.length = ps.length)
    (hb : ∀ (cdv : Value) (A : Around) (outer : List Env) (s : Shared) (H : Hp) (E : XK), Room k (A.deeper (PyProof.Rows.envOfC qual (defScope st) s.heap.objs.size f cdv)) → ∀ ds S, R ds S →
      PSs (cxOf CX0 P w K mg base N qual (defScope st) f cdv A outer s H E).nox (defBody st) (tW K (startR N ds) (.rt S))) : FnOk P w K mg base CX0 (k + 1) f fd ps (spE K R) := by
  refine F.ok S (fun vs H Q E ⟨F, ds, d, l, q, r, _⟩ => ?_) (fun cdv A outer s H vs Q E hr ⟨F, ds, d, l, q, r, kk⟩ => ⟨_, hb cdv A outer s H E hr ds d r, F, [], l, ⟨?_, fun _ z => nomatch z⟩, fun F' H' v d' A' st p is => kk F' H' v d' p st.ext is⟩)
  · rw [← hl ds d r]; exact Paired.length q
  · unfold startR L2.start
    rw [Paired.length q]
    exact rep_start _ q
end
/-- a def of the program whose answers are only known within sets -/
structure CalE (P : Program) (w : World) (K : PySem.W.Frag) (mg : Str → Option Value) (base : Heap) (k : Nat) (nm : Str) (R : List D → (D → Prop) → Prop) : Prop where
  ex : ∃ (f : Addr) (fd : FuncData) (ps : List Str), mg nm = some (.ref f) ∧ PySem.W.keepIn K (.ref f) = true ∧ Binds K fd ps [] ∧ FnOk P w K mg base CX0 k f fd ps (spE K R)
theorem CalE.mono {P : Program} {w : World} {K : PySem.W.Frag} {mg : Str → Option Value} {base : Heap} {j k : Nat} {nm : Str} {R : List D → (D → Prop) → Prop} (G : CalE P w K mg base j nm R) (h : j ≤ k) : CalE P w K mg base k nm R := by
  obtain ⟨f, fd, ps, h1, h2, h3, h4⟩ := G.ex
  exact ⟨f, fd, ps, h1, h2, h3, h4.mono h⟩
theorem callE {X : Cx} {ρ : List Sl} {e : Expr} {es : List Expr} {p pos : Pos} {S : D → Prop} {T : List D → Prop} {k : Nat} {nm : Str} {R : List D → (D → Prop) → Prop} (G : CalE X.prog X.w X.K X.mg X.base k nm R) (hr : Room k X.A) (ha : PA X (e :: es) (tAE X.K ρ T)) (h : ∀ dl, T dl → R dl S) (hg : Gl X nm := by rfl) (hdb : (nm == ("__debug__" : Str)) = false := by decide)
    (he : starEach (e :: es) X.env = (false, eval e X.env) :: starEach es X.env := by rfl) (hpl : (backTo pos (starEach es X.env)).any (·.1) = false := by rfl) : PE X (.Call (.Name nm p) (e :: es) [] pos) (tE X.K ρ S) := by
  obtain ⟨f, fd, ps, h1, h2, h3, h4⟩ := G.ex
  exact ecall h4 hr hg h1 h2 h3 ha h hdb he hpl
end KL
/-! DLt: items of an owned list written; the bag opened. -/
namespace KL
open PySem PySem.Spec L2
theorem dpAll_set {K : PySem.W.Frag} {F : Hp} {v : V} {d : PyData} (h : Dp K F v d) : ∀ {vs : List V} {ds : List PyData} (j : Nat), DpAll K F vs ds → DpAll K F (vs.set j v) (ds.set j d)
  | _, _, _, .nil => .nil
  | _, _, 0, .cons _ t => .cons h t
  | _, _, j + 1, .cons a t => .cons a (dpAll_set h j t)
section
variable {X : Cx} {ρ : List Sl} {e i1 : Expr} {pos : Pos} {ds : List PyData}
theorem ixN_nat {n j : Nat} (h : j < n) : ixN n (j : Int) = some j := by
  unfold ixN
  rw [if_pos (by omega), if_pos (by omega), Int.toNat_natCast]
/-- x[j] = e -/
theorem w_item (i j : Nat) {x : Str} {p1 p2 : Pos} {a : PyData} (hi : PE X i1 (tD X.K ρ (.d (.int (j : Nat))))) (he : PE X e (tD X.K ρ (.d a))) (hj : j < ds.length) (hρ : ρ[i]? = some (.ow ds) := by rfl) (hN : X.N[i]? = some x := by rfl) (hv : Vis X.env.scope x := by first | exact Or.inl rfl | exact Or.inr (Or.inl rfl) | exact Or.inr (Or.inr rfl))
    (hcd : (x == ("__classdict__" : Str)) = false := by decide) (hd : (x == ("__debug__" : Str)) = false := by decide)
    (ha : ∀ v, assign (.Subscript (.Name x p1) i1 p2) X.env v = (do
      let ov ← holding [v] (eval (.Name x p1) X.env)
      let iv ← holding [v, ov] (eval i1 X.env)
      standAt p2
      holding [v, ov, iv] <| setItem ov iv v
      release [v, ov, iv] []) := by intro _; rfl)
    (hs : swapsWithSole [.Subscript (.Name x p1) i1 p2] e pos.line X.env = pure false := by rfl) (hw : swappedStores [.Subscript (.Name x p1) i1 p2] e X.env = pure none := by rfl) (h1 : (assignEach [.Subscript (.Name x p1) i1 p2] X.env).map (·.2) = [assign (.Subscript (.Name x p1) i1 p2) X.env] := by rfl) :
    PS X (.Assign [.Subscript (.Name x p1) i1 p2] e pos) (tW X.K ρ (.nx (ρ.set i (.ow (ds.set j a))))) :=
  (ps_asg he (pg_sub (pe_var (i := i) hN hv hd hcd) hi set_list ha) hs hw h1).imp fun D σ H ⟨F, A, l, rp, q⟩ => by
    refine ⟨F, A, l, rp, fun F1 H1 v e1 q1 => ?_⟩
    have rp1 := rp.mono e1
    obtain ⟨p, xs, e2, mA, eH, dp⟩ := rp1.ow hρ
    refine ⟨.ref p, e2, F1, A, e1.fh, rp1, fun F2 H2 u e3 q2 => ?_⟩
    cases (show Dp X.K F2 u (.int (j : Nat)) from q2)
    refine ⟨p, xs, (j : Nat), j, rfl, rfl, e3.hh _ _ eH, by rw [DpAll.len dp]; exact ixN_nat hj, ?_⟩
    obtain ⟨A', r', st⟩ := rep_change (xs := xs) (es := ds.set j a) e3.fh (rp1.mono e3) hρ e2 (dpAll_set (e3.ff.dp q1) j (e3.ff.dps dp))
    exact q F2 _ σ A' (((e1.trans e3).st A).trans st) r'
theorem get_list : PGet X (rIxL X.K) := by
  intro pins s σ H x y v u Q I; intro rx ry h
  rcases h with ⟨p, xs, i, z, rfl, rfl, hq, he, q⟩
  cases rx
  obtain ⟨t, rfl⟩ := ry
  rcases I.list hq with ⟨its, r, pl, hz⟩
  rcases atI_get he with ⟨j, h1, h2, h3, h4, h5⟩
  rcases r.get h2 with ⟨w, ew, rw'⟩
  have hl := r.length
  have hn := line63
  have fin := (⟨z, H, I, rw', q⟩ : EP X pins σ Q w s)
  by_cases h0 : 0 ≤ i
  · have hj : i.toNat = j := by
      rw [seqIndex_of h0 h5] at h1
      exact Option.some.inj h1
    exact wpAny_getItem_list pl.isList h0 (by omega) (by rw [hj]; simpa using ew) fin
  · have back : (i + (its.toArray.size : Int)).toNat = j := by
      rewrite [seqIndex_neg (by omega) h4] at h1
      rw [List.size_toArray, ← hl]
      exact Option.some.inj h1
    exact wpAny_getItem_list_neg pl.isList (by omega) (by rw [List.size_toArray] <;> omega) (by omega) (by rw [back]; simpa using ew) fin
/-- x[j] += n -/
theorem w_itemAdd (i j : Nat) {x : Str} {p1 p2 : Pos} {m n : Int} (hi : PE X i1 (tD X.K ρ (.d (.int (j : Nat))))) (he : PE X e (tD X.K ρ (.d (.int n)))) (hj : ds[j]? = some (.int m)) (hρ : ρ[i]? = some (.ow ds) := by rfl) (hN : X.N[i]? = some x := by rfl) (hv : Vis X.env.scope x := by first | exact Or.inl rfl | exact Or.inr (Or.inl rfl) | exact Or.inr (Or.inr rfl))
    (hcd : (x == ("__classdict__" : Str)) = false := by decide) (hd : (x == ("__debug__" : Str)) = false := by decide)
    (ha : ∀ ov iv new : Value, augStore i1 ov iv new = (do holding [new, ov, iv] (setItem ov iv new); release [new, ov, iv] []; pure Flow.next) := by intros; rfl) :
    PS X (.AugAssign (.Subscript (.Name x p1) i1 p2) .Add e pos) (tW X.K ρ (.nx (ρ.set i (.ow (ds.set j (.int (m + n))))))) :=
  (ps_augS (pe_var (i := i) hN hv hd hcd) hi get_list he ip_add set_list ha).imp fun D σ H ⟨F, A, l, rp, q⟩ => by
    obtain ⟨p, xs, e2, mA, eH, dp⟩ := rp.ow hρ
    refine ⟨.ref p, e2, F, A, l, rp, fun F1 H1 u e1 q1 => ?_⟩
    cases (show Dp X.K F1 u (.int (j : Nat)) from q1)
    have hlt : j < ds.length := (List.getElem?_eq_some_iff.mp hj).1
    obtain ⟨v, hv1, hv2⟩ := dpAll_get (e1.ff.dps dp) hj
    cases hv2
    have eH1 := e1.hh _ _ eH
    refine ⟨p, xs, (j : Nat), _, rfl, rfl, .inl (.inl eH1), atI_nat hv1, F1, A, e1.fh, rp.mono e1, fun F2 H2 z e3 q3 => ?_⟩
    cases (show Dp X.K F2 z (.int n) from q3)
    refine ⟨m, n, rfl, rfl, p, xs, (j : Nat), j, rfl, rfl, e3.hh _ _ eH1, by rw [DpAll.len dp]; exact ixN_nat hlt, ?_⟩
    have e13 := e1.trans e3
    obtain ⟨A', r', st⟩ := rep_change (xs := xs) (es := ds.set j (.int (m + n))) e3.fh (rp.mono e13) hρ e2 (dpAll_set (Dp.int _) j (e13.ff.dps dp))
    exact q F2 _ σ A' ((e13.st A).trans st) r'
/-! ### the bag, opened -/
/-- the ends, with the bag shut again -/
def shut (a c : Addr) (G : Int → Int → Int → Prop) (D : Ends) : Ends :=
  ⟨fun σ H => ∃ i j k, G i j k ∧ H a = some (.lst [.int i, .int j, .int k, .ref c]) ∧ D.nx σ (upd H a (bagO a c)), fun v H => ∃ i j k, G i j k ∧ H a = some (.lst [.int i, .int j, .int k, .ref c]) ∧ D.rt v (upd H a (bagO a c)),
   fun σ H => ∃ i j k, G i j k ∧ H a = some (.lst [.int i, .int j, .int k, .ref c]) ∧ D.bk σ (upd H a (bagO a c)), fun σ H => ∃ i j k, G i j k ∧ H a = some (.lst [.int i, .int j, .int k, .ref c]) ∧ D.ct σ (upd H a (bagO a c))⟩
def GoodB (i j k : Int) : Prop := 0 ≤ i ∧ 0 ≤ j ∧ j < 2147483647 ∧ 0 ≤ k
def tBag (t : TS) : TS := fun D σ H => ∃ a c, H a = some (bagO a c) ∧ ∀ i j k, GoodB i j k → t (shut a c GoodB D) σ (upd H a (.lst [.int i, .int j, .int k, .ref c]))
theorem bag_list {H : Hp} {h : Heap} {a c : Addr} {P : Program} {w : World} {i j k : Int} {t u v : Tok} {n : Nat} (e : h.get? a = some { cls := .type "list", data := .seq [Value.int i t, .int j u, .int k v, .ref c].toArray n }) : ObjOk P w H h a (.lst [.int i, .int j, .int k, .ref c]) :=
  ⟨small rfl, [Value.int i t, .int j u, .int k v, .ref c], n, .cons ⟨t, rfl⟩ (.cons ⟨u, rfl⟩ (.cons ⟨v, rfl⟩ (.cons rfl .nil))), e⟩
theorem bag_shut {pins : List (Addr × Obj)} {σ : L2.St} {H : Hp} {s : Shared} {a c : Addr} {i j k : Int} (I : Inv X pins σ H s) (g : GoodB i j k) (e : H a = some (.lst [.int i, .int j, .int k, .ref c])) : Inv X pins σ (upd H a (bagO a c)) s := by
  obtain ⟨hz, its, n, rv, ho⟩ := I.hok a _ e
  have z := I.write (x := a) (e := a) (o := bagO a c) (h' := s.heap) (t' := s.toks) (by rw [e]; trivial) (.inl rfl) (fun _ _ _ w => w) ⟨_, ho⟩ ?_
  · exact z
  · cases rv with
    | cons r1 rv =>
      cases rv with
      | cons r2 rv =>
        cases rv with
        | cons r3 rv =>
          cases rv with
          | cons r4 rv =>
            cases rv
            obtain ⟨t, rfl⟩ := r1
            obtain ⟨u, rfl⟩ := r2
            obtain ⟨v, rfl⟩ := r3
            cases r4
            exact ⟨⟨i, j, k, t, u, v, n, g.1, g.2.1, g.2.2.1, g.2.2.2, ho⟩, ⟨_, ho⟩, fun h1 h2 ⟨i, j, k, t, u, v, n, g1, g2, g3, g4, e1⟩ kp => ⟨i, j, k, t, u, v, n, g1, g2, g3, g4, kp _ e1⟩⟩
theorem pss_bag {sts : List Stmt} {t : TS} (h : PSs X sts t) : PSs X sts (tBag t) := by
  refine ⟨fun pins s σ H D I ⟨a, c, e, q⟩ => ?_⟩
  obtain ⟨i, j, k, t1, t2, t3, n, g1, g2, g3, g4, ho⟩ := (I.hok a _ e).1
  have I1 : Inv X pins σ (upd H a (.lst [.int i, .int j, .int k, .ref c])) s := I.write (x := a) (e := a) (h' := s.heap) (t' := s.toks) (by rw [e]; trivial) (.inl rfl) (fun _ _ _ w => w) ⟨_, ho⟩ (bag_list ho)
  refine thn (h.run pins s σ _ _ I1 (q i j k ⟨g1, g2, g3, g4⟩)) fun f s1 z => ?_
  cases f with
  | next => obtain ⟨σ', H', I2, i, j, k, g, e2, z⟩ := z; exact ⟨σ', _, bag_shut I2 g e2, z⟩
  | brk => obtain ⟨σ', H', I2, i, j, k, g, e2, z⟩ := z; exact ⟨σ', _, bag_shut I2 g e2, z⟩
  | cont => obtain ⟨σ', H', I2, i, j, k, g, e2, z⟩ := z; exact ⟨σ', _, bag_shut I2 g e2, z⟩
  | ret v => obtain ⟨x, σ', H', I2, r, i, j, k, g, e2, z⟩ := z; exact ⟨x, σ', _, bag_shut I2 g e2, r, z⟩
end
end KL
/-! DLu: the opened bag in a slot. -/
namespace KL
open PySem PySem.Spec L2
abbrev bgV (i j k : Int) (c : Addr) : List V := [.int i, .int j, .int k, .ref c]
theorem Rep.bg {K : PySem.W.Frag} {F H : Hp} {ρ : List Sl} {σ : L2.St} {A : List Addr} (h : Rep K F H ρ σ A) {s : Nat} {a c : Addr} {i j k : Int} {ns : List Int} (e : ρ[s]? = some (.bg a c i j k ns)) : σ[s]? = some (some (.ref a)) ∧ a ∈ A ∧ H a = some (.lst (bgV i j k c)) ∧ Rd F c (.lst (ns.map V.int)) := by
  obtain ⟨z, B, e2, q, sub⟩ := h.rl.at e
  obtain ⟨e3, e4, eH, r⟩ := q
  exact ⟨by rw [e2, e3], sub a (by rw [e4]; simp), eH, r⟩
theorem rep_bg {K : PySem.W.Frag} {F H : Hp} {ρ : List Sl} {σ : L2.St} {A : List Addr} {s : Nat} {a c : Addr} {i j k i' j' k' : Int} {ns : List Int} (l : Le F H) (rp : Rep K F H ρ σ A) (h : ρ[s]? = some (.bg a c i j k ns)) :
    ∃ A', Rep K F (upd H a (.lst (bgV i' j' k' c))) (ρ.set s (.bg a c i' j' k' ns)) σ A' ∧ StEx F H A F (upd H a (.lst (bgV i' j' k' c))) A' := by
  obtain ⟨e1, mA, eH, r⟩ := rp.bg h
  have nF := rp.nf a mA
  obtain ⟨A', h1, h2⟩ := rp.rl.change (r' := .bg a c i' j' k' ns) (H' := upd H a (.lst (bgV i' j' k' c))) h e1 fun B ⟨_, eB, _, _⟩ =>
    ⟨[a], ⟨rfl, rfl, upd_same, r⟩, fun b z => by rw [eB]; exact z, fun b n _ => upd_ne fun z => n (by rw [eB, z]; simp)⟩
  refine ⟨A', ⟨h1, fun b z => rp.nf b (h2 b z)⟩, .refl F, ⟨fun b u pu r => ?_, fun b z => ?_, fun b φ r => by rw [upd_ne (ne_of_none r nF)]; exact l.ex b φ r, fun b ⟨o2, xs2, r, d2⟩ => by
    obtain ⟨o3, xs3, e4, d3⟩ := l.fz b ⟨o2, xs2, r, d2⟩
    exact ⟨o3, xs3, by rw [upd_ne (ne_of_none r nF)]; exact e4, d3⟩⟩, fun b o n e => ?_, fun b n _ _ => n, fun b n => ?_, fun b z => .inl (h2 b z)⟩
  · have : b ≠ a := fun z => by rcases r with r | ⟨_, r⟩ <;> rw [z, nF] at r <;> cases r
    rcases l.rd b u pu r with q | ⟨o, q⟩
    · exact .inl (by rw [upd_ne this]; exact q)
    · exact .inr ⟨o, by rw [upd_ne this]; exact q⟩
  · by_cases w : b = a
    · rw [w, upd_same] at z; cases z
    · rw [upd_ne w] at z; exact l.dom b z
  · rw [upd_ne fun w => n (by rw [w]; exact mA)]
    exact e
  · by_cases w : b = a
    · rw [w, upd_same]; simp
    · rw [upd_ne w]; exact n
section
variable {X : Cx} {ρ : List Sl} {e i1 : Expr} {pos : Pos} {a c : Addr} {i j k : Int} {ns : List Int}
theorem bgI (s : Nat) {x : Str} {p1 : Pos} {jj v : Int} (hj : PE X i1 (tD X.K ρ (.d (.int jj)))) (h : atI (bgV i j k c) jj = some (.int v)) (hρ : ρ[s]? = some (.bg a c i j k ns) := by rfl) (hN : X.N[s]? = some x := by rfl) (hv : Vis X.env.scope x := by first | exact Or.inl rfl | exact Or.inr (Or.inl rfl) | exact Or.inr (Or.inr rfl))
    (hd : (x == ("__debug__" : Str)) = false := by decide) (hcd : (x == ("__classdict__" : Str)) = false := by decide) (hs : PlainIx i1 := by intro _ _; rfl) : PE X (.Subscript (.Name x p1) i1 pos) (tD X.K ρ (.d (.int v))) :=
  (pe_ix ix_list (pe_var (i := s) hN hv hd hcd) hj hs).imp fun σ H Q ⟨F, A, l, rp, q⟩ => by
    obtain ⟨e1, mA, eH, r⟩ := rp.bg hρ
    refine ⟨.ref a, e1, F, A, l, rp, fun F1 H1 u e2 q2 => ?_⟩
    cases (show Dp X.K F1 u (.int jj) from q2)
    exact ⟨a, bgV i j k c, jj, _, rfl, rfl, .inl (.inl (e2.hh _ _ eH)), h, q F1 H1 _ e2 (Dp.int _)⟩
theorem bgL (s : Nat) {x : Str} {p1 : Pos} {jj : Int} (hj : PE X i1 (tD X.K ρ (.d (.int jj)))) (h : atI (bgV i j k c) jj = some (.ref c)) (hρ : ρ[s]? = some (.bg a c i j k ns) := by rfl) (hN : X.N[s]? = some x := by rfl) (hv : Vis X.env.scope x := by first | exact Or.inl rfl | exact Or.inr (Or.inl rfl) | exact Or.inr (Or.inr rfl))
    (hd : (x == ("__debug__" : Str)) = false := by decide) (hcd : (x == ("__classdict__" : Str)) = false := by decide) (hs : PlainIx i1 := by intro _ _; rfl) : PE X (.Subscript (.Name x p1) i1 pos) (tS X.K ρ (ns.map .int)) :=
  (pe_ix ix_list (pe_var (i := s) hN hv hd hcd) hj hs).imp fun σ H Q ⟨F, A, l, rp, q⟩ => by
    obtain ⟨e1, mA, eH, r⟩ := rp.bg hρ
    refine ⟨.ref a, e1, F, A, l, rp, fun F1 H1 u e2 q2 => ?_⟩
    cases (show Dp X.K F1 u (.int jj) from q2)
    exact ⟨a, bgV i j k c, jj, _, rfl, rfl, .inl (.inl (e2.hh _ _ eH)), h, q F1 H1 _ e2 ⟨c, ns.map V.int, rfl, .inl ((e2.ff.trans e2.fh).rd _ _ trivial r), ints_dp ns⟩⟩
/-- bag[n] = e -/
theorem bgSet (s n : Nat) {x : Str} {p1 p2 : Pos} {v i' j' k' : Int} (hi : PE X i1 (tD X.K ρ (.d (.int (n : Nat))))) (he : PE X e (tD X.K ρ (.d (.int v)))) (hn : n < 4) (h : (bgV i j k c).set n (.int v) = bgV i' j' k' c) (hρ : ρ[s]? = some (.bg a c i j k ns) := by rfl) (hN : X.N[s]? = some x := by rfl) (hv : Vis X.env.scope x := by first | exact Or.inl rfl | exact Or.inr (Or.inl rfl) | exact Or.inr (Or.inr rfl))
    (hcd : (x == ("__classdict__" : Str)) = false := by decide) (hd : (x == ("__debug__" : Str)) = false := by decide)
    (ha : ∀ v, assign (.Subscript (.Name x p1) i1 p2) X.env v = (do
      let ov ← holding [v] (eval (.Name x p1) X.env)
      let iv ← holding [v, ov] (eval i1 X.env)
      standAt p2
      holding [v, ov, iv] <| setItem ov iv v
      release [v, ov, iv] []) := by intro _; rfl)
    (hs : swapsWithSole [.Subscript (.Name x p1) i1 p2] e pos.line X.env = pure false := by rfl) (hw : swappedStores [.Subscript (.Name x p1) i1 p2] e X.env = pure none := by rfl) (h1 : (assignEach [.Subscript (.Name x p1) i1 p2] X.env).map (·.2) = [assign (.Subscript (.Name x p1) i1 p2) X.env] := by rfl) :
    PS X (.Assign [.Subscript (.Name x p1) i1 p2] e pos) (tW X.K ρ (.nx (ρ.set s (.bg a c i' j' k' ns)))) :=
  (ps_asg he (pg_sub (pe_var (i := s) hN hv hd hcd) hi set_list ha) hs hw h1).imp fun D σ H ⟨F, A, l, rp, q⟩ => by
    refine ⟨F, A, l, rp, fun F1 H1 u e1 q1 => ?_⟩
    cases (show Dp X.K F1 u (.int v) from q1)
    have rp1 := rp.mono e1
    obtain ⟨e2, mA, eH, r⟩ := rp1.bg hρ
    refine ⟨.ref a, e2, F1, A, e1.fh, rp1, fun F2 H2 u e3 q2 => ?_⟩
    cases (show Dp X.K F2 u (.int (n : Nat)) from q2)
    refine ⟨a, bgV i j k c, (n : Nat), n, rfl, rfl, e3.hh _ _ eH, ixN_nat hn, ?_⟩
    rw [h]
    obtain ⟨A', r', st⟩ := rep_bg (i' := i') (j' := j') (k' := k') e3.fh (rp1.mono e3) hρ
    exact q F2 _ σ A' (((e1.trans e3).st A).trans st) r'
/-- bag[2] += v -/
theorem bgAdd (s : Nat) {x : Str} {p1 p2 : Pos} {v : Int} (hi : PE X i1 (tD X.K ρ (.d (.int 2)))) (he : PE X e (tD X.K ρ (.d (.int v)))) (hρ : ρ[s]? = some (.bg a c i j k ns) := by rfl) (hN : X.N[s]? = some x := by rfl) (hv : Vis X.env.scope x := by first | exact Or.inl rfl | exact Or.inr (Or.inl rfl) | exact Or.inr (Or.inr rfl))
    (hcd : (x == ("__classdict__" : Str)) = false := by decide) (hd : (x == ("__debug__" : Str)) = false := by decide)
    (ha : ∀ ov iv new : Value, augStore i1 ov iv new = (do holding [new, ov, iv] (setItem ov iv new); release [new, ov, iv] []; pure Flow.next) := by intros; rfl) :
    PS X (.AugAssign (.Subscript (.Name x p1) i1 p2) .Add e pos) (tW X.K ρ (.nx (ρ.set s (.bg a c i j (k + v) ns)))) :=
  (ps_augS (pe_var (i := s) hN hv hd hcd) hi get_list he ip_add set_list ha).imp fun D σ H ⟨F, A, l, rp, q⟩ => by
    obtain ⟨e2, mA, eH, r⟩ := rp.bg hρ
    refine ⟨.ref a, e2, F, A, l, rp, fun F1 H1 u e1 q1 => ?_⟩
    cases (show Dp X.K F1 u (.int 2) from q1)
    have eH1 := e1.hh _ _ eH
    refine ⟨a, bgV i j k c, 2, _, rfl, rfl, .inl (.inl eH1), rfl, F1, A, e1.fh, rp.mono e1, fun F2 H2 z e3 q3 => ?_⟩
    cases (show Dp X.K F2 z (.int v) from q3)
    refine ⟨k, v, rfl, rfl, a, bgV i j k c, 2, 2, rfl, rfl, e3.hh _ _ eH1, rfl, ?_⟩
    have e13 := e1.trans e3
    obtain ⟨A', r', st⟩ := rep_bg (i' := i) (j' := j) (k' := k + v) e3.fh (rp.mono e13) hρ
    exact q F2 _ σ A' ((e13.st A).trans st) r'
/-- return, with what the slots hold -/
theorem w_rts {d : D} {P : D → Prop} {T : List Sl → Prop} (he : PE X e (tD X.K ρ d)) (p : P d) (t : T ρ) : PS X (.Return (some e) pos) (tW X.K ρ (.rts P T)) :=
  (ps_ret he).imp fun D σ H ⟨F, A, l, rp, q⟩ => ⟨F, A, l, rp, fun F1 H1 v e1 q1 => q ρ F1 H1 σ A v d t (e1.st A) (rp.mono e1) p q1⟩
/-! ### whole numbers -/
variable {x y : Expr} {m n : Int}
theorem dmod (ha : PE X x (tD X.K ρ (.d (.int m)))) (hb : PE X y (tD X.K ρ (.d (.int n)))) (h : 0 < n) : PE X (.BinOp x .Mod y pos) (tD X.K ρ (.d (.int (m % n)))) :=
  dop op_mod ha hb fun F H F1 H1 F2 H2 u v Q l e1 q1 e2 q2 kk => by
    cases (show Dp X.K F1 u (.int m) from q1)
    cases (show Dp X.K F2 v (.int n) from q2)
    exact ⟨m, n, rfl, rfl, h, kk F2 H2 _ (e1.trans e2) (Dp.int _)⟩
theorem ddiv (ha : PE X x (tD X.K ρ (.d (.int m)))) (hb : PE X y (tD X.K ρ (.d (.int n)))) (h : 0 < n) (h2 : n < 1073741824) : PE X (.BinOp x .FloorDiv y pos) (tD X.K ρ (.d (.int (m / n)))) :=
  dop op_fdiv ha hb fun F H F1 H1 F2 H2 u v Q l e1 q1 e2 q2 kk => by
    cases (show Dp X.K F1 u (.int m) from q1)
    cases (show Dp X.K F2 v (.int n) from q2)
    exact ⟨m, n, rfl, rfl, ⟨h, h2⟩, kk F2 H2 _ (e1.trans e2) (Dp.int _)⟩
theorem dmul (ha : PE X x (tD X.K ρ (.d (.int m)))) (hb : PE X y (tD X.K ρ (.d (.int n)))) (h : CMul m n) : PE X (.BinOp x .Mult y pos) (tD X.K ρ (.d (.int (m * n)))) :=
  dop op_mul ha hb fun F H F1 H1 F2 H2 u v Q l e1 q1 e2 q2 kk => by
    cases (show Dp X.K F1 u (.int m) from q1)
    cases (show Dp X.K F2 v (.int n) from q2)
    exact ⟨m, n, rfl, rfl, h, kk F2 H2 _ (e1.trans e2) (Dp.int _)⟩
theorem dpow (ha : PE X x (tD X.K ρ (.d (.int m)))) (hb : PE X y (tD X.K ρ (.d (.int n)))) (h : CPow m n) : PE X (.BinOp x .Pow y pos) (tD X.K ρ (.d (.int (m ^ n.toNat)))) :=
  dop op_pow ha hb fun F H F1 H1 F2 H2 u v Q l e1 q1 e2 q2 kk => by
    cases (show Dp X.K F1 u (.int m) from q1)
    cases (show Dp X.K F2 v (.int n) from q2)
    exact ⟨m, n, rfl, rfl, h, kk F2 H2 _ (e1.trans e2) (Dp.int _)⟩
theorem dintI {p : Pos} (hg : Gl X "int") (hm : X.mg "int" = none) (hv : bootBuiltins "int" = some (.type "int")) (ha : PE X x (tD X.K ρ (.d (.int m)))) (he : starEach [x] X.env = (false, eval x X.env) :: starEach [] X.env := by rfl) : PE X (.Call (.Name "int" p) [x] [] pos) (tD X.K ρ (.d (.int m))) :=
  callT1 call_int1 (he := he) hg hm hv ha fun F H F1 H1 u Q l e1 q1 kk => .inl ⟨m, by cases (show Dp X.K F1 u (.int m) from q1); rfl, kk F1 H1 _ e1 (Dp.int _)⟩
theorem dintB {p : Pos} {b : Bool} (hg : Gl X "int") (hm : X.mg "int" = none) (hv : bootBuiltins "int" = some (.type "int")) (ha : PE X x (tD X.K ρ (.d (.bool b)))) (he : starEach [x] X.env = (false, eval x X.env) :: starEach [] X.env := by rfl) : PE X (.Call (.Name "int" p) [x] [] pos) (tD X.K ρ (.d (.int (if b then 1 else 0)))) :=
  callT1 call_int1 (he := he) hg hm hv ha fun F H F1 H1 u Q l e1 q1 kk => .inr ⟨b, by cases (show Dp X.K F1 u (.bool b) from q1); rfl, kk F1 H1 _ e1 (Dp.int _)⟩
end
end KL
/-! DLv: repr of data; defs that are called with no repr under way. -/
namespace KL
open PySem PySem.Spec L2
/-- a def's promise, where no repr is under way -/
structure FnG (P : Program) (w : World) (K : PySem.W.Frag) (mg : Str → Option Value) (base : Heap) (k : Nat) (f : Addr) (fd : FuncData) (ps : List Str) (sp : Sp) : Prop where
  len : ∀ vs H Q X, sp vs H Q X → vs.length = ps.length
  go : ∀ (A : Around) (outer : List Env) (s : Shared) (H : Hp) (args : Args) (us : List Value) (vs : List V) (Q : VK) (E : XK), A.guards = some [] → Room k A → Env0 P w K mg base A outer s H → BindsTo s fd args (ps.zip us) → Vals vs us → sp vs H Q E →
    codeAny (model P w) A (.call (.ref f) args) (CR CX0 outer P w H s Q E) s
theorem FnG.mono {P : Program} {w : World} {K : PySem.W.Frag} {mg : Str → Option Value} {base : Heap} {j k : Nat} {f : Addr} {fd : FuncData} {ps : List Str} {sp : Sp} (F : FnG P w K mg base j f fd ps sp) (h : j ≤ k) : FnG P w K mg base k f fd ps sp :=
  ⟨F.len, fun A outer s H args us vs Q E g hr => F.go A outer s H args us vs Q E g (hr.mono h)⟩
section
variable {X : Cx} {ρ : List Sl} {e : Expr} {es : List Expr} {p pos : Pos} {d : PyData}
theorem gcall_run {k : Nat} {f : Addr} {fd : FuncData} {ps : List Str} {sp : Sp} {pins : List (Addr × Obj)} {σ : L2.St} {H : Hp} {s : Shared} {Q : VK} {us : List Value} {vs : List V} (F : FnG X.prog X.w X.K X.mg X.base k f fd ps sp) (hg : X.A.guards = some []) (hr : Room k X.A) (hb : Binds X.K fd ps [])
    (I : Inv X pins σ H s) (r : Vals vs us) (h : sp vs H Q E0) : wpAny (model X.prog X.w) X.A (call (.ref f) us) (EP X pins σ Q) X.xe s := by
  have bd := hb s us I.kIn (by rw [List.append_nil, ← r.length]; exact F.len _ _ _ _ h)
  rw [List.append_nil] at bd
  refine wpAny_call (codeAny_mono (F.go X.A X.stack s H ⟨us, []⟩ us vs Q E0 hg hr I.env0 bd r h) fun res s1 q => ?_)
  match res, q with
  | .error z, q => exact pass0 pins σ H s z s1 I q
  | .ok (.ret u), q => exact I.after q
theorem gcall {k : Nat} {f : Addr} {fd : FuncData} {ps : List Str} {Rf : List D → D → Prop} {nm : Str} {dl : List D} {dd : D} (G : FnG X.prog X.w X.K X.mg X.base k f fd ps (spD X.K Rf)) (hgd : X.A.guards = some []) (hr : Room k X.A) (hg : Gl X nm) (hm : X.mg nm = some (.ref f))
    (hk : PySem.W.keepIn X.K (.ref f) = true) (hb : Binds X.K fd ps []) (ha : PA X (e :: es) (tAr X.K ρ dl)) (h : Rf dl dd) (hdb : (nm == ("__debug__" : Str)) = false := by decide) (he : starEach (e :: es) X.env = (false, eval e X.env) :: starEach es X.env := by rfl)
    (hpl : (backTo pos (starEach es X.env)).any (·.1) = false := by rfl) : PE X (.Call (.Name nm p) (e :: es) [] pos) (tD X.K ρ dd) := by
  refine ⟨fun pins s σ H Q I ⟨F, A, l, rp, kk⟩ => wpAny_Call_Name_kw (ld_glob I hg hm (PySem.W.callWith_K (h₀ := X.base) I.ok.mod.kin hk (thn (ha.run pos pins s σ H (fun vs H1 => spD X.K Rf vs H1 Q E0) I ?_) fun us s1 ⟨vs, H1, I1, r, q⟩ => ⟨I1.kIn, gcall_run G hgd hr hb I1 r q⟩) he hpl) hdb)⟩
  exact ⟨F, A, l, rp, fun F1 H1 vs e1 q1 => ⟨F1, dl, dd, e1.fh, q1, h, fun F2 H2 v e2 q2 => kk F2 H2 v (e1.trans e2) q2⟩⟩
end
section
variable {mg : Str → Option Value} {base : Heap} {P : Program} {w : World} {K : PySem.W.Frag}
theorem fn_g {k : Nat} {f : Addr} {name qual : Str} {params : Arguments} {body : List Stmt} {scope : Scope} {dV kV doc pm cdv ct oc : Value} {an od : Option Addr} {osl : Array (Option Value)} {N ps : List Str} {sp : Sp}
    (lk : K.lookup f = some ⟨oc, od, .func (PySem.W.fnOf name qual params body scope dV kV doc pm an cdv ct), osl⟩) (hcd : PySem.W.codeIn K cdv qual = true) (S : FnScope N ps scope) (len : ∀ vs H Q E, sp vs H Q E → vs.length = ps.length)
    (body_ok : ∀ (A : Around) (outer : List Env) (s : Shared) (H : Hp) (vs : List V) (Q : VK) (E : XK), A.guards = some [] → Room k (A.deeper (PyProof.Rows.envOfC qual scope s.heap.objs.size f cdv)) → sp vs H Q E →
      ∃ t, PSs (cxOf CX0 P w K mg base N qual scope f cdv A outer s H E) body t ∧ t { nx := fun _ H' => Q .non H', rt := Q } (L2.start N vs) H) :
    FnG P w K mg base (k + 1) f (PySem.W.fnOf name qual params body scope dV kV doc pm an cdv ct) ps sp := by
  refine ⟨len, fun A outer s H args us vs Q E g hr env bind rv q => ?_⟩
  have hl := len vs H Q E q
  have kin : K.In s.heap := env.mod.kin.keeps fun b o z => (env.bs b o z).1
  have lim : s.heap.NoLimit := env.mod.nolimit.keeps fun b o z => (env.bs b o z).1
  refine codeAny_call_function hr.depth (kin f _ lk) rfl S.co S.gen rfl (PySem.W.codeRec_of kin hcd) (bind _ _ _ _ (wpAny_newFunctionEnv_cells S.kind (fun y hy => ?_) fun env1 e1 s1 x1 => ?_))
  · obtain ⟨n, v⟩ := y
    exact (S.par n (List.of_mem_zip hy).1).imp id fun z => ⟨z, PySem.W.cellsFrom_some _ _ _ (.inl z)⟩
  · subst e1
    obtain ⟨t, ht, hq⟩ := body_ok A outer s H vs Q E g (hr.deeper _) q
    have I0 : Inv (cxOf CX0 P w K mg base N qual scope f cdv A outer s H E) [] (L2.start N vs) H s1 := inv_start S hr.hd env hl rv x1
    refine ⟨lim.keeps x1.toInCall.keep, codeAny_func (wpAny_mono (ht.run [] s1 _ H _ I0 hq) (fun fl s2 z => ?_) fun _ _ z => z)⟩
    match fl, z with
    | .ret u, ⟨v, σ2, H2, J, r, z⟩ => exact ⟨v, H2, J.os, J.bare, J.base, J.hok, r, z⟩
    | .next, ⟨σ2, H2, J, z⟩ => exact ⟨.non, H2, J.os, J.bare, J.base, J.hok, rfl, z⟩
    | .brk, ⟨_, _, _, z⟩ => exact z.elim
    | .cont, ⟨_, _, _, z⟩ => exact z.elim
end
end KL
/-! DLw: small data; repr. -/
namespace KL
open PySem PySem.Spec L2
/-- small data: truth values, short texts, short lists and tuples of these, n deep -/
def sm : Nat → PyData → Bool
  | 0, _ => false
  | _ + 1, .bool _ => true
  | _ + 1, .str x => PyData.strOk x && decide (x.cps.size ≤ 10)
  | n + 1, .list xs => decide (xs.length ≤ 12) && xs.all (sm n)
  | n + 1, .tuple xs => decide (xs.length ≤ 12) && xs.all (sm n)
  | _ + 1, _ => false
def smW : Nat → Nat
  | 0 => 0
  | n + 1 => 10 + 12 * (smW n + 1)
structure SmOk (n : Nat) (d : PyData) : Prop where
  lay : d.canLay0 = true
  dep : d.depth ≤ n
  wt : d.weight ≤ smW n
  sh : d.showable = true
  dict : d.hasDict = false
  ishort : d.intsShort 13 = true
  eqrefl : PyData.eqv d d = true
theorem smAll {n : Nat} : ∀ {xs : List PyData}, (∀ d ∈ xs, SmOk n d) → PyData.canLayAll0 xs = true ∧ PyData.depthAll xs ≤ n ∧ PyData.weightAll xs ≤ xs.length * (smW n + 1) ∧ PyData.showableAll xs = true ∧ PyData.hasDictAll xs = false ∧ PyData.intsShortAll 13 xs = true ∧ PyData.eqvAll xs xs = true
  | [], _ => ⟨by simp [PyData.canLayAll0], by simp [PyData.depthAll], by simp [PyData.weightAll], rfl, rfl, rfl, by simp [PyData.eqvAll]⟩
  | x :: xs, h => by
    have hx := h x List.mem_cons_self
    obtain ⟨a1, a2, a3, a4, a5, a6, a7⟩ := smAll (n := n) (xs := xs) fun d hd => h d (List.mem_cons_of_mem _ hd)
    have h2 := hx.dep
    have h3 := hx.wt
    refine ⟨by simp [PyData.canLayAll0, hx.lay, a1], ?_, ?_, by simp [PyData.showableAll, hx.sh, a4], by simp [PyData.hasDictAll, hx.dict, a5], by simp [PyData.intsShortAll, hx.ishort, a6], by rw [PyData.eqvAll, hx.eqrefl, a7]; rfl⟩
    · simp only [PyData.depthAll]
      omega
    · simp only [PyData.weightAll, List.length_cons, Nat.add_mul]
      omega
theorem sm_ok : ∀ {n : Nat} {d : PyData}, sm n d = true → SmOk n d
  | 0, _, h => nomatch h
  | n + 1, d, h => by
    have mul : ∀ {k : Nat}, k ≤ 12 → k * (smW n + 1) ≤ 12 * (smW n + 1) := fun hk => Nat.mul_le_mul_right _ hk
    match d, h with
    | .bool b, _ => exact ⟨by simp [PyData.canLay0], by simp [PyData.depth], by simp [PyData.weight], rfl, rfl, rfl, by simp [PyData.eqv]⟩
    | .str x, h =>
      have h' : PyData.strOk x = true ∧ x.cps.size ≤ 10 := by simpa [sm] using h
      exact ⟨by simp [PyData.canLay0, h'.1], by simp [PyData.depth], by simp only [PyData.weight, smW]; omega, rfl, rfl, rfl, by simp [PyData.eqv]⟩
    | .list xs, h =>
      have h' : xs.length ≤ 12 ∧ ∀ d ∈ xs, sm n d = true := by simpa [sm] using h
      obtain ⟨a1, a2, a3, a4, a5, a6, a7⟩ := smAll fun d hd => sm_ok (h'.2 d hd)
      have := mul h'.1
      exact ⟨by simp [PyData.canLay0, a1], by simp only [PyData.depth]; omega, by simp only [PyData.weight, smW]; omega, by simpa [PyData.showable] using a4, by simpa [PyData.hasDict] using a5, by simpa [PyData.intsShort] using a6, by rw [PyData.eqv, a7]⟩
    | .tuple xs, h =>
      have h' : xs.length ≤ 12 ∧ ∀ d ∈ xs, sm n d = true := by simpa [sm] using h
      obtain ⟨a1, a2, a3, a4, a5, a6, a7⟩ := smAll fun d hd => sm_ok (h'.2 d hd)
      have := mul h'.1
      exact ⟨by simp [PyData.canLay0, a1], by simp only [PyData.depth]; omega, by simp only [PyData.weight, smW]; omega, by simpa [PyData.showable] using a4, by simpa [PyData.hasDict] using a5, by simpa [PyData.intsShort] using a6, by rw [PyData.eqv, a7]⟩
theorem sm_shaped {d : PyData} (h : sm 5 d = true) : SeqAt.shaped d = true := by
  have k := sm_ok h
  show (d.canLay0 && decide (d.depth ≤ 64)) = true
  rw [k.lay, decide_eq_true (Nat.le_trans k.dep (by decide))]
  rfl
theorem sm_len {d : PyData} (h : sm 5 d = true) : d.shown.length ≤ sizeLine := by
  have k := sm_ok h
  have l : PyData.layable0 d = true := by
    show (d.canLay0 && decide (d.depth ≤ 64) && decide (d.weight ≤ 2 ^ 20)) = true
    rw [k.lay, decide_eq_true (Nat.le_trans k.dep (by decide)), decide_eq_true (Nat.le_trans k.wt (by decide))]
    rfl
  exact Nat.le_trans (PyData.shown_le_of_layable0 l k.ishort) (by decide)
def noStr : PyData → Bool
  | .bool _ | .list _ | .tuple _ => true
  | _ => false
def rRepr (K : PySem.W.Frag) : List V → Hp → VK → Prop := fun vs H Q => ∃ v d, vs = [v] ∧ Dp K H v d ∧ sm 5 d = true ∧ noStr d = true ∧ Q (.str d.shown) H
section
variable {X : Cx} {ρ : List Sl} {e : Expr} {es : List Expr} {p pos : Pos} {d : PyData}
theorem cr_repr (hg : X.A.guards = some []) (hu : X.A.units + 64 < cLine) : CallR X (.builtin "repr") (rRepr X.K) := by
  intro pins s σ H vs us Q I r ⟨v, d, ev, dp, hs, hn, q⟩
  subst ev
  obtain ⟨u, rfl, rv⟩ := vals1 r
  have k := sm_ok hs
  have kd := k.dep
  obtain ⟨as, rd⟩ := Dp.reads I _ _ _ dp rv
  have onref : ∀ a, u = .ref a → wpAny (model X.prog X.w) X.A (call (.builtin "repr") [u]) (EP X pins σ Q) X.xe s := fun a ea => by
    subst ea
    exact repr_of_reads' (h₀ := s.heap) rd k.sh (fun z => by rw [k.dict] at z; cases z) hg (by omega) (fun _ _ z => z) (fun h' t tk old => ⟨.str d.shown, H, I.kept old, ⟨t, rfl⟩, q⟩) (sm_len hs)
  cases dp with
  | bl b =>
    cases rv
    exact PySem.P.repr_of_bool ⟨.str (PyData.bool b).shown, H, I.tok _, ⟨_, rfl⟩, q⟩
  | lst => exact onref _ rv
  | tup => exact onref _ rv
  | non => cases hn
  | int => cases hn
  | str => cases hn
theorem dreprX (hgd : X.A.guards = some []) (hu : X.A.units + 64 < cLine) (hg : Gl X "repr") (hm : X.mg "repr" = none) (ha : PE X e (tX X.K ρ d)) (hs : sm 5 d = true) (hn : noStr d = true) (he : starEach [e] X.env = (false, eval e X.env) :: starEach [] X.env := by rfl) : PE X (.Call (.Name "repr" p) [e] [] pos) (tD X.K ρ (.d (.str d.shown))) :=
  call1 (cr_repr hgd hu) (he := he) hg hm (by decide +kernel) ha fun F H F1 H1 x Q l e1 q1 k => ⟨x, d, rfl, q1, hs, hn, k F1 H1 _ e1 (Dp.str _)⟩
end
section
variable {mg : Str → Option Value} {base : Heap} {P : Program} {w : World} {K : PySem.W.Frag}
theorem def_ofG {x qual : Str} {st : Stmt} {f : Addr} {fd : FuncData} {N ps : List Str} {k : Nat} {R : List D → D → Prop} (F : Fun K x qual st f fd) (S : FnScope N ps (defScope st)) (hl : ∀ ds d, R ds d → ds.length = ps.length)
    (hb : ∀ (cdv : Value) (A : Around) (outer : List Env) (s : Shared) (H : Hp) (E : XK), A.guards = some [] → Room k (A.deeper (PyProof.Rows.envOfC qual (defScope st) s.heap.objs.size f cdv)) → ∀ ds d, R ds d →
      PSs (cxOf CX0 P w K mg base N qual (defScope st) f cdv A outer s H E).nox (defBody st) (tW K (startR N ds) (.rt (· = d)))) : FnG P w K mg base (k + 1) f fd ps (spD K R) := by
  obtain ⟨⟨oc, od, kV, doc, pm, an, cdv, ct, osl, rfl, lk, hcd⟩, _⟩ := F
  refine fn_g lk hcd S (fun vs H Q E ⟨F, ds, d, l, q, r, _⟩ => ?_) (fun A outer s H vs Q E g hr ⟨F, ds, d, l, q, r, kk⟩ => ⟨_, (hb cdv A outer s H E g hr ds d r).nox, F, [], l, ⟨?_, fun _ z => nomatch z⟩, fun F' H' v d' A' st p is => kk F' H' v st.ext (by rw [← p]; exact is)⟩)
  · rw [← hl ds d r]; exact Paired.length q
  · unfold startR L2.start
    rw [Paired.length q]
    exact rep_start _ q
structure CalG (P : Program) (w : World) (K : PySem.W.Frag) (mg : Str → Option Value) (base : Heap) (k : Nat) (nm : Str) (R : List D → D → Prop) : Prop where
  ex : ∃ (f : Addr) (fd : FuncData) (ps : List Str), mg nm = some (.ref f) ∧ PySem.W.keepIn K (.ref f) = true ∧ Binds K fd ps [] ∧ FnG P w K mg base k f fd ps (spD K R)
theorem CalG.mono {j k : Nat} {nm : Str} {R : List D → D → Prop} (G : CalG P w K mg base j nm R) (h : j ≤ k) : CalG P w K mg base k nm R := by
  obtain ⟨f, fd, ps, h1, h2, h3, h4⟩ := G.ex
  exact ⟨f, fd, ps, h1, h2, h3, h4.mono h⟩
end
theorem callG {X : Cx} {ρ : List Sl} {e : Expr} {es : List Expr} {p pos : Pos} {d : D} {dl : List D} {k : Nat} {nm : Str} {R : List D → D → Prop} (G : CalG X.prog X.w X.K X.mg X.base k nm R) (hgd : X.A.guards = some []) (hr : Room k X.A) (ha : PA X (e :: es) (tAr X.K ρ dl)) (h : R dl d) (hg : Gl X nm := by rfl) (hdb : (nm == ("__debug__" : Str)) = false := by decide)
    (he : starEach (e :: es) X.env = (false, eval e X.env) :: starEach es X.env := by rfl) (hpl : (backTo pos (starEach es X.env)).any (·.1) = false := by rfl) : PE X (.Call (.Name nm p) (e :: es) [] pos) (tD X.K ρ d) := by
  obtain ⟨f, fd, ps, h1, h2, h3, h4⟩ := G.ex
  exact gcall h4 hgd hr hg h1 h2 h3 ha h hdb he hpl
end KL
/-! DLx: enumerate of a tuple. -/
namespace KL
open PySem PySem.Spec L2 AutoSeq1
theorem enum_newT (t : Addr) (items : Array Value) (n : Nat) (dct : Option Addr) (sl : Array (Option Value)) :
    Meets (Builtin.«enumerate.__new__» ⟨[.type "enumerate", .ref t], []⟩) (fun _ R s => s.heap.get? t = some { cls := .type "tuple", dict := dct, data := .seq items n, slots := sl } ∧
      R (.ok (.ret (.ref (s.heap.push { cls := .type "tuple_iterator", data := .fields #[.ref t, .int 0 0] }).objs.size)))
        { s with heap := (s.heap.push { cls := .type "tuple_iterator", data := .fields #[.ref t, .int 0 0] }).push { cls := .type "enumerate", data := .fields #[.none, .bool false, .ref s.heap.objs.size, rawInt 0, .none, .none] } }) :=
  .of_wp fun prog w A Res s h => by
    rcases s with ⟨hp, g, d, tk, os⟩
    obtain ⟨ht, h⟩ := h
    have sub0 := sub_enumerate
    have tT : Heap.IsTuple (Shared.heap ⟨hp, g, d, tk, os⟩) t items := ⟨_, ht, rfl, n, rfl⟩
    wp_walk using wpAny_loadPart' ht
    refine wpAny_stack_any fun _ => wpAny_pure ?_
    split
    · rename_i c _ _ _ _ _
      cases (c == Value.type "enumerate") <;> wp_walk using wpAny_loadPart' ht, wpAny_pyIter_tuple tT <;> exact ⟨_, rfl, h⟩
    · wp_walk using wpAny_loadPart' ht, wpAny_pyIter_tuple tT
      exact ⟨_, rfl, h⟩
section
variable {s : Shared} {E : Value → Shared → Prop} {A : Around} {w : World} {P : Program}
theorem call_enumT {t : Addr} {items : Array Value} {Q : Value → Shared → Prop} (hT : s.heap.IsTuple t items)
    (h : ∀ h', IsEnum h' (s.heap.objs.size + 1) s.heap.objs.size 0 .none → h'.IsTupleIter s.heap.objs.size t 0 → (∀ b o, s.heap.get? b = some o → h'.get? b = some o) → Q (.ref (s.heap.objs.size + 1)) { s with heap := h' }) :
    wpAny (model P w) A (call (.type "enumerate") [.ref t]) Q E s := by
  obtain ⟨⟨c, dct, dt, sl⟩, e, ec, n, ed⟩ := hT
  have ec : c = .type "tuple" := ec
  have ed : dt = .seq items n := ed
  subst ec ed
  refine callType_new F.called_enumerate (by decide) (F.typeCall_enumerate_1 _) (F.newCall_enumerate_1 _) (fun obj => F.args_object_init_2 obj _) F.entry_enumerate_new (enum_newT t items n dct sl) ⟨e, ?_⟩
  have z : (s.heap.push { cls := .type "tuple_iterator", data := .fields #[.ref t, .int 0 0] }).objs.size = s.heap.objs.size + 1 := Heap.size_push ..
  show _ ∧ _
  rw [z]
  have he : IsEnum ((s.heap.push { cls := .type "tuple_iterator", data := .fields #[.ref t, .int 0 0] }).push { cls := .type "enumerate", data := .fields #[.none, .bool false, .ref s.heap.objs.size, rawInt 0, .none, .none] }) (s.heap.objs.size + 1) s.heap.objs.size 0 .none := by
    have q := Heap.get?_push_size (s.heap.push { cls := .type "tuple_iterator", data := .fields #[.ref t, .int 0 0] }) (o := { cls := .type "enumerate", data := .fields #[.none, .bool false, .ref s.heap.objs.size, rawInt 0, .none, .none] }) rfl
    rw [z] at q
    exact q
  exact ⟨⟨_, he, rfl⟩, h _ he ⟨_, Heap.get?_push_of_some _ (Heap.get?_push_size _ rfl), rfl, rfl⟩ fun b o x => Heap.get?_push_of_some _ (Heap.get?_push_of_some _ x)⟩
end
def ItT (K : PySem.W.Frag) (a : Addr) : It :=
  ⟨fun i H => ∃ (xs : List V) (x : V), SqT K H a xs ∧ xs[i]? = some x, fun i H v H' => ∃ T x, v = .ref T ∧ H T = none ∧ H' = upd H T (.tup [.int (i : Nat), x]) ∧ ∀ xs, SqT K H a xs → xs[i]? = some x, fun i H => ∃ xs : List V, SqT K H a xs ∧ xs.length ≤ i⟩
theorem turn_enumT {P : Program} {w : World} {K : PySem.W.Frag} {elts : List Expr} {kk : Nat} {tpos : Pos} (a e it : Addr) :
    Turn P w K (.Tuple elts kk tpos) (ItT K a) [e, it] e (fun i h => (∃ old, IsEnum h e it ((i : Nat) : Int) old) ∧ h.IsTupleIter it a i ∧ e ≠ it ∧ a ≠ e ∧ a ≠ it) where
  mem := by simp
  obj := fun i h st b hb => by
    rcases st with ⟨⟨old, he⟩, ⟨o, ho, hc, hd⟩, _⟩
    obtain z | z := List.mem_cons.mp hb
    · rewrite [z]; exact ⟨_, he, fun v q => nomatch q⟩
    · rw [List.mem_singleton.mp z]; exact ⟨o, ho, fun v q => by rw [hd] at q; cases q⟩
  keep := fun i h h2 st kept => by
    obtain ⟨⟨old, he⟩, hit, apart⟩ := st
    exact ⟨⟨old, kept e (by simp) _ he⟩, hit.at fun o q => kept it (by simp) o q, apart⟩
  item := by
    intro X hP hw hK hc i pins s σ H E I; intro hf st hg
    subst hP hw hK
    obtain ⟨⟨old, he⟩, hit, hne, ae, ai⟩ := st
    obtain ⟨xs, x, hq, hx⟩ := hg
    rcases I.tuple hq with ⟨its, rv, p, hz⟩
    rcases rv.get hx with ⟨u, hu, ru⟩
    have le1 : e < s.heap.objs.size := Heap.lt_size he
    have li1 : it < s.heap.objs.size := let ⟨_, q, _⟩ := hit; Heap.lt_size q
    have D := Draws.tuple (prog := X.prog) (w := X.w) (A := X.A.in1) (by exact I.ok.hd hc) it a ai its.toArray
    have ilt : i < its.toArray.size := by
      have := (List.getElem?_eq_some_iff.mp hu).1
      simpa using this
    refine wpAny_pyNext_enum_itemD D he ⟨hit, show s.heap.IsTuple a its.toArray from p⟩ ilt hne (by rw [List.mem_cons, List.mem_singleton]; exact fun z => z.elim hne fun q => ae q.symm) fun y h' tk hy ho hs' hT hsz hk => ?_
    have ey : y = u := by
      have hy' : its.toArray[i]? = some y := hy
      rw [List.getElem?_toArray, hu] at hy'
      exact (Option.some.inj hy').symm
    subst ey
    refine ⟨_, rfl, wpAny_letOwnedTupleGo_enum (s := { s with heap := h', toks := tk + 1 }) ho fun h'' he' sb => ?_⟩
    have hT2 : h''.get? s.heap.objs.size = some { cls := .type "tuple", data := .seq #[.int i tk, y] } := (sb.2 _ (Nat.ne_of_gt le1)).trans hT
    have made : ObjOk X.prog X.w (upd H s.heap.objs.size (.tup [.int (i : Nat), x])) h'' s.heap.objs.size (.tup [.int (i : Nat), x]) :=
      ⟨small rfl, [.int i tk, y], .cons ⟨_, rfl⟩ (.cons ru .nil), ⟨_, hT2, rfl, _, rfl⟩⟩
    have I1 : Inv X pins σ (upd H s.heap.objs.size (.tup [.int (i : Nat), x])) { s with heap := h'', toks := tk + 1 } :=
      I.turnedNew (ch := [e, it]) (fun b ob out q => by
        have ne : b ≠ e := fun z => out (by simp [z])
        have ni : b ≠ it := fun z => out (by simp [z])
        exact (sb.2 b ne).trans (hk b ob ne ni q)) hf (Nat.le_refl _) made
    refine ⟨.ref s.heap.objs.size, _, I1, rfl, ⟨_, x, rfl, I.hok.fresh (Nat.le_refl _), rfl, fun ys hy => by rw [I.tuple_inj hy hq]; exact hx⟩, ⟨⟨y, ?_⟩, hs'.1.at fun o q => (sb.2 it (Ne.symm hne)).trans q, hne, ae, ai⟩, fun b hb => ?_⟩
    · rw [show ((i + 1 : Nat) : Int) = (i : Int) + 1 by omega]
      exact he'
    · have lb : b < s.heap.objs.size := by
        obtain z | z := List.mem_cons.mp hb
        · rw [z]; exact le1
        · rw [List.mem_singleton.mp z]; exact li1
      rw [upd_ne (Nat.ne_of_lt lb)]
      exact (hf b hb).1
  done := by
    intro X hP hw hK hc i pins s σ H E I; intro hf st hg
    subst hP hw hK
    obtain ⟨⟨old, he⟩, hit, hne, ae, ai⟩ := st
    obtain ⟨xs, hq, hx⟩ := hg
    rcases I.tuple hq with ⟨its, rv, p, hz⟩
    rcases hf it (by simp) with ⟨f0, f1, f2, f3, f4, f5⟩
    have hl := rv.length
    have ty : s.TypeIs (.ref e) "enumerate" := ⟨_, he, rfl⟩
    unfold pyNext
    refine wpAny_bind (wpAny_attempt (wpAny_callSpecial?_slot (name := Str.ofString "__next__") ty F.slot_enumerate_next (wpAny_call_entry F.slot_enumerate_next ty F.entry_enumerate_next ?_ (F.args_enumerate_next_1 _))))
    show wpAny _ _ (field (.ref e) 2 >>= _) _ _ _; refine wpAny_bind (wpAny_field he rfl (x := .ref it) rfl (wpAny_bind (wpAny_nextOf_tuple_end (items := its.toArray) (by exact I.ok.hd hc) hit (show s.heap.IsTuple a its.toArray from p) (by simp; omega) fun h' y eb ⟨o, ho, oc⟩ => ?_)))
    exact wpAny_bind (wpAny_isInstance (T := "StopIteration") (b := true) ⟨o, ho, oc⟩ isSubtype_stop (wpAny_pure ⟨rfl, I.turned (t' := s.toks) (fun b o hb q => eb b o hb q) f0 f1 f3 f4 f5⟩))
  self := fun A i s Q Er st h => by
    obtain ⟨⟨_, he⟩, _⟩ := st
    exact wpAny_pyIter_enum he h
def iEnumT (K : PySem.W.Frag) (ta : TA) : TI := fun σ H R => ta σ H fun vs H1 => ∃ a xs, vs = [.ref a] ∧ SqT K H1 a xs ∧ R (ItT K a) H1
section
variable {X : Cx} {ρ : List Sl} {e : Expr} {ta : TA} {p pos tpos : Pos} {elts : List Expr} {kk : Nat} {ds : List PyData} {c : Bool}
theorem pi_enumT (hg : Gl X "enumerate") (hm : X.mg "enumerate" = none) (ha : PA X [e] ta) (hs : starEach [e] X.env = [(false, eval e X.env)] := by rfl) : PI X (.Tuple elts kk tpos) (.Call (.Name "enumerate" p) [e] [] pos) (iEnumT X.K ta) := by
  refine ⟨fun pins s σ H Z I h => ?_⟩
  refine PyProof.Rows.Call_ (ld_blt I hg hm PyProof.Rows.boot_enumerate (PyProof.Rows.callWith_type1 (thn (ha.run pos pins s σ H _ I h) fun us s1 ⟨vs, H1, I1, r1, q1⟩ => ?_) hs rfl))
  rcases q1 with ⟨a, xs, ex, hq, q⟩
  subst ex
  rw [Vals.ref1 r1]
  obtain ⟨its, rv, p1, hz⟩ := I1.tuple hq
  have p2 : s1.heap.IsTuple a its.toArray := p1
  have la : a < s1.heap.objs.size := let ⟨_, q, _⟩ := p2; Heap.lt_size q
  refine call_enumT p2 fun h' he hit hk => wpAny_pyIter_enum he ?_
  refine ⟨s1.heap.objs.size + 1, [s1.heap.objs.size + 1, s1.heap.objs.size], _, _, H1, rfl, I1.kept (t' := s1.toks) hk, turn_enumT a (s1.heap.objs.size + 1) s1.heap.objs.size, ⟨⟨.none, he⟩, hit, Nat.succ_ne_self _, Nat.ne_of_lt (Nat.lt_succ_of_lt la), Nat.ne_of_lt la⟩, fun b hb => ?_, q⟩
  have le : s1.heap.objs.size ≤ b := by
    obtain z | z := List.mem_cons.mp hb
    · rewrite [z]; exact Nat.le_add_right _ _
    · rw [List.mem_singleton.mp z]; exact Nat.le_refl _
  exact I1.fpOk le (I1.hok.fresh le)
theorem walks_enumT {K : PySem.W.Frag} {F1 H1 : Hp} {A : List Addr} {a : Addr} {xs : List V} {ds : List PyData} (hs : ∀ F H A', StEx F1 H1 A F H A' → SqT K H a xs) (dp : DpAll K F1 xs ds) : Walks K (ItT K a) F1 H1 A (enumD ds) := fun i F H A' st => by
  have s := hs F H A' st
  refine ⟨fun hi => ⟨xs, s, by rw [DpAll.len dp, ← enumD_length ds]; exact hi⟩, fun d e => ?_⟩
  obtain ⟨z, ez, rfl⟩ := enumD_get e
  obtain ⟨v, h1, h2⟩ := dpAll_get dp ez
  refine ⟨⟨xs, v, s, h1⟩, fun x H' ⟨T, y, ex, n, eH, yy⟩ => ?_⟩
  subst ex eH
  have q := yy xs s
  rw [h1] at q
  cases q
  obtain ⟨e2, l2⟩ := new_fr (.refl st.fh) (o := .tup [.int (i : Nat), v]) n trivial
  exact ⟨_, e2, .tup (.inl (.inl upd_same)) (.cons (.int _) (.cons (l2.dp (st.ff.dp h2)) .nil))⟩
theorem i_enumT (hg : Gl X "enumerate") (hm : X.mg "enumerate" = none) (h : PE X e (tD X.K ρ (.d (.tuple ds)))) (hs : starEach [e] X.env = [(false, eval e X.env)] := by rfl) : PI X (.Tuple elts kk tpos) (.Call (.Name "enumerate" p) [e] [] pos) (tI X.K ρ c (enumD ds)) :=
  (pi_enumT hg hm (pa_cons h pa_nil hs) hs).imp fun σ H R ⟨F, A, l, rp, k⟩ => ⟨F, A, l, rp, fun F1 H1 v e1 q => by
    have q' : Dp X.K F1 v (.tuple ds) := q
    cases q' with
    | tup s dp => exact ⟨_, _, rfl, e1.fh.sqT s, k F1 H1 _ e1 (walks_enumT (fun F H A' st => (st.ff.trans st.fh).sqT s) dp)⟩⟩
end
end KL
/-! DLy: an owned dict of owned dicts: items put into an inner one. -/
namespace KL
open PySem PySem.Spec L2
section
variable {X : Cx}
def rUpd : V → List V → Hp → VK → Prop := fun x vs H Q => ∃ (d o : Addr) (kvs more : List (Key × V)), x = .ref d ∧ vs = [.ref o] ∧ H d = some (.dK kvs) ∧ Rd H o (.dK more) ∧ d ≠ o ∧ kvs.length + more.length ≤ sizeLine ∧ Q .non (upd H d (.dK (mergeK kvs more)))
theorem mt_upd : MtR X "dict.update" rUpd := by
  intro pins s σ H x vs v us Q I rx rv ⟨d, o, kvs, more, ex, ev, hd, ho, hne, hz, q⟩
  subst ex ev
  cases rx
  rw [Vals.ref1 rv]
  obtain ⟨z1, n1, vs1, r1, d1⟩ := dk_of I.hok hd
  obtain ⟨z2, n2, vs2, r2, d2⟩ := dk_rd I.hok ho
  refine call_meetsIn PySem.F.slot_dict_update d1.typeIs PySem.F.entry_dict_update (PySem.F.args_dict_update_2 _ _) (meets_dict_update (mixKind X.prog X.w) d o hne n2) ⟨vs1, vs2, d1, d2, by rw [← r1.length, ← r2.length]; exact hz, fun h' m1 _ sb => ?_⟩
  have he : ∃ u, h'.get? d = some u := let ⟨u, _, _, hu, _⟩ := m1; ⟨u, hu⟩
  have hl : (mergeK kvs more).length ≤ sizeLine := Nat.le_trans (length_mergeK more kvs) hz
  exact ⟨.non, _, d_write (t' := s.toks) I (by rw [hd]; trivial) sb he (dk_new hl n1 (KV.merge r2 r1) m1), rfl, q⟩
end
/-- a new dict of one item -/
def RN1 (K : PySem.W.Frag) (k : Key) (y : PyData) : RK := fun F H F' H' v => ∃ p u, v = .ref p ∧ H p = none ∧ H' p = some (.dK [(k, u)]) ∧ Dp K F' u y
section
variable {X : Cx} {ρ : List Sl} {e i1 : Expr} {p pos : Pos} {k : Key} {y : PyData} {kvs : List (Key × List (Key × PyData))}
theorem dict1 (hc : X.calm = true) (hg : Gl X "dict") (hm : X.mg "dict" = none) (hv : bootBuiltins "dict" = some (.type "dict")) (ha : PE X e (tS X.K ρ [.tuple [keyD k, y]])) (he : starEach [e] X.env = (false, eval e X.env) :: starEach [] X.env := by rfl) : PE X (.Call (.Name "dict" p) [e] [] pos) (tR X.K ρ (RN1 X.K k y)) :=
  callT1 (call_dictP hc) (he := he) hg hm hv ha fun F H F1 H1 x Q l e1 ⟨a, xs, ev, sq, dp⟩ kk => by
    cases dp with
    | cons h t =>
      cases t
      cases h with
      | tup s2 dp2 =>
        cases dp2 with
        | cons h1 t1 =>
          cases t1 with
          | cons h2 t2 =>
            cases t2
            rename_i pa vk vy
            have ek := dp_key h1
            refine ⟨a, [_], [(k, vy)], by rw [ev], sq, .cons (by rw [← ek]; exact e1.fh.sqT s2) .nil, fun q n => ?_⟩
            exact kk F1 _ _ (e1.trans (.newH e1.fh n)) ⟨q, vy, rfl, e1.hh.free n, by rw [upd_same]; rfl, h2⟩
def putK2 (kvs : List (Key × List (Key × PyData))) (k k2 : Key) (y : PyData) : List (Key × List (Key × PyData)) := kvs.map fun p => if p.1 = k then (p.1, p.2 ++ [(k2, y)]) else p
theorem putK2_none {k k2 : Key} {y : PyData} : ∀ {kvs : List (Key × List (Key × PyData))}, k ∉ kvs.map (·.1) → putK2 kvs k k2 y = kvs
  | [], _ => rfl
  | q :: r, h => by
    have h1 : ¬ q.1 = k := fun z => h (by rw [List.map_cons, z]; exact List.mem_cons_self)
    have h2 := putK2_none (y := y) (k2 := k2) (kvs := r) fun z => h (List.mem_cons_of_mem _ z)
    unfold putK2 at h2 ⊢
    rw [List.map_cons, if_neg h1, h2]
theorem kdat_keys {κ : Type} {K : PySem.W.Frag} {F : Hp} {ws : List (κ × V)} {q : List (κ × PyData)} (h : KDat K F ws q) : ws.map (·.1) = q.map (·.1) := by
  induction h with
  | nil => rfl
  | cons h t ih => rw [List.map_cons, List.map_cons, h.1, ih]
theorem merge_one {ws : List (Key × V)} {k2 : Key} {u : V} (n : k2 ∉ ws.map (·.1)) : mergeK ws [(k2, u)] = ws ++ [(k2, u)] := by
  show putK ws k2 u = ws ++ [(k2, u)]
  unfold putK
  rw [if_neg]
  intro z
  obtain ⟨p, hp, hq⟩ := List.any_eq_true.mp z
  exact n (List.mem_map.mpr ⟨p, hp, of_decide_eq_true hq⟩)
theorem OwO.change {K : PySem.W.Frag} {F H : Hp} {k k2 : Key} {y : PyData} {v : V} (hy : Dp K F v y) : ∀ {kvs : List (Key × List (Key × PyData))} {vs : List (Key × V)} {bs : List Addr}, OwO K F H kvs vs bs → (kvs.map (·.1)).Nodup → k ∈ kvs.map (·.1) →
    ∃ b ws q, valV vs k = some (.ref b) ∧ b ∈ bs ∧ H b = some (.dK ws) ∧ KDat K F ws q ∧ (k, q) ∈ kvs ∧ OwO K F (upd H b (.dK (ws ++ [(k2, v)]))) (putK2 kvs k k2 y) vs bs
  | _, _, _, .nil, _, m => nomatch m
  | _, _, _, @OwO.cons _ _ _ k0 q0 kvs vs b bs ws e d n t, nd, m => by
    have nd' := (List.nodup_cons.mp (show (k0 :: kvs.map (·.1)).Nodup from nd))
    by_cases hk : k0 = k
    · subst hk
      refine ⟨b, ws, q0, valV_pos rfl, List.mem_cons_self, e, d, List.mem_cons_self, ?_⟩
      have z1 : putK2 ((k0, q0) :: kvs) k0 k2 y = (k0, q0 ++ [(k2, y)]) :: kvs := by
        have z := putK2_none (k2 := k2) (y := y) nd'.1
        unfold putK2 at z ⊢
        rw [List.map_cons, z]
        simp
      rw [z1]
      exact .cons upd_same (kdat_append d (.cons ⟨rfl, hy⟩ .nil)) n (t.mono (.refl F) fun c z => upd_ne fun w => n (by rw [← w]; exact z))
    · have m' : k ∈ kvs.map (·.1) := (List.mem_cons.mp m).resolve_left fun z => hk z.symm
      obtain ⟨b', ws', q', h1, h2, h3, h4, h5, h6⟩ := OwO.change (k2 := k2) hy t nd'.2 m'
      refine ⟨b', ws', q', by rw [valV_neg hk]; exact h1, List.mem_cons_of_mem _ h2, h3, h4, List.mem_cons_of_mem _ h5, ?_⟩
      have z1 : putK2 ((k0, q0) :: kvs) k k2 y = (k0, q0) :: putK2 kvs k k2 y := by
        unfold putK2
        rw [List.map_cons, if_neg hk]
      rw [z1]
      exact .cons (by rw [upd_ne fun w => n (by rw [w]; exact h2)]; exact e) d n h6
theorem Rep.oo {K : PySem.W.Frag} {F H : Hp} {σ : L2.St} {A : List Addr} (h : Rep K F H ρ σ A) {i : Nat} (e : ρ[i]? = some (.oo kvs)) : ∃ a vs bs, σ[i]? = some (some (.ref a)) ∧ (∀ b ∈ a :: bs, b ∈ A) ∧ a ∉ bs ∧ H a = some (.dK vs) ∧ OwO K F H kvs vs bs := by
  obtain ⟨z, B, e2, ⟨a, vs, bs, e3, e4, n, eH, o⟩, sub⟩ := h.rl.at e
  exact ⟨a, vs, bs, by rw [e2, e3], fun b m => sub b (by rw [e4]; exact m), n, eH, o⟩
/-- d[k].update(a new dict of one item) -/
theorem w_ooUpd (i : Nat) {x : Str} {k2 : Key} {p0 p1 p2 cpos : Pos} (hu : X.A.units + 1 < cLine) (hk : PE X i1 (tD X.K ρ (.d (keyD k)))) (he : PE X e (tR X.K ρ (RN1 X.K k2 y))) (hnd : (kvs.map (·.1)).Nodup) (hm : k ∈ kvs.map (·.1)) (hz : ∀ p ∈ kvs, p.2.length < 1000) (hn : ∀ p ∈ kvs, p.1 = k → k2 ∉ p.2.map (·.1)) (hρ : ρ[i]? = some (.oo kvs) := by rfl) (hN : X.N[i]? = some x := by rfl)
    (hv : Vis X.env.scope x := by first | exact Or.inl rfl | exact Or.inr (Or.inl rfl) | exact Or.inr (Or.inr rfl)) (hns : NoSl i1 := by intro _ _; rfl)
    (hd : (x == ("__debug__" : Str)) = false := by decide) (hcd : (x == ("__classdict__" : Str)) = false := by decide) (hbase : attributeBase (.Subscript (.Name x p0) i1 p1) "update" X.env (eval (.Subscript (.Name x p0) i1 p1) X.env) = eval (.Subscript (.Name x p0) i1 p1) X.env := by rfl)
    (hfew : ((backTo cpos (starEach [e] X.env)).all (fun x => !x.1) && (backToKw cpos (keywordEach [] X.env)).all (fun x => x.1.isSome) && decide ([e].length + ([] : List Keyword).length + (if ([] : List Keyword).isEmpty then 0 else 1) < 30)) = true := by rfl)
    (hline : (p2.endLine == cpos.line) = true := by rfl) (hs : starEach [e] X.env = (false, eval e X.env) :: starEach [] X.env := by rfl) (hplain : (backTo cpos (starEach [] X.env)).any (·.1) = false := by rfl) (hw : swapsWith (.Call (.Attribute (.Subscript (.Name x p0) i1 p1) "update" p2) [e] [] cpos) none pos.line X.env = pure false := by rfl) :
    PS X (.Expr (.Call (.Attribute (.Subscript (.Name x p0) i1 p1) "update" p2) [e] [] cpos) pos) (tW X.K ρ (.nx (ρ.set i (.oo (putK2 kvs k k2 y))))) :=
  (ps_expr (pe_bm PySem.F.plainAttrs_dict PySem.F.slot_dict_update PySem.F.type_dict_update mt_upd (pe_dget hu (pe_var (i := i) hN hv hd hcd) hk hns) (pa_cons he pa_nil hs) hbase hfew hline hs hplain) hw).imp fun D σ H ⟨F, A, l, rp, q⟩ => by
    obtain ⟨p, vs, bs, e1, mA, np, eH, ow⟩ := rp.oo hρ
    refine ⟨.ref p, e1, F, A, l, rp, fun F1 H1 kv e2 q1 => ?_⟩
    have hkv := dp_key (show Dp X.K F1 kv (keyD k) from q1)
    have rp1 := rp.mono e2
    have ow1 := ow.mono e2.ff fun b z => same_at e2.hh (by
      obtain ⟨xs, w⟩ := ow.mem b z
      rw [w]; simp : H b ≠ none)
    obtain ⟨b, ws, qi, g1, g2, g3, g4, g5, _⟩ := ow1.change (k := k) (k2 := k2) (v := .non) (y := .none) .non hnd hm
    refine ⟨p, .ref b, rfl, .inl ⟨vs, k, .inl (e2.hh _ _ eH), hkv, g1.symm⟩, ?_, F1, A, e2.fh, rp1, fun F2 H2 v e3 ⟨pn, u, ev, n1, eN, du⟩ => ?_⟩
    · exact .inr (.inr (.inl ⟨rfl, .inl ⟨ws, g3⟩⟩))
    have rp2 := rp1.mono e3
    have e23 := e2.trans e3
    have eb : H2 b = some (.dK ws) := e3.hh _ _ g3
    have hbn : b ≠ pn := fun z => by rw [z, n1] at g3; cases g3
    have hk2 : k2 ∉ ws.map (·.1) := by rw [kdat_keys g4]; exact hn _ g5 rfl
    have hwl : ws.length < 1000 := by rw [kdat_len g4]; exact hz _ g5
    refine ⟨b, pn, ws, [(k2, u)], rfl, by rw [ev], eb, .inl eN, hbn, Nat.le_trans (Nat.add_le_add_right (Nat.le_of_lt hwl) 1) (by decide), ?_⟩
    rw [merge_one hk2]
    obtain ⟨p', vs', bs', e1', mA', np', eH', ow2⟩ := rp2.oo hρ
    rw [e1] at e1'
    cases e1'
    rw [e23.hh _ _ eH] at eH'
    cases eH'
    obtain ⟨b2, ws2, q2, f1, f2, f3, f4, f5, f6⟩ := ow2.change (k := k) (k2 := k2) du hnd hm
    rw [g1] at f1
    cases f1
    rw [eb] at f3
    cases f3
    have bA : b ∈ A := mA' b (List.mem_cons_of_mem _ f2)
    have npb : p ≠ b := fun z => np' (by rw [z]; exact f2)
    obtain ⟨A', h1, h2⟩ := rp2.rl.change (r' := .oo (putK2 kvs k k2 y)) (H' := upd H2 b (.dK (ws ++ [(k2, u)]))) hρ e1 fun B ⟨p3, vs3, bs3, w1, w2, w0, w3, w4⟩ => by
      cases w1
      rw [e23.hh _ _ eH] at w3
      cases w3
      obtain ⟨b4, ws4, q4, z1, z2, z3, z4, z5, z6⟩ := w4.change (k := k) (k2 := k2) du hnd hm
      rw [g1] at z1
      cases z1
      rw [eb] at z3
      cases z3
      exact ⟨p :: bs3, ⟨p, vs, bs3, rfl, rfl, w0, by rw [upd_ne npb]; exact e23.hh _ _ eH, z6⟩, fun x z => by rw [w2]; exact z, fun c n _ => upd_ne fun z => n (by rw [w2, z]; exact List.mem_cons_of_mem _ z2)⟩
    have nF := rp2.nf b bA
    refine q F2 _ σ A' ?_ ⟨h1, fun c z => rp2.nf c (h2 c z)⟩
    refine (e23.st A).trans ⟨.refl F2, ⟨fun c u pu r => ?_, fun c z => ?_, fun c φ r => by rw [upd_ne (ne_of_none r nF)]; exact e3.fh.ex c φ r, fun c ⟨o2, xs2, r, d2⟩ => by
      obtain ⟨o3, xs3, e4, d3⟩ := e3.fh.fz c ⟨o2, xs2, r, d2⟩
      exact ⟨o3, xs3, by rw [upd_ne (ne_of_none r nF)]; exact e4, d3⟩⟩, fun c o n w => ?_, fun c n _ _ => n, fun c n => ?_, fun c z => .inl (h2 c z)⟩
    · have : c ≠ b := fun z => by rcases r with r | ⟨_, r⟩ <;> rw [z, nF] at r <;> cases r
      rcases e3.fh.rd c u pu r with w | ⟨o, w⟩
      · exact .inl (by rw [upd_ne this]; exact w)
      · exact .inr ⟨o, by rw [upd_ne this]; exact w⟩
    · by_cases w : c = b
      · rw [w, upd_same] at z; cases z
      · rw [upd_ne w] at z; exact e3.fh.dom c z
    · rw [upd_ne fun z => n (by rw [z]; exact bA)]
      exact w
    · by_cases w : c = b
      · rw [w, upd_same]; simp
      · rw [upd_ne w]; exact n
/-! ### the dict of dicts is given away -/
theorem owo_freeze {K : PySem.W.Frag} {H : Hp} : ∀ {kvs : List (Key × List (Key × PyData))} {vs : List (Key × V)} {bs : List Addr} {F : Hp}, Le F H → OwO K F H kvs vs bs → (∀ b ∈ bs, F b = none) →
    ∃ F', Le F F' ∧ Le F' H ∧ Paired (fun (p : Key × V) (q : Key × List (Key × PyData)) => p.1 = q.1 ∧ ∃ b ws, p.2 = .ref b ∧ Rd F' b (.dK ws) ∧ KDat K F' ws q.2) vs kvs ∧ ∀ b, b ∉ bs → F' b = F b
  | _, _, _, F, l, .nil, _ => ⟨F, .refl F, l, .nil, fun _ _ => rfl⟩
  | _, _, _, F, l, @OwO.cons _ _ _ k q kvs vs b bs ws e d n t, nf => by
    obtain ⟨F1, h1, h2, h3, h4⟩ := owo_freeze l t fun c z => nf c (List.mem_cons_of_mem _ z)
    have nb : F1 b = none := by rw [h4 b n]; exact nf b List.mem_cons_self
    obtain ⟨l1, l2⟩ := Ext.freeze h2 nb e trivial
    refine ⟨upd F1 b (.dK ws), h1.trans l1, l2, .cons ⟨rfl, b, ws, rfl, .inl upd_same, (h1.trans l1).kdat d⟩ (Paired.mapP h3 fun p q ⟨z, b, ws, e1, e2, e3⟩ => ⟨z, b, ws, e1, l1.rd _ _ trivial e2, l1.kdat e3⟩), fun c z => ?_⟩
    have z' : ¬ (c = b ∨ c ∈ bs) := fun w => z (List.mem_cons.mpr w)
    rw [upd_ne fun w => z' (.inl w)]
    exact h4 c fun w => z' (.inr w)
theorem w_freezeOo {O : Out} {sts : List Stmt} (i : Nat) (h : PSs X sts (tW X.K (ρ.set i (.fr (.dd kvs))) O)) (hi : ρ[i]? = some (.oo kvs) := by rfl) : PSs X sts (tW X.K ρ O) := h.imp fun D σ H ⟨F, A, l, rp, q⟩ => by
  obtain ⟨p, vs, bs, e1, mA, npb, eH, ow⟩ := rp.oo hi
  have nf : ∀ b ∈ p :: bs, F b = none := fun b z => rp.nf b (mA b z)
  obtain ⟨F1, h1, h2, h3, h4⟩ := owo_freeze l ow fun b z => nf b (List.mem_cons_of_mem _ z)
  have nF1 : F1 p = none := by rw [h4 p npb]; exact nf p List.mem_cons_self
  obtain ⟨l1, l2⟩ := Ext.freeze h2 nF1 eH trivial
  have isd : Is X.K (upd F1 p (.dK vs)) (.ref p) (.dd kvs) := ⟨p, vs, rfl, .inl upd_same, Paired.mapP h3 fun p q ⟨z, b, ws, e1, e2, e3⟩ => ⟨z, b, ws, e1, l1.rd _ _ trivial e2, l1.kdat e3⟩⟩
  obtain ⟨A', B, g1, ⟨p', vs', bs', w1, w2, _, w3, w4⟩, g3, g4⟩ := RepL.frozen (h1.trans l1) isd rp.rl hi e1
  cases w1
  rw [eH] at w3
  cases w3
  have hbs : bs' = bs := by
    have : ∀ {kvs : List (Key × List (Key × PyData))} {vs : List (Key × V)} {bs bs' : List Addr}, OwO X.K F H kvs vs bs → OwO X.K F H kvs vs bs' → bs' = bs := by
      intro kvs vs bs bs' x
      induction x generalizing bs' with
      | nil => intro y; cases y; rfl
      | cons _ _ _ _ ih => intro y; cases y with | cons _ _ _ t => rw [ih t]
    exact this ow w4
  have val : ∀ b, b ∉ p :: bs → (upd F1 p (.dK vs)) b = F b := fun b z => by
    have z' : ¬ (b = p ∨ b ∈ bs) := fun w => z (List.mem_cons.mpr w)
    rw [upd_ne fun w => z' (.inl w)]
    exact h4 b fun w => z' (.inr w)
  refine ⟨upd F1 p (.dK vs), A', l2, ⟨g1, fun b z => ?_⟩, q.step ⟨h1.trans l1, l2, fun _ _ _ e => e, fun b n1 _ n3 => ?_, fun _ n => n, fun b z => .inl (g3 b z).1⟩⟩
  · have nb := (g3 b z).2
    rw [w2, hbs] at nb
    rw [val b nb]
    exact rp.nf b (g3 b z).1
  · rw [val b fun w => n3 (mA b w)]
    exact n1
end
end KL
/-! DLz: dict([(k, {}) for ..]). -/
namespace KL
open PySem PySem.Spec L2
/-- a new pair of a key and a new empty dict -/
def RKD (k : Key) : RK := fun F H F' H' v => ∃ p b, v = .ref p ∧ H p = none ∧ H b = none ∧ F' b = none ∧ p ≠ b ∧ H' p = some (.tup [kV k, .ref b]) ∧ H' b = some (.dK [])
section
variable {X : Cx} {ρ : List Sl} {e a iter tg : Expr} {pos : Pos} {k : Key}
theorem kdtup {p1 : Pos} {x1} (ha : PE X a (tD X.K ρ (.d (keyD k)))) (h1 : starEach [a, .Dict [] [] p1] X.env = (false, eval a X.env) :: starEach [.Dict [] [] p1] X.env := by rfl) (h2 : starEach [.Dict [] [] p1] X.env = (false, eval (.Dict [] [] p1) X.env) :: starEach [] X.env := by rfl) :
    PE X (.Tuple [a, .Dict [] [] p1] x1 pos) (tR X.K ρ (RKD k)) :=
  (pe_tup (pa_cons ha (pa_cons pe_dnewK pa_nil h2) h1)).imp fun σ H Q ⟨F, A, l, rp, kk⟩ => ⟨F, A, l, rp, fun F1 H1 v e1 q1 => by
    refine fun b nb => ⟨(by decide : 2 ≤ sizeLine), fun p np => ?_⟩
    have hv := dp_key (show Dp X.K F1 v (keyD k) from q1)
    subst hv
    have n1 : H1 p = none := by
      by_cases z : p = b
      · rw [z]; exact nb
      · rw [upd_ne z] at np; exact np
    have pb : p ≠ b := fun z => by rw [z, upd_same] at np; cases np
    have x1 := Ext.newH (o := .dK []) e1.fh nb
    have x2 := Ext.newH (o := .tup [kV k, .ref b]) x1.fh np
    refine kk F1 _ _ (e1.trans (x1.trans x2)) ⟨p, b, rfl, e1.hh.free n1, e1.hh.free nb, e1.fh.dom b nb, pb, upd_same, ?_⟩
    rw [upd_ne (Ne.symm pb), upd_same]⟩
end
/-- pairs of keys and empty dicts -/
def PrAt (H : Hp) (ps : List Addr) (vs : List (Key × V)) : Prop := Paired (fun p (kv : Key × V) => H p = some (.tup [kV kv.1, kv.2])) ps vs
def RPr (K : PySem.W.Frag) (ks : List Key) : RK := fun F H F' H' v => ∃ p ps vs bs, v = .ref p ∧ H' p = some (.lst (ps.map V.ref)) ∧ PrAt H' ps vs ∧ OwO K F' H' (ks.map fun k => (k, [])) vs bs ∧ ∀ b ∈ bs, F' b = none ∧ H b = none
def ROo (K : PySem.W.Frag) (kvs : List (Key × List (Key × PyData))) : RK := fun F H F' H' v => ∃ p vs bs, v = .ref p ∧ p ∉ bs ∧ H' p = some (.dK vs) ∧ OwO K F' H' kvs vs bs ∧ ∀ b ∈ p :: bs, F' b = none ∧ H b = none
theorem OwO.snoc {K : PySem.W.Frag} {F H : Hp} {k : Key} {q : List (Key × PyData)} {b : Addr} {ws : List (Key × V)} : ∀ {kvs : List (Key × List (Key × PyData))} {vs : List (Key × V)} {bs : List Addr}, OwO K F H kvs vs bs → H b = some (.dK ws) → KDat K F ws q → b ∉ bs →
    OwO K F H (kvs ++ [(k, q)]) (vs ++ [(k, .ref b)]) (bs ++ [b])
  | _, _, _, .nil, e, d, _ => .cons e d (by simp) .nil
  | _, _, _, .cons e1 d1 n1 t, e, d, n => by
    have n2 : ¬ (_ ∨ _) := fun z => n (List.mem_cons.mpr z)
    exact .cons e1 d1 (by
      intro z
      rcases List.mem_append.mp z with z | z
      · exact n1 z
      · exact n2 (.inl (by simpa using z : _ = b).symm)) (OwO.snoc t e d fun z => n2 (.inr z))
theorem OwO.keys {K : PySem.W.Frag} {F H : Hp} : ∀ {kvs : List (Key × List (Key × PyData))} {vs : List (Key × V)} {bs : List Addr}, OwO K F H kvs vs bs → vs.map (·.1) = kvs.map (·.1)
  | _, _, _, .nil => rfl
  | _, _, _, .cons _ _ _ t => by rw [List.map_cons, List.map_cons, OwO.keys t]
theorem pr_mono {H H' : Hp} (s : ∀ p o, H p = some o → (∃ xs, o = .tup xs) → H' p = some o) {ps : List Addr} {vs : List (Key × V)} (h : PrAt H ps vs) : PrAt H' ps vs := Paired.mapP h fun p kv z => s _ _ z ⟨_, rfl⟩
theorem paired_app {α β : Type} {R : α → β → Prop} : ∀ {a b : List α} {c d : List β}, Paired R a c → Paired R b d → Paired R (a ++ b) (c ++ d)
  | _, _, _, _, .nil, s => s
  | _, _, _, _, .cons h t, s => .cons h (paired_app t s)
theorem prR {K : PySem.W.Frag} {wi : TI} {vs0 : List Nat} {α : Type} {xs : List α} {enc : α → PyData} {ρ' : α → List Sl} {kf : α → Key} (hz : xs.length ≤ sizeLine) (mono : MonoI wi) {σ : L2.St} {H : Hp} {Q : VK} (q : tLC K ρ wi (xs.map enc) (RPr K (xs.map kf)) σ H Q) :
    tLc wi (gU K ρ vs0 xs enc ρ') tYes (fun σ H Q => ∃ i : { x // x ∈ xs }, tR K (ρ' i.1) (RKD (kf i.1)) σ H Q) vs0 σ H Q := by
  refine mono _ _ _ _ (fun J H1 ⟨F1, A, l1, rp1, wk, k⟩ => fun D nD => ?_) q
  have nF1 : F1 D = none := l1.dom D nD
  refine ⟨fun i m H => m = xs.length - i ∧ i ≤ xs.length ∧ ∃ F ps vs bs, StEx F1 H1 [] F H [D] ∧ H D = some (.lst (ps.map V.ref)) ∧ F D = none ∧ PrAt H ps vs ∧ OwO K F H ((xs.take i).map fun x => (kf x, [])) vs bs ∧ D ∉ bs ∧ ∀ b ∈ bs, F b = none ∧ H1 b = none,
    ⟨xs.length, by simp, Nat.zero_le _, F1, [], [], [], stex_new l1 nD, upd_same, nF1, .nil, by simp; exact .nil, by simp, by simp⟩, ?_⟩
  rintro i m H2 ⟨rfl, hi, F2, ps, vs, bs, st, eD, nF, pr, kd, nDb, fr⟩
  obtain ⟨stop, item⟩ := wk i F2 H2 [D] st
  have lvs : vs.length ≤ i := by
    have := congrArg List.length kd.keys
    simp only [List.length_map, List.length_take] at this
    omega
  have lps : ps.length = vs.length := pr.length
  by_cases hlt : i < xs.length
  · have ex : xs[i]? = some xs[i] := List.getElem?_eq_getElem hlt
    have hx : xs[i] ∈ xs := List.getElem_mem hlt
    generalize xs[i] = x at ex hx
    obtain ⟨go, yl⟩ := item (enc x) (by rw [List.getElem?_map, ex]; rfl)
    refine .inr ⟨go, fun H' => ∃ F ps vs bs, StEx F1 H1 [] F H' [D] ∧ H' D = some (.lst (ps.map V.ref)) ∧ F D = none ∧ PrAt H' ps vs ∧ OwO K F H' ((xs.take (i + 1)).map fun x => (kf x, [])) vs bs ∧ D ∉ bs ∧ ∀ b ∈ bs, F b = none ∧ H1 b = none, fun H' q => ⟨xs.length - (i + 1), by omega, rfl, hlt, q⟩, fun v H3 y => ?_⟩
    obtain ⟨F3, e3, dpx⟩ := yl v H3 y
    have st3 := st.trans (e3.st [D])
    obtain ⟨A', rpw, _⟩ := (rp1.mono st3.ext).wipe vs0
    have hD2 : H2 D ≠ none := by rw [eD]; simp
    refine ⟨⟨x, hx⟩, F3, A', st3.fh, rpw, dpx, fun σ' A2 r2 w2 s2 => ⟨w2.trans (wipe_wipe _ _), yes_of ⟨⟨x, hx⟩, F3, A2, st3.fh, r2, fun F5 H5 v5 e5 q5 => ?_⟩⟩⟩
    have e35 := e3.trans e5
    have eD5 := e35.hh _ _ eD
    obtain ⟨p, b, eb, np3, nb3, nb, pb, lp, lb⟩ := q5
    have nb2 : H2 b = none := e3.hh.free nb3
    have np2 : H2 p = none := e3.hh.free np3
    have nbD : b ≠ D := fun z => by rw [z, eD] at nb2; cases nb2
    have npD : p ≠ D := fun z => by rw [z, eD] at np2; cases np2
    have live : ∀ c ∈ bs, H2 c ≠ none := fun c m => by
      obtain ⟨zs, ez⟩ := kd.mem c m
      rw [ez]; simp
    have nbb : b ∉ bs := fun z => live b z nb2
    refine ⟨ps.map V.ref, eD5, by rw [List.length_map]; omega, F5, ps ++ [p], vs ++ [(kf x, .ref b)], bs ++ [b], (st3.trans (e5.st [D])).upd nD (e35.own D nF hD2) (by rw [eD5]; simp), ?_, e35.own D nF hD2, ?_, ?_, ?_, ?_⟩
    · rw [upd_same, eb, List.map_append]
      rfl
    · refine paired_app (pr_mono (fun c o ho ⟨zs, ez⟩ => ?_) pr) (.cons ?_ .nil)
      · have : c ≠ D := fun z => by rw [z, eD, ez] at ho; cases ho
        rw [upd_ne this]
        exact e35.hh _ _ ho
      · rw [upd_ne npD]
        exact lp
    · rw [List.take_add_one, ex, List.map_append]
      refine OwO.snoc (kd.mono e35.ff fun c m => ?_) (by rw [upd_ne nbD]; exact lb) .nil nbb
      have z : c ≠ D := fun z => nDb (by rw [← z]; exact m)
      rw [upd_ne z]
      exact same_at e35.hh (live c m)
    · intro z
      rcases List.mem_append.mp z with z | z
      · exact nDb z
      · exact nbD (by simpa using z : D = b).symm
    · intro c z
      rcases List.mem_append.mp z with z | z
      · exact ⟨e35.own c (fr c z).1 (live c z), (fr c z).2⟩
      · have : c = b := by simpa using z
        rw [this]
        refine ⟨nb, ?_⟩
        cases w : H1 b with
        | none => rfl
        | some o => exact absurd nb2 (st.al b (by rw [w]; simp))
  · have ei : i = xs.length := by omega
    subst ei
    rw [List.take_length] at kd
    refine .inl ⟨stop (by simp), k F2 H2 _ st.ext ⟨D, ps, vs, bs, rfl, eD, pr, ?_, fr⟩⟩
    rw [List.map_map]
    exact kd
section
variable {X : Cx} {ρ : List Sl} {e a iter tg elt : Expr} {pos : Pos} {k : Key} {scope : Scope} {own : List (Str × Nat)}
theorem bk_pr {K : PySem.W.Frag} {ks : List Key} : Bk (RPr K ks) := fun F H F1 H1 F2 H2 v e ⟨p, ps, vs, bs, e1, e2, e3, e4, e5⟩ => ⟨p, ps, vs, bs, e1, e2, e3, e4, fun b m => ⟨(e5 b m).1, e.hh.free (e5 b m).2⟩⟩
theorem prcomp {α : Type} {xs : List α} {enc : α → PyData} {ρ' : α → List Sl} {kf : α → Key} (hi : PI X tg iter (tI X.K ρ true (xs.map enc))) (ok : BlkOk X.N X.env.scope scope own)
    (hg : ∀ x ∈ xs, ∀ (s : Shared) (H : Hp) (C : Addr) (cl : List (Str × Addr)) (fp : List Addr), PG (X.blk s H scope (compEnvC scope cl C X.env) fp) tg (tG X.K (wipeR ρ (own.map (·.2))) (enc x) (ρ' x) (own.map (·.2))))
    (he : ∀ x ∈ xs, ∀ (s : Shared) (H : Hp) (C : Addr) (cl : List (Str × Addr)) (fp : List Addr), PE (X.blk s H scope (compEnvC scope cl C X.env) fp) elt (tR X.K (ρ' x) (RKD (kf x))))
    (hz : xs.length ≤ sizeLine) (hc : X.calm = true := by rfl) (hN : X.N.Nodup := by decide) (hs : ∀ x, foldedSetIterable iter X.env x = pure x := by intro _; rfl) :
    PE X (.ListComp elt [⟨tg, iter, [], 0⟩] scope pos) (tR X.K ρ (RPr X.K (xs.map kf))) :=
  overI (R := RPr X.K _) ((pe_lc (g := gU X.K ρ (own.map (·.2)) xs enc ρ') (tt := tYes) (te := fun σ H Q => ∃ i : { x // x ∈ xs }, tR X.K (ρ' i.1) (RKD (kf i.1)) σ H Q) hc hN hi ok
    (fun s H C cl fp => .all fun i => hg i.1 i.2 s H C cl fp) (fun s H C cl fp => pts_nil) (fun s H C cl fp => .all fun i => he i.1 i.2 s H C cl fp) hs).imp
    fun σ H Q q => prR hz mono_tI q) bk_pr
theorem merge_all : ∀ {more ws : List (Key × V)}, ((ws ++ more).map (·.1)).Nodup → mergeK ws more = ws ++ more
  | [], ws, _ => (List.append_nil ws).symm
  | (k, u) :: more, ws, nd => by
    have n1 : k ∉ ws.map (·.1) := by
      rw [List.map_append, List.map_cons] at nd
      exact fun z => (List.nodup_append.mp nd).2.2 k z k List.mem_cons_self rfl
    show mergeK (mergeK ws [(k, u)]) more = _
    rw [merge_one n1, merge_all (by rw [List.append_assoc]; exact nd), List.append_assoc]
    rfl
theorem dictOo {p : Pos} {ks : List Key} (hc : X.calm = true) (hg : Gl X "dict") (hm : X.mg "dict" = none) (hd : ks.Nodup) (ha : PE X e (tR X.K ρ (RPr X.K ks))) (he : starEach [e] X.env = (false, eval e X.env) :: starEach [] X.env := by rfl) : PE X (.Call (.Name "dict" p) [e] [] pos) (tR X.K ρ (ROo X.K (ks.map fun k => (k, [])))) :=
  callT1 (call_dictP hc) (he := he) hg hm (show bootBuiltins "dict" = some (.type "dict") by decide +kernel) ha fun F H F1 H1 x Q l e1 ⟨a, ps, vs, bs, ev, eH, pr, ow, fr⟩ kk => by
    refine ⟨a, ps, vs, by rw [ev], .inl (.inl eH), Paired.mapP pr fun p kv z => .inl (.inl z), fun q n => ?_⟩
    have hk : vs.map (·.1) = ks := by
      rw [ow.keys, List.map_map]
      exact List.map_id ks
    rw [merge_all (by rw [List.nil_append, hk]; exact hd), List.nil_append]
    have live : ∀ c ∈ bs, H1 c ≠ none := fun c m => by
      obtain ⟨zs, ez⟩ := ow.mem c m
      rw [ez]; simp
    have nq : q ∉ bs := fun z => live q z n
    refine kk F1 _ _ (e1.trans (.newH e1.fh n)) ⟨q, vs, bs, rfl, nq, upd_same, ow.mono (.refl F1) fun c m => upd_ne fun z => nq (by rw [← z]; exact m), fun b m => ?_⟩
    rcases List.mem_cons.mp m with rfl | m
    · exact ⟨e1.fh.dom _ n, e1.hh.free n⟩
    · exact fr b m
theorem asg_oo {K : PySem.W.Frag} {kvs : List (Key × List (Key × PyData))} {i : Nat} {D : Ends} {σ : L2.St} {H : Hp} (h : tW K ρ (.nx (ρ.set i (.oo kvs))) D σ H) : tAsg (tR K ρ (ROo K kvs)) (gName i) D σ H := by
  obtain ⟨F, A, l, rp, q⟩ := h
  refine ⟨F, A, l, rp, fun F1 H1 v e1 ⟨p, vs, bs, ev, np, eH, ow, fr⟩ => ?_⟩
  have rp1 := rp.mono e1
  obtain ⟨A', h1, h2⟩ := rp1.rl.set i (r := .oo kvs) (s := some (.ref p)) (B := p :: bs) ⟨p, vs, bs, rfl, rfl, np, eH, ow⟩ (fun b z w => rp.rl.some_of b w (fr b z).2)
  subst ev
  exact q F1 H1 _ A' (st_more e1 fun x z => (h2 x z).imp id fun w => (fr x w).2) ⟨h1, fun x z => (h2 x z).elim (rp1.nf x) fun w => (fr x w).1⟩
theorem w_oo {kvs : List (Key × List (Key × PyData))} (i : Nat) {x : Str} {pos' : Pos} (he : PE X e (tR X.K ρ (ROo X.K kvs))) (hN : X.N.Nodup := by decide) (hi : X.N[i]? = some x := by rfl) (hx : Loc X.env.scope x := by first | exact Or.inl rfl | exact Or.inr rfl) (hs : swapsWith e (some (.Name x pos')) pos.line X.env = pure false := by rfl)
    (hf : X.fn x = true ∨ X.env.scope.names.lookup x = some .local := by first | exact .inl rfl | exact .inr rfl | assumption) : PS X (.Assign [.Name x pos'] e pos) (tW X.K ρ (.nx (ρ.set i (.oo kvs)))) :=
  (ps_set hN hi hx he hs hf).imp fun _ _ _ h => asg_oo h
end
end KL
/-! DMa: the keys of a dict of dicts; the keys of an inner dict, found by the last name of an owned list. -/
namespace KL
open PySem PySem.Spec L2
theorem walks_keysN {K : PySem.W.Frag} {F1 H1 : Hp} {d : Addr} {o : Obj} {vs : List (Key × V)} {ks : List Key} {A : List Addr} (e : H1 d = some (.frz o (.dK vs))) (nA : d ∉ A) (kd : vs.map (·.1) = ks) : Walks K (Itk d o vs) F1 H1 A (ks.map keyD) := fun i F H B st => by
  have e' := st.hh _ _ nA e
  subst kd
  refine ⟨fun hi => ⟨e', by simpa using hi⟩, fun x ex => ?_⟩
  rw [List.map_map, List.getElem?_map] at ex
  cases z : vs[i]? with
  | none => rw [z] at ex; cases ex
  | some q =>
    rw [z] at ex
    cases ex
    refine ⟨⟨e', (List.getElem?_eq_some_iff.mp z).1⟩, fun y H' ⟨eH, k, v, ek, ey⟩ => ?_⟩
    subst eH
    rw [z] at ek
    cases ek
    refine ⟨F, .refl st.fh, ?_⟩
    rw [ey]
    show Dp K F (kV k) (keyD k)
    cases k with
    | inl i => exact .int i
    | inr x => exact .str x
/-- where the source is: it gives a dict with the keys ks -/
def SrcN (K : PySem.W.Frag) (ρ : List Sl) (te : TE) (ks : List Key) : Prop :=
  ∀ σ F H A, Le F H → Rep K F H ρ σ A → ∃ d vs, Rd F d (.dK vs) ∧ vs.map (·.1) = ks ∧ ∀ H2 (Q : VK), Le F H2 → Rep K F H2 ρ σ A → Q (.ref d) H2 → te σ H2 Q
theorem src_dd {K : PySem.W.Frag} {ρ : List Sl} {i : Nat} {kvs : List (Key × List (Key × PyData))} (h : ρ[i]? = some (.fr (.dd kvs))) : SrcN K ρ (tVar i) (kvs.map (·.1)) := fun σ F H A l rp => by
  obtain ⟨v, e, d, vs, rfl, r, kd⟩ := rp.fr h
  refine ⟨d, vs, r, ?_, fun H2 Q _ _ q => ⟨_, e, q⟩⟩
  clear h e r
  induction kd with
  | nil => rfl
  | cons z t ih => rw [List.map_cons, List.map_cons, z.1, ih]
section
variable {X : Cx} {ρ : List Sl} {tg iter elt : Expr} {ifs : List Expr} {scope : Scope} {own : List (Str × Nat)} {pos : Pos}
theorem w_lcN {te : TE} {ks : List Key} {ρ' : Key → List Sl} {pr : Key → Bool} {f : Key → PyData} (i : Nat) {y : Str} {py spos : Pos} (hsrc : PE X iter te) (src : SrcN X.K ρ te ks) (me : MonoE te) (ok : BlkOk X.N X.env.scope scope own)
    (hg : ∀ x ∈ ks, ∀ (s : Shared) (H : Hp) (C : Addr) (cl : List (Str × Addr)) (fp : List Addr), PG (X.blk s H scope (compEnvC scope cl C X.env) fp) tg (tG X.K (wipeR ρ (own.map (·.2))) (keyD x) (ρ' x) (own.map (·.2))))
    (ht : ∀ x ∈ ks, ∀ (s : Shared) (H : Hp) (C : Addr) (cl : List (Str × Addr)) (fp : List Addr), PTs (X.blk s H scope (compEnvC scope cl C X.env) fp) ifs (tT X.K (ρ' x) (pr x)))
    (he : ∀ x ∈ ks, pr x = true → ∀ (s : Shared) (H : Hp) (C : Addr) (cl : List (Str × Addr)) (fp : List Addr), PE (X.blk s H scope (compEnvC scope cl C X.env) fp) elt (tD X.K (ρ' x) (.d (f x))))
    (hz : ks.length ≤ sizeLine) (hc : X.calm = true := by rfl) (hN : X.N.Nodup := by decide) (hs : ∀ x, foldedSetIterable iter X.env x = pure x := by intro _; rfl) (hy : X.N[i]? = some y := by rfl) (hyl : X.env.scope.names.lookup y = some .local := by rfl)
    (hsw : swapsWith (.ListComp elt [⟨tg, iter, ifs, 0⟩] scope pos) (some (.Name y py)) spos.line X.env = pure true := by first | rfl | exact sw_true rfl rfl rfl (by decide +kernel)) :
    PS X (.Assign [.Name y py] (.ListComp elt [⟨tg, iter, ifs, 0⟩] scope pos) spos) (tW X.K ρ (.nx (ρ.set i (.ow ((ks.filter pr).map f))))) := by
  have base := lcoreSet (i := i) (py := py) (spos := spos) (pos := pos) (enc := keyD) (pi_keys (tg := tg) hsrc) ok hg ht he hz hc hN hs (mono_keys me) hy hyl hsw
  refine ((ps_lock base).or base).imp fun D σ H h => ?_
  obtain ⟨F, A, l, rp, k⟩ := asg_ow h
  obtain ⟨d, vs, r, kd, go⟩ := src σ F H A l rp
  rcases l.rd d (.dK vs) trivial r with eH | ⟨o, eH⟩
  · refine .inl ⟨d, _, eH, trivial, fun od => ?_⟩
    have l1 := lock_le (u := .dK vs) (od := od) l eH trivial
    obtain ⟨rp1, nd⟩ := rep_lock (o := .frz od (.dK vs)) rp r
    refine go _ _ l1 rp1 ⟨d, od, rfl, .inl ⟨vs, upd_same, F, A, l1, rp1, walks_keysN upd_same (by simp) kd, fun F' H' v ex ⟨p, xs, ev, nF, nH, e3, z⟩ => ?_⟩⟩
    obtain ⟨ex2, ed⟩ := unlock_ext (u := .dK vs) ex l eH trivial
    have hpd : p ≠ d := fun z => by rw [z, upd_same] at nH; cases nH
    exact ⟨ed, k F' _ v ex2 ⟨p, xs, ev, nF, by rw [upd_ne hpd] at nH; exact nH, by rw [upd_ne hpd]; exact e3, z⟩⟩
  · exact .inr (go _ _ l rp ⟨d, o, rfl, .inl ⟨vs, eH, F, A, l, rp, walks_keysN eH (by simp) kd, k⟩⟩)
/-- d[xs[-1]] -/
def tLastKey (K : PySem.W.Frag) (i j : Nat) : TE := tDGet (tVar i) (tOp (rIxL K) (tVar j) (tUn (rU fun i => .int (-i)) (tC (.int 1))))
theorem mono_lastKey {K : PySem.W.Frag} {i j : Nat} : MonoE (tLastKey K i j) := fun σ H Q Q' h ⟨x, e1, y, e2, ⟨n, en, p, xs, m, v, h1, h2, h3, h4, a, w, h5, h6, q⟩⟩ =>
  ⟨x, e1, y, e2, ⟨n, en, p, xs, m, v, h1, h2, h3, h4, a, w, h5, h6, h _ _ q⟩⟩
theorem src_last {K : PySem.W.Frag} {i j : Nat} {kvs : List (Key × List (Key × PyData))} {ds : List PyData} {k : Key} {z : List (Key × PyData)} (h1 : ρ[i]? = some (.fr (.dd kvs))) (h2 : ρ[j]? = some (.ow ds)) (hk : atI ds (-1) = some (keyD k)) (hz : (kvs.find? fun p => decide (p.1 = k)).map (·.2) = some z) : Src K ρ (tLastKey K i j) z := fun σ F H A l rp => by
  obtain ⟨v, e, d, vs, rfl, r, kd⟩ := rp.fr h1
  have fnd : ∀ {vs : List (Key × V)} {kvs : List (Key × List (Key × PyData))}, Paired (fun (p : Key × V) (q : Key × List (Key × PyData)) => p.1 = q.1 ∧ ∃ b ws, p.2 = .ref b ∧ Rd F b (.dK ws) ∧ KDat K F ws q.2) vs kvs → (kvs.find? fun p => decide (p.1 = k)).map (·.2) = some z → ∃ b ws, valV vs k = some (.ref b) ∧ Rd F b (.dK ws) ∧ KDat K F ws z := by
    intro vs kvs kd
    induction kd with
    | nil => intro hz; cases hz
    | @cons p q _ _ h t ih =>
      obtain ⟨e1, b, ws, e2, e3, e4⟩ := h
      intro hz
      by_cases hq : q.1 = k
      · rw [List.find?_cons_of_pos (by exact decide_eq_true hq)] at hz
        cases hz
        exact ⟨b, ws, by rw [valV_pos (e1.trans hq), e2], e3, e4⟩
      · rw [List.find?_cons_of_neg (by exact fun z => hq (of_decide_eq_true z))] at hz
        obtain ⟨b, ws, g1, g2, g3⟩ := ih hz
        exact ⟨b, ws, by rw [valV_neg fun w => hq (e1.symm.trans w)]; exact g1, g2, g3⟩
  obtain ⟨b, ws, g1, g2, g3⟩ := fnd kd hz
  refine ⟨b, ws, g2, g3, fun H2 Q l2 rp2 q => ⟨_, e, ?_⟩⟩
  obtain ⟨a, xs, e4, _, eH, dp⟩ := rp2.ow h2
  obtain ⟨w, w1, w2⟩ := dpAll_atI dp hk
  have := dp_key w2
  subst this
  exact ⟨_, e4, 1, rfl, a, xs, -1, _, rfl, rfl, .inl (.inl eH), w1, d, .ref b, rfl, .inl ⟨vs, k, l2.rd _ _ trivial r, rfl, g1.symm⟩, q⟩
end
end KL
/-! DMb: the sum of lists. -/
namespace KL
open PySem PySem.Spec L2
theorem args_sumT (a b : Value) : argsOk "sum" ⟨[a, b], []⟩ := by unfold argsOk; kernel_rfl
section
variable {s : Shared} {E : Value → Shared → Prop} {A : Around} {w : World} {prog : Program}
theorem add_lls {l b : Addr} {vs ws : List Value} {Q : Value → Shared → Prop} (hl : s.heap.IsList l vs.toArray) (hb : s.heap.IsList b ws.toArray) (hz : vs.length + ws.length ≤ sizeLine)
    (h : Q (.ref s.heap.objs.size) { s with heap := s.heap.push { cls := .type "list", data := .seq (vs ++ ws).toArray } }) : wpAny (model prog w) A (binaryOp .Add (.ref l) (.ref b)) Q E s := by
  obtain ⟨⟨c1, d1, x1, s1⟩, ho, hc, n, hd⟩ := id hl
  obtain ⟨⟨c2, d2, x2, s2⟩, ho2, hc2, n2, hd2⟩ := id hb
  simp only at hc hd hc2 hd2
  subst hc hd hc2 hd2
  have e : vs.toArray ++ ws.toArray = List.toArray (vs ++ ws) := by simp
  have hz' : vs.toArray.size + ws.toArray.size ≤ sizeLine := by simpa using hz
  have mt := PyProof.Rows.list_addW l b vs.toArray ws.toArray n n2 d1 d2 s1 s2 hz'
  exact concat_meets ⟨_, ho, rfl⟩ ⟨_, ho2, rfl⟩ noFill_list_add seq_list_add PySem.F.slot_list_add PySem.F.entry_list_add (PySem.F.args_list_add_2 _ _) mt ⟨ho, ho2, by rw [e]; exact h⟩
def flatV (rest : List (Addr × List Value)) : List Value := rest.flatMap (·.2)
theorem sumL_loop {R : Result → Shared → Prop} {S I l : Addr} {items : Array Value} (hh : A.handled = none) (hlI : l ≠ I) (hSI : S ≠ I) (hSl : S ≠ l) :
    ∀ (rest : List (Addr × List Value)) (i : Nat) (acc : List Value) (T : Addr) (c : Nat) (t1 t2 : Tok) (s : Shared), items.size = i + rest.length → acc.length + (flatV rest).length ≤ sizeLine →
      (∀ (j : Nat) (q : Addr × List Value), rest[j]? = some q → items[i + j]? = some (.ref q.1) ∧ q.1 ≠ S ∧ q.1 ≠ I ∧ s.heap.IsList q.1 q.2.toArray) →
      s.heap.IsListIter I l i → s.heap.IsList l items → s.heap.IsList T acc.toArray → T ≠ S → T ≠ I → s.heap.get? S = some { cls := .type "list", dict := none, data := .seq #[.ref T] c, slots := #[] } →
      (∀ h' tk T', ((rest = [] ∧ T' = T) ∨ s.heap.objs.size ≤ T' ∧ ∃ n, h'.get? T' = some { cls := .type "list", data := .seq (acc ++ flatV rest).toArray n }) → (∀ b o, b ≠ S → b ≠ I → s.heap.get? b = some o → h'.get? b = some o) → R (.ok (.ret (.ref T'))) { s with heap := h', toks := tk }) →
      codeAny (model prog w) A (.builtin "sum.loop" ⟨[.ref I, .ref S, .int 2 t1, .int 0 t2], []⟩) R s
  | [], i, acc, T, c, t1, t2, s, hsz, hln, ht, hit, hl, hT, hTS, hTI, hS, hR => by
    refine codeAny_builtin F.entry_sum_loop ?_; rewrite [Around.under_plainId F.plain_sum_loop _]
    show wpAny _ A.in1 (seqItems? (.ref S) >>= _) _ _ s; refine wpAny_bind <| wpAny_seqItems hS rfl ?_
    show wpAny _ A.in1 (tryCatch (pyNext (.ref I)) _ >>= _) _ _ s; refine wpAny_bind (wpAny_tryCatch (wpAny_pyNext_list_end (A := A.in1) hh hit hl (Array.getElem?_eq_none (by rw [hsz]; simp)) fun h' he => ?_))
    show wpAny _ A.in1 (ret (.ref T)) _ _ _
    refine wpAny_pure ?_
    exact hR h' s.toks T (.inl ⟨rfl, rfl⟩) fun b o _ hb e => he b o hb e
  | q :: rest, i, acc, T, c, t1, t2, s, hsz, hln, ht, hit, hl, hT, hTS, hTI, hS, hR => by
    obtain ⟨hb, hbS, hbI, hbl⟩ := ht 0 q rfl
    have ef : flatV (q :: rest) = q.2 ++ flatV rest := by simp [flatV]
    rw [ef, List.length_append] at hln
    refine codeAny_builtin F.entry_sum_loop ?_; rewrite [Around.under_plainId F.plain_sum_loop _]
    show wpAny _ A.in1 (seqItems? (.ref S) >>= _) _ _ s; refine wpAny_bind <| wpAny_seqItems hS rfl ?_
    show wpAny _ A.in1 (tryCatch (pyNext (.ref I)) _ >>= _) _ _ s; refine wpAny_bind (wpAny_tryCatch (wpAny_pyNext_list_item (x := .ref q.1) hit hl (by simpa using hb) fun h1 hit1 hs1 => ?_))
    have hq1 : h1.IsList q.1 q.2.toArray := hbl.at fun o e => hs1.extBut q.1 o hbI e
    have hT1 : h1.IsList T acc.toArray := hT.at fun o e => hs1.extBut T o hTI e
    have hS1 : h1.get? S = some { cls := .type "list", dict := none, data := .seq #[.ref T] c, slots := #[] } := hs1.extBut S _ hSI hS
    show wpAny _ A.in1 ((holding [Value.ref q.1] (binaryOp .Add (.ref T) (.ref q.1))).attempt >>= _) _ _ _
    refine wpAny_bind (wpAny_attempt (wpAny_holding (add_lls hT1 hq1 (by omega) ?_)))
    have k2 : ∀ b o, h1.get? b = some o → (h1.push { cls := .type "list", data := .seq (acc ++ q.2).toArray }).get? b = some o := fun b o e => Heap.get?_push_of_some _ e
    have hS2 := k2 _ _ hS1
    show wpAny _ A.in1 (updateSeq S (fun _ => #[.ref h1.objs.size]) >>= _) _ _ _
    refine wpAny_bind <| wpAny_updateSeq hS2 rfl ?_
    have hS3 := Heap.get?_update_self (Obj.mapSeq fun _ => #[Value.ref h1.objs.size]) hS2 rfl
    refine wpAny_bind <| wpAny_letGo ?_
    refine wpAny_bind (wpAny_updateSeq hS3 rfl ?_)
    have hSlt : S < h1.objs.size := Heap.lt_size hS1
    have hIlt : I < h1.objs.size := by
      obtain ⟨o, ho, _⟩ := id hit1
      exact Heap.lt_size ho
    have k4 : ∀ b o, b ≠ S → h1.get? b = some o → (((h1.push { cls := .type "list", data := .seq (acc ++ q.2).toArray }).update S (Obj.mapSeq fun _ => #[Value.ref h1.objs.size])).update S (Obj.mapSeq fun _ => #[Value.ref h1.objs.size])).get? b = some o := fun b o hn e =>
      (Heap.get?_update_other _ _ (Ne.symm hn)).trans ((Heap.get?_update_other _ _ (Ne.symm hn)).trans (k2 _ _ e))
    have k5 : ∀ b o, b ≠ S → b ≠ I → s.heap.get? b = some o → (((h1.push { cls := .type "list", data := .seq (acc ++ q.2).toArray }).update S (Obj.mapSeq fun _ => #[Value.ref h1.objs.size])).update S (Obj.mapSeq fun _ => #[Value.ref h1.objs.size])).get? b = some o := fun b o hn hi e => k4 b o hn (hs1.extBut b o hi e)
    have hle : s.heap.objs.size ≤ h1.objs.size := by
      have := hs1.1
      first | exact this | exact Nat.le_of_eq this.symm | exact Nat.le_of_eq this | omega
    refine wpAny_pure ⟨plainId_quiet F.plain_sum_loop _, sumL_loop (items := items) hh hlI hSI hSl rest (i + 1) (acc ++ q.2) h1.objs.size _ 0 0 _ (by rw [hsz, List.length_cons]; omega) (by rw [List.length_append]; omega) (fun j q' e => ?_) ?_ ?_ ?_ (Nat.ne_of_gt hSlt) (Nat.ne_of_gt hIlt) (Heap.get?_update_self _ hS3 rfl) fun h' tk T' hor hk => ?_⟩
    · obtain ⟨g1, g2, g3, g4⟩ := ht (j + 1) q' (by simpa using e)
      refine ⟨by rw [show i + 1 + j = i + (j + 1) by omega]; exact g1, g2, g3, g4.at fun o e => k5 _ _ g2 g3 e⟩
    · exact hit1.at fun o e => k4 I o (Ne.symm hSI) e
    · exact hl.at fun o e => k5 l o (Ne.symm hSl) hlI e
    · refine ⟨_, (Heap.get?_update_other _ _ (Nat.ne_of_lt hSlt)).trans ((Heap.get?_update_other _ _ (Nat.ne_of_lt hSlt)).trans (Heap.get?_push_size _ rfl)), rfl, _, rfl⟩
    · refine hR h' tk T' (.inr ?_) fun b o h2 h3 e => hk b o h2 h3 (k5 b o h2 h3 e)
      rw [ef, ← List.append_assoc]
      rcases hor with ⟨e0, z⟩ | ⟨z, n, hn⟩
      · subst e0
        rw [z]
        refine ⟨hle, 0, ?_⟩
        have e1 : acc ++ q.2 ++ flatV [] = acc ++ q.2 := by simp [flatV]
        rw [e1]
        exact hk _ _ (Nat.ne_of_gt hSlt) (Nat.ne_of_gt hIlt) ((Heap.get?_update_other _ _ (Nat.ne_of_lt hSlt)).trans ((Heap.get?_update_other _ _ (Nat.ne_of_lt hSlt)).trans (Heap.get?_push_size _ rfl)))
      · refine ⟨Nat.le_trans hle (Nat.le_trans ?_ z), n, hn⟩
        show h1.objs.size ≤ (((h1.push _).update S _).update S _).objs.size
        rw [Heap.size_update, Heap.size_update, PyProof.Rows.size_push']
        exact Nat.le_succ _
/-- sum(l, []) of a list of lists -/
theorem call_sumL {l z' : Addr} {items : Array Value} {rest : List (Addr × List Value)} {Q : Value → Shared → Prop} (hh : A.handled = none) (hl : s.heap.IsList l items) (hz : s.heap.IsList z' #[]) (hsz : items.size = rest.length) (hln : (flatV rest).length ≤ sizeLine)
    (ht : ∀ (j : Nat) (q : Addr × List Value), rest[j]? = some q → items[j]? = some (.ref q.1) ∧ s.heap.IsList q.1 q.2.toArray) (hne : rest ≠ [])
    (h : ∀ h' tk T' n, h'.get? T' = some { cls := .type "list", data := .seq (flatV rest).toArray n } → s.heap.objs.size ≤ T' → (∀ b o, s.heap.get? b = some o → h'.get? b = some o) → Q (.ref T') { s with heap := h', toks := tk }) :
    wpAny (model prog w) A (call (.builtin "sum") [.ref l, .ref z']) Q E s := by
  refine call_function_tree F.kind_sum F.plain_sum F.entry_sum (args_sumT _ _) ?_
  unfold Builtin.«sum»
  simp only [List.length_nil, List.length_cons]
  rw [if_neg (by decide)]
  refine wpAny_bind (wpAny_of_eq (show Builtin.Builtins.bindParams "sum" ["start"] 0 ⟨[.ref z'], []⟩ = pure [some (.ref z')] from rfl) ?_)
  refine wpAny_bind <| wpAny_pyIter_list hl ?_
  have k1 : ∀ b o, s.heap.get? b = some o → (s.heap.push { cls := .type "list_iterator", data := .fields #[.ref l, .int 0 0] }).get? b = some o := fun b o e => Heap.get?_push_of_some _ e
  have hz1 : (s.heap.push { cls := .type "list_iterator", data := .fields #[.ref l, .int 0 0] }).IsList z' #[] := hz.at fun o e => k1 _ _ e
  have hzT : Shared.TypeIs { s with heap := s.heap.push { cls := .type "list_iterator", data := .fields #[.ref l, .int 0 0] } } (.ref z') "list" := hz1.typeIs
  refine wpAny_bind <| wpAny_pure ?_
  simp only [List.forIn_nil, List.forIn_cons]
  refine wpAny_bind (wpAny_bind (wpAny_bind (wpAny_isInstance (T := "list") (b := false) hzT F.sub_list_str ?_)))
  simp only [if_false, Bool.false_eq_true]
  refine wpAny_pure (wpAny_bind (wpAny_bind (wpAny_isInstance (T := "list") (b := false) hzT F.sub_list_bytes ?_)))
  simp only [if_false, Bool.false_eq_true]
  refine wpAny_pure (wpAny_bind (wpAny_bind (wpAny_isInstance (T := "list") (b := false) hzT F.sub_list_bytearray ?_)))
  simp only [if_false, Bool.false_eq_true]
  refine wpAny_pure <| wpAny_pure ?_
  refine wpAny_bind <| wpAny_newObj_type ?_
  have k2 : ∀ b o, s.heap.get? b = some o → ((s.heap.push { cls := .type "list_iterator", data := .fields #[.ref l, .int 0 0] }).push { cls := .type "list", data := .seq #[.ref z'] }).get? b = some o := fun b o e => Heap.get?_push_of_some _ (k1 b o e)
  have lt : ∀ {b o}, s.heap.get? b = some o → b < s.heap.objs.size := fun e => Heap.lt_size e
  have sz1 : (s.heap.push { cls := .type "list_iterator", data := .fields #[.ref l, .int 0 0] }).objs.size = s.heap.objs.size + 1 := PyProof.Rows.size_push' _ _
  have ltl : l < s.heap.objs.size := by obtain ⟨o, ho, _⟩ := id hl; exact lt ho
  have ltz : z' < s.heap.objs.size := by obtain ⟨o, ho, _⟩ := id hz; exact lt ho
  have bg : ∀ {n : Nat}, n ≤ s.heap.objs.size → n < (s.heap.push { cls := .type "list_iterator", data := .fields #[.ref l, .int 0 0] }).objs.size := fun e => by rw [sz1]; exact Nat.lt_succ_of_le e
  refine wpAny_pure ⟨plainId_quiet F.plain_sum_loop _, sumL_loop (S := (s.heap.push { cls := .type "list_iterator", data := .fields #[.ref l, .int 0 0] }).objs.size) (I := s.heap.objs.size) (l := l) (items := items) hh (Nat.ne_of_lt ltl) (Nat.ne_of_gt (bg (Nat.le_refl _))) (Nat.ne_of_gt (bg (Nat.le_of_lt ltl))) rest 0 [] z' 0 0 0 _ (by rw [hsz, Nat.zero_add]) (by rw [List.length_nil, Nat.zero_add]; exact hln) (fun j q e => ?_) ⟨_, Heap.get?_push_of_some _ (Heap.get?_push_size _ rfl), rfl, rfl⟩ (hl.at fun o e => k2 _ _ e) (hz.at fun o e => k2 _ _ e) (Nat.ne_of_lt (bg (Nat.le_of_lt ltz))) (Nat.ne_of_lt ltz) (Heap.get?_push_size _ rfl) fun h' tk T' hor hk => ?_⟩
  · obtain ⟨g1, g2⟩ := ht j q e
    have ltq : q.1 < s.heap.objs.size := by obtain ⟨o, ho, _⟩ := id g2; exact lt ho
    exact ⟨by rw [Nat.zero_add]; exact g1, Nat.ne_of_lt (bg (Nat.le_of_lt ltq)), Nat.ne_of_lt ltq, g2.at fun o e => k2 _ _ e⟩
  · rcases hor with ⟨z, _⟩ | ⟨z, n, hn⟩
    · exact absurd z hne
    · refine h h' tk T' n (by simpa using hn) ?_ fun b o e => hk b o (Nat.ne_of_lt (bg (Nat.le_of_lt (lt e)))) (Nat.ne_of_lt (lt e)) (k2 b o e)
      have : ((s.heap.push { cls := .type "list_iterator", data := .fields #[.ref l, .int 0 0] }).push { cls := .type "list", data := .seq #[.ref z'] }).objs.size = s.heap.objs.size + 1 + 1 := by rw [PyProof.Rows.size_push', sz1]
      exact Nat.le_trans (by rw [this]; omega) z
end
section
variable {X : Cx}
def rSumL (K : PySem.W.Frag) : List V → Hp → VK → Prop := fun xs H Q => ∃ (a z : Addr) (ps : List (Addr × List V)), xs = [.ref a, .ref z] ∧ SqL K H a (ps.map fun p => V.ref p.1) ∧ (∀ p ∈ ps, SqL K H p.1 p.2) ∧ SqL K H z [] ∧ ps ≠ [] ∧ (ps.flatMap (·.2)).length ≤ sizeLine ∧
  ∀ q, H q = none → Q (.ref q) (upd H q (.lst (ps.flatMap (·.2))))
theorem cr_sumL (hc : X.calm = true) : CallR X (.builtin "sum") (rSumL X.K) := by
  intro pins s σ H xs us Q I r ⟨a, z, ps, ex, sq, each, sz, ne, hz, q⟩
  subst ex
  obtain ⟨u1, u2, eu, r1, r2⟩ := vals2 r
  subst eu
  cases r1
  cases r2
  obtain ⟨its, rv, hl, hz1⟩ := I.list sq
  obtain ⟨itz, rvz, hlz, _⟩ := I.list sz
  cases rvz
  have build : ∀ (ps : List (Addr × List V)) (its : List Value), Vals (ps.map fun p => V.ref p.1) its → (∀ p ∈ ps, SqL X.K H p.1 p.2) → ∃ rest : List (Addr × List Value), its.length = rest.length ∧ ps.length = rest.length ∧ Vals (ps.flatMap (·.2)) (flatV rest) ∧ ∀ (j : Nat) (q : Addr × List Value), rest[j]? = some q → its[j]? = some (.ref q.1) ∧ s.heap.IsList q.1 q.2.toArray := by
    intro ps
    induction ps with
    | nil =>
      intro its rv _
      cases rv
      exact ⟨[], rfl, rfl, .nil, fun j q e => by simp at e⟩
    | cons p ps ih =>
      intro its rv each
      rw [List.map_cons] at rv
      cases rv with
      | @cons _ u _ us h t =>
        cases h
        obtain ⟨rest, g1, g2, g3, g4⟩ := ih us t fun p hp => each p (List.mem_cons_of_mem _ hp)
        obtain ⟨itp, rp, hp, _⟩ := I.list (each p List.mem_cons_self)
        refine ⟨(p.1, itp) :: rest, by rw [List.length_cons, List.length_cons, g1], by rw [List.length_cons, List.length_cons, g2], ?_, fun j q e => ?_⟩
        · show Vals ((p :: ps).flatMap (·.2)) (flatV ((p.1, itp) :: rest))
          unfold flatV at g3 ⊢
          rw [List.flatMap_cons, List.flatMap_cons]
          exact rp.append g3
        · cases j with
          | zero =>
            have e' : (p.1, itp) = q := Option.some.inj e
            subst e'
            exact ⟨rfl, hp.isList⟩
          | succ j =>
            obtain ⟨w1, w2⟩ := g4 j q (by simpa using e)
            exact ⟨by simpa using w1, w2⟩
  obtain ⟨rest, g1, g2, g3, g4⟩ := build ps its rv each
  refine call_sumL (rest := rest) (I.ok.hd hc) hl.isList hlz.isList (by simpa using g1) (by rw [← g3.length]; exact hz) (fun j q e => by
    obtain ⟨w1, w2⟩ := g4 j q e
    exact ⟨by simpa using w1, w2⟩) (fun e => ne (by rw [e] at g2; exact List.eq_nil_of_length_eq_zero g2)) fun h' tk T' n hT hle hk => ?_
  exact ⟨.ref T', upd H T' (.lst (ps.flatMap (·.2))), I.laid (t' := tk) hk hle (show ObjOk X.prog X.w _ _ _ (.lst (ps.flatMap (·.2))) from ⟨hz, _, n, g3, hT⟩), rfl, q T' (I.hok.fresh hle)⟩
end
end KL
/-! B0: the text by places; what the defs' names hold. -/
namespace KL
open PySem PySem.Spec L2
def top (i : Nat) : Stmt := PySem.Challenge.pw_keptalong_k30_whole_rows_that_do_not_fit.main.body.getD i (.Pass ⟨0, 0, 0, 0⟩)
/-- built-in names are not stored by the module -/
structure Bi (mg : Str → Option Value) : Prop where
  len : mg "len" = none
  sorted : mg "sorted" = none
  all : mg "all" = none
  tuple : mg "tuple" = none
  list : mg "list" = none
  enumerate : mg "enumerate" = none
  zip : mg "zip" = none
  range : mg "range" = none
  reversed : mg "reversed" = none
  isinstance : mg "isinstance" = none
  set : mg "set" = none
  min : mg "min" = none
  max : mg "max" = none
  dict : mg "dict" = none
  sum : mg "sum" = none
  repr : mg "repr" = none
  abs : mg "abs" = none
  int : mg "int" = none
  str : mg "str" = none
theorem bt_all : bootBuiltins "all" = some (.builtin "all") := by decide +kernel
theorem bt_sorted : bootBuiltins "sorted" = some (.builtin "sorted") := by decide +kernel
theorem bt_tuple : bootBuiltins "tuple" = some (.type "tuple") := by decide +kernel
theorem bt_list : bootBuiltins "list" = some (.type "list") := by decide +kernel
/-- a def of the program, as a caller sees it -/
structure Cal (P : Program) (w : World) (K : PySem.W.Frag) (mg : Str → Option Value) (base : Heap) (k : Nat) (nm : Str) (R : List D → D → Prop) : Prop where
  ex : ∃ (f : Addr) (fd : FuncData) (ps : List Str), mg nm = some (.ref f) ∧ PySem.W.keepIn K (.ref f) = true ∧ Binds K fd ps [] ∧ FnOk P w K mg base CX0 k f fd ps (spD K R)
theorem Cal.mono {P : Program} {w : World} {K : PySem.W.Frag} {mg : Str → Option Value} {base : Heap} {j k : Nat} {nm : Str} {R : List D → D → Prop} (G : Cal P w K mg base j nm R) (h : j ≤ k) : Cal P w K mg base k nm R := by
  obtain ⟨f, fd, ps, h1, h2, h3, h4⟩ := G.ex
  exact ⟨f, fd, ps, h1, h2, h3, h4.mono h⟩
section
variable {X : Cx} {ρ : List Sl} {e : Expr} {es : List Expr} {p pos : Pos} {d : D} {dl : List D}
theorem call {k : Nat} {nm : Str} {R : List D → D → Prop} (G : Cal X.prog X.w X.K X.mg X.base k nm R) (hr : Room k X.A) (ha : PA X (e :: es) (tAr X.K ρ dl)) (h : R dl d) (hg : Gl X nm := by rfl) (hdb : (nm == ("__debug__" : Str)) = false := by decide)
    (he : starEach (e :: es) X.env = (false, eval e X.env) :: starEach es X.env := by rfl) (hpl : (backTo pos (starEach es X.env)).any (·.1) = false := by rfl) : PE X (.Call (.Name nm p) (e :: es) [] pos) (tD X.K ρ d) := by
  obtain ⟨f, fd, ps, h1, h2, h3, h4⟩ := G.ex
  exact dcall h4 hr hg h1 h2 h3 ha h hdb he hpl
end
theorem _root_.L2.PSs.eqW {X : Cx} {ρ : List Sl} {O O' : Out} {sts : List Stmt} (h : PSs X sts (tW X.K ρ O)) (q : O = O') : PSs X sts (tW X.K ρ O') := q ▸ h
theorem at0 {α : Type} {x : α} {xs : List α} : atI (x :: xs) 0 = some x := atI_nat (j := 0) rfl
/-! ### data as they stand in Lean -/
def sD (x : Str) : PyData := .str x
/-- a tuple of texts -/
def axD (xs : List Str) : PyData := .tuple (xs.map .str)
def nmD (xs : List Str) : PyData := .list (xs.map .str)
def lkD (l : List Str × Bool) : PyData := .tuple [axD l.1, .bool l.2]
/-- texts that Lean's own heap can hold -/
def OkS (xs : List Str) : Prop := ∀ x ∈ xs, PyData.strOk x = true
theorem OkS.cons {x : Str} {xs : List Str} (h : PyData.strOk x = true) (h' : OkS xs) : OkS (x :: xs) := fun y hy => (List.mem_cons.mp hy).elim (fun e => e ▸ h) (h' y)
theorem strs_flat : ∀ xs : List Str, (xs.map PyData.str).all flatD = true
  | [] => rfl
  | x :: xs => by rw [List.map_cons, List.all_cons, strs_flat xs]; rfl
theorem ints_flat : ∀ xs : List Int, (xs.map PyData.int).all flatD = true
  | [] => rfl
  | x :: xs => by rw [List.map_cons, List.all_cons, ints_flat xs]; rfl
theorem any_str (x : Str) : ∀ xs : List Str, ((xs.map PyData.str).any fun z => PyData.eqv z (.str x)) = decide (x ∈ xs)
  | [] => by simp
  | y :: ys => by
    rw [List.map_cons, List.any_cons, any_str x ys]
    show ((y == x) || decide (x ∈ ys)) = decide (x ∈ y :: ys)
    by_cases h : y = x
    · subst h; simp
    · have h' : ¬ x = y := fun z => h z.symm
      rw [show (y == x) = false from beq_eq_false_iff_ne.mpr h, Bool.false_or]
      simp [h']
theorem any_int (x : Int) : ∀ xs : List Int, ((xs.map PyData.int).any fun z => PyData.eqv z (.int x)) = decide (x ∈ xs)
  | [] => by simp
  | y :: ys => by
    rw [List.map_cons, List.any_cons, any_int x ys]
    show ((y == x) || decide (x ∈ ys)) = decide (x ∈ y :: ys)
    by_cases h : y = x
    · subst h; simp
    · have h' : ¬ x = y := fun z => h z.symm
      rw [show (y == x) = false from beq_eq_false_iff_ne.mpr h, Bool.false_or]
      simp [h']
theorem sz {n : Nat} (h : n ≤ 100000) : n ≤ sizeLine := Nat.le_trans h (by decide)
theorem szl {n : Nat} (h : n < 100000) : n < sizeLine := Nat.lt_of_lt_of_le h (by decide)
theorem alike_strs : ∀ xs ys : List Str, PySem.W.alikeAll (xs.map .str) (ys.map .str) = true
  | [], _ => by simp [PySem.W.alikeAll]
  | _ :: _, [] => by simp [PySem.W.alikeAll]
  | x :: xs, y :: ys => by
    show PySem.W.alikeAll (.str x :: xs.map .str) (.str y :: ys.map .str) = true
    rw [PySem.W.alikeAll, alike_strs xs ys]
    simp [PySem.W.alike]
theorem aa_strs (xs : List Str) : PySem.W.AllAlike (xs.map .str) := fun d hd d' hd' => by
  obtain ⟨x, _, rfl⟩ := List.mem_map.mp hd
  obtain ⟨y, _, rfl⟩ := List.mem_map.mp hd'
  rfl
theorem so_strs (xs : List Str) : PySem.W.Sortable (xs.map .str) := .inr fun d hd => by
  obtain ⟨x, _, e⟩ := List.mem_map.mp hd
  rw [← e]
  exact ⟨fun z => (nomatch z), fun _ z => (nomatch z)⟩
theorem de_strs (xs : List Str) : ∀ d ∈ xs.map PyData.str, d.depth ≤ 20 := fun d hd => by
  obtain ⟨x, _, rfl⟩ := List.mem_map.mp hd
  simp [PyData.depth]
/-- sorted texts -/
def leS (x y : Str) : Bool := decide (x.cps.toList ≤ y.cps.toList)
def sortS (xs : List Str) : List Str := xs.mergeSort leS
theorem srt_strs (xs : List Str) : srt (xs.map .str) = (sortS xs).map .str := by
  unfold srt sortS
  rw [PySem.W.sort_maps (r := leS) (s := PySem.W.dataLe false fun d => d) PyData.str]
  intro x _ y _
  show leS x y = PySem.W.dataLe false (fun d : PyData => d) (.str x) (.str y)
  have := congrFun (congrFun (PySem.W.dataLe_str (β := Str) fun b => b) x) y
  unfold leS
  exact this.symm
/-! ### plans -/
structure Plan where
  steps : List (Str × List Str)
  pairs : List (Str × Str × List Str)
def stD (s : Str × List Str) : PyData := .tuple [.str s.1, axD s.2]
def prD (p : Str × Str × List Str) : PyData := .tuple [.str p.1, .str p.2.1, axD p.2.2]
def planD (P : Plan) : PyData := .tuple [.tuple (P.steps.map stD), .tuple (P.pairs.map prD)]
structure Plan.Ok (P : Plan) : Prop where
  nd : (P.steps.map (·.1)).Nodup
  kd : (P.pairs.map fun p => (p.1, p.2.1)).Nodup
  e1 : ∀ p ∈ P.pairs, p.1 ∈ P.steps.map (·.1)
  e2 : ∀ p ∈ P.pairs, p.2.1 ∈ P.steps.map (·.1)
  ne : ∀ p ∈ P.pairs, p.1 ≠ p.2.1
  s1 : P.steps.length ≤ 20
  s2 : P.pairs.length ≤ 30
  s3 : ∀ s ∈ P.steps, s.2.length ≤ 20
  s4 : ∀ p ∈ P.pairs, p.2.2.length ≤ 20
  o1 : ∀ s ∈ P.steps, PyData.strOk s.1 = true ∧ OkS s.2
  o2 : ∀ p ∈ P.pairs, OkS p.2.2
theorem look_mem {κ : Type} [DecidableEq κ] : ∀ {kvs : List (κ × PyData)}, (kvs.map (·.1)).Nodup → ∀ p ∈ kvs, look kvs p.1 = some p.2
  | [], _, p, h => nomatch h
  | q :: r, nd, p, h => by
    have nd' := List.nodup_cons.mp (show (q.1 :: r.map (·.1)).Nodup from nd)
    obtain rfl | h := List.mem_cons.mp h
    · unfold look
      rw [List.find?_cons_of_pos (by exact decide_eq_true rfl)]
      rfl
    · have : ¬ q.1 = p.1 := fun z => nd'.1 (by rw [z]; exact List.mem_map.mpr ⟨p, h, rfl⟩)
      have ih := look_mem nd'.2 p h
      unfold look at ih ⊢
      rw [List.find?_cons_of_neg (by exact fun z => this (of_decide_eq_true z))]
      exact ih
theorem u1 {A : Around} {k : Nat} (hr : Room k A) : A.units + 1 < cLine := by have := hr.un; omega
theorem u0 {A : Around} {k : Nat} (hr : Room k A) : A.units < cLine := by have := hr.un; omega
theorem u64 {A : Around} {k : Nat} (hr : Room k A) : A.units + 64 < cLine := by have := hr.un; omega
theorem u65 {A : Around} {k : Nat} (hr : Room k A) : A.units + 65 < cLine := by have := hr.un; omega
theorem aa_names (xs : List (List Str)) : PySem.W.AllAlike (xs.map nmD) := fun d hd d' hd' => by
  obtain ⟨x, _, rfl⟩ := List.mem_map.mp hd
  obtain ⟨y, _, rfl⟩ := List.mem_map.mp hd'
  exact alike_strs x y
theorem so_names (xs : List (List Str)) : PySem.W.Sortable (xs.map nmD) := .inr fun d hd => by
  obtain ⟨x, _, e⟩ := List.mem_map.mp hd
  rw [← e]
  exact ⟨fun z => (nomatch z), fun _ z => (nomatch z)⟩
theorem depth_strs : ∀ xs : List Str, PyData.depthAll (xs.map .str) = 0
  | .nil => by simp [PyData.depthAll]
  | x :: xs => by
    show PyData.depthAll (.str x :: xs.map .str) = 0
    rw [PyData.depthAll, depth_strs xs]
    simp [PyData.depth]
theorem de_names (xs : List (List Str)) : ∀ d ∈ xs.map nmD, d.depth ≤ 20 := fun d hd => by
  obtain ⟨x, _, rfl⟩ := List.mem_map.mp hd
  show (PyData.list (x.map .str)).depth ≤ 20
  simp only [PyData.depth, depth_strs]
  omega
def sortP (xs : List (List Str)) : List (List Str) := xs.mergeSort (PySem.W.dataLe false nmD)
theorem srt_names (xs : List (List Str)) : srt (xs.map nmD) = (sortP xs).map nmD := by
  unfold srt sortP
  rw [PySem.W.sort_maps (r := PySem.W.dataLe false nmD) (s := PySem.W.dataLe false fun d => d) nmD (fun _ _ _ _ => rfl)]
theorem lay_strs : ∀ xs : List Str, OkS xs → PyData.canLayAll0 (xs.map .str) = true
  | [], _ => by simp [PyData.canLayAll0]
  | x :: xs, h => by
    show PyData.canLayAll0 (.str x :: xs.map .str) = true
    have := h x (by simp)
    simp [PyData.canLayAll0, lay_strs xs (fun y hy => h y (by simp [hy])), PyData.canLay0, this]
theorem lay_names : ∀ xs : List (List Str), (∀ x ∈ xs, OkS x) → PyData.canLayAll0 (xs.map nmD) = true
  | [], _ => by simp [PyData.canLayAll0]
  | x :: xs, h => by
    show PyData.canLayAll0 (.list (x.map .str) :: xs.map nmD) = true
    simp [PyData.canLayAll0, lay_names xs (fun y hy => h y (by simp [hy])), PyData.canLay0, lay_strs x (h x (by simp))]
theorem depth_names : ∀ xs : List (List Str), PyData.depthAll (xs.map nmD) ≤ 1
  | .nil => by simp [PyData.depthAll]
  | x :: xs => by
    show PyData.depthAll (.list (x.map .str) :: xs.map nmD) ≤ 1
    have := depth_names xs
    simp only [PyData.depthAll, PyData.depth, depth_strs]
    omega
theorem shaped_of {d : PyData} (h : d.canLay0 = true) (h2 : d.depth ≤ 64) : SeqAt.shaped d = true := by
  show (d.canLay0 && decide (d.depth ≤ 64)) = true
  rw [h, decide_eq_true h2]
  rfl
theorem sh_str {x : Str} (h : PyData.strOk x = true) : SeqAt.shaped (.str x) = true := shaped_of (by simpa [PyData.canLay0] using h) (by simp [PyData.depth])
theorem sh_int (i : Int) : SeqAt.shaped (.int i) = true := shaped_of (by simp [PyData.canLay0]) (by simp [PyData.depth])
theorem sh_none : SeqAt.shaped .none = true := shaped_of (by simp [PyData.canLay0]) (by simp [PyData.depth])
theorem sh_nil : SeqAt.shaped (.list []) = true := shaped_of (by simp [PyData.canLay0, PyData.canLayAll0]) (by simp [PyData.depth, PyData.depthAll])
theorem sh_nilT : SeqAt.shaped (.tuple []) = true := shaped_of (by simp [PyData.canLay0, PyData.canLayAll0]) (by simp [PyData.depth, PyData.depthAll])
theorem sh_names {xs : List (List Str)} (h : ∀ x ∈ xs, OkS x) : SeqAt.shaped (.list (xs.map nmD)) = true := by
  have := depth_names xs
  exact shaped_of (by simp only [PyData.canLay0]; exact lay_names xs h) (by simp only [PyData.depth]; omega)
theorem sh_nm {xs : List Str} (h : OkS xs) : SeqAt.shaped (nmD xs) = true := shaped_of (by simp only [nmD, PyData.canLay0]; exact lay_strs xs h) (by simp only [nmD, PyData.depth, depth_strs]; omega)
theorem sh_ax {xs : List Str} (h : OkS xs) : SeqAt.shaped (axD xs) = true := shaped_of (by simp only [axD, PyData.canLay0]; exact lay_strs xs h) (by simp only [axD, PyData.depth, depth_strs]; omega)
theorem eqv_strs : ∀ xs ys : List Str, PyData.eqvAll (xs.map .str) (ys.map .str) = decide (xs = ys)
  | .nil, .nil => by simp [PyData.eqvAll]
  | [], y :: ys => by simp [PyData.eqvAll]
  | x :: xs, [] => by simp [PyData.eqvAll]
  | x :: xs, y :: ys => by
    show PyData.eqvAll (.str x :: xs.map .str) (.str y :: ys.map .str) = _
    rw [PyData.eqvAll, eqv_strs xs ys]
    show ((x == y) && decide (xs = ys)) = _
    by_cases h : x = y
    · subst h; simp
    · simp [h]
theorem eqv_ax (xs ys : List Str) : PyData.eqv (axD xs) (axD ys) = decide (xs = ys) := by
  show PyData.eqv (.tuple _) (.tuple _) = _
  rw [PyData.eqv]
  exact eqv_strs xs ys
theorem eqv_nm (xs ys : List Str) : PyData.eqv (nmD xs) (nmD ys) = decide (xs = ys) := by
  show PyData.eqv (.list _) (.list _) = _
  rw [PyData.eqv]
  exact eqv_strs xs ys
theorem eqv_str (x y : Str) : PyData.eqv (.str x) (.str y) = decide (x = y) := by
  rw [PyData.eqv]
  by_cases h : x = y
  · subst h; simp
  · simp [h]
theorem eqv_nil (ds : List PyData) : PyData.eqv (.list ds) (.list []) = ds.isEmpty := by
  cases ds <;> simp [PyData.eqv, PyData.eqvAll]
theorem Plan.Ok.oN {P : Plan} (ok : P.Ok) {x : Str} (h : x ∈ P.steps.map (·.1)) : PyData.strOk x = true := by
  obtain ⟨s, hs, rfl⟩ := List.mem_map.mp h
  exact (ok.o1 s hs).1
/-- a list without repeats, all in another, is no longer -/
theorem nd_len {α : Type} [DecidableEq α] : ∀ {xs ys : List α}, xs.Nodup → (∀ x ∈ xs, x ∈ ys) → xs.length ≤ ys.length
  | .nil, _, _, _ => Nat.zero_le _
  | x :: xs, ys, h, s => by
    rcases List.nodup_cons.mp h with ⟨h1, h2⟩
    have hx := s x (by simp)
    have := nd_len (xs := xs) (ys := ys.erase x) h2 (fun y hy => (List.mem_erase_of_ne (fun e : y = x => h1 (e ▸ hy))).mpr (s y (by simp [hy])))
    rw [List.length_erase_of_mem hx] at this
    have := List.length_pos_of_mem hx
    simp only [List.length_cons]
    omega
theorem bt_set : bootBuiltins "set" = some (.type "set") := by decide +kernel
theorem bt_min : bootBuiltins "min" = some (.builtin "min") := by decide +kernel
theorem bt_max : bootBuiltins "max" = some (.builtin "max") := by decide +kernel
theorem bt_str : bootBuiltins "str" = some (.type "str") := by decide +kernel
theorem bt_int : bootBuiltins "int" = some (.type "int") := by decide +kernel
theorem bt_dict : bootBuiltins "dict" = some (.type "dict") := by decide +kernel
/-! the order of texts -/
theorem str_ext {x y : Str} (h : x.cps.toList = y.cps.toList) : x = y := by
  cases x with
  | mk a =>
    cases y with
    | mk b =>
      have : a = b := Array.toList_inj.mp h
      rw [this]
theorem leS_total (x y : Str) : leS x y || leS y x := by
  unfold leS
  rcases Nat.lt_or_ge 0 1 with _ | z
  · simpa using List.le_total x.cps.toList y.cps.toList
  · omega
theorem leS_trans {x y z : Str} (h1 : leS x y = true) (h2 : leS y z = true) : leS x z = true := by
  unfold leS at *
  simp only [decide_eq_true_eq] at h1 h2 ⊢
  exact List.le_trans h1 h2
theorem leS_anti {x y : Str} (h1 : leS x y = true) (h2 : leS y x = true) : x = y := by
  unfold leS at *
  simp only [decide_eq_true_eq] at h1 h2 ⊢
  exact str_ext (List.le_antisymm h1 h2)
theorem sortS_sorted (xs : List Str) : (sortS xs).Pairwise fun a b => leS a b = true := by
  unfold sortS
  exact List.pairwise_mergeSort (le := leS) (fun _ _ _ => leS_trans) leS_total xs
theorem sorted_eq : ∀ {xs ys : List Str}, xs.Pairwise (fun a b => leS a b = true) → ys.Pairwise (fun a b => leS a b = true) → xs.Perm ys → xs = ys := by
  intro xs ys h1 h2 p
  exact p.eq_of_pairwise (fun a b _ _ z1 z2 => leS_anti z1 z2) h1 h2
theorem sortS_perm {xs ys : List Str} (p : xs.Perm ys) : sortS xs = sortS ys := by
  refine sorted_eq (sortS_sorted xs) (sortS_sorted ys) ?_
  unfold sortS
  exact (List.mergeSort_perm _ _).trans (p.trans (List.mergeSort_perm _ _).symm)
/-- sorted(set(xs)) -/
def setS (xs : List Str) : List Str := sortS (insT [] xs)
theorem setS_ok (xs : List Str) : ∀ m : List Str, m.Perm (insT [] xs) → srt (m.map .str) = (setS xs).map .str := fun m p => by
  rw [srt_strs, sortS_perm p]
  rfl
end KL
/-! DMc: sum, dict of a tuple of pairs, sorted keys, as data. -/
namespace KL
open PySem PySem.Spec L2
section
variable {X : Cx} {ρ : List Sl} {a b e : Expr} {p pos : Pos}
theorem dp_lists {K : PySem.W.Frag} {F : Hp} : ∀ {dss : List (List PyData)} {vs : List V}, DpAll K F vs (dss.map .list) → ∃ ps : List (Addr × List V), vs = ps.map (fun p => V.ref p.1) ∧ ps.length = dss.length ∧ (∀ p ∈ ps, SqL K F p.1 p.2) ∧ DpAll K F (ps.flatMap (·.2)) dss.flatten
  | [], _, h => by
    cases h
    exact ⟨[], rfl, rfl, fun p z => (nomatch z), .nil⟩
  | ds :: dss, _, h => by
    cases h with
    | cons h t =>
      cases h with
      | lst sq dp =>
        rename_i q xs
        obtain ⟨ps, e1, e2, e3, e4⟩ := dp_lists t
        refine ⟨(q, xs) :: ps, by rw [List.map_cons, e1], by rw [List.length_cons, List.length_cons, e2], fun p z => ?_, ?_⟩
        · rcases List.mem_cons.mp z with rfl | z
          · exact sq
          · exact e3 p z
        · rw [List.flatMap_cons, List.flatten_cons]
          exact dpAll_append dp e4
theorem dsumL {dss : List (List PyData)} (hc : X.calm = true) (hg : Gl X "sum") (hm : X.mg "sum" = none) (hv : bootBuiltins "sum" = some (.builtin "sum")) (ha : PE X a (tS X.K ρ (dss.map .list))) (hb : PE X b (tN X.K ρ [])) (hne : dss ≠ []) (hz : dss.flatten.length ≤ sizeLine)
    (he : starEach [a, b] X.env = (false, eval a X.env) :: starEach [b] X.env := by rfl) (he2 : starEach [b] X.env = (false, eval b X.env) :: starEach [] X.env := by rfl)
    (hpl : (backTo pos (starEach [b] X.env)).any (·.1) = false := by rfl) : PE X (.Call (.Name "sum" p) [a, b] [] pos) (tN X.K ρ dss.flatten) :=
  (pe_callB (cr_sumL hc) hg hm hv (pa_cons ha (pa_cons hb pa_nil he2) he) (by decide) (by decide) he hpl).imp fun σ H Q ⟨F, A, l, rp, k⟩ => ⟨F, A, l, rp, fun F1 H1 v e1 ⟨q, xs, ev, sq, dp⟩ => ⟨F1, A, e1.fh, rp.mono e1, fun F2 H2 u e2 ⟨z, ys, eu, nF, nH, eH, _, dz⟩ => by
    cases dz
    obtain ⟨ps, g1, g2, g3, g4⟩ := dp_lists dp
    have dl := DpAll.len g4
    refine ⟨q, z, ps, by rw [ev, eu], by rw [← g1]; exact (Le.of e2.hh).sqL sq, fun p m => (e2.ff.trans e2.fh).sqL (g3 p m), .inl (.inl eH), fun w => ?_, by rw [dl]; exact hz, fun t n => ?_⟩
    · rw [w] at g2
      exact hne (List.eq_nil_of_length_eq_zero g2.symm)
    · exact k F2 _ _ ((e1.trans e2).trans (.newH e2.fh n)) ⟨t, _, rfl, e2.fh.dom t n, (e1.trans e2).hh.free n, upd_same, by rw [dl]; exact hz, e2.ff.dps g4⟩⟩⟩
end
end KL
/-! DMd: tuples that have no dict of their own; dict of such a tuple. -/
namespace KL
open PySem PySem.Spec L2
theorem new_frz {F H F' H' : Hp} (ex : Ext F H F' H') {p : Addr} {o : Obj} {ys : List V} (n : H' p = none) (d0 : o.dict = none) : Ext F H (upd F' p (.frz o (.tup ys))) (upd H' p (.frz o (.tup ys))) ∧ Le F' (upd F' p (.frz o (.tup ys))) ∧ Nd (upd F' p (.frz o (.tup ys))) p := by
  have nF : F' p = none := ex.fh.dom p n
  have l1 : Le F' (upd F' p (.frz o (.tup ys))) := by
    refine ⟨fun a u _ h => upd_rd nF h, fun a h => ?_, fun a φ h => by rw [upd_ne (ne_of_none h nF)]; exact h, fun a ⟨o', xs, h, d⟩ => ⟨o', xs, by rw [upd_ne (ne_of_none h nF)]; exact h, d⟩⟩
    by_cases z : a = p
    · rw [z]; exact nF
    · rw [upd_ne z] at h; exact h
  have l2 : Le (upd F' p (.frz o (.tup ys))) (upd H' p (.frz o (.tup ys))) := by
    refine ⟨fun a u pu h => ?_, fun a h => ?_, fun a φ h => ?_, fun a ⟨o', xs, h, d⟩ => ?_⟩
    · by_cases z : a = p
      · rw [z] at h ⊢
        rcases h with h | ⟨b, h⟩
        · rw [upd_same] at h; exact .inl (by rw [upd_same]; exact h)
        · rw [upd_same] at h; exact .inr ⟨b, by rw [upd_same]; exact h⟩
      · rcases h with h | ⟨b, h⟩
        · rw [upd_ne z] at h
          rcases ex.fh.rd a u pu (.inl h) with q | ⟨c, q⟩
          · exact .inl (by rw [upd_ne z]; exact q)
          · exact .inr ⟨c, by rw [upd_ne z]; exact q⟩
        · rw [upd_ne z] at h
          rcases ex.fh.rd a u pu (.inr ⟨b, h⟩) with q | ⟨c, q⟩
          · exact .inl (by rw [upd_ne z]; exact q)
          · exact .inr ⟨c, by rw [upd_ne z]; exact q⟩
    · by_cases z : a = p
      · rw [z, upd_same] at h; cases h
      · rw [upd_ne z] at h ⊢; exact ex.fh.dom a h
    · by_cases z : a = p
      · rw [z, upd_same] at h; cases h
      · rw [upd_ne z] at h ⊢; exact ex.fh.ex a φ h
    · by_cases z : a = p
      · rw [z, upd_same] at h
        rw [z]
        exact ⟨o', xs, by rw [upd_same]; exact h, d⟩
      · rw [upd_ne z] at h
        obtain ⟨o2, xs2, e2, d2⟩ := ex.fh.fz a ⟨o', xs, h, d⟩
        exact ⟨o2, xs2, by rw [upd_ne z]; exact e2, d2⟩
  have e1 : Ext F H F' (upd H' p (.frz o (.tup ys))) := ex.trans (.newH ex.fh n)
  refine ⟨⟨ex.ff.trans l1, l2, e1.hh, fun a h1 h2 => ?_⟩, l1, o, ys, upd_same, d0⟩
  have : a ≠ p := fun z => h2 (z ▸ ex.hh.free n)
  rw [upd_ne this]
  exact ex.own a h1 h2
theorem list_choice {α : Type} {R : Nat → α → Prop} : ∀ n : Nat, (∀ j, j < n → ∃ u, R j u) → ∃ us : List α, us.length = n ∧ ∀ j u, us[j]? = some u → R j u
  | 0, _ => ⟨[], rfl, fun j u e => by simp at e⟩
  | n + 1, h => by
    obtain ⟨us, e1, e2⟩ := list_choice n fun j hj => h j (Nat.lt_succ_of_lt hj)
    obtain ⟨u, hu⟩ := h n (Nat.lt_succ_self n)
    refine ⟨us ++ [u], by rw [List.length_append, e1]; rfl, fun j x e => ?_⟩
    by_cases hj : j < us.length
    · rw [List.getElem?_append_left hj] at e
      exact e2 j x e
    · have hlt := (List.getElem?_eq_some_iff.mp e).1
      rw [List.length_append, List.length_singleton] at hlt
      have : j = n := by omega
      subst this
      rw [List.getElem?_append_right (by omega), e1, Nat.sub_self] at e
      have : u = x := by simpa using e
      rw [← this]
      exact hu
section
variable {X : Cx} {ρ : List Sl} {a b e : Expr} {p pos : Pos} {ds es : List PyData}
theorem cr_tupleF : CallR X (.type "tuple") (fun xs H Q => ∃ p ys, xs = [.ref p] ∧ SqL X.K H p ys ∧ ∀ (l : Addr) (o : Obj), H l = none → o.dict = none → Q (.ref l) (upd H l (.frz o (.tup ys)))) := by
  intro pins s σ H xs us Q I r ⟨p, ys, ex, hq, q⟩
  subst ex
  obtain ⟨u, eu, rx⟩ := vals1 r
  subst eu
  cases rx
  obtain ⟨its, r', pl, hz⟩ := I.list hq
  have hlen := r'.length
  refine call_tuple_list pl.isList (fun h' kept => ?_) (by simp only [List.size_toArray] <;> omega)
  have I1 := (I.kept (t' := s.toks) kept : Inv X pins σ H { s with heap := h' })
  have I2 : Inv X pins σ (upd H h'.objs.size (.frz { cls := .type "tuple", data := .seq its.toArray } (.tup ys))) { s with heap := h'.push { cls := .type "tuple", data := .seq its.toArray } } :=
    I1.laid (t' := s.toks) (fun b o e => Heap.get?_push_of_some _ e) (Nat.le_refl _) ⟨Heap.get?_push_size _ rfl, hz, its, r', PyProof.Rows.IsTup.new _ _⟩
  exact ⟨.ref h'.objs.size, _, I2, rfl, q _ _ (I1.hok.fresh (Nat.le_refl _)) rfl⟩
/-- tuple(list) -/
theorem tupF (hg : Gl X "tuple") (hm : X.mg "tuple" = none) (hv : bootBuiltins "tuple" = some (.type "tuple")) (ha : PE X e (tS X.K ρ ds)) (he : starEach [e] X.env = (false, eval e X.env) :: starEach [] X.env := by rfl) : PE X (.Call (.Name "tuple" p) [e] [] pos) (tD X.K ρ (.tn ds)) :=
  callT1 cr_tupleF (he := he) hg hm hv ha fun F H F1 H1 x Q l e1 ⟨q, xs, ev, sq, dp⟩ k => ⟨q, xs, by rw [ev], sq, fun t o n d0 => by
    obtain ⟨e2, l2, nd⟩ := new_frz (ys := xs) e1 n d0
    exact k _ _ _ e2 ⟨t, xs, rfl, .inl (.inr ⟨o, upd_same⟩), nd, l2.dps dp⟩⟩
theorem tn2d (h : PE X e (tD X.K ρ (.tn ds))) : PE X e (tD X.K ρ (.d (.tuple ds))) := tR.conv h fun F H F' H' v l ex ⟨b, ys, ev, sq, _, dp⟩ => ⟨F', ex, by rw [ev]; exact Dp.tup sq dp⟩
theorem tf2d (h : PE X e (tD X.K ρ (.tf ds es))) : PE X e (tD X.K ρ (.d (.tuple (.tuple ds :: es)))) := tR.conv h fun F H F' H' v l ex ⟨a, b, xs, ys, ev, s1, s2, _, d1, d2⟩ => ⟨F', ex, by rw [ev]; exact Dp.tup s1 (.cons (Dp.tup s2 d1) d2)⟩
/-- (a, b), a of that kind -/
theorem dtupF {x1} {r : List Expr} (h : PA X r (tAr X.K ρ (.tn ds :: es.map .d))) (hl : es.length + 1 ≤ sizeLine := by first | exact small rfl | decide) : PE X (.Tuple r x1 pos) (tD X.K ρ (.tf ds es)) :=
  (pe_tup h).imp fun σ H Q ⟨F, A, l, r, k⟩ => ⟨F, A, l, r, fun F1 H1 vs e1 q1 => by
    cases q1 with
    | cons h1 t1 =>
      obtain ⟨b, ys, ev, sq, nd, dp⟩ := h1
      subst ev
      have q2 := isAll_dp t1
      refine ⟨by rw [List.length_cons, DpAll.len q2]; exact hl, fun p n => ?_⟩
      obtain ⟨e2, l2⟩ := new_fr e1 (o := .tup _) n trivial
      exact k _ _ _ e2 ⟨p, b, _, ys, rfl, .inl (.inl upd_same), l2.sqT sq, l2.fz b nd, l2.dps dp, l2.dps q2⟩⟩
/-- (..)[0] of it -/
theorem ixF (ha : PE X a (tD X.K ρ (.tf ds es))) (hb : PE X b (tD X.K ρ (.d (.int 0)))) (hs : PlainIx b := by intro _ _; rfl) : PE X (.Subscript a b pos) (tD X.K ρ (.tn ds)) :=
  (pe_ix ix_tup ha hb hs).imp fun σ H Q q => op2 (fun F H F1 H1 F2 H2 u v Q l e1 ⟨a, b, xs, ys, eu, s1, s2, nd, d1, d2⟩ e2 q2 k => by
    cases (show Dp X.K F2 v (.int 0) from q2)
    exact ⟨a, _, 0, .ref b, eu, rfl, (e2.ff.trans e2.fh).sqT s1, at0, k F2 H2 _ (e1.trans e2) ⟨b, ys, rfl, e2.ff.sqT s2, e2.ff.fz b nd, e2.ff.dps d1⟩⟩) q
/-- dict(t) of a tuple of pairs -/
theorem cr_dictT (hcalm : X.calm = true) : CallR X (.type "dict") (fun xs H Q => ∃ (a : Addr) (ps : List Addr) (kvs : List (Key × V)), xs = [.ref a] ∧ SqT X.K H a (ps.map V.ref) ∧ Nd H a ∧ Paired (fun p kv => SqT X.K H p [kV kv.1, kv.2]) ps kvs ∧
    ∀ D, H D = none → Q (.ref D) (upd H D (.dK (mergeK [] kvs)))) := by
  intro pins s σ H xs us Q I r ⟨a, ps, kvs, ex, hq, nd, hp, q⟩
  subst ex
  obtain ⟨u, eu, rx⟩ := vals1 r
  subst eu
  cases rx
  obtain ⟨its, rv, pl, hz⟩ := I.tuple hq
  have ei := refs_at rv
  subst ei
  rw [List.length_map] at hz
  rcases pairs_of I hp with ⟨prs, rel, hl, hpr⟩
  obtain ⟨o, ho, hc, n, hdat⟩ := id pl
  have hd : o.dict = none := by
    obtain ⟨o', xs', e', d'⟩ := nd
    obtain ⟨g1, _⟩ := I.hok _ _ e'
    rw [ho] at g1
    cases g1
    exact d'
  have key : ∀ j, j < prs.length → ∃ u : Value × Value, ∃ q, prs[j]? = some q ∧ u.2 = q.2 ∧ ps[j]? = some (ps.getD j 0) ∧ PyProof.Rows.IsTup s.heap (ps.getD j 0) #[u.1, u.2] ∧ keyIs q.1 u.1 = true := fun j hj => by
    obtain ⟨b, u, e1, e2, e3⟩ := hpr j _ (List.getElem?_eq_getElem hj)
    have : ps.getD j 0 = b := by rw [List.getD_eq_getElem?_getD, e1]; rfl
    exact ⟨(u, prs[j].2), prs[j], List.getElem?_eq_getElem hj, rfl, by rw [this]; exact e1, by rw [this]; exact e2, e3⟩
  obtain ⟨pvs, hpl, hpv⟩ := list_choice prs.length key
  refine PySem.call_dict_pairs (knd := mixKind X.prog X.w) (kvs := prs) (PairArg.tuple a (ps.map Value.ref).toArray (fun j => ps.getD j 0) pvs) (I.ok.hd hcalm) ⟨⟨o, n, ho, hc, hd, hdat⟩, by simp [hpl, hl], fun j k v e => ?_⟩ ⟨hpl.symm, fun j k v e => ?_⟩ (by rw [hpl, hl]; exact hz) fun h' tk hd' k => ?_
  · obtain ⟨q, g1, g2, g3, g4, g5⟩ := hpv j (k, v) e
    refine ⟨?_, .inl g4⟩
    rw [List.getElem?_toArray, List.getElem?_map, g3]
    rfl
  · obtain ⟨q, g1, g2, g3, g4, g5⟩ := hpv j (k, v) e
    obtain ⟨q1, q2⟩ := q
    cases (show v = q2 from g2)
    exact ⟨q1, g1, g5⟩
  · have hm : (s.heap.objs.size == sysModules) = false := by exact beq_eq_false_iff_ne.mpr (Nat.ne_of_gt I.big)
    have hlen : (mergeK [] kvs).length ≤ sizeLine := Nat.le_trans (length_mergeK kvs []) <| by
      rewrite [List.length_nil]; rw [Nat.zero_add, rel.length, hl]
      exact hz
    exact ⟨.ref s.heap.objs.size, upd H s.heap.objs.size (.dK (mergeK [] kvs)), I.laid (t' := tk) (fun b o e => k b o (by simp) e) (Nat.le_refl _) (show ObjOk X.prog X.w _ _ _ (.dK (mergeK [] kvs)) from ⟨hlen, hm, merged [] prs, KV.merge rel .nil, hd'⟩), rfl, q _ (I.hok.fresh (Nat.le_refl _))⟩
theorem dp_pairs {K : PySem.W.Frag} {F : Hp} : ∀ {kys : List (Key × PyData)} {vs : List V}, DpAll K F vs (kys.map fun q => .tuple [keyD q.1, q.2]) → ∃ (ps : List Addr) (kvs : List (Key × V)), vs = ps.map V.ref ∧ Paired (fun p kv => SqT K F p [kV kv.1, kv.2]) ps kvs ∧ KDat K F kvs kys
  | [], _, h => by
    cases h
    exact ⟨[], [], rfl, .nil, .nil⟩
  | (k, y) :: kys, _, h => by
    cases h with
    | cons h t =>
      obtain ⟨ps, kvs, e1, e2, e3⟩ := dp_pairs t
      cases h with
      | tup sq dp =>
        rename_i q xs
        cases dp with
        | cons h1 t1 =>
          cases t1 with
          | cons h2 t2 =>
            cases t2
            have := dp_key h1
            subst this
            exact ⟨q :: ps, (k, _) :: kvs, by rw [List.map_cons, e1], .cons sq e2, .cons ⟨rfl, h2⟩ e3⟩
theorem dictT {kys : List (Key × PyData)} (hc : X.calm = true) (hg : Gl X "dict") (hm : X.mg "dict" = none) (hd : (kys.map (·.1)).Nodup) (ha : PE X e (tD X.K ρ (.tn (kys.map fun q => .tuple [keyD q.1, q.2])))) (he : starEach [e] X.env = (false, eval e X.env) :: starEach [] X.env := by rfl) : PE X (.Call (.Name "dict" p) [e] [] pos) (tD X.K ρ (.dk kys)) :=
  callT1 (cr_dictT hc) (he := he) hg hm (show bootBuiltins "dict" = some (.type "dict") by decide +kernel) ha fun F H F1 H1 x Q l e1 ⟨b, ys, ev, sq, nd, dp⟩ kk => by
    obtain ⟨ps, kvs, e2, e3, e4⟩ := dp_pairs dp
    have ek : kvs.map (·.1) = kys.map (·.1) := kdat_keys e4
    refine ⟨b, ps, kvs, by rw [ev], by rw [← e2]; exact e1.fh.sqT sq, e1.fh.fz b nd, Paired.mapP e3 fun p kv z => e1.fh.sqT z, fun q n => ?_⟩
    rw [merge_all (by rw [List.nil_append, ek]; exact hd), List.nil_append]
    obtain ⟨e5, l5⟩ := new_fr e1 (o := .dK kvs) n trivial
    exact kk _ _ _ e5 ⟨q, kvs, rfl, .inl upd_same, l5.kdat e4⟩
end
def planF (P : Plan) : D := .tf (P.steps.map stD) [.tuple (P.pairs.map prD)]
end KL
/-! DMe: sorted keys, l.index(x). -/
namespace KL
open PySem PySem.Spec L2
theorem rising_le : ∀ (p : Str) (l : List Str), PyProof.Rows.risingS p l = true → (p :: l).Pairwise fun a b => leS a b = true
  | p, [], _ => by simp
  | p, x :: r, h => by
    have h' : (!ltCps x.cps.toList p.cps.toList && PyProof.Rows.risingS x r) = true := h
    rcases Bool.and_eq_true_iff.mp h' with ⟨h1, h2⟩
    have ih := rising_le x r h2
    have px : leS p x = true := by
      rw [PyProof.Rows.ltCps_eq] at h1
      have : ¬ x.cps.toList < p.cps.toList := by simpa using h1
      unfold leS
      exact decide_eq_true (List.not_lt.mp this)
    refine List.pairwise_cons.mpr ⟨fun y hy => ?_, ih⟩
    obtain rfl | hy := List.mem_cons.mp hy
    · exact px
    · exact leS_trans px ((List.pairwise_cons.mp ih).1 y hy)
theorem sortedS_eq {ys ks : List Str} (pm : ys.Perm ks) (h : PyProof.Rows.sortedS ys = true) : ys = sortS ks := by
  refine sorted_eq ?_ (sortS_sorted ks) (pm.trans (List.mergeSort_perm _ _).symm)
  cases ys with
  | nil => exact .nil
  | cons x r => exact rising_le x r h
section
variable {X : Cx} {ρ : List Sl} {a b e : Expr} {p pos : Pos} {ds es : List PyData}
theorem srtK {ks : List Str} {kys : List (Key × PyData)} (hc : X.calm = true) (hg : Gl X "sorted") (hm : X.mg "sorted" = none) (hk : kys.map (·.1) = ks.map Sum.inr) (hz : ks.length < 64) (ha : PE X e (tD X.K ρ (.dk kys))) (he : starEach [e] X.env = (false, eval e X.env) :: starEach [] X.env := by rfl) :
    PE X (.Call (.Name "sorted" p) [e] [] pos) (tN X.K ρ ((sortS ks).map .str)) :=
  call1 (call_sortedD hc) (he := he) hg hm bt_sorted ha fun F H F1 H1 x Q l e1 ⟨q, vs, ev, rd, kd⟩ k => ⟨q, vs, ks, by rw [ev], e1.fh.rd _ _ trivial rd, by rw [kdat_keys kd, hk], hz, fun ys t pm hs n => by
    have := sortedS_eq pm hs
    subst this
    refine k F1 _ _ (e1.trans (.newH e1.fh n)) ⟨t, _, rfl, e1.fh.dom t n, e1.hh.free n, upd_same, ?_, strs_dp _⟩
    rw [List.length_map, pm.length_eq]
    exact Nat.le_trans (Nat.le_of_lt hz) (by decide)⟩
theorem idxS {d : PyData} {z : PyData} {j : Nat} {p2 cpos : Pos} (hu : X.A.units + 65 < cLine) (ho : PE X a (tS X.K ρ ds)) (he : PE X e (tD X.K ρ (.d d))) (s1 : SeqAt.shaped (.list ds) = true) (s2 : SeqAt.shaped d = true) (hz : ds[j]? = some z) (hj : PyData.eqv z d = true) (hno : ∀ m z', m < j → ds[m]? = some z' → PyData.eqv z' d = false)
    (hbase : attributeBase a "index" X.env (eval a X.env) = eval a X.env := by rfl)
    (hfew : ((backTo cpos (starEach [e] X.env)).all (fun x => !x.1) && (backToKw cpos (keywordEach [] X.env)).all (fun x => x.1.isSome) && decide ([e].length + ([] : List Keyword).length + (if ([] : List Keyword).isEmpty then 0 else 1) < 30)) = true := by rfl)
    (hline : (p2.endLine == cpos.line) = true := by rfl) (hs : starEach [e] X.env = (false, eval e X.env) :: starEach [] X.env := by rfl) (hplain : (backTo cpos (starEach [] X.env)).any (·.1) = false := by rfl) :
    PE X (.Call (.Attribute a "index" p2) [e] [] cpos) (tD X.K ρ (.d (.int (j : Nat)))) :=
  (pe_bm PySem.F.plainAttrs_list PySem.F.slot_list_index PySem.F.type_list_index (mt_indexD hu) ho (pa_cons he pa_nil hs) hbase hfew hline hs hplain).imp fun σ H Q ⟨F, A, l, rp, k⟩ => ⟨F, A, l, rp, fun F1 H1 u e1 ⟨q, xs, eu, sq, dp⟩ => by
    refine ⟨?_, F1, A, e1.fh, rp.mono e1, fun F2 H2 v e2 q2 => ?_⟩
    · rw [eu]
      exact .inl ⟨rfl, xs, sq⟩
    · exact ⟨q, v, d, ds, j, z, eu, rfl, Dp.lst ((Le.of e2.hh).sqL sq) ((e2.ff.trans e2.fh).dps dp), e2.fh.dp q2, s1, s2, hz, hj, hno, k F2 H2 _ (e1.trans e2) (Dp.int _)⟩⟩
end
end KL
/-! DMf: sorted(tuple of texts). -/
namespace KL
open PySem PySem.Spec L2 PySem.Froz
theorem txt_vals : ∀ {ks : List Str} {vs : List Value}, Vals (ks.map V.str) vs → PySem.W.EachIs (fun v k => ∃ t, v = Value.str k t) vs ks
  | [], _, h => by cases h; exact .nil
  | k :: ks, _, h => by
    cases h with
    | cons h t => exact .cons h (txt_vals t)
section
variable {X : Cx}
def rSortTT (K : PySem.W.Frag) : List V → Hp → VK → Prop := fun vs H Q => ∃ (a : Addr) (ks : List Str), vs = [V.ref a] ∧ SqT K H a (ks.map V.str) ∧ ks.length ≤ 1000 ∧ ∀ t, H t = none → Q (.ref t) (upd H t (.lst ((sortS ks).map V.str)))
theorem cr_sortTT (hu : X.A.units + 64 < cLine) : CallR X (.builtin "sorted") (rSortTT X.K) := by
  intro pins s σ H vs us Q I r ⟨a, ks, ex, sq, hl, q⟩
  subst ex
  rw [Vals.ref1 r]
  obtain ⟨its, rv, ⟨o, ho, hc, n, hd⟩, hz⟩ := I.tuple sq
  have ev := txt_vals rv
  have hvl : its.length = ks.length := by rw [← rv.length, List.length_map]
  refine Calls.call_function_entry PyProof.Rows.kind_sorted PyProof.Rows.plain_sorted PyProof.Rows.entry_sorted (PyProof.Rows.args_sorted1 _) ?_; unfold Builtin.«sorted»
  refine wpAny_bind (m := checkCount "sorted" 1 1 _) (wpAny_pure (wpAny_bind (wpAny_collect_seq (A := X.A.in1) a (.inr rfl) ho hc hd (fun h' k1 => ?_) (by rw [List.size_toArray, hvl]; exact Nat.le_trans hl (by decide)))))
  have I1 : L2.Inv X pins σ H { s with heap := h' } := I.kept (t' := s.toks) k1
  refine wpAny_bind (wpAny_newList ?_ (by rw [hvl]; exact Nat.le_trans hl (by decide)))
  have hoL : (h'.push (PyProof.Rows.seqObj "list" its.toArray 0)).get? h'.objs.size = some (PyProof.Rows.seqObj "list" its.toArray 0) := Heap.get?_push_size _ rfl
  show wpAny _ _ _ _ _ { s with heap := h'.push (PyProof.Rows.seqObj "list" its.toArray 0) }
  refine wpAny_bind (wpAny_holding (PySem.W.list_sort_data (R := fun v k => ∃ t, v = Value.str k t) (enc := fun k : Str => .str k) (bs := ks) hoL ev (reads_txt ev) (aa_txt ks) (so_txt ks) (Nat.le_trans hl (by decide)) (fun b _ => ?_) fun out n1 n2 => ?_))
  · show X.A.in1.units + 1 + 0 < cLine
    have : X.A.in1.units ≤ X.A.units + 1 := by simp
    omega
  · obtain ⟨ep, eh⟩ := PyProof.Rows.sortedHeap_at (out := List.toArray out) hoL
    have es : ks.mergeSort (PySem.W.dataLe false fun k : Str => .str k) = sortS ks := by
      have z := srt_strs ks
      unfold srt at z
      have m := PySem.W.sort_maps (r := PySem.W.dataLe false fun k : Str => .str k) (s := PySem.W.dataLe false fun d => d) (fun k : Str => PyData.str k) (l := ks) (fun _ _ _ _ => rfl)
      rw [← m] at z
      exact (List.map_inj_right fun _ _ e => PyData.str.inj e).mp z
    rw [es] at n2
    have vl : Vals ((sortS ks).map V.str) out := vals_of_txt n2
    have hsl : (sortS ks).length = ks.length := List.length_mergeSort _
    have old : ∀ b u, h'.get? b = some u → (PyProof.Rows.sortedHeap (h'.push (PyProof.Rows.seqObj "list" its.toArray 0)) h'.objs.size its (List.toArray out)).get? b = some u := fun b u e => by
      have lt := Heap.lt_size e
      rw [PyProof.Rows.sortedHeap_old (Nat.ne_of_lt lt) (by rw [Heap.size_push]; exact Nat.lt_succ_of_lt lt)]
      refine Heap.get?_push_of_some _ e
    exact wpAny_pure ⟨_, rfl, .ref h'.objs.size, upd H h'.objs.size (.lst ((sortS ks).map V.str)), I1.laid (t' := s.toks) old (Nat.le_refl _) (show ObjOk X.prog X.w _ _ _ (.lst ((sortS ks).map V.str)) from ⟨by rw [List.length_map, hsl]; exact Nat.le_trans hl (by decide), out, ep, vl, eh⟩), rfl, q _ (I1.hok.fresh (Nat.le_refl _))⟩
variable {ρ : List Sl} {e : Expr} {p pos : Pos}
theorem srtT {ks : List Str} (hu : X.A.units + 64 < cLine) (hg : Gl X "sorted") (hm : X.mg "sorted" = none) (ha : PE X e (tD X.K ρ (.d (.tuple (ks.map .str))))) (hz : ks.length ≤ 1000) (he : starEach [e] X.env = (false, eval e X.env) :: starEach [] X.env := by rfl) :
    PE X (.Call (.Name "sorted" p) [e] [] pos) (tN X.K ρ ((sortS ks).map .str)) :=
  call1 (cr_sortTT hu) (he := he) hg hm bt_sorted ha fun F H F1 H1 x Q l e1 dx k => by
    have dx' : Dp X.K F1 x (.tuple (ks.map .str)) := dx
    cases dx' with
    | tup sq dp =>
      have ex := dpAll_strs dp
      rw [ex] at sq
      refine ⟨_, ks, rfl, e1.fh.sqT sq, hz, fun t n => ?_⟩
      refine k F1 _ _ (e1.trans (.newH e1.fh n)) ⟨t, _, rfl, e1.fh.dom t n, e1.hh.free n, upd_same, ?_, strs_dp _⟩
      have hsl : (sortS ks).length = ks.length := List.length_mergeSort _
      rw [List.length_map, hsl]
      exact Nat.le_trans hz (by decide)
end
end KL
/-! B1: paths.py, the first half. -/
namespace KL
open PySem PySem.Spec L2
/-! ### near_of -/
def rawNear (ps : List (Str × Str × List Str)) (x : Str) : List Str := ps.flatMap fun p => (if p.1 = x then [p.2.1] else []) ++ if p.2.1 = x then [p.1] else []
def nearOf (P : Plan) (x : Str) : List Str := sortS (rawNear P.pairs x)
def nearD (P : Plan) : List (Key × PyData) := P.steps.map fun s => (.inr s.1, nmD (nearOf P s.1))
def RNear : List D → D → Prop := fun ds d => ∃ P : Plan, P.Ok ∧ ds = [.d (planD P)] ∧ d = .dk (nearD P)
abbrev sNear : Stmt := top 1
theorem scNear : FnScope ["plan", "found", "one", "other", "axes", "name", "loops"] ["plan"] (defScope sNear) := ⟨rfl, rfl, rfl, by decide +kernel, rfl, by decide +kernel, by decide +kernel⟩
def nearK (P : Plan) (i : Nat) : List (Key × List PyData) := P.steps.map fun s => (.inr s.1, (rawNear (P.pairs.take i) s.1).map .str)
theorem rawNear_len (ps : List (Str × Str × List Str)) (x : Str) : (rawNear ps x).length ≤ 2 * ps.length := by
  unfold rawNear
  induction ps with
  | nil => simp
  | cons p r ih =>
    rw [List.flatMap_cons, List.length_append, List.length_cons]
    have : ((if p.1 = x then [p.2.1] else []) ++ if p.2.1 = x then [p.1] else []).length ≤ 2 := by
      rw [List.length_append]
      split <;> split <;> simp
    omega
theorem nearK_step {P : Plan} (ok : P.Ok) {i : Nat} {p : Str × Str × List Str} (h : P.pairs[i]? = some p) : appK (appK (nearK P i) (.inr p.1) (.str p.2.1)) (.inr p.2.1) (.str p.1) = nearK P (i + 1) := by
  have hne := ok.ne p (List.mem_of_getElem? h)
  unfold nearK appK
  rewrite [List.map_map]; rw [List.map_map]
  apply List.map_congr_left
  intro s _
  rw [List.take_add_one, h]
  have e : rawNear (P.pairs.take i ++ (some p).toList) s.1 = rawNear (P.pairs.take i) s.1 ++ ((if p.1 = s.1 then [p.2.1] else []) ++ if p.2.1 = s.1 then [p.1] else []) := by
    unfold rawNear
    rw [List.flatMap_append]
    congr 1
    simp
  rw [e]
  show (fun q : Key × List PyData => if q.1 = .inr p.2.1 then (q.1, q.2 ++ [.str p.1]) else q) ((fun q : Key × List PyData => if q.1 = .inr p.1 then (q.1, q.2 ++ [.str p.2.1]) else q) (.inr s.1, (rawNear (P.pairs.take i) s.1).map .str)) = _
  by_cases h1 : p.1 = s.1
  · have h2 : ¬ p.2.1 = s.1 := fun z => hne (h1.trans z.symm)
    have h3 : ¬ s.1 = p.2.1 := fun z => h2 z.symm
    simp [h1, h2, h3, List.map_append]
  · have h1' : ¬ s.1 = p.1 := fun z => h1 z.symm
    by_cases h2 : p.2.1 = s.1
    · simp [h1, h1', h2, List.map_append]
    · have h2' : ¬ s.1 = p.2.1 := fun z => h2 z.symm
      simp [h1, h1', h2, h2', List.map_append]
theorem nearK_keys (P : Plan) (i : Nat) : (nearK P i).map (·.1) = (P.steps.map (·.1)).map Sum.inr := by
  unfold nearK
  rewrite [List.map_map]; rw [List.map_map]
  rfl
theorem keys_nd {xs : List Str} (h : xs.Nodup) : (xs.map (Sum.inr : Str → Key)).Nodup := List.Pairwise.map _ (fun a b n z => n (Sum.inr.inj z)) h
section
variable {mg : Str → Option Value} {base : Heap} {P : Program} {w : World} {K : PySem.W.Frag}
theorem ok_near {f : Addr} {fd : FuncData} {k : Nat} (F : Fun K "near_of" "near_of" sNear f fd) (B : Bi mg) : FnOk P w K mg base CX0 (k + 1) f fd ["plan"] (spD K RNear) := by
  refine def_of F scNear (fun ds d ⟨P, _, e, _⟩ => by rw [e]; rfl) fun cdv A outer s H E hr ds d ⟨PL, ok, eds, ed⟩ => ?_
  subst eds ed
  have hu := hr.units
  have s1 := ok.s1
  have s2 := ok.s2
  have hNm : ∀ i, ((nearK PL i).map (·.1)).Nodup := fun i => by rw [nearK_keys]; exact keys_nd ok.nd
  refine w_cons (w_od (kvs := nearK PL 0) 1 (docomp (own := [("name", 5), ("loops", 6)]) (xs := PL.steps) (enc := stD) (kf := fun s => .inr s.1) (f := fun _ => []) (ρ' := fun s => [.fr (.d (planD PL)), .un, .un, .un, .un, .fr (.d (.str s.1)), .fr (.d (axD s.2))])
    (i_t (ixT (ds := [.tuple (PL.steps.map stD), .tuple (PL.pairs.map prD)]) (dvar 0) dint rfl)) (blkOk_by (own := [("name", 5), ("loops", 6)]) (by kernel_rfl))
    (fun x hx s H C cl fp => g_tup rfl (gs_cons (g_name 5 scNear.nd) (gs_cons (g_name 6 scNear.nd) gs_nil))) (fun x hx s H C cl fp => dvar 5) (fun x hx s H C cl fp => nlst (ds := []) an) (sz (by omega)) ?_ (hN := scNear.nd)) scNear.nd) ?_
  · have := keys_nd ok.nd
    rw [List.map_map] at this
    exact this
  refine w_cons (w_for (xs := PL.pairs) (enc := prD) (vs := [2, 3, 4]) (fun i => [.fr (.d (planD PL)), .od (nearK PL i), .un, .un, .un, .un, .un]) (fun i p => [.fr (.d (planD PL)), .od (nearK PL i), .fr (.d (.str p.1)), .fr (.d (.str p.2.1)), .fr (.d (axD p.2.2)), .un, .un])
    (i_t (ixT (ds := [.tuple (PL.steps.map stD), .tuple (PL.pairs.map prD)]) (dvar 0) dint rfl)) rfl (fun i p hp => g_tup rfl (gs_cons (g_name 2 scNear.nd) (gs_cons (g_name 3 scNear.nd) (gs_cons (g_name 4 scNear.nd) gs_nil)))) (fun i p hp => ?_)) ?_
  · have hmem := List.mem_of_getElem? hp
    have hlen : ∀ j, ∀ q ∈ nearK PL j, q.2.length ≤ 60 := fun j q hq => by
      obtain ⟨s, _, rfl⟩ := List.mem_map.mp hq
      show ((rawNear (PL.pairs.take j) s.1).map PyData.str).length ≤ 60
      rw [List.length_map]
      have := rawNear_len (PL.pairs.take j) s.1
      rw [List.length_take] at this
      omega
    have hin : ∀ x, x ∈ PL.steps.map (·.1) → (Sum.inr x : Key) ∈ (nearK PL i).map (·.1) := fun x hx => by
      rw [nearK_keys]
      exact List.mem_map.mpr ⟨x, hx, rfl⟩
    have hk2 : (appK (nearK PL i) (.inr p.1) (.str p.2.1)).map (·.1) = (nearK PL i).map (·.1) := by
      unfold appK
      rw [List.map_map]
      apply List.map_congr_left
      intro q _
      show (if q.1 = _ then _ else q).1 = q.1
      split <;> rfl
    have st := nearK_step ok hp
    refine w_wk (w_cons (w_odApp 1 (k := .inr p.1) (y := .str p.2.1) (u1 hr) (dvar 2) (dvar 3) (hNm i) (hin _ (ok.e1 p hmem)) (fun q hq => szl (by have := hlen i q hq; omega)))
      (w_cons (w_odApp 1 (k := .inr p.2.1) (y := .str p.1) (u1 hr) (dvar 3) (dvar 2) (by rw [hk2]; exact hNm i) (by rw [hk2]; exact hin _ (ok.e2 p hmem)) (fun q hq => szl ?_)) w_nil)) ?_
    · obtain ⟨q0, h0, rfl⟩ := List.mem_map.mp hq
      have := hlen i q0 h0
      split
      · show (q0.2 ++ [PyData.str p.2.1]).length < _
        rw [List.length_append]
        simp only [List.length_singleton]
        omega
      · omega
    · rw [st]
      exact .keep (.keep (.drop (.drop (.drop (.keep (.keep .nil))))))
  refine w_freezeOd 1 (w_one (w_ret (d := .dk (nearD PL)) ((dkcomp (own := [("name", 5)]) (te := tVar 1) (kvs := odD (nearK PL PL.pairs.length)) (kf := fun p => p.1) (f := fun p => match p.2 with | .list xs => .list (srt xs) | z => z) (ρ' := fun p => [.fr (.d (planD PL)), .fr (.dk (odD (nearK PL PL.pairs.length))), .un, .un, .un, .fr (.d (keyD p.1)), .un])
    (pe_var (i := 1) (by rfl) (.inr (.inl (by rfl)))) (src_var (i := 1) rfl) mono_var (blkOk_by (own := [("name", 5)]) (by kernel_rfl)) (fun x hx s H C cl fp => g_name 5 scNear.nd) (fun x hx s H C cl fp => dvar 5) (fun x hx s H C cl fp => ?_) ?_ ?_ (hN := scNear.nd)).eqD ?_) rfl))
  · obtain ⟨q, hq, rfl⟩ := List.mem_map.mp hx
    obtain ⟨st, hst, rfl⟩ := List.mem_map.mp hq
    have nd : ((odD (nearK PL PL.pairs.length)).map (·.1)).Nodup := by
      have := hNm PL.pairs.length
      unfold odD
      rw [List.map_map]
      exact this
    have := rawNear_len (PL.pairs.take PL.pairs.length) st.1
    rw [List.take_length] at this
    refine n2d (srtS (u64 hr) (by rfl) B.sorted bt_sorted (d2s (dgK (u1 hr) (dvar 1) (dvar 5) (look_mem nd _ hx))) (aa_strs _) (so_strs _) (de_strs _) (sz ?_))
    rewrite [List.length_map]; rw [List.take_length]
    omega
  · show (odD (nearK PL PL.pairs.length)).length ≤ _
    unfold odD nearK
    rw [List.length_map, List.length_map]
    exact sz (by omega)
  · have := hNm PL.pairs.length
    unfold odD
    rw [List.map_map]
    exact this
  · refine congrArg D.dk ?_
    unfold odD nearK nearD
    rewrite [List.map_map]; rw [List.map_map]
    apply List.map_congr_left
    intro s _
    show ((Sum.inr s.1 : Key), PyData.list (srt ((rawNear (PL.pairs.take PL.pairs.length) s.1).map .str))) = _
    rw [List.take_length, srt_strs]
    rfl
end
/-! ### paths_between -/
def dfsStep (P : Plan) (other : Str) (s : List (List Str) × List (List Str)) : List (List Str) × List (List Str) :=
  match s.1.getLast? with
  | none => s
  | some path => if path.getLast? = some other then (s.1.dropLast, s.2 ++ [path])
    else (s.1.dropLast ++ ((nearOf P (path.getLastD ⟨#[]⟩)).filter fun x => decide (x ∉ path)).map fun x => path ++ [x], s.2)
def dfs (P : Plan) (one other : Str) : Nat → List (List Str) × List (List Str)
  | 0 => ([[one]], [])
  | n + 1 => dfsStep P other (dfs P one other n)
structure DfsOk (P : Plan) (one other : Str) (n : Nat) : Prop where
  stop : (dfs P one other n).1 = []
  go : ∀ i, i < n → (dfs P one other i).1 ≠ []
  len : ∀ i, i ≤ n → (dfs P one other i).1.length ≤ 1000 ∧ (dfs P one other i).2.length ≤ 1000
def RPaths : List D → D → Prop := fun ds d => ∃ (P : Plan) (one other : Str) (n : Nat), P.Ok ∧ one ∈ P.steps.map (·.1) ∧ PyData.strOk other = true ∧ DfsOk P one other n ∧ ds = [.d (planD P), .d (.str one), .d (.str other)] ∧ d = .d (.list ((sortP (dfs P one other n).2).map nmD))
abbrev sPaths : Stmt := top 2
theorem scPaths : FnScope ["plan", "one", "other", "near", "found", "todo", "path", "step"] ["plan", "one", "other"] (defScope sPaths) := ⟨rfl, rfl, rfl, by decide +kernel, rfl, by decide +kernel, by decide +kernel⟩
theorem mem_near {P : Plan} (ok : P.Ok) {x y : Str} (h : y ∈ nearOf P x) : y ∈ P.steps.map (·.1) := by
  unfold nearOf sortS at h
  rw [List.mem_mergeSort] at h
  unfold rawNear at h
  obtain ⟨p, hp, h⟩ := List.mem_flatMap.mp h
  obtain h | h := List.mem_append.mp h
  · split at h
    · rw [List.mem_singleton.mp h]; exact ok.e2 p hp
    · cases h
  · split at h
    · rw [List.mem_singleton.mp h]; exact ok.e1 p hp
    · cases h
/-- a path of the search: its names are steps, none twice; not empty -/
def PathIn (P : Plan) (p : List Str) : Prop := p ≠ [] ∧ p.Nodup ∧ ∀ x ∈ p, x ∈ P.steps.map (·.1)
theorem dfs_in {P : Plan} (ok : P.Ok) {one other : Str} (h1 : one ∈ P.steps.map (·.1)) : ∀ n, (∀ p ∈ (dfs P one other n).1, PathIn P p) ∧ ∀ p ∈ (dfs P one other n).2, PathIn P p
  | 0 => ⟨fun p hp => by
      have : p = [one] := by simpa [dfs] using hp
      rw [this]
      exact ⟨by simp, by simp, by simpa using h1⟩, fun p hp => by simp [dfs] at hp⟩
  | n + 1 => by
    obtain ⟨ih1, ih2⟩ := dfs_in ok h1 n
    show (∀ p ∈ (dfsStep P other (dfs P one other n)).1, PathIn P p) ∧ ∀ p ∈ (dfsStep P other (dfs P one other n)).2, PathIn P p
    generalize dfs P one other n = s at ih1 ih2
    unfold dfsStep
    cases e : s.1.getLast? with
    | none => exact ⟨ih1, ih2⟩
    | some path =>
      have hp := ih1 path (List.mem_of_getLast? e)
      dsimp only
      split
      · refine ⟨fun p h => ih1 p (List.dropLast_subset _ h), fun p h => ?_⟩
        obtain h | h := List.mem_append.mp h
        · exact ih2 p h
        · rw [List.mem_singleton.mp h]; exact hp
      · refine ⟨fun p h => ?_, ih2⟩
        obtain h | h := List.mem_append.mp h
        · exact ih1 p (List.dropLast_subset _ h)
        · obtain ⟨x, hx, rfl⟩ := List.mem_map.mp h
          obtain ⟨hx1, hx2⟩ := List.mem_filter.mp hx
          have hx3 : x ∉ path := of_decide_eq_true hx2
          refine ⟨by simp, List.nodup_append.mpr ⟨hp.2.1, by simp, fun a ha b hb z => hx3 (by rw [← List.mem_singleton.mp hb, ← z]; exact ha)⟩, fun y hy => ?_⟩
          obtain hy | hy := List.mem_append.mp hy
          · exact hp.2.2 y hy
          · rw [List.mem_singleton.mp hy]; exact mem_near ok hx1
theorem pathIn_len {P : Plan} (ok : P.Ok) {p : List Str} (h : PathIn P p) : p.length ≤ 20 := by
  have := nd_len h.2.1 h.2.2
  rw [List.length_map] at this
  have := ok.s1
  omega
theorem pathIn_ok {P : Plan} (ok : P.Ok) {p : List Str} (h : PathIn P p) : OkS p := fun x hx => ok.oN (h.2.2 x hx)
theorem near_len (P : Plan) (x : Str) : (nearOf P x).length ≤ 2 * P.pairs.length := by
  unfold nearOf sortS
  rw [List.length_mergeSort]
  exact rawNear_len _ _
section
variable {mg : Str → Option Value} {base : Heap} {P : Program} {w : World} {K : PySem.W.Frag}
theorem look_near {PL : Plan} (ok : PL.Ok) {x : Str} (h : x ∈ PL.steps.map (·.1)) : look (nearD PL) (.inr x) = some (nmD (nearOf PL x)) := by
  obtain ⟨s, hs, rfl⟩ := List.mem_map.mp h
  have nd : ((nearD PL).map (·.1)).Nodup := by
    have := keys_nd ok.nd
    unfold nearD
    rw [List.map_map] at this ⊢
    exact this
  exact look_mem nd (.inr s.1, nmD (nearOf PL s.1)) (List.mem_map.mpr ⟨s, hs, rfl⟩)
theorem ok_paths {f : Addr} {fd : FuncData} {k : Nat} (F : Fun K "paths_between" "paths_between" sPaths f fd) (B : Bi mg) (GN : Cal P w K mg base k "near_of" RNear) : FnOk P w K mg base CX0 (k + 1) f fd ["plan", "one", "other"] (spD K RPaths) := by
  refine def_of F scPaths (fun ds d ⟨_, _, _, _, _, _, _, _, e, _⟩ => by rw [e]; rfl) fun cdv A outer s H E hr ds d ⟨PL, one, other, n, ok, h1, h2, hd, eds, ed⟩ => ?_
  subst eds ed
  have hin := dfs_in ok (one := one) (other := other) h1
  have hoo := ok.oN h1
  have s2 := ok.s2
  refine w_cons (w_par3 3 4 5 (r1 := .fr (.dk (nearD PL))) (r2 := .ow []) (r3 := .ow ([[one]].map nmD)) (call GN hr (ac (dvar 0) an) ⟨PL, ok, rfl, rfl⟩) (nlst (ds := []) an) (nlst (ds := [nmD [one]]) (hl := by show 1 ≤ _; decide) (ac (n2d (nlst (ds := [.str one]) (hl := by show 1 ≤ _; decide) (ac (dvar 1) an))) an)) (hN := scPaths.nd)) ?_
  refine w_cons (w_while n (fun i => [.fr (.d (planD PL)), .fr (.d (.str one)), .fr (.d (.str other)), .fr (.dk (nearD PL)), .ow ((dfs PL one other i).2.map nmD), .ow ((dfs PL one other i).1.map nmD), .un, .un]) rfl (fun i hi => ?_) ?_ (fun i hi => ?_)) ?_
  · refine (ct (c_ne (u64 hr) (s2x (svar 5)) (n2x (nlst (ds := []) an)) (sh_names fun p hp => pathIn_ok ok ((hin i).1 p hp)) sh_nil)).eqT ?_
    rw [eqv_nil]
    cases e : (dfs PL one other i).1 with
    | nil => exact absurd e (hd.go i hi)
    | cons a r => rfl
  · refine (ct (c_ne (u64 hr) (s2x (svar 5)) (n2x (nlst (ds := []) an)) (sh_names fun p hp => pathIn_ok ok ((hin n).1 p hp)) sh_nil)).eqT ?_
    rw [eqv_nil, hd.stop]
    rfl
  · have hl := hd.len i (by omega)
    have hl2 := hd.len (i + 1) (by omega)
    have hnx : dfs PL one other (i + 1) = dfsStep PL other (dfs PL one other i) := rfl
    rw [hnx] at hl2 ⊢
    have hin1 := (hin i).1
    have hne := hd.go i hi
    generalize dfs PL one other i = st at *
    obtain ⟨td, fo⟩ := st
    dsimp only at *
    obtain ⟨init, path, rfl⟩ : ∃ init path, td = init ++ [path] := ⟨td.dropLast, td.getLast hne, (List.dropLast_concat_getLast hne).symm⟩
    have hp := hin1 path (by simp)
    obtain ⟨q, l, rfl⟩ : ∃ q l, path = q ++ [l] := ⟨path.dropLast, path.getLast hp.1, (List.dropLast_concat_getLast hp.1).symm⟩
    have hl0 : l ∈ PL.steps.map (·.1) := hp.2.2 l (by simp)
    have hq := pathIn_len ok hp
    have es : dfsStep PL other (init ++ [q ++ [l]], fo) = if l = other then (init, fo ++ [q ++ [l]]) else (init ++ ((nearOf PL l).filter fun x => decide (x ∉ q ++ [l])).map fun x => (q ++ [l]) ++ [x], fo) := by
      unfold dfsStep
      simp
    have at1 : atI ((q ++ [l]).map PyData.str) (-1) = some (.str l) := by
      rw [List.map_append]
      exact atI_last _ _
    rw [es] at hl2 ⊢
    refine w_cons (w_pop 5 6 (ds := init.map nmD) (a := nmD (q ++ [l])) rfl (by rw [List.map_append]; rfl) (hND := scPaths.nd)) ?_
    refine w_wk (w_one (w_if (k := decide (l = other)) ((ct (c_eq (u64 hr) (d2x (ixS (ds := (q ++ [l]).map .str) (d2s (dvar 6)) (dneg dint) at1)) (d2x (dvar 2)) (sh_str (ok.oN hl0)) (sh_str h2))).eqT (eqv_str l other))
      (O := .nx [.fr (.d (planD PL)), .fr (.d (.str one)), .fr (.d (.str other)), .fr (.dk (nearD PL)), .ow ((if l = other then (init, fo ++ [q ++ [l]]) else (init ++ ((nearOf PL l).filter fun x => decide (x ∉ q ++ [l])).map fun x => (q ++ [l]) ++ [x], fo)).2.map nmD), .ow ((if l = other then (init, fo ++ [q ++ [l]]) else (init ++ ((nearOf PL l).filter fun x => decide (x ∉ q ++ [l])).map fun x => (q ++ [l]) ++ [x], fo)).1.map nmD), .fr (.d (nmD (q ++ [l]))), .un])
      (fun hk => ?_) (fun hk => ?_))) (.keep (.keep (.keep (.keep (.keep (.keep (.drop (.keep .nil))))))))
    · rw [if_pos (of_decide_eq_true hk)] at hl2 ⊢
      have z : fo.length < sizeLine := szl (by omega)
      refine (w_one (w_append (ds := fo.map nmD) (a := nmD (q ++ [l])) 4 (dvar 6) (by rw [List.length_map]; exact z))).eqW ?_
      simp [List.set]
    · rw [if_neg (of_decide_eq_false hk)] at hl2 ⊢
      refine (w_one (w_extend (ds := init.map nmD) (es := ((nearOf PL l).filter fun x => decide (x ∉ q ++ [l])).map fun x => nmD ((q ++ [l]) ++ [x])) 5 (lcomp (own := [("step", 7)]) (xs := nearOf PL l) (enc := .str) (pr := fun x => decide (x ∉ q ++ [l])) (f := fun x => nmD ((q ++ [l]) ++ [x]))
        (ρ' := fun x => [.fr (.d (planD PL)), .fr (.d (.str one)), .fr (.d (.str other)), .fr (.dk (nearD PL)), .ow (fo.map nmD), .ow (init.map nmD), .fr (.d (nmD (q ++ [l]))), .fr (.d (.str x))])
        (i_s (d2s (dgK (u1 hr) (dvar 3) (ixS (ds := (q ++ [l]).map .str) (d2s (dvar 6)) (dneg dint) at1) (look_near ok hl0)))) (blkOk_by (own := [("step", 7)]) (by kernel_rfl))
        (fun x hx s H C cl fp => g_name 7 scPaths.nd) (fun x hx s H C cl fp => pts_if ((ct (c_ni (dvar 7) (d2s (dvar 6)) rfl (strs_flat _))).eqT ?_)) (fun x hx hpr s H C cl fp => ?_) (sz ?_) (hN := scPaths.nd)) ?_)).eqW ?_
      · rw [any_str]
        simp
      · exact n2d (nstar (ds := (q ++ [l]).map .str) (es := [.str x]) (d2s (dvar 6)) (ac (dvar 7) an) (sz (by simp at hq ⊢; omega))) |>.eqD (by simp [nmD])
      · have := near_len PL l
        omega
      · have := hl2.1
        rw [List.length_append, List.length_map] at this
        rw [List.length_map, List.length_map]
        exact sz (by omega)
      · simp [List.set]
  · refine w_one (w_ret ((n2d (srtS (u64 hr) (by rfl) B.sorted bt_sorted (svar 4) (aa_names _) (so_names _) (de_names _) (sz ?_))).eqD ?_) rfl)
    · have := hd.len n (by omega)
      rw [List.length_map]
      omega
    · rw [srt_names]
end
end KL
/-! B2: paths.py, links. -/
namespace KL
open PySem PySem.Spec L2
/-! ### links_along -/
def axOf (P : Plan) (x y : Str) : Option (List Str) := (P.pairs.find? fun p => decide (p.1 = x ∧ p.2.1 = y)).map (·.2.2)
def linkOf (P : Plan) (x y : Str) : List Str × Bool := match axOf P x y with
  | some a => (a, true)
  | none => ((axOf P y x).getD [], false)
def links (P : Plan) (path : List Str) : List (List Str × Bool) := (path.zip path.tail).map fun q => linkOf P q.1 q.2
def Linked (P : Plan) (path : List Str) : Prop := path.length ≤ 20 ∧ ∀ q ∈ path.zip path.tail, axOf P q.1 q.2 ≠ none ∨ axOf P q.2 q.1 ≠ none
def axesK (P : Plan) : List (List Key × PyData) := P.pairs.map fun p => ([.inr p.1, .inr p.2.1], axD p.2.2)
theorem look_axes (P : Plan) (x y : Str) : look (axesK P) [.inr x, .inr y] = (axOf P x y).map axD := by
  unfold look axesK axOf
  rw [List.find?_map, Option.map_map, Option.map_map]
  have : ((fun p : List Key × PyData => decide (p.1 = [Sum.inr x, Sum.inr y])) ∘ fun p : Str × Str × List Str => ([Sum.inr p.1, Sum.inr p.2.1], axD p.2.2)) = fun p => decide (p.1 = x ∧ p.2.1 = y) := by
    funext p
    simp
  rw [this]
  rfl
def RLinks : List D → D → Prop := fun ds d => ∃ (P : Plan) (path : List Str), P.Ok ∧ Linked P path ∧ ds = [.d (planD P), .d (nmD path)] ∧ d = .d (.list ((links P path).map lkD))
abbrev sLinks : Stmt := top 4
theorem scLinks : FnScope ["plan", "path", "axes_of", "found", "one", "other", "is_ahead", "axes"] ["plan", "path"] (defScope sLinks) := ⟨rfl, rfl, rfl, by decide +kernel, rfl, by decide +kernel, by decide +kernel⟩
theorem zip_strs : ∀ xs ys : List Str, zipD (xs.map .str) (ys.map .str) = (xs.zip ys).map fun q => .tuple [.str q.1, .str q.2]
  | [], _ => rfl
  | _ :: _, [] => rfl
  | x :: xs, y :: ys => congrArg (_ :: ·) (zip_strs xs ys)
theorem cut_from (ds : List PyData) (n : Nat) : cutD ds (some (n : Int)) none = ds.drop n := by
  unfold cutD
  rw [HT.sIx_nat, HT.sIx_none, List.take_of_length_le (by rw [List.length_drop]; omega)]
  by_cases h : n ≤ ds.length
  · rw [Nat.min_eq_left h]
  · rw [Nat.min_eq_right (by omega), List.drop_of_length_le (by omega), List.drop_of_length_le (by omega)]
section
variable {mg : Str → Option Value} {base : Heap} {P : Program} {w : World} {K : PySem.W.Frag}
theorem ok_links {f : Addr} {fd : FuncData} {k : Nat} (F : Fun K "links_along" "links_along" sLinks f fd) (B : Bi mg) : FnOk P w K mg base CX0 (k + 1) f fd ["plan", "path"] (spD K RLinks) := by
  refine def_of F scLinks (fun ds d ⟨_, _, _, _, e, _⟩ => by rw [e]; rfl) fun cdv A outer s H E hr ds d ⟨PL, path, ok, hl, eds, ed⟩ => ?_
  subst eds ed
  have s2 := ok.s2
  have hpl := hl.1
  have hdr : cutD (path.map .str) (some 1) none = path.tail.map .str := by
    rw [← List.drop_one, List.map_drop]
    exact cut_from _ 1
  refine w_cons (w_par 2 3 (r1 := .fr (.dt (axesK PL))) (r2 := .ow []) (dtcomp (own := [("one", 4), ("other", 5), ("axes", 7)]) (xs := PL.pairs) (enc := prD) (kf := fun p => [.inr p.1, .inr p.2.1]) (f := fun p => axD p.2.2)
    (ρ' := fun p => [.fr (.d (planD PL)), .fr (.d (nmD path)), .un, .un, .fr (.d (.str p.1)), .fr (.d (.str p.2.1)), .un, .fr (.d (axD p.2.2))]) (u0 hr)
    (i_t (ixT (ds := [.tuple (PL.steps.map stD), .tuple (PL.pairs.map prD)]) (dvar 0) dint rfl)) (blkOk_by (own := [("one", 4), ("other", 5), ("axes", 7)]) (by kernel_rfl))
    (fun x hx s H C cl fp => g_tup rfl (gs_cons (g_name 4 scLinks.nd) (gs_cons (g_name 5 scLinks.nd) (gs_cons (g_name 7 scLinks.nd) gs_nil)))) (fun x hx s H C cl fp => ac (dvar 4) (ac (dvar 5) an)) (fun x hx s H C cl fp => dvar 7) (sz (by omega)) ?_ (fun x => by show 2 ≤ _; decide) (hN := scLinks.nd)) (nlst (ds := []) an) (hN := scLinks.nd)) ?_
  · have := ok.kd
    rw [List.Nodup, List.pairwise_map] at this ⊢
    exact this.imp fun h z => h (by simpa using z)
  refine w_cons (w_for (xs := path.zip path.tail) (enc := fun q => .tuple [.str q.1, .str q.2]) (vs := [4, 5])
    (fun i => [.fr (.d (planD PL)), .fr (.d (nmD path)), .fr (.dt (axesK PL)), .ow (((links PL path).take i).map lkD), .un, .un, .un, .un])
    (fun i q => [.fr (.d (planD PL)), .fr (.d (nmD path)), .fr (.dt (axesK PL)), .ow (((links PL path).take i).map lkD), .fr (.d (.str q.1)), .fr (.d (.str q.2)), .un, .un])
    (by rw [← zip_strs, ← hdr]; exact i_zipL (by rfl) B.zip (dvar 1) (n2d (slS (d2s (dvar 1)) (o_so dint) o_no (sz (by rw [List.length_map]; omega))))) rfl
    (fun i q hq => g_tup rfl (gs_cons (g_name 4 scLinks.nd) (gs_cons (g_name 5 scLinks.nd) gs_nil))) (fun i q hq => ?_)) ?_
  · have hq2 := hl.2 q (List.mem_of_getElem? hq)
    have hli : (links PL path)[i]? = some (linkOf PL q.1 q.2) := by
      unfold links
      rw [List.getElem?_map, hq]
      rfl
    refine w_wk (w_cons (w_set (d := .d (.bool (axOf PL q.1 q.2).isSome)) 6 ((cv (c_inKT (ks := [.inr q.1, .inr q.2]) (u1 hr) (ac (dvar 4) (ac (dvar 5) an)) (dvar 2))).eqD (by rw [look_axes, Option.isSome_map])) (hN := scLinks.nd))
      (w_one (w_append (ds := ((links PL path).take i).map lkD) (a := lkD (linkOf PL q.1 q.2)) 3 (dtup (ds := [axD (linkOf PL q.1 q.2).1, .bool (linkOf PL q.1 q.2).2]) (hl := by show 2 ≤ _; decide) (ac (dif (tv (dvar 6)) (fun hk => ?_) (fun hk => ?_)) (ac ((dvar 6).eqD ?_) an))) ?_))) ?_
    · obtain ⟨a, ea⟩ := Option.isSome_iff_exists.mp hk
      refine (dgT (ks := [.inr q.1, .inr q.2]) (u1 hr) (dvar 2) (ac (dvar 4) (ac (dvar 5) an)) (z := axD a) ?_).eqD ?_
      · rw [look_axes, ea]; rfl
      · unfold linkOf; rw [ea]
    · have en : axOf PL q.1 q.2 = none := by simpa using hk
      obtain ⟨a, ea⟩ := Option.ne_none_iff_exists'.mp (hq2.resolve_left fun z => z en)
      refine (dgT (ks := [.inr q.2, .inr q.1]) (u1 hr) (dvar 2) (ac (dvar 5) (ac (dvar 4) an)) (z := axD a) ?_).eqD ?_
      · rw [look_axes, ea]; rfl
      · unfold linkOf; rw [en, ea]; rfl
    · unfold linkOf
      cases axOf PL q.1 q.2 <;> rfl
    · rewrite [List.length_map]; rw [List.length_take]
      have : (links PL path).length ≤ 20 := by
        unfold links
        rw [List.length_map, List.length_zip]
        omega
      exact szl (by omega)
    · rw [List.take_add_one, hli, List.map_append]
      exact .keep (.keep (.keep (.keep (.drop (.drop (.drop (.keep .nil)))))))
  · refine w_freeze 3 (w_one (w_ret ((dvar 3).eqD ?_) rfl))
    rw [List.take_of_length_le]
    unfold links
    rw [List.length_map]
    exact Nat.le_refl _
end
end KL
/-! B3: what links share, their least; bad paths and rings. -/
namespace KL
open PySem PySem.Spec L2
def sharedBy : List (List Str × Bool) → List Str
  | [] => []
  | l :: r => l.1.filter fun a => (l :: r).all fun q => decide (a ∈ q.1)
def leastOf (ls : List (List Str × Bool)) : List (Nat × Bool) := (ls.zipIdx.filter fun q => decide (q.1.1 = sharedBy ls)).map fun q => (q.2, q.1.2)
def leD (q : Nat × Bool) : PyData := .tuple [.int (q.1 : Nat), .bool q.2]
structure LkOk (ls : List (List Str × Bool)) : Prop where
  ne : ls ≠ []
  len : ls.length ≤ 30
  ax : ∀ l ∈ ls, l.1.length ≤ 20 ∧ OkS l.1
def RShared : List D → D → Prop := fun ds d => ∃ ls, LkOk ls ∧ ds = [.d (.list (ls.map lkD))] ∧ d = .d (axD (sharedBy ls))
abbrev sShared : Stmt := top 5
theorem scShared : FnScope ["links", "axis", "axes", "is_ahead"] ["links"] (defScope sShared) := ⟨rfl, rfl, rfl, by decide +kernel, rfl, by decide +kernel, by decide +kernel⟩
def RLeast : List D → D → Prop := fun ds d => ∃ ls, LkOk ls ∧ ds = [.d (.list (ls.map lkD))] ∧ d = .d (.list ((leastOf ls).map leD))
abbrev sLeast : Stmt := top 6
theorem scLeast : FnScope ["links", "shared", "at", "axes", "is_ahead"] ["links"] (defScope sLeast) := ⟨rfl, rfl, rfl, by decide +kernel, rfl, by decide +kernel, by decide +kernel⟩
abbrev sAlong : Stmt := top 7
theorem scAlong : FnScope ["plan", "path"] ["plan", "path"] (defScope sAlong) := ⟨rfl, rfl, rfl, by decide +kernel, rfl, by decide +kernel, by decide +kernel⟩
def leastAlong (P : Plan) (path : List Str) : List (Nat × Bool) := leastOf (links P path)
def RAlong : List D → D → Prop := fun ds d => ∃ (P : Plan) (path : List Str), P.Ok ∧ Linked P path ∧ 2 ≤ path.length ∧ ds = [.d (planD P), .d (nmD path)] ∧ d = .d (.list ((leastAlong P path).map leD))
theorem filt_true {α : Type} (xs : List α) : xs.filter (fun _ => true) = xs := List.filter_eq_self.mpr fun _ _ => rfl
theorem enum_maps {α : Type} (enc : α → PyData) (xs : List α) : enumD (xs.map enc) = xs.zipIdx.map fun q => .tuple [.int (q.2 : Nat), enc q.1] := by
  unfold enumD
  rw [List.zipIdx_map, List.map_map]
  rfl
theorem sharedBy_len {ls : List (List Str × Bool)} (h : LkOk ls) : (sharedBy ls).length ≤ 20 := by
  cases ls with
  | nil => exact Nat.zero_le _
  | cons l r => exact Nat.le_trans (List.length_filter_le ..) (h.ax l (by simp)).1
theorem sharedBy_ok {ls : List (List Str × Bool)} (h : LkOk ls) : OkS (sharedBy ls) := by
  cases ls with
  | nil => intro x hx; cases hx
  | cons l r => exact fun x hx => (h.ax l (by simp)).2 x (List.mem_filter.mp hx).1
theorem axOf_mem {P : Plan} {x y : Str} {a : List Str} (h : axOf P x y = some a) : (x, y, a) ∈ P.pairs := by
  unfold axOf at h
  obtain ⟨p, hp, rfl⟩ := Option.map_eq_some_iff.mp h
  have h1 := List.mem_of_find?_eq_some hp
  have h2 := List.find?_some hp
  obtain ⟨z1, z2⟩ := of_decide_eq_true h2
  subst z1 z2
  exact h1
theorem linkOf_ok {P : Plan} (ok : P.Ok) {x y : Str} (h : axOf P x y ≠ none ∨ axOf P y x ≠ none) : (linkOf P x y).1.length ≤ 20 ∧ OkS (linkOf P x y).1 := by
  unfold linkOf
  cases e : axOf P x y with
  | some a => exact ⟨ok.s4 _ (axOf_mem e), ok.o2 _ (axOf_mem e)⟩
  | none =>
    obtain ⟨a, ea⟩ := Option.ne_none_iff_exists'.mp (h.resolve_left fun z => z e)
    rw [ea]
    exact ⟨ok.s4 _ (axOf_mem ea), ok.o2 _ (axOf_mem ea)⟩
theorem links_ok {P : Plan} (ok : P.Ok) {path : List Str} (h : Linked P path) (h2 : 2 ≤ path.length) : LkOk (links P path) := by
  have hl : (links P path).length = path.length - 1 := by
    unfold links
    rw [List.length_map, List.length_zip, List.length_tail]
    omega
  have h1 := h.1
  refine ⟨fun z => by rw [z] at hl; simp at hl; omega, by omega, fun l hl => ?_⟩
  obtain ⟨q, hq, rfl⟩ := List.mem_map.mp hl
  exact linkOf_ok ok (h.2 q hq)
section
variable {mg : Str → Option Value} {base : Heap} {P : Program} {w : World} {K : PySem.W.Frag}
theorem ok_shared {f : Addr} {fd : FuncData} {k : Nat} (F : Fun K "shared_by" "shared_by" sShared f fd) (B : Bi mg) : FnOk P w K mg base CX0 (k + 1) f fd ["links"] (spD K RShared) := by
  refine def_of F scShared (fun ds d ⟨_, _, e, _⟩ => by rw [e]; rfl) fun cdv A outer s H E hr ds d ⟨ls, ok, eds, ed⟩ => ?_
  subst eds ed
  have hlen := ok.len
  obtain ⟨l, r, rfl⟩ := List.exists_cons_of_ne_nil ok.ne
  have hax := (ok.ax l (by simp)).1
  refine w_one (w_ret ((tupS (by rfl) B.tuple bt_tuple (n2s (lcomp (own := [("axis", 1)]) (xs := l.1) (enc := .str) (pr := fun a => (l :: r).all fun q => decide (a ∈ q.1)) (f := .str)
    (ρ' := fun a => [.fr (.d (.list ((l :: r).map lkD))), .fr (.d (.str a)), .un, .un])
    (i_t (ixT (ds := [axD l.1, .bool l.2]) (ixS (ds := (l :: r).map lkD) (d2s (dvar 0)) dint at0) dint rfl)) (blkOk_by (own := [("axis", 1)]) (by kernel_rfl))
    (fun x hx s H C cl fp => g_name 1 scShared.nd) (fun x hx s H C cl fp => pts_if ((tv (allS (bs := (l :: r).map fun q => decide (x ∈ q.1)) (by rfl) (by rfl) B.all bt_all ?_)).eqT ?_)) (fun x hx hpr s H C cl fp => dvar 1) (sz (by omega)) (hN := scShared.nd)))).eqD rfl) rfl)
  · refine n2s ((lcomp (own := [("axes", 2), ("is_ahead", 3)]) (xs := l :: r) (enc := lkD) (pr := fun _ => true) (f := fun q => .bool (decide (x ∈ q.1)))
      (ρ' := fun q => [.fr (.d (.list ((l :: r).map lkD))), .fr (.d (.str x)), .fr (.d (axD q.1)), .fr (.d (.bool q.2))])
      (i_l (dvar 0)) (blkOk_by (own := [("axes", 2), ("is_ahead", 3)]) (by kernel_rfl)) (fun q hq s H C cl fp => g_tup rfl (gs_cons (g_name 2 scShared.nd) (gs_cons (g_name 3 scShared.nd) gs_nil)))
      (fun q hq s H C cl fp => pts_no) (fun q hq hpr s H C cl fp => (cv (c_inT (dvar 1) (dvar 2) rfl (strs_flat _))).eqD (by rw [any_str])) (sz (by omega)) (hN := scShared.nd)).eqN ?_)
    rw [filt_true, List.map_map]
    rfl
  · rw [List.all_map]
    rfl
theorem ok_least {f : Addr} {fd : FuncData} {k : Nat} (F : Fun K "least_of" "least_of" sLeast f fd) (B : Bi mg) (GS : Cal P w K mg base k "shared_by" RShared) : FnOk P w K mg base CX0 (k + 1) f fd ["links"] (spD K RLeast) := by
  refine def_of F scLeast (fun ds d ⟨_, _, e, _⟩ => by rw [e]; rfl) fun cdv A outer s H E hr ds d ⟨ls, ok, eds, ed⟩ => ?_
  subst eds ed
  have hlen := ok.len
  refine w_cons (w_set (d := .d (axD (sharedBy ls))) 1 (call GS hr (ac (dvar 0) an) ⟨ls, ok, rfl, rfl⟩) (hN := scLeast.nd)) ?_
  refine w_one (w_ret ((n2d (lcomp (own := [("at", 2), ("axes", 3), ("is_ahead", 4)]) (xs := ls.zipIdx) (enc := fun q => .tuple [.int (q.2 : Nat), lkD q.1]) (pr := fun q => decide (q.1.1 = sharedBy ls)) (f := fun q => leD (q.2, q.1.2))
    (ρ' := fun q => [.fr (.d (.list (ls.map lkD))), .fr (.d (axD (sharedBy ls))), .fr (.d (.int (q.2 : Nat))), .fr (.d (axD q.1.1)), .fr (.d (.bool q.1.2))])
    (by rw [← enum_maps]; exact i_enumL (by rfl) B.enumerate (dvar 0)) (blkOk_by (own := [("at", 2), ("axes", 3), ("is_ahead", 4)]) (by kernel_rfl))
    (fun q hq s H C cl fp => g_tup rfl (gs_cons (g_name 2 scLeast.nd) (gs_cons (g_tup rfl (gs_cons (g_name 3 scLeast.nd) (gs_cons (g_name 4 scLeast.nd) gs_nil))) gs_nil)))
    (fun q hq s H C cl fp => pts_if ((ct (c_eq (u64 hr) (d2x (dvar 3)) (d2x (dvar 1)) (sh_ax ?_) (sh_ax (sharedBy_ok ok)))).eqT (eqv_ax _ _))) (fun q hq hpr s H C cl fp => dtup (ds := [.int (q.2 : Nat), .bool q.1.2]) (ac (dvar 2) (ac (dvar 4) an))) (sz (by rw [List.length_zipIdx]; omega)) (hN := scLeast.nd))).eqD ?_) rfl)
  · exact (ok.ax q.1 (List.fst_mem_of_mem_zipIdx hq)).2
  · unfold leastOf
    rw [List.map_map]
    rfl
theorem ok_along {f : Addr} {fd : FuncData} {k : Nat} (F : Fun K "least_along" "least_along" sAlong f fd) (B : Bi mg) (GL : Cal P w K mg base k "links_along" RLinks) (GO : Cal P w K mg base k "least_of" RLeast) : FnOk P w K mg base CX0 (k + 1) f fd ["plan", "path"] (spD K RAlong) := by
  refine def_of F scAlong (fun ds d ⟨_, _, _, _, _, e, _⟩ => by rw [e]; rfl) fun cdv A outer s H E hr ds d ⟨PL, path, ok, hl, h2, eds, ed⟩ => ?_
  subst eds ed
  exact w_one (w_ret (call GO hr (ac (call GL hr (ac (dvar 0) (ac (dvar 1) an)) ⟨PL, path, ok, hl, rfl, rfl⟩) an) ⟨_, links_ok ok hl h2, rfl, rfl⟩) rfl)
end
end KL
/-! B4: bad paths; no rings. -/
namespace KL
open PySem PySem.Spec L2
def namesOf (P : Plan) : List Str := P.steps.map (·.1)
/-- the paths of a plan, as a function that stands for the search -/
structure PathsOk (P : Plan) (pf : Str → Str → List (List Str)) : Prop where
  run : ∀ x ∈ namesOf P, ∀ y ∈ namesOf P, x ≠ y → ∃ n, DfsOk P x y n ∧ sortP (dfs P x y n).2 = pf x y
  one : ∀ x ∈ namesOf P, ∀ y ∈ namesOf P, x ≠ y → (pf x y).length ≤ 1
  lk : ∀ x ∈ namesOf P, ∀ y ∈ namesOf P, x ≠ y → ∀ p ∈ pf x y, Linked P p ∧ 2 ≤ p.length
def badOf (P : Plan) (pf : Str → Str → List (List Str)) (x y : Str) : List (List Str) := (pf x y).filter fun p => (leastAlong P p).isEmpty
/-- all bad paths, in the order of the two loops -/
def badRow (P : Plan) (pf : Str → Str → List (List Str)) (at_ : Nat) (x : Str) : List (List Str) := ((namesOf P).drop (at_ + 1)).flatMap (badOf P pf x)
def badAll (P : Plan) (pf : Str → Str → List (List Str)) : List (List Str) := (namesOf P).zipIdx.flatMap fun q => badRow P pf q.2 q.1
def RBad : List D → D → Prop := fun ds d => ∃ (P : Plan) (pf : Str → Str → List (List Str)), P.Ok ∧ PathsOk P pf ∧ ds = [.d (planD P)] ∧ d = .d (.list ((sortP (badAll P pf)).map nmD))
abbrev sBad : Stmt := top 9
theorem scBad : FnScope ["plan", "names", "found", "at", "one", "other", "name", "loops", "path"] ["plan"] (defScope sBad) := ⟨rfl, rfl, rfl, by decide +kernel, rfl, by decide +kernel, by decide +kernel⟩
theorem flat_len {α β : Type} {f : α → List β} {n : Nat} : ∀ {xs : List α}, (∀ x ∈ xs, (f x).length ≤ n) → (xs.flatMap f).length ≤ n * xs.length
  | [], _ => Nat.zero_le _
  | x :: xs, h => by
    rw [List.flatMap_cons, List.length_append, List.length_cons, Nat.mul_add]
    have := h x (by simp)
    have := flat_len (f := f) (xs := xs) fun y hy => h y (by simp [hy])
    omega
theorem take_flat {α β : Type} {f : α → List β} {xs : List α} {i : Nat} {x : α} (h : xs[i]? = some x) : (xs.take (i + 1)).flatMap f = (xs.take i).flatMap f ++ f x := by
  rw [List.take_add_one, h, List.flatMap_append]
  simp
theorem nil_le (leds : List (Nat × Bool)) : PyData.eqv (.list (leds.map leD)) (.list []) = leds.isEmpty := by
  rw [eqv_nil]
  cases leds <;> rfl
theorem lay_le : ∀ xs : List (Nat × Bool), PyData.canLayAll0 (xs.map leD) = true
  | .nil => by simp [PyData.canLayAll0]
  | x :: xs => by
    show PyData.canLayAll0 (.tuple [.int (x.1 : Nat), .bool x.2] :: xs.map leD) = true
    simp [PyData.canLayAll0, lay_le xs, PyData.canLay0]
theorem depth_le : ∀ xs : List (Nat × Bool), PyData.depthAll (xs.map leD) ≤ 1
  | .nil => by simp [PyData.depthAll]
  | x :: xs => by
    show PyData.depthAll (.tuple [.int (x.1 : Nat), .bool x.2] :: xs.map leD) ≤ 1
    have := depth_le xs
    simp only [PyData.depthAll, PyData.depth]
    omega
theorem sh_le (xs : List (Nat × Bool)) : SeqAt.shaped (.list (xs.map leD)) = true := by
  have := depth_le xs
  exact shaped_of (by simp only [PyData.canLay0]; exact lay_le xs) (by simp only [PyData.depth]; omega)
theorem nd_drop {xs : List Str} (nd : xs.Nodup) {i : Nat} {x : Str} (h : xs[i]? = some x) : ∀ y ∈ xs.drop (i + 1), x ≠ y := fun y hy e => by
  subst e
  have : xs.drop i = x :: xs.drop (i + 1) := by
    rw [List.drop_eq_getElem_cons (List.getElem?_eq_some_iff.mp h).1]
    rw [(List.getElem?_eq_some_iff.mp h).2]
  have nd' := nd.sublist (List.drop_sublist i xs)
  rw [this] at nd'
  exact (List.nodup_cons.mp nd').1 hy
section
variable {mg : Str → Option Value} {base : Heap} {P : Program} {w : World} {K : PySem.W.Frag}
theorem ok_bad {f : Addr} {fd : FuncData} {k : Nat} (F : Fun K "bad_paths" "bad_paths" sBad f fd) (B : Bi mg) (GP : Cal P w K mg base k "paths_between" RPaths) (GA : Cal P w K mg base k "least_along" RAlong) : FnOk P w K mg base CX0 (k + 1) f fd ["plan"] (spD K RBad) := by
  refine def_of F scBad (fun ds d ⟨_, _, _, _, e, _⟩ => by rw [e]; rfl) fun cdv A outer s H E hr ds d ⟨PL, pf, ok, pk, eds, ed⟩ => ?_
  subst eds ed
  have s1 := ok.s1
  have hn : (namesOf PL).length ≤ 20 := by unfold namesOf; rw [List.length_map]; exact s1
  have nd : (namesOf PL).Nodup := ok.nd
  have rowlen : ∀ q ∈ (namesOf PL).zipIdx, (badRow PL pf q.2 q.1).length ≤ 20 := fun q hq => by
    have hx : (namesOf PL)[q.2]? = some q.1 := by
      have := List.mem_zipIdx_iff_getElem?.mp hq
      simpa using this
    have := flat_len (f := badOf PL pf q.1) (n := 1) (xs := (namesOf PL).drop (q.2 + 1)) fun y hy => Nat.le_trans (List.length_filter_le ..) (pk.one q.1 (List.mem_of_getElem? hx) y (List.mem_of_mem_drop hy) (nd_drop nd hx y hy))
    rw [List.length_drop] at this
    unfold badRow
    omega
  have alllen : ∀ i, (((namesOf PL).zipIdx.take i).flatMap fun q => badRow PL pf q.2 q.1).length ≤ 400 := fun i => by
    have := flat_len (f := fun q : Str × Nat => badRow PL pf q.2 q.1) (n := 20) (xs := (namesOf PL).zipIdx.take i) fun q hq => rowlen q (List.mem_of_mem_take hq)
    rw [List.length_take, List.length_zipIdx] at this
    omega
  refine w_cons (w_par 1 2 (r1 := .fr (.d (nmD (namesOf PL)))) (r2 := .ow []) ((n2d (lcomp (own := [("name", 6), ("loops", 7)]) (xs := PL.steps) (enc := stD) (pr := fun _ => true) (f := fun s => .str s.1)
    (ρ' := fun s => [.fr (.d (planD PL)), .un, .un, .un, .un, .un, .fr (.d (.str s.1)), .fr (.d (axD s.2)), .un])
    (i_t (ixT (ds := [.tuple (PL.steps.map stD), .tuple (PL.pairs.map prD)]) (dvar 0) dint rfl)) (blkOk_by (own := [("name", 6), ("loops", 7)]) (by kernel_rfl))
    (fun q hq s H C cl fp => g_tup rfl (gs_cons (g_name 6 scBad.nd) (gs_cons (g_name 7 scBad.nd) gs_nil))) (fun q hq s H C cl fp => pts_no) (fun q hq hpr s H C cl fp => dvar 6) (sz (by omega)) (hN := scBad.nd))).eqD ?_) (nlst (ds := []) an) (hN := scBad.nd)) ?_
  · rw [filt_true, nmD, namesOf, List.map_map]
    rfl
  refine w_cons (w_for (xs := (namesOf PL).zipIdx) (enc := fun q => .tuple [.int (q.2 : Nat), .str q.1]) (vs := [3, 4])
    (fun i => [.fr (.d (planD PL)), .fr (.d (nmD (namesOf PL))), .ow ((((namesOf PL).zipIdx.take i).flatMap fun q => badRow PL pf q.2 q.1).map nmD), .un, .un, .un, .un, .un, .un])
    (fun i q => [.fr (.d (planD PL)), .fr (.d (nmD (namesOf PL))), .ow ((((namesOf PL).zipIdx.take i).flatMap fun q => badRow PL pf q.2 q.1).map nmD), .fr (.d (.int (q.2 : Nat))), .fr (.d (.str q.1)), .un, .un, .un, .un])
    (by rw [← enum_maps]; exact i_enumL (by rfl) B.enumerate (dvar 1)) rfl (fun i q hq => g_tup rfl (gs_cons (g_name 3 scBad.nd) (gs_cons (g_name 4 scBad.nd) gs_nil))) (fun i q hq => ?_)) ?_
  · have hqm := List.mem_of_getElem? hq
    have hx : (namesOf PL)[q.2]? = some q.1 := by
      have := List.mem_zipIdx_iff_getElem?.mp hqm
      simpa using this
    have hxm := List.mem_of_getElem? hx
    have hal := alllen i
    refine w_wk (w_one (w_for (xs := (namesOf PL).drop (q.2 + 1)) (enc := .str) (vs := [5])
      (fun j => [.fr (.d (planD PL)), .fr (.d (nmD (namesOf PL))), .ow (((((namesOf PL).zipIdx.take i).flatMap fun q => badRow PL pf q.2 q.1) ++ (((namesOf PL).drop (q.2 + 1)).take j).flatMap (badOf PL pf q.1)).map nmD), .fr (.d (.int (q.2 : Nat))), .fr (.d (.str q.1)), .un, .un, .un, .un])
      (fun j y => [.fr (.d (planD PL)), .fr (.d (nmD (namesOf PL))), .ow (((((namesOf PL).zipIdx.take i).flatMap fun q => badRow PL pf q.2 q.1) ++ (((namesOf PL).drop (q.2 + 1)).take j).flatMap (badOf PL pf q.1)).map nmD), .fr (.d (.int (q.2 : Nat))), .fr (.d (.str q.1)), .fr (.d (.str y)), .un, .un, .un])
      (i_l ((n2d (slS (l := some (((q.2 : Nat) : Int) + 1)) (d2s (dvar 1)) (o_so (dadd (dvar 3) dint)) o_no (sz (by rw [List.length_map]; omega)))).eqD ?_)) ?_ (fun j y hy => g_name 5 scBad.nd) (fun j y hy => ?_))) ?_
    · rw [show (((q.2 : Nat) : Int) + 1) = ((q.2 + 1 : Nat) : Int) by simp, cut_from, List.map_drop]
    · simp
    · have hym : y ∈ (namesOf PL).drop (q.2 + 1) := List.mem_of_getElem? hy
      have hne := nd_drop nd hx y hym
      have hym' := List.mem_of_mem_drop hym
      obtain ⟨n, dok, epf⟩ := pk.run q.1 hxm y hym' hne
      have hone := pk.one q.1 hxm y hym' hne
      have hlk := pk.lk q.1 hxm y hym' hne
      have hbl : (badOf PL pf q.1 y).length ≤ 1 := Nat.le_trans (List.length_filter_le ..) hone
      have hrow := flat_len (f := badOf PL pf q.1) (n := 1) (xs := ((namesOf PL).drop (q.2 + 1)).take j) fun y' hy' => by
        have h' := List.mem_of_mem_take hy'
        exact Nat.le_trans (List.length_filter_le ..) (pk.one q.1 hxm y' (List.mem_of_mem_drop h') (nd_drop nd hx y' h'))
      rw [List.length_take, List.length_drop] at hrow
      refine w_wk (w_one (w_extend (es := (badOf PL pf q.1 y).map nmD) 2 (lcomp (own := [("path", 8)]) (xs := pf q.1 y) (enc := nmD) (pr := fun p => (leastAlong PL p).isEmpty) (f := nmD)
        (ρ' := fun p => [.fr (.d (planD PL)), .fr (.d (nmD (namesOf PL))), .ow (((((namesOf PL).zipIdx.take i).flatMap fun q => badRow PL pf q.2 q.1) ++ (((namesOf PL).drop (q.2 + 1)).take j).flatMap (badOf PL pf q.1)).map nmD), .fr (.d (.int (q.2 : Nat))), .fr (.d (.str q.1)), .fr (.d (.str y)), .un, .un, .fr (.d (nmD p))])
        (i_l (call GP hr (ac (dvar 0) (ac (dvar 4) (ac (dvar 5) an))) ⟨PL, q.1, y, n, ok, hxm, ok.oN hym', dok, rfl, by rw [epf]⟩)) (blkOk_by (own := [("path", 8)]) (by kernel_rfl))
        (fun p hp s H C cl fp => g_name 8 scBad.nd) (fun p hp s H C cl fp => pts_if ((ct (c_eq (u64 hr) (d2x (call GA hr (ac (dvar 0) (ac (dvar 8) an)) ⟨PL, p, ok, (hlk p hp).1, (hlk p hp).2, rfl, rfl⟩)) (n2x (nlst (ds := []) an)) (sh_le _) sh_nil)).eqT (nil_le _)))
        (fun p hp hpr s H C cl fp => dvar 8) (sz (by omega)) (hN := scBad.nd)) ?_)) ?_
      · rw [List.length_map, List.length_map, List.length_append]
        exact sz (by omega)
      · rw [take_flat hy, ← List.append_assoc]
        simp only [List.map_append]
        exact .keep (.keep (.keep (.keep (.keep (.drop (.keep (.keep (.keep .nil))))))))
    · rw [take_flat hq, List.take_length]
      exact .keep (.keep (.keep (.drop (.drop (.keep (.keep (.keep (.keep .nil))))))))
  · refine w_one (w_ret ((n2d (srtS (u64 hr) (by rfl) B.sorted bt_sorted (svar 2) (aa_names _) (so_names _) (de_names _) (sz ?_))).eqD ?_) rfl)
    · rw [List.length_map]
      have := alllen (namesOf PL).zipIdx.length
      omega
    · rw [srt_names, List.take_length]
      rfl
end
end KL
/-! B5: no rings. -/
namespace KL
open PySem PySem.Spec L2
/-- neighbours have no path but their pair -/
def NoRings (P : Plan) (pf : Str → Str → List (List Str)) : Prop := ∀ x ∈ namesOf P, ∀ y ∈ nearOf P x, x ≠ y ∧ ∀ p ∈ pf x y, p.length = 2
def RRings : List D → D → Prop := fun ds d => ∃ (P : Plan) (pf : Str → Str → List (List Str)), P.Ok ∧ PathsOk P pf ∧ NoRings P pf ∧ ds = [.d (planD P)] ∧ d = .d (.list [])
abbrev sRings : Stmt := top 3
theorem scRings : FnScope ["plan", "near", "found", "one", "other", "paths", "path"] ["plan"] (defScope sRings) := ⟨rfl, rfl, rfl, by decide +kernel, rfl, by decide +kernel, by decide +kernel⟩
abbrev sBadRings : Stmt := top 10
theorem scBadRings : FnScope ["plan", "found", "ring", "ways", "is_ahead", "at"] ["plan"] (defScope sBadRings) := ⟨rfl, rfl, rfl, by decide +kernel, rfl, by decide +kernel, by decide +kernel⟩
section
variable {mg : Str → Option Value} {base : Heap} {P : Program} {w : World} {K : PySem.W.Frag}
theorem ok_rings {f : Addr} {fd : FuncData} {k : Nat} (F : Fun K "rings_in" "rings_in" sRings f fd) (B : Bi mg) (GN : Cal P w K mg base k "near_of" RNear) (GP : Cal P w K mg base k "paths_between" RPaths) : FnOk P w K mg base CX0 (k + 1) f fd ["plan"] (spD K RRings) := by
  refine def_of F scRings (fun ds d ⟨_, _, _, _, _, e, _⟩ => by rw [e]; rfl) fun cdv A outer s H E hr ds d ⟨PL, pf, ok, pk, nr, eds, ed⟩ => ?_
  subst eds ed
  refine w_cons (w_par 1 2 (r1 := .fr (.dk (nearD PL))) (r2 := .ow []) (call GN hr (ac (dvar 0) an) ⟨PL, ok, rfl, rfl⟩) (nlst (ds := []) an) (hN := scRings.nd)) ?_
  refine w_cons (w_forK (te := tVar 1) (kvs := nearD PL) (vs := [3]) (fun i => [.fr (.d (planD PL)), .fr (.dk (nearD PL)), .ow [], .un, .un, .un, .un])
    (fun i q => [.fr (.d (planD PL)), .fr (.dk (nearD PL)), .ow [], .fr (.d (keyD q.1)), .un, .un, .un])
    (pe_var (i := 1) (by rfl) (.inl (by rfl))) (src_var (i := 1) rfl) rfl (fun i q hq => g_name 3 scRings.nd) (fun i q hq => ?_)) ?_
  · obtain ⟨s, hs, rfl⟩ := List.mem_map.mp (List.mem_of_getElem? hq)
    have hx : s.1 ∈ namesOf PL := List.mem_map.mpr ⟨s, hs, rfl⟩
    refine w_wk (w_one (w_for (xs := nearOf PL s.1) (enc := .str) (vs := [4]) (fun j => [.fr (.d (planD PL)), .fr (.dk (nearD PL)), .ow [], .fr (.d (.str s.1)), .un, .un, .un])
      (fun j y => [.fr (.d (planD PL)), .fr (.dk (nearD PL)), .ow [], .fr (.d (.str s.1)), .fr (.d (.str y)), .un, .un])
      (i_l (dgK (u1 hr) (dvar 1) (dvar 3) (look_near ok hx))) rfl (fun j y hy => g_name 4 scRings.nd) (fun j y hy => ?_))) (.keep (.keep (.keep (.drop (.keep (.keep (.keep .nil)))))))
    have hym := List.mem_of_getElem? hy
    obtain ⟨hne, hp2⟩ := nr s.1 hx y hym
    have hyn : y ∈ namesOf PL := mem_near ok hym
    obtain ⟨n, dok, epf⟩ := pk.run s.1 hx y hyn hne
    have hone := pk.one s.1 hx y hyn hne
    refine w_wk (w_cons (w_set (d := .d (.list ((if decide (s.1.cps.toList < y.cps.toList) = true then pf s.1 y else []).map nmD))) 5 (dif (ct (c_ltS (dvar 3) (dvar 4))) (fun hk => ?_) (fun hk => ?_)) (hN := scRings.nd))
      (w_one (w_extend (ds := []) (es := []) 2 ((lcomp (own := [("path", 6)]) (xs := if decide (s.1.cps.toList < y.cps.toList) = true then pf s.1 y else []) (enc := nmD) (pr := fun p => false) (f := nmD)
        (ρ' := fun p => [.fr (.d (planD PL)), .fr (.dk (nearD PL)), .ow [], .fr (.d (.str s.1)), .fr (.d (.str y)), .fr (.d (.list ((if decide (s.1.cps.toList < y.cps.toList) = true then pf s.1 y else []).map nmD))), .fr (.d (nmD p))])
        (i_l (dvar 5)) (blkOk_by (own := [("path", 6)]) (by kernel_rfl)) (fun p hp s H C cl fp => g_name 6 scRings.nd) (fun p hp s H C cl fp => pts_if ((PW.pt (wand (k' := false) (ct (c_int op_gt (lenS (ds := p.map .str) (by rfl) B.len (d2s (dvar 6))) dint)) (fun hk => absurd hk ?_))).eqT (Bool.and_false _)))
        (fun p hp hpr => nomatch hpr) (sz ?_) (hN := scRings.nd)).eqN ?_) (by decide)))) ?_
    · rw [if_pos hk]
      exact call GP hr (ac (dvar 0) (ac (dvar 3) (ac (dvar 4) an))) ⟨PL, s.1, y, n, ok, hx, ok.oN hyn, dok, rfl, by rw [epf]⟩
    · rw [if_neg (by rw [hk]; simp)]
      exact n2d (nlst (ds := []) an)
    · have : p.length = 2 := by
        split at hp
        · exact hp2 p hp
        · cases hp
      rw [List.length_map, this]
      decide
    · split
      · omega
      · simp
    · simp
    · exact .keep (.keep (.keep (.keep (.drop (.drop (.keep .nil))))))
  · exact w_one (w_ret ((n2d (srtS (u64 hr) (by rfl) B.sorted bt_sorted (svar 2) (aa_names []) (so_names []) (de_names []) (by simp))).eqD (by simp [srt])) rfl)
theorem ok_badrings {f : Addr} {fd : FuncData} {k : Nat} (F : Fun K "bad_rings" "bad_rings" sBadRings f fd) (B : Bi mg) (GR : Cal P w K mg base k "rings_in" RRings) : FnOk P w K mg base CX0 (k + 1) f fd ["plan"] (spD K RRings) := by
  refine def_of F scBadRings (fun ds d ⟨_, _, _, _, _, e, _⟩ => by rw [e]; rfl) fun cdv A outer s H E hr ds d ⟨PL, pf, ok, pk, nr, eds, ed⟩ => ?_
  subst eds ed
  refine w_cons (w_own (ds := []) 1 (nlst (ds := []) an) (hN := scBadRings.nd)) ?_
  refine w_cons (w_for0 (i_l (call GR hr (ac (dvar 0) an) ⟨PL, pf, ok, pk, nr, rfl, rfl⟩))) ?_
  exact w_one (w_ret ((n2d (srtS (u64 hr) (by rfl) B.sorted bt_sorted (svar 1) (aa_names []) (so_names []) (de_names []) (by simp))).eqD (by simp [srt])) rfl)
end
end KL
/-! B6: names; a plan with a pair put to it. -/
namespace KL
open PySem PySem.Spec L2
def abc : Str := "abcdefghijklmnopqrstuvwxyz"
structure Gs (mg : Str → Option Value) : Prop where
  letters : ∃ t, mg "LETTERS" = some (.str abc t)
  longest : ∃ t, mg "LONGEST" = some (.int 6 t)
structure NameOk (x : Str) : Prop where
  lo : 1 ≤ x.length
  hi : x.length ≤ 6
  ab : ∀ c ∈ x.cps.toList, c ∈ abc.cps.toList
def RIsName : List D → D → Prop := fun ds d => ∃ x, NameOk x ∧ ds = [.d (.str x)] ∧ d = .d (.bool true)
abbrev sIsName : Stmt := top 16
theorem scIsName : FnScope ["thing", "sign"] ["thing"] (defScope sIsName) := ⟨rfl, rfl, rfl, by decide +kernel, rfl, by decide +kernel, by decide +kernel⟩
def RBoth : List D → D → Prop := fun ds d => ∃ (a b : Str) (r : List PyData), ds = [.d (.tuple (.str a :: .str b :: r))] ∧ d = .d (.tuple [.str (minT a b), .str (maxT a b)])
abbrev sBoth : Stmt := top 26
theorem scBoth : FnScope ["pair"] ["pair"] (defScope sBoth) := ⟨rfl, rfl, rfl, by decide +kernel, rfl, by decide +kernel, by decide +kernel⟩
/-- the pairs, ascending -/
def sortPr (ps : List (Str × Str × List Str)) : List (Str × Str × List Str) := ps.mergeSort (PySem.W.dataLe false prD)
theorem srt_prs (ps : List (Str × Str × List Str)) : srt (ps.map prD) = (sortPr ps).map prD := by
  unfold srt sortPr
  rw [PySem.W.sort_maps (r := PySem.W.dataLe false prD) (s := PySem.W.dataLe false fun d => d) prD (fun _ _ _ _ => rfl)]
theorem aa_prs (ps : List (Str × Str × List Str)) : PySem.W.AllAlike (ps.map prD) := fun d hd d' hd' => by
  obtain ⟨x, _, rfl⟩ := List.mem_map.mp hd
  obtain ⟨y, _, rfl⟩ := List.mem_map.mp hd'
  simp [prD, axD, PySem.W.alike, PySem.W.alikeAll, alike_strs]
theorem so_prs (ps : List (Str × Str × List Str)) : PySem.W.Sortable (ps.map prD) := .inl fun d hd => by
  obtain ⟨x, _, rfl⟩ := List.mem_map.mp hd
  exact ⟨_, _, rfl⟩
theorem de_prs (ps : List (Str × Str × List Str)) : ∀ d ∈ ps.map prD, d.depth ≤ 20 := fun d hd => by
  obtain ⟨x, _, rfl⟩ := List.mem_map.mp hd
  simp [prD, axD, PyData.depth, PyData.depthAll, depth_strs]
def sameEnds (p : Str × Str × List Str) (a b : Str) : Bool := decide (minT p.1 p.2.1 = minT a b ∧ maxT p.1 p.2.1 = maxT a b)
def withPair (P : Plan) (a b : Str) (l : List Str) : Plan := ⟨P.steps, sortPr ((P.pairs.filter fun p => !sameEnds p a b) ++ [(a, b, l)])⟩
def RWith : List D → D → Prop := fun ds d => ∃ (P : Plan) (a b : Str) (l : List Str), P.Ok ∧ PyData.strOk a = true ∧ PyData.strOk b = true ∧ ds = [planF P, .d (.str a), .d (.str b), .d (axD l)] ∧ d = planF (withPair P a b l)
abbrev sWith : Stmt := top 30
theorem scWith : FnScope ["plan", "one", "other", "axes", "kept", "pair"] ["plan", "one", "other", "axes"] (defScope sWith) := ⟨rfl, rfl, rfl, by decide +kernel, rfl, by decide +kernel, by decide +kernel⟩
theorem minT_ok {a b : Str} (h1 : PyData.strOk a = true) (h2 : PyData.strOk b = true) : PyData.strOk (minT a b) = true := by unfold minT; split <;> assumption
theorem maxT_ok {a b : Str} (h1 : PyData.strOk a = true) (h2 : PyData.strOk b = true) : PyData.strOk (maxT a b) = true := by unfold maxT; split <;> assumption
theorem sh_two {a b : Str} (h1 : PyData.strOk a = true) (h2 : PyData.strOk b = true) : SeqAt.shaped (.tuple [.str a, .str b]) = true := sh_ax (xs := [a, b]) (.cons h1 (.cons h2 fun _ h => nomatch h))
theorem eqv_two (a b c d : Str) : PyData.eqv (.tuple [.str a, .str b]) (.tuple [.str c, .str d]) = decide (a = c ∧ b = d) := by
  rw [show PyData.tuple [.str a, .str b] = axD [a, b] from rfl, show PyData.tuple [.str c, .str d] = axD [c, d] from rfl, eqv_ax]
  simp
section
variable {mg : Str → Option Value} {base : Heap} {P : Program} {w : World} {K : PySem.W.Frag}
theorem ok_isname {f : Addr} {fd : FuncData} {k : Nat} (F : Fun K "is_name" "is_name" sIsName f fd) (B : Bi mg) (G : Gs mg) : FnOk P w K mg base CX0 (k + 1) f fd ["thing"] (spD K RIsName) := by
  refine def_of F scIsName (fun ds d ⟨_, _, e, _⟩ => by rw [e]; rfl) fun cdv A outer s H E hr ds d ⟨x, ok, eds, ed⟩ => ?_
  subst eds ed
  obtain ⟨t1, g1⟩ := G.letters
  obtain ⟨t2, g2⟩ := G.longest
  have hi := ok.hi
  have hsz : x.cps.toList.length = x.length := by simp [Str.length]
  refine w_one (w_ret ((vand (disi (by rfl) B.isinstance (d2x (dvar 0)) (by rfl) B.str bt_str rfl (k := true) (by decide +kernel)) fun _ => vand (c_le2 dint (lenStr (by rfl) B.len (dvar 0) (sz (by omega))) (dglobI (i := 6) (by rfl) g2) (by have := ok.lo; omega)) fun _ => vone (allS (bs := x.cps.toList.map fun _ => true) (by rfl) (by rfl) B.all bt_all
    (n2s ((lcomp (own := [("sign", 1)]) (xs := x.cps.toList) (enc := fun c => .str ⟨#[c]⟩) (pr := fun _ => true) (f := fun _ => .bool true) (ρ' := fun c => [.fr (.d (.str x)), .fr (.d (.str ⟨#[c]⟩))])
      (i_str (dvar 0)) (blkOk_by (own := [("sign", 1)]) (by kernel_rfl)) (fun q hq s H C cl fp => g_name 1 scIsName.nd) (fun q hq s H C cl fp => pts_no)
      (fun q hq hpr s H C cl fp => (cv (c_inSign (dvar 1) (dglobS (i := abc) (by rfl) g1))).eqD ?_) (sz (by omega)) (hN := scIsName.nd)).eqN ?_)))).eqD ?_) rfl)
  · rw [decide_eq_true (ok.ab q hq)]
  · rw [filt_true, List.map_map]
    rfl
  · rw [decide_eq_true (by omega)]
    simp [List.all_map]
theorem ok_both {f : Addr} {fd : FuncData} {k : Nat} (F : Fun K "both_of" "both_of" sBoth f fd) (B : Bi mg) : FnOk P w K mg base CX0 (k + 1) f fd ["pair"] (spD K RBoth) := by
  refine def_of F scBoth (fun ds d ⟨_, _, _, e, _⟩ => by rw [e]; rfl) fun cdv A outer s H E hr ds d ⟨a, b, r, eds, ed⟩ => ?_
  subst eds ed
  exact w_one (w_ret (dtup (ds := [.str (minT a b), .str (maxT a b)]) (ac (call2T (cr_minT (by rfl)) (by rfl) B.min bt_min (ixT (ds := .str a :: .str b :: r) (dvar 0) dint at0) (ixT (ds := .str a :: .str b :: r) (dvar 0) dint (atI_nat (j := 1) rfl))) (ac (call2T (cr_maxT (by rfl)) (by rfl) B.max bt_max (ixT (ds := .str a :: .str b :: r) (dvar 0) dint at0) (ixT (ds := .str a :: .str b :: r) (dvar 0) dint (atI_nat (j := 1) rfl))) an))) rfl)
theorem ok_with {f : Addr} {fd : FuncData} {k : Nat} (F : Fun K "with_pair" "with_pair" sWith f fd) (B : Bi mg) (GB : Cal P w K mg base k "both_of" RBoth) : FnOk P w K mg base CX0 (k + 1) f fd ["plan", "one", "other", "axes"] (spD K RWith) := by
  refine def_of F scWith (fun ds d ⟨_, _, _, _, _, _, _, e, _⟩ => by rw [e]; rfl) fun cdv A outer s H E hr ds d ⟨PL, a, b, l, ok, ha, hb, eds, ed⟩ => ?_
  subst eds ed
  have s2 := ok.s2
  refine w_cons (w_lc 4 (own := [("pair", 5)]) (xs := PL.pairs) (enc := prD) (pr := fun p => !sameEnds p a b) (f := prD)
    (ρ' := fun p => [.fr (planF PL), .fr (.d (.str a)), .fr (.d (.str b)), .fr (.d (axD l)), .un, .fr (.d (prD p))])
    (i_t (ixT (ds := [.tuple (PL.steps.map stD), .tuple (PL.pairs.map prD)]) (tf2d (dvar 0)) dint rfl)) (blkOk_by (own := [("pair", 5)]) (by kernel_rfl))
    (fun p hp s H C cl fp => g_name 5 scWith.nd) (fun p hp s H C cl fp => pts_if ((ct (c_ne (u64 hr) (d2x (call GB hr (ac (dvar 5) an) ⟨p.1, p.2.1, [axD p.2.2], rfl, rfl⟩)) (d2x (call GB hr (ac (dtup (ds := [.str a, .str b]) (ac (dvar 1) (ac (dvar 2) an))) an) ⟨a, b, [], rfl, rfl⟩))
      (sh_two (minT_ok (ok.oN (ok.e1 p hp)) (ok.oN (ok.e2 p hp))) (maxT_ok (ok.oN (ok.e1 p hp)) (ok.oN (ok.e2 p hp)))) (sh_two (minT_ok ha hb) (maxT_ok ha hb)))).eqT ?_)) (fun p hp hpr s H C cl fp => dvar 5) (sz (by omega)) (hN := scWith.nd)) ?_
  · rw [eqv_two]
    rfl
  have hfl := List.length_filter_le (fun p => !sameEnds p a b) PL.pairs
  refine w_one (w_ret ((dtupF (ds := PL.steps.map stD) (es := [.tuple (srt ((PL.pairs.filter fun p => !sameEnds p a b).map prD ++ [prD (a, b, l)]))]) (ac (ixF (dvar 0) dint)
    (ac (tupS (by rfl) B.tuple bt_tuple (n2s (srtS (u64 hr) (by rfl) B.sorted bt_sorted (n2s (nstar (ds := (PL.pairs.filter fun p => !sameEnds p a b).map prD) (es := [prD (a, b, l)]) (svar 4) (ac (dtup (ds := [.str a, .str b, axD l]) (ac (dvar 1) (ac (dvar 2) (ac (dvar 3) an)))) an) (sz ?_))) ?_ ?_ ?_ (sz ?_)))) an))).eqD ?_) rfl)
  all_goals have em : (PL.pairs.filter fun p => !sameEnds p a b).map prD ++ [prD (a, b, l)] = ((PL.pairs.filter fun p => !sameEnds p a b) ++ [(a, b, l)]).map prD := by rw [List.map_append]; rfl
  · rw [List.length_map]
    simp only [List.length_singleton]
    omega
  · rw [em]; exact aa_prs _
  · rw [em]; exact so_prs _
  · rw [em]; exact de_prs _
  · rw [em, List.length_map, List.length_append]
    simp only [List.length_singleton]
    omega
  · rw [em, srt_prs]
    rfl
end
end KL
/-! DMg: sorted(set(tuple of texts)); sorted(tuple of pairs). -/
namespace KL
open PySem PySem.Spec L2 PySem.Froz
section
variable {prog : Program} {P : Program} {w : World} {A : Around} {s : Shared} {E : Value → Shared → Prop}
set_option maxHeartbeats 3300000 in
theorem call_set_tup {a : Addr} {its : Array Value} (ks : List Str) {Q : Value → Shared → Prop} (hh : A.handled = none) (hl : s.heap.IsTuple a its) (hk : ∀ (i : Nat) (v : Value), its[i]? = some v → ∃ k t, ks[i]? = some k ∧ v = .str k t) (hz : its.size = ks.length) (hb : ks.length + 1 < scanBound)
    (fin : ∀ (h' : Heap) (tk : Nat), Held P w h' s.heap.objs.size (insT [] ks) → (∀ b o, s.heap.get? b = some o → h'.get? b = some o) → Q (.ref s.heap.objs.size) { s with heap := h', toks := tk }) :
    wpAny (model P w) A (PySem.call (.type "set") [.ref a]) Q E s := by
  obtain ⟨c0, tl0, mro0⟩ := F.called_set.mro
  have made0 := F.called_set.made
  have sub0 := F.called_set.sub
  refine wpAny_call <| codeAny_of_tree ?_
  show wpAny _ _ (callAny (.type "set") _) _ _ _; refine wpAny_pure ⟨Code.quiet_builtin _ (by decide +kernel), codeAny_builtin F.entry_type_call ?_⟩
  rw [Around.under_plain (weight_type_call_type "set" [.ref a] []) rfl]
  have z1 := F.called_set.notType
  have z2 := F.called_set.canCreate
  have z3 := F.typeCall_set_1 (.ref a)
  repeat any_goals first | assumption | wp_step
  have ho : (s.heap.push (oSet w)).get? s.heap.objs.size = some (oSet w) := Heap.get?_push_size _ rfl
  refine codeAny_mono (code_set_led1 (.ref a) (E := E) (Q₁ := fun v s1 => v = .ref s.heap.objs.size ∧ s1 = { s with heap := s.heap.push (oSet w) }) ⟨rfl, rfl⟩) fun r s1 q => ?_
  match r, q with
  | .error e, q => exact q
  | .ok (.ret v), q =>
    obtain ⟨rfl, rfl⟩ := q
    have ty : Shared.TypeIs { s with heap := s.heap.push (oSet w) } (.ref s.heap.objs.size) "set" := ⟨_, ho, rfl⟩
    have look0 := F.called_set.init.lookup
    have bind0 := F.called_set.init.bind (.ref s.heap.objs.size)
    repeat any_goals first | assumption | wp_step
    refine codeAny_mono (codeAny_call_builtin (R := wants (fun v s2 => v = .none ∧ ∃ h' tk, s2 = { s with heap := h', toks := tk } ∧ Held P w h' s.heap.objs.size (insT [] ks) ∧ ∀ b o, s.heap.get? b = some o → h'.get? b = some o) E) F.called_set.init.plain F.entry_set_init (check_set_init_1 ty ?_)) fun r2 s2 q2 => ?_
    · have la : a < s.heap.objs.size := let ⟨o, e, _⟩ := hl; Heap.lt_size e
      have hl1 : (s.heap.push (oSet w)).IsTuple a its := hl.push _
      have nlS := F.sub_tuple_set
      have nlF := F.sub_tuple_frozenset
      have nlD : (Value.type "tuple" == Value.type "dict") = false := by decide
      obtain ⟨ol, eo, ec, nl, ed⟩ := hl
      obtain ⟨c1, d1, d2, d3⟩ := ol
      simp only at ec ed
      subst ec ed
      have eo1 : (s.heap.push (oSet w)).get? a = some { cls := .type "tuple", dict := d1, data := .seq its nl, slots := d3 } := Heap.get?_push_of_some _ eo
      unfold Builtin.«set.__init__»; unfold noKeywords Builtin.Frozenset.updateFrom
      generalize hg : pyIter = PI
      wp_walk
      subst hg
      refine wpAny_pyIter_tuple hl1 (wpAny_bind (wpAny_runValue ?_))
      have hh3 : (A.in1.in1.in1).handled = none := by simp [hh]
      have sz1 : (s.heap.push (oSet w)).objs.size = s.heap.objs.size + 1 := Heap.size_push ..
      have ne1 : a ≠ (s.heap.push (oSet w)).objs.size := by rw [sz1]; exact Nat.ne_of_lt (Nat.lt_succ_of_lt la)
      have nin : s.heap.objs.size ∉ [(s.heap.push (oSet w)).objs.size, a] := by
        rw [sz1, List.mem_cons, List.mem_singleton]
        exact fun z => z.elim (fun e => Nat.succ_ne_self _ e.symm) (Nat.ne_of_gt la)
      refine upd_loop ((Walks.tuple hh3 _ a ne1 its).toS) s.heap.objs.size nin ks hz hb hk (fun s' hm hold => ?_) its.size 0 _ (Nat.zero_add _) ⟨⟨_, Heap.get?_push_size _ rfl, rfl, rfl⟩, hl1.push _⟩ ⟨_, Heap.get?_push_of_some _ ho, txs_new⟩ fun _ z => z
      obtain ⟨h', g', dr', tk', os'⟩ := s'
      have eg := (hm.gens : g' = s.gens)
      have ed : dr' = s.drawn := hm.drawn
      have eo : os' = s.os := hm.os
      subst eg ed eo
      refine wpAny_pure ?_
      show wpAny _ _ (ret Value.none) _ _ _; refine wpAny_pure ⟨rfl, h', tk', rfl, hold, fun b o e => ?_⟩
      have lb := Heap.lt_size e
      refine hm.heap b o (fun z => ?_) (Heap.get?_push_of_some _ (Heap.get?_push_of_some _ e))
      rw [List.mem_cons, List.mem_singleton, sz1] at z
      exact z.elim (Nat.ne_of_lt lb) (Nat.ne_of_lt (Nat.lt_succ_of_lt lb))
    · match r2, q2 with
      | .error e, q2 => exact q2
      | .ok (.ret v), q2 =>
        obtain ⟨rfl, h', tk, rfl, hold, old⟩ := q2
        repeat any_goals first | assumption | wp_step
        exact fin _ _ hold old
end
def rSetU (P : Program) (w : World) (K : PySem.W.Frag) : List V → Hp → VK → Prop := fun vs H Q => ∃ (a : Addr) (ks : List Str), vs = [V.ref a] ∧ SqT K H a (ks.map V.str) ∧ ks.length ≤ 1000 ∧ ∀ p, H p = none → Q (.ref p) (upd H p (TxH P w p (insT [] ks)))
theorem reads_axs {h : Heap} : ∀ {ks : List Str} {vs : List Value} {as : List Addr}, ReadsAll h vs (ks.map .str) as → as = []
  | [], _, _, .nil => rfl
  | k :: ks, _, _, .cons (.str _ _) r => by rw [reads_axs r]; rfl
theorem reads_cons {h : Heap} {vs : List Value} {d : PyData} {ds : List PyData} {as : List Addr} (r : ReadsAll h vs (d :: ds) as) : ∃ v vs' a b, Reads h v d a ∧ ReadsAll h vs' ds b ∧ as = a ++ b := by
  cases r with
  | cons a r => exact ⟨_, _, _, _, a, r, rfl⟩
theorem reads_txt1 {h : Heap} {x : Str} {v : Value} {as : List Addr} (r : Reads h v (.str x) as) : as = [] := by
  cases r
  rfl
theorem reads_tup {h : Heap} {ds : List PyData} {v : Value} {as : List Addr} (r : Reads h v (.tuple ds) as) : ∃ vs, ReadsAll h vs ds as := by
  cases r with
  | tuple _ _ _ r => exact ⟨_, r⟩
theorem reads_done {h : Heap} {vs : List Value} {as : List Addr} (r : ReadsAll h vs [] as) : as = [] := by
  cases r
  rfl
theorem reads_prd {h : Heap} {p : Str × Str × List Str} {v : Value} {as : List Addr} (r : Reads h v (prD p) as) : as = [] := by
  unfold prD axD at r
  obtain ⟨vs, r0⟩ := reads_tup r
  obtain ⟨_, _, _, _, a1, r1, e1⟩ := reads_cons r0
  obtain ⟨_, _, _, _, a2, r2, e2⟩ := reads_cons r1
  obtain ⟨_, _, _, _, a3, r3, e3⟩ := reads_cons r2
  obtain ⟨_, a3⟩ := reads_tup a3
  rw [e1, e2, e3, reads_txt1 a1, reads_txt1 a2, reads_axs a3, reads_done r3]
  rfl
section
variable {X : Cx}
theorem cr_setU (hc : X.calm = true) : CallR X (.type "set") (rSetU X.prog X.w X.K) := by
  intro pins s σ H vs us Q; intro I r h
  obtain ⟨a, ks, rfl, hs, hk, q⟩ := h
  obtain ⟨its, rv, hl, hz⟩ := I.tuple hs
  rw [Vals.ref1 r]
  obtain ⟨e1, e2⟩ := vals_txt rv
  refine call_set_tup (its := its.toArray) ks (I.ok.hd hc) hl (fun i v z => e2 i v (by simpa using z)) (by simpa using e1) (by unfold scanBound; omega) fun h' tk hold old => ?_
  exact ⟨.ref _, upd H s.heap.objs.size (TxH X.prog X.w s.heap.objs.size (insT [] ks)), I.laid (t' := tk) old (Nat.le_refl _) (txH_new hold), rfl, q _ (I.hok.fresh (Nat.le_refl _))⟩
def rSortPT (K : PySem.W.Frag) : List V → Hp → VK → Prop := fun vs H Q => ∃ (a : Addr) (xs : List V) (ps : List (Str × Str × List Str)), vs = [V.ref a] ∧ SqT K H a xs ∧ DpAll K H xs (ps.map prD) ∧ ps.length ≤ 1000 ∧
  ∀ (bs : List (V × PyData)) (t : Addr), bs.Perm (xs.zip (ps.map prD)) → bs.map (·.2) = srt (ps.map prD) → H t = none → Q (.ref t) (upd H t (.lst (bs.map (·.1))))
theorem cr_sortPT (hu : X.A.units + 64 < cLine) : CallR X (.builtin "sorted") (rSortPT X.K) := by
  intro pins s σ H vs us Q I r ⟨a, xs, ps, ex, sq, dp, hl, q⟩
  subst ex
  rw [Vals.ref1 r]
  obtain ⟨its, rv, ⟨o, ho, hc, n, hd⟩, hz⟩ := I.tuple sq
  have hlen := DpAll.len dp
  rw [List.length_map] at hlen
  have hvl : its.length = xs.length := by rw [← rv.length]
  have hm : (xs.zip (ps.map prD)).map (fun b : V × PyData => b.2) = ps.map prD := zip_snd (by rw [List.length_map]; exact hlen)
  have hzl : (xs.zip (ps.map prD)).length = xs.length := by rw [List.length_zip, List.length_map]; omega
  refine Calls.call_function_entry PyProof.Rows.kind_sorted PyProof.Rows.plain_sorted PyProof.Rows.entry_sorted (PyProof.Rows.args_sorted1 _) ?_; unfold Builtin.«sorted»
  refine wpAny_bind (m := checkCount "sorted" 1 1 _) (wpAny_pure (wpAny_bind (wpAny_collect_seq (A := X.A.in1) a (.inr rfl) ho hc hd (fun h' k1 => ?_) (by rw [List.size_toArray, hvl, hlen]; exact Nat.le_trans hl (by decide)))))
  have I1 : L2.Inv X pins σ H { s with heap := h' } := I.kept (t' := s.toks) k1
  have er := each_reads I1 rv dp
  refine wpAny_bind (wpAny_newList ?_ (by rw [hvl, hlen]; exact Nat.le_trans hl (by decide)))
  have hoL : (h'.push (PyProof.Rows.seqObj "list" its.toArray 0)).get? h'.objs.size = some (PyProof.Rows.seqObj "list" its.toArray 0) := Heap.get?_push_size _ rfl
  have er2 : PySem.W.EachIs (fun v (b : V × PyData) => ∃ as, Reads (h'.push (PyProof.Rows.seqObj "list" its.toArray 0)) v b.2 as ∧ h'.objs.size ∉ as) its (xs.zip (ps.map prD)) := by
    refine (PySem.W.each_mem er).mono fun v b ⟨⟨as, rd⟩, hb⟩ => ?_
    have hb2 : b.2 ∈ ps.map prD := by rw [← hm]; exact List.mem_map.mpr ⟨b, hb, rfl⟩
    obtain ⟨p, _, ep⟩ := List.mem_map.mp hb2
    rw [← ep] at rd ⊢
    have := reads_prd rd
    subst this
    exact ⟨[], PyProof.Rows.Reads.keeps (fun _ _ e => Heap.get?_push_of_some _ e) rd, by simp⟩
  show wpAny _ _ _ _ _ { s with heap := h'.push (PyProof.Rows.seqObj "list" its.toArray 0) }
  refine wpAny_bind (wpAny_holding (PySem.W.list_sort_data (R := fun v (b : V × PyData) => RelV b.1 v) (enc := fun b : V × PyData => b.2) (bs := xs.zip (ps.map prD)) hoL (each_vals rv (by rw [List.length_map]; exact hlen)) er2 (by rw [hm]; exact aa_prs ps) (by rw [hm]; exact so_prs ps) (by rw [hzl, hlen]; exact Nat.le_trans hl (by decide)) (fun b hb => ?_) fun out n1 n2 => ?_))
  · have hb2 : b.2 ∈ ps.map prD := by rw [← hm]; exact List.mem_map.mpr ⟨b, hb, rfl⟩
    have := de_prs ps _ hb2
    show X.A.in1.units + 1 + _ < cLine
    have : X.A.in1.units ≤ X.A.units + 1 := by simp
    omega
  · obtain ⟨ep, eh⟩ := PyProof.Rows.sortedHeap_at (out := List.toArray out) hoL
    have old : ∀ b u, h'.get? b = some u → (PyProof.Rows.sortedHeap (h'.push (PyProof.Rows.seqObj "list" its.toArray 0)) h'.objs.size its (List.toArray out)).get? b = some u := fun b u e => by
      have lt := Heap.lt_size e
      rw [PyProof.Rows.sortedHeap_old (Nat.ne_of_lt lt) (by rw [Heap.size_push]; exact Nat.lt_succ_of_lt lt)]
      refine Heap.get?_push_of_some _ e
    refine wpAny_pure ⟨_, rfl, .ref h'.objs.size, upd H h'.objs.size (.lst (((xs.zip (ps.map prD)).mergeSort (PySem.W.dataLe false fun b : V × PyData => b.2)).map (·.1))), I1.laid (t' := s.toks) old (Nat.le_refl _) (show ObjOk X.prog X.w _ _ _ (.lst _) from ⟨?_, out, ep, vals_each n2, eh⟩), rfl, q _ _ (List.mergeSort_perm _ _) ?_ (I1.hok.fresh (Nat.le_refl _))⟩
    · rw [List.length_map, List.length_mergeSort, hzl, hlen]; exact Nat.le_trans hl (by decide)
    · unfold srt
      have z := PySem.W.sort_maps (r := PySem.W.dataLe false fun b : V × PyData => b.2) (s := PySem.W.dataLe false fun d => d) (fun b : V × PyData => b.2) (l := xs.zip (ps.map prD)) (fun _ _ _ _ => rfl)
      rw [hm] at z
      exact z
variable {ρ : List Sl} {e : Expr} {p p2 pos pos2 : Pos}
theorem srtPT {ps : List (Str × Str × List Str)} (hu : X.A.units + 64 < cLine) (hg : Gl X "sorted") (hm : X.mg "sorted" = none) (ha : PE X e (tD X.K ρ (.d (.tuple (ps.map prD))))) (hz : ps.length ≤ 1000) (he : starEach [e] X.env = (false, eval e X.env) :: starEach [] X.env := by rfl) :
    PE X (.Call (.Name "sorted" p) [e] [] pos) (tN X.K ρ ((sortPr ps).map prD)) :=
  call1 (cr_sortPT hu) (he := he) hg hm bt_sorted ha fun F H F1 H1 x Q l e1 dx k => by
    have dx' : Dp X.K F1 x (.tuple (ps.map prD)) := dx
    cases dx' with
    | tup sq dp =>
      refine ⟨_, _, ps, rfl, e1.fh.sqT sq, e1.fh.dps dp, hz, fun bs t pm es n => ?_⟩
      refine k F1 _ _ (e1.trans (.newH e1.fh n)) ⟨t, _, rfl, e1.fh.dom t n, e1.hh.free n, upd_same, ?_, ?_⟩
      · rw [List.length_map, pm.length_eq, List.length_zip, DpAll.len dp, List.length_map]
        exact Nat.le_trans (Nat.min_le_left _ _) (Nat.le_trans hz (by decide))
      · rw [← srt_prs, ← es]
        exact zip_dpAll fun b m => dpAll_zip dp b (pm.mem_iff.mp m)
/-- sorted(set(tuple of texts)) -/
theorem setsrtT {ks ds : List Str} (hu : X.A.units + 64 < cLine) (hg : Gl X "sorted") (hm : X.mg "sorted" = none) (hg2 : Gl X "set") (hm2 : X.mg "set" = none) (ha : PE X e (tD X.K ρ (.d (.tuple (ks.map .str)))))
    (hz : ks.length ≤ 1000) (hq : ∀ m : List Str, m.Perm (insT [] ks) → srt (m.map .str) = ds.map .str) (hc : X.calm = true := by rfl) (he : starEach [e] X.env = (false, eval e X.env) :: starEach [] X.env := by rfl)
    (he2 : starEach [.Call (.Name "set" p2) [e] [] pos2] X.env = (false, eval (.Call (.Name "set" p2) [e] [] pos2) X.env) :: starEach [] X.env := by rfl) :
    PE X (.Call (.Name "sorted" p) [.Call (.Name "set" p2) [e] [] pos2] [] pos) (tN X.K ρ (ds.map .str)) := by
  have hl := insT_len ks []
  rw [List.length_nil] at hl
  have hdl : ds.length ≤ 1000 := by
    have z := congrArg List.length (hq _ (.refl _))
    rw [srt_length, List.length_map, List.length_map] at z
    omega
  have inner : PE X (.Call (.Name "set" p2) [e] [] pos2) (tR X.K ρ (RTx X.prog X.w (insT [] ks))) :=
    callT1 (cr_setU hc) (he := he) hg2 hm2 bt_set ha fun F H F1 H1 x Q l e1 dx k => by
      have dx' : Dp X.K F1 x (.tuple (ks.map .str)) := dx
      cases dx' with
      | tup sq dp => exact ⟨_, ks, rfl, by rw [dpAll_strs dp] at sq; exact e1.fh.sqT sq, hz, fun t n => k F1 _ _ (e1.trans (.newH e1.fh n)) ⟨t, rfl, e1.fh.dom t n, e1.hh.free n, upd_same⟩⟩
  exact call1 (cr_sortT hc hu) (he := he2) hg hm bt_sorted inner fun F H F1 H1 x Q l e1 ⟨a, ev, nF, nH, eH⟩ k => ⟨a, insT [] ks, ds, by rw [ev], eH, by omega, hq, fun t n => by
    refine k F1 _ _ (e1.trans (.newH e1.fh n)) ⟨t, _, rfl, e1.fh.dom t n, e1.hh.free n, upd_same, ?_, strs_dp ds⟩
    rw [List.length_map]
    exact Nat.le_trans hdl (by decide)⟩
end
end KL
/-! B7: laying.py: opened; hung_together; parts_by. -/
namespace KL
open PySem PySem.Spec L2
def loopD (a : Str) (ks : List PyData) : PyData := .tuple [.str "loop", .str a, .tuple ks]
def addD (x : Str) : PyData := .tuple [.str "add", .str x]
def openK (as : List Str) (ks : List PyData) : List PyData := as.foldr (fun a k => [loopD a k]) ks
def ROpened : List D → D → Prop := fun ds d => ∃ (as : List Str) (ks : List PyData), as.length ≤ 20 ∧ ds = [.d (nmD as), .d (.tuple ks)] ∧ d = .d (.tuple (openK as ks))
abbrev sOpened : Stmt := top 32
theorem scOpened : FnScope ["axes", "knots", "axis"] ["axes", "knots"] (defScope sOpened) := ⟨rfl, rfl, rfl, by decide +kernel, rfl, by decide +kernel, by decide +kernel⟩
/-! ### hung_together -/
def pr2D (q : Str × Str) : PyData := .tuple [.str q.1, .str q.2]
def lotOf (lots : List (List Str)) (x : Str) : List Str := (lots.filter fun l => decide (x ∈ l)).headD []
def joinL (names f g : List Str) : List Str := names.filter fun n => decide (n ∈ f) || decide (n ∈ g)
def hstep (names : List Str) (lots : List (List Str)) (q : Str × Str) : List (List Str) :=
  if q.2 ∈ lotOf lots q.1 then lots
  else (lots.filter fun l => !decide (l = lotOf lots q.1) && !decide (l = lotOf lots q.2)) ++ [joinL names (lotOf lots q.1) (lotOf lots q.2)]
def hang (names : List Str) (pairs : List (Str × Str)) : List (List Str) := pairs.foldl (hstep names) (names.map fun x => [x])
structure HInv (names : List Str) (lots : List (List Str)) : Prop where
  cov : ∀ x ∈ names, ∃ l ∈ lots, x ∈ l
  sub : ∀ l ∈ lots, ∀ x ∈ l, x ∈ names
  len : ∀ l ∈ lots, l.length ≤ names.length
theorem lotOf_spec {names : List Str} {lots : List (List Str)} (h : HInv names lots) {x : Str} (hx : x ∈ names) : ∃ r, (lots.filter fun l => decide (x ∈ l)) = lotOf lots x :: r ∧ lotOf lots x ∈ lots ∧ x ∈ lotOf lots x := by
  obtain ⟨l, hl, hxl⟩ := h.cov x hx
  have hm : l ∈ lots.filter fun l => decide (x ∈ l) := List.mem_filter.mpr ⟨hl, decide_eq_true hxl⟩
  unfold lotOf
  cases e : lots.filter fun l => decide (x ∈ l) with
  | nil => rw [e] at hm; cases hm
  | cons a r =>
    have ha : a ∈ lots.filter fun l => decide (x ∈ l) := by rw [e]; exact List.mem_cons_self
    obtain ⟨h1, h2⟩ := List.mem_filter.mp ha
    exact ⟨r, rfl, h1, of_decide_eq_true h2⟩
theorem hinv_step {names : List Str} {lots : List (List Str)} (h : HInv names lots) {q : Str × Str} (h1 : q.1 ∈ names) (h2 : q.2 ∈ names) : HInv names (hstep names lots q) := by
  unfold hstep
  split
  · exact h
  · obtain ⟨_, _, a1, a2⟩ := lotOf_spec h h1
    obtain ⟨_, _, b1, b2⟩ := lotOf_spec h h2
    refine ⟨fun x hx => ?_, fun l hl x hx => ?_, fun l hl => ?_⟩
    · obtain ⟨l, hl, hxl⟩ := h.cov x hx
      by_cases c : l = lotOf lots q.1 ∨ l = lotOf lots q.2
      · refine ⟨_, List.mem_append_right _ List.mem_cons_self, List.mem_filter.mpr ⟨hx, ?_⟩⟩
        rcases c with c | c
        · rw [← c, decide_eq_true hxl, Bool.true_or]
        · rw [← c, decide_eq_true hxl, Bool.or_true]
      · refine ⟨l, List.mem_append_left _ (List.mem_filter.mpr ⟨hl, ?_⟩), hxl⟩
        have c1 : ¬ l = lotOf lots q.1 := fun z => c (.inl z)
        have c2 : ¬ l = lotOf lots q.2 := fun z => c (.inr z)
        simp [c1, c2]
    · rcases List.mem_append.mp hl with hl | hl
      · exact h.sub l (List.mem_filter.mp hl).1 x hx
      · rw [List.mem_singleton.mp hl] at hx
        exact (List.mem_filter.mp hx).1
    · rcases List.mem_append.mp hl with hl | hl
      · exact h.len l (List.mem_filter.mp hl).1
      · rw [List.mem_singleton.mp hl]
        exact List.length_filter_le ..
theorem hinv_start (names : List Str) : HInv names (names.map fun x => [x]) where
  cov := fun x hx => ⟨[x], List.mem_map.mpr ⟨x, hx, rfl⟩, by simp⟩
  sub := fun l hl x hx => by
    obtain ⟨y, hy, rfl⟩ := List.mem_map.mp hl
    rw [List.mem_singleton.mp hx]; exact hy
  len := fun l hl => by
    obtain ⟨y, hy, rfl⟩ := List.mem_map.mp hl
    exact List.length_pos_of_mem hy
theorem hstep_len (names : List Str) (lots : List (List Str)) (q : Str × Str) : (hstep names lots q).length ≤ lots.length + 1 := by
  unfold hstep
  split
  · omega
  · rw [List.length_append]
    have := List.length_filter_le (fun l => !decide (l = lotOf lots q.1) && !decide (l = lotOf lots q.2)) lots
    simp only [List.length_singleton]
    omega
theorem foldl_take {α β : Type} {f : β → α → β} {b : β} {xs : List α} {i : Nat} {x : α} (h : xs[i]? = some x) : (xs.take (i + 1)).foldl f b = f ((xs.take i).foldl f b) x := by
  rewrite [List.take_add_one]; rw [h, List.foldl_append]
  rfl
theorem hang_len (names : List Str) : ∀ (pairs : List (Str × Str)) (lots : List (List Str)), (pairs.foldl (hstep names) lots).length ≤ lots.length + pairs.length
  | [], _ => Nat.le_refl _
  | q :: r, lots => by
    have h1 := hang_len names r (hstep names lots q)
    have h2 := hstep_len names lots q
    rewrite [List.foldl_cons]; rw [List.length_cons]
    omega
theorem hang_inv {names : List Str} : ∀ {pairs : List (Str × Str)} {lots : List (List Str)}, (∀ q ∈ pairs, q.1 ∈ names ∧ q.2 ∈ names) → HInv names lots → HInv names (pairs.foldl (hstep names) lots)
  | [], _, _, h => h
  | q :: r, lots, hp, h => hang_inv (pairs := r) (fun x hx => hp x (List.mem_cons_of_mem _ hx)) (hinv_step h (hp q List.mem_cons_self).1 (hp q List.mem_cons_self).2)
structure HOk (names : List Str) (pairs : List (Str × Str)) : Prop where
  ok : OkS names
  n : names.length ≤ 20
  m : pairs.length ≤ 30
  mem : ∀ q ∈ pairs, q.1 ∈ names ∧ q.2 ∈ names
def RHang : List D → D → Prop := fun ds d => ∃ names pairs, HOk names pairs ∧ ds = [.d (nmD names), .d (.list (pairs.map pr2D))] ∧ d = .d (.list ((sortP (hang names pairs)).map nmD))
abbrev sHang : Stmt := top 33
theorem scHang : FnScope ["names", "pairs", "lots", "one", "other", "first", "second", "name", "lot"] ["names", "pairs"] (defScope sHang) := ⟨rfl, rfl, rfl, by decide +kernel, rfl, by decide +kernel, by decide +kernel⟩
/-! ### parts_by -/
def cutPairs (P : Plan) (names over : List Str) : List (Str × Str) := (P.pairs.filter fun p => decide (p.1 ∈ names) && (decide (p.2.1 ∈ names) && !decide (p.2.2 = over))).map fun p => (p.1, p.2.1)
def partsBy (P : Plan) (names over : List Str) : List (List Str) := sortP (hang names (cutPairs P names over))
def RParts : List D → D → Prop := fun ds d => ∃ (P : Plan) (names over : List Str), P.Ok ∧ OkS names ∧ names.length ≤ 20 ∧ OkS over ∧ ds = [.d (planD P), .d (nmD names), .d (axD over)] ∧ d = .d (.list ((partsBy P names over).map nmD))
abbrev sParts : Stmt := top 34
theorem scParts : FnScope ["plan", "names", "over", "pairs", "one", "other", "axes"] ["plan", "names", "over"] (defScope sParts) := ⟨rfl, rfl, rfl, by decide +kernel, rfl, by decide +kernel, by decide +kernel⟩
theorem cut_ok {P : Plan} (ok : P.Ok) {names over : List Str} (h : OkS names) (hn : names.length ≤ 20) : HOk names (cutPairs P names over) where
  ok := h
  n := hn
  m := by
    unfold cutPairs
    rw [List.length_map]
    exact Nat.le_trans (List.length_filter_le ..) ok.s2
  mem := fun q hq => by
    rcases List.mem_map.mp hq with ⟨p, hp, rfl⟩
    have := (List.mem_filter.mp hp).2
    simp only [Bool.and_eq_true, decide_eq_true_eq] at this
    exact ⟨this.1, this.2.1⟩
section
variable {mg : Str → Option Value} {base : Heap} {P : Program} {w : World} {K : PySem.W.Frag}
theorem ok_opened {f : Addr} {fd : FuncData} {k : Nat} (F : Fun K "opened" "opened" sOpened f fd) (B : Bi mg) : FnOk P w K mg base CX0 (k + 1) f fd ["axes", "knots"] (spD K ROpened) := by
  refine def_of F scOpened (fun ds d ⟨_, _, _, e, _⟩ => by rw [e]; rfl) fun cdv A outer s H E hr ds d ⟨as, ks, hl, eds, ed⟩ => ?_
  subst eds ed
  refine w_cons (w_for (xs := as.reverse) (enc := .str) (vs := [2]) (fun i => [.fr (.d (nmD as)), .fr (.d (.tuple ((as.reverse.take i).foldl (fun k a => [loopD a k]) ks))), .un])
    (fun i a => [.fr (.d (nmD as)), .fr (.d (.tuple ((as.reverse.take i).foldl (fun k a => [loopD a k]) ks))), .fr (.d (.str a))])
    (by rw [List.map_reverse]; exact i_rev (by rfl) B.reversed (dvar 0)) rfl (fun i a ha => g_name 2 scOpened.nd) (fun i a ha => ?_)) (w_one (w_ret ((dvar 1).eqD ?_) rfl))
  · refine w_wk (w_one (w_set (d := .d (.tuple [loopD a ((as.reverse.take i).foldl (fun k a => [loopD a k]) ks)])) 1 (dtup (ds := [loopD a ((as.reverse.take i).foldl (fun k a => [loopD a k]) ks)]) (ac (dtup (ds := [.str "loop", .str a, .tuple ((as.reverse.take i).foldl (fun k a => [loopD a k]) ks)]) (ac dstr (ac (dvar 2) (ac (dvar 1) an)))) an)) (hN := scOpened.nd))) ?_
    rw [foldl_take ha]
    exact .keep (.keep (.drop .nil))
  · rw [List.take_length, List.foldl_reverse]
    rfl
theorem ok_hang {f : Addr} {fd : FuncData} {k : Nat} (F : Fun K "hung_together" "hung_together" sHang f fd) (B : Bi mg) : FnOk P w K mg base CX0 (k + 1) f fd ["names", "pairs"] (spD K RHang) := by
  refine def_of F scHang (fun ds d ⟨_, _, _, e, _⟩ => by rw [e]; rfl) fun cdv A outer s H E hr ds d ⟨names, pairs, ok, eds, ed⟩ => ?_
  subst eds ed
  have hn := ok.n
  have hm := ok.m
  refine w_cons (w_lc 2 (own := [("name", 7)]) (xs := names) (enc := .str) (pr := fun _ => true) (f := fun x => nmD [x]) (ρ' := fun x => [.fr (.d (nmD names)), .fr (.d (.list (pairs.map pr2D))), .un, .un, .un, .un, .un, .fr (.d (.str x)), .un])
    (i_l (dvar 0)) (blkOk_by (own := [("name", 7)]) (by kernel_rfl)) (fun x hx s H C cl fp => g_name 7 scHang.nd) (fun x hx s H C cl fp => pts_no) (fun x hx hpr s H C cl fp => n2d (nlst (ds := [.str x]) (ac (dvar 7) an))) (sz (by omega)) (hN := scHang.nd)) ?_
  refine w_cons (w_for (xs := pairs) (enc := pr2D) (vs := [3, 4]) (fun i => [.fr (.d (nmD names)), .fr (.d (.list (pairs.map pr2D))), .ow (((pairs.take i).foldl (hstep names) (names.map fun x => [x])).map nmD), .un, .un, .un, .un, .un, .un])
    (fun i q => [.fr (.d (nmD names)), .fr (.d (.list (pairs.map pr2D))), .ow (((pairs.take i).foldl (hstep names) (names.map fun x => [x])).map nmD), .fr (.d (.str q.1)), .fr (.d (.str q.2)), .un, .un, .un, .un])
    (i_l (dvar 1)) ?_ (fun i q hq => g_tup rfl (gs_cons (g_name 3 scHang.nd) (gs_cons (g_name 4 scHang.nd) gs_nil))) (fun i q hq => ?_)) ?_
  · rw [filt_true]
    show _ = List.set _ 2 _
    simp [startR, List.set]
  · obtain ⟨h1, h2⟩ := ok.mem q (List.mem_of_getElem? hq)
    rw [foldl_take hq]
    have inv : HInv names ((pairs.take i).foldl (hstep names) (names.map fun x => [x])) := hang_inv (fun x hx => ok.mem x (List.mem_of_mem_take hx)) (hinv_start names)
    have ll := hang_len names (pairs.take i) (names.map fun x => [x])
    rw [List.length_map, List.length_take] at ll
    generalize (pairs.take i).foldl (hstep names) (names.map fun x => [x]) = lots at inv ll ⊢
    obtain ⟨r1, e1, m1, q1⟩ := lotOf_spec inv h1
    obtain ⟨r2, e2, m2, q2⟩ := lotOf_spec inv h2
    have okl : ∀ l ∈ lots, OkS l := fun l hl x hx => ok.ok x (inv.sub l hl x hx)
    refine w_wk (w_cons (w_set (d := .d (nmD (lotOf lots q.1))) 5 (ixS (ds := (lots.filter fun l => decide (q.1 ∈ l)).map nmD) (n2s (lcomp (own := [("lot", 8)]) (xs := lots) (enc := nmD) (pr := fun l => decide (q.1 ∈ l)) (f := nmD)
      (ρ' := fun l => [.fr (.d (nmD names)), .fr (.d (.list (pairs.map pr2D))), .ow (lots.map nmD), .fr (.d (.str q.1)), .fr (.d (.str q.2)), .un, .un, .un, .fr (.d (nmD l))])
      (i_s (svar 2)) (blkOk_by (own := [("lot", 8)]) (by kernel_rfl)) (fun l hl s H C cl fp => g_name 8 scHang.nd) (fun l hl s H C cl fp => pts_if ((ct (c_in (dvar 3) (d2s (dvar 8)) rfl (strs_flat _))).eqT (any_str _ _))) (fun l hl hpr s H C cl fp => dvar 8) (sz (by omega)) (hN := scHang.nd))) dint (by rw [e1]; exact at0)) (hN := scHang.nd))
      (w_one (w_if (k := !decide (q.2 ∈ lotOf lots q.1)) ((ct (c_ni (dvar 4) (d2s (dvar 5)) rfl (strs_flat _))).eqT (by rw [any_str]))
        (O := .nx [.fr (.d (nmD names)), .fr (.d (.list (pairs.map pr2D))), .ow ((hstep names lots q).map nmD), .fr (.d (.str q.1)), .fr (.d (.str q.2)), .fr (.d (nmD (lotOf lots q.1))), .un, .un, .un]) (fun hk => ?_) (fun hk => ?_)))) (.keep (.keep (.keep (.drop (.drop (.drop (.keep (.keep (.keep .nil)))))))))
    · have hk' : ¬ q.2 ∈ lotOf lots q.1 := by simpa using hk
      have eh : hstep names lots q = (lots.filter fun l => !decide (l = lotOf lots q.1) && !decide (l = lotOf lots q.2)) ++ [joinL names (lotOf lots q.1) (lotOf lots q.2)] := if_neg hk'
      have fl := List.length_filter_le (fun l => !decide (l = lotOf lots q.1) && !decide (l = lotOf lots q.2)) lots
      rw [eh]
      refine w_wk (w_cons (w_set (d := .d (nmD (lotOf lots q.2))) 6 (ixS (ds := (lots.filter fun l => decide (q.2 ∈ l)).map nmD) (n2s (lcomp (own := [("lot", 8)]) (xs := lots) (enc := nmD) (pr := fun l => decide (q.2 ∈ l)) (f := nmD)
        (ρ' := fun l => [.fr (.d (nmD names)), .fr (.d (.list (pairs.map pr2D))), .ow (lots.map nmD), .fr (.d (.str q.1)), .fr (.d (.str q.2)), .fr (.d (nmD (lotOf lots q.1))), .un, .un, .fr (.d (nmD l))])
        (i_s (svar 2)) (blkOk_by (own := [("lot", 8)]) (by kernel_rfl)) (fun l hl s H C cl fp => g_name 8 scHang.nd) (fun l hl s H C cl fp => pts_if ((ct (c_in (dvar 4) (d2s (dvar 8)) rfl (strs_flat _))).eqT (any_str _ _))) (fun l hl hpr s H C cl fp => dvar 8) (sz (by omega)) (hN := scHang.nd))) dint (by rw [e2]; exact at0)) (hN := scHang.nd))
        (w_cons (w_lc 2 (own := [("lot", 8)]) (xs := lots) (enc := nmD) (pr := fun l => !decide (l = lotOf lots q.1) && !decide (l = lotOf lots q.2)) (f := nmD)
        (ρ' := fun l => [.fr (.d (nmD names)), .fr (.d (.list (pairs.map pr2D))), .ow (lots.map nmD), .fr (.d (.str q.1)), .fr (.d (.str q.2)), .fr (.d (nmD (lotOf lots q.1))), .fr (.d (nmD (lotOf lots q.2))), .un, .fr (.d (nmD l))])
        (i_s (svar 2)) (blkOk_by (own := [("lot", 8)]) (by kernel_rfl)) (fun l hl s H C cl fp => g_name 8 scHang.nd) (fun l hl s H C cl fp => pts_if (PW.pt (wand ((ct (c_ne (u64 hr) (d2x (dvar 8)) (d2x (dvar 5)) (sh_nm (okl l hl)) (sh_nm (okl _ m1)))).eqT (by rw [eqv_nm]))
          (fun _ => wand1 ((ct (c_ne (u64 hr) (d2x (dvar 8)) (d2x (dvar 6)) (sh_nm (okl l hl)) (sh_nm (okl _ m2)))).eqT (by rw [eqv_nm])))))) (fun l hl hpr s H C cl fp => dvar 8) (sz (by omega)) (hN := scHang.nd))
        (w_one (w_append (ds := (lots.filter fun l => !decide (l = lotOf lots q.1) && !decide (l = lotOf lots q.2)).map nmD) (a := nmD (joinL names (lotOf lots q.1) (lotOf lots q.2))) 2 ((n2d (lcomp (own := [("name", 7)]) (xs := names) (enc := .str) (pr := fun n => decide (n ∈ lotOf lots q.1) || decide (n ∈ lotOf lots q.2)) (f := .str)
          (ρ' := fun n => [.fr (.d (nmD names)), .fr (.d (.list (pairs.map pr2D))), .ow ((lots.filter fun l => !decide (l = lotOf lots q.1) && !decide (l = lotOf lots q.2)).map nmD), .fr (.d (.str q.1)), .fr (.d (.str q.2)), .fr (.d (nmD (lotOf lots q.1))), .fr (.d (nmD (lotOf lots q.2))), .fr (.d (.str n)), .un])
          (i_l (dvar 0)) (blkOk_by (own := [("name", 7)]) (by kernel_rfl)) (fun l hl s H C cl fp => g_name 7 scHang.nd) (fun n hl s H C cl fp => pts_if (PW.pt (wor ((ct (c_in (dvar 7) (d2s (dvar 5)) rfl (strs_flat _))).eqT (any_str _ _)) (fun _ => wor1 ((ct (c_in (dvar 7) (d2s (dvar 6)) rfl (strs_flat _))).eqT (any_str _ _)))))) (fun l hl hpr s H C cl fp => dvar 7) (sz (by omega)) (hN := scHang.nd))).eqD rfl) (by rw [List.length_map]; exact szl (by omega)))))) ?_
      rw [List.map_append]
      exact .keep (.keep (.keep (.keep (.keep (.keep (.drop (.keep (.keep .nil))))))))
    · have hk' : q.2 ∈ lotOf lots q.1 := by simpa using hk
      rw [show hstep names lots q = lots from if_pos hk']
      exact w_nil
  · refine w_one (w_ret ((n2d (srtS (u64 hr) (by rfl) B.sorted bt_sorted (svar 2) (aa_names _) (so_names _) (de_names _) (sz ?_))).eqD ?_) rfl)
    · have ll := hang_len names (pairs.take pairs.length) (names.map fun x => [x])
      rw [List.length_map, List.length_take] at ll
      rw [List.length_map]
      omega
    · rw [srt_names, List.take_length]
      rfl
theorem ok_parts {f : Addr} {fd : FuncData} {k : Nat} (F : Fun K "parts_by" "parts_by" sParts f fd) (B : Bi mg) (GH : Cal P w K mg base k "hung_together" RHang) : FnOk P w K mg base CX0 (k + 1) f fd ["plan", "names", "over"] (spD K RParts) := by
  refine def_of F scParts (fun ds d ⟨_, _, _, _, _, _, _, e, _⟩ => by rw [e]; rfl) fun cdv A outer s H E hr ds d ⟨PL, names, over, ok, hn, hl, ho, eds, ed⟩ => ?_
  subst eds ed
  have s2 := ok.s2
  refine w_cons (w_lc 3 (own := [("one", 4), ("other", 5), ("axes", 6)]) (xs := PL.pairs) (enc := prD) (pr := fun p => decide (p.1 ∈ names) && (decide (p.2.1 ∈ names) && !decide (p.2.2 = over))) (f := fun p => .tuple [.str p.1, .str p.2.1])
    (ρ' := fun p => [.fr (.d (planD PL)), .fr (.d (nmD names)), .fr (.d (axD over)), .un, .fr (.d (.str p.1)), .fr (.d (.str p.2.1)), .fr (.d (axD p.2.2))])
    (i_t (ixT (ds := [.tuple (PL.steps.map stD), .tuple (PL.pairs.map prD)]) (dvar 0) dint rfl)) (blkOk_by (own := [("one", 4), ("other", 5), ("axes", 6)]) (by kernel_rfl))
    (fun p hp s H C cl fp => g_tup rfl (gs_cons (g_name 4 scParts.nd) (gs_cons (g_name 5 scParts.nd) (gs_cons (g_name 6 scParts.nd) gs_nil))))
    (fun p hp s H C cl fp => pts_if (PW.pt (wand ((ct (c_in (dvar 4) (d2s (dvar 1)) rfl (strs_flat _))).eqT (any_str _ _)) (fun _ => wand ((ct (c_in (dvar 5) (d2s (dvar 1)) rfl (strs_flat _))).eqT (any_str _ _)) (fun _ => wand1 ((ct (c_ne (u64 hr) (d2x (dvar 6)) (d2x (dvar 2)) (sh_ax (ok.o2 p hp)) (sh_ax ho))).eqT (by rw [eqv_ax])))))))
    (fun p hp hpr s H C cl fp => dtup (ds := [.str p.1, .str p.2.1]) (ac (dvar 4) (ac (dvar 5) an))) (sz (by omega)) (hN := scParts.nd)) ?_
  refine w_freeze 3 (w_one (w_ret (call GH hr (ac (dvar 1) (ac (dvar 3) an)) ⟨names, cutPairs PL names over, cut_ok ok hn hl, ?_, rfl⟩) rfl))
  unfold cutPairs
  rw [List.map_map]
  rfl
end
end KL
/-! B8: laying.py: bars_of; wanted_early. -/
namespace KL
open PySem PySem.Spec L2
def itD (xs : List Nat) : List PyData := xs.map fun a => .int (a : Nat)
theorem eqv_its : ∀ xs ys : List Nat, PyData.eqvAll (itD xs) (itD ys) = decide (xs = ys)
  | [], [] => by simp [PyData.eqvAll, itD]
  | [], y :: ys => by simp [PyData.eqvAll, itD]
  | x :: xs, [] => by simp [PyData.eqvAll, itD]
  | x :: xs, y :: ys => by
    show PyData.eqvAll (.int (x : Nat) :: itD xs) (.int (y : Nat) :: itD ys) = _
    rw [PyData.eqvAll, eqv_its xs ys, PyData.eqv]
    by_cases h : x = y
    · subst h; simp
    · have : ¬ (x : Int) = y := fun z => h (by omega)
      simp [h, this]
theorem eqv_il (xs ys : List Nat) : PyData.eqv (.list (itD xs)) (.list (itD ys)) = decide (xs = ys) := by
  rw [PyData.eqv]
  exact eqv_its xs ys
theorem eqv_in (xs : List Nat) : PyData.eqv (.list (itD xs)) (.list []) = decide (xs = []) := eqv_il xs []
theorem lay_its : ∀ xs : List Nat, PyData.canLayAll0 (itD xs) = true
  | [] => by simp [PyData.canLayAll0, itD]
  | x :: xs => by
    show PyData.canLayAll0 (.int (x : Nat) :: itD xs) = true
    simp [PyData.canLayAll0, lay_its xs, PyData.canLay0]
theorem depth_its : ∀ xs : List Nat, PyData.depthAll (itD xs) = 0
  | [] => by simp [PyData.depthAll, itD]
  | x :: xs => by
    show PyData.depthAll (.int (x : Nat) :: itD xs) = 0
    rw [PyData.depthAll, depth_its xs]
    simp [PyData.depth]
theorem sh_il (xs : List Nat) : SeqAt.shaped (.list (itD xs)) = true := shaped_of (by simp only [PyData.canLay0]; exact lay_its xs) (by simp only [PyData.depth, depth_its]; omega)
theorem its_flat : ∀ xs : List Nat, (itD xs).all flatD = true
  | [] => rfl
  | x :: xs => by
    show (flatD _ && (itD xs).all flatD) = true
    rw [its_flat xs]
    rfl
theorem any_its (x : Nat) : ∀ xs : List Nat, ((itD xs).any fun z => PyData.eqv z (.int (x : Nat))) = decide (x ∈ xs)
  | [] => by simp [itD]
  | y :: ys => by
    show (PyData.eqv (.int (y : Nat)) (.int (x : Nat)) || ((itD ys).any fun z => PyData.eqv z (.int (x : Nat)))) = _
    rw [any_its x ys, PyData.eqv]
    by_cases h : y = x
    · subst h; simp
    · have h1 : ¬ (y : Int) = x := fun z => h (by omega)
      have h2 : ¬ x = y := fun z => h z.symm
      simp [h1, h2]
def idxs (parts : List (List Str)) (x : Str) : List Nat := (parts.zipIdx.filter fun q => decide (x ∈ q.1)).map (·.2)
/-- (behind, ahead) -/
def barIn (parts : List (List Str)) (p : Str × Str × List Str) : Option (Nat × Nat) :=
  match idxs parts p.1, idxs parts p.2.1 with
  | a :: ra, b :: rb => if a :: ra = b :: rb then none else some (b, a)
  | _, _ => none
def barsL (ps : List (Str × Str × List Str)) (parts : List (List Str)) (i : Nat) : List Nat := ps.filterMap fun p => match barIn parts p with
  | some (b, a) => if b = i then some a else none
  | none => none
def barsK (ps : List (Str × Str × List Str)) (parts : List (List Str)) : List (Key × List PyData) := (List.range parts.length).map fun i => (.inl (i : Nat), itD (barsL ps parts i))
def barsD (P : Plan) (parts : List (List Str)) : List (Key × PyData) := (List.range parts.length).map fun i => (.inl (i : Nat), .list (itD (barsL P.pairs parts i)))
theorem barsL_step {ps : List (Str × Str × List Str)} {parts : List (List Str)} {i : Nat} {p : Str × Str × List Str} (h : ps[i]? = some p) (j : Nat) : barsL (ps.take (i + 1)) parts j = barsL (ps.take i) parts j ++ (match barIn parts p with
  | some (b, a) => if b = j then [a] else []
  | none => []) := by
  unfold barsL
  rw [List.take_add_one, h, List.filterMap_append]
  congr 1
  show List.filterMap _ [p] = _
  rw [List.filterMap_cons]
  cases barIn parts p with
  | none => rfl
  | some q =>
    obtain ⟨b, a⟩ := q
    dsimp only
    by_cases z : b = j
    · rw [if_pos z, if_pos z]; rfl
    · rw [if_neg z, if_neg z]; rfl
theorem barsK_none {ps : List (Str × Str × List Str)} {parts : List (List Str)} {i : Nat} {p : Str × Str × List Str} (h : ps[i]? = some p) (e : barIn parts p = none) : barsK (ps.take (i + 1)) parts = barsK (ps.take i) parts := by
  unfold barsK
  apply List.map_congr_left
  intro j _
  rw [barsL_step h, e, List.append_nil]
theorem barsK_some {ps : List (Str × Str × List Str)} {parts : List (List Str)} {i : Nat} {p : Str × Str × List Str} {b a : Nat} (h : ps[i]? = some p) (e : barIn parts p = some (b, a)) : barsK (ps.take (i + 1)) parts = appK (barsK (ps.take i) parts) (.inl (b : Nat)) (.int (a : Nat)) := by
  unfold barsK appK
  rw [List.map_map]
  apply List.map_congr_left
  intro j _
  rw [barsL_step h, e]
  show ((Sum.inl (j : Int) : Key), itD (barsL (List.take i ps) parts j ++ if b = j then [a] else [])) = if (Sum.inl (j : Int) : Key) = Sum.inl (b : Int) then _ else _
  by_cases z : b = j
  · subst z
    rw [if_pos rfl, if_pos rfl]
    simp [itD, List.map_append]
  · have : ¬ (Sum.inl (j : Int) : Key) = Sum.inl (b : Int) := fun y => z (by have := Sum.inl.inj y; omega)
    rw [if_neg z, if_neg this, List.append_nil]
theorem idxs_lt {parts : List (List Str)} {x : Str} {b : Nat} (h : b ∈ idxs parts x) : b < parts.length := by
  obtain ⟨q, hq, rfl⟩ := List.mem_map.mp h
  have := List.mem_zipIdx_iff_getElem?.mp (List.mem_filter.mp hq).1
  exact (List.getElem?_eq_some_iff.mp this).1
theorem barsL_len (ps : List (Str × Str × List Str)) (parts : List (List Str)) (i : Nat) : (barsL ps parts i).length ≤ ps.length := List.length_filterMap_le ..
theorem barsK_keys (ps : List (Str × Str × List Str)) (parts : List (List Str)) : (barsK ps parts).map (·.1) = (List.range parts.length).map fun i => (.inl ((i : Nat) : Int) : Key) := by
  unfold barsK
  rw [List.map_map]
  rfl
theorem inl_nd (n : Nat) : ((List.range n).map fun i => (.inl ((i : Nat) : Int) : Key)).Nodup := List.Pairwise.map _ (fun a b h z => h (by have := Sum.inl.inj z; omega)) List.nodup_range
def RBars : List D → D → Prop := fun ds d => ∃ (P : Plan) (parts : List (List Str)), P.Ok ∧ parts.length ≤ 20 ∧ ds = [.d (planD P), .d (.list (parts.map nmD))] ∧ d = .dk (barsD P parts)
abbrev sBars : Stmt := top 35
theorem scBars : FnScope ["plan", "parts", "found", "one", "other", "axes", "ahead", "behind", "at", "part"] ["plan", "parts"] (defScope sBars) := ⟨rfl, rfl, rfl, by decide +kernel, rfl, by decide +kernel, by decide +kernel⟩
def REarly : List D → D → Prop := fun ds d => ∃ (bd : List (Key × PyData)) (parts : List (List Str)) (early : Str), parts.length ≤ 50 ∧ (∀ p ∈ parts, early ∉ p) ∧ ds = [.dk bd, .d (.list (parts.map nmD)), .d (.str early)] ∧ d = .d (.list [])
abbrev sEarly : Stmt := top 36
theorem scEarly : FnScope ["bars", "parts", "early", "found", "turn", "asked", "at", "part", "before"] ["bars", "parts", "early"] (defScope sEarly) := ⟨rfl, rfl, rfl, by decide +kernel, rfl, by decide +kernel, by decide +kernel⟩
section
variable {mg : Str → Option Value} {base : Heap} {P : Program} {w : World} {K : PySem.W.Frag}
theorem ok_bars {f : Addr} {fd : FuncData} {k : Nat} (F : Fun K "bars_of" "bars_of" sBars f fd) (B : Bi mg) : FnOk P w K mg base CX0 (k + 1) f fd ["plan", "parts"] (spD K RBars) := by
  refine def_of F scBars (fun ds d ⟨_, _, _, _, e, _⟩ => by rw [e]; rfl) fun cdv A outer s H E hr ds d ⟨PL, parts, ok, hl, eds, ed⟩ => ?_
  subst eds ed
  have s2 := ok.s2
  refine w_cons (w_odSet 2 (own := [("at", 8)]) (xs := List.range parts.length) (enc := fun i => .int (i : Nat)) (kf := fun i => .inl (i : Nat)) (f := fun _ => []) (ρ' := fun i => [.fr (.d (planD PL)), .fr (.d (.list (parts.map nmD))), .un, .un, .un, .un, .un, .un, .fr (.d (.int (i : Nat))), .un])
    (i_range (n := parts.length) (by rfl) B.range ((lenS (ds := parts.map nmD) (by rfl) B.len (d2s (dvar 1))).eqD (by rw [List.length_map])) (by omega)) (blkOk_by (own := [("at", 8)]) (by kernel_rfl)) (fun x hx s H C cl fp => g_name 8 scBars.nd) (fun x hx s H C cl fp => dvar 8) (fun x hx s H C cl fp => nlst (ds := []) an) (sz (by rw [List.length_range]; omega)) (inl_nd _) (hN := scBars.nd)) ?_
  refine w_cons (w_for (xs := PL.pairs) (enc := prD) (vs := [3, 4, 5]) (fun i => [.fr (.d (planD PL)), .fr (.d (.list (parts.map nmD))), .od (barsK (PL.pairs.take i) parts), .un, .un, .un, .un, .un, .un, .un])
    (fun i p => [.fr (.d (planD PL)), .fr (.d (.list (parts.map nmD))), .od (barsK (PL.pairs.take i) parts), .fr (.d (.str p.1)), .fr (.d (.str p.2.1)), .fr (.d (axD p.2.2)), .un, .un, .un, .un])
    (i_t (ixT (ds := [.tuple (PL.steps.map stD), .tuple (PL.pairs.map prD)]) (dvar 0) dint rfl)) rfl (fun i p hp => g_tup rfl (gs_cons (g_name 3 scBars.nd) (gs_cons (g_name 4 scBars.nd) (gs_cons (g_name 5 scBars.nd) gs_nil)))) (fun i p hp => ?_)) ?_
  · refine w_wk (ρ1 := [.fr (.d (planD PL)), .fr (.d (.list (parts.map nmD))), .od (barsK (PL.pairs.take (i + 1)) parts), .fr (.d (.str p.1)), .fr (.d (.str p.2.1)), .fr (.d (axD p.2.2)), .ow (itD (idxs parts p.1)), .ow (itD (idxs parts p.2.1)), .un, .un]) ?_ (.keep (.keep (.keep (.drop (.drop (.drop (.drop (.drop (.keep (.keep .nil))))))))))
    refine w_cons (w_lc 6 (own := [("at", 8), ("part", 9)]) (xs := parts.zipIdx) (enc := fun q => .tuple [.int (q.2 : Nat), nmD q.1]) (pr := fun q => decide (p.1 ∈ q.1)) (f := fun q => .int (q.2 : Nat))
      (ρ' := fun q => [.fr (.d (planD PL)), .fr (.d (.list (parts.map nmD))), .od (barsK (PL.pairs.take i) parts), .fr (.d (.str p.1)), .fr (.d (.str p.2.1)), .fr (.d (axD p.2.2)), .un, .un, .fr (.d (.int (q.2 : Nat))), .fr (.d (nmD q.1))])
      (by rw [← enum_maps]; exact i_enumL (by rfl) B.enumerate (dvar 1)) (blkOk_by (own := [("at", 8), ("part", 9)]) (by kernel_rfl)) (fun q hq s H C cl fp => g_tup rfl (gs_cons (g_name 8 scBars.nd) (gs_cons (g_name 9 scBars.nd) gs_nil)))
      (fun q hq s H C cl fp => pts_if ((ct (c_in (dvar 3) (d2s (dvar 9)) rfl (strs_flat _))).eqT (any_str _ _))) (fun q hq hpr s H C cl fp => dvar 8) (sz (by rw [List.length_zipIdx]; omega)) (hN := scBars.nd))
      ?_
    refine w_cons (w_lc 7 (own := [("at", 8), ("part", 9)]) (xs := parts.zipIdx) (enc := fun q => .tuple [.int (q.2 : Nat), nmD q.1]) (pr := fun q => decide (p.2.1 ∈ q.1)) (f := fun q => .int (q.2 : Nat))
      (ρ' := fun q => [.fr (.d (planD PL)), .fr (.d (.list (parts.map nmD))), .od (barsK (PL.pairs.take i) parts), .fr (.d (.str p.1)), .fr (.d (.str p.2.1)), .fr (.d (axD p.2.2)), .ow ((parts.zipIdx.filter fun q => decide (p.1 ∈ q.1)).map fun q => .int (q.2 : Nat)), .un, .fr (.d (.int (q.2 : Nat))), .fr (.d (nmD q.1))])
      (by rw [← enum_maps]; exact i_enumL (by rfl) B.enumerate (dvar 1)) (blkOk_by (own := [("at", 8), ("part", 9)]) (by kernel_rfl)) (fun q hq s H C cl fp => g_tup rfl (gs_cons (g_name 8 scBars.nd) (gs_cons (g_name 9 scBars.nd) gs_nil)))
      (fun q hq s H C cl fp => pts_if ((ct (c_in (dvar 4) (d2s (dvar 9)) rfl (strs_flat _))).eqT (any_str _ _))) (fun q hq hpr s H C cl fp => dvar 8) (sz (by rw [List.length_zipIdx]; omega)) (hN := scBars.nd))
      (w_one ?_)
    have e1 : ((parts.zipIdx.filter fun q => decide (p.1 ∈ q.1)).map fun q => PyData.int (q.2 : Nat)) = itD (idxs parts p.1) := by unfold itD idxs; rw [List.map_map]; rfl
    have e2 : ((parts.zipIdx.filter fun q => decide (p.2.1 ∈ q.1)).map fun q => PyData.int (q.2 : Nat)) = itD (idxs parts p.2.1) := by unfold itD idxs; rw [List.map_map]; rfl
    show PS _ _ (tW _ [.fr (.d (planD PL)), .fr (.d (.list (parts.map nmD))), .od (barsK (PL.pairs.take i) parts), .fr (.d (.str p.1)), .fr (.d (.str p.2.1)), .fr (.d (axD p.2.2)), .ow ((parts.zipIdx.filter fun q => decide (p.1 ∈ q.1)).map fun q => .int (q.2 : Nat)), .ow ((parts.zipIdx.filter fun q => decide (p.2.1 ∈ q.1)).map fun q => .int (q.2 : Nat)), .un, .un] _)
    rw [e1, e2]
    refine w_if (k := !decide (idxs parts p.1 = []) && (!decide (idxs parts p.2.1 = []) && !decide (idxs parts p.1 = idxs parts p.2.1))) (PW.pt (wand ((ct (c_ne (u64 hr) (s2x (svar 6)) (n2x (nlst (ds := []) an)) (sh_il _) sh_nil)).eqT (by rw [eqv_in]))
      (fun _ => wand ((ct (c_ne (u64 hr) (s2x (svar 7)) (n2x (nlst (ds := []) an)) (sh_il _) sh_nil)).eqT (by rw [eqv_in])) (fun _ => wand1 ((ct (c_ne (u64 hr) (s2x (svar 6)) (s2x (svar 7)) (sh_il _) (sh_il _))).eqT (by rw [eqv_il])))))) (fun hk => ?_) (fun hk => ?_)
    · simp only [Bool.and_eq_true, Bool.not_eq_true', decide_eq_false_iff_not] at hk
      obtain ⟨k1, k2, k3⟩ := hk
      obtain ⟨a, ra, ea⟩ := List.exists_cons_of_ne_nil k1
      obtain ⟨b, rb, eb⟩ := List.exists_cons_of_ne_nil k2
      have hb : barIn parts p = some (b, a) := by
        unfold barIn
        rw [ea, eb]
        rw [ea, eb] at k3
        exact if_neg k3
      have blt : b < parts.length := idxs_lt (x := p.2.1) (by rw [eb]; exact List.mem_cons_self)
      rw [barsK_some hp hb]
      refine w_one (w_odApp 2 (k := .inl (b : Nat)) (y := .int (a : Nat)) (u1 hr) (ixS (ds := itD (idxs parts p.2.1)) (svar 7) dint (by rw [eb]; exact at0)) (ixS (ds := itD (idxs parts p.1)) (svar 6) dint (by rw [ea]; exact at0)) (by rw [barsK_keys]; exact inl_nd _) (by rw [barsK_keys]; exact List.mem_map.mpr ⟨b, List.mem_range.mpr blt, rfl⟩) (fun q hq => szl ?_))
      obtain ⟨j, _, rfl⟩ := List.mem_map.mp hq
      have := barsL_len (PL.pairs.take i) parts j
      rw [List.length_take] at this
      show (itD _).length < _
      unfold itD
      rw [List.length_map]
      omega
    · have hb : barIn parts p = none := by
        unfold barIn
        cases ea : idxs parts p.1 with
        | nil => rfl
        | cons a ra =>
          cases eb : idxs parts p.2.1 with
          | nil => rfl
          | cons b rb =>
            rw [ea, eb] at hk
            by_cases z : a :: ra = b :: rb
            · exact if_pos z
            · simp [z] at hk
      rw [barsK_none hp hb]
      exact w_nil
  · refine w_freezeOd 2 (w_one (w_ret ((dvar 2).eqD ?_) rfl))
    refine congrArg D.dk ?_
    unfold odD barsK barsD
    rw [List.map_map, List.take_length]
    rfl
theorem ok_early {f : Addr} {fd : FuncData} {k : Nat} (F : Fun K "wanted_early" "wanted_early" sEarly f fd) (B : Bi mg) : FnOk P w K mg base CX0 (k + 1) f fd ["bars", "parts", "early"] (spD K REarly) := by
  refine def_of F scEarly (fun ds d ⟨_, _, _, _, _, e, _⟩ => by rw [e]; rfl) fun cdv A outer s H E hr ds d ⟨bd, parts, early, hl, hp, eds, ed⟩ => ?_
  subst eds ed
  have en : (parts.zipIdx.filter fun q => decide (early ∈ q.1)) = [] := List.filter_eq_nil_iff.mpr fun q hq z => hp q.1 (List.fst_mem_of_mem_zipIdx hq) (of_decide_eq_true z)
  refine w_cons (w_own (ds := []) 3 ((lcomp (own := [("at", 6), ("part", 7)]) (xs := parts.zipIdx) (enc := fun q => .tuple [.int (q.2 : Nat), nmD q.1]) (pr := fun q => decide (early ∈ q.1)) (f := fun q => .int (q.2 : Nat))
    (ρ' := fun q => [.fr (.dk bd), .fr (.d (.list (parts.map nmD))), .fr (.d (.str early)), .un, .un, .un, .fr (.d (.int (q.2 : Nat))), .fr (.d (nmD q.1)), .un])
    (by rw [← enum_maps]; exact i_enumL (by rfl) B.enumerate (dvar 1)) (blkOk_by (own := [("at", 6), ("part", 7)]) (by kernel_rfl)) (fun q hq s H C cl fp => g_tup rfl (gs_cons (g_name 6 scEarly.nd) (gs_cons (g_name 7 scEarly.nd) gs_nil)))
    (fun q hq s H C cl fp => pts_if ((ct (c_in (dvar 2) (d2s (dvar 7)) rfl (strs_flat _))).eqT (any_str _ _))) (fun q hq hpr s H C cl fp => dvar 6) (sz (by rw [List.length_zipIdx]; omega)) (hN := scEarly.nd)).eqN (by rw [en]; rfl)) (hN := scEarly.nd)) ?_
  refine w_cons (w_for (xs := parts) (enc := nmD) (vs := [4]) (fun i => [.fr (.dk bd), .fr (.d (.list (parts.map nmD))), .fr (.d (.str early)), .ow [], .un, .un, .un, .un, .un])
    (fun i p => [.fr (.dk bd), .fr (.d (.list (parts.map nmD))), .fr (.d (.str early)), .ow [], .fr (.d (nmD p)), .un, .un, .un, .un]) (i_l (dvar 1)) rfl (fun i p hp => g_name 4 scEarly.nd) (fun i p hp => ?_)) (w_freeze 3 (w_one (w_ret (dvar 3) rfl)))
  refine w_wk (w_cons (w_lc2no 5 (vs1 := [8]) (i_s (svar 3)) (blkOk_by (own := [("at", 6), ("before", 8)]) (by kernel_rfl)) (by decide) (hN := scEarly.nd))
    (w_one (w_own (ds := []) 3 (ncat (ds := []) (es := []) (lvar 3) (n2l (setsrt (ks := []) (ds := []) (u64 hr) (by rfl) B.sorted bt_sorted (by rfl) B.set bt_set (n2s ((lcomp (own := [("before", 8)]) (xs := ([] : List Str)) (enc := .str) (pr := fun _ => true) (f := .str) (ρ' := fun _ => [])
      (i_s (svar 5)) (blkOk_by (own := [("before", 8)]) (by kernel_rfl)) (fun q hq => nomatch hq) (fun q hq => nomatch hq) (fun q hq => nomatch hq) (sz (by decide)) (hN := scEarly.nd)).eqN rfl)) (by decide) (fun m p => by rw [setS_ok [] m p]; simp [setS, insT, sortS]))) (by decide)) (hN := scEarly.nd)))) (.keep (.keep (.keep (.keep (.drop (.drop (.keep (.keep (.keep .nil)))))))))
end
end KL
/-! B9: laying.py: in_order; least_share. -/
namespace KL
open PySem PySem.Spec L2
/-! ### in_order -/
def freeL (ps : List (Str × Str × List Str)) (parts : List (List Str)) (found : List Nat) : List Nat := (List.range parts.length).filter fun i => !decide (i ∈ found) && (barsL ps parts i).all fun b => decide (b ∈ found)
def ordN (ps : List (Str × Str × List Str)) (parts : List (List Str)) : Nat → List Nat
  | 0 => []
  | n + 1 => ordN ps parts n ++ [(freeL ps parts (ordN ps parts n)).headD 0]
def OrdOk (P : Plan) (parts : List (List Str)) : Prop := ∀ i, i < parts.length → freeL P.pairs parts (ordN P.pairs parts i) ≠ []
def inOrder (P : Plan) (parts : List (List Str)) : List (List Str) := (ordN P.pairs parts parts.length).map fun i => parts.getD i []
def ROrder : List D → D → Prop := fun ds d => ∃ (P : Plan) (parts : List (List Str)) (early : Str), P.Ok ∧ parts.length ≤ 20 ∧ (∀ p ∈ parts, early ∉ p) ∧ OrdOk P parts ∧ ds = [.d (planD P), .d (.list (parts.map nmD)), .d (.str early)] ∧ d = .d (.list ((inOrder P parts).map nmD))
abbrev sOrder : Stmt := top 37
theorem scOrder : FnScope ["plan", "parts", "early", "bars", "found", "wanted", "turn", "free", "soon", "at", "before"] ["plan", "parts", "early"] (defScope sOrder) := ⟨rfl, rfl, rfl, by decide +kernel, rfl, by decide +kernel, by decide +kernel⟩
theorem ordN_len (ps : List (Str × Str × List Str)) (parts : List (List Str)) : ∀ n, (ordN ps parts n).length = n
  | 0 => rfl
  | n + 1 => by
    show (ordN ps parts n ++ [_]).length = _
    rw [List.length_append, ordN_len ps parts n]
    rfl
theorem ordN_lt {P : Plan} {parts : List (List Str)} (h : OrdOk P parts) : ∀ n, n ≤ parts.length → ∀ i ∈ ordN P.pairs parts n, i < parts.length
  | 0, _, i, m => nomatch m
  | n + 1, hn, i, m => by
    rcases List.mem_append.mp m with m | m
    · exact ordN_lt h n (by omega) i m
    · obtain ⟨a, r, e⟩ := List.exists_cons_of_ne_nil (h n (by omega))
      rw [List.mem_singleton.mp m, e]
      have : a ∈ freeL P.pairs parts (ordN P.pairs parts n) := by rw [e]; exact List.mem_cons_self
      exact List.mem_range.mp (List.mem_filter.mp this).1
def keyN : Key → Nat
  | .inl i => i.toNat
  | .inr _ => 0
theorem barsD_nd (P : Plan) (parts : List (List Str)) : ((barsD P parts).map (·.1)).Nodup := by
  unfold barsD
  rw [List.map_map]
  exact inl_nd _
theorem look_bars (P : Plan) (parts : List (List Str)) {i : Nat} (h : i < parts.length) : look (barsD P parts) (.inl (i : Nat)) = some (.list (itD (barsL P.pairs parts i))) :=
  look_mem (barsD_nd P parts) (.inl (i : Nat), .list (itD (barsL P.pairs parts i))) (List.mem_map.mpr ⟨i, List.mem_range.mpr h, rfl⟩)
theorem free_eq (P : Plan) (parts : List (List Str)) (found : List Nat) : ((barsD P parts).filter fun x => !decide (keyN x.1 ∈ found) && (barsL P.pairs parts (keyN x.1)).all fun b => decide (b ∈ found)).map (fun x => keyD x.1) = itD (freeL P.pairs parts found) := by
  unfold barsD freeL itD
  rw [List.filter_map, List.map_map]
  rfl
/-! ### least_share -/
def rowsOf (P : Plan) (part : List Str) : List (List Str) := (P.pairs.filter fun p => decide (p.1 ∈ part) && decide (p.2.1 ∈ part)).map (·.2.2)
def leastShare (P : Plan) (part : List Str) : List Str := match rowsOf P part with
  | [] => []
  | r :: rs => r.filter fun a => (r :: rs).all fun q => decide (a ∈ q)
def RShare : List D → D → Prop := fun ds d => ∃ (P : Plan) (part : List Str), P.Ok ∧ rowsOf P part ≠ [] ∧ ds = [.d (planD P), .d (nmD part)] ∧ d = .d (axD (leastShare P part))
abbrev sShare : Stmt := top 38
theorem scShare : FnScope ["plan", "part", "rows", "one", "other", "axes", "axis"] ["plan", "part"] (defScope sShare) := ⟨rfl, rfl, rfl, by decide +kernel, rfl, by decide +kernel, by decide +kernel⟩
section
variable {mg : Str → Option Value} {base : Heap} {P : Program} {w : World} {K : PySem.W.Frag}
theorem ok_order {f : Addr} {fd : FuncData} {k : Nat} (F : Fun K "in_order" "in_order" sOrder f fd) (B : Bi mg) (GB : Cal P w K mg base k "bars_of" RBars) (GE : Cal P w K mg base k "wanted_early" REarly) : FnOk P w K mg base CX0 (k + 1) f fd ["plan", "parts", "early"] (spD K ROrder) := by
  refine def_of F scOrder (fun ds d ⟨_, _, _, _, _, _, _, e, _⟩ => by rw [e]; rfl) fun cdv A outer s H E hr ds d ⟨PL, parts, early, ok, hl, he, oo, eds, ed⟩ => ?_
  subst eds ed
  have s2 := ok.s2
  refine w_cons (w_parC 3 4 (r1 := .fr (.dk (barsD PL parts))) (r2 := .ow []) (call GB hr (ac (dvar 0) (ac (dvar 1) an)) ⟨PL, parts, ok, hl, rfl, rfl⟩) (nlst (ds := []) an) (hN := scOrder.nd)) ?_
  refine w_cons (w_set (d := .d (.list [])) 5 (call GE hr (ac (dvar 3) (ac (dvar 1) (ac (dvar 2) an))) ⟨_, parts, early, by omega, he, rfl, rfl⟩) (hN := scOrder.nd)) ?_
  refine w_cons (w_for (xs := parts) (enc := nmD) (vs := [6]) (fun i => [.fr (.d (planD PL)), .fr (.d (.list (parts.map nmD))), .fr (.d (.str early)), .fr (.dk (barsD PL parts)), .ow (itD (ordN PL.pairs parts i)), .fr (.d (.list [])), .un, .un, .un, .un, .un])
    (fun i p => [.fr (.d (planD PL)), .fr (.d (.list (parts.map nmD))), .fr (.d (.str early)), .fr (.dk (barsD PL parts)), .ow (itD (ordN PL.pairs parts i)), .fr (.d (.list [])), .fr (.d (nmD p)), .un, .un, .un, .un])
    (i_l (dvar 1)) rfl (fun i p hp => g_name 6 scOrder.nd) (fun i p hp => ?_)) ?_
  · have hi : i < parts.length := (List.getElem?_eq_some_iff.mp hp).1
    obtain ⟨a, r, ea⟩ := List.exists_cons_of_ne_nil (oo i hi)
    have hlen := ordN_len PL.pairs parts i
    have hnx : ordN PL.pairs parts (i + 1) = ordN PL.pairs parts i ++ [a] := by
      show ordN PL.pairs parts i ++ [(freeL PL.pairs parts (ordN PL.pairs parts i)).headD 0] = _
      rw [ea]
      rfl
    rw [hnx]
    refine w_wk (ρ1 := [.fr (.d (planD PL)), .fr (.d (.list (parts.map nmD))), .fr (.d (.str early)), .fr (.dk (barsD PL parts)), .ow (itD (ordN PL.pairs parts i ++ [a])), .fr (.d (.list [])), .fr (.d (nmD p)), .ow (itD (freeL PL.pairs parts (ordN PL.pairs parts i))), .ow [], .un, .un]) ?_ (.keep (.keep (.keep (.keep (.keep (.keep (.drop (.drop (.drop (.keep (.keep .nil)))))))))))
    generalize ordN PL.pairs parts i = fo at ea hlen ⊢
    refine w_cons (w_lcK (te := tVar 3) (own := [("at", 9)]) (kvs := barsD PL parts) (pr := fun x => !decide (keyN x.1 ∈ fo) && (barsL PL.pairs parts (keyN x.1)).all fun b => decide (b ∈ fo)) (f := fun x => keyD x.1) 7
      (ρ' := fun x => [.fr (.d (planD PL)), .fr (.d (.list (parts.map nmD))), .fr (.d (.str early)), .fr (.dk (barsD PL parts)), .ow (itD fo), .fr (.d (.list [])), .fr (.d (nmD p)), .un, .un, .fr (.d (keyD x.1)), .un])
      (pe_var (i := 3) (by rfl) (by first | exact .inl (by rfl) | exact .inr (.inl (by rfl)))) (src_var (i := 3) rfl) mono_var (blkOk_by (own := [("at", 9)]) (by kernel_rfl)) (fun x hx s H C cl fp => g_name 9 scOrder.nd) (fun x hx s H C cl fp => ?_) (fun x hx hpr s H C cl fp => dvar 9) (sz (by unfold barsD; rw [List.length_map, List.length_range]; omega)) (hN := scOrder.nd)) ?_
    · obtain ⟨j, hj, rfl⟩ := List.mem_map.mp hx
      have hj' : _ < _ := List.mem_range.mp hj
      refine pts_if ((PW.pt (wand (k' := (barsL PL.pairs parts j).all fun b => decide (b ∈ fo)) ((ct (c_ni (x := .int (j : Nat)) (dvar 9) (svar 4) rfl (its_flat _))).eqT (by rw [any_its])) (fun _ => wand1 ((tv (allS (bs := (barsL PL.pairs parts j).map fun b => decide (b ∈ fo)) (by rfl) (by rfl) B.all bt_all
        (n2s ((lcomp (own := [("before", 10)]) (xs := barsL PL.pairs parts j) (enc := fun b => .int (b : Nat)) (pr := fun _ => true) (f := fun b => .bool (decide (b ∈ fo)))
          (ρ' := fun b => [.fr (.d (planD PL)), .fr (.d (.list (parts.map nmD))), .fr (.d (.str early)), .fr (.dk (barsD PL parts)), .ow (itD fo), .fr (.d (.list [])), .fr (.d (nmD p)), .un, .un, .fr (.d (.int (j : Nat))), .fr (.d (.int (b : Nat)))])
          (i_l (dgK (u1 hr) (dvar 3) (dvar 9) (look_bars PL parts hj'))) (blkOk_by (own := [("before", 10)]) (by kernel_rfl)) (fun b hb s H C cl fp => g_name 10 scOrder.nd) (fun b hb s H C cl fp => pts_no) (fun b hb hpr s H C cl fp => (cv (c_in (dvar 10) (svar 4) rfl (its_flat _))).eqD (by rw [any_its])) (sz (by have := barsL_len PL.pairs parts j; omega)) (hN := scOrder.nd)).eqN ?_)))).eqT ?_)))).eqT ?_)
      · rw [filt_true, List.map_map]
        rfl
      · rw [List.all_map]
        rfl
      · rfl
    rw [free_eq]
    refine w_cons (w_lc 8 (own := [("at", 9)]) (xs := freeL PL.pairs parts fo) (enc := fun j => .int (j : Nat)) (pr := fun _ => false) (f := fun j => .int (j : Nat))
      (ρ' := fun j => [.fr (.d (planD PL)), .fr (.d (.list (parts.map nmD))), .fr (.d (.str early)), .fr (.dk (barsD PL parts)), .ow (itD fo), .fr (.d (.list [])), .fr (.d (nmD p)), .ow (itD (freeL PL.pairs parts fo)), .un, .fr (.d (.int (j : Nat))), .un])
      (i_s (svar 7)) (blkOk_by (own := [("at", 9)]) (by kernel_rfl)) (fun x hx s H C cl fp => g_name 9 scOrder.nd) (fun x hx s H C cl fp => pts_if ((ct (c_in (ds := []) (dvar 9) (d2s (dvar 5)) rfl rfl)).eqT rfl)) (fun x hx hpr => nomatch hpr) (sz ?_) (hN := scOrder.nd)) ?_
    · have := List.length_filter_le (fun i => !decide (i ∈ fo) && (barsL PL.pairs parts i).all fun b => decide (b ∈ fo)) (List.range parts.length)
      rw [List.length_range] at this
      unfold freeL
      omega
    rw [show ((freeL PL.pairs parts fo).filter fun _ => false) = [] by simp]
    refine (w_one (w_append (ds := itD fo) (a := .int (a : Nat)) 4 (dif (k := false) ((ct (c_ne (u64 hr) (s2x (svar (ds := []) 8)) (n2x (nlst (ds := []) an)) sh_nil sh_nil)).eqT (by rw [eqv_nil]; rfl)) (fun hk => nomatch hk) (fun hk => ixS (ds := itD (freeL PL.pairs parts fo)) (svar 7) dint (by rw [ea]; exact at0))) (by unfold itD; rw [List.length_map, hlen]; exact szl (by omega)))).eqW ?_
    simp [List.set, itD]
  · refine w_one (w_ret ((n2d (lcomp (own := [("at", 9)]) (xs := ordN PL.pairs parts parts.length) (enc := fun j => .int (j : Nat)) (pr := fun _ => true) (f := fun j => nmD (parts.getD j []))
      (ρ' := fun j => [.fr (.d (planD PL)), .fr (.d (.list (parts.map nmD))), .fr (.d (.str early)), .fr (.dk (barsD PL parts)), .ow (itD (ordN PL.pairs parts parts.length)), .fr (.d (.list [])), .un, .un, .un, .fr (.d (.int (j : Nat))), .un])
      (i_s (svar 4)) (blkOk_by (own := [("at", 9)]) (by kernel_rfl)) (fun x hx s H C cl fp => g_name 9 scOrder.nd) (fun x hx s H C cl fp => pts_no) (fun j hj hpr s H C cl fp => ixS (ds := parts.map nmD) (d2s (dvar 1)) (dvar 9) (atI_nat (j := j) ?_)) (sz ?_) (hN := scOrder.nd))).eqD ?_) rfl)
    · have hlt := ordN_lt oo _ (Nat.le_refl _) j hj
      rw [List.getElem?_map, List.getElem?_eq_getElem hlt, List.getD_eq_getElem?_getD, List.getElem?_eq_getElem hlt]
      rfl
    · rw [ordN_len]
      omega
    · rw [filt_true, inOrder, List.map_map]
      rfl
theorem ok_share {f : Addr} {fd : FuncData} {k : Nat} (F : Fun K "least_share" "least_share" sShare f fd) (B : Bi mg) : FnOk P w K mg base CX0 (k + 1) f fd ["plan", "part"] (spD K RShare) := by
  refine def_of F scShare (fun ds d ⟨_, _, _, _, e, _⟩ => by rw [e]; rfl) fun cdv A outer s H E hr ds d ⟨PL, part, ok, ne, eds, ed⟩ => ?_
  subst eds ed
  have s2 := ok.s2
  have er : ((PL.pairs.filter fun p => decide (p.1 ∈ part) && decide (p.2.1 ∈ part)).map fun p => axD p.2.2) = (rowsOf PL part).map axD := by
    unfold rowsOf
    rw [List.map_map]
    rfl
  refine w_cons (w_own (ds := (rowsOf PL part).map axD) 2 ((lcomp (own := [("one", 3), ("other", 4), ("axes", 5)]) (xs := PL.pairs) (enc := prD) (pr := fun p => decide (p.1 ∈ part) && decide (p.2.1 ∈ part)) (f := fun p => axD p.2.2)
    (ρ' := fun p => [.fr (.d (planD PL)), .fr (.d (nmD part)), .un, .fr (.d (.str p.1)), .fr (.d (.str p.2.1)), .fr (.d (axD p.2.2)), .un])
    (i_t (ixT (ds := [.tuple (PL.steps.map stD), .tuple (PL.pairs.map prD)]) (dvar 0) dint rfl)) (blkOk_by (own := [("one", 3), ("other", 4), ("axes", 5)]) (by kernel_rfl))
    (fun p hp s H C cl fp => g_tup rfl (gs_cons (g_name 3 scShare.nd) (gs_cons (g_name 4 scShare.nd) (gs_cons (g_name 5 scShare.nd) gs_nil))))
    (fun p hp s H C cl fp => pts_if (PW.pt (wand ((ct (c_in (dvar 3) (d2s (dvar 1)) rfl (strs_flat _))).eqT (any_str _ _)) (fun _ => wand1 ((ct (c_in (dvar 4) (d2s (dvar 1)) rfl (strs_flat _))).eqT (any_str _ _))))))
    (fun p hp hpr s H C cl fp => dvar 5) (sz (by omega)) (hN := scShare.nd)).eqN er) (hN := scShare.nd)) ?_
  have rl : (rowsOf PL part).length ≤ 30 := by
    unfold rowsOf
    rw [List.length_map]
    exact Nat.le_trans (List.length_filter_le ..) s2
  have rx : ∀ q ∈ rowsOf PL part, q.length ≤ 20 := fun q hq => by
    rcases List.mem_map.mp hq with ⟨p, hp, rfl⟩
    exact ok.s4 p (List.mem_filter.mp hp).1
  unfold leastShare
  generalize rowsOf PL part = rows at ne rl rx ⊢
  obtain ⟨q, rs, rfl⟩ := List.exists_cons_of_ne_nil ne
  have hq := rx q (by simp)
  dsimp only
  refine w_one (w_ret ((tupS (by rfl) B.tuple bt_tuple (n2s (lcomp (own := [("axis", 6)]) (xs := q) (enc := .str) (pr := fun a => (q :: rs).all fun z => decide (a ∈ z)) (f := .str)
    (ρ' := fun a => [.fr (.d (planD PL)), .fr (.d (nmD part)), .ow ((q :: rs).map axD), .un, .un, .un, .fr (.d (.str a))])
    (i_t (ixS (z := axD q) (ds := (q :: rs).map axD) (svar 2) dint at0)) (blkOk_by (own := [("axis", 6)]) (by kernel_rfl))
    (fun x hx s H C cl fp => g_name 6 scShare.nd) (fun x hx s H C cl fp => pts_if ((tv (allS (bs := (q :: rs).map fun z => decide (x ∈ z)) (by rfl) (by rfl) B.all bt_all ?_)).eqT ?_)) (fun x hx hpr s H C cl fp => dvar 6) (sz (by omega)) (hN := scShare.nd)))).eqD rfl) rfl)
  · refine n2s ((lcomp (own := [("axes", 5)]) (xs := q :: rs) (enc := axD) (pr := fun _ => true) (f := fun z => .bool (decide (x ∈ z)))
      (ρ' := fun z => [.fr (.d (planD PL)), .fr (.d (nmD part)), .ow ((q :: rs).map axD), .un, .un, .fr (.d (axD z)), .fr (.d (.str x))])
      (i_s (svar 2)) (blkOk_by (own := [("axes", 5)]) (by kernel_rfl)) (fun z hz s H C cl fp => g_name 5 scShare.nd)
      (fun z hz s H C cl fp => pts_no) (fun z hz hpr s H C cl fp => (cv (c_inT (dvar 6) (dvar 5) rfl (strs_flat _))).eqD (by rw [any_str])) (sz (by omega)) (hN := scShare.nd)).eqN ?_)
    rw [filt_true, List.map_map]
    rfl
  · rw [List.all_map]
    rfl
end
end KL
/-! B10: laying.py: laid, lay, has_tree. -/
namespace KL
open PySem PySem.Spec L2
inductive Knot where
  | add (x : Str)
  | loop (a : Str) (ks : List Knot)
mutual
def knD : Knot → PyData
  | .add x => addD x
  | .loop a ks => loopD a (knDs ks)
def knDs : List Knot → List PyData
  | [] => []
  | k :: ks => knD k :: knDs ks
end
theorem knDs_append : ∀ a b : List Knot, knDs (a ++ b) = knDs a ++ knDs b
  | [], b => rfl
  | x :: a, b => by
    show knD x :: knDs (a ++ b) = _
    rw [knDs_append a b]
    rfl
theorem knDs_len : ∀ a : List Knot, (knDs a).length = a.length
  | [] => rfl
  | x :: a => congrArg (· + 1) (knDs_len a)
def openT (as : List Str) (ks : List Knot) : List Knot := as.foldr (fun a k => [.loop a k]) ks
theorem openT_data : ∀ (as : List Str) (ks : List Knot), knDs (openT as ks) = openK as (knDs ks)
  | [], ks => rfl
  | a :: as, ks => by
    show [loopD a (knDs (openT as ks))] = [loopD a (openK as (knDs ks))]
    rw [openT_data as ks]
def stepAxes (P : Plan) (x : Str) : List Str := ((P.steps.find? fun s => decide (s.1 = x)).map (·.2)).getD []
def axesFor (P : Plan) (part : List Str) : List Str := if part.length = 1 then stepAxes P (part.headD ⟨#[]⟩) else leastShare P part
def partT (P : Plan) (rec : List Str → List Str → List Knot) (over part : List Str) : List Knot :=
  openT ((axesFor P part).filter fun a => !decide (a ∈ over)) (if part.length = 1 then [.add (part.headD ⟨#[]⟩)] else rec part (axesFor P part))
def laidT (P : Plan) : Nat → List Str → List Str → List Knot
  | 0, _, _ => []
  | n + 1, names, over => (inOrder P (partsBy P names over)).flatMap (partT P (laidT P n) over)
structure PartOk (P : Plan) (go : List Str → List Str → Prop) (part : List Str) : Prop where
  ne : part ≠ []
  one : part.length = 1 → part.headD ⟨#[]⟩ ∈ namesOf P
  more : part.length ≠ 1 → rowsOf P part ≠ [] ∧ go part (leastShare P part)
structure LaidOk1 (P : Plan) (go : List Str → List Str → Prop) (rec : List Str → List Str → List Knot) (names over : List Str) : Prop where
  ok : OkS names
  n : names.length ≤ 20
  ov : OkS over ∧ over.length ≤ 20
  emp : ("" : Str) ∉ names
  num : (partsBy P names over).length ≤ 20
  sub : ∀ p ∈ partsBy P names over, ("" : Str) ∉ p
  ord : OrdOk P (partsBy P names over)
  part : ∀ p ∈ inOrder P (partsBy P names over), PartOk P go p
  len : ((inOrder P (partsBy P names over)).flatMap (partT P rec over)).length ≤ 1000
def LaidOk (P : Plan) : Nat → List Str → List Str → Prop
  | 0, _, _ => False
  | n + 1, names, over => LaidOk1 P (LaidOk P n) (laidT P n) names over
def RLaid (n : Nat) : List D → D → Prop := fun ds d => ∃ (P : Plan) (names over : List Str), P.Ok ∧ LaidOk P n names over ∧ ds = [.d (planD P), .d (nmD names), .d (axD over), .d (.str "")] ∧ d = .d (.tuple (knDs (laidT P n names over)))
abbrev sLaid : Stmt := top 39
theorem scLaid : FnScope ["plan", "names", "over", "early", "axes", "knots", "loops", "part", "inner", "name", "axis"] ["plan", "names", "over", "early"] (defScope sLaid) := ⟨rfl, rfl, rfl, by decide +kernel, rfl, by decide +kernel, by decide +kernel⟩
def loopsD (P : Plan) : List (Key × PyData) := P.steps.map fun s => (.inr s.1, axD s.2)
theorem stepAxes_of {P : Plan} (ok : P.Ok) {s : Str × List Str} (h : s ∈ P.steps) : stepAxes P s.1 = s.2 := by
  unfold stepAxes
  cases e : P.steps.find? fun z => decide (z.1 = s.1) with
  | none =>
    have := List.find?_eq_none.mp e s h
    simp at this
  | some z =>
    have h1 := List.mem_of_find?_eq_some e
    have h2 : z.1 = s.1 := of_decide_eq_true (List.find?_some (p := fun z : Str × List Str => decide (z.1 = s.1)) e)
    have : z = s := by
      have nd := ok.nd
      have inj : ∀ (l : List (Str × List Str)), (l.map (·.1)).Nodup → ∀ a ∈ l, ∀ b ∈ l, a.1 = b.1 → a = b := by
        intro l
        induction l with
        | nil => intro _ a ha; cases ha
        | cons c l ih =>
          intro nd a ha b hb hab
          obtain ⟨n1, n2⟩ := List.nodup_cons.mp (show (c.1 :: l.map (·.1)).Nodup from nd)
          rcases List.mem_cons.mp ha with ha | ha <;> rcases List.mem_cons.mp hb with hb | hb
          · rw [ha, hb]
          · exact absurd (List.mem_map.mpr ⟨b, hb, by rw [← hab, ha]⟩) n1
          · exact absurd (List.mem_map.mpr ⟨a, ha, by rw [hab, hb]⟩) n1
          · exact ih n2 a ha b hb hab
      exact inj P.steps nd z h1 s h h2
    rw [this]
    rfl
theorem look_loops {P : Plan} (ok : P.Ok) {x : Str} (h : x ∈ namesOf P) : look (loopsD P) (.inr x) = some (axD (stepAxes P x)) := by
  obtain ⟨s, hs, rfl⟩ := List.mem_map.mp h
  have nd : ((loopsD P).map (·.1)).Nodup := by
    have := keys_nd ok.nd
    unfold loopsD
    rw [List.map_map] at this ⊢
    exact this
  rw [stepAxes_of ok hs]
  exact look_mem nd (.inr s.1, axD s.2) (List.mem_map.mpr ⟨s, hs, rfl⟩)
theorem leastShare_ok {P : Plan} (ok : P.Ok) (part : List Str) : (leastShare P part).length ≤ 20 ∧ OkS (leastShare P part) := by
  have rx : ∀ q ∈ rowsOf P part, q.length ≤ 20 ∧ OkS q := fun q hq => by
    rcases List.mem_map.mp hq with ⟨p, hp, rfl⟩
    exact ⟨ok.s4 p (List.mem_filter.mp hp).1, ok.o2 p (List.mem_filter.mp hp).1⟩
  unfold leastShare
  cases e : rowsOf P part with
  | nil => exact ⟨Nat.zero_le _, fun x hx => nomatch hx⟩
  | cons r rs =>
    have := rx r (by rw [e]; exact List.mem_cons_self)
    exact ⟨Nat.le_trans (List.length_filter_le ..) this.1, fun x hx => this.2 x (List.mem_filter.mp hx).1⟩
theorem axesFor_len {P : Plan} (ok : P.Ok) {go : List Str → List Str → Prop} {part : List Str} (h : PartOk P go part) : (axesFor P part).length ≤ 20 := by
  unfold axesFor
  split
  · rename_i z
    obtain ⟨s, hs, e⟩ := List.mem_map.mp (h.one z)
    rw [← e, stepAxes_of ok hs]
    exact ok.s3 s hs
  · exact (leastShare_ok ok part).1
section
variable {mg : Str → Option Value} {base : Heap} {P : Program} {w : World} {K : PySem.W.Frag}
theorem ok_laid {f : Addr} {fd : FuncData} {k : Nat} (F : Fun K "laid" "laid" sLaid f fd) (hm : mg "laid" = some (.ref f)) (hk : PySem.W.keepIn K (.ref f) = true) (hb : Binds K fd ["plan", "names", "over", "early"] []) (B : Bi mg) (GO : Cal P w K mg base k "in_order" ROrder) (GP : Cal P w K mg base k "parts_by" RParts) (GS : Cal P w K mg base k "least_share" RShare) (GK : Cal P w K mg base k "opened" ROpened) :
    ∀ n, FnOk P w K mg base CX0 (k + n) f fd ["plan", "names", "over", "early"] (spD K (RLaid n))
  | 0 => ⟨fun vs H Q E ⟨F, ds, d, _, _, ⟨_, _, _, _, z, _⟩, _⟩ => z.elim, fun A outer s H args us vs Q E _ _ _ _ ⟨F, ds, d, _, _, ⟨_, _, _, _, z, _⟩, _⟩ => z.elim⟩
  | n + 1 => by
    have GL : Cal P w K mg base (k + n) "laid" (RLaid n) := ⟨f, fd, _, hm, hk, hb, ok_laid F hm hk hb B GO GP GS GK n⟩
    refine def_of (k := k + n) F scLaid (fun ds d ⟨_, _, _, _, _, e, _⟩ => by rw [e]; rfl) fun cdv A outer s H E hr ds d ⟨PL, names, over, ok, lo, eds, ed⟩ => ?_
    subst eds ed
    have GO' := GO.mono (k := k + n) (Nat.le_add_right _ _)
    have GP' := GP.mono (k := k + n) (Nat.le_add_right _ _)
    have GS' := GS.mono (k := k + n) (Nat.le_add_right _ _)
    have GK' := GK.mono (k := k + n) (Nat.le_add_right _ _)
    have lo : LaidOk1 PL (LaidOk PL n) (laidT PL n) names over := lo
    have s1 := ok.s1
    refine w_cons (w_par 5 6 (r1 := .fr (.d (.tuple []))) (r2 := .fr (.dk (loopsD PL))) (dtup (ds := []) an) (dcomp (own := [("name", 9), ("axes", 4)]) (xs := PL.steps) (enc := stD) (kf := fun s => .inr s.1) (f := fun s => axD s.2)
      (ρ' := fun s => [.fr (.d (planD PL)), .fr (.d (nmD names)), .fr (.d (axD over)), .fr (.d (.str "")), .fr (.d (axD s.2)), .un, .un, .un, .un, .fr (.d (.str s.1)), .un])
      (i_t (ixT (ds := [.tuple (PL.steps.map stD), .tuple (PL.pairs.map prD)]) (dvar 0) dint rfl)) (blkOk_by (own := [("name", 9), ("axes", 4)]) (by kernel_rfl))
      (fun s hs S H C cl fp => g_tup rfl (gs_cons (g_name 9 scLaid.nd) (gs_cons (g_name 4 scLaid.nd) gs_nil))) (fun s hs S H C cl fp => dvar 9) (fun s hs S H C cl fp => dvar 4) (sz (by omega)) ?_ (hN := scLaid.nd)) (hN := scLaid.nd)) ?_
    · have := keys_nd ok.nd
      rw [List.map_map] at this
      exact this
    refine w_cons (w_for (xs := inOrder PL (partsBy PL names over)) (enc := nmD) (vs := [7]) (fun i => [.fr (.d (planD PL)), .fr (.d (nmD names)), .fr (.d (axD over)), .fr (.d (.str "")), .un, .fr (.d (.tuple (knDs (((inOrder PL (partsBy PL names over)).take i).flatMap (partT PL (laidT PL n) over))))), .fr (.dk (loopsD PL)), .un, .un, .un, .un])
      (fun i p => [.fr (.d (planD PL)), .fr (.d (nmD names)), .fr (.d (axD over)), .fr (.d (.str "")), .un, .fr (.d (.tuple (knDs (((inOrder PL (partsBy PL names over)).take i).flatMap (partT PL (laidT PL n) over))))), .fr (.dk (loopsD PL)), .fr (.d (nmD p)), .un, .un, .un])
      (i_l (call GO' hr (ac (dvar 0) (ac (call GP' hr (ac (dvar 0) (ac (dvar 1) (ac (dvar 2) an))) ⟨PL, names, over, ok, lo.ok, lo.n, lo.ov.1, rfl, rfl⟩) (ac (dvar 3) an))) ⟨PL, _, "", ok, lo.num, lo.sub, lo.ord, rfl, rfl⟩)) rfl (fun i p hp => g_name 7 scLaid.nd) (fun i p hp => ?_)) (w_one (w_ret ((dvar 5).eqD ?_) rfl))
    · have hpm := List.mem_of_getElem? hp
      have po := lo.part p hpm
      have hal := axesFor_len ok po
      have hne := po.ne
      obtain ⟨x, r, ex⟩ := List.exists_cons_of_ne_nil hne
      have ll := lo.len
      rw [take_flat hp]
      have l2 : (((inOrder PL (partsBy PL names over)).take i).flatMap (partT PL (laidT PL n) over) ++ partT PL (laidT PL n) over p).length ≤ 1000 := by
        rw [← take_flat hp]
        refine Nat.le_trans ?_ ll
        conv => rhs; rw [← List.take_append_drop (i + 1) (inOrder PL (partsBy PL names over)), List.flatMap_append, List.length_append]
        exact Nat.le_add_right _ _
      generalize ((inOrder PL (partsBy PL names over)).take i).flatMap (partT PL (laidT PL n) over) = kn at l2 ⊢
      refine w_wk (ρ1 := [.fr (.d (planD PL)), .fr (.d (nmD names)), .fr (.d (axD over)), .fr (.d (.str "")), .fr (.d (axD (axesFor PL p))), .fr (.d (.tuple (knDs (kn ++ partT PL (laidT PL n) over p)))), .fr (.dk (loopsD PL)), .fr (.d (nmD p)), .fr (.d (.tuple (knDs (if p.length = 1 then [.add (p.headD ⟨#[]⟩)] else laidT PL n p (axesFor PL p))))), .un, .un]) ?_ (.keep (.keep (.keep (.keep (.drop (.keep (.keep (.drop (.drop (.keep (.keep .nil)))))))))))
      refine w_cons (w_if (k := decide (p.length = 1)) ((ct (c_eq (u64 hr) (d2x (lenS (ds := p.map .str) (by rfl) B.len (d2s (dvar 7)))) (d2x dint) (sh_int _) (sh_int _))).eqT ?_)
        (O := .nx [.fr (.d (planD PL)), .fr (.d (nmD names)), .fr (.d (axD over)), .fr (.d (.str "")), .fr (.d (axD (axesFor PL p))), .fr (.d (.tuple (knDs kn))), .fr (.dk (loopsD PL)), .fr (.d (nmD p)), .fr (.d (.tuple (knDs (if p.length = 1 then [.add (p.headD ⟨#[]⟩)] else laidT PL n p (axesFor PL p))))), .un, .un]) (fun hk => ?_) (fun hk => ?_)) ?_
      · rw [List.length_map, PyData.eqv]
        by_cases z : p.length = 1
        · rw [z]; rfl
        · have : ¬ (p.length : Int) = 1 := fun y => z (by omega)
          simp [z, this]
      · have z : p.length = 1 := of_decide_eq_true hk
        have hx := po.one z
        rw [ex] at hx
        have hx : x ∈ namesOf PL := hx
        refine (w_one (w_par 4 8 (r1 := .fr (.d (axD (stepAxes PL x)))) (r2 := .fr (.d (.tuple [addD x]))) (dgK (k := .inr x) (u1 hr) (dvar 6) (ixS (ds := p.map .str) (d2s (dvar 7)) dint (by rw [ex]; exact at0)) (look_loops ok hx))
          (dtup (ds := [addD x]) (ac (dtup (ds := [.str "add", .str x]) (ac dstr (ac (ixS (ds := p.map .str) (d2s (dvar 7)) dint (by rw [ex]; exact at0)) an))) an)) (hN := scLaid.nd))).eqW ?_
        rw [if_pos z]
        unfold axesFor
        rw [if_pos z, ex]
        rfl
      · have z : ¬ p.length = 1 := of_decide_eq_false hk
        obtain ⟨m1, m2⟩ := po.more z
        have ea : axesFor PL p = leastShare PL p := if_neg z
        rw [if_neg z, ea]
        exact w_cons (w_set (d := .d (axD (leastShare PL p))) 4 (call GS' hr (ac (dvar 0) (ac (dvar 7) an)) ⟨PL, p, ok, m1, rfl, rfl⟩) (hN := scLaid.nd))
          (w_one (w_set (d := .d (.tuple (knDs (laidT PL n p (leastShare PL p))))) 8 (call GL hr (ac (dvar 0) (ac (dvar 7) (ac (dvar 4) (ac (dvar 3) an)))) ⟨PL, p, _, ok, m2, rfl, rfl⟩) (hN := scLaid.nd)))
      · refine (w_one (w_set (d := .d (.tuple (knDs kn ++ openK ((axesFor PL p).filter fun a => !decide (a ∈ over)) (knDs (if p.length = 1 then [.add (p.headD ⟨#[]⟩)] else laidT PL n p (axesFor PL p)))))) 5 (dcat (dvar 5) (call GK' hr (ac (n2d (lcomp (own := [("axis", 10)]) (xs := axesFor PL p) (enc := .str) (pr := fun a => !decide (a ∈ over)) (f := .str)
          (ρ' := fun a => [.fr (.d (planD PL)), .fr (.d (nmD names)), .fr (.d (axD over)), .fr (.d (.str "")), .fr (.d (axD (axesFor PL p))), .fr (.d (.tuple (knDs kn))), .fr (.dk (loopsD PL)), .fr (.d (nmD p)), .fr (.d (.tuple (knDs (if p.length = 1 then [.add (p.headD ⟨#[]⟩)] else laidT PL n p (axesFor PL p))))), .un, .fr (.d (.str a))])
          (i_t (dvar 4)) (blkOk_by (own := [("axis", 10)]) (by kernel_rfl)) (fun a ha s H C cl fp => g_name 10 scLaid.nd) (fun a ha s H C cl fp => pts_if ((ct (c_niT (dvar 10) (dvar 2) rfl (strs_flat _))).eqT (by rw [any_str]))) (fun a ha hpr s H C cl fp => dvar 10) (sz (by omega)) (hN := scLaid.nd))) (ac (dvar 8) an)) ⟨_, _, Nat.le_trans (List.length_filter_le ..) hal, rfl, rfl⟩) ?_) (hN := scLaid.nd))).eqW ?_
        · rw [← openT_data, knDs_len, knDs_len]
          have l3 : kn.length + (partT PL (laidT PL n) over p).length ≤ 1000 := by rw [← List.length_append]; exact l2
          unfold partT at l3
          exact sz (by omega)
        · rw [← openT_data, ← knDs_append]
          rfl
    · rw [List.take_length]
      rfl
end
end KL
/-! B11: laying.py: laid_early, lay, has_tree, is_walk, is_paper. -/
namespace KL
open PySem PySem.Spec L2
def REarlyL (n : Nat) : List D → D → Prop := fun ds d => ∃ P : Plan, P.Ok ∧ LaidOk P n (namesOf P) [] ∧ ds = [.d (planD P), .d (.str "")] ∧ d = .d (.tuple (knDs (laidT P n (namesOf P) [])))
abbrev sLaidEarly : Stmt := top 40
theorem scLaidEarly : FnScope ["plan", "early", "name", "loops"] ["plan", "early"] (defScope sLaidEarly) := ⟨rfl, rfl, rfl, by decide +kernel, rfl, by decide +kernel, by decide +kernel⟩
/-- what lay answers -/
inductive LayIs (n : Nat) (P : Plan) (pf : Str → Str → List (List Str)) : PyData → Prop
  | path {p : List Str} {r : List (List Str)} (h : sortP (badAll P pf) = p :: r) (hok : ∀ q ∈ p :: r, OkS q) : LayIs n P pf (.tuple [.str "path", nmD p])
  | tree (h : badAll P pf = []) (nr : NoRings P pf) (lo : LaidOk P n (namesOf P) []) : LayIs n P pf (.tuple [.str "tree", .tuple (knDs (laidT P n (namesOf P) []))])
def RLay (n : Nat) : List D → D → Prop := fun ds d => ∃ (P : Plan) (pf : Str → Str → List (List Str)) (z : PyData), P.Ok ∧ PathsOk P pf ∧ LayIs n P pf z ∧ ds = [.d (planD P)] ∧ d = .d z
abbrev sLay : Stmt := top 41
theorem scLay : FnScope ["plan", "paths", "rings"] ["plan"] (defScope sLay) := ⟨rfl, rfl, rfl, by decide +kernel, rfl, by decide +kernel, by decide +kernel⟩
def isTree : PyData → Bool
  | .tuple (.str x :: _) => decide (x = "tree")
  | _ => false
def RHas (n : Nat) : List D → D → Prop := fun ds d => ∃ (P : Plan) (pf : Str → Str → List (List Str)) (z : PyData), P.Ok ∧ PathsOk P pf ∧ LayIs n P pf z ∧ ds = [.d (planD P)] ∧ d = .d (.bool (isTree z))
abbrev sHas : Stmt := top 42
theorem scHas : FnScope ["plan"] ["plan"] (defScope sHas) := ⟨rfl, rfl, rfl, by decide +kernel, rfl, by decide +kernel, by decide +kernel⟩
def walkB (P : Plan) (row : List Str) : Bool := (row.zip row.tail).all fun q => decide (q.2 ∈ nearOf P q.1)
structure WalkIn (P : Plan) (p : List Str) (m : Nat) : Prop where
  sub : ∀ x ∈ p, x ∈ namesOf P
  nm : ∀ x ∈ p, NameOk x
  nd : p.Nodup
  lo : m ≤ p.length
  two : 2 ≤ p.length
def roundOf (p : List Str) (k : Bool) : List Str := if k = true then p ++ [p.headD ⟨#[]⟩] else p
def RWalk : List D → D → Prop := fun ds d => ∃ (P : Plan) (p : List Str) (k : Bool), P.Ok ∧ WalkIn P p (if k = true then 3 else 2) ∧ ds = [.d (planD P), .d (nmD p), .d (.bool k)] ∧ d = .d (.bool (walkB P (roundOf p k)))
abbrev sWalk : Stmt := top 43
theorem scWalk : FnScope ["plan", "thing", "is_round", "near", "row", "name", "one", "other"] ["plan", "thing", "is_round"] (defScope sWalk) := ⟨rfl, rfl, rfl, by decide +kernel, rfl, by decide +kernel, by decide +kernel⟩
inductive PaperIs (P : Plan) : PyData → Bool → Prop
  | path {p : List Str} (w : WalkIn P p 2) (l : walkB P p = true → Linked P p) : PaperIs P (.tuple [.str "path", nmD p]) (walkB P p && (leastAlong P p).isEmpty)
  | ring {p : List Str} (w : WalkIn P p 3) (h : walkB P (roundOf p true) = false) : PaperIs P (.tuple [.str "ring", nmD p]) false
def RPaper : List D → D → Prop := fun ds d => ∃ (P : Plan) (z : PyData) (k : Bool), P.Ok ∧ PaperIs P z k ∧ ds = [.d (planD P), .d z] ∧ d = .d (.bool k)
abbrev sPaper : Stmt := top 44
theorem scPaper : FnScope ["plan", "thing", "least", "at", "is_ahead"] ["plan", "thing"] (defScope sPaper) := ⟨rfl, rfl, rfl, by decide +kernel, rfl, by decide +kernel, by decide +kernel⟩
theorem setS_len {xs : List Str} (h : xs.Nodup) : (setS xs).length = xs.length := by
  unfold setS sortS
  rw [List.length_mergeSort]
  have h1 : (insT [] xs).Nodup := insT_nd .nil
  refine Nat.le_antisymm ?_ ?_
  · have := insT_len xs []
    simpa using this
  · exact nd_len h fun x hx => insT_mem.mpr (.inr hx)
section
variable {mg : Str → Option Value} {base : Heap} {P : Program} {w : World} {K : PySem.W.Frag}
theorem ok_laidearly {f : Addr} {fd : FuncData} {k n : Nat} (F : Fun K "laid_early" "laid_early" sLaidEarly f fd) (B : Bi mg) (GL : Cal P w K mg base k "laid" (RLaid n)) : FnOk P w K mg base CX0 (k + 1) f fd ["plan", "early"] (spD K (REarlyL n)) := by
  refine def_of F scLaidEarly (fun ds d ⟨_, _, _, e, _⟩ => by rw [e]; rfl) fun cdv A outer s H E hr ds d ⟨PL, ok, lo, eds, ed⟩ => ?_
  subst eds ed
  have s1 := ok.s1
  refine w_one (w_ret (call GL hr (ac (dvar 0) (ac ((n2d (lcomp (own := [("name", 2), ("loops", 3)]) (xs := PL.steps) (enc := stD) (pr := fun _ => true) (f := fun s => .str s.1)
    (ρ' := fun s => [.fr (.d (planD PL)), .fr (.d (.str "")), .fr (.d (.str s.1)), .fr (.d (axD s.2))])
    (i_t (ixT (ds := [.tuple (PL.steps.map stD), .tuple (PL.pairs.map prD)]) (dvar 0) dint rfl)) (blkOk_by (own := [("name", 2), ("loops", 3)]) (by kernel_rfl))
    (fun q hq s H C cl fp => g_tup rfl (gs_cons (g_name 2 scLaidEarly.nd) (gs_cons (g_name 3 scLaidEarly.nd) gs_nil))) (fun q hq s H C cl fp => pts_no) (fun q hq hpr s H C cl fp => dvar 2) (sz (by omega)) (hN := scLaidEarly.nd))).eqD (d2 := .d (nmD (namesOf PL))) ?_) (ac (dtup (ds := []) an) (ac (dvar 1) an)))) ⟨PL, _, [], ok, lo, rfl, rfl⟩) rfl)
  rw [filt_true, nmD, namesOf, List.map_map]
  rfl
theorem ok_lay {f : Addr} {fd : FuncData} {k n : Nat} (F : Fun K "lay" "lay" sLay f fd) (B : Bi mg) (GB : Cal P w K mg base k "bad_paths" RBad) (GR : Cal P w K mg base k "bad_rings" RRings) (GL : Cal P w K mg base k "laid_early" (REarlyL n)) : FnOk P w K mg base CX0 (k + 1) f fd ["plan"] (spD K (RLay n)) := by
  refine def_of F scLay (fun ds d ⟨_, _, _, _, _, _, e, _⟩ => by rw [e]; rfl) fun cdv A outer s H E hr ds d ⟨PL, pf, z, ok, pk, li, eds, ed⟩ => ?_
  subst eds ed
  refine w_cons (w_set (d := .d (.list ((sortP (badAll PL pf)).map nmD))) 1 (call GB hr (ac (dvar 0) an) ⟨PL, pf, ok, pk, rfl, rfl⟩) (hN := scLay.nd)) ?_
  cases li with
  | @path p r h hok =>
    rw [h]
    refine w_end (w_if (k := true) ((ct (c_ne (u64 hr) (d2x (dvar (d := .d (.list ((p :: r).map nmD))) 1)) (n2x (nlst (ds := []) an)) (sh_names hok) sh_nil)).eqT (by rw [eqv_nil]; rfl)) (fun _ => w_one (w_ret (dtup (ds := [.str "path", nmD p]) (ac dstr (ac (ixS (ds := (p :: r).map nmD) (d2s (dvar 1)) dint at0) an))) rfl)) (fun z => nomatch z))
  | tree h nr lo =>
    have e : sortP (badAll PL pf) = [] := by rw [h]; simp [sortP]
    rw [e]
    refine w_cons (w_if (k := false) ((ct (c_ne (u64 hr) (d2x (dvar (d := .d (.list [])) 1)) (n2x (nlst (ds := []) an)) sh_nil sh_nil)).eqT (by rw [eqv_nil]; rfl)) (fun z => nomatch z) (fun _ => w_nil)) ?_
    refine w_cons (w_set (d := .d (.list [])) 2 (call GR hr (ac (dvar 0) an) ⟨PL, pf, ok, pk, nr, rfl, rfl⟩) (hN := scLay.nd)) ?_
    exact w_one (w_ret (dif (k := false) ((ct (c_ne (u64 hr) (d2x (dvar (d := .d (.list [])) 2)) (n2x (nlst (ds := []) an)) sh_nil sh_nil)).eqT (by rw [eqv_nil]; rfl)) (fun z => nomatch z) (fun _ => dtup (ds := [.str "tree", .tuple (knDs (laidT PL n (namesOf PL) []))]) (ac dstr (ac (call GL hr (ac (dvar 0) (ac dstr an)) ⟨PL, ok, lo, rfl, rfl⟩) an)))) rfl)
theorem ok_has {f : Addr} {fd : FuncData} {k n : Nat} (F : Fun K "has_tree" "has_tree" sHas f fd) (B : Bi mg) (GL : Cal P w K mg base k "lay" (RLay n)) : FnOk P w K mg base CX0 (k + 1) f fd ["plan"] (spD K (RHas n)) := by
  refine def_of F scHas (fun ds d ⟨_, _, _, _, _, _, e, _⟩ => by rw [e]; rfl) fun cdv A outer s H E hr ds d ⟨PL, pf, z, ok, pk, li, eds, ed⟩ => ?_
  subst eds ed
  have hc : ∃ x r, z = .tuple (.str x :: r) ∧ PyData.strOk x = true := by
    cases li with
    | path h => exact ⟨_, _, rfl, by decide +kernel⟩
    | tree h nr lo => exact ⟨_, _, rfl, by decide +kernel⟩
  obtain ⟨x, r, rfl, hx⟩ := hc
  exact w_one (w_ret ((cv (c_eq (u64 hr) (d2x (ixT (ds := .str x :: r) (call GL hr (ac (dvar 0) an) ⟨PL, pf, _, ok, pk, li, rfl, rfl⟩) dint at0)) (d2x dstr) (sh_str hx) (sh_str (by decide +kernel)))).eqD (by rw [eqv_str]; rfl)) rfl)
theorem ok_walk {f : Addr} {fd : FuncData} {k : Nat} (F : Fun K "is_walk" "is_walk" sWalk f fd) (B : Bi mg) (GN : Cal P w K mg base k "near_of" RNear) (GI : Cal P w K mg base k "is_name" RIsName) : FnOk P w K mg base CX0 (k + 1) f fd ["plan", "thing", "is_round"] (spD K RWalk) := by
  refine def_of F scWalk (fun ds d ⟨_, _, _, _, _, e, _⟩ => by rw [e]; rfl) fun cdv A outer s H E hr ds d ⟨PL, p, kr, ok, wi, eds, ed⟩ => ?_
  subst eds ed
  have hl : p.length ≤ 20 := by
    have := nd_len wi.nd wi.sub
    unfold namesOf at this
    rw [List.length_map] at this
    have := ok.s1
    omega
  have two := wi.two
  obtain ⟨x, r, ex⟩ : ∃ x r, p = x :: r := List.exists_cons_of_ne_nil (fun z => by rw [z] at two; simp at two)
  refine w_cons (w_set (d := .dk (nearD PL)) 3 (call GN hr (ac (dvar 0) an) ⟨PL, ok, rfl, rfl⟩) (hN := scWalk.nd)) ?_
  refine w_cons (w_if (k := false) ((PW.pt (wor (k' := false) (tnot (tv (disi (k := true) (by rfl) B.isinstance (d2x (dvar 1)) (by rfl) B.list bt_list rfl (by decide +kernel)))) (fun _ => wor1 ((tnot (tv (allS (bs := p.map fun _ => true) (by rfl) (by rfl) B.all bt_all
    (n2s ((lcomp (own := [("name", 5)]) (xs := p) (enc := .str) (pr := fun _ => true) (f := fun _ => .bool true) (ρ' := fun x => [.fr (.d (planD PL)), .fr (.d (nmD p)), .fr (.d (.bool kr)), .fr (.dk (nearD PL)), .un, .fr (.d (.str x)), .un, .un])
      (i_l (dvar 1)) (blkOk_by (own := [("name", 5)]) (by kernel_rfl)) (fun x hx s H C cl fp => g_name 5 scWalk.nd) (fun x hx s H C cl fp => pts_no)
      (fun x hx hpr s H C cl fp => (vand (call GI hr (ac (dvar 5) an) ⟨x, wi.nm x hx, rfl, rfl⟩) (fun _ => vone ((cv (c_inK (k := .inr x) (u1 hr) (dvar 5) (dvar 3))).eqD (d2 := .d (.bool true)) (by rw [look_near ok (wi.sub x hx)]; rfl)))).eqD rfl) (sz (by omega)) (hN := scWalk.nd)).eqN ?_))))).eqT ?_)))).eqT rfl) (fun z => nomatch z) (fun _ => w_nil)) ?_
  · rw [filt_true, List.map_map]
    rfl
  · simp [List.all_map]
  refine w_cons (w_if (k := false) ((PW.pt (wor (k := false) (k' := false) ((ct (c_int op_lt (lenS (ds := p.map .str) (by rfl) B.len (d2s (dvar 1))) (dadd (j := if kr = true then 1 else 0) dint ?_))).eqT ?_) (fun _ => wor1 ((ct (c_ne (u64 hr) (d2x (lenS (by rfl) B.len (n2s (setsrt (ks := p) (ds := setS p) (u64 hr) (by rfl) B.sorted bt_sorted (by rfl) B.set bt_set (d2s (dvar 1)) (by omega) (setS_ok p))))) (d2x (lenS (ds := p.map .str) (by rfl) B.len (d2s (dvar 1)))) (sh_int _) (sh_int _))).eqT ?_)))).eqT rfl) (fun z => nomatch z) (fun _ => w_nil)) ?_
  · exact callT1 call_int1 (by rfl) B.int bt_int (dvar (d := .d (.bool kr)) 2) fun F H F1 H1 x Q l e1 q1 kk => .inr ⟨kr, by cases (show Dp _ F1 x (.bool kr) from q1); rfl, kk F1 H1 _ e1 (Dp.int _)⟩
  · have := wi.lo
    rw [List.length_map]
    refine decide_eq_false ?_
    cases kr
    · simp at this ⊢; omega
    · simp at this ⊢; omega
  · rw [List.length_map, List.length_map, setS_len wi.nd, PyData.eqv]
    simp
  refine w_cons (w_set (d := .d (nmD (roundOf p kr))) 4 (dif (tv (dvar 2)) (fun hk => (n2d (nstar (ds := p.map .str) (es := [.str x]) (d2s (dvar 1)) (ac (ixS (ds := p.map .str) (d2s (dvar 1)) dint (by rw [ex]; exact at0)) an) (sz (by rw [List.length_map]; simp only [List.length_singleton]; omega)))).eqD ?_) (fun hk => (dvar 1).eqD ?_)) (hN := scWalk.nd)) ?_
  · unfold roundOf
    rw [if_pos hk, ex]
    simp [nmD]
  · unfold roundOf
    rw [if_neg (by rw [hk]; simp)]
  have rl : (roundOf p kr).length ≤ 21 := by
    unfold roundOf
    split
    · rw [List.length_append]; simp only [List.length_singleton]; omega
    · omega
  have rs : ∀ y ∈ roundOf p kr, y ∈ namesOf PL := fun y hy => by
    unfold roundOf at hy
    split at hy
    · rcases List.mem_append.mp hy with hy | hy
      · exact wi.sub y hy
      · rw [List.mem_singleton.mp hy, ex]
        exact wi.sub x (by rw [ex]; exact List.mem_cons_self)
    · exact wi.sub y hy
  generalize roundOf p kr = row at rl rs ⊢
  have hdr : cutD (row.map .str) (some 1) none = row.tail.map .str := by
    rw [← List.drop_one, List.map_drop]
    exact cut_from _ 1
  refine w_one (w_ret ((allS (bs := (row.zip row.tail).map fun q => decide (q.2 ∈ nearOf PL q.1)) (by rfl) (by rfl) B.all bt_all
    (n2s ((lcomp (own := [("one", 6), ("other", 7)]) (xs := row.zip row.tail) (enc := fun q => .tuple [.str q.1, .str q.2]) (pr := fun _ => true) (f := fun q => .bool (decide (q.2 ∈ nearOf PL q.1)))
      (ρ' := fun q => [.fr (.d (planD PL)), .fr (.d (nmD p)), .fr (.d (.bool kr)), .fr (.dk (nearD PL)), .fr (.d (nmD row)), .un, .fr (.d (.str q.1)), .fr (.d (.str q.2))])
      (by rw [← zip_strs, ← hdr]; exact i_zipL (by rfl) B.zip (dvar 4) (n2d (slS (d2s (dvar 4)) (o_so dint) o_no (sz (by rw [List.length_map]; omega))))) (blkOk_by (own := [("one", 6), ("other", 7)]) (by kernel_rfl)) (fun q hq s H C cl fp => g_tup rfl (gs_cons (g_name 6 scWalk.nd) (gs_cons (g_name 7 scWalk.nd) gs_nil))) (fun q hq s H C cl fp => pts_no)
      (fun q hq hpr s H C cl fp => (cv (c_in (dvar 7) (d2s (dgK (u1 hr) (dvar 3) (dvar 6) (look_near ok (rs q.1 (List.of_mem_zip hq).1)))) rfl (strs_flat _))).eqD (by rw [any_str])) (sz (by rw [List.length_zip]; omega)) (hN := scWalk.nd)).eqN ?_))).eqD ?_) rfl)
  · rw [filt_true, List.map_map]
    rfl
  · rw [List.all_map]
    rfl
theorem ok_paper {f : Addr} {fd : FuncData} {k : Nat} (F : Fun K "is_paper" "is_paper" sPaper f fd) (B : Bi mg) (GW : Cal P w K mg base k "is_walk" RWalk) (GA : Cal P w K mg base k "least_along" RAlong) : FnOk P w K mg base CX0 (k + 1) f fd ["plan", "thing"] (spD K RPaper) := by
  refine def_of F scPaper (fun ds d ⟨_, _, _, _, _, e, _⟩ => by rw [e]; rfl) fun cdv A outer s H E hr ds d ⟨PL, z, kz, ok, pi, eds, ed⟩ => ?_
  subst eds ed
  have first : ∀ (x : Str) (p : List Str), z = .tuple [.str x, nmD p] → True := fun _ _ _ => trivial
  cases pi with
  | @path p wi hl =>
    refine w_cons (w_if (k := false) ((PW.pt (wor (k' := false) (tnot (tv (disi (k := true) (by rfl) B.isinstance (d2x (dvar 1)) (by rfl) B.tuple bt_tuple rfl (by decide +kernel)))) (fun _ => wor (k := false) (k' := false) ((ct (c_ne (u64 hr) (d2x (lenT (ds := [.str "path", nmD p]) (by rfl) B.len (dvar 1))) (d2x dint) (sh_int _) (sh_int _))).eqT rfl)
      (fun _ => wor1 (tnot (tv (disi (k := true) (by rfl) B.isinstance (d2x (ixT (ds := [.str "path", nmD p]) (dvar 1) dint at0)) (by rfl) B.str bt_str rfl (by decide +kernel)))))))).eqT rfl) (fun z => nomatch z) (fun _ => w_nil)) ?_
    refine w_cons (w_if (k := false) ((ct (c_eq (u64 hr) (d2x (ixT (ds := [.str "path", nmD p]) (dvar 1) dint at0)) (d2x dstr) (sh_str (by decide +kernel)) (sh_str (by decide +kernel)))).eqT (by decide)) (fun z => nomatch z) (fun _ => w_nil)) ?_
    refine w_end (w_if (k := true) ((ct (c_eq (u64 hr) (d2x (ixT (ds := [.str "path", nmD p]) (dvar 1) dint at0)) (d2x dstr) (sh_str (by decide +kernel)) (sh_str (by decide +kernel)))).eqT (by decide)) (fun _ => w_one (w_ret (vand (call GW hr (ac (dvar 0) (ac (ixT (ds := [.str "path", nmD p]) (dvar 1) dint (atI_nat (j := 1) rfl)) (ac dbl an))) ⟨PL, p, false, ok, wi, rfl, rfl⟩)
      (fun hk => vone ((cv (c_eq (u64 hr) (d2x (call GA hr (ac (dvar 0) (ac (ixT (ds := [.str "path", nmD p]) (dvar 1) dint (atI_nat (j := 1) rfl)) an)) ⟨PL, p, ok, hl hk, wi.two, rfl, rfl⟩)) (n2x (nlst (ds := []) an)) (sh_le _) sh_nil)).eqD (by rw [nil_le])))) rfl)) (fun z => nomatch z))
  | @ring p wi hf =>
    refine w_cons (w_if (k := false) ((PW.pt (wor (k' := false) (tnot (tv (disi (k := true) (by rfl) B.isinstance (d2x (dvar 1)) (by rfl) B.tuple bt_tuple rfl (by decide +kernel)))) (fun _ => wor (k := false) (k' := false) ((ct (c_ne (u64 hr) (d2x (lenT (ds := [.str "ring", nmD p]) (by rfl) B.len (dvar 1))) (d2x dint) (sh_int _) (sh_int _))).eqT rfl)
      (fun _ => wor1 (tnot (tv (disi (k := true) (by rfl) B.isinstance (d2x (ixT (ds := [.str "ring", nmD p]) (dvar 1) dint at0)) (by rfl) B.str bt_str rfl (by decide +kernel)))))))).eqT rfl) (fun z => nomatch z) (fun _ => w_nil)) ?_
    refine w_cons (w_if (k := false) ((ct (c_eq (u64 hr) (d2x (ixT (ds := [.str "ring", nmD p]) (dvar 1) dint at0)) (d2x dstr) (sh_str (by decide +kernel)) (sh_str (by decide +kernel)))).eqT (by decide)) (fun z => nomatch z) (fun _ => w_nil)) ?_
    refine w_cons (w_if (k := false) ((ct (c_eq (u64 hr) (d2x (ixT (ds := [.str "ring", nmD p]) (dvar 1) dint at0)) (d2x dstr) (sh_str (by decide +kernel)) (sh_str (by decide +kernel)))).eqT (by decide)) (fun z => nomatch z) (fun _ => w_nil)) ?_
    refine w_end (w_if (k := true) ((PW.pt (wor (k := false) (k' := true) ((ct (c_ne (u64 hr) (d2x (ixT (ds := [.str "ring", nmD p]) (dvar 1) dint at0)) (d2x dstr) (sh_str (by decide +kernel)) (sh_str (by decide +kernel)))).eqT (by decide)) (fun _ => wor1 ((tnot (tv (call GW hr (ac (dvar 0) (ac (ixT (ds := [.str "ring", nmD p]) (dvar 1) dint (atI_nat (j := 1) rfl)) (ac dbl an))) ⟨PL, p, true, ok, wi, rfl, rfl⟩))).eqT (by rw [hf]; rfl))))).eqT rfl) (fun _ => w_one (w_ret dbl rfl)) (fun z => nomatch z))
end
end KL
/-! B12: the law's bag: a number taken. -/
namespace KL
open PySem PySem.Spec L2
def IntIn (lo hi : Int) : D → Prop := fun d => ∃ r : Int, lo ≤ r ∧ r < hi ∧ d = .d (.int r)
def RTake : List D → (D → Prop) → Prop := fun ds S => ∃ m : Int, 0 < m ∧ m ≤ 1000 ∧ ds = [.bag, .d (.int m)] ∧ S = IntIn 0 m
abbrev sTake : Stmt := top 47
theorem scTake : FnScope ["_law_bag_here", "_law_many", "_law_cell", "_law_mixed_here", "_law_drawn", "_law_early", "_law_second"] ["_law_bag_here", "_law_many"] (defScope sTake) := ⟨rfl, rfl, rfl, by decide +kernel, rfl, by decide +kernel, by decide +kernel⟩
theorem eqv_int (i j : Int) : PyData.eqv (.int i) (.int j) = decide (i = j) := by
  rw [PyData.eqv]
  by_cases h : i = j
  · subst h; simp
  · simp [h]
def bagT (a c : Addr) (ns : List Int) : List Sl → Prop := fun ρ => ∃ i j k, GoodB i j k ∧ ρ[0]? = some (.bg a c i j k ns)
section
variable {mg : Str → Option Value} {base : Heap} {P : Program} {w : World} {K : PySem.W.Frag}
theorem take_tail {f : Addr} {k0 : Nat} (B : Bi mg) (cdv : Value) (A : Around) (outer : List Env) (s : Shared) (H : Hp) (E : XK) (hr : Room k0 (A.deeper (PyProof.Rows.envOfC "_law_take" (defScope sTake) s.heap.objs.size f cdv))) {a c : Addr} {ns : List Int} {m i j k : Int} (h0 : 0 < m) (h1 : m ≤ 1000) (g : GoodB i j k) :
    PSs (cxOf CX0 P w K mg base ["_law_bag_here", "_law_many", "_law_cell", "_law_mixed_here", "_law_drawn", "_law_early", "_law_second"] "_law_take" (defScope sTake) f cdv A outer s H E).nox ((defBody sTake).drop 1) (tW K [.bg a c i j k ns, .fr (.d (.int m)), .un, .un, .un, .un, .un] (.rts (IntIn 0 m) (bagT a c ns))) := by
  obtain ⟨g1, g2, g3, g4⟩ := g
  by_cases hi : 0 < i
  · refine w_end (w_if (k := true) ((ct (c_int op_gt (bgI (v := i) 0 dint rfl) dint)).eqT (decide_eq_true hi)) (fun _ => ?_) (fun z => nomatch z))
    refine w_cons (w_set (d := .d (.int (i % m))) 4 (dmod (dintI (by rfl) B.int bt_int (bgI 0 dint rfl)) (dvar 1) h0) (hN := scTake.nd)) ?_
    refine w_cons (bgSet (i' := i / m) (j' := j) (k' := k) 0 0 dint (ddiv (dintI (by rfl) B.int bt_int (bgI 0 dint rfl)) (dvar 1) h0 (by omega)) (by decide) rfl) ?_
    exact w_one (w_rts (dvar 4) ⟨i % m, Int.emod_nonneg _ (by omega), Int.emod_lt_of_pos _ h0, rfl⟩ ⟨i / m, j, k, ⟨Int.ediv_nonneg g1 (by omega), g2, g3, g4⟩, rfl⟩)
  · refine w_cons (w_if (k := false) ((ct (c_int op_gt (bgI (v := i) 0 dint rfl) dint)).eqT (decide_eq_false hi)) (fun z => nomatch z) (fun _ => w_nil)) ?_
    have e1 : 0 ≤ (j + 1) * 39373 % 1000000007 := Int.emod_nonneg _ (by decide)
    have e2 : (j + 1) * 39373 % 1000000007 < 1000000007 := Int.emod_lt_of_pos _ (by decide)
    refine w_cons (w_set (d := .d (.int ((j + 1) * 39373 % 1000000007))) 5 (dmod (dintI (by rfl) B.int bt_int (dmul (dadd (bgI (v := j) 0 dint rfl) dint) dint (.inr ⟨by decide, by decide⟩))) dint (by decide)) (hN := scTake.nd)) ?_
    generalize (j + 1) * 39373 % 1000000007 = e at e1 e2 ⊢
    refine w_cons (w_set (d := .d (.int (e * e % 998244353 * 30011 % 998244353))) 6 (dmod (dintI (by rfl) B.int bt_int (dmul (dmod (dintI (by rfl) B.int bt_int (dmul (dvar 5) (dvar 5) (.inl ⟨by omega, by omega⟩))) dint (by decide)) dint (.inr ⟨by decide, by decide⟩))) dint (by decide)) (hN := scTake.nd)) ?_
    exact w_one (w_rts (dmod (dintI (by rfl) B.int bt_int (ddiv (dvar 6) dint (by decide) (by decide))) (dvar 1) h0) ⟨_, Int.emod_nonneg _ (by omega), Int.emod_lt_of_pos _ h0, rfl⟩ ⟨i, j, k, ⟨g1, g2, g3, g4⟩, rfl⟩)
theorem take_head {f : Addr} {k0 : Nat} (B : Bi mg) (cdv : Value) (A : Around) (outer : List Env) (s : Shared) (H : Hp) (E : XK) (hr : Room k0 (A.deeper (PyProof.Rows.envOfC "_law_take" (defScope sTake) s.heap.objs.size f cdv))) {a c : Addr} {ns : List Int} {m i j k : Int} (hl : ns.length ≤ 1000) (hp : ∀ n ∈ ns, (0 : Int) ≤ n) (h0 : 0 < m) (h1 : m ≤ 1000) (g : GoodB i j k) :
    PSs (cxOf CX0 P w K mg base ["_law_bag_here", "_law_many", "_law_cell", "_law_mixed_here", "_law_drawn", "_law_early", "_law_second"] "_law_take" (defScope sTake) f cdv A outer s H E).nox (defBody sTake) (tW K [.bg a c i j k ns, .fr (.d (.int m)), .un, .un, .un, .un, .un] (.rts (IntIn 0 m) (bagT a c ns))) := by
  have tail : ∀ {i j k : Int}, GoodB i j k → _ := fun {i j k} g => take_tail (P := P) (w := w) (K := K) (base := base) B cdv A outer s H E hr (a := a) (c := c) (ns := ns) h0 h1 (i := i) (j := j) (k := k) g
  by_cases hi : i = 0
  · obtain ⟨g1, g2, g3, g4⟩ := g
    obtain ⟨kn, rfl⟩ := Int.eq_ofNat_of_zero_le g4
    have hcv : 0 ≤ (ns.drop kn).headD 0 := by
      cases e : ns.drop kn with
      | nil => exact Int.le_refl 0
      | cons x r => exact hp x (List.mem_of_mem_drop (by rw [e]; exact List.mem_cons_self))
    have hat : atI ((ns.drop kn).map PyData.int ++ [.int 0]) 0 = some (.int ((ns.drop kn).headD 0)) := by
      cases ns.drop kn with
      | nil => exact at0
      | cons x r => exact at0
    generalize (ns.drop kn).headD 0 = cw at hcv hat
    have hcl : ns.length ≤ 1000 := hl
    have gn : GoodB (cw * (if decide ((10 : Int) ^ (18 : Int).toNat ≤ cw) = true then 1 else 0)) ((j * 48271 + cw % 2147483647 + 7919 * ((kn : Int) + 1)) % 2147483647) ((kn : Int) + 1) := by
      refine ⟨?_, Int.emod_nonneg _ (by decide), Int.emod_lt_of_pos _ (by decide), by omega⟩
      split
      · omega
      · omega
    refine w_cons (w_if (k := true) (O := .nx [.bg a c (cw * (if decide ((10 : Int) ^ (18 : Int).toNat ≤ cw) = true then 1 else 0)) ((j * 48271 + cw % 2147483647 + 7919 * ((kn : Int) + 1)) % 2147483647) ((kn : Int) + 1) ns, .fr (.d (.int m)), .un, .un, .un, .un, .un]) ((ct (c_eq (u64 hr) (d2x (bgI (v := i) 0 dint rfl)) (d2x dint) (sh_int _) (sh_int _))).eqT (by rw [eqv_int, decide_eq_true hi])) (fun _ => ?_) (fun z => nomatch z)) (tail gn)
    refine w_wk (ρ1 := [.bg a c (cw * (if decide ((10 : Int) ^ (18 : Int).toNat ≤ cw) = true then 1 else 0)) ((j * 48271 + cw % 2147483647 + 7919 * ((kn : Int) + 1)) % 2147483647) ((kn : Int) + 1) ns, .fr (.d (.int m)), .fr (.d (.int cw)), .fr (.d (.int (j * 48271 + cw % 2147483647 + 7919 * ((kn : Int) + 1)))), .un, .un, .un]) ?_ (.keep (.keep (.drop (.drop (.keep (.keep (.keep .nil)))))))
    refine w_cons (w_set (d := .d (.int cw)) 2 (ixS (ds := (ns.drop kn).map .int ++ [.int 0]) (n2s (ncat (n2l ((slS (bgL 0 dint rfl) (o_so (bgI (v := (kn : Int)) 0 dint rfl)) o_no (sz (by rw [List.length_map]; omega))).eqN (es := (ns.drop kn).map .int) (by rw [cut_from, List.map_drop]))) (n2l (nlst (ds := [.int 0]) (ac dint an))) (sz (by rw [List.length_map, List.length_drop]; simp only [List.length_singleton]; omega)))) dint hat) (hN := scTake.nd)) ?_
    refine w_cons (bgAdd 0 dint dint) ?_
    refine w_cons (bgSet (i' := cw * (if decide ((10 : Int) ^ (18 : Int).toNat ≤ cw) = true then 1 else 0)) (j' := j) (k' := (kn : Int) + 1) 0 0 dint (dmul (dvar 2) (dintB (by rfl) B.int bt_int (cv (c_int op_ge (dvar 2) (dpow dint dint ⟨by decide, by decide, by decide⟩)))) (.inr ?_)) (by decide) rfl) ?_
    · split <;> exact ⟨by decide, by decide⟩
    refine w_cons (w_set (d := .d (.int (j * 48271 + cw % 2147483647 + 7919 * ((kn : Int) + 1)))) 3 (dadd (dadd (dmul (bgI (v := j) 0 dint rfl) dint (.inr ⟨by decide, by decide⟩)) (dmod (dintI (by rfl) B.int bt_int (dvar 2)) dint (by decide))) (dmul dint (bgI (v := (kn : Int) + 1) 0 dint rfl) (.inl ⟨by decide, by decide⟩))) (hN := scTake.nd)) ?_
    exact w_one (bgSet (i' := _) (j' := (j * 48271 + cw % 2147483647 + 7919 * ((kn : Int) + 1)) % 2147483647) (k' := _) 0 1 dint (dmod (dintI (by rfl) B.int bt_int (dvar 3)) dint (by decide)) (by decide) rfl)
  · refine w_cons (w_if (k := false) ((ct (c_eq (u64 hr) (d2x (bgI (v := i) 0 dint rfl)) (d2x dint) (sh_int _) (sh_int _))).eqT (by rw [eqv_int, decide_eq_false hi])) (fun z => nomatch z) (fun _ => w_nil)) ?_
    exact tail g
theorem ok_take {f : Addr} {fd : FuncData} {k : Nat} (F : Fun K "_law_take" "_law_take" sTake f fd) (B : Bi mg) : FnOk P w K mg base CX0 (k + 1) f fd ["_law_bag_here", "_law_many"] (spE K RTake) := by
  refine F.ok scTake (fun vs H Q E ⟨F, ds, S, l, q, ⟨m, _, _, e, _⟩, _⟩ => ?_) (fun cdv A outer s H vs Q E hr ⟨F, ds, S, l, q, ⟨m, h0, h1, eds, eS⟩, kk⟩ => ?_)
  · subst e
    have z := Paired.length q
    exact z
  subst eds eS
  cases q with
  | cons qb qr =>
    cases qr with
    | cons qm qn =>
      cases qn
      obtain ⟨a, c, ns, rfl, hne, fa, fc, hl, hp⟩ := qb
      cases (show Dp K F _ (.int m) from qm)
      have ha := l.ex _ _ fa
      refine ⟨_, pss_bag (PSs.all (ι := { p : Int × Int × Int // GoodB p.1 p.2.1 p.2.2 }) fun x => take_head B cdv A outer s H E hr (a := a) (c := c) hl hp h0 h1 x.2), a, c, ha, fun i j k g => ⟨⟨(i, j, k), g⟩, ?_⟩⟩
      let F0 : Hp := fun x => if x = a then none else F x
      have f0a : F0 a = none := if_pos rfl
      have f0n : ∀ x, x ≠ a → F0 x = F x := fun x n => if_neg n
      have f0s : ∀ x o, F0 x = some o → x ≠ a ∧ F x = some o := fun x o e => by
        by_cases z : x = a
        · rw [z, f0a] at e; cases e
        · exact ⟨z, by rw [← f0n x z]; exact e⟩
      have l0 : Le F0 (upd H a (.lst (bgV i j k c))) := by
        refine ⟨fun x u pu r => ?_, fun x e => ?_, fun x φ e => ?_, fun x ⟨o, xs, e, d⟩ => ?_⟩
        · have z : x ≠ a ∧ Rd F x u := by
            rcases r with r | ⟨o, r⟩
            · exact ⟨(f0s x _ r).1, .inl (f0s x _ r).2⟩
            · exact ⟨(f0s x _ r).1, .inr ⟨o, (f0s x _ r).2⟩⟩
          rcases l.rd x u pu z.2 with w | ⟨o, w⟩
          · exact .inl (by rw [upd_ne z.1]; exact w)
          · exact .inr ⟨o, by rw [upd_ne z.1]; exact w⟩
        · by_cases z : x = a
          · rw [z]; exact f0a
          · rw [upd_ne z] at e
            rw [f0n x z]
            exact l.dom x e
        · obtain ⟨z1, z2⟩ := f0s x _ e
          rw [upd_ne z1]
          exact l.ex x φ z2
        · obtain ⟨z1, z2⟩ := f0s x _ e
          obtain ⟨o2, xs2, e2, d2⟩ := l.fz x ⟨o, xs, z2, d⟩
          exact ⟨o2, xs2, by rw [upd_ne z1]; exact e2, d2⟩
      have fc0 : Rd F0 c (.lst (ns.map V.int)) := by
        rcases fc with r | ⟨o, r⟩
        · exact .inl (by rw [f0n c (fun z => hne z.symm)]; exact r)
        · exact .inr ⟨o, by rw [f0n c (fun z => hne z.symm)]; exact r⟩
      have rest := rep_start (K := K) (F := F0) (H := upd H a (.lst (bgV i j k c))) 5 (Paired.cons (show Is K F0 (.int m) (.d (.int m)) from Dp.int m) Paired.nil)
      refine ⟨F0, [a], l0, ⟨RepL.cons (A := [a]) (B := []) ⟨rfl, rfl, upd_same, fc0⟩ rest (fun _ _ z => nomatch z), fun x z => by rw [List.mem_singleton.mp z]; exact f0a⟩, ?_⟩
      intro ρ' F' H' σ' A' v d ⟨i', j', k', g', e'⟩ st rp ⟨r, hr0, hr1, ed⟩ is
      subst ed
      cases (show Dp K F' v (.int r) from is)
      obtain ⟨_, _, eH, _⟩ := rp.bg e'
      have same : Same H (upd H' a (bagO a c)) := fun x o e => by
        by_cases z : x = a
        · rw [z] at e ⊢
          rw [upd_same]
          exact ha.symm.trans e
        · rw [upd_ne z]
          exact st.hh x o (by simpa using z) (by rw [upd_ne z]; exact e)
      exact ⟨i', j', k', g', eH, kk F (upd H' a (bagO a c)) _ (.d (.int r)) ⟨r, hr0, hr1, rfl⟩ ⟨.refl F, l.trans (.of same), same, fun _ z _ => z⟩ (Dp.int r)⟩
end
end KL
/-! B13: the law's drawing: mixed, arrow, full steps. -/
namespace KL
open PySem PySem.Spec L2
def RMix : List D → (D → Prop) → Prop := fun ds S => ∃ (xs : List Str) (th : D), xs.length ≤ 20 ∧ (th = .d (nmD xs) ∨ th = .d (axD xs)) ∧ ds = [.bag, th] ∧ S = fun d => ∃ ys : List Str, ys.Perm xs ∧ d = .d (nmD ys)
abbrev sMix : Stmt := top 48
theorem scMix : FnScope ["_law_bag_here", "_law_things", "_law_found", "_law_thing"] ["_law_bag_here", "_law_things"] (defScope sMix) := ⟨rfl, rfl, rfl, by decide +kernel, rfl, by decide +kernel, by decide +kernel⟩
def RArrow : List D → (D → Prop) → Prop := fun ds S => ∃ (a b : Str) (l : List Str), ds = [.bag, .d (.str a), .d (.str b), .d (axD l)] ∧ S = fun d => d = .d (prD (a, b, l)) ∨ d = .d (prD (b, a, l))
abbrev sArrow : Stmt := top 55
theorem scArrow : FnScope ["_law_bag_here", "_law_one", "_law_other", "_law_axes"] ["_law_bag_here", "_law_one", "_law_other", "_law_axes"] (defScope sArrow) := ⟨rfl, rfl, rfl, by decide +kernel, rfl, by decide +kernel, by decide +kernel⟩
def axesAll : List Str := ["i", "j", "k", "m", "ab"]
def namesAll : List Str := ["a", "b", "c", "d", "e", "f", "tmp", "abcdef"]
/-- the axes and the names drawn -/
structure Drawn (n : Nat) (names axes : List Str) : Prop where
  nn : names.length = n
  nm : ∃ ys : List Str, ys.Perm namesAll ∧ names = ys.take n
  ax : ∃ (ys : List Str) (j : Nat), ys.Perm axesAll ∧ 2 ≤ j ∧ j ≤ 5 ∧ axes = sortS (ys.take j)
def RFull : List D → (D → Prop) → Prop := fun ds S => ∃ n : Nat, n ≤ 8 ∧ ds = [.bag, .d (.int (n : Nat))] ∧ S = fun d => ∃ names axes, Drawn n names axes ∧ d = .d (.tuple [.list (names.map fun x => stD (x, axes)), axD axes])
abbrev sFull : Stmt := top 56
theorem scFull : FnScope ["_law_bag_here", "_law_many", "_law_axes", "_law_name"] ["_law_bag_here", "_law_many"] (defScope sFull) := ⟨rfl, rfl, rfl, by decide +kernel, rfl, by decide +kernel, by decide +kernel⟩
theorem insert_perm {α : Type} (ys : List α) (n : Nat) (a : α) : (ys.take n ++ [a] ++ ys.drop n).Perm (ys ++ [a]) := by
  have h : (ys.take n ++ [a] ++ ys.drop n).Perm (ys.take n ++ (ys.drop n ++ [a])) := by
    rw [List.append_assoc]
    exact List.Perm.append_left _ List.perm_append_comm
  rw [← List.append_assoc, List.take_append_drop] at h
  exact h
theorem cut_to (ds : List PyData) (n : Nat) : cutD ds none (some (n : Int)) = ds.take n := by
  unfold cutD
  rw [HT.sIx_none, HT.sIx_nat, List.drop_zero, Nat.sub_zero]
  by_cases h : n ≤ ds.length
  · rw [Nat.min_eq_left h]
  · rewrite [Nat.min_eq_right (by omega)]; rw [List.take_of_length_le (Nat.le_refl _), List.take_of_length_le (by omega)]
theorem ins_len (n : Nat) : (n : Int) + 1 ≤ 1000 ↔ n + 1 ≤ 1000 := by omega
theorem tAE_of {X : Cx} {ρ : List Sl} {es : List Expr} {T T2 : List D → Prop} (h : PA X es (tAE X.K ρ T)) (q : ∀ l, T l → T2 l) : PA X es (tAE X.K ρ T2) := h.imp fun σ H Q ⟨F, A, l, rp, k⟩ => ⟨F, A, l, rp, fun F' H' vs ds t => k F' H' vs ds (q ds t)⟩
section
variable {mg : Str → Option Value} {base : Heap} {P : Program} {w : World} {K : PySem.W.Frag}
theorem ok_mix {f : Addr} {fd : FuncData} {k : Nat} (F : Fun K "_law_mixed" "_law_mixed" sMix f fd) (B : Bi mg) (GT : CalE P w K mg base k "_law_take" RTake) : FnOk P w K mg base CX0 (k + 1) f fd ["_law_bag_here", "_law_things"] (spE K RMix) := by
  refine def_ofE F scMix (fun ds S ⟨_, _, _, _, e, _⟩ => by rw [e]; rfl) fun cdv A outer s H E hr ds S ⟨xs, th, hl, ht, eds, eS⟩ => ?_
  subst eds eS
  refine w_cons (w_own (ds := []) 2 (nlst (ds := []) an) (hN := scMix.nd)) ?_
  refine w_consE (w_forE (xs := xs) (enc := .str) (vs := [3]) (fun i r => ∃ ys : List Str, ys.Perm (xs.take i) ∧ r = [.fr .bag, .fr th, .ow (ys.map .str), .un])
    (fun r x => r.set 3 (.fr (.d (.str x)))) ?_ ⟨[], by simp, rfl⟩ (fun i x r hx ⟨ys, py, er⟩ => ?_) (fun i x r hx ⟨ys, py, er⟩ => ?_)) (fun r ⟨ys, py, er⟩ => ?_)
  · rcases ht with e | e
    · subst e; exact i_l (dvar 1)
    · subst e; exact i_t (dvar 1)
  · subst er
    exact g_name 3 scMix.nd
  · subst er
    have hyl : ys.length ≤ 20 := by
      rw [py.length_eq, List.length_take]
      omega
    refine w_subE (w_oneE (w_insertE (S := IntIn 0 ((ys.length : Int) + 1)) (a := .str x) (ds := ys.map .str) 2 (callE GT hr (ar2e (ac (dvar 0) (ac ((dadd (lenS (ds := ys.map .str) (by rfl) B.len (svar 2)) dint).eqD (d2 := .d (.int ((ys.length : Int) + 1))) (by rw [List.length_map])) an))) fun dl e => ⟨_, by omega, by omega, e, rfl⟩) (fun d ⟨r, h0, h1, e⟩ => ⟨r.toNat, by rw [e, Int.toNat_of_nonneg h0], by omega⟩) (dvar 3) (by rw [List.length_map]; exact szl (by omega)))) fun r ⟨n, _, er⟩ => ⟨_, ?_, ys.take n ++ [x] ++ ys.drop n, ?_, rfl⟩
    · rw [er]
      simp only [List.map_append, List.map_take, List.map_drop]
      exact .keep (.keep (.keep (.drop .nil)))
    · refine (insert_perm ys n x).trans ?_
      rw [List.take_add_one, hx]
      exact List.Perm.append_right _ py
  · subst er
    rw [List.take_length] at py
    exact w_freeze 2 (w_one (w_retE (toE (S := fun d => d = .d (nmD ys)) (dvar 2) rfl) fun d e => ⟨ys, py, e⟩))
theorem ok_arrow {f : Addr} {fd : FuncData} {k : Nat} (F : Fun K "_law_arrow" "_law_arrow" sArrow f fd) (B : Bi mg) (GT : CalE P w K mg base k "_law_take" RTake) : FnOk P w K mg base CX0 (k + 1) f fd ["_law_bag_here", "_law_one", "_law_other", "_law_axes"] (spE K RArrow) := by
  refine def_ofE F scArrow (fun ds S ⟨_, _, _, e, _⟩ => by rw [e]; rfl) fun cdv A outer s H E hr ds S ⟨a, b, l, eds, eS⟩ => ?_
  subst eds eS
  exact w_one (w_retE (ifE (R := RE K fun d => d = .d (prD (a, b, l)) ∨ d = .d (prD (b, a, l))) (eqE (callE (S := IntIn 0 2) GT hr (ar2e (ac (dvar 0) (ac dint an))) fun dl e => ⟨2, by decide, by decide, e, rfl⟩) (toE (S := fun d => d = .d (.int 0)) dint rfl) (fun d ⟨r, _, _, e⟩ => ⟨r, e⟩) (fun d e => ⟨0, e⟩))
    (toE (dtup (ds := [.str a, .str b, axD l]) (ac (dvar 1) (ac (dvar 2) (ac (dvar 3) an)))) (.inl rfl)) (toE (dtup (ds := [.str b, .str a, axD l]) (ac (dvar 2) (ac (dvar 1) (ac (dvar 3) an)))) (.inr rfl))) fun d h => h)
theorem ok_full {f : Addr} {fd : FuncData} {k : Nat} (F : Fun K "_law_full_steps" "_law_full_steps" sFull f fd) (B : Bi mg) (GT : CalE P w K mg base k "_law_take" RTake) (GM : CalE P w K mg base k "_law_mixed" RMix) : FnOk P w K mg base CX0 (k + 1) f fd ["_law_bag_here", "_law_many"] (spE K RFull) := by
  refine def_ofE F scFull (fun ds S ⟨_, _, e, _⟩ => by rw [e]; rfl) fun cdv A outer s H E hr ds S ⟨n, hn, eds, eS⟩ => ?_
  subst eds eS
  refine w_consE (w_setE 2 (sl_of_e (tupE (by rfl) B.tuple bt_tuple (ne2s (srtE (SS := fun es => ∃ ys : List Str, ∃ j : Nat, ys.Perm axesAll ∧ 2 ≤ j ∧ j ≤ 5 ∧ es = (ys.take j).map .str) (u64 hr) (by rfl) B.sorted bt_sorted
    (tR.conv (ne2s (slE (e2se (callE (S := fun d => ∃ ys : List Str, ys.Perm axesAll ∧ d = .d (nmD ys)) GM hr (ar2e (ac (dvar 0) (ac (n2d (nlst (ds := axesAll.map .str) (ac dstr (ac dstr (ac dstr (ac dstr (ac dstr an))))))) an))) fun dl e => ⟨axesAll, _, by decide, .inl rfl, e, rfl⟩) (fun d ⟨ys, _, e⟩ => ⟨_, e⟩)) o_noE
      (o_soE (S := IntIn 2 6) (addE (toE (S := fun d => d = .d (.int 2)) dint rfl) (callE (S := IntIn 0 4) GT hr (ar2e (ac (dvar 0) (ac dint an))) fun dl e => ⟨4, by decide, by decide, e, rfl⟩) (fun d e => ⟨2, e⟩) (fun d ⟨r, _, _, e⟩ => ⟨r, e⟩) (fun i j h1 ⟨r, h2, h3, e⟩ => by
        cases h1
        cases e
        exact ⟨_, by omega, by omega, rfl⟩)) (fun d ⟨r, _, _, e⟩ => ⟨r, e⟩)) ?_)) ?_) ?_)))) (hN := scFull.nd)) ?_
  · rintro ds ⟨ys, py, e⟩
    cases e
    rw [List.length_map, py.length_eq]
    decide
  · rintro F H F' H' v l ex ⟨es, ⟨ds, lo, hi, ⟨ys, py, e1⟩, e2, ⟨i, e3, r, h2, h3, e4⟩, e5⟩, q⟩
    cases e1
    cases e4
    subst e2 e3 e5
    refine ⟨F', ex, _, ⟨ys, i.toNat, py, by omega, by omega, ?_⟩, q⟩
    have er : i = ((i.toNat : Nat) : Int) := (Int.toNat_of_nonneg (by omega)).symm
    rw [er, cut_to, List.map_take]
    rfl
  · rintro ds ⟨ys, j, py, h2, h5, rfl⟩
    refine ⟨aa_strs _, so_strs _, de_strs _, ?_⟩
    rw [List.length_map, List.length_take, py.length_eq]
    exact sz (by omega)
  rintro r ⟨z, ⟨d, ⟨ds, ⟨es, ⟨ys, j, py, h2, h5, e1⟩, e2⟩, e3⟩, e4⟩, er⟩
  subst e1 e2 e3 e4 er
  have ea : srt ((ys.take j).map .str) = (sortS (ys.take j)).map .str := srt_strs _
  rw [ea]
  refine w_one (w_retE (dtupE (T := fun l => ∃ names : List Str, (∃ zs : List Str, zs.Perm namesAll ∧ names = zs.take n) ∧ l = [.d (.list (names.map fun x => stD (x, sortS (ys.take j)))), .d (axD (sortS (ys.take j)))]) ?_ ?_) ?_)
  · refine tAE_of (acE (ne2e (lcompE (own := [("_law_name", 3)]) (SA := fun names : List Str => ∃ zs : List Str, zs.Perm namesAll ∧ names = zs.take n) (enc := .str) (f := fun x => stD (x, sortS (ys.take j))) (ρ' := fun x => [.fr .bag, .fr (.d (.int (n : Nat))), .fr (.d (axD (sortS (ys.take j)))), .fr (.d (.str x))])
      (tR.conv (slE (e2se (callE (S := fun d => ∃ ys : List Str, ys.Perm namesAll ∧ d = .d (nmD ys)) GM hr (ar2e (ac (dvar 0) (ac (n2d (nlst (ds := namesAll.map .str) (ac dstr (ac dstr (ac dstr (ac dstr (ac dstr (ac dstr (ac dstr (ac dstr an)))))))))) an))) fun dl e => ⟨namesAll, _, by decide, .inl rfl, e, rfl⟩) (fun d ⟨ys, _, e⟩ => ⟨_, e⟩)) o_noE
        (o_soE (S := fun d => d = .d (.int (n : Nat))) (toE (dvar 1) rfl) (fun d e => ⟨_, e⟩)) ?_) ?_) (blkOk_by (own := [("_law_name", 3)]) (by kernel_rfl)) (fun x s H C cl fp => g_name 3 scFull.nd) (fun x s H C cl fp => dtup (ds := [.str x, axD (sortS (ys.take j))]) (ac (dvar 3) (ac (dvar 2) an))) ?_ (hN := scFull.nd))) (acE (toE (S := fun d => d = .d (axD (sortS (ys.take j)))) (dvar 2) rfl) anE)) ?_
    · rintro ds ⟨ys, py, e⟩
      cases e
      rw [List.length_map, py.length_eq]
      decide
    · rintro F H F' H' v l ex ⟨es, ⟨ds, lo, hi, ⟨ys, py, e1⟩, e2, ⟨i, e3, e4⟩, e5⟩, q⟩
      cases e1
      cases e4
      subst e2 e3 e5
      refine ⟨F', ex, _, ⟨ys.take n, ⟨ys, py, rfl⟩, ?_⟩, q⟩
      rw [cut_to, List.map_take]
    · rintro zs ⟨ys, py, rfl⟩
      rw [List.length_take]
      exact sz (by omega)
    · rintro l ⟨d1, ds1, e1, ⟨es, ⟨names, hn, e2⟩, e3⟩, d2, ds2, e4, e5, e6⟩
      subst e1 e2 e3 e4 e5 e6
      exact ⟨names, hn, rfl⟩
  · rintro l ⟨names, _, rfl⟩
    exact ⟨[.list (names.map fun x => stD (x, sortS (ys.take j))), axD (sortS (ys.take j))], rfl, small rfl⟩
  · rintro d ⟨ds, ⟨names, ⟨zs, pz, en⟩, e1⟩, e2⟩
    subst e2
    refine ⟨names, sortS (ys.take j), ⟨?_, ⟨zs, pz, en⟩, ⟨ys, j, py, h2, h5, rfl⟩⟩, ?_⟩
    · rw [en, List.length_take, pz.length_eq]
      exact Nat.min_eq_left hn
    · have : ds = [.list (names.map fun x => stD (x, sortS (ys.take j))), axD (sortS (ys.take j))] := by
        match ds, e1 with
        | [x, y], e1 => cases e1; rfl
      rw [this]
end
end KL
/-! B14: the law's plan of a row. -/
namespace KL
open PySem PySem.Spec L2
structure Lots where
  n : Nat
  names : List Str
  axes : List Str
  A : List Str
  B : List Str
  both : List Str
  rest : List Str
inductive LotIs (R : Lots) (k : Nat) : List Str → Prop
  | first (h : k = 0) : LotIs R k R.A
  | last (h0 : k ≠ 0) (h : k + 2 = R.n) : LotIs R k R.B
  | mid (h0 : k ≠ 0) (h : k + 2 ≠ R.n) (t : Nat) : LotIs R k (R.both ++ R.rest.take t)
def FoundIs (R : Lots) (k : Nat) (p : Str × Str × List Str) : Prop := ∃ l, LotIs R k l ∧ (p = (R.names.getD k ⟨#[]⟩, R.names.getD (k + 1) ⟨#[]⟩, setS l) ∨ p = (R.names.getD (k + 1) ⟨#[]⟩, R.names.getD k ⟨#[]⟩, setS l))
def FoundOk (R : Lots) (found : List (Str × Str × List Str)) : Prop := ∀ k p, found[k]? = some p → FoundIs R k p
structure LotsOk (R : Lots) : Prop where
  drawn : Drawn R.n R.names R.axes
  ex : ∃ (order : List Str) (at_ j1 j2 : Nat), order.Perm R.axes ∧ 1 ≤ at_ ∧ at_ + 1 ≤ order.length ∧ 1 ≤ j1 ∧ j1 ≤ 2 ∧ j2 ≤ 1 ∧ R.A = order.take at_ ∧ R.both = order.take at_ ++ (order.drop at_).take j1 ∧
    R.B = (order.drop at_).take j1 ++ ((order.take at_).drop 1).take j2 ∧ R.rest = R.axes.filter fun a => !decide (a ∈ R.both)
def sortSt (ss : List (Str × List Str)) : List (Str × List Str) := ss.mergeSort (PySem.W.dataLe false stD)
theorem srt_sts (ps : List (Str × List Str)) : srt (ps.map stD) = (sortSt ps).map stD := by
  unfold srt sortSt
  rw [PySem.W.sort_maps (r := PySem.W.dataLe false stD) (s := PySem.W.dataLe false fun d => d) stD (fun _ _ _ _ => rfl)]
theorem aa_sts (ps : List (Str × List Str)) : PySem.W.AllAlike (ps.map stD) := fun d hd d' hd' => by
  obtain ⟨x, _, rfl⟩ := List.mem_map.mp hd
  obtain ⟨y, _, rfl⟩ := List.mem_map.mp hd'
  simp [stD, axD, PySem.W.alike, PySem.W.alikeAll, alike_strs]
theorem so_sts (ps : List (Str × List Str)) : PySem.W.Sortable (ps.map stD) := .inl fun d hd => by
  obtain ⟨x, _, rfl⟩ := List.mem_map.mp hd
  exact ⟨_, _, rfl⟩
theorem de_sts (ps : List (Str × List Str)) : ∀ d ∈ ps.map stD, d.depth ≤ 20 := fun d hd => by
  obtain ⟨x, _, rfl⟩ := List.mem_map.mp hd
  simp [stD, axD, PyData.depth, PyData.depthAll, depth_strs]
def rowPlan (R : Lots) (found : List (Str × Str × List Str)) : Plan := ⟨sortSt (R.names.map fun x => (x, R.axes)), sortPr found⟩
structure RowP (n : Nat) (P : Plan) : Prop where
  ex : ∃ (R : Lots) (found : List (Str × Str × List Str)), R.n = n ∧ LotsOk R ∧ found.length = n - 1 ∧ FoundOk R found ∧ P = rowPlan R found
def RRow : List D → (D → Prop) → Prop := fun ds S => ∃ n : Nat, 4 ≤ n ∧ n ≤ 7 ∧ ds = [.bag, .d (.int (n : Nat))] ∧ S = fun d => ∃ P, RowP n P ∧ d = planF P
abbrev sRow : Stmt := top 57
theorem scRow : FnScope ["_law_bag_here", "_law_many", "_law_steps", "_law_axes", "_law_order", "_law_at", "_law_first", "_law_last", "_law_both", "_law_rest", "_law_found", "_law_k", "_law_lot", "_law_axis"] ["_law_bag_here", "_law_many"] (defScope sRow) := ⟨rfl, rfl, rfl, by decide +kernel, rfl, by decide +kernel, by decide +kernel⟩
theorem drawn_len {n : Nat} {names axes : List Str} (h : Drawn n names axes) : 2 ≤ axes.length ∧ axes.length ≤ 5 := by
  obtain ⟨ys, j, py, h2, h5, e⟩ := h.ax
  have : axes.length = j := by
    rw [e]
    unfold sortS
    rw [List.length_mergeSort, List.length_take, py.length_eq]
    exact Nat.min_eq_left h5
  omega
theorem cut_mid (ds : List PyData) (a b : Nat) : cutD ds (some (a : Int)) (some ((a + b : Nat) : Int)) = (ds.drop a).take b := by
  unfold cutD
  rw [HT.sIx_nat, HT.sIx_nat]
  by_cases h : a ≤ ds.length
  · rw [Nat.min_eq_left h]
    by_cases h2 : a + b ≤ ds.length
    · rw [Nat.min_eq_left h2, Nat.add_sub_cancel_left]
    · rw [Nat.min_eq_right (by omega), List.take_of_length_le (by rw [List.length_drop]; omega), List.take_of_length_le (by rw [List.length_drop]; omega)]
  · rw [Nat.min_eq_right (by omega), List.drop_of_length_le (by omega), List.drop_of_length_le (by omega), List.take_nil, List.take_nil]
theorem cutD_len (ds : List PyData) (l u : Option Int) : (cutD ds l u).length ≤ ds.length := by
  unfold cutD
  rewrite [List.length_take]; rw [List.length_drop]
  omega
theorem _root_.L2.PE.eqS {X : Cx} {ρ : List Sl} {e : Expr} {ds es : List PyData} (h : PE X e (tS X.K ρ ds)) (q : ds = es) : PE X e (tS X.K ρ es) := q ▸ h
section
variable {mg : Str → Option Value} {base : Heap} {P : Program} {w : World} {K : PySem.W.Frag}
theorem ok_row {f : Addr} {fd : FuncData} {k : Nat} (F : Fun K "_law_row_plan" "_law_row_plan" sRow f fd) (B : Bi mg) (GT : CalE P w K mg base k "_law_take" RTake) (GM : CalE P w K mg base k "_law_mixed" RMix) (GF : CalE P w K mg base k "_law_full_steps" RFull) (GA : CalE P w K mg base k "_law_arrow" RArrow) : FnOk P w K mg base CX0 (k + 1) f fd ["_law_bag_here", "_law_many"] (spE K RRow) := by
  refine def_ofE F scRow (fun ds S ⟨_, _, _, e, _⟩ => by rw [e]; rfl) fun cdv A outer s H E hr ds S ⟨n, h4, h7, eds, eS⟩ => ?_
  subst eds eS
  refine w_consE (w_unE (vs := [2, 3]) (fun x => match x with
    | .tuple [a, b] => [.fr .bag, .fr (.d (.int (n : Nat))), .fr (.d a), .fr (.d b), .un, .un, .un, .un, .un, .un, .un, .un, .un, .un]
    | _ => []) (callE (S := fun d => ∃ names axes, Drawn n names axes ∧ d = .d (.tuple [.list (names.map fun x => stD (x, axes)), axD axes])) GF hr (ar2e (ac (dvar 0) (ac (dvar 1) an))) fun dl e => ⟨n, by omega, e, rfl⟩) (fun d ⟨_, _, _, e⟩ => ⟨_, e⟩)
    (fun x ⟨names, axes, dr, e⟩ => by
      cases e
      exact g_tup rfl (gs_cons (g_name 2 scRow.nd) (gs_cons (g_name 3 scRow.nd) gs_nil)))) ?_
  rintro r ⟨x, ⟨names, axes, dr, e⟩, er⟩
  cases e
  subst er
  obtain ⟨ha2, ha5⟩ := drawn_len dr
  have hnl := dr.nn
  refine w_consE (w_setE 4 (sl_of_e (callE (S := fun d => ∃ ys : List Str, ys.Perm axes ∧ d = .d (nmD ys)) GM hr (ar2e (ac (dvar 0) (ac (dvar 3) an))) fun dl e => ⟨axes, _, by omega, .inr rfl, e, rfl⟩)) (hN := scRow.nd)) ?_
  rintro r ⟨z, ⟨d, ⟨order, po, e1⟩, e2⟩, er⟩
  subst e1 e2 er
  have hol : order.length = axes.length := po.length_eq
  refine w_consE (w_setE 5 (sl_of_e (addE (S := fun d => ∃ m : Nat, 1 ≤ m ∧ m + 1 ≤ order.length ∧ d = .d (.int (m : Nat))) (toE (S := fun d => d = .d (.int 1)) dint rfl) (callE (S := IntIn 0 ((order.length : Int) - 1)) GT hr (ar2e (ac (dvar 0) (ac ((dsub (lenS (ds := order.map .str) (by rfl) B.len (d2s (dvar 4))) dint).eqD (d2 := .d (.int ((order.length : Int) - 1))) (by rw [List.length_map])) an))) fun dl e => ⟨_, by omega, by omega, e, rfl⟩)
    (fun d e => ⟨1, e⟩) (fun d ⟨r, _, _, e⟩ => ⟨r, e⟩) (fun i j h1 ⟨r, h2, h3, e⟩ => by
      cases h1
      cases e
      exact ⟨(1 + j).toNat, by omega, by omega, by rw [Int.toNat_of_nonneg (by omega)]⟩))) (hN := scRow.nd)) ?_
  rintro r ⟨z, ⟨d, ⟨m, hm1, hm2, e1⟩, e2⟩, er⟩
  subst e1 e2 er
  refine w_consE (w_parE 6 7 (T1 := fun r => r = .ow ((order.take m).map .str)) (T2 := fun r => ∃ ds, (∃ j, 1 ≤ j ∧ j ≤ 2 ∧ ds = ((order.drop m).take j).map .str) ∧ r = .ow ds) (sl_of_n ((slS (d2s (dvar 4)) o_no (o_so (dvar 5)) (sz (by rw [List.length_map]; omega))).eqN (by rw [cut_to, List.map_take])))
    (sl_of_ne (tR.conv (slE (s2se (SS := fun ds => ds = order.map .str) (d2s (dvar 4)) rfl) (o_soE (S := fun d => d = .d (.int (m : Nat))) (toE (dvar 5) rfl) (fun d e => ⟨_, e⟩)) (o_soE (S := fun d => ∃ j : Nat, 1 ≤ j ∧ j ≤ 2 ∧ d = .d (.int ((m + j : Nat) : Int))) (addE (toE (S := fun d => d = .d (.int ((m : Int) + 1))) (dadd (dvar 5) dint) rfl) (callE (S := IntIn 0 2) GT hr (ar2e (ac (dvar 0) (ac dint an))) fun dl e => ⟨2, by decide, by decide, e, rfl⟩)
      (fun d e => ⟨_, e⟩) (fun d ⟨r, _, _, e⟩ => ⟨r, e⟩) (fun i j h1 ⟨r, h2, h3, e⟩ => by
        cases h1
        cases e
        exact ⟨(1 + j).toNat, by omega, by omega, by congr 2; omega⟩)) (fun d ⟨j, _, _, e⟩ => ⟨_, e⟩)) (fun ds e => by rw [e, List.length_map]; exact sz (by omega))) ?_)) (hN := scRow.nd)) ?_
  · rintro F H F' H' v l ex ⟨es, ⟨ds, lo, hi, e1, ⟨i1, e2, e3⟩, ⟨i2, e4, j, hj1, hj2, e5⟩, e6⟩, q⟩
    cases e3
    cases e5
    subst e1 e2 e4 e6
    exact ⟨F', ex, _, ⟨j, hj1, hj2, by rw [cut_mid, ← List.map_drop, ← List.map_take]⟩, q⟩
  rintro r ⟨z1, z2, e1, ⟨ds, ⟨j1, hj1, hj2, e2⟩, e3⟩, er⟩
  subst e1 e2 e3 er
  have tl1 : (order.take m).length ≤ 5 := by rw [List.length_take]; omega
  have tl2 : ((order.drop m).take j1).length ≤ 5 := by rw [List.length_take, List.length_drop]; omega
  refine w_cons (w_own (ds := (order.take m).map .str ++ ((order.drop m).take j1).map .str) 8 (ncat (lvar 6) (lvar 7) (sz (by rw [List.length_map, List.length_map]; omega))) (hN := scRow.nd)) ?_
  refine w_consE (w_setE 7 (TT := fun r => ∃ ds, (∃ j, j ≤ 1 ∧ ds = ((order.drop m).take j1 ++ ((order.take m).drop 1).take j).map .str) ∧ r = .ow ds) (sl_of_ne (tR.conv (catE (lvar 7) (slE (s2se (SS := fun ds => ds = (order.take m).map .str) (svar 6) rfl) (o_soE (S := fun d => d = .d (.int 1)) (toE dint rfl) (fun d e => ⟨_, e⟩)) (o_soE (S := fun d => ∃ j : Nat, j ≤ 1 ∧ d = .d (.int ((1 + j : Nat) : Int))) (addE (toE (S := fun d => d = .d (.int 1)) dint rfl) (callE (S := IntIn 0 2) GT hr (ar2e (ac (dvar 0) (ac dint an))) fun dl e => ⟨2, by decide, by decide, e, rfl⟩)
      (fun d e => ⟨_, e⟩) (fun d ⟨r, _, _, e⟩ => ⟨r, e⟩) (fun i j h1 ⟨r, h2, h3, e⟩ => by
        cases h1
        cases e
        exact ⟨j.toNat, by omega, by congr 2; omega⟩)) (fun d ⟨j, _, e⟩ => ⟨_, e⟩)) (fun ds e => by rw [e, List.length_map]; exact sz (by omega))) ?_) ?_)) (hN := scRow.nd)) ?_
  · rintro es ⟨ds, l, u, e1, _, _, e2⟩
    have cl := cutD_len ds l u
    rw [e1, List.length_map] at cl
    rw [e2, List.length_map]
    rw [e1]
    exact sz (by omega)
  · rintro F H F' H' v l ex ⟨zs, ⟨es, ⟨ds, lo, hi, e1, ⟨i1, e2, e3⟩, ⟨i2, e4, j, hj1, e5⟩, e6⟩, e7⟩, q⟩
    cases e3
    cases e5
    subst e1 e2 e4 e6 e7
    refine ⟨F', ex, _, ⟨j, hj1, ?_⟩, q⟩
    rw [show (1 : Int) = ((1 : Nat) : Int) from rfl, cut_mid]
    simp only [List.map_append, List.map_take, List.map_drop]
  rintro r ⟨z, ⟨ds, ⟨j2, hj2', e1⟩, e2⟩, er⟩
  subst e1 e2 er
  let R : Lots := ⟨n, names, axes, order.take m, (order.drop m).take j1 ++ ((order.take m).drop 1).take j2, order.take m ++ (order.drop m).take j1, axes.filter fun a => !decide (a ∈ order.take m ++ (order.drop m).take j1)⟩
  have Rok : LotsOk R := ⟨dr, order, m, j1, j2, po, hm1, hm2, hj1, hj2, hj2', rfl, rfl, rfl, rfl⟩
  have eA : R.A = order.take m := rfl
  have eB : R.B = (order.drop m).take j1 ++ ((order.take m).drop 1).take j2 := rfl
  have eb : R.both = order.take m ++ (order.drop m).take j1 := rfl
  have er : R.rest = axes.filter fun a => !decide (a ∈ R.both) := rfl
  have eN : R.names = names := rfl
  have en : R.n = n := rfl
  have ex : R.axes = axes := rfl
  have rlen : R.rest.length ≤ 5 := Nat.le_trans (List.length_filter_le ..) ha5
  have blen : R.both.length ≤ 10 := by rw [eb, List.length_append]; omega
  have Blen : R.B.length ≤ 10 := by rw [eB, List.length_append, List.length_take (l := (order.take m).drop 1), List.length_drop]; omega
  have e8 : (order.take m).map PyData.str ++ ((order.drop m).take j1).map .str = R.both.map .str := by rw [eb, List.map_append]
  show PSs _ _ (tW _ [.fr .bag, .fr (.d (.int (n : Nat))), .fr (.d (.list (R.names.map fun x => stD (x, R.axes)))), .fr (.d (axD R.axes)), .fr (.d (nmD order)), .fr (.d (.int (m : Nat))), .ow (R.A.map .str), .ow (R.B.map .str), .ow ((order.take m).map PyData.str ++ ((order.drop m).take j1).map .str), .un, .un, .un, .un, .un] _)
  rw [e8]
  have eA0 : R.A.length ≤ 5 := by rw [eA]; exact tl1
  clear_value R
  clear e8 eA eB eb
  subst eN en ex
  refine w_cons (w_par 9 10 (r1 := .ow (R.rest.map .str)) (r2 := .ow []) ((lcomp (own := [("_law_axis", 13)]) (xs := R.axes) (enc := .str) (pr := fun a => !decide (a ∈ R.both)) (f := .str)
    (ρ' := fun a => [.fr .bag, .fr (.d (.int (R.n : Nat))), .fr (.d (.list (R.names.map fun x => stD (x, R.axes)))), .fr (.d (axD R.axes)), .fr (.d (nmD order)), .fr (.d (.int (m : Nat))), .ow (R.A.map .str), .ow (R.B.map .str), .ow (R.both.map .str), .un, .un, .un, .un, .fr (.d (.str a))])
    (i_t (dvar 3)) (blkOk_by (own := [("_law_axis", 13)]) (by kernel_rfl)) (fun a ha s H C cl fp => g_name 13 scRow.nd) (fun a ha s H C cl fp => pts_if ((ct (c_ni (dvar 13) (svar 8) rfl (strs_flat _))).eqT (by rw [any_str]))) (fun a ha hpr s H C cl fp => dvar 13) (sz (by omega)) (hN := scRow.nd)).eqN (by rw [er])) (nlst (ds := []) an) (hN := scRow.nd)) ?_
  refine w_freeze 6 (w_freeze 7 ?_)
  show PSs _ _ (tW _ [.fr .bag, .fr (.d (.int (R.n : Nat))), .fr (.d (.list (R.names.map fun x => stD (x, R.axes)))), .fr (.d (axD R.axes)), .fr (.d (nmD order)), .fr (.d (.int (m : Nat))), .fr (.d (nmD R.A)), .fr (.d (nmD R.B)), .ow (R.both.map .str), .ow (R.rest.map .str), .ow [], .un, .un, .un] _)
  refine w_consE (w_forE (xs := List.range (R.n - 1)) (enc := fun i => .int (i : Nat)) (vs := [11]) (fun i r => ∃ found, found.length = i ∧ FoundOk R found ∧ r = [.fr .bag, .fr (.d (.int (R.n : Nat))), .fr (.d (.list (R.names.map fun x => stD (x, R.axes)))), .fr (.d (axD R.axes)), .fr (.d (nmD order)), .fr (.d (.int (m : Nat))), .fr (.d (nmD R.A)), .fr (.d (nmD R.B)), .ow (R.both.map .str), .ow (R.rest.map .str), .ow (found.map prD), .un, .un, .un])
    (fun r x => r.set 11 (.fr (.d (.int (x : Nat))))) (i_range (n := R.n - 1) (by rfl) B.range ((dsub (dvar 1) dint).eqD (by congr 2; omega)) (by omega)) ⟨[], rfl, fun k p h => by simp at h, rfl⟩ (fun i x r hx ⟨found, hf, fo, e⟩ => ?_) (fun i x r hx ⟨found, hf, fo, e⟩ => ?_)) (fun r ⟨found, hf, fo, e⟩ => ?_)
  · subst e
    exact g_name 11 scRow.nd
  · subst e
    have hxi : x = i ∧ i < R.n - 1 := by
      obtain ⟨h1, h2⟩ := List.getElem?_eq_some_iff.mp hx
      rw [List.length_range] at h1
      rw [List.getElem_range] at h2
      exact ⟨h2.symm, h1⟩
    obtain ⟨rfl, hlt⟩ := hxi
    have hA : R.A.length ≤ 20 := by omega
    refine w_consE (w_setE 12 (sl_of_e (S := fun d => ∃ l, LotIs R x l ∧ l.length ≤ 20 ∧ d = .d (nmD l)) (dif (R := RE _ fun d => ∃ l, LotIs R x l ∧ l.length ≤ 20 ∧ d = .d (nmD l)) (hk := bk_e) (k := decide (x = 0)) ((ct (c_eq (u64 hr) (d2x (dvar 11)) (d2x dint) (sh_int _) (sh_int _))).eqT ?_) (fun hk => toE (dvar 6) ⟨R.A, .first (of_decide_eq_true hk), hA, rfl⟩)
      (fun hk => dif (R := RE _ fun d => ∃ l, LotIs R x l ∧ l.length ≤ 20 ∧ d = .d (nmD l)) (hk := bk_e) (k := decide (x + 2 = R.n)) ((ct (c_eq (u64 hr) (d2x (dvar 11)) (d2x (dsub (dvar 1) dint)) (sh_int _) (sh_int _))).eqT ?_) (fun hk2 => toE (dvar 7) ⟨R.B, .last (of_decide_eq_false hk) (of_decide_eq_true hk2), by omega, rfl⟩)
        (fun hk2 => (ne2e (catE (lvar 8) (slE (s2se (SS := fun ds => ds = R.rest.map .str) (svar 9) rfl) o_noE (o_soE (S := IntIn 0 ((R.rest.length : Int) + 1)) (callE GT hr (ar2e (ac (dvar 0) (ac ((dadd (lenS (ds := R.rest.map .str) (by rfl) B.len (svar 9)) dint).eqD (d2 := .d (.int ((R.rest.length : Int) + 1))) (by rw [List.length_map])) an))) fun dl e => ⟨_, by omega, by omega, e, rfl⟩) (fun d ⟨r, _, _, e⟩ => ⟨r, e⟩)) (fun ds e => by rw [e, List.length_map]; exact sz (by omega))) ?_)).subE ?_)))) (hN := scRow.nd)) ?_
    · rw [eqv_int]
      by_cases z : x = 0
      · subst z; rfl
      · rw [decide_eq_false z, decide_eq_false (by omega)]
    · rw [eqv_int]
      by_cases z : x + 2 = R.n
      · rw [decide_eq_true z, decide_eq_true (by omega)]
      · rw [decide_eq_false z, decide_eq_false (by omega)]
    · rintro es ⟨ds, l, u, e1, _, _, e2⟩
      have cl := cutD_len ds l u
      rw [e1, List.length_map] at cl
      rw [e2, List.length_map, e1]
      exact sz (by omega)
    · rintro d ⟨zs, ⟨es, ⟨ds, lo, hi, e1, e2, ⟨i, e3, t, ht1, ht2, e4⟩, e5⟩, e6⟩, e7⟩
      cases e4
      subst e1 e2 e3 e5 e6 e7
      refine ⟨R.both ++ R.rest.take i.toNat, .mid (of_decide_eq_false hk) (of_decide_eq_false hk2) _, ?_, ?_⟩
      · rw [List.length_append, List.length_take]; omega
      · have ei : i = ((i.toNat : Nat) : Int) := (Int.toNat_of_nonneg ht1).symm
        rw [ei, cut_to, Int.toNat_natCast]
        simp [nmD, List.map_take]
    rintro r ⟨z, ⟨d, ⟨l, li, ll, e1⟩, e2⟩, er⟩
    subst e1 e2 er
    have g1 : (R.names.map fun x => stD (x, R.axes))[x]? = some (stD (R.names.getD x ⟨#[]⟩, R.axes)) := by
      rw [List.getElem?_map, List.getElem?_eq_getElem (by omega), List.getD_eq_getElem?_getD, List.getElem?_eq_getElem (by omega)]
      rfl
    have g2 : (R.names.map fun x => stD (x, R.axes))[x + 1]? = some (stD (R.names.getD (x + 1) ⟨#[]⟩, R.axes)) := by
      rw [List.getElem?_map, List.getElem?_eq_getElem (by omega), List.getD_eq_getElem?_getD, List.getElem?_eq_getElem (by omega)]
      rfl
    refine w_subE (w_oneE (w_appendE (S := fun d => d = .d (prD (R.names.getD x ⟨#[]⟩, R.names.getD (x + 1) ⟨#[]⟩, setS l)) ∨ d = .d (prD (R.names.getD (x + 1) ⟨#[]⟩, R.names.getD x ⟨#[]⟩, setS l))) (ds := found.map prD) 10 (callE GA hr (ar2e (ac (dvar 0)
      (ac (ixT (ds := [.str (R.names.getD x ⟨#[]⟩), axD R.axes]) (ixS (ds := R.names.map fun x => stD (x, R.axes)) (d2s (dvar 2)) (dvar 11) (atI_nat g1)) dint at0) (ac (ixT (ds := [.str (R.names.getD (x + 1) ⟨#[]⟩), axD R.axes]) (ixS (ds := R.names.map fun x => stD (x, R.axes)) (d2s (dvar 2)) (dadd (dvar 11) dint) (atI_nat (j := x + 1) g2)) dint at0)
      (ac (tupS (by rfl) B.tuple bt_tuple (n2s (setsrt (ks := l) (ds := setS l) (u64 hr) (by rfl) B.sorted bt_sorted (by rfl) B.set bt_set (d2s (dvar 12)) (by omega) (setS_ok l)))) an))))) fun dl e => ⟨_, _, setS l, e, rfl⟩) (fun d h => by rcases h with h | h <;> exact ⟨_, h⟩) (by rw [List.length_map]; exact szl (by omega)))) fun r ⟨a, ha, er⟩ => ?_
    have hp : ∃ p, FoundIs R x p ∧ a = prD p := by
      rcases ha with ha | ha
      · cases ha; exact ⟨_, ⟨l, li, .inl rfl⟩, rfl⟩
      · cases ha; exact ⟨_, ⟨l, li, .inr rfl⟩, rfl⟩
    obtain ⟨p, fp, rfl⟩ := hp
    refine ⟨_, ?_, found ++ [p], by rw [List.length_append, hf]; rfl, fun k q hq => ?_, rfl⟩
    · rw [er, List.map_append]
      exact .keep (.keep (.keep (.keep (.keep (.keep (.keep (.keep (.keep (.keep (.keep (.drop (.drop (.keep .nil)))))))))))))
    · by_cases z : k < found.length
      · rw [List.getElem?_append_left z] at hq
        exact fo k q hq
      · rw [List.getElem?_append_right (by omega)] at hq
        have hk0 : k - found.length = 0 := by
          have := (List.getElem?_eq_some_iff.mp hq).1
          simp only [List.length_singleton] at this
          omega
        rw [hk0] at hq
        cases hq
        have : k = x := by omega
        rw [this]
        exact fp
  · subst e
    rw [List.length_range] at hf
    refine w_one (w_retE (toE (S := fun d => d = planF (rowPlan R found)) ((dtupF (ds := srt ((R.names.map fun x => (x, R.axes)).map stD)) (es := [.tuple (srt (found.map prD))]) (ac (tupF (by rfl) B.tuple bt_tuple (n2s (srtS (u64 hr) (by rfl) B.sorted bt_sorted ((d2s (dvar 2)).eqS (by rw [List.map_map]; rfl)) (aa_sts _) (so_sts _) (de_sts _) (sz ?_))))
      (ac (tupS (by rfl) B.tuple bt_tuple (n2s (srtS (u64 hr) (by rfl) B.sorted bt_sorted (svar 10) (aa_prs _) (so_prs _) (de_prs _) (sz ?_)))) an))).eqD ?_) rfl) fun d e => ⟨_, ⟨R, found, rfl, Rok, hf, fo, rfl⟩, e⟩)
    · rw [List.length_map, List.length_map]; omega
    · rw [List.length_map]; omega
    · rw [srt_sts, srt_prs]; rfl
end
end KL
/-! B15: the bag is made. -/
namespace KL
open PySem PySem.Spec L2
def RBagM : List D → (D → Prop) → Prop := fun ds S => ∃ ns : List Int, ns.length ≤ 1000 ∧ ds = [.d (.list (ns.map .int))] ∧ S = fun d => d = .bag
abbrev sBag : Stmt := top 46
theorem scBag : FnScope ["_law_script", "_law_cell"] ["_law_script"] (defScope sBag) := ⟨rfl, rfl, rfl, by decide +kernel, rfl, by decide +kernel, by decide +kernel⟩
def absI (i : Int) : Int := if i < 0 then -i else i
def shutV (D : Ends) : Ends := ⟨D.nx, fun v H => ∃ a c i j k, v = .ref a ∧ GoodB i j k ∧ H a = some (.lst (bgV i j k c)) ∧ D.rt v (upd H a (bagO a c)), D.bk, D.ct⟩
theorem pss_shutV {X : Cx} {sts : List Stmt} {t : TS} (h : PSs X sts t) : PSs X sts (fun D σ H => t (shutV D) σ H) := by
  refine ⟨fun pins s σ H D I q => thn (h.run pins s σ H _ I q) fun f s1 z => ?_⟩
  cases f with
  | next => exact z
  | brk => exact z
  | cont => exact z
  | ret v =>
    obtain ⟨x, σ', H', I2, r, a, c, i, j, k, e1, g, e2, z⟩ := z
    exact ⟨x, σ', _, bag_shut I2 g e2, r, z⟩
theorem upd_twice {H : Hp} {a : Addr} {o p : HO} : upd (upd H a o) a p = upd H a p := by
  funext x
  by_cases z : x = a
  · rw [z, upd_same, upd_same]
  · rw [upd_ne z, upd_ne z, upd_ne z]
theorem abs_map (ns : List Int) : (cutD (ns.map .int) none (some ((63 : Nat) : Int))) = (ns.take 63).map .int := by rw [cut_to, List.map_take]
section
variable {mg : Str → Option Value} {base : Heap} {P : Program} {w : World} {K : PySem.W.Frag}
theorem ok_bag {f : Addr} {fd : FuncData} {k : Nat} (F : Fun K "_law_bag" "_law_bag" sBag f fd) (B : Bi mg) : FnOk P w K mg base CX0 (k + 1) f fd ["_law_script"] (spE K RBagM) := by
  refine F.ok scBag (fun vs H Q E ⟨F, ds, S, l, q, ⟨ns, _, e, _⟩, _⟩ => ?_) (fun cdv A outer s H vs Q E hr ⟨F, ds, S, l, q, ⟨ns, hl, eds, eS⟩, kk⟩ => ?_)
  · subst e
    have z := Paired.length q
    exact z
  subst eds eS
  refine ⟨_, pss_shutV (pss_one (ps_ret (pe_lst (pa_cons (dint (ρ := [.fr (.d (.list (ns.map .int))), .un])) (pa_cons (dint (ρ := [.fr (.d (.list (ns.map .int))), .un])) (pa_cons (dint (ρ := [.fr (.d (.list (ns.map .int))), .un])) (pa_cons
    (lcomp (ρ := [.fr (.d (.list (ns.map .int))), .un]) (own := [("_law_cell", 1)]) (xs := ns.take 63) (enc := .int) (pr := fun _ => true) (f := fun i => .int (absI i)) (ρ' := fun i => [.fr (.d (.list (ns.map .int))), .fr (.d (.int i))])
      ?_ (blkOk_by (own := [("_law_cell", 1)]) (by kernel_rfl)) (fun i hi s H C cl fp => g_name 1 scBag.nd) (fun i hi s H C cl fp => pts_no) (fun i hi hpr s H C cl fp => ?_) ?_ (hN := scBag.nd)) pa_nil))))))), ?_⟩
  · rw [← abs_map]
    exact i_s (n2s (slS (d2s (dvar 0)) o_no (o_so dint) (sz (by rw [List.length_map]; omega))))
  · exact call1 call_abs (by rfl) B.abs (by decide +kernel) (dvar (d := .d (.int i)) 1) fun F H F1 H1 x Q l e1 q1 kk => ⟨i, by cases (show Dp _ F1 x (.int i) from q1); rfl, kk F1 H1 _ e1 (Dp.int _)⟩
  · rw [List.length_take]; exact sz (by omega)
  · have rp : Rep K F H [.fr (.d (.list (ns.map .int))), .un] (L2.start ["_law_script", "_law_cell"] vs) [] := by
      refine ⟨?_, fun _ z => nomatch z⟩
      unfold L2.start
      rw [Paired.length q]
      exact rep_start 1 q
    refine ⟨F, [], l, rp, fun F1 H1 v1 e1 q1 => ⟨F1, [], e1.fh, rp.mono e1, fun F2 H2 v2 e2 q2 => ⟨F2, [], e2.fh, (rp.mono e1).mono e2, fun F3 H3 v3 e3 q3 => ⟨F3, [], e3.fh, ((rp.mono e1).mono e2).mono e3, fun F4 H4 v4 e4 q4 => ?_⟩⟩⟩⟩
    cases (show Dp K F1 v1 (.int 0) from q1)
    cases (show Dp K F2 v2 (.int 1234567891) from q2)
    cases (show Dp K F3 v3 (.int 0) from q3)
    obtain ⟨c, xs, ev, nF, nH, eH, hz, dp⟩ := q4
    subst ev
    refine ⟨small rfl, fun p n => ?_⟩
    have ef : (ns.take 63).filter (fun _ => true) = ns.take 63 := filt_true _
    have em : ((ns.take 63).map fun i => PyData.int (absI i)) = ((ns.take 63).map absI).map .int := by rw [List.map_map]; rfl
    rw [ef, em] at dp
    have ex := dpAll_ints dp
    refine ⟨p, c, 0, 1234567891, 0, rfl, ⟨by decide, by decide, by decide, by decide⟩, upd_same, ?_⟩
    rw [upd_twice]
    have e14 := ((e1.trans e2).trans e3).trans e4
    obtain ⟨l1, l2⟩ := Ext.freeze (p := c) e4.fh nF eH trivial
    have e5 : Ext F H (upd F4 c (.lst xs)) H4 := ⟨e14.ff.trans l1, l2, e14.hh, fun a h1 h2 => by
      have : a ≠ c := fun z => by
        have := ((e1.trans e2).trans e3).hh.free nH
        exact h2 (z ▸ this)
      rw [upd_ne this]
      exact e14.own a h1 h2⟩
    obtain ⟨e6, l6⟩ := new_fr e5 (o := bagO p c) n trivial
    refine kk _ _ _ _ rfl e6 ⟨p, c, (ns.take 63).map absI, rfl, fun z => ?_, upd_same, ?_, ?_, ?_⟩
    · rw [z, eH] at n; cases n
    · refine l6.rd _ _ trivial (.inl ?_)
      rw [upd_same, ex]
    · rw [List.length_map, List.length_take]; omega
    · intro x hx
      obtain ⟨y, _, rfl⟩ := List.mem_map.mp hx
      unfold absI
      split <;> omega
end
end KL
/-! B16: the law's own defs: alike, both ways, share. -/
namespace KL
open PySem PySem.Spec L2
theorem c_eqS {X : Cx} {ρ : List Sl} {a b : Expr} {x y : Str} (ha : PE X a (tD X.K ρ (.d (.str x)))) (hb : PE X b (tD X.K ρ (.d (.str y)))) : PC X .Eq a b (tD X.K ρ (.d (.bool (decide (x = y))))) :=
  cmp op_eq ha hb fun F H F1 H1 F2 H2 u v Q l e1 q1 e2 q2 k => by
    cases (show Dp X.K F1 u (.str x) from q1)
    cases (show Dp X.K F2 v (.str y) from q2)
    refine ⟨rfl, ?_⟩
    have : decide (V.str x = V.str y) = decide (x = y) := by
      by_cases h : x = y
      · subst h; simp
      · simp [h]
    rw [this]
    exact k
def RAlike : List D → D → Prop := fun ds d => ∃ x y : PyData, sm 5 x = true ∧ sm 5 y = true ∧ ds = [.d x, .d y] ∧ ((x = y ∧ noStr x = true ∧ d = .d (.bool true)) ∨ (PyData.eqv x y = false ∧ d = .d (.bool false)))
abbrev sAlike : Stmt := top 49
theorem scAlike : FnScope ["_law_found", "_law_due"] ["_law_found", "_law_due"] (defScope sAlike) := ⟨rfl, rfl, rfl, by decide +kernel, rfl, by decide +kernel, by decide +kernel⟩
def RWays : List D → D → Prop := fun ds d => ∃ p : List Str, p.length ≤ 20 ∧ ds = [.d (nmD p)] ∧ d = .d (.list [.tuple [.str "path", nmD p], .tuple [.str "path", nmD p.reverse]])
abbrev sWays : Stmt := top 59
theorem scWays : FnScope ["_law_path"] ["_law_path"] (defScope sWays) := ⟨rfl, rfl, rfl, by decide +kernel, rfl, by decide +kernel, by decide +kernel⟩
section
variable {mg : Str → Option Value} {base : Heap} {P : Program} {w : World} {K : PySem.W.Frag}
theorem ok_alike {f : Addr} {fd : FuncData} {k : Nat} (F : Fun K "_law_alike" "_law_alike" sAlike f fd) (B : Bi mg) : FnG P w K mg base (k + 1) f fd ["_law_found", "_law_due"] (spD K RAlike) := by
  refine def_ofG F scAlike (fun ds d ⟨_, _, _, _, e, _⟩ => by rw [e]; rfl) fun cdv A outer s H E hg hr ds d ⟨x, y, hx, hy, eds, hd⟩ => ?_
  subst eds
  rcases hd with ⟨exy, hn, ed⟩ | ⟨hf, ed⟩
  · subst exy ed
    exact w_one (w_ret ((vand (k' := true) ((cv (c_eq (u64 hr) (d2x (dvar 0)) (d2x (dvar 1)) (sm_shaped hx) (sm_shaped hx))).eqD (by rw [(sm_ok hx).eqrefl])) (fun _ => vone ((cv (c_eqS (dreprX hg (u64 hr) (by rfl) B.repr (d2x (dvar 0)) hx hn) (dreprX hg (u64 hr) (by rfl) B.repr (d2x (dvar 1)) hx hn))).eqD (by rw [decide_eq_true rfl])))).eqD rfl) rfl)
  · subst ed
    exact w_one (w_ret ((vand (k := false) (k' := true) ((cv (c_eq (u64 hr) (d2x (dvar 0)) (d2x (dvar 1)) (sm_shaped hx) (sm_shaped hy))).eqD (by rw [hf])) (fun z => nomatch z)).eqD rfl) rfl)
theorem ok_ways {f : Addr} {fd : FuncData} {k : Nat} (F : Fun K "_law_both_ways" "_law_both_ways" sWays f fd) (B : Bi mg) : FnOk P w K mg base CX0 (k + 1) f fd ["_law_path"] (spD K RWays) := by
  refine def_of F scWays (fun ds d ⟨_, _, e, _⟩ => by rw [e]; rfl) fun cdv A outer s H E hr ds d ⟨p, hl, eds, ed⟩ => ?_
  subst eds ed
  exact w_one (w_ret ((n2d (nlst (ds := [.tuple [.str "path", nmD p], .tuple [.str "path", nmD p.reverse]]) (ac (dtup (ds := [.str "path", nmD p]) (ac dstr (ac (n2d (lstS (by rfl) B.list bt_list (d2s (dvar 0)) (sz (by rw [List.length_map]; omega)))) an)))
    (ac (dtup (ds := [.str "path", nmD p.reverse]) (ac dstr (ac ((n2d (revS (n2s (lstS (ds := p.map .str) (by rfl) B.list bt_list (d2s (dvar 0)) (sz (by rw [List.length_map]; omega)))) (sz (by rw [List.length_map]; omega)))).eqD (by rw [nmD, List.map_reverse])) an))) an))))) rfl)
end
end KL
/-! B17: the law's rows and share. -/
namespace KL
open PySem PySem.Spec L2
theorem w_augI {X : Cx} {ρ : List Sl} {e : Expr} {pos : Pos} (i : Nat) {x : Str} {p1 : Pos} {m n : Int} (he : PE X e (tD X.K ρ (.d (.int n)))) (hN : X.N.Nodup) (hρ : ρ[i]? = some (.fr (.d (.int m))) := by rfl) (hi : X.N[i]? = some x := by rfl) (hx : Loc X.env.scope x := by first | exact Or.inl rfl | exact Or.inr rfl)
    (hf : X.fn x = true ∨ X.env.scope.names.lookup x = some .local := by first | exact .inl rfl | exact .inr rfl | assumption) : PS X (.AugAssign (.Name x p1) .Add e pos) (tW X.K ρ (.nx (ρ.set i (.fr (.d (.int (m + n))))))) :=
  (ps_aug hN hi hx he ip_add hf).imp fun D σ H ⟨F, A, l, rp, q⟩ => by
    obtain ⟨v, e1, is⟩ := rp.fr hρ
    cases (show Dp X.K F v (.int m) from is)
    refine ⟨_, e1, F, A, l, rp, fun F1 H1 u e2 q2 => ?_⟩
    cases (show Dp X.K F1 u (.int n) from q2)
    obtain ⟨A', r', sub⟩ := rep_set (d := .d (.int (m + n))) (rp.mono e2) i (Dp.int _)
    exact ⟨m, n, rfl, rfl, q F1 H1 _ A' (stEx_sub (e2.st A) sub) r'⟩
structure Rw where
  word : Str
  name : Str
  place : List Nat
  axes : List Str
def rwD (r : Rw) : PyData := .tuple [.str r.word, .str r.name, .tuple (itD r.place), axD r.axes]
def under (at_ : Nat) (a : Str) (r : Rw) : Rw := ⟨r.word, r.name, at_ :: r.place, a :: r.axes⟩
mutual
def rowK (at_ : Nat) : Knot → List Rw
  | .add x => [⟨"add", x, [at_], []⟩]
  | .loop a ks => (rowsT 0 ks).map (under at_ a)
def rowsT (at_ : Nat) : List Knot → List Rw
  | [] => []
  | k :: ks => rowK at_ k ++ rowsT (at_ + 1) ks
end
mutual
/-- how deep loops lie -/
def hK : Knot → Nat
  | .add _ => 0
  | .loop _ ks => hKs ks + 1
def hKs : List Knot → Nat
  | [] => 0
  | k :: ks => max (hK k) (hKs ks)
end
theorem rowsT_zip : ∀ (ks : List Knot) (at_ : Nat), rowsT at_ ks = (ks.zipIdx at_).flatMap fun q => rowK q.2 q.1
  | [], _ => rfl
  | k :: ks, n => by
    show rowK n k ++ rowsT (n + 1) ks = _
    rw [rowsT_zip ks (n + 1)]
    rfl
theorem hK_le {k : Knot} : ∀ {ks : List Knot}, k ∈ ks → hK k ≤ hKs ks
  | [], h => nomatch h
  | q :: ks, h => by
    show hK k ≤ max (hK q) (hKs ks)
    obtain e | h := List.mem_cons.mp h
    · rw [e]; exact Nat.le_max_left _ _
    · exact Nat.le_trans (hK_le h) (Nat.le_max_right _ _)
theorem knDs_map : ∀ ks : List Knot, knDs ks = ks.map knD
  | [] => rfl
  | k :: ks => by
    show knD k :: knDs ks = _
    rw [knDs_map ks]
    rfl
mutual
theorem place_len : ∀ (k : Knot) (n : Nat), ∀ r ∈ rowK n k, r.place.length ≤ hK k + 1 ∧ r.axes.length ≤ hK k
  | .add x, n, r, h => by
    rw [List.mem_singleton.mp (show r ∈ [_] from h)]
    exact ⟨Nat.le_refl _, Nat.le_refl _⟩
  | .loop a ks, n, r, h => by
    obtain ⟨q, hq, rfl⟩ := List.mem_map.mp (show r ∈ (rowsT 0 ks).map (under n a) from h)
    have := places_len ks 0 q hq
    exact ⟨Nat.succ_le_succ this.1, Nat.succ_le_succ this.2⟩
theorem places_len : ∀ (ks : List Knot) (n : Nat), ∀ r ∈ rowsT n ks, r.place.length ≤ hKs ks + 1 ∧ r.axes.length ≤ hKs ks
  | [], n, r, h => nomatch h
  | k :: ks, n, r, h => by
    show r.place.length ≤ max (hK k) (hKs ks) + 1 ∧ r.axes.length ≤ max (hK k) (hKs ks)
    rcases List.mem_append.mp (show r ∈ rowK n k ++ rowsT (n + 1) ks from h) with h | h
    · have := place_len k n r h
      omega
    · have := places_len ks (n + 1) r h
      omega
end
def RRows (n : Nat) : List D → D → Prop := fun ds d => ∃ ks : List Knot, hKs ks < n ∧ hKs ks ≤ 100 ∧ (rowsT 0 ks).length ≤ 1000 ∧ ds = [.d (.tuple (knDs ks))] ∧ d = .d (.list ((rowsT 0 ks).map rwD))
abbrev sRows : Stmt := top 50
theorem scRows : FnScope ["_law_knots", "_law_found", "_law_at", "_law_knot", "_law_word", "_law_name", "_law_place", "_law_axes"] ["_law_knots"] (defScope sRows) := ⟨rfl, rfl, rfl, by decide +kernel, rfl, by decide +kernel, by decide +kernel⟩
/-- how many steps two places share -/
def common : List Nat → List Nat → Nat
  | x :: xs, y :: ys => if x = y then common xs ys + 1 else 0
  | _, _ => 0
def shareOf (a b : Rw) : List Str := a.axes.take (common a.place.dropLast b.place.dropLast)
def RShareL : List D → D → Prop := fun ds d => ∃ a b : Rw, a.place.length ≤ 200 ∧ ds = [.d (rwD a), .d (rwD b)] ∧ d = .d (axD (shareOf a b))
abbrev sShareL : Stmt := top 51
theorem scShareL : FnScope ["_law_one", "_law_other", "_law_many", "_law_first", "_law_second"] ["_law_one", "_law_other"] (defScope sShareL) := ⟨rfl, rfl, rfl, by decide +kernel, rfl, by decide +kernel, by decide +kernel⟩
theorem common_spec : ∀ xs ys : List Nat, (common xs ys = (xs.zip ys).length ∧ ∀ q ∈ xs.zip ys, q.1 = q.2) ∨ ∃ q, (xs.zip ys)[common xs ys]? = some q ∧ q.1 ≠ q.2 ∧ ∀ i p, (xs.zip ys)[i]? = some p → i < common xs ys → p.1 = p.2
  | [], _ => .inl ⟨by simp [common], fun q h => by simp at h⟩
  | _ :: _, [] => .inl ⟨by simp [common], fun q h => by simp at h⟩
  | x :: xs, y :: ys => by
    by_cases h : x = y
    · have e : common (x :: xs) (y :: ys) = common xs ys + 1 := if_pos h
      rcases common_spec xs ys with ⟨h1, h2⟩ | ⟨q, h1, h2, h3⟩
      · refine .inl ⟨by rw [e, h1]; rfl, fun q hq => ?_⟩
        rcases List.mem_cons.mp (show q ∈ (x, y) :: xs.zip ys from hq) with z | z
        · rw [z]; exact h
        · exact h2 q z
      · refine .inr ⟨q, by rw [e]; exact h1, h2, fun i p hp hi => ?_⟩
        cases i with
        | zero =>
          have : p = (x, y) := by
            have : ((x, y) :: xs.zip ys)[0]? = some p := hp
            simpa using this.symm
          rw [this]; exact h
        | succ i => exact h3 i p hp (by omega)
    · have e : common (x :: xs) (y :: ys) = 0 := if_neg h
      exact .inr ⟨(x, y), by rw [e]; rfl, h, fun i p _ hi => by omega⟩
theorem cut_init (xs : List Nat) : cutD (itD xs) none (some (-1)) = itD xs.dropLast := by
  unfold cutD itD
  rw [HT.sIx_none, List.drop_zero, List.length_map, Nat.sub_zero, List.dropLast_eq_take, List.map_take]
  congr 1
  show (if (-1 : Int) < 0 then ((-1 : Int) + (xs.length : Int)).toNat else min (-1 : Int).toNat xs.length) = xs.length - 1
  rw [if_pos (by decide)]
  omega
theorem zip_its : ∀ xs ys : List Nat, zipD (itD xs) (itD ys) = (xs.zip ys).map fun q => .tuple [.int (q.1 : Nat), .int (q.2 : Nat)]
  | [], _ => rfl
  | _ :: _, [] => rfl
  | x :: xs, y :: ys => congrArg (_ :: ·) (zip_its xs ys)
section
variable {mg : Str → Option Value} {base : Heap} {P : Program} {w : World} {K : PySem.W.Frag}
theorem ok_sharel {f : Addr} {fd : FuncData} {k : Nat} (F : Fun K "_law_share" "_law_share" sShareL f fd) (B : Bi mg) : FnOk P w K mg base CX0 (k + 1) f fd ["_law_one", "_law_other"] (spD K RShareL) := by
  refine def_of F scShareL (fun ds d ⟨_, _, _, e, _⟩ => by rw [e]; rfl) fun cdv A outer s H E hr ds d ⟨a, b, hl, eds, ed⟩ => ?_
  subst eds ed
  refine w_cons (w_set (d := .d (.int (0 : Nat))) 2 dint (hN := scShareL.nd)) ?_
  have fin : ∀ n : Nat, n = common a.place.dropLast b.place.dropLast → D.d (.tuple (cutD (a.axes.map .str) none (some (n : Int)))) = D.d (axD (shareOf a b)) := fun n e => by
    rw [cut_to, e, shareOf, axD, List.map_take]
  rcases common_spec a.place.dropLast b.place.dropLast with ⟨h1, h2⟩ | ⟨q, h1, h2, h3⟩
  · refine w_cons (w_for (xs := a.place.dropLast.zip b.place.dropLast) (enc := fun q => .tuple [.int (q.1 : Nat), .int (q.2 : Nat)]) (vs := [3, 4]) (fun i => [.fr (.d (rwD a)), .fr (.d (rwD b)), .fr (.d (.int (i : Nat))), .un, .un])
      (fun i q => [.fr (.d (rwD a)), .fr (.d (rwD b)), .fr (.d (.int (i : Nat))), .fr (.d (.int (q.1 : Nat))), .fr (.d (.int (q.2 : Nat)))])
      (by
      rw [← zip_its, ← cut_init, ← cut_init]
      exact i_zipT (by rfl) B.zip (slT (ixT (ds := [.str a.word, .str a.name, .tuple (itD a.place), axD a.axes]) (dvar 0) dint (atI_nat (j := 2) rfl)) o_no (o_so (dneg dint))) (slT (ixT (ds := [.str b.word, .str b.name, .tuple (itD b.place), axD b.axes]) (dvar 1) dint (atI_nat (j := 2) rfl)) o_no (o_so (dneg dint)))) rfl (fun i q hq => g_tup rfl (gs_cons (g_name 3 scShareL.nd) (gs_cons (g_name 4 scShareL.nd) gs_nil))) (fun i q hq => ?_)) ?_
    · have e := h2 q (List.mem_of_getElem? hq)
      have e1 : ((i + 1 : Nat) : Int) = (i : Int) + 1 := rfl
      rw [e1]
      exact w_wk (w_cons (w_if (k := false) ((ct (c_ne (u64 hr) (d2x (dvar 3)) (d2x (dvar 4)) (sh_int _) (sh_int _))).eqT (by rw [e, eqv_int, decide_eq_true rfl]; rfl)) (fun z => nomatch z) (fun _ => w_nil)) (w_one (w_augI (m := (i : Nat)) (n := 1) 2 dint scShareL.nd))) (.keep (.keep (.keep (.drop (.drop .nil)))))
    · exact w_one (w_ret ((slT (ixT (ds := [.str a.word, .str a.name, .tuple (itD a.place), axD a.axes]) (dvar 0) dint (atI_nat (j := 3) rfl)) o_no (o_so (dvar 2))).eqD (fin _ h1.symm)) rfl)
  · refine w_cons (w_for_bk (ρe := [.fr (.d (rwD a)), .fr (.d (rwD b)), .fr (.d (.int (common a.place.dropLast b.place.dropLast : Nat))), .fr (.d (.int (q.1 : Nat))), .fr (.d (.int (q.2 : Nat)))]) (common a.place.dropLast b.place.dropLast) (y := q) (xs := a.place.dropLast.zip b.place.dropLast) (enc := fun q => .tuple [.int (q.1 : Nat), .int (q.2 : Nat)]) (vs := [3, 4]) (fun i => [.fr (.d (rwD a)), .fr (.d (rwD b)), .fr (.d (.int (i : Nat))), .un, .un])
      (fun i q => [.fr (.d (rwD a)), .fr (.d (rwD b)), .fr (.d (.int (i : Nat))), .fr (.d (.int (q.1 : Nat))), .fr (.d (.int (q.2 : Nat)))])
      (by
      rw [← zip_its, ← cut_init, ← cut_init]
      exact i_zipT (by rfl) B.zip (slT (ixT (ds := [.str a.word, .str a.name, .tuple (itD a.place), axD a.axes]) (dvar 0) dint (atI_nat (j := 2) rfl)) o_no (o_so (dneg dint))) (slT (ixT (ds := [.str b.word, .str b.name, .tuple (itD b.place), axD b.axes]) (dvar 1) dint (atI_nat (j := 2) rfl)) o_no (o_so (dneg dint)))) rfl h1 (fun i q hq _ => g_tup rfl (gs_cons (g_name 3 scShareL.nd) (gs_cons (g_name 4 scShareL.nd) gs_nil))) (fun i q hq hi => ?_) ?_) ?_
    · have e := h3 i q hq hi
      have e1 : ((i + 1 : Nat) : Int) = (i : Int) + 1 := rfl
      rw [e1]
      exact w_wk (w_cons (w_if (k := false) ((ct (c_ne (u64 hr) (d2x (dvar 3)) (d2x (dvar 4)) (sh_int _) (sh_int _))).eqT (by rw [e, eqv_int, decide_eq_true rfl]; rfl)) (fun z => nomatch z) (fun _ => w_nil)) (w_one (w_augI (m := (i : Nat)) (n := 1) 2 dint scShareL.nd))) (.keep (.keep (.keep (.drop (.drop .nil)))))
    · exact w_end (w_if (k := true) ((ct (c_ne (u64 hr) (d2x (dvar 3)) (d2x (dvar 4)) (sh_int _) (sh_int _))).eqT (by rw [eqv_int, decide_eq_false (by omega)]; rfl)) (fun _ => w_one w_break) (fun z => nomatch z))
    · exact w_one (w_ret ((slT (ixT (ds := [.str a.word, .str a.name, .tuple (itD a.place), axD a.axes]) (dvar 0) dint (atI_nat (j := 3) rfl)) o_no (o_so (dvar 2))).eqD (fin _ rfl)) rfl)
theorem ok_rows {f : Addr} {fd : FuncData} {k : Nat} (F : Fun K "_law_rows" "_law_rows" sRows f fd) (hm : mg "_law_rows" = some (.ref f)) (hk : PySem.W.keepIn K (.ref f) = true) (hb : Binds K fd ["_law_knots"] []) (B : Bi mg) : ∀ n, FnOk P w K mg base CX0 (k + n) f fd ["_law_knots"] (spD K (RRows n))
  | 0 => ⟨fun vs H Q E ⟨F, ds, d, _, _, ⟨_, z, _⟩, _⟩ => absurd z (Nat.not_lt_zero _), fun A outer s H args us vs Q E _ _ _ _ ⟨F, ds, d, _, _, ⟨_, z, _⟩, _⟩ => absurd z (Nat.not_lt_zero _)⟩
  | n + 1 => by
    have GR : Cal P w K mg base (k + n) "_law_rows" (RRows n) := ⟨f, fd, _, hm, hk, hb, ok_rows F hm hk hb B n⟩
    refine def_of (k := k + n) F scRows (fun ds d ⟨_, _, _, _, e, _⟩ => by rw [e]; rfl) fun cdv A outer s H E hr ds d ⟨ks, h1, h2, h3, eds, ed⟩ => ?_
    subst eds ed
    refine w_cons (w_own (ds := []) 1 (nlst (ds := []) an) (hN := scRows.nd)) ?_
    have pre : ∀ i, ((ks.zipIdx.take i).flatMap fun q => rowK q.2 q.1).length ≤ 1000 := fun i => by
      rw [rowsT_zip] at h3
      refine Nat.le_trans ?_ h3
      conv => rhs; rw [← List.take_append_drop i ks.zipIdx, List.flatMap_append, List.length_append]
      exact Nat.le_add_right _ _
    refine w_cons (w_for (xs := ks.zipIdx) (enc := fun q => .tuple [.int (q.2 : Nat), knD q.1]) (vs := [2, 3]) (fun i => [.fr (.d (.tuple (knDs ks))), .ow (((ks.zipIdx.take i).flatMap fun q => rowK q.2 q.1).map rwD), .un, .un, .un, .un, .un, .un])
      (fun i q => [.fr (.d (.tuple (knDs ks))), .ow (((ks.zipIdx.take i).flatMap fun q => rowK q.2 q.1).map rwD), .fr (.d (.int (q.2 : Nat))), .fr (.d (knD q.1)), .un, .un, .un, .un])
      (by rw [← enum_maps, ← knDs_map]; exact i_enumT (by rfl) B.enumerate (dvar 0)) rfl (fun i q hq => g_tup rfl (gs_cons (g_name 2 scRows.nd) (gs_cons (g_name 3 scRows.nd) gs_nil))) (fun i q hq => ?_)) ?_
    · have hqm := List.mem_of_getElem? hq
      have hkm : q.1 ∈ ks := List.fst_mem_of_mem_zipIdx hqm
      have hle := hK_le hkm
      have pi1 := pre (i + 1)
      rw [take_flat hq] at pi1 ⊢
      have pi0 := pre i
      generalize (ks.zipIdx.take i).flatMap (fun q => rowK q.2 q.1) = fo at pi1 pi0 ⊢
      obtain ⟨kn, at_⟩ := q
      dsimp only at *
      cases kn with
      | add x =>
        refine w_wk (w_one (w_if (k := false) ((ct (c_eqS (ixT (ds := [.str "add", .str x]) (dvar 3) dint at0) dstr)).eqT (by decide)) (fun z => nomatch z) (fun _ => w_one (w_append (ds := fo.map rwD) (a := rwD ⟨"add", x, [at_], []⟩) 1 (dtup (ds := [.str "add", .str x, .tuple (itD [at_]), axD []]) (ac (ixT (ds := [.str "add", .str x]) (dvar 3) dint at0) (ac (ixT (ds := [.str "add", .str x]) (dvar 3) dint (atI_nat (j := 1) rfl)) (ac (dtup (ds := itD [at_]) (ac (dvar 2) an)) (ac (dtup (ds := []) an) an))))) (by rw [List.length_map]; exact szl (by omega)))))) ?_
        rw [List.map_append]
        exact .keep (.keep (.drop (.drop (.keep (.keep (.keep (.keep .nil)))))))
      | loop a kn =>
        have hkn : hKs kn + 1 ≤ hKs ks := hle
        have el : rowK at_ (.loop a kn) = (rowsT 0 kn).map (under at_ a) := rfl
        rw [el] at pi1 ⊢
        rw [List.length_append, List.length_map] at pi1
        refine w_wk (ρ1 := [.fr (.d (.tuple (knDs ks))), .ow ((fo ++ (rowsT 0 kn).map (under at_ a)).map rwD), .fr (.d (.int (at_ : Nat))), .fr (.d (loopD a (knDs kn))), .un, .un, .un, .un]) (w_one (w_if (k := true) ((ct (c_eqS (ixT (ds := [.str "loop", .str a, .tuple (knDs kn)]) (dvar 3) dint at0) dstr)).eqT (by decide)) (fun _ => w_one ?_) (fun z => nomatch z))) (.keep (.keep (.drop (.drop (.keep (.keep (.keep (.keep .nil))))))))
        have ef : [Sl.fr (.d (.tuple (knDs ks))), .ow ((fo ++ (rowsT 0 kn).map (under at_ a)).map rwD), .fr (.d (.int (at_ : Nat))), .fr (.d (loopD a (knDs kn))), .un, .un, .un, .un] = (fun i => [Sl.fr (.d (.tuple (knDs ks))), .ow ((fo ++ ((rowsT 0 kn).take i).map (under at_ a)).map rwD), .fr (.d (.int (at_ : Nat))), .fr (.d (loopD a (knDs kn))), .un, .un, .un, .un]) (rowsT 0 kn).length := by
          show _ = [Sl.fr (.d (.tuple (knDs ks))), .ow ((fo ++ ((rowsT 0 kn).take (rowsT 0 kn).length).map (under at_ a)).map rwD), .fr (.d (.int (at_ : Nat))), .fr (.d (loopD a (knDs kn))), .un, .un, .un, .un]
          rw [List.take_length]
        rw [ef]
        refine w_for (xs := rowsT 0 kn) (enc := rwD) (vs := [4, 5, 6, 7]) (fun i => [Sl.fr (.d (.tuple (knDs ks))), .ow ((fo ++ ((rowsT 0 kn).take i).map (under at_ a)).map rwD), .fr (.d (.int (at_ : Nat))), .fr (.d (loopD a (knDs kn))), .un, .un, .un, .un])
          (fun i r => [Sl.fr (.d (.tuple (knDs ks))), .ow ((fo ++ ((rowsT 0 kn).take i).map (under at_ a)).map rwD), .fr (.d (.int (at_ : Nat))), .fr (.d (loopD a (knDs kn))), .fr (.d (.str r.word)), .fr (.d (.str r.name)), .fr (.d (.tuple (itD r.place))), .fr (.d (axD r.axes))])
          (i_l (call GR hr (ac (ixT (ds := [.str "loop", .str a, .tuple (knDs kn)]) (dvar 3) dint (atI_nat (j := 2) rfl)) an) ⟨kn, by omega, by omega, by omega, rfl, rfl⟩)) (by simp; rfl) (fun i r hr' => g_tup rfl (gs_cons (g_name 4 scRows.nd) (gs_cons (g_name 5 scRows.nd) (gs_cons (g_name 6 scRows.nd) (gs_cons (g_name 7 scRows.nd) gs_nil))))) (fun i r hr' => ?_)
        have pl := places_len kn 0 r (List.mem_of_getElem? hr')
        have il := (List.getElem?_eq_some_iff.mp hr').1
        refine w_wk (w_one (w_append (ds := (fo ++ ((rowsT 0 kn).take i).map (under at_ a)).map rwD) (a := rwD (under at_ a r)) 1 (dtup (ds := [.str r.word, .str r.name, .tuple (itD (at_ :: r.place)), axD (a :: r.axes)]) (ac (dvar 4) (ac (dvar 5)
          (ac (dcat (ds := itD [at_]) (es := itD r.place) (dtup (ds := itD [at_]) (ac (dvar 2) an)) (dvar 6) (sz (by unfold itD; rw [List.length_map, List.length_map]; simp only [List.length_singleton]; omega)))
            (ac (dcat (ds := [.str a]) (es := r.axes.map .str) (dtup (ds := [.str a]) (ac (ixT (ds := [.str "loop", .str a, .tuple (knDs kn)]) (dvar 3) dint (atI_nat (j := 1) rfl)) an)) (dvar 7) (sz (by rw [List.length_map]; simp only [List.length_singleton]; omega))) an))))) (by rw [List.length_map, List.length_append, List.length_map, List.length_take]; exact szl (by omega)))) ?_
        rw [List.take_add_one, hr']
        simp only [List.map_append, List.append_assoc, Option.toList_some, List.map_cons, List.map_nil]
        rw [← List.append_assoc]
        exact .keep (.keep (.keep (.keep (.drop (.drop (.drop (.drop .nil)))))))
    · refine w_freeze 1 (w_one (w_ret ((dvar 1).eqD ?_) rfl))
      rw [List.take_length, rowsT_zip]
end
end KL
/-! B18: the law's is_knots. -/
namespace KL
open PySem PySem.Spec L2
mutual
/-- a knot that the law takes -/
def KnOk (axes leaves over : List Str) : Knot → Prop
  | .add x => x ∈ leaves
  | .loop a ks => a ∈ axes ∧ a ∉ over ∧ ks ≠ [] ∧ KnsOk axes leaves (over ++ [a]) ks
def KnsOk (axes leaves over : List Str) : List Knot → Prop
  | [] => True
  | k :: ks => KnOk axes leaves over k ∧ KnsOk axes leaves over ks
end
theorem KnsOk.mem {axes leaves over : List Str} {k : Knot} : ∀ {ks : List Knot}, KnsOk axes leaves over ks → k ∈ ks → KnOk axes leaves over k
  | [], _, m => nomatch m
  | q :: ks, h, m => by
    obtain ⟨h1, h2⟩ := (show KnOk axes leaves over q ∧ KnsOk axes leaves over ks from h)
    rcases List.mem_cons.mp m with e | m
    · rw [e]; exact h1
    · exact KnsOk.mem h2 m
mutual
theorem kn_lay {axes leaves : List Str} (hA : OkS axes) (hL : OkS leaves) : ∀ (k : Knot) (over : List Str), KnOk axes leaves over k → (knD k).canLay0 = true ∧ (knD k).depth ≤ 2 * hK k + 1
  | .add x, over, h => by
    have := hL x h
    refine ⟨?_, ?_⟩
    · show (PyData.tuple [.str "add", .str x]).canLay0 = true
      simp only [PyData.canLay0, PyData.canLayAll0, this]
      decide +kernel
    · show (PyData.tuple [.str "add", .str x]).depth ≤ 1
      simp [PyData.depth, PyData.depthAll]
  | .loop a ks, over, h => by
    obtain ⟨h1, _, _, h4⟩ := (show a ∈ axes ∧ a ∉ over ∧ ks ≠ [] ∧ KnsOk axes leaves (over ++ [a]) ks from h)
    have ha := hA a h1
    obtain ⟨q1, q2⟩ := kns_lay hA hL ks (over ++ [a]) h4
    refine ⟨?_, ?_⟩
    · show (PyData.tuple [.str "loop", .str a, .tuple (knDs ks)]).canLay0 = true
      simp only [PyData.canLay0, PyData.canLayAll0, ha, q1]
      decide +kernel
    · show (PyData.tuple [.str "loop", .str a, .tuple (knDs ks)]).depth ≤ 2 * (hKs ks + 1) + 1
      simp only [PyData.depthAll, PyData.depth]
      omega
theorem kns_lay {axes leaves : List Str} (hA : OkS axes) (hL : OkS leaves) : ∀ (ks : List Knot) (over : List Str), KnsOk axes leaves over ks → PyData.canLayAll0 (knDs ks) = true ∧ PyData.depthAll (knDs ks) ≤ 2 * hKs ks + 1
  | [], _, _ => ⟨by simp [knDs, PyData.canLayAll0], by simp [knDs, PyData.depthAll]⟩
  | k :: ks, over, h => by
    obtain ⟨h1, h2⟩ := (show KnOk axes leaves over k ∧ KnsOk axes leaves over ks from h)
    obtain ⟨a1, a2⟩ := kn_lay hA hL k over h1
    obtain ⟨b1, b2⟩ := kns_lay hA hL ks over h2
    refine ⟨?_, ?_⟩
    · show PyData.canLayAll0 (knD k :: knDs ks) = true
      simp [PyData.canLayAll0, a1, b1]
    · show PyData.depthAll (knD k :: knDs ks) ≤ 2 * max (hK k) (hKs ks) + 1
      simp only [PyData.depthAll]
      omega
end
theorem kns_shaped {axes leaves over : List Str} (hA : OkS axes) (hL : OkS leaves) {ks : List Knot} (h : KnsOk axes leaves over ks) (hd : hKs ks ≤ 20) : SeqAt.shaped (.tuple (knDs ks)) = true := by
  obtain ⟨q1, q2⟩ := kns_lay hA hL ks over h
  exact shaped_of (by simp only [PyData.canLay0]; exact q1) (by simp only [PyData.depth]; omega)
theorem add_shaped {x : Str} (h : PyData.strOk x = true) : SeqAt.shaped (addD x) = true := sh_two (by decide +kernel) h
theorem lay_adds : ∀ {xs : List Str}, OkS xs → PyData.canLayAll0 (xs.map addD) = true ∧ PyData.depthAll (xs.map addD) ≤ 1
  | [], _ => ⟨by simp [PyData.canLayAll0], by simp [PyData.depthAll]⟩
  | x :: xs, h => by
    have hx := h x List.mem_cons_self
    obtain ⟨a1, a2⟩ := lay_adds (xs := xs) fun y hy => h y (List.mem_cons_of_mem _ hy)
    refine ⟨?_, ?_⟩
    · show PyData.canLayAll0 (.tuple [.str "add", .str x] :: xs.map addD) = true
      simp only [PyData.canLayAll0, PyData.canLay0, hx, a1]
      decide +kernel
    · show PyData.depthAll (.tuple [.str "add", .str x] :: xs.map addD) ≤ 1
      simp only [PyData.depthAll, PyData.depth]
      omega
theorem adds_shaped {xs : List Str} (h : OkS xs) : SeqAt.shaped (.list (xs.map addD)) = true := by
  obtain ⟨a1, a2⟩ := lay_adds h
  exact shaped_of (by simp only [PyData.canLay0]; exact a1) (by simp only [PyData.depth]; omega)
theorem any_add (x : Str) : ∀ xs : List Str, ((xs.map addD).any fun z => PyData.eqv z (addD x)) = decide (x ∈ xs)
  | [] => by simp
  | y :: ys => by
    rw [List.map_cons, List.any_cons, any_add x ys]
    have e : PyData.eqv (addD y) (addD x) = decide (y = x) := by
      unfold addD
      rw [eqv_two]
      simp
    rw [e]
    by_cases h : y = x
    · subst h; simp
    · have h' : ¬ x = y := fun z => h z.symm
      simp [h, h']
def RKnots (n : Nat) : List D → D → Prop := fun ds d => ∃ (ks : List Knot) (axes leaves over : List Str), OkS axes ∧ OkS leaves ∧ KnsOk axes leaves over ks ∧ hKs ks < n ∧ hKs ks ≤ 20 ∧ over.length + hKs ks ≤ 100 ∧ ds = [.d (.tuple (knDs ks)), .d (nmD axes), .d (.list (leaves.map addD)), .d (axD over)] ∧ d = .d (.bool true)
abbrev sKnots : Stmt := top 52
theorem scKnots : FnScope ["_law_thing", "_law_axes", "_law_leaves", "_law_over", "_law_knot"] ["_law_thing", "_law_axes", "_law_leaves", "_law_over"] (defScope sKnots) := ⟨rfl, rfl, rfl, by decide +kernel, rfl, by decide +kernel, by decide +kernel⟩
section
variable {mg : Str → Option Value} {base : Heap} {P : Program} {w : World} {K : PySem.W.Frag}
theorem ok_knots {f : Addr} {fd : FuncData} {k : Nat} (F : Fun K "_law_is_knots" "_law_is_knots" sKnots f fd) (hm : mg "_law_is_knots" = some (.ref f)) (hk : PySem.W.keepIn K (.ref f) = true) (hb : Binds K fd ["_law_thing", "_law_axes", "_law_leaves", "_law_over"] []) (B : Bi mg) : ∀ n, FnOk P w K mg base CX0 (k + n) f fd ["_law_thing", "_law_axes", "_law_leaves", "_law_over"] (spD K (RKnots n))
  | 0 => ⟨fun vs H Q E ⟨F, ds, d, _, _, ⟨_, _, _, _, _, _, _, z, _⟩, _⟩ => absurd z (Nat.not_lt_zero _), fun A outer s H args us vs Q E _ _ _ _ ⟨F, ds, d, _, _, ⟨_, _, _, _, _, _, _, z, _⟩, _⟩ => absurd z (Nat.not_lt_zero _)⟩
  | n + 1 => by
    have GR : Cal P w K mg base (k + n) "_law_is_knots" (RKnots n) := ⟨f, fd, _, hm, hk, hb, ok_knots F hm hk hb B n⟩
    refine def_of (k := k + n) F scKnots (fun ds d ⟨_, _, _, _, _, _, _, _, _, _, e, _⟩ => by rw [e]; rfl) fun cdv A outer s H E hr ds d ⟨ks, axes, leaves, over, hA, hL, ok, h1, h2, h3, eds, ed⟩ => ?_
    subst eds ed
    refine w_cons (w_if (k := false) ((tnot (tv (disi (k := true) (by rfl) B.isinstance (d2x (dvar 0)) (by rfl) B.tuple bt_tuple rfl (by decide +kernel)))).eqT rfl) (fun z => nomatch z) (fun _ => w_nil)) ?_
    refine w_cons (w_for (xs := ks) (enc := knD) (vs := [4]) (fun i => [.fr (.d (.tuple (knDs ks))), .fr (.d (nmD axes)), .fr (.d (.list (leaves.map addD))), .fr (.d (axD over)), .un])
      (fun i q => [.fr (.d (.tuple (knDs ks))), .fr (.d (nmD axes)), .fr (.d (.list (leaves.map addD))), .fr (.d (axD over)), .fr (.d (knD q))])
      (by rw [← knDs_map]; exact i_t (dvar 0)) rfl (fun i q hq => g_name 4 scKnots.nd) (fun i q hq => w_wk (ρ1 := [.fr (.d (.tuple (knDs ks))), .fr (.d (nmD axes)), .fr (.d (.list (leaves.map addD))), .fr (.d (axD over)), .fr (.d (knD q))]) ?_ (.keep (.keep (.keep (.keep (.drop .nil))))))) (w_one (w_ret dbl rfl))
    have hqm := List.mem_of_getElem? hq
    have kq := ok.mem hqm
    have hle := hK_le hqm
    cases q with
    | add x =>
      have hx : x ∈ leaves := kq
      refine w_cons (w_if (k := false) ((PW.pt (wor (k' := false) (tnot (tv (disi (k := true) (by rfl) B.isinstance (d2x (dvar (d := .d (addD x)) 4)) (by rfl) B.tuple bt_tuple rfl (by decide +kernel)))) (fun _ => wor (k := false) (k' := false) ((ct (c_int op_lt (lenT (ds := [.str "add", .str x]) (by rfl) B.len (dvar 4)) dint)).eqT (by simp))
        (fun _ => wor (k' := false) (tnot (tv (disi (k := true) (by rfl) B.isinstance (d2x (ixT (ds := [.str "add", .str x]) (dvar 4) dint at0)) (by rfl) B.str bt_str rfl (by decide +kernel)))) (fun _ => wor1 (tnot (tv (disi (k := true) (by rfl) B.isinstance (d2x (ixT (ds := [.str "add", .str x]) (dvar 4) dint (atI_nat (j := 1) rfl))) (by rfl) B.str bt_str rfl (by decide +kernel))))))))).eqT rfl) (fun z => nomatch z) (fun _ => w_nil)) ?_
      refine w_one (w_if (k := false) ((ct (c_eqS (ixT (ds := [.str "add", .str x]) (dvar 4) dint at0) dstr)).eqT (by decide)) (fun z => nomatch z) (fun _ => w_one (w_if (k := false) ((PW.pt (wor (k := false) (k' := false) ((ct (c_ne (u64 hr) (d2x (lenT (ds := [.str "add", .str x]) (by rfl) B.len (dvar 4))) (d2x dint) (sh_int _) (sh_int _))).eqT rfl)
        (fun _ => wor1 ((ct (c_niD (ds := leaves.map addD) (u65 hr) (dvar (d := .d (addD x)) 4) (d2x (dvar 2)) (add_shaped (hL x hx)) (adds_shaped hL))).eqT (by rw [any_add, decide_eq_true hx]; rfl))))).eqT rfl) (fun z => nomatch z) (fun _ => w_nil))))
    | loop a kn =>
      obtain ⟨ha, hno, hne, hkn⟩ := (show a ∈ axes ∧ a ∉ over ∧ kn ≠ [] ∧ KnsOk axes leaves (over ++ [a]) kn from kq)
      have hl : hKs kn + 1 ≤ hKs ks := hle
      refine w_cons (w_if (k := false) ((PW.pt (wor (k' := false) (tnot (tv (disi (k := true) (by rfl) B.isinstance (d2x (dvar (d := .d (loopD a (knDs kn))) 4)) (by rfl) B.tuple bt_tuple rfl (by decide +kernel)))) (fun _ => wor (k := false) (k' := false) ((ct (c_int op_lt (lenT (ds := [.str "loop", .str a, .tuple (knDs kn)]) (by rfl) B.len (dvar 4)) dint)).eqT (by simp))
        (fun _ => wor (k' := false) (tnot (tv (disi (k := true) (by rfl) B.isinstance (d2x (ixT (ds := [.str "loop", .str a, .tuple (knDs kn)]) (dvar 4) dint at0)) (by rfl) B.str bt_str rfl (by decide +kernel)))) (fun _ => wor1 (tnot (tv (disi (k := true) (by rfl) B.isinstance (d2x (ixT (ds := [.str "loop", .str a, .tuple (knDs kn)]) (dvar 4) dint (atI_nat (j := 1) rfl))) (by rfl) B.str bt_str rfl (by decide +kernel))))))))).eqT rfl) (fun z => nomatch z) (fun _ => w_nil)) ?_
      refine w_one (w_if (k := true) ((ct (c_eqS (ixT (ds := [.str "loop", .str a, .tuple (knDs kn)]) (dvar 4) dint at0) dstr)).eqT (by decide)) (fun _ => ?_) (fun z => nomatch z))
      refine w_cons (w_if (k := false) ((PW.pt (wor (k := false) (k' := false) ((ct (c_ne (u64 hr) (d2x (lenT (ds := [.str "loop", .str a, .tuple (knDs kn)]) (by rfl) B.len (dvar 4))) (d2x dint) (sh_int _) (sh_int _))).eqT rfl)
        (fun _ => wor (k := false) (k' := false) ((ct (c_ni (ixT (ds := [.str "loop", .str a, .tuple (knDs kn)]) (dvar 4) dint (atI_nat (j := 1) rfl)) (d2s (dvar 1)) rfl (strs_flat _))).eqT (by rw [any_str, decide_eq_true ha]; rfl))
          (fun _ => wor (k := false) (k' := false) ((ct (c_inT (ixT (ds := [.str "loop", .str a, .tuple (knDs kn)]) (dvar 4) dint (atI_nat (j := 1) rfl)) (dvar 3) rfl (strs_flat _))).eqT (by rw [any_str, decide_eq_false hno]))
            (fun _ => wor1 ((ct (c_eq (u64 hr) (d2x (ixT (ds := [.str "loop", .str a, .tuple (knDs kn)]) (dvar 4) dint (atI_nat (j := 2) rfl))) (d2x (dtup (ds := []) an)) (kns_shaped hA hL hkn (by omega)) sh_nilT)).eqT ?_)))))).eqT rfl) (fun z => nomatch z) (fun _ => w_nil)) ?_
      · obtain ⟨y, ys, rfl⟩ := List.exists_cons_of_ne_nil hne
        rw [PyData.eqv]
        show PyData.eqvAll (knD y :: knDs ys) [] = false
        simp [PyData.eqvAll]
      · refine w_one (w_if (k := false) ((tnot (tv (call GR hr (ac (ixT (ds := [.str "loop", .str a, .tuple (knDs kn)]) (dvar 4) dint (atI_nat (j := 2) rfl)) (ac (dvar 1) (ac (dvar 2) (ac ((dcat (ds := over.map .str) (es := [.str a]) (dvar 3) (dtup (ds := [.str a]) (ac (ixT (ds := [.str "loop", .str a, .tuple (knDs kn)]) (dvar 4) dint (atI_nat (j := 1) rfl)) an)) (sz (by rw [List.length_map]; simp only [List.length_singleton]; omega))).eqD (d2 := .d (axD (over ++ [a]))) (by simp [axD])) an))))
          ⟨kn, axes, leaves, over ++ [a], hA, hL, hkn, by omega, by omega, by rw [List.length_append]; simp only [List.length_singleton]; omega, rfl, rfl⟩))).eqT rfl) (fun z => nomatch z) (fun _ => w_nil))
end
end KL
/-! B19: _law_meeting. -/
namespace KL
open PySem PySem.Spec L2
def metRow (ps : List (Str × Str × List Str)) (x : Str) : List (Str × List Str × Bool) := ps.flatMap fun p => (if p.1 = x then [(p.2.1, p.2.2, true)] else []) ++ if p.2.1 = x then [(p.1, p.2.2, false)] else []
def metD (q : Str × List Str × Bool) : Key × PyData := (.inr q.1, .tuple [axD q.2.1, .bool q.2.2])
def meetK (P : Plan) (i : Nat) : List (Key × List (Key × PyData)) := P.steps.map fun s => (.inr s.1, (metRow (P.pairs.take i) s.1).map metD)
/-- no two pairs between the same two -/
def Plan.Sim (P : Plan) : Prop := ∀ x, ((metRow P.pairs x).map (·.1)).Nodup
def RMeet : List D → D → Prop := fun ds d => ∃ P : Plan, P.Ok ∧ P.Sim ∧ ds = [.d (planD P)] ∧ d = .dd (meetK P P.pairs.length)
abbrev sMeet : Stmt := top 53
theorem scMeet : FnScope ["_law_plan", "_law_found", "_law_one", "_law_other", "_law_axes", "_law_step"] ["_law_plan"] (defScope sMeet) := ⟨rfl, rfl, rfl, by decide +kernel, rfl, by decide +kernel, by decide +kernel⟩
theorem metRow_len (ps : List (Str × Str × List Str)) (x : Str) : (metRow ps x).length ≤ 2 * ps.length := by
  unfold metRow
  induction ps with
  | nil => simp
  | cons p r ih =>
    rw [List.flatMap_cons, List.length_append, List.length_cons]
    have : ((if p.1 = x then [(p.2.1, p.2.2, true)] else []) ++ if p.2.1 = x then [(p.1, p.2.2, false)] else []).length ≤ 2 := by
      rw [List.length_append]
      split <;> split <;> simp
    omega
theorem meetK_keys (P : Plan) (i : Nat) : (meetK P i).map (·.1) = (P.steps.map (·.1)).map Sum.inr := by
  unfold meetK
  rewrite [List.map_map]; rw [List.map_map]
  rfl
theorem putK2_keys {kvs : List (Key × List (Key × PyData))} {k k2 : Key} {y : PyData} : (putK2 kvs k k2 y).map (·.1) = kvs.map (·.1) := by
  unfold putK2
  rw [List.map_map]
  apply List.map_congr_left
  intro q _
  show (if q.1 = _ then _ else q).1 = q.1
  split <;> rfl
theorem metRow_take (P : Plan) {i : Nat} {p : Str × Str × List Str} (h : P.pairs[i]? = some p) (x : Str) : metRow (P.pairs.take (i + 1)) x = metRow (P.pairs.take i) x ++ ((if p.1 = x then [(p.2.1, p.2.2, true)] else []) ++ if p.2.1 = x then [(p.1, p.2.2, false)] else []) := by
  rw [List.take_add_one, h]
  unfold metRow
  rw [List.flatMap_append]
  congr 1
  simp
theorem meetK_step {P : Plan} (ok : P.Ok) {i : Nat} {p : Str × Str × List Str} (h : P.pairs[i]? = some p) : putK2 (putK2 (meetK P i) (.inr p.1) (.inr p.2.1) (.tuple [axD p.2.2, .bool true])) (.inr p.2.1) (.inr p.1) (.tuple [axD p.2.2, .bool false]) = meetK P (i + 1) := by
  have hne := ok.ne p (List.mem_of_getElem? h)
  unfold meetK putK2
  rewrite [List.map_map]; rw [List.map_map]
  apply List.map_congr_left
  intro s _
  rw [metRow_take P h]
  simp only [Function.comp]
  by_cases h1 : p.1 = s.1
  · have h2 : ¬ p.2.1 = s.1 := fun z => hne (h1.trans z.symm)
    have h3 : ¬ s.1 = p.2.1 := fun z => h2 z.symm
    simp [h1, h2, h3, List.map_append, metD]
  · have h1' : ¬ s.1 = p.1 := fun z => h1 z.symm
    by_cases h2 : p.2.1 = s.1
    · simp [h1, h1', h2, List.map_append, metD]
    · have h2' : ¬ s.1 = p.2.1 := fun z => h2 z.symm
      simp [h1, h1', h2, h2', List.map_append]
theorem meet_new {P : Plan} (si : P.Sim) {i : Nat} {p : Str × Str × List Str} (h : P.pairs[i]? = some p) (x : Str) : ((metRow (P.pairs.take (i + 1)) x).map (·.1)).Nodup := by
  have := si x
  rw [← List.take_append_drop (i + 1) P.pairs] at this
  unfold metRow at this ⊢
  rw [List.flatMap_append, List.map_append] at this
  exact (List.nodup_append.mp this).1
theorem metD_key (qs : List (Str × List Str × Bool)) (z : Str) : (Sum.inr z : Key) ∈ (qs.map metD).map (·.1) ↔ z ∈ qs.map (·.1) := by
  rw [List.map_map]
  constructor
  · intro h
    obtain ⟨q, hq, e⟩ := List.mem_map.mp h
    exact List.mem_map.mpr ⟨q, hq, Sum.inr.inj e⟩
  · intro h
    obtain ⟨q, hq, e⟩ := List.mem_map.mp h
    exact List.mem_map.mpr ⟨q, hq, congrArg Sum.inr e⟩
section
variable {mg : Str → Option Value} {base : Heap} {P : Program} {w : World} {K : PySem.W.Frag}
theorem ok_meet {f : Addr} {fd : FuncData} {k : Nat} (F : Fun K "_law_meeting" "_law_meeting" sMeet f fd) (B : Bi mg) : FnOk P w K mg base CX0 (k + 1) f fd ["_law_plan"] (spD K RMeet) := by
  refine def_of F scMeet (fun ds d ⟨P, _, _, e, _⟩ => by rw [e]; rfl) fun cdv A outer s H E hr ds d ⟨PL, ok, si, eds, ed⟩ => ?_
  subst eds ed
  have hu := hr.units
  have s1 := ok.s1
  have s2 := ok.s2
  have hNm : ∀ i, ((meetK PL i).map (·.1)).Nodup := fun i => by rw [meetK_keys]; exact keys_nd ok.nd
  have e0 : (PL.steps.map fun s => (Sum.inr s.1 : Key)).map (fun k => (k, ([] : List (Key × PyData)))) = meetK PL 0 := by
    rw [List.map_map]
    rfl
  refine w_cons (w_oo (kvs := meetK PL 0) 1 (e0 ▸ dictOo (ks := PL.steps.map fun s => (Sum.inr s.1 : Key)) rfl (by rfl) B.dict (by have := keys_nd ok.nd; rw [List.map_map] at this; exact this)
    (prcomp (own := [("_law_step", 5)]) (xs := PL.steps) (enc := stD) (kf := fun s => .inr s.1) (ρ' := fun s => [.fr (.d (planD PL)), .un, .un, .un, .un, .fr (.d (stD s))])
    (i_t (ixT (ds := [.tuple (PL.steps.map stD), .tuple (PL.pairs.map prD)]) (dvar 0) dint at0)) (blkOk_by (own := [("_law_step", 5)]) (by kernel_rfl))
    (fun x hx s H C cl fp => g_name 5 scMeet.nd) (fun x hx s H C cl fp => kdtup (ixT (ds := [.str x.1, axD x.2]) (dvar 5) dint at0)) (sz (by omega)) (hN := scMeet.nd))) scMeet.nd) ?_
  refine w_cons (w_for (xs := PL.pairs) (enc := prD) (vs := [2, 3, 4]) (fun i => [.fr (.d (planD PL)), .oo (meetK PL i), .un, .un, .un, .un]) (fun i p => [.fr (.d (planD PL)), .oo (meetK PL i), .fr (.d (.str p.1)), .fr (.d (.str p.2.1)), .fr (.d (axD p.2.2)), .un])
    (i_t (ixT (ds := [.tuple (PL.steps.map stD), .tuple (PL.pairs.map prD)]) (dvar 0) dint (atI_nat (j := 1) rfl))) rfl (fun i p hp => g_tup rfl (gs_cons (g_name 2 scMeet.nd) (gs_cons (g_name 3 scMeet.nd) (gs_cons (g_name 4 scMeet.nd) gs_nil)))) (fun i p hp => ?_)) ?_
  · have hmem := List.mem_of_getElem? hp
    have hne := ok.ne p hmem
    have hlen : ∀ q ∈ meetK PL i, q.2.length ≤ 60 := fun q hq => by
      obtain ⟨s, _, rfl⟩ := List.mem_map.mp hq
      show ((metRow (PL.pairs.take i) s.1).map metD).length ≤ 60
      rw [List.length_map]
      have := metRow_len (PL.pairs.take i) s.1
      rw [List.length_take] at this
      omega
    have hin : ∀ x, x ∈ PL.steps.map (·.1) → (Sum.inr x : Key) ∈ (meetK PL i).map (·.1) := fun x hx => by
      rw [meetK_keys]
      exact List.mem_map.mpr ⟨x, hx, rfl⟩
    have new1 : p.2.1 ∉ (metRow (PL.pairs.take i) p.1).map (·.1) := fun z => by
      have := meet_new si hp p.1
      rw [metRow_take PL hp, List.map_append, if_pos rfl] at this
      exact (List.nodup_append.mp this).2.2 _ z _ (by simp) rfl
    have new2 : p.1 ∉ (metRow (PL.pairs.take i) p.2.1).map (·.1) := fun z => by
      have := meet_new si hp p.2.1
      rw [metRow_take PL hp, List.map_append, if_pos (rfl : p.2.1 = p.2.1)] at this
      exact (List.nodup_append.mp this).2.2 _ z _ (by simp) rfl
    have st := meetK_step ok hp
    have nd2 : ((putK2 (meetK PL i) (.inr p.1) (.inr p.2.1) (.tuple [axD p.2.2, .bool true])).map (·.1)).Nodup := by rw [putK2_keys]; exact hNm i
    have hin2 : (Sum.inr p.2.1 : Key) ∈ (putK2 (meetK PL i) (.inr p.1) (.inr p.2.1) (.tuple [axD p.2.2, .bool true])).map (·.1) := by rw [putK2_keys]; exact hin _ (ok.e2 p hmem)
    refine w_wk (w_cons (w_ooUpd 1 (k := .inr p.1) (k2 := .inr p.2.1) (y := .tuple [axD p.2.2, .bool true]) (u1 hr) (dvar 2) (dict1 rfl (by rfl) B.dict bt_dict (n2s (nlst (ds := [.tuple [.str p.2.1, .tuple [axD p.2.2, .bool true]]]) (ac (dtup (ds := [.str p.2.1, .tuple [axD p.2.2, .bool true]]) (ac (dvar 3) (ac (dtup (ds := [axD p.2.2, .bool true]) (ac (dvar 4) (ac dbl an))) an))) an)))) (hNm i) (hin _ (ok.e1 p hmem)) (fun q hq => Nat.lt_of_le_of_lt (hlen q hq) (by decide)) (fun q hq e => ?_))
      (w_cons (w_ooUpd 1 (k := .inr p.2.1) (k2 := .inr p.1) (y := .tuple [axD p.2.2, .bool false]) (u1 hr) (dvar 3) (dict1 rfl (by rfl) B.dict bt_dict (n2s (nlst (ds := [.tuple [.str p.1, .tuple [axD p.2.2, .bool false]]]) (ac (dtup (ds := [.str p.1, .tuple [axD p.2.2, .bool false]]) (ac (dvar 2) (ac (dtup (ds := [axD p.2.2, .bool false]) (ac (dvar 4) (ac dbl an))) an))) an)))) nd2 hin2 (fun q hq => ?_) (fun q hq e => ?_)) w_nil)) ?_
    · obtain ⟨s, _, rfl⟩ := List.mem_map.mp hq
      have e' : s.1 = p.1 := Sum.inr.inj e
      show Sum.inr p.2.1 ∉ ((metRow (PL.pairs.take i) s.1).map metD).map (·.1)
      rw [metD_key, e']
      exact new1
    · obtain ⟨q0, h0, rfl⟩ := List.mem_map.mp hq
      have := hlen q0 h0
      split
      · show (q0.2 ++ [_]).length < _
        rw [List.length_append]
        simp only [List.length_singleton]
        omega
      · omega
    · obtain ⟨q0, h0, rfl⟩ := List.mem_map.mp hq
      obtain ⟨s, _, rfl⟩ := List.mem_map.mp h0
      have z : ¬ (Sum.inr s.1 : Key) = Sum.inr p.1 := fun z => by
        rw [if_pos z] at e
        exact hne (Sum.inr.inj (z.symm.trans e))
      rw [if_neg z] at e ⊢
      have e' : s.1 = p.2.1 := Sum.inr.inj e
      show Sum.inr p.1 ∉ ((metRow (PL.pairs.take i) s.1).map metD).map (·.1)
      rw [metD_key, e']
      exact new2
    · show Wk [_, .oo (putK2 (putK2 (meetK PL i) _ _ _) _ _ _), _, _, _, _] _
      rw [st]
      exact .keep (.keep (.drop (.drop (.drop (.keep .nil)))))
  · exact w_freezeOo 1 (w_one (w_ret (dvar 1) rfl))
end
end KL
/-! B20: _law_row_of. -/
namespace KL
open PySem PySem.Spec L2
structure RowOk (P : Plan) (r0 : Str) (row : List Str) : Prop where
  len : (r0 :: row).length = P.steps.length
  ends : ∃ x xs, (P.steps.map (·.1)).filter (fun n => decide ((metRow P.pairs n).length = 1)) = x :: xs ∧ PySem.W.minD (.str x) (xs.map .str) = .str r0
  next : ∀ i a b, (r0 :: row)[i]? = some a → (r0 :: row)[i + 1]? = some b → ∃ t, ((metRow P.pairs a).map (·.1)).filter (fun n => !decide (n ∈ (r0 :: row).take (i + 1))) = b :: t
  mem : ∀ a ∈ r0 :: row, a ∈ P.steps.map (·.1)
def RRowOf : List D → D → Prop := fun ds d => ∃ (P : Plan) (r0 : Str) (row : List Str), P.Ok ∧ P.Sim ∧ RowOk P r0 row ∧ ds = [.d (planD P)] ∧ d = .d (nmD (r0 :: row))
abbrev sRowOf : Stmt := top 60
theorem scRowOf : FnScope ["_law_plan", "_law_meet", "_law_ends", "_law_row", "_law_turn", "_law_name"] ["_law_plan"] (defScope sRowOf) := ⟨rfl, rfl, rfl, by decide +kernel, rfl, by decide +kernel, by decide +kernel⟩
theorem aal_strs (xs : List Str) : PySem.W.AlikeAll (xs.map .str) := ⟨fun d hd d' hd' => aa_strs xs d hd d' hd', fun d hd => by
  obtain ⟨x, _, rfl⟩ := List.mem_map.mp hd
  exact fun z => nomatch z⟩
theorem meet_find {P : Plan} (ok : P.Ok) {x : Str} (h : x ∈ P.steps.map (·.1)) (i : Nat) : ((meetK P i).find? fun p => decide (p.1 = Sum.inr x)).map (·.2) = some ((metRow (P.pairs.take i) x).map metD) := by
  have : ∀ ss : List (Str × List Str), x ∈ ss.map (·.1) → ((ss.map fun s => ((Sum.inr s.1 : Key), (metRow (P.pairs.take i) s.1).map metD)).find? fun p => decide (p.1 = Sum.inr x)).map (·.2) = some ((metRow (P.pairs.take i) x).map metD) := by
    intro ss
    induction ss with
    | nil => intro h; cases h
    | cons s r ih =>
      intro h
      rw [List.map_cons]
      by_cases hs : s.1 = x
      · rw [List.find?_cons_of_pos (by exact decide_eq_true (congrArg Sum.inr hs)), ← hs]
        rfl
      · rw [List.find?_cons_of_neg (by exact fun z => hs (Sum.inr.inj (of_decide_eq_true z)))]
        exact ih ((List.mem_cons.mp h).resolve_left fun z => hs z.symm)
  exact this P.steps h
def keyNotIn (xs : List Str) (p : Key × PyData) : Bool := match p.1 with
  | .inr x => !decide (x ∈ xs)
  | .inl _ => false
theorem keys_filter (xs : List Str) (qs : List (Str × List Str × Bool)) : ((qs.map metD).filter (keyNotIn xs)).map (fun p => keyD p.1) = ((qs.map (·.1)).filter fun n => !decide (n ∈ xs)).map .str := by
  induction qs with
  | nil => rfl
  | cons q r ih =>
    rw [List.map_cons, List.map_cons, List.filter_cons, List.filter_cons]
    show List.map _ (if (!decide (q.1 ∈ xs)) = true then _ else _) = List.map _ (if (!decide (q.1 ∈ xs)) = true then _ else _)
    split
    · rw [List.map_cons, List.map_cons, ih]
      rfl
    · exact ih
def oneAt (P : Plan) (k : Key) : Bool := match k with
  | .inr x => decide ((metRow P.pairs x).length = 1)
  | .inl _ => false
theorem ends_filter (P : Plan) (xs : List Str) : ((xs.map (Sum.inr : Str → Key)).filter (oneAt P)).map keyD = (xs.filter fun n => decide ((metRow P.pairs n).length = 1)).map .str := by
  induction xs with
  | nil => rfl
  | cons q r ih =>
    rw [List.map_cons, List.filter_cons, List.filter_cons]
    show List.map _ (if decide ((metRow P.pairs q).length = 1) = true then _ else _) = _
    split
    · rw [List.map_cons, List.map_cons, ih]
      rfl
    · exact ih
section
variable {mg : Str → Option Value} {base : Heap} {P : Program} {w : World} {K : PySem.W.Frag}
theorem ok_rowof {f : Addr} {fd : FuncData} {k : Nat} (F : Fun K "_law_row_of" "_law_row_of" sRowOf f fd) (B : Bi mg) (GM : Cal P w K mg base k "_law_meeting" RMeet) : FnOk P w K mg base CX0 (k + 1) f fd ["_law_plan"] (spD K RRowOf) := by
  refine def_of F scRowOf (fun ds d ⟨P, _, _, _, _, _, e, _⟩ => by rw [e]; rfl) fun cdv A outer s H E hr ds d ⟨PL, r0, row, ok, si, ro, eds, ed⟩ => ?_
  subst eds ed
  have s1 := ok.s1
  have s2 := ok.s2
  have hk := meetK_keys PL PL.pairs.length
  have fnd : ∀ x, x ∈ PL.steps.map (·.1) → ((meetK PL PL.pairs.length).find? fun p => decide (p.1 = Sum.inr x)).map (·.2) = some ((metRow PL.pairs x).map metD) := fun x hx => by
    have := meet_find ok hx PL.pairs.length
    rw [List.take_length] at this
    exact this
  have ml : ∀ x, (metRow PL.pairs x).length ≤ 60 := fun x => Nat.le_trans (metRow_len _ _) (by omega)
  obtain ⟨x, xs, ee, em⟩ := ro.ends
  refine w_cons (w_set 1 (call GM hr (ac (dvar 0) an) ⟨PL, ok, si, rfl, rfl⟩) (hN := scRowOf.nd)) ?_
  have hlen : ((PL.steps.map (·.1)).filter (fun n => decide ((metRow PL.pairs n).length = 1))).length ≤ 20 := Nat.le_trans (List.length_filter_le _ _) (by rw [List.length_map]; exact s1)
  refine w_cons (w_lcN (own := [("_law_name", 5)]) (te := tVar 1) (ks := (meetK PL PL.pairs.length).map (·.1)) (pr := oneAt PL) (f := keyD) (ρ' := fun k => [.fr (.d (planD PL)), .fr (.dd (meetK PL PL.pairs.length)), .un, .un, .un, .fr (.d (keyD k))]) 2
    (pe_var (i := 1) (by rfl) (.inr (.inl (by rfl)))) (src_dd (i := 1) rfl) mono_var (blkOk_by (own := [("_law_name", 5)]) (by kernel_rfl)) (fun x hx s H C cl fp => g_name 5 scRowOf.nd) (fun x hx s H C cl fp => ?_) (fun x hx _ s H C cl fp => dvar 5) (sz ?_) (hN := scRowOf.nd)) ?_
  · rw [hk] at hx
    rcases List.mem_map.mp hx with ⟨y, hy, rfl⟩
    refine pts_if ((ct (c_eq (u64 hr) (d2x (lenK (by rfl) B.len (dgD (u1 hr) (dvar 1) (dvar 5) (fnd y hy)))) (d2x dint) (sh_int _) (sh_int _))).eqT ?_)
    rw [eqv_int, List.length_map]
    show _ = decide (_ = _)
    by_cases z : (metRow PL.pairs y).length = 1
    · rw [z]; rfl
    · rw [decide_eq_false z, decide_eq_false (by omega)]
  · rw [List.length_map]
    unfold meetK
    rw [List.length_map]
    omega
  rw [hk, ends_filter, ee]
  refine w_cons (w_own (ds := [.str r0]) 3 (nlst (ds := [.str r0]) (ac ((dmin rfl (u64 hr) (by rfl) B.min bt_min (svar 2) (aal_strs (x :: xs)) (by
    show PyData.depthAll ((x :: xs).map .str) ≤ 20
    rw [depth_strs]
    exact Nat.zero_le _) (fun y hy => List.all_eq_true.mp (strs_flat (x :: xs)) y hy)).eqD (by rw [em])) an)) (hN := scRowOf.nd)) ?_
  have hl := ro.len
  simp only [List.length_cons] at hl
  refine w_cons (w_for (xs := List.range (PL.steps.length - 1)) (enc := fun i => .int (i : Nat)) (vs := [4]) (fun i => [.fr (.d (planD PL)), .fr (.dd (meetK PL PL.pairs.length)), .ow ((x :: xs).map .str), .ow (((r0 :: row).take (i + 1)).map .str), .un, .un])
    (fun i j => [.fr (.d (planD PL)), .fr (.dd (meetK PL PL.pairs.length)), .ow ((x :: xs).map .str), .ow (((r0 :: row).take (i + 1)).map .str), .fr (.d (.int (j : Nat))), .un])
    (i_range (n := PL.steps.length - 1) (by rfl) B.range ((dsub (lenT (ds := PL.steps.map stD) (by rfl) B.len (ixT (ds := [.tuple (PL.steps.map stD), .tuple (PL.pairs.map prD)]) (dvar 0) dint at0)) dint).eqD (by rw [List.length_map]; congr 2; omega)) (by omega)) rfl (fun i j hj => g_name 4 scRowOf.nd) (fun i j hj => ?_)) ?_
  · have hi : i < PL.steps.length - 1 := by
      have := (List.getElem?_eq_some_iff.mp hj).1
      rw [List.length_range] at this
      exact this
    have hi1 : i + 1 < (r0 :: row).length := by rw [List.length_cons]; omega
    have ga : (r0 :: row)[i]? = some (r0 :: row)[i] := List.getElem?_eq_getElem (by omega)
    have gb : (r0 :: row)[i + 1]? = some (r0 :: row)[i + 1] := List.getElem?_eq_getElem hi1
    have hma : (r0 :: row)[i] ∈ PL.steps.map (·.1) := ro.mem _ (List.getElem_mem _)
    obtain ⟨t, et⟩ := ro.next i _ _ ga gb
    generalize (r0 :: row)[i] = a at ga et hma
    generalize (r0 :: row)[i + 1] = b at gb et
    have la : atI (((r0 :: row).take (i + 1)).map PyData.str) (-1) = some (keyD (.inr a)) := by
      rw [List.take_add_one, ga, List.map_append]
      exact atI_last _ _
    have tk : (r0 :: row).take (i + 1 + 1) = (r0 :: row).take (i + 1) ++ [b] := by
      rw [List.take_add_one, gb]
      rfl
    have tl : ((r0 :: row).take (i + 1)).length ≤ 20 := by rw [List.length_take, List.length_cons]; omega
    generalize (r0 :: row).take (i + 1) = pre at la et tk tl ⊢
    rw [tk, List.map_append]
    refine w_wk (w_one (w_append 3 (a := .str b) (ixS (ds := (((metRow PL.pairs a).map metD).filter (keyNotIn pre)).map fun p => keyD p.1) (n2s (kcomp (own := [("_law_name", 5)]) (te := tLastKey _ 1 3) (kvs := (metRow PL.pairs a).map metD) (pr := keyNotIn pre) (f := fun p => keyD p.1)
      (ρ' := fun p => [.fr (.d (planD PL)), .fr (.dd (meetK PL PL.pairs.length)), .ow ((x :: xs).map .str), .ow (pre.map .str), .fr (.d (.int (j : Nat))), .fr (.d (keyD p.1))])
      (pe_dget (u1 hr) (pe_var (i := 1) (by rfl) (.inr (.inl (by rfl)))) (pe_ix ix_list (pe_var (i := 3) (by rfl) (.inr (.inl (by rfl)))) (pe_un un_neg pe_int) (by intro _ _; rfl)) (by intro _ _; rfl))
      (src_last (i := 1) (j := 3) rfl rfl la (fnd a hma)) mono_lastKey (blkOk_by (own := [("_law_name", 5)]) (by kernel_rfl)) (fun x hx s H C cl fp => g_name 5 scRowOf.nd) (fun q hq s H C cl fp => ?_) (fun x hx _ s H C cl fp => dvar 5) (sz ?_) (hN := scRowOf.nd))) dint ?_) (szl ?_)))
      (.keep (.keep (.keep (.keep (.drop (.keep .nil))))))
    · obtain ⟨m, hm, rfl⟩ := List.mem_map.mp hq
      exact pts_if ((ct (c_ni (dvar 5) (svar 3) rfl (strs_flat _))).eqT (congrArg (!·) (any_str m.1 pre)))
    · rw [List.length_map]
      exact Nat.le_trans (ml a) (by decide)
    · rw [keys_filter, et]
      exact at0
    · rw [List.length_map]
      omega
  · refine w_freeze 3 (w_one (w_ret ((dvar 3).eqD ?_) rfl))
    rw [List.length_range, List.take_of_length_le (by rw [List.length_cons]; omega)]
    rfl
end
end KL
/-! B21: _law_is_plan_tree. -/
namespace KL
open PySem PySem.Spec L2
def planAx (P : Plan) : List Str := setS (P.steps.flatMap (·.2))
/-- a tree that the law takes for the plan -/
structure TreeOk (P : Plan) (ks : List Knot) : Prop where
  ne : P.steps ≠ []
  dp : hKs ks ≤ 20
  kn : KnsOk (planAx P) (P.steps.map (·.1)) [] ks
  perm : ((rowsT 0 ks).map (·.name)).Perm (P.steps.map (·.1))
  own : ∀ r ∈ rowsT 0 ks, ∃ s ∈ P.steps, s.1 = r.name ∧ sortS r.axes = s.2
  sh : ∀ p ∈ P.pairs, ∃ (i j : Nat) (a b : Rw), (rowsT 0 ks)[i]? = some a ∧ (rowsT 0 ks)[j]? = some b ∧ a.name = p.1 ∧ b.name = p.2.1 ∧ i ≤ j ∧ sortS (shareOf a b) = p.2.2
def RPlanTree : List D → D → Prop := fun ds d => ∃ (P : Plan) (ks : List Knot), P.Ok ∧ TreeOk P ks ∧ ds = [planF P, .d (.tuple (knDs ks))] ∧ d = .d (.bool true)
abbrev sPlanTree : Stmt := top 54
theorem scPlanTree : FnScope ["_law_plan", "_law_thing", "_law_loops", "_law_axes", "_law_rows_here", "_law_order", "_law_one", "_law_other", "_law_share_here", "_law_first", "_law_second", "_law_step", "_law_name", "_law_row"] ["_law_plan", "_law_thing"] (defScope sPlanTree) := ⟨rfl, rfl, rfl, by decide +kernel, rfl, by decide +kernel, by decide +kernel⟩
theorem insT_sub : ∀ (xs acc : List Str), ∀ y ∈ insT acc xs, y ∈ acc ∨ y ∈ xs := by
  intro xs
  induction xs with
  | nil => intro acc y h; exact .inl h
  | cons x xs ih =>
    intro acc y h
    rcases ih _ y (show y ∈ insT (ins1 acc x) xs from h) with z | z
    · unfold ins1 at z
      split at z
      · exact .inl z
      · obtain z | z := List.mem_cons.mp z
        · exact .inr (by rw [z]; exact List.mem_cons_self)
        · exact .inl z
    · exact .inr (List.mem_cons_of_mem _ z)
theorem setS_mem {xs : List Str} {y : Str} (h : y ∈ setS xs) : y ∈ xs := by
  have := (List.mergeSort_perm (insT [] xs) leS).mem_iff.mp h
  exact (insT_sub xs [] y this).resolve_left fun z => nomatch z
section
variable {mg : Str → Option Value} {base : Heap} {P : Program} {w : World} {K : PySem.W.Frag}
theorem ok_plantree {f : Addr} {fd : FuncData} {k : Nat} (F : Fun K "_law_is_plan_tree" "_law_is_plan_tree" sPlanTree f fd) (B : Bi mg) (GK : Cal P w K mg base k "_law_is_knots" (RKnots 21)) (GR : Cal P w K mg base k "_law_rows" (RRows 21)) (GS : Cal P w K mg base k "_law_share" RShareL) : FnOk P w K mg base CX0 (k + 1) f fd ["_law_plan", "_law_thing"] (spD K RPlanTree) := by
  refine def_of F scPlanTree (fun ds d ⟨_, _, _, _, e, _⟩ => by rw [e]; rfl) fun cdv A outer s H E hr ds d ⟨PL, ks, ok, tk, eds, ed⟩ => ?_
  subst eds ed
  have s1 := ok.s1
  have s2 := ok.s2
  have hrl : (rowsT 0 ks).length = PL.steps.length := by
    have := tk.perm.length_eq
    rw [List.length_map, List.length_map] at this
    exact this
  have hkd : ((PL.steps.map fun s => ((Sum.inr s.1 : Key), axD s.2)).map (·.1)) = (PL.steps.map (·.1)).map Sum.inr := by rw [List.map_map, List.map_map]; rfl
  have ndk : ((PL.steps.map fun s => ((Sum.inr s.1 : Key), axD s.2)).map (·.1)).Nodup := by rw [hkd]; exact keys_nd ok.nd
  refine w_cons (w_set (d := .dk (PL.steps.map fun s => ((Sum.inr s.1 : Key), axD s.2))) 2 (dictT rfl (by rfl) B.dict ndk ((ixF (dvar 0) dint).eqD (by rw [List.map_map]; rfl))) (hN := scPlanTree.nd)) ?_
  have fl : (PL.steps.map fun s => s.2.map PyData.str).flatten = (PL.steps.flatMap (·.2)).map .str := by
    rw [← List.flatMap_def, List.map_flatMap]
  have fll : (PL.steps.flatMap (·.2)).length ≤ 400 := by
    have : ∀ ss : List (Str × List Str), (∀ s ∈ ss, s.2.length ≤ 20) → (ss.flatMap (·.2)).length ≤ 20 * ss.length := by
      intro ss
      induction ss with
      | nil => intro _; simp
      | cons s r ih =>
        intro h
        have h1 := h s List.mem_cons_self
        have h2 := ih fun q hq => h q (List.mem_cons_of_mem _ hq)
        rw [List.flatMap_cons, List.length_append, List.length_cons]
        omega
    have := this PL.steps ok.s3
    omega
  refine w_cons (w_own (ds := (planAx PL).map .str) 3 (setsrt (ks := PL.steps.flatMap (·.2)) (ds := planAx PL) (u64 hr) (by rfl) B.sorted bt_sorted (by rfl) B.set bt_set ((n2s (dsumL (dss := PL.steps.map fun s => s.2.map PyData.str) rfl (by rfl) B.sum (by decide +kernel) (n2s ((lcomp (own := [("_law_step", 11)]) (xs := PL.steps) (enc := stD) (pr := fun _ => true) (f := fun s => .list (s.2.map .str))
    (ρ' := fun s => [planF PL, .d (.tuple (knDs ks)), .dk (PL.steps.map fun s => ((Sum.inr s.1 : Key), axD s.2))].map .fr ++ [.un, .un, .un, .un, .un, .un, .un, .un, .fr (.d (stD s)), .un, .un])
    (i_t (tn2d (ixF (dvar 0) dint))) (blkOk_by (own := [("_law_step", 11)]) (by kernel_rfl)) (fun x hx s H C cl fp => g_name 11 scPlanTree.nd) (fun x hx s H C cl fp => pts_no) (fun x hx _ s H C cl fp => n2d (lstT (by rfl) B.list bt_list (ixT (ds := [.str x.1, axD x.2]) (dvar 11) dint (atI_nat (j := 1) rfl)) (sz (by rw [List.length_map]; have := ok.s3 x hx; omega)))) (sz (by omega)) (hN := scPlanTree.nd)).eqN (by rw [filt_true, List.map_map]; rfl))) (nlst (ds := []) an) (by
      intro e
      exact tk.ne (List.map_eq_nil_iff.mp e)) (sz (by rw [fl, List.length_map]; omega)))).eqS fl) (by omega) (setS_ok _)) (hN := scPlanTree.nd)) ?_
  refine w_freeze 3 ?_
  have okA : OkS (planAx PL) := fun y hy => by
    obtain ⟨s, hs, hy2⟩ := List.mem_flatMap.mp (setS_mem hy)
    exact (ok.o1 s hs).2 y hy2
  have okL : OkS (PL.steps.map (·.1)) := fun y hy => ok.oN hy
  refine w_cons (w_if (k := false) ((tnot (tv (call (d := .d (.bool true)) GK hr (ac (dvar (d := .d (.tuple (knDs ks))) 1) (ac (dvar (d := .d (nmD (planAx PL))) 3) (ac ((n2d (kcomp (own := [("_law_name", 12)]) (te := tVar 2) (kvs := PL.steps.map fun s => ((Sum.inr s.1 : Key), axD s.2)) (pr := fun _ => true) (f := fun q => .tuple [.str "add", keyD q.1])
    (ρ' := fun q => [planF PL, .d (.tuple (knDs ks)), .dk (PL.steps.map fun s => ((Sum.inr s.1 : Key), axD s.2)), .d (nmD (planAx PL))].map .fr ++ [.un, .un, .un, .un, .un, .un, .un, .un, .fr (.d (keyD q.1)), .un])
    (pe_var (i := 2) (by rfl) (.inr (.inl (by rfl)))) (src_var (i := 2) rfl) mono_var (blkOk_by (own := [("_law_name", 12)]) (by kernel_rfl)) (fun x hx s H C cl fp => g_name 12 scPlanTree.nd) (fun x hx s H C cl fp => pts_no) (fun x hx _ s H C cl fp => dtup (ds := [.str "add", keyD x.1]) (ac dstr (ac (dvar 12) an))) (sz (by rw [List.length_map]; omega)) (hN := scPlanTree.nd))).eqD (d2 := .d (.list ((PL.steps.map (·.1)).map addD))) (by rw [filt_true, List.map_map, List.map_map]; rfl)) (ac (dtup (ds := []) an) an))))
    ⟨ks, planAx PL, PL.steps.map (·.1), [], okA, okL, tk.kn, Nat.lt_succ_of_le tk.dp, tk.dp, by have := tk.dp; simp only [List.length_nil]; omega, rfl, rfl⟩))).eqT rfl) (fun z => nomatch z) (fun _ => w_nil)) ?_
  refine w_cons (w_set (d := .d (.list ((rowsT 0 ks).map rwD))) 4 (call GR hr (ac (dvar 1) an) ⟨ks, Nat.lt_succ_of_le tk.dp, Nat.le_trans tk.dp (by decide), by omega, rfl, rfl⟩) (hN := scPlanTree.nd)) ?_
  have hrn : ∀ r ∈ rowsT 0 ks, r.place.length ≤ 21 ∧ r.axes.length ≤ 20 := fun r hr' => by
    have := places_len ks 0 r hr'
    have := tk.dp
    omega
  refine w_cons (w_lc 5 (own := [("_law_row", 13)]) (xs := rowsT 0 ks) (enc := rwD) (pr := fun _ => true) (f := fun r => .str r.name)
    (ρ' := fun r => [planF PL, .d (.tuple (knDs ks)), .dk (PL.steps.map fun s => ((Sum.inr s.1 : Key), axD s.2)), .d (nmD (planAx PL)), .d (.list ((rowsT 0 ks).map rwD))].map .fr ++ [.un, .un, .un, .un, .un, .un, .un, .un, .fr (.d (rwD r))])
    (i_l (dvar 4)) (blkOk_by (own := [("_law_row", 13)]) (by kernel_rfl)) (fun x hx s H C cl fp => g_name 13 scPlanTree.nd) (fun x hx s H C cl fp => pts_no) (fun x hx _ s H C cl fp => ixT (ds := [.str x.word, .str x.name, .tuple (itD x.place), axD x.axes]) (dvar 13) dint (atI_nat (j := 1) rfl)) (sz (by omega)) (hN := scPlanTree.nd)) ?_
  rw [filt_true, show (rowsT 0 ks).map (fun r => PyData.str r.name) = ((rowsT 0 ks).map (·.name)).map .str by rw [List.map_map]; rfl]
  refine w_freeze 5 ?_
  have okN : OkS ((rowsT 0 ks).map (·.name)) := fun y hy => ok.oN (tk.perm.mem_iff.mp hy)
  have okS : ∀ xs : List Str, OkS xs → OkS (sortS xs) := fun xs h y hy => h y ((List.mergeSort_perm _ _).mem_iff.mp hy)
  refine w_cons (w_if (k := false) ((PW.pt (wor (k := false) (k' := false) ((ct (c_ne (u64 hr) (n2x ((srtS (u64 hr) (by rfl) B.sorted bt_sorted (d2s (dvar (d := .d (nmD ((rowsT 0 ks).map (·.name)))) 5)) (aa_strs _) (so_strs _) (de_strs _) (sz (by rw [List.length_map, List.length_map]; omega))).eqN (srt_strs _)))
      (n2x (srtK rfl (by rfl) B.sorted hkd (by rw [List.length_map]; omega) (dvar 2))) (sh_nm (okS _ okN)) (sh_nm (okS _ okL)))).eqT ?_)
    (fun _ => wor1 ((ct (c_ne (u64 hr) (n2x ((lcomp (own := [("_law_row", 13)]) (xs := rowsT 0 ks) (enc := rwD) (pr := fun _ => false) (f := rwD)
      (ρ' := fun r => [planF PL, .d (.tuple (knDs ks)), .dk (PL.steps.map fun s => ((Sum.inr s.1 : Key), axD s.2)), .d (nmD (planAx PL)), .d (.list ((rowsT 0 ks).map rwD)), .d (nmD ((rowsT 0 ks).map (·.name)))].map .fr ++ [.un, .un, .un, .un, .un, .un, .un, .fr (.d (rwD r))])
      (i_l (dvar 4)) (blkOk_by (own := [("_law_row", 13)]) (by kernel_rfl)) (fun x hx s H C cl fp => g_name 13 scPlanTree.nd) (fun x hx s H C cl fp => ?_) (fun x hx z s H C cl fp => nomatch z) (sz (by omega)) (hN := scPlanTree.nd)).eqN (es := []) (by rw [List.filter_eq_nil_iff.mpr (fun _ _ => Bool.false_ne_true)]; rfl))) (n2x (nlst (ds := []) an)) sh_nil sh_nil)).eqT rfl)))).eqT rfl) (fun z => nomatch z) (fun _ => w_nil)) ?_
  · rw [sortS_perm tk.perm]
    show (!PyData.eqv (nmD _) (nmD _)) = false
    rw [eqv_nm, decide_eq_true rfl]
    rfl
  · obtain ⟨st, hst, e1, e2⟩ := tk.own x hx
    have lk : look (PL.steps.map fun s => ((Sum.inr s.1 : Key), axD s.2)) (Sum.inr x.name) = some (axD st.2) := by
      rw [← e1]
      exact look_mem ndk ((Sum.inr st.1 : Key), axD st.2) (List.mem_map.mpr ⟨st, hst, rfl⟩)
    have xl := (hrn x hx).2
    have okX : OkS (sortS x.axes) := by rw [e2]; exact (ok.o1 st hst).2
    refine pts_if ((ct (c_ne (u64 hr) (d2x (tupS (ds := (sortS x.axes).map .str) (by rfl) B.tuple bt_tuple (n2s (srtT (u64 hr) (by rfl) B.sorted (ixT (ds := [.str x.word, .str x.name, .tuple (itD x.place), axD x.axes]) (dvar 13) dint (atI_nat (j := 3) rfl)) (by omega)))))
      (d2x (dgK (k := .inr x.name) (u1 hr) (dvar 2) (ixT (ds := [.str x.word, .str x.name, .tuple (itD x.place), axD x.axes]) (dvar 13) dint (atI_nat (j := 1) rfl)) lk)) (sh_ax okX) (sh_ax (ok.o1 st hst).2))).eqT ?_)
    show (!PyData.eqv (axD _) (axD _)) = false
    rw [eqv_ax, e2, decide_eq_true rfl]
    rfl
  have ndN : ((rowsT 0 ks).map (·.name)).Nodup := tk.perm.nodup_iff.mpr ok.nd
  refine w_cons (w_for (xs := PL.pairs) (enc := prD) (vs := [6, 7, 8]) (fun i => [planF PL, .d (.tuple (knDs ks)), .dk (PL.steps.map fun s => ((Sum.inr s.1 : Key), axD s.2)), .d (nmD (planAx PL)), .d (.list ((rowsT 0 ks).map rwD)), .d (nmD ((rowsT 0 ks).map (·.name)))].map .fr ++ [.un, .un, .un, .un, .un, .un, .un, .un])
    (fun i p => [planF PL, .d (.tuple (knDs ks)), .dk (PL.steps.map fun s => ((Sum.inr s.1 : Key), axD s.2)), .d (nmD (planAx PL)), .d (.list ((rowsT 0 ks).map rwD)), .d (nmD ((rowsT 0 ks).map (·.name)))].map .fr ++ [.fr (.d (.str p.1)), .fr (.d (.str p.2.1)), .fr (.d (axD p.2.2)), .un, .un, .un, .un, .un])
    (i_t (ixT (ds := [.tuple (PL.steps.map stD), .tuple (PL.pairs.map prD)]) (tf2d (dvar 0)) dint (atI_nat (j := 1) rfl))) rfl (fun i p hp => g_tup rfl (gs_cons (g_name 6 scPlanTree.nd) (gs_cons (g_name 7 scPlanTree.nd) (gs_cons (g_name 8 scPlanTree.nd) gs_nil)))) (fun i p hp => ?_)) (w_one (w_ret dbl rfl))
  have hmem := List.mem_of_getElem? hp
  obtain ⟨ia, ib, ra, rb, ga, gb, na, nb, hij, es⟩ := tk.sh p hmem
  have idx : ∀ (j : Nat) (r : Rw), (rowsT 0 ks)[j]? = some r → ((rowsT 0 ks).map (·.name))[j]? = some r.name := fun j r e => by rw [List.getElem?_map, e]; rfl
  have first : ∀ (j : Nat) (r : Rw), (rowsT 0 ks)[j]? = some r → ∀ m z', m < j → (((rowsT 0 ks).map (·.name)).map PyData.str)[m]? = some z' → PyData.eqv z' (.str r.name) = false := fun j r e m z' hm hz => by
    rw [List.getElem?_map] at hz
    cases w : ((rowsT 0 ks).map (·.name))[m]? with
    | none => rw [w] at hz; cases hz
    | some y =>
      rw [w] at hz
      cases hz
      rw [eqv_str, decide_eq_false]
      intro z
      rw [z] at w
      have := nd_ix ndN w (idx j r e)
      omega
  have here : ∀ (j : Nat) (r : Rw), (rowsT 0 ks)[j]? = some r → (((rowsT 0 ks).map (·.name)).map PyData.str)[j]? = some (.str r.name) := fun j r e => by rw [List.getElem?_map, idx j r e]; rfl
  have hma := List.mem_of_getElem? ga
  have hmb := List.mem_of_getElem? gb
  have okp1 : PyData.strOk p.1 = true := ok.oN (ok.e1 p hmem)
  have okp2 : PyData.strOk p.2.1 = true := ok.oN (ok.e2 p hmem)
  refine w_wk (w_cons (w_par 9 10 (r1 := .fr (.d (.int (ia : Nat)))) (r2 := .fr (.d (.int (ib : Nat)))) (idxS (d := .str p.1) (z := .str p.1) (j := ia) (u65 hr) (d2s (dvar (d := .d (nmD ((rowsT 0 ks).map (·.name)))) 5)) (dvar 6) (sh_nm okN) (sh_str okp1) (by rw [← na]; exact here ia ra ga) (by rw [eqv_str, decide_eq_true rfl]) (by rw [← na]; exact first ia ra ga))
    (idxS (d := .str p.2.1) (z := .str p.2.1) (j := ib) (u65 hr) (d2s (dvar (d := .d (nmD ((rowsT 0 ks).map (·.name)))) 5)) (dvar 7) (sh_nm okN) (sh_str okp2) (by rw [← nb]; exact here ib rb gb) (by rw [eqv_str, decide_eq_true rfl]) (by rw [← nb]; exact first ib rb gb)) (hN := scPlanTree.nd))
    (w_one (w_if (k := false) ((PW.pt (wor (k := false) (k' := false) ((ct (c_int op_gt (dvar 9) (dvar 10))).eqT (decide_eq_false (by omega)))
      (fun _ => wor1 ((ct (c_ne (u64 hr) (d2x (tupS (ds := (sortS (shareOf ra rb)).map .str) (by rfl) B.tuple bt_tuple (n2s (srtT (u64 hr) (by rfl) B.sorted (call (d := .d (axD (shareOf ra rb))) GS hr (ac (ixS (ds := (rowsT 0 ks).map rwD) (z := rwD ra) (d2s (dvar 4)) (dvar 9) (atI_nat (by rw [List.getElem?_map, ga]; rfl))) (ac (ixS (ds := (rowsT 0 ks).map rwD) (z := rwD rb) (d2s (dvar 4)) (dvar 10) (atI_nat (by rw [List.getElem?_map, gb]; rfl))) an)) ⟨ra, rb, by have := (hrn ra hma).1; omega, rfl, rfl⟩) ?_))))
        (d2x (dvar (d := .d (axD p.2.2)) 8)) ?_ (sh_ax (ok.o2 p hmem)))).eqT ?_)))).eqT rfl) (fun z => nomatch z) (fun _ => w_nil))))
    (.keep (.keep (.keep (.keep (.keep (.keep (.drop (.drop (.drop (.drop (.drop (.keep (.keep (.keep .nil))))))))))))))
  · have := (hrn ra hma).2
    unfold shareOf
    rw [List.length_take]
    omega
  · rw [es]; exact sh_ax (ok.o2 p hmem)
  · show (!PyData.eqv (axD _) (axD _)) = false
    rw [eqv_ax, es, decide_eq_true rfl]
    rfl
end
end KL
/-! B22: _law_is_told. -/
namespace KL
open PySem PySem.Spec L2
def pathD (p : List Str) : PyData := .tuple [.str "path", nmD p]
/-- names that can be shown -/
structure SmNames (p : List Str) : Prop where
  len : p.length ≤ 12
  two : 2 ≤ p.length
  nd : p.Nodup
  nm : ∀ x ∈ p, PyData.strOk x = true ∧ x.cps.size ≤ 10
inductive ToldOk (n : Nat) (P : Plan) : Bool → PyData → Prop
  | tree {pf : Str → Str → List (List Str)} (pk : PathsOk P pf) {ks : List Knot} (li : LayIs n P pf (.tuple [.str "tree", .tuple (knDs ks)])) (tk : TreeOk P ks) : ToldOk n P true (.list [])
  | path {pf : Str → Str → List (List Str)} (pk : PathsOk P pf) {p : List Str} (li : LayIs n P pf (pathD p)) (sn : SmNames p) : ToldOk n P false (.list [pathD p, pathD p.reverse])
def RTold (n : Nat) : List D → D → Prop := fun ds d => ∃ (P : Plan) (k : Bool) (z : PyData), P.Ok ∧ ToldOk n P k z ∧ ds = [planF P, .d (.bool k), .d z] ∧ d = .d (.bool true)
abbrev sTold : Stmt := top 58
theorem scTold : FnScope ["_law_plan", "_law_can", "_law_papers", "_law_paper", "_law_one"] ["_law_plan", "_law_can", "_law_papers"] (defScope sTold) := ⟨rfl, rfl, rfl, by decide +kernel, rfl, by decide +kernel, by decide +kernel⟩
theorem sm_nm {k : Nat} {p : List Str} (h : p.length ≤ 12) (nm : ∀ x ∈ p, PyData.strOk x = true ∧ x.cps.size ≤ 10) : sm (k + 2) (nmD p) = true := by
  show (decide ((p.map PyData.str).length ≤ 12) && (p.map PyData.str).all (sm (k + 1))) = true
  rw [List.length_map, decide_eq_true h, Bool.true_and, List.all_eq_true]
  intro d hd
  obtain ⟨x, hx, rfl⟩ := List.mem_map.mp hd
  show (PyData.strOk x && decide (x.cps.size ≤ 10)) = true
  rw [(nm x hx).1, decide_eq_true (nm x hx).2]
  rfl
theorem sm_path {p : List Str} (h : p.length ≤ 12) (nm : ∀ x ∈ p, PyData.strOk x = true ∧ x.cps.size ≤ 10) : sm 5 (pathD p) = true := by
  show (decide (2 ≤ 12) && ((PyData.strOk "path" && decide (("path" : Str).cps.size ≤ 10)) && (sm 4 (nmD p) && true))) = true
  have e : (PyData.strOk "path" && decide (("path" : Str).cps.size ≤ 10)) = true := by decide +kernel
  rw [sm_nm h nm, e]
  rfl
theorem eqv_path (p q : List Str) : PyData.eqv (pathD p) (pathD q) = decide (p = q) := by
  show PyData.eqv (.tuple [.str "path", nmD p]) (.tuple [.str "path", nmD q]) = _
  rw [PyData.eqv, PyData.eqvAll, PyData.eqvAll, PyData.eqvAll, eqv_nm, eqv_str, decide_eq_true rfl]
  simp
theorem rev_ne {p : List Str} (h : 2 ≤ p.length) (nd : p.Nodup) : p ≠ p.reverse := by
  intro e
  have h1 : p[0]? = p[p.length - 1]? := by
    conv => lhs; rw [e]
    rw [List.getElem?_reverse (by omega)]
    rfl
  have := (List.getElem?_inj (by omega) nd).mp h1
  omega
section
variable {mg : Str → Option Value} {base : Heap} {P : Program} {w : World} {K : PySem.W.Frag}
theorem ok_told {f : Addr} {fd : FuncData} {k n : Nat} (F : Fun K "_law_is_told" "_law_is_told" sTold f fd) (B : Bi mg) (GL : Cal P w K mg base k "lay" (RLay n)) (GH : Cal P w K mg base k "has_tree" (RHas n)) (GA : CalG P w K mg base k "_law_alike" RAlike) (GP : Cal P w K mg base k "_law_is_plan_tree" RPlanTree) : FnG P w K mg base (k + 1) f fd ["_law_plan", "_law_can", "_law_papers"] (spD K (RTold n)) := by
  refine def_ofG F scTold (fun ds d ⟨_, _, _, _, _, e, _⟩ => by rw [e]; rfl) fun cdv A outer s H E hg hr ds d ⟨PL, kb, z, ok, to, eds, ed⟩ => ?_
  subst eds ed
  cases to with
  | @tree pf pk ks li tk =>
    refine w_cons (w_set (d := .d (.tuple [.str "tree", .tuple (knDs ks)])) 3 (call GL hr (ac (tf2d (dvar 0)) an) ⟨PL, pf, _, ok, pk, li, rfl, rfl⟩) (hN := scTold.nd)) ?_
    refine w_cons (w_if (k := false) ((tnot (tv (callG (d := .d (.bool true)) GA hg hr (ac (call (d := .d (.bool (isTree (.tuple [.str "tree", .tuple (knDs ks)])))) GH hr (ac (tf2d (dvar 0)) an) ⟨PL, pf, _, ok, pk, li, rfl, rfl⟩) (ac (dvar 1) an)) ⟨.bool true, .bool true, rfl, rfl, rfl, .inl ⟨rfl, rfl, rfl⟩⟩))).eqT rfl) (fun z => nomatch z) (fun _ => w_nil)) ?_
    refine w_end (w_if (k := true) (tv (dvar 1)) (fun _ => ?_) (fun z => nomatch z))
    exact w_one (w_ret ((vand (k' := true) (disi (k := true) (by rfl) B.isinstance (d2x (dvar 3)) (by rfl) B.tuple bt_tuple rfl (by decide +kernel)) (fun _ => (vand (k' := true) ((cv (c_eq (u64 hr) (d2x (lenT (ds := [.str "tree", .tuple (knDs ks)]) (by rfl) B.len (dvar 3))) (d2x dint) (sh_int _) (sh_int _))).eqD (d2 := .d (.bool true)) rfl)
      (fun _ => (vand (k' := true) ((cv (c_eq (u64 hr) (d2x (ixT (ds := [.str "tree", .tuple (knDs ks)]) (dvar 3) dint at0)) (d2x dstr) (sh_str (by decide +kernel)) (sh_str (by decide +kernel)))).eqD (d2 := .d (.bool true)) rfl) (fun _ => vone (call GP hr (ac (dvar (d := planF PL) 0) (ac (ixT (ds := [.str "tree", .tuple (knDs ks)]) (dvar 3) dint (atI_nat (j := 1) rfl)) an)) ⟨PL, ks, ok, tk, rfl, rfl⟩))).eqD rfl)).eqD rfl)).eqD rfl) rfl)
  | @path pf pk p li sn =>
    have s5 := sm_path sn.len sn.nm
    have s6 : sm 5 (pathD p.reverse) = true := sm_path (by rw [List.length_reverse]; exact sn.len) (fun x hx => sn.nm x (List.mem_reverse.mp hx))
    refine w_cons (w_set (d := .d (pathD p)) 3 (call GL hr (ac (tf2d (dvar 0)) an) ⟨PL, pf, _, ok, pk, li, rfl, rfl⟩) (hN := scTold.nd)) ?_
    refine w_cons (w_if (k := false) ((tnot (tv (callG (d := .d (.bool true)) GA hg hr (ac (call (d := .d (.bool (isTree (pathD p)))) GH hr (ac (tf2d (dvar 0)) an) ⟨PL, pf, _, ok, pk, li, rfl, rfl⟩) (ac (dvar 1) an)) ⟨.bool false, .bool false, rfl, rfl, by rfl, .inl ⟨rfl, rfl, rfl⟩⟩))).eqT rfl) (fun z => nomatch z) (fun _ => w_nil)) ?_
    refine w_cons (w_if (k := false) (tv (dvar 1)) (fun z => nomatch z) (fun _ => w_nil)) ?_
    refine w_one (w_ret ((cv (c_ne (u64 hr) (n2x ((lcomp (own := [("_law_one", 4)]) (xs := [pathD p, pathD p.reverse]) (enc := fun d => d) (pr := fun d => PyData.eqv d (pathD p)) (f := fun d => d)
      (ρ' := fun d => [planF PL, .d (.bool false), .d (.list [pathD p, pathD p.reverse]), .d (pathD p), .d d].map .fr)
      (i_l (dvar 2)) (blkOk_by (own := [("_law_one", 4)]) (by kernel_rfl)) (fun x hx s H C cl fp => g_name 4 scTold.nd) (fun x hx s H C cl fp => pts_if (tv (callG (d := .d (.bool (PyData.eqv x (pathD p)))) GA hg hr (ac (dvar 3) (ac (dvar 4) an)) ?_))) (fun x hx _ s H C cl fp => dvar 4) (sz (by show 2 ≤ _; decide)) (hN := scTold.nd)).eqN (es := [pathD p]) ?_)) (n2x (nlst (ds := []) an)) ?_ sh_nil)).eqD ?_) rfl)
    · rcases List.mem_cons.mp hx with rfl | hx
      · exact ⟨_, _, s5, s5, rfl, .inl ⟨rfl, rfl, by rw [(sm_ok s5).eqrefl]⟩⟩
      · have := List.mem_singleton.mp hx
        subst this
        refine ⟨_, _, s5, s6, rfl, .inr ⟨?_, ?_⟩⟩
        · rw [eqv_path, decide_eq_false (rev_ne sn.two sn.nd)]
        · rw [eqv_path, decide_eq_false (fun z => rev_ne sn.two sn.nd z.symm)]
    · rw [List.filter_cons_of_pos (by exact (sm_ok s5).eqrefl), List.filter_cons_of_neg (by rw [eqv_path, decide_eq_false (fun z => rev_ne sn.two sn.nd z.symm)]; exact Bool.false_ne_true)]
      rfl
    · have k := sm_ok s5
      have := k.dep
      exact shaped_of (by simp [PyData.canLay0, PyData.canLayAll0, k.lay]) (by simp only [PyData.depth, PyData.depthAll]; omega)
    · rw [eqv_nil]
      rfl
end
end KL
/-! B23: law. -/
namespace KL
open PySem PySem.Spec L2
theorem ecallS {X : Cx} {ρ : List Sl} {e : Expr} {es : List Expr} {p pos : Pos} {S : D → Prop} {T : List D → Prop} {k : Nat} {f : Addr} {fd : FuncData} {ps : List Str} {Rf : List D → (D → Prop) → Prop} {nm : Str} (G : FnOk X.prog X.w X.K X.mg X.base CX0 k f fd ps (spE X.K Rf)) (hr : Room k X.A) (hg : Gl X nm) (hm : X.mg nm = some (.ref f))
    (hk : PySem.W.keepIn X.K (.ref f) = true) (hb : Binds X.K fd ps []) (ha : PA X (e :: es) (tAE X.K ρ T)) (h : ∀ dl, T dl → ∃ S', Rf dl S' ∧ ∀ d, S' d → S d) (hdb : (nm == ("__debug__" : Str)) = false := by decide) (he : starEach (e :: es) X.env = (false, eval e X.env) :: starEach es X.env := by rfl)
    (hpl : (backTo pos (starEach es X.env)).any (·.1) = false := by rfl) : PE X (.Call (.Name nm p) (e :: es) [] pos) (tE X.K ρ S) :=
  (pe_call G hr hg hm hk hb .nil pass0 ha hdb he hpl).imp fun σ H Q ⟨F, A, l, rp, kk⟩ => ⟨F, A, l, rp, fun F1 H1 vs dl tl e1 q1 => by
    show spE X.K Rf (vs ++ []) H1 Q E0
    rw [List.append_nil]
    obtain ⟨S', hR, sub⟩ := h dl tl
    exact ⟨F1, dl, S', e1.fh, q1, hR, fun F2 H2 v d sd e2 q2 => kk F2 H2 v (e1.trans e2) ⟨d, sub d sd, q2⟩⟩⟩
theorem callES {X : Cx} {ρ : List Sl} {e : Expr} {es : List Expr} {p pos : Pos} {S : D → Prop} {T : List D → Prop} {k : Nat} {nm : Str} {R : List D → (D → Prop) → Prop} (G : CalE X.prog X.w X.K X.mg X.base k nm R) (hr : Room k X.A) (ha : PA X (e :: es) (tAE X.K ρ T)) (h : ∀ dl, T dl → ∃ S', R dl S' ∧ ∀ d, S' d → S d) (hg : Gl X nm := by rfl) (hdb : (nm == ("__debug__" : Str)) = false := by decide)
    (he : starEach (e :: es) X.env = (false, eval e X.env) :: starEach es X.env := by rfl) (hpl : (backTo pos (starEach es X.env)).any (·.1) = false := by rfl) : PE X (.Call (.Name nm p) (e :: es) [] pos) (tE X.K ρ S) := by
  obtain ⟨f, fd, ps, h1, h2, h3, h4⟩ := G.ex
  exact ecallS h4 hr hg h1 h2 h3 ha h hdb he hpl
def ringD (p : List Str) : PyData := .tuple [.str "ring", nmD p]
def lots4 (A B : List Str) : List (List Str) := [setS (A ++ B), A, B.filter fun a => decide (a ∈ A), []]
/-- all that the law's def meets -/
structure RowLaw (n : Nat) (P : Plan) (r0 : Str) (row : List Str) (A B : List Str) : Prop where
  ok : P.Ok
  si : P.Sim
  ro : RowOk P r0 row
  sn : SmNames (r0 :: row)
  pk : ∃ pf, PathsOk P pf ∧ sortP (badAll P pf) = [r0 :: row] ∧ NoRings P pf ∧ LayIs n P pf (pathD (r0 :: row))
  a1 : OkS A
  b1 : OkS B
  al : A.length ≤ 20
  bl : B.length ≤ 20
  fst : ∃ r1 k, atI ((r0 :: row).map PyData.str) 1 = some (.str r1) ∧ look ((metRow P.pairs r0).map metD) (.inr r1) = some (.tuple [axD A, .bool k])
  lst : ∃ y z k, atI ((r0 :: row).map PyData.str) (-2) = some (.str y) ∧ atI ((r0 :: row).map PyData.str) (-1) = some (.str z) ∧ y ∈ P.steps.map (·.1) ∧ z ∈ P.steps.map (·.1) ∧ look ((metRow P.pairs y).map metD) (.inr z) = some (.tuple [axD B, .bool k]) ∧
    ∀ a b, ((a = y ∧ b = z) ∨ (a = z ∧ b = y)) → ∀ l ∈ lots4 A B, (withPair P a b l).Ok ∧ ToldOk n (withPair P a b l) true (.list []) ∧ sm 5 (planD (withPair P a b l)) = true
  p1 : PaperIs P (pathD (r0 :: row)) true
  p2 : PaperIs P (pathD (r0 :: row).reverse) true
  p3 : PaperIs P (pathD row) false
  p4 : PaperIs P (pathD (r0 :: row).dropLast) false
  p5 : PaperIs P (ringD (r0 :: row)) false
  p6 : PaperIs P (pathD row.dropLast) false
def RLaw : List D → D → Prop := fun ds d => ∃ ns : List Int, ns.length ≤ 1000 ∧ ds = [.d (.list (ns.map .int))] ∧ d = .d (.bool true)
abbrev sLaw : Stmt := top 61
theorem scLaw : FnScope ["_law_script", "_law_bag_here", "_law_plan", "_law_row", "_law_meet", "_law_first", "_law_last", "_law_again", "_law_told", "_law_lot", "_law_one", "_law_other", "_law_rest", "_law_due", "_law_found", "_law_paper", "_law_axis", "_law_pair"] ["_law_script"] (defScope sLaw) := ⟨rfl, rfl, rfl, by decide +kernel, rfl, by decide +kernel, by decide +kernel⟩
theorem six_neg (n : Nat) : HT.sIx n n (some (-1)) = n - 1 := by
  show (if (-1 : Int) < 0 then ((-1 : Int) + (n : Int)).toNat else min (-1 : Int).toNat n) = n - 1
  rw [if_pos (by decide)]
  omega
theorem cut_initS (xs : List PyData) : cutD xs none (some (-1)) = xs.dropLast := by
  unfold cutD
  rw [HT.sIx_none, List.drop_zero, Nat.sub_zero, List.dropLast_eq_take, six_neg]
theorem cut_midS (xs : List PyData) : cutD xs (some 1) (some (-1)) = (xs.drop 1).dropLast := by
  unfold cutD
  rw [six_neg, show (1 : Int) = ((1 : Nat) : Int) from rfl, HT.sIx_nat, List.dropLast_eq_take]
  by_cases h : 1 ≤ xs.length
  · rw [Nat.min_eq_left h, List.length_drop]
  · have : xs = [] := List.length_eq_zero_iff.mp (by omega)
    subst this
    rfl
theorem minmax_perm (a b : Str) : [minT a b, maxT a b].Perm [a, b] := by
  unfold minT maxT
  by_cases h1 : b.cps.toList < a.cps.toList
  · rw [if_pos h1, if_neg (fun h2 => List.lt_irrefl _ (List.lt_trans h1 h2))]
    exact List.Perm.swap _ _ _
  · rw [if_neg h1]
    by_cases h2 : a.cps.toList < b.cps.toList
    · rw [if_pos h2]
    · rw [if_neg h2]
      have : a = b := str_ext (List.le_antisymm (List.not_lt.mp h1) (List.not_lt.mp h2))
      rw [this]
theorem sort_two (a b : Str) : sortS [a, b] = [minT a b, maxT a b] := by
  refine sorted_eq (sortS_sorted _) ?_ ((List.mergeSort_perm _ _).trans (minmax_perm a b).symm)
  refine List.pairwise_cons.mpr ⟨fun x hx => ?_, List.pairwise_singleton _ _⟩
  rw [List.mem_singleton.mp hx]
  unfold minT maxT leS
  by_cases h1 : b.cps.toList < a.cps.toList
  · rw [if_pos h1, if_neg (fun h2 => List.lt_irrefl _ (List.lt_trans h1 h2))]
    exact decide_eq_true (List.le_of_lt h1)
  · rw [if_neg h1]
    by_cases h2 : a.cps.toList < b.cps.toList
    · rw [if_pos h2]
      exact decide_eq_true (List.le_of_lt h2)
    · rw [if_neg h2]
      exact decide_eq_true (List.le_refl _)
theorem same_sort (p : Str × Str × List Str) (a b : Str) : decide (sortS [p.1, p.2.1] = sortS [a, b]) = sameEnds p a b := by
  unfold sameEnds
  rw [sort_two, sort_two]
  simp
theorem sm_names {p : List Str} (sn : SmNames p) : ∀ x ∈ p, PyData.strOk x = true := fun x hx => (sn.nm x hx).1
section
variable {mg : Str → Option Value} {base : Heap} {P : Program} {w : World} {K : PySem.W.Frag}
theorem ok_law {f : Addr} {fd : FuncData} {k N : Nat} (HM : ∀ n PL, 4 ≤ n → n ≤ 7 → RowP n PL → ∃ r0 row A B, RowLaw N PL r0 row A B) (F : Fun K "law" "law" sLaw f fd) (B : Bi mg) (GB : CalE P w K mg base k "_law_bag" RBagM) (GT : CalE P w K mg base k "_law_take" RTake) (GR : CalE P w K mg base k "_law_row_plan" RRow)
    (GO : Cal P w K mg base k "_law_row_of" RRowOf) (GM : Cal P w K mg base k "_law_meeting" RMeet) (GA : CalG P w K mg base k "_law_alike" RAlike) (GD : Cal P w K mg base k "bad_paths" RBad) (GG : Cal P w K mg base k "bad_rings" RRings)
    (GL : CalG P w K mg base k "_law_is_told" (RTold N)) (GY : Cal P w K mg base k "_law_both_ways" RWays) (GP : Cal P w K mg base k "is_paper" RPaper) (GW : Cal P w K mg base k "with_pair" RWith) : FnG P w K mg base (k + 1) f fd ["_law_script"] (spD K RLaw) := by
  refine def_ofG F scLaw (fun ds d ⟨_, _, e, _⟩ => by rw [e]; rfl) fun cdv A0 outer s H E hg hr ds d ⟨ns, hns, eds, ed⟩ => ?_
  subst eds ed
  refine w_consE (w_setE 1 (sl_of_e (callE (S := fun d => d = .bag) GB hr (ar2e (ac (dvar 0) an)) fun dl e => ⟨ns, hns, e, rfl⟩)) (hN := scLaw.nd)) ?_
  rintro r ⟨z, ⟨d, e1, e2⟩, er⟩
  subst e1 e2 er
  refine w_consE (w_setE 2 (sl_of_e (callES (S := fun d => ∃ n PL, 4 ≤ n ∧ n ≤ 7 ∧ RowP n PL ∧ d = planF PL) GR hr (acE (S := fun d => d = .bag) (toE (dvar 1) rfl) (acE (S := fun d => ∃ m : Nat, 4 ≤ m ∧ m ≤ 7 ∧ d = .d (.int (m : Nat))) (addE (toE (S := fun d => d = .d (.int 4)) dint rfl) (callE (S := IntIn 0 4) GT hr (ar2e (ac (dvar 1) (ac dint an))) fun dl e => ⟨4, by decide, by decide, e, rfl⟩)
    (fun d e => ⟨_, e⟩) (fun d ⟨r, _, _, e⟩ => ⟨r, e⟩) (fun i j h1 ⟨r, h2, h3, e⟩ => by
      cases h1
      cases e
      exact ⟨(4 + j).toNat, by omega, by omega, by rw [Int.toNat_of_nonneg (by omega)]⟩)) anE)) fun dl ⟨d1, ds1, e1, e2, d2, ds2, e3, ⟨m, hm1, hm2, e4⟩, e5⟩ => by
      subst e1 e2 e3 e4 e5
      exact ⟨_, ⟨m, hm1, hm2, rfl, rfl⟩, fun d ⟨PL, rp, e⟩ => ⟨m, PL, hm1, hm2, rp, e⟩⟩)) (hN := scLaw.nd)) ?_
  rintro r ⟨z, ⟨d, ⟨n, PL, hn4, hn7, rp, e1⟩, e2⟩, er⟩
  subst e1 e2 er
  obtain ⟨r0, row, LA, LB, q⟩ := HM n PL hn4 hn7 rp
  obtain ⟨pf, pk, ebad, nr, li⟩ := q.pk
  obtain ⟨r1, kb1, ga1, lk1⟩ := q.fst
  obtain ⟨y, z, kb2, gay, gaz, ym, zm, lk2, wth⟩ := q.lst
  have ok := q.ok
  have s2 := ok.s2
  have sn := q.sn
  have al := q.al
  have bl := q.bl
  have rlen : (r0 :: row).length ≤ 12 := sn.len
  have okR : OkS (r0 :: row) := sm_names sn
  have fnd : ∀ x, x ∈ PL.steps.map (·.1) → ((meetK PL PL.pairs.length).find? fun p => decide (p.1 = Sum.inr x)).map (·.2) = some ((metRow PL.pairs x).map metD) := fun x hx => by
    have := meet_find ok hx PL.pairs.length
    rw [List.take_length] at this
    exact this
  have hr0 : r0 ∈ PL.steps.map (·.1) := q.ro.mem r0 List.mem_cons_self
  refine w_cons (w_par 3 4 (r1 := .fr (.d (nmD (r0 :: row)))) (r2 := .fr (.dd (meetK PL PL.pairs.length))) (call GO hr (ac (tf2d (dvar 2)) an) ⟨PL, r0, row, ok, q.si, q.ro, rfl, rfl⟩) (call GM hr (ac (tf2d (dvar 2)) an) ⟨PL, ok, q.si, rfl, rfl⟩) (hN := scLaw.nd)) ?_
  refine w_cons (w_parC 5 6 (r1 := .fr (.d (axD LA))) (r2 := .fr (.d (axD LB)))
    (ixT (ds := [axD LA, .bool kb1]) (dgK (k := .inr r1) (u1 hr) (dgD (k := .inr r0) (u1 hr) (dvar 4) (ixS (ds := (r0 :: row).map .str) (d2s (dvar 3)) dint at0) (fnd r0 hr0)) (ixS (ds := (r0 :: row).map .str) (d2s (dvar 3)) dint ga1) lk1) dint at0)
    (ixT (ds := [axD LB, .bool kb2]) (dgK (k := .inr z) (u1 hr) (dgD (k := .inr y) (u1 hr) (dvar 4) (ixS (ds := (r0 :: row).map .str) (d2s (dvar 3)) (dneg dint) gay) (fnd y ym)) (ixS (ds := (r0 :: row).map .str) (d2s (dvar 3)) (dneg dint) gaz) lk2) dint at0) (hN := scLaw.nd)) ?_
  have smR : ∀ {k : Nat}, sm (k + 2) (nmD (r0 :: row)) = true := sm_nm rlen sn.nm
  refine w_cons (w_for (xs := List.range 2) (enc := fun i => .int (i : Nat)) (vs := [7]) (fun i => [.fr (.d (.list (ns.map .int))), .fr .bag, .fr (planF PL), .fr (.d (nmD (r0 :: row))), .fr (.dd (meetK PL PL.pairs.length)), .fr (.d (axD LA)), .fr (.d (axD LB)), .un, .un, .un, .un, .un, .un, .un, .un, .un, .un, .un])
    (fun i j => [.fr (.d (.list (ns.map .int))), .fr .bag, .fr (planF PL), .fr (.d (nmD (r0 :: row))), .fr (.dd (meetK PL PL.pairs.length)), .fr (.d (axD LA)), .fr (.d (axD LB)), .fr (.d (.int (j : Nat))), .un, .un, .un, .un, .un, .un, .un, .un, .un, .un])
    (i_range (n := 2) (by rfl) B.range dint (by decide)) rfl (fun i j hj => g_name 7 scLaw.nd) (fun i j hj => ?_)) ?_
  · have sxx : sm 5 (.list [.list ([r0 :: row].map nmD), .list []]) = true := by
      show (decide (2 ≤ 12) && ((decide (1 ≤ 12) && (sm 3 (nmD (r0 :: row)) && true)) && (sm 4 (.list []) && true))) = true
      rw [smR (k := 1)]
      rfl
    refine w_wk (w_cons (w_if (k := false) ((tnot (tv (callG (d := .d (.bool true)) GA hg hr (ac ((n2d (nlst (ds := [.list ([r0 :: row].map nmD), .list []]) (ac (call (d := .d (.list ([r0 :: row].map nmD))) GD hr (ac (tf2d (dvar 2)) an) ⟨PL, pf, ok, pk, rfl, by rw [ebad]⟩) (ac (call (d := .d (.list [])) GG hr (ac (tf2d (dvar 2)) an) ⟨PL, pf, ok, pk, nr, rfl, rfl⟩) an)))))
      (ac (n2d (nlst (ds := [.list ([r0 :: row].map nmD), .list []]) (ac (n2d (nlst (ds := [nmD (r0 :: row)]) (ac (dvar 3) an))) (ac (n2d (nlst (ds := []) an)) an)))) an)) ⟨_, _, sxx, sxx, rfl, .inl ⟨rfl, rfl, rfl⟩⟩))).eqT rfl) (fun z => nomatch z) (fun _ => w_nil))
      (w_one (w_if (k := false) ((tnot (tv (callG (d := .d (.bool true)) GL hg hr (ac (dvar (d := planF PL) 2) (ac dbl (ac (call (d := .d (.list [pathD (r0 :: row), pathD (r0 :: row).reverse])) GY hr (ac (dvar 3) an) ⟨r0 :: row, by omega, rfl, rfl⟩) an))) ⟨PL, false, _, ok, .path pk li sn, rfl, rfl⟩))).eqT rfl) (fun z => nomatch z) (fun _ => w_nil))))
      (.keep (.keep (.keep (.keep (.keep (.keep (.keep (.drop (.keep (.keep (.keep (.keep (.keep (.keep (.keep (.keep (.keep (.keep .nil))))))))))))))))))
  have rz : ((r0 :: row).map PyData.str).length ≤ sizeLine := sz (by rw [List.length_map]; omega)
  have e2 : PyData.list (((r0 :: row).map PyData.str).reverse) = nmD (r0 :: row).reverse := by rw [nmD, List.map_reverse]
  have e3 : PyData.list (cutD ((r0 :: row).map PyData.str) (some 1) none) = nmD row := by
    rw [show (1 : Int) = ((1 : Nat) : Int) from rfl, cut_from]
    rfl
  have e4 : PyData.list (cutD ((r0 :: row).map PyData.str) none (some (-1))) = nmD (r0 :: row).dropLast := by
    rw [cut_initS, nmD, List.map_dropLast]
  have e6 : PyData.list (cutD ((r0 :: row).map PyData.str) (some 1) (some (-1))) = nmD row.dropLast := by
    rw [cut_midS, nmD, List.map_dropLast]
    rfl
  have pD : ∀ p : List Str, PyData.tuple [.str "path", nmD p] = pathD p := fun _ => rfl
  refine w_cons (w_own (ds := [pathD (r0 :: row), pathD (r0 :: row).reverse, pathD row, pathD (r0 :: row).dropLast, ringD (r0 :: row)]) 8 (nlst (ds := [pathD (r0 :: row), pathD (r0 :: row).reverse, pathD row, pathD (r0 :: row).dropLast, ringD (r0 :: row)])
    (ac (dtup (ds := [.str "path", nmD (r0 :: row)]) (ac dstr (ac (dvar 3) an)))
    (ac (dtup (ds := [.str "path", nmD (r0 :: row).reverse]) (ac dstr (ac ((n2d (revS (ds := (r0 :: row).map .str) (d2s (dvar 3)) rz)).eqD (congrArg D.d e2)) an)))
    (ac (dtup (ds := [.str "path", nmD row]) (ac dstr (ac ((n2d (slS (ds := (r0 :: row).map .str) (d2s (dvar 3)) (o_so dint) o_no rz)).eqD (congrArg D.d e3)) an)))
    (ac (dtup (ds := [.str "path", nmD (r0 :: row).dropLast]) (ac dstr (ac ((n2d (slS (ds := (r0 :: row).map .str) (d2s (dvar 3)) o_no (o_so (dneg dint)) rz)).eqD (congrArg D.d e4)) an)))
    (ac (dtup (ds := [.str "ring", nmD (r0 :: row)]) (ac dstr (ac (dvar 3) an))) an)))))) (hN := scLaw.nd)) ?_
  refine w_cons (w_append (ds := [pathD (r0 :: row), pathD (r0 :: row).reverse, pathD row, pathD (r0 :: row).dropLast, ringD (r0 :: row)]) 8 (a := pathD row.dropLast) (dtup (ds := [.str "path", nmD row.dropLast]) (ac dstr (ac ((n2d (slS (ds := (r0 :: row).map .str) (d2s (dvar 3)) (o_so dint) (o_so (dneg dint)) rz)).eqD (congrArg D.d e6)) an))) (szl (by show 5 < _; decide))) ?_
  let ts : List (PyData × Bool) := [(pathD (r0 :: row), true), (pathD (r0 :: row).reverse, true), (pathD row, false), (pathD (r0 :: row).dropLast, false), (ringD (r0 :: row), false), (pathD row.dropLast, false)]
  have hts : ∀ t ∈ ts, PaperIs PL t.1 t.2 := by
    intro t ht
    simp only [ts, List.mem_cons, List.not_mem_nil, or_false] at ht
    rcases ht with rfl | rfl | rfl | rfl | rfl | rfl
    · exact q.p1
    · exact q.p2
    · exact q.p3
    · exact q.p4
    · exact q.p5
    · exact q.p6
  refine w_cons (w_if (k := false) ((tnot (tv (callG (d := .d (.bool true)) GA hg hr (ac ((n2d (lcomp (own := [("_law_paper", 15)]) (xs := ts) (enc := fun t => t.1) (pr := fun _ => true) (f := fun t => .bool t.2)
    (ρ' := fun t => [.fr (.d (.list (ns.map .int))), .fr .bag, .fr (planF PL), .fr (.d (nmD (r0 :: row))), .fr (.dd (meetK PL PL.pairs.length)), .fr (.d (axD LA)), .fr (.d (axD LB)), .un, .ow [pathD (r0 :: row), pathD (r0 :: row).reverse, pathD row, pathD (r0 :: row).dropLast, ringD (r0 :: row), pathD row.dropLast], .un, .un, .un, .un, .un, .un, .fr (.d t.1), .un, .un])
    (i_s (svar 8)) (blkOk_by (own := [("_law_paper", 15)]) (by kernel_rfl)) (fun x hx s H C cl fp => g_name 15 scLaw.nd) (fun x hx s H C cl fp => pts_no) (fun x hx _ s H C cl fp => call GP hr (ac (tf2d (dvar 2)) (ac (dvar 15) an)) ⟨PL, x.1, x.2, ok, hts x hx, rfl, rfl⟩) (sz (by show 6 ≤ _; decide)) (hN := scLaw.nd))).eqD (d2 := .d (.list [.bool true, .bool true, .bool false, .bool false, .bool false, .bool false])) rfl)
    (ac (n2d (nlst (ds := [.bool true, .bool true, .bool false, .bool false, .bool false, .bool false]) (ac dbl (ac dbl (ac dbl (ac dbl (ac dbl (ac dbl an)))))))) an)) ⟨_, _, by rfl, by rfl, rfl, .inl ⟨rfl, rfl, rfl⟩⟩))).eqT rfl) (fun z => nomatch z) (fun _ => w_nil)) ?_
  refine w_cons (w_for (xs := lots4 LA LB) (enc := axD) (vs := [9]) (fun i => [.fr (.d (.list (ns.map .int))), .fr .bag, .fr (planF PL), .fr (.d (nmD (r0 :: row))), .fr (.dd (meetK PL PL.pairs.length)), .fr (.d (axD LA)), .fr (.d (axD LB)), .un, .ow [pathD (r0 :: row), pathD (r0 :: row).reverse, pathD row, pathD (r0 :: row).dropLast, ringD (r0 :: row), pathD row.dropLast], .un, .un, .un, .un, .un, .un, .un, .un, .un])
    (fun i l => [.fr (.d (.list (ns.map .int))), .fr .bag, .fr (planF PL), .fr (.d (nmD (r0 :: row))), .fr (.dd (meetK PL PL.pairs.length)), .fr (.d (axD LA)), .fr (.d (axD LB)), .un, .ow [pathD (r0 :: row), pathD (r0 :: row).reverse, pathD row, pathD (r0 :: row).dropLast, ringD (r0 :: row), pathD row.dropLast], .fr (.d (axD l)), .un, .un, .un, .un, .un, .un, .un, .un])
    (i_t (dtup (ds := (lots4 LA LB).map axD) (ac (tupS (ds := (setS (LA ++ LB)).map .str) (by rfl) B.tuple bt_tuple (n2s (setsrtT (ks := LA ++ LB) (ds := setS (LA ++ LB)) (u64 hr) (by rfl) B.sorted (by rfl) B.set ((dcat (ds := LA.map .str) (es := LB.map .str) (dvar 5) (dvar 6) (sz (by rw [List.length_map, List.length_map]; omega))).eqD (by rw [List.map_append])) (by rw [List.length_append]; omega) (setS_ok _))))
      (ac (dvar 5) (ac (tupS (ds := (LB.filter fun a => decide (a ∈ LA)).map .str) (by rfl) B.tuple bt_tuple (n2s (lcomp (own := [("_law_axis", 16)]) (xs := LB) (enc := .str) (pr := fun a => decide (a ∈ LA)) (f := .str)
        (ρ' := fun a => [.fr (.d (.list (ns.map .int))), .fr .bag, .fr (planF PL), .fr (.d (nmD (r0 :: row))), .fr (.dd (meetK PL PL.pairs.length)), .fr (.d (axD LA)), .fr (.d (axD LB)), .un, .ow [pathD (r0 :: row), pathD (r0 :: row).reverse, pathD row, pathD (r0 :: row).dropLast, ringD (r0 :: row), pathD row.dropLast], .un, .un, .un, .un, .un, .un, .un, .fr (.d (.str a)), .un])
        (i_t (dvar 6)) (blkOk_by (own := [("_law_axis", 16)]) (by kernel_rfl)) (fun x hx s H C cl fp => g_name 16 scLaw.nd) (fun x hx s H C cl fp => pts_if ((ct (c_inT (ds := LA.map .str) (dvar 16) (dvar 5) rfl (strs_flat _))).eqT (any_str x LA))) (fun x hx _ s H C cl fp => dvar 16) (sz (by omega)) (hN := scLaw.nd))))
      (ac (dtup (ds := []) an) an))))))
    rfl (fun i l hl => g_name 9 scLaw.nd) (fun i l hl => ?_)) (w_one (w_ret dbl rfl))
  have hlm := List.mem_of_getElem? hl
  have okl : OkS l := by
    simp only [lots4, List.mem_cons, List.not_mem_nil, or_false] at hlm
    rcases hlm with rfl | rfl | rfl | rfl
    · intro x hx
      rcases List.mem_append.mp (setS_mem hx) with h | h
      · exact q.a1 x h
      · exact q.b1 x h
    · exact q.a1
    · exact fun x hx => q.b1 x (List.mem_filter.mp hx).1
    · exact fun x hx => nomatch hx
  have oky := ok.oN ym
  have okz := ok.oN zm
  refine w_consE (w_unE (S := fun d => ∃ a b : Str, ((a = y ∧ b = z) ∨ (a = z ∧ b = y)) ∧ d = .d (.tuple [.str a, .str b])) (vs := [10, 11]) (fun x => match x with
    | .tuple [a, b] => [.fr (.d (.list (ns.map .int))), .fr .bag, .fr (planF PL), .fr (.d (nmD (r0 :: row))), .fr (.dd (meetK PL PL.pairs.length)), .fr (.d (axD LA)), .fr (.d (axD LB)), .un, .ow [pathD (r0 :: row), pathD (r0 :: row).reverse, pathD row, pathD (r0 :: row).dropLast, ringD (r0 :: row), pathD row.dropLast], .fr (.d (axD l)), .fr (.d a), .fr (.d b), .un, .un, .un, .un, .un, .un]
    | _ => []) (ifE (eqE (S1 := IntIn 0 2) (S2 := fun d => d = .d (.int 0)) (callE GT hr (ar2e (ac (dvar 1) (ac dint an))) fun dl e => ⟨2, by decide, by decide, e, rfl⟩) (toE dint rfl) (fun d ⟨r, _, _, e⟩ => ⟨r, e⟩) (fun d e => ⟨_, e⟩))
      (toE (dtup (ds := [.str y, .str z]) (ac (ixS (ds := (r0 :: row).map .str) (d2s (dvar 3)) (dneg dint) gay) (ac (ixS (ds := (r0 :: row).map .str) (d2s (dvar 3)) (dneg dint) gaz) an))) ⟨y, z, .inl ⟨rfl, rfl⟩, rfl⟩)
      (toE (dtup (ds := [.str z, .str y]) (ac (ixS (ds := (r0 :: row).map .str) (d2s (dvar 3)) (dneg dint) gaz) (ac (ixS (ds := (r0 :: row).map .str) (d2s (dvar 3)) (dneg dint) gay) an))) ⟨z, y, .inr ⟨rfl, rfl⟩, rfl⟩)) (fun d ⟨_, _, _, e⟩ => ⟨_, e⟩)
    (fun x ⟨a, b, _, e⟩ => by
      cases e
      exact g_tup rfl (gs_cons (g_name 10 scLaw.nd) (gs_cons (g_name 11 scLaw.nd) gs_nil)))) ?_
  rintro r ⟨x, ⟨a, b, hab, e⟩, er⟩
  cases e
  subst er
  obtain ⟨wok, wtold, wsm⟩ := wth a b hab l hlm
  have oka : PyData.strOk a = true := by rcases hab with ⟨h, _⟩ | ⟨h, _⟩ <;> rw [h] <;> assumption
  have okb : PyData.strOk b = true := by rcases hab with ⟨_, h⟩ | ⟨_, h⟩ <;> rw [h] <;> assumption
  have okab : OkS [a, b] := .cons oka (.cons okb fun _ h => nomatch h)
  refine w_wk (ρ1 := [.fr (.d (.list (ns.map .int))), .fr .bag, .fr (planF PL), .fr (.d (nmD (r0 :: row))), .fr (.dd (meetK PL PL.pairs.length)), .fr (.d (axD LA)), .fr (.d (axD LB)), .un, .ow [pathD (r0 :: row), pathD (r0 :: row).reverse, pathD row, pathD (r0 :: row).dropLast, ringD (r0 :: row), pathD row.dropLast], .fr (.d (axD l)), .fr (.d (.str a)), .fr (.d (.str b)), .fr (.d (.tuple ((PL.pairs.filter fun p => !sameEnds p a b).map prD))), .fr (.d (planD (withPair PL a b l))), .fr (planF (withPair PL a b l)), .un, .un, .un]) (w_cons (w_set (d := .d (.tuple ((PL.pairs.filter fun p => !sameEnds p a b).map prD))) 12 (tupS (by rfl) B.tuple bt_tuple (n2s (lcomp (own := [("_law_pair", 17)]) (xs := PL.pairs) (enc := prD) (pr := fun p => !sameEnds p a b) (f := prD)
    (ρ' := fun p => [.fr (.d (.list (ns.map .int))), .fr .bag, .fr (planF PL), .fr (.d (nmD (r0 :: row))), .fr (.dd (meetK PL PL.pairs.length)), .fr (.d (axD LA)), .fr (.d (axD LB)), .un, .ow [pathD (r0 :: row), pathD (r0 :: row).reverse, pathD row, pathD (r0 :: row).dropLast, ringD (r0 :: row), pathD row.dropLast], .fr (.d (axD l)), .fr (.d (.str a)), .fr (.d (.str b)), .un, .un, .un, .un, .un, .fr (.d (prD p))])
    (i_t (ixT (ds := [.tuple (PL.steps.map stD), .tuple (PL.pairs.map prD)]) (tf2d (dvar 2)) dint (atI_nat (j := 1) rfl))) (blkOk_by (own := [("_law_pair", 17)]) (by kernel_rfl)) (fun x hx s H C cl fp => g_name 17 scLaw.nd)
    (fun p hp s H C cl fp => pts_if ((ct (c_ne (u64 hr) (n2x (srtT (ks := [p.1, p.2.1]) (u64 hr) (by rfl) B.sorted ((slT (ds := [.str p.1, .str p.2.1, axD p.2.2]) (dvar 17) o_no (o_so dint)).eqD (by rw [show (2 : Int) = ((2 : Nat) : Int) from rfl, cut_to]; rfl)) (by show 2 ≤ _; decide)))
      (n2x ((srtS (ds := [a, b].map .str) (u64 hr) (by rfl) B.sorted bt_sorted (n2s (nlst (ds := [.str a, .str b]) (ac (dvar 10) (ac (dvar 11) an)))) (aa_strs _) (so_strs _) (de_strs _) (sz (by show 2 ≤ _; decide))).eqN (srt_strs _))) (sh_nm ?_) (sh_nm ?_))).eqT ?_))
    (fun p hp _ s H C cl fp => dvar 17) (sz (by omega)) (hN := scLaw.nd)))) (hN := scLaw.nd)) ?_) (.keep (.keep (.keep (.keep (.keep (.keep (.keep (.keep (.keep (.drop (.drop (.drop (.drop (.drop (.drop (.keep (.keep (.keep .nil))))))))))))))))))
  · intro x hx
    have := (List.mergeSort_perm _ _).mem_iff.mp hx
    exact OkS.cons (ok.oN (ok.e1 p hp)) (.cons (ok.oN (ok.e2 p hp)) fun _ h => (List.not_mem_nil h).elim) x this
  · intro x hx
    exact okab x ((List.mergeSort_perm _ _).mem_iff.mp hx)
  · rw [← same_sort]
    exact congrArg (!·) (eqv_nm _ _)
  have kl : (PL.pairs.filter fun p => !sameEnds p a b).length ≤ 30 := Nat.le_trans (List.length_filter_le _ _) s2
  refine w_cons (w_set (d := .d (planD (withPair PL a b l))) 13 (dtup (ds := [.tuple (PL.steps.map stD), .tuple ((withPair PL a b l).pairs.map prD)]) (ac (tn2d (ixF (dvar 2) dint)) (ac (tupS (by rfl) B.tuple bt_tuple (n2s (srtPT (ps := (PL.pairs.filter fun p => !sameEnds p a b) ++ [(a, b, l)]) (u64 hr) (by rfl) B.sorted
    ((dcat (ds := (PL.pairs.filter fun p => !sameEnds p a b).map prD) (es := [prD (a, b, l)]) (dvar 12) (dtup (ds := [prD (a, b, l)]) (ac (dtup (ds := [.str a, .str b, axD l]) (ac (dvar 10) (ac (dvar 11) (ac (dvar 9) an)))) an)) (sz (by rw [List.length_map]; show _ + 1 ≤ _; omega))).eqD (by rw [List.map_append]; rfl)) (by rw [List.length_append]; show _ + 1 ≤ _; omega)))) an))) (hN := scLaw.nd)) ?_
  refine w_cons (w_set (d := planF (withPair PL a b l)) 14 (call GW hr (ac (dvar (d := planF PL) 2) (ac (dvar 10) (ac (dvar 11) (ac (dvar 9) an)))) ⟨PL, a, b, l, ok, oka, okb, rfl, rfl⟩) (hN := scLaw.nd)) ?_
  exact w_one (w_if (k := false) ((PW.pt (wor (k := false) (k' := false) ((tnot (tv (callG (d := .d (.bool true)) GA hg hr (ac (tf2d (dvar 14)) (ac (dvar 13) an)) ⟨_, _, wsm, wsm, rfl, .inl ⟨rfl, rfl, rfl⟩⟩))).eqT rfl) (fun _ => wor1 ((tnot (tv (callG (d := .d (.bool true)) GL hg hr (ac (dvar (d := planF (withPair PL a b l)) 14) (ac dbl (ac (n2d (nlst (ds := []) an)) an))) ⟨withPair PL a b l, true, _, wok, wtold, rfl, rfl⟩))).eqT rfl)))).eqT rfl) (fun z => nomatch z) (fun _ => w_nil))
end
end KL
/-! M1: a plan along a row; the search for paths finds the part between. -/
namespace KL
open PySem PySem.Spec L2
def AtRow (r : List Str) (k : Nat) (p : Str × Str × List Str) : Prop := (r[k]? = some p.1 ∧ r[k + 1]? = some p.2.1) ∨ (r[k]? = some p.2.1 ∧ r[k + 1]? = some p.1)
/-- the plan lies along the row r, lot k is the lot of its pair k -/
structure Along (P : Plan) (r : List Str) (lot : Nat → List Str) : Prop where
  nd : r.Nodup
  perm : (namesOf P).Perm r
  pr : ∀ p ∈ P.pairs, ∃ k, p.2.2 = lot k ∧ AtRow r k p
  has : ∀ k, k + 1 < r.length → ∃ p ∈ P.pairs, p.2.2 = lot k ∧ AtRow r k p
  uniq : ∀ p ∈ P.pairs, ∀ q ∈ P.pairs, ∀ k, AtRow r k p → AtRow r k q → p = q
theorem ix_inj {r : List Str} (nd : r.Nodup) {i j : Nat} {x : Str} (h : r[i]? = some x) (h' : r[j]? = some x) : i = j := by
  obtain ⟨a1, a2⟩ := List.getElem?_eq_some_iff.mp h
  obtain ⟨b1, b2⟩ := List.getElem?_eq_some_iff.mp h'
  exact (List.getElem_inj nd).mp (a2.trans b2.symm)
theorem AtRow.inj {r : List Str} (nd : r.Nodup) {j k : Nat} {p : Str × Str × List Str} (h : AtRow r j p) (h' : AtRow r k p) : j = k := by
  rcases h with ⟨a, b⟩ | ⟨a, b⟩ <;> rcases h' with ⟨c, d⟩ | ⟨c, d⟩
  · exact ix_inj nd a c
  · have := ix_inj nd a d; have := ix_inj nd b c; omega
  · have := ix_inj nd a d; have := ix_inj nd b c; omega
  · exact ix_inj nd a c
theorem AtRow.lt {r : List Str} {k : Nat} {p : Str × Str × List Str} (h : AtRow r k p) : k + 1 < r.length := by
  rcases h with ⟨_, b⟩ | ⟨_, b⟩ <;> exact (List.getElem?_eq_some_iff.mp b).1
theorem AtRow.rev {r : List Str} {k : Nat} {p : Str × Str × List Str} (h : AtRow r k p) : AtRow r.reverse (r.length - 2 - k) p := by
  have hl := h.lt
  have e1 : r.reverse[r.length - 2 - k]? = r[k + 1]? := by
    rw [List.getElem?_reverse (by omega)]
    congr 1
    omega
  have e2 : r.reverse[r.length - 2 - k + 1]? = r[k]? := by
    rw [List.getElem?_reverse (by omega)]
    congr 1
    omega
  unfold AtRow
  rw [e1, e2]
  rcases h with ⟨a, b⟩ | ⟨a, b⟩
  · exact .inr ⟨b, a⟩
  · exact .inl ⟨b, a⟩
theorem AtRow.rev' {r : List Str} {k : Nat} {p : Str × Str × List Str} (h : AtRow r.reverse k p) : AtRow r (r.length - 2 - k) p := by
  have := h.rev
  rw [List.reverse_reverse, List.length_reverse] at this
  exact this
theorem Along.rev {P : Plan} {r : List Str} {lot : Nat → List Str} (h : Along P r lot) : Along P r.reverse (fun k => lot (r.length - 2 - k)) where
  nd := (List.reverse_perm r).nodup_iff.mpr h.nd
  perm := h.perm.trans (List.reverse_perm r).symm
  pr := fun p hp => by
    obtain ⟨k, e, a⟩ := h.pr p hp
    have := a.lt
    exact ⟨r.length - 2 - k, by rw [e]; congr 1; omega, a.rev⟩
  has := fun k hk => by
    rw [List.length_reverse] at hk
    obtain ⟨p, hp, e, a⟩ := h.has (r.length - 2 - k) (by omega)
    refine ⟨p, hp, e, ?_⟩
    have := a.rev
    rwa [show r.length - 2 - (r.length - 2 - k) = k by omega] at this
  uniq := fun p hp q hq k a b => h.uniq p hp q hq (r.length - 2 - k) a.rev' b.rev'
theorem mem_near_iff {P : Plan} {z y : Str} : y ∈ nearOf P z ↔ ∃ p ∈ P.pairs, (p.1 = z ∧ p.2.1 = y) ∨ (p.1 = y ∧ p.2.1 = z) := by
  unfold nearOf sortS
  rw [List.mem_mergeSort]
  unfold rawNear
  rw [List.mem_flatMap]
  refine ⟨fun ⟨p, hp, h⟩ => ⟨p, hp, ?_⟩, fun ⟨p, hp, h⟩ => ⟨p, hp, ?_⟩⟩
  · obtain h | h := List.mem_append.mp h
    · split at h
      · exact .inl ⟨‹_›, (List.mem_singleton.mp h).symm⟩
      · cases h
    · split at h
      · exact .inr ⟨(List.mem_singleton.mp h).symm, ‹_›⟩
      · cases h
  · rcases h with ⟨a, b⟩ | ⟨a, b⟩
    · exact List.mem_append_left _ (by rw [if_pos a, b]; exact List.mem_cons_self)
    · exact List.mem_append_right _ (by rw [if_pos b, a]; exact List.mem_cons_self)
theorem near_adj {P : Plan} {r : List Str} {lot : Nat → List Str} (h : Along P r lot) {z y : Str} : y ∈ nearOf P z ↔ ∃ k, (r[k]? = some z ∧ r[k + 1]? = some y) ∨ (r[k]? = some y ∧ r[k + 1]? = some z) := by
  rw [mem_near_iff]
  refine ⟨fun ⟨p, hp, e⟩ => ?_, fun ⟨k, e⟩ => ?_⟩
  · obtain ⟨k, _, a⟩ := h.pr p hp
    unfold AtRow at a
    rcases e with ⟨e1, e2⟩ | ⟨e1, e2⟩ <;> rw [e1, e2] at a <;> rcases a with a | a
    · exact ⟨k, .inl a⟩
    · exact ⟨k, .inr a⟩
    · exact ⟨k, .inr a⟩
    · exact ⟨k, .inl a⟩
  · have hk : k + 1 < r.length := by
      rcases e with ⟨_, b⟩ | ⟨_, b⟩ <;> exact (List.getElem?_eq_some_iff.mp b).1
    obtain ⟨p, hp, _, a⟩ := h.has k hk
    refine ⟨p, hp, ?_⟩
    rcases e with ⟨e1, e2⟩ | ⟨e1, e2⟩ <;> rcases a with ⟨a1, a2⟩ | ⟨a1, a2⟩ <;> rw [e1] at a1 <;> rw [e2] at a2
    · exact .inl ⟨(Option.some.inj a1).symm, (Option.some.inj a2).symm⟩
    · exact .inr ⟨(Option.some.inj a2).symm, (Option.some.inj a1).symm⟩
    · exact .inr ⟨(Option.some.inj a1).symm, (Option.some.inj a2).symm⟩
    · exact .inl ⟨(Option.some.inj a2).symm, (Option.some.inj a1).symm⟩
theorem ends_ne {P : Plan} {r : List Str} {lot : Nat → List Str} (h : Along P r lot) {p : Str × Str × List Str} (hp : p ∈ P.pairs) : p.1 ≠ p.2.1 := by
  obtain ⟨k, _, a⟩ := h.pr p hp
  intro e
  rcases a with ⟨a, b⟩ | ⟨a, b⟩ <;> rw [e] at * <;> have := ix_inj h.nd a b <;> omega
/-- no two pairs with the same ends -/
theorem same_ends {P : Plan} {r : List Str} {lot : Nat → List Str} (h : Along P r lot) {p q : Str × Str × List Str} (hp : p ∈ P.pairs) (hq : q ∈ P.pairs) (e : (p.1 = q.1 ∧ p.2.1 = q.2.1) ∨ (p.1 = q.2.1 ∧ p.2.1 = q.1)) : p = q := by
  obtain ⟨k, _, a⟩ := h.pr p hp
  refine h.uniq p hp q hq k a ?_
  unfold AtRow at a ⊢
  rcases e with ⟨e1, e2⟩ | ⟨e1, e2⟩
  · rw [← e1, ← e2]; exact a
  · rw [← e1, ← e2]; exact a.symm
theorem flat_nd {α β : Type} {f : α → List β} : ∀ {xs : List α}, xs.Nodup → (∀ x ∈ xs, (f x).Nodup) → (∀ x ∈ xs, ∀ y ∈ xs, ∀ b, b ∈ f x → b ∈ f y → x = y) → (xs.flatMap f).Nodup
  | [], _, _, _ => List.nodup_nil
  | x :: xs, nd, h1, h2 => by
    rcases List.nodup_cons.mp nd with ⟨n1, n2⟩
    rw [List.flatMap_cons]
    refine List.nodup_append.mpr ⟨h1 x List.mem_cons_self, flat_nd n2 (fun y hy => h1 y (List.mem_cons_of_mem _ hy)) (fun y hy z hz => h2 y (List.mem_cons_of_mem _ hy) z (List.mem_cons_of_mem _ hz)), fun a ha b hb e => ?_⟩
    obtain ⟨y, hy, hb⟩ := List.mem_flatMap.mp hb
    have := h2 x List.mem_cons_self y (List.mem_cons_of_mem _ hy) a ha (by rw [e]; exact hb)
    exact n1 (by rw [this]; exact hy)
theorem pairs_nd {P : Plan} (ok : P.Ok) : P.pairs.Nodup := List.Pairwise.of_map _ (fun a b h e => h (by rw [e])) ok.kd
theorem Along.sim {P : Plan} {r : List Str} {lot : Nat → List Str} (h : Along P r lot) (ok : P.Ok) : P.Sim := fun x => by
  have e : (metRow P.pairs x).map (·.1) = rawNear P.pairs x := by
    unfold metRow rawNear
    rw [List.map_flatMap]
    congr 1
    funext p
    rw [List.map_append]
    split <;> split <;> rfl
  rw [e]
  unfold rawNear
  refine flat_nd (pairs_nd ok) (fun p hp => ?_) (fun p hp q hq b hb hb' => ?_)
  · have := ends_ne h hp
    by_cases c1 : p.1 = x
    · rw [if_pos c1, if_neg (fun z => this (c1.trans z.symm))]; simp
    · rw [if_neg c1]
      split <;> simp
  · have key : ∀ q : Str × Str × List Str, b ∈ ((if q.1 = x then [q.2.1] else []) ++ if q.2.1 = x then [q.1] else []) → (q.1 = x ∧ q.2.1 = b) ∨ (q.1 = b ∧ q.2.1 = x) := by
      intro q hq
      obtain hq | hq := List.mem_append.mp hq
      · split at hq
        · exact .inl ⟨‹_›, (List.mem_singleton.mp hq).symm⟩
        · cases hq
      · split at hq
        · exact .inr ⟨(List.mem_singleton.mp hq).symm, ‹_›⟩
        · cases hq
    refine same_ends h hp hq ?_
    rcases key p hb with ⟨a1, a2⟩ | ⟨a1, a2⟩ <;> rcases key q hb' with ⟨b1, b2⟩ | ⟨b1, b2⟩
    · exact .inl ⟨a1.trans b1.symm, a2.trans b2.symm⟩
    · exact .inr ⟨a1.trans b2.symm, a2.trans b1.symm⟩
    · exact .inr ⟨a1.trans b2.symm, a2.trans b1.symm⟩
    · exact .inl ⟨a1.trans b1.symm, a2.trans b2.symm⟩
theorem near_nd {P : Plan} {r : List Str} {lot : Nat → List Str} (h : Along P r lot) (ok : P.Ok) (x : Str) : (nearOf P x).Nodup := by
  have e : (metRow P.pairs x).map (·.1) = rawNear P.pairs x := by
    unfold metRow rawNear
    rw [List.map_flatMap]
    congr 1
    funext p
    rw [List.map_append]
    split <;> split <;> rfl
  have := h.sim ok x
  rw [e] at this
  exact (List.mergeSort_perm _ leS).nodup_iff.mpr this
theorem filter_one {α : Type} {q : α → Bool} {b : α} : ∀ {xs : List α}, xs.Nodup → (∀ y ∈ xs, q y = true ↔ y = b) → b ∈ xs → xs.filter q = [b]
  | x :: xs, nd, h, hb => by
    rcases List.nodup_cons.mp nd with ⟨n1, n2⟩
    by_cases e : x = b
    · subst e
      rw [List.filter_cons_of_pos ((h x List.mem_cons_self).mpr rfl), List.filter_eq_nil_iff.mpr]
      intro y hy z
      exact n1 ((h y (List.mem_cons_of_mem _ hy)).mp z ▸ hy)
    · rw [List.filter_cons_of_neg (fun z => e ((h x List.mem_cons_self).mp z))]
      exact filter_one n2 (fun y hy => h y (List.mem_cons_of_mem _ hy)) ((List.mem_cons.mp hb).resolve_left fun z => e z.symm)
/-! ### the search -/
structure At (P : Plan) (x y : Str) (n : Nat) (s : List (List Str) × List (List Str)) : Prop where
  e : dfs P x y n = s
  go : ∀ i, i < n → (dfs P x y i).1 ≠ []
  len : ∀ i, i ≤ n → (dfs P x y i).1.length ≤ 1000 ∧ (dfs P x y i).2.length ≤ 1000
def Reach (P : Plan) (x y : Str) (s : List (List Str) × List (List Str)) : Prop := ∃ n, At P x y n s
theorem Reach.step {P : Plan} {x y : Str} {s t : List (List Str) × List (List Str)} (h : Reach P x y s) (hs : s.1 ≠ []) (e : dfsStep P y s = t) (h1 : t.1.length ≤ 1000) (h2 : t.2.length ≤ 1000) : Reach P x y t := by
  obtain ⟨n, a⟩ := h
  have e1 : dfs P x y (n + 1) = t := by
    show dfsStep P y (dfs P x y n) = t
    rw [a.e, e]
  refine ⟨n + 1, e1, fun i hi => ?_, fun i hi => ?_⟩
  · by_cases c : i < n
    · exact a.go i c
    · have : i = n := by omega
      rw [this, a.e]; exact hs
  · by_cases c : i ≤ n
    · exact a.len i c
    · have : i = n + 1 := by omega
      rw [this, e1]; exact ⟨h1, h2⟩
def Arm (P : Plan) (L : List Str) : Prop := ∀ p z rest, L = p ++ z :: rest → p ≠ [] → ((nearOf P z).filter fun x => decide (x ∉ p ++ [z])) = rest.take 1
theorem step_hit {P : Plan} {y : Str} {B : List (List Str)} {F : List (List Str)} {q : List Str} : dfsStep P y (B ++ [q ++ [y]], F) = (B, F ++ [q ++ [y]]) := by
  unfold dfsStep
  simp
theorem step_go {P : Plan} {y z : Str} (h : z ≠ y) {B : List (List Str)} {F : List (List Str)} {q : List Str} : dfsStep P y (B ++ [q ++ [z]], F) = (B ++ ((nearOf P z).filter fun x => decide (x ∉ q ++ [z])).map fun x => (q ++ [z]) ++ [x], F) := by
  unfold dfsStep
  simp [h]
theorem arm_miss {P : Plan} {x y : Str} {B F : List (List Str)} (hB : B.length ≤ 900) (hF : F.length ≤ 900) : ∀ (rest q : List Str) (z : Str), q ≠ [] → Arm P (q ++ z :: rest) → z ≠ y → y ∉ rest → Reach P x y (B ++ [q ++ [z]], F) → Reach P x y (B, F)
  | [], q, z, hq, ha, hz, _, h => h.step (by simp) (by rw [step_go hz, ha q z [] rfl hq]; simp) (by show B.length ≤ _; omega) (by show F.length ≤ _; omega)
  | b :: rest, q, z, hq, ha, hz, hy, h => by
    refine arm_miss hB hF rest (q ++ [z]) b (by simp) (by rw [List.append_assoc]; exact ha) (fun e => hy (by rw [e]; exact List.mem_cons_self)) (fun e => hy (List.mem_cons_of_mem _ e)) (h.step (by simp) (t := (B ++ [(q ++ [z]) ++ [b]], F)) ?_ (by show (B ++ _).length ≤ _; rw [List.length_append, List.length_singleton]; omega) (by show F.length ≤ _; omega))
    rw [step_go hz, ha q z (b :: rest) rfl hq]
    simp
theorem arm_hit {P : Plan} {x y : Str} {B F : List (List Str)} (hB : B.length ≤ 900) (hF : F.length ≤ 900) {rest2 : List Str} : ∀ (rest q : List Str) (z : Str), q ≠ [] → Arm P (q ++ z :: (rest ++ y :: rest2)) → z ≠ y → y ∉ rest → Reach P x y (B ++ [q ++ [z]], F) → Reach P x y (B, F ++ [q ++ z :: (rest ++ [y])])
  | [], q, z, hq, ha, hz, _, h => by
    have h1 : Reach P x y (B ++ [(q ++ [z]) ++ [y]], F) := h.step (by simp) (by rw [step_go hz, ha q z _ rfl hq]; simp) (by show (B ++ _).length ≤ _; rw [List.length_append, List.length_singleton]; omega) (by show F.length ≤ _; omega)
    refine h1.step (by simp) (t := (B, F ++ [q ++ z :: ([] ++ [y])])) (by rw [step_hit]; simp) (by show B.length ≤ _; omega) (by show (F ++ _).length ≤ _; rw [List.length_append, List.length_singleton]; omega)
  | b :: rest, q, z, hq, ha, hz, hy, h => by
    have h1 : Reach P x y (B ++ [(q ++ [z]) ++ [b]], F) := h.step (by simp) (by rw [step_go hz, ha q z _ rfl hq]; simp) (by show (B ++ _).length ≤ _; rw [List.length_append, List.length_singleton]; omega) (by show F.length ≤ _; omega)
    have := arm_hit hB hF rest (q ++ [z]) b (by simp) (by rw [List.append_assoc]; exact ha) (fun e => hy (by rw [e]; exact List.mem_cons_self)) (fun e => hy (List.mem_cons_of_mem _ e)) h1
    rwa [List.append_assoc] at this
theorem row_arm {P : Plan} {r : List Str} {lot : Nat → List Str} (h : Along P r lot) (ok : P.Ok) {s L : List Str} (e : r = s ++ L) : Arm P L := by
  intro p z rest eL hp
  subst eL
  obtain ⟨p0, w, rfl⟩ : ∃ p0 w, p = p0 ++ [w] := ⟨p.dropLast, p.getLast hp, (List.dropLast_concat_getLast hp).symm⟩
  have ez : r[s.length + p0.length + 1]? = some z := by
    rw [e, List.getElem?_append_right (by omega), List.getElem?_append_right (by simp; omega)]
    simp [show s.length + p0.length + 1 - s.length - (p0.length + 1) = 0 by omega]
  have ew : r[s.length + p0.length]? = some w := by
    rw [e, List.getElem?_append_right (by omega), List.append_assoc, List.getElem?_append_right (by omega)]
    simp [show s.length + p0.length - s.length - p0.length = 0 by omega]
  have nd := h.nd
  have nb : ∀ y ∈ nearOf P z, y = w ∨ r[s.length + p0.length + 2]? = some y := by
    intro y hy
    obtain ⟨k, a | a⟩ := (near_adj h).mp hy
    · have := ix_inj nd a.1 ez
      subst this
      exact .inr a.2
    · have := ix_inj nd a.2 ez
      have : k = s.length + p0.length := by omega
      subst this
      rw [ew] at a
      exact .inl (Option.some.inj a.1).symm
  have er : r[s.length + p0.length + 2]? = rest[0]? := by
    rw [e, List.getElem?_append_right (by omega), List.getElem?_append_right (by simp; omega)]
    rw [show s.length + p0.length + 2 - s.length - (p0 ++ [w]).length = 1 by simp; omega]
    rfl
  cases rest with
  | nil =>
    rw [List.take_nil, List.filter_eq_nil_iff]
    intro y hy z1
    rcases nb y hy with rfl | c
    · exact absurd (List.mem_append_left _ (List.mem_append_right _ List.mem_cons_self)) (of_decide_eq_true z1)
    · rw [er] at c; cases c
  | cons b rest =>
    refine filter_one (near_nd h ok z) (fun y hy => ?_) ((near_adj h).mpr ⟨_, .inl ⟨ez, by rw [er]; rfl⟩⟩)
    rcases nb y hy with rfl | c
    · refine ⟨fun z1 => absurd (List.mem_append_left _ (List.mem_append_right _ List.mem_cons_self)) (of_decide_eq_true z1), fun z1 => ?_⟩
      subst z1
      have := ix_inj nd ew (er.trans rfl)
      omega
    · rw [er] at c
      have : b = y := Option.some.inj c
      subst this
      refine ⟨fun _ => rfl, fun _ => decide_eq_true fun z1 => ?_⟩
      have nd2 : (p0 ++ [w] ++ z :: b :: rest).Nodup := by
        rw [e] at nd
        exact (List.nodup_append.mp nd).2.1
      rw [show p0 ++ [w] ++ z :: b :: rest = (p0 ++ [w] ++ [z]) ++ b :: rest by simp] at nd2
      exact (List.nodup_append.mp nd2).2.2 b z1 b List.mem_cons_self rfl
theorem arms_run {P : Plan} {x y u0 : Str} {path : List Str} (hit : ∀ B F : List (List Str), B.length ≤ 900 → F.length ≤ 900 → Reach P x y (B ++ [[x, u0]], F) → Reach P x y (B, F ++ [path])) : ∀ (n : Nat) (us : List Str), us.length = n → us.Nodup → us.length ≤ 100 → (∀ u ∈ us, u ≠ u0 → ∀ B F : List (List Str), B.length ≤ 900 → F.length ≤ 900 → Reach P x y (B ++ [[x, u]], F) → Reach P x y (B, F)) →
    ∀ F : List (List Str), F.length ≤ 100 → Reach P x y (us.map (fun u => [x, u]), F) → Reach P x y ([], F ++ if u0 ∈ us then [path] else [])
  | 0, us, hn, _, _, _, F, _, h => by
    have : us = [] := List.length_eq_zero_iff.mp hn
    subst this
    simpa using h
  | n + 1, us, hn, nd, hl, miss, F, hF, h => by
    obtain ⟨vs, u, rfl⟩ : ∃ vs u, us = vs ++ [u] := by
      have : us ≠ [] := fun z => by rw [z] at hn; simp at hn
      exact ⟨us.dropLast, us.getLast this, (List.dropLast_concat_getLast this).symm⟩
    rw [List.length_append, List.length_singleton] at hn hl
    obtain ⟨n1, _, n3⟩ := List.nodup_append.mp nd
    rw [List.map_append] at h
    have miss' : ∀ u ∈ vs, u ≠ u0 → ∀ B F : List (List Str), B.length ≤ 900 → F.length ≤ 900 → Reach P x y (B ++ [[x, u]], F) → Reach P x y (B, F) := fun u hu => miss u (List.mem_append_left _ hu)
    by_cases c : u = u0
    · subst c
      have hno : u ∉ vs := fun z => n3 u z u List.mem_cons_self rfl
      -- after the hit, all others miss
      have h1 := hit _ F (by rw [List.length_map]; omega) (by omega) h
      have all : ∀ (m : Nat) (ws : List Str), ws.length = m → ws.length ≤ 100 → (∀ u ∈ ws, ∀ B F : List (List Str), B.length ≤ 900 → F.length ≤ 900 → Reach P x y (B ++ [[x, u]], F) → Reach P x y (B, F)) → ∀ F : List (List Str), F.length ≤ 200 → Reach P x y (ws.map (fun u => [x, u]), F) → Reach P x y ([], F) := by
        intro m
        induction m with
        | zero =>
          intro ws hw _ _ F _ h
          have : ws = [] := List.length_eq_zero_iff.mp hw
          subst this
          exact h
        | succ m ih =>
          intro ws hw hl ms F hF h
          obtain ⟨as, a, rfl⟩ : ∃ as a, ws = as ++ [a] := by
            have : ws ≠ [] := fun z => by rw [z] at hw; simp at hw
            exact ⟨ws.dropLast, ws.getLast this, (List.dropLast_concat_getLast this).symm⟩
          rw [List.length_append, List.length_singleton] at hw hl
          rw [List.map_append] at h
          exact ih as (by omega) (by omega) (fun u hu => ms u (List.mem_append_left _ hu)) F hF (ms a (List.mem_append_right _ List.mem_cons_self) _ F (by rw [List.length_map]; omega) (by omega) h)
      rw [if_pos (List.mem_append_right _ List.mem_cons_self)]
      exact all _ vs rfl (by omega) (fun v hv => miss' v hv fun e => hno (e ▸ hv)) _ (by rw [List.length_append, List.length_singleton]; omega) h1
    · have h1 := miss u (List.mem_append_right _ List.mem_cons_self) c _ F (by rw [List.length_map]; omega) (by omega) h
      have := arms_run hit n vs (by omega) n1 (by omega) miss' F hF h1
      have e : (u0 ∈ vs ++ [u]) ↔ u0 ∈ vs := by
        rw [List.mem_append]
        exact ⟨fun z => z.resolve_right fun w => c (List.mem_singleton.mp w).symm, .inl⟩
      simp only [e]
      exact this
/-- up the row -/
theorem dfs_up {P : Plan} {r : List Str} {lot : Nat → List Str} (h : Along P r lot) (ok : P.Ok) {s m t : List Str} {x y : Str} (e : r = s ++ x :: (m ++ y :: t)) : ∃ n, DfsOk P x y n ∧ (dfs P x y n).2 = [x :: (m ++ [y])] := by
  have nd := h.nd
  have hn := h.perm.length_eq
  have s1 := ok.s1
  have s2 := ok.s2
  unfold namesOf at hn
  rw [List.length_map] at hn
  have rl : r.length ≤ 20 := by omega
  have nd2 : (x :: (m ++ y :: t)).Nodup := by
    rw [e] at nd
    exact (List.nodup_append.mp nd).2.1
  have hxy : x ≠ y := fun z => (List.nodup_cons.mp nd2).1 (by rw [z]; exact List.mem_append_right _ List.mem_cons_self)
  have ex : r[s.length]? = some x := by rw [e, List.getElem?_append_right (by omega), Nat.sub_self]; rfl
  have nl := near_len P x
  have hx : x ∉ nearOf P x := fun z => by
    obtain ⟨k, a | a⟩ := (near_adj h).mp z <;> have := ix_inj nd a.1 a.2 <;> omega
  obtain ⟨u0, w, eu⟩ : ∃ u0 w, m ++ y :: t = u0 :: w := List.exists_cons_of_ne_nil (by simp)
  have eu1 : r[s.length + 1]? = some u0 := by rw [e, eu, List.getElem?_append_right (by omega)]; simp
  have r0 : Reach P x y ([[x]], []) := ⟨0, rfl, fun i hi => absurd hi (by omega), fun i hi => by
    have : i = 0 := by omega
    subst this
    exact ⟨by show 1 ≤ _; decide, by show 0 ≤ _; decide⟩⟩
  have r1 : Reach P x y ((nearOf P x).map (fun u => [x, u]), []) := by
    refine r0.step (by simp) ?_ (by show ((nearOf P x).map _).length ≤ _; rw [List.length_map]; omega) (by show 0 ≤ _; decide)
    have := step_go (P := P) (B := []) (F := []) (q := []) hxy
    rw [show (([] : List (List Str)) ++ [([] : List Str) ++ [x]]) = [[x]] from rfl] at this
    rw [this]
    refine Prod.ext ?_ rfl
    show (((nearOf P x).filter _).map _) = _
    rw [List.filter_eq_self.mpr]
    · rfl
    · intro y hy
      exact decide_eq_true fun z => hx ((List.mem_singleton.mp (show y ∈ [x] from z)) ▸ hy)
  have hit : ∀ B F : List (List Str), B.length ≤ 900 → F.length ≤ 900 → Reach P x y (B ++ [[x, u0]], F) → Reach P x y (B, F ++ [x :: (m ++ [y])]) := by
    intro B F hB hF h1
    have arm : Arm P (x :: (m ++ y :: t)) := row_arm h ok e
    cases m with
    | nil =>
      have : u0 = y := (List.cons.inj eu).1.symm
      subst this
      exact h1.step (by simp) (step_hit (q := [x])) (by show B.length ≤ _; omega) (by show (F ++ _).length ≤ _; rw [List.length_append, List.length_singleton]; omega)
    | cons b m =>
      have eb : u0 = b := (List.cons.inj eu).1.symm
      subst eb
      have nd3 := (List.nodup_cons.mp nd2).2
      rw [List.cons_append] at nd3
      obtain ⟨n1, n2⟩ := List.nodup_cons.mp nd3
      exact arm_hit hB hF m [x] u0 (by simp) arm (fun z => n1 (by rw [z]; exact List.mem_append_right _ List.mem_cons_self)) (fun z => (List.nodup_append.mp n2).2.2 y z y List.mem_cons_self rfl) h1
  have miss : ∀ u ∈ nearOf P x, u ≠ u0 → ∀ B F : List (List Str), B.length ≤ 900 → F.length ≤ 900 → Reach P x y (B ++ [[x, u]], F) → Reach P x y (B, F) := by
    intro u hu hne B F hB hF h1
    obtain ⟨k, a | a⟩ := (near_adj h).mp hu
    · have := ix_inj nd a.1 ex
      subst this
      rw [eu1] at a
      exact absurd (Option.some.inj a.2).symm hne
    · have hk := ix_inj nd a.2 ex
      -- the arm down
      obtain ⟨s0, rfl⟩ : ∃ s0, s = s0 ++ [u] := by
        have h1 : s[k]? = some u := by
          rw [e, List.getElem?_append_left (by omega)] at a
          exact a.1
        have h2 : s.take (k + 1) = s := List.take_of_length_le (by omega)
        refine ⟨s.take k, ?_⟩
        conv => lhs; rw [← h2, List.take_add_one, h1]
        rfl
      have er : r.reverse = (m ++ y :: t).reverse ++ x :: u :: s0.reverse := by
        rw [e]
        simp
      have arm : Arm P ([x] ++ u :: s0.reverse) := row_arm h.rev ok er
      have ns : ∀ z ∈ s0 ++ [u], z ≠ y := fun z hz c => by
        rw [e] at nd
        exact (List.nodup_append.mp nd).2.2 z hz y (List.mem_cons_of_mem _ (List.mem_append_right _ List.mem_cons_self)) c
      exact arm_miss hB hF _ [x] u (by simp) arm (ns u (List.mem_append_right _ List.mem_cons_self)) (fun z => ns y (List.mem_append_left _ (List.mem_reverse.mp z)) rfl) h1
  have fin := arms_run hit _ (nearOf P x) rfl (near_nd h ok x) (by omega) miss [] (by show 0 ≤ _; decide) r1
  rw [if_pos ((near_adj h).mpr ⟨_, .inl ⟨ex, eu1⟩⟩)] at fin
  obtain ⟨n, a⟩ := fin
  exact ⟨n, ⟨by rw [a.e], a.go, a.len⟩, by rw [a.e]; rfl⟩
end KL
/-! M2: the paths of a row; links along it; least links. -/
namespace KL
open PySem PySem.Spec L2
/-- the part of r from x up to y -/
def subR (r : List Str) (x y : Str) : List Str := (r.drop (r.idxOf x)).take (r.idxOf y - r.idxOf x + 1)
def pathOf (r : List Str) (x y : Str) : List Str := if r.idxOf x < r.idxOf y then subR r x y else subR r.reverse x y
def pfOf (r : List Str) (x y : Str) : List (List Str) := [pathOf r x y]
theorem idx_app {s : List Str} {x : Str} {t : List Str} (h : x ∉ s) : (s ++ x :: t).idxOf x = s.length := by
  induction s with
  | nil => simp
  | cons a s ih =>
    rewrite [List.mem_cons, not_or] at h
    rw [List.cons_append, List.idxOf_cons, ih h.2, show (a == x) = false from beq_eq_false_iff_ne.mpr fun z => h.1 z.symm]
    rfl
theorem sub_eq {r s m t : List Str} {x y : Str} (nd : r.Nodup) (e : r = s ++ x :: (m ++ y :: t)) : subR r x y = x :: (m ++ [y]) ∧ r.idxOf x = s.length ∧ r.idxOf y = s.length + m.length + 1 := by
  have hx : x ∉ s := fun z => by
    rw [e] at nd
    exact (List.nodup_append.mp nd).2.2 x z x List.mem_cons_self rfl
  have e2 : r = (s ++ x :: m) ++ y :: t := by rw [e]; simp
  have hy : y ∉ s ++ x :: m := fun z => by
    rw [e2] at nd
    exact (List.nodup_append.mp nd).2.2 y z y List.mem_cons_self rfl
  have i1 : r.idxOf x = s.length := by rw [e]; exact idx_app hx
  have i2 : r.idxOf y = s.length + m.length + 1 := by
    rw [e2, idx_app hy, List.length_append, List.length_cons]
    omega
  refine ⟨?_, i1, i2⟩
  unfold subR
  rw [i1, i2, e, List.drop_left, show s.length + m.length + 1 - s.length + 1 = (x :: (m ++ [y])).length by simp; omega, show x :: (m ++ y :: t) = (x :: (m ++ [y])) ++ t by simp, List.take_left]
theorem split_two {r : List Str} {x y : Str} (hx : x ∈ r) (hy : y ∈ r) (hne : x ≠ y) : (∃ s m t, r = s ++ x :: (m ++ y :: t)) ∨ ∃ s m t, r = s ++ y :: (m ++ x :: t) := by
  obtain ⟨s, t, rfl⟩ := List.append_of_mem hx
  rcases List.mem_append.mp hy with h | h
  · obtain ⟨s', t', rfl⟩ := List.append_of_mem h
    exact .inr ⟨s', t', t, by simp⟩
  · obtain ⟨s', t', rfl⟩ := List.append_of_mem ((List.mem_cons.mp h).resolve_left fun z => hne z.symm)
    exact .inl ⟨s, s', t', by simp⟩
/-- x before y or y before x -/
theorem path_cases {r : List Str} (nd : r.Nodup) {x y : Str} (hx : x ∈ r) (hy : y ∈ r) (hne : x ≠ y) : (∃ s m t, r = s ++ x :: (m ++ y :: t) ∧ pathOf r x y = x :: (m ++ [y])) ∨ ∃ s m t, r.reverse = s ++ x :: (m ++ y :: t) ∧ pathOf r x y = x :: (m ++ [y]) := by
  rcases split_two hx hy hne with ⟨s, m, t, e⟩ | ⟨s, m, t, e⟩
  · obtain ⟨h1, h2, h3⟩ := sub_eq nd e
    refine .inl ⟨s, m, t, e, ?_⟩
    unfold pathOf
    rw [if_pos (by omega), h1]
  · obtain ⟨h1, h2, h3⟩ := sub_eq nd e
    have e' : r.reverse = t.reverse ++ x :: (m.reverse ++ y :: s.reverse) := by rw [e]; simp
    obtain ⟨g1, _, _⟩ := sub_eq ((List.reverse_perm r).nodup_iff.mpr nd) e'
    refine .inr ⟨_, _, _, e', ?_⟩
    unfold pathOf
    rw [if_neg (by omega), g1]
theorem sortP_one (p : List Str) : sortP [p] = [p] := by
  unfold sortP
  simp
/-- links of a piece of the row -/
theorem axOf_some {P : Plan} {r : List Str} {lot : Nat → List Str} (h : Along P r lot) {p : Str × Str × List Str} (hp : p ∈ P.pairs) : axOf P p.1 p.2.1 = some p.2.2 := by
  unfold axOf
  cases e : P.pairs.find? fun q => decide (q.1 = p.1 ∧ q.2.1 = p.2.1) with
  | none =>
    have := List.find?_eq_none.mp e p hp
    simp at this
  | some q =>
    have hq := List.mem_of_find?_eq_some e
    have := of_decide_eq_true (List.find?_some (p := fun q : Str × Str × List Str => decide (q.1 = p.1 ∧ q.2.1 = p.2.1)) e)
    rw [same_ends h hq hp (.inl this)]
    rfl
theorem link_at {P : Plan} {r : List Str} {lot : Nat → List Str} (h : Along P r lot) {k : Nat} {a b : Str} (ha : r[k]? = some a) (hb : r[k + 1]? = some b) : (axOf P a b ≠ none ∨ axOf P b a ≠ none) ∧ (linkOf P a b).1 = lot k ∧ (linkOf P b a).1 = lot k := by
  obtain ⟨p, hp, el, at_⟩ := h.has k (List.getElem?_eq_some_iff.mp hb).1
  have hs := axOf_some h hp
  have none_of : ∀ {c d : Str}, (p.1 = d ∧ p.2.1 = c) → axOf P c d = none := by
    intro c d hcd
    cases e : axOf P c d with
    | none => rfl
    | some a =>
      have hm := axOf_mem e
      have := same_ends h hm hp (.inr ⟨hcd.2.symm, hcd.1.symm⟩)
      have hn := ends_ne h hp
      rw [← this] at hcd
      exact absurd hcd.1 (fun z => ends_ne h hm z)
  rcases at_ with ⟨a1, a2⟩ | ⟨a1, a2⟩ <;> rw [ha] at a1 <;> rw [hb] at a2 <;> have a1 := Option.some.inj a1 <;> have a2 := Option.some.inj a2
  · rw [← a1, ← a2] at hs
    refine ⟨.inl (by rw [hs]; simp), ?_, ?_⟩
    · unfold linkOf
      rw [hs]
      exact el
    · unfold linkOf
      rw [none_of ⟨a1.symm, a2.symm⟩, hs]
      exact el
  · rw [← a1, ← a2] at hs
    refine ⟨.inr (by rw [hs]; simp), ?_, ?_⟩
    · unfold linkOf
      rw [none_of ⟨a2.symm, a1.symm⟩, hs]
      exact el
    · unfold linkOf
      rw [hs]
      exact el
/-- q is a piece of r from i on -/
def Piece (r : List Str) (i : Nat) (q : List Str) : Prop := ∀ j x, q[j]? = some x → r[i + j]? = some x
theorem piece_of {r s q t : List Str} (e : r = s ++ q ++ t) : Piece r s.length q := fun j x h => by
  have hj := (List.getElem?_eq_some_iff.mp h).1
  rw [e, List.append_assoc, List.getElem?_append_right (by omega), List.getElem?_append_left (by omega), show s.length + j - s.length = j by omega, h]
theorem zip_at {q : List Str} {z : Str × Str} (h : z ∈ q.zip q.tail) : ∃ j, q[j]? = some z.1 ∧ q[j + 1]? = some z.2 := by
  obtain ⟨j, hj⟩ := List.getElem?_of_mem h
  rw [List.getElem?_zip_eq_some] at hj
  refine ⟨j, hj.1, ?_⟩
  rw [List.getElem?_tail] at hj
  exact hj.2
theorem at_zip {q : List Str} {j : Nat} {a b : Str} (h1 : q[j]? = some a) (h2 : q[j + 1]? = some b) : (a, b) ∈ q.zip q.tail := by
  refine List.mem_of_getElem? (i := j) ?_
  rw [List.getElem?_zip_eq_some, List.getElem?_tail]
  exact ⟨h1, h2⟩
theorem piece_linked {P : Plan} {r : List Str} {lot : Nat → List Str} (h : Along P r lot) {i : Nat} {q : List Str} (pc : Piece r i q) (hl : q.length ≤ 20) : Linked P q := ⟨hl, fun z hz => by
  obtain ⟨j, h1, h2⟩ := zip_at hz
  exact (link_at h (pc j _ h1) (show r[i + j + 1]? = _ from pc (j + 1) _ h2)).1⟩
theorem piece_links {P : Plan} {r : List Str} {lot : Nat → List Str} (h : Along P r lot) {i : Nat} {q : List Str} (pc : Piece r i q) : (∀ l ∈ links P q, ∃ k, i ≤ k ∧ k + 1 < i + q.length ∧ l.1 = lot k) ∧ ∀ k, i ≤ k → k + 1 < i + q.length → ∃ l ∈ links P q, l.1 = lot k := by
  unfold links
  refine ⟨fun l hl => ?_, fun k h1 h2 => ?_⟩
  · obtain ⟨z, hz, rfl⟩ := List.mem_map.mp hl
    obtain ⟨j, h1, h2⟩ := zip_at hz
    refine ⟨i + j, by omega, ?_, (link_at h (pc j _ h1) (show r[i + j + 1]? = _ from pc (j + 1) _ h2)).2.1⟩
    have := (List.getElem?_eq_some_iff.mp h2).1
    omega
  · have e1 : q[k - i]? = some q[k - i] := List.getElem?_eq_getElem (by omega)
    have e2 : q[k - i + 1]? = some q[k - i + 1] := List.getElem?_eq_getElem (by omega)
    refine ⟨_, List.mem_map.mpr ⟨_, at_zip e1 e2, rfl⟩, ?_⟩
    have := (link_at h (pc _ _ e1) (show r[i + (k - i) + 1]? = _ from pc (k - i + 1) _ e2)).2.1
    rw [show i + (k - i) = k by omega] at this
    exact this
/-- texts in order, none twice -/
def Canon (l : List Str) : Prop := l.Pairwise (fun a b => leS a b = true) ∧ l.Nodup
theorem canon_eq {a b : List Str} (ha : Canon a) (hb : Canon b) (h : ∀ x, x ∈ a ↔ x ∈ b) : a = b := sorted_eq ha.1 hb.1 ((List.perm_ext_iff_of_nodup ha.2 hb.2).mpr h)
theorem Canon.filter {a : List Str} (h : Canon a) (q : Str → Bool) : Canon (a.filter q) := ⟨h.1.filter q, h.2.filter q⟩
theorem canon_setS (l : List Str) : Canon (setS l) := ⟨sortS_sorted _, (List.mergeSort_perm _ leS).nodup_iff.mpr (insT_nd .nil)⟩
theorem mem_setS {l : List Str} {x : Str} : x ∈ setS l ↔ x ∈ l := by
  unfold setS sortS
  rw [List.mem_mergeSort, insT_mem]
  simp
theorem mem_shared {ls : List (List Str × Bool)} {x : Str} (hne : ls ≠ []) : x ∈ sharedBy ls ↔ ∀ l ∈ ls, x ∈ l.1 := by
  cases ls with
  | nil => exact absurd rfl hne
  | cons l r =>
    unfold sharedBy
    rw [List.mem_filter, List.all_eq_true]
    refine ⟨fun ⟨_, h⟩ q hq => of_decide_eq_true (h q hq), fun h => ⟨h l List.mem_cons_self, fun q hq => decide_eq_true (h q hq)⟩⟩
theorem mem_leastOf {ls : List (List Str × Bool)} : leastOf ls ≠ [] ↔ ∃ l ∈ ls, l.1 = sharedBy ls := by
  unfold leastOf
  rw [ne_eq, List.map_eq_nil_iff, List.filter_eq_nil_iff]
  constructor
  · intro h
    apply Classical.byContradiction
    intro hn
    apply h
    rintro ⟨l, k⟩ hq
    have hm : l ∈ ls := by
      have := List.mem_zipIdx hq
      rw [this.2.2]
      exact List.getElem_mem _
    intro z
    exact hn ⟨l, hm, of_decide_eq_true z⟩
  · rintro ⟨l, hl, e⟩ h
    obtain ⟨k, hk⟩ := List.getElem?_of_mem hl
    refine h (l, k) ?_ (decide_eq_true e)
    exact List.mem_zipIdx_iff_getElem?.mpr hk
theorem least_some {ls : List (List Str × Bool)} (hc : ∀ l ∈ ls, Canon l.1) (h : ∃ l ∈ ls, ∀ q ∈ ls, ∀ x ∈ l.1, x ∈ q.1) : leastOf ls ≠ [] := by
  obtain ⟨l, hl, hs⟩ := h
  have hne : ls ≠ [] := fun e => by rw [e] at hl; cases hl
  refine mem_leastOf.mpr ⟨l, hl, canon_eq (hc l hl) ?_ fun x => ?_⟩
  · cases ls with
    | nil => exact absurd rfl hne
    | cons a r => exact (hc a List.mem_cons_self).filter _
  · rw [mem_shared hne]
    exact ⟨fun hx q hq => hs q hq x hx, fun hx => hx l hl⟩
theorem least_none {ls : List (List Str × Bool)} (h : ∀ l ∈ ls, ∃ q ∈ ls, ∃ x ∈ l.1, x ∉ q.1) : leastOf ls = [] := by
  apply Classical.byContradiction
  intro hn
  obtain ⟨l, hl, e⟩ := mem_leastOf.mp hn
  obtain ⟨q, hq, x, hx, hx2⟩ := h l hl
  have hne : ls ≠ [] := fun e => by rw [e] at hl; cases hl
  rw [e] at hx
  exact hx2 ((mem_shared hne).mp hx q hq)
/-- of lots that lie within one another, one lies within all -/
theorem chain_min (lot : Nat → List Str) : ∀ (n i : Nat), 0 < n → (∀ j k, i ≤ j → j < i + n → i ≤ k → k < i + n → (∀ x ∈ lot j, x ∈ lot k) ∨ ∀ x ∈ lot k, x ∈ lot j) → ∃ j, i ≤ j ∧ j < i + n ∧ ∀ k, i ≤ k → k < i + n → ∀ x ∈ lot j, x ∈ lot k
  | 0, i, h, _ => absurd h (by omega)
  | 1, i, _, _ => ⟨i, by omega, by omega, fun k h1 h2 x hx => by
    have : k = i := by omega
    rw [this]; exact hx⟩
  | n + 2, i, _, h => by
    obtain ⟨j, j1, j2, hj⟩ := chain_min lot (n + 1) i (by omega) fun j k a b c d => h j k a (by omega) c (by omega)
    rcases h j (i + n + 1) j1 (by omega) (by omega) (by omega) with z | z
    · refine ⟨j, j1, by omega, fun k k1 k2 x hx => ?_⟩
      by_cases c : k < i + (n + 1)
      · exact hj k k1 c x hx
      · have : k = i + n + 1 := by omega
        rw [this]; exact z x hx
    · refine ⟨i + n + 1, by omega, by omega, fun k k1 k2 x hx => ?_⟩
      by_cases c : k < i + (n + 1)
      · exact hj k k1 c x (z x hx)
      · have : k = i + n + 1 := by omega
        rw [this]; exact hx
def Nest (a b : List Str) : Prop := (∀ x ∈ a, x ∈ b) ∨ ∀ x ∈ b, x ∈ a
theorem piece_least {P : Plan} {r : List Str} {lot : Nat → List Str} (h : Along P r lot) (hc : ∀ k, k + 1 < r.length → Canon (lot k)) {i : Nat} {q : List Str} (pc : Piece r i q) (two : 2 ≤ q.length) (hr : i + q.length ≤ r.length) (ch : ∀ j k, i ≤ j → j + 1 < i + q.length → i ≤ k → k + 1 < i + q.length → Nest (lot j) (lot k)) : leastAlong P q ≠ [] := by
  obtain ⟨a, b⟩ := piece_links h pc
  obtain ⟨j, j1, j2, hj⟩ := chain_min lot (q.length - 1) i (by omega) fun j k a b c d => ch j k a (by omega) c (by omega)
  refine least_some (fun l hl => ?_) ?_
  · obtain ⟨k, k1, k2, e⟩ := a l hl
    rw [e]
    exact hc k (by omega)
  · obtain ⟨l, hl, e⟩ := b j j1 (by omega)
    refine ⟨l, hl, fun q' hq x hx => ?_⟩
    obtain ⟨k, k1, k2, e2⟩ := a q' hq
    rw [e2]
    exact hj k k1 (by omega) x (by rw [← e]; exact hx)
theorem along_in {P : Plan} {r : List Str} {lot : Nat → List Str} (h : Along P r lot) {x : Str} : x ∈ namesOf P ↔ x ∈ r := h.perm.mem_iff
theorem along_len {P : Plan} {r : List Str} {lot : Nat → List Str} (h : Along P r lot) (ok : P.Ok) : r.length ≤ 20 := by
  have hn := h.perm.length_eq
  have s1 := ok.s1
  unfold namesOf at hn
  rw [List.length_map] at hn
  omega
theorem paths_ok {P : Plan} {r : List Str} {lot : Nat → List Str} (h : Along P r lot) (ok : P.Ok) : PathsOk P (pfOf r) where
  run := fun x hx y hy hne => by
    rcases path_cases h.nd ((along_in h).mp hx) ((along_in h).mp hy) hne with ⟨s, m, t, e, ep⟩ | ⟨s, m, t, e, ep⟩
    · obtain ⟨n, d, en⟩ := dfs_up h ok e
      exact ⟨n, d, by rw [en, sortP_one, pfOf, ep]⟩
    · obtain ⟨n, d, en⟩ := dfs_up h.rev ok e
      exact ⟨n, d, by rw [en, sortP_one, pfOf, ep]⟩
  one := fun x hx y hy hne => by show 1 ≤ 1; decide
  lk := fun x hx y hy hne p hp => by
    have rl := along_len h ok
    have := List.mem_singleton.mp (show p ∈ [pathOf r x y] from hp)
    subst this
    rcases path_cases h.nd ((along_in h).mp hx) ((along_in h).mp hy) hne with ⟨s, m, t, e, ep⟩ | ⟨s, m, t, e, ep⟩
    · rw [ep]
      have e2 : r = s ++ (x :: (m ++ [y])) ++ t := by rw [e]; simp
      have := congrArg List.length e2
      simp only [List.length_append, List.length_cons, List.length_nil] at this
      exact ⟨piece_linked h (piece_of e2) (by simp only [List.length_append, List.length_cons, List.length_nil]; omega), by simp only [List.length_append, List.length_cons, List.length_nil]; omega⟩
    · rw [ep]
      have e2 : r.reverse = s ++ (x :: (m ++ [y])) ++ t := by rw [e]; simp
      have := congrArg List.length e2
      simp only [List.length_append, List.length_cons, List.length_nil, List.length_reverse] at this
      exact ⟨piece_linked h.rev (piece_of e2) (by simp only [List.length_append, List.length_cons, List.length_nil]; omega), by simp only [List.length_append, List.length_cons, List.length_nil]; omega⟩
theorem no_rings {P : Plan} {r : List Str} {lot : Nat → List Str} (h : Along P r lot) (ok : P.Ok) : NoRings P (pfOf r) := fun x hx y hy => by
  have nd := h.nd
  obtain ⟨k, a⟩ := (near_adj h).mp hy
  have hne : x ≠ y := by
    intro e
    subst e
    rcases a with ⟨a, b⟩ | ⟨a, b⟩ <;> have := ix_inj nd a b <;> omega
  refine ⟨hne, fun p hp => ?_⟩
  have := List.mem_singleton.mp (show p ∈ [pathOf r x y] from hp)
  subst this
  have two : ∀ {r' s m t : List Str}, r'.Nodup → r' = s ++ x :: (m ++ y :: t) → (∃ j, (r'[j]? = some x ∧ r'[j + 1]? = some y) ∨ (r'[j]? = some y ∧ r'[j + 1]? = some x)) → (x :: (m ++ [y])).length = 2 := by
    intro r' s m t nd e ⟨j, a⟩
    have ex : r'[s.length]? = some x := by rw [e, List.getElem?_append_right (by omega), Nat.sub_self]; rfl
    have ey : r'[s.length + m.length + 1]? = some y := by
      rw [e, show s ++ x :: (m ++ y :: t) = (s ++ x :: m) ++ y :: t by simp, List.getElem?_append_right (by simp; omega)]
      simp
      rw [show s.length + m.length + 1 - (s.length + (m.length + 1)) = 0 by omega]
      rfl
    simp only [List.length_append, List.length_cons, List.length_nil]
    rcases a with ⟨a, b⟩ | ⟨a, b⟩
    · have := ix_inj nd a ex
      have := ix_inj nd b ey
      omega
    · have := ix_inj nd b ex
      have := ix_inj nd a ey
      omega
  rcases path_cases nd ((along_in h).mp hx) ((along_in h).mp (mem_near ok hy)) hne with ⟨s, m, t, e, ep⟩ | ⟨s, m, t, e, ep⟩
  · rw [ep]; exact two nd e ⟨k, a⟩
  · rw [ep]; exact two h.rev.nd e ((near_adj h.rev).mp hy)
end KL
/-! M3: what hangs together, as parts of the row. -/
namespace KL
open PySem PySem.Spec L2
/-- lots that part the names -/
structure Parted (names : List Str) (lots : List (List Str)) : Prop where
  perm : lots.flatten.Perm names
  ne : ∀ l ∈ lots, l ≠ []
theorem parted_in {names : List Str} {lots : List (List Str)} (h : Parted names lots) {x : Str} : x ∈ names ↔ ∃ l ∈ lots, x ∈ l := by
  rw [← h.perm.mem_iff, List.mem_flatten]
theorem parted_nd {names : List Str} {lots : List (List Str)} (h : Parted names lots) (nd : names.Nodup) : lots.flatten.Nodup := h.perm.nodup_iff.mpr nd
theorem flatten_disj : ∀ {lots : List (List Str)}, lots.flatten.Nodup → (∀ l ∈ lots, l ≠ []) → lots.Nodup ∧ (∀ l ∈ lots, l.Nodup) ∧ ∀ l ∈ lots, ∀ m ∈ lots, ∀ x, x ∈ l → x ∈ m → l = m
  | [], _, _ => ⟨.nil, ⟨fun _ h => (List.not_mem_nil h).elim, fun _ h => (List.not_mem_nil h).elim⟩⟩
  | a :: r, nd, hne => by
    rw [List.flatten_cons] at nd
    obtain ⟨n1, n2, n3⟩ := List.nodup_append.mp nd
    obtain ⟨i1, i2, i3⟩ := flatten_disj n2 fun l hl => hne l (List.mem_cons_of_mem _ hl)
    have off : ∀ l ∈ r, ∀ x, x ∈ a → x ∉ l := fun l hl x hx hx2 => n3 x hx x (List.mem_flatten.mpr ⟨l, hl, hx2⟩) rfl
    refine ⟨List.nodup_cons.mpr ⟨fun z => ?_, i1⟩, fun l hl => ?_, fun l hl m hm x hx hx2 => ?_⟩
    · obtain ⟨y, ys, e⟩ := List.exists_cons_of_ne_nil (hne a List.mem_cons_self)
      exact off a z y (by rw [e]; exact List.mem_cons_self) (by rw [e]; exact List.mem_cons_self)
    · rcases List.mem_cons.mp hl with e | hl
      · rw [e]; exact n1
      · exact i2 l hl
    · rcases List.mem_cons.mp hl with e | hl <;> rcases List.mem_cons.mp hm with e2 | hm
      · rw [e, e2]
      · exact absurd hx2 (off m hm x (e ▸ hx))
      · exact absurd hx (off l hl x (e2 ▸ hx2))
      · exact i3 l hl m hm x hx hx2
theorem lotOf_is {names : List Str} {lots : List (List Str)} (h : Parted names lots) (nd : names.Nodup) {x : Str} (hx : x ∈ names) : lotOf lots x ∈ lots ∧ x ∈ lotOf lots x ∧ ∀ l ∈ lots, x ∈ l → l = lotOf lots x := by
  obtain ⟨_, _, dis⟩ := flatten_disj (parted_nd h nd) h.ne
  obtain ⟨l, hl, hxl⟩ := (parted_in h).mp hx
  have hm : l ∈ lots.filter fun l => decide (x ∈ l) := List.mem_filter.mpr ⟨hl, decide_eq_true hxl⟩
  have h1 : lotOf lots x ∈ lots ∧ x ∈ lotOf lots x := by
    unfold lotOf
    cases e : lots.filter fun l => decide (x ∈ l) with
    | nil => rw [e] at hm; cases hm
    | cons a r =>
      have ha : a ∈ lots.filter fun l => decide (x ∈ l) := by rw [e]; exact List.mem_cons_self
      obtain ⟨h1, h2⟩ := List.mem_filter.mp ha
      exact ⟨h1, of_decide_eq_true h2⟩
  exact ⟨h1.1, h1.2, fun l hl hx => dis l hl _ h1.1 x hx h1.2⟩
theorem hstep_parted {names : List Str} {lots : List (List Str)} (h : Parted names lots) (nd : names.Nodup) {q : Str × Str} (h1 : q.1 ∈ names) (h2 : q.2 ∈ names) : Parted names (hstep names lots q) := by
  unfold hstep
  split
  · exact h
  · rename_i hn
    obtain ⟨f1, f2, f3⟩ := lotOf_is h nd h1
    obtain ⟨g1, g2, g3⟩ := lotOf_is h nd h2
    obtain ⟨n1, n2, dis⟩ := flatten_disj (parted_nd h nd) h.ne
    generalize lotOf lots q.1 = f at *
    generalize lotOf lots q.2 = g at *
    have fg : f ≠ g := fun e => hn (e ▸ g2)
    have e1 : (lots.filter fun l => !decide (l = f) && !decide (l = g)) = (lots.erase f).erase g := by
      rw [(n1.erase f).erase_eq_filter, n1.erase_eq_filter, List.filter_filter]
      apply List.filter_congr
      intro l _
      by_cases a : l = f <;> by_cases b : l = g <;> simp [a, b]
    have hg1 : g ∈ lots.erase f := (List.mem_erase_of_ne fun e => fg e.symm).mpr g1
    have p1 : lots.Perm (f :: g :: (lots.erase f).erase g) := (List.perm_cons_erase f1).trans (.cons _ (List.perm_cons_erase hg1))
    have sub : ∀ x, x ∈ f ∨ x ∈ g → x ∈ names := fun x hx => (parted_in h).mpr (hx.elim (fun z => ⟨f, f1, z⟩) fun z => ⟨g, g1, z⟩)
    have pj : (joinL names f g).Perm (f ++ g) := by
      unfold joinL
      refine (List.perm_ext_iff_of_nodup (nd.filter _) (List.nodup_append.mpr ⟨n2 f f1, n2 g g1, fun a ha b hb e => fg (dis f f1 g g1 a ha (e ▸ hb))⟩)).mpr fun x => ?_
      rw [List.mem_filter, Bool.or_eq_true, decide_eq_true_eq, decide_eq_true_eq, List.mem_append]
      exact ⟨fun z => z.2, fun z => ⟨sub x z, z⟩⟩
    rw [e1]
    refine ⟨?_, fun l hl => ?_⟩
    · rw [List.flatten_append, List.flatten_cons, List.flatten_nil, List.append_nil]
      have p2 : lots.flatten.Perm (f ++ (g ++ ((lots.erase f).erase g).flatten)) := p1.flatten
      refine (List.perm_append_comm.trans ((pj.append_right _).trans ?_)).trans h.perm
      rw [List.append_assoc]
      exact p2.symm
    · rcases List.mem_append.mp hl with hl | hl
      · exact h.ne l (List.mem_of_mem_erase (List.mem_of_mem_erase hl))
      · rw [List.mem_singleton.mp hl]
        intro e
        have : q.1 ∈ joinL names f g := pj.mem_iff.mpr (List.mem_append_left _ f2)
        rw [e] at this
        cases this
/-- what holds of the lots: G of each; pairs that were met lie in one lot -/
structure HangOk (names : List Str) (G : List Str → Prop) (met : List (Str × Str)) (lots : List (List Str)) : Prop where
  part : Parted names lots
  good : ∀ l ∈ lots, G l
  same : ∀ q ∈ met, ∃ l ∈ lots, q.1 ∈ l ∧ q.2 ∈ l
theorem hang_ok {names : List Str} (nd : names.Nodup) {G : List Str → Prop} : ∀ (qs met : List (Str × Str)) (lots : List (List Str)), (∀ q ∈ qs, q.1 ∈ names ∧ q.2 ∈ names) →
    (∀ q ∈ qs, ∀ f g j : List Str, G f → G g → (∀ x, x ∈ f → x ∉ g) → q.1 ∈ f → q.2 ∈ g → j.length ≥ 2 → (∀ x, x ∈ j ↔ x ∈ f ∨ x ∈ g) → G j) → HangOk names G met lots → HangOk names G (met ++ qs) (qs.foldl (hstep names) lots)
  | [], met, lots, _, _, h => by rw [List.append_nil]; exact h
  | q :: qs, met, lots, hm, hs, h => by
    obtain ⟨m1, m2⟩ := hm q List.mem_cons_self
    have hp := hstep_parted h.part nd m1 m2
    have : HangOk names G (met ++ [q]) (hstep names lots q) := by
      refine ⟨hp, ?_, ?_⟩
      · obtain ⟨f1, f2, f3⟩ := lotOf_is h.part nd m1
        obtain ⟨g1, g2, g3⟩ := lotOf_is h.part nd m2
        obtain ⟨n1, n2, dis⟩ := flatten_disj (parted_nd h.part nd) h.part.ne
        unfold hstep
        split
        · exact h.good
        · rename_i hn
          have fg : lotOf lots q.1 ≠ lotOf lots q.2 := fun e => hn (e ▸ g2)
          intro l hl
          rcases List.mem_append.mp hl with hl | hl
          · exact h.good l (List.mem_filter.mp hl).1
          · rw [List.mem_singleton.mp hl]
            have mj : ∀ x, x ∈ joinL names (lotOf lots q.1) (lotOf lots q.2) ↔ x ∈ lotOf lots q.1 ∨ x ∈ lotOf lots q.2 := fun x => by
              unfold joinL
              rw [List.mem_filter, Bool.or_eq_true, decide_eq_true_eq, decide_eq_true_eq]
              exact ⟨fun z => z.2, fun z => ⟨(parted_in h.part).mpr (z.elim (fun z => ⟨_, f1, z⟩) fun z => ⟨_, g1, z⟩), z⟩⟩
            refine hs q List.mem_cons_self _ _ _ (h.good _ f1) (h.good _ g1) (fun x hx hx2 => fg (dis _ f1 _ g1 x hx hx2)) f2 g2 ?_ mj
            have hne : q.1 ≠ q.2 := fun e => hn (e ▸ f2)
            have nd2 : [q.1, q.2].Nodup := by simp [hne]
            exact nd_len nd2 fun x hx => by
              simp only [List.not_mem_nil, or_false, List.mem_cons] at hx
              rcases hx with rfl | rfl
              · exact (mj _).mpr (.inl f2)
              · exact (mj _).mpr (.inr g2)
      · -- old lots go on within new ones
        have mono : ∀ l ∈ lots, ∃ m ∈ hstep names lots q, ∀ x ∈ l, x ∈ m := by
          intro l hl
          unfold hstep
          split
          · exact ⟨l, hl, fun _ h => h⟩
          · by_cases c : l = lotOf lots q.1 ∨ l = lotOf lots q.2
            · refine ⟨_, List.mem_append_right _ List.mem_cons_self, fun x hx => List.mem_filter.mpr ⟨(parted_in h.part).mpr ⟨l, hl, hx⟩, ?_⟩⟩
              rcases c with c | c
              · rw [← c, decide_eq_true hx, Bool.true_or]
              · rw [← c, decide_eq_true hx, Bool.or_true]
            · refine ⟨l, List.mem_append_left _ (List.mem_filter.mpr ⟨hl, ?_⟩), fun _ h => h⟩
              have c1 : ¬ l = lotOf lots q.1 := fun z => c (.inl z)
              have c2 : ¬ l = lotOf lots q.2 := fun z => c (.inr z)
              simp [c1, c2]
        intro q' hq'
        rcases List.mem_append.mp hq' with hq' | hq'
        · obtain ⟨l, hl, a, b⟩ := h.same q' hq'
          obtain ⟨m, hm, hsub⟩ := mono l hl
          exact ⟨m, hm, hsub _ a, hsub _ b⟩
        · rw [List.mem_singleton.mp hq']
          obtain ⟨f1, f2, _⟩ := lotOf_is h.part nd m1
          by_cases c : q.2 ∈ lotOf lots q.1
          · unfold hstep
            rw [if_pos c]
            exact ⟨_, f1, f2, c⟩
          · obtain ⟨g1, g2, _⟩ := lotOf_is h.part nd m2
            unfold hstep
            rw [if_neg c]
            refine ⟨_, List.mem_append_right _ List.mem_cons_self, List.mem_filter.mpr ⟨m1, ?_⟩, List.mem_filter.mpr ⟨m2, ?_⟩⟩
            · rw [decide_eq_true f2, Bool.true_or]
            · rw [decide_eq_true g2, Bool.or_true]
    have := hang_ok nd qs (met ++ [q]) _ (fun q hq => hm q (List.mem_cons_of_mem _ hq)) (fun q hq => hs q (List.mem_cons_of_mem _ hq)) this
    rewrite [List.append_assoc] at this
    exact this
theorem hang_start {names : List Str} {G : List Str → Prop} (hG : ∀ x ∈ names, G [x]) : HangOk names G [] (names.map fun x => [x]) where
  part := ⟨by rw [← List.flatMap_def, List.flatMap_singleton'], fun l hl => by
    obtain ⟨x, _, rfl⟩ := List.mem_map.mp hl
    simp⟩
  good := fun l hl => by
    obtain ⟨x, hx, rfl⟩ := List.mem_map.mp hl
    exact hG x hx
  same := fun q h => nomatch h
end KL
/-! M4: the parts of a level and their order. -/
namespace KL
open PySem PySem.Spec L2
def Has (r l : List Str) (k : Nat) : Prop := ∃ x, r[k]? = some x ∧ x ∈ l
/-- a run of the row with no cut in it -/
structure PartG (P : Plan) (r : List Str) (lot : Nat → List Str) (over l : List Str) : Prop where
  conv : ∀ i j k, Has r l i → Has r l j → i ≤ k → k ≤ j → Has r l k
  cut : ∀ k, Has r l k → Has r l (k + 1) → lot k ≠ over
  pair : l.length ≠ 1 → ∃ p ∈ P.pairs, p.1 ∈ l ∧ p.2.1 ∈ l
theorem merge_G {P : Plan} {r : List Str} {lot : Nat → List Str} {over f g j : List Str} (hf : PartG P r lot over f) (hg : PartG P r lot over g) (dis : ∀ k, Has r f k → ¬ Has r g k) {k0 : Nat} (h1 : Has r f k0) (h2 : Has r g (k0 + 1)) (hl : lot k0 ≠ over) (hj : ∀ k, Has r j k ↔ Has r f k ∨ Has r g k)
    (hp : ∃ p ∈ P.pairs, p.1 ∈ j ∧ p.2.1 ∈ j) : PartG P r lot over j := by
  have A : ∀ i, Has r f i → i ≤ k0 := fun i hi => by
    apply Classical.byContradiction
    intro h
    exact dis (k0 + 1) (hf.conv k0 i (k0 + 1) h1 hi (by omega) (by omega)) h2
  have B : ∀ i, Has r g i → k0 + 1 ≤ i := fun i hi => by
    apply Classical.byContradiction
    intro h
    exact dis k0 h1 (hg.conv i (k0 + 1) k0 hi h2 (by omega) (by omega))
  refine ⟨fun i m k hi hm h3 h4 => ?_, fun k hk hk1 => ?_, fun _ => hp⟩
  · rw [hj] at hi hm ⊢
    rcases hi with hi | hi <;> rcases hm with hm | hm
    · exact .inl (hf.conv i m k hi hm h3 h4)
    · by_cases c : k ≤ k0
      · exact .inl (hf.conv i k0 k hi h1 h3 c)
      · exact .inr (hg.conv (k0 + 1) m k h2 hm (by omega) h4)
    · have := B i hi
      have := A m hm
      omega
    · exact .inr (hg.conv i m k hi hm h3 h4)
  · rw [hj] at hk hk1
    rcases hk with hk | hk <;> rcases hk1 with hk1 | hk1
    · exact hf.cut k hk hk1
    · have := A k hk
      have := B (k + 1) hk1
      have : k = k0 := by omega
      rw [this]; exact hl
    · have := B k hk
      have := A (k + 1) hk1
      omega
    · exact hg.cut k hk hk1
theorem single_G {P : Plan} {r : List Str} (nd : r.Nodup) {lot : Nat → List Str} {over : List Str} (x : Str) : PartG P r lot over [x] where
  conv := fun i j k ⟨a, h1, h2⟩ ⟨b, h3, h4⟩ h5 h6 => by
    rw [List.mem_singleton.mp h2] at h1
    rw [List.mem_singleton.mp h4] at h3
    have := ix_inj nd h1 h3
    have : k = i := by omega
    rw [this]
    exact ⟨x, h1, List.mem_cons_self⟩
  cut := fun k ⟨a, h1, h2⟩ ⟨b, h3, h4⟩ => by
    rw [List.mem_singleton.mp h2] at h1
    rw [List.mem_singleton.mp h4] at h3
    have := ix_inj nd h1 h3
    omega
  pair := fun h => absurd rfl h
structure PartsG (P : Plan) (r : List Str) (lot : Nat → List Str) (names over : List Str) (parts : List (List Str)) : Prop where
  part : Parted names parts
  good : ∀ l ∈ parts, PartG P r lot over l
  same : ∀ p ∈ P.pairs, p.1 ∈ names → p.2.1 ∈ names → p.2.2 ≠ over → ∃ l ∈ parts, p.1 ∈ l ∧ p.2.1 ∈ l
theorem partsBy_G {P : Plan} {r : List Str} {lot : Nat → List Str} (h : Along P r lot) {names over : List Str} (nd : names.Nodup) : PartsG P r lot names over (partsBy P names over) := by
  have hin : ∀ q ∈ cutPairs P names over, ∃ p ∈ P.pairs, q = (p.1, p.2.1) ∧ p.1 ∈ names ∧ p.2.1 ∈ names ∧ p.2.2 ≠ over := fun q hq => by
    rcases List.mem_map.mp hq with ⟨p, hp, rfl⟩
    obtain ⟨hp1, hp2⟩ := List.mem_filter.mp hp
    simp only [Bool.and_eq_true, decide_eq_true_eq, Bool.not_eq_true', decide_eq_false_iff_not] at hp2
    exact ⟨p, hp1, rfl, hp2.1, hp2.2.1, hp2.2.2⟩
  have H := hang_ok nd (G := PartG P r lot over) (cutPairs P names over) [] _ (fun q hq => by
    obtain ⟨p, _, rfl, h1, h2, _⟩ := hin q hq
    exact ⟨h1, h2⟩) (fun q hq f g j hf hg dis h1 h2 _ hj => by
    obtain ⟨p, hp, rfl, _, _, hno⟩ := hin q hq
    have hpj : ∃ p ∈ P.pairs, p.1 ∈ j ∧ p.2.1 ∈ j := ⟨p, hp, (hj _).mpr (.inl h1), (hj _).mpr (.inr h2)⟩
    obtain ⟨k, el, a⟩ := h.pr p hp
    have dis' : ∀ k, Has r f k → ¬ Has r g k := fun k ⟨x, e1, e2⟩ ⟨y, e3, e4⟩ => by
      rw [e1] at e3
      cases e3
      exact dis x e2 e4
    have hj' : ∀ k, Has r j k ↔ Has r f k ∨ Has r g k := fun k => by
      constructor
      · rintro ⟨x, e1, e2⟩
        exact ((hj x).mp e2).imp (fun z => ⟨x, e1, z⟩) fun z => ⟨x, e1, z⟩
      · rintro (⟨x, e1, e2⟩ | ⟨x, e1, e2⟩)
        · exact ⟨x, e1, (hj x).mpr (.inl e2)⟩
        · exact ⟨x, e1, (hj x).mpr (.inr e2)⟩
    rw [el] at hno
    rcases a with ⟨a1, a2⟩ | ⟨a1, a2⟩
    · exact merge_G hf hg dis' ⟨_, a1, h1⟩ ⟨_, a2, h2⟩ hno hj' hpj
    · exact merge_G hg hf (fun k z w => dis' k w z) ⟨_, a1, h2⟩ ⟨_, a2, h1⟩ hno (fun k => (hj' k).trans Or.comm) hpj) (hang_start fun x _ => single_G h.nd x)
  have pm : (partsBy P names over).Perm (hang names (cutPairs P names over)) := List.mergeSort_perm _ _
  refine ⟨⟨pm.flatten.trans H.part.perm, fun l hl => H.part.ne l (pm.mem_iff.mp hl)⟩, fun l hl => H.good l (pm.mem_iff.mp hl), fun p hp h1 h2 h3 => ?_⟩
  obtain ⟨l, hl, a, b⟩ := H.same (p.1, p.2.1) (List.mem_append_right _ (List.mem_map.mpr ⟨p, List.mem_filter.mpr ⟨hp, by simp [h1, h2, h3]⟩, rfl⟩))
  exact ⟨l, pm.mem_iff.mpr hl, a, b⟩
/-! ### the order -/
theorem idxs_one {names : List Str} {parts : List (List Str)} (h : Parted names parts) (nd : names.Nodup) {i : Nat} {l : List Str} {x : Str} (hi : parts[i]? = some l) (hx : x ∈ l) : idxs parts x = [i] := by
  obtain ⟨n1, n2, dis⟩ := flatten_disj (parted_nd h nd) h.ne
  unfold idxs
  have hn : parts.zipIdx.Nodup := by
    refine List.Pairwise.of_map (R := (· ≠ ·)) (S := (· ≠ ·)) Prod.fst (fun a b h e => h (by rw [e])) ?_
    have e : List.map Prod.fst parts.zipIdx = parts := by
      rw [List.zipIdx_map_fst]
    rw [e]
    exact n1
  rw [filter_one (b := (l, i)) hn]
  · rfl
  · rintro ⟨m, j⟩ hm
    have hm' := List.mem_zipIdx_iff_getElem?.mp hm
    constructor
    · intro z
      have := dis m (List.mem_of_getElem? hm') l (List.mem_of_getElem? hi) x (of_decide_eq_true z) hx
      subst this
      have : j = i := (List.getElem?_inj (List.getElem?_eq_some_iff.mp hm').1 n1).mp (hm'.trans hi.symm)
      rw [this]
    · intro z
      cases z
      exact decide_eq_true hx
  · exact List.mem_zipIdx_iff_getElem?.mpr hi
theorem idxs_mem {parts : List (List Str)} {x : Str} {a : Nat} {ra : List Nat} (h : idxs parts x = a :: ra) : ∃ l, parts[a]? = some l ∧ x ∈ l := by
  have : a ∈ idxs parts x := by rw [h]; exact List.mem_cons_self
  unfold idxs at this
  obtain ⟨⟨l, j⟩, hq, e⟩ := List.mem_map.mp this
  obtain ⟨h1, h2⟩ := List.mem_filter.mp hq
  have e' : j = a := e
  subst e'
  exact ⟨l, List.mem_zipIdx_iff_getElem?.mp h1, of_decide_eq_true h2⟩
theorem mem_bars {names : List Str} {parts : List (List Str)} (h : Parted names parts) (nd : names.Nodup) {ps : List (Str × Str × List Str)} {b i : Nat} : b ∈ barsL ps parts i ↔ ∃ p ∈ ps, ∃ l m, parts[b]? = some l ∧ parts[i]? = some m ∧ p.1 ∈ l ∧ p.2.1 ∈ m ∧ b ≠ i := by
  unfold barsL
  rw [List.mem_filterMap]
  constructor
  · rintro ⟨p, hp, e⟩
    refine ⟨p, hp, ?_⟩
    unfold barIn at e
    cases e1 : idxs parts p.1 with
    | nil => rw [e1] at e; cases e
    | cons a ra =>
      cases e2 : idxs parts p.2.1 with
      | nil => rw [e1, e2] at e; cases e
      | cons c rc =>
        rw [e1, e2] at e
        dsimp only at e
        obtain ⟨l, h1, h2⟩ := idxs_mem e1
        obtain ⟨m, h3, h4⟩ := idxs_mem e2
        have f1 := idxs_one h nd h1 h2
        have f2 := idxs_one h nd h3 h4
        rw [f1] at e1
        rw [f2] at e2
        rw [← e1, ← e2] at e
        by_cases c0 : [a] = [c]
        · rw [if_pos c0] at e; cases e
        · rw [if_neg c0] at e
          dsimp only at e
          by_cases c1 : c = i
          · rw [if_pos c1] at e
            cases e
            subst c1
            exact ⟨l, m, h1, h3, h2, h4, fun z => c0 (by rw [z])⟩
          · rw [if_neg c1] at e; cases e
  · rintro ⟨p, hp, l, m, h1, h3, h2, h4, hne⟩
    refine ⟨p, hp, ?_⟩
    unfold barIn
    rw [idxs_one h nd h1 h2, idxs_one h nd h3 h4]
    dsimp only
    rw [if_neg (fun z => hne (List.cons.inj z).1)]
    dsimp only
    rw [if_pos rfl]
/-- heights along the row: a cut pair leads one up -/
def upAt (P : Plan) (r : List Str) (k : Nat) : Bool := P.pairs.any fun p => decide (r[k]? = some p.1) && decide (r[k + 1]? = some p.2.1)
def hgt (P : Plan) (r : List Str) (lot : Nat → List Str) (over : List Str) : Nat → Int
  | 0 => 0
  | k + 1 => hgt P r lot over k + if lot k = over then (if upAt P r k = true then 1 else -1) else 0
theorem hgt_flat {P : Plan} {r : List Str} {lot : Nat → List Str} {over l : List Str} (g : PartG P r lot over l) : ∀ (d i : Nat), Has r l i → Has r l (i + d) → hgt P r lot over (i + d) = hgt P r lot over i
  | 0, i, _, _ => rfl
  | d + 1, i, h1, h2 => by
    have h3 := g.conv i (i + (d + 1)) (i + d) h1 h2 (by omega) (by omega)
    rw [← hgt_flat g d i h1 h3]
    show hgt P r lot over (i + d) + (if lot (i + d) = over then (if upAt P r (i + d) = true then 1 else -1) else 0) = _
    rw [if_neg (g.cut (i + d) h3 h2), Int.add_zero]
theorem hgt_part {P : Plan} {r : List Str} {lot : Nat → List Str} {over l : List Str} (g : PartG P r lot over l) {i j : Nat} (h1 : Has r l i) (h2 : Has r l j) : hgt P r lot over i = hgt P r lot over j := by
  rcases Nat.le_total i j with h | h
  · have := hgt_flat g (j - i) i h1 (by rw [show i + (j - i) = j by omega]; exact h2)
    rw [show i + (j - i) = j by omega] at this
    exact this.symm
  · have := hgt_flat g (i - j) j h2 (by rw [show j + (i - j) = i by omega]; exact h1)
    rw [show j + (i - j) = i by omega] at this
    exact this
def partH (P : Plan) (r : List Str) (lot : Nat → List Str) (over : List Str) (parts : List (List Str)) (i : Nat) : Int := hgt P r lot over (r.idxOf ((parts.getD i []).headD ⟨#[]⟩))
theorem at_idx {r : List Str} {x : Str} (h : x ∈ r) : r[r.idxOf x]? = some x := by
  rw [List.getElem?_eq_getElem (List.idxOf_lt_length_of_mem h), List.getElem_idxOf]
theorem partH_eq {P : Plan} {r : List Str} {lot : Nat → List Str} {over : List Str} {parts : List (List Str)} {i : Nat} {l : List Str} (hi : parts[i]? = some l) (g : PartG P r lot over l) (hne : l ≠ []) (hr : ∀ x ∈ l, x ∈ r) {k : Nat} (hk : Has r l k) : partH P r lot over parts i = hgt P r lot over k := by
  unfold partH
  obtain ⟨y, ys, rfl⟩ := List.exists_cons_of_ne_nil hne
  rw [List.getD_eq_getElem?_getD, hi]
  exact hgt_part g ⟨y, at_idx (hr y List.mem_cons_self), List.mem_cons_self⟩ hk
theorem bar_lower {P : Plan} {r : List Str} {lot : Nat → List Str} (h : Along P r lot) {names over : List Str} (nd : names.Nodup) (hr : ∀ x ∈ names, x ∈ r) {parts : List (List Str)} (G : PartsG P r lot names over parts) {b i : Nat} (hb : b ∈ barsL P.pairs parts i) : b < parts.length ∧ partH P r lot over parts b < partH P r lot over parts i := by
  obtain ⟨p, hp, l, m, e1, e2, h1, h2, hne⟩ := (mem_bars G.part nd).mp hb
  obtain ⟨n1, n2, dis⟩ := flatten_disj (parted_nd G.part nd) G.part.ne
  have hl := List.mem_of_getElem? e1
  have hm := List.mem_of_getElem? e2
  have hlr : ∀ x ∈ l, x ∈ r := fun x hx => hr x ((parted_in G.part).mpr ⟨l, hl, hx⟩)
  have hmr : ∀ x ∈ m, x ∈ r := fun x hx => hr x ((parted_in G.part).mpr ⟨m, hm, hx⟩)
  have eo : p.2.2 = over := by
    apply Classical.byContradiction
    intro z
    obtain ⟨s, hs, a, b'⟩ := G.same p hp ((parted_in G.part).mpr ⟨l, hl, h1⟩) ((parted_in G.part).mpr ⟨m, hm, h2⟩) z
    have w1 := dis s hs l hl _ a h1
    have w2 := dis s hs m hm _ b' h2
    have : l = m := w1.symm.trans w2
    subst this
    exact hne ((List.getElem?_inj (List.getElem?_eq_some_iff.mp e1).1 n1).mp (e1.trans e2.symm))
  refine ⟨(List.getElem?_eq_some_iff.mp e1).1, ?_⟩
  obtain ⟨k, el, a⟩ := h.pr p hp
  rw [el] at eo
  rcases a with ⟨a1, a2⟩ | ⟨a1, a2⟩
  · rw [partH_eq e1 (G.good l hl) (G.part.ne l hl) hlr ⟨_, a1, h1⟩, partH_eq e2 (G.good m hm) (G.part.ne m hm) hmr ⟨_, a2, h2⟩]
    show _ < hgt P r lot over k + _
    have : upAt P r k = true := by
      unfold upAt
      rw [List.any_eq_true]
      exact ⟨p, hp, by simp [a1, a2]⟩
    rw [if_pos eo, if_pos this]
    omega
  · rw [partH_eq e1 (G.good l hl) (G.part.ne l hl) hlr ⟨_, a2, h1⟩, partH_eq e2 (G.good m hm) (G.part.ne m hm) hmr ⟨_, a1, h2⟩]
    show hgt P r lot over k + _ < _
    have : upAt P r k = false := by
      rw [Bool.eq_false_iff]
      intro z
      unfold upAt at z
      rw [List.any_eq_true] at z
      obtain ⟨q, hq, z⟩ := z
      simp only [Bool.and_eq_true, decide_eq_true_eq] at z
      have := h.uniq p hp q hq k (.inr ⟨a1, a2⟩) (.inl z)
      subst this
      rw [a1] at z
      exact ends_ne h hp (Option.some.inj z.1).symm
    rw [if_pos eo, this, if_neg (by simp)]
    omega
theorem min_of (f : Nat → Int) : ∀ {xs : List Nat}, xs ≠ [] → ∃ i ∈ xs, ∀ j ∈ xs, f i ≤ f j
  | [], h => absurd rfl h
  | [a], _ => ⟨a, List.mem_cons_self, fun j hj => by rw [List.mem_singleton.mp hj]; exact Int.le_refl _⟩
  | a :: b :: r, _ => by
    obtain ⟨i, hi, h⟩ := min_of f (xs := b :: r) (by simp)
    by_cases c : f a ≤ f i
    · refine ⟨a, List.mem_cons_self, fun j hj => ?_⟩
      rcases List.mem_cons.mp hj with e | hj
      · rw [e]; exact Int.le_refl _
      · exact Int.le_trans c (h j hj)
    · refine ⟨i, List.mem_cons_of_mem _ hi, fun j hj => ?_⟩
      rcases List.mem_cons.mp hj with e | hj
      · rw [e]; omega
      · exact h j hj
theorem ord_ok {P : Plan} {r : List Str} {lot : Nat → List Str} (h : Along P r lot) {names over : List Str} (nd : names.Nodup) (hr : ∀ x ∈ names, x ∈ r) {parts : List (List Str)} (G : PartsG P r lot names over parts) : OrdOk P parts := fun n hn => by
  have hlen := ordN_len P.pairs parts n
  have hne : ((List.range parts.length).filter fun i => !decide (i ∈ ordN P.pairs parts n)) ≠ [] := by
    intro z
    rw [List.filter_eq_nil_iff] at z
    have : (List.range parts.length).length ≤ (ordN P.pairs parts n).length := nd_len List.nodup_range fun x hx => by
      have := z x hx
      simpa using this
    rw [List.length_range] at this
    omega
  obtain ⟨i, hi, hmin⟩ := min_of (partH P r lot over parts) hne
  obtain ⟨hi1, hi2⟩ := List.mem_filter.mp hi
  intro z
  have : i ∈ freeL P.pairs parts (ordN P.pairs parts n) := by
    unfold freeL
    refine List.mem_filter.mpr ⟨hi1, ?_⟩
    rw [Bool.and_eq_true]
    refine ⟨hi2, List.all_eq_true.mpr fun b hb => ?_⟩
    obtain ⟨hb1, hb2⟩ := bar_lower h nd hr G hb
    apply decide_eq_true
    apply Classical.byContradiction
    intro hnb
    have := hmin b (List.mem_filter.mpr ⟨List.mem_range.mpr hb1, by simp [hnb]⟩)
    omega
  rw [z] at this
  cases this
theorem ordN_step {P : Plan} {parts : List (List Str)} (ho : OrdOk P parts) {n : Nat} (hn : n < parts.length) : ∃ x, ordN P.pairs parts (n + 1) = ordN P.pairs parts n ++ [x] ∧ x < parts.length ∧ x ∉ ordN P.pairs parts n ∧ ∀ b ∈ barsL P.pairs parts x, b ∈ ordN P.pairs parts n := by
  obtain ⟨a, t, e⟩ := List.exists_cons_of_ne_nil (ho n hn)
  have ha : a ∈ freeL P.pairs parts (ordN P.pairs parts n) := by rw [e]; exact List.mem_cons_self
  obtain ⟨h1, h2⟩ := List.mem_filter.mp ha
  rw [Bool.and_eq_true, List.all_eq_true] at h2
  refine ⟨a, ?_, List.mem_range.mp h1, by simpa using h2.1, fun b hb => of_decide_eq_true (h2.2 b hb)⟩
  show _ ++ [_] = _
  rw [e]
  rfl
theorem ordN_spec {P : Plan} {parts : List (List Str)} (ho : OrdOk P parts) : ∀ n, n ≤ parts.length → (ordN P.pairs parts n).Nodup ∧ (∀ i ∈ ordN P.pairs parts n, i < parts.length) ∧ ∀ i ∈ ordN P.pairs parts n, ∀ b ∈ barsL P.pairs parts i, [b, i].Sublist (ordN P.pairs parts n)
  | 0, _ => ⟨.nil, ⟨fun i h => (List.not_mem_nil h).elim, fun i h => (List.not_mem_nil h).elim⟩⟩
  | n + 1, hn => by
    obtain ⟨i1, i2, i3⟩ := ordN_spec ho n (by omega)
    obtain ⟨x, e, h1, h2, h3⟩ := ordN_step ho (n := n) (by omega)
    rw [e]
    refine ⟨List.nodup_append.mpr ⟨i1, by simp, fun a ha b hb z => h2 (by rw [← List.mem_singleton.mp hb, ← z]; exact ha)⟩, fun i hi => ?_, fun i hi b hb => ?_⟩
    · rcases List.mem_append.mp hi with hi | hi
      · exact i2 i hi
      · rw [List.mem_singleton.mp hi]; exact h1
    · rcases List.mem_append.mp hi with hi | hi
      · exact (i3 i hi b hb).trans (List.sublist_append_left _ _)
      · rw [List.mem_singleton.mp hi] at hb ⊢
        exact (List.singleton_sublist.mpr (h3 b hb)).append (List.Sublist.refl [x])
theorem inOrder_spec {P : Plan} {parts : List (List Str)} (ho : OrdOk P parts) : (inOrder P parts).Perm parts ∧ ∀ b i l m, parts[b]? = some l → parts[i]? = some m → b ∈ barsL P.pairs parts i → [l, m].Sublist (inOrder P parts) := by
  obtain ⟨h1, h2, h3⟩ := ordN_spec ho parts.length (Nat.le_refl _)
  have hl := ordN_len P.pairs parts parts.length
  have pm : (ordN P.pairs parts parts.length).Perm (List.range parts.length) := by
    refine (nd_perm (fun i hi => ?_) h1 (by rw [List.length_range, hl])).symm
    exact List.mem_range.mpr (h2 i hi)
  refine ⟨?_, fun b i l m e1 e2 hb => ?_⟩
  · unfold inOrder
    refine (pm.map _).trans ?_
    have : (List.range parts.length).map (fun i => parts.getD i []) = parts := by
      apply List.ext_getElem
      · rewrite [List.length_map]; rw [List.length_range]
      · intro i a b
        rw [List.getElem_map, List.getElem_range, List.getD_eq_getElem?_getD, List.getElem?_eq_getElem b]
        rfl
    rw [this]
  · have hi : i ∈ ordN P.pairs parts parts.length := pm.mem_iff.mpr (List.mem_range.mpr (List.getElem?_eq_some_iff.mp e2).1)
    have := (h3 i hi b hb).map fun i => parts.getD i []
    simp only [List.map_cons, List.map_nil, List.getD_eq_getElem?_getD, e1, e2, Option.getD_some] at this
    exact this
end KL
/-! M5: rows of trees; opened loops. -/
namespace KL
open PySem PySem.Spec L2
def wrapAs : Nat → List Str → Rw → Rw
  | _, [], r => r
  | n, a :: as, r => under n a (wrapAs 0 as r)
theorem rows_one (n : Nat) (k : Knot) : rowsT n [k] = rowK n k := by
  show rowK n k ++ rowsT (n + 1) [] = _
  exact List.append_nil _
theorem wrap_rows0 (ks : List Knot) : ∀ as : List Str, rowsT 0 (openT as ks) = (rowsT 0 ks).map (wrapAs 0 as)
  | [] => (List.map_id' _).symm
  | a :: as => by
    show rowsT 0 [Knot.loop a (openT as ks)] = _
    rw [rows_one]
    show (rowsT 0 (openT as ks)).map (under 0 a) = _
    rw [wrap_rows0 ks as, List.map_map]
    rfl
theorem wrap_rows (n : Nat) (ks : List Knot) (a : Str) (as : List Str) : rowsT n (openT (a :: as) ks) = (rowsT 0 ks).map (wrapAs n (a :: as)) := by
  show rowsT n [Knot.loop a (openT as ks)] = _
  rw [rows_one]
  show (rowsT 0 (openT as ks)).map (under n a) = _
  rw [wrap_rows0 ks as, List.map_map]
  rfl
theorem wrap_name (r : Rw) : ∀ (as : List Str) (n : Nat), (wrapAs n as r).name = r.name
  | [], _ => rfl
  | a :: as, n => wrap_name r as 0
theorem wrap_axes (r : Rw) : ∀ (as : List Str) (n : Nat), (wrapAs n as r).axes = as ++ r.axes
  | [], _ => rfl
  | a :: as, n => congrArg (a :: ·) (wrap_axes r as 0)
theorem wrap_place {r : Rw} (h : r.place ≠ []) : ∀ (as : List Str) (n : Nat), (wrapAs n as r).place ≠ []
  | [], _ => h
  | a :: as, n => List.cons_ne_nil _ _
theorem share_under {x y : Rw} (hx : x.place ≠ []) (hy : y.place ≠ []) (n : Nat) (a : Str) : shareOf (under n a x) (under n a y) = a :: shareOf x y := by
  unfold shareOf under
  dsimp only
  rw [List.dropLast_cons_of_ne_nil hx, List.dropLast_cons_of_ne_nil hy]
  show (a :: x.axes).take (if n = n then common _ _ + 1 else 0) = _
  rw [if_pos rfl, List.take_succ_cons]
theorem share_wrap {x y : Rw} (hx : x.place ≠ []) (hy : y.place ≠ []) : ∀ (as : List Str) (n : Nat), shareOf (wrapAs n as x) (wrapAs n as y) = as ++ shareOf x y
  | [], _ => rfl
  | a :: as, n => by
    show shareOf (under n a (wrapAs 0 as x)) (under n a (wrapAs 0 as y)) = _
    rw [share_under (wrap_place hx as 0) (wrap_place hy as 0), share_wrap hx hy as 0]
    rfl
theorem row_head : ∀ (k : Knot) (n : Nat), ∀ r ∈ rowK n k, ∃ t, r.place = n :: t
  | .add x, n, r, h => by
    rw [List.mem_singleton.mp (show r ∈ [_] from h)]
    exact ⟨[], rfl⟩
  | .loop a ks, n, r, h => by
    obtain ⟨q, hq, rfl⟩ := List.mem_map.mp (show r ∈ (rowsT 0 ks).map (under n a) from h)
    exact ⟨q.place, rfl⟩
theorem rows_head : ∀ (ks : List Knot) (n : Nat), ∀ r ∈ rowsT n ks, ∃ j t, n ≤ j ∧ r.place = j :: t
  | [], n, r, h => nomatch h
  | k :: ks, n, r, h => by
    rcases List.mem_append.mp (show r ∈ rowK n k ++ rowsT (n + 1) ks from h) with h | h
    · obtain ⟨t, e⟩ := row_head k n r h
      exact ⟨n, t, Nat.le_refl _, e⟩
    · obtain ⟨j, t, hj, e⟩ := rows_head ks (n + 1) r h
      exact ⟨j, t, by omega, e⟩
theorem rows_place {ks : List Knot} {n : Nat} {r : Rw} (h : r ∈ rowsT n ks) : r.place ≠ [] := by
  obtain ⟨j, t, _, e⟩ := rows_head ks n r h
  rw [e]
  exact List.cons_ne_nil _ _
theorem share_far {x y : Rw} {i j : Nat} {s t : List Nat} (hx : x.place = i :: s) (hy : y.place = j :: t) (h : i ≠ j) : shareOf x y = [] := by
  unfold shareOf
  rw [hx, hy]
  have : common (i :: s).dropLast (j :: t).dropLast = 0 := by
    cases s with
    | nil => rfl
    | cons a s =>
      cases t with
      | nil => rfl
      | cons b t =>
        rw [List.dropLast_cons_of_ne_nil (List.cons_ne_nil _ _), List.dropLast_cons_of_ne_nil (List.cons_ne_nil _ _)]
        show (if i = j then _ else 0) = 0
        rw [if_neg h]
  rw [this]
  rfl
/-! a list of knots, one a part -/
theorem rows_part {α : Type} {kn : α → Knot} {nm : α → List Str} : ∀ {L : List α} {n : Nat}, (∀ l ∈ L, ∀ n, ∀ x ∈ nm l, ∃ r ∈ rowK n (kn l), r.name = x) → ∀ l ∈ L, ∀ x ∈ nm l, ∃ r ∈ rowsT n (L.map kn), r.name = x
  | a :: L, n, h, l, hl, x, hx => by
    show ∃ r ∈ rowK n (kn a) ++ rowsT (n + 1) (L.map kn), r.name = x
    rcases List.mem_cons.mp hl with e | hl
    · subst e
      obtain ⟨r, hr, e⟩ := h l List.mem_cons_self n x hx
      exact ⟨r, List.mem_append_left _ hr, e⟩
    · obtain ⟨r, hr, e⟩ := rows_part (n := n + 1) (fun l hl => h l (List.mem_cons_of_mem _ hl)) l hl x hx
      exact ⟨r, List.mem_append_right _ hr, e⟩
theorem rows_apart {α : Type} {kn : α → Knot} {nm : α → List Str} {l m : α} {x y : Str} (hx : x ∈ nm l) (hy : y ∈ nm m) : ∀ {L : List α} {n : Nat}, (∀ l ∈ L, ∀ n, ∀ x ∈ nm l, ∃ r ∈ rowK n (kn l), r.name = x) → [l, m].Sublist L → ∃ a b, [a, b].Sublist (rowsT n (L.map kn)) ∧ a.name = x ∧ b.name = y ∧ shareOf a b = []
  | [], n, h, s => by cases s
  | c :: L, n, h, s => by
    show ∃ a b, [a, b].Sublist (rowK n (kn c) ++ rowsT (n + 1) (L.map kn)) ∧ _
    cases s with
    | cons _ s =>
      obtain ⟨a, b, s', e⟩ := rows_apart (n := n + 1) hx hy (fun l hl => h l (List.mem_cons_of_mem _ hl)) s
      exact ⟨a, b, s'.trans (List.sublist_append_right _ _), e⟩
    | cons_cons _ s =>
      obtain ⟨a, ha, ea⟩ := h l List.mem_cons_self n x hx
      obtain ⟨b, hb, eb⟩ := rows_part (n := n + 1) (fun l hl => h l (List.mem_cons_of_mem _ hl)) m (List.singleton_sublist.mp s) y hy
      refine ⟨a, b, (List.singleton_sublist.mpr ha).append (List.singleton_sublist.mpr hb), ea, eb, ?_⟩
      obtain ⟨t, e1⟩ := row_head _ _ a ha
      obtain ⟨j, u, hj, e2⟩ := rows_head _ _ b hb
      exact share_far e1 e2 (by omega)
theorem rows_within {α : Type} {kn : α → Knot} {Q : Rw → Rw → Prop} {l : α} (q : ∀ n, ∃ a b, [a, b].Sublist (rowK n (kn l)) ∧ Q a b) : ∀ {L : List α} {n : Nat}, l ∈ L → ∃ a b, [a, b].Sublist (rowsT n (L.map kn)) ∧ Q a b
  | c :: L, n, h => by
    show ∃ a b, [a, b].Sublist (rowK n (kn c) ++ rowsT (n + 1) (L.map kn)) ∧ _
    obtain e | h := List.mem_cons.mp h
    · subst e
      obtain ⟨a, b, s, e⟩ := q n
      exact ⟨a, b, s.trans (List.sublist_append_left _ _), e⟩
    · obtain ⟨a, b, s, e⟩ := rows_within (n := n + 1) q h
      exact ⟨a, b, s.trans (List.sublist_append_right _ _), e⟩
theorem rows_names {α : Type} {kn : α → Knot} {nm : α → List Str} : ∀ {L : List α} {n : Nat}, (∀ l ∈ L, ∀ n, ((rowK n (kn l)).map (·.name)).Perm (nm l)) → ((rowsT n (L.map kn)).map (·.name)).Perm (L.flatMap nm)
  | [], n, h => .nil
  | c :: L, n, h => by
    show ((rowK n (kn c) ++ rowsT (n + 1) (L.map kn)).map (·.name)).Perm (nm c ++ L.flatMap nm)
    rw [List.map_append]
    exact (h c List.mem_cons_self n).append (rows_names fun l hl => h l (List.mem_cons_of_mem _ hl))
theorem rows_all {α : Type} {kn : α → Knot} {Q : Rw → Prop} : ∀ {L : List α} {n : Nat}, (∀ l ∈ L, ∀ n, ∀ r ∈ rowK n (kn l), Q r) → ∀ r ∈ rowsT n (L.map kn), Q r
  | [], n, _, r, h => nomatch h
  | c :: L, n, q, r, h => by
    rcases List.mem_append.mp (show r ∈ rowK n (kn c) ++ rowsT (n + 1) (L.map kn) from h) with h | h
    · exact q c List.mem_cons_self n r h
    · exact rows_all (fun l hl => q l (List.mem_cons_of_mem _ hl)) r h
theorem hKs_map {α : Type} {kn : α → Knot} {m : Nat} : ∀ {L : List α}, (∀ l ∈ L, hK (kn l) ≤ m) → hKs (L.map kn) ≤ m
  | [], _ => Nat.zero_le _
  | c :: L, h => by
    show max (hK (kn c)) (hKs (L.map kn)) ≤ m
    exact Nat.max_le.mpr ⟨h c List.mem_cons_self, hKs_map fun l hl => h l (List.mem_cons_of_mem _ hl)⟩
theorem KnsOk_map {α : Type} {kn : α → Knot} {axes leaves over : List Str} : ∀ {L : List α}, (∀ l ∈ L, KnOk axes leaves over (kn l)) → KnsOk axes leaves over (L.map kn)
  | [], _ => trivial
  | c :: L, h => ⟨h c List.mem_cons_self, KnsOk_map fun l hl => h l (List.mem_cons_of_mem _ hl)⟩
theorem hKs_one (k : Knot) : hKs [k] = hK k := by
  show max (hK k) 0 = _
  omega
theorem hK_open (ks : List Knot) : ∀ as : List Str, hKs (openT as ks) = as.length + hKs ks
  | [] => by
    show hKs ks = 0 + hKs ks
    omega
  | a :: as => by
    show hKs [Knot.loop a (openT as ks)] = as.length + 1 + hKs ks
    rw [hKs_one]
    show hKs (openT as ks) + 1 = _
    rw [hK_open ks as]
    omega
theorem open_ok {axes leaves : List Str} {ks : List Knot} (hne : ks ≠ []) : ∀ (as over : List Str), (∀ a ∈ as, a ∈ axes ∧ a ∉ over) → as.Nodup → KnsOk axes leaves (over ++ as) ks → KnsOk axes leaves over (openT as ks) ∧ openT as ks ≠ []
  | [], over, _, _, h => by
    rw [List.append_nil] at h
    exact ⟨h, hne⟩
  | a :: as, over, h, nd, hk => by
    rcases List.nodup_cons.mp nd with ⟨n1, n2⟩
    have e : over ++ a :: as = (over ++ [a]) ++ as := by simp
    rw [e] at hk
    obtain ⟨i1, i2⟩ := open_ok hne as (over ++ [a]) (fun b hb => ⟨(h b (List.mem_cons_of_mem _ hb)).1, fun z => by
      rcases List.mem_append.mp z with z | z
      · exact (h b (List.mem_cons_of_mem _ hb)).2 z
      · rw [List.mem_singleton.mp z] at hb
        exact n1 hb⟩) n2 hk
    obtain ⟨h1, h2⟩ := h a List.mem_cons_self
    exact ⟨⟨⟨h1, h2, i2, i1⟩, trivial⟩, List.cons_ne_nil _ _⟩
end KL
/-! M6: the tree that is laid for a chain of lots. -/
namespace KL
open PySem PySem.Spec L2
structure Chain (P : Plan) (r : List Str) (lot : Nat → List Str) (X : List Str) : Prop where
  al : Along P r lot
  ok : P.Ok
  cx : Canon X
  cl : ∀ k, k + 1 < r.length → Canon (lot k)
  sub : ∀ k, k + 1 < r.length → ∀ x ∈ lot k, x ∈ X
  ch : ∀ j k, j + 1 < r.length → k + 1 < r.length → Nest (lot j) (lot k)
  ax : ∀ s ∈ P.steps, s.2 = X
  emp : ("" : Str) ∉ namesOf P
section
variable {P : Plan} {r : List Str} {lot : Nat → List Str} {X AX : List Str}
theorem Chain.pc (C : Chain P r lot X) {p : Str × Str × List Str} (hp : p ∈ P.pairs) : Canon p.2.2 ∧ ∀ x ∈ p.2.2, x ∈ X := by
  obtain ⟨k, e, a⟩ := C.al.pr p hp
  rw [e]
  exact ⟨C.cl k a.lt, C.sub k a.lt⟩
theorem Chain.pn (C : Chain P r lot X) {p q : Str × Str × List Str} (hp : p ∈ P.pairs) (hq : q ∈ P.pairs) : Nest p.2.2 q.2.2 := by
  obtain ⟨k, e, a⟩ := C.al.pr p hp
  obtain ⟨j, e2, b⟩ := C.al.pr q hq
  rw [e, e2]
  exact C.ch k j a.lt b.lt
theorem list_min : ∀ {ls : List (List Str)}, ls ≠ [] → (∀ a ∈ ls, ∀ b ∈ ls, Nest a b) → ∃ m ∈ ls, ∀ q ∈ ls, ∀ x ∈ m, x ∈ q
  | [], h, _ => absurd rfl h
  | [a], _, _ => ⟨a, List.mem_cons_self, fun q hq x hx => by rw [List.mem_singleton.mp hq]; exact hx⟩
  | a :: b :: t, _, h => by
    obtain ⟨m, hm, hq⟩ := list_min (ls := b :: t) (by simp) fun x hx y hy => h x (List.mem_cons_of_mem _ hx) y (List.mem_cons_of_mem _ hy)
    rcases h a List.mem_cons_self m (List.mem_cons_of_mem _ hm) with z | z
    · refine ⟨a, List.mem_cons_self, fun q hq' x hx => ?_⟩
      rcases List.mem_cons.mp hq' with e | hq'
      · rw [e]; exact hx
      · exact hq q hq' x (z x hx)
    · refine ⟨m, List.mem_cons_of_mem _ hm, fun q hq' x hx => ?_⟩
      rcases List.mem_cons.mp hq' with e | hq'
      · rw [e]; exact z x hx
      · exact hq q hq' x hx
theorem mem_rowsOf {part q : List Str} : q ∈ rowsOf P part ↔ ∃ p ∈ P.pairs, p.1 ∈ part ∧ p.2.1 ∈ part ∧ p.2.2 = q := by
  unfold rowsOf
  rw [List.mem_map]
  constructor
  · rintro ⟨p, hp, e⟩
    obtain ⟨h1, h2⟩ := List.mem_filter.mp hp
    rw [Bool.and_eq_true, decide_eq_true_eq, decide_eq_true_eq] at h2
    exact ⟨p, h1, h2.1, h2.2, e⟩
  · rintro ⟨p, h1, h2, h3, e⟩
    exact ⟨p, List.mem_filter.mpr ⟨h1, by simp [h2, h3]⟩, e⟩
theorem least_share (C : Chain P r lot X) {part : List Str} (h : ∃ p ∈ P.pairs, p.1 ∈ part ∧ p.2.1 ∈ part) : rowsOf P part ≠ [] ∧ ∃ p ∈ P.pairs, p.1 ∈ part ∧ p.2.1 ∈ part ∧ leastShare P part = p.2.2 ∧ ∀ q ∈ P.pairs, q.1 ∈ part → q.2.1 ∈ part → ∀ x ∈ p.2.2, x ∈ q.2.2 := by
  have hne : rowsOf P part ≠ [] := by
    obtain ⟨p, h1, h2, h3⟩ := h
    intro e
    have := mem_rowsOf.mpr ⟨p, h1, h2, h3, rfl⟩
    rw [e] at this
    cases this
  refine ⟨hne, ?_⟩
  have hn : ∀ a ∈ rowsOf P part, ∀ b ∈ rowsOf P part, Nest a b := fun a ha b hb => by
    obtain ⟨p, h1, _, _, e1⟩ := mem_rowsOf.mp ha
    obtain ⟨q, h2, _, _, e2⟩ := mem_rowsOf.mp hb
    rw [← e1, ← e2]
    exact C.pn h1 h2
  have hcan : ∀ a ∈ rowsOf P part, Canon a := fun a ha => by
    obtain ⟨p, h1, _, _, e1⟩ := mem_rowsOf.mp ha
    rw [← e1]
    exact (C.pc h1).1
  obtain ⟨m, hm, hq⟩ := list_min hne hn
  obtain ⟨p, h1, h2, h3, e⟩ := mem_rowsOf.mp hm
  refine ⟨p, h1, h2, h3, ?_, fun q hq1 hq2 hq3 x hx => hq q.2.2 (mem_rowsOf.mpr ⟨q, hq1, hq2, hq3, rfl⟩) x (e ▸ hx)⟩
  rw [e]
  have hshare : ∃ c, leastShare P part = c ∧ Canon c ∧ ∀ x, x ∈ c ↔ ∀ q ∈ rowsOf P part, x ∈ q := by
    refine ⟨_, rfl, ?_⟩
    unfold leastShare
    cases er : rowsOf P part with
    | nil => exact absurd er hne
    | cons a t =>
      rw [er] at hcan
      refine ⟨(hcan a List.mem_cons_self).filter _, fun x => ?_⟩
      show x ∈ a.filter _ ↔ _
      rw [List.mem_filter, List.all_eq_true]
      exact ⟨fun ⟨_, h⟩ q hq => of_decide_eq_true (h q hq), fun h => ⟨h a List.mem_cons_self, fun q hq => decide_eq_true (h q hq)⟩⟩
  obtain ⟨c, ec, cc, hc⟩ := hshare
  rw [ec]
  exact canon_eq cc (hcan m hm) fun x => by
    rw [hc]
    exact ⟨fun h => h m hm, fun h q hq' => hq q hq' x h⟩
theorem sort_canon {c xs : List Str} (h : Canon c) (p : xs.Perm c) : sortS xs = c := sorted_eq (sortS_sorted xs) h.1 ((List.mergeSort_perm _ _).trans p)
structure Level (P : Plan) (X names over O : List Str) : Prop where
  nd : names.Nodup
  sub : ∀ x ∈ names, x ∈ namesOf P
  cov : Canon over
  ox : ∀ x ∈ over, x ∈ X
  ov : ∀ p ∈ P.pairs, p.1 ∈ names → p.2.1 ∈ names → ∀ x ∈ over, x ∈ p.2.2
  ond : O.Nodup
  om : ∀ x, x ∈ O ↔ x ∈ over
structure Laid (P : Plan) (X AX : List Str) (n : Nat) (names over O : List Str) : Prop where
  lo : LaidOk P n names over
  hk : hKs (laidT P n names over) + over.length ≤ X.length
  kn : KnsOk AX (namesOf P) O (laidT P n names over)
  nm : ((rowsT 0 (laidT P n names over)).map (·.name)).Perm names
  ax : ∀ q ∈ rowsT 0 (laidT P n names over), sortS (O ++ q.axes) = X
  sh : ∀ p ∈ P.pairs, p.1 ∈ names → p.2.1 ∈ names → ∃ a b, [a, b].Sublist (rowsT 0 (laidT P n names over)) ∧ a.name = p.1 ∧ b.name = p.2.1 ∧ sortS (O ++ shareOf a b) = p.2.2
  ne : laidT P n names over ≠ []
structure PartKn (P : Plan) (X AX : List Str) (n : Nat) (over O l : List Str) (k : Knot) : Prop where
  eq : partT P (laidT P n) over l = [k]
  pok : PartOk P (LaidOk P n) l
  hk : hK k + over.length ≤ X.length
  kn : KnOk AX (namesOf P) O k
  nm : ∀ i, ((rowK i k).map (·.name)).Perm l
  ax : ∀ i, ∀ q ∈ rowK i k, sortS (O ++ q.axes) = X
  sh : ∀ p ∈ P.pairs, p.1 ∈ l → p.2.1 ∈ l → ∀ i, ∃ a b, [a, b].Sublist (rowK i k) ∧ a.name = p.1 ∧ b.name = p.2.1 ∧ sortS (O ++ shareOf a b) = p.2.2
theorem open_kn {n : Nat} {over O l as : List Str} {inner : List Knot} (hpart : partT P (laidT P n) over l = openT as inner) (pok : PartOk P (LaidOk P n) l) (hne : as ≠ []) (nd : as.Nodup) (hin : inner ≠ []) (ha : ∀ a ∈ as, a ∈ AX ∧ a ∉ O) (hk : hKs inner + as.length + over.length ≤ X.length)
    (kn : KnsOk AX (namesOf P) (O ++ as) inner) (nm : ((rowsT 0 inner).map (·.name)).Perm l) (ax : ∀ q ∈ rowsT 0 inner, sortS ((O ++ as) ++ q.axes) = X)
    (sh : ∀ p ∈ P.pairs, p.1 ∈ l → p.2.1 ∈ l → ∃ a b, [a, b].Sublist (rowsT 0 inner) ∧ a.name = p.1 ∧ b.name = p.2.1 ∧ sortS ((O ++ as) ++ shareOf a b) = p.2.2) : ∃ k, PartKn P X AX n over O l k := by
  obtain ⟨a, as', rfl⟩ := List.exists_cons_of_ne_nil hne
  have ek : openT (a :: as') inner = [Knot.loop a (openT as' inner)] := rfl
  have rk : ∀ i, rowK i (Knot.loop a (openT as' inner)) = (rowsT 0 inner).map (wrapAs i (a :: as')) := fun i => by
    rw [← rows_one, ← ek, wrap_rows]
  refine ⟨Knot.loop a (openT as' inner), hpart.trans ek, pok, ?_, ?_, fun i => ?_, fun i q hq => ?_, fun p hp h1 h2 i => ?_⟩
  · rw [← hKs_one, ← ek, hK_open]
    omega
  · have := (open_ok hin (a :: as') O ha nd kn).1
    rw [ek] at this
    exact this.1
  · rw [rk, List.map_map]
    have : ((fun q : Rw => q.name) ∘ wrapAs i (a :: as')) = fun q => q.name := by
      funext q
      exact wrap_name q _ _
    rw [this]
    exact nm
  · rw [rk] at hq
    obtain ⟨q0, h0, rfl⟩ := List.mem_map.mp hq
    rw [wrap_axes, ← List.append_assoc]
    exact ax q0 h0
  · obtain ⟨u, v, s, e1, e2, e3⟩ := sh p hp h1 h2
    refine ⟨wrapAs i (a :: as') u, wrapAs i (a :: as') v, ?_, by rw [wrap_name]; exact e1, by rw [wrap_name]; exact e2, ?_⟩
    · rw [rk]
      exact s.map _
    · have hu : u ∈ rowsT 0 inner := s.subset List.mem_cons_self
      have hv : v ∈ rowsT 0 inner := s.subset (List.mem_cons_of_mem _ List.mem_cons_self)
      rw [share_wrap (rows_place hu) (rows_place hv), ← List.append_assoc]
      exact e3
theorem step_ax (C : Chain P r lot X) {x : Str} (h : x ∈ namesOf P) : stepAxes P x = X := by
  obtain ⟨s, hs, rfl⟩ := List.mem_map.mp h
  rw [stepAxes_of C.ok hs, C.ax s hs]
theorem off_len {m over as : List Str} (cm : m.Nodup) (co : over.Nodup) (h : ∀ x ∈ over, x ∈ m) (e : as = m.filter fun a => !decide (a ∈ over)) : as.length + over.length ≤ m.length := by
  have : (as ++ over).Nodup := by
    refine List.nodup_append.mpr ⟨by rw [e]; exact cm.filter _, co, fun a ha b hb z => ?_⟩
    rw [e] at ha
    have := (List.mem_filter.mp ha).2
    rw [z] at this
    simp [hb] at this
  have := nd_len this (ys := m) fun x hx => by
    obtain hx | hx := List.mem_append.mp hx
    · rw [e] at hx; exact (List.mem_filter.mp hx).1
    · exact h x hx
  rw [List.length_append] at this
  exact this
/-- the loops opened anew and those opened before are the lot m -/
theorem off_perm {m over as O : List Str} (cm : m.Nodup) (h : ∀ x ∈ over, x ∈ m) (ond : O.Nodup) (om : ∀ x, x ∈ O ↔ x ∈ over) (e : as = m.filter fun a => !decide (a ∈ over)) : (O ++ as).Nodup ∧ ∀ x, x ∈ O ++ as ↔ x ∈ m := by
  have ha : ∀ x, x ∈ as ↔ x ∈ m ∧ x ∉ over := fun x => by
    rw [e, List.mem_filter]
    simp
  refine ⟨List.nodup_append.mpr ⟨ond, by rw [e]; exact cm.filter _, fun a h1 b h2 z => ((ha b).mp h2).2 (z ▸ (om a).mp h1)⟩, fun x => ?_⟩
  rw [List.mem_append, om, ha]
  constructor
  · rintro (z | z)
    · exact h x z
    · exact z.1
  · intro z
    by_cases c : x ∈ over
    · exact .inl c
    · exact .inr ⟨z, c⟩
theorem parts_len : ∀ {parts : List (List Str)}, (∀ l ∈ parts, l ≠ []) → parts.length ≤ parts.flatten.length
  | [], _ => Nat.le_refl _
  | a :: t, h => by
    have := parts_len fun l hl => h l (List.mem_cons_of_mem _ hl)
    have h1 := List.length_pos_iff.mpr (h a List.mem_cons_self)
    rw [List.flatten_cons, List.length_append, List.length_cons]
    omega
theorem part_kn (C : Chain P r lot X) (hAX : ∀ x ∈ X, x ∈ AX) {n : Nat} (ih : ∀ m names over O, m + 1 = n → Level P X names over O → names ≠ [] → (∀ l ∈ partsBy P names over, l.length ≤ m) → Laid P X AX (m + 1) names over O) {names over O : List Str} (lv : Level P X names over O) {l : List Str} (hl : l ∈ partsBy P names over) (hln : l.length ≤ n) : ∃ k, PartKn P X AX n over O l k := by
  have G := partsBy_G C.al (over := over) lv.nd
  obtain ⟨n1, n2, dis⟩ := flatten_disj (parted_nd G.part lv.nd) G.part.ne
  have lne := G.part.ne l hl
  have lnd := n2 l hl
  have lsub : ∀ x ∈ l, x ∈ names := fun x hx => (parted_in G.part).mpr ⟨l, hl, hx⟩
  by_cases c : l.length = 1
  · obtain ⟨x, rfl⟩ := List.length_eq_one_iff.mp c
    have hx : x ∈ namesOf P := lv.sub x (lsub x List.mem_cons_self)
    have ef : axesFor P [x] = X := by
      show stepAxes P x = X
      exact step_ax C hx
    have hpart : partT P (laidT P n) over [x] = openT (X.filter fun a => !decide (a ∈ over)) [.add x] := by
      unfold partT
      rw [ef]
      rfl
    have pok : PartOk P (LaidOk P n) [x] := ⟨List.cons_ne_nil _ _, fun _ => hx, fun z => absurd c z⟩
    have hol := off_len C.cx.2 lv.cov.2 lv.ox rfl
    obtain ⟨op1, op2⟩ := off_perm C.cx.2 lv.ox lv.ond lv.om rfl
    have opx : (O ++ X.filter fun a => !decide (a ∈ over)).Perm X := (List.perm_ext_iff_of_nodup op1 C.cx.2).mpr op2
    have nosh : ∀ p ∈ P.pairs, p.1 ∈ [x] → p.2.1 ∈ [x] → False := fun p hp h1 h2 => ends_ne C.al hp ((List.mem_singleton.mp h1).trans (List.mem_singleton.mp h2).symm)
    generalize eas : (X.filter fun a => !decide (a ∈ over)) = as at *
    by_cases ca : as = []
    · subst ca
      refine ⟨.add x, hpart, pok, ?_, hx, fun i => .refl _, fun i q hq => ?_, fun p hp h1 h2 => (nosh p hp h1 h2).elim⟩
      · show 0 + over.length ≤ _
        simpa using hol
      · rw [List.mem_singleton.mp (show q ∈ [_] from hq)]
        exact sort_canon C.cx opx
    · refine open_kn hpart pok ca (by rw [← eas]; exact C.cx.2.filter _) (List.cons_ne_nil _ _) (fun a ha => ?_) ?_ ⟨hx, trivial⟩ (.refl _) (fun q hq => ?_) fun p hp h1 h2 => (nosh p hp h1 h2).elim
      · rw [← eas] at ha
        obtain ⟨h1, h2⟩ := List.mem_filter.mp ha
        exact ⟨hAX a h1, fun z => by
          rw [lv.om] at z
          simp [z] at h2⟩
      · show 0 + _ + _ ≤ _
        omega
      · rw [List.mem_singleton.mp (show q ∈ [_] from hq)]
        refine sort_canon C.cx ?_
        show ((O ++ as) ++ []).Perm X
        rw [List.append_nil]
        exact opx
  · obtain ⟨hrows, p0, hp0, a1, a2, em, hmin⟩ := least_share C ((G.good l hl).pair c)
    obtain ⟨k0, el0, at0⟩ := C.al.pr p0 hp0
    have hno : p0.2.2 ≠ over := by
      rw [el0]
      refine (G.good l hl).cut k0 ?_ ?_ <;> rcases at0 with ⟨z1, z2⟩ | ⟨z1, z2⟩
      · exact ⟨_, z1, a1⟩
      · exact ⟨_, z1, a2⟩
      · exact ⟨_, z2, a2⟩
      · exact ⟨_, z2, a1⟩
    obtain ⟨cm, mx⟩ := C.pc hp0
    have hov := lv.ov p0 hp0 (lsub _ a1) (lsub _ a2)
    have ef : axesFor P l = p0.2.2 := by
      unfold axesFor
      rw [if_neg c, em]
    have hpart : partT P (laidT P n) over l = openT (p0.2.2.filter fun a => !decide (a ∈ over)) (laidT P n l p0.2.2) := by
      unfold partT
      rw [ef, if_neg c]
    have hol := off_len cm.2 lv.cov.2 hov rfl
    obtain ⟨op1, op2⟩ := off_perm cm.2 hov lv.ond lv.om rfl
    have ca : (p0.2.2.filter fun a => !decide (a ∈ over)) ≠ [] := by
      intro z
      rw [List.filter_eq_nil_iff] at z
      exact hno (canon_eq cm lv.cov fun x => ⟨fun hx => by simpa using z x hx, fun hx => hov x hx⟩)
    have eas : ∀ a, a ∈ (p0.2.2.filter fun a => !decide (a ∈ over)) → a ∈ p0.2.2 ∧ a ∉ over := fun a ha => by
      obtain ⟨h1, h2⟩ := List.mem_filter.mp ha
      exact ⟨h1, by simpa using h2⟩
    have hasn : (p0.2.2.filter fun a => !decide (a ∈ over)).Nodup := cm.2.filter _
    generalize (p0.2.2.filter fun a => !decide (a ∈ over)) = as at *
    have lvl : Level P X l p0.2.2 (O ++ as) := ⟨lnd, fun x hx => lv.sub x (lsub x hx), cm, mx, hmin, op1, op2⟩
    have l2 : 2 ≤ l.length := by
      have := List.length_pos_iff.mpr lne
      omega
    obtain ⟨m, rfl⟩ : ∃ j, n = j + 1 := ⟨n - 1, by omega⟩
    have hsm : ∀ l' ∈ partsBy P l p0.2.2, l'.length ≤ m := fun l' hl' => by
      have G' := partsBy_G C.al (over := p0.2.2) lnd
      obtain ⟨_, m2, _⟩ := flatten_disj (parted_nd G'.part lnd) G'.part.ne
      have sub' : ∀ x ∈ l', x ∈ l := fun x hx => (parted_in G'.part).mpr ⟨l', hl', hx⟩
      have hout : ∃ x ∈ l, x ∉ l' := by
        apply Classical.byContradiction
        intro z
        have all : ∀ x ∈ l, x ∈ l' := fun x hx => Classical.byContradiction fun w => z ⟨x, hx, w⟩
        have := (G'.good l' hl').cut k0
        refine this ?_ ?_ el0.symm <;> rcases at0 with ⟨z1, z2⟩ | ⟨z1, z2⟩
        · exact ⟨_, z1, all _ a1⟩
        · exact ⟨_, z1, all _ a2⟩
        · exact ⟨_, z2, all _ a2⟩
        · exact ⟨_, z2, all _ a1⟩
      obtain ⟨x, hx, hx'⟩ := hout
      have := nd_len (xs := x :: l') (ys := l) (List.nodup_cons.mpr ⟨hx', m2 l' hl'⟩) fun y hy => by
        obtain e | hy := List.mem_cons.mp hy
        · rw [e]; exact hx
        · exact sub' y hy
      rw [List.length_cons] at this
      omega
    have R := ih m l p0.2.2 (O ++ as) rfl lvl lne hsm
    have hk := R.hk
    refine open_kn hpart ⟨lne, fun z => absurd z c, fun _ => ⟨hrows, by rw [em]; exact R.lo⟩⟩ ca hasn R.ne (fun a ha => ⟨hAX a (mx a (eas a ha).1), fun z => (eas a ha).2 ((lv.om a).mp z)⟩) (by omega) R.kn R.nm R.ax R.sh
theorem laid_main (C : Chain P r lot X) (hAX : ∀ x ∈ X, x ∈ AX) : ∀ n names over O, Level P X names over O → names ≠ [] → (∀ l ∈ partsBy P names over, l.length ≤ n) → Laid P X AX (n + 1) names over O := by
  intro n
  induction n with
  | zero =>
    intro names over O lv hne hln
    exfalso
    have G := partsBy_G C.al (over := over) lv.nd
    obtain ⟨x, t, e⟩ := List.exists_cons_of_ne_nil hne
    obtain ⟨l, hl, hx⟩ := (parted_in G.part).mp (show x ∈ names by rw [e]; exact List.mem_cons_self)
    have := hln l hl
    have := List.length_pos_of_mem hx
    omega
  | succ n ih0 =>
    intro names over O lv hne hln
    have G := partsBy_G C.al (over := over) lv.nd
    obtain ⟨n1, n2, dis⟩ := flatten_disj (parted_nd G.part lv.nd) G.part.ne
    have hr : ∀ x ∈ names, x ∈ r := fun x hx => (along_in C.al).mp (lv.sub x hx)
    have ord := ord_ok C.al lv.nd hr G
    obtain ⟨pm, bars⟩ := inOrder_spec ord
    have hkn : ∀ l ∈ inOrder P (partsBy P names over), ∃ k, PartKn P X AX (n + 1) over O l k := fun l hl => by
      have hl' := pm.mem_iff.mp hl
      exact part_kn C hAX (fun m names' over' O' e lv' hne' hln' => by
        have : m = n := by omega
        subst this
        exact ih0 names' over' O' lv' hne' hln') lv hl' (hln l hl')
    obtain ⟨kn, hk⟩ : ∃ kn : List Str → Knot, ∀ l ∈ inOrder P (partsBy P names over), PartKn P X AX (n + 1) over O l (kn l) := by
      classical
      refine ⟨fun l => if h : l ∈ inOrder P (partsBy P names over) then Classical.choose (hkn l h) else .add ⟨#[]⟩, fun l h => ?_⟩
      dsimp only
      rw [dif_pos h]
      exact Classical.choose_spec (hkn l h)
    have eks : laidT P (n + 1 + 1) names over = (inOrder P (partsBy P names over)).map kn := by
      show (inOrder P (partsBy P names over)).flatMap (partT P (laidT P (n + 1)) over) = _
      have : ∀ L : List (List Str), (∀ l ∈ L, PartKn P X AX (n + 1) over O l (kn l)) → L.flatMap (partT P (laidT P (n + 1)) over) = L.map kn := by
        intro L
        induction L with
        | nil => intro _; rfl
        | cons a t ih =>
          intro h
          rw [List.flatMap_cons, List.map_cons, ih fun l hl => h l (List.mem_cons_of_mem _ hl), (h a List.mem_cons_self).eq]
          rfl
      exact this _ hk
    have nl : names.length ≤ 20 := by
      have := nd_len lv.nd lv.sub
      unfold namesOf at this
      rw [List.length_map] at this
      have := C.ok.s1
      omega
    have pl : (partsBy P names over).length ≤ 20 := by
      have := parts_len G.part.ne
      rw [G.part.perm.length_eq] at this
      omega
    have psub : ∀ l ∈ partsBy P names over, ∀ x ∈ l, x ∈ names := fun l hl x hx => (parted_in G.part).mpr ⟨l, hl, hx⟩
    obtain ⟨x0, t0, e0⟩ := List.exists_cons_of_ne_nil hne
    have hx0 : x0 ∈ namesOf P := lv.sub x0 (by rw [e0]; exact List.mem_cons_self)
    have okX : OkS X := by
      obtain ⟨s, hs, _⟩ := List.mem_map.mp hx0
      have := (C.ok.o1 s hs).2
      rw [C.ax s hs] at this
      exact this
    have xlen : X.length ≤ 20 := by
      obtain ⟨s, hs, _⟩ := List.mem_map.mp hx0
      have := C.ok.s3 s hs
      rw [C.ax s hs] at this
      exact this
    have ovl := nd_len lv.cov.2 lv.ox
    refine ⟨?_, ?_, ?_, ?_, ?_, ?_, ?_⟩
    · show LaidOk1 P (LaidOk P (n + 1)) (laidT P (n + 1)) names over
      refine ⟨fun x hx => C.ok.oN (lv.sub x hx), nl, ⟨fun x hx => okX x (lv.ox x hx), by omega⟩, fun z => C.emp (lv.sub _ z), pl, fun l hl z => C.emp (lv.sub _ (psub l hl _ z)), ord, fun l hl => (hk l hl).pok, ?_⟩
      show (laidT P (n + 1 + 1) names over).length ≤ 1000
      rw [eks, List.length_map, pm.length_eq]
      omega
    · rw [eks]
      have : hKs ((inOrder P (partsBy P names over)).map kn) ≤ X.length - over.length := hKs_map fun l hl => by
        have := (hk l hl).hk
        omega
      omega
    · rw [eks]
      exact KnsOk_map fun l hl => (hk l hl).kn
    · rw [eks]
      have := rows_names (kn := kn) (nm := fun l : List Str => l) (L := inOrder P (partsBy P names over)) (n := 0) fun l hl i => (hk l hl).nm i
      refine this.trans ?_
      rw [List.flatMap_id']
      exact pm.flatten.trans G.part.perm
    · rw [eks]
      exact rows_all fun l hl i => (hk l hl).ax i
    · intro p hp h1 h2
      rw [eks]
      by_cases c : p.2.2 = over
      · obtain ⟨l, hl, a1⟩ := (parted_in G.part).mp h1
        obtain ⟨m, hm, a2⟩ := (parted_in G.part).mp h2
        obtain ⟨b, eb⟩ := List.getElem?_of_mem hl
        obtain ⟨i, ei⟩ := List.getElem?_of_mem hm
        have hbi : b ≠ i := by
          intro z
          subst z
          rw [eb] at ei
          cases ei
          obtain ⟨k, el, a⟩ := C.al.pr p hp
          rw [el] at c
          refine (G.good l hl).cut k ?_ ?_ c <;> rcases a with ⟨z1, z2⟩ | ⟨z1, z2⟩
          · exact ⟨_, z1, a1⟩
          · exact ⟨_, z1, a2⟩
          · exact ⟨_, z2, a2⟩
          · exact ⟨_, z2, a1⟩
        have hs := bars b i l m eb ei ((mem_bars G.part lv.nd).mpr ⟨p, hp, l, m, eb, ei, a1, a2, hbi⟩)
        obtain ⟨a, b', s, e1, e2, e3⟩ := rows_apart (kn := kn) (nm := fun l : List Str => l) (n := 0) a1 a2 (fun l hl i x hx => by
          have := (hk l hl).nm i
          have hx' := this.mem_iff.mpr hx
          obtain ⟨q, hq, e⟩ := List.mem_map.mp hx'
          exact ⟨q, hq, e⟩) hs
        refine ⟨a, b', s, e1, e2, ?_⟩
        rw [e3, List.append_nil, c]
        exact sort_canon lv.cov ((List.perm_ext_iff_of_nodup lv.ond lv.cov.2).mpr lv.om)
      · obtain ⟨l, hl, a1, a2⟩ := G.same p hp h1 h2 c
        have hl' := pm.mem_iff.mpr hl
        exact rows_within (kn := kn) (Q := fun a b => a.name = p.1 ∧ b.name = p.2.1 ∧ sortS (O ++ shareOf a b) = p.2.2) (fun i => (hk l hl').sh p hp a1 a2 i) hl'
    · rw [eks]
      intro z
      have := List.map_eq_nil_iff.mp z
      obtain ⟨l, hl, _⟩ := (parted_in G.part).mp (show x0 ∈ names by rw [e0]; exact List.mem_cons_self)
      have := pm.mem_iff.mpr hl
      rw [List.map_eq_nil_iff.mp z] at this
      cases this
end
end KL
/-! M7: the law's plan lies along a row. -/
namespace KL
open PySem PySem.Spec L2
/-- the lots of a row; m is the last place -/
structure RowLots (m : Nat) (lot : Nat → List Str) (X : List Str) : Prop where
  can : ∀ k, k ≤ m → Canon (lot k)
  sub : ∀ k, k ≤ m → ∀ x ∈ lot k, x ∈ X
  mid : ∀ k, 0 < k → k < m → (∀ x ∈ lot 0, x ∈ lot k) ∧ ∀ x ∈ lot m, x ∈ lot k
  nest : ∀ j k, 0 < j → j < m → 0 < k → k < m → Nest (lot j) (lot k)
  no1 : ∃ x ∈ lot 0, x ∉ lot m
  no2 : ∃ x ∈ lot m, x ∉ lot 0
theorem RowLots.rev {m : Nat} {lot : Nat → List Str} {X : List Str} (h : RowLots m lot X) : RowLots m (fun k => lot (m - k)) X where
  can := fun k hk => h.can _ (by omega)
  sub := fun k hk => h.sub _ (by omega)
  mid := fun k h1 h2 => by
    have := h.mid (m - k) (by omega) (by omega)
    rw [Nat.sub_zero, Nat.sub_self]
    exact ⟨this.2, this.1⟩
  nest := fun j k h1 h2 h3 h4 => h.nest _ _ (by omega) (by omega) (by omega) (by omega)
  no1 := by
    rw [Nat.sub_zero, Nat.sub_self]
    exact h.no2
  no2 := by
    rw [Nat.sub_zero, Nat.sub_self]
    exact h.no1
structure RowFacts (P : Plan) (r : List Str) (lot : Nat → List Str) (X : List Str) : Prop where
  al : Along P r lot
  ok : P.Ok
  rl : RowLots (r.length - 2) lot X
  n4 : 4 ≤ r.length
  n7 : r.length ≤ 7
  cx : Canon X
  xl : X.length ≤ 5
  ax : ∀ s ∈ P.steps, s.2 = X
  so : (namesOf P).Pairwise fun a b => leS a b = true
  nm : ∀ x ∈ r, NameOk x ∧ PyData.strOk x = true ∧ x.cps.size ≤ 10
  xo : ∀ x ∈ X, PyData.strOk x = true ∧ x.cps.size ≤ 10
theorem RowFacts.rev {P : Plan} {r : List Str} {lot : Nat → List Str} {X : List Str} (h : RowFacts P r lot X) : RowFacts P r.reverse (fun k => lot (r.length - 2 - k)) X where
  al := h.al.rev
  ok := h.ok
  rl := by
    rw [List.length_reverse]
    exact h.rl.rev
  n4 := by rw [List.length_reverse]; exact h.n4
  n7 := by rw [List.length_reverse]; exact h.n7
  cx := h.cx
  xl := h.xl
  ax := h.ax
  so := h.so
  nm := fun x hx => h.nm x (List.mem_reverse.mp hx)
  xo := h.xo
theorem dle_total (a b : Str × List Str) : (PySem.W.dataLe false stD a b || PySem.W.dataLe false stD b a) = true := by
  rw [Bool.or_eq_true]
  exact (PySem.W.sortLe_total _ false _).total a b
theorem dle_trans (a b c : Str × List Str) (h1 : PySem.W.dataLe false stD a b = true) (h2 : PySem.W.dataLe false stD b c = true) : PySem.W.dataLe false stD a c = true := (PySem.W.sortLe_total _ false _).trans a b c h1 h2
theorem dle_names {a b : Str × List Str} (h : PySem.W.dataLe false stD a b = true) : leS a.1 b.1 = true := by
  have e : PySem.W.dataLe false stD a b = !PySem.W.dataLt (stD b) (stD a) := rfl
  rw [e] at h
  unfold stD at h
  rw [PySem.W.dataLt_pair (by simp [PySem.W.alike]) (by simp [axD, PySem.W.alike, alike_strs]), eqv_str, PySem.W.dataLt_str] at h
  by_cases c : b.1 = a.1
  · rw [c]
    unfold leS
    exact decide_eq_true (List.le_refl _)
  · rw [if_neg (by simpa using c)] at h
    unfold leS
    refine decide_eq_true (List.not_lt.mp fun z => ?_)
    rw [decide_eq_true z] at h
    cases h
theorem names_sorted (ss : List (Str × List Str)) : ((sortSt ss).map (·.1)).Pairwise fun a b => leS a b = true := by
  have h : (sortSt ss).Pairwise fun a b => PySem.W.dataLe false stD a b = true := List.pairwise_mergeSort (le := PySem.W.dataLe false stD) (fun a b c => dle_trans a b c) dle_total ss
  exact List.Pairwise.map _ (fun a b z => dle_names z) h
theorem name_facts : ∀ x ∈ namesAll, (1 ≤ x.length ∧ x.length ≤ 6 ∧ x.cps.toList.all (fun c => decide (c ∈ abc.cps.toList)) = true) ∧ PyData.strOk x = true ∧ x.cps.size ≤ 10 := by decide +kernel
theorem axis_facts : ∀ x ∈ axesAll, PyData.strOk x = true ∧ x.cps.size ≤ 10 := by decide +kernel
theorem names_nd : namesAll.Nodup := by decide +kernel
theorem axes_nd : axesAll.Nodup := by decide +kernel
theorem nodup_get {α : Type} {l : List α} (h : ∀ (i j : Nat) (a : α), l[i]? = some a → l[j]? = some a → i = j) : l.Nodup := by
  refine List.pairwise_iff_getElem.mpr fun i j hi hj hij e => ?_
  have := h i j l[i] (List.getElem?_eq_getElem hi) (by rw [e]; exact List.getElem?_eq_getElem hj)
  omega
theorem at_same {r : List Str} {k : Nat} {p q : Str × Str × List Str} (h : AtRow r k p) (e1 : p.1 = q.1) (e2 : p.2.1 = q.2.1) : AtRow r k q := by
  unfold AtRow at h ⊢
  rw [← e1, ← e2]
  exact h
theorem row_facts {n : Nat} {P : Plan} (h4 : 4 ≤ n) (h7 : n ≤ 7) (h : RowP n P) : ∃ r lot X, RowFacts P r lot X := by
  obtain ⟨R, found, rfl, ⟨dr, order, m, j1, j2, po, hm1, hm2, hj1, hj2, hj3, eA, eb, eB, er⟩, hf, fo, rfl⟩ := h
  obtain ⟨nn, ⟨ys, py, en⟩, ⟨zs, j, pz, hz2, hz5, ez⟩⟩ := dr
  have nN : R.names.Nodup := by rw [en]; exact (py.nodup_iff.mpr names_nd).sublist (List.take_sublist _ _)
  have zn : (zs.take j).Nodup := (pz.nodup_iff.mpr axes_nd).sublist (List.take_sublist _ _)
  have cX : Canon R.axes := by
    rw [ez]
    exact ⟨sortS_sorted _, (List.mergeSort_perm _ leS).nodup_iff.mpr zn⟩
  have xl : R.axes.length ≤ 5 := by
    rw [ez]
    unfold sortS
    rw [List.length_mergeSort, List.length_take]
    omega
  have xo : ∀ x ∈ R.axes, PyData.strOk x = true ∧ x.cps.size ≤ 10 := fun x hx => by
    rw [ez] at hx
    exact axis_facts x (pz.mem_iff.mp (List.mem_of_mem_take ((List.mergeSort_perm _ leS).mem_iff.mp hx)))
  have nmf : ∀ x ∈ R.names, NameOk x ∧ PyData.strOk x = true ∧ x.cps.size ≤ 10 := fun x hx => by
    rw [en] at hx
    obtain ⟨⟨a, b, c⟩, d, e⟩ := name_facts x (py.mem_iff.mp (List.mem_of_mem_take hx))
    exact ⟨⟨a, b, fun z hz => of_decide_eq_true (List.all_eq_true.mp c z hz)⟩, d, e⟩
  have on : order.Nodup := po.nodup_iff.mpr cX.2
  let lot : Nat → List Str := fun k => ((found[k]?).map fun p => p.2.2).getD []
  have hfk : ∀ k p, found[k]? = some p → p.2.2 = lot k ∧ AtRow R.names k p ∧ ∃ l, LotIs R k l ∧ lot k = setS l := fun k p hp => by
    have hk := (List.getElem?_eq_some_iff.mp hp).1
    have el : lot k = p.2.2 := by show ((found[k]?).map fun p => p.2.2).getD [] = _; rw [hp]; rfl
    have g1 : R.names[k]? = some (R.names.getD k ⟨#[]⟩) := by rw [List.getD_eq_getElem?_getD, List.getElem?_eq_getElem (by omega)]; rfl
    have g2 : R.names[k + 1]? = some (R.names.getD (k + 1) ⟨#[]⟩) := by rw [List.getD_eq_getElem?_getD, List.getElem?_eq_getElem (by omega)]; rfl
    obtain ⟨l, li, e | e⟩ := fo k p hp
    · subst e
      exact ⟨el.symm, .inl ⟨g1, g2⟩, l, li, el⟩
    · subst e
      exact ⟨el.symm, .inr ⟨g1, g2⟩, l, li, el⟩
  have hget : ∀ k, k < R.n - 1 → ∃ p, found[k]? = some p := fun k hk => ⟨_, List.getElem?_eq_getElem (by omega)⟩
  have hlot : ∀ k, k < R.n - 1 → ∃ l, LotIs R k l ∧ lot k = setS l := fun k hk => by
    obtain ⟨p, hp⟩ := hget k hk
    exact (hfk k p hp).2.2
  have pmem : ∀ p, p ∈ (rowPlan R found).pairs ↔ p ∈ found := fun p => (List.mergeSort_perm _ _).mem_iff
  have smem : ∀ s, s ∈ (rowPlan R found).steps ↔ ∃ x ∈ R.names, s = (x, R.axes) := fun s => by
    show s ∈ sortSt _ ↔ _
    unfold sortSt
    rw [List.mem_mergeSort, List.mem_map]
    exact ⟨fun ⟨x, hx, e⟩ => ⟨x, hx, e.symm⟩, fun ⟨x, hx, e⟩ => ⟨x, hx, e.symm⟩⟩
  have nperm : (namesOf (rowPlan R found)).Perm R.names := by
    have : ((R.names.map fun x => (x, R.axes)).map fun s : Str × List Str => s.1) = R.names := by rw [List.map_map]; exact List.map_id' _
    have h1 := (List.mergeSort_perm (R.names.map fun x => (x, R.axes)) (PySem.W.dataLe false stD)).map fun s : Str × List Str => s.1
    rw [this] at h1
    exact h1
  have al : Along (rowPlan R found) R.names lot := by
    refine ⟨nN, nperm, fun p hp => ?_, fun k hk => ?_, fun p hp q hq k a b => ?_⟩
    · obtain ⟨k, hk⟩ := List.getElem?_of_mem ((pmem p).mp hp)
      obtain ⟨h1, h2, _⟩ := hfk k p hk
      exact ⟨k, h1, h2⟩
    · obtain ⟨p, hp⟩ := hget k (by omega)
      obtain ⟨h1, h2, _⟩ := hfk k p hp
      exact ⟨p, (pmem p).mpr (List.mem_of_getElem? hp), h1, h2⟩
    · obtain ⟨i, hi⟩ := List.getElem?_of_mem ((pmem p).mp hp)
      obtain ⟨j, hj⟩ := List.getElem?_of_mem ((pmem q).mp hq)
      have e1 := AtRow.inj nN (hfk i p hi).2.1 a
      have e2 := AtRow.inj nN (hfk j q hj).2.1 b
      rw [e1] at hi
      rw [e2] at hj
      rw [hi] at hj
      exact Option.some.inj hj
  -- the lots
  have mA : ∀ {l}, LotIs R 0 l → l = R.A := fun {l} h => by
    cases h with
    | first => rfl
    | last h0 => exact absurd rfl h0
    | mid h0 => exact absurd rfl h0
  have mB : ∀ {l}, LotIs R (R.n - 2) l → l = R.B := fun {l} h => by
    cases h with
    | first h => omega
    | last => rfl
    | mid _ h => omega
  have mM : ∀ {k l}, 0 < k → k < R.n - 2 → LotIs R k l → ∃ t, l = R.both ++ R.rest.take t := fun {k l} h1 h2 h => by
    cases h with
    | first h => omega
    | last _ h => omega
    | mid _ _ t => exact ⟨t, rfl⟩
  have sA : ∀ x ∈ R.A, x ∈ R.both := fun x hx => by rw [eb]; rw [eA] at hx; exact List.mem_append_left _ hx
  have sB : ∀ x ∈ R.B, x ∈ R.both := fun x hx => by
    rw [eb]
    rw [eB] at hx
    obtain hx | hx := List.mem_append.mp hx
    · exact List.mem_append_right _ hx
    · exact List.mem_append_left _ (List.mem_of_mem_drop (List.mem_of_mem_take hx))
  have sb : ∀ x ∈ R.both, x ∈ R.axes := fun x hx => by
    rw [eb] at hx
    obtain hx | hx := List.mem_append.mp hx
    · exact po.mem_iff.mp (List.mem_of_mem_take hx)
    · exact po.mem_iff.mp (List.mem_of_mem_drop (List.mem_of_mem_take hx))
  have sl : ∀ {k l}, LotIs R k l → ∀ x ∈ l, x ∈ R.axes := fun {k l} h x hx => by
    cases h with
    | first => exact sb x (sA x hx)
    | last => exact sb x (sB x hx)
    | mid _ _ t =>
      obtain hx | hx := List.mem_append.mp hx
      · exact sb x hx
      · have := List.mem_of_mem_take hx
        rw [er] at this
        exact (List.mem_filter.mp this).1
  obtain ⟨l0, li0, el0⟩ := hlot 0 (by omega)
  obtain ⟨lm, lim, elm⟩ := hlot (R.n - 2) (by omega)
  have eo := List.take_append_drop m order
  have ond : (order.take m ++ order.drop m).Nodup := by rw [eo]; exact on
  obtain ⟨on1, on2, on3⟩ := List.nodup_append.mp ond
  have rl : RowLots (R.n - 2) lot R.axes := by
    refine ⟨fun k hk => ?_, fun k hk x hx => ?_, fun k h1 h2 => ?_, fun i k h1 h2 h3 h4 => ?_, ?_, ?_⟩
    · obtain ⟨l, _, e⟩ := hlot k (by omega)
      rw [e]
      exact canon_setS l
    · obtain ⟨l, li, e⟩ := hlot k (by omega)
      rw [e] at hx
      exact sl li x (mem_setS.mp hx)
    · obtain ⟨l, li, e⟩ := hlot k (by omega)
      obtain ⟨t, rfl⟩ := mM h1 h2 li
      rw [e, el0, elm, mA li0, mB lim]
      exact ⟨fun x hx => mem_setS.mpr (List.mem_append_left _ (sA x (mem_setS.mp hx))), fun x hx => mem_setS.mpr (List.mem_append_left _ (sB x (mem_setS.mp hx)))⟩
    · obtain ⟨l, li, e⟩ := hlot i (by omega)
      obtain ⟨l', li', e'⟩ := hlot k (by omega)
      obtain ⟨t, rfl⟩ := mM h1 h2 li
      obtain ⟨t', rfl⟩ := mM h3 h4 li'
      rw [e, e']
      have key : ∀ a b : Nat, a ≤ b → ∀ x ∈ setS (R.both ++ R.rest.take a), x ∈ setS (R.both ++ R.rest.take b) := fun a b hab x hx => by
        rw [mem_setS, List.mem_append] at hx ⊢
        exact hx.imp id fun z => (List.take_subset_take_left _ hab) z
      rcases Nat.le_total t t' with z | z
      · exact .inl (key t t' z)
      · exact .inr (key t' t z)
    · rw [el0, elm, mA li0, mB lim, eA, eB]
      obtain ⟨x, u, e⟩ : ∃ x u, order.take m = x :: u := List.exists_cons_of_ne_nil (fun z => by
        have := congrArg List.length z
        rw [List.length_take, List.length_nil] at this
        omega)
      refine ⟨x, mem_setS.mpr (by rw [e]; exact List.mem_cons_self), fun z => ?_⟩
      rcases List.mem_append.mp (mem_setS.mp z) with z | z
      · exact on3 x (by rw [e]; exact List.mem_cons_self) x (List.mem_of_mem_take z) rfl
      · rw [e] at z on1
        exact (List.nodup_cons.mp on1).1 (List.mem_of_mem_take z)
    · rw [el0, elm, mA li0, mB lim, eA, eB]
      obtain ⟨x, u, e⟩ : ∃ x u, order.drop m = x :: u := List.exists_cons_of_ne_nil (fun z => by
        have := congrArg List.length z
        rw [List.length_drop, List.length_nil] at this
        omega)
      refine ⟨x, mem_setS.mpr (List.mem_append_left _ ?_), fun z => ?_⟩
      · rw [e]
        obtain ⟨j', rfl⟩ : ∃ j', j1 = j' + 1 := ⟨j1 - 1, by omega⟩
        exact List.mem_cons_self
      · exact on3 x (mem_setS.mp z) x (by rw [e]; exact List.mem_cons_self) rfl
  have pl : (rowPlan R found).pairs.length = R.n - 1 := by
    show (sortPr found).length = _
    unfold sortPr
    rw [List.length_mergeSort, hf]
  have stl : (rowPlan R found).steps.length = R.n := by
    show (sortSt _).length = _
    unfold sortSt
    rw [List.length_mergeSort, List.length_map, nn]
  have pin : ∀ p ∈ (rowPlan R found).pairs, p.1 ∈ R.names ∧ p.2.1 ∈ R.names := fun p hp => by
    obtain ⟨k, _, a⟩ := al.pr p hp
    rcases a with ⟨a, b⟩ | ⟨a, b⟩
    · exact ⟨List.mem_of_getElem? a, List.mem_of_getElem? b⟩
    · exact ⟨List.mem_of_getElem? b, List.mem_of_getElem? a⟩
  have psub : ∀ p ∈ (rowPlan R found).pairs, Canon p.2.2 ∧ ∀ x ∈ p.2.2, x ∈ R.axes := fun p hp => by
    obtain ⟨k, e, a⟩ := al.pr p hp
    have := a.lt
    rw [e]
    exact ⟨rl.can k (by omega), rl.sub k (by omega)⟩
  have ok : (rowPlan R found).Ok := by
    refine ⟨nperm.nodup_iff.mpr nN, ?_, fun p hp => nperm.mem_iff.mpr (pin p hp).1, fun p hp => nperm.mem_iff.mpr (pin p hp).2, fun p hp => ends_ne al hp, by omega, by omega, fun s hs => ?_, fun p hp => ?_, fun s hs => ?_, fun p hp x hx => (xo x ((psub p hp).2 x hx)).1⟩
    · have h1 := (List.mergeSort_perm found (PySem.W.dataLe false prD)).map fun p : Str × Str × List Str => (p.1, p.2.1)
      refine h1.nodup_iff.mpr (nodup_get fun i j a hi hj => ?_)
      rw [List.getElem?_map] at hi hj
      obtain ⟨p, hp, ep⟩ := Option.map_eq_some_iff.mp hi
      obtain ⟨q, hq, eq⟩ := Option.map_eq_some_iff.mp hj
      have e : (p.1, p.2.1) = (q.1, q.2.1) := ep.trans eq.symm
      have h2 := at_same (hfk i p hp).2.1 (Prod.mk.inj e).1 (Prod.mk.inj e).2
      exact AtRow.inj nN h2 (hfk j q hq).2.1
    · obtain ⟨x, _, rfl⟩ := (smem s).mp hs
      show R.axes.length ≤ 20
      omega
    · have := nd_len (psub p hp).1.2 (psub p hp).2
      omega
    · obtain ⟨x, hx, rfl⟩ := (smem s).mp hs
      exact ⟨(nmf x hx).2.1, fun y hy => (xo y hy).1⟩
  refine ⟨R.names, lot, R.axes, al, ok, by rw [nn]; exact rl, by omega, by omega, cX, xl, fun s hs => ?_, names_sorted _, nmf, xo⟩
  obtain ⟨x, _, rfl⟩ := (smem s).mp hs
  rfl
end KL
/-! M8: what the law asks of the row itself. -/
namespace KL
open PySem PySem.Spec L2
section
variable {P : Plan} {r : List Str} {lot : Nat → List Str} {X : List Str}
theorem nest_part {m : Nat} (h : RowLots m lot X) {j k : Nat} (hj : j ≤ m) (hk : k ≤ m) (h1 : ¬(j = 0 ∧ k = m)) (h2 : ¬(j = m ∧ k = 0)) : Nest (lot j) (lot k) := by
  by_cases e : j = k
  · rw [e]; exact .inl fun _ h => h
  by_cases a : j = 0
  · subst a
    exact .inl (h.mid k (by omega) (by omega)).1
  by_cases b : k = 0
  · subst b
    exact .inr (h.mid j (by omega) (by omega)).1
  by_cases c : j = m
  · subst c
    exact .inl (h.mid k (by omega) (by omega)).2
  by_cases d : k = m
  · subst d
    exact .inr (h.mid j (by omega) (by omega)).2
  exact h.nest j k (by omega) (by omega) (by omega) (by omega)
theorem least_part (F : RowFacts P r lot X) {i : Nat} {q : List Str} (pc : Piece r i q) (two : 2 ≤ q.length) (hr : i + q.length ≤ r.length) (hq : q.length < r.length) : leastAlong P q ≠ [] :=
  piece_least F.al (fun k hk => F.rl.can k (by omega)) pc two hr fun j k h1 h2 h3 h4 => nest_part F.rl (by omega) (by omega) (by omega) (by omega)
theorem least_whole (F : RowFacts P r lot X) : leastAlong P r = [] := by
  have pc : Piece r 0 r := fun j x h => by rw [Nat.zero_add]; exact h
  obtain ⟨a, b⟩ := piece_links F.al pc
  have n4 := F.n4
  refine least_none fun l hl => ?_
  obtain ⟨k, _, k2, e⟩ := a l hl
  obtain ⟨l0, h0, e0⟩ := b 0 (by omega) (by omega)
  obtain ⟨lm, hm, em⟩ := b (r.length - 2) (by omega) (by omega)
  rw [e]
  by_cases c : k = 0
  · subst c
    obtain ⟨x, h1, h2⟩ := F.rl.no1
    exact ⟨lm, hm, x, h1, by rw [em]; exact h2⟩
  · obtain ⟨x, h1, h2⟩ := F.rl.no2
    refine ⟨l0, h0, x, ?_, by rw [e0]; exact h2⟩
    by_cases d : k = r.length - 2
    · rw [d]; exact h1
    · exact (F.rl.mid k (by omega) (by omega)).2 x h1
theorem least_parts (F : RowFacts P r lot X) {s q t : List Str} (e : r = s ++ q ++ t) (two : 2 ≤ q.length) (hq : q.length < r.length) : leastAlong P q ≠ [] := by
  have := congrArg List.length e
  rw [List.length_append, List.length_append] at this
  exact least_part F (piece_of e) two (by omega) hq
theorem bad_none (F : RowFacts P r lot X) {r0 z : Str} {m0 : List Str} (er : r = r0 :: (m0 ++ [z])) {x y : Str} (hx : x ∈ r) (hy : y ∈ r) (hne : x ≠ y) (h1 : ¬(x = r0 ∧ y = z)) (h2 : ¬(x = z ∧ y = r0)) : badOf P (pfOf r) x y = [] := by
  unfold badOf pfOf
  rw [List.filter_eq_nil_iff]
  intro p hp hz
  rw [List.mem_singleton.mp hp] at hz
  have hz' : leastAlong P (pathOf r x y) = [] := List.isEmpty_iff.mp hz
  rcases path_cases F.al.nd hx hy hne with ⟨s, m, t, e, ep⟩ | ⟨s, m, t, e, ep⟩
  · rw [ep] at hz'
    have e2 : r = s ++ (x :: (m ++ [y])) ++ t := by rw [e]; simp
    refine least_parts F e2 (by simp) ?_ hz'
    apply Classical.byContradiction
    intro w
    have hl := congrArg List.length e2
    rw [List.length_append, List.length_append] at hl
    have hs : s = [] := List.length_eq_zero_iff.mp (by omega)
    have ht : t = [] := List.length_eq_zero_iff.mp (by omega)
    subst hs ht
    rw [er] at e2
    simp only [List.nil_append, List.append_nil] at e2
    obtain ⟨e3, e4⟩ := List.cons.inj e2
    exact h1 ⟨e3.symm, (List.cons.inj (List.append_inj_right' e4 rfl)).1.symm⟩
  · rw [ep] at hz'
    have e2 : r.reverse = s ++ (x :: (m ++ [y])) ++ t := by rw [e]; simp
    refine least_parts F.rev e2 (by simp) ?_ hz'
    apply Classical.byContradiction
    intro w
    have hl := congrArg List.length e2
    rw [List.length_append, List.length_append] at hl
    have hs : s = [] := List.length_eq_zero_iff.mp (by omega)
    have ht : t = [] := List.length_eq_zero_iff.mp (by omega)
    subst hs ht
    rw [er] at e2
    simp only [List.nil_append, List.append_nil, List.reverse_cons, List.reverse_append, List.reverse_nil] at e2
    obtain ⟨e3, e4⟩ := List.cons.inj (show z :: (m0.reverse ++ [r0]) = x :: (m ++ [y]) by simpa using e2)
    exact h2 ⟨e3.symm, (List.cons.inj (List.append_inj_right' e4 rfl)).1.symm⟩
theorem flat_one {α β : Type} {f : α → List β} {a : α} : ∀ {xs : List α}, xs.Nodup → a ∈ xs → (∀ b ∈ xs, b ≠ a → f b = []) → xs.flatMap f = f a
  | x :: xs, nd, ha, h => by
    rcases List.nodup_cons.mp nd with ⟨n1, n2⟩
    rw [List.flatMap_cons]
    by_cases e : x = a
    · subst e
      have : xs.flatMap f = [] := List.flatMap_eq_nil_iff.mpr fun b hb => h b (List.mem_cons_of_mem _ hb) fun z => n1 (z ▸ hb)
      rw [this, List.append_nil]
    · rw [h x List.mem_cons_self e, List.nil_append]
      exact flat_one n2 ((List.mem_cons.mp ha).resolve_left fun z => e z.symm) fun b hb => h b (List.mem_cons_of_mem _ hb)
theorem zip_nd {α : Type} {xs : List α} (h : xs.Nodup) : xs.zipIdx.Nodup := by
  refine List.Pairwise.of_map (R := (· ≠ ·)) (S := (· ≠ ·)) Prod.fst (fun a b h e => h (by rw [e])) ?_
  rw [List.zipIdx_map_fst]
  exact h
theorem names_split (F : RowFacts P r lot X) {r0 z : Str} {m0 : List Str} (er : r = r0 :: (m0 ++ [z])) (hle : leS r0 z = true) : ∃ s m t, namesOf P = s ++ r0 :: (m ++ z :: t) := by
  have h0 : r0 ∈ r := by rw [er]; exact List.mem_cons_self
  have hz : z ∈ r := by rw [er]; exact List.mem_cons_of_mem _ (List.mem_append_right _ List.mem_cons_self)
  have hne : r0 ≠ z := fun e => by
    have := F.al.nd
    rw [er, e] at this
    exact (List.nodup_cons.mp this).1 (List.mem_append_right _ List.mem_cons_self)
  rcases split_two ((along_in F.al).mpr h0) ((along_in F.al).mpr hz) hne with h | ⟨s, m, t, e⟩
  · exact h
  · exfalso
    have so := F.so
    rw [e] at so
    have := (List.pairwise_cons.mp (List.pairwise_append.mp so).2.1).1 r0 (List.mem_append_right _ List.mem_cons_self)
    exact hne (leS_anti hle this)
theorem names_nodup (F : RowFacts P r lot X) : (namesOf P).Nodup := F.al.perm.nodup_iff.mpr F.al.nd
theorem bad_all (F : RowFacts P r lot X) {r0 z : Str} {m0 : List Str} (er : r = r0 :: (m0 ++ [z])) (hle : leS r0 z = true) : badAll P (pfOf r) = [r] := by
  obtain ⟨s, m, t, en⟩ := names_split F er hle
  have nnd := names_nodup F
  have nd2 := nnd
  rw [en] at nd2
  have e0 : (namesOf P)[s.length]? = some r0 := by rw [en, List.getElem?_append_right (by omega), Nat.sub_self]; rfl
  have dr : (namesOf P).drop (s.length + 1) = m ++ z :: t := by
    rw [en, show s.length + 1 = (s ++ [r0]).length by simp, show s ++ r0 :: (m ++ z :: t) = (s ++ [r0]) ++ (m ++ z :: t) by simp, List.drop_left]
  have h0 : r0 ∈ r := by rw [er]; exact List.mem_cons_self
  have hz : z ∈ r := by rw [er]; exact List.mem_cons_of_mem _ (List.mem_append_right _ List.mem_cons_self)
  have inr : ∀ x ∈ namesOf P, x ∈ r := fun x hx => (along_in F.al).mp hx
  have hne : r0 ≠ z := fun e => by
    have := F.al.nd
    rw [er, e] at this
    exact (List.nodup_cons.mp this).1 (List.mem_append_right _ List.mem_cons_self)
  unfold badAll
  rw [flat_one (a := (r0, s.length)) (zip_nd nnd) (List.mem_zipIdx_iff_getElem?.mpr e0)]
  · show badRow P (pfOf r) s.length r0 = [r]
    unfold badRow
    have nd3 : (m ++ z :: t).Nodup := (List.nodup_cons.mp (List.nodup_append.mp nd2).2.1).2
    rw [dr, flat_one (a := z) nd3 (List.mem_append_right _ List.mem_cons_self)]
    · unfold badOf pfOf
      have ep : pathOf r r0 z = r := by
        obtain ⟨h1, h2, h3⟩ := sub_eq (s := []) (t := []) F.al.nd (show r = [] ++ r0 :: (m0 ++ z :: []) from er)
        unfold pathOf
        rw [if_pos (by omega), h1]
        exact er.symm
      rw [ep, List.filter_cons_of_pos (by rw [least_whole F]; rfl), List.filter_nil]
    · intro y hy hyz
      have hyn : y ∈ namesOf P := by rw [en]; exact List.mem_append_right _ (List.mem_cons_of_mem _ hy)
      have hy0 : r0 ≠ y := fun e => (List.nodup_cons.mp (List.nodup_append.mp nd2).2.1).1 (by rw [e]; exact hy)
      exact bad_none F er h0 (inr y hyn) hy0 (fun w => hyz w.2) (fun w => hne w.1)
  · rintro ⟨x, i⟩ hq hqn
    have hi := List.mem_zipIdx_iff_getElem?.mp hq
    show badRow P (pfOf r) i x = []
    have hi' : (namesOf P)[i]? = some x := hi
    unfold badRow
    refine List.flatMap_eq_nil_iff.mpr fun y hy => ?_
    have hne2 := nd_drop nnd hi' y hy
    have hyn : y ∈ namesOf P := List.mem_of_mem_drop hy
    refine bad_none F er (inr x (List.mem_of_getElem? hi')) (inr y hyn) hne2 (fun w => ?_) fun w => ?_
    · have := ix_inj nnd hi' (by rw [w.1]; exact e0)
      exact hqn (by rw [w.1, this])
    · obtain ⟨d, hd⟩ := List.getElem?_of_mem hy
      rw [List.getElem?_drop] at hd
      have e1 := ix_inj nnd hd (by rw [w.2]; exact e0)
      have ez : (namesOf P)[s.length + 1 + m.length]? = some z := by
        rw [en, List.getElem?_append_right (by omega), show s.length + 1 + m.length - s.length = m.length + 1 by omega]
        show (m ++ z :: t)[m.length]? = _
        rw [List.getElem?_append_right (by omega), Nat.sub_self]
        rfl
      have e2 := ix_inj nnd hi' (by rw [w.1]; exact ez)
      omega
/-! ### _law_row_of -/
theorem met_near (ps : List (Str × Str × List Str)) (x : Str) : (metRow ps x).map (·.1) = rawNear ps x := by
  unfold metRow rawNear
  rw [List.map_flatMap]
  congr 1
  funext p
  rw [List.map_append]
  split <;> split <;> rfl
theorem mem_raw {x y : Str} : y ∈ rawNear P.pairs x ↔ y ∈ nearOf P x := by
  unfold nearOf sortS
  rw [List.mem_mergeSort]
theorem met_len (x : Str) : (metRow P.pairs x).length = (nearOf P x).length := by
  unfold nearOf sortS
  rw [List.length_mergeSort, ← met_near, List.length_map]
theorem len_one {α : Type} {b : α} {xs : List α} (nd : xs.Nodup) (h : ∀ y ∈ xs, y = b) (hb : b ∈ xs) : xs.length = 1 := by
  have := filter_one (q := fun _ => true) nd (fun y hy => ⟨fun _ => h y hy, fun _ => rfl⟩) hb
  rw [filt_true] at this
  rw [this]
  rfl
theorem deg_end (F : RowFacts P r lot X) {x : Str} (hx : r[0]? = some x ∨ r[r.length - 1]? = some x) : (metRow P.pairs x).length = 1 := by
  have n4 := F.n4
  rw [met_len]
  rcases hx with hx | hx
  · have h1 : r[0 + 1]? = some (r[0 + 1]'(by omega)) := List.getElem?_eq_getElem (by omega)
    refine len_one (b := r[0 + 1]'(by omega)) (near_nd F.al F.ok x) (fun y hy => ?_) ((near_adj F.al).mpr ⟨0, .inl ⟨hx, h1⟩⟩)
    obtain ⟨k, ⟨a, b⟩ | ⟨a, b⟩⟩ := (near_adj F.al).mp hy
    · have := ix_inj F.al.nd a hx
      subst this
      rw [h1] at b
      exact (Option.some.inj b).symm
    · have := ix_inj F.al.nd b hx
      omega
  · have h1 : r[r.length - 2]? = some (r[r.length - 2]'(by omega)) := List.getElem?_eq_getElem (by omega)
    have h2 : r[r.length - 2 + 1]? = some x := by rw [show r.length - 2 + 1 = r.length - 1 by omega]; exact hx
    refine len_one (b := r[r.length - 2]'(by omega)) (near_nd F.al F.ok x) (fun y hy => ?_) ((near_adj F.al).mpr ⟨r.length - 2, .inr ⟨h1, h2⟩⟩)
    obtain ⟨k, ⟨a, b⟩ | ⟨a, b⟩⟩ := (near_adj F.al).mp hy
    · have := ix_inj F.al.nd a hx
      have := (List.getElem?_eq_some_iff.mp b).1
      omega
    · have := ix_inj F.al.nd b h2
      have : k = r.length - 2 := by omega
      subst this
      rw [h1] at a
      exact (Option.some.inj a).symm
theorem deg_mid (F : RowFacts P r lot X) {x : Str} {i : Nat} (hx : r[i]? = some x) (h0 : 0 < i) (h1 : i + 1 < r.length) : (metRow P.pairs x).length ≠ 1 := by
  rw [met_len]
  have e1 : r[i + 1]? = some r[i + 1] := List.getElem?_eq_getElem h1
  have e2 : r[i - 1]? = some (r[i - 1]'(by omega)) := List.getElem?_eq_getElem (by omega)
  have m1 : r[i + 1] ∈ nearOf P x := (near_adj F.al).mpr ⟨i, .inl ⟨hx, e1⟩⟩
  have m2 : (r[i - 1]'(by omega)) ∈ nearOf P x := (near_adj F.al).mpr ⟨i - 1, .inr ⟨e2, by rw [show i - 1 + 1 = i by omega]; exact hx⟩⟩
  have hne : r[i + 1] ≠ (r[i - 1]'(by omega)) := fun e => by
    rw [← e] at e2
    have := ix_inj F.al.nd e1 e2
    omega
  generalize r[i + 1] = a at *
  generalize (r[i - 1]'(by omega)) = b at *
  have := nd_len (xs := [a, b]) (ys := nearOf P x) (by simp [hne]) fun y hy => by
    simp only [List.mem_cons, List.not_mem_nil, or_false] at hy
    rcases hy with rfl | rfl <;> assumption
  have h2 : [a, b].length = 2 := rfl
  omega
theorem row_ok (F : RowFacts P r lot X) {r0 z : Str} {m0 : List Str} (er : r = r0 :: (m0 ++ [z])) (hle : leS r0 z = true) : RowOk P r0 (m0 ++ [z]) := by
  have n4 := F.n4
  have nnd := names_nodup F
  obtain ⟨s, m, t, en⟩ := names_split F er hle
  have nd2 := nnd
  rw [en] at nd2
  have i0 : r[0]? = some r0 := by rw [er]; rfl
  have iz : r[r.length - 1]? = some z := by
    rw [er]
    show (r0 :: (m0 ++ [z]))[(r0 :: (m0 ++ [z])).length - 1]? = some z
    rw [show (r0 :: (m0 ++ [z])).length - 1 = m0.length + 1 by simp]
    show (m0 ++ [z])[m0.length]? = some z
    rw [List.getElem?_append_right (by omega), Nat.sub_self]
    rfl
  have q0 : decide ((metRow P.pairs r0).length = 1) = true := decide_eq_true (deg_end F (.inl i0))
  have qz : decide ((metRow P.pairs z).length = 1) = true := decide_eq_true (deg_end F (.inr iz))
  have qn : ∀ x ∈ namesOf P, x ≠ r0 → x ≠ z → ¬ decide ((metRow P.pairs x).length = 1) = true := fun x hx h1 h2 w => by
    obtain ⟨i, hi⟩ := List.getElem?_of_mem ((along_in F.al).mp hx)
    have hil := (List.getElem?_eq_some_iff.mp hi).1
    refine deg_mid F hi ?_ ?_ (of_decide_eq_true w)
    · apply Classical.byContradiction
      intro c
      have : i = 0 := by omega
      subst this
      rw [i0] at hi
      exact h1 (Option.some.inj hi).symm
    · apply Classical.byContradiction
      intro c
      have : i = r.length - 1 := by omega
      subst this
      rw [iz] at hi
      exact h2 (Option.some.inj hi).symm
  obtain ⟨d1, d2, d3⟩ := List.nodup_append.mp nd2
  obtain ⟨d4, d5⟩ := List.nodup_cons.mp d2
  obtain ⟨d6, d7, d8⟩ := List.nodup_append.mp d5
  obtain ⟨d9, d10⟩ := List.nodup_cons.mp d7
  have fn : ∀ l : List Str, (∀ x ∈ l, x ∈ namesOf P) → r0 ∉ l → z ∉ l → l.filter (fun n => decide ((metRow P.pairs n).length = 1)) = [] := fun l h1 h2 h3 => List.filter_eq_nil_iff.mpr fun x hx => qn x (h1 x hx) (fun e => h2 (e ▸ hx)) (fun e => h3 (e ▸ hx))
  refine ⟨by rw [← er]; have := F.al.perm.length_eq; unfold namesOf at this; rw [List.length_map] at this; exact this.symm, ⟨r0, [z], ?_, ?_⟩, fun i a b ha hb => ?_, fun a ha => ?_⟩
  · show (namesOf P).filter _ = _
    rw [en, List.filter_append, List.filter_cons_of_pos (p := fun n => decide ((metRow P.pairs n).length = 1)) (a := r0) q0, List.filter_append, List.filter_cons_of_pos (p := fun n => decide ((metRow P.pairs n).length = 1)) (a := z) qz, fn s (fun x hx => by rw [en]; exact List.mem_append_left _ hx) (fun w => d3 r0 w r0 List.mem_cons_self rfl) (fun w => d3 z w z (List.mem_cons_of_mem _ (List.mem_append_right _ List.mem_cons_self)) rfl),
      fn m (fun x hx => by rw [en]; exact List.mem_append_right _ (List.mem_cons_of_mem _ (List.mem_append_left _ hx))) (fun w => d4 (List.mem_append_left _ w)) (fun w => d8 z w z List.mem_cons_self rfl),
      fn t (fun x hx => by rw [en]; exact List.mem_append_right _ (List.mem_cons_of_mem _ (List.mem_append_right _ (List.mem_cons_of_mem _ hx)))) (fun w => d4 (List.mem_append_right _ (List.mem_cons_of_mem _ w))) d9]
    rfl
  · show (if PySem.W.dataLt (.str z) (.str r0) = true then _ else _) = _
    rw [PySem.W.dataLt_str, if_neg]
    intro w
    unfold leS at hle
    exact List.not_lt.mpr (of_decide_eq_true hle) (of_decide_eq_true w)
  · rw [← er] at ha hb ⊢
    refine ⟨[], ?_⟩
    refine filter_one (b := b) (F.al.sim F.ok a) (fun y hy => ?_) ?_
    · rw [met_near, mem_raw] at hy
      have hbt : b ∉ r.take (i + 1) := fun w => by
        obtain ⟨j, hj⟩ := List.getElem?_of_mem w
        rw [List.getElem?_take] at hj
        split at hj
        · have := ix_inj F.al.nd hj hb
          omega
        · cases hj
      obtain ⟨k, ⟨c, d⟩ | ⟨c, d⟩⟩ := (near_adj F.al).mp hy
      · have := ix_inj F.al.nd c ha
        subst this
        rw [hb] at d
        have := Option.some.inj d
        subst this
        exact ⟨fun _ => rfl, fun _ => by simp [hbt]⟩
      · have := ix_inj F.al.nd d ha
        subst this
        have hin : y ∈ r.take (k + 1 + 1) := List.mem_of_getElem? (i := k) (by rw [List.getElem?_take, if_pos (by omega)]; exact c)
        refine ⟨fun w => ?_, fun w => ?_⟩
        · simp [hin] at w
        · subst w
          exact absurd hin hbt
    · rw [met_near, mem_raw]
      exact (near_adj F.al).mpr ⟨i, .inl ⟨ha, hb⟩⟩
  · rw [← er] at ha
    exact (along_in F.al).mpr ha
theorem met_look (F : RowFacts P r lot X) {k : Nat} {a b : Str} (ha : r[k]? = some a) (hb : r[k + 1]? = some b) : ∃ d, look ((metRow P.pairs a).map metD) (.inr b) = some (.tuple [axD (lot k), .bool d]) := by
  obtain ⟨p, hp, el, at_⟩ := F.al.has k (List.getElem?_eq_some_iff.mp hb).1
  have hm : ∃ d, (b, lot k, d) ∈ metRow P.pairs a := by
    unfold metRow
    rcases at_ with ⟨a1, a2⟩ | ⟨a1, a2⟩ <;> rw [ha] at a1 <;> rw [hb] at a2 <;> have a1 := Option.some.inj a1 <;> have a2 := Option.some.inj a2
    · exact ⟨true, List.mem_flatMap.mpr ⟨p, hp, List.mem_append_left _ (by rw [if_pos a1.symm, a2, el]; exact List.mem_cons_self)⟩⟩
    · exact ⟨false, List.mem_flatMap.mpr ⟨p, hp, List.mem_append_right _ (by rw [if_pos a1.symm, a2, el]; exact List.mem_cons_self)⟩⟩
  obtain ⟨d, hd⟩ := hm
  refine ⟨d, ?_⟩
  have nd : (((metRow P.pairs a).map metD).map (·.1)).Nodup := by
    rw [List.map_map]
    have := keys_nd (F.al.sim F.ok a)
    rw [List.map_map] at this
    exact this
  exact look_mem nd (metD (b, lot k, d)) (List.mem_map.mpr ⟨_, hd, rfl⟩)
/-! ### papers -/
theorem walk_piece (F : RowFacts P r lot X) {i : Nat} {q : List Str} (pc : Piece r i q) : walkB P q = true := by
  unfold walkB
  rw [List.all_eq_true]
  intro w hw
  obtain ⟨j, h1, h2⟩ := zip_at hw
  exact decide_eq_true ((near_adj F.al).mpr ⟨i + j, .inl ⟨pc j _ h1, pc (j + 1) _ h2⟩⟩)
theorem walk_in (F : RowFacts P r lot X) {s q t : List Str} (e : r = s ++ q ++ t) {m : Nat} (h : m ≤ q.length) (h2 : 2 ≤ q.length) : WalkIn P q m := by
  have hs : ∀ x ∈ q, x ∈ r := fun x hx => by rw [e]; exact List.mem_append_left _ (List.mem_append_right _ hx)
  have nd := F.al.nd
  rw [e] at nd
  exact ⟨fun x hx => (along_in F.al).mpr (hs x hx), fun x hx => (F.nm x (hs x hx)).1, (List.nodup_append.mp (List.nodup_append.mp nd).1).2.1, h, h2⟩
theorem paper_part (F : RowFacts P r lot X) {s q t : List Str} (e : r = s ++ q ++ t) (two : 2 ≤ q.length) : PaperIs P (pathD q) (leastAlong P q).isEmpty := by
  have n7 := F.n7
  have hl := congrArg (fun l => l.length) e
  rw [List.length_append, List.length_append] at hl
  have := PaperIs.path (P := P) (walk_in F e two two) fun _ => piece_linked F.al (piece_of e) (by omega)
  rw [walk_piece F (piece_of e), Bool.true_and] at this
  exact this
theorem paper_no (F : RowFacts P r lot X) {s q t : List Str} (e : r = s ++ q ++ t) (two : 2 ≤ q.length) (hq : q.length < r.length) : PaperIs P (pathD q) false := by
  have := paper_part F e two
  have h2 := least_parts F e two hq
  cases c : leastAlong P q with
  | nil => exact absurd c h2
  | cons a t => rw [c] at this; exact this
theorem paper_yes (F : RowFacts P r lot X) : PaperIs P (pathD r) true := by
  have n4 := F.n4
  have := paper_part F (s := []) (q := r) (t := []) (by simp) (by omega)
  rw [least_whole F] at this
  exact this
theorem paper_ring (F : RowFacts P r lot X) {r0 z : Str} {m0 : List Str} (er : r = r0 :: (m0 ++ [z])) : PaperIs P (ringD r) false := by
  have n4 := F.n4
  refine PaperIs.ring (P := P) (walk_in F (s := []) (q := r) (t := []) (by simp) (by omega) (by omega)) ?_
  unfold roundOf
  rw [if_pos rfl]
  have eh : r.headD ⟨#[]⟩ = r0 := by rw [er]; rfl
  rw [eh]
  unfold walkB
  rw [List.all_eq_false]
  have iz : r[r.length - 1]? = some z := by
    rw [er]
    show (r0 :: (m0 ++ [z]))[(r0 :: (m0 ++ [z])).length - 1]? = some z
    rw [show (r0 :: (m0 ++ [z])).length - 1 = m0.length + 1 by simp]
    show (m0 ++ [z])[m0.length]? = some z
    rw [List.getElem?_append_right (by omega), Nat.sub_self]
    rfl
  have i0 : r[0]? = some r0 := by rw [er]; rfl
  refine ⟨(z, r0), at_zip (j := r.length - 1) ?_ ?_, ?_⟩
  · rw [List.getElem?_append_left (by omega)]; exact iz
  · rw [List.getElem?_append_right (by omega), show r.length - 1 + 1 - r.length = 0 by omega]; rfl
  · intro w
    obtain ⟨k, ⟨a, b⟩ | ⟨a, b⟩⟩ := (near_adj F.al).mp (of_decide_eq_true w)
    · have := ix_inj F.al.nd a iz
      have := (List.getElem?_eq_some_iff.mp b).1
      omega
    · have := ix_inj F.al.nd a i0
      have := ix_inj F.al.nd b iz
      omega
end
end KL
/-! M9: the plan with its last pair set anew. -/
namespace KL
open PySem PySem.Spec L2
theorem sub2_ix {α : Type} : ∀ {xs : List α} {a b : α}, [a, b].Sublist xs → ∃ i j : Nat, xs[i]? = some a ∧ xs[j]? = some b ∧ i ≤ j
  | [], a, b, h => by cases h
  | x :: xs, a, b, h => by
    cases h with
    | cons _ h =>
      obtain ⟨i, j, h1, h2, h3⟩ := sub2_ix h
      exact ⟨i + 1, j + 1, h1, h2, by omega⟩
    | cons_cons _ h =>
      obtain ⟨j, hj⟩ := List.getElem?_of_mem (List.singleton_sublist.mp h)
      exact ⟨0, j + 1, rfl, hj, by omega⟩
theorem min_comm {a b c d : Str} : (minT a b = minT c d ∧ maxT a b = maxT c d) ↔ (a = c ∧ b = d) ∨ (a = d ∧ b = c) := by
  constructor
  · rintro ⟨h1, h2⟩
    have p1 := minmax_perm a b
    have p2 := minmax_perm c d
    rw [h1, h2] at p1
    have p := p1.symm.trans p2
    have ha : a ∈ [c, d] := p.mem_iff.mp List.mem_cons_self
    have hb : b ∈ [c, d] := p.mem_iff.mp (List.mem_cons_of_mem _ List.mem_cons_self)
    have hc : c ∈ [a, b] := p.mem_iff.mpr List.mem_cons_self
    have hd : d ∈ [a, b] := p.mem_iff.mpr (List.mem_cons_of_mem _ List.mem_cons_self)
    simp only [List.mem_cons, List.not_mem_nil, or_false] at ha hb hc hd
    rcases ha with rfl | rfl <;> rcases hb with rfl | rfl
    · rcases hd with rfl | rfl <;> exact .inl ⟨rfl, rfl⟩
    · exact .inl ⟨rfl, rfl⟩
    · exact .inr ⟨rfl, rfl⟩
    · rcases hc with rfl | rfl <;> exact .inl ⟨rfl, rfl⟩
  · rintro (⟨rfl, rfl⟩ | ⟨rfl, rfl⟩)
    · exact ⟨rfl, rfl⟩
    · have e := sortS_perm (List.Perm.swap b a [])
      rw [sort_two, sort_two] at e
      exact ⟨(List.cons.inj e).1, (List.cons.inj (List.cons.inj e).2).1⟩
section
variable {P : Plan} {r : List Str} {lot : Nat → List Str} {X : List Str}
def lotW (m : Nat) (lot : Nat → List Str) (l : List Str) (k : Nat) : List Str := if k = m then l else lot k
theorem mem_with {p : Str × Str × List Str} {a b : Str} {l : List Str} : p ∈ (withPair P a b l).pairs ↔ (p ∈ P.pairs ∧ ¬((p.1 = a ∧ p.2.1 = b) ∨ (p.1 = b ∧ p.2.1 = a))) ∨ p = (a, b, l) := by
  show p ∈ sortPr _ ↔ _
  unfold sortPr
  rw [List.mem_mergeSort, List.mem_append, List.mem_filter, List.mem_singleton]
  have : (!sameEnds p a b) = true ↔ ¬((p.1 = a ∧ p.2.1 = b) ∨ (p.1 = b ∧ p.2.1 = a)) := by
    unfold sameEnds
    rw [Bool.not_eq_true', decide_eq_false_iff_not, min_comm]
  rw [this]
theorem along_with (F : RowFacts P r lot X) {a b y z : Str} {l : List Str} (ey : r[r.length - 2]? = some y) (ez : r[r.length - 1]? = some z) (hab : (a = y ∧ b = z) ∨ (a = z ∧ b = y)) : Along (withPair P a b l) r (lotW (r.length - 2) lot l) := by
  have n4 := F.n4
  have nd := F.al.nd
  have ez' : r[r.length - 2 + 1]? = some z := by rw [show r.length - 2 + 1 = r.length - 1 by omega]; exact ez
  have atN : AtRow r (r.length - 2) (a, b, l) := by
    rcases hab with ⟨rfl, rfl⟩ | ⟨rfl, rfl⟩
    · exact .inl ⟨ey, ez'⟩
    · exact .inr ⟨ey, ez'⟩
  -- a pair of the plan is at the last place just if its ends are these
  have last : ∀ {p : Str × Str × List Str} {k : Nat}, AtRow r k p → (((p.1 = a ∧ p.2.1 = b) ∨ (p.1 = b ∧ p.2.1 = a)) ↔ k = r.length - 2) := by
    intro p k h
    constructor
    · intro e
      have : AtRow r k (a, b, l) := by
        unfold AtRow at h ⊢
        rcases e with ⟨e1, e2⟩ | ⟨e1, e2⟩
        · rw [e1, e2] at h; exact h
        · rw [e1, e2] at h; exact h.symm
      exact AtRow.inj nd this atN
    · intro e
      subst e
      rcases h with ⟨h1, h2⟩ | ⟨h1, h2⟩ <;> rcases atN with ⟨g1, g2⟩ | ⟨g1, g2⟩ <;> rw [h1] at g1 <;> rw [h2] at g2 <;> have g1 := Option.some.inj g1 <;> have g2 := Option.some.inj g2
      · exact .inl ⟨g1, g2⟩
      · exact .inr ⟨g1, g2⟩
      · exact .inr ⟨g2, g1⟩
      · exact .inl ⟨g2, g1⟩
  refine ⟨nd, F.al.perm, fun p hp => ?_, fun k hk => ?_, fun p hp q hq k h1 h2 => ?_⟩
  · rcases mem_with.mp hp with ⟨h1, h2⟩ | e
    · obtain ⟨k, el, h⟩ := F.al.pr p h1
      refine ⟨k, ?_, h⟩
      unfold lotW
      rw [if_neg (fun e => h2 ((last h).mpr e))]
      exact el
    · subst e
      exact ⟨_, by unfold lotW; rw [if_pos rfl], atN⟩
  · by_cases c : k = r.length - 2
    · subst c
      exact ⟨_, mem_with.mpr (.inr rfl), by unfold lotW; rw [if_pos rfl], atN⟩
    · obtain ⟨p, hp, el, h⟩ := F.al.has k hk
      exact ⟨p, mem_with.mpr (.inl ⟨hp, fun e => c ((last h).mp e)⟩), by unfold lotW; rw [if_neg c]; exact el, h⟩
  · rcases mem_with.mp hp with ⟨p1, p2⟩ | e1 <;> rcases mem_with.mp hq with ⟨q1, q2⟩ | e2
    · exact F.al.uniq p p1 q q1 k h1 h2
    · subst e2
      exact absurd ((last h1).mpr (AtRow.inj nd h2 atN)) p2
    · subst e1
      exact absurd ((last h2).mpr (AtRow.inj nd h1 atN)) q2
    · rw [e1, e2]
theorem pair_in {P' : Plan} {lot' : Nat → List Str} (h : Along P' r lot') {p : Str × Str × List Str} (hp : p ∈ P'.pairs) : p.1 ∈ r ∧ p.2.1 ∈ r := by
  obtain ⟨k, _, a⟩ := h.pr p hp
  rcases a with ⟨a, b⟩ | ⟨a, b⟩
  · exact ⟨List.mem_of_getElem? a, List.mem_of_getElem? b⟩
  · exact ⟨List.mem_of_getElem? b, List.mem_of_getElem? a⟩
theorem ok_with_plan (F : RowFacts P r lot X) {a b y z : Str} {l : List Str} (ey : r[r.length - 2]? = some y) (ez : r[r.length - 1]? = some z) (hab : (a = y ∧ b = z) ∨ (a = z ∧ b = y)) (cl : Canon l) (sl : ∀ x ∈ l, x ∈ X) : (withPair P a b l).Ok := by
  have A := along_with F (l := l) ey ez hab
  have ok := F.ok
  have xl := F.xl
  have ll : l.length ≤ 5 := Nat.le_trans (nd_len cl.2 sl) xl
  have pin := fun p hp => pair_in A (p := p) hp
  refine ⟨ok.nd, ?_, fun p hp => (along_in F.al).mpr (pin p hp).1, fun p hp => (along_in F.al).mpr (pin p hp).2, fun p hp => ends_ne A hp, ok.s1, ?_, ok.s3, fun p hp => ?_, ok.o1, fun p hp x hx => ?_⟩
  · have h1 := (List.mergeSort_perm ((P.pairs.filter fun p => !sameEnds p a b) ++ [(a, b, l)]) (PySem.W.dataLe false prD)).map fun p : Str × Str × List Str => (p.1, p.2.1)
    refine h1.nodup_iff.mpr ?_
    rw [List.map_append]
    refine List.nodup_append.mpr ⟨(ok.kd.sublist ((List.filter_sublist).map _)), by simp, fun u hu v hv e => ?_⟩
    obtain ⟨p, hp, rfl⟩ := List.mem_map.mp hu
    rw [List.mem_singleton.mp (show v ∈ [(a, b)] from hv)] at e
    have hs := (List.mem_filter.mp hp).2
    have e1 := (Prod.mk.inj e).1
    have e2 := (Prod.mk.inj e).2
    have : sameEnds p a b = true := by
      unfold sameEnds
      rw [e1, e2]
      simp
    rw [this] at hs
    cases hs
  · show (sortPr _).length ≤ 30
    unfold sortPr
    have n7 := F.n7
    have key : ((P.pairs.filter fun p => !sameEnds p a b) ++ [(a, b, l)]).length ≤ 30 := by
      have nd' : (((P.pairs.filter fun p => !sameEnds p a b) ++ [(a, b, l)])).Nodup := by
        refine List.nodup_append.mpr ⟨(pairs_nd ok).sublist List.filter_sublist, by simp, fun u hu v hv e => ?_⟩
        rw [List.mem_singleton.mp hv] at e
        have hs := (List.mem_filter.mp hu).2
        have : sameEnds u a b = true := by
          unfold sameEnds
          rw [e]
          simp
        rw [this] at hs
        cases hs
      -- each pair stands at its own place
      have inj : ∀ (qs : List (Str × Str × List Str)), qs.Nodup → (∀ q ∈ qs, q ∈ (withPair P a b l).pairs) → qs.length ≤ r.length := by
        intro qs nq hq
        classical
        let pos : Str × Str × List Str → Nat := fun q => if h : ∃ k, AtRow r k q then Classical.choose h else 0
        have hpos : ∀ q ∈ qs, AtRow r (pos q) q := fun q h => by
          have ex : ∃ k, AtRow r k q := let ⟨k, _, h⟩ := A.pr q (hq q h); ⟨k, h⟩
          show AtRow r (if h : ∃ k, AtRow r k q then Classical.choose h else 0) q
          rw [dif_pos ex]
          exact Classical.choose_spec ex
        have nm : (qs.map pos).Nodup := by
          refine List.pairwise_map.mpr (nq.imp_of_mem fun {u v} hu hv huv e => huv ?_)
          have h1 := hpos u hu
          rw [e] at h1
          exact A.uniq u (hq u hu) v (hq v hv) _ h1 (hpos v hv)
        have := nd_len nm (ys := List.range r.length) fun k hk => by
          obtain ⟨q, h, rfl⟩ := List.mem_map.mp hk
          have := (hpos q h).lt
          exact List.mem_range.mpr (by omega)
        rw [List.length_map, List.length_range] at this
        exact this
      have := inj _ nd' fun q hq => by
        show q ∈ sortPr _
        unfold sortPr
        rw [List.mem_mergeSort]
        exact hq
      omega
    rw [List.length_mergeSort]
    exact key
  · rcases mem_with.mp hp with ⟨h1, _⟩ | e
    · exact ok.s4 p h1
    · rw [e]
      show l.length ≤ 20
      omega
  · rcases mem_with.mp hp with ⟨h1, _⟩ | e
    · exact ok.o2 p h1 x hx
    · rw [e] at hx
      exact (F.xo x (sl x hx)).1
theorem chain_with (F : RowFacts P r lot X) {a b y z : Str} {l : List Str} (ey : r[r.length - 2]? = some y) (ez : r[r.length - 1]? = some z) (hab : (a = y ∧ b = z) ∨ (a = z ∧ b = y)) (hl : l ∈ lots4 (lot 0) (lot (r.length - 2))) : Canon l ∧ (∀ x ∈ l, x ∈ X) ∧ Chain (withPair P a b l) r (lotW (r.length - 2) lot l) X := by
  have n4 := F.n4
  have R := F.rl
  have c0 := R.can 0 (by omega)
  have cm := R.can (r.length - 2) (Nat.le_refl _)
  have s0 := R.sub 0 (by omega)
  have sm' := R.sub (r.length - 2) (Nat.le_refl _)
  -- the new lot: in order; nested with the first lot; within those between
  have key : Canon l ∧ (∀ x ∈ l, x ∈ X) ∧ Nest l (lot 0) ∧ ∀ x ∈ l, x ∈ lot 0 ∨ x ∈ lot (r.length - 2) := by
    simp only [lots4, List.mem_cons, List.not_mem_nil, or_false] at hl
    rcases hl with rfl | rfl | rfl | rfl
    · refine ⟨canon_setS _, fun x hx => ?_, .inr fun x hx => mem_setS.mpr (List.mem_append_left _ hx), fun x hx => List.mem_append.mp (mem_setS.mp hx)⟩
      rcases List.mem_append.mp (mem_setS.mp hx) with h | h
      · exact s0 x h
      · exact sm' x h
    · exact ⟨c0, s0, .inl fun _ h => h, fun x hx => .inl hx⟩
    · exact ⟨cm.filter _, fun x hx => sm' x (List.mem_filter.mp hx).1, .inl fun x hx => of_decide_eq_true (List.mem_filter.mp hx).2, fun x hx => .inr (List.mem_filter.mp hx).1⟩
    · exact ⟨⟨.nil, .nil⟩, fun x hx => (List.not_mem_nil hx).elim, .inl fun x hx => (List.not_mem_nil hx).elim, fun x hx => (List.not_mem_nil hx).elim⟩
  obtain ⟨cl, sl, n0, sin⟩ := key
  refine ⟨cl, sl, ?_⟩
  have hmid : ∀ k, 0 < k → k < r.length - 2 → ∀ x ∈ l, x ∈ lot k := fun k h1 h2 x hx => (sin x hx).elim ((R.mid k h1 h2).1 x) ((R.mid k h1 h2).2 x)
  have lotN : ∀ k, k + 1 < r.length → k ≠ r.length - 2 → Nest l (lot k) := fun k hk hne => by
    by_cases c : k = 0
    · rw [c]; exact n0
    · exact .inl (hmid k (by omega) (by omega))
  refine ⟨along_with F ey ez hab, ok_with_plan F ey ez hab cl sl, F.cx, fun k hk => ?_, fun k hk x hx => ?_, fun j k hj hk => ?_, F.ax, fun w => ?_⟩
  · unfold lotW
    split
    · exact cl
    · exact R.can k (by omega)
  · unfold lotW at hx
    split at hx
    · exact sl x hx
    · exact R.sub k (by omega) x hx
  · unfold lotW
    by_cases cj : j = r.length - 2 <;> by_cases ck : k = r.length - 2
    · rw [if_pos cj, if_pos ck]
      exact .inl fun _ h => h
    · rw [if_pos cj, if_neg ck]
      exact lotN k hk ck
    · rw [if_neg cj, if_pos ck]
      exact (lotN j hj cj).symm
    · rw [if_neg cj, if_neg ck]
      exact nest_part R (by omega) (by omega) (by omega) (by omega)
  · have := (F.nm "" ((along_in F.al).mp w)).1.lo
    exact absurd this (by decide +kernel)
theorem chain_bad (C : Chain P r lot X) (h2 : 2 ≤ r.length) : badAll P (pfOf r) = [] := by
  have nnd : (namesOf P).Nodup := C.al.perm.nodup_iff.mpr C.al.nd
  have rl := along_len C.al C.ok
  have none_ : ∀ {lot' : Nat → List Str} {r' : List Str}, Along P r' lot' → (∀ k, k + 1 < r'.length → Canon (lot' k)) → (∀ j k, j + 1 < r'.length → k + 1 < r'.length → Nest (lot' j) (lot' k)) → ∀ {s q t : List Str}, r' = s ++ q ++ t → 2 ≤ q.length → leastAlong P q ≠ [] := by
    intro lot' r' al ca ch s q t e two
    have hl := congrArg (fun l => l.length) e
    rw [List.length_append, List.length_append] at hl
    exact piece_least al ca (piece_of e) two (by omega) fun j k _ h3 _ h4 => ch j k (by omega) (by omega)
  unfold badAll
  refine List.flatMap_eq_nil_iff.mpr ?_
  rintro ⟨x, i⟩ hq
  have hi : (namesOf P)[i]? = some x := List.mem_zipIdx_iff_getElem?.mp hq
  show badRow P (pfOf r) i x = []
  unfold badRow
  refine List.flatMap_eq_nil_iff.mpr fun y hy => ?_
  have hne := nd_drop nnd hi y hy
  have hx : x ∈ r := (along_in C.al).mp (List.mem_of_getElem? hi)
  have hy' : y ∈ r := (along_in C.al).mp (List.mem_of_mem_drop hy)
  unfold badOf pfOf
  rw [List.filter_eq_nil_iff]
  intro p hp hz
  rw [List.mem_singleton.mp hp] at hz
  have hz' : leastAlong P (pathOf r x y) = [] := List.isEmpty_iff.mp hz
  rcases path_cases C.al.nd hx hy' hne with ⟨s, m, t, e, ep⟩ | ⟨s, m, t, e, ep⟩
  · rw [ep] at hz'
    exact none_ C.al C.cl C.ch (s := s) (q := x :: (m ++ [y])) (t := t) (by rw [e]; simp) (by simp) hz'
  · rw [ep] at hz'
    exact none_ C.al.rev (fun k hk => C.cl _ (by rw [List.length_reverse] at hk; omega)) (fun j k hj hk => C.ch _ _ (by rw [List.length_reverse] at hj; omega) (by rw [List.length_reverse] at hk; omega)) (s := s) (q := x :: (m ++ [y])) (t := t) (by rw [e]; simp) (by simp) hz'
theorem tree_with (C : Chain P r lot X) (h2 : 2 ≤ r.length) (h7 : r.length ≤ 7) (xl : X.length ≤ 5) : ToldOk 8 P true (.list []) := by
  have nnd : (namesOf P).Nodup := C.al.perm.nodup_iff.mpr C.al.nd
  have nlen : (namesOf P).length = r.length := C.al.perm.length_eq
  obtain ⟨x0, hx0⟩ : ∃ x, x ∈ namesOf P := by
    cases e : namesOf P with
    | nil => rw [e] at nlen; simp at nlen; omega
    | cons a t => exact ⟨a, List.mem_cons_self⟩
  have hAX : ∀ x ∈ X, x ∈ planAx P := fun x hx => by
    obtain ⟨s, hs, _⟩ := List.mem_map.mp hx0
    exact mem_setS.mpr (List.mem_flatMap.mpr ⟨s, hs, by rw [C.ax s hs]; exact hx⟩)
  have lv : Level P X (namesOf P) [] [] := ⟨nnd, fun _ h => h, ⟨.nil, .nil⟩, fun _ h => (List.not_mem_nil h).elim, fun _ _ _ _ _ h => (List.not_mem_nil h).elim, .nil, fun _ => Iff.rfl⟩
  have L := laid_main C hAX 7 (namesOf P) [] [] lv (fun e => by rw [e] at hx0; cases hx0) fun l hl => by
    have G := partsBy_G C.al (over := ([] : List Str)) nnd
    obtain ⟨_, n2, _⟩ := flatten_disj (parted_nd G.part nnd) G.part.ne
    have := nd_len (n2 l hl) fun x hx => (parted_in G.part).mpr ⟨l, hl, hx⟩
    omega
  refine .tree (paths_ok C.al C.ok) (.tree (chain_bad C h2) (no_rings C.al C.ok) L.lo) ⟨?_, ?_, L.kn, L.nm, fun q hq => ?_, fun p hp => ?_⟩
  · intro e
    obtain ⟨s, hs, _⟩ := List.mem_map.mp hx0
    rw [e] at hs
    cases hs
  · have := L.hk
    show hKs (laidT P (7 + 1) (namesOf P) []) ≤ 20
    omega
  · have : q.name ∈ namesOf P := L.nm.mem_iff.mp (List.mem_map.mpr ⟨q, hq, rfl⟩)
    obtain ⟨s, hs, e⟩ := List.mem_map.mp this
    exact ⟨s, hs, e, by rw [C.ax s hs]; exact L.ax q hq⟩
  · have hin := pair_in C.al hp
    obtain ⟨a, b, s, e1, e2, e3⟩ := L.sh p hp ((along_in C.al).mpr hin.1) ((along_in C.al).mpr hin.2)
    obtain ⟨i, j, hi, hj, hij⟩ := sub2_ix s
    exact ⟨i, j, a, b, hi, hj, e1, e2, hij, e3⟩
end
end KL
/-! M10: all that the law asks, of every plan that it draws. -/
namespace KL
open PySem PySem.Spec L2
section
variable {P : Plan} {r : List Str} {lot : Nat → List Str} {X : List Str}
theorem along_pairs (A : Along P r lot) (nd : P.pairs.Nodup) : P.pairs.length ≤ r.length := by
  classical
  let pos : Str × Str × List Str → Nat := fun q => if h : ∃ k, AtRow r k q then Classical.choose h else 0
  have hpos : ∀ q ∈ P.pairs, AtRow r (pos q) q := fun q h => by
    have ex : ∃ k, AtRow r k q := let ⟨k, _, h⟩ := A.pr q h; ⟨k, h⟩
    show AtRow r (if h : ∃ k, AtRow r k q then Classical.choose h else 0) q
    rw [dif_pos ex]
    exact Classical.choose_spec ex
  have nm : (P.pairs.map pos).Nodup := by
    refine List.pairwise_map.mpr (nd.imp_of_mem fun {u v} hu hv huv e => huv ?_)
    have h1 := hpos u hu
    rw [e] at h1
    exact A.uniq u hu v hv _ h1 (hpos v hv)
  have := nd_len nm (ys := List.range r.length) fun k hk => by
    obtain ⟨q, h, rfl⟩ := List.mem_map.mp hk
    have := (hpos q h).lt
    exact List.mem_range.mpr (by omega)
  rw [List.length_map, List.length_range] at this
  exact this
theorem sm_ax {k : Nat} {xs : List Str} (h : xs.length ≤ 12) (nm : ∀ x ∈ xs, PyData.strOk x = true ∧ x.cps.size ≤ 10) : sm (k + 2) (axD xs) = true := by
  show (decide ((xs.map PyData.str).length ≤ 12) && (xs.map PyData.str).all (sm (k + 1))) = true
  rw [List.length_map, decide_eq_true h, Bool.true_and, List.all_eq_true]
  intro d hd
  obtain ⟨x, hx, rfl⟩ := List.mem_map.mp hd
  show (PyData.strOk x && decide (x.cps.size ≤ 10)) = true
  rw [(nm x hx).1, decide_eq_true (nm x hx).2]
  rfl
theorem sm_st {s : Str × List Str} (h1 : PyData.strOk s.1 = true ∧ s.1.cps.size ≤ 10) (h2 : s.2.length ≤ 12) (h3 : ∀ x ∈ s.2, PyData.strOk x = true ∧ x.cps.size ≤ 10) : sm 3 (stD s) = true := by
  show (decide (2 ≤ 12) && ((PyData.strOk s.1 && decide (s.1.cps.size ≤ 10)) && (sm 2 (axD s.2) && true))) = true
  rw [h1.1, decide_eq_true h1.2, sm_ax h2 h3]
  rfl
theorem sm_pr {p : Str × Str × List Str} (h1 : PyData.strOk p.1 = true ∧ p.1.cps.size ≤ 10) (h2 : PyData.strOk p.2.1 = true ∧ p.2.1.cps.size ≤ 10) (h3 : p.2.2.length ≤ 12) (h4 : ∀ x ∈ p.2.2, PyData.strOk x = true ∧ x.cps.size ≤ 10) : sm 3 (prD p) = true := by
  show (decide (3 ≤ 12) && ((PyData.strOk p.1 && decide (p.1.cps.size ≤ 10)) && ((PyData.strOk p.2.1 && decide (p.2.1.cps.size ≤ 10)) && (sm 2 (axD p.2.2) && true)))) = true
  rw [h1.1, decide_eq_true h1.2, h2.1, decide_eq_true h2.2, sm_ax h3 h4]
  rfl
theorem sm_plan (C : Chain P r lot X) (h7 : r.length ≤ 7) (xl : X.length ≤ 5) (nm : ∀ x ∈ r, PyData.strOk x = true ∧ x.cps.size ≤ 10) (xo : ∀ x ∈ X, PyData.strOk x = true ∧ x.cps.size ≤ 10) : sm 5 (planD P) = true := by
  have pl := along_pairs C.al (pairs_nd C.ok)
  have sl : P.steps.length ≤ 12 := by
    have := C.al.perm.length_eq
    unfold namesOf at this
    rw [List.length_map] at this
    omega
  have q1 : sm 4 (.tuple (P.steps.map stD)) = true := by
    show (decide ((P.steps.map stD).length ≤ 12) && (P.steps.map stD).all (sm 3)) = true
    rw [List.length_map, decide_eq_true sl, Bool.true_and, List.all_eq_true]
    intro d hd
    obtain ⟨s, hs, rfl⟩ := List.mem_map.mp hd
    have ex := C.ax s hs
    exact sm_st (nm s.1 ((along_in C.al).mp (List.mem_map.mpr ⟨s, hs, rfl⟩))) (by rw [ex]; omega) (by rw [ex]; exact xo)
  have q2 : sm 4 (.tuple (P.pairs.map prD)) = true := by
    show (decide ((P.pairs.map prD).length ≤ 12) && (P.pairs.map prD).all (sm 3)) = true
    rw [List.length_map, decide_eq_true (by omega), Bool.true_and, List.all_eq_true]
    intro d hd
    obtain ⟨p, hp, rfl⟩ := List.mem_map.mp hd
    obtain ⟨i1, i2⟩ := pair_in C.al hp
    obtain ⟨c1, c2⟩ := C.pc hp
    have := nd_len c1.2 c2
    exact sm_pr (nm _ i1) (nm _ i2) (by omega) fun x hx => xo x (c2 x hx)
  show (decide (2 ≤ 12) && (sm 4 (.tuple (P.steps.map stD)) && (sm 4 (.tuple (P.pairs.map prD)) && true))) = true
  rw [q1, q2]
  rfl
theorem at_two {α : Type} (xs : List α) (a b : α) : atI (xs ++ [a, b]) (-2) = some a := by
  have hl : (xs ++ [a, b]).length = xs.length + 2 := by simp
  have e : ixN (xs ++ [a, b]).length (-2) = some xs.length := by
    unfold ixN
    rewrite [hl]; rw [if_neg (by decide), if_pos (by omega)]
    congr 1
    omega
  unfold atI
  rw [e]
  show (xs ++ [a, b])[xs.length]? = some a
  rw [List.getElem?_append_right (by omega), Nat.sub_self]
  rfl
theorem row_law_of (F : RowFacts P r lot X) {r0 y z : Str} {m1 : List Str} (er : r = r0 :: (m1 ++ [y] ++ [z])) (hle : leS r0 z = true) : RowLaw 8 P r0 (m1 ++ [y] ++ [z]) (lot 0) (lot (r.length - 2)) := by
  have n4 := F.n4
  have n7 := F.n7
  have xl := F.xl
  have hl : r.length = m1.length + 3 := by rw [er]; simp
  have R := F.rl
  have ey : r[r.length - 2]? = some y := by
    rw [hl, er, show m1.length + 3 - 2 = m1.length + 1 by omega]
    show (m1 ++ [y] ++ [z])[m1.length]? = some y
    rw [List.append_assoc, List.getElem?_append_right (by omega), Nat.sub_self]
    rfl
  have ez : r[r.length - 1]? = some z := by
    rw [hl, er, show m1.length + 3 - 1 = m1.length + 2 by omega]
    show (m1 ++ [y] ++ [z])[m1.length + 1]? = some z
    rw [List.append_assoc, List.getElem?_append_right (by omega), show m1.length + 1 - m1.length = 1 by omega]
    rfl
  have ez2 : r[r.length - 2 + 1]? = some z := by rw [show r.length - 2 + 1 = r.length - 1 by omega]; exact ez
  have e0 : r[0]? = some r0 := by rw [er]; rfl
  have e1 : r[0 + 1]? = some (r[1]'(by omega)) := List.getElem?_eq_getElem (by omega)
  have emap : (r0 :: (m1 ++ [y] ++ [z])).map PyData.str = (r0 :: m1).map PyData.str ++ [.str y, .str z] := by simp
  have oX : ∀ k, k ≤ r.length - 2 → OkS (lot k) ∧ (lot k).length ≤ 20 := fun k hk => ⟨fun x hx => (F.xo x (R.sub k hk x hx)).1, by have := nd_len (R.can k hk).2 (R.sub k hk); omega⟩
  refine ⟨F.ok, F.al.sim F.ok, row_ok F (m0 := m1 ++ [y]) er hle, ⟨by rw [← er]; omega, by rw [← er]; omega, by rw [← er]; exact F.al.nd, fun x hx => (F.nm x (by rw [er]; exact hx)).2⟩, ?_, (oX 0 (by omega)).1, (oX _ (Nat.le_refl _)).1, (oX 0 (by omega)).2, (oX _ (Nat.le_refl _)).2, ?_, ?_, ?_, ?_, ?_, ?_, ?_, ?_⟩
  · have eb : sortP (badAll P (pfOf r)) = [r] := by rw [bad_all F (m0 := m1 ++ [y]) er hle, sortP_one]
    rw [← er]
    exact ⟨pfOf r, paths_ok F.al F.ok, eb, no_rings F.al F.ok, .path eb fun q hq x hx => by
      rw [List.mem_singleton.mp hq] at hx
      exact (F.nm x hx).2.1⟩
  · obtain ⟨d, h⟩ := met_look F e0 e1
    refine ⟨_, d, ?_, h⟩
    rw [← er]
    exact atI_nat (j := 1) (by rw [List.getElem?_map, e1]; rfl)
  · obtain ⟨d, h⟩ := met_look F ey ez2
    refine ⟨y, z, d, by rw [emap]; exact at_two _ _ _, ?_, (along_in F.al).mpr (List.mem_of_getElem? ey), (along_in F.al).mpr (List.mem_of_getElem? ez), h, fun a b hab l hl => ?_⟩
    · rw [emap, show (r0 :: m1).map PyData.str ++ [.str y, .str z] = ((r0 :: m1).map PyData.str ++ [.str y]) ++ [.str z] by simp]
      exact atI_last _ _
    · obtain ⟨_, _, C⟩ := chain_with F ey ez hab hl
      exact ⟨C.ok, tree_with C (by omega) n7 xl, sm_plan C n7 xl (fun x hx => (F.nm x hx).2) F.xo⟩
  · rw [← er]
    exact paper_yes F
  · rw [← er]
    exact paper_yes F.rev
  · exact paper_no F (s := [r0]) (t := []) (by rw [er]; simp) (by simp) (by rw [hl]; simp)
  · rw [show (r0 :: (m1 ++ [y] ++ [z])).dropLast = r0 :: (m1 ++ [y]) by rw [show r0 :: (m1 ++ [y] ++ [z]) = (r0 :: (m1 ++ [y])) ++ [z] by simp, List.dropLast_concat]]
    exact paper_no F (s := []) (t := [z]) (by rw [er]; simp) (by simp) (by rw [hl]; simp)
  · rw [← er]
    exact paper_ring F (m0 := m1 ++ [y]) er
  · rw [List.dropLast_concat]
    exact paper_no F (s := [r0]) (t := [z]) (by rw [er]; simp) (by rw [List.length_append, List.length_singleton]; omega) (by rw [hl, List.length_append, List.length_singleton]; omega)
end
theorem row_law : ∀ n P, 4 ≤ n → n ≤ 7 → RowP n P → ∃ r0 row A B, RowLaw 8 P r0 row A B := by
  intro n P h4 h7 h
  obtain ⟨r, lot, X, F⟩ := row_facts h4 h7 h
  have form : ∀ r : List Str, 4 ≤ r.length → ∃ r0 m1 y z, r = r0 :: (m1 ++ [y] ++ [z]) := by
    intro r hr
    obtain ⟨r0, t, rfl⟩ := List.exists_cons_of_ne_nil (show r ≠ [] from fun e => by rw [e] at hr; simp at hr)
    rw [List.length_cons] at hr
    have ht : t ≠ [] := fun e => by rw [e] at hr; simp at hr
    have e1 := List.dropLast_concat_getLast ht
    have hl : t.dropLast.length = t.length - 1 := List.length_dropLast
    have ht2 : t.dropLast ≠ [] := fun e => by rw [e] at hl; simp at hl; omega
    have e2 := List.dropLast_concat_getLast ht2
    exact ⟨r0, t.dropLast.dropLast, t.dropLast.getLast ht2, t.getLast ht, by rw [e2, e1]⟩
  obtain ⟨r0, m1, y, z, er⟩ := form r F.n4
  by_cases c : leS r0 z = true
  · exact ⟨_, _, _, _, row_law_of F er c⟩
  · have F' := F.rev
    obtain ⟨r0', m1', y', z', er'⟩ := form r.reverse (by rw [List.length_reverse]; exact F.n4)
    have c' : leS z r0 = true := by
      have := leS_total r0 z
      rw [Bool.or_eq_true] at this
      exact this.resolve_left c
    have hz : r0' = z := by
      have := er'
      rw [er] at this
      simp at this
      exact this.1.symm
    have h0 : z' = r0 := by
      have h1 : r.reverse.getLast? = some z' := by rw [er', show r0' :: (m1' ++ [y'] ++ [z']) = (r0' :: (m1' ++ [y'])) ++ [z'] by simp, List.getLast?_concat]
      rw [List.getLast?_reverse, er] at h1
      simpa using h1.symm
    subst hz h0
    exact ⟨_, _, _, _, row_law_of F' er' c'⟩
end KL
/-! B24: what the program's top leaves, by names. -/
namespace KL
open PySem PySem.Spec L2
def dd (nm : Str) (i : Nat) : He.DefD := ⟨(nm, none), nm, nm, defArgs (top i), defBody (top i), defScope (top i), [], []⟩
def dds1 : List He.DefD := [dd "near_of" 1, dd "paths_between" 2, dd "rings_in" 3, dd "links_along" 4, dd "shared_by" 5, dd "least_of" 6, dd "least_along" 7, dd "bad_paths" 9, dd "bad_rings" 10, dd "is_name" 16, dd "both_of" 26, dd "with_pair" 30, dd "opened" 32, dd "hung_together" 33, dd "parts_by" 34, dd "bars_of" 35, dd "wanted_early" 36, dd "in_order" 37, dd "least_share" 38, dd "laid" 39, dd "laid_early" 40, dd "lay" 41, dd "has_tree" 42, dd "is_walk" 43, dd "is_paper" 44]
def dds2 : List He.DefD := [dd "_law_bag" 46, dd "_law_take" 47, dd "_law_mixed" 48, dd "_law_alike" 49, dd "_law_rows" 50, dd "_law_share" 51, dd "_law_is_knots" 52, dd "_law_meeting" 53, dd "_law_is_plan_tree" 54, dd "_law_arrow" 55, dd "_law_full_steps" 56, dd "_law_row_plan" 57, dd "_law_is_told" 58, dd "_law_both_ways" 59, dd "_law_row_of" 60, dd "law" 61]
def dds : List He.DefD := dds1 ++ dds2
def fas1 : List He.Fa := [.glo "near_of", .glo "paths_between", .glo "rings_in", .glo "links_along", .glo "shared_by", .glo "least_of", .glo "least_along", .glo "bad_paths", .glo "bad_rings", .glo "is_name", .glo "both_of", .glo "with_pair", .glo "opened", .glo "hung_together", .glo "parts_by", .glo "bars_of", .glo "wanted_early", .glo "in_order", .glo "least_share", .glo "laid", .glo "laid_early", .glo "lay", .glo "has_tree", .glo "is_walk", .glo "is_paper"]
def fas2 : List He.Fa := [.glo "_law_bag", .glo "_law_take", .glo "_law_mixed", .glo "_law_alike", .glo "_law_rows", .glo "_law_share", .glo "_law_is_knots", .glo "_law_meeting", .glo "_law_is_plan_tree", .glo "_law_arrow", .glo "_law_full_steps", .glo "_law_row_plan", .glo "_law_is_told", .glo "_law_both_ways", .glo "_law_row_of", .glo "law"]
def fas3 : List He.Fa := [.free "len", .free "sorted", .free "all", .free "tuple", .free "list", .free "enumerate", .free "zip", .free "range", .free "reversed", .free "isinstance", .free "set", .free "min", .free "max", .free "dict", .free "sum", .free "repr", .free "abs", .free "int", .free "str", .str "LETTERS" abc, .int "LONGEST" 6]
def fas : List He.Fa := fas1 ++ (fas2 ++ fas3)
/-- a def that stands, with these parameters -/
structure Df (K : PySem.W.Frag) (mg : Str → Option Value) (nm : Str) (st : Stmt) (ps : List Str) : Prop where
  ex : ∃ f fd, Fun K nm nm st f fd ∧ mg nm = some (.ref f) ∧ Binds K fd ps []
theorem fun_of {K : PySem.W.Frag} {nm qual : Str} {st : Stmt} {f : Addr} {fd : FuncData} {kws : List (Str × V)} (F : FunD K nm qual (defArgs st) (defBody st) (defScope st) [] kws f fd) : Fun K nm qual st f fd := by
  obtain ⟨oc, od, dV, kV, doc, pm, an, cdv, ct, osl, rfl, lk, hcd, hD, _⟩ := F.ex
  obtain ⟨_, rfl⟩ | ⟨e, _⟩ := hD
  · exact ⟨⟨oc, od, kV, doc, pm, an, cdv, ct, osl, rfl, lk, hcd⟩, F.kp⟩
  · exact absurd rfl e
theorem Df.of {K : PySem.W.Frag} {mg : Str → Option Value} {nm : Str} {st : Stmt} {ps : List Str} {f : Addr} (F : ∃ fd, FunD K nm nm (defArgs st) (defBody st) (defScope st) [] [] f fd) (hm : mg nm = some (.ref f))
    (hb : ∀ (kV doc pm : Value) (an : Option Addr) (cdv ct : Value) (us : List Value), us.length = ps.length → bindArgs (PySem.W.fnOf nm nm (defArgs st) (defBody st) (defScope st) .none kV doc pm an cdv ct) ⟨us, []⟩ = pure (ps.zip us)) : Df K mg nm st ps := by
  obtain ⟨fd, F⟩ := F
  have G := fun_of F
  exact ⟨f, fd, G, hm, G.binds hb⟩
section
variable {P : Program} {w : World} {K : PySem.W.Frag} {mg : Str → Option Value} {base : Heap} {k : Nat} {nm : Str} {st : Stmt} {ps : List Str}
theorem Df.cal {R : List D → D → Prop} (D : Df K mg nm st ps) (h : ∀ f fd, Fun K nm nm st f fd → FnOk P w K mg base CX0 k f fd ps (spD K R)) : Cal P w K mg base k nm R := by
  obtain ⟨f, fd, F, hm, hb⟩ := D.ex
  exact ⟨f, fd, ps, hm, F.kp, hb, h f fd F⟩
theorem Df.calR {R : List D → D → Prop} (D : Df K mg nm st ps) (h : ∀ f fd, Fun K nm nm st f fd → mg nm = some (.ref f) → PySem.W.keepIn K (.ref f) = true → Binds K fd ps [] → FnOk P w K mg base CX0 k f fd ps (spD K R)) : Cal P w K mg base k nm R := by
  obtain ⟨f, fd, F, hm, hb⟩ := D.ex
  exact ⟨f, fd, ps, hm, F.kp, hb, h f fd F hm F.kp hb⟩
theorem Df.calE {R : List D → (D → Prop) → Prop} (D : Df K mg nm st ps) (h : ∀ f fd, Fun K nm nm st f fd → FnOk P w K mg base CX0 k f fd ps (spE K R)) : CalE P w K mg base k nm R := by
  obtain ⟨f, fd, F, hm, hb⟩ := D.ex
  exact ⟨f, fd, ps, hm, F.kp, hb, h f fd F⟩
theorem Df.calG {R : List D → D → Prop} (D : Df K mg nm st ps) (h : ∀ f fd, Fun K nm nm st f fd → FnG P w K mg base k f fd ps (spD K R)) : CalG P w K mg base k nm R := by
  obtain ⟨f, fd, F, hm, hb⟩ := D.ex
  exact ⟨f, fd, ps, hm, F.kp, hb, h f fd F⟩
end
structure AllD (K : PySem.W.Frag) (mg : Str → Option Value) : Prop where
  bi : Bi mg
  gs : Gs mg
  dNear : Df K mg "near_of" sNear ["plan"]
  dPaths : Df K mg "paths_between" sPaths ["plan", "one", "other"]
  dRings : Df K mg "rings_in" sRings ["plan"]
  dLinks : Df K mg "links_along" sLinks ["plan", "path"]
  dShared : Df K mg "shared_by" sShared ["links"]
  dLeast : Df K mg "least_of" sLeast ["links"]
  dAlong : Df K mg "least_along" sAlong ["plan", "path"]
  dBad : Df K mg "bad_paths" sBad ["plan"]
  dBadRings : Df K mg "bad_rings" sBadRings ["plan"]
  dIsName : Df K mg "is_name" sIsName ["thing"]
  dBoth : Df K mg "both_of" sBoth ["pair"]
  dWith : Df K mg "with_pair" sWith ["plan", "one", "other", "axes"]
  dOpened : Df K mg "opened" sOpened ["axes", "knots"]
  dHang : Df K mg "hung_together" sHang ["names", "pairs"]
  dParts : Df K mg "parts_by" sParts ["plan", "names", "over"]
  dBars : Df K mg "bars_of" sBars ["plan", "parts"]
  dEarly : Df K mg "wanted_early" sEarly ["bars", "parts", "early"]
  dOrder : Df K mg "in_order" sOrder ["plan", "parts", "early"]
  dShare : Df K mg "least_share" sShare ["plan", "part"]
  dLaid : Df K mg "laid" sLaid ["plan", "names", "over", "early"]
  dLaidEarly : Df K mg "laid_early" sLaidEarly ["plan", "early"]
  dLay : Df K mg "lay" sLay ["plan"]
  dHas : Df K mg "has_tree" sHas ["plan"]
  dWalk : Df K mg "is_walk" sWalk ["plan", "thing", "is_round"]
  dPaper : Df K mg "is_paper" sPaper ["plan", "thing"]
  dBag : Df K mg "_law_bag" sBag ["_law_script"]
  dTake : Df K mg "_law_take" sTake ["_law_bag_here", "_law_many"]
  dMix : Df K mg "_law_mixed" sMix ["_law_bag_here", "_law_things"]
  dAlike : Df K mg "_law_alike" sAlike ["_law_found", "_law_due"]
  dRows : Df K mg "_law_rows" sRows ["_law_knots"]
  dShareL : Df K mg "_law_share" sShareL ["_law_one", "_law_other"]
  dKnots : Df K mg "_law_is_knots" sKnots ["_law_thing", "_law_axes", "_law_leaves", "_law_over"]
  dMeet : Df K mg "_law_meeting" sMeet ["_law_plan"]
  dPlanTree : Df K mg "_law_is_plan_tree" sPlanTree ["_law_plan", "_law_thing"]
  dArrow : Df K mg "_law_arrow" sArrow ["_law_bag_here", "_law_one", "_law_other", "_law_axes"]
  dFull : Df K mg "_law_full_steps" sFull ["_law_bag_here", "_law_many"]
  dRow : Df K mg "_law_row_plan" sRow ["_law_bag_here", "_law_many"]
  dTold : Df K mg "_law_is_told" sTold ["_law_plan", "_law_can", "_law_papers"]
  dWays : Df K mg "_law_both_ways" sWays ["_law_path"]
  dRowOf : Df K mg "_law_row_of" sRowOf ["_law_plan"]
  dLaw : Df K mg "law" sLaw ["_law_script"]
set_option maxHeartbeats 0 in
theorem all_d {K : PySem.W.Frag} {h : Heap} {mg : Str → Option Value} (X : K.In h) (G : h.Ns mainGlobals mg) (c : He.SaysD fas dds K) : AllD K mg := by
  refine ⟨⟨He.free_ok X G (c.fact 41 (f := .free "len") rfl), He.free_ok X G (c.fact 42 (f := .free "sorted") rfl), He.free_ok X G (c.fact 43 (f := .free "all") rfl), He.free_ok X G (c.fact 44 (f := .free "tuple") rfl), He.free_ok X G (c.fact 45 (f := .free "list") rfl), He.free_ok X G (c.fact 46 (f := .free "enumerate") rfl), He.free_ok X G (c.fact 47 (f := .free "zip") rfl), He.free_ok X G (c.fact 48 (f := .free "range") rfl), He.free_ok X G (c.fact 49 (f := .free "reversed") rfl), He.free_ok X G (c.fact 50 (f := .free "isinstance") rfl), He.free_ok X G (c.fact 51 (f := .free "set") rfl), He.free_ok X G (c.fact 52 (f := .free "min") rfl), He.free_ok X G (c.fact 53 (f := .free "max") rfl), He.free_ok X G (c.fact 54 (f := .free "dict") rfl), He.free_ok X G (c.fact 55 (f := .free "sum") rfl), He.free_ok X G (c.fact 56 (f := .free "repr") rfl), He.free_ok X G (c.fact 57 (f := .free "abs") rfl), He.free_ok X G (c.fact 58 (f := .free "int") rfl), He.free_ok X G (c.fact 59 (f := .free "str") rfl)⟩, ⟨?_, ?_⟩, ?d1, ?d2, ?d3, ?d4, ?d5, ?d6, ?d7, ?d9, ?d10, ?d16, ?d26, ?d30, ?d32, ?d33, ?d34, ?d35, ?d36, ?d37, ?d38, ?d39, ?d40, ?d41, ?d42, ?d43, ?d44, ?d46, ?d47, ?d48, ?d49, ?d50, ?d51, ?d52, ?d53, ?d54, ?d55, ?d56, ?d57, ?d58, ?d59, ?d60, ?d61⟩
  · exact He.str_ok X G (c.fact 60 (f := .str "LETTERS" abc) rfl)
  · exact He.int_ok X G (c.fact 61 (f := .int "LONGEST" 6) rfl)
  case d1 => exact .of (st := sNear) (c.def_ 0 (d := dd "near_of" 1) rfl) (He.glo_ok X G (c.fact 0 (f := .glo "near_of") rfl)) fun _ _ _ _ _ _ us hl => match us, hl with | [_], _ => rfl
  case d2 => exact .of (st := sPaths) (c.def_ 1 (d := dd "paths_between" 2) rfl) (He.glo_ok X G (c.fact 1 (f := .glo "paths_between") rfl)) fun _ _ _ _ _ _ us hl => match us, hl with | [_, _, _], _ => rfl
  case d3 => exact .of (st := sRings) (c.def_ 2 (d := dd "rings_in" 3) rfl) (He.glo_ok X G (c.fact 2 (f := .glo "rings_in") rfl)) fun _ _ _ _ _ _ us hl => match us, hl with | [_], _ => rfl
  case d4 => exact .of (st := sLinks) (c.def_ 3 (d := dd "links_along" 4) rfl) (He.glo_ok X G (c.fact 3 (f := .glo "links_along") rfl)) fun _ _ _ _ _ _ us hl => match us, hl with | [_, _], _ => rfl
  case d5 => exact .of (st := sShared) (c.def_ 4 (d := dd "shared_by" 5) rfl) (He.glo_ok X G (c.fact 4 (f := .glo "shared_by") rfl)) fun _ _ _ _ _ _ us hl => match us, hl with | [_], _ => rfl
  case d6 => exact .of (st := sLeast) (c.def_ 5 (d := dd "least_of" 6) rfl) (He.glo_ok X G (c.fact 5 (f := .glo "least_of") rfl)) fun _ _ _ _ _ _ us hl => match us, hl with | [_], _ => rfl
  case d7 => exact .of (st := sAlong) (c.def_ 6 (d := dd "least_along" 7) rfl) (He.glo_ok X G (c.fact 6 (f := .glo "least_along") rfl)) fun _ _ _ _ _ _ us hl => match us, hl with | [_, _], _ => rfl
  case d9 => exact .of (st := sBad) (c.def_ 7 (d := dd "bad_paths" 9) rfl) (He.glo_ok X G (c.fact 7 (f := .glo "bad_paths") rfl)) fun _ _ _ _ _ _ us hl => match us, hl with | [_], _ => rfl
  case d10 => exact .of (st := sBadRings) (c.def_ 8 (d := dd "bad_rings" 10) rfl) (He.glo_ok X G (c.fact 8 (f := .glo "bad_rings") rfl)) fun _ _ _ _ _ _ us hl => match us, hl with | [_], _ => rfl
  case d16 => exact .of (st := sIsName) (c.def_ 9 (d := dd "is_name" 16) rfl) (He.glo_ok X G (c.fact 9 (f := .glo "is_name") rfl)) fun _ _ _ _ _ _ us hl => match us, hl with | [_], _ => rfl
  case d26 => exact .of (st := sBoth) (c.def_ 10 (d := dd "both_of" 26) rfl) (He.glo_ok X G (c.fact 10 (f := .glo "both_of") rfl)) fun _ _ _ _ _ _ us hl => match us, hl with | [_], _ => rfl
  case d30 => exact .of (st := sWith) (c.def_ 11 (d := dd "with_pair" 30) rfl) (He.glo_ok X G (c.fact 11 (f := .glo "with_pair") rfl)) fun _ _ _ _ _ _ us hl => match us, hl with | [_, _, _, _], _ => rfl
  case d32 => exact .of (st := sOpened) (c.def_ 12 (d := dd "opened" 32) rfl) (He.glo_ok X G (c.fact 12 (f := .glo "opened") rfl)) fun _ _ _ _ _ _ us hl => match us, hl with | [_, _], _ => rfl
  case d33 => exact .of (st := sHang) (c.def_ 13 (d := dd "hung_together" 33) rfl) (He.glo_ok X G (c.fact 13 (f := .glo "hung_together") rfl)) fun _ _ _ _ _ _ us hl => match us, hl with | [_, _], _ => rfl
  case d34 => exact .of (st := sParts) (c.def_ 14 (d := dd "parts_by" 34) rfl) (He.glo_ok X G (c.fact 14 (f := .glo "parts_by") rfl)) fun _ _ _ _ _ _ us hl => match us, hl with | [_, _, _], _ => rfl
  case d35 => exact .of (st := sBars) (c.def_ 15 (d := dd "bars_of" 35) rfl) (He.glo_ok X G (c.fact 15 (f := .glo "bars_of") rfl)) fun _ _ _ _ _ _ us hl => match us, hl with | [_, _], _ => rfl
  case d36 => exact .of (st := sEarly) (c.def_ 16 (d := dd "wanted_early" 36) rfl) (He.glo_ok X G (c.fact 16 (f := .glo "wanted_early") rfl)) fun _ _ _ _ _ _ us hl => match us, hl with | [_, _, _], _ => rfl
  case d37 => exact .of (st := sOrder) (c.def_ 17 (d := dd "in_order" 37) rfl) (He.glo_ok X G (c.fact 17 (f := .glo "in_order") rfl)) fun _ _ _ _ _ _ us hl => match us, hl with | [_, _, _], _ => rfl
  case d38 => exact .of (st := sShare) (c.def_ 18 (d := dd "least_share" 38) rfl) (He.glo_ok X G (c.fact 18 (f := .glo "least_share") rfl)) fun _ _ _ _ _ _ us hl => match us, hl with | [_, _], _ => rfl
  case d39 => exact .of (st := sLaid) (c.def_ 19 (d := dd "laid" 39) rfl) (He.glo_ok X G (c.fact 19 (f := .glo "laid") rfl)) fun _ _ _ _ _ _ us hl => match us, hl with | [_, _, _, _], _ => rfl
  case d40 => exact .of (st := sLaidEarly) (c.def_ 20 (d := dd "laid_early" 40) rfl) (He.glo_ok X G (c.fact 20 (f := .glo "laid_early") rfl)) fun _ _ _ _ _ _ us hl => match us, hl with | [_, _], _ => rfl
  case d41 => exact .of (st := sLay) (c.def_ 21 (d := dd "lay" 41) rfl) (He.glo_ok X G (c.fact 21 (f := .glo "lay") rfl)) fun _ _ _ _ _ _ us hl => match us, hl with | [_], _ => rfl
  case d42 => exact .of (st := sHas) (c.def_ 22 (d := dd "has_tree" 42) rfl) (He.glo_ok X G (c.fact 22 (f := .glo "has_tree") rfl)) fun _ _ _ _ _ _ us hl => match us, hl with | [_], _ => rfl
  case d43 => exact .of (st := sWalk) (c.def_ 23 (d := dd "is_walk" 43) rfl) (He.glo_ok X G (c.fact 23 (f := .glo "is_walk") rfl)) fun _ _ _ _ _ _ us hl => match us, hl with | [_, _, _], _ => rfl
  case d44 => exact .of (st := sPaper) (c.def_ 24 (d := dd "is_paper" 44) rfl) (He.glo_ok X G (c.fact 24 (f := .glo "is_paper") rfl)) fun _ _ _ _ _ _ us hl => match us, hl with | [_, _], _ => rfl
  case d46 => exact .of (st := sBag) (c.def_ 25 (d := dd "_law_bag" 46) rfl) (He.glo_ok X G (c.fact 25 (f := .glo "_law_bag") rfl)) fun _ _ _ _ _ _ us hl => match us, hl with | [_], _ => rfl
  case d47 => exact .of (st := sTake) (c.def_ 26 (d := dd "_law_take" 47) rfl) (He.glo_ok X G (c.fact 26 (f := .glo "_law_take") rfl)) fun _ _ _ _ _ _ us hl => match us, hl with | [_, _], _ => rfl
  case d48 => exact .of (st := sMix) (c.def_ 27 (d := dd "_law_mixed" 48) rfl) (He.glo_ok X G (c.fact 27 (f := .glo "_law_mixed") rfl)) fun _ _ _ _ _ _ us hl => match us, hl with | [_, _], _ => rfl
  case d49 => exact .of (st := sAlike) (c.def_ 28 (d := dd "_law_alike" 49) rfl) (He.glo_ok X G (c.fact 28 (f := .glo "_law_alike") rfl)) fun _ _ _ _ _ _ us hl => match us, hl with | [_, _], _ => rfl
  case d50 => exact .of (st := sRows) (c.def_ 29 (d := dd "_law_rows" 50) rfl) (He.glo_ok X G (c.fact 29 (f := .glo "_law_rows") rfl)) fun _ _ _ _ _ _ us hl => match us, hl with | [_], _ => rfl
  case d51 => exact .of (st := sShareL) (c.def_ 30 (d := dd "_law_share" 51) rfl) (He.glo_ok X G (c.fact 30 (f := .glo "_law_share") rfl)) fun _ _ _ _ _ _ us hl => match us, hl with | [_, _], _ => rfl
  case d52 => exact .of (st := sKnots) (c.def_ 31 (d := dd "_law_is_knots" 52) rfl) (He.glo_ok X G (c.fact 31 (f := .glo "_law_is_knots") rfl)) fun _ _ _ _ _ _ us hl => match us, hl with | [_, _, _, _], _ => rfl
  case d53 => exact .of (st := sMeet) (c.def_ 32 (d := dd "_law_meeting" 53) rfl) (He.glo_ok X G (c.fact 32 (f := .glo "_law_meeting") rfl)) fun _ _ _ _ _ _ us hl => match us, hl with | [_], _ => rfl
  case d54 => exact .of (st := sPlanTree) (c.def_ 33 (d := dd "_law_is_plan_tree" 54) rfl) (He.glo_ok X G (c.fact 33 (f := .glo "_law_is_plan_tree") rfl)) fun _ _ _ _ _ _ us hl => match us, hl with | [_, _], _ => rfl
  case d55 => exact .of (st := sArrow) (c.def_ 34 (d := dd "_law_arrow" 55) rfl) (He.glo_ok X G (c.fact 34 (f := .glo "_law_arrow") rfl)) fun _ _ _ _ _ _ us hl => match us, hl with | [_, _, _, _], _ => rfl
  case d56 => exact .of (st := sFull) (c.def_ 35 (d := dd "_law_full_steps" 56) rfl) (He.glo_ok X G (c.fact 35 (f := .glo "_law_full_steps") rfl)) fun _ _ _ _ _ _ us hl => match us, hl with | [_, _], _ => rfl
  case d57 => exact .of (st := sRow) (c.def_ 36 (d := dd "_law_row_plan" 57) rfl) (He.glo_ok X G (c.fact 36 (f := .glo "_law_row_plan") rfl)) fun _ _ _ _ _ _ us hl => match us, hl with | [_, _], _ => rfl
  case d58 => exact .of (st := sTold) (c.def_ 37 (d := dd "_law_is_told" 58) rfl) (He.glo_ok X G (c.fact 37 (f := .glo "_law_is_told") rfl)) fun _ _ _ _ _ _ us hl => match us, hl with | [_, _, _], _ => rfl
  case d59 => exact .of (st := sWays) (c.def_ 38 (d := dd "_law_both_ways" 59) rfl) (He.glo_ok X G (c.fact 38 (f := .glo "_law_both_ways") rfl)) fun _ _ _ _ _ _ us hl => match us, hl with | [_], _ => rfl
  case d60 => exact .of (st := sRowOf) (c.def_ 39 (d := dd "_law_row_of" 60) rfl) (He.glo_ok X G (c.fact 39 (f := .glo "_law_row_of") rfl)) fun _ _ _ _ _ _ us hl => match us, hl with | [_], _ => rfl
  case d61 => exact .of (st := sLaw) (c.def_ 40 (d := dd "law" 61) rfl) (He.glo_ok X G (c.fact 40 (f := .glo "law") rfl)) fun _ _ _ _ _ _ us hl => match us, hl with | [_], _ => rfl
end KL
/-! B25: the law's def keeps its promise; the end. -/
namespace KL
open PySem PySem.Spec L2
section
variable {mg : Str → Option Value} {base : Heap} {P : Program} {w : World} {K : PySem.W.Frag}
theorem law_all (D : AllD K mg) {f : Addr} {fd : FuncData} (F : Fun K "law" "law" sLaw f fd) : FnG P w K mg base 24 f fd ["_law_script"] (spD K RLaw) := by
  have B := D.bi
  have near : Cal P w K mg base 1 "near_of" RNear := D.dNear.cal fun f fd F => ok_near F B
  have paths : Cal P w K mg base 2 "paths_between" RPaths := D.dPaths.cal fun f fd F => ok_paths F B near
  have rings : Cal P w K mg base 3 "rings_in" RRings := D.dRings.cal fun f fd F => ok_rings F B (near.mono (by decide)) paths
  have badrings : Cal P w K mg base 4 "bad_rings" RRings := D.dBadRings.cal fun f fd F => ok_badrings F B rings
  have links : Cal P w K mg base 1 "links_along" RLinks := D.dLinks.cal fun f fd F => ok_links F B
  have shared : Cal P w K mg base 1 "shared_by" RShared := D.dShared.cal fun f fd F => ok_shared F B
  have least : Cal P w K mg base 2 "least_of" RLeast := D.dLeast.cal fun f fd F => ok_least F B shared
  have along : Cal P w K mg base 3 "least_along" RAlong := D.dAlong.cal fun f fd F => ok_along F B (links.mono (by decide)) least
  have bad : Cal P w K mg base 4 "bad_paths" RBad := D.dBad.cal fun f fd F => ok_bad F B (paths.mono (by decide)) along
  have isname : Cal P w K mg base 1 "is_name" RIsName := D.dIsName.cal fun f fd F => ok_isname F B D.gs
  have both : Cal P w K mg base 1 "both_of" RBoth := D.dBoth.cal fun f fd F => ok_both F B
  have wth : Cal P w K mg base 2 "with_pair" RWith := D.dWith.cal fun f fd F => ok_with F B both
  have opened : Cal P w K mg base 1 "opened" ROpened := D.dOpened.cal fun f fd F => ok_opened F B
  have hang : Cal P w K mg base 1 "hung_together" RHang := D.dHang.cal fun f fd F => ok_hang F B
  have parts : Cal P w K mg base 2 "parts_by" RParts := D.dParts.cal fun f fd F => ok_parts F B hang
  have bars : Cal P w K mg base 1 "bars_of" RBars := D.dBars.cal fun f fd F => ok_bars F B
  have early : Cal P w K mg base 1 "wanted_early" REarly := D.dEarly.cal fun f fd F => ok_early F B
  have order : Cal P w K mg base 2 "in_order" ROrder := D.dOrder.cal fun f fd F => ok_order F B bars early
  have share : Cal P w K mg base 1 "least_share" RShare := D.dShare.cal fun f fd F => ok_share F B
  have laid : Cal P w K mg base 10 "laid" (RLaid 8) := D.dLaid.calR fun f fd F hm hk hb => ok_laid F hm hk hb B order parts (share.mono (by decide)) (opened.mono (by decide)) 8
  have laidearly : Cal P w K mg base 11 "laid_early" (REarlyL 8) := D.dLaidEarly.cal fun f fd F => ok_laidearly F B laid
  have lay : Cal P w K mg base 12 "lay" (RLay 8) := D.dLay.cal fun f fd F => ok_lay F B (bad.mono (by decide)) (badrings.mono (by decide)) laidearly
  have has : Cal P w K mg base 13 "has_tree" (RHas 8) := D.dHas.cal fun f fd F => ok_has F B lay
  have walk : Cal P w K mg base 2 "is_walk" RWalk := D.dWalk.cal fun f fd F => ok_walk F B near isname
  have paper : Cal P w K mg base 4 "is_paper" RPaper := D.dPaper.cal fun f fd F => ok_paper F B (walk.mono (by decide)) along
  have bag : CalE P w K mg base 1 "_law_bag" RBagM := D.dBag.calE fun f fd F => ok_bag F B
  have take : CalE P w K mg base 1 "_law_take" RTake := D.dTake.calE fun f fd F => ok_take F B
  have mix : CalE P w K mg base 2 "_law_mixed" RMix := D.dMix.calE fun f fd F => ok_mix F B take
  have arrow : CalE P w K mg base 2 "_law_arrow" RArrow := D.dArrow.calE fun f fd F => ok_arrow F B take
  have full : CalE P w K mg base 3 "_law_full_steps" RFull := D.dFull.calE fun f fd F => ok_full F B (take.mono (by decide)) mix
  have row : CalE P w K mg base 4 "_law_row_plan" RRow := D.dRow.calE fun f fd F => ok_row F B (take.mono (by decide)) (mix.mono (by decide)) full (arrow.mono (by decide))
  have alike : CalG P w K mg base 1 "_law_alike" RAlike := D.dAlike.calG fun f fd F => ok_alike F B
  have ways : Cal P w K mg base 1 "_law_both_ways" RWays := D.dWays.cal fun f fd F => ok_ways F B
  have sharel : Cal P w K mg base 1 "_law_share" RShareL := D.dShareL.cal fun f fd F => ok_sharel F B
  have rows : Cal P w K mg base 21 "_law_rows" (RRows 21) := D.dRows.calR fun f fd F hm hk hb => ok_rows (k := 0) F hm hk hb B 21
  have knots : Cal P w K mg base 21 "_law_is_knots" (RKnots 21) := D.dKnots.calR fun f fd F hm hk hb => ok_knots (k := 0) F hm hk hb B 21
  have meet : Cal P w K mg base 1 "_law_meeting" RMeet := D.dMeet.cal fun f fd F => ok_meet F B
  have rowof : Cal P w K mg base 2 "_law_row_of" RRowOf := D.dRowOf.cal fun f fd F => ok_rowof F B meet
  have plantree : Cal P w K mg base 22 "_law_is_plan_tree" RPlanTree := D.dPlanTree.cal fun f fd F => ok_plantree F B knots rows (sharel.mono (by decide))
  have told : CalG P w K mg base 23 "_law_is_told" (RTold 8) := D.dTold.calG fun f fd F => ok_told F B (lay.mono (by decide)) (has.mono (by decide)) (alike.mono (by decide)) plantree
  exact ok_law row_law F B (bag.mono (by decide)) (take.mono (by decide)) (row.mono (by decide)) (rowof.mono (by decide)) (meet.mono (by decide)) (alike.mono (by decide)) (bad.mono (by decide)) (badrings.mono (by decide)) told (ways.mono (by decide)) (paper.mono (by decide)) (wth.mono (by decide))
end
/-- the law's call, where no repr is under way -/
theorem law_callG {P : Program} {w : World} {K : PySem.W.Frag} {mg mb : Str → Option Value} {k : Nat} {fa a : Addr} {fd : FuncData} {x : Str} {sp : Sp} {s1 : Shared} {vs : List Value} {ns : List Int}
    (KX : K.In s1.heap) (hns : s1.heap.Ns mainGlobals mg) (hb : s1.heap.Ns builtinsNs mb) (hbb : ∀ x : Str, x ≠ "__name__" → mb x = bootBuiltins x) (hlim : s1.heap.NoLimit) (hgn : s1.gens = #[]) (hobj : s1.heap.get? a = some { cls := .type "list", data := .seq vs.toArray })
    (hi : PyProof.Rows.IntsAre vs ns) (hl : ns.length ≤ sizeLine) (hr : Room k callerA) (hgd : callerA.guards = some []) (G : ∀ base : Heap, K.In base → base.Ns mainGlobals mg → FnG P w K mg base k fa fd [x] sp)
    (bnd : ∀ (s : Shared) (u : Value), BindsTo s fd ⟨[u], []⟩ [(x, u)]) (hsp : ∀ H : Hp, Only H → SqL K H a (ns.map V.int) → sp [.ref a] H (fun v _ => v = .bl true) fun _ _ _ => False) :
    codeAny (model P w) callerA (.call (.ref fa) ⟨[.ref a], []⟩) (fun r s' => r = .ok (.ret (.bool true)) ∧ OldK s1.heap s'.heap ∧ s'.os = s1.os ∧ PyProof.Rows.AllBare s'.gens) s1 := by
  have vals := vals_ints hi
  have vlen := hi.length
  have main : ∀ H : Hp, Only H → SqL K H a (ns.map V.int) → L2.HOk P w H s1.heap → (∀ b, H b ≠ none → b = a) → (H a ≠ none → K.lookup a = none) →
      codeAny (model P w) callerA (.call (.ref fa) ⟨[.ref a], []⟩) (fun r s' => r = .ok (.ret (.bool true)) ∧ OldK s1.heap s'.heap ∧ s'.os = s1.os ∧ PyProof.Rows.AllBare s'.gens) s1 := by
    intro H only sq hok one notK
    have notDict : ∀ {b : Addr} {o : Obj} {es : Array DictEntry} {ep : Nat}, s1.heap.get? b = some o → o.data = .dict es ep → H b = none := by
      intro b o es ep e d
      cases q : H b with
      | none => rfl
      | some u =>
        have eb : b = a := one b (by rw [q]; simp)
        subst eb
        rw [hobj] at e
        cases e
        have d2 : Data.seq vs.toArray _ = Data.dict es ep := d
        cases d2
    have nsHid : ∀ {b : Addr} {m : Str → Option Value}, s1.heap.Ns b m → (hidT s1.heap H).Ns b m := by
      intro b m ⟨o, es, ep, e, d, r⟩
      exact ⟨o, es, ep, hidT_get e (notDict e d), d, r⟩
    have inHid : K.In (hidT s1.heap H) := by
      intro b o e
      refine hidT_get (KX b o e) ?_
      cases q : H b with
      | none => rfl
      | some u =>
        have eb : b = a := one b (by rw [q]; simp)
        subst eb
        rw [notK (by rw [q]; simp)] at e
        cases e
    have md : Mod K mg (hidT s1.heap H) := ⟨inHid, nsHid hns, ⟨mb, nsHid hb, hbb⟩, by
      obtain ⟨mc, l1, l2⟩ := hlim
      exact ⟨mc, nsHid l1, l2⟩⟩
    have env : Env0 P w K mg (hidT s1.heap H) callerA [] s1 H := ⟨rfl, md, fun b o e => of_hidT e, Nat.le_of_eq (hidT_size _ _), trivial, fun b h => absurd (show b ∈ ([] : List Addr) from h) (by simp), hok, .of_eq hgn⟩
    have ran := (G _ inHid (nsHid hns)).go callerA [] s1 H ⟨[.ref a], []⟩ [.ref a] [.ref a] _ _ hgd hr env (bnd s1 (.ref a)) (.cons rfl .nil) (hsp H only sq)
    refine codeAny_mono ran fun r s' h => ?_
    match r, h with
    | .error e, h => exact h.elim
    | .ok .next, h => exact False.elim h
    | .ok .brk, h => exact False.elim h
    | .ok .cont, h => exact False.elim h
    | .ok (.ret u), h =>
      rcases h with ⟨v, H', os, bare, un, hok', r', q⟩
      have qv : v = .bl true := q
      subst qv
      cases (show u = Value.bool true from r')
      refine ⟨rfl, OldK.of_keep fun b o here => ?_, os, bare⟩
      cases q : H b with
      | none => exact un.keep b o here q (fun z => absurd (show b ∈ ([] : List Addr) from z) (by simp)) (by simp)
      | some u =>
        rcases only b with z | ⟨ob, xs, z⟩
        · rw [q] at z
          cases z
        · have z2 := un.frzs b ob _ z
          obtain ⟨e1, _⟩ := hok b _ z
          obtain ⟨e2, _⟩ := hok' b _ z2
          rw [here] at e1
          cases e1
          exact e2
  cases hk : K.lookup a with
  | some o =>
    have e := KX a o hk
    rw [hobj] at e
    cases e
    have none1 : ∀ b u, (fun _ => none : Hp) b = some u → False := fun b u z => by
      have z' : (none : Option HO) = some u := z
      cases z'
    exact main (fun _ => none) (fun _ => .inl rfl) (.inr ⟨_, vs.toArray, _, hk, rfl, rfl, rfl, by rw [List.size_toArray, vlen]; exact hl, by simpa using vals⟩) (fun b u z => (none1 b u z).elim) (fun b z => absurd rfl z) (fun z => absurd rfl z)
  | none =>
    have here : ∀ {b : Addr} {u : HO}, (fun b => if b = a then some (.frz { cls := .type "list", data := .seq vs.toArray } (.lst (ns.map V.int))) else none : Hp) b = some u → b = a ∧ u = .frz { cls := .type "list", data := .seq vs.toArray } (.lst (ns.map V.int)) := by
      intro b u z
      by_cases c : b = a
      · have z' := (if_pos c).symm.trans z
        exact ⟨c, (Option.some.inj z').symm⟩
      · have z' := (if_neg c).symm.trans z
        cases z'
    refine main (fun b => if b = a then some (.frz { cls := .type "list", data := .seq vs.toArray } (.lst (ns.map V.int))) else none) (fun b => ?_) (.inl (.inr ⟨{ cls := .type "list", data := .seq vs.toArray }, if_pos rfl⟩)) (fun b u z => ?_) (fun b z => ?_) (fun _ => hk)
    · by_cases c : b = a
      · exact .inr ⟨_, _, if_pos c⟩
      · exact .inl (if_neg c)
    · obtain ⟨rfl, rfl⟩ := here z
      exact ⟨hobj, by rw [List.length_map]; exact hl, vs, _, vals, hobj⟩
    · apply Classical.byContradiction
      intro c
      exact z (if_neg c)
theorem walk_ofG {l : PySem.W.OpenLaw} {n k : Nat} {q : Program} {loose : List Str} {XP : (Str → Option Value) → Heap → Prop} {YP : World → Heap → Prop} {d : DefRec} {x : Str} (hn : l.most = some n) (hn2 : n ≤ sizeLine) (hdf : d.params.defaults = []) (hr : Room k callerA)
    (F : ∀ (w : World) (mg : Str → Option Value) (fa : Addr) (h : Heap), YP w h → h.Ns mainGlobals mg → mg d.name = some (.ref fa) → ∃ (K : PySem.W.Frag) (fd : FuncData) (sp : Sp), K.In h ∧ (∀ (s : Shared) (u : Value), BindsTo s fd ⟨[u], []⟩ [(x, u)]) ∧
      (∀ (H : Hp) (a : Addr) (ns : List Int), ns.length ≤ n → Only H → SqL K H a (ns.map V.int) → sp [.ref a] H (fun v _ => v = .bl true) fun _ _ _ => False) ∧ ∀ base : Heap, K.In base → base.Ns mainGlobals mg → FnG l.prog w K mg base k fa fd [x] sp) :
    PySem.W.WalkO q loose XP YP l.row.toRowW d [] (fun g us => PySem.call g us) := by
  refine Att.attach_call hn hdf fun w s0 s1 mg mb fa o pm cd doc a vs ns G Y ho hd hcd hmg hobj hints hlen hg => ?_
  rcases F w mg fa _ Y G.T.g hmg with ⟨K, fd, sp, KX, hb, hsp, hF⟩
  exact law_callG KX G.T.g G.T.b G.T.builtins G.T.nolimit hg hobj hints (Nat.le_trans hlen hn2) hr rfl hF hb fun H hO hS => hsp H a ns hlen hO hS
end KL
set_option maxHeartbeats 0
/-! B26: the head; the law. -/
namespace KL
open PySem L2 PySem.Spec PyProof.Rows
theorem intsDp {K : PySem.W.Frag} {F : Hp} : ∀ ns : List Int, DpAll K F (ns.map V.int) (ns.map PyData.int)
  | [] => .nil
  | n :: ns => .cons (Dp.int n) (intsDp ns)
theorem law_sp {K : PySem.W.Frag} {H : Hp} {a : Addr} {ns : List Int} (hl : ns.length ≤ 63) (sq : SqL K H a (ns.map V.int)) : spD K RLaw [.ref a] H (fun v _ => v = .bl true) fun _ _ _ => False := by
  refine ⟨H, [.d (.list (ns.map .int))], .d (.bool true), .refl H, .cons (Dp.lst sq (intsDp ns)) .nil, ⟨ns, by omega, rfl, rfl⟩, fun F' H' v _ is => ?_⟩
  cases (show Dp K F' v (.bool true) from is)
  rfl
abbrev RR : PySem.W.OpenRow := PySem.W.OpenLaw.row PySem.Challenge.rw_keptalong_k30_whole_rows_that_do_not_fit
def loose1 : List Str := ["near_of", "paths_between", "rings_in", "links_along", "shared_by", "least_of", "least_along", "least_round", "bad_paths", "bad_rings", "LETTERS", "LONGEST", "LOOP", "ADD", "is_name", "statements_in", "row_of", "place_of", "loops_over", "shared_axes", "share_in", "comes_ahead", "both_of", "adds_of", "adds_in", "is_tree_of", "with_pair", "opened"]
def loose2 : List Str := ["hung_together", "parts_by", "bars_of", "wanted_early", "in_order", "least_share", "laid", "laid_early", "lay", "has_tree", "is_walk", "is_paper", "_law_bag", "_law_take", "_law_mixed", "_law_alike", "_law_rows", "_law_share", "_law_is_knots", "_law_meeting", "_law_is_plan_tree", "_law_arrow", "_law_full_steps", "_law_row_plan", "_law_is_told", "_law_both_ways", "_law_row_of"]
def looseN : List Str := loose1 ++ loose2
abbrev hk0 : PySem.W.Hook := He.hookD 4 fas dds
def ob0 (s : PySem.W.SharedT) : He.AlD := He.obsDG 4 fas dds (HandSHeadRun.getT s)
theorem ob0_eq (s : PySem.W.SharedT) : ob0 s = hk0.obs s.abs := He.obsDG_eq (HandSHeadRun.getT_eq s)
theorem run0 (w : World) : HandSHeadRun.RunEq RR (PySem.W.view RR.prog [61]) hk0 ob0 2000 looseN w := by
  intro os
  kernel_rfl
end KL
open PySem PySem.Calls PySem.W PyProof.Rows
theorem PySem.Challenge.cw_keptalong_k30_whole_rows_that_do_not_fit_holds : PySem.Challenge.rw_keptalong_k30_whole_rows_that_do_not_fit.Holds := by
  w_on; o_law
  refine HandSHeadRun.head_any (r := KL.RR) (q := view KL.RR.prog [61]) (H := KL.hk0) (ob := KL.ob0) (M := 2000) (loose := KL.looseN) (d := HandSHeadRun.topDef KL.RR.prog 61) (kwd := []) KL.ob0_eq (by kernel_rfl) (fun s => by kernel_rfl)
    KL.run0 (by kernel_rfl) (by kernel_rfl) (by kernel_rfl) (by rfl) (by first | assumption | decide +kernel) (by decide +kernel) ⟨rfl, rfl, rfl, rfl, rfl, by decide +kernel⟩ ?hw ?hc
  case hw => w_witness2
  case hc =>
    refine KL.walk_ofG (l := PySem.Challenge.rw_keptalong_k30_whole_rows_that_do_not_fit) (n := 63) (k := 24) (x := "_law_script") rfl (by decide) (by kernel_rfl) ⟨rfl, by decide, by decide⟩ fun w mg fa h Y G named => ?_
    obtain ⟨K, KX, c⟩ := Y
    have isLaw : mg ("law" : PySem.Str) = some (.ref fa) := by
      have e : (HandSHeadRun.topDef KL.RR.prog 61).name = ("law" : PySem.Str) := by kernel_rfl
      rw [← e]
      exact named
    have D := KL.all_d KX G c
    obtain ⟨f, fd, F, hm, hb⟩ := D.dLaw.ex
    have e := isLaw.symm.trans hm
    cases e
    rcases F.ex with ⟨oc, od, kV, doc, pm, an, cdv, ct, osl, rfl, lk, hcd⟩
    exact ⟨K, _, KL.spD K KL.RLaw, KX, fun s u => .of_eq rfl, fun H a ns hl _ sq => KL.law_sp hl sq, fun base _ _ => KL.law_all D F⟩
