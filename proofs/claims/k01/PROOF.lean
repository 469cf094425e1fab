import PyProof.Rows.All
import HandS.ForMost
import HandS.ForExc
import HandS.Wide
import HandS.Deep
import HandS.Gcd
import HandS.IsInst
import HandS.TryMany
import HandS.CallSlots
import HandS.TupLe
import HandS.Zip
import HandS.Style
import HandS.Flow
import HandS.RaiseMore
import HandS.ExcIs
import HandS.Codes
import KE.BitLaws
import PySem.Challenge.RW_viewsalone_k01_a_fractions_one_by_one
section
set_option Elab.async false
set_option linter.all false
set_option maxRecDepth 100000
set_option maxHeartbeats 4000000
/-! a reckoner over plain data, and what its data stand for in the abstract heap -/
namespace Ev
open PySem PySem.Spec PyProof.Rows L2

/-- plain data: tuples and lists as they stand; ro: a list that is only read (the script, a list of the top); loc: a list that is changed by several hands; cst: a class, a def, a type -/
inductive D where
  | non | bl (b : Bool) | int (i : Int) | str (s : Str)
  | tup (xs : List D) | lst (xs : List D) | ro (xs : List D)
  | loc (n : Nat) | cst (v : V)

/-- what is known of the heap: F frozen, O another's own, m the places of the cells -/
structure Wd where
  F : Addr → Prop
  O : Addr → Prop
  m : List Addr

/-- a tuple, a list of the text's top -/
def KT (K : PySem.W.Frag) (a : Addr) (vs : List V) : Prop :=
  ∃ (o : Obj) (its : Array Value) (n : Nat), K.lookup a = some o ∧ o.cls = .type "tuple" ∧ o.data = .seq its n ∧ its.size ≤ sizeLine ∧ Vals vs its.toList
def KL (K : PySem.W.Frag) (a : Addr) (vs : List V) : Prop :=
  ∃ (o : Obj) (its : Array Value) (n : Nat), K.lookup a = some o ∧ o.cls = .type "list" ∧ o.dict = none ∧ o.data = .seq its n ∧ its.size ≤ sizeLine ∧ Vals vs its.toList

mutual
inductive Rep (K : PySem.W.Frag) (w : Wd) (H : Hp) : D → V → Prop
  | non : Rep K w H .non .non
  | bl (b : Bool) : Rep K w H (.bl b) (.bl b)
  | int (i : Int) : Rep K w H (.int i) (.int i)
  | str (s : Str) : Rep K w H (.str s) (.str s)
  | tup {a : Addr} {vs : List V} {ds : List D} (hz : ds.length ≤ sizeLine) (h : (w.F a ∧ H a = some (.tup vs)) ∨ KT K a vs) (r : Reps K w H ds vs) : Rep K w H (.tup ds) (.ref a)
  | lst {a : Addr} {vs : List V} {ds : List D} (hz : ds.length ≤ sizeLine) (f : w.F a) (h : H a = some (.lst vs)) (r : Reps K w H ds vs) : Rep K w H (.lst ds) (.ref a)
  | ro {a : Addr} {vs : List V} {ds : List D} (hz : ds.length ≤ sizeLine) (h : (w.F a ∧ Rd H a (.lst vs)) ∨ KL K a vs) (r : Reps K w H ds vs) : Rep K w H (.ro ds) (.ref a)
  | loc {n : Nat} {a : Addr} (h : w.m[n]? = some a) : Rep K w H (.loc n) (.ref a)
  | cst (v : V) : Rep K w H (.cst v) v
inductive Reps (K : PySem.W.Frag) (w : Wd) (H : Hp) : List D → List V → Prop
  | nil : Reps K w H [] []
  | cons {d : D} {v : V} {ds : List D} {vs : List V} (h : Rep K w H d v) (r : Reps K w H ds vs) : Reps K w H (d :: ds) (v :: vs)
end

/-- the world goes on: what is frozen or another's stays as it is -/
structure Le (w : Wd) (H : Hp) (w' : Wd) (H' : Hp) : Prop where
  F : ∀ a, w.F a → w'.F a
  O : ∀ a, w.O a → w'.O a
  m : ∀ (n : Nat) (a : Addr), w.m[n]? = some a → w'.m[n]? = some a
  keep : ∀ a, w.F a ∨ w.O a → H' a = H a

section
variable {K : PySem.W.Frag} {w w' w2 : Wd} {H H' H2 : Hp}
theorem Le.refl : Le w H w H := ⟨fun _ h => h, fun _ h => h, fun _ _ h => h, fun _ _ => rfl⟩
theorem Le.trans (a : Le w H w' H') (b : Le w' H' w2 H2) : Le w H w2 H2 :=
  ⟨fun c h => b.F c (a.F c h), fun c h => b.O c (a.O c h), fun n c h => b.m n c (a.m n c h), fun c h => (b.keep c (by
    rcases h with h | h
    · exact .inl (a.F c h)
    · exact .inr (a.O c h))).trans (a.keep c h)⟩
mutual
theorem Rep.mono (l : Le w H w' H') : ∀ {d : D} {v : V}, Rep K w H d v → Rep K w' H' d v
  | _, _, .non => .non
  | _, _, .bl b => .bl b
  | _, _, .int i => .int i
  | _, _, .str s => .str s
  | _, _, .tup hz h r => .tup hz (h.imp (fun ⟨f, q⟩ => ⟨l.F _ f, by rw [l.keep _ (.inl f)]; exact q⟩) id) (r.mono l)
  | _, _, .lst hz f h r => .lst hz (l.F _ f) (by rw [l.keep _ (.inl f)]; exact h) (r.mono l)
  | _, _, .ro hz h r => .ro hz (h.imp (fun ⟨f, q⟩ => ⟨l.F _ f, by unfold Rd; rw [l.keep _ (.inl f)]; exact q⟩) id) (r.mono l)
  | _, _, .loc h => .loc (l.m _ _ h)
  | _, _, .cst v => .cst v
theorem Reps.mono (l : Le w H w' H') : ∀ {ds : List D} {vs : List V}, Reps K w H ds vs → Reps K w' H' ds vs
  | _, _, .nil => .nil
  | _, _, .cons h r => .cons (h.mono l) (r.mono l)
end
theorem Reps.length : ∀ {ds : List D} {vs : List V}, Reps K w H ds vs → ds.length = vs.length
  | _, _, .nil => rfl
  | _, _, .cons _ r => congrArg Nat.succ r.length
theorem Reps.get : ∀ {ds : List D} {vs : List V} {i : Nat} {d : D}, Reps K w H ds vs → ds[i]? = some d → ∃ v, vs[i]? = some v ∧ Rep K w H d v
  | _, _, _, _, .nil, e => by simp at e
  | _, _, 0, _, .cons h _, e => ⟨_, rfl, by simp at e; subst e; exact h⟩
  | _, _, i + 1, d, .cons _ r, e => by
    obtain ⟨v, h1, h2⟩ := Reps.get (i := i) (d := d) r (by simpa using e)
    exact ⟨v, by simpa using h1, h2⟩
theorem Reps.getV : ∀ {ds : List D} {vs : List V} {i : Nat} {v : V}, Reps K w H ds vs → vs[i]? = some v → ∃ d, ds[i]? = some d ∧ Rep K w H d v
  | _, _, _, _, .nil, e => by simp at e
  | _, _, 0, _, .cons h _, e => ⟨_, rfl, by simp at e; subst e; exact h⟩
  | _, _, i + 1, v, .cons _ r, e => by
    obtain ⟨d, h1, h2⟩ := Reps.getV (i := i) (v := v) r (by simpa using e)
    exact ⟨d, by simpa using h1, h2⟩
theorem Reps.append : ∀ {ds es : List D} {vs us : List V}, Reps K w H ds vs → Reps K w H es us → Reps K w H (ds ++ es) (vs ++ us)
  | _, _, _, _, .nil, s => s
  | _, _, _, _, .cons h r, s => .cons h (Reps.append r s)
theorem Reps.take : ∀ (n : Nat) {ds : List D} {vs : List V}, Reps K w H ds vs → Reps K w H (ds.take n) (vs.take n)
  | 0, _, _, _ => .nil
  | _ + 1, _, _, .nil => .nil
  | n + 1, _, _, .cons h r => .cons h (Reps.take n r)
theorem Reps.drop : ∀ (n : Nat) {ds : List D} {vs : List V}, Reps K w H ds vs → Reps K w H (ds.drop n) (vs.drop n)
  | 0, _, _, r => r
  | _ + 1, _, _, .nil => .nil
  | n + 1, _, _, .cons _ r => Reps.drop n r
theorem Reps.reverse : ∀ {ds : List D} {vs : List V}, Reps K w H ds vs → Reps K w H ds.reverse vs.reverse
  | _, _, .nil => .nil
  | _, _, .cons h r => by
    rw [List.reverse_cons, List.reverse_cons]
    exact Reps.append (Reps.reverse r) (.cons h .nil)
theorem Reps.set {d : D} {v : V} (h : Rep K w H d v) : ∀ {ds : List D} {vs : List V} (i : Nat), Reps K w H ds vs → Reps K w H (ds.set i d) (vs.set i v)
  | _, _, _, .nil => .nil
  | _, _, 0, .cons _ r => .cons h r
  | _, _, i + 1, .cons g r => .cons g (Reps.set h i r)
theorem Reps.isEmpty {ds : List D} {vs : List V} (r : Reps K w H ds vs) : vs.isEmpty = ds.isEmpty := by cases r <;> rfl
theorem Reps.ints {ns : List Int} : ∀ {vs : List V}, Reps K w H (ns.map D.int) vs → vs = ns.map V.int := by
  induction ns with
  | nil => intro vs r; cases r; rfl
  | cons n ns ih => intro vs r; cases r with | cons h r => cases h; rw [ih r]; rfl
theorem Reps.of_ints : ∀ (ns : List Int), Reps K w H (ns.map D.int) (ns.map V.int)
  | [] => .nil
  | n :: ns => .cons (.int n) (Reps.of_ints ns)
theorem Reps.bls {ns : List Bool} : ∀ {vs : List V}, Reps K w H (ns.map D.bl) vs → vs = ns.map V.bl := by
  induction ns with
  | nil => intro vs r; cases r; rfl
  | cons n ns ih => intro vs r; cases r with | cons h r => cases h; rw [ih r]; rfl
end

/-! ### cells -/
inductive Cell where
  | lst (xs : List D)
abbrev Sto := List Cell
def CellR (K : PySem.W.Frag) (w : Wd) (H : Hp) (c : Cell) (a : Addr) : Prop := match c with
  | .lst ds => ds.length ≤ sizeLine ∧ ∃ vs, H a = some (.lst vs) ∧ Reps K w H ds vs
structure WOk (K : PySem.W.Frag) (w : Wd) (H : Hp) (ρ : Sto) : Prop where
  fs : ∀ a, w.F a → ∃ o, H a = some o
  os : ∀ a, w.O a → ∃ o, H a = some o
  fo : ∀ a, w.F a → ¬ w.O a
  mf : ∀ a ∈ w.m, ¬ w.F a ∧ ¬ w.O a
  nd : w.m.Nodup
  len : w.m.length = ρ.length
  cell : ∀ (n : Nat) (c : Cell) (a : Addr), ρ[n]? = some c → w.m[n]? = some a → CellR K w H c a

/-! ### results -/
/-- how a value stands: sh shared (frozen), fr a fresh list of one's own, al the own list of a name -/
inductive Fl where
  | sh | fr | al
  deriving DecidableEq
structure Rv where
  d : D
  fl : Fl := .sh
def RepR (K : PySem.W.Frag) (w : Wd) (H : Hp) (r : Rv) (v : V) : Prop := match r.fl with
  | .sh => Rep K w H r.d v
  | .fr => ∃ a ds vs, r.d = .lst ds ∧ v = .ref a ∧ ds.length ≤ sizeLine ∧ H a = some (.lst vs) ∧ Reps K w H ds vs ∧ ¬ w.F a ∧ ¬ w.O a ∧ a ∉ w.m
  | .al => ∃ a ds vs, r.d = .lst ds ∧ v = .ref a ∧ ds.length ≤ sizeLine ∧ H a = some (.lst vs) ∧ Reps K w H ds vs ∧ w.O a
/-- what may be looked at from here on: shared, or the own list of a name -/
def Pk (K : PySem.W.Frag) (w : Wd) (H : Hp) (d : D) (v : V) : Prop :=
  Rep K w H d v ∨ ∃ a ds vs, d = .lst ds ∧ v = .ref a ∧ ds.length ≤ sizeLine ∧ H a = some (.lst vs) ∧ Reps K w H ds vs ∧ w.O a

section
variable {K : PySem.W.Frag} {w w' w2 : Wd} {H H' H2 : Hp} {ρ : Sto} {d : D} {v : V} {r : Rv}
theorem Pk.mono (l : Le w H w' H') (p : Pk K w H d v) : Pk K w' H' d v := by
  rcases p with p | ⟨a, ds, vs, e1, e2, hz, h, q, o⟩
  · exact .inl (p.mono l)
  · exact .inr ⟨a, ds, vs, e1, e2, hz, by rw [l.keep a (.inr o)]; exact h, q.mono l, l.O a o⟩
/-- the world with one more frozen place -/
def Wd.fz (w : Wd) (a : Addr) : Wd := { w with F := fun b => w.F b ∨ b = a }
theorem Le.fz {a : Addr} : Le w H (w.fz a) H := ⟨fun _ h => .inl h, fun _ h => h, fun _ _ h => h, fun _ _ => rfl⟩
theorem CellR.mono (l : Le w H w' H') {c : Cell} {a : Addr} (h : CellR K w H c a) (e : H' a = H a) : CellR K w' H' c a := by
  cases c with
  | lst ds =>
    obtain ⟨hz, vs, h1, h2⟩ := h
    exact ⟨hz, vs, by rw [e]; exact h1, h2.mono l⟩
theorem WOk.fz {a : Addr} (ok : WOk K w H ρ) (ha : ∃ o, H a = some o) (hO : ¬ w.O a) (hm : a ∉ w.m) : WOk K (w.fz a) H ρ := by
  refine ⟨fun b h => ?_, ok.os, fun b h => ?_, fun b hb => ⟨fun h => ?_, (ok.mf b hb).2⟩, ok.nd, ok.len, fun n c b h1 h2 => (ok.cell n c b h1 h2).mono Le.fz rfl⟩
  · rcases h with h | rfl
    · exact ok.fs b h
    · exact ha
  · rcases h with h | rfl
    · exact ok.fo b h
    · exact hO
  · rcases h with h | rfl
    · exact (ok.mf b hb).1 h
    · exact hm hb
theorem settle (ok : WOk K w H ρ) (h : RepR K w H r v) : ∃ w', Le w H w' H ∧ WOk K w' H ρ ∧ Pk K w' H r.d v ∧ (r.fl ≠ .al → Rep K w' H r.d v) := by
  obtain ⟨d, fl⟩ := r
  cases fl with
  | sh => exact ⟨w, Le.refl, ok, .inl h, fun _ => h⟩
  | fr =>
    obtain ⟨a, ds, vs, e1, rfl, hz, h1, q, nF, nO, nm⟩ := h
    have e1 : d = .lst ds := e1
    subst e1
    have g : Rep K (w.fz a) H (.lst ds) (.ref a) := .lst hz (.inr rfl) h1 (q.mono Le.fz)
    exact ⟨w.fz a, Le.fz, ok.fz ⟨_, h1⟩ nO nm, .inl g, fun _ => g⟩
  | al => exact ⟨w, Le.refl, ok, .inr h, fun z => absurd rfl z⟩
/-- a fresh address -/
theorem WOk.new (ok : WOk K w H ρ) {p : Addr} (hp : H p = none) : ¬ w.F p ∧ ¬ w.O p ∧ p ∉ w.m := by
  refine ⟨fun h => ?_, fun h => ?_, fun h => ?_⟩
  · obtain ⟨o, e⟩ := ok.fs p h; rw [hp] at e; cases e
  · obtain ⟨o, e⟩ := ok.os p h; rw [hp] at e; cases e
  · obtain ⟨n, hn, e⟩ := List.getElem_of_mem h
    have h1 : w.m[n]? = some p := by rw [List.getElem?_eq_getElem hn, e]
    have h2 : n < ρ.length := by rw [← ok.len]; exact hn
    have c := ok.cell n ρ[n] p (List.getElem?_eq_getElem h2) h1
    cases hc : ρ[n] with
    | lst ds => rw [hc] at c; obtain ⟨_, vs, e, _⟩ := c; rw [hp] at e; cases e
theorem Le.upd {p : Addr} {o : HO} (h1 : ¬ w.F p) (h2 : ¬ w.O p) : Le w H w (upd H p o) :=
  ⟨fun _ h => h, fun _ h => h, fun _ _ h => h, fun a h => upd_ne (by rintro rfl; rcases h with h | h; exact h1 h; exact h2 h)⟩
/-- an object that is no cell is laid or changed -/
theorem WOk.upd {p : Addr} {o : HO} (ok : WOk K w H ρ) (h1 : ¬ w.F p) (h2 : ¬ w.O p) (h3 : p ∉ w.m) : WOk K w (upd H p o) ρ := by
  refine ⟨fun b h => ?_, fun b h => ?_, ok.fo, ok.mf, ok.nd, ok.len, fun n c b e1 e2 => (ok.cell n c b e1 e2).mono (Le.upd h1 h2) (upd_ne ?_)⟩
  · rw [upd_ne (by rintro rfl; exact h1 h)]; exact ok.fs b h
  · rw [upd_ne (by rintro rfl; exact h2 h)]; exact ok.os b h
  · rintro rfl; exact h3 (List.mem_of_getElem? e2)
/-- the world with more places of another's -/
def Wd.res (w : Wd) (P : Addr → Prop) : Wd := { w with O := fun b => w.O b ∨ P b }
theorem Le.res {P : Addr → Prop} : Le w H (w.res P) H := ⟨fun _ h => h, fun _ h => .inl h, fun _ _ h => h, fun _ _ => rfl⟩
theorem WOk.res {P : Addr → Prop} (ok : WOk K w H ρ) (h1 : ∀ a, P a → ∃ o, H a = some o) (h2 : ∀ a, P a → ¬ w.F a) (h3 : ∀ a, P a → a ∉ w.m) : WOk K (w.res P) H ρ := by
  refine ⟨ok.fs, fun b h => ?_, fun b h z => ?_, fun b hb => ⟨(ok.mf b hb).1, fun z => ?_⟩, ok.nd, ok.len, fun n c b e1 e2 => (ok.cell n c b e1 e2).mono Le.res rfl⟩
  · rcases h with h | h
    · exact ok.os b h
    · exact h1 b h
  · rcases z with z | z
    · exact ok.fo b h z
    · exact h2 b z h
  · rcases z with z | z
    · exact (ok.mf b hb).2 z
    · exact h3 b z hb
/-- back to fewer places of another's -/
def Wd.unres (w : Wd) (P : Addr → Prop) : Wd := { w with O := P }
mutual
theorem Rep.unres {P : Addr → Prop} : ∀ {d : D} {v : V}, Rep K w H d v → Rep K (w.unres P) H d v
  | _, _, .non => .non
  | _, _, .bl b => .bl b
  | _, _, .int i => .int i
  | _, _, .str s => .str s
  | _, _, .tup hz h r => .tup hz h r.unres
  | _, _, .lst hz f h r => .lst hz f h r.unres
  | _, _, .ro hz h r => .ro hz h r.unres
  | _, _, .loc h => .loc h
  | _, _, .cst v => .cst v
theorem Reps.unres {P : Addr → Prop} : ∀ {ds : List D} {vs : List V}, Reps K w H ds vs → Reps K (w.unres P) H ds vs
  | _, _, .nil => .nil
  | _, _, .cons h r => .cons h.unres r.unres
end
theorem WOk.unres {P : Addr → Prop} (ok : WOk K w H ρ) (h : ∀ a, P a → w.O a) : WOk K (w.unres P) H ρ :=
  ⟨ok.fs, fun a q => ok.os a (h a q), fun a q z => ok.fo a q (h a z), fun a q => ⟨(ok.mf a q).1, fun z => (ok.mf a q).2 (h a z)⟩, ok.nd, ok.len, fun n c b e1 e2 => by
    have z := ok.cell n c b e1 e2
    cases c with
    | lst ds => obtain ⟨hz, vs, q1, q2⟩ := z; exact ⟨hz, vs, q1, q2.unres⟩⟩
theorem Le.unres {P : Addr → Prop} (l : Le w H w' H') (h : ∀ a, w.O a → P a) : Le w H (w'.unres P) H' := ⟨l.F, h, l.m, l.keep⟩
/-- a new tuple -/
theorem new_tup (ok : WOk K w H ρ) {p : Addr} (hp : H p = none) {ds : List D} {vs : List V} (hz : ds.length ≤ sizeLine) (r : Reps K w H ds vs) :
    ∃ w', Le w H w' (upd H p (.tup vs)) ∧ WOk K w' (upd H p (.tup vs)) ρ ∧ Rep K w' (upd H p (.tup vs)) (.tup ds) (.ref p) := by
  obtain ⟨n1, n2, n3⟩ := ok.new hp
  have l1 : Le w H w (L2.upd H p (.tup vs)) := Le.upd n1 n2
  refine ⟨w.fz p, l1.trans Le.fz, (ok.upd n1 n2 n3).fz ⟨_, upd_same⟩ n2 n3, .tup hz (.inl ⟨.inr rfl, upd_same⟩) (r.mono (l1.trans Le.fz))⟩
theorem new_lst (ok : WOk K w H ρ) {p : Addr} (hp : H p = none) {ds : List D} {vs : List V} (hz : ds.length ≤ sizeLine) (r : Reps K w H ds vs) :
    Le w H w (upd H p (.lst vs)) ∧ WOk K w (upd H p (.lst vs)) ρ ∧ RepR K w (upd H p (.lst vs)) ⟨.lst ds, .fr⟩ (.ref p) := by
  obtain ⟨n1, n2, n3⟩ := ok.new hp
  have l1 : Le w H w (L2.upd H p (.lst vs)) := Le.upd n1 n2
  exact ⟨l1, ok.upd n1 n2 n3, p, ds, vs, rfl, rfl, hz, upd_same, r.mono l1, n1, n2, n3⟩
end

/-! ### what is seen of a value: a cell's list for a loc -/
def der (ρ : Sto) : D → D
  | .loc n => match ρ[n]? with
    | some (.lst xs) => .lst xs
    | none => .loc n
  | d => d
/-- how it lies -/
inductive Lies (K : PySem.W.Frag) (w : Wd) (H : Hp) : D → V → Prop
  | rep {d : D} {v : V} (h : Rep K w H d v) : Lies K w H d v
  | own {a : Addr} {ds : List D} {vs : List V} (hz : ds.length ≤ sizeLine) (h : H a = some (.lst vs)) (r : Reps K w H ds vs) : Lies K w H (.lst ds) (.ref a)
section
variable {K : PySem.W.Frag} {w w' w2 : Wd} {H H' H2 : Hp} {ρ : Sto} {d : D} {v : V} {r : Rv}
theorem Pk.lies (ok : WOk K w H ρ) (p : Pk K w H d v) : Lies K w H (der ρ d) v := by
  rcases p with p | ⟨a, ds, vs, rfl, rfl, hz, h, q, o⟩
  · cases p with
    | @loc n a h =>
      show Lies K w H (match ρ[n]? with | some (.lst xs) => .lst xs | none => .loc n) _
      cases e : ρ[n]? with
      | none => exact .rep (.loc h)
      | some c =>
        cases c with
        | lst xs =>
          obtain ⟨hz, vs, h1, h2⟩ := ok.cell n _ a e h
          exact .own hz h1 h2
    | non => exact .rep .non
    | bl b => exact .rep (.bl b)
    | int i => exact .rep (.int i)
    | str s => exact .rep (.str s)
    | tup hz h r => exact .rep (.tup hz h r)
    | lst hz f h r => exact .own hz h r
    | ro hz h r => exact .rep (.ro hz h r)
    | cst v => exact .rep (.cst v)
  · exact .own hz h q
theorem Lies.lst {ds : List D} (l : Lies K w H (.lst ds) v) : ∃ a vs, v = .ref a ∧ H a = some (.lst vs) ∧ Reps K w H ds vs ∧ ds.length ≤ sizeLine := by
  cases l with
  | rep h =>
    cases h with
    | lst hz f h r => exact ⟨_, _, rfl, h, r, hz⟩
  | own hz h r => exact ⟨_, _, rfl, h, r, hz⟩
theorem Lies.ro {ds : List D} (l : Lies K w H (.ro ds) v) : ∃ a vs, v = .ref a ∧ SqL K H a vs ∧ Reps K w H ds vs ∧ ds.length ≤ sizeLine := by
  cases l with
  | rep h =>
    cases h with
    | ro hz h r =>
      refine ⟨_, _, rfl, ?_, r, hz⟩
      rcases h with h | h
      · exact .inl h.2
      · exact .inr h
theorem Lies.tup {ds : List D} (l : Lies K w H (.tup ds) v) : ∃ a vs, v = .ref a ∧ SqT K H a vs ∧ Reps K w H ds vs ∧ ds.length ≤ sizeLine := by
  cases l with
  | rep h =>
    cases h with
    | tup hz h r =>
      refine ⟨_, _, rfl, ?_, r, hz⟩
      rcases h with h | h
      · exact .of h.2
      · exact .inr h
theorem Lies.int {i : Int} (l : Lies K w H (.int i) v) : v = .int i := by cases l with | rep h => cases h; rfl
theorem Lies.bl {i : Bool} (l : Lies K w H (.bl i) v) : v = .bl i := by cases l with | rep h => cases h; rfl
theorem Lies.str {i : Str} (l : Lies K w H (.str i) v) : v = .str i := by cases l with | rep h => cases h; rfl
theorem Lies.non (l : Lies K w H .non v) : v = .non := by cases l with | rep h => cases h; rfl
end
end Ev
end

section
set_option Elab.async false
set_option linter.all false
set_option maxRecDepth 100000
set_option maxHeartbeats 4000000
/-! the reckoner: its language and what it gives -/
namespace Ev
open PySem PySem.Spec PyProof.Rows L2

/-! ### data as the library's own data -/
mutual
def toPy : D → PyData
  | .non => .none
  | .bl b => .bool b
  | .int i => .int i
  | .str s => .str s
  | .tup xs => .tuple (toPys xs)
  | .lst xs => .list (toPys xs)
  | .ro _ => .none
  | .loc _ => .none
  | .cst _ => .none
def toPys : List D → List PyData
  | [] => []
  | x :: r => toPy x :: toPys r
end
mutual
/-- plain data, at most n deep -/
def okD : Nat → D → Bool
  | _, .non => true
  | _, .bl _ => true
  | _, .int _ => true
  | _, .str s => PyData.strOk s
  | 0, .tup _ => false
  | n + 1, .tup xs => okDs n xs
  | 0, .lst _ => false
  | n + 1, .lst xs => okDs n xs
  | _, .ro _ => false
  | _, .loc _ => false
  | _, .cst _ => false
def okDs : Nat → List D → Bool
  | _, [] => true
  | n, x :: r => okD n x && okDs n r
end
/-- Python's == on plain data -/
def eqv (x y : D) : Bool := PyData.eqv (toPy x) (toPy y)

/-! ### results -/
/-- an exception: its class by number, what it keeps -/
structure Xc where
  k : Nat
  pay : Option D := none
inductive Res (α : Type) where
  | ok (a : α) (ρ : Sto)
  | exc (x : Xc) (ρ : Sto)
  | no
def Res.bind {α β : Type} (r : Res α) (k : α → Sto → Res β) : Res β := match r with
  | .ok a ρ => k a ρ
  | .exc x ρ => .exc x ρ
  | .no => .no
/-- no exception may leave -/
def Res.nox {α : Type} (r : Res α) : Res α := match r with
  | .ok a ρ => .ok a ρ
  | _ => .no
def Res.opt {α : Type} (o : Option α) (ρ : Sto) : Res α := match o with
  | some a => .ok a ρ
  | none => .no
@[simp] theorem Res.bind_ok {α β : Type} (a : α) (ρ : Sto) (k : α → Sto → Res β) : (Res.ok a ρ).bind k = k a ρ := rfl
@[simp] theorem Res.bind_exc {α β : Type} (x : Xc) (ρ : Sto) (k : α → Sto → Res β) : (Res.exc x ρ).bind k = .exc x ρ := rfl
@[simp] theorem Res.bind_no {α β : Type} (k : α → Sto → Res β) : (Res.no).bind k = .no := rfl
@[simp] theorem Res.opt_some {α : Type} (a : α) (ρ : Sto) : Res.opt (some a) ρ = .ok a ρ := rfl
@[simp] theorem Res.opt_none {α : Type} (ρ : Sto) : Res.opt (none : Option α) ρ = .no := rfl
@[simp] theorem Res.nox_ok {α : Type} (a : α) (ρ : Sto) : (Res.ok a ρ).nox = .ok a ρ := rfl

structure Slot where
  own : Bool
  d : D
abbrev Envr := List (Option Slot)

/-! ### operators -/
inductive Bo where
  | add | sub | mul | fdiv | mod | pow | and | xor | shr
  deriving DecidableEq
inductive Co where
  | eq | ne | lt | le | gt | ge | isN | notN | isIn | notIn
  deriving DecidableEq

def bop : Bo → D → D → Option Rv
  | .add, .int i, .int j => some ⟨.int (i + j), .sh⟩
  | .add, .str s, .str t => if s.length + t.length ≤ sizeLine then some ⟨.str (s ++ t), .sh⟩ else none
  | .add, .tup xs, .tup ys => if xs.length + ys.length ≤ sizeLine then some ⟨.tup (xs ++ ys), .sh⟩ else none
  | .add, .lst xs, .lst ys => if xs.length + ys.length ≤ sizeLine then some ⟨.lst (xs ++ ys), .fr⟩ else none
  | .sub, .int i, .int j => some ⟨.int (i - j), .sh⟩
  | .mul, .int i, .int j => if i.natAbs.log2 + j.natAbs.log2 < 1000000 then some ⟨.int (i * j), .sh⟩ else none
  | .mul, .lst xs, .int k => if 0 ≤ k ∧ k < 2 ^ 62 ∧ xs.length * k.toNat ≤ sizeLine then some ⟨.lst (List.replicate k.toNat xs).flatten, .fr⟩ else none
  | .fdiv, .int i, .int j => if j ≠ 0 ∧ j.natAbs.log2 < 9000 then some ⟨.int (i.fdiv j), .sh⟩ else none
  | .mod, .int i, .int j => if j ≠ 0 then some ⟨.int (i.fmod j), .sh⟩ else none
  | .pow, .int i, .int j => if 0 ≤ j ∧ j ≤ 1000000 ∧ i.natAbs < 2 ^ 64 then some ⟨.int (i ^ j.toNat), .sh⟩ else none
  | .and, .int i, .int j => some ⟨.int (Builtin.bitAnd i j), .sh⟩
  | .xor, .int i, .int j => some ⟨.int (Builtin.bitXor i j), .sh⟩
  | .shr, .int i, .int j => if 0 ≤ j then some ⟨.int (i / 2 ^ j.toNat), .sh⟩ else none
  | _, _, _ => none

def cop : Co → D → D → Option Bool
  | .eq, x, y => if okD 60 x && okD 60 y then some (eqv x y) else none
  | .ne, x, y => if okD 60 x && okD 60 y then some (!eqv x y) else none
  | .lt, .int i, .int j => some (decide (i < j))
  | .le, .int i, .int j => some (decide (i ≤ j))
  | .gt, .int i, .int j => some (decide (j < i))
  | .ge, .int i, .int j => some (decide (j ≤ i))
  | .lt, .str i, .str j => some (decide (i.cps.toList < j.cps.toList))
  | .isN, x, .non => match x with | .non => some true | .cst _ => none | _ => some false
  | .notN, x, .non => match x with | .non => some false | .cst _ => none | _ => some true
  | .isIn, .str i, .str j => some (!(Builtin.Str.occurrences j i 0 j.length 1).isEmpty)
  | .notIn, .str i, .str j => some (!(!(Builtin.Str.occurrences j i 0 j.length 1).isEmpty))
  | .isIn, x, .lst ys => if okD 60 x && okD 60 (.lst ys) then some (ys.any fun z => eqv z x) else none
  | .notIn, x, .lst ys => if okD 60 x && okD 60 (.lst ys) then some (!ys.any fun z => eqv z x) else none
  | _, _, _ => none

/-- a value's truth -/
def tru (ρ : Sto) (d : D) : Option Bool := match der ρ d with
  | .non => some false
  | .bl b => some b
  | .int i => some (i != 0)
  | .str s => if s.length ≤ sizeLine then some ((s.length : Int) != 0) else none
  | .tup xs => some (!xs.isEmpty)
  | .lst xs => some (!xs.isEmpty)
  | .ro xs => some (!xs.isEmpty)
  | _ => none

/-! ### built-ins -/
inductive Bi where
  | len | abs | int | max2 | min2 | gcd | lcm | sum | all | any | tuple | list | max1 | min1
  deriving DecidableEq
/-- lists of ints, of bools -/
def asInts : List D → Option (List Int)
  | [] => some []
  | .int i :: r => (asInts r).map (i :: ·)
  | _ => none
def asBls : List D → Option (List Bool)
  | [] => some []
  | .bl i :: r => (asBls r).map (i :: ·)
  | _ => none
def most : List Int → Int
  | [] => 0
  | [x] => x
  | x :: r => max x (most r)
def least : List Int → Int
  | [] => 0
  | [x] => x
  | x :: r => min x (least r)
def bfn : Bi → List D → Option Rv
  | .len, [.str s] => if s.length ≤ sizeLine then some ⟨.int s.length, .sh⟩ else none
  | .len, [.tup xs] => some ⟨.int xs.length, .sh⟩
  | .len, [.lst xs] => some ⟨.int xs.length, .sh⟩
  | .len, [.ro xs] => some ⟨.int xs.length, .sh⟩
  | .abs, [.int i] => some ⟨.int (if i < 0 then -i else i), .sh⟩
  | .int, [.int i] => some ⟨.int i, .sh⟩
  | .int, [.bl b] => some ⟨.int (if b then 1 else 0), .sh⟩
  | .max2, [.int i, .int j] => some ⟨.int (if j > i then j else i), .sh⟩
  | .min2, [.int i, .int j] => some ⟨.int (if j < i then j else i), .sh⟩
  | .gcd, [.int i, .int j] => some ⟨.int (Nat.gcd i.natAbs j.natAbs : Nat), .sh⟩
  | .lcm, [.int i, .int j] => if i.natAbs.log2 < 13000 ∧ j.natAbs.log2 < 13000 then some ⟨.int (Nat.lcm i.natAbs j.natAbs : Nat), .sh⟩ else none
  | .sum, [.lst xs] => (asInts xs).map fun ns => ⟨.int ns.sum, .sh⟩
  | .all, [.lst xs] => (asBls xs).map fun ns => ⟨.bl (ns.all id), .sh⟩
  | .any, [.lst xs] => (asBls xs).map fun ns => ⟨.bl (ns.any id), .sh⟩
  | .tuple, [.lst xs] => some ⟨.tup xs, .sh⟩
  | .tuple, [.tup xs] => some ⟨.tup xs, .sh⟩
  | .list, [.lst xs] => some ⟨.lst xs, .fr⟩
  | .list, [.tup xs] => some ⟨.lst xs, .fr⟩
  | .max1, [.lst xs] => (asInts xs).bind fun ns => if ns = [] then none else some ⟨.int (most ns), .sh⟩
  | .min1, [.lst xs] => (asInts xs).bind fun ns => if ns = [] then none else some ⟨.int (least ns), .sh⟩
  | _, _ => none

/-! ### kinds -/
inductive Tn where
  | non | bool | int | str | tuple | list | dict
  deriving DecidableEq
def tyN : D → Option Tn
  | .non => some .non
  | .bl _ => some .bool
  | .int _ => some .int
  | .str _ => some .str
  | .tup _ => some .tuple
  | .lst _ => some .list
  | .ro _ => some .list
  | .loc _ => some .list
  | .cst _ => none
def isT (a b : Tn) : Bool := a == b || (a == .bool && b == .int)

/-! ### methods of texts and lists that change nothing -/
inductive Me where
  | lower | upper
  deriving DecidableEq
def mef : Me → D → Option Rv
  | _, _ => none

/-! ### the language -/
mutual
inductive Tg
  | nm (i : Nat)
  | tup (ts : Tgs)
inductive Tgs
  | nil
  | cons (t : Tg) (r : Tgs)
end
mutual
def asgT : Tg → D → Envr → Option Envr
  | .nm i, d, env => if i < env.length then some (env.set i (some ⟨false, d⟩)) else none
  | .tup ts, .tup ds, env => asgTs ts ds env
  | .tup _, _, _ => none
def asgTs : Tgs → List D → Envr → Option Envr
  | .nil, [], env => some env
  | .cons t r, d :: ds, env => (asgT t d env).bind fun env' => asgTs r ds env'
  | _, _, _ => none
end
def wipeE (env : Envr) : List Nat → Envr
  | [] => env
  | v :: vs => (wipeE env vs).set v none

mutual
inductive E
  | bad
  | nop
  | var (i : Nat)
  | con (d : D)
  | glb (k : Nat)
  | bin (o : Bo) (a b : E)
  | neg (a : E)
  | not (a : E)
  | cmp (o : Co) (a b : E)
  | chn (o p : Co) (a b c : E)
  | and (a b : E)
  | or (a b : E)
  | ite (c a b : E)
  | tup (es : Es)
  | lst (es : Es)
  | ix (a i : E)
  | sl (a lo hi : E)
  | call (f : Nat) (es : Es)
  | callk (f : Nat) (ps : List Nat) (es ks : Es)
  | bi (b : Bi) (es : Es)
  | bi1 (b : Bi) (a : E)
  | isi (a : E) (t : Tn)
  | me (m : Me) (a : E)
  | pop (a : E)
  | lc (own : List Nat) (t : Tg) (it : Iw) (c e : E)
inductive Es
  | nil
  | cons (e : E) (es : Es)
inductive Iw
  | over (e : E)
  | rng (es : Es)
  | enum (es : Es)
  | zip (es : Es)
end

def isNop : E → Bool
  | .nop => true
  | _ => false
/-- an optional int of a slice -/
def part : D → Option (Option Int)
  | .non => some none
  | .int i => some (some i)
  | _ => none
def cutD (xs : List D) (lo hi : Option Int) : List D := (xs.drop (HT.sIx xs.length 0 lo)).take (HT.sIx xs.length xs.length hi - HT.sIx xs.length 0 lo)
def slc : D → Option Int → Option Int → Option Rv
  | .ro xs, lo, hi => some ⟨.lst (cutD xs lo hi), .fr⟩
  | .lst xs, lo, hi => some ⟨.lst (cutD xs lo hi), .fr⟩
  | .tup xs, lo, hi => some ⟨.tup (cutD xs lo hi), .sh⟩
  | .str s, lo, hi => if s.length ≤ sizeLine then some ⟨.str (cutS s lo hi), .sh⟩ else none
  | _, _, _ => none
def idx : D → D → Option Rv
  | .ro xs, .int i => (atI xs i).map fun d => ⟨d, .sh⟩
  | .lst xs, .int i => (atI xs i).map fun d => ⟨d, .sh⟩
  | .tup xs, .int i => (atI xs i).map fun d => ⟨d, .sh⟩
  | .str s, .int i => if s.length ≤ sizeLine then (atI s.cps.toList i).map fun c => ⟨.str ⟨#[c]⟩, .sh⟩ else none
  | _, _ => none
def itemsOf : D → Option (List D)
  | .lst xs => some xs
  | .ro xs => some xs
  | .tup xs => some xs
  | .str s => some (s.cps.toList.map fun c => .str ⟨#[c]⟩)
  | _ => none
def rngD (lo : Int) (n : Nat) : List D := (List.range n).map fun k => .int (lo + (k : Nat))
def enumD : Nat → List D → List D
  | _, [] => []
  | k, x :: r => .tup [.int (k : Nat), x] :: enumD (k + 1) r
def zipD : List D → List D → List D
  | x :: xs, y :: ys => .tup [x, y] :: zipD xs ys
  | _, _ => []
/-- the keywords' places: argument j of the def is the value at place ps[j] -/
def perm (ps : List Nat) (ds : List D) : Option (List D) := ps.mapM fun i => ds[i]?

def lcLoop (f : D → Sto → Res (Option D)) : List D → Sto → Res (List D)
  | [], ρ => .ok [] ρ
  | d :: r, ρ => (f d ρ).bind fun o ρ1 => (lcLoop f r ρ1).bind fun ys ρ2 => .ok (o.toList ++ ys) ρ2

section
variable (g : List D) (cf : Nat → List D → Sto → Res Rv)
mutual
def ev : E → Envr → Sto → Res Rv
  | .bad, _, _ => .no
  | .nop, _, ρ => .ok ⟨.non, .sh⟩ ρ
  | .var i, env, ρ => match env[i]? with
    | some (some s) => .ok ⟨s.d, if s.own then .al else .sh⟩ ρ
    | _ => .no
  | .con d, _, ρ => .ok ⟨d, .sh⟩ ρ
  | .glb k, _, ρ => .opt ((g[k]?).map fun d => ⟨d, .sh⟩) ρ
  | .bin o a b, env, ρ => (ev a env ρ).bind fun x ρ1 => (ev b env ρ1).bind fun y ρ2 => .opt (bop o (der ρ2 x.d) (der ρ2 y.d)) ρ2
  | .neg a, env, ρ => (ev a env ρ).bind fun x ρ1 => match x.d with
    | .int i => .ok ⟨.int (-i), .sh⟩ ρ1
    | _ => .no
  | .not a, env, ρ => (ev a env ρ).bind fun x ρ1 => .opt ((tru ρ1 x.d).map fun b => ⟨.bl (!b), .sh⟩) ρ1
  | .cmp o a b, env, ρ => (ev a env ρ).bind fun x ρ1 => (ev b env ρ1).bind fun y ρ2 => .opt ((cop o (der ρ2 x.d) (der ρ2 y.d)).map fun b => ⟨.bl b, .sh⟩) ρ2
  | .chn o p a b c, env, ρ => (ev a env ρ).bind fun x ρ1 => (ev b env ρ1).bind fun y ρ2 => match cop o (der ρ2 x.d) (der ρ2 y.d) with
    | some true => (ev c env ρ2).bind fun z ρ3 => .opt ((cop p (der ρ3 y.d) (der ρ3 z.d)).map fun b => ⟨.bl b, .sh⟩) ρ3
    | some false => .ok ⟨.bl false, .sh⟩ ρ2
    | none => .no
  | .and a b, env, ρ => (ev a env ρ).bind fun x ρ1 => match tru ρ1 x.d with
    | some true => ev b env ρ1
    | some false => .ok x ρ1
    | none => .no
  | .or a b, env, ρ => (ev a env ρ).bind fun x ρ1 => match tru ρ1 x.d with
    | some true => .ok x ρ1
    | some false => ev b env ρ1
    | none => .no
  | .ite c a b, env, ρ => (ev c env ρ).bind fun x ρ1 => match tru ρ1 x.d with
    | some true => ev a env ρ1
    | some false => ev b env ρ1
    | none => .no
  | .tup es, env, ρ => (evs es env ρ).bind fun ds ρ1 => if ds.length ≤ sizeLine then .ok ⟨.tup ds, .sh⟩ ρ1 else .no
  | .lst es, env, ρ => (evs es env ρ).bind fun ds ρ1 => if ds.length ≤ sizeLine then .ok ⟨.lst ds, .fr⟩ ρ1 else .no
  | .ix a i, env, ρ => (ev a env ρ).bind fun x ρ1 => (ev i env ρ1).bind fun y ρ2 => .opt (idx (der ρ2 x.d) y.d) ρ2
  | .sl a lo hi, env, ρ => (ev a env ρ).bind fun x ρ1 => (ev lo env ρ1).bind fun l ρ2 => match part l.d with
    | some l' => (ev hi env ρ2).bind fun h ρ3 => match part h.d with
      | some h' => .opt (slc (der ρ3 x.d) l' h') ρ3
      | none => .no
    | none => .no
  | .call f es, env, ρ => (evs es env ρ).bind fun ds ρ1 => cf f ds ρ1
  | .callk f ps es ks, env, ρ => (evs es env ρ).bind fun ds ρ1 => (evs ks env ρ1).bind fun us ρ2 => match perm ps (ds ++ us) with
    | some ds' => cf f ds' ρ2
    | none => .no
  | .bi b es, env, ρ => (evs es env ρ).bind fun ds ρ1 => .opt (bfn b (ds.map (der ρ1))) ρ1
  | .bi1 b a, env, ρ => (ev a env ρ).bind fun x ρ1 => .opt (bfn b [der ρ1 x.d]) ρ1
  | .isi a t, env, ρ => (ev a env ρ).bind fun x ρ1 => .opt ((tyN x.d).map fun u => ⟨.bl (isT u t), .sh⟩) ρ1
  | .me m a, env, ρ => (ev a env ρ).bind fun x ρ1 => .opt (mef m x.d) ρ1
  | .pop a, env, ρ => (ev a env ρ).bind fun x ρ1 => match x.d with
    | .loc n => match ρ1[n]? with
      | some (.lst xs) => match xs.getLast? with
        | some d => .ok ⟨d, .sh⟩ (ρ1.set n (.lst xs.dropLast))
        | none => .no
      | none => .no
    | _ => .no
  | .lc own t it c e, env, ρ => (evI it true env ρ).bind fun ds ρ1 => if ds.length ≤ sizeLine then
      (lcLoop (fun d ρ => match asgT t d (wipeE env own) with
        | some env' => (ev c env' ρ).nox.bind fun b ρ1 => if isNop c = true then (ev e env' ρ1).nox.bind fun r ρ2 => if r.fl = .al then .no else .ok (some r.d) ρ2
          else match tru ρ1 b.d with
          | some true => (ev e env' ρ1).nox.bind fun r ρ2 => if r.fl = .al then .no else .ok (some r.d) ρ2
          | some false => .ok none ρ1
          | none => .no
        | none => .no) ds ρ1).bind fun ys ρ2 => .ok ⟨.lst ys, .fr⟩ ρ2
    else .no
def evs : Es → Envr → Sto → Res (List D)
  | .nil, _, ρ => .ok [] ρ
  | .cons e es, env, ρ => (ev e env ρ).bind fun r ρ1 => if r.fl = .al then .no else (evs es env ρ1).bind fun ds ρ2 => .ok (r.d :: ds) ρ2
def evI : Iw → Bool → Envr → Sto → Res (List D)
  | .over e, al, env, ρ => (ev e env ρ).bind fun x ρ1 => if x.fl = .al ∧ al = false then .no else .opt (itemsOf x.d) ρ1
  | .rng es, _, env, ρ => (evs es env ρ).bind fun ds ρ1 => match ds with
    | [.int j] => if -(2 ^ 62) ≤ j ∧ j < 2 ^ 62 then .ok (rngD 0 j.toNat) ρ1 else .no
    | [.int i, .int j] => if -(2 ^ 62) ≤ i ∧ i < 2 ^ 62 ∧ -(2 ^ 62) ≤ j ∧ j < 2 ^ 62 then .ok (rngD i (j - i).toNat) ρ1 else .no
    | _ => .no
  | .enum es, _, env, ρ => (evs es env ρ).bind fun ds ρ1 => match ds with
    | [.lst xs] => .ok (enumD 0 xs) ρ1
    | _ => .no
  | .zip es, _, env, ρ => (evs es env ρ).bind fun ds ρ1 => match ds with
    | [.lst xs, .lst ys] => .ok (zipD xs ys) ρ1
    | [.tup xs, .tup ys] => .ok (zipD xs ys) ρ1
    | _ => .no
end
end
end Ev
end

section
set_option Elab.async false
set_option linter.all false
set_option maxRecDepth 100000
set_option maxHeartbeats 4000000
/-! operators, built-ins by their data -/
namespace HT
open PySem PySem.Spec PyProof.Rows
section
variable {prog : Program} {w : World} {A : Around} {E : Value → Shared → Prop} {s : Shared}
/-- t[lo:hi] that is the whole of t: t itself -/
theorem getItem_tuple_whole {t sl : Addr} {items : Array Value} {vl vu : Value} {lo hi : Option Int} {Q : Value → Shared → Prop} (ht : IsTup s.heap t items) (hs : s.heap.IsSliceOf sl vl vu .none) (pl : IsPart vl lo) (pu : IsPart vu hi)
    (hw : sIx items.size 0 lo = 0 ∧ sIx items.size items.size hi = items.size)
    (h : Q (.ref t) s) : wpAny (model prog w) A (getItem (.ref t) (.ref sl)) Q E s := by
  obtain ⟨os, hos, hcs, hds⟩ := id hs
  have hTs : s.TypeIs (.ref sl) "slice" := ⟨os, hos, hcs⟩
  unfold getItem
  try with_reducible refine wpAny_holding ?_
  first | refine wpAny_bind (wpAny_pure ?_) | skip
  refine wpAny_bind (wpAny_sequenceKey ht.typeIs (by decide) ?_)
  refine wpAny_bind (wpAny_callSpecial?_slot (name := Str.ofString "__getitem__") ht.typeIs PyProof.Rows.slot_tuple_getitem
    (wpAny_call_entry PyProof.Rows.slot_tuple_getitem ht.typeIs entry_tuple_getitem ?_ (args_tuple_getitem _ _)))
  show wpAny _ _ (Builtin.Tuple.tupleItemsOf (.ref t) >>= _) _ _ s
  refine wpAny_bind (tupleItemsOf_ ht ?_)
  refine wpAny_bind (wpAny_typeOf hTs ?_)
  rw [if_pos (by decide)]
  refine wpAny_bind (sliceApplied_gen hs pl pu ?_)
  have hno : ((((sIx items.size 0 lo : Nat) : Int) == 0 && (1 : Int) == 1 && (sIx items.size items.size hi - sIx items.size 0 lo) == items.size) = true) := by
    rw [hw.1, hw.2]; simp
  show wpAny _ _ (if (((sIx items.size 0 lo : Nat) : Int) == 0 && (1 : Int) == 1 && (sIx items.size items.size hi - sIx items.size 0 lo) == items.size) = true then _ else _) _ _ s
  rw [if_pos hno]
  refine wpAny_bind ?_
  unfold Builtin.Tuple.tupleIsExact
  refine wpAny_bind (wpAny_typeOf ht.typeIs (wpAny_pure ?_))
  rw [if_pos (by decide)]
  refine wpAny_bind (wpAny_rule ?_)
  exact wpAny_pure ⟨_, rfl, wpAny_pure h⟩
end
end HT

namespace Ev
open PySem PySem.Spec PyProof.Rows L2
section
variable {X : Cx}
/-- t + u, any tuples -/
theorem op_addT : OpR X (binaryOp .Add) (fun x y H Q => ∃ a b xs ys, x = .ref a ∧ y = .ref b ∧ SqT X.K H a xs ∧ SqT X.K H b ys ∧ xs.length + ys.length ≤ sizeLine ∧
    (xs = [] → Q (.ref b) H) ∧ (ys = [] → Q (.ref a) H) ∧ ∀ p, H p = none → Q (.ref p) (upd H p (.tup (xs ++ ys)))) := by
  intro pins s σ H x y v u Q I rx ry h
  obtain ⟨a, b, xs, ys, rfl, rfl, ha, hb, hz, q0, q1, q2⟩ := h
  by_cases hx : xs = []
  · subst hx
    cases rx
    cases ry
    obtain ⟨its, r1, p1, _⟩ := I.tuple ha
    obtain ⟨its2, r2, p2, _⟩ := I.tuple hb
    cases r1
    obtain ⟨m, F⟩ := I.fr
    refine PyProof.Rows.add_tuples (vs := []) (news := []) F (fun p hp => absurd hp (by simp)) p1 p2 (fun _ => ?_) (fun z => absurd rfl z) (fun z => absurd rfl z) (by rw [← r2.length]; exact hz)
    exact ⟨.ref b, H, I, rfl, q0 rfl⟩
  · exact op_catT pins s σ H _ _ v u Q I rx ry ⟨a, b, xs, ys, rfl, rfl, ha, hb, hx, hz, q1, fun _ => q2⟩
/-- t[lo:hi], any tuple -/
theorem sl_tupW : SlR X (fun x lo hi H Q => ∃ a xs, x = .ref a ∧ SqT X.K H a xs ∧
    ((HT.sIx xs.length 0 lo = 0 ∧ HT.sIx xs.length xs.length hi = xs.length) → Q (.ref a) H) ∧ ∀ p, H p = none → Q (.ref p) (upd H p (.tup (cutV xs lo hi)))) := by
  intro pins s σ H x v vl vu lo hi sl Q I rx hs pl pu h
  obtain ⟨a, xs, rfl, hx, q0, q⟩ := h
  by_cases hw : HT.sIx xs.length 0 lo = 0 ∧ HT.sIx xs.length xs.length hi = xs.length
  · cases rx
    obtain ⟨its, r, ht, hz⟩ := I.tuple hx
    have hlen : its.toArray.size = xs.length := by rw [List.size_toArray]; exact r.length.symm
    exact ⟨"tuple", _, PyProof.Rows.slot_tuple_getitem.lookup, ht.typeIs, HT.getItem_tuple_whole ht hs pl pu (by rw [hlen]; exact hw) ⟨.ref a, H, I, rfl, q0 hw⟩⟩
  · exact sl_tup pins s σ H _ v vl vu lo hi sl Q I rx hs pl pu ⟨a, xs, rfl, hx, hw, q⟩
/-- // by a divisor that is not 0, below 2 ^ 9000 -/
theorem op_fdivX : OpR X (binaryOp .FloorDiv) (rI (fun _ j => j ≠ 0 ∧ j.natAbs.log2 < 9000) fun i j => .int (i.fdiv j)) := opI fun i j _ _ _ _ _ hc q =>
  floordiv_int hc.1 q (.inl (PyProof.noPylong_of_log2 hc.2))
theorem lcm_one (m : Nat) : Nat.lcm 1 m = m := by simp [Nat.lcm]
theorem log2_le_of {a b : Nat} (h : a ≤ b) : a.log2 ≤ b.log2 := by
  by_cases ha : a = 0
  · subst ha; simp
  · have hb : b ≠ 0 := by omega
    exact (Nat.le_log2 hb).mpr (Nat.le_trans (Nat.log2_self_le ha) h)
theorem lcm_log {a b : Nat} (ha : a.log2 < 13000) (hb : b.log2 < 13000) : (Nat.lcm a b).log2 < bitsLine := by
  have h1 : Nat.lcm a b ≤ a * b := by
    unfold Nat.lcm
    exact Nat.div_le_self _ _
  have ha2 : a < 2 ^ 13000 := Nat.lt_of_lt_of_le Nat.lt_log2_self (Nat.pow_le_pow_right (by decide) ha)
  have hb2 : b < 2 ^ 13000 := Nat.lt_of_lt_of_le Nat.lt_log2_self (Nat.pow_le_pow_right (by decide) hb)
  have h2 : Nat.lcm a b < 2 ^ 26000 := by
    refine Nat.lt_of_le_of_lt h1 ?_
    rw [show (26000 : Nat) = 13000 + 13000 by rfl, Nat.pow_add]
    exact Nat.mul_lt_mul'' ha2 hb2
  have h3 := PySem.Flt.log2_lt_of (show 0 < 26000 by decide) h2
  have e : bitsLine = 134217728 := by decide
  omega
theorem cr_lcm : CallR X (.builtin "math.lcm") (fun vs H Q => ∃ a b : Int, vs = [.int a, .int b] ∧ (a.natAbs.log2 < 13000 ∧ b.natAbs.log2 < 13000) ∧ Q (.int ((Nat.lcm a.natAbs b.natAbs : Nat) : Int)) H) := by
  intro pins s σ H vs us Q I r h
  obtain ⟨a, b, rfl, ⟨h1, h2⟩, q⟩ := h
  obtain ⟨t, u, rfl⟩ := Vals.int2 r
  have e1 : (max 1 a.natAbs).log2 < 13000 := by
    rcases Nat.le_total 1 a.natAbs with h | h
    · rw [Nat.max_eq_right h]; exact h1
    · rw [Nat.max_eq_left h]; decide
  have e2 : (max a.natAbs b.natAbs).log2 < 13000 := by
    rcases Nat.le_total a.natAbs b.natAbs with h | h
    · rw [Nat.max_eq_right h]; exact h2
    · rw [Nat.max_eq_left h]; exact h1
  have e3 : ((((Nat.lcm 1 a.natAbs).lcm b.natAbs : Nat) : Int)).natAbs.log2 < bitsLine := by
    rw [lcm_one, Int.natAbs_natCast]; exact lcm_log h1 h2
  have z := PySem.W.mg_run_lcm a t b u (by omega) (by omega) e3
  rw [lcm_one] at z
  exact call_function_meets PySem.W.MGF.kind_lcm PySem.W.MGF.plain_lcm PySem.W.MGF.entry_lcm (PySem.W.MGF.args_lcm _ _) z.meets ⟨.int _, H, I.tok _, ⟨_, rfl⟩, q⟩
end

/-! ### plain data in the heap -/
section
variable {K : PySem.W.Frag} {w : Wd} {H : Hp} {ρ : Sto}
mutual
theorem Rep.dp : ∀ (n : Nat) {d : D} {v : V}, Rep K w H d v → okD n d = true → Dp K H v (toPy d)
  | _, _, _, .non, _ => .non
  | _, _, _, .bl b, _ => .bl b
  | _, _, _, .int i, _ => .int i
  | _, _, _, .str s, _ => .str s
  | 0, _, _, .tup hz h r, e => by simp [okD] at e
  | n + 1, _, _, .tup hz h r, e => .tup (by
      rcases h with h | h
      · exact .of h.2
      · exact .inr h) (r.dp n (by simpa [okD] using e))
  | 0, _, _, .lst hz f h r, e => by simp [okD] at e
  | n + 1, _, _, .lst hz f h r, e => .lst (.of h) (r.dp n (by simpa [okD] using e))
  | _, _, _, .ro hz h r, e => by simp [okD] at e
  | _, _, _, .loc h, e => by simp [okD] at e
  | _, _, _, .cst v, e => by simp [okD] at e
theorem Reps.dp : ∀ (n : Nat) {ds : List D} {vs : List V}, Reps K w H ds vs → okDs n ds = true → DpAll K H vs (toPys ds)
  | _, _, _, .nil, _ => .nil
  | n, _, _, .cons h r, e => by
    simp only [okDs, Bool.and_eq_true] at e
    exact .cons (h.dp n e.1) (r.dp n e.2)
end
theorem Lies.dp {n : Nat} {d : D} {v : V} (h : Lies K w H d v) (e : okD n d = true) : Dp K H v (toPy d) := by
  cases h with
  | rep h => exact h.dp n e
  | own hz h r =>
    cases n with
    | zero => simp [okD] at e
    | succ n => exact .lst (.of h) (r.dp n (by simpa [okD] using e))
end
mutual
theorem okD_shape : ∀ (n : Nat) (d : D), okD n d = true → (toPy d).canLay0 = true ∧ (toPy d).depth ≤ n
  | _, .non, _ => ⟨rfl, Nat.zero_le _⟩
  | _, .bl b, _ => ⟨rfl, Nat.zero_le _⟩
  | _, .int i, _ => ⟨rfl, Nat.zero_le _⟩
  | _, .str s, e => ⟨by simpa [okD, toPy, PyData.canLay0] using e, Nat.zero_le _⟩
  | 0, .tup xs, e => by simp [okD] at e
  | n + 1, .tup xs, e => by
    have h := okDs_shape n xs (by simpa [okD] using e)
    exact ⟨by simpa [toPy, PyData.canLay0] using h.1, by simp only [toPy, PyData.depth]; exact Nat.succ_le_succ h.2⟩
  | 0, .lst xs, e => by simp [okD] at e
  | n + 1, .lst xs, e => by
    have h := okDs_shape n xs (by simpa [okD] using e)
    exact ⟨by simpa [toPy, PyData.canLay0] using h.1, by simp only [toPy, PyData.depth]; exact Nat.succ_le_succ h.2⟩
  | _, .ro xs, e => by simp [okD] at e
  | _, .loc n, e => by simp [okD] at e
  | _, .cst v, e => by simp [okD] at e
theorem okDs_shape : ∀ (n : Nat) (ds : List D), okDs n ds = true → PyData.canLayAll0 (toPys ds) = true ∧ PyData.depthAll (toPys ds) ≤ n
  | _, [], _ => ⟨rfl, Nat.zero_le _⟩
  | n, d :: ds, e => by
    simp only [okDs, Bool.and_eq_true] at e
    have h1 := okD_shape n d e.1
    have h2 := okDs_shape n ds e.2
    exact ⟨by simp [toPys, PyData.canLayAll0, h1.1, h2.1], by simp only [toPys, PyData.depthAll]; exact Nat.max_le.mpr ⟨h1.2, h2.2⟩⟩
end
theorem okD_shaped {n : Nat} {d : D} (h : okD n d = true) (hn : n ≤ 64) : SeqAt.shaped (toPy d) = true := by
  have := okD_shape n d h
  unfold SeqAt.shaped
  rw [this.1, decide_eq_true (Nat.le_trans this.2 hn)]
  rfl
theorem toPys_map : ∀ ds : List D, toPys ds = ds.map toPy
  | [] => rfl
  | d :: ds => by simp only [toPys, List.map_cons, toPys_map ds]

/-! ### the operators -/
/-- what is wanted holds of a value that stands for r, wherever it lies -/
def Gv (K : PySem.W.Frag) (w : Wd) (H : Hp) (ρ : Sto) (r : Rv) (Q : VK) : Prop :=
  ∀ w' H' v, Le w H w' H' → WOk K w' H' ρ → RepR K w' H' r v → Q v H'
section
variable {K : PySem.W.Frag} {w : Wd} {H : Hp} {ρ : Sto} {Q : VK}
theorem Gv.int {i : Int} (ok : WOk K w H ρ) (h : Gv K w H ρ ⟨.int i, .sh⟩ Q) : Q (.int i) H := h w H _ Le.refl ok (.int i)
theorem Gv.bl {i : Bool} (ok : WOk K w H ρ) (h : Gv K w H ρ ⟨.bl i, .sh⟩ Q) : Q (.bl i) H := h w H _ Le.refl ok (.bl i)
theorem Gv.str {i : Str} (ok : WOk K w H ρ) (h : Gv K w H ρ ⟨.str i, .sh⟩ Q) : Q (.str i) H := h w H _ Le.refl ok (.str i)
theorem Gv.rep {d : D} {v : V} (ok : WOk K w H ρ) (h : Gv K w H ρ ⟨d, .sh⟩ Q) (r : Rep K w H d v) : Q v H := h w H _ Le.refl ok r
theorem Gv.tup {ds : List D} {vs : List V} (ok : WOk K w H ρ) (h : Gv K w H ρ ⟨.tup ds, .sh⟩ Q) (hz : ds.length ≤ sizeLine) (r : Reps K w H ds vs) : ∀ p, H p = none → Q (.ref p) (upd H p (.tup vs)) := fun p hp => by
  obtain ⟨w', l, ok', rp⟩ := new_tup ok hp hz r
  exact h w' _ _ l ok' rp
theorem Gv.lst {ds : List D} {vs : List V} (ok : WOk K w H ρ) (h : Gv K w H ρ ⟨.lst ds, .fr⟩ Q) (hz : ds.length ≤ sizeLine) (r : Reps K w H ds vs) : ∀ p, H p = none → Q (.ref p) (upd H p (.lst vs)) := fun p hp => by
  obtain ⟨l, ok', rp⟩ := new_lst ok hp hz r
  exact h w _ _ l ok' rp
theorem Reps.rep {ds : List D} {vs : List V} (r : Reps K w H ds vs) : ∀ k : Nat, Reps K w H (List.replicate k ds).flatten (List.replicate k vs).flatten
  | 0 => .nil
  | k + 1 => by
    rw [List.replicate_succ, List.replicate_succ, List.flatten_cons, List.flatten_cons]
    exact r.append (Reps.rep r k)
theorem flat_len {α : Type} (xs : List α) : ∀ k : Nat, (List.replicate k xs).flatten.length = xs.length * k
  | 0 => rfl
  | k + 1 => by rw [List.replicate_succ, List.flatten_cons, List.length_append, flat_len xs k, Nat.mul_succ, Nat.add_comm]
end
def opOf : Bo → Operator
  | .add => .Add | .sub => .Sub | .mul => .Mult | .fdiv => .FloorDiv | .mod => .Mod | .pow => .Pow | .and => .BitAnd | .xor => .BitXor | .shr => .RShift
section
variable {X : Cx}
theorem bop_ok (o : Bo) : OpR X (binaryOp (opOf o)) (fun x y H Q => ∃ w ρ dx dy r, WOk X.K w H ρ ∧ Lies X.K w H dx x ∧ Lies X.K w H dy y ∧ bop o dx dy = some r ∧ Gv X.K w H ρ r Q) := by
  intro pins s σ H x y v u Q I rx ry ⟨w, ρ, dx, dy, r, ok, lx, ly, e, g⟩
  unfold bop at e
  split at e
  · cases lx.int; cases ly.int; cases e
    exact op_add pins s σ H _ _ v u Q I rx ry ⟨_, _, rfl, rfl, g.int ok⟩
  · cases lx.str; cases ly.str
    split at e
    · rename_i hz
      cases e
      exact op_add_str pins s σ H _ _ v u Q I rx ry ⟨_, _, rfl, rfl, hz, g.str ok⟩
    · cases e
  · split at e
    · rename_i xs ys hz
      cases e
      obtain ⟨a, vs, rfl, h1, r1, z1⟩ := lx.tup
      obtain ⟨b, us, rfl, h2, r2, z2⟩ := ly.tup
      refine op_addT pins s σ H _ _ v u Q I rx ry ⟨a, b, vs, us, rfl, rfl, h1, h2, by rw [← r1.length, ← r2.length]; exact hz, fun z => ?_, fun z => ?_, g.tup ok (by rw [List.length_append]; exact hz) (r1.append r2)⟩
      · subst z; cases r1
        cases ly with | rep h => exact g.rep ok h
      · subst z; cases r2
        rw [List.append_nil] at g
        cases lx with | rep h => exact g.rep ok h
    · cases e
  · split at e
    · rename_i xs ys hz
      cases e
      obtain ⟨a, vs, rfl, h1, r1, z1⟩ := lx.lst
      obtain ⟨b, us, rfl, h2, r2, z2⟩ := ly.lst
      exact op_cat pins s σ H _ _ v u Q I rx ry ⟨a, b, vs, us, rfl, rfl, h1, h2, by rw [← r1.length, ← r2.length]; exact hz, g.lst ok (by rw [List.length_append]; exact hz) (r1.append r2)⟩
    · cases e
  · cases lx.int; cases ly.int; cases e
    exact op_sub pins s σ H _ _ v u Q I rx ry ⟨_, _, rfl, rfl, g.int ok⟩
  · cases lx.int; cases ly.int
    split at e
    · rename_i hz
      cases e
      exact op_mulW pins s σ H _ _ v u Q I rx ry ⟨_, _, rfl, rfl, hz, g.int ok⟩
    · cases e
  · cases ly.int
    split at e
    · rename_i xs k hz
      cases e
      obtain ⟨a, vs, rfl, h1, r1, z1⟩ := lx.lst
      exact op_rep pins s σ H _ _ v u Q I rx ry ⟨a, k, vs, rfl, rfl, h1, by omega, by omega, by rw [← r1.length]; exact hz.2.2, g.lst ok (by rw [flat_len]; exact hz.2.2) (r1.rep _)⟩
    · cases e
  · cases lx.int; cases ly.int
    split at e
    · rename_i hz
      cases e
      exact op_fdivX pins s σ H _ _ v u Q I rx ry ⟨_, _, rfl, rfl, hz, g.int ok⟩
    · cases e
  · cases lx.int; cases ly.int
    split at e
    · rename_i hz
      cases e
      exact op_modN pins s σ H _ _ v u Q I rx ry ⟨_, _, rfl, rfl, hz, g.int ok⟩
    · cases e
  · cases lx.int; cases ly.int
    split at e
    · rename_i hz
      cases e
      exact op_pow pins s σ H _ _ v u Q I rx ry ⟨_, _, rfl, rfl, hz, g.int ok⟩
    · cases e
  · cases lx.int; cases ly.int; cases e
    exact op_and pins s σ H _ _ v u Q I rx ry ⟨_, _, rfl, rfl, g.int ok⟩
  · cases lx.int; cases ly.int; cases e
    exact op_xor pins s σ H _ _ v u Q I rx ry ⟨_, _, rfl, rfl, g.int ok⟩
  · cases lx.int; cases ly.int
    split at e
    · rename_i hz
      cases e
      exact op_shr pins s σ H _ _ v u Q I rx ry ⟨_, _, rfl, rfl, hz, g.int ok⟩
    · cases e
  · cases e
def coOf : Co → CmpOp
  | .eq => .Eq | .ne => .NotEq | .lt => .Lt | .le => .LtE | .gt => .Gt | .ge => .GtE | .isN => .Is | .notN => .IsNot | .isIn => .In | .notIn => .NotIn
theorem lies_non {K : PySem.W.Frag} {w : Wd} {H : Hp} {d : D} {v : V} (l : Lies K w H d v) (h1 : d ≠ .non) (h2 : ∀ u, d ≠ .cst u) : v ≠ .non := by
  cases l with
  | rep h => cases h <;> first | exact absurd rfl h1 | exact absurd rfl (h2 _) | exact fun z => nomatch z
  | own hz h r => exact fun z => nomatch z
theorem cop_ok {n : Nat} (hr : Room n X.A) (o : Co) : OpR X (compareOp (coOf o)) (fun x y H Q => ∃ w ρ dx dy b, WOk X.K w H ρ ∧ Lies X.K w H dx x ∧ Lies X.K w H dy y ∧ cop o dx dy = some b ∧ Q (.bl b) H) := by
  intro pins s σ H x y v u Q I rx ry ⟨w, ρ, dx, dy, b, ok, lx, ly, e, g⟩
  have hu := hr.units
  have hu2 : X.A.units + 65 < cLine := by have := hr.un; omega
  unfold cop at e
  split at e
  · split at e
    · rename_i h
      rw [Bool.and_eq_true] at h
      cases e
      exact op_eqD hu pins s σ H _ _ v u Q I rx ry ⟨_, _, lx.dp h.1, ly.dp h.2, okD_shaped h.1 (by decide), okD_shaped h.2 (by decide), g⟩
    · cases e
  · split at e
    · rename_i h
      rw [Bool.and_eq_true] at h
      cases e
      exact op_neD hu pins s σ H _ _ v u Q I rx ry ⟨_, _, lx.dp h.1, ly.dp h.2, okD_shaped h.1 (by decide), okD_shaped h.2 (by decide), g⟩
    · cases e
  · cases lx.int; cases ly.int; cases e; exact op_lt pins s σ H _ _ v u Q I rx ry ⟨_, _, rfl, rfl, g⟩
  · cases lx.int; cases ly.int; cases e; exact op_le pins s σ H _ _ v u Q I rx ry ⟨_, _, rfl, rfl, g⟩
  · cases lx.int; cases ly.int; cases e; exact op_gt pins s σ H _ _ v u Q I rx ry ⟨_, _, rfl, rfl, g⟩
  · cases lx.int; cases ly.int; cases e; exact op_ge pins s σ H _ _ v u Q I rx ry ⟨_, _, rfl, rfl, g⟩
  · cases lx.str; cases ly.str; cases e; exact op_lt_str pins s σ H _ _ v u Q I rx ry ⟨_, _, rfl, rfl, g⟩
  · cases ly.non
    refine op_isN pins s σ H _ _ v u Q I rx ry ⟨rfl, ?_⟩
    split at e
    · cases e; cases lx.non; exact g
    · cases e
    · rename_i h1 h2
      cases e
      rw [decide_eq_false (lies_non lx h1 h2)]
      exact g
  · cases ly.non
    refine op_notN pins s σ H _ _ v u Q I rx ry ⟨rfl, ?_⟩
    split at e
    · cases e; cases lx.non; exact g
    · cases e
    · rename_i h1 h2
      cases e
      rw [decide_eq_false (lies_non lx h1 h2)]
      exact g
  · cases lx.str; cases ly.str; cases e; exact op_in_str pins s σ H _ _ v u Q I rx ry ⟨_, _, rfl, rfl, g⟩
  · cases lx.str; cases ly.str; cases e; exact op_notin_str pins s σ H _ _ v u Q I rx ry ⟨_, _, rfl, rfl, g⟩
  · split at e
    · rename_i x' ys h
      rw [Bool.and_eq_true] at h
      cases e
      have h2 : okD 60 (.lst ys) = true := h.2
      refine op_inD hu2 pins s σ H _ _ v u Q I rx ry ⟨_, toPys ys, lx.dp h.1, ly.dp h2, okD_shaped h.1 (by decide), okD_shaped h2 (by decide), ?_⟩
      rw [toPys_map, List.any_map]
      exact g
    · cases e
  · split at e
    · rename_i x' ys h
      rw [Bool.and_eq_true] at h
      cases e
      have h2 : okD 60 (.lst ys) = true := h.2
      refine op_notInD hu2 pins s σ H _ _ v u Q I rx ry ⟨_, toPys ys, lx.dp h.1, ly.dp h2, okD_shaped h.1 (by decide), okD_shaped h2 (by decide), ?_⟩
      rw [toPys_map, List.any_map]
      exact g
    · cases e
  · cases e

/-! ### truth -/
theorem truV {K : PySem.W.Frag} {w : Wd} {H : Hp} {ρ : Sto} {d : D} {v : V} {b : Bool} (l : Lies K w H (der ρ d) v) (e : tru ρ d = some b) : TruV K v H b := by
  unfold tru at e
  split at e
  · rename_i q; rw [q] at l; cases l.non; cases e; rfl
  · rename_i q; rw [q] at l; cases l.bl; cases e; rfl
  · rename_i q; rw [q] at l; cases l.int; cases e; rfl
  · rename_i q
    rw [q] at l; cases l.str
    split at e
    · rename_i hz; cases e; exact ⟨hz, rfl⟩
    · cases e
  · rename_i q
    rw [q] at l
    obtain ⟨a, vs, rfl, h1, r1, z1⟩ := l.tup
    cases e
    exact .inr (.inl ⟨vs, h1, by rw [r1.isEmpty]⟩)
  · rename_i q
    rw [q] at l
    obtain ⟨a, vs, rfl, h1, r1, z1⟩ := l.lst
    cases e
    exact .inl ⟨vs, .of h1, by rw [r1.isEmpty]⟩
  · rename_i q
    rw [q] at l
    obtain ⟨a, vs, rfl, h1, r1, z1⟩ := l.ro
    cases e
    exact .inl ⟨vs, h1, by rw [r1.isEmpty]⟩
  · cases e

/-! ### built-ins -/
theorem asInts_eq : ∀ {xs : List D} {ns : List Int}, asInts xs = some ns → xs = ns.map D.int
  | [], ns, e => by cases e; rfl
  | .int i :: r, ns, e => by
    unfold asInts at e
    cases h : asInts r with
    | none => rw [h] at e; cases e
    | some ms => rw [h] at e; cases e; rw [asInts_eq h]; rfl
  | .non :: _, _, e => by cases e
  | .bl _ :: _, _, e => by cases e
  | .str _ :: _, _, e => by cases e
  | .tup _ :: _, _, e => by cases e
  | .lst _ :: _, _, e => by cases e
  | .ro _ :: _, _, e => by cases e
  | .loc _ :: _, _, e => by cases e
  | .cst _ :: _, _, e => by cases e
theorem asInts_map : ∀ ns : List Int, asInts (ns.map D.int) = some ns
  | [] => rfl
  | n :: r => by rw [List.map_cons]; unfold asInts; rw [asInts_map r]; rfl
theorem asBls_eq : ∀ {xs : List D} {ns : List Bool}, asBls xs = some ns → xs = ns.map D.bl
  | [], ns, e => by cases e; rfl
  | .bl i :: r, ns, e => by
    unfold asBls at e
    cases h : asBls r with
    | none => rw [h] at e; cases e
    | some ms => rw [h] at e; cases e; rw [asBls_eq h]; rfl
  | .non :: _, _, e => by cases e
  | .int _ :: _, _, e => by cases e
  | .str _ :: _, _, e => by cases e
  | .tup _ :: _, _, e => by cases e
  | .lst _ :: _, _, e => by cases e
  | .ro _ :: _, _, e => by cases e
  | .loc _ :: _, _, e => by cases e
  | .cst _ :: _, _, e => by cases e
theorem asBls_map : ∀ ns : List Bool, asBls (ns.map D.bl) = some ns
  | [] => rfl
  | n :: r => by rw [List.map_cons]; unfold asBls; rw [asBls_map r]; rfl
theorem most_ge : ∀ {ns : List Int} {x : Int}, x ∈ ns → x ≤ most ns
  | [y], x, h => by
    have : x = y := by simpa using h
    subst this; exact Int.le_refl _
  | y :: z :: r, x, h => by
    show x ≤ max y (most (z :: r))
    rcases List.mem_cons.mp h with h | h
    · subst h; exact Int.le_max_left _ _
    · exact Int.le_trans (most_ge h) (Int.le_max_right _ _)
theorem most_mem : ∀ {ns : List Int}, ns ≠ [] → most ns ∈ ns
  | [y], _ => by show y ∈ [y]; simp
  | y :: z :: r, _ => by
    show max y (most (z :: r)) ∈ _
    have ih := most_mem (ns := z :: r) (by simp)
    rcases Int.le_total y (most (z :: r)) with h | h
    · rw [Int.max_eq_right h]; exact List.mem_cons_of_mem _ ih
    · rw [Int.max_eq_left h]; simp
theorem least_le : ∀ {ns : List Int} {x : Int}, x ∈ ns → least ns ≤ x
  | [y], x, h => by
    have : x = y := by simpa using h
    subst this; exact Int.le_refl _
  | y :: z :: r, x, h => by
    show min y (least (z :: r)) ≤ x
    rcases List.mem_cons.mp h with h | h
    · subst h; exact Int.min_le_left _ _
    · exact Int.le_trans (Int.min_le_right _ _) (least_le h)
theorem least_mem : ∀ {ns : List Int}, ns ≠ [] → least ns ∈ ns
  | [y], _ => by show y ∈ [y]; simp
  | y :: z :: r, _ => by
    show min y (least (z :: r)) ∈ _
    have ih := least_mem (ns := z :: r) (by simp)
    rcases Int.le_total y (least (z :: r)) with h | h
    · rw [Int.min_eq_left h]; simp
    · rw [Int.min_eq_right h]; exact List.mem_cons_of_mem _ ih

/-- the arguments of a built-in, as they lie -/
inductive LiesAll (K : PySem.W.Frag) (w : Wd) (H : Hp) : List D → List V → Prop
  | nil : LiesAll K w H [] []
  | cons {d : D} {v : V} {ds : List D} {vs : List V} (h : Lies K w H d v) (r : LiesAll K w H ds vs) : LiesAll K w H (d :: ds) (v :: vs)
inductive BiK where
  | blt (n : String) | ty (n : String) | glo (n : String) (x : String)
def biOf : Bi → BiK
  | .len => .blt "len" | .abs => .blt "abs" | .int => .ty "int" | .max2 => .blt "max" | .min2 => .blt "min" | .gcd => .glo "math.gcd" "gcd" | .lcm => .glo "math.lcm" "lcm"
  | .sum => .blt "sum" | .all => .blt "all" | .any => .blt "any" | .tuple => .ty "tuple" | .list => .ty "list" | .max1 => .blt "max" | .min1 => .blt "min"
def BiK.val : BiK → Value
  | .blt n => .builtin n
  | .ty n => .type n
  | .glo n _ => .builtin n
theorem bfn_ok (hc : X.calm = true) (b : Bi) : CallR X (biOf b).val (fun xs H Q => ∃ w ρ ds r, WOk X.K w H ρ ∧ LiesAll X.K w H ds xs ∧ bfn b ds = some r ∧ Gv X.K w H ρ r Q) := by
  intro pins s σ H xs us Q I rs ⟨w, ρ, ds, r, ok, ls, e, g⟩
  unfold bfn at e
  split at e
  · cases ls with | cons l ls => ?_
    cases ls; cases l.str
    split at e
    · rename_i hz
      cases e
      exact call_len pins s σ H _ us Q I rs ⟨_, _, rfl, ⟨hz, rfl⟩, g.int ok⟩
    · cases e
  · cases ls with | cons l ls => ?_
    cases ls; cases e
    obtain ⟨a, vs, rfl, h1, r1, z1⟩ := l.tup
    rw [r1.length] at g
    exact call_len_seq pins s σ H _ us Q I rs ⟨_, _, rfl, .inr h1, g.int ok⟩
  · cases ls with | cons l ls => ?_
    cases ls; cases e
    obtain ⟨a, vs, rfl, h1, r1, z1⟩ := l.lst
    rw [r1.length] at g
    exact call_len_seq pins s σ H _ us Q I rs ⟨_, _, rfl, .inl (.of h1), g.int ok⟩
  · cases ls with | cons l ls => ?_
    cases ls; cases e
    obtain ⟨a, vs, rfl, h1, r1, z1⟩ := l.ro
    rw [r1.length] at g
    exact call_len_seq pins s σ H _ us Q I rs ⟨_, _, rfl, .inl h1, g.int ok⟩
  · cases ls with | cons l ls => ?_
    cases ls; cases e; cases l.int
    exact call_abs pins s σ H _ us Q I rs ⟨_, rfl, g.int ok⟩
  · cases ls with | cons l ls => ?_
    cases ls; cases e; cases l.int
    exact call_int1 pins s σ H _ us Q I rs (.inl ⟨_, rfl, g.int ok⟩)
  · cases ls with | cons l ls => ?_
    cases ls; cases e; cases l.bl
    exact call_int1 pins s σ H _ us Q I rs (.inr ⟨_, rfl, g.int ok⟩)
  · cases ls with | cons l ls => ?_
    cases ls with | cons l2 ls => ?_
    cases ls; cases e; cases l.int; cases l2.int
    exact call_max2 hc pins s σ H _ us Q I rs ⟨_, _, rfl, g.int ok⟩
  · cases ls with | cons l ls => ?_
    cases ls with | cons l2 ls => ?_
    cases ls; cases e; cases l.int; cases l2.int
    exact call_min2 hc pins s σ H _ us Q I rs ⟨_, _, rfl, g.int ok⟩
  · cases ls with | cons l ls => ?_
    cases ls with | cons l2 ls => ?_
    cases ls; cases e; cases l.int; cases l2.int
    exact cr_gcd pins s σ H _ us Q I rs ⟨_, _, rfl, g.int ok⟩
  · cases ls with | cons l ls => ?_
    cases ls with | cons l2 ls => ?_
    cases ls; cases l.int; cases l2.int
    split at e
    · rename_i hz
      cases e
      exact cr_lcm pins s σ H _ us Q I rs ⟨_, _, rfl, hz, g.int ok⟩
    · cases e
  · cases ls with | cons l ls => ?_
    cases ls
    rw [Option.map_eq_some_iff] at e
    obtain ⟨ns, h, e⟩ := e
    · cases asInts_eq h
      cases e
      obtain ⟨a, vs, rfl, h1, r1, z1⟩ := l.lst
      cases r1.ints
      exact cr_sum hc pins s σ H _ us Q I rs ⟨_, _, rfl, .of h1, g.int ok⟩
  · cases ls with | cons l ls => ?_
    cases ls
    rw [Option.map_eq_some_iff] at e
    obtain ⟨ns, h, e⟩ := e
    · cases asBls_eq h
      cases e
      obtain ⟨a, vs, rfl, h1, r1, z1⟩ := l.lst
      cases r1.bls
      exact cr_all hc pins s σ H _ us Q I rs ⟨_, _, rfl, .of h1, g.bl ok⟩
  · cases ls with | cons l ls => ?_
    cases ls
    rw [Option.map_eq_some_iff] at e
    obtain ⟨ns, h, e⟩ := e
    · cases asBls_eq h
      cases e
      obtain ⟨a, vs, rfl, h1, r1, z1⟩ := l.lst
      cases r1.bls
      exact cr_any hc pins s σ H _ us Q I rs ⟨_, _, rfl, .of h1, g.bl ok⟩
  · cases ls with | cons l ls => ?_
    cases ls; cases e
    obtain ⟨a, vs, rfl, h1, r1, z1⟩ := l.lst
    exact call_tuple_of pins s σ H _ us Q I rs ⟨_, _, rfl, .inl ⟨.of h1, g.tup ok z1 r1⟩⟩
  · cases ls with | cons l ls => ?_
    cases ls; cases e
    have l' := l
    obtain ⟨a, vs, rfl, h1, r1, z1⟩ := l'.tup
    cases l with | rep h => ?_
    exact call_tuple_of pins s σ H _ us Q I rs ⟨_, _, rfl, .inr ⟨h1, g.rep ok h⟩⟩
  · cases ls with | cons l ls => ?_
    cases ls; cases e
    obtain ⟨a, vs, rfl, h1, r1, z1⟩ := l.lst
    exact call_list_of pins s σ H _ us Q I rs ⟨_, _, rfl, .inl (.of h1), g.lst ok z1 r1⟩
  · cases ls with | cons l ls => ?_
    cases ls; cases e
    obtain ⟨a, vs, rfl, h1, r1, z1⟩ := l.tup
    exact call_list_of pins s σ H _ us Q I rs ⟨_, _, rfl, .inr h1, g.lst ok z1 r1⟩
  · cases ls with | cons l ls => ?_
    cases ls
    rw [Option.bind_eq_some_iff] at e
    obtain ⟨ns, h, e⟩ := e
    · cases asInts_eq h
      split at e
      · cases e
      · rename_i hne
        cases e
        obtain ⟨a, vs, rfl, h1, r1, z1⟩ := l.lst
        cases r1.ints
        refine cr_max hc pins s σ H _ us Q I rs ⟨_, _, rfl, .of h1, List.length_pos_iff.mpr hne, fun m hm hle => ?_⟩
        have : m = most ns := Int.le_antisymm (most_ge hm) (hle _ (most_mem hne))
        subst this
        exact g.int ok
  · cases ls with | cons l ls => ?_
    cases ls
    rw [Option.bind_eq_some_iff] at e
    obtain ⟨ns, h, e⟩ := e
    · cases asInts_eq h
      split at e
      · cases e
      · rename_i hne
        cases e
        obtain ⟨a, vs, rfl, h1, r1, z1⟩ := l.lst
        cases r1.ints
        refine cr_min hc pins s σ H _ us Q I rs ⟨_, _, rfl, .of h1, List.length_pos_iff.mpr hne, fun m hm hle => ?_⟩
        have : m = least ns := Int.le_antisymm (hle _ (least_mem hne)) (least_le hm)
        subst this
        exact g.int ok
  · cases e

/-! ### subscripts -/
theorem atI_map {α β : Type} {xs : List α} {ys : List β} {i : Int} {x : α} (hl : xs.length = ys.length) (h : atI xs i = some x) : ∃ (j : Nat) (y : β), ys[j]? = some y ∧ atI ys i = some y ∧ xs[j]? = some x := by
  unfold atI at h ⊢
  rw [hl] at h
  cases e : ixN ys.length i with
  | none => rw [e] at h; cases h
  | some j =>
    rw [e] at h
    have h : xs[j]? = some x := h
    obtain ⟨h1, _⟩ := List.getElem?_eq_some_iff.mp h
    have h2 : j < ys.length := by omega
    exact ⟨j, ys[j], List.getElem?_eq_getElem h2, List.getElem?_eq_getElem h2, h⟩
theorem idx_ok : IxR X (fun x y H Q => ∃ w ρ dx dy r, WOk X.K w H ρ ∧ Lies X.K w H dx x ∧ Lies X.K w H dy y ∧ idx dx dy = some r ∧ Gv X.K w H ρ r Q) := by
  intro value slice pins s σ H x y v u Q I rx ry ⟨w, ρ, dx, dy, r, ok, lx, ly, e, g⟩ hs
  unfold idx at e
  split at e
  · rename_i xs i
    cases ly.int
    obtain ⟨a, vs, rfl, h1, r1, z1⟩ := lx.ro
    cases h : atI xs i with
    | none => rw [h] at e; cases e
    | some d =>
      rw [h] at e; cases e
      obtain ⟨j, y, e1, e2, e3⟩ := atI_map r1.length h
      obtain ⟨y', e4, q⟩ := r1.get e3
      rw [e1] at e4; cases e4
      exact ix_list value slice pins s σ H _ _ v u Q I rx ry ⟨a, vs, i, y, rfl, rfl, h1, e2, g.rep ok q⟩ hs
  · rename_i xs i
    cases ly.int
    obtain ⟨a, vs, rfl, h1, r1, z1⟩ := lx.lst
    cases h : atI xs i with
    | none => rw [h] at e; cases e
    | some d =>
      rw [h] at e; cases e
      obtain ⟨j, y, e1, e2, e3⟩ := atI_map r1.length h
      obtain ⟨y', e4, q⟩ := r1.get e3
      rw [e1] at e4; cases e4
      exact ix_list value slice pins s σ H _ _ v u Q I rx ry ⟨a, vs, i, y, rfl, rfl, .of h1, e2, g.rep ok q⟩ hs
  · rename_i xs i
    cases ly.int
    obtain ⟨a, vs, rfl, h1, r1, z1⟩ := lx.tup
    cases h : atI xs i with
    | none => rw [h] at e; cases e
    | some d =>
      rw [h] at e; cases e
      obtain ⟨j, y, e1, e2, e3⟩ := atI_map r1.length h
      obtain ⟨y', e4, q⟩ := r1.get e3
      rw [e1] at e4; cases e4
      exact ix_tup value slice pins s σ H _ _ v u Q I rx ry ⟨a, vs, i, y, rfl, rfl, h1, e2, g.rep ok q⟩ hs
  · rename_i z i
    cases lx.str; cases ly.int
    split at e
    · rename_i hz
      cases h : atI z.cps.toList i with
      | none => rw [h] at e; cases e
      | some c =>
        rw [h] at e; cases e
        exact ix_str value slice pins s σ H _ _ v u Q I rx ry ⟨z, i, c, rfl, rfl, hz, h, g.str ok⟩ hs
    · cases e
  · cases e
theorem cut_reps {K : PySem.W.Frag} {w : Wd} {H : Hp} {ds : List D} {vs : List V} (r : Reps K w H ds vs) (lo hi : Option Int) : Reps K w H (cutD ds lo hi) (cutV vs lo hi) := by
  unfold cutD cutV
  rw [← r.length]
  exact (r.drop _).take _
theorem cutD_le (xs : List D) (lo hi : Option Int) : (cutD xs lo hi).length ≤ xs.length := by
  unfold cutD
  rw [List.length_take, List.length_drop]
  omega
theorem slc_ok : SlR X (fun x lo hi H Q => ∃ w ρ dx r, WOk X.K w H ρ ∧ Lies X.K w H dx x ∧ slc dx lo hi = some r ∧ Gv X.K w H ρ r Q) := by
  intro pins s σ H x v vl vu lo hi sl Q I rx hs pl pu ⟨w, ρ, dx, r, ok, lx, e, g⟩
  unfold slc at e
  split at e
  · cases e
    obtain ⟨a, vs, rfl, h1, r1, z1⟩ := lx.ro
    exact sl_list pins s σ H _ v vl vu _ _ sl Q I rx hs pl pu ⟨a, vs, rfl, h1, g.lst ok (Nat.le_trans (cutD_le _ _ _) z1) (cut_reps r1 _ _)⟩
  · cases e
    obtain ⟨a, vs, rfl, h1, r1, z1⟩ := lx.lst
    exact sl_list pins s σ H _ v vl vu _ _ sl Q I rx hs pl pu ⟨a, vs, rfl, .of h1, g.lst ok (Nat.le_trans (cutD_le _ _ _) z1) (cut_reps r1 _ _)⟩
  · rename_i xs
    cases e
    have lx' := lx
    obtain ⟨a, vs, rfl, h1, r1, z1⟩ := lx'.tup
    refine sl_tupW pins s σ H _ v vl vu _ _ sl Q I rx hs pl pu ⟨a, vs, rfl, h1, fun hw => ?_, g.tup ok (Nat.le_trans (cutD_le _ _ _) z1) (cut_reps r1 _ _)⟩
    have e2 : cutD xs lo hi = xs := by
      unfold cutD
      rw [r1.length, hw.1, hw.2, List.drop_zero, Nat.sub_zero, ← r1.length, List.take_length]
    rw [e2] at g
    cases lx with | rep h => exact g.rep ok h
  · cases lx.str
    split at e
    · rename_i hz
      cases e
      exact sl_str pins s σ H _ v vl vu _ _ sl Q I rx hs pl pu ⟨_, rfl, hz, g.str ok⟩
    · cases e
  · cases e
end
end Ev
end

section
set_option Elab.async false
set_option linter.all false
set_option maxRecDepth 100000
set_option maxHeartbeats 4000000
/-! expressions: what the reckoner gives is what Python gives -/
namespace Ev
open PySem PySem.Spec PyProof.Rows L2

/-! ### judgements -/
def XR (K : PySem.W.Frag) (w : Wd) (H : Hp) (x : Xc) (d : Option Addr) : Prop := match x.pay with
  | none => d = none
  | some p => ∃ a f v, d = some a ∧ w.F a ∧ H a = some (.xd [(f, v)]) ∧ Rep K w H p v
def Out {α : Type} (K : PySem.W.Frag) (C : Nat → Addr) (w : Wd) (H : Hp) (r : Res α) (k : Wd → Hp → α → Sto → Prop) (E : XK) : Prop := match r with
  | .ok a ρ' => ∀ w' H', Le w H w' H' → WOk K w' H' ρ' → k w' H' a ρ'
  | .exc x ρ' => ∀ w' H' d, Le w H w' H' → WOk K w' H' ρ' → XR K w' H' x d → E (.ref (C x.k)) d H'
  | .no => False
section
variable {K : PySem.W.Frag} {C : Nat → Addr} {w w' : Wd} {H H' : Hp} {α β : Type} {E : XK}
theorem Out.le {r : Res α} {k : Wd → Hp → α → Sto → Prop} (l : Le w H w' H') (h : Out K C w H r k E) : Out K C w' H' r k E := by
  cases r with
  | ok a ρ => exact fun w2 H2 l2 => h w2 H2 (l.trans l2)
  | exc x ρ => exact fun w2 H2 d l2 => h w2 H2 d (l.trans l2)
  | no => exact h
theorem Out.mono {r : Res α} {k k' : Wd → Hp → α → Sto → Prop} (h : Out K C w H r k E) (i : ∀ w' H' a ρ', Le w H w' H' → WOk K w' H' ρ' → k w' H' a ρ' → k' w' H' a ρ') : Out K C w H r k' E := by
  cases r with
  | ok a ρ => exact fun w2 H2 l2 o2 => i w2 H2 a ρ l2 o2 (h w2 H2 l2 o2)
  | exc x ρ => exact h
  | no => exact h
theorem Out.bind {r : Res α} {f : α → Sto → Res β} {k : Wd → Hp → β → Sto → Prop} (h : Out K C w H (r.bind f) k E) : Out K C w H r (fun w' H' a ρ' => Out K C w' H' (f a ρ') k E) E := by
  cases r with
  | ok a ρ => exact fun w2 H2 l2 o2 => Out.le l2 h
  | exc x ρ => exact h
  | no => exact h
theorem Out.opt {o : Option α} {ρ : Sto} {k : Wd → Hp → α → Sto → Prop} (ok : WOk K w H ρ) (h : Out K C w H (Res.opt o ρ) k E) : ∃ a, o = some a ∧ ∀ w' H', Le w H w' H' → WOk K w' H' ρ → k w' H' a ρ := by
  cases o with
  | none => exact False.elim h
  | some a => exact ⟨a, rfl, h⟩
theorem Out.nox {r : Res α} {k : Wd → Hp → α → Sto → Prop} {E' : XK} (h : Out K C w H r.nox k E) : Out K C w H r k E' := by
  cases r with
  | ok a ρ => exact h
  | exc x ρ => exact False.elim h
  | no => exact h
end

/-- the names -/
def EnvR (K : PySem.W.Frag) (w : Wd) (H : Hp) (env : Envr) (σ : L2.St) : Prop :=
  env.length = σ.length ∧ ∀ (i : Nat) (s : Slot), env[i]? = some (some s) → ∃ v, σ[i]? = some (some v) ∧ RepR K w H ⟨s.d, if s.own then .al else .sh⟩ v
theorem RepR.mono {K : PySem.W.Frag} {w w' : Wd} {H H' : Hp} {r : Rv} {v : V} (l : Le w H w' H') (hf : r.fl ≠ .fr) (h : RepR K w H r v) : RepR K w' H' r v := by
  obtain ⟨d, fl⟩ := r
  cases fl with
  | sh => exact Rep.mono l h
  | fr => exact absurd rfl hf
  | al =>
    obtain ⟨a, ds, vs, e1, e2, hz, h1, q, o⟩ := h
    exact ⟨a, ds, vs, e1, e2, hz, by rw [l.keep a (.inr o)]; exact h1, q.mono l, l.O a o⟩
theorem EnvR.mono {K : PySem.W.Frag} {w w' : Wd} {H H' : Hp} {env : Envr} {σ : L2.St} (l : Le w H w' H') (h : EnvR K w H env σ) : EnvR K w' H' env σ :=
  ⟨h.1, fun i s e => let ⟨v, e1, r⟩ := h.2 i s e; ⟨v, e1, r.mono l (by cases s.own <;> simp)⟩⟩

/-- al: the own lists of names may be walked, too -/
def gw : Bool → Wd → Wd
  | true, w => w
  | false, w => w.unres fun _ => False
theorem Rep.gw {K : PySem.W.Frag} {w : Wd} {H : Hp} {d : D} {v : V} (al : Bool) (h : Rep K w H d v) : Rep K (gw al w) H d v := by
  cases al with
  | true => exact h
  | false => exact h.unres
section
variable (K : PySem.W.Frag) (C : Nat → Addr) (W : WX)
def tE (f : Envr → Sto → Res Rv) : TE := fun σ H Q => ∃ w env ρ, WOk K w H ρ ∧ EnvR K w H env σ ∧ Out K C w H (f env ρ) (fun w' H' r _ => ∀ v, RepR K w' H' r v → Q v H') (fun c d H' => W c d σ H')
def tT (f : Envr → Sto → Res Rv) : TT := fun σ H Q => ∃ w env ρ, WOk K w H ρ ∧ EnvR K w H env σ ∧ Out K C w H (f env ρ) (fun _ H' r ρ' => ∃ b, tru ρ' r.d = some b ∧ Q b H') (fun c d H' => W c d σ H')
def tA (f : Envr → Sto → Res (List D)) : TA := fun σ H Q => ∃ w env ρ, WOk K w H ρ ∧ EnvR K w H env σ ∧ Out K C w H (f env ρ) (fun w' H' ds ρ' => ∀ w2 vs, Le w' H' w2 H' → WOk K w2 H' ρ' → Reps K w2 H' ds vs → Q vs H') (fun c d H' => W c d σ H')
/-- J walks over ds, wherever the world goes -/
structure Goes (w : Wd) (H : Hp) (J : It) (ds : List D) : Prop where
  go : ∀ i w' H' ρ, Le w H w' H' → WOk K w' H' ρ → i < ds.length → J.go i H'
  yld : ∀ i w' H' x H'' ρ d, Le w H w' H' → WOk K w' H' ρ → ds[i]? = some d → J.yld i H' x H'' → ∃ w'', Le w' H' w'' H'' ∧ WOk K w'' H'' ρ ∧ Rep K w'' H'' d x
  stop : ∀ i w' H' ρ, Le w H w' H' → WOk K w' H' ρ → ds.length ≤ i → J.stop i H'
def tI (al : Bool) (f : Envr → Sto → Res (List D)) : TI := fun σ H R => ∃ w env ρ, WOk K w H ρ ∧ EnvR K w H env σ ∧ Out K C w H (f env ρ) (fun w' H' ds ρ' => ∀ w2 J, Le w' H' w2 H' → WOk K w2 H' ρ' → Goes K (gw al w2) H' J ds → R J H') (fun c d H' => W c d σ H')
mutual
/-- the targets' places -/
def tgs : Tg → List Nat
  | .nm i => [i]
  | .tup ts => tgss ts
def tgss : Tgs → List Nat
  | .nil => []
  | .cons t r => tgs t ++ tgss r
end
def gT (t : Tg) : TG := fun v σ H Q => ∃ w env ρ d env', WOk K w H ρ ∧ EnvR K w H env σ ∧ Rep K w H d v ∧ asgT t d env = some env' ∧ ∀ σ', EnvR K w H env' σ' → (∀ i, i ∉ tgs t → σ'[i]? = σ[i]?) → Q σ' H
def gTs (ts : Tgs) : TGs := fun vs σ H Q => ∃ w env ρ ds env', WOk K w H ρ ∧ EnvR K w H env σ ∧ Reps K w H ds vs ∧ asgTs ts ds env = some env' ∧ ∀ σ', EnvR K w H env' σ' → (∀ i, i ∉ tgss ts → σ'[i]? = σ[i]?) → Q σ' H
end

/-! ### the text and what stands in it -/
structure Tabs where
  /-- the defs: name, parameters -/
  dn : List (Str × List Str)
  /-- calls with keywords: the def, how many by place, the keywords, the values' places for the parameters -/
  kb : List (Nat × Nat × List Str × List Nat)
  /-- the constants of the top -/
  gn : List Str
  /-- built-in names in use -/
  bn : List Str
  /-- names for built-in functions of modules -/
  gl : List (String × String)
  /-- the error classes, and which is which one's -/
  cn : List Str
  sb : List (List Bool)
def Tabs.sub (T : Tabs) (k h : Nat) : Option Bool := (T.sb[k]?).bind fun r => r[h]?
def OutC (K : PySem.W.Frag) (C : Nat → Addr) (w : Wd) (H : Hp) (r : Res Rv) (Q : VK) (E : XK) : Prop := Out K C w H r (fun w' H' r _ => ∀ v, RepR K w' H' r v → Q v H') E
def spOf (K : PySem.W.Frag) (C : Nat → Addr) (cf : Nat → List D → Sto → Res Rv) (f np : Nat) : Sp := fun vs H Q E =>
  vs.length = np ∧ ∃ w ρ ds, WOk K w H ρ ∧ Reps K w H ds vs ∧ OutC K C w H (cf f ds ρ) Q E
structure Fx (T : Tabs) (g : List D) (cf : Nat → List D → Sto → Res Rv) (C : Nat → Addr) (n : Nat) (P : Program) (w : World) (K : PySem.W.Frag) (mg : Str → Option Value) (base : Heap) : Prop where
  glb : ∀ (k : Nat) (x : Str) (d : D), T.gn[k]? = some x → g[k]? = some d → ∃ v u, mg x = some u ∧ RelV v u ∧ ∀ wd H, Rep K wd H d v
  df : ∀ (f : Nat) (x : Str) (ps : List Str), T.dn[f]? = some (x, ps) → ∃ a fd, mg x = some (.ref a) ∧ PySem.W.keepIn K (.ref a) = true ∧ Binds K fd ps [] ∧
    (∀ np ks pm, (f, np, ks, pm) ∈ T.kb → ∀ (s : Shared) (us ws zs : List Value), K.In s.heap → us.length = np → ws.length = ks.length → (pm.mapM fun i => (us ++ ws)[i]?) = some zs → BindsTo s fd ⟨us, ks.zip ws⟩ (ps.zip zs)) ∧
    FnOk P w K mg base (L2.CX P w) n a fd ps (spOf K C cf f ps.length)
  bt : ∀ x ∈ T.bn, mg x = none
  gf : ∀ x id, (x, id) ∈ T.gl → mg (Str.ofString x) = some (.builtin id)
  cl : ∀ (k : Nat) (x : Str), T.cn[k]? = some x → mg x = some (.ref (C k)) ∧ PySem.W.keepIn K (.ref (C k)) = true ∧ PySem.W.subIn K (.ref (C k)) (.type "BaseException") = some true ∧ PySem.W.typeIn K (.ref (C k)) = some (.type "type")
  cx : ∀ k x, T.cn[k]? = some x → PySem.W.excIn K (C k) [.type "ValueError", .type "Exception", .type "BaseException", .type "object"] "ValueError.__new__" = true
  cs : ∀ k h b, T.sub k h = some b → PySem.W.exmOne K (.ref (C k)) (.ref (C h)) = some b
structure Cok (T : Tabs) (g : List D) (cf : Nat → List D → Sto → Res Rv) (C : Nat → Addr) (n : Nat) (N : List Str) (sc : Scope) (X : Cx) : Prop where
  nd : N.Nodup
  N : X.N = N
  scp : X.env.scope = sc
  calm : X.calm = true
  room : Room n X.A
  fx : Fx T g cf C n X.prog X.w X.K X.mg X.base

/-! ### the check of a text against the language -/
def okNm (x : Str) : Bool := !(x == ("__debug__" : Str)) && !(x == ("__classdict__" : Str)) && !(x == ("__name__" : Str))
def isVis (sc : Scope) (x : Str) : Bool := match sc.names.lookup x with
  | some .local => true
  | some .cell => true
  | some .free => true
  | _ => false
def isLoc (sc : Scope) (x : Str) : Bool := match sc.names.lookup x with
  | some .local => true
  | some .cell => true
  | _ => false
def isGl (sc : Scope) (x : Str) : Bool := match sc.names.lookup x with
  | some .globalImplicit => true
  | _ => false
def notStar : Expr → Bool
  | .Starred .. => false
  | _ => true
def notSet : Expr → Bool
  | .Set .. => false
  | _ => true
def plainT : Expr → Bool
  | .UnaryOp .Not _ _ => false
  | .BoolOp .. => false
  | .IfExp .. => false
  | .Compare .. => false
  | _ => true
def chkC : D → Const → Bool
  | .non, .none => true
  | .bl b, .bool c => b == c
  | .int i, .int j => i == j
  | .str s, .str t => decide (s = t)
  | _, _ => false
def isOp : Operator → Operator → Bool
  | .Add, .Add => true | .Sub, .Sub => true | .Mult, .Mult => true | .FloorDiv, .FloorDiv => true | .Mod, .Mod => true | .Pow, .Pow => true | .BitAnd, .BitAnd => true | .BitXor, .BitXor => true | .RShift, .RShift => true
  | _, _ => false
def isCo : CmpOp → CmpOp → Bool
  | .Eq, .Eq => true | .NotEq, .NotEq => true | .Lt, .Lt => true | .LtE, .LtE => true | .Gt, .Gt => true | .GtE, .GtE => true | .Is, .Is => true | .IsNot, .IsNot => true | .In, .In => true | .NotIn, .NotIn => true
  | _, _ => false
def Es.len : Es → Nat
  | .nil => 0
  | .cons _ r => r.len + 1
def biNm : Bi → Str
  | .len => "len" | .abs => "abs" | .int => "int" | .max2 => "max" | .min2 => "min" | .gcd => "gcd" | .lcm => "lcm"
  | .sum => "sum" | .all => "all" | .any => "any" | .tuple => "tuple" | .list => "list" | .max1 => "max" | .min1 => "min"
def tnNm : Tn → Str
  | .non => "NoneType" | .bool => "bool" | .int => "int" | .str => "str" | .tuple => "tuple" | .list => "list" | .dict => "dict"
def notNon : Tn → Bool
  | .non => false
  | _ => true
def kwNms : List Keyword → Option (List Str)
  | [] => some []
  | ⟨some x, _, _⟩ :: r => (kwNms r).map (x :: ·)
  | _ => none
def isBt (T : Tabs) (sc : Scope) (x : Str) : Bool := isGl sc x && okNm x && decide (x ∈ T.bn)
mutual
def chkTg (N : List Str) (sc : Scope) : Tg → Expr → Bool
  | .nm i, .Name x _ => decide (N[i]? = some x) && isLoc sc x
  | .tup ts, .Tuple es _ _ => chkTgs N sc ts es
  | _, _ => false
def chkTgs (N : List Str) (sc : Scope) : Tgs → List Expr → Bool
  | .nil, [] => true
  | .cons t r, e :: es => notStar e && chkTg N sc t e && chkTgs N sc r es
  | _, _ => false
end
def ownN (N : List Str) : List Nat → Option (List (Str × Nat))
  | [] => some []
  | i :: r => match N[i]?, ownN N r with
    | some x, some l => some ((x, i) :: l)
    | _, _ => none
section
variable (T : Tabs) (N : List Str)
mutual
def chkE : E → Scope → Expr → Bool
  | .bad, _, _ => true
  | .nop, _, _ => false
  | .var i, sc, ast => match ast with
    | .Name x _ => decide (N[i]? = some x) && isVis sc x && okNm x
    | _ => false
  | .con d, sc, ast => match ast with
    | .Constant c _ _ => chkC d c
    | _ => false
  | .glb k, sc, ast => match ast with
    | .Name x _ => decide (T.gn[k]? = some x) && isGl sc x && okNm x
    | _ => false
  | .bin o a b, sc, ast => match ast with
    | .BinOp l op r _ => isOp (opOf o) op && chkE a sc l && chkE b sc r
    | _ => false
  | .neg a, sc, ast => match ast with
    | .UnaryOp .USub x _ => chkE a sc x
    | _ => false
  | .not a, sc, ast => match ast with
    | .UnaryOp .Not x _ => chkE a sc x
    | _ => false
  | .cmp o a b, sc, ast => match ast with
    | .Compare l [op] [r] _ => isCo (coOf o) op && notSet r && chkE a sc l && chkE b sc r
    | _ => false
  | .chn o p a b c, sc, ast => match ast with
    | .Compare l [op, op'] [m, r] _ => isCo (coOf o) op && isCo (coOf p) op' && notSet r && chkE a sc l && chkE b sc m && chkE c sc r
    | _ => false
  | .and a b, sc, ast => match ast with
    | .BoolOp .And (x :: y :: r) pos => chkE a sc x && (match r with | [] => chkE b sc y | _ :: _ => chkE b sc (.BoolOp .And (y :: r) pos))
    | _ => false
  | .or a b, sc, ast => match ast with
    | .BoolOp .Or (x :: y :: r) pos => chkE a sc x && (match r with | [] => chkE b sc y | _ :: _ => chkE b sc (.BoolOp .Or (y :: r) pos))
    | _ => false
  | .ite c a b, sc, ast => match ast with
    | .IfExp t x y _ => chkE c sc t && chkE a sc x && chkE b sc y
    | _ => false
  | .tup es, sc, ast => match ast with
    | .Tuple xs _ _ => chkEs es sc xs
    | _ => false
  | .lst es, sc, ast => match ast with
    | .List xs _ => chkEs es sc xs
    | _ => false
  | .sl a lo hi, sc, ast => match ast with
    | .Subscript x (.Slice l h none _) _ => chkE a sc x && (match l with | none => isNop lo | some l => !isNop lo && chkE lo sc l) && (match h with | none => isNop hi | some h => !isNop hi && chkE hi sc h)
    | _ => false
  | .ix a i, sc, ast => match ast with
    | .Subscript x y _ => (match y with | .Slice .. => false | .Tuple .. => false | _ => true) && chkE a sc x && chkE i sc y
    | _ => false
  | .call f es, sc, ast => match ast with
    | .Call (.Name x _) xs [] _ => (match T.dn[f]? with | some (y, ps) => decide (y = x) && (es.len == ps.length) | none => false) && !xs.isEmpty && isGl sc x && okNm x && chkEs es sc xs
    | _ => false
  | .callk f pm es ks, sc, ast => match ast with
    | .Call (.Name x _) xs kws _ => (match T.dn[f]?, kwNms kws with | some (y, ps), some ns => decide (y = x) && (pm.length == ps.length) && decide ((f, es.len, ns, pm) ∈ T.kb) && (ks.len == ns.length) | _, _ => false) &&
      isGl sc x && okNm x && chkEs es sc xs && chkEs ks sc (kws.map (·.value))
    | _ => false
  | .bi b es, sc, ast => match ast with
    | .Call (.Name x _) xs [] _ => decide (biNm b = x) && (match biOf b with | .glo id y => isGl sc x && okNm x && decide ((y, id) ∈ T.gl) && decide (x = Str.ofString y) | _ => isBt T sc x) && !xs.isEmpty && chkEs es sc xs
    | _ => false
  | .bi1 b a, sc, ast => match ast with
    | .Call (.Name x _) [y] [] _ => decide (biNm b = x) && (match biOf b with | .glo id z => isGl sc x && okNm x && decide ((z, id) ∈ T.gl) && decide (x = Str.ofString z) | _ => isBt T sc x) && notStar y && chkE a sc y
    | _ => false
  | .isi a t, sc, ast => match ast with
    | .Call (.Name x _) [y, .Name z _] [] _ => decide (x = ("isinstance" : Str)) && isBt T sc x && notNon t && decide (tnNm t = z) && isBt T sc z && notStar y && chkE a sc y
    | _ => false
  | .pop a, sc, ast => match ast with
    | .Call (.Attribute (.Name x p) m ap) [] [] cp => decide (m = ("pop" : Str)) && (ap.endLine == cp.line) && chkE a sc (.Name x p)
    | _ => false
  | .me _ _, _, _ => false
  | .lc own t it c e, sc, ast => match ast with
    | .ListComp elt [⟨tg, iter, ifs, 0⟩] scope _ => (match ownN N own with | some l => blkC N sc scope l | none => false) && (tgs t).all (fun i => own.contains i) && notSet iter && chkTg N scope t tg && chkI it sc tg iter &&
      (match ifs with | [] => isNop c | [x] => !isNop c && chkE c (relS scope sc) x | _ => false) && chkE e (relS scope sc) elt
    | _ => false
def chkEs : Es → Scope → List Expr → Bool
  | .nil, _, [] => true
  | .cons e r, sc, x :: xs => notStar x && chkE e sc x && chkEs r sc xs
  | _, _, _ => false
def chkI : Iw → Scope → Expr → Expr → Bool
  | .over e, sc, _, x => chkE e sc x
  | .rng es, sc, _, ast => match ast with
    | .Call (.Name x _) xs [] _ => decide (x = ("range" : Str)) && isBt T sc x && chkEs es sc xs && (xs.length == 1 || xs.length == 2)
    | _ => false
  | .enum es, sc, tg, ast => match tg, ast with
    | .Tuple _ _ _, .Call (.Name x _) [y] [] _ => decide (x = ("enumerate" : Str)) && isBt T sc x && chkEs es sc [y]
    | _, _ => false
  | .zip es, sc, tg, ast => match tg, ast with
    | .Tuple _ _ _, .Call (.Name x _) [y, z] [] _ => decide (x = ("zip" : Str)) && isBt T sc x && chkEs es sc [y, z]
    | _, _ => false
end
end
end Ev
end

section
set_option Elab.async false
set_option linter.all false
set_option maxRecDepth 100000
set_option maxHeartbeats 4000000
/-! expressions: the proof -/
namespace Ev
open PySem PySem.Spec PyProof.Rows L2

/-! ### small facts of the text -/
theorem star_of {e : Expr} (h : notStar e = true) (es : List Expr) (env : Env) : starEach (e :: es) env = (false, eval e env) :: starEach es env := by
  cases e <;> first | rfl | (simp [notStar] at h)
theorem asg_of {e : Expr} (h : notStar e = true) (es : List Expr) (env : Env) : assignEach (e :: es) env = (false, assign e env) :: assignEach es env := by
  cases e <;> first | rfl | (simp [notStar] at h)
theorem isTrue_of {e : Expr} (h : plainT e = true) (env : Env) (whole : Sem Value) : isTrue e env whole = (do let v ← whole; standAt e.pos; holding [v] (truthy v)) := by
  cases e with
  | UnaryOp op x p => cases op <;> first | rfl | (simp [plainT] at h)
  | BoolOp => simp [plainT] at h
  | IfExp => simp [plainT] at h
  | Compare => simp [plainT] at h
  | _ => rfl
theorem plainIx_of {y : Expr} (h : (match y with | .Slice .. => false | .Tuple .. => false | _ => true) = true) : PlainIx y := by
  cases y <;> first | (intro _ _; rfl) | (simp at h)
theorem set_of {e : Expr} (h : notSet e = true) (env : Env) : ∀ x, foldedSetIterable e env x = pure x := by
  cases e <;> first | (intro _; rfl) | (simp [notSet] at h)
theorem mark_of {e : Expr} (h : notSet e = true) (op : CmpOp) : behindInMarks op e = false := by
  cases e <;> first | rfl | (simp [notSet] at h)
theorem vis_of {sc : Scope} {x : Str} (h : isVis sc x = true) : Vis sc x := by
  unfold isVis at h; unfold Vis
  split at h <;> first | (rename_i e; exact .inl e) | (rename_i e; exact .inr (.inl e)) | (rename_i e; exact .inr (.inr e)) | cases h
theorem loc_of {sc : Scope} {x : Str} (h : isLoc sc x = true) : L2.Loc sc x := by
  unfold isLoc at h; unfold L2.Loc
  split at h <;> first | (rename_i e; exact .inl e) | (rename_i e; exact .inr e) | cases h
theorem gl_of {X : Cx} {sc : Scope} {x : Str} (hs : X.env.scope = sc) (h : isGl sc x = true) : Gl X x := by
  unfold isGl at h
  split at h
  · rename_i e; show X.env.scope.names.lookup x = _; rw [hs]; exact e
  · cases h
theorem nm_of {x : Str} (h : okNm x = true) : (x == ("__debug__" : Str)) = false ∧ (x == ("__classdict__" : Str)) = false ∧ x ≠ "__name__" := by
  unfold okNm at h
  simp only [Bool.and_eq_true, Bool.not_eq_true'] at h
  exact ⟨h.1.1, h.1.2, fun e => by have z := h.2; rw [beq_eq_false_iff_ne] at z; exact z e⟩
theorem op_of {a b : Operator} (h : isOp a b = true) : a = b := by
  cases a <;> cases b <;> first | rfl | cases h
theorem co_of {a b : CmpOp} (h : isCo a b = true) : a = b := by
  cases a <;> cases b <;> first | rfl | cases h

/-! ### more of the judgements -/
theorem _root_.L2.PE.conv {X : Cx} {e : Expr} {t t' : TE} (h : PE X e t) (i : ∀ σ H Q, t' σ H Q → t σ H Q) : PE X e t' := ⟨fun pins s σ H Q I q => h.run pins s σ H Q I (i σ H Q q)⟩
theorem _root_.L2.PT.conv {X : Cx} {e : Expr} {t t' : TT} (h : PT X e t) (i : ∀ σ H Q, t' σ H Q → t σ H Q) : PT X e t' := ⟨fun pins s σ H Q I q => h.run pins s σ H Q I (i σ H Q q)⟩
theorem _root_.L2.PW.conv {X : Cx} {e : Expr} {t t' : TT} (h : PW X e t) (i : ∀ σ H Q, t' σ H Q → t σ H Q) : PW X e t' := ⟨fun wh pins s σ H Q I q => h.run wh pins s σ H Q I (i σ H Q q)⟩
theorem _root_.L2.PA.conv {X : Cx} {e : List Expr} {t t' : TA} (h : PA X e t) (i : ∀ σ H Q, t' σ H Q → t σ H Q) : PA X e t' := ⟨fun p pins s σ H Q I q => h.run p pins s σ H Q I (i σ H Q q)⟩
theorem _root_.L2.PK.conv {X : Cx} {e : List Keyword} {t t' : TA} (h : PK X e t) (i : ∀ σ H Q, t' σ H Q → t σ H Q) : PK X e t' := ⟨fun p pins s σ H Q I q => h.run p pins s σ H Q I (i σ H Q q)⟩
theorem _root_.L2.PG.conv {X : Cx} {e : Expr} {t t' : TG} (h : PG X e t) (i : ∀ v σ H Q, t' v σ H Q → t v σ H Q) : PG X e t' := ⟨fun pins s σ H v u Q I r q => h.run pins s σ H v u Q I r (i v σ H Q q)⟩
theorem _root_.L2.PGs.conv {X : Cx} {e : List Expr} {t t' : TGs} (h : PGs X e t) (i : ∀ v σ H Q, t' v σ H Q → t v σ H Q) : PGs X e t' := ⟨fun pins s σ H v u Q I r q => h.run pins s σ H v u Q I r (i v σ H Q q)⟩
theorem _root_.L2.PI.conv {X : Cx} {tg e : Expr} {t t' : TI} (h : PI X tg e t) (i : ∀ σ H Q, t' σ H Q → t σ H Q) : PI X tg e t' := ⟨fun pins s σ H Q I q => h.run pins s σ H Q I (i σ H Q q)⟩
theorem _root_.L2.PE.never {X : Cx} {e : Expr} {t : TE} (i : ∀ σ H Q, ¬ t σ H Q) : PE X e t := ⟨fun pins s σ H Q I q => absurd q (i σ H Q)⟩
theorem _root_.L2.PW.never {X : Cx} {e : Expr} {t : TT} (i : ∀ σ H Q, ¬ t σ H Q) : PW X e t := ⟨fun _ pins s σ H Q I q => absurd q (i σ H Q)⟩
/-- the values at places -/
def permR (np : Nat) (ks ps : List Str) (pm : List Nat) (vs zs : List V) (k : List V → Prop) : Prop := vs.length = np ∧ zs.length = ks.length ∧ ∃ ys, (pm.mapM fun i => (vs ++ zs)[i]?) = some ys ∧ ys.length = ps.length ∧ k ys
theorem perm_rel {α β : Type} {R : α → β → Prop} {vs : List α} {us : List β} (g : ∀ (i : Nat) v, vs[i]? = some v → ∃ u, us[i]? = some u ∧ R v u) : ∀ (l : List Nat) {ys : List α}, (l.mapM fun i => vs[i]?) = some ys → ∃ zs, (l.mapM fun i => us[i]?) = some zs ∧ Paired R ys zs := by
  intro l
  induction l with
  | nil => intro ys h; rw [List.mapM_nil] at h; cases h; exact ⟨[], rfl, .nil⟩
  | cons i l ih =>
    intro ys h
    rw [List.mapM_cons] at h
    cases hv : vs[i]? with
    | none => rw [hv] at h; cases h
    | some v =>
      rw [hv] at h
      obtain ⟨u, hu, ru⟩ := g i v hv
      cases hy : (l.mapM fun i => vs[i]?) with
      | none => simp [hy] at h
      | some ys' =>
        simp [hy] at h
        obtain ⟨zs, hz, rz⟩ := ih hy
        refine ⟨u :: zs, by rw [List.mapM_cons, hu]; simp [hz], ?_⟩
        rw [← h]
        exact .cons ru rz
section
variable {X : Cx} {k : Nat} {f : Addr} {fd : FuncData} {ps ks : List Str} {sp : Sp} {E : L2.St → XK} {x : Str} {p pos : Pos} {e : Expr} {es : List Expr} {kws : List Keyword} {t tk : TA} {np : Nat} {pm : List Nat}
theorem run_ks {pins : List (Addr × Obj)} {σ : L2.St} {Q : VK} {us ws : List Value} {vs zs : List V} {s2 : Shared} {H2 : Hp} (F : FnOk X.prog X.w X.K X.mg X.base (L2.CX X.prog X.w) k f fd ps sp) (hr : Room k X.A)
    (hb : ∀ (s : Shared) (us ws zs : List Value), X.K.In s.heap → us.length = np → ws.length = ks.length → (pm.mapM fun i => (us ++ ws)[i]?) = some zs → BindsTo s fd ⟨us, ks.zip ws⟩ (ps.zip zs))
    (hx : ∀ σ, PassesAt (L2.CX X.prog X.w) X σ (E σ)) (I2 : Inv X pins σ H2 s2) (r : Vals vs us) (rz : Vals zs ws) (h : permR np ks ps pm vs zs fun ys => sp ys H2 Q (E σ)) :
    wpAny (model X.prog X.w) X.A (call (.ref f) us (ks.zip ws)) (EP X pins σ Q) X.xe s2 := by
  obtain ⟨l1, l2, ys, e, l3, q⟩ := h
  obtain ⟨zs', e', r3⟩ := perm_rel (fun i v => (r.append rz).get) pm e
  refine wpAny_call (codeAny_mono (F.run X.A X.stack s2 H2 ⟨us, ks.zip ws⟩ zs' ys Q (E σ) hr I2.env0 (hb s2 us ws zs' I2.kIn (by rw [← r.length]; exact l1) (by rw [← rz.length]; exact l2) e') r3 q) fun r s' hq => ?_)
  cases r with
  | error e => exact hx σ pins H2 s2 e s' I2 hq
  | ok fl =>
    cases fl with
    | ret u => exact I2.after hq
    | next => exact False.elim hq
    | brk => exact False.elim hq
    | cont => exact False.elim hq
/-- a call of a def with keywords, what is raised wished for at the caller's slots -/
theorem pe_callKS (F : FnOk X.prog X.w X.K X.mg X.base (L2.CX X.prog X.w) k f fd ps sp) (hr : Room k X.A) (hg : Gl X x) (hm : X.mg x = some (.ref f)) (hk : PySem.W.keepIn X.K (.ref f) = true)
    (hb : ∀ (s : Shared) (us ws zs : List Value), X.K.In s.heap → us.length = np → ws.length = ks.length → (pm.mapM fun i => (us ++ ws)[i]?) = some zs → BindsTo s fd ⟨us, ks.zip ws⟩ (ps.zip zs))
    (hx : ∀ σ, PassesAt (L2.CX X.prog X.w) X σ (E σ)) (ha : PA X (e :: es) t) (hkw : PK X kws tk) (hall : (backToKw pos (keywordEach kws X.env)).all (·.1.isSome) = true) (hks : (backToKw pos (keywordEach kws X.env)).filterMap (·.1) = ks)
    (hdb : (x == ("__debug__" : Str)) = false) (he : starEach (e :: es) X.env = (false, eval e X.env) :: starEach es X.env)
    (hpl : ((backTo pos (starEach (e :: es) X.env)).any (·.1) || (backToKw pos (keywordEach kws X.env)).any (·.1.isNone)) = false) :
    PE X (.Call (.Name x p) (e :: es) kws pos) (fun σ H Q => t σ H fun vs H1 => tk σ H1 fun zs H2 => permR np ks ps pm vs zs fun ys => sp ys H2 Q (E σ)) := by
  refine ⟨fun pins s σ H Q I h => ?_⟩
  refine wpAny_Call_Name_kw (ld_glob I hg hm ?_ hdb)
  refine PySem.W.callWith_KW (h₀ := X.base) I.ok.mod.kin hk hall (thn (ha.run pos pins s σ H _ I h) fun us s1 ⟨vs, H1, I1, r, q⟩ => ?_) hpl he
  refine thn (hkw.run pos pins s1 σ H1 _ I1 q) fun ws s2 ⟨zs, H2, I2, rz, q2⟩ => ⟨I2.kIn, ?_⟩
  rw [hks]
  exact run_ks F hr hb hx I2 r rz q2
theorem pe_callKS0 (F : FnOk X.prog X.w X.K X.mg X.base (L2.CX X.prog X.w) k f fd ps sp) (hr : Room k X.A) (hg : Gl X x) (hm : X.mg x = some (.ref f)) (hk : PySem.W.keepIn X.K (.ref f) = true)
    (hb : ∀ (s : Shared) (us ws zs : List Value), X.K.In s.heap → us.length = np → ws.length = ks.length → (pm.mapM fun i => (us ++ ws)[i]?) = some zs → BindsTo s fd ⟨us, ks.zip ws⟩ (ps.zip zs))
    (hx : ∀ σ, PassesAt (L2.CX X.prog X.w) X σ (E σ)) (hkw : PK X kws tk) (hall : (backToKw pos (keywordEach kws X.env)).all (·.1.isSome) = true) (hks : (backToKw pos (keywordEach kws X.env)).filterMap (·.1) = ks)
    (hdb : (x == ("__debug__" : Str)) = false)
    (hpl : ((backTo pos (starEach [] X.env)).any (·.1) || (backToKw pos (keywordEach kws X.env)).any (·.1.isNone)) = false) :
    PE X (.Call (.Name x p) [] kws pos) (fun σ H Q => tk σ H fun zs H2 => permR np ks ps pm [] zs fun ys => sp ys H2 Q (E σ)) := by
  refine ⟨fun pins s σ H Q I h => ?_⟩
  refine wpAny_Call_Name_kw (ld_glob I hg hm ?_ hdb)
  refine PySem.W.callWith_KW0 (h₀ := X.base) I.ok.mod.kin hk hall (thn (hkw.run pos pins s σ H _ I h) fun ws s2 ⟨zs, H2, I2, rz, q2⟩ => ⟨I2.kIn, ?_⟩) hpl
  rw [hks]
  exact run_ks F hr hb hx I2 .nil rz q2
end
end Ev
end

section
set_option Elab.async false
set_option linter.all false
set_option maxRecDepth 100000
set_option maxHeartbeats 4000000
/-! expressions: node by node -/
namespace Ev
open PySem PySem.Spec PyProof.Rows L2
section
variable {K : PySem.W.Frag} {C : Nat → Addr} {W : WX} {w : Wd} {H : Hp} {ρ : Sto} {env : Envr} {σ : L2.St} {β : Type} {k : Wd → Hp → β → Sto → Prop}
theorem one {fa : Envr → Sto → Res Rv} {kk : Rv → Sto → Res β} {R : V → Hp → Prop} (ok : WOk K w H ρ) (er : EnvR K w H env σ)
    (h : Out K C w H ((fa env ρ).bind kk) k (fun c d H' => W c d σ H'))
    (fin : ∀ w1 H1 ρ1 rx x, WOk K w1 H1 ρ1 → Le w H w1 H1 → Pk K w1 H1 rx.d x → (rx.fl ≠ .al → Rep K w1 H1 rx.d x) → Out K C w1 H1 (kk rx ρ1) k (fun c d H' => W c d σ H') → R x H1) :
    tE K C W fa σ H R := by
  refine ⟨w, env, ρ, ok, er, Out.mono (Out.bind h) fun w1 H1 rx ρ1 l1 ok1 h1 v rv => ?_⟩
  obtain ⟨w1', l1', ok1', px, pr⟩ := settle ok1 rv
  exact fin w1' H1 ρ1 rx v ok1' (l1.trans l1') px pr (Out.le l1' h1)
theorem two {fa fb : Envr → Sto → Res Rv} {kk : Rv → Rv → Sto → Res β} {R : V → V → Hp → Prop} (ok : WOk K w H ρ) (er : EnvR K w H env σ)
    (h : Out K C w H ((fa env ρ).bind fun x ρ1 => (fb env ρ1).bind fun y ρ2 => kk x y ρ2) k (fun c d H' => W c d σ H'))
    (fin : ∀ w2 H2 ρ2 rx ry x y, WOk K w2 H2 ρ2 → Le w H w2 H2 → Pk K w2 H2 rx.d x → Pk K w2 H2 ry.d y → Out K C w2 H2 (kk rx ry ρ2) k (fun c d H' => W c d σ H') → R x y H2) :
    tE K C W fa σ H fun x H1 => tE K C W fb σ H1 fun y H2 => R x y H2 :=
  one ok er h fun w1 H1 ρ1 rx x ok1 l1 px _ h1 => one ok1 (er.mono l1) h1 fun w2 H2 ρ2 ry y ok2 l2 py _ h2 => fin w2 H2 ρ2 rx ry x y ok2 (l1.trans l2) (px.mono l2) py h2
end

section
variable {X : Cx} {g : List D} {cf : Nat → List D → Sto → Res Rv} {C : Nat → Addr} {W : WX} {n : Nat} {pos : Pos} {x y z : Expr} {a b c : E}
/-- what the reckoner gives of e is what Python gives of x -/
abbrev GE (X : Cx) (g : List D) (cf : Nat → List D → Sto → Res Rv) (C : Nat → Addr) (W : WX) (e : E) (x : Expr) : Prop := PE X x (tE X.K C W (ev g cf e))
abbrev GT (X : Cx) (g : List D) (cf : Nat → List D → Sto → Res Rv) (C : Nat → Addr) (W : WX) (e : E) (x : Expr) : Prop := PT X x (tT X.K C W (ev g cf e))
abbrev GW (X : Cx) (g : List D) (cf : Nat → List D → Sto → Res Rv) (C : Nat → Addr) (W : WX) (e : E) (x : Expr) : Prop := PW X x (tT X.K C W (ev g cf e))

theorem n_bad : GE X g cf C W .bad x := .never fun σ H Q ⟨w, env, ρ, _, _, h⟩ => h
theorem n_var {N : List Str} {nm : Str} {i : Nat} (hN : X.N = N) (hi : N[i]? = some nm) (hv : Vis X.env.scope nm) (hk : okNm nm = true) : GE X g cf C W (.var i) (.Name nm pos) := by
  obtain ⟨k1, k2, _⟩ := nm_of hk
  refine (pe_var (i := i) (by rw [hN]; exact hi) hv k1 k2).conv fun σ H Q ⟨w, env, ρ, ok, er, h⟩ => ?_
  unfold ev at h
  split at h
  · rename_i s e
    obtain ⟨v, e2, r⟩ := er.2 i s e
    exact ⟨v, e2, h w H Le.refl ok v r⟩
  · exact False.elim h
theorem n_con {d : D} {cc : Const} {j : Nat} (hc : chkC d cc = true) : GE X g cf C W (.con d) (.Constant cc j pos) := by
  unfold chkC at hc
  split at hc
  · exact pe_non.conv fun σ H Q ⟨w, env, ρ, ok, er, h⟩ => h w H Le.refl ok _ .non
  · rw [beq_iff_eq] at hc; subst hc
    exact pe_bl.conv fun σ H Q ⟨w, env, ρ, ok, er, h⟩ => h w H Le.refl ok _ (.bl _)
  · rw [beq_iff_eq] at hc; subst hc
    exact pe_int.conv fun σ H Q ⟨w, env, ρ, ok, er, h⟩ => h w H Le.refl ok _ (.int _)
  · have hc := of_decide_eq_true hc; subst hc
    exact pe_str.conv fun σ H Q ⟨w, env, ρ, ok, er, h⟩ => h w H Le.refl ok _ (.str _)
  · cases hc
theorem n_glb {T : Tabs} {kk : Nat} {nm : Str} (fx : Fx T g cf C n X.prog X.w X.K X.mg X.base) (hi : T.gn[kk]? = some nm) (hg : Gl X nm) (hk : okNm nm = true) : GE X g cf C W (.glb kk) (.Name nm pos) := by
  obtain ⟨k1, k2, _⟩ := nm_of hk
  cases e : g[kk]? with
  | none => exact .never fun σ H Q ⟨w, env, ρ, ok, er, h⟩ => by unfold ev at h; rw [e] at h; exact h
  | some d =>
    obtain ⟨v, u, hm, r, hr⟩ := fx.glb kk nm d hi e
    refine (pe_glob hg hm r k1).conv fun σ H Q ⟨w, env, ρ, ok, er, h⟩ => ?_
    unfold ev at h; rw [e] at h
    exact h w H Le.refl ok v (hr w H)
theorem n_bin {o : Bo} (ha : GE X g cf C W a x) (hb : GE X g cf C W b y) : GE X g cf C W (.bin o a b) (.BinOp x (opOf o) y pos) := by
  refine (pe_op (bop_ok o) ha hb).conv fun σ H Q ⟨w, env, ρ, ok, er, h⟩ => ?_
  unfold ev at h
  refine two ok er h fun w2 H2 ρ2 rx ry x y ok2 l2 px py h2 => ?_
  obtain ⟨r, e, q⟩ := Out.opt ok2 h2
  exact ⟨w2, ρ2, _, _, r, ok2, px.lies ok2, py.lies ok2, e, fun w' H' v l o => q w' H' l o v⟩
theorem n_neg (ha : GE X g cf C W a x) : GE X g cf C W (.neg a) (.UnaryOp .USub x pos) := by
  refine (pe_un un_neg ha).conv fun σ H Q ⟨w, env, ρ, ok, er, h⟩ => ?_
  unfold ev at h
  refine one ok er h fun w2 H2 ρ2 rx x ok2 l2 px _ h2 => ?_
  obtain ⟨d, fl⟩ := rx
  cases d <;> first | exact False.elim h2 | skip
  have := (px.lies ok2).int
  subst this
  exact ⟨_, rfl, h2 w2 H2 Le.refl ok2 _ (.int _)⟩
theorem n_not (ha : GE X g cf C W a x) : GE X g cf C W (.not a) (.UnaryOp .Not x pos) := by
  refine (pe_notT ha).conv fun σ H Q ⟨w, env, ρ, ok, er, h⟩ => ?_
  unfold ev at h
  refine one ok er h fun w2 H2 ρ2 rx x ok2 l2 px _ h2 => ?_
  obtain ⟨r, e, q⟩ := Out.opt ok2 h2
  rw [Option.map_eq_some_iff] at e
  obtain ⟨b, e1, e2⟩ := e
  subst e2
  exact ⟨b, truV (px.lies ok2) e1, q w2 H2 Le.refl ok2 _ (.bl _)⟩
theorem n_cmp {o : Co} (hr : Room n X.A) (hm : notSet y = true) (ha : GE X g cf C W a x) (hb : GE X g cf C W b y) : GE X g cf C W (.cmp o a b) (.Compare x [coOf o] [y] pos) := by
  refine (pe_cmpR (cop_ok hr o) ha hb (mark_of hm _)).conv fun σ H Q ⟨w, env, ρ, ok, er, h⟩ => ?_
  unfold ev at h
  refine two ok er h fun w2 H2 ρ2 rx ry x y ok2 l2 px py h2 => ?_
  obtain ⟨r, e, q⟩ := Out.opt ok2 h2
  rw [Option.map_eq_some_iff] at e
  obtain ⟨b, e1, e2⟩ := e
  subst e2
  exact ⟨w2, ρ2, _, _, b, ok2, px.lies ok2, py.lies ok2, e1, q w2 H2 Le.refl ok2 _ (.bl _)⟩
theorem t_cmp {o : Co} (hr : Room n X.A) (hm : notSet y = true) (ha : GE X g cf C W a x) (hb : GE X g cf C W b y) : GT X g cf C W (.cmp o a b) (.Compare x [coOf o] [y] pos) := by
  refine (pt_cmpR (cop_ok hr o) ha hb (mark_of hm _)).conv fun σ H Q ⟨w, env, ρ, ok, er, h⟩ => ?_
  unfold ev at h
  refine two ok er h fun w2 H2 ρ2 rx ry x y ok2 l2 px py h2 => ?_
  obtain ⟨r, e, q⟩ := Out.opt ok2 h2
  rw [Option.map_eq_some_iff] at e
  obtain ⟨b, e1, e2⟩ := e
  subst e2
  obtain ⟨b', e3, q'⟩ := q w2 H2 Le.refl ok2
  have e4 : some b = some b' := e3
  cases e4
  exact ⟨w2, ρ2, _, _, b, ok2, px.lies ok2, py.lies ok2, e1, b, rfl, q'⟩
theorem n_chn {o p : Co} (hr : Room n X.A) (hm : notSet z = true) (ha : GE X g cf C W a x) (hb : GE X g cf C W b y) (hc : GE X g cf C W c z) : GE X g cf C W (.chn o p a b c) (.Compare x [coOf o, coOf p] [y, z] pos) := by
  refine (pe_chain (cop_ok hr o) (cop_ok hr p) ha hb hc (show behindInMarks _ z = false from mark_of hm _)).conv fun σ H Q ⟨w, env, ρ, ok, er, h⟩ => ?_
  unfold ev at h
  refine two ok er h fun w2 H2 ρ2 rx ry x y ok2 l2 px py h2 => ?_
  split at h2
  · rename_i e
    refine ⟨w2, ρ2, _, _, true, ok2, px.lies ok2, py.lies ok2, e, true, rfl, iteT ?_⟩
    refine one ok2 (er.mono l2) h2 fun w3 H3 ρ3 rz z ok3 l3 pz _ h3 => ?_
    obtain ⟨r, e, q⟩ := Out.opt ok3 h3
    rw [Option.map_eq_some_iff] at e
    obtain ⟨b, e1, e2⟩ := e
    subst e2
    exact ⟨w3, ρ3, _, _, b, ok3, (py.mono l3).lies ok3, pz.lies ok3, e1, q w3 H3 Le.refl ok3 _ (.bl _)⟩
  · rename_i e
    exact ⟨w2, ρ2, _, _, false, ok2, px.lies ok2, py.lies ok2, e, false, rfl, iteF (h2 w2 H2 Le.refl ok2 _ (.bl _))⟩
  · exact False.elim h2
theorem t_chn {o p : Co} (hr : Room n X.A) (hm : notSet z = true) (ha : GE X g cf C W a x) (hb : GE X g cf C W b y) (hc : GE X g cf C W c z) : GT X g cf C W (.chn o p a b c) (.Compare x [coOf o, coOf p] [y, z] pos) := by
  refine (pt_chain (cop_ok hr o) (cop_ok hr p) ha hb hc (show behindInMarks _ z = false from mark_of hm _)).conv fun σ H Q ⟨w, env, ρ, ok, er, h⟩ => ?_
  unfold ev at h
  refine two ok er h fun w2 H2 ρ2 rx ry x y ok2 l2 px py h2 => ?_
  split at h2
  · rename_i e
    refine ⟨w2, ρ2, _, _, true, ok2, px.lies ok2, py.lies ok2, e, true, rfl, iteT ?_⟩
    refine one ok2 (er.mono l2) h2 fun w3 H3 ρ3 rz z ok3 l3 pz _ h3 => ?_
    obtain ⟨r, e, q⟩ := Out.opt ok3 h3
    rw [Option.map_eq_some_iff] at e
    obtain ⟨b, e1, e2⟩ := e
    subst e2
    obtain ⟨b', e3, q'⟩ := q w3 H3 Le.refl ok3
    have e4 : some b = some b' := e3
    cases e4
    exact ⟨w3, ρ3, _, _, b, ok3, (py.mono l3).lies ok3, pz.lies ok3, e1, b, rfl, q'⟩
  · rename_i e
    obtain ⟨b', e3, q'⟩ := h2 w2 H2 Le.refl ok2
    have e4 : some false = some b' := e3
    cases e4
    exact ⟨w2, ρ2, _, _, false, ok2, px.lies ok2, py.lies ok2, e, false, rfl, iteF ⟨false, rfl, q'⟩⟩
  · exact False.elim h2
/-- and, or, the rest as a whole expression -/
theorem n_and {xs : List Expr} (ha : GE X g cf C W a x) (hb : GE X g cf C W b (.BoolOp .And (y :: xs) pos)) : GE X g cf C W (.and a b) (.BoolOp .And (x :: y :: xs) pos) := by
  refine (pe_andT ha hb).conv fun σ H Q ⟨w, env, ρ, ok, er, h⟩ => ?_
  unfold ev at h
  refine ⟨w, env, ρ, ok, er, Out.mono (Out.bind h) fun w1 H1 rx ρ1 l1 ok1 h1 v rv => ?_⟩
  obtain ⟨w1', l1', ok1', px, _⟩ := settle ok1 rv
  split at h1
  · rename_i e
    exact ⟨true, truV (px.lies ok1') e, iteT ⟨w1', env, ρ1, ok1', (er.mono l1).mono l1', Out.le l1' h1⟩⟩
  · rename_i e
    exact ⟨false, truV (px.lies ok1') e, iteF (h1 w1 H1 Le.refl ok1 v rv)⟩
  · exact False.elim h1
theorem n_or {xs : List Expr} (ha : GE X g cf C W a x) (hb : GE X g cf C W b (.BoolOp .Or (y :: xs) pos)) : GE X g cf C W (.or a b) (.BoolOp .Or (x :: y :: xs) pos) := by
  refine (pe_orT ha hb).conv fun σ H Q ⟨w, env, ρ, ok, er, h⟩ => ?_
  unfold ev at h
  refine ⟨w, env, ρ, ok, er, Out.mono (Out.bind h) fun w1 H1 rx ρ1 l1 ok1 h1 v rv => ?_⟩
  obtain ⟨w1', l1', ok1', px, _⟩ := settle ok1 rv
  split at h1
  · rename_i e
    exact ⟨true, truV (px.lies ok1') e, iteT (h1 w1 H1 Le.refl ok1 v rv)⟩
  · rename_i e
    exact ⟨false, truV (px.lies ok1') e, iteF ⟨w1', env, ρ1, ok1', (er.mono l1).mono l1', Out.le l1' h1⟩⟩
  · exact False.elim h1
theorem w_and {xs : List Expr} (ha : GT X g cf C W a x) (hb : GW X g cf C W b (.BoolOp .And (y :: xs) pos)) : GW X g cf C W (.and a b) (.BoolOp .And (x :: y :: xs) pos) := by
  refine (pw_and ha hb).conv fun σ H Q ⟨w, env, ρ, ok, er, h⟩ => ?_
  unfold ev at h
  refine ⟨w, env, ρ, ok, er, Out.mono (Out.bind h) fun w1 H1 rx ρ1 l1 ok1 h1 => ?_⟩
  split at h1
  · rename_i e
    exact ⟨true, e, iteT ⟨w1, env, ρ1, ok1, er.mono l1, h1⟩⟩
  · rename_i e
    obtain ⟨b', e', q⟩ := h1 w1 H1 Le.refl ok1
    rw [e] at e'; cases e'
    exact ⟨false, e, iteF q⟩
  · exact False.elim h1
theorem w_or {xs : List Expr} (ha : GT X g cf C W a x) (hb : GW X g cf C W b (.BoolOp .Or (y :: xs) pos)) : GW X g cf C W (.or a b) (.BoolOp .Or (x :: y :: xs) pos) := by
  refine (pw_or ha hb).conv fun σ H Q ⟨w, env, ρ, ok, er, h⟩ => ?_
  unfold ev at h
  refine ⟨w, env, ρ, ok, er, Out.mono (Out.bind h) fun w1 H1 rx ρ1 l1 ok1 h1 => ?_⟩
  split at h1
  · rename_i e
    obtain ⟨b', e', q⟩ := h1 w1 H1 Le.refl ok1
    rw [e] at e'; cases e'
    exact ⟨true, e, iteT q⟩
  · rename_i e
    exact ⟨false, e, iteF ⟨w1, env, ρ1, ok1, er.mono l1, h1⟩⟩
  · exact False.elim h1
theorem t_not (ha : GT X g cf C W a x) : GT X g cf C W (.not a) (.UnaryOp .Not x pos) := by
  refine (pt_not ha).conv fun σ H Q ⟨w, env, ρ, ok, er, h⟩ => ?_
  unfold ev at h
  refine ⟨w, env, ρ, ok, er, Out.mono (Out.bind h) fun w1 H1 rx ρ1 l1 ok1 h1 => ?_⟩
  obtain ⟨r, e, q⟩ := Out.opt ok1 h1
  rw [Option.map_eq_some_iff] at e
  obtain ⟨b, e1, e2⟩ := e
  subst e2
  obtain ⟨b', e3, q'⟩ := q w1 H1 Le.refl ok1
  have e4 : some (!b) = some b' := e3
  cases e4
  exact ⟨b, e1, q'⟩
theorem n_ite (hc : GT X g cf C W c z) (ha : GE X g cf C W a x) (hb : GE X g cf C W b y) : GE X g cf C W (.ite c a b) (.IfExp z x y pos) := by
  refine (pe_ifExp hc ha hb).conv fun σ H Q ⟨w, env, ρ, ok, er, h⟩ => ?_
  unfold ev at h
  refine ⟨w, env, ρ, ok, er, Out.mono (Out.bind h) fun w1 H1 rx ρ1 l1 ok1 h1 => ?_⟩
  split at h1
  · rename_i e
    exact ⟨true, e, iteT ⟨w1, env, ρ1, ok1, er.mono l1, h1⟩⟩
  · rename_i e
    exact ⟨false, e, iteF ⟨w1, env, ρ1, ok1, er.mono l1, h1⟩⟩
  · exact False.elim h1
theorem pt_ifExp {X : Cx} {c a b : Expr} {pos : Pos} {tc ta tb : TT} (hc : PT X c tc) (ha : PT X a ta) (hb : PT X b tb) : PT X (.IfExp c a b pos) (fun σ H Q => tc σ H fun d H1 => if d = true then ta σ H1 Q else tb σ H1 Q) := by
  refine ⟨fun pins s σ H Q I h => ?_⟩
  have e : ∀ whole, isTrue (.IfExp c a b pos) X.env whole = (isTrue c X.env (eval c X.env) >>= fun d => if d = true then isTrue a X.env (eval a X.env) else isTrue b X.env (eval b X.env)) := fun _ => rfl
  rw [e]
  refine wpAny_bind (thn (hc.run pins s σ H _ I h) fun d s1 ⟨H1, I1, q1⟩ => ?_)
  cases d with
  | true => exact ha.run pins s1 σ H1 Q I1 q1
  | false => exact hb.run pins s1 σ H1 Q I1 q1
theorem t_ite (hc : GT X g cf C W c z) (ha : GT X g cf C W a x) (hb : GT X g cf C W b y) : GT X g cf C W (.ite c a b) (.IfExp z x y pos) := by
  refine (pt_ifExp hc ha hb).conv fun σ H Q ⟨w, env, ρ, ok, er, h⟩ => ?_
  unfold ev at h
  refine ⟨w, env, ρ, ok, er, Out.mono (Out.bind h) fun w1 H1 rx ρ1 l1 ok1 h1 => ?_⟩
  split at h1
  · rename_i e
    exact ⟨true, e, iteT ⟨w1, env, ρ1, ok1, er.mono l1, h1⟩⟩
  · rename_i e
    exact ⟨false, e, iteF ⟨w1, env, ρ1, ok1, er.mono l1, h1⟩⟩
  · exact False.elim h1
/-- a test by its value's truth -/
theorem t_plain {e : E} (hp : plainT x = true) (h : GE X g cf C W e x) : GT X g cf C W e x := by
  refine (pt_truth h fun whole => isTrue_of hp _ _).conv fun σ H Q ⟨w, env, ρ, ok, er, h⟩ => ?_
  refine ⟨w, env, ρ, ok, er, Out.mono h fun w1 H1 rx ρ1 l1 ok1 ⟨b, e, q⟩ v rv => ?_⟩
  obtain ⟨w1', l1', ok1', px, _⟩ := settle ok1 rv
  exact ⟨b, truV (px.lies ok1') e, q⟩
end
end Ev
end

section
set_option Elab.async false
set_option linter.all false
set_option maxRecDepth 100000
set_option maxHeartbeats 4000000
/-! expressions: argument lists, calls, subscripts, loops' sources -/
namespace Ev
open PySem PySem.Spec PyProof.Rows L2
section
variable {K : PySem.W.Frag} {C : Nat → Addr} {W : WX} {w : Wd} {H : Hp} {ρ : Sto} {env : Envr} {σ : L2.St} {β : Type} {k : Wd → Hp → β → Sto → Prop}
/-- behind an argument list -/
theorem args {fa : Envr → Sto → Res (List D)} {kk : List D → Sto → Res β} {R : List V → Hp → Prop} (ok : WOk K w H ρ) (er : EnvR K w H env σ)
    (h : Out K C w H ((fa env ρ).bind kk) k (fun c d H' => W c d σ H'))
    (fin : ∀ w1 H1 ρ1 ds vs, fa env ρ = .ok ds ρ1 → WOk K w1 H1 ρ1 → Le w H w1 H1 → Reps K w1 H1 ds vs → Out K C w1 H1 (kk ds ρ1) k (fun c d H' => W c d σ H') → R vs H1) :
    tA K C W fa σ H R := by
  refine ⟨w, env, ρ, ok, er, ?_⟩
  have hb := Out.bind h
  cases e : fa env ρ with
  | no => rw [e] at hb; exact hb
  | exc x ρ1 => rw [e] at hb; exact hb
  | ok ds ρ1 =>
    rw [e] at hb
    intro w1 H1 l1 ok1 w2 vs l2 ok2 rp
    exact fin w2 H1 ρ1 ds vs e ok2 (l1.trans l2) rp (Out.le l2 (hb w1 H1 l1 ok1))
end
theorem evs_len {g : List D} {cf : Nat → List D → Sto → Res Rv} {env : Envr} : ∀ {es : Es} {ρ ρ' : Sto} {ds : List D}, evs g cf es env ρ = .ok ds ρ' → ds.length = es.len
  | .nil, ρ, ρ', ds, h => by unfold evs at h; cases h; rfl
  | .cons e es, ρ, ρ', ds, h => by
    unfold evs at h
    cases e1 : ev g cf e env ρ with
    | no => rw [e1] at h; cases h
    | exc x ρ1 => rw [e1] at h; cases h
    | ok r ρ1 =>
      rw [e1, Res.bind_ok] at h
      split at h
      · cases h
      · cases e2 : evs g cf es env ρ1 with
        | no => rw [e2] at h; cases h
        | exc x ρ2 => rw [e2] at h; cases h
        | ok ds2 ρ2 =>
          rw [e2, Res.bind_ok] at h
          cases h
          show _ + 1 = _ + 1
          rw [evs_len e2]

section
variable {X : Cx} {g : List D} {cf : Nat → List D → Sto → Res Rv} {C : Nat → Addr} {W : WX} {n : Nat} {pos : Pos} {x y z : Expr} {a b c : E} {es : Es} {xs : List Expr}
abbrev GA (X : Cx) (g : List D) (cf : Nat → List D → Sto → Res Rv) (C : Nat → Addr) (W : WX) (es : Es) (xs : List Expr) : Prop := PA X xs (tA X.K C W (evs g cf es))
theorem a_nil : GA X g cf C W .nil [] := pa_nil.conv fun σ H Q ⟨w, env, ρ, ok, er, h⟩ => h w H Le.refl ok w [] Le.refl ok .nil
theorem a_cons (hs : notStar x = true) (ha : GE X g cf C W a x) (hr : GA X g cf C W es xs) : GA X g cf C W (.cons a es) (x :: xs) := by
  refine (pa_cons ha hr (star_of hs _ _)).conv fun σ H Q ⟨w, env, ρ, ok, er, h⟩ => ?_
  unfold evs at h
  refine ⟨w, env, ρ, ok, er, Out.mono (Out.bind h) fun w1 H1 rx ρ1 l1 ok1 h1 v rv => ?_⟩
  split at h1
  · exact False.elim h1
  · rename_i nal
    obtain ⟨w1', l1', ok1', _, pr⟩ := settle ok1 rv
    have pr := pr nal
    refine ⟨w1', env, ρ1, ok1', (er.mono l1).mono l1', Out.mono (Out.bind (Out.le l1' h1)) fun w2 H2 ds ρ2 l2 ok2 h2 w3 vs l3 ok3 rp => ?_⟩
    exact h2 w2 H2 Le.refl ok2 w3 (v :: vs) l3 ok3 (.cons ((pr.mono l2).mono l3) rp)
theorem n_tup {j : Nat} (ha : GA X g cf C W es xs) : GE X g cf C W (.tup es) (.Tuple xs j pos) := by
  refine (pe_tup ha).conv fun σ H Q ⟨w, env, ρ, ok, er, h⟩ => ?_
  unfold ev at h
  refine args ok er h fun w1 H1 ρ1 ds vs _ ok1 l1 rp h1 => ?_
  split at h1
  · rename_i hz
    refine ⟨by rw [← rp.length]; exact hz, fun p hp => ?_⟩
    obtain ⟨w2, l2, ok2, r2⟩ := new_tup ok1 hp hz rp
    exact h1 w2 _ l2 ok2 _ r2
  · exact False.elim h1
theorem n_lst (ha : GA X g cf C W es xs) : GE X g cf C W (.lst es) (.List xs pos) := by
  refine (pe_lst ha).conv fun σ H Q ⟨w, env, ρ, ok, er, h⟩ => ?_
  unfold ev at h
  refine args ok er h fun w1 H1 ρ1 ds vs _ ok1 l1 rp h1 => ?_
  split at h1
  · rename_i hz
    refine ⟨by rw [← rp.length]; exact hz, fun p hp => ?_⟩
    obtain ⟨l2, ok2, r2⟩ := new_lst ok1 hp hz rp
    exact h1 w1 _ l2 ok2 _ r2
  · exact False.elim h1
theorem n_ix (hp : PlainIx y) (ha : GE X g cf C W a x) (hb : GE X g cf C W b y) : GE X g cf C W (.ix a b) (.Subscript x y pos) := by
  refine (pe_ix idx_ok ha hb hp).conv fun σ H Q ⟨w, env, ρ, ok, er, h⟩ => ?_
  unfold ev at h
  refine two ok er h fun w2 H2 ρ2 rx ry x y ok2 l2 px py h2 => ?_
  obtain ⟨r, e, q⟩ := Out.opt ok2 h2
  refine ⟨w2, ρ2, _, der ρ2 ry.d, r, ok2, px.lies ok2, py.lies ok2, ?_, fun w' H' v l o => q w' H' l o v⟩
  unfold idx at e ⊢
  split at e
  all_goals first | (rename_i e1 e2; rw [e1, e2]; exact e) | cases e
/-- an optional part of a slice -/
def tPt (K : PySem.W.Frag) (C : Nat → Addr) (W : WX) (f : Envr → Sto → Res Rv) : TO := fun σ H Q => ∃ w env ρ, WOk K w H ρ ∧ EnvR K w H env σ ∧ Out K C w H (f env ρ) (fun w' H' r _ => ∃ o, part r.d = some o ∧ Q o H') (fun c d H' => W c d σ H')
abbrev GP (X : Cx) (g : List D) (cf : Nat → List D → Sto → Res Rv) (C : Nat → Addr) (W : WX) (e : E) (o : Option Expr) : Prop := PO X o (tPt X.K C W (ev g cf e))
theorem _root_.L2.PO.conv {X : Cx} {e : Option Expr} {t t' : TO} (h : PO X e t) (i : ∀ σ H Q, t' σ H Q → t σ H Q) : PO X e t' := ⟨fun pins s σ H Q I q => h.run pins s σ H Q I (i σ H Q q)⟩
theorem p_none : GP X g cf C W .nop none := po_none.conv fun σ H Q ⟨w, env, ρ, ok, er, h⟩ => by
  unfold ev at h
  obtain ⟨o, e, q⟩ := h w H Le.refl ok
  cases e
  exact q
theorem slice_part {X : Cx} {e : Expr} {te : TE} (h : PE X e te) : PO X (some e) (fun σ H Q => te σ H fun v H1 => (v = .non ∧ Q none H1) ∨ ∃ i, v = .int i ∧ Q (some i) H1) := by
  refine ⟨fun pins s σ H Q I hw => ?_⟩
  rw [evalPart_some]
  refine thn (h.run pins s σ H _ I hw) fun u s1 ⟨x, H1, I1, r1, q1⟩ => ?_
  rcases q1 with ⟨rfl, q⟩ | ⟨i, rfl, q⟩
  · cases r1; exact ⟨none, H1, I1, .none, q⟩
  · obtain ⟨t, rfl⟩ := r1; exact ⟨some i, H1, I1, .int i t, q⟩
theorem p_some (ha : GE X g cf C W a x) : GP X g cf C W a (some x) := by
  refine (slice_part ha).conv fun σ H Q ⟨w, env, ρ, ok, er, h⟩ => ?_
  refine ⟨w, env, ρ, ok, er, Out.mono h fun w1 H1 rx ρ1 l1 ok1 ⟨o, e, q⟩ v rv => ?_⟩
  obtain ⟨w1', l1', ok1', px, _⟩ := settle ok1 rv
  obtain ⟨d, fl⟩ := rx
  unfold part at e
  split at e
  · rename_i e'
    have e' : d = .non := e'
    subst e'; cases e
    have := (px.lies ok1').non
    exact .inl ⟨this, q⟩
  · rename_i i e'
    have e' : d = .int i := e'
    subst e'; cases e
    have := (px.lies ok1').int
    exact .inr ⟨_, this, q⟩
  · cases e
theorem n_sl {p2 : Pos} {lo hi : E} {l h : Option Expr} (ha : GE X g cf C W a x) (hl : GP X g cf C W lo l) (hh : GP X g cf C W hi h) : GE X g cf C W (.sl a lo hi) (.Subscript x (.Slice l h none p2) pos) := by
  refine (pe_slice slc_ok ha hl hh).conv fun σ H Q ⟨w, env, ρ, ok, er, h⟩ => ?_
  unfold ev at h
  refine one ok er h fun w1 H1 ρ1 rx x ok1 l1 px _ h1 => ?_
  refine ⟨w1, env, ρ1, ok1, er.mono l1, Out.mono (Out.bind h1) fun w2 H2 rl ρ2 l2 ok2 h2 => ?_⟩
  split at h2
  · rename_i lo' e2
    refine ⟨lo', e2, w2, env, ρ2, ok2, (er.mono l1).mono l2, Out.mono (Out.bind h2) fun w3 H3 rh ρ3 l3 ok3 h3 => ?_⟩
    split at h3
    · rename_i hi' e3
      obtain ⟨r, e, q⟩ := Out.opt ok3 h3
      exact ⟨hi', e3, w3, ρ3, _, r, ok3, ((px.mono l2).mono l3).lies ok3, e, fun w' H' v l o => q w' H' l o v⟩
    · exact False.elim h3
  · exact False.elim h2
theorem n_isi {T : Tabs} {nm tn : Str} {p p2 : Pos} {t : Tn} (hc : X.calm = true) (fx : Fx T g cf C n X.prog X.w X.K X.mg X.base) (hn : nm = ("isinstance" : Str)) (hb : nm ∈ T.bn) (hg : Gl X nm) (ht : notNon t = true) (htn : tnNm t = tn) (hb2 : tn ∈ T.bn) (hg2 : Gl X tn)
    (hs : notStar x = true) (ha : GE X g cf C W a x) : GE X g cf C W (.isi a t) (.Call (.Name nm p) [x, .Name tn p2] [] pos) := by
  subst hn
  have tyv : ∃ s : String, bootBuiltins tn = some (.type s) ∧ (∀ u : Tn, kitB (match u with | .non => "NoneType" | .bool => "bool" | .int => "int" | .str => "str" | .tuple => "tuple" | .list => "list" | .dict => "dict") s = some (isT u t)) ∧ tn ≠ "__name__" ∧ (tn == ("__debug__" : Str)) = false := by
    subst htn
    cases t with
    | non => cases ht
    | bool => exact ⟨"bool", by decide +kernel, by intro u; cases u <;> decide +kernel, by decide +kernel, by decide +kernel⟩
    | int => exact ⟨"int", by decide +kernel, by intro u; cases u <;> decide +kernel, by decide +kernel, by decide +kernel⟩
    | str => exact ⟨"str", by decide +kernel, by intro u; cases u <;> decide +kernel, by decide +kernel, by decide +kernel⟩
    | tuple => exact ⟨"tuple", by decide +kernel, by intro u; cases u <;> decide +kernel, by decide +kernel, by decide +kernel⟩
    | list => exact ⟨"list", by decide +kernel, by intro u; cases u <;> decide +kernel, by decide +kernel, by decide +kernel⟩
    | dict => exact ⟨"dict", by decide +kernel, by intro u; cases u <;> decide +kernel, by decide +kernel, by decide +kernel⟩
  obtain ⟨ts, hv, hk, hn1, hn2⟩ := tyv
  have hty : PE X (.Name tn p2) (tC (.ty ts)) := pe_bltn hg2 (fx.bt _ hb2) hv rfl hn1 hn2
  refine (pe_callB call_isi hg (fx.bt _ hb) (by decide +kernel) (pa_cons ha (pa_cons hty pa_nil (by rfl)) (star_of hs _ _)) (by decide) (by decide) (star_of hs _ _) (by rfl)).conv fun σ H Q ⟨w, env, ρ, ok, er, h⟩ => ?_
  unfold ev at h
  refine one ok er h fun w1 H1 ρ1 rx x ok1 l1 px _ h1 => ?_
  obtain ⟨r, e, q⟩ := Out.opt ok1 h1
  rw [Option.map_eq_some_iff] at e
  obtain ⟨u, e1, e2⟩ := e
  subst e2
  have q := q w1 H1 Le.refl ok1 _ (.bl _)
  have fin : ∀ (uv : Value), TyX X.K H1 x uv → PySem.W.kitOne X.K uv (.type ts) = some (isT u t) → rIsi X.K [x, .ty ts] H1 Q := fun uv ty k => ⟨x, .ty ts, uv, _, _, rfl, .ty ts, ty, k, q⟩
  obtain ⟨d, fl⟩ := rx
  have px : Pk X.K w1 H1 d x := px
  have e1 : tyN d = some u := e1
  cases d with
  | non => cases e1; cases (px.lies ok1).non; exact fin _ (.base .non) (kit_ty (hk .non))
  | bl b => cases e1; cases (px.lies ok1).bl; exact fin _ (.base (.bl b)) (kit_ty (hk .bool))
  | int i => cases e1; cases (px.lies ok1).int; exact fin _ (.base (.int i)) (kit_ty (hk .int))
  | str s => cases e1; cases (px.lies ok1).str; exact fin _ (.base (.str s)) (kit_ty (hk .str))
  | tup xs =>
    cases e1
    rcases px with px | ⟨_, _, _, z, _⟩
    · cases px with
      | tup hz h r =>
        rcases h with h | ⟨o, its, nn, h1, h2, _⟩
        · exact fin _ (.base (.tup h.2)) (kit_ty (hk .tuple))
        · exact fin _ (.kTuple h1 h2) (kit_ty (hk .tuple))
    · cases z
  | lst xs =>
    cases e1
    obtain ⟨a, vs, rfl, h1, _⟩ := (px.lies ok1).lst
    exact fin _ (.base (.lst h1)) (kit_ty (hk .list))
  | ro xs =>
    cases e1
    rcases px with px | ⟨_, _, _, z, _⟩
    · cases px with
      | ro hz h r =>
        rcases h with ⟨_, h | ⟨o, h⟩⟩ | ⟨o, its, nn, h1, h2, _⟩
        · exact fin _ (.base (.lst h)) (kit_ty (hk .list))
        · exact fin _ (.base (.frz h)) (kit_ty (hk .list))
        · exact fin _ (.kList h1 h2) (kit_ty (hk .list))
    · cases z
  | loc m =>
    cases e1
    rcases px with px | ⟨_, _, _, z, _⟩
    · cases px with
      | @loc _ aa h =>
        have hl : m < ρ1.length := by rw [← ok1.len]; exact (List.getElem?_eq_some_iff.mp h).1
        have cc := ok1.cell m ρ1[m] aa (List.getElem?_eq_getElem hl) h
        cases hc : ρ1[m] with
        | lst ds =>
          rw [hc] at cc
          obtain ⟨_, vs, h1, _⟩ := cc
          exact fin _ (.base (.lst h1)) (kit_ty (hk .list))
    · cases z
  | cst v => cases e1
theorem any_nil : ∀ {xs : List Expr}, xs.all notStar = true → ∀ env : Env, (backTo pos (starEach xs env)).any (·.1) = false
  | [], _, _ => rfl
  | x :: xs, h, env => by
    rw [List.all_cons, Bool.and_eq_true] at h
    rw [star_of h.1]
    show (false || (backTo pos (starEach xs env)).any (·.1)) = false
    rw [any_nil h.2 env]; rfl
theorem Reps.liesAll {K : PySem.W.Frag} {w : Wd} {H : Hp} {ρ : Sto} (ok : WOk K w H ρ) : ∀ {ds : List D} {vs : List V}, Reps K w H ds vs → LiesAll K w H (ds.map (der ρ)) vs
  | _, _, .nil => .nil
  | _, _, .cons h r => .cons (Pk.lies ok (.inl h)) (r.liesAll ok)
theorem n_call {T : Tabs} {nm : Str} {ps : List Str} {p : Pos} {f : Nat} (hr : Room n X.A) (fx : Fx T g cf C n X.prog X.w X.K X.mg X.base) (tk : Takes X W) (hf : T.dn[f]? = some (nm, ps)) (hl : es.len = ps.length) (hg : Gl X nm) (hk : okNm nm = true)
    (hs : (x :: xs).all notStar = true) (ha : GA X g cf C W es (x :: xs)) : GE X g cf C W (.call f es) (.Call (.Name nm p) (x :: xs) [] pos) := by
  obtain ⟨k1, _, _⟩ := nm_of hk
  rw [List.all_cons, Bool.and_eq_true] at hs
  obtain ⟨a, fd, hm, kp, bi, _, F⟩ := fx.df f nm ps hf
  refine (pe_callS F hr hg hm kp bi (fun σ => passAt tk σ) ha k1 (star_of hs.1 _ _) (any_nil hs.2 _)).conv fun σ H Q ⟨w, env, ρ, ok, er, h⟩ => ?_
  unfold ev at h
  refine args ok er h fun w1 H1 ρ1 ds vs e1 ok1 l1 rp h1 => ?_
  exact ⟨by rw [← rp.length, evs_len e1, hl], w1, ρ1, ds, ok1, rp, h1⟩
theorem n_bi {T : Tabs} {nm : Str} {p : Pos} {b : Bi} (hc : X.calm = true) (fx : Fx T g cf C n X.prog X.w X.K X.mg X.base) (hn : biNm b = nm) (hg : Gl X nm) (hk : okNm nm = true)
    (hb : (match biOf b with | .glo id y => decide ((y, id) ∈ T.gl) && decide (nm = Str.ofString y) | _ => decide (nm ∈ T.bn)) = true)
    (hs : (x :: xs).all notStar = true) (ha : GA X g cf C W es (x :: xs)) : GE X g cf C W (.bi b es) (.Call (.Name nm p) (x :: xs) [] pos) := by
  obtain ⟨k1, _, k3⟩ := nm_of hk
  rw [List.all_cons, Bool.and_eq_true] at hs
  have rd : ∀ σ H Q, tE X.K C W (ev g cf (.bi b es)) σ H Q → tCB (fun xs H Q => ∃ w ρ ds r, WOk X.K w H ρ ∧ LiesAll X.K w H ds xs ∧ bfn b ds = some r ∧ Gv X.K w H ρ r Q) (tA X.K C W (evs g cf es)) σ H Q := by
    rintro σ H Q ⟨w, env, ρ, ok, er, h⟩
    unfold ev at h
    refine args ok er h fun w1 H1 ρ1 ds vs e1 ok1 l1 rp h1 => ?_
    obtain ⟨r, e, q⟩ := Out.opt ok1 h1
    refine ⟨w1, ρ1, ds.map (der ρ1), r, ok1, ?_, e, fun w' H' v l o => q w' H' l o v⟩
    exact rp.liesAll ok1
  have ok := bfn_ok (X := X) hc b
  have mem : ∀ {n : String}, biOf b = .blt n → nm ∈ T.bn := fun e => by rw [e] at hb; exact of_decide_eq_true hb
  have mem2 : ∀ {n : String}, biOf b = .ty n → nm ∈ T.bn := fun e => by rw [e] at hb; exact of_decide_eq_true hb
  cases hq : biOf b with
  | blt s =>
    rw [hq] at ok
    have hv : bootBuiltins nm = some (.builtin s) := by subst hn; cases b <;> cases hq <;> decide +kernel
    exact (pe_callB ok hg (fx.bt _ (mem hq)) hv ha k3 k1 (star_of hs.1 _ _) (any_nil hs.2 _)).conv rd
  | ty s =>
    rw [hq] at ok
    have hv : bootBuiltins nm = some (.type s) := by subst hn; cases b <;> cases hq <;> decide +kernel
    exact (pe_callTy ok hg (fx.bt _ (mem2 hq)) hv ha k3 k1 (star_of hs.1 _ _) (any_nil hs.2 _)).conv rd
  | glo s y =>
    rw [hq] at ok hb
    simp only [Bool.and_eq_true, decide_eq_true_eq] at hb
    have hm := fx.gf y s hb.1
    rw [← hb.2] at hm
    exact (pe_callBfun ok hg hm ha k1 (star_of hs.1 _ _) (any_nil hs.2 _)).conv rd
theorem n_bi1 {T : Tabs} {nm : Str} {p : Pos} {b : Bi} (hc : X.calm = true) (fx : Fx T g cf C n X.prog X.w X.K X.mg X.base) (hn : biNm b = nm) (hg : Gl X nm) (hk : okNm nm = true)
    (hb : (match biOf b with | .glo id y => decide ((y, id) ∈ T.gl) && decide (nm = Str.ofString y) | _ => decide (nm ∈ T.bn)) = true)
    (hs : notStar x = true) (ha : GE X g cf C W a x) : GE X g cf C W (.bi1 b a) (.Call (.Name nm p) [x] [] pos) := by
  obtain ⟨k1, _, k3⟩ := nm_of hk
  have rd : ∀ σ H Q, tE X.K C W (ev g cf (.bi1 b a)) σ H Q → tCB (fun xs H Q => ∃ w ρ ds r, WOk X.K w H ρ ∧ LiesAll X.K w H ds xs ∧ bfn b ds = some r ∧ Gv X.K w H ρ r Q) (tCons (tE X.K C W (ev g cf a)) tNil) σ H Q := by
    rintro σ H Q ⟨w, env, ρ, ok, er, h⟩
    unfold ev at h
    refine one ok er h fun w1 H1 ρ1 rx v ok1 l1 px _ h1 => ?_
    obtain ⟨r, e, q⟩ := Out.opt ok1 h1
    exact ⟨w1, ρ1, [der ρ1 rx.d], r, ok1, .cons (px.lies ok1) .nil, e, fun w' H' v l o => q w' H' l o v⟩
  have ha := pa_cons ha (pa_nil (X := X)) (star_of hs _ _)
  have ok := bfn_ok (X := X) hc b
  have mem : ∀ {n : String}, biOf b = .blt n → nm ∈ T.bn := fun e => by rw [e] at hb; exact of_decide_eq_true hb
  have mem2 : ∀ {n : String}, biOf b = .ty n → nm ∈ T.bn := fun e => by rw [e] at hb; exact of_decide_eq_true hb
  cases hq : biOf b with
  | blt s =>
    rw [hq] at ok
    have hv : bootBuiltins nm = some (.builtin s) := by subst hn; cases b <;> cases hq <;> decide +kernel
    exact (pe_callB ok hg (fx.bt _ (mem hq)) hv ha k3 k1 (star_of hs _ _) rfl).conv rd
  | ty s =>
    rw [hq] at ok
    have hv : bootBuiltins nm = some (.type s) := by subst hn; cases b <;> cases hq <;> decide +kernel
    exact (pe_callTy ok hg (fx.bt _ (mem2 hq)) hv ha k3 k1 (star_of hs _ _) rfl).conv rd
  | glo s y =>
    rw [hq] at ok hb
    simp only [Bool.and_eq_true, decide_eq_true_eq] at hb
    have hm := fx.gf y s hb.1
    rw [← hb.2] at hm
    exact (pe_callBfun ok hg hm ha k1 (star_of hs _ _) rfl).conv rd
end
end Ev
end

section
set_option Elab.async false
set_option linter.all false
set_option maxRecDepth 100000
set_option maxHeartbeats 4000000
/-! expressions: keywords, targets, what is walked, comprehensions -/
namespace Ev
open PySem PySem.Spec PyProof.Rows L2

/-! ### keywords -/
theorem kw_all {pos : Pos} {env : Env} : ∀ {kws : List Keyword} {ks : List Str}, kwNms kws = some ks → (backToKw pos (keywordEach kws env)).all (·.1.isSome) = true ∧ (backToKw pos (keywordEach kws env)).filterMap (·.1) = ks ∧ (backToKw pos (keywordEach kws env)).any (·.1.isNone) = false
  | [], ks, h => by cases h; exact ⟨rfl, rfl, rfl⟩
  | ⟨some x, v, p⟩ :: r, ks, h => by
    unfold kwNms at h
    rw [Option.map_eq_some_iff] at h
    obtain ⟨ks', h1, h2⟩ := h
    subst h2
    obtain ⟨a, b, c⟩ := kw_all (pos := pos) (env := env) h1
    refine ⟨?_, ?_, ?_⟩
    · show (true && (backToKw pos (keywordEach r env)).all (·.1.isSome)) = true
      rw [a]; rfl
    · show x :: (backToKw pos (keywordEach r env)).filterMap (·.1) = x :: ks'
      rw [b]
    · show (false || (backToKw pos (keywordEach r env)).any (·.1.isNone)) = false
      rw [c]; rfl
  | ⟨none, v, p⟩ :: r, ks, h => by cases h
section
variable {X : Cx} {g : List D} {cf : Nat → List D → Sto → Res Rv} {C : Nat → Addr} {W : WX} {n : Nat} {pos : Pos} {x y z : Expr} {a b c : E} {es ks : Es} {xs : List Expr} {kws : List Keyword}
abbrev GK (X : Cx) (g : List D) (cf : Nat → List D → Sto → Res Rv) (C : Nat → Addr) (W : WX) (es : Es) (xs : List Keyword) : Prop := PK X xs (tA X.K C W (evs g cf es))
theorem k_nil : GK X g cf C W .nil [] := pk_nil.conv fun σ H Q ⟨w, env, ρ, ok, er, h⟩ => h w H Le.refl ok w [] Le.refl ok .nil
theorem k_cons {nm : Option Str} {kp : Pos} (ha : GE X g cf C W a x) (hr : GK X g cf C W es kws) : GK X g cf C W (.cons a es) (⟨nm, x, kp⟩ :: kws) := by
  refine (pk_cons ha hr).conv fun σ H Q ⟨w, env, ρ, ok, er, h⟩ => ?_
  unfold evs at h
  refine ⟨w, env, ρ, ok, er, Out.mono (Out.bind h) fun w1 H1 rx ρ1 l1 ok1 h1 v rv => ?_⟩
  split at h1
  · exact False.elim h1
  · rename_i nal
    obtain ⟨w1', l1', ok1', _, pr⟩ := settle ok1 rv
    have pr := pr nal
    refine ⟨w1', env, ρ1, ok1', (er.mono l1).mono l1', Out.mono (Out.bind (Out.le l1' h1)) fun w2 H2 ds ρ2 l2 ok2 h2 w3 vs l3 ok3 rp => ?_⟩
    exact h2 w2 H2 Le.refl ok2 w3 (v :: vs) l3 ok3 (.cons ((pr.mono l2).mono l3) rp)
theorem Reps.paired {K : PySem.W.Frag} {w : Wd} {H : Hp} : ∀ {ds : List D} {vs : List V}, Reps K w H ds vs → ∀ (i : Nat) d, ds[i]? = some d → ∃ v, vs[i]? = some v ∧ Rep K w H d v
  | _, _, r, i, d, e => r.get e
theorem paired_reps {K : PySem.W.Frag} {w : Wd} {H : Hp} : ∀ {ds : List D} {vs : List V}, Paired (Rep K w H) ds vs → Reps K w H ds vs
  | _, _, .nil => .nil
  | _, _, .cons h r => .cons h (paired_reps r)
theorem mapM_len {α β : Type} {f : α → Option β} : ∀ {l : List α} {r : List β}, l.mapM f = some r → r.length = l.length
  | [], r, h => by rw [List.mapM_nil] at h; cases h; rfl
  | x :: l, r, h => by
    rw [List.mapM_cons] at h
    cases e1 : f x with
    | none => rw [e1] at h; cases h
    | some y =>
      cases e2 : l.mapM f with
      | none => simp [e1, e2] at h
      | some r' => simp [e1, e2] at h; rw [← h, List.length_cons, mapM_len e2]; rfl
theorem n_callk {T : Tabs} {nm : Str} {ps ns : List Str} {p : Pos} {f : Nat} {pm : List Nat} (hr : Room n X.A) (fx : Fx T g cf C n X.prog X.w X.K X.mg X.base) (tk : Takes X W) (hf : T.dn[f]? = some (nm, ps)) (hpl : pm.length = ps.length) (hks : kwNms kws = some ns)
    (hkb : (f, es.len, ns, pm) ∈ T.kb) (hkl : ks.len = ns.length) (hel : es.len = xs.length) (hg : Gl X nm) (hk : okNm nm = true) (hs : xs.all notStar = true) (ha : GA X g cf C W es xs) (hkw : GK X g cf C W ks kws) : GE X g cf C W (.callk f pm es ks) (.Call (.Name nm p) xs kws pos) := by
  obtain ⟨k1, _, _⟩ := nm_of hk
  obtain ⟨a, fd, hm, kp, bi, kb, F⟩ := fx.df f nm ps hf
  obtain ⟨q1, q2, q3⟩ := kw_all (pos := pos) (env := X.env) hks
  have fin : ∀ {w : Wd} {env : Envr} {ρ : Sto} {σ : L2.St} {H : Hp} {Q : VK} {k : Wd → Hp → Rv → Sto → Prop} {ds : List D} {vs : List V}, (k = fun w' H' r _ => ∀ v, RepR X.K w' H' r v → Q v H') → WOk X.K w H ρ → EnvR X.K w H env σ → Reps X.K w H ds vs → ds.length = es.len →
      Out X.K C w H ((evs g cf ks env ρ).bind fun us ρ2 => match perm pm (ds ++ us) with | some ds' => cf f ds' ρ2 | none => .no) k (fun c d H' => W c d σ H') →
      tA X.K C W (evs g cf ks) σ H fun zs H2 => permR es.len ns ps pm vs zs fun ys => spOf X.K C cf f ps.length ys H2 Q (WE W σ) := by
    intro w env ρ σ H Q k ds vs hk ok er rp hl h
    refine args ok er h fun w1 H1 ρ1 us zs e1 ok1 l1 rp1 h1 => ?_
    split at h1
    · rename_i ds' e
      obtain ⟨ys, e', r3⟩ := perm_rel ((rp.mono l1).append rp1).paired pm e
      refine ⟨by rw [← rp.length, hl], by rw [← rp1.length, evs_len e1, hkl], ys, e', by rw [mapM_len e', hpl], by rw [mapM_len e', hpl], w1, ρ1, ds', ok1, paired_reps r3, ?_⟩
      subst hk
      exact h1
    · exact False.elim h1
  cases xs with
  | nil =>
    refine (pe_callKS0 F hr hg hm kp (kb _ _ _ hkb) (fun σ => passAt tk σ) hkw q1 q2 k1 (by rw [q3]; rfl)).conv fun σ H Q ⟨w, env, ρ, ok, er, h⟩ => ?_
    unfold ev at h
    cases es with
    | nil => exact fin rfl ok er .nil rfl h
    | cons e es => cases hel
  | cons x xs =>
    rw [List.all_cons, Bool.and_eq_true] at hs
    refine (pe_callKS F hr hg hm kp (kb _ _ _ hkb) (fun σ => passAt tk σ) ha hkw q1 q2 k1 (star_of hs.1 _ _) (by rw [q3, star_of hs.1]; show (false || (backTo pos (starEach xs X.env)).any (·.1) || false) = false; rw [any_nil hs.2]; rfl)).conv fun σ H Q ⟨w, env, ρ, ok, er, h⟩ => ?_
    unfold ev at h
    refine args ok er h fun w1 H1 ρ1 ds vs e1 ok1 l1 rp h1 => ?_
    exact fin rfl ok1 (er.mono l1) rp (evs_len e1) h1
end

/-! ### targets -/
theorem EnvR.set {K : PySem.W.Frag} {w : Wd} {H : Hp} {env : Envr} {σ : L2.St} {i : Nat} {s : Slot} {v : V} (er : EnvR K w H env σ) (r : RepR K w H ⟨s.d, if s.own then .al else .sh⟩ v) : EnvR K w H (env.set i (some s)) (σ.set i (some v)) := by
  refine ⟨by simpa using er.1, fun j t e => ?_⟩
  by_cases hj : i = j
  · subst hj
    by_cases hl : i < env.length
    · rw [List.getElem?_set_self hl] at e
      cases e
      exact ⟨v, List.getElem?_set_self (by rw [← er.1]; exact hl), r⟩
    · rw [List.getElem?_eq_none (by simpa using hl)] at e; cases e
  · rw [List.getElem?_set_ne hj] at e
    obtain ⟨u, e1, r1⟩ := er.2 j t e
    exact ⟨u, by rw [List.getElem?_set_ne hj]; exact e1, r1⟩
theorem Tgs_len : ∀ {ts : Tgs} {ds : List D} {env env' : Envr} {N : List Str} {sc : Scope} {es : List Expr}, asgTs ts ds env = some env' → chkTgs N sc ts es = true → ds.length = es.length
  | .nil, [], env, env', N, sc, [], _, _ => rfl
  | .nil, [], env, env', N, sc, _ :: _, _, h => by unfold chkTgs at h; cases h
  | .nil, _ :: _, env, env', N, sc, es, h, _ => by unfold asgTs at h; cases h
  | .cons t r, [], env, env', N, sc, es, h, _ => by unfold asgTs at h; cases h
  | .cons t r, d :: ds, env, env', N, sc, [], _, h => by unfold chkTgs at h; cases h
  | .cons t r, d :: ds, env, env', N, sc, e :: es, h1, h2 => by
    unfold asgTs at h1
    unfold chkTgs at h2
    simp only [Bool.and_eq_true] at h2
    rw [Option.bind_eq_some_iff] at h1
    obtain ⟨env1, e1, e2⟩ := h1
    show _ + 1 = _ + 1
    rw [Tgs_len e2 h2.2]
theorem chkTgs_star : ∀ {ts : Tgs} {N : List Str} {sc : Scope} {es : List Expr}, chkTgs N sc ts es = true → es.all notStar = true
  | .nil, N, sc, [], _ => rfl
  | .nil, N, sc, _ :: _, h => by unfold chkTgs at h; cases h
  | .cons t r, N, sc, [], _ => rfl
  | .cons t r, N, sc, e :: es, h => by
    unfold chkTgs at h
    simp only [Bool.and_eq_true] at h
    rw [List.all_cons, h.1.1, chkTgs_star h.2]; rfl
theorem asg_len {env : Env} : ∀ {es : List Expr}, es.all notStar = true → (assignEach es env).length = es.length ∧ (assignEach es env).findIdx? (·.1) = none
  | [], _ => ⟨rfl, rfl⟩
  | e :: es, h => by
    rw [List.all_cons, Bool.and_eq_true] at h
    obtain ⟨a, b⟩ := asg_len (env := env) h.2
    rw [asg_of h.1]
    refine ⟨by rw [List.length_cons, List.length_cons, a], ?_⟩
    rw [List.findIdx?_cons]
    simp [b]
section
variable {X : Cx} {N : List Str} {sc : Scope}
mutual
theorem sTg (nd : N.Nodup) (hN : X.N = N) (hc : X.calm = true) (hlo : ∀ x, isLoc sc x = true → L2.Loc X.env.scope x ∧ (X.fn x = true ∨ X.env.scope.names.lookup x = some .local)) : ∀ (t : Tg) (e : Expr), chkTg N sc t e = true → PG X e (gT X.K t)
  | .nm i, e, h => by
    unfold chkTg at h
    split at h
    · rename_i i' x pos heq
      cases heq
      simp only [Bool.and_eq_true, decide_eq_true_eq] at h
      obtain ⟨hl, hl2⟩ := hlo x h.2
      refine (pg_name (i := i) (by rw [hN]; exact nd) (by rw [hN]; exact h.1) hl hl2).conv fun v σ H Q ⟨w, env, ρ, d, env', ok, er, rp, ea, q⟩ => ?_
      unfold asgT at ea
      split at ea
      · cases ea
        exact q _ (er.set rp) fun j hj => List.getElem?_set_ne (by rintro rfl; exact hj (by simp [tgs]))
      · cases ea
    · rename_i heq; cases heq
    · cases h
  | .tup ts, e, h => by
    unfold chkTg at h
    split at h
    · rename_i heq; cases heq
    · rename_i ts' es k pos heq
      cases heq
      have hst := chkTgs_star h
      obtain ⟨l1, l2⟩ := asg_len (env := X.env) hst
      refine (pg_tup (n := es.length) hc (sTgs nd hN hc hlo ts es h) l1 l2).conv fun v σ H Q ⟨w, env, ρ, d, env', ok, er, rp, ea, q⟩ => ?_
      unfold asgT at ea
      split at ea
      · rename_i heq; cases heq
      · rename_i ts2 ds heq
        cases heq
        obtain ⟨a, vs, rfl, h1, r1, z1⟩ := (Lies.rep rp).tup
        exact ⟨a, vs, rfl, h1, by rw [← r1.length]; exact Tgs_len ea h, w, _, ρ, _, env', ok, er, r1, ea, fun σ' er' sm => q σ' er' (by unfold tgs; exact sm)⟩
      · cases ea
    · cases h
theorem sTgs (nd : N.Nodup) (hN : X.N = N) (hc : X.calm = true) (hlo : ∀ x, isLoc sc x = true → L2.Loc X.env.scope x ∧ (X.fn x = true ∨ X.env.scope.names.lookup x = some .local)) : ∀ (ts : Tgs) (es : List Expr), chkTgs N sc ts es = true → PGs X es (gTs X.K ts)
  | .nil, es, h => by
    unfold chkTgs at h
    split at h
    · refine pgs_nil.conv fun vs σ H Q ⟨w, env, ρ, ds, env', ok, er, rp, ea, q⟩ => ?_
      cases ds with
      | nil =>
        unfold asgTs at ea
        cases ea
        cases rp
        exact ⟨rfl, q σ er fun _ _ => rfl⟩
      | cons d ds => unfold asgTs at ea; cases ea
    · rename_i heq; cases heq
    · cases h
  | .cons t r, es, h => by
    unfold chkTgs at h
    split at h
    · rename_i heq; cases heq
    · rename_i t' r' e es' heq
      cases heq
      simp only [Bool.and_eq_true] at h
      refine (pgs_cons (sTg nd hN hc hlo t e h.1.2) (sTgs nd hN hc hlo r es' h.2) (by rw [asg_of h.1.1]; rfl)).conv fun vs σ H Q ⟨w, env, ρ, ds, env', ok, er, rp, ea, q⟩ => ?_
      cases ds with
      | nil => unfold asgTs at ea; cases ea
      | cons d ds =>
        unfold asgTs at ea
        rw [Option.bind_eq_some_iff] at ea
        obtain ⟨env1, e1, e2⟩ := ea
        cases rp with
        | cons hd tl =>
          refine ⟨_, _, rfl, w, env, ρ, d, env1, ok, er, hd, e1, fun σ1 er1 sm1 => ⟨w, env1, ρ, ds, env', ok, er1, tl, e2, fun σ2 er2 sm2 => q σ2 er2 fun i hi => ?_⟩⟩
          unfold tgss at hi
          rw [List.mem_append] at hi
          rw [sm2 i fun z => hi (.inr z), sm1 i fun z => hi (.inl z)]
    · cases h
end
end

/-! ### what is walked -/
section
variable {K : PySem.W.Frag} {w : Wd} {H : Hp} {ρ : Sto}
theorem goes_list {a : Addr} {ds : List D} (p : Pk K w H (.lst ds) (.ref a)) : Goes K w H (Itl K a) ds := by
  have at_ : ∀ {w' H' ρ'}, Le w H w' H' → WOk K w' H' ρ' → ∃ vs, SqL K H' a vs ∧ Reps K w' H' ds vs := fun {w' H' ρ'} l ok => by
    obtain ⟨a', vs, e, h1, r1, _⟩ := ((p.mono l).lies ok).lst
    cases e
    exact ⟨vs, .of h1, r1⟩
  refine ⟨fun i w' H' ρ' l ok hi => ?_, fun i w' H' x H'' ρ' d l ok hd y => ?_, fun i w' H' ρ' l ok hi => ?_⟩
  · obtain ⟨vs, h1, r1⟩ := at_ l ok
    exact ⟨vs, vs[i]'(by rw [← r1.length]; exact hi), h1, by simp⟩
  · obtain ⟨e, y⟩ := y
    subst e
    obtain ⟨vs, h1, r1⟩ := at_ l ok
    obtain ⟨v, e1, r2⟩ := r1.get hd
    have := y vs h1
    rw [e1] at this; cases this
    exact ⟨w', Le.refl, ok, r2⟩
  · obtain ⟨vs, h1, r1⟩ := at_ l ok
    exact ⟨vs, h1, by rw [← r1.length]; exact hi⟩
theorem goes_ro {a : Addr} {ds : List D} (p : Rep K w H (.ro ds) (.ref a)) : Goes K w H (Itl K a) ds := by
  have at_ : ∀ {w' H'}, Le w H w' H' → ∃ vs, SqL K H' a vs ∧ Reps K w' H' ds vs := fun {w' H'} l => by
    obtain ⟨a', vs, e, h1, r1, _⟩ := (Lies.rep (p.mono l)).ro
    cases e
    exact ⟨vs, h1, r1⟩
  refine ⟨fun i w' H' ρ' l ok hi => ?_, fun i w' H' x H'' ρ' d l ok hd y => ?_, fun i w' H' ρ' l ok hi => ?_⟩
  · obtain ⟨vs, h1, r1⟩ := at_ l
    exact ⟨vs, vs[i]'(by rw [← r1.length]; exact hi), h1, by simp⟩
  · obtain ⟨e, y⟩ := y
    subst e
    obtain ⟨vs, h1, r1⟩ := at_ l
    obtain ⟨v, e1, r2⟩ := r1.get hd
    have := y vs h1
    rw [e1] at this; cases this
    exact ⟨w', Le.refl, ok, r2⟩
  · obtain ⟨vs, h1, r1⟩ := at_ l
    exact ⟨vs, h1, by rw [← r1.length]; exact hi⟩
theorem goes_tup {a : Addr} {ds : List D} (p : Rep K w H (.tup ds) (.ref a)) : Goes K w H (Itt K a) ds := by
  have at_ : ∀ {w' H'}, Le w H w' H' → ∃ vs, SqT K H' a vs ∧ Reps K w' H' ds vs := fun {w' H'} l => by
    obtain ⟨a', vs, e, h1, r1, _⟩ := (Lies.rep (p.mono l)).tup
    cases e
    exact ⟨vs, h1, r1⟩
  refine ⟨fun i w' H' ρ' l ok hi => ?_, fun i w' H' x H'' ρ' d l ok hd y => ?_, fun i w' H' ρ' l ok hi => ?_⟩
  · obtain ⟨vs, h1, r1⟩ := at_ l
    exact ⟨vs, vs[i]'(by rw [← r1.length]; exact hi), h1, by simp⟩
  · obtain ⟨e, y⟩ := y
    subst e
    obtain ⟨vs, h1, r1⟩ := at_ l
    obtain ⟨v, e1, r2⟩ := r1.get hd
    have := y vs h1
    rw [e1] at this; cases this
    exact ⟨w', Le.refl, ok, r2⟩
  · obtain ⟨vs, h1, r1⟩ := at_ l
    exact ⟨vs, h1, by rw [← r1.length]; exact hi⟩
theorem goes_str (s : Str) : Goes K w H (Its s) (s.cps.toList.map fun c => .str ⟨#[c]⟩) := by
  refine ⟨fun i w' H' ρ' l ok hi => (show i < s.cps.size by simpa using hi), fun i w' H' x H'' ρ' d l ok hd y => ?_, fun i w' H' ρ' l ok hi => (show s.cps.size ≤ i by simpa using hi)⟩
  obtain ⟨e, c, hc, rfl⟩ := y
  subst e
  rw [List.getElem?_map, Array.getElem?_toList, hc] at hd
  cases hd
  exact ⟨w', Le.refl, ok, .str _⟩
theorem goes_rng (lo : Int) (n : Nat) : Goes K w H (L2.Itr lo n) (rngD lo n) := by
  unfold rngD
  refine ⟨fun i w' H' ρ' l ok hi => (show i < n by simpa using hi), fun i w' H' x H'' ρ' d l ok hd y => ?_, fun i w' H' ρ' l ok hi => (show n ≤ i by simpa using hi)⟩
  obtain ⟨e, rfl⟩ := y
  subst e
  rw [List.getElem?_map] at hd
  by_cases hi : i < n
  · rw [List.getElem?_range hi] at hd
    cases hd
    exact ⟨w', Le.refl, ok, .int _⟩
  · rw [List.getElem?_eq_none (by simpa using hi)] at hd; cases hd
theorem enum_get : ∀ (k : Nat) (ds : List D) (i : Nat), (enumD k ds)[i]? = (ds[i]?).map fun d => .tup [.int ((k + i : Nat) : Int), d]
  | k, [], i => by simp [enumD]
  | k, d :: ds, 0 => by simp [enumD]
  | k, d :: ds, i + 1 => by
    simp only [enumD, List.getElem?_cons_succ]
    rw [enum_get (k + 1) ds i, show k + 1 + i = k + (i + 1) by omega]
theorem enum_len : ∀ (k : Nat) (ds : List D), (enumD k ds).length = ds.length
  | _, [] => rfl
  | k, d :: ds => by simp only [enumD, List.length_cons, enum_len (k + 1) ds]
theorem goes_enum {a : Addr} {ds : List D} (p : Rep K w H (.lst ds) (.ref a)) : Goes K w H (Ite K a) (enumD 0 ds) := by
  have at_ : ∀ {w' H'}, Le w H w' H' → ∃ vs, H' a = some (.lst vs) ∧ Reps K w' H' ds vs := fun {w' H'} l => by
    obtain ⟨a', vs, e, h1, r1, _⟩ := (Lies.rep (p.mono l)).lst
    cases e
    exact ⟨vs, h1, r1⟩
  refine ⟨fun i w' H' ρ' l ok hi => ?_, fun i w' H' x H'' ρ' d l ok hd y => ?_, fun i w' H' ρ' l ok hi => ?_⟩
  · obtain ⟨vs, h1, r1⟩ := at_ l
    rw [enum_len] at hi
    exact ⟨vs, vs[i]'(by rw [← r1.length]; exact hi), .of h1, by simp⟩
  · obtain ⟨T, x', rfl, hT, rfl, y⟩ := y
    obtain ⟨vs, h1, r1⟩ := at_ l
    rw [enum_get, Option.map_eq_some_iff] at hd
    obtain ⟨d', e1, e2⟩ := hd
    subst e2
    obtain ⟨v, e3, r2⟩ := r1.get e1
    have := y vs (.of h1)
    rw [e3] at this; cases this
    rw [Nat.zero_add]
    exact new_tup ok hT (by show 2 ≤ sizeLine; decide) (.cons (.int _) (.cons r2 .nil))
  · obtain ⟨vs, h1, r1⟩ := at_ l
    rw [enum_len] at hi
    exact ⟨vs, .of h1, by rw [← r1.length]; exact hi⟩
theorem zip_get : ∀ (xs ys : List D) (i : Nat), (zipD xs ys)[i]? = (xs[i]?).bind fun x => (ys[i]?).map fun y => .tup [x, y]
  | [], ys, i => by simp [zipD]
  | x :: xs, [], i => by cases h : (x :: xs)[i]? <;> simp [zipD]
  | x :: xs, y :: ys, 0 => by simp [zipD]
  | x :: xs, y :: ys, i + 1 => by simp only [zipD, List.getElem?_cons_succ]; exact zip_get xs ys i
theorem zip_len : ∀ (xs ys : List D), (zipD xs ys).length = min xs.length ys.length
  | [], ys => by simp [zipD]
  | x :: xs, [] => by simp [zipD]
  | x :: xs, y :: ys => by simp only [zipD, List.length_cons, zip_len xs ys]; omega
theorem goes_zip {a b : Addr} {ds es : List D} (p : Rep K w H (.lst ds) (.ref a)) (q : Rep K w H (.lst es) (.ref b)) : Goes K w H (Itz K a b) (zipD ds es) := by
  have at_ : ∀ {a : Addr} {ds : List D}, Rep K w H (.lst ds) (.ref a) → ∀ {w' H'}, Le w H w' H' → ∃ vs, H' a = some (.lst vs) ∧ Reps K w' H' ds vs := fun {a ds} p {w' H'} l => by
    obtain ⟨a', vs, e, h1, r1, _⟩ := (Lies.rep (p.mono l)).lst
    cases e
    exact ⟨vs, h1, r1⟩
  refine ⟨fun i w' H' ρ' l ok hi => ?_, fun i w' H' x H'' ρ' d l ok hd y => ?_, fun i w' H' ρ' l ok hi => ?_⟩
  · obtain ⟨vs, h1, r1⟩ := at_ p l
    obtain ⟨us, h2, r2⟩ := at_ q l
    rw [zip_len] at hi
    exact ⟨vs, us, vs[i]'(by rw [← r1.length]; omega), us[i]'(by rw [← r2.length]; omega), .of h1, .of h2, by simp, by simp⟩
  · obtain ⟨T, x', y', rfl, hT, rfl, y1, y2⟩ := y
    obtain ⟨vs, h1, r1⟩ := at_ p l
    obtain ⟨us, h2, r2⟩ := at_ q l
    rw [zip_get, Option.bind_eq_some_iff] at hd
    obtain ⟨d1, e1, hd⟩ := hd
    rw [Option.map_eq_some_iff] at hd
    obtain ⟨d2, e2, e3⟩ := hd
    subst e3
    obtain ⟨v, e4, r3⟩ := r1.get e1
    have := y1 vs (.of h1)
    rw [e4] at this; cases this
    obtain ⟨u, e5, r4⟩ := r2.get e2
    have := y2 us (.of h2)
    rw [e5] at this; cases this
    exact new_tup ok hT (by show 2 ≤ sizeLine; decide) (.cons r3 (.cons r4 .nil))
  · obtain ⟨vs, h1, r1⟩ := at_ p l
    obtain ⟨us, h2, r2⟩ := at_ q l
    rw [zip_len] at hi
    refine ⟨vs, us, .of h1, .of h2, ?_⟩
    rw [← r1.length, ← r2.length]
    omega
theorem goes_zipT {a b : Addr} {ds es : List D} (p : Rep K w H (.tup ds) (.ref a)) (q : Rep K w H (.tup es) (.ref b)) : Goes K w H (RZ.ItzT K a b) (zipD ds es) := by
  have at_ : ∀ {a : Addr} {ds : List D}, Rep K w H (.tup ds) (.ref a) → ∀ {w' H'}, Le w H w' H' → ∃ vs, SqT K H' a vs ∧ Reps K w' H' ds vs := fun {a ds} p {w' H'} l => by
    obtain ⟨a', vs, e, h1, r1, _⟩ := (Lies.rep (p.mono l)).tup
    cases e
    exact ⟨vs, h1, r1⟩
  refine ⟨fun i w' H' ρ' l ok hi => ?_, fun i w' H' x H'' ρ' d l ok hd y => ?_, fun i w' H' ρ' l ok hi => ?_⟩
  · obtain ⟨vs, h1, r1⟩ := at_ p l
    obtain ⟨us, h2, r2⟩ := at_ q l
    rw [zip_len] at hi
    exact ⟨vs, us, vs[i]'(by rw [← r1.length]; omega), us[i]'(by rw [← r2.length]; omega), h1, h2, by simp, by simp⟩
  · obtain ⟨T, x', y', rfl, hT, rfl, y1, y2⟩ := y
    obtain ⟨vs, h1, r1⟩ := at_ p l
    obtain ⟨us, h2, r2⟩ := at_ q l
    rw [zip_get, Option.bind_eq_some_iff] at hd
    obtain ⟨d1, e1, hd⟩ := hd
    rw [Option.map_eq_some_iff] at hd
    obtain ⟨d2, e2, e3⟩ := hd
    subst e3
    obtain ⟨v, e4, r3⟩ := r1.get e1
    have := y1 vs h1
    rw [e4] at this; cases this
    obtain ⟨u, e5, r4⟩ := r2.get e2
    have := y2 us h2
    rw [e5] at this; cases this
    exact new_tup ok hT (by show 2 ≤ sizeLine; decide) (.cons r3 (.cons r4 .nil))
  · obtain ⟨vs, h1, r1⟩ := at_ p l
    obtain ⟨us, h2, r2⟩ := at_ q l
    rw [zip_len] at hi
    refine ⟨vs, us, h1, h2, ?_⟩
    rw [← r1.length, ← r2.length]
    omega
end
section
variable {X : Cx} {g : List D} {cf : Nat → List D → Sto → Res Rv} {C : Nat → Addr} {W : WX} {n : Nat} {pos p : Pos} {x y z tg : Expr} {a b c : E} {es ks : Es} {xs : List Expr}
theorem pi_any {te : TE} (h : PE X x te) : PI X tg x (fun σ H R => iList X.K te σ H R ∨ iTup X.K te σ H R ∨ iStr te σ H R) :=
  ⟨fun pins s σ H R I q => by
    rcases q with q | q | q
    · exact (pi_list h).run pins s σ H R I q
    · exact (pi_tup h).run pins s σ H R I q
    · exact (pi_str h).run pins s σ H R I q⟩
abbrev GI (X : Cx) (g : List D) (cf : Nat → List D → Sto → Res Rv) (C : Nat → Addr) (W : WX) (al : Bool) (it : Iw) (tg x : Expr) : Prop := PI X tg x (tI X.K C W al (evI g cf it al))
theorem i_over (al : Bool) (ha : GE X g cf C W a x) : GI X g cf C W al (.over a) tg x := by
  refine (pi_any ha).conv fun σ H R ⟨w, env, ρ, ok, er, h⟩ => ?_
  unfold evI at h
  have go : ∀ (Q : VK), (∀ w1 H1 ρ1 rx v, ev g cf a env ρ = .ok rx ρ1 → WOk X.K w1 H1 ρ1 → Le w H w1 H1 → RepR X.K w1 H1 rx v → Out X.K C w1 H1 (if rx.fl = .al ∧ al = false then Res.no else .opt (itemsOf rx.d) ρ1) (fun w' H' ds ρ' => ∀ w2 J, Le w' H' w2 H' → WOk X.K w2 H' ρ' → Goes X.K (gw al w2) H' J ds → R J H') (fun c d H' => W c d σ H') → Q v H1) →
      tE X.K C W (ev g cf a) σ H Q := fun Q f => by
    refine ⟨w, env, ρ, ok, er, ?_⟩
    have hb := Out.bind h
    cases e : ev g cf a env ρ with
    | no => rw [e] at hb; exact hb
    | exc x ρ1 => rw [e] at hb; exact hb
    | ok rx ρ1 =>
      rw [e] at hb
      exact fun w1 H1 l1 ok1 v rv => f w1 H1 ρ1 rx v e ok1 l1 rv (hb w1 H1 l1 ok1)
  cases e : ev g cf a env ρ with
  | no => rw [e] at h; exact False.elim h
  | exc x ρ1 =>
    -- an exception: any road
    refine .inl (go _ fun w1 H1 ρ1 rx v e' => ?_)
    rw [e] at e'; cases e'
  | ok rx ρ1 =>
    obtain ⟨d, fl⟩ := rx
    cases d with
    | lst ds =>
      refine .inl (go _ fun w1 H1 ρ2 rx v e' ok1 l1 rv h1 => ?_)
      rw [e] at e'; cases e'
      split at h1
      · exact False.elim h1
      · rename_i hal
        obtain ⟨w2, l2, ok2, px, pr⟩ := settle ok1 rv
        obtain ⟨aa, vs, rfl, h2, r2, _⟩ := (px.lies ok2).lst
        have px' : Pk X.K (gw al w2) H1 (.lst ds) (.ref aa) := by
          cases al with
          | true => exact px
          | false => exact .inl (pr fun z => hal ⟨z, rfl⟩).unres
        exact ⟨aa, rfl, ⟨vs, .of h2⟩, h1 w1 H1 Le.refl ok1 w2 _ l2 ok2 (goes_list px')⟩
    | ro ds =>
      refine .inl (go _ fun w1 H1 ρ2 rx v e' ok1 l1 rv h1 => ?_)
      rw [e] at e'; cases e'
      split at h1
      · exact False.elim h1
      · obtain ⟨w2, l2, ok2, px, _⟩ := settle ok1 rv
        obtain ⟨aa, vs, rfl, h2, r2, _⟩ := (px.lies ok2).ro
        rcases px with px | ⟨_, _, _, z, _⟩
        · exact ⟨aa, rfl, ⟨vs, h2⟩, h1 w1 H1 Le.refl ok1 w2 _ l2 ok2 (goes_ro (px.gw al))⟩
        · cases z
    | tup ds =>
      refine .inr (.inl (go _ fun w1 H1 ρ2 rx v e' ok1 l1 rv h1 => ?_))
      rw [e] at e'; cases e'
      split at h1
      · exact False.elim h1
      · obtain ⟨w2, l2, ok2, px, _⟩ := settle ok1 rv
        obtain ⟨aa, vs, rfl, h2, r2, _⟩ := (px.lies ok2).tup
        rcases px with px | ⟨_, _, _, z, _⟩
        · exact ⟨aa, rfl, ⟨vs, h2⟩, h1 w1 H1 Le.refl ok1 w2 _ l2 ok2 (goes_tup (px.gw al))⟩
        · cases z
    | str s =>
      refine .inr (.inr (go _ fun w1 H1 ρ2 rx v e' ok1 l1 rv h1 => ?_))
      rw [e] at e'; cases e'
      split at h1
      · exact False.elim h1
      · obtain ⟨w2, l2, ok2, px, _⟩ := settle ok1 rv
        have := (px.lies ok2).str
        exact ⟨s, this, h1 w1 H1 Le.refl ok1 w2 _ l2 ok2 (goes_str s)⟩
    | _ =>
      rw [e, Res.bind_ok] at h
      split at h <;> exact False.elim h
theorem n_rng {T : Tabs} {nm : Str} (al : Bool) (fx : Fx T g cf C n X.prog X.w X.K X.mg X.base) (hn : nm = ("range" : Str)) (hb : nm ∈ T.bn) (hg : Gl X nm) (hs : xs.all notStar = true) (hl : (xs.length == 1 || xs.length == 2) = true) (hel : es.len = xs.length) (ha : GA X g cf C W es xs) :
    GI X g cf C W al (.rng es) tg (.Call (.Name nm p) xs [] pos) := by
  subst hn
  have rd : ∀ {R : It → Hp → Prop} {σ : L2.St} {H : Hp} {w : Wd} {env : Envr} {ρ : Sto}, WOk X.K w H ρ → EnvR X.K w H env σ → Out X.K C w H (evI g cf (.rng es) al env ρ) (fun w' H' ds ρ' => ∀ w2 J, Le w' H' w2 H' → WOk X.K w2 H' ρ' → Goes X.K (gw al w2) H' J ds → R J H') (fun c d H' => W c d σ H') →
      tA X.K C W (evs g cf es) σ H fun vs H1 => (∃ j : Int, vs = [.int j] ∧ -(2 ^ 62) ≤ j ∧ j < 2 ^ 62 ∧ R (L2.Itr 0 j.toNat) H1 ∧ es.len = 1) ∨ (∃ i j : Int, vs = [.int i, .int j] ∧ (-(2 ^ 62) ≤ i ∧ i < 2 ^ 62 ∧ -(2 ^ 62) ≤ j ∧ j < 2 ^ 62) ∧ R (L2.Itr i (j - i).toNat) H1 ∧ es.len = 2) := by
    intro R σ H w env ρ ok er h
    unfold evI at h
    refine args ok er h fun w1 H1 ρ1 ds vs e1 ok1 l1 rp h1 => ?_
    have hlen := evs_len e1
    split at h1
    · cases rp with | cons r1 rp => ?_
      cases rp
      cases r1
      split at h1
      · rename_i hb
        exact .inl ⟨_, rfl, hb.1, hb.2, h1 w1 H1 Le.refl ok1 w1 _ Le.refl ok1 (goes_rng 0 _), hlen.symm⟩
      · exact False.elim h1
    · cases rp with | cons r1 rp => ?_
      cases rp with | cons r2 rp => ?_
      cases rp
      cases r1
      cases r2
      split at h1
      · rename_i hb
        exact .inr ⟨_, _, rfl, hb, h1 w1 H1 Le.refl ok1 w1 _ Le.refl ok1 (goes_rng _ _), hlen.symm⟩
      · exact False.elim h1
    · exact False.elim h1
  match xs, hs, hl, hel, ha with
  | [x1], hs, _, hel, ha =>
    have s1 : notStar x1 = true := by simpa using hs
    refine (pi_range1 hg (fx.bt _ hb) ha (star_of s1 _ _)).conv fun σ H R ⟨w, env, ρ, ok, er, h⟩ => ?_
    obtain ⟨w', env', ρ', ok', er', h'⟩ := rd ok er h
    refine ⟨w', env', ρ', ok', er', Out.mono h' fun w1 H1 ds ρ1 _ _ f w2 vs l2 ok2 rp => ?_⟩
    rcases f w2 vs l2 ok2 rp with ⟨j, e, b1, b2, q, _⟩ | ⟨i, j, e, b, q, z⟩
    · exact ⟨j, e, b1, b2, q⟩
    · rw [hel] at z; cases z
  | [x1, x2], hs, _, hel, ha =>
    have s1 : notStar x1 = true ∧ notStar x2 = true := by simpa using hs
    refine (pi_range2 hg (fx.bt _ hb) ha (by rw [star_of s1.1, star_of s1.2]; rfl) (star_of s1.2 _ _)).conv fun σ H R ⟨w, env, ρ, ok, er, h⟩ => ?_
    obtain ⟨w', env', ρ', ok', er', h'⟩ := rd ok er h
    refine ⟨w', env', ρ', ok', er', Out.mono h' fun w1 H1 ds ρ1 _ _ f w2 vs l2 ok2 rp => ?_⟩
    rcases f w2 vs l2 ok2 rp with ⟨j, e, b1, b2, q, z⟩ | ⟨i, j, e, b, q, _⟩
    · rw [hel] at z; cases z
    · exact ⟨i, j, e, b, q⟩
theorem n_enum {T : Tabs} {nm : Str} {k : Nat} {tp : Pos} {ts : List Expr} (al : Bool) (fx : Fx T g cf C n X.prog X.w X.K X.mg X.base) (hn : nm = ("enumerate" : Str)) (hb : nm ∈ T.bn) (hg : Gl X nm) (hs : notStar x = true) (ha : GA X g cf C W es [x]) :
    GI X g cf C W al (.enum es) (.Tuple ts k tp) (.Call (.Name nm p) [x] [] pos) := by
  subst hn
  refine (pi_enum hg (fx.bt _ hb) ha (star_of hs _ _)).conv fun σ H R ⟨w, env, ρ, ok, er, h⟩ => ?_
  unfold evI at h
  refine args ok er h fun w1 H1 ρ1 ds vs e1 ok1 l1 rp h1 => ?_
  split at h1
  · cases rp with | cons r1 rp => ?_
    cases rp
    obtain ⟨aa, vs, rfl, h2, r2, _⟩ := (Lies.rep r1).lst
    exact ⟨aa, vs, rfl, .of h2, h1 w1 H1 Le.refl ok1 w1 _ Le.refl ok1 (goes_enum (r1.gw al))⟩
  · exact False.elim h1
theorem n_zip {T : Tabs} {nm : Str} {k : Nat} {tp : Pos} {ts : List Expr} (al : Bool) (fx : Fx T g cf C n X.prog X.w X.K X.mg X.base) (hn : nm = ("zip" : Str)) (hb : nm ∈ T.bn) (hg : Gl X nm) (hs : notStar x = true) (hs2 : notStar y = true) (ha : GA X g cf C W es [x, y]) :
    GI X g cf C W al (.zip es) (.Tuple ts k tp) (.Call (.Name nm p) [x, y] [] pos) := by
  subst hn
  refine (RZ.pi_zipA hg (fx.bt _ hb) ha (star_of hs _ _) (any_nil (by simp [hs2]) _)).conv fun σ H R ⟨w, env, ρ, ok, er, h⟩ => ?_
  unfold evI at h
  refine args ok er h fun w1 H1 ρ1 ds vs e1 ok1 l1 rp h1 => ?_
  split at h1
  · cases rp with | cons r1 rp => ?_
    cases rp with | cons r2 rp => ?_
    cases rp
    obtain ⟨aa, vs, rfl, h2, q1, _⟩ := (Lies.rep r1).lst
    obtain ⟨bb, us, rfl, h3, q2, _⟩ := (Lies.rep r2).lst
    exact ⟨aa, bb, vs, us, rfl, .inl ⟨.of h2, .of h3, h1 w1 H1 Le.refl ok1 w1 _ Le.refl ok1 (goes_zip (r1.gw al) (r2.gw al))⟩⟩
  · cases rp with | cons r1 rp => ?_
    cases rp with | cons r2 rp => ?_
    cases rp
    obtain ⟨aa, vs, rfl, h2, q1, _⟩ := (Lies.rep r1).tup
    obtain ⟨bb, us, rfl, h3, q2, _⟩ := (Lies.rep r2).tup
    exact ⟨aa, bb, vs, us, rfl, .inr ⟨h2, h3, h1 w1 H1 Le.refl ok1 w1 _ Le.refl ok1 (goes_zipT (r1.gw al) (r2.gw al))⟩⟩
  · exact False.elim h1
end
end Ev
end

section
set_option Elab.async false
set_option linter.all false
set_option maxRecDepth 100000
set_option maxHeartbeats 4000000
/-! expressions: pop, comprehensions, the whole -/
namespace Ev
open PySem PySem.Spec PyProof.Rows L2
section
variable {K : PySem.W.Frag} {w w' : Wd} {H H' : Hp} {ρ : Sto}
theorem WOk.setCell {n : Nat} {a : Addr} {o : HO} {c : Cell} (ok : WOk K w H ρ) (hm : w.m[n]? = some a) (hc : CellR K w (L2.upd H a o) c a) : Le w H w (L2.upd H a o) ∧ WOk K w (L2.upd H a o) (ρ.set n c) := by
  have hmem := List.mem_of_getElem? hm
  obtain ⟨nF, nO⟩ := ok.mf a hmem
  have l : Le w H w (L2.upd H a o) := Le.upd nF nO
  refine ⟨l, fun b h => ?_, fun b h => ?_, ok.fo, ok.mf, ok.nd, by simpa using ok.len, fun i d b e1 e2 => ?_⟩
  · rw [upd_ne (by rintro rfl; exact nF h)]; exact ok.fs b h
  · rw [upd_ne (by rintro rfl; exact nO h)]; exact ok.os b h
  · by_cases hi : n = i
    · subst hi
      rw [hm] at e2; cases e2
      by_cases hl : n < ρ.length
      · rw [List.getElem?_set_self hl] at e1
        cases e1
        exact hc
      · rw [List.getElem?_eq_none (by simpa using hl)] at e1; cases e1
    · rw [List.getElem?_set_ne hi] at e1
      have hne : b ≠ a := fun z => by
        subst z
        obtain ⟨h1, q1⟩ := List.getElem?_eq_some_iff.mp hm
        obtain ⟨h2, q2⟩ := List.getElem?_eq_some_iff.mp e2
        exact hi ((List.getElem_inj ok.nd).mp (q1.trans q2.symm))
      exact (ok.cell i d b e1 e2).mono l (upd_ne hne)
theorem WOk.loc {n : Nat} {a : Addr} {xs : List D} (ok : WOk K w H ρ) (h : w.m[n]? = some a) (e : ρ[n]? = some (.lst xs)) : xs.length ≤ sizeLine ∧ ∃ vs, H a = some (.lst vs) ∧ Reps K w H xs vs := ok.cell n _ a e h
theorem Reps.dropLast {ds : List D} {vs : List V} (r : Reps K w H ds vs) : Reps K w H ds.dropLast vs.dropLast := by
  rw [List.dropLast_eq_take, List.dropLast_eq_take, r.length]
  exact r.take _
end
section
variable {X : Cx} {g : List D} {cf : Nat → List D → Sto → Res Rv} {C : Nat → Addr} {W : WX} {n : Nat} {pos : Pos} {x y z tg : Expr} {a b c e : E} {es ks : Es} {xs : List Expr}
theorem base_of {nm m : Str} {p : Pos} {env : Env} {whole : Sem Value} : attributeBase (.Name nm p) m env whole = whole := by rfl
theorem n_pop {nm : Str} {p ap cp : Pos} (hl : (ap.endLine == cp.line) = true) (ha : GE X g cf C W a (.Name nm p)) : GE X g cf C W (.pop a) (.Call (.Attribute (.Name nm p) ("pop" : Str) ap) [] [] cp) := by
  refine (pe_bm0 PySem.F.plainAttrs_list PySem.F.slot_list_pop PySem.F.type_list_pop mt_pop ha base_of hl).conv fun σ H Q ⟨w, env, ρ, ok, er, h⟩ => ?_
  unfold ev at h
  refine one ok er h fun w1 H1 ρ1 rx x ok1 l1 px _ h1 => ?_
  obtain ⟨d, fl⟩ := rx
  cases d <;> first | exact False.elim h1 | skip
  rename_i m _
  have px : Pk X.K w1 H1 (.loc m) x := px
  rcases px with px | ⟨_, _, _, z, _⟩
  · cases px with
    | @loc _ aa hm =>
      dsimp only at h1
      split at h1
      · rename_i xs e1
        obtain ⟨hz, vs, h2, r2⟩ := ok1.loc hm e1
        split at h1
        · rename_i d e2
          have e3 : xs[xs.length - 1]? = some d := by rw [← List.getLast?_eq_getElem?]; exact e2
          obtain ⟨v, e4, rv⟩ := r2.get e3
          refine ⟨.inl ⟨rfl, vs, .of h2⟩, aa, vs, v, rfl, rfl, h2, by rw [← r2.length]; exact e4, ?_⟩
          obtain ⟨nF, nO⟩ := ok1.mf aa (List.mem_of_getElem? hm)
          have l : Le w1 H1 w1 (L2.upd H1 aa (.lst vs.dropLast)) := Le.upd nF nO
          obtain ⟨_, ok2⟩ := ok1.setCell (o := .lst vs.dropLast) (c := .lst xs.dropLast) hm ⟨by rw [List.length_dropLast]; omega, _, upd_same, r2.dropLast.mono l⟩
          exact h1 w1 _ l ok2 v (rv.mono l)
        · exact False.elim h1
      · exact False.elim h1
  · cases z

/-! ### comprehensions -/
mutual
theorem asg_length : ∀ {t : Tg} {d : D} {env env' : Envr}, asgT t d env = some env' → env'.length = env.length
  | .nm i, d, env, env', h => by
    unfold asgT at h
    split at h
    · cases h; rw [List.length_set]
    · cases h
  | .tup ts, .tup ds, env, env', h => by unfold asgT at h; exact asgs_length h
  | .tup ts, .non, _, _, h => by unfold asgT at h; cases h
  | .tup ts, .bl _, _, _, h => by unfold asgT at h; cases h
  | .tup ts, .int _, _, _, h => by unfold asgT at h; cases h
  | .tup ts, .str _, _, _, h => by unfold asgT at h; cases h
  | .tup ts, .lst _, _, _, h => by unfold asgT at h; cases h
  | .tup ts, .ro _, _, _, h => by unfold asgT at h; cases h
  | .tup ts, .loc _, _, _, h => by unfold asgT at h; cases h
  | .tup ts, .cst _, _, _, h => by unfold asgT at h; cases h
theorem asgs_length : ∀ {ts : Tgs} {ds : List D} {env env' : Envr}, asgTs ts ds env = some env' → env'.length = env.length
  | .nil, [], env, env', h => by unfold asgTs at h; cases h; rfl
  | .nil, _ :: _, env, env', h => by unfold asgTs at h; cases h
  | .cons t r, [], env, env', h => by unfold asgTs at h; cases h
  | .cons t r, d :: ds, env, env', h => by
    unfold asgTs at h
    rw [Option.bind_eq_some_iff] at h
    obtain ⟨env1, e1, e2⟩ := h
    rw [asgs_length e2, asg_length e1]
end
theorem wipeE_len (env : Envr) : ∀ vs : List Nat, (wipeE env vs).length = env.length
  | [] => rfl
  | v :: vs => by unfold wipeE; rw [List.length_set, wipeE_len env vs]
theorem wipe_env {K : PySem.W.Frag} {w : Wd} {H : Hp} {env : Envr} {σ : L2.St} (er : EnvR K w H env σ) : ∀ vs : List Nat, EnvR K w H (wipeE env vs) (wipe σ vs)
  | [] => er
  | v :: vs => by
    have ih := wipe_env er vs
    refine ⟨by rw [wipeE_len, wipe_length]; exact er.1, fun i s e => ?_⟩
    unfold wipeE at e
    unfold wipe
    by_cases hi : v = i
    · subst hi
      by_cases hl : v < (wipeE env vs).length
      · rw [List.getElem?_set_self hl] at e; cases e
      · rw [List.getElem?_eq_none (by simpa using hl)] at e; cases e
    · rw [List.getElem?_set_ne hi] at e
      rw [List.getElem?_set_ne hi]
      exact ih.2 i s e
theorem wipe_get (σ : L2.St) : ∀ (vs : List Nat) (i : Nat), (wipe σ vs)[i]? = if i ∈ vs ∧ i < σ.length then some none else σ[i]?
  | [], i => by simp [wipe]
  | v :: vs, i => by
    unfold wipe
    by_cases hi : v = i
    · subst hi
      by_cases hl : v < σ.length
      · rw [List.getElem?_set_self (by rw [wipe_length]; exact hl), if_pos ⟨by simp, hl⟩]
      · rw [List.getElem?_eq_none (by rw [List.length_set, wipe_length]; omega), if_neg (fun z => hl z.2), List.getElem?_eq_none (by omega)]
    · rw [List.getElem?_set_ne hi, wipe_get σ vs i]
      have : (i ∈ v :: vs ∧ i < σ.length) ↔ (i ∈ vs ∧ i < σ.length) := by
        rw [List.mem_cons]
        constructor
        · rintro ⟨z | z, q⟩
          · exact absurd z.symm hi
          · exact ⟨z, q⟩
        · rintro ⟨z, q⟩
          exact ⟨.inr z, q⟩
      by_cases hc : i ∈ vs ∧ i < σ.length
      · rw [if_pos hc, if_pos (this.mpr hc)]
      · rw [if_neg hc, if_neg (fun z => hc (this.mp z))]
theorem wipe_back {σ σ2 : L2.St} {vs : List Nat} (hl : σ2.length = σ.length) (h : ∀ i, i ∉ vs → σ2[i]? = (wipe σ vs)[i]?) : wipe σ2 vs = wipe σ vs := by
  apply List.ext_getElem?
  intro i
  rw [wipe_get, wipe_get, hl]
  by_cases hc : i ∈ vs ∧ i < σ.length
  · rw [if_pos hc, if_pos hc]
  · rw [if_neg hc, if_neg hc]
    by_cases hi : i ∈ vs
    · have : ¬ i < σ.length := fun z => hc ⟨hi, z⟩
      rw [List.getElem?_eq_none (by omega), List.getElem?_eq_none (by omega)]
    · rw [h i hi, wipe_get, if_neg hc]
/-- one turn of a comprehension -/
def lcTurn (g : List D) (cf : Nat → List D → Sto → Res Rv) (env : Envr) (own : List Nat) (t : Tg) (c e : E) : D → Sto → Res (Option D) := fun d ρ => match asgT t d (wipeE env own) with
  | some env' => (ev g cf c env' ρ).nox.bind fun b ρ1 => if isNop c = true then (ev g cf e env' ρ1).nox.bind fun r ρ2 => if r.fl = .al then .no else .ok (some r.d) ρ2
    else match tru ρ1 b.d with
    | some true => (ev g cf e env' ρ1).nox.bind fun r ρ2 => if r.fl = .al then .no else .ok (some r.d) ρ2
    | some false => .ok none ρ1
    | none => .no
  | none => .no
theorem ev_lc {own : List Nat} {t : Tg} {it : Iw} {env : Envr} {ρ : Sto} : ev g cf (.lc own t it c e) env ρ = (evI g cf it true env ρ).bind fun ds ρ1 => if ds.length ≤ sizeLine then
      (lcLoop (lcTurn g cf env own t c e) ds ρ1).bind fun ys ρ2 => .ok ⟨.lst ys, .fr⟩ ρ2 else .no := by rfl
theorem nox_ok {α : Type} {r : Res α} {a : α} {ρ : Sto} (h : r.nox = .ok a ρ) : r = .ok a ρ := by
  cases r with
  | ok b ρ' => exact h
  | exc x ρ' => cases h
  | no => cases h
theorem bind_ok' {α β : Type} {r : Res α} {k : α → Sto → Res β} {b : β} {ρ' : Sto} (h : r.bind k = .ok b ρ') : ∃ a ρ1, r = .ok a ρ1 ∧ k a ρ1 = .ok b ρ' := by
  cases r with
  | ok a ρ1 => exact ⟨a, ρ1, rfl, h⟩
  | exc x ρ1 => cases h
  | no => cases h
theorem isNop_iff {c : E} : isNop c = true ↔ c = .nop := by
  cases c <;> simp [isNop]
theorem turn_ok {env : Envr} {own : List Nat} {t : Tg} {d : D} {ρ ρ5 : Sto} {o : Option D} (h : lcTurn g cf env own t c e d ρ = .ok o ρ5) :
    ∃ env' b ρ1, asgT t d (wipeE env own) = some env' ∧ ev g cf c env' ρ = .ok b ρ1 ∧
      (((c = .nop ∨ (c ≠ .nop ∧ tru ρ1 b.d = some true)) ∧ ∃ r, ev g cf e env' ρ1 = .ok r ρ5 ∧ r.fl ≠ .al ∧ o = some r.d) ∨ (c ≠ .nop ∧ tru ρ1 b.d = some false ∧ o = none ∧ ρ5 = ρ1)) := by
  unfold lcTurn at h
  split at h
  · rename_i env' ea
    obtain ⟨b, ρ1, e1, h1⟩ := bind_ok' h
    have e1 := nox_ok e1
    refine ⟨env', b, ρ1, ea, e1, ?_⟩
    have el : ∀ {h : ((ev g cf e env' ρ1).nox.bind fun r ρ2 => if r.fl = .al then Res.no else .ok (some r.d) ρ2) = .ok o ρ5}, ∃ r, ev g cf e env' ρ1 = .ok r ρ5 ∧ r.fl ≠ .al ∧ o = some r.d := by
      intro h
      obtain ⟨r, ρ2, e2, h2⟩ := bind_ok' h
      have e2 := nox_ok e2
      split at h2
      · cases h2
      · rename_i hn
        cases h2
        exact ⟨r, e2, hn, rfl⟩
    split at h1
    · rename_i hn
      exact .inl ⟨.inl (isNop_iff.mp hn), el (h := h1)⟩
    · rename_i hn
      have hne : c ≠ .nop := fun z => hn (isNop_iff.mpr z)
      split at h1
      · rename_i ht
        exact .inl ⟨.inr ⟨hne, ht⟩, el (h := h1)⟩
      · rename_i ht
        cases h1
        exact .inr ⟨hne, ht, rfl, rfl⟩
      · cases h1
  · cases h
theorem nox_exc {α : Type} {r : Res α} {x : Xc} {ρ : Sto} : r.nox ≠ .exc x ρ := by
  cases r <;> exact fun h => nomatch h
theorem turn_exc {env : Envr} {own : List Nat} {t : Tg} {d : D} {ρ ρ5 : Sto} {x : Xc} : lcTurn g cf env own t c e d ρ ≠ .exc x ρ5 := by
  intro h
  unfold lcTurn at h
  have el : ∀ {env' ρ1}, ((ev g cf e env' ρ1).nox.bind fun r ρ2 => if r.fl = .al then Res.no else Res.ok (some r.d) ρ2) ≠ .exc x ρ5 := by
    intro env' ρ1 h
    cases e2 : (ev g cf e env' ρ1).nox with
    | ok r ρ2 => rw [e2, Res.bind_ok] at h; split at h <;> cases h
    | exc y ρ2 => exact nox_exc e2
    | no => rw [e2] at h; cases h
  split at h
  · rename_i env' ea
    cases e1 : (ev g cf c env' ρ).nox with
    | ok b ρ1 =>
      rw [e1, Res.bind_ok] at h
      split at h
      · exact el h
      · split at h
        · exact el h
        · cases h
        · cases h
    | exc y ρ2 => exact nox_exc e1
    | no => rw [e1] at h; cases h
  · cases h
/-- the wish of no exception -/
abbrev W0 : WX := fun _ _ _ _ => False
/-- the tests of a clause -/
def tIfs (K : PySem.W.Frag) (C : Nat → Addr) (g : List D) (cf : Nat → List D → Sto → Res Rv) (c : E) : TT := match c with
  | .nop => tYes
  | c => tT K C W0 (ev g cf c)
theorem tIfs_of {K : PySem.W.Frag} {w : Wd} {H : Hp} {ρ ρ1 : Sto} {env : Envr} {σ : L2.St} {b : Rv} {bb : Bool} {Q : Bool → Hp → Prop} (ok : WOk K w H ρ) (er : EnvR K w H env σ) (h : ev g cf c env ρ = .ok b ρ1)
    (ht : (c = .nop ∧ bb = true) ∨ (c ≠ .nop ∧ tru ρ1 b.d = some bb)) (q : ∀ w' H', Le w H w' H' → WOk K w' H' ρ1 → Q bb H') : tIfs K C g cf c σ H Q := by
  rcases ht with ⟨rfl, rfl⟩ | ⟨hne, ht⟩
  · have e : ρ1 = ρ := by
      have h : Res.ok ⟨.non, .sh⟩ ρ = Res.ok b ρ1 := h
      injection h with _ h2
      exact h2.symm
    subst e
    exact q w H Le.refl ok
  · have e : tIfs K C g cf c = tT K C W0 (ev g cf c) := by cases c <;> first | rfl | exact absurd rfl hne
    rw [e]
    refine ⟨w, env, ρ, ok, er, ?_⟩
    rw [h]
    exact fun w' H' l o => ⟨bb, ht, q w' H' l o⟩
theorem n_lc {own : List Nat} {ownL : List (Str × Nat)} {t : Tg} {it : Iw} {ifs : List Expr} {scope : Scope} {elt iter : Expr} (htg : ∀ i ∈ tgs t, i ∈ own) (hown : ownL.map (·.2) = own) :
    ∀ σ H Q, tE X.K C W (ev g cf (.lc own t it c e)) σ H Q → tLc (tI X.K C W true (evI g cf it true)) (gT X.K t) (tIfs X.K C g cf c) (tE X.K C W0 (ev g cf e)) (ownL.map (·.2)) σ H Q := by
  rintro σ H Q ⟨w, env, ρ, wok, er, h⟩
  rw [ev_lc] at h
  rw [hown]
  refine ⟨w, env, ρ, wok, er, Out.mono (Out.bind h) fun w1 H1 ds ρ1 l1 ok1 h1 w2 J l2 ok2 gs L hD => ?_⟩
  split at h1
  · rename_i hz
    obtain ⟨nF, nO, nm⟩ := ok2.new hD
    have er2 := (er.mono l1).mono l2
    have h2 := Out.le l2 h1
    -- the state at turn i
    refine ⟨fun i m H' => m = ds.length - i ∧ i ≤ ds.length ∧ ∃ w' ρ' yD vs, Le w2 H1 w' H' ∧ w'.O = w2.O ∧ WOk X.K w' H' ρ' ∧ H' L = some (.lst vs) ∧ Reps X.K w' H' yD vs ∧ ¬ w'.F L ∧ L ∉ w'.m ∧ yD.length ≤ i ∧
        Out X.K C w' H' ((lcLoop (lcTurn g cf env own t c e) (ds.drop i) ρ').bind fun ys ρ2 => .ok ⟨.lst (yD ++ ys), .fr⟩ ρ2) (fun w' H' r _ => ∀ v, RepR X.K w' H' r v → Q v H') (fun c d H' => W c d σ H'),
      ⟨ds.length, by omega, Nat.zero_le _, w2, ρ1, [], [], Le.upd nF nO, rfl, ok2.upd nF nO nm, upd_same, .nil, nF, nm, Nat.le_refl _, (by have z := Out.le (Le.upd (o := .lst []) nF nO) h2; exact z)⟩, ?_⟩
    rintro i m H' ⟨rfl, hi, w', ρ', yD, vs, l3, eO, ok3, hd3, r3, nF3, nm3, hy, h3⟩
    have nO3 : ¬ w'.O L := by rw [eO]; exact nO
    by_cases hlt : i < ds.length
    · have hdrop : ds.drop i = ds[i] :: ds.drop (i + 1) := List.drop_eq_getElem_cons hlt
      rw [hdrop] at h3
      unfold lcLoop at h3
      cases et : lcTurn g cf env own t c e ds[i] ρ' with
      | no => rw [et] at h3; exact False.elim h3
      | exc x ρ5 => exact absurd et turn_exc
      | ok o ρ5 =>
      rw [et, Res.bind_ok] at h3
      obtain ⟨env', b, ρ6, ea, ec, hcase⟩ := turn_ok et
      refine .inr ⟨gs.go i w' H' ρ' l3 ok3 hlt, fun H'' => (fun m H' => m = ds.length - (i + 1) ∧ i + 1 ≤ ds.length ∧ ∃ w' ρ' yD vs, Le w2 H1 w' H' ∧ w'.O = w2.O ∧ WOk X.K w' H' ρ' ∧ H' L = some (.lst vs) ∧ Reps X.K w' H' yD vs ∧ ¬ w'.F L ∧ L ∉ w'.m ∧ yD.length ≤ i + 1 ∧
        Out X.K C w' H' ((lcLoop (lcTurn g cf env own t c e) (ds.drop (i + 1)) ρ').bind fun ys ρ2 => .ok ⟨.lst (yD ++ ys), .fr⟩ ρ2) (fun w' H' r _ => ∀ v, RepR X.K w' H' r v → Q v H') (fun c d H' => W c d σ H')) (ds.length - (i + 1)) H'', fun H'' q => ⟨ds.length - (i + 1), by omega, q⟩, fun x H4 y => ?_⟩
      -- the list that is made is another's from here to the turn's end
      have okD : WOk X.K (w'.res (· = L)) H' ρ' := ok3.res (fun b z => by rw [z]; exact ⟨_, hd3⟩) (fun b z => by rw [z]; exact nF3) (fun b z => by rw [z]; exact nm3)
      have lD : Le w2 H1 (w'.res (· = L)) H' := l3.trans Le.res
      obtain ⟨w4, l4, ok4, rx⟩ := gs.yld i (w'.res (· = L)) H' x H4 ρ' ds[i] lD okD (List.getElem?_eq_getElem hlt) y
      have er4 : EnvR X.K w4 H4 (wipeE env own) (wipe σ own) := wipe_env (er2.mono (lD.trans l4)) own
      -- behind the turn
      have back : ∀ {w5 : Wd} {H5 : Hp}, Le w4 H4 w5 H5 → WOk X.K w5 H5 ρ5 → H5 L = some (.lst vs) ∧ ¬ w5.F L ∧ L ∉ w5.m ∧ Le w2 H1 (w5.unres w2.O) H5 ∧ Le w' H' (w5.unres w2.O) H5 ∧ WOk X.K (w5.unres w2.O) H5 ρ5 ∧ Reps X.K (w5.unres w2.O) H5 yD vs := by
        intro w5 H5 l5 ok5
        have lall : Le (w'.res (· = L)) H' w5 H5 := l4.trans l5
        have hO : w5.O L := lall.O L (.inr rfl)
        have h5 : H5 L = some (.lst vs) := by rw [lall.keep L (.inr (.inr rfl))]; exact hd3
        have nF5 : ¬ w5.F L := fun z => ok5.fo L z hO
        have nm5 : L ∉ w5.m := fun z => (ok5.mf L z).2 hO
        have lw : Le w2 H1 w5 H5 := lD.trans lall
        refine ⟨h5, nF5, nm5, lw.unres fun a z => z, ⟨fun a z => lall.F a z, fun a z => by rw [← eO]; exact z, fun n a z => lall.m n a z, fun a z => lall.keep a (z.imp id .inl)⟩, ok5.unres fun a z => lw.O a z, ((r3.mono Le.res).mono lall).unres⟩
      refine ⟨w4, wipeE env own, ρ', ds[i], env', ok4, er4, rx, ea, fun σ' er' same => ⟨wipe_back (by rw [← er'.1, ← wipe_length σ own, ← er4.1]; exact (asg_length ea).symm ▸ rfl) (fun j hj => same j fun z => hj (htg j z)), ?_⟩⟩
      rcases hcase with ⟨hb, r, ee, nal, eo⟩ | ⟨hne, hf, eo, eρ⟩
      · refine tIfs_of (bb := true) ok4 er' ec (by
          rcases hb with hb | hb
          · exact .inl ⟨hb, rfl⟩
          · exact .inr hb) fun w5 H5 l5 ok5 => iteT ?_
        refine ⟨w5, env', ρ6, ok5, er'.mono l5, ?_⟩
        rw [ee]
        intro w6 H6 l6 ok6 v rv
        obtain ⟨w7, l7, ok7, _, pr⟩ := settle ok6 rv
        have rr : Rep X.K w7 H6 r.d v := pr nal
        obtain ⟨q1, q2, q3, q4, q5, q6, q7⟩ := back ((l5.trans l6).trans l7) ok7
        have uF : ¬ (w7.unres w2.O).F L := q2
        have uO : ¬ (w7.unres w2.O).O L := nO
        have lu : Le (w7.unres w2.O) H6 (w7.unres w2.O) (L2.upd H6 L (.lst (vs ++ [v]))) := Le.upd uF uO
        refine ⟨vs, q1, ?_, rfl, hlt, w7.unres w2.O, ρ5, yD ++ [r.d], vs ++ [v], q4.trans lu, rfl, q6.upd uF uO q3, upd_same, ((q7.mono lu).append (.cons (rr.unres.mono lu) .nil)), q2, q3, by rw [List.length_append]; show _ + 1 ≤ _; omega, ?_⟩
        · rw [← q7.length]
          exact Nat.lt_of_le_of_lt hy (Nat.lt_of_lt_of_le hlt hz)
        · subst eo
          have h4 := Out.le (q5.trans lu) h3
          have e1 : ∀ (f : List D → Sto → Res Rv) (l : Res (List D)), ((l.bind fun ys ρ2 => Res.ok ((some r.d).toList ++ ys) ρ2).bind f) = l.bind fun ys ρ2 => f (r.d :: ys) ρ2 := fun f l => by cases l <;> rfl
          rw [e1] at h4
          simpa [List.append_assoc] using h4
      · refine tIfs_of (bb := false) ok4 er' ec (.inr ⟨hne, hf⟩) fun w5 H5 l5 ok5 => iteF ?_
        subst eρ
        obtain ⟨q1, q2, q3, q4, q5, q6, q7⟩ := back l5 ok5
        refine ⟨rfl, hlt, w5.unres w2.O, ρ5, yD, vs, q4, rfl, q6, q1, q7, q2, q3, by omega, ?_⟩
        subst eo
        have h4 := Out.le q5 h3
        have e1 : ∀ (f : List D → Sto → Res Rv) (l : Res (List D)), ((l.bind fun ys ρ2 => Res.ok ((none : Option D).toList ++ ys) ρ2).bind f) = l.bind f := fun f l => by cases l <;> rfl
        rw [e1] at h4
        exact h4
    · have e : i = ds.length := by omega
      subst e
      refine .inl ⟨gs.stop _ w' H' ρ' l3 ok3 (Nat.le_refl _), ?_⟩
      rw [List.drop_length] at h3
      unfold lcLoop at h3
      rw [Res.bind_ok, List.append_nil] at h3
      exact h3 w' H' Le.refl ok3 _ ⟨L, yD, vs, rfl, rfl, by omega, hd3, r3, nF3, nO3, nm3⟩
  · exact False.elim h1
end
end Ev
end

section
set_option Elab.async false
set_option linter.all false
set_option maxRecDepth 100000
set_option maxHeartbeats 4000000
/-! expressions: the whole -/
namespace Ev
open PySem PySem.Spec PyProof.Rows L2
section
variable {T : Tabs} {g : List D} {cf : Nat → List D → Sto → Res Rv} {C : Nat → Addr} {n : Nat} {N : List Str}
theorem chkEs_star : ∀ {es : Es} {sc : Scope} {xs : List Expr}, chkEs T N es sc xs = true → xs.all notStar = true ∧ es.len = xs.length
  | .nil, sc, [], _ => ⟨rfl, rfl⟩
  | .nil, sc, _ :: _, h => by unfold chkEs at h; cases h
  | .cons e r, sc, [], h => by unfold chkEs at h; cases h
  | .cons e r, sc, x :: xs, h => by
    unfold chkEs at h
    simp only [Bool.and_eq_true] at h
    obtain ⟨a, b⟩ := chkEs_star h.2
    refine ⟨by rw [List.all_cons, h.1.1, a]; rfl, ?_⟩
    show _ + 1 = _ + 1
    rw [b]
theorem bt_of {X : Cx} {sc : Scope} {x : Str} (hs : X.env.scope = sc) (h : isBt T sc x = true) : x ∈ T.bn ∧ Gl X x ∧ okNm x = true := by
  unfold isBt at h
  simp only [Bool.and_eq_true, decide_eq_true_eq] at h
  exact ⟨h.2, gl_of hs h.1.1, h.1.2⟩
theorem ownN_ok {own : List Nat} : ∀ {l : List (Str × Nat)}, ownN N own = some l → l.map (·.2) = own := by
  induction own with
  | nil => intro l h; cases h; rfl
  | cons i r ih =>
    intro l h
    unfold ownN at h
    split at h
    · rename_i x l' e1 e2
      cases h
      rw [List.map_cons, ih e2]
    · cases h
theorem Cok.blk {sc scope : Scope} {X : Cx} (c : Cok T g cf C n N sc X) (s : Shared) (H : Hp) (L : Addr) (cl : List (Str × Addr)) (fp : List Addr) : Cok T g cf C n N (relS scope sc) (X.blk s H scope (compEnvC scope cl L X.env) fp) :=
  ⟨c.nd, c.N, by rw [← c.scp]; rfl, c.calm, c.room, c.fx⟩
theorem lo_blk {scope : Scope} {X : Cx} (s : Shared) (H : Hp) (L : Addr) (cl : List (Str × Addr)) (fp : List Addr) : ∀ x, isLoc scope x = true → L2.Loc (X.blk s H scope (compEnvC scope cl L X.env) fp).env.scope x ∧ ((X.blk s H scope (compEnvC scope cl L X.env) fp).fn x = true ∨ (X.blk s H scope (compEnvC scope cl L X.env) fp).env.scope.names.lookup x = some .local) := by
  intro x h
  rcases loc_of h with q | q
  · have z : (X.blk s H scope (compEnvC scope cl L X.env) fp).env.scope.names.lookup x = some .local := lookup_relS_keep (by simp) q
    exact ⟨.inl z, .inr z⟩
  · have z : (X.blk s H scope (compEnvC scope cl L X.env) fp).env.scope.names.lookup x = some .cell := lookup_relS_keep (by simp) q
    exact ⟨.inr z, .inl (by show (scope.names.lookup x == some .cell) = true; rw [q]; rfl)⟩
abbrev isAO : Expr → Bool
  | .BoolOp .. => true
  | _ => false
mutual
theorem sE : ∀ (e : E) (sc : Scope) (ast : Expr), chkE T N e sc ast = true → ∀ (X : Cx) (W : WX), Cok T g cf C n N sc X → Takes X W → GE X g cf C W e ast
  | .bad, sc, ast, h, X, W, ck, tk => n_bad
  | .nop, sc, ast, h, X, W, ck, tk => by unfold chkE at h; cases h
  | .var i, sc, ast, h, X, W, ck, tk => by
    unfold chkE at h
    split at h
    · simp only [Bool.and_eq_true, decide_eq_true_eq] at h
      exact n_var ck.N h.1.1 (by rw [ck.scp]; exact vis_of h.1.2) h.2
    · cases h
  | .con d, sc, ast, h, X, W, ck, tk => by
    unfold chkE at h
    split at h
    · exact n_con h
    · cases h
  | .glb k, sc, ast, h, X, W, ck, tk => by
    unfold chkE at h
    split at h
    · simp only [Bool.and_eq_true, decide_eq_true_eq] at h
      exact n_glb ck.fx h.1.1 (gl_of ck.scp h.1.2) h.2
    · cases h
  | .bin o a b, sc, ast, h, X, W, ck, tk => by
    unfold chkE at h
    split at h
    · simp only [Bool.and_eq_true] at h
      have e := op_of h.1.1
      subst e
      exact n_bin (sE a sc _ h.1.2 X W ck tk) (sE b sc _ h.2 X W ck tk)
    · cases h
  | .neg a, sc, ast, h, X, W, ck, tk => by
    unfold chkE at h
    split at h
    · exact n_neg (sE a sc _ h X W ck tk)
    · cases h
  | .not a, sc, ast, h, X, W, ck, tk => by
    unfold chkE at h
    split at h
    · exact n_not (sE a sc _ h X W ck tk)
    · cases h
  | .cmp o a b, sc, ast, h, X, W, ck, tk => by
    unfold chkE at h
    split at h
    · simp only [Bool.and_eq_true] at h
      have e := co_of h.1.1.1
      subst e
      exact n_cmp ck.room h.1.1.2 (sE a sc _ h.1.2 X W ck tk) (sE b sc _ h.2 X W ck tk)
    · cases h
  | .chn o p a b c, sc, ast, h, X, W, ck, tk => by
    unfold chkE at h
    split at h
    · simp only [Bool.and_eq_true] at h
      have e := co_of h.1.1.1.1.1
      have e2 := co_of h.1.1.1.1.2
      subst e
      subst e2
      exact n_chn ck.room h.1.1.1.2 (sE a sc _ h.1.1.2 X W ck tk) (sE b sc _ h.1.2 X W ck tk) (sE c sc _ h.2 X W ck tk)
    · cases h
  | .and a b, sc, ast, h, X, W, ck, tk => by
    unfold chkE at h
    split at h
    · rename_i x y r pos
      simp only [Bool.and_eq_true] at h
      refine n_and (sE a sc _ h.1 X W ck tk) ?_
      have h2 := h.2
      split at h2
      · exact pe_one (sE b sc _ h2 X W ck tk)
      · exact sE b sc _ h2 X W ck tk
    · cases h
  | .or a b, sc, ast, h, X, W, ck, tk => by
    unfold chkE at h
    split at h
    · rename_i x y r pos
      simp only [Bool.and_eq_true] at h
      refine n_or (sE a sc _ h.1 X W ck tk) ?_
      have h2 := h.2
      split at h2
      · exact pe_one (sE b sc _ h2 X W ck tk)
      · exact sE b sc _ h2 X W ck tk
    · cases h
  | .ite c a b, sc, ast, h, X, W, ck, tk => by
    unfold chkE at h
    split at h
    · simp only [Bool.and_eq_true] at h
      exact n_ite (sT c sc _ h.1.1 X W ck tk).1 (sE a sc _ h.1.2 X W ck tk) (sE b sc _ h.2 X W ck tk)
    · cases h
  | .tup es, sc, ast, h, X, W, ck, tk => by
    unfold chkE at h
    split at h
    · exact n_tup (sEs es sc _ h X W ck tk)
    · cases h
  | .lst es, sc, ast, h, X, W, ck, tk => by
    unfold chkE at h
    split at h
    · exact n_lst (sEs es sc _ h X W ck tk)
    · cases h
  | .ix a i, sc, ast, h, X, W, ck, tk => by
    unfold chkE at h
    split at h
    · simp only [Bool.and_eq_true] at h
      exact n_ix (plainIx_of h.1.1) (sE a sc _ h.1.2 X W ck tk) (sE i sc _ h.2 X W ck tk)
    · cases h
  | .sl a lo hi, sc, ast, h, X, W, ck, tk => by
    unfold chkE at h
    split at h
    · rename_i x l hh p2 pos
      simp only [Bool.and_eq_true] at h
      have hl : GP X g cf C W lo l := by
        have h2 := h.1.2
        split at h2
        · have e := isNop_iff.mp h2
          rw [e]
          exact p_none
        · simp only [Bool.and_eq_true] at h2
          exact p_some (sE lo sc _ h2.2 X W ck tk)
      have hr : GP X g cf C W hi hh := by
        have h2 := h.2
        split at h2
        · have e := isNop_iff.mp h2
          rw [e]
          exact p_none
        · simp only [Bool.and_eq_true] at h2
          exact p_some (sE hi sc _ h2.2 X W ck tk)
      exact n_sl (sE a sc _ h.1.1 X W ck tk) hl hr
    · cases h
  | .call f es, sc, ast, h, X, W, ck, tk => by
    unfold chkE at h
    split at h
    · rename_i x p xs pos
      simp only [Bool.and_eq_true] at h
      obtain ⟨⟨⟨⟨h1, h2⟩, h3⟩, h4⟩, h5⟩ := h
      cases hf : T.dn[f]? with
      | none => rw [hf] at h1; cases h1
      | some yp =>
        obtain ⟨y, ps⟩ := yp
        rw [hf] at h1
        simp only [Bool.and_eq_true, decide_eq_true_eq, beq_iff_eq] at h1
        obtain ⟨e1, e2⟩ := h1
        subst e1
        cases xs with
        | nil => cases h2
        | cons x0 xs => exact n_call ck.room ck.fx tk hf e2 (gl_of ck.scp h3) h4 (chkEs_star h5).1 (sEs es sc _ h5 X W ck tk)
    · cases h
  | .callk f pm es ks, sc, ast, h, X, W, ck, tk => by
    unfold chkE at h
    split at h
    · rename_i x p xs kws pos
      simp only [Bool.and_eq_true] at h
      obtain ⟨⟨⟨⟨h1, h2⟩, h3⟩, h4⟩, h5⟩ := h
      cases hf : T.dn[f]? with
      | none => rw [hf] at h1; cases h1
      | some yp =>
        obtain ⟨y, ps⟩ := yp
        cases hk : kwNms kws with
        | none => rw [hf, hk] at h1; cases h1
        | some ns =>
          rw [hf, hk] at h1
          simp only [Bool.and_eq_true, decide_eq_true_eq, beq_iff_eq] at h1
          obtain ⟨⟨⟨e1, e2⟩, e3⟩, e4⟩ := h1
          subst e1
          obtain ⟨q1, q2⟩ := chkEs_star h4
          exact n_callk ck.room ck.fx tk hf e2 hk e3 e4 q2 (gl_of ck.scp h2) h3 q1 (sEs es sc _ h4 X W ck tk) (sKs ks sc kws h5 X W ck tk)
    · cases h
  | .bi b es, sc, ast, h, X, W, ck, tk => by
    unfold chkE at h
    split at h
    · rename_i x p xs pos
      simp only [Bool.and_eq_true] at h
      obtain ⟨⟨⟨h1, h2⟩, h3⟩, h4⟩ := h
      have h1 := of_decide_eq_true h1
      cases xs with
      | nil => cases h3
      | cons x0 xs =>
        have q : Gl X x ∧ okNm x = true ∧ (match biOf b with | .glo id y => decide ((y, id) ∈ T.gl) && decide (x = Str.ofString y) | _ => decide (x ∈ T.bn)) = true := by
          cases hb : biOf b with
          | blt s => rw [hb] at h2; obtain ⟨a1, a2, a3⟩ := bt_of ck.scp h2; exact ⟨a2, a3, decide_eq_true a1⟩
          | ty s => rw [hb] at h2; obtain ⟨a1, a2, a3⟩ := bt_of ck.scp h2; exact ⟨a2, a3, decide_eq_true a1⟩
          | glo id y =>
            rw [hb] at h2
            simp only [Bool.and_eq_true] at h2
            exact ⟨gl_of ck.scp h2.1.1.1, h2.1.1.2, by simp only [Bool.and_eq_true]; exact ⟨h2.1.2, h2.2⟩⟩
        exact n_bi ck.calm ck.fx h1 q.1 q.2.1 q.2.2 (chkEs_star h4).1 (sEs es sc _ h4 X W ck tk)
    · cases h
  | .bi1 b a, sc, ast, h, X, W, ck, tk => by
    unfold chkE at h
    split at h
    · rename_i x p y pos
      simp only [Bool.and_eq_true] at h
      obtain ⟨⟨⟨h1, h2⟩, h3⟩, h4⟩ := h
      have h1 := of_decide_eq_true h1
      have q : Gl X x ∧ okNm x = true ∧ (match biOf b with | .glo id y => decide ((y, id) ∈ T.gl) && decide (x = Str.ofString y) | _ => decide (x ∈ T.bn)) = true := by
        cases hb : biOf b with
        | blt s => rw [hb] at h2; obtain ⟨a1, a2, a3⟩ := bt_of ck.scp h2; exact ⟨a2, a3, decide_eq_true a1⟩
        | ty s => rw [hb] at h2; obtain ⟨a1, a2, a3⟩ := bt_of ck.scp h2; exact ⟨a2, a3, decide_eq_true a1⟩
        | glo id y =>
          rw [hb] at h2
          simp only [Bool.and_eq_true] at h2
          exact ⟨gl_of ck.scp h2.1.1.1, h2.1.1.2, by simp only [Bool.and_eq_true]; exact ⟨h2.1.2, h2.2⟩⟩
      exact n_bi1 ck.calm ck.fx h1 q.1 q.2.1 q.2.2 h3 (sE a sc _ h4 X W ck tk)
    · cases h
  | .isi a t, sc, ast, h, X, W, ck, tk => by
    unfold chkE at h
    split at h
    · simp only [Bool.and_eq_true, decide_eq_true_eq] at h
      obtain ⟨⟨⟨⟨⟨⟨h1, h2⟩, h3⟩, h4⟩, h5⟩, h6⟩, h7⟩ := h
      obtain ⟨a1, a2, _⟩ := bt_of ck.scp h2
      obtain ⟨b1, b2, _⟩ := bt_of ck.scp h5
      exact n_isi ck.calm ck.fx h1 a1 a2 h3 h4 b1 b2 h6 (sE a sc _ h7 X W ck tk)
    · cases h
  | .me _ _, sc, ast, h, X, W, ck, tk => by unfold chkE at h; cases h
  | .pop a, sc, ast, h, X, W, ck, tk => by
    unfold chkE at h
    split at h
    · simp only [Bool.and_eq_true, decide_eq_true_eq] at h
      obtain ⟨⟨h1, h2⟩, h3⟩ := h
      subst h1
      exact n_pop h2 (sE a sc _ h3 X W ck tk)
    · cases h
  | .lc own t it c e, sc, ast, h, X, W, ck, tk => by
    unfold chkE at h
    split at h
    · rename_i elt tg iter ifs scope pos
      simp only [Bool.and_eq_true] at h
      obtain ⟨⟨⟨⟨⟨⟨h1, h2⟩, h3⟩, h4⟩, h5⟩, h6⟩, h7⟩ := h
      cases ho : ownN N own with
      | none => rw [ho] at h1; cases h1
      | some l =>
        rw [ho] at h1
        have hown := ownN_ok ho
        have ok : BlkOk X.N X.env.scope scope l := by rw [ck.N, ck.scp]; exact blkOk_by h1
        have htg : ∀ i ∈ tgs t, i ∈ own := fun i hi => by
          have := List.all_eq_true.mp h2 i hi
          simpa using this
        have cb := fun s H L cl fp => ck.blk (scope := scope) s H L cl fp
        have ht : ∀ (s : Shared) (H : Hp) (L : Addr) (cl : List (Str × Addr)) (fp : List Addr), PTs (X.blk s H scope (compEnvC scope cl L X.env) fp) ifs (tIfs X.K C g cf c) := by
          intro s H L cl fp
          split at h6
          · rw [isNop_iff.mp h6]; exact pts_nil
          · simp only [Bool.and_eq_true, Bool.not_eq_true'] at h6
            have hne : c ≠ .nop := fun z => by rw [z] at h6; cases h6.1
            have e : tIfs X.K C g cf c = tT X.K C W0 (ev g cf c) := by cases c <;> first | rfl | exact absurd rfl hne
            rw [e]
            exact pts_one (sT c (relS scope sc) _ h6.2 _ W0 (cb s H L cl fp) takes0).1
          · cases h6
        exact (pe_lc ck.calm (by rw [ck.N]; exact ck.nd) (sI it true sc tg iter h5 X W ck tk) ok
          (fun s H L cl fp => sTg (cb s H L cl fp).nd (cb s H L cl fp).N (cb s H L cl fp).calm (lo_blk s H L cl fp) t tg h4) ht
          (fun s H L cl fp => sE e (relS scope sc) elt h7 _ W0 (cb s H L cl fp) takes0) (set_of h3 _)).conv (n_lc (ifs := ifs) (scope := scope) (elt := elt) (iter := iter) htg hown)
    · cases h
theorem sT : ∀ (e : E) (sc : Scope) (ast : Expr), chkE T N e sc ast = true → ∀ (X : Cx) (W : WX), Cok T g cf C n N sc X → Takes X W → GT X g cf C W e ast ∧ (isAO ast = true → GW X g cf C W e ast)
  | .bad, sc, ast, h, X, W, ck, tk => by
    have z : GW X g cf C W .bad ast := .never fun σ H Q ⟨w, env, ρ, _, _, h⟩ => h
    exact ⟨z.pt, fun _ => z⟩
  | .not a, sc, ast, h, X, W, ck, tk => by
    unfold chkE at h
    split at h
    · exact ⟨t_not (sT a sc _ h X W ck tk).1, fun z => nomatch z⟩
    · cases h
  | .cmp o a b, sc, ast, h, X, W, ck, tk => by
    unfold chkE at h
    split at h
    · simp only [Bool.and_eq_true] at h
      have e := co_of h.1.1.1
      subst e
      exact ⟨t_cmp ck.room h.1.1.2 (sE a sc _ h.1.2 X W ck tk) (sE b sc _ h.2 X W ck tk), fun z => nomatch z⟩
    · cases h
  | .chn o p a b c, sc, ast, h, X, W, ck, tk => by
    unfold chkE at h
    split at h
    · simp only [Bool.and_eq_true] at h
      have e := co_of h.1.1.1.1.1
      have e2 := co_of h.1.1.1.1.2
      subst e
      subst e2
      exact ⟨t_chn ck.room h.1.1.1.2 (sE a sc _ h.1.1.2 X W ck tk) (sE b sc _ h.1.2 X W ck tk) (sE c sc _ h.2 X W ck tk), fun z => nomatch z⟩
    · cases h
  | .and a b, sc, ast, h, X, W, ck, tk => by
    unfold chkE at h
    split at h
    · rename_i x y r pos
      simp only [Bool.and_eq_true] at h
      have z : GW X g cf C W (.and a b) (.BoolOp .And (x :: y :: r) pos) := by
        refine w_and (sT a sc _ h.1 X W ck tk).1 ?_
        have h2 := h.2
        split at h2
        · exact pw_and1 (sT b sc _ h2 X W ck tk).1
        · exact (sT b sc _ h2 X W ck tk).2 rfl
      exact ⟨z.pt, fun _ => z⟩
    · cases h
  | .or a b, sc, ast, h, X, W, ck, tk => by
    unfold chkE at h
    split at h
    · rename_i x y r pos
      simp only [Bool.and_eq_true] at h
      have z : GW X g cf C W (.or a b) (.BoolOp .Or (x :: y :: r) pos) := by
        refine w_or (sT a sc _ h.1 X W ck tk).1 ?_
        have h2 := h.2
        split at h2
        · exact pw_or1 (sT b sc _ h2 X W ck tk).1
        · exact (sT b sc _ h2 X W ck tk).2 rfl
      exact ⟨z.pt, fun _ => z⟩
    · cases h
  | .nop, sc, ast, h, X, W, ck, tk => by unfold chkE at h; cases h
  | .var i, sc, ast, h, X, W, ck, tk => by
    have z := sE (.var i) sc ast h X W ck tk
    unfold chkE at h
    split at h
    · exact ⟨t_plain rfl z, fun z => nomatch z⟩
    · cases h
  | .con d, sc, ast, h, X, W, ck, tk => by
    have z := sE (.con d) sc ast h X W ck tk
    unfold chkE at h
    split at h
    · exact ⟨t_plain rfl z, fun z => nomatch z⟩
    · cases h
  | .glb k, sc, ast, h, X, W, ck, tk => by
    have z := sE (.glb k) sc ast h X W ck tk
    unfold chkE at h
    split at h
    · exact ⟨t_plain rfl z, fun z => nomatch z⟩
    · cases h
  | .bin o a b, sc, ast, h, X, W, ck, tk => by
    have z := sE (.bin o a b) sc ast h X W ck tk
    unfold chkE at h
    split at h
    · exact ⟨t_plain rfl z, fun z => nomatch z⟩
    · cases h
  | .neg a, sc, ast, h, X, W, ck, tk => by
    have z := sE (.neg a) sc ast h X W ck tk
    unfold chkE at h
    split at h
    · exact ⟨t_plain rfl z, fun z => nomatch z⟩
    · cases h
  | .ite c a b, sc, ast, h, X, W, ck, tk => by
    unfold chkE at h
    split at h
    · simp only [Bool.and_eq_true] at h
      exact ⟨t_ite (sT c sc _ h.1.1 X W ck tk).1 (sT a sc _ h.1.2 X W ck tk).1 (sT b sc _ h.2 X W ck tk).1, fun z => nomatch z⟩
    · cases h
  | .tup es, sc, ast, h, X, W, ck, tk => by
    have z := sE (.tup es) sc ast h X W ck tk
    unfold chkE at h
    split at h
    · exact ⟨t_plain rfl z, fun z => nomatch z⟩
    · cases h
  | .lst es, sc, ast, h, X, W, ck, tk => by
    have z := sE (.lst es) sc ast h X W ck tk
    unfold chkE at h
    split at h
    · exact ⟨t_plain rfl z, fun z => nomatch z⟩
    · cases h
  | .ix a i, sc, ast, h, X, W, ck, tk => by
    have z := sE (.ix a i) sc ast h X W ck tk
    unfold chkE at h
    split at h
    · exact ⟨t_plain rfl z, fun z => nomatch z⟩
    · cases h
  | .sl a lo hi, sc, ast, h, X, W, ck, tk => by
    have z := sE (.sl a lo hi) sc ast h X W ck tk
    unfold chkE at h
    split at h
    · exact ⟨t_plain rfl z, fun z => nomatch z⟩
    · cases h
  | .call f es, sc, ast, h, X, W, ck, tk => by
    have z := sE (.call f es) sc ast h X W ck tk
    unfold chkE at h
    split at h
    · exact ⟨t_plain rfl z, fun z => nomatch z⟩
    · cases h
  | .callk f pm es ks, sc, ast, h, X, W, ck, tk => by
    have z := sE (.callk f pm es ks) sc ast h X W ck tk
    unfold chkE at h
    split at h
    · exact ⟨t_plain rfl z, fun z => nomatch z⟩
    · cases h
  | .bi b es, sc, ast, h, X, W, ck, tk => by
    have z := sE (.bi b es) sc ast h X W ck tk
    unfold chkE at h
    split at h
    · exact ⟨t_plain rfl z, fun z => nomatch z⟩
    · cases h
  | .bi1 b a, sc, ast, h, X, W, ck, tk => by
    have z := sE (.bi1 b a) sc ast h X W ck tk
    unfold chkE at h
    split at h
    · exact ⟨t_plain rfl z, fun z => nomatch z⟩
    · cases h
  | .isi a t, sc, ast, h, X, W, ck, tk => by
    have z := sE (.isi a t) sc ast h X W ck tk
    unfold chkE at h
    split at h
    · exact ⟨t_plain rfl z, fun z => nomatch z⟩
    · cases h
  | .me _ _, sc, ast, h, X, W, ck, tk => by unfold chkE at h; cases h
  | .pop a, sc, ast, h, X, W, ck, tk => by
    have z := sE (.pop a) sc ast h X W ck tk
    unfold chkE at h
    split at h
    · exact ⟨t_plain rfl z, fun z => nomatch z⟩
    · cases h
  | .lc own t it c e, sc, ast, h, X, W, ck, tk => by
    have z := sE (.lc own t it c e) sc ast h X W ck tk
    unfold chkE at h
    split at h
    · exact ⟨t_plain rfl z, fun z => nomatch z⟩
    · cases h
theorem sEs : ∀ (es : Es) (sc : Scope) (xs : List Expr), chkEs T N es sc xs = true → ∀ (X : Cx) (W : WX), Cok T g cf C n N sc X → Takes X W → GA X g cf C W es xs
  | .nil, sc, xs, h, X, W, ck, tk => by
    cases xs with
    | nil => exact a_nil
    | cons x xs => unfold chkEs at h; cases h
  | .cons e r, sc, xs, h, X, W, ck, tk => by
    cases xs with
    | nil => unfold chkEs at h; cases h
    | cons x xs =>
      unfold chkEs at h
      simp only [Bool.and_eq_true] at h
      exact a_cons h.1.1 (sE e sc _ h.1.2 X W ck tk) (sEs r sc _ h.2 X W ck tk)
theorem sKs : ∀ (es : Es) (sc : Scope) (kws : List Keyword), chkEs T N es sc (kws.map (·.value)) = true → ∀ (X : Cx) (W : WX), Cok T g cf C n N sc X → Takes X W → GK X g cf C W es kws
  | .nil, sc, kws, h, X, W, ck, tk => by
    cases kws with
    | nil => exact k_nil
    | cons x xs => unfold chkEs at h; cases h
  | .cons e r, sc, kws, h, X, W, ck, tk => by
    cases kws with
    | nil => unfold chkEs at h; cases h
    | cons x xs =>
      obtain ⟨nm, x, kp⟩ := x
      rw [List.map_cons] at h
      unfold chkEs at h
      simp only [Bool.and_eq_true] at h
      exact k_cons (sE e sc _ h.1.2 X W ck tk) (sKs r sc _ h.2 X W ck tk)
theorem sI : ∀ (it : Iw) (al : Bool) (sc : Scope) (tg ast : Expr), chkI T N it sc tg ast = true → ∀ (X : Cx) (W : WX), Cok T g cf C n N sc X → Takes X W → GI X g cf C W al it tg ast
  | .over e, al, sc, tg, ast, h, X, W, ck, tk => by
    unfold chkI at h
    exact i_over al (sE e sc _ h X W ck tk)
  | .rng es, al, sc, tg, ast, h, X, W, ck, tk => by
    unfold chkI at h
    split at h
    · simp only [Bool.and_eq_true, decide_eq_true_eq] at h
      obtain ⟨⟨⟨h1, h2⟩, h3⟩, h4⟩ := h
      obtain ⟨a1, a2, _⟩ := bt_of ck.scp h2
      obtain ⟨q1, q2⟩ := chkEs_star h3
      exact n_rng al ck.fx h1 a1 a2 q1 h4 q2 (sEs es sc _ h3 X W ck tk)
    · cases h
  | .enum es, al, sc, tg, ast, h, X, W, ck, tk => by
    unfold chkI at h
    split at h
    · simp only [Bool.and_eq_true, decide_eq_true_eq] at h
      obtain ⟨⟨h1, h2⟩, h3⟩ := h
      obtain ⟨a1, a2, _⟩ := bt_of ck.scp h2
      obtain ⟨q1, q2⟩ := chkEs_star h3
      exact n_enum al ck.fx h1 a1 a2 (by simpa using q1) (sEs es sc _ h3 X W ck tk)
    · cases h
  | .zip es, al, sc, tg, ast, h, X, W, ck, tk => by
    unfold chkI at h
    split at h
    · simp only [Bool.and_eq_true, decide_eq_true_eq] at h
      obtain ⟨⟨h1, h2⟩, h3⟩ := h
      obtain ⟨a1, a2, _⟩ := bt_of ck.scp h2
      obtain ⟨q1, q2⟩ := chkEs_star h3
      rw [List.all_cons, List.all_cons, Bool.and_eq_true, Bool.and_eq_true] at q1
      exact n_zip al ck.fx h1 a1 a2 q1.1 q1.2.1 (sEs es sc _ h3 X W ck tk)
    · cases h
end
end
end Ev
end

section
set_option Elab.async false
set_option linter.all false
set_option maxRecDepth 100000
set_option maxHeartbeats 4000000
/-! statements: the language, its reckoner, its worlds -/
namespace Ev
open PySem PySem.Spec PyProof.Rows L2

/-- what an except clause does -/
inductive Hb where
  | set (i : Nat) (d : D)
  | ret (d : D)
  | pas
inductive SR where
  | nx (env : Envr) (ρ : Sto)
  | rt (r : Rv) (ρ : Sto)
  | bk (env : Envr) (ρ : Sto)
  | ct (env : Envr) (ρ : Sto)
  | exc (x : Xc) (env : Envr) (ρ : Sto)
  | no
mutual
inductive S
  | bad
  | asg (i : Nat) (e : E)
  | tgt (t : Tg) (e : E)
  | par (i j : Nat) (a b : E)
  | exp (e : E)
  | ret (e : E)
  | retv (i : Nat)
  | retN
  | ifs (c : E) (a b : Ss)
  | for_ (t : Tg) (it : Iw) (b : Ss)
  | whi (c : E) (b : Ss)
  | rai (k : Nat) (e : E)
  | tri (b : Ss) (hs : List (Nat × Hb))
  | pas
  | brk
  | cnt
  | app (i : Nat) (e : E)
  | rev (i : Nat)
inductive Ss
  | bad
  | nil
  | cons (s : S) (r : Ss)
  | frz (i : Nat) (r : Ss)
  | prm (i : Nat) (r : Ss)
end
def ofR {α : Type} (r : Res α) (env : Envr) (k : α → Sto → SR) : SR := match r with
  | .ok a ρ => k a ρ
  | .exc x ρ => .exc x env ρ
  | .no => .no
def SR.next (r : SR) (k : Envr → Sto → SR) : SR := match r with
  | .nx env ρ => k env ρ
  | .rt r ρ => .rt r ρ
  | .bk env ρ => .bk env ρ
  | .ct env ρ => .ct env ρ
  | .exc x env ρ => .exc x env ρ
  | .no => .no
def SR.turn (r : SR) (k : Envr → Sto → SR) : SR := match r with
  | .nx env ρ => k env ρ
  | .ct env ρ => k env ρ
  | .bk env ρ => .nx env ρ
  | .rt r ρ => .rt r ρ
  | .exc x env ρ => .exc x env ρ
  | .no => .no
def forLoop (t : Tg) (body : Envr → Sto → SR) : List D → Envr → Sto → SR
  | [], env, ρ => .nx env ρ
  | d :: r, env, ρ => match asgT t d env with
    | some env' => (body env' ρ).turn fun e2 ρ2 => forLoop t body r e2 ρ2
    | none => .no
def whiLoop (test : Envr → Sto → Res Rv) (body : Envr → Sto → SR) : Nat → Envr → Sto → SR
  | 0, _, _ => .no
  | n + 1, env, ρ => ofR (test env ρ) env fun x ρ1 => match tru ρ1 x.d with
    | some true => (body env ρ1).turn fun e2 ρ2 => whiLoop test body n e2 ρ2
    | some false => .nx env ρ1
    | none => .no
def hbR (h : Hb) (env : Envr) (ρ : Sto) : SR := match h with
  | .set i d => .nx (env.set i (some ⟨false, d⟩)) ρ
  | .ret d => .rt ⟨d, .sh⟩ ρ
  | .pas => .nx env ρ
def hndR (sb : Nat → Nat → Option Bool) (x : Xc) (env : Envr) (ρ : Sto) : List (Nat × Hb) → SR
  | [] => .exc x env ρ
  | (h, hb) :: r => match sb x.k h with
    | some true => hbR hb env ρ
    | some false => hndR sb x env ρ r
    | none => .no
def triR (sb : Nat → Nat → Option Bool) (hs : List (Nat × Hb)) (r : SR) : SR := match r with
  | .exc x env ρ => hndR sb x env ρ hs
  | .nx env ρ => .nx env ρ
  | .rt r ρ => .rt r ρ
  | .bk env ρ => .bk env ρ
  | .ct env ρ => .ct env ρ
  | .no => .no
def appR (i : Nat) (env : Envr) (ρ : Sto) (f : Envr → Sto → Res Rv) : SR := match env[i]? with
  | some (some ⟨true, .lst xs⟩) => ofR (f env ρ) env fun r ρ1 => if r.fl = .al then .no else if xs.length < sizeLine then .nx (env.set i (some ⟨true, .lst (xs ++ [r.d])⟩)) ρ1 else .no
  | some (some ⟨false, .loc n⟩) => match ρ[n]? with
    | some (.lst _) => ofR (f env ρ) env fun r ρ1 => if r.fl = .al then .no else match ρ1[n]? with
      | some (.lst xs) => if xs.length < sizeLine then .nx env (ρ1.set n (.lst (xs ++ [r.d]))) else .no
      | none => .no
    | none => .no
  | _ => .no
def revR (i : Nat) (env : Envr) (ρ : Sto) : SR := match env[i]? with
  | some (some ⟨true, .lst xs⟩) => .nx (env.set i (some ⟨true, .lst xs.reverse⟩)) ρ
  | _ => .no
def frzR (i : Nat) (env : Envr) : Envr := match env[i]? with
  | some (some ⟨true, d⟩) => env.set i (some ⟨false, d⟩)
  | _ => env
def prmR (i : Nat) (env : Envr) (ρ : Sto) : Envr × Sto := match env[i]? with
  | some (some ⟨true, .lst xs⟩) => (env.set i (some ⟨false, .loc ρ.length⟩), ρ ++ [.lst xs])
  | _ => (env, ρ)
def putR (i : Nat) (env : Envr) (r : Rv) : Envr := env.set i (some ⟨decide (r.fl = .fr), r.d⟩)
section
variable (g : List D) (cf : Nat → List D → Sto → Res Rv) (sb : Nat → Nat → Option Bool) (wl : Nat)
mutual
def exS : S → Envr → Sto → SR
  | .bad, _, _ => .no
  | .asg i e, env, ρ => ofR (ev g cf e env ρ) env fun r ρ1 => if r.fl = .al then .no else .nx (putR i env r) ρ1
  | .tgt t e, env, ρ => ofR (ev g cf e env ρ) env fun r ρ1 => if r.fl = .sh then (match asgT t r.d env with
    | some env' => .nx env' ρ1
    | none => .no) else .no
  | .par i j a b, env, ρ => ofR (ev g cf a env ρ) env fun x ρ1 => ofR (ev g cf b env ρ1) env fun y ρ2 => if x.fl = .al ∨ y.fl = .al then .no else .nx (putR j (putR i env x) y) ρ2
  | .exp e, env, ρ => ofR (ev g cf e env ρ) env fun _ ρ1 => .nx env ρ1
  | .ret e, env, ρ => ofR (ev g cf e env ρ) env fun r ρ1 => if r.fl = .al then .no else .rt r ρ1
  | .retv i, env, ρ => match env[i]? with
    | some (some s) => .rt ⟨s.d, if s.own then .fr else .sh⟩ ρ
    | _ => .no
  | .retN, env, ρ => .rt ⟨.non, .sh⟩ ρ
  | .ifs c a b, env, ρ => ofR (ev g cf c env ρ) env fun x ρ1 => match tru ρ1 x.d with
    | some true => exSs a env ρ1
    | some false => exSs b env ρ1
    | none => .no
  | .for_ t it b, env, ρ => ofR (evI g cf it false env ρ) env fun ds ρ1 => forLoop t (exSs b) ds env ρ1
  | .whi c b, env, ρ => whiLoop (ev g cf c) (exSs b) wl env ρ
  | .rai k e, env, ρ => ofR (ev g cf e env ρ) env fun _ ρ1 => .exc ⟨k, none⟩ env ρ1
  | .tri b hs, env, ρ => triR sb hs (exSs b env ρ)
  | .pas, env, ρ => .nx env ρ
  | .brk, env, ρ => .bk env ρ
  | .cnt, env, ρ => .ct env ρ
  | .app i e, env, ρ => appR i env ρ (ev g cf e)
  | .rev i, env, ρ => revR i env ρ
def exSs : Ss → Envr → Sto → SR
  | .bad, _, _ => .no
  | .nil, env, ρ => .nx env ρ
  | .cons s r, env, ρ => (exS s env ρ).next fun env' ρ' => exSs r env' ρ'
  | .frz i r, env, ρ => exSs r (frzR i env) ρ
  | .prm i r, env, ρ => exSs r (prmR i env ρ).1 (prmR i env ρ).2
end
end

/-! ### the check -/
def isComp : Expr → Bool
  | .ListComp .. => true
  | .SetComp .. => true
  | .DictComp .. => true
  | _ => false
def isLc : E → Bool
  | .lc .. => true
  | _ => false
def isFn (sc : Scope) : Bool := match sc.kind with
  | .function => true
  | _ => false
def isL (sc : Scope) (x : Str) : Bool := match sc.names.lookup x with
  | some .local => true
  | _ => false
/-- a pair stored from the right -/
def swp2 (sc : Scope) (x y : Str) (px py : Pos) (a b : Expr) : Bool :=
  isFn sc && isL sc x && isL sc y && !decide (x = y) && (py.line == px.line) && notStar a && notStar b && !(foldedForSure 8 a && foldedForSure 8 b) && !(constantsAlone 8 a && constantsAlone 8 b)
def isTupE : Expr → Bool
  | .Tuple .. => true
  | _ => false
/-- a tuple's targets stored from the left -/
def notL (sc : Scope) : Expr → Bool
  | .Name x _ => !isL sc x
  | _ => true
def noSwap (sc : Scope) (tg e : Expr) : Bool := match e with
  | .Tuple vs _ _ => (match tg with
    | .Tuple ts _ _ => isFn sc && (vs.all (foldedForSure 8) || ts.any (notL sc))
    | _ => true)
  | _ => true
def chkH (T : Tabs) (N : List Str) (sc : Scope) : List (Nat × Hb) → List ExceptHandler → Bool
  | [], [] => true
  | (h, hb) :: r, .ExceptHandler (some (.Name x _)) none [st] _ :: hds => decide (T.cn[h]? = some x) && isGl sc x && okNm x && (match hb with
      | .set i d => (match st with | .Assign [.Name y _] (.Constant c _ _) _ => decide (N[i]? = some y) && isLoc sc y && chkC d c | _ => false)
      | .ret d => (match st with | .Return (some (.Constant c _ _)) _ => chkC d c | _ => false)
      | .pas => (match st with | .Pass _ => true | _ => false)) && chkH T N sc r hds
  | _, _ => false
section
variable (T : Tabs) (N : List Str)
mutual
def chkS : S → Scope → Stmt → Bool
  | .bad, _, _ => true
  | .asg i e, sc, st => match st with
    | .Assign [.Name x _] y _ => decide (N[i]? = some x) && isLoc sc x && (isLc e || !isComp y) && chkE T N e sc y
    | _ => false
  | .tgt t e, sc, st => match st with
    | .Assign [tg] y _ => isTupE tg && noSwap sc tg y && chkTg N sc t tg && chkE T N e sc y
    | _ => false
  | .par i j a b, sc, st => match st with
    | .Assign [.Tuple [.Name x px, .Name y py] _ _] (.Tuple [v, w] _ _) _ => decide (N[i]? = some x) && decide (N[j]? = some y) && !(i == j) && swp2 sc x y px py v w && chkE T N a sc v && chkE T N b sc w
    | _ => false
  | .exp e, sc, st => match st with
    | .Expr y _ => !isComp y && chkE T N e sc y
    | _ => false
  | .ret e, sc, st => match st with
    | .Return (some y) _ => chkE T N e sc y
    | _ => false
  | .retv i, sc, st => match st with
    | .Return (some (.Name x _)) _ => decide (N[i]? = some x) && isVis sc x && okNm x
    | _ => false
  | .retN, sc, st => match st with
    | .Return none _ => true
    | _ => false
  | .ifs c a b, sc, st => match st with
    | .If t x y _ => chkE T N c sc t && chkSs a sc x && chkSs b sc y
    | _ => false
  | .for_ t it b, sc, st => match st with
    | .For tg iter body [] _ => notSet iter && chkTg N sc t tg && chkI T N it sc tg iter && chkSs b sc body
    | _ => false
  | .whi c b, sc, st => match st with
    | .While t body [] _ => chkE T N c sc t && chkSs b sc body
    | _ => false
  | .rai k e, sc, st => match st with
    | .Raise (some (.Call (.Name x _) [y] [] _)) none _ => decide (T.cn[k]? = some x) && isGl sc x && okNm x && notStar y && chkE T N e sc y
    | _ => false
  | .tri b hs, sc, st => match st with
    | .Try body (h :: hds) [] [] _ => chkSs b sc body && chkH T N sc hs (h :: hds)
    | _ => false
  | .pas, sc, st => match st with
    | .Pass _ => true
    | _ => false
  | .brk, sc, st => match st with
    | .Break _ => true
    | _ => false
  | .cnt, sc, st => match st with
    | .Continue _ => true
    | _ => false
  | .app i e, sc, st => match st with
    | .Expr (.Call (.Attribute (.Name x _) m ap) [y] [] cp) _ => decide (m = ("append" : Str)) && (ap.endLine == cp.line) && decide (N[i]? = some x) && isVis sc x && okNm x && notStar y && chkE T N e sc y
    | _ => false
  | .rev i, sc, st => match st with
    | .Expr (.Call (.Attribute (.Name x _) m ap) [] [] cp) _ => decide (m = ("reverse" : Str)) && (ap.endLine == cp.line) && decide (N[i]? = some x) && isVis sc x && okNm x
    | _ => false
def chkSs : Ss → Scope → List Stmt → Bool
  | .bad, _, _ => true
  | .nil, _, sts => match sts with
    | [] => true
    | _ => false
  | .cons s r, sc, sts => match sts with
    | st :: rest => chkS s sc st && chkSs r sc rest
    | _ => false
  | .frz _ r, sc, sts => chkSs r sc sts
  | .prm _ r, sc, sts => chkSs r sc sts
end
end

/-! ### the worlds -/
def OwnAt (env : Envr) (σ : L2.St) (i : Nat) (a : Addr) : Prop := (∃ d : D, env[i]? = some (some (Slot.mk true d))) ∧ σ[i]? = some (some (V.ref a))
def Own (env : Envr) (σ : L2.St) (a : Addr) : Prop := ∃ i, OwnAt env σ i a
structure SEnv (K : PySem.W.Frag) (w : Wd) (H : Hp) (env : Envr) (σ : L2.St) : Prop where
  len : env.length = σ.length
  at_ : ∀ (i : Nat) (s : Slot), env[i]? = some (some s) → ∃ v, σ[i]? = some (some v) ∧ RepR K w H ⟨s.d, if s.own then .fr else .sh⟩ v
  ne : ∀ i j a, OwnAt env σ i a → OwnAt env σ j a → i = j
section
variable {K : PySem.W.Frag} {C : Nat → Addr} {W : WX} {w w1 w2 : Wd} {H H1 H2 : Hp} {ρ ρ2 : Sto} {env : Envr} {σ : L2.St}
theorem SEnv.own (se : SEnv K w H env σ) {a : Addr} (h : Own env σ a) : ∃ (i : Nat) (ds : List D) (vs : List V), env[i]? = some (some (Slot.mk true (.lst ds))) ∧ σ[i]? = some (some (V.ref a)) ∧ ds.length ≤ sizeLine ∧ H a = some (.lst vs) ∧ Reps K w H ds vs ∧ ¬ w.F a ∧ ¬ w.O a ∧ a ∉ w.m := by
  obtain ⟨i, ⟨d, e1⟩, e2⟩ := h
  obtain ⟨v, e3, r⟩ := se.at_ i _ e1
  rw [e2] at e3; cases e3
  obtain ⟨a', ds, vs, e4, e5, r⟩ := r
  have e4 : d = .lst ds := e4
  cases e5
  subst e4
  exact ⟨i, ds, vs, e1, e2, r⟩
theorem SEnv.res (se : SEnv K w H env σ) (ok : WOk K w H ρ) : WOk K (w.res (Own env σ)) H ρ :=
  ok.res (fun a h => by obtain ⟨i, ds, vs, _, _, _, h1, _⟩ := se.own h; exact ⟨_, h1⟩) (fun a h => by obtain ⟨i, ds, vs, _, _, _, _, _, q, _⟩ := se.own h; exact q) fun a h => by obtain ⟨i, ds, vs, _, _, _, _, _, _, _, q⟩ := se.own h; exact q
theorem SEnv.er (se : SEnv K w H env σ) : EnvR K (w.res (Own env σ)) H env σ := by
  refine ⟨se.len, fun i s e => ?_⟩
  obtain ⟨v, e1, r⟩ := se.at_ i s e
  refine ⟨v, e1, ?_⟩
  obtain ⟨own, d⟩ := s
  cases own with
  | false =>
    have r : Rep K w H d v := r
    exact (r.mono Le.res : Rep K _ H d v)
  | true =>
    obtain ⟨a, ds, vs, e4, rfl, hz, h1, r, _⟩ := r
    exact ⟨a, ds, vs, e4, rfl, hz, h1, r.mono Le.res, .inr ⟨i, ⟨d, e⟩, e1⟩⟩
/-- behind an expression -/
structure Back (K : PySem.W.Frag) (w : Wd) (H : Hp) (env : Envr) (σ : L2.St) (ρ2 : Sto) (w3 : Wd) (H2 : Hp) : Prop where
  le : Le w H w3 H2
  ok : WOk K w3 H2 ρ2
  se : SEnv K w3 H2 env σ
  eO : w3.O = w.O
theorem SEnv.back (se : SEnv K w H env σ) (l : Le (w.res (Own env σ)) H w2 H2) (ok2 : WOk K w2 H2 ρ2) : Back K w H env σ ρ2 (w2.unres w.O) H2 := by
  have lw : Le w H w2 H2 := Le.res.trans l
  refine ⟨lw.unres fun a z => z, ok2.unres fun a z => lw.O a z, ⟨se.len, fun i s e => ?_, se.ne⟩, rfl⟩
  obtain ⟨v, e1, r⟩ := se.at_ i s e
  refine ⟨v, e1, ?_⟩
  obtain ⟨own, d⟩ := s
  cases own with
  | false =>
    have r : Rep K w H d v := r
    exact ((r.mono lw).unres : Rep K _ H2 d v)
  | true =>
    obtain ⟨a, ds, vs, e4, rfl, hz, h1, r, nF, nO, nm⟩ := r
    have ho : w2.O a := l.O a (.inr ⟨i, ⟨d, e⟩, e1⟩)
    exact ⟨a, ds, vs, e4, rfl, hz, by rw [l.keep a (.inr (.inr ⟨i, ⟨d, e⟩, e1⟩))]; exact h1, (r.mono lw).unres, fun z => ok2.fo a z ho, nO, fun z => (ok2.mf a z).2 ho⟩
/-- the value that comes with it -/
theorem SEnv.val {r : Rv} {v : V} (se : SEnv K w H env σ) (l : Le (w.res (Own env σ)) H w2 H2) (rv : RepR K w2 H2 r v) : (r.fl = .sh → Rep K (w2.unres w.O) H2 r.d v) ∧ (r.fl ≠ .al → RepR K (w2.unres w.O) H2 r v ∧ (r.fl = .fr → ∀ a, v = .ref a → ¬ Own env σ a)) := by
  obtain ⟨d, fl⟩ := r
  cases fl with
  | sh =>
    have rv : Rep K w2 H2 d v := rv
    exact ⟨fun _ => rv.unres, fun _ => ⟨(rv.unres : Rep K _ H2 d v), fun z => (nomatch z)⟩⟩
  | fr =>
    obtain ⟨a, ds, vs, e4, rfl, hz, h1, r, nF, nO, nm⟩ := rv
    refine ⟨fun z => (nomatch z), fun _ => ⟨⟨a, ds, vs, e4, rfl, hz, h1, r.unres, nF, fun z => nO (l.O a (.inl z)), nm⟩, fun _ b e z => ?_⟩⟩
    cases e
    exact nO (l.O a (.inr z))
  | al => exact ⟨fun z => (nomatch z), fun z => absurd rfl z⟩
theorem XR.unres {x : Xc} {d : Option Addr} {P : Addr → Prop} (h : XR K w H x d) : XR K (w.unres P) H x d := by
  obtain ⟨k, pay⟩ := x
  cases pay with
  | none => exact h
  | some p => obtain ⟨a, f, v, e, hF, h1, r⟩ := h; exact ⟨a, f, v, e, hF, h1, r.unres⟩
end
section
variable (K : PySem.W.Frag) (C : Nat → Addr) (W : WX)
def OutS (w : Wd) (H : Hp) (r : SR) (D : Ends) : Prop := match r with
  | .nx env ρ => ∀ w' H' σ', Le w H w' H' → WOk K w' H' ρ → SEnv K w' H' env σ' → D.nx σ' H'
  | .bk env ρ => ∀ w' H' σ', Le w H w' H' → WOk K w' H' ρ → SEnv K w' H' env σ' → D.bk σ' H'
  | .ct env ρ => ∀ w' H' σ', Le w H w' H' → WOk K w' H' ρ → SEnv K w' H' env σ' → D.ct σ' H'
  | .rt r ρ => ∀ w' H' v, Le w H w' H' → WOk K w' H' ρ → RepR K w' H' r v → D.rt v H'
  | .exc x env ρ => ∀ w' H' σ' d, Le w H w' H' → WOk K w' H' ρ → SEnv K w' H' env σ' → XR K w' H' x d → W (.ref (C x.k)) d σ' H'
  | .no => False
def tS (f : Envr → Sto → SR) : TS := fun D σ H => ∃ w env ρ, WOk K w H ρ ∧ SEnv K w H env σ ∧ OutS K C W w H (f env ρ) D
end
section
variable {K : PySem.W.Frag} {C : Nat → Addr} {W : WX} {w w1 w2 : Wd} {H H1 H2 : Hp} {ρ ρ2 : Sto} {env : Envr} {σ : L2.St} {D : Ends} {α : Type}
theorem OutS.le {r : SR} (l : Le w H w1 H1) (h : OutS K C W w H r D) : OutS K C W w1 H1 r D := by
  cases r with
  | nx => exact fun w' H' σ' l2 => h w' H' σ' (l.trans l2)
  | bk => exact fun w' H' σ' l2 => h w' H' σ' (l.trans l2)
  | ct => exact fun w' H' σ' l2 => h w' H' σ' (l.trans l2)
  | rt => exact fun w' H' v l2 => h w' H' v (l.trans l2)
  | exc => exact fun w' H' σ' d l2 => h w' H' σ' d (l.trans l2)
  | no => exact h
/-- an expression within a statement -/
theorem exG {f : Envr → Sto → Res α} {kk : α → Sto → SR} {k : Wd → Hp → α → Sto → Prop} (ok : WOk K w H ρ) (se : SEnv K w H env σ) (h : OutS K C W w H (ofR (f env ρ) env kk) D)
    (fin : ∀ w2 H2 r ρ2, Le (w.res (Own env σ)) H w2 H2 → WOk K w2 H2 ρ2 → Back K w H env σ ρ2 (w2.unres w.O) H2 → (f env ρ = .ok r ρ2 ∧ OutS K C W (w2.unres w.O) H2 (kk r ρ2) D) → k w2 H2 r ρ2) :
    Out K C (w.res (Own env σ)) H (f env ρ) k (fun c d H' => W c d σ H') := by
  cases e : f env ρ with
  | no => rw [e] at h; exact h
  | exc x ρ2 =>
    rw [e] at h
    intro w2 H2 d l2 ok2 xr
    have b := se.back l2 ok2
    exact h _ H2 σ d b.le b.ok b.se xr.unres
  | ok r ρ2 =>
    rw [e] at h
    intro w2 H2 l2 ok2
    have b := se.back l2 ok2
    exact fin w2 H2 r ρ2 l2 ok2 b ⟨e, OutS.le b.le h⟩
theorem exE {f : Envr → Sto → Res Rv} {kk : Rv → Sto → SR} {R : V → Hp → Prop} (ok : WOk K w H ρ) (se : SEnv K w H env σ) (h : OutS K C W w H (ofR (f env ρ) env kk) D)
    (fin : ∀ w3 H2 r ρ2 v, Back K w H env σ ρ2 w3 H2 → (r.fl ≠ .al → RepR K w3 H2 r v ∧ (r.fl = .fr → ∀ a, v = .ref a → ¬ Own env σ a)) → OutS K C W w3 H2 (kk r ρ2) D → R v H2) : tE K C W f σ H R :=
  ⟨_, env, ρ, se.res ok, se.er, exG ok se h fun w2 H2 r ρ2 l2 ok2 b h2 v rv => fin _ H2 r ρ2 v b (se.val l2 rv).2 h2.2⟩
theorem exEq {f : Envr → Sto → Res Rv} {kk : Rv → Sto → SR} {R : V → Hp → Prop} (ok : WOk K w H ρ) (se : SEnv K w H env σ) (h : OutS K C W w H (ofR (f env ρ) env kk) D)
    (fin : ∀ w3 H2 r ρ2 v, f env ρ = .ok r ρ2 → Back K w H env σ ρ2 w3 H2 → (r.fl ≠ .al → RepR K w3 H2 r v ∧ (r.fl = .fr → ∀ a, v = .ref a → ¬ Own env σ a)) → R v H2) : tE K C W f σ H R :=
  ⟨_, env, ρ, se.res ok, se.er, exG ok se h fun w2 H2 r ρ2 l2 ok2 b h2 v rv => fin _ H2 r ρ2 v h2.1 b (se.val l2 rv).2⟩
theorem exT {f : Envr → Sto → Res Rv} {kk : Rv → Sto → SR} {R : Bool → Hp → Prop} (ok : WOk K w H ρ) (se : SEnv K w H env σ) (h : OutS K C W w H (ofR (f env ρ) env kk) D)
    (fin : ∀ w3 H2 r ρ2, Back K w H env σ ρ2 w3 H2 → OutS K C W w3 H2 (kk r ρ2) D → ∃ b, tru ρ2 r.d = some b ∧ R b H2) : tT K C W f σ H R :=
  ⟨_, env, ρ, se.res ok, se.er, exG ok se h fun w2 H2 r ρ2 l2 ok2 b h2 => fin _ H2 r ρ2 b h2.2⟩
/-- a slot is set -/
theorem OwnAt.set {i j : Nat} {a : Addr} {s : Slot} {v : V} (h : OwnAt (env.set i (some s)) (σ.set i (some v)) j a) : (i = j ∧ s.own = true ∧ v = .ref a ∧ i < env.length ∧ i < σ.length) ∨ (i ≠ j ∧ OwnAt env σ j a) := by
  obtain ⟨⟨d, e1⟩, e2⟩ := h
  by_cases hj : i = j
  · subst hj
    by_cases hl : i < env.length
    · rw [List.getElem?_set_self hl] at e1
      by_cases hl2 : i < σ.length
      · rw [List.getElem?_set_self hl2] at e2
        cases e1
        cases e2
        exact .inl ⟨rfl, rfl, rfl, hl, hl2⟩
      · rw [List.getElem?_eq_none (by simpa using hl2)] at e2; cases e2
    · rw [List.getElem?_eq_none (by simpa using hl)] at e1; cases e1
  · rw [List.getElem?_set_ne hj] at e1 e2
    exact .inr ⟨hj, ⟨d, e1⟩, e2⟩
theorem SEnv.set {i : Nat} {s : Slot} {v : V} (se : SEnv K w H env σ) (r : RepR K w H ⟨s.d, if s.own then .fr else .sh⟩ v) (hn : s.own = true → ∀ a, v = .ref a → ∀ j, OwnAt env σ j a → j = i) : SEnv K w H (env.set i (some s)) (σ.set i (some v)) := by
  refine ⟨by simpa using se.len, fun j t e => ?_, fun j k a h1 h2 => ?_⟩
  · by_cases hj : i = j
    · subst hj
      by_cases hl : i < env.length
      · rw [List.getElem?_set_self hl] at e
        cases e
        exact ⟨v, List.getElem?_set_self (by rw [← se.len]; exact hl), r⟩
      · rw [List.getElem?_eq_none (by simpa using hl)] at e; cases e
    · rw [List.getElem?_set_ne hj] at e
      obtain ⟨u, e1, r1⟩ := se.at_ j t e
      exact ⟨u, by rw [List.getElem?_set_ne hj]; exact e1, r1⟩
  · rcases h1.set with ⟨e1, o1, v1, _, _⟩ | ⟨n1, h1⟩
    · rcases h2.set with ⟨e2, _⟩ | ⟨n2, h2⟩
      · rw [← e1, ← e2]
      · exact absurd (hn o1 a v1 k h2).symm n2
    · rcases h2.set with ⟨e2, o2, v2, _, _⟩ | ⟨n2, h2⟩
      · exact absurd (hn o2 a v2 j h1).symm n1
      · exact se.ne j k a h1 h2
theorem SEnv.put {i : Nat} {r : Rv} {v : V} (se : SEnv K w H env σ) (nal : r.fl ≠ .al) (h : RepR K w H r v) (hn : r.fl = .fr → ∀ a, v = .ref a → ¬ Own env σ a) : SEnv K w H (putR i env r) (σ.set i (some v)) := by
  obtain ⟨d, fl⟩ := r
  cases fl with
  | sh => exact se.set (s := ⟨false, d⟩) h fun z => nomatch z
  | fr => exact se.set (s := ⟨true, d⟩) h fun _ a e j q => absurd ⟨j, q⟩ (hn rfl a e)
  | al => exact absurd rfl nal
/-- own lists keep to themselves while others are at work -/
theorem SEnv.mono {P : Addr → Prop} (se : SEnv K w H env σ) (l : Le w H w2 H2) (k : ∀ a, Own env σ a → H2 a = H a ∧ ¬ w2.F a ∧ ¬ w2.O a ∧ a ∉ w2.m) : SEnv K w2 H2 env σ := by
  refine ⟨se.len, fun i s e => ?_, se.ne⟩
  obtain ⟨v, e1, r⟩ := se.at_ i s e
  refine ⟨v, e1, ?_⟩
  obtain ⟨own, d⟩ := s
  cases own with
  | false =>
    have r : Rep K w H d v := r
    exact (r.mono l : Rep K _ H2 d v)
  | true =>
    obtain ⟨a, ds, vs, e4, rfl, hz, h1, r, _⟩ := r
    obtain ⟨k1, k2⟩ := k a ⟨i, ⟨d, e⟩, e1⟩
    exact ⟨a, ds, vs, e4, rfl, hz, by rw [k1]; exact h1, r.mono l, k2⟩
end
end Ev
end

section
set_option Elab.async false
set_option linter.all false
set_option maxRecDepth 100000
set_option maxHeartbeats 4000000
/-! statements: one by one -/
namespace Ev
open PySem PySem.Spec PyProof.Rows L2
theorem _root_.L2.PS.conv {X : Cx} {st : Stmt} {t t' : TS} (h : PS X st t) (i : ∀ D σ H, t' D σ H → t D σ H) : PS X st t' := ⟨fun pins s σ H D I q => h.run pins s σ H D I (i D σ H q)⟩
theorem _root_.L2.PSs.conv {X : Cx} {st : List Stmt} {t t' : TS} (h : PSs X st t) (i : ∀ D σ H, t' D σ H → t D σ H) : PSs X st t' := ⟨fun pins s σ H D I q => h.run pins s σ H D I (i D σ H q)⟩
theorem _root_.L2.PS.never {X : Cx} {st : Stmt} {t : TS} (i : ∀ D σ H, ¬ t D σ H) : PS X st t := ⟨fun pins s σ H D I q => absurd q (i D σ H)⟩
theorem _root_.L2.PSs.never {X : Cx} {st : List Stmt} {t : TS} (i : ∀ D σ H, ¬ t D σ H) : PSs X st t := ⟨fun pins s σ H D I q => absurd q (i D σ H)⟩

section
variable {K : PySem.W.Frag} {C : Nat → Addr} {W : WX} {w w1 w2 : Wd} {H H1 H2 : Hp} {ρ ρ2 : Sto} {env env' : Envr} {σ σ' : L2.St} {Dn : Ends} {α : Type}
mutual
theorem asgT_own : ∀ {t : Tg} {d : D} {env env' : Envr}, asgT t d env = some env' → ∀ (i : Nat) (s : Slot), env'[i]? = some (some s) → s.own = true → i ∉ tgs t ∧ env[i]? = some (some s)
  | .nm i, d, env, env', h, j, s, e, o => by
    unfold asgT at h
    split at h
    · rename_i hi
      cases h
      by_cases hj : i = j
      · subst hj
        rw [List.getElem?_set_self hi] at e
        cases e
        cases o
      · rw [List.getElem?_set_ne hj] at e
        exact ⟨by unfold tgs; simp; exact fun z => hj z.symm, e⟩
    · cases h
  | .tup ts, .tup ds, env, env', h, j, s, e, o => by
    unfold asgT at h
    unfold tgs
    exact asgTs_own h j s e o
  | .tup ts, .non, _, _, h, _, _, _, _ => by unfold asgT at h; cases h
  | .tup ts, .bl _, _, _, h, _, _, _, _ => by unfold asgT at h; cases h
  | .tup ts, .int _, _, _, h, _, _, _, _ => by unfold asgT at h; cases h
  | .tup ts, .str _, _, _, h, _, _, _, _ => by unfold asgT at h; cases h
  | .tup ts, .lst _, _, _, h, _, _, _, _ => by unfold asgT at h; cases h
  | .tup ts, .ro _, _, _, h, _, _, _, _ => by unfold asgT at h; cases h
  | .tup ts, .loc _, _, _, h, _, _, _, _ => by unfold asgT at h; cases h
  | .tup ts, .cst _, _, _, h, _, _, _, _ => by unfold asgT at h; cases h
theorem asgTs_own : ∀ {ts : Tgs} {ds : List D} {env env' : Envr}, asgTs ts ds env = some env' → ∀ (i : Nat) (s : Slot), env'[i]? = some (some s) → s.own = true → i ∉ tgss ts ∧ env[i]? = some (some s)
  | .nil, [], env, env', h, j, s, e, o => by unfold asgTs at h; cases h; exact ⟨by unfold tgss; simp, e⟩
  | .nil, _ :: _, env, env', h, _, _, _, _ => by unfold asgTs at h; cases h
  | .cons t r, [], env, env', h, _, _, _, _ => by unfold asgTs at h; cases h
  | .cons t r, d :: ds, env, env', h, j, s, e, o => by
    unfold asgTs at h
    rw [Option.bind_eq_some_iff] at h
    obtain ⟨env1, e1, e2⟩ := h
    obtain ⟨a1, a2⟩ := asgTs_own e2 j s e o
    obtain ⟨b1, b2⟩ := asgT_own e1 j s a2 o
    exact ⟨by unfold tgss; simp [a1, b1], b2⟩
end
/-- behind a target -/
theorem SEnv.after {t : Tg} {d : D} (se : SEnv K w H env σ) (ha : asgT t d env = some env') (er' : EnvR K (w.res (Own env σ)) H env' σ') (same : ∀ i, i ∉ tgs t → σ'[i]? = σ[i]?) : SEnv K w H env' σ' := by
  have keep : ∀ i (s : Slot), env'[i]? = some (some s) → s.own = true → σ'[i]? = σ[i]? ∧ env[i]? = some (some s) := fun i s e o => by
    obtain ⟨q1, q2⟩ := asgT_own ha i s e o
    exact ⟨same i q1, q2⟩
  have own : ∀ i a, OwnAt env' σ' i a → OwnAt env σ i a := fun i a ⟨⟨d, e1⟩, e2⟩ => by
    obtain ⟨q1, q2⟩ := keep i _ e1 rfl
    exact ⟨⟨d, q2⟩, by rw [← q1]; exact e2⟩
  refine ⟨er'.1, fun i s e => ?_, fun i j a h1 h2 => se.ne i j a (own i a h1) (own j a h2)⟩
  obtain ⟨o, dd⟩ := s
  cases o with
  | false =>
    obtain ⟨v, e1, r⟩ := er'.2 i _ e
    have r : Rep K (w.res (Own env σ)) H dd v := r
    exact ⟨v, e1, (r.unres : Rep K ((w.res (Own env σ)).unres w.O) H dd v)⟩
  | true =>
    obtain ⟨q1, q2⟩ := keep i _ e rfl
    obtain ⟨v, e1, r⟩ := se.at_ i _ q2
    exact ⟨v, by rw [q1]; exact e1, r⟩
theorem SEnv.unres {P : Addr → Prop} (se : SEnv K w H env σ) (hP : ∀ a, P a → w.O a) : SEnv K (w.unres P) H env σ := by
  refine ⟨se.len, fun i s e => ?_, se.ne⟩
  obtain ⟨v, e1, r⟩ := se.at_ i s e
  refine ⟨v, e1, ?_⟩
  obtain ⟨own, d⟩ := s
  cases own with
  | false =>
    have r : Rep K w H d v := r
    exact (r.unres : Rep K _ H d v)
  | true =>
    obtain ⟨a, ds, vs, e4, rfl, hz, h1, r, nF, nO, nm⟩ := r
    exact ⟨a, ds, vs, e4, rfl, hz, h1, r.unres, nF, fun z => nO (hP a z), nm⟩
/-- a value is shared from here on -/
theorem SEnv.settle {r : Rv} {v : V} (se : SEnv K w H env σ) (ok : WOk K w H ρ) (nal : r.fl ≠ .al) (h : RepR K w H r v) (hn : r.fl = .fr → ∀ a, v = .ref a → ¬ Own env σ a) : ∃ w', Le w H w' H ∧ WOk K w' H ρ ∧ SEnv K w' H env σ ∧ Rep K w' H r.d v := by
  obtain ⟨d, fl⟩ := r
  cases fl with
  | sh => exact ⟨w, Le.refl, ok, se, h⟩
  | al => exact absurd rfl nal
  | fr =>
    obtain ⟨a, ds, vs, e1, rfl, hz, h1, q, nF, nO, nm⟩ := h
    have e1 : d = .lst ds := e1
    subst e1
    refine ⟨w.fz a, Le.fz, ok.fz ⟨_, h1⟩ nO nm, se.mono (P := fun _ => False) Le.fz fun b hb => ?_, .lst hz (.inr rfl) h1 (q.mono Le.fz)⟩
    obtain ⟨i, ds', vs', _, _, _, _, _, k1, k2, k3⟩ := se.own hb
    refine ⟨rfl, fun z => ?_, k2, k3⟩
    rcases z with z | z
    · exact k1 z
    · subst z; exact hn rfl _ rfl hb
/-- an own list is rewritten -/
theorem SEnv.upd {i : Nat} {a : Addr} {ds ds' : List D} {vs' : List V} (se : SEnv K w H env σ) (ok : WOk K w H ρ) (hi : env[i]? = some (some ⟨true, .lst ds⟩)) (hs : σ[i]? = some (some (V.ref a))) (hz : ds'.length ≤ sizeLine) (r : Reps K w H ds' vs') :
    Le w H w (L2.upd H a (.lst vs')) ∧ WOk K w (L2.upd H a (.lst vs')) ρ ∧ SEnv K w (L2.upd H a (.lst vs')) (env.set i (some ⟨true, .lst ds'⟩)) σ := by
  have ho : OwnAt env σ i a := ⟨⟨_, hi⟩, hs⟩
  obtain ⟨_, _, _, _, _, _, _, _, nF, nO, nm⟩ := se.own ⟨i, ho⟩
  have l : Le w H w (L2.upd H a (.lst vs')) := Le.upd nF nO
  have hl : i < env.length := (List.getElem?_eq_some_iff.mp hi).1
  refine ⟨l, ok.upd nF nO nm, ⟨by rw [List.length_set]; exact se.len, fun j s e => ?_, fun j k b h1 h2 => ?_⟩⟩
  · by_cases hj : i = j
    · subst hj
      rw [List.getElem?_set_self hl] at e
      cases e
      exact ⟨_, hs, a, ds', vs', rfl, rfl, hz, upd_same, r.mono l, nF, nO, nm⟩
    · rw [List.getElem?_set_ne hj] at e
      obtain ⟨v, e1, q⟩ := se.at_ j s e
      refine ⟨v, e1, ?_⟩
      obtain ⟨own, d⟩ := s
      cases own with
      | false =>
        have q : Rep K w H d v := q
        exact (q.mono l : Rep K _ _ d v)
      | true =>
        obtain ⟨b, bs, us, e4, rfl, hz', h1, q, k1, k2, k3⟩ := q
        have hne : b ≠ a := fun z => by
          subst z
          exact hj (se.ne i j _ ho ⟨⟨d, e⟩, e1⟩)
        exact ⟨b, bs, us, e4, rfl, hz', by rw [upd_ne hne]; exact h1, q.mono l, k1, k2, k3⟩
  · have back : ∀ {j b}, OwnAt (env.set i (some ⟨true, .lst ds'⟩)) σ j b → OwnAt env σ j b := fun {j b} ⟨⟨d, e1⟩, e2⟩ => by
      by_cases hj : i = j
      · subst hj; exact ⟨⟨_, hi⟩, e2⟩
      · rw [List.getElem?_set_ne hj] at e1
        exact ⟨⟨d, e1⟩, e2⟩
    exact se.ne j k b (back h1) (back h2)
theorem OutS.next {r : SR} {f : Envr → Sto → SR} (h : OutS K C W w H (r.next f) Dn) : OutS K C W w H r { Dn with nx := tS K C W f Dn } := by
  cases r with
  | nx env ρ => exact fun w' H' σ' l ok se => ⟨w', env, ρ, ok, se, OutS.le l h⟩
  | bk => exact h
  | ct => exact h
  | rt => exact h
  | exc => exact h
  | no => exact h
/-- .. in a world that went on from w0 -/
def tSL (K : PySem.W.Frag) (C : Nat → Addr) (W : WX) (w0 : Wd) (H0 : Hp) (f : Envr → Sto → SR) : TS := fun D σ H => ∃ w env ρ, Le w0 H0 w H ∧ WOk K w H ρ ∧ SEnv K w H env σ ∧ OutS K C W w H (f env ρ) D
theorem OutS.turnL {w0 : Wd} {H0 : Hp} {r : SR} {f : Envr → Sto → SR} (l0 : Le w0 H0 w H) (h : OutS K C W w H (r.turn f) Dn) : OutS K C W w H r { Dn with nx := tSL K C W w0 H0 f Dn, ct := tSL K C W w0 H0 f Dn, bk := Dn.nx } := by
  cases r with
  | nx env ρ => exact fun w' H' σ' l ok se => ⟨w', env, ρ, l0.trans l, ok, se, OutS.le l h⟩
  | bk => exact h
  | ct env ρ => exact fun w' H' σ' l ok se => ⟨w', env, ρ, l0.trans l, ok, se, OutS.le l h⟩
  | rt => exact h
  | exc => exact h
  | no => exact h
theorem OutS.turn {r : SR} {f : Envr → Sto → SR} (h : OutS K C W w H (r.turn f) Dn) : OutS K C W w H r { Dn with nx := tS K C W f Dn, ct := tS K C W f Dn, bk := Dn.nx } := by
  cases r with
  | nx env ρ => exact fun w' H' σ' l ok se => ⟨w', env, ρ, ok, se, OutS.le l h⟩
  | bk => exact h
  | ct env ρ => exact fun w' H' σ' l ok se => ⟨w', env, ρ, ok, se, OutS.le l h⟩
  | rt => exact h
  | exc => exact h
  | no => exact h
/-- other ends -/
theorem OutS.ends {r : SR} {Dn' : Ends} {W' : WX} (h : OutS K C W w H r Dn) (h1 : ∀ σ H, Dn.nx σ H → Dn'.nx σ H) (h2 : ∀ v H, Dn.rt v H → Dn'.rt v H) (h3 : ∀ σ H, Dn.bk σ H → Dn'.bk σ H) (h4 : ∀ σ H, Dn.ct σ H → Dn'.ct σ H) (h5 : ∀ c d σ H, W c d σ H → W' c d σ H) : OutS K C W' w H r Dn' := by
  cases r with
  | nx => exact fun w' H' σ' l ok se => h1 _ _ (h w' H' σ' l ok se)
  | bk => exact fun w' H' σ' l ok se => h3 _ _ (h w' H' σ' l ok se)
  | ct => exact fun w' H' σ' l ok se => h4 _ _ (h w' H' σ' l ok se)
  | rt => exact fun w' H' v l ok se => h2 _ _ (h w' H' v l ok se)
  | exc => exact fun w' H' σ' d l ok se x => h5 _ _ _ _ (h w' H' σ' d l ok se x)
  | no => exact h
end

/-! ### the context of a statement -/
structure SCok (T : Tabs) (g : List D) (cf : Nat → List D → Sto → Res Rv) (C : Nat → Addr) (n : Nat) (N : List Str) (sc : Scope) (X : Cx) : Prop extends Cok T g cf C n N sc X where
  hp : PassesOwn (model X.prog X.w) X.A X.env X.xe
  hs : X.stack = X.env :: X.outer
  hf : X.env.frame = some X.env.locals
  lo : ∀ x, isLoc sc x = true → L2.Loc X.env.scope x ∧ (X.fn x = true ∨ X.env.scope.names.lookup x = some .local)
section
variable {T : Tabs} {g : List D} {cf : Nat → List D → Sto → Res Rv} {sb : Nat → Nat → Option Bool} {wl : Nat} {C : Nat → Addr} {n : Nat} {N : List Str} {sc : Scope} {X : Cx} {W : WX} {x : Str} {pos px py : Pos} {y z tg : Expr} {e a b c : E} {i j : Nat}
abbrev GS (X : Cx) (g : List D) (cf : Nat → List D → Sto → Res Rv) (sb : Nat → Nat → Option Bool) (wl : Nat) (C : Nat → Addr) (W : WX) (s : S) (st : Stmt) : Prop := PS X st (tS X.K C W (exS g cf sb wl s))
abbrev GSs (X : Cx) (g : List D) (cf : Nat → List D → Sto → Res Rv) (sb : Nat → Nat → Option Bool) (wl : Nat) (C : Nat → Addr) (W : WX) (s : Ss) (st : List Stmt) : Prop := PSs X st (tS X.K C W (exSs g cf sb wl s))
theorem sw_comp {e : Expr} {o : Option Expr} {l : Nat} {env : Env} (h : isComp e = false) : swapsWith e o l env = pure false := by
  cases e <;> first | rfl | cases h
theorem asg_end {D : Ends} {σ : L2.St} {H : Hp} (h : tS X.K C W (exS g cf sb wl (.asg i e)) D σ H) : tAsg (tE X.K C W (ev g cf e)) (gName i) D σ H := by
  obtain ⟨w, env, ρ, ok, se, h⟩ := h
  unfold exS at h
  refine exE ok se h fun w3 H2 r ρ2 v b rv h2 => ?_
  split at h2
  · exact False.elim h2
  · rename_i nal
    exact h2 w3 H2 _ Le.refl b.ok (b.se.put nal (rv nal).1 (rv nal).2)
theorem p_asg (ck : SCok T g cf C n N sc X) (hi : N[i]? = some x) (hl : isLoc sc x = true) (hb : swapsWith y (some (.Name x px)) pos.line X.env = pure false) (he : GE X g cf C W e y) : GS X g cf sb wl C W (.asg i e) (.Assign [.Name x px] y pos) :=
  (ps_set (by rw [ck.N]; exact ck.nd) (by rw [ck.N]; exact hi) (ck.lo x hl).1 he hb (ck.lo x hl).2).conv fun D σ H h => asg_end h
theorem p_tgt {t : Tg} (ck : SCok T g cf C n N sc X) (ht : isTupE tg = true) (hw : swappedStores [tg] y X.env = pure none) (hg : chkTg N sc t tg = true) (he : GE X g cf C W e y) : GS X g cf sb wl C W (.tgt t e) (.Assign [tg] y pos) := by
  have q : swapsWithSole [tg] y pos.line X.env = pure false ∧ (assignEach [tg] X.env).map (·.2) = [assign tg X.env] := by
    cases tg <;> first | cases ht | skip
    refine ⟨?_, rfl⟩
    cases y <;> rfl
  refine (ps_asg he (sTg ck.nd ck.N ck.calm ck.lo t tg hg) q.1 hw q.2).conv fun D σ H ⟨w, env, ρ, ok, se, h⟩ => ?_
  unfold exS at h
  refine exE ok se h fun w3 H2 r ρ2 v b rv h2 => ?_
  obtain ⟨d, fl⟩ := r
  split at h2
  · rename_i hfl
    have hfl : fl = .sh := hfl
    subst hfl
    have rp : Rep X.K w3 H2 d v := (rv (by simp)).1
    split at h2
    · rename_i env' ea
      exact ⟨_, env, ρ2, d, env', b.se.res b.ok, b.se.er, rp.mono Le.res, ea, fun σ' er' sm => h2 w3 H2 σ' Le.refl b.ok (b.se.after ea er' sm)⟩
    · exact False.elim h2
  · exact False.elim h2
theorem p_exp (hb : isComp y = false) (he : GE X g cf C W e y) : GS X g cf sb wl C W (.exp e) (.Expr y pos) := by
  refine (ps_expr he (sw_comp hb)).conv fun D σ H ⟨w, env, ρ, ok, se, h⟩ => ?_
  unfold exS at h
  exact exE ok se h fun w3 H2 r ρ2 v b rv h2 => h2 w3 H2 _ Le.refl b.ok b.se
theorem p_ret (he : GE X g cf C W e y) : GS X g cf sb wl C W (.ret e) (.Return (some y) pos) := by
  refine (ps_ret he).conv fun D σ H ⟨w, env, ρ, ok, se, h⟩ => ?_
  unfold exS at h
  refine exE ok se h fun w3 H2 r ρ2 v b rv h2 => ?_
  split at h2
  · exact False.elim h2
  · rename_i nal
    exact h2 w3 H2 v Le.refl b.ok (rv nal).1
theorem p_retv (hN : X.N = N) (hi : N[i]? = some x) (hv : Vis X.env.scope x) (hk : okNm x = true) : GS X g cf sb wl C W (.retv i) (.Return (some (.Name x px)) pos) := by
  obtain ⟨k1, k2, _⟩ := nm_of hk
  refine (ps_ret (pe_var (i := i) (by rw [hN]; exact hi) hv k1 k2)).conv fun D σ H ⟨w, env, ρ, ok, se, h⟩ => ?_
  unfold exS at h
  split at h
  · rename_i s e
    obtain ⟨v, e2, r⟩ := se.at_ i s e
    exact ⟨v, e2, h w H v Le.refl ok r⟩
  · exact False.elim h
theorem p_retN : GS X g cf sb wl C W .retN (.Return none pos) := ps_retN.conv fun D σ H ⟨w, env, ρ, ok, se, h⟩ => h w H .non Le.refl ok .non
theorem p_pas : GS X g cf sb wl C W .pas (.Pass pos) := ps_pass.conv fun D σ H ⟨w, env, ρ, ok, se, h⟩ => h w H σ Le.refl ok se
theorem p_brk : GS X g cf sb wl C W .brk (.Break pos) := ps_break.conv fun D σ H ⟨w, env, ρ, ok, se, h⟩ => h w H σ Le.refl ok se
theorem p_cnt : GS X g cf sb wl C W .cnt (.Continue pos) := ps_continue.conv fun D σ H ⟨w, env, ρ, ok, se, h⟩ => h w H σ Le.refl ok se
theorem p_ifs {p q : Ss} {ps qs : List Stmt} (hc : GT X g cf C W c y) (ha : GSs X g cf sb wl C W p ps) (hb : GSs X g cf sb wl C W q qs) : GS X g cf sb wl C W (.ifs c p q) (.If y ps qs pos) := by
  refine (ps_if hc ha hb).conv fun D σ H ⟨w, env, ρ, ok, se, h⟩ => ?_
  unfold exS at h
  refine exT ok se h fun w3 H2 r ρ2 b h2 => ?_
  split at h2
  · rename_i e
    exact ⟨true, e, iteT ⟨w3, env, ρ2, b.ok, b.se, h2⟩⟩
  · rename_i e
    exact ⟨false, e, iteF ⟨w3, env, ρ2, b.ok, b.se, h2⟩⟩
  · exact False.elim h2
theorem p_rai {k : Nat} {p : Pos} (ck : SCok T g cf C n N sc X) (tk : Takes X W) (hk : T.cn[k]? = some x) (hg : Gl X x) (hn : okNm x = true) (hst : notStar y = true) (he : GE X g cf C W e y) : GS X g cf sb wl C W (.rai k e) (.Raise (some (.Call (.Name x px) [y] [] p)) none pos) := by
  obtain ⟨k1, k2, _⟩ := nm_of hn
  obtain ⟨c1, c2, c3, c4⟩ := ck.fx.cl k x hk
  refine (ps_raise ck.calm tk (SkE.pmk_own1 PySem.F.excBase_ValueError (ck.fx.cx k x hk) c1 c2 (raises_own c3 c4) hg he (star_of hst _ _) k1)).conv fun D σ H ⟨w, env, ρ, ok, se, h⟩ => ?_
  unfold exS at h
  exact exE ok se h fun w3 H2 r ρ2 v b rv h2 => h2 w3 H2 σ none Le.refl b.ok b.se rfl
theorem p_whi {p : Ss} {ps : List Stmt} (ck : SCok T g cf C n N sc X) (hc : GT X g cf C W c y) (hb : GSs X g cf sb wl C W p ps) : GS X g cf sb wl C W (.whi c p) (.While y ps [] pos) := by
  refine (ps_while ck.hp hc hb).conv fun D σ H ⟨w, env, ρ, ok, se, h⟩ => ?_
  unfold exS at h
  refine ⟨fun m σ H => ∃ w env ρ, WOk X.K w H ρ ∧ SEnv X.K w H env σ ∧ OutS X.K C W w H (whiLoop (ev g cf c) (exSs g cf sb wl p) m env ρ) D, ⟨wl, w, env, ρ, ok, se, h⟩, ?_⟩
  rintro m σ H ⟨w, env, ρ, ok, se, h⟩
  cases m with
  | zero => exact False.elim h
  | succ m =>
    unfold whiLoop at h
    refine exT ok se h fun w3 H2 r ρ2 b h2 => ?_
    split at h2
    · rename_i e
      refine ⟨true, e, iteT ⟨_, fun σ' H' q => ⟨m, Nat.lt_succ_self m, q⟩, w3, env, ρ2, b.ok, b.se, OutS.turn h2⟩⟩
    · rename_i e
      exact ⟨false, e, iteF (h2 w3 H2 σ Le.refl b.ok b.se)⟩
    · exact False.elim h2
theorem p_for {t : Tg} {it : Iw} {p : Ss} {ps : List Stmt} (ck : SCok T g cf C n N sc X) (hi : GI X g cf C W false it tg y) (hg : chkTg N sc t tg = true) (hn : notSet y = true) (hb : GSs X g cf sb wl C W p ps) : GS X g cf sb wl C W (.for_ t it p) (.For tg y ps [] pos) := by
  refine (ps_for ck.hp ck.calm hi (sTg ck.nd ck.N ck.calm ck.lo t tg hg) hb (set_of hn _)).conv fun D σ H ⟨w, env, ρ, ok, se, h⟩ => ?_
  unfold exS at h
  refine ⟨_, env, ρ, se.res ok, se.er, exG ok se h fun w2 H2 ds ρ2 l2 ok2 b ⟨_, h2⟩ w2' J l3 ok3 gs => ?_⟩
  have gs : Goes X.K (w2'.unres fun _ => False) H2 J ds := gs
  have b3 := se.back (l2.trans l3) ok3
  have h3 := OutS.le (w := w2.unres w.O) (w1 := w2'.unres w.O) ⟨fun a z => l3.F a z, fun a z => z, fun n a z => l3.m n a z, fun a z => rfl⟩ h2
  refine ⟨fun i m σ' H' => m = ds.length - i ∧ i ≤ ds.length ∧ ∃ w' env' ρ', Le (w2'.unres w.O) H2 w' H' ∧ WOk X.K w' H' ρ' ∧ SEnv X.K w' H' env' σ' ∧ OutS X.K C W w' H' (forLoop t (exSs g cf sb wl p) (ds.drop i) env' ρ') D, ⟨ds.length, by omega, Nat.zero_le _, _, env, ρ2, Le.refl, b3.ok, b3.se, by rw [List.drop_zero]; exact h3⟩, ?_⟩
  rintro i m σ' H' ⟨rfl, hi, w', env', ρ', l', ok', se', h'⟩
  have lg : Le (w2'.unres fun _ => False) H2 w' H' := ⟨fun a z => l'.F a z, fun a z => False.elim z, fun n a z => l'.m n a z, fun a z => by
    rcases z with z | z
    · exact l'.keep a (.inl z)
    · exact False.elim z⟩
  by_cases hlt : i < ds.length
  · have hdrop : ds.drop i = ds[i] :: ds.drop (i + 1) := List.drop_eq_getElem_cons hlt
    rw [hdrop] at h'
    unfold forLoop at h'
    refine .inr ⟨gs.go i w' H' ρ' lg ok' hlt, tSL X.K C W (w2'.unres w.O) H2 (fun env ρ => forLoop t (exSs g cf sb wl p) (ds.drop (i + 1)) env ρ) D, fun σ4 H4 ⟨w6, env6, ρ6, q⟩ => ⟨ds.length - (i + 1), by omega, rfl, hlt, w6, env6, ρ6, q⟩, fun x H4 y => ?_⟩
    obtain ⟨w4, l4, ok4, rx⟩ := gs.yld i _ H' x H4 ρ' ds[i] (lg.trans Le.res) (se'.res ok') (List.getElem?_eq_getElem hlt) y
    have b4 := se'.back l4 ok4
    split at h'
    · rename_i env5 ea
      refine ⟨_, env', ρ', ds[i], env5, b4.se.res b4.ok, b4.se.er, (rx.unres.mono Le.res : Rep X.K ((w4.unres w'.O).res _) H4 ds[i] x), ea, fun σ5 er5 sm => ?_⟩
      exact ⟨w4.unres w'.O, env5, ρ', b4.ok, b4.se.after ea er5 sm, OutS.turnL (l'.trans b4.le) (OutS.le b4.le h')⟩
    · exact False.elim h'
  · have e : i = ds.length := by omega
    subst e
    rw [List.drop_length] at h'
    exact .inl ⟨gs.stop _ w' H' ρ' lg ok' (Nat.le_refl _), h' w' H' σ' Le.refl ok' se'⟩
end
end Ev
end

section
set_option Elab.async false
set_option linter.all false
set_option maxRecDepth 100000
set_option maxHeartbeats 4000000
/-! statements: pairs, methods, try -/
namespace Ev
open PySem PySem.Spec PyProof.Rows L2
section
variable {T : Tabs} {g : List D} {cf : Nat → List D → Sto → Res Rv} {sb : Nat → Nat → Option Bool} {wl : Nat} {C : Nat → Addr} {n : Nat} {N : List Str} {sc : Scope} {X : Cx} {W : WX} {x x2 : Str} {pos px py pt pt2 : Pos} {y z tg : Expr} {e a b c : E} {i j : Nat} {kt k2 : Nat}
theorem isL_of {sc : Scope} {x : Str} (h : isL sc x = true) : sc.names.lookup x = some .local := by
  unfold isL at h
  split at h
  · assumption
  · cases h
theorem isFn_of {sc : Scope} (h : isFn sc = true) : sc.kind = .function := by
  unfold isFn at h
  split at h
  · assumption
  · cases h
theorem blk_of {env : Env} (h : env.scope.kind = .function) : env.blockKind = .function := by unfold Env.blockKind; rw [h]; rfl
def starM : Expr → Bool
  | .Starred .. => true
  | _ => false
theorem starM_no {e : Expr} (h : notStar e = true) : starM e = false := by cases e <;> first | rfl | cases h
theorem swp2_of {env : Env} {kt k2} (h : swp2 env.scope x x2 px py y z = true) : swappedStores [.Tuple [.Name x px, .Name x2 py] kt pt] (.Tuple [y, z] k2 pt2) env = pure (some [x, x2]) := by
  unfold swp2 at h
  simp only [Bool.and_eq_true, Bool.not_eq_true', decide_eq_false_iff_not] at h
  obtain ⟨⟨⟨⟨⟨⟨⟨⟨h1, h2⟩, h3⟩, h4⟩, h5⟩, h6⟩, h7⟩, h8⟩, h9⟩ := h
  have kx : env.kindOf x = some .local := isL_of h2
  have ky : env.kindOf x2 = some .local := isL_of h3
  have hb := blk_of (isFn_of h1)
  have he : ([x, x2] : List Str).eraseDups.length = 2 := by
    have : (x2 == x) = false := by rw [beq_eq_false_iff_ne]; exact fun q => h4 q.symm
    simp [List.eraseDups_cons, this]
  unfold swappedStores
  simp only [List.length_cons, List.length_nil, hb, List.any_cons, List.any_nil, List.head?_cons, Option.map_some, Option.getD_some, Expr.pos, List.filterMap_cons, List.filterMap_nil, kx, ky, h5, beq_self_eq_true, Bool.and_self, if_true, he, List.all_cons, List.all_nil, Bool.and_true, h8, h9]
  split
  · rename_i q
    exact absurd q (by decide)
  · split
    · cases h6
    · split
      · cases h7
      · rfl
theorem swN_of {env : Env} (ht : isTupE tg = true) (h : noSwap env.scope tg y = true) : swappedStores [tg] y env = pure none := by
  cases tg <;> first | cases ht | skip
  rename_i ts kt pt
  cases y <;> first | rfl | skip
  rename_i vs k2 p2
  unfold noSwap at h
  simp only [Bool.and_eq_true, Bool.or_eq_true] at h
  obtain ⟨h1, h3⟩ := h
  have hb := blk_of (isFn_of h1)
  unfold swappedStores
  simp only [hb]
  split
  · rfl
  · split
    · rfl
    · split
      · rfl
      · rename_i hn
        rcases h3 with h3 | h3
        · rw [if_pos h3]
        · exfalso
          apply hn
          rw [List.any_eq_true] at h3
          obtain ⟨t, ht1, ht2⟩ := h3
          rw [Bool.or_eq_true]
          refine .inl ?_
          rw [bne_iff_ne]
          refine Nat.ne_of_lt ?_
          rw [List.length_filterMap_lt_length_iff_exists]
          refine ⟨t, ht1, ?_⟩
          cases t <;> first | rfl | skip
          rename_i x p
          have hx : (env.kindOf x == some NameKind.local) = false := by
            have h4 : (!isL env.scope x) = true := ht2
            rw [Bool.not_eq_true'] at h4
            show (env.scope.names.lookup x == some NameKind.local) = false
            rw [beq_eq_false_iff_ne]
            intro q
            unfold isL at h4
            rw [q] at h4
            cases h4
          dsimp only
          rw [hx]
          rfl

/-! ### a, b = x, y -/
/-- a value at hand is kept while others are reckoned -/
def Hld (r : Rv) (v : V) (b : Addr) : Prop := r.fl = .fr ∧ v = .ref b
theorem SEnv.hold {K : PySem.W.Frag} {w : Wd} {H : Hp} {ρ : Sto} {env : Envr} {σ : L2.St} {r : Rv} {v : V} (se : SEnv K w H env σ) (ok : WOk K w H ρ) (nal : r.fl ≠ .al) (rv : RepR K w H r v) (hn : r.fl = .fr → ∀ a, v = .ref a → ¬ Own env σ a) :
    WOk K (w.res (Hld r v)) H ρ ∧ SEnv K (w.res (Hld r v)) H env σ := by
  have fr : ∀ b, Hld r v b → (∃ o, H b = some o) ∧ ¬ w.F b ∧ b ∉ w.m ∧ ¬ Own env σ b := fun b ⟨h1, h2⟩ => by
    obtain ⟨d, fl⟩ := r
    have h1 : fl = .fr := h1
    subst h1
    subst h2
    obtain ⟨a, ds, vs, e4, e, hz, h1, q, nF, nO, nm⟩ := rv
    cases e
    exact ⟨⟨_, h1⟩, nF, nm, hn rfl b rfl⟩
  refine ⟨ok.res (fun b h => (fr b h).1) (fun b h => (fr b h).2.1) (fun b h => (fr b h).2.2.1), se.mono (P := fun _ => False) Le.res fun a ha => ?_⟩
  obtain ⟨i, ds, vs, _, _, _, _, _, k1, k2, k3⟩ := se.own ha
  exact ⟨rfl, k1, fun z => z.elim k2 fun z => (fr a z).2.2.2 ha, k3⟩
theorem RepR.held {K : PySem.W.Frag} {w w4 : Wd} {H H4 : Hp} {ρ4 : Sto} {r : Rv} {v : V} (nal : r.fl ≠ .al) (rv : RepR K w H r v) (l : Le (w.res (Hld r v)) H w4 H4) (ok4 : WOk K w4 H4 ρ4) : RepR K (w4.unres w.O) H4 r v := by
  obtain ⟨d, fl⟩ := r
  cases fl with
  | sh =>
    have rv : Rep K w H d v := rv
    exact ((rv.mono (Le.res.trans l)).unres : Rep K _ H4 d v)
  | al => exact absurd rfl nal
  | fr =>
    obtain ⟨a, ds, vs, e4, rfl, hz, h1, q, nF, nO, nm⟩ := rv
    have ho : w4.O a := l.O a (.inr ⟨rfl, rfl⟩)
    exact ⟨a, ds, vs, e4, rfl, hz, by rw [l.keep a (.inr (.inr ⟨rfl, rfl⟩))]; exact h1, (q.mono (Le.res.trans l)).unres, fun z => ok4.fo a z ho, nO, fun z => (ok4.mf a z).2 ho⟩
theorem RepR.unres {K : PySem.W.Frag} {w : Wd} {H : Hp} {P : Addr → Prop} {r : Rv} {v : V} (nal : r.fl ≠ .al) (rv : RepR K w H r v) (hP : ∀ a, P a → w.O a) : RepR K (w.unres P) H r v := by
  obtain ⟨d, fl⟩ := r
  cases fl with
  | sh =>
    have rv : Rep K w H d v := rv
    exact (rv.unres : Rep K _ H d v)
  | al => exact absurd rfl nal
  | fr =>
    obtain ⟨a, ds, vs, e4, rfl, hz, h1, q, nF, nO, nm⟩ := rv
    exact ⟨a, ds, vs, e4, rfl, hz, h1, q.unres, nF, fun z => nO (hP a z), nm⟩
theorem p_par (ck : SCok T g cf C n N sc X) (hi : N[i]? = some x) (hj : N[j]? = some x2) (hij : i ≠ j) (hw : swp2 sc x x2 px py y z = true) (ha : GE X g cf C W a y) (hb : GE X g cf C W b z) :
    GS X g cf sb wl C W (.par i j a b) (.Assign [.Tuple [.Name x px, .Name x2 py] kt pt] (.Tuple [y, z] k2 pt2) pos) := by
  have hw' := hw
  unfold swp2 at hw'
  simp only [Bool.and_eq_true, Bool.not_eq_true', decide_eq_false_iff_not] at hw'
  obtain ⟨⟨⟨⟨⟨⟨⟨⟨h1, h2⟩, h3⟩, h4⟩, h5⟩, h6⟩, h7⟩, h8⟩, h9⟩ := hw'
  refine (ps_par (i := i) (j := j) ck.calm (by rw [ck.N]; exact ck.nd) (by rw [ck.N]; exact hi) (by rw [ck.N]; exact hj) hij (by rw [ck.scp]; exact isL_of h2) (by rw [ck.scp]; exact isL_of h3) (pa_cons ha (pa_cons hb pa_nil (star_of h7 _ _)) (star_of h6 _ _)) (swp2_of (by rw [ck.scp]; exact hw)) rfl).conv fun D σ H ⟨w, env, ρ, ok, se, h⟩ => ?_
  unfold exS at h
  refine exE ok se h fun w3 H2 ra ρ2 v b3 rva h2 => ?_
  by_cases nal : ra.fl = .al
  · refine exE b3.ok b3.se h2 fun w4 H4 rb ρ4 u b4 rvb h4 => ?_
    rw [if_pos (.inl nal)] at h4
    exact False.elim h4
  · obtain ⟨ra1, ra2⟩ := rva nal
    obtain ⟨okh, seh⟩ := b3.se.hold b3.ok nal ra1 ra2
    refine exEq okh seh (OutS.le Le.res h2) fun w4 H4 rb ρ4 u eb b4 rvb => ?_
    have h4 := h2
    rw [eb] at h4
    have h4 : OutS X.K C W w3 H2 (if ra.fl = .al ∨ rb.fl = .al then .no else .nx (putR j (putR i env ra) rb) ρ4) D := h4
    by_cases nbl : rb.fl = .al
    · rw [if_pos (.inr nbl)] at h4
      exact False.elim h4
    · rw [if_neg (fun q => q.elim nal nbl)] at h4
      obtain ⟨rb1, rb2⟩ := rvb nbl
      have hO : ∀ q, w3.O q → w4.O q := fun q z => by rw [b4.eO]; exact .inl z
      have se5 := b4.se.unres (P := w3.O) hO
      have ra5 := RepR.held nal ra1 b4.le b4.ok
      have rb5 := rb1.unres nbl hO
      have s1 : SEnv X.K (w4.unres w3.O) H4 (putR i env ra) (σ.set i (some v)) := se5.put nal ra5 ra2
      have s2 : SEnv X.K (w4.unres w3.O) H4 (putR j (putR i env ra) rb) ((σ.set i (some v)).set j (some u)) := s1.put nbl rb5 fun hf q e ⟨k, hk⟩ => by
        rcases hk.set with ⟨_, o1, v1, _, _⟩ | ⟨_, hk⟩
        · -- the other fresh list
          obtain ⟨p, ds, vs, _, e', _, _, _, _, nO, _⟩ := (show RepR X.K w4 H4 ⟨rb.d, .fr⟩ u from by rw [← hf]; exact rb1)
          rw [e] at e'; cases e'
          refine nO ?_
          rw [b4.eO]
          exact .inr ⟨by simpa using o1, v1⟩
        · exact rb2 hf q e ⟨k, hk⟩
      exact ⟨v, u, rfl, h4 _ H4 _ ((Le.res.trans b4.le).unres fun q z => z) (b4.ok.unres hO) s2⟩
end
end Ev
end

section
set_option Elab.async false
set_option linter.all false
set_option maxRecDepth 100000
set_option maxHeartbeats 4000000
/-! statements: methods of lists, ghosts, try, the whole -/
namespace Ev
open PySem PySem.Spec PyProof.Rows L2
section
variable {T : Tabs} {g : List D} {cf : Nat → List D → Sto → Res Rv} {sb : Nat → Nat → Option Bool} {wl : Nat} {C : Nat → Addr} {n : Nat} {N : List Str} {sc : Scope} {X : Cx} {W : WX} {x x2 m : Str} {pos px py pt pt2 ap cp : Pos} {y z tg : Expr} {e a b c : E} {i j : Nat} {kt k2 : Nat}
theorem p_app (hN : X.N = N) (hm : m = ("append" : Str)) (hln : (ap.endLine == cp.line) = true) (hi : N[i]? = some x) (hv : Vis X.env.scope x) (hk : okNm x = true) (hst : notStar y = true) (he : GE X g cf C W e y) :
    GS X g cf sb wl C W (.app i e) (.Expr (.Call (.Attribute (.Name x px) m ap) [y] [] cp) pos) := by
  subst hm
  obtain ⟨k1, k2, _⟩ := nm_of hk
  refine (ps_expr (pe_bm PySem.F.plainAttrs_list PySem.F.slot_list_append PySem.F.type_list_append mt_append (pe_var (i := i) (by rw [hN]; exact hi) hv k1 k2) (pa_cons he pa_nil (star_of hst _ _)) base_of (by rw [star_of hst]; rfl) hln (star_of hst _ _) rfl) rfl).conv fun D σ H ⟨w, env, ρ, ok, se, h⟩ => ?_
  unfold exS appR at h
  split at h
  · rename_i xs e1
    obtain ⟨v, e2, r⟩ := se.at_ i _ e1
    obtain ⟨aa, ds, vs, e3, rfl, hz, h1, q, nF, nO, nm⟩ := r
    refine ⟨_, e2, .inl ⟨rfl, vs, .of h1⟩, ?_⟩
    refine exE ok se h fun w3 H2 r ρ2 v b rv h2 => ?_
    split at h2
    · exact False.elim h2
    · rename_i nal
      split at h2
      · rename_i hlt
        obtain ⟨r1, r2⟩ := rv nal
        obtain ⟨w4, l4, ok4, se4, rp⟩ := b.se.settle b.ok nal r1 r2
        obtain ⟨v', e4, q4⟩ := se4.at_ i _ e1
        rw [e2] at e4; cases e4
        obtain ⟨aa', ds', vs', e5, e6, hz', h1', q', nF', nO', nm'⟩ := q4
        cases e6
        have e5 : Ev.D.lst xs = Ev.D.lst ds' := e5
        cases e5
        obtain ⟨l5, ok5, se5⟩ := se4.upd (ds' := xs ++ [r.d]) (vs' := vs' ++ [v]) ok4 e1 e2 (by rw [List.length_append]; show xs.length + 1 ≤ _; omega) (q'.append (.cons rp .nil))
        exact ⟨aa, vs', v, rfl, rfl, h1', by rw [← q'.length]; exact hlt, h2 w4 _ σ (l4.trans l5) ok5 se5⟩
      · exact False.elim h2
  · rename_i nn e1
    obtain ⟨v, e2, r⟩ := se.at_ i _ e1
    have r : Rep X.K w H (.loc nn) v := r
    cases r with
    | @loc _ aa hm =>
      split at h
      · rename_i xs0 e3
        obtain ⟨hz, vs, h1, q⟩ := ok.loc hm e3
        refine ⟨_, e2, .inl ⟨rfl, vs, .of h1⟩, ?_⟩
        refine exE ok se h fun w3 H2 r ρ2 v b rv h2 => ?_
        split at h2
        · exact False.elim h2
        · rename_i nal
          split at h2
          · rename_i xs e4
            split at h2
            · rename_i hlt
              obtain ⟨r1, r2⟩ := rv nal
              obtain ⟨w4, l4, ok4, se4, rp⟩ := b.se.settle b.ok nal r1 r2
              have hm4 := l4.m _ _ (b.le.m _ _ hm)
              obtain ⟨hz4, vs4, h4, q4⟩ := ok4.loc hm4 e4
              obtain ⟨nF, nO⟩ := ok4.mf aa (List.mem_of_getElem? hm4)
              have l5 : Le w4 H2 w4 (L2.upd H2 aa (.lst (vs4 ++ [v]))) := Le.upd nF nO
              obtain ⟨_, ok5⟩ := ok4.setCell (o := .lst (vs4 ++ [v])) (c := .lst (xs ++ [r.d])) hm4 ⟨by rw [List.length_append]; show xs.length + 1 ≤ _; omega, _, upd_same, (q4.append (.cons rp .nil)).mono l5⟩
              refine ⟨aa, vs4, v, rfl, rfl, h4, by rw [← q4.length]; exact hlt, h2 w4 _ σ (l4.trans l5) ok5 (se4.mono (P := fun _ => False) l5 fun bb hb => ?_)⟩
              obtain ⟨_, _, _, _, _, _, _, _, k1, k2, k3⟩ := se4.own hb
              exact ⟨upd_ne (by rintro rfl; exact k3 (List.mem_of_getElem? hm4)), k1, k2, k3⟩
            · exact False.elim h2
          · exact False.elim h2
      · exact False.elim h
  · exact False.elim h
theorem p_rev (hN : X.N = N) (hm : m = ("reverse" : Str)) (hln : (ap.endLine == cp.line) = true) (hi : N[i]? = some x) (hv : Vis X.env.scope x) (hk : okNm x = true) :
    GS X g cf sb wl C W (.rev i) (.Expr (.Call (.Attribute (.Name x px) m ap) [] [] cp) pos) := by
  subst hm
  obtain ⟨k1, k2, _⟩ := nm_of hk
  refine (ps_expr (pe_bm0 PySem.F.plainAttrs_list PySem.F.slot_list_reverse PySem.F.type_list_reverse mt_reverse (pe_var (i := i) (by rw [hN]; exact hi) hv k1 k2) base_of hln) rfl).conv fun D σ H ⟨w, env, ρ, ok, se, h⟩ => ?_
  unfold exS revR at h
  split at h
  · rename_i xs e1
    obtain ⟨v, e2, r⟩ := se.at_ i _ e1
    obtain ⟨aa, ds, vs, e3, rfl, hz, h1, q, nF, nO, nm⟩ := r
    have e3 : Ev.D.lst xs = Ev.D.lst ds := e3
    cases e3
    obtain ⟨l5, ok5, se5⟩ := se.upd (ds' := xs.reverse) (vs' := vs.reverse) ok e1 e2 (by rw [List.length_reverse]; exact hz) q.reverse
    exact ⟨_, e2, .inl ⟨rfl, vs, .of h1⟩, aa, vs, rfl, rfl, h1, h w _ σ l5 ok5 se5⟩
  · exact False.elim h

/-! ### ghosts -/
theorem p_frz {r : Ss} {sts : List Stmt} (h : GSs X g cf sb wl C W r sts) : GSs X g cf sb wl C W (.frz i r) sts := by
  refine h.conv fun D σ H ⟨w, env, ρ, ok, se, h⟩ => ?_
  unfold exSs frzR at h
  split at h
  · rename_i d e1
    obtain ⟨v, e2, rv⟩ := se.at_ i _ e1
    have rv : RepR X.K w H ⟨d, .fr⟩ v := rv
    obtain ⟨aa, ds, vs, e3, rfl, hz, h1, q, nF, nO, nm⟩ := rv
    have e3 : d = .lst ds := e3
    subst e3
    have ho : OwnAt env σ i aa := ⟨⟨_, e1⟩, e2⟩
    refine ⟨w.fz aa, _, ρ, ok.fz ⟨_, h1⟩ nO nm, ⟨by rw [List.length_set]; exact se.len, fun j s e => ?_, fun j k b h1 h2 => ?_⟩, OutS.le Le.fz h⟩
    · by_cases hj : i = j
      · subst hj
        rw [List.getElem?_set_self (List.getElem?_eq_some_iff.mp e1).1] at e
        cases e
        exact ⟨_, e2, (.lst hz (.inr rfl) h1 (q.mono Le.fz) : Rep X.K (w.fz aa) H (.lst ds) (.ref aa))⟩
      · rw [List.getElem?_set_ne hj] at e
        obtain ⟨v, e4, q4⟩ := se.at_ j s e
        refine ⟨v, e4, ?_⟩
        obtain ⟨own, d⟩ := s
        cases own with
        | false =>
          have q4 : Rep X.K w H d v := q4
          exact (q4.mono Le.fz : Rep X.K _ H d v)
        | true =>
          obtain ⟨b, bs, us, e5, rfl, hz', h4, q4, k1, k2, k3⟩ := q4
          exact ⟨b, bs, us, e5, rfl, hz', h4, q4.mono Le.fz, fun z => z.elim k1 fun z => hj (se.ne i j _ ho ⟨⟨d, e⟩, by rw [e4, z]⟩), k2, k3⟩
    · have back : ∀ {j b}, OwnAt (env.set i (some ⟨false, .lst ds⟩)) σ j b → OwnAt env σ j b := fun {j b} ⟨⟨d, e4⟩, e5⟩ => by
        by_cases hj : i = j
        · subst hj
          rw [List.getElem?_set_self (List.getElem?_eq_some_iff.mp e1).1] at e4
          cases e4
        · rw [List.getElem?_set_ne hj] at e4
          exact ⟨⟨d, e4⟩, e5⟩
      exact se.ne j k b (back h1) (back h2)
  · exact ⟨w, env, ρ, ok, se, h⟩
/-- the world with one more cell -/
def Wd.cl (w : Wd) (a : Addr) : Wd := { w with m := w.m ++ [a] }
theorem Le.cl {w : Wd} {H : Hp} {a : Addr} : Le w H (w.cl a) H := ⟨fun _ h => h, fun _ h => h, fun n b h => by
  show (w.m ++ [a])[n]? = some b
  rw [List.getElem?_append_left (List.getElem?_eq_some_iff.mp h).1]; exact h, fun _ _ => rfl⟩
theorem p_prm {r : Ss} {sts : List Stmt} (h : GSs X g cf sb wl C W r sts) : GSs X g cf sb wl C W (.prm i r) sts := by
  refine h.conv fun D σ H ⟨w, env, ρ, ok, se, h⟩ => ?_
  unfold exSs prmR at h
  split at h
  · rename_i xs e1
    obtain ⟨v, e2, rv⟩ := se.at_ i _ e1
    obtain ⟨aa, ds, vs, e3, rfl, hz, h1, q, nF, nO, nm⟩ := rv
    have e3 : Ev.D.lst xs = Ev.D.lst ds := e3
    cases e3
    have ho : OwnAt env σ i aa := ⟨⟨_, e1⟩, e2⟩
    have hl : (w.m ++ [aa])[ρ.length]? = some aa := by rw [← ok.len]; simp
    refine ⟨w.cl aa, _, ρ ++ [.lst xs], ⟨ok.fs, ok.os, ok.fo, fun b hb => ?_, ?_, by show (w.m ++ [aa]).length = _; simp [ok.len], fun k c b e4 e5 => ?_⟩, ⟨by rw [List.length_set]; exact se.len, fun j s e => ?_, fun j k b h1 h2 => ?_⟩, OutS.le Le.cl h⟩
    · have hb : b ∈ w.m ++ [aa] := hb
      rw [List.mem_append, List.mem_singleton] at hb
      rcases hb with hb | rfl
      · exact ok.mf b hb
      · exact ⟨nF, nO⟩
    · show (w.m ++ [aa]).Nodup
      rw [List.nodup_append]
      refine ⟨ok.nd, by simp, fun x hx y hy => ?_⟩
      rw [List.mem_singleton] at hy
      subst hy
      exact fun z => nm (z ▸ hx)
    · have e5 : (w.m ++ [aa])[k]? = some b := e5
      by_cases hk : k < ρ.length
      · rw [List.getElem?_append_left hk] at e4
        rw [List.getElem?_append_left (by rw [ok.len]; exact hk)] at e5
        exact (ok.cell k c b e4 e5).mono Le.cl rfl
      · have hk' : k = ρ.length := by
          have := (List.getElem?_eq_some_iff.mp e4).1
          simp at this
          omega
        subst hk'
        rw [hl] at e5; cases e5
        rw [List.getElem?_append_right (Nat.le_refl _), Nat.sub_self] at e4
        cases e4
        exact ⟨hz, vs, h1, q.mono Le.cl⟩
    · by_cases hj : i = j
      · subst hj
        rw [List.getElem?_set_self (List.getElem?_eq_some_iff.mp e1).1] at e
        cases e
        exact ⟨_, e2, (.loc hl : Rep X.K (w.cl aa) H (.loc ρ.length) (.ref aa))⟩
      · rw [List.getElem?_set_ne hj] at e
        obtain ⟨v, e4, q4⟩ := se.at_ j s e
        refine ⟨v, e4, ?_⟩
        obtain ⟨own, d⟩ := s
        cases own with
        | false =>
          have q4 : Rep X.K w H d v := q4
          exact (q4.mono Le.cl : Rep X.K _ H d v)
        | true =>
          obtain ⟨b, bs, us, e5, rfl, hz', h4, q4, k1, k2, k3⟩ := q4
          refine ⟨b, bs, us, e5, rfl, hz', h4, q4.mono Le.cl, k1, k2, fun z => ?_⟩
          have z : b ∈ w.m ++ [aa] := z
          rw [List.mem_append, List.mem_singleton] at z
          rcases z with z | z
          · exact k3 z
          · exact hj (se.ne i j _ ho ⟨⟨d, e⟩, by rw [e4, z]⟩)
    · have back : ∀ {j b}, OwnAt (env.set i (some ⟨false, .loc ρ.length⟩)) σ j b → OwnAt env σ j b := fun {j b} ⟨⟨d, e4⟩, e5⟩ => by
        by_cases hj : i = j
        · subst hj
          rw [List.getElem?_set_self (List.getElem?_eq_some_iff.mp e1).1] at e4
          cases e4
        · rw [List.getElem?_set_ne hj] at e4
          exact ⟨⟨d, e4⟩, e5⟩
      exact se.ne j k b (back h1) (back h2)
  · exact ⟨w, env, ρ, ok, se, h⟩
end
end Ev
end

section
set_option Elab.async false
set_option linter.all false
set_option maxRecDepth 100000
set_option maxHeartbeats 4000000
/-! statements: the whole -/
namespace Ev
open PySem PySem.Spec PyProof.Rows L2
section
variable {T : Tabs} {g : List D} {cf : Nat → List D → Sto → Res Rv} {sb : Nat → Nat → Option Bool} {wl : Nat} {C : Nat → Addr} {n : Nat} {N : List Str} {sc : Scope} {X : Cx} {W : WX} {x x2 m : Str} {px py pt pt2 ap cp : Pos} {y z tg ast : Expr} {e a b c : E} {i j : Nat} {kt k2 : Nat}
def swB (y : Expr) (x : Str) (px : Pos) (env : Env) : Bool := match y with
  | .ListComp _ _ s p => env.blockKind == .function && env.kindOf x == some .local && px.line == p.line && !(s.names.any fun (n, k) => n == x && (k == .local || k == .cell))
  | .SetComp _ _ s p => env.blockKind == .function && env.kindOf x == some .local && px.line == p.line && !(s.names.any fun (n, k) => n == x && (k == .local || k == .cell))
  | .DictComp _ _ _ s p => env.blockKind == .function && env.kindOf x == some .local && px.line == p.line && !(s.names.any fun (n, k) => n == x && (k == .local || k == .cell))
  | _ => false
theorem sw_name {y : Expr} {x : Str} {px : Pos} {l : Nat} {env : Env} : swapsWith y (some (.Name x px)) l env = pure (swB y x px env) := by
  cases y <;> rfl
theorem sw_local {y : Expr} {x : Str} {px : Pos} {env : Env} (h : swB y x px env = true) : isComp y = true ∧ env.scope.names.lookup x = some .local := by
  unfold swB at h
  split at h
  · simp only [Bool.and_eq_true, beq_iff_eq] at h
    exact ⟨rfl, h.1.1.2⟩
  · simp only [Bool.and_eq_true, beq_iff_eq] at h
    exact ⟨rfl, h.1.1.2⟩
  · simp only [Bool.and_eq_true, beq_iff_eq] at h
    exact ⟨rfl, h.1.1.2⟩
  · cases h
theorem p_asgLc {y0 : Str} {own : List Nat} {t : Tg} {it : Iw} {py : Pos} {spos : Pos} (h : chkE T N (.lc own t it c e) sc ast = true) (ck : Cok T g cf C n N sc X) (tk : Takes X W) (hi : N[i]? = some y0) (hyl : X.env.scope.names.lookup y0 = some .local)
    (hsw : swapsWith ast (some (.Name y0 py)) spos.line X.env = pure true) : GS X g cf sb wl C W (.asg i (.lc own t it c e)) (.Assign [.Name y0 py] ast spos) := by
    unfold chkE at h
    split at h
    · rename_i elt tg iter ifs scope pos
      simp only [Bool.and_eq_true] at h
      obtain ⟨⟨⟨⟨⟨⟨h1, h2⟩, h3⟩, h4⟩, h5⟩, h6⟩, h7⟩ := h
      cases ho : ownN N own with
      | none => rw [ho] at h1; cases h1
      | some l =>
        rw [ho] at h1
        have hown := ownN_ok ho
        have ok : BlkOk X.N X.env.scope scope l := by rw [ck.N, ck.scp]; exact blkOk_by h1
        have htg : ∀ i ∈ tgs t, i ∈ own := fun i hi => by
          have := List.all_eq_true.mp h2 i hi
          simpa using this
        have cb := fun s H L cl fp => ck.blk (scope := scope) s H L cl fp
        have ht : ∀ (s : Shared) (H : Hp) (L : Addr) (cl : List (Str × Addr)) (fp : List Addr), PTs (X.blk s H scope (compEnvC scope cl L X.env) fp) ifs (tIfs X.K C g cf c) := by
          intro s H L cl fp
          split at h6
          · rw [isNop_iff.mp h6]; exact pts_nil
          · simp only [Bool.and_eq_true, Bool.not_eq_true'] at h6
            have hne : c ≠ .nop := fun z => by rw [z] at h6; cases h6.1
            have e : tIfs X.K C g cf c = tT X.K C W0 (ev g cf c) := by cases c <;> first | rfl | exact absurd rfl hne
            rw [e]
            exact pts_one (sT c (relS scope sc) _ h6.2 _ W0 (cb s H L cl fp) takes0).1
          · cases h6
        refine (ps_setLc (i := i) ck.calm (by rw [ck.N]; exact ck.nd) (by rw [ck.N]; exact hi) hyl hsw (sI it true sc tg iter h5 X W ck tk) ok
          (fun s H L cl fp => sTg (cb s H L cl fp).nd (cb s H L cl fp).N (cb s H L cl fp).calm (lo_blk s H L cl fp) t tg h4) ht
          (fun s H L cl fp => sE e (relS scope sc) elt h7 _ W0 (cb s H L cl fp) takes0) (set_of h3 _)).conv fun D σ H q => n_lc (ifs := ifs) (scope := scope) (elt := elt) (iter := iter) htg hown σ H _ (asg_end q)
    · cases h


/-! ### try -/
def conF (d : D) : Envr → Sto → Res Rv := fun _ ρ => .ok ⟨d, .sh⟩ ρ
def tHb (K : PySem.W.Frag) (C : Nat → Addr) : Hb → TS
  | .set i d => tAsg (tE K C W0 (conF d)) (gName i)
  | .ret d => tRet (tE K C W0 (conF d))
  | .pas => tNext
def lHb (K : PySem.W.Frag) (C : Nat → Addr) (hs : List (Nat × Hb)) : List (Value × (Addr → Value → Option Addr → TS)) := hs.map fun p => (.ref (C p.1), fun _ _ _ => tHb K C p.2)
theorem hds_ok (ck : SCok T g cf C n N sc X) : ∀ (hs : List (Nat × Hb)) (hds : List ExceptHandler), chkH T N sc hs hds = true → HdsOk X hds (lHb X.K C hs)
  | [], hds, h => by
    unfold chkH at h
    split at h
    · exact .nil
    · rename_i heq; cases heq
    · cases h
  | (hh, hb) :: r, hds, h => by
    unfold chkH at h
    split at h
    · rename_i heq; cases heq
    · rename_i h' hb' r' x np st hp hds' heq
      cases heq
      simp only [Bool.and_eq_true, decide_eq_true_eq] at h
      obtain ⟨⟨⟨⟨h1, h2⟩, h3⟩, h4⟩, h5⟩ := h
      obtain ⟨k1, k2, k3⟩ := nm_of h3
      refine .cons ⟨gl_of ck.scp h2, k1, .inl (ck.fx.cl _ _ h1).1⟩ (fun a oe cls d pn _ _ => ?_) (hds_ok ck r hds' h5)
      cases hb with
      | set i d =>
        dsimp only at h4
        split at h4
        · simp only [Bool.and_eq_true, decide_eq_true_eq] at h4
          obtain ⟨⟨q1, q2⟩, q3⟩ := h4
          obtain ⟨l1, l2⟩ := ck.lo _ q2
          exact pss_one (ps_set (X := X.suite a ((a, oe) :: pn)) (i := i) (by show X.N.Nodup; rw [ck.N]; exact ck.nd) (by show X.N[i]? = _; rw [ck.N]; exact q1) l1 (n_con (g := g) (cf := cf) (W := W0) (C := C) q3) rfl l2)
        · cases h4
      | ret d =>
        dsimp only at h4
        split at h4
        · exact pss_one (ps_ret (X := X.suite a ((a, oe) :: pn)) (n_con (g := g) (cf := cf) (W := W0) (C := C) h4))
        · cases h4
      | pas =>
        dsimp only at h4
        split at h4
        · exact pss_one ps_pass
        · cases h4
    · cases h
theorem OutS.many (fx : Fx T g cf C n X.prog X.w X.K X.mg X.base) {w : Wd} {H : Hp} {D : Ends} {hs : List (Nat × Hb)} {r : SR} (h : OutS X.K C W w H (triR T.sub hs r) D) : OutS X.K C (wMany X.K W D (lHb X.K C hs)) w H r D := by
  cases r with
  | nx => exact h
  | bk => exact h
  | ct => exact h
  | rt => exact h
  | no => exact h
  | exc xx env ρ =>
    have h : OutS X.K C W w H (hndR T.sub xx env ρ hs) D := h
    intro w' H' σ' d l ok se xr
    induction hs with
    | nil => exact h w' H' σ' d l ok se xr
    | cons p r ih =>
      obtain ⟨hh, hb⟩ := p
      unfold hndR at h
      split at h
      · rename_i e
        refine ⟨true, fx.cs _ _ _ e, fun _ a ha => ?_, fun z => nomatch z⟩
        cases hb with
        | set i dd =>
          refine ⟨_, env, ρ, se.res ok, se.er, fun w2 H2 l2 ok2 v rv => ?_⟩
          have b := se.back l2 ok2
          have v2 := (se.val (r := ⟨dd, .sh⟩) l2 rv).2 (by simp)
          exact h _ H2 _ (l.trans b.le) b.ok (b.se.put (r := ⟨dd, .sh⟩) (by simp) v2.1 v2.2)
        | ret dd =>
          refine ⟨_, env, ρ, se.res ok, se.er, fun w2 H2 l2 ok2 v rv => ?_⟩
          have b := se.back l2 ok2
          have v2 := (se.val (r := ⟨dd, .sh⟩) l2 rv).2 (by simp)
          exact h _ H2 v (l.trans b.le) b.ok v2.1
        | pas => exact h w' H' σ' l ok se
      · rename_i e
        exact ⟨false, fx.cs _ _ _ e, fun z => (nomatch z), fun _ => ih h h⟩
      · exact False.elim h
theorem SCok.tr (ck : SCok T g cf C n N sc X) {pn : List (Addr × Obj)} {xe : Value → Shared → Prop} (hp : PassesOwn (model X.prog X.w) X.A X.env xe) : SCok T g cf C n N sc (X.tr pn xe) :=
  ⟨⟨ck.nd, ck.N, ck.scp, ck.calm, ck.room, ck.fx⟩, hp, ck.hs, ck.hf, ck.lo⟩
theorem p_tri {p : Ss} {hs : List (Nat × Hb)} {ps : List Stmt} {h₀ : ExceptHandler} {hds : List ExceptHandler} {pos : Pos} (ck : SCok T g cf C n N sc X) (tk : Takes X W) (hb : ∀ (W : WX) (pn : List (Addr × Obj)) (xe : Value → Shared → Prop), SCok T g cf C n N sc (X.tr pn xe) → Takes (X.tr pn xe) W → GSs (X.tr pn xe) g cf T.sub wl C W p ps)
    (hh : chkH T N sc hs (h₀ :: hds) = true) : GS X g cf T.sub wl C W (.tri p hs) (.Try ps (h₀ :: hds) [] [] pos) := by
  refine (ps_try_many (tb := fun W => tS X.K C W (exSs g cf T.sub wl p)) ck.hs ck.hf tk (fun W pn xe tk' hp => hb W pn xe (ck.tr hp) tk') (hds_ok ck hs _ hh)).conv fun D σ H ⟨w, env, ρ, ok, se, h⟩ => ?_
  unfold exS at h
  exact ⟨w, env, ρ, ok, se, OutS.many ck.fx h⟩

/-! ### the whole -/
mutual
theorem sS : ∀ (s : S) (st : Stmt), chkS T N s sc st = true → ∀ (X : Cx) (W : WX), SCok T g cf C n N sc X → Takes X W → GS X g cf T.sub wl C W s st
  | .bad, st, h, X, W, ck, tk => .never fun D σ H ⟨w, env, ρ, _, _, h⟩ => h
  | .asg i e, st, h, X, W, ck, tk => by
    unfold chkS at h
    split at h
    · rename_i x px y pos
      simp only [Bool.and_eq_true, decide_eq_true_eq] at h
      obtain ⟨⟨⟨h1, h2⟩, h3⟩, h4⟩ := h
      cases hb : swB y x px X.env with
      | false => exact p_asg ck h1 h2 (by rw [sw_name, hb]) (sE e sc y h4 X W ck.toCok tk)
      | true =>
        obtain ⟨q1, q2⟩ := sw_local hb
        rw [q1] at h3
        cases e <;> first | cases h3 | skip
        exact p_asgLc h4 ck.toCok tk h1 q2 (by rw [sw_name, hb])
    · cases h
  | .tgt t e, st, h, X, W, ck, tk => by
    unfold chkS at h
    split at h
    · simp only [Bool.and_eq_true] at h
      obtain ⟨⟨⟨h1, h2⟩, h3⟩, h4⟩ := h
      exact p_tgt ck h1 (swN_of h1 (by rw [ck.scp]; exact h2)) h3 (sE e sc _ h4 X W ck.toCok tk)
    · cases h
  | .par i j a b, st, h, X, W, ck, tk => by
    unfold chkS at h
    split at h
    · simp only [Bool.and_eq_true, decide_eq_true_eq, Bool.not_eq_true', beq_eq_false_iff_ne] at h
      obtain ⟨⟨⟨⟨⟨h1, h2⟩, h3⟩, h4⟩, h5⟩, h6⟩ := h
      exact p_par ck h1 h2 h3 h4 (sE a sc _ h5 X W ck.toCok tk) (sE b sc _ h6 X W ck.toCok tk)
    · cases h
  | .exp e, st, h, X, W, ck, tk => by
    unfold chkS at h
    split at h
    · simp only [Bool.and_eq_true, Bool.not_eq_true'] at h
      exact p_exp h.1 (sE e sc _ h.2 X W ck.toCok tk)
    · cases h
  | .ret e, st, h, X, W, ck, tk => by
    unfold chkS at h
    split at h
    · exact p_ret (sE e sc _ h X W ck.toCok tk)
    · cases h
  | .retv i, st, h, X, W, ck, tk => by
    unfold chkS at h
    split at h
    · simp only [Bool.and_eq_true, decide_eq_true_eq] at h
      exact p_retv ck.N h.1.1 (by rw [ck.scp]; exact vis_of h.1.2) h.2
    · cases h
  | .retN, st, h, X, W, ck, tk => by
    unfold chkS at h
    split at h
    · exact p_retN
    · cases h
  | .ifs c a b, st, h, X, W, ck, tk => by
    unfold chkS at h
    split at h
    · simp only [Bool.and_eq_true] at h
      exact p_ifs (sT c sc _ h.1.1 X W ck.toCok tk).1 (sSs a _ h.1.2 X W ck tk) (sSs b _ h.2 X W ck tk)
    · cases h
  | .for_ t it b, st, h, X, W, ck, tk => by
    unfold chkS at h
    split at h
    · simp only [Bool.and_eq_true] at h
      obtain ⟨⟨⟨h1, h2⟩, h3⟩, h4⟩ := h
      exact p_for ck (sI it false sc _ _ h3 X W ck.toCok tk) h2 h1 (sSs b _ h4 X W ck tk)
    · cases h
  | .whi c b, st, h, X, W, ck, tk => by
    unfold chkS at h
    split at h
    · simp only [Bool.and_eq_true] at h
      exact p_whi ck (sT c sc _ h.1 X W ck.toCok tk).1 (sSs b _ h.2 X W ck tk)
    · cases h
  | .rai k e, st, h, X, W, ck, tk => by
    unfold chkS at h
    split at h
    · simp only [Bool.and_eq_true, decide_eq_true_eq] at h
      obtain ⟨⟨⟨⟨h1, h2⟩, h3⟩, h4⟩, h5⟩ := h
      exact p_rai ck tk h1 (gl_of ck.scp h2) h3 h4 (sE e sc _ h5 X W ck.toCok tk)
    · cases h
  | .tri b hs, st, h, X, W, ck, tk => by
    unfold chkS at h
    split at h
    · simp only [Bool.and_eq_true] at h
      exact p_tri ck tk (fun W pn xe ck' tk' => sSs b _ h.1 _ W ck' tk') h.2
    · cases h
  | .pas, st, h, X, W, ck, tk => by
    unfold chkS at h
    split at h
    · exact p_pas
    · cases h
  | .brk, st, h, X, W, ck, tk => by
    unfold chkS at h
    split at h
    · exact p_brk
    · cases h
  | .cnt, st, h, X, W, ck, tk => by
    unfold chkS at h
    split at h
    · exact p_cnt
    · cases h
  | .app i e, st, h, X, W, ck, tk => by
    unfold chkS at h
    split at h
    · simp only [Bool.and_eq_true, decide_eq_true_eq] at h
      obtain ⟨⟨⟨⟨⟨⟨h1, h2⟩, h3⟩, h4⟩, h5⟩, h6⟩, h7⟩ := h
      exact p_app ck.N h1 h2 h3 (by rw [ck.scp]; exact vis_of h4) h5 h6 (sE e sc _ h7 X W ck.toCok tk)
    · cases h
  | .rev i, st, h, X, W, ck, tk => by
    unfold chkS at h
    split at h
    · simp only [Bool.and_eq_true, decide_eq_true_eq] at h
      obtain ⟨⟨⟨⟨h1, h2⟩, h3⟩, h4⟩, h5⟩ := h
      exact p_rev ck.N h1 h2 h3 (by rw [ck.scp]; exact vis_of h4) h5
    · cases h
theorem sSs : ∀ (s : Ss) (sts : List Stmt), chkSs T N s sc sts = true → ∀ (X : Cx) (W : WX), SCok T g cf C n N sc X → Takes X W → GSs X g cf T.sub wl C W s sts
  | .bad, st, h, X, W, ck, tk => .never fun D σ H ⟨w, env, ρ, _, _, h⟩ => h
  | .nil, sts, h, X, W, ck, tk => by
    unfold chkSs at h
    split at h
    · exact pss_nil.conv fun D σ H ⟨w, env, ρ, ok, se, h⟩ => h w H σ Le.refl ok se
    · cases h
  | .cons s r, sts, h, X, W, ck, tk => by
    unfold chkSs at h
    split at h
    · simp only [Bool.and_eq_true] at h
      refine (pss_cons (sS s _ h.1 X W ck tk) (sSs r _ h.2 X W ck tk)).conv fun D σ H ⟨w, env, ρ, ok, se, h⟩ => ?_
      exact ⟨w, env, ρ, ok, se, OutS.next h⟩
    · cases h
  | .frz i r, sts, h, X, W, ck, tk => p_frz (sSs r sts (by unfold chkSs at h; exact h) X W ck tk)
  | .prm i r, sts, h, X, W, ck, tk => p_prm (sSs r sts (by unfold chkSs at h; exact h) X W ck tk)
end
end
end Ev
end

section
set_option Elab.async false
set_option linter.all false
set_option maxRecDepth 100000
set_option maxHeartbeats 4000000
/-! defs, runs, the law -/
namespace Ev
open PySem PySem.Spec PyProof.Rows L2
/-- a def: its slots' names, its body, the text -/
structure Df where
  N : List Str
  b : Ss
  st : Stmt
def bodyR (r : SR) : Res Rv := match r with
  | .nx _ ρ => .ok ⟨.non, .sh⟩ ρ
  | .rt r ρ => .ok r ρ
  | .exc x _ ρ => .exc x ρ
  | _ => .no
def startE (n : Nat) (ds : List D) : Envr := (ds.map fun d => some ⟨false, d⟩) ++ List.replicate (n - ds.length) none
def run (g : List D) (sb : Nat → Nat → Option Bool) (wl : Nat) (fs : List (Nat × Ss)) : Nat → Nat → List D → Sto → Res Rv
  | 0 => fun _ _ _ => .no
  | k + 1 => fun f ds ρ => match fs[f]? with
    | some nb => bodyR (exSs g (run g sb wl fs k) sb wl nb.2 (startE nb.1 ds) ρ)
    | none => .no
structure FxB (T : Tabs) (g : List D) (C : Nat → Addr) (K : PySem.W.Frag) (mg : Str → Option Value) (fs : List Df) : Prop where
  glb : ∀ (k : Nat) (x : Str) (d : D), T.gn[k]? = some x → g[k]? = some d → ∃ v u, mg x = some u ∧ RelV v u ∧ ∀ wd H, Rep K wd H d v
  df : ∀ (f : Nat) (x : Str) (ps : List Str), T.dn[f]? = some (x, ps) → ∃ a fd d, mg x = some (.ref a) ∧ (∀ (s : Shared) (us : List Value), us.length = ps.length → BindsTo s fd ⟨us, []⟩ (ps.zip us)) ∧
    (∀ np ks pm, (f, np, ks, pm) ∈ T.kb → ∀ (s : Shared) (us ws zs : List Value), K.In s.heap → us.length = np → ws.length = ks.length → (pm.mapM fun i => (us ++ ws)[i]?) = some zs → BindsTo s fd ⟨us, ks.zip ws⟩ (ps.zip zs)) ∧
    fs[f]? = some d ∧ L2.Fun K x x d.st a fd ∧ FnScope d.N ps (defScope d.st) ∧ chkSs T d.N d.b (defScope d.st) (defBody d.st) = true
  bt : ∀ x ∈ T.bn, mg x = none
  gf : ∀ x id, (x, id) ∈ T.gl → mg (Str.ofString x) = some (.builtin id)
  cl : ∀ (k : Nat) (x : Str), T.cn[k]? = some x → mg x = some (.ref (C k)) ∧ PySem.W.keepIn K (.ref (C k)) = true ∧ PySem.W.subIn K (.ref (C k)) (.type "BaseException") = some true ∧ PySem.W.typeIn K (.ref (C k)) = some (.type "type")
  cx : ∀ k x, T.cn[k]? = some x → PySem.W.excIn K (C k) [.type "ValueError", .type "Exception", .type "BaseException", .type "object"] "ValueError.__new__" = true
  cs : ∀ k h b, T.sub k h = some b → PySem.W.exmOne K (.ref (C k)) (.ref (C h)) = some b
def sizes (fs : List Df) : List (Nat × Ss) := fs.map fun d => (d.N.length, d.b)
theorem start_env {K : PySem.W.Frag} {w : Wd} {H : Hp} {N : List Str} {ds : List D} {vs : List V} (r : Reps K w H ds vs) : SEnv K w H (startE N.length ds) (L2.start N vs) := by
  unfold startE L2.start
  have nown : ∀ (i : Nat) (s : Slot), ((ds.map fun d => some (Slot.mk false d)) ++ List.replicate (N.length - ds.length) none)[i]? = some (some s) → s.own = false ∧ ds[i]? = some s.d ∧ i < ds.length := fun i s e => by
    by_cases hi : i < ds.length
    · rw [List.getElem?_append_left (by simpa using hi), List.getElem?_map] at e
      rw [List.getElem?_eq_getElem hi] at e ⊢
      cases e
      exact ⟨rfl, rfl, hi⟩
    · rw [List.getElem?_append_right (by simpa using hi), List.getElem?_replicate] at e
      split at e <;> cases e
  refine ⟨by simp [r.length], fun i s e => ?_, fun i j a ⟨⟨d, e1⟩, _⟩ _ => ?_⟩
  · obtain ⟨h1, h2, h3⟩ := nown i s e
    obtain ⟨own, d⟩ := s
    have h1 : own = false := h1
    subst h1
    obtain ⟨v, e2, rv⟩ := r.get h2
    refine ⟨v, ?_, (rv : Rep K w H d v)⟩
    rw [List.getElem?_append_left (by rw [List.length_map, ← r.length]; exact h3), List.getElem?_map, e2]
    rfl
  · exact absurd (nown i _ e1).1 (by simp)
theorem body_out {K : PySem.W.Frag} {C : Nat → Addr} {w : Wd} {H : Hp} {r : SR} {Q : VK} {E : XK} (h : OutC K C w H (bodyR r) Q E) : OutS K C (fun cls d _ H => E cls d H) w H r { nx := fun _ H' => Q .non H', rt := Q } := by
  cases r with
  | nx env ρ => exact fun w' H' σ' l ok se => h w' H' l ok .non (.non : Rep K w' H' .non .non)
  | rt r ρ => exact fun w' H' v l ok rv => h w' H' l ok v rv
  | exc x env ρ => exact fun w' H' σ' d l ok se xr => h w' H' d l ok xr
  | bk => exact False.elim h
  | ct => exact False.elim h
  | no => exact h
theorem binds_of {K : PySem.W.Frag} {fd : FuncData} {ps : List Str} (h : ∀ (s : Shared) (us : List Value), us.length = ps.length → BindsTo s fd ⟨us, []⟩ (ps.zip us)) : Binds K fd ps [] := fun s us _ hl => by
  rw [List.append_nil] at hl ⊢
  exact h s us hl
theorem fn_zero {g : List D} {C : Nat → Addr} {P : Program} {w : World} {K : PySem.W.Frag} {mg : Str → Option Value} {base : Heap} {fs : List (Nat × Ss)} {wl f : Nat} {sb : Nat → Nat → Option Bool} {a : Addr} {fd : FuncData} {ps : List Str} :
    FnOk P w K mg base (L2.CX P w) 0 a fd ps (spOf K C (run g sb wl fs 0) f ps.length) :=
  ⟨fun vs H Q E h => h.1, fun A outer s H args us vs Q E _ _ _ _ h => by
    obtain ⟨_, _, _, _, _, _, h⟩ := h
    exact False.elim h⟩
theorem fn_step {T : Tabs} {g : List D} {C : Nat → Addr} {P : Program} {w : World} {K : PySem.W.Frag} {mg : Str → Option Value} {base : Heap} {fs : List Df} {wl k f : Nat} {a : Addr} {fd : FuncData} {ps : List Str} {x : Str} {d : Df}
    (ih : Fx T g (run g T.sub wl (sizes fs) k) C k P w K mg base) (h4 : fs[f]? = some d) (h5 : L2.Fun K x x d.st a fd) (h6 : FnScope d.N ps (defScope d.st)) (h7 : chkSs T d.N d.b (defScope d.st) (defBody d.st) = true) :
    FnOk P w K mg base (L2.CX P w) (k + 1) a fd ps (spOf K C (run g T.sub wl (sizes fs) (k + 1)) f ps.length) := by
  refine h5.okX h6 (fun vs H Q E h => h.1) fun cdv A outer s H vs Q E hr ⟨hl, w0, ρ, ds, ok, rp, ho⟩ => ?_
  have hb : ∀ y : Str, isLoc (defScope d.st) y = true → L2.Loc (defScope d.st) y ∧ (true = true ∨ (defScope d.st).names.lookup y = some .local) := fun y q => ⟨loc_of q, .inl rfl⟩
  have ck : SCok T g (run g T.sub wl (sizes fs) k) C k d.N (defScope d.st) (cxOf (L2.CX P w) P w K mg base d.N x (defScope d.st) a cdv A outer s H E) :=
    ⟨⟨h6.nd, rfl, rfl, rfl, hr, ih⟩, passes_of rfl, rfl, rfl, hb⟩
  have tk : Takes (cxOf (L2.CX P w) P w K mg base d.N x (defScope d.st) a cdv A outer s H E) (fun cls d _ H => E cls d H) := takes_of rfl rfl rfl rfl
  refine ⟨_, sSs (wl := wl) d.b _ h7 _ _ ck tk, w0, startE d.N.length ds, ρ, ok, start_env rp, body_out ?_⟩
  have e : run g T.sub wl (sizes fs) (k + 1) f ds ρ = bodyR (exSs g (run g T.sub wl (sizes fs) k) T.sub wl d.b (startE d.N.length ds) ρ) := by
    have e1 : (sizes fs)[f]? = some (d.N.length, d.b) := by unfold sizes; rw [List.getElem?_map, h4]; rfl
    unfold run
    simp only [e1]
    first | rfl | (cases k <;> rfl)
  rw [e] at ho
  exact ho
theorem run_ok {T : Tabs} {g : List D} {C : Nat → Addr} {P : Program} {w : World} {K : PySem.W.Frag} {mg : Str → Option Value} {base : Heap} {fs : List Df} {wl : Nat} (B : FxB T g C K mg fs) : ∀ k : Nat, Fx T g (run g T.sub wl (sizes fs) k) C k P w K mg base
  | 0 => ⟨B.glb, fun f x ps h => by
      obtain ⟨a, fd, d, h1, h2, h3, h4, h5, _⟩ := B.df f x ps h
      exact ⟨a, fd, h1, h5.kp, binds_of h2, h3, fn_zero⟩, B.bt, B.gf, B.cl, B.cx, B.cs⟩
  | k + 1 => ⟨B.glb, fun f x ps h => by
      obtain ⟨a, fd, d, h1, h2, h3, h4, h5, h6, h7⟩ := B.df f x ps h
      exact ⟨a, fd, h1, h5.kp, binds_of h2, h3, fn_step (run_ok B k) h4 h5 h6 h7⟩, B.bt, B.gf, B.cl, B.cx, B.cs⟩
/-- the law's promise -/
def spLaw (K : PySem.W.Frag) : Sp := fun vs H Q _ => ∃ (a : Addr) (ns : List Int), vs = [.ref a] ∧ SqL K H a (ns.map V.int) ∧ ns.length ≤ 63 ∧ ∀ H', Q (.bl true) H'
theorem law_ok {T : Tabs} {g : List D} {C : Nat → Addr} {K : PySem.W.Frag} {mg : Str → Option Value} {fs : List Df} {wl k f : Nat} {x : Str} {p : Str} {fa : Addr} (B : FxB T g C K mg fs) (hf : T.dn[f]? = some (x, [p])) (hm : mg x = some (.ref fa))
    (hlaw : ∀ ns : List Int, ns.length ≤ 63 → ∃ ρ', run g T.sub wl (sizes fs) (k + 1) f [.ro (ns.map D.int)] [] = .ok ⟨.bl true, .sh⟩ ρ') :
    ∃ fd : FuncData, (∀ (s : Shared) (u : Value), BindsTo s fd ⟨[u], []⟩ [(p, u)]) ∧ ∀ (P : Program) (w : World) (base : Heap), FnOk P w K mg base (L2.CX P w) (k + 1) fa fd [p] (spLaw K) := by
  obtain ⟨a, fd, d, h1, h2, h3, h4, h5, h6, h7⟩ := B.df f x [p] hf
  rw [hm] at h1
  cases h1
  refine ⟨fd, fun s u => h2 s [u] rfl, fun P w base => (fn_step (run_ok (wl := wl) (P := P) (w := w) (base := base) B k) h4 h5 h6 h7).imp fun vs H Q E ⟨b, ns, e, hS, hn, hq⟩ => ?_⟩
  subst e
  obtain ⟨ρ', e⟩ := hlaw ns hn
  refine ⟨rfl, ⟨fun c => c = b ∧ Rd H b (.lst (ns.map V.int)), fun _ => False, []⟩, [], [.ro (ns.map D.int)], ⟨fun c ⟨e, r⟩ => ?_, fun _ z => False.elim z, fun _ _ z => z, fun _ z => (nomatch z), List.nodup_nil, rfl, fun n c a z => by simp at z⟩, .cons (.ro (by rw [List.length_map]; exact Nat.le_trans hn (by decide)) ?_ (Reps.of_ints ns)) .nil, ?_⟩
  · subst e
    rcases r with r | ⟨o, r⟩
    · exact ⟨_, r⟩
    · exact ⟨_, r⟩
  · rcases hS with r | r
    · exact .inl ⟨⟨rfl, r⟩, r⟩
    · exact .inr r
  · rw [e]
    intro w' H' l ok v rv
    have rv : Rep K w' H' (.bl true) v := rv
    cases rv
    exact hq H'
theorem cx_no {P : Program} {w : World} {H : Hp} {s : Shared} {e : Value} {s' : Shared} (h : L2.CX P w [] H s (fun _ _ _ => False) e s') : False := by
  unfold L2.CX at h
  obtain ⟨_, _, _, _, _, _, _, _, _, _, _, _, z⟩ := h
  exact z
theorem walk {q : Program} {loose : List Str} {XP : (Str → Option Value) → Heap → Prop} {YP : World → Heap → Prop} {d : DefRec} {K : Params → PySem.W.Frag} {l : PySem.W.OpenLaw} {k : Nat} (hn : l.most = some 63) (hdf : d.params.defaults = []) (hk : Room k callerA)
    (hY : ∀ (w : World) (h : Heap), YP w h → (K w.params).In h)
    (F : ∀ (w : World) (mg : Str → Option Value) (fa : Addr) (h : Heap), (K w.params).In h → h.Ns mainGlobals mg → mg d.name = some (.ref fa) →
      ∃ fd : FuncData, (∀ (s : Shared) (u : Value), BindsTo s fd ⟨[u], []⟩ [("script", u)]) ∧ ∀ base : Heap, (K w.params).In base → base.Ns mainGlobals mg → FnOk l.prog w (K w.params) mg base (L2.CX l.prog w) k fa fd ["script"] (spLaw (K w.params))) :
    PySem.W.WalkO q loose XP YP l.row.toRowW d [] (fun f vs => PySem.call f vs) :=
  L2.walk_of (n := 63) (k := k) (x := "script") (CX := fun w => L2.CX l.prog w) (sp := fun w => spLaw (K w.params)) hn (by decide) hdf hk hY F (fun _ _ a ns hl _ hS => ⟨a, ns, rfl, hS, hl, fun _ => rfl⟩) fun _ _ _ _ _ z => cx_no z

/-! ### the facts of a text's top -/
def BindA (nd : Str × List Str) (d : Df) : Prop := ∀ (kV doc pm : Value) (an : Option Addr) (cdv ct : Value) (us : List Value), us.length = nd.2.length → bindArgs (PySem.W.fnOf nd.1 nd.1 (defArgs d.st) (defBody d.st) (defScope d.st) .none kV doc pm an cdv ct) ⟨us, []⟩ = pure (nd.2.zip us)
def KwA (nd : Str × List Str) (d : Df) (np : Nat) (ks : List Str) (pm : List Nat) : Prop := ∀ (kV doc pm' : Value) (an : Option Addr) (cdv ct : Value) (us ws zs : List Value), us.length = np → ws.length = ks.length → (pm.mapM fun i => (us ++ ws)[i]?) = some zs →
  bindArgs (PySem.W.fnOf nd.1 nd.1 (defArgs d.st) (defBody d.st) (defScope d.st) .none kV doc pm' an cdv ct) ⟨us, ks.zip ws⟩ = pure (nd.2.zip zs)
def KwP (T : Tabs) (fs : List Df) (e : Nat × Nat × List Str × List Nat) : Prop := match T.dn[e.1]?, fs[e.1]? with
  | some nd, some d => KwA nd d e.2.1 e.2.2.1 e.2.2.2
  | _, _ => False
def Each {α : Type} (p : α → Prop) : List α → Prop
  | [] => True
  | x :: r => p x ∧ Each p r
theorem Each.nil {α : Type} {p : α → Prop} : Each p [] := trivial
theorem Each.cons {α : Type} {p : α → Prop} {x : α} {l : List α} (h : p x) (r : Each p l) : Each p (x :: l) := ⟨h, r⟩
theorem Each.mem {α : Type} {p : α → Prop} : ∀ {l : List α}, Each p l → ∀ x ∈ l, p x
  | [], _, x, h => by cases h
  | y :: r, h, x, hx => by
    rcases List.mem_cons.mp hx with rfl | hx
    · exact h.1
    · exact Each.mem h.2 x hx
theorem Each.at {α : Type} {p : α → Prop} {l : List α} (h : Each p l) {i : Nat} {x : α} (e : l[i]? = some x) : p x := h.mem x (List.mem_of_getElem? e)
/-- a def stands at the top -/
def DefB (K : PySem.W.Frag) (mg : Str → Option Value) (x : Str) (st : Stmt) : Prop := ∃ a fd, mg x = some (.ref a) ∧ L2.Fun K x x st a fd
theorem defB_mk {K : PySem.W.Frag} {h : Heap} {mg : Str → Option Value} {x : Str} {st : Stmt} {f : Addr} {oc : Value} {od an : Option Addr} {osl : Array (Option Value)} {kV doc pm cdv ct : Value} (X : K.In h) (G : h.Ns mainGlobals mg)
    (a : PySem.W.nsIn K mainGlobals x = some (some (.ref f))) (l : K.lookup f = some ⟨oc, od, .func (PySem.W.fnOf x x (defArgs st) (defBody st) (defScope st) .none kV doc pm an cdv ct), osl⟩)
    (c : PySem.W.codeIn K cdv x = true) (k : PySem.W.keepIn K (.ref f) = true) : DefB K mg x st := ⟨f, _, PySem.W.mg_of X G a, fun_mk l c k⟩
/-- an error class stands at the top -/
structure ClsB (K : PySem.W.Frag) (mg : Str → Option Value) (x : Str) (c : Addr) : Prop where
  g : mg x = some (.ref c)
  k : PySem.W.keepIn K (.ref c) = true
  b : PySem.W.subIn K (.ref c) (.type "BaseException") = some true
  t : PySem.W.typeIn K (.ref c) = some (.type "type")
  e : PySem.W.excIn K c [.type "ValueError", .type "Exception", .type "BaseException", .type "object"] "ValueError.__new__" = true
  d : PySem.W.hasDictIn K c = true
theorem clsB_mk {K : PySem.W.Frag} {h : Heap} {mg : Str → Option Value} {x : Str} {c : Addr} (X : K.In h) (G : h.Ns mainGlobals mg) (a : PySem.W.nsIn K mainGlobals x = some (some (.ref c))) (k : PySem.W.keepIn K (.ref c) = true)
    (b : PySem.W.subIn K (.ref c) (.type "BaseException") = some true) (t : PySem.W.typeIn K (.ref c) = some (.type "type")) (e : PySem.W.excIn K c [.type "ValueError", .type "Exception", .type "BaseException", .type "object"] "ValueError.__new__" = true) (d : PySem.W.hasDictIn K c = true) : ClsB K mg x c :=
  ⟨PySem.W.mg_of X G a, k, b, t, e, d⟩
/-- a constant -/
def GlbB (K : PySem.W.Frag) (mg : Str → Option Value) (x : Str) (d : D) : Prop := ∃ v u, mg x = some u ∧ RelV v u ∧ ∀ wd H, Rep K wd H d v
theorem glb_tup2 {K : PySem.W.Frag} {h : Heap} {mg : Str → Option Value} {x : Str} {p : Addr} {i j : Int} {t0 t1 : Tok} {od : Option Addr} {n : Nat} {sl : Array (Option Value)} (X : K.In h) (G : h.Ns mainGlobals mg)
    (a : PySem.W.nsIn K mainGlobals x = some (some (.ref p))) (l : K.lookup p = some ⟨.type "tuple", od, .seq #[.int i t0, .int j t1] n, sl⟩) : GlbB K mg x (.tup [.int i, .int j]) :=
  ⟨.ref p, .ref p, PySem.W.mg_of X G a, rfl, fun wd H => .tup (vs := [.int i, .int j]) (by show 2 ≤ sizeLine; decide) (.inr ⟨_, _, _, l, rfl, rfl, (by show 2 ≤ sizeLine; decide), .cons ⟨_, rfl⟩ (.cons ⟨_, rfl⟩ .nil)⟩) (.cons (.int _) (.cons (.int _) .nil))⟩
def DfP (T : Tabs) (K : PySem.W.Frag) (mg : Str → Option Value) (e : (Str × List Str) × Df) : Prop := DefB K mg e.1.1 e.2.st ∧ BindA e.1 e.2 ∧ C8.scC e.2.N e.1.2 (defScope e.2.st) = true ∧ chkSs T e.2.N e.2.b (defScope e.2.st) (defBody e.2.st) = true
theorem fxB_mk {T : Tabs} {g : List D} {C : Nat → Addr} {K : PySem.W.Frag} {h : Heap} {mg : Str → Option Value} {fs : List Df} (X : K.In h) (G : h.Ns mainGlobals mg) (hl : T.dn.length = fs.length)
    (hd : Each (DfP T K mg) (T.dn.zip fs)) (hk : Each (KwP T fs) T.kb) (hg : Each (fun e : Str × D => GlbB K mg e.1 e.2) (T.gn.zip g))
    (hb : Each (fun x : Str => PySem.W.nsIn K mainGlobals x = some none) T.bn) (hf : Each (fun e : String × String => PySem.W.nsIn K mainGlobals (Str.ofString e.1) = some (some (.builtin e.2))) T.gl)
    (hc : Each (fun e : Str × Nat => ClsB K mg e.1 (C e.2)) T.cn.zipIdx) (hs : ∀ k h b, T.sub k h = some b → k < T.cn.length ∧ h < T.cn.length ∧ PySem.W.subIn K (.ref (C k)) (.ref (C h)) = some b) : FxB T g C K mg fs := by
  have cl : ∀ (k : Nat) (x : Str), T.cn[k]? = some x → ClsB K mg x (C k) := fun k x e => by
    have q : T.cn.zipIdx[k]? = some (x, k) := by rw [List.getElem?_zipIdx, e]; simp
    exact hc.at q
  refine ⟨fun k x d e1 e2 => ?_, fun f x ps e => ?_, fun x hx => PySem.W.mg_none_of X G (hb.mem x hx), fun x id hx => PySem.W.mg_of X G (hf.mem _ hx), fun k x e => ⟨(cl k x e).g, (cl k x e).k, (cl k x e).b, (cl k x e).t⟩, fun k x e => (cl k x e).e, fun k h b e => ?_⟩
  · have q : (T.gn.zip g)[k]? = some (x, d) := by rw [List.getElem?_zip_eq_some]; exact ⟨e1, e2⟩
    exact hg.at q
  · obtain ⟨d, e2⟩ : ∃ d, fs[f]? = some d := by
      have : f < fs.length := by rw [← hl]; exact (List.getElem?_eq_some_iff.mp e).1
      exact ⟨_, List.getElem?_eq_getElem this⟩
    have q : (T.dn.zip fs)[f]? = some ((x, ps), d) := by rw [List.getElem?_zip_eq_some]; exact ⟨e, e2⟩
    obtain ⟨⟨a, fd, m, F⟩, hB, hS, hC⟩ := hd.at q
    refine ⟨a, fd, d, m, fun s us hu => ?_, fun np ks pm hm s us ws zs _ h1 h2 h3 => ?_, e2, F, ?_, hC⟩
    · obtain ⟨oc, od, kV, doc, pm, an, cdv, ct, osl, rfl, lk, hcd⟩ := F.ex
      exact .of_eq (hB kV doc pm an cdv ct us hu)
    · have z := hk.mem _ hm
      unfold KwP at z
      rw [e, e2] at z
      obtain ⟨oc, od, kV, doc, pm', an, cdv, ct, osl, rfl, lk, hcd⟩ := F.ex
      exact .of_eq (z kV doc pm' an cdv ct us ws zs h1 h2 h3)
    · exact C8.fnScope_by hS
  · obtain ⟨q1, q2, q3⟩ := hs k h b e
    have c1 := cl h _ (List.getElem?_eq_getElem q2)
    exact PySem.W.exm_ref c1.b c1.d c1.t q3

/-! ### .. as the top's reading tells them -/
def DefT (K : PySem.W.Frag) (x : Str) (st : Stmt) : Prop := ∃ (f : Addr) (oc : Value) (od an : Option Addr) (osl : Array (Option Value)) (kV doc pm cdv ct : Value),
  PySem.W.nsIn K mainGlobals x = some (some (.ref f)) ∧ K.lookup f = some ⟨oc, od, .func (PySem.W.fnOf x x (defArgs st) (defBody st) (defScope st) .none kV doc pm an cdv ct), osl⟩ ∧ PySem.W.codeIn K cdv x = true ∧ PySem.W.keepIn K (.ref f) = true
theorem defT_mk {K : PySem.W.Frag} {x : Str} {st : Stmt} {f : Addr} {oc : Value} {od an : Option Addr} {osl : Array (Option Value)} {kV doc pm cdv ct : Value}
    (a : PySem.W.nsIn K mainGlobals x = some (some (.ref f))) (l : K.lookup f = some ⟨oc, od, .func (PySem.W.fnOf x x (defArgs st) (defBody st) (defScope st) .none kV doc pm an cdv ct), osl⟩)
    (c : PySem.W.codeIn K cdv x = true) (k : PySem.W.keepIn K (.ref f) = true) : DefT K x st := ⟨f, oc, od, an, osl, kV, doc, pm, cdv, ct, a, l, c, k⟩
theorem DefT.b {K : PySem.W.Frag} {h : Heap} {mg : Str → Option Value} {x : Str} {st : Stmt} (t : DefT K x st) (X : K.In h) (G : h.Ns mainGlobals mg) : DefB K mg x st := by
  obtain ⟨f, oc, od, an, osl, kV, doc, pm, cdv, ct, a, l, c, k⟩ := t
  exact defB_mk X G a l c k
structure ClsT (K : PySem.W.Frag) (x : Str) (c : Addr) : Prop where
  a : PySem.W.nsIn K mainGlobals x = some (some (.ref c))
  k : PySem.W.keepIn K (.ref c) = true
  b' : PySem.W.subIn K (.ref c) (.type "BaseException") = some true
  t : PySem.W.typeIn K (.ref c) = some (.type "type")
  e : PySem.W.excIn K c [.type "ValueError", .type "Exception", .type "BaseException", .type "object"] "ValueError.__new__" = true
  d : PySem.W.hasDictIn K c = true
theorem ClsT.b {K : PySem.W.Frag} {h : Heap} {mg : Str → Option Value} {x : Str} {c : Addr} (t : ClsT K x c) (X : K.In h) (G : h.Ns mainGlobals mg) : ClsB K mg x c := clsB_mk X G t.a t.k t.b' t.t t.e t.d
def GlbT (K : PySem.W.Frag) (x : Str) (d : D) : Prop := ∃ v u, PySem.W.nsIn K mainGlobals x = some (some u) ∧ RelV v u ∧ ∀ wd H, Rep K wd H d v
theorem GlbT.b {K : PySem.W.Frag} {h : Heap} {mg : Str → Option Value} {x : Str} {d : D} (t : GlbT K x d) (X : K.In h) (G : h.Ns mainGlobals mg) : GlbB K mg x d := by
  obtain ⟨v, u, a, r, q⟩ := t
  exact ⟨v, u, PySem.W.mg_of X G a, r, q⟩
theorem glbT_tup2 {K : PySem.W.Frag} {x : Str} {p : Addr} {i j : Int} {t0 t1 : Tok} {od : Option Addr} {n : Nat} {sl : Array (Option Value)}
    (a : PySem.W.nsIn K mainGlobals x = some (some (.ref p))) (l : K.lookup p = some ⟨.type "tuple", od, .seq #[.int i t0, .int j t1] n, sl⟩) : GlbT K x (.tup [.int i, .int j]) :=
  ⟨.ref p, .ref p, a, rfl, fun wd H => .tup (vs := [.int i, .int j]) (by show 2 ≤ sizeLine; decide) (.inr ⟨_, _, _, l, rfl, rfl, (by show 2 ≤ sizeLine; decide), .cons ⟨_, rfl⟩ (.cons ⟨_, rfl⟩ .nil)⟩) (.cons (.int _) (.cons (.int _) .nil))⟩
end Ev
end

section
set_option Elab.async false
set_option linter.all false
set_option maxRecDepth 100000
set_option maxHeartbeats 4000000
/-! what a run leaves: rules from the end -/
namespace Ev
open PySem PySem.Spec PyProof.Rows L2
def WR {α : Type} (r : Res α) (Q : α → Sto → Prop) (X : Xc → Sto → Prop) : Prop := match r with
  | .ok a ρ => Q a ρ
  | .exc x ρ => X x ρ
  | .no => False
def WS (r : SR) (nx : Envr → Sto → Prop) (rt : Rv → Sto → Prop) (ex : Xc → Envr → Sto → Prop) (bk ct : Envr → Sto → Prop) : Prop := match r with
  | .nx env ρ => nx env ρ
  | .rt r ρ => rt r ρ
  | .exc x env ρ => ex x env ρ
  | .bk env ρ => bk env ρ
  | .ct env ρ => ct env ρ
  | .no => False
/-- no exception -/
abbrev X0 : Xc → Sto → Prop := fun _ _ => False
section
variable {α β : Type} {g : List D} {cf : Nat → List D → Sto → Res Rv} {sb : Nat → Nat → Option Bool} {wl : Nat} {env : Envr} {ρ : Sto} {Q : Rv → Sto → Prop} {QL : List D → Sto → Prop} {QQ : α → Sto → Prop} {X : Xc → Sto → Prop} {nx : Envr → Sto → Prop} {rt : Rv → Sto → Prop} {ex : Xc → Envr → Sto → Prop} {bk ct : Envr → Sto → Prop} {a b c e : E} {es ks : Es} {i j k f : Nat} {d : D} {o p : Bo} {s : S} {t u : Ss}
theorem WR.bind {r : Res β} {k : β → Sto → Res α} (h : WR r (fun a ρ => WR (k a ρ) QQ X) X) : WR (r.bind k) QQ X := by cases r <;> exact h
theorem WR.opt {o : Option α} {ρ : Sto} (h : ∃ a, o = some a ∧ QQ a ρ) : WR (Res.opt o ρ) QQ X := by
  obtain ⟨a, rfl, h⟩ := h
  exact h
theorem WR.mono {r : Res α} {Q' : α → Sto → Prop} {X' : Xc → Sto → Prop} (h : WR r QQ X) (i : ∀ a ρ, QQ a ρ → Q' a ρ) (j : ∀ x ρ, X x ρ → X' x ρ) : WR r Q' X' := by
  cases r with
  | ok a ρ => exact i _ _ h
  | exc x ρ => exact j _ _ h
  | no => exact h
theorem WS.mono {r : SR} {nx' : Envr → Sto → Prop} {rt' : Rv → Sto → Prop} {ex' : Xc → Envr → Sto → Prop} {bk' ct' : Envr → Sto → Prop} (h : WS r nx rt ex bk ct) (h1 : ∀ e ρ, nx e ρ → nx' e ρ) (h2 : ∀ e ρ, rt e ρ → rt' e ρ) (h3 : ∀ x e ρ, ex x e ρ → ex' x e ρ) (h4 : ∀ e ρ, bk e ρ → bk' e ρ) (h5 : ∀ e ρ, ct e ρ → ct' e ρ) : WS r nx' rt' ex' bk' ct' := by
  cases r with
  | nx => exact h1 _ _ h
  | rt => exact h2 _ _ h
  | exc => exact h3 _ _ _ h
  | bk => exact h4 _ _ h
  | ct => exact h5 _ _ h
  | no => exact h
/-- an answer that is known -/
theorem WR.of {r : Res α} {a : α} {ρ : Sto} (e : r = .ok a ρ) (h : QQ a ρ) : WR r QQ X := by rw [e]; exact h
theorem WR.ofX {r : Res α} {x : Xc} {ρ : Sto} (e : r = .exc x ρ) (h : X x ρ) : WR r QQ X := by rw [e]; exact h
theorem WR.eq {r : Res α} {a : α} {ρ : Sto} (h : WR r (fun b ρ' => b = a ∧ ρ' = ρ) fun _ _ => False) : r = .ok a ρ := by
  cases r with
  | ok b ρ' => obtain ⟨rfl, rfl⟩ := h; rfl
  | exc => exact False.elim h
  | no => exact False.elim h
theorem WR.eqX {r : Res α} {x : Xc} {ρ : Sto} (h : WR r (fun _ _ => False) fun y ρ' => y = x ∧ ρ' = ρ) : r = .exc x ρ := by
  cases r with
  | ok b ρ' => exact False.elim h
  | exc => obtain ⟨rfl, rfl⟩ := h; rfl
  | no => exact False.elim h

/-- a truth, two ways -/
def BT (o : Option Bool) (p q : Prop) : Prop := ∃ b, o = some b ∧ (b = true → p) ∧ (b = false → q)
theorem bt_t {p q : Prop} (h : p) : BT (some true) p q := ⟨true, rfl, fun _ => h, fun z => nomatch z⟩
theorem bt_f {p q : Prop} (h : q) : BT (some false) p q := ⟨false, rfl, fun z => (nomatch z), fun _ => h⟩
theorem bt_d {p q r : Prop} [Decidable r] (h1 : r → p) (h2 : ¬ r → q) : BT (some (decide r)) p q := ⟨_, rfl, fun e => h1 (of_decide_eq_true e), fun e => h2 (of_decide_eq_false e)⟩
theorem bt_b {p q : Prop} {b : Bool} (h1 : b = true → p) (h2 : b = false → q) : BT (some b) p q := ⟨_, rfl, h1, h2⟩
theorem bt_n {p q : Prop} {b : Bool} (h : BT (some b) q p) : BT (some (!b)) p q := by
  obtain ⟨_, e, h1, h2⟩ := h
  cases e
  exact ⟨_, rfl, fun e => h2 (by simpa using e), fun e => h1 (by simpa using e)⟩
/-- truths of values -/
def TV (ρ : Sto) (d : D) (p q : Prop) : Prop := BT (tru ρ d) p q
theorem tv_bl {p q : Prop} {b : Bool} (h : BT (some b) p q) : TV ρ (.bl b) p q := h
theorem tv_non {p q : Prop} (h : q) : TV ρ .non p q := bt_f h
theorem tv_int {p q : Prop} {i : Int} (h1 : i ≠ 0 → p) (h2 : i = 0 → q) : TV ρ (.int i) p q := ⟨i != 0, rfl, fun e => h1 (by simpa using e), fun e => h2 (by simpa using e)⟩
theorem tv_tup {p q : Prop} {xs : List D} (h : BT (some (!xs.isEmpty)) p q) : TV ρ (.tup xs) p q := h
theorem tv_lst {p q : Prop} {xs : List D} (h : BT (some (!xs.isEmpty)) p q) : TV ρ (.lst xs) p q := h

/-! ### expressions -/
theorem w_sh (e : env[i]? = some (some ⟨false, d⟩)) (h : Q ⟨d, .sh⟩ ρ) : WR (ev g cf (.var i) env ρ) Q X := by
  unfold ev; rw [e]; exact h
theorem w_al (e : env[i]? = some (some ⟨true, d⟩)) (h : Q ⟨d, .al⟩ ρ) : WR (ev g cf (.var i) env ρ) Q X := by
  unfold ev; rw [e]; exact h
theorem w_con (h : Q ⟨d, .sh⟩ ρ) : WR (ev g cf (.con d) env ρ) Q X := h
theorem w_glb (e : g[k]? = some d) (h : Q ⟨d, .sh⟩ ρ) : WR (ev g cf (.glb k) env ρ) Q X := by
  unfold ev; rw [e]; exact h
theorem w_nop (h : Q ⟨.non, .sh⟩ ρ) : WR (ev g cf .nop env ρ) Q X := h
/-- a operator's answer -/
def WB (o : Bo) (x y : D) (ρ : Sto) (Q : Rv → Sto → Prop) : Prop := ∃ r, bop o (der ρ x) (der ρ y) = some r ∧ Q r ρ
theorem w_bin (h : WR (ev g cf a env ρ) (fun x ρ1 => WR (ev g cf b env ρ1) (fun y ρ2 => WB o x.d y.d ρ2 Q) X) X) : WR (ev g cf (.bin o a b) env ρ) Q X := by
  unfold ev
  exact WR.bind (WR.mono h (fun x ρ1 h => WR.bind (WR.mono h (fun y ρ2 h => WR.opt h) fun _ _ q => q)) fun _ _ q => q)
theorem wb_add {i j : Int} (h : Q ⟨.int (i + j), .sh⟩ ρ) : WB .add (.int i) (.int j) ρ Q := ⟨_, rfl, h⟩
theorem wb_sub {i j : Int} (h : Q ⟨.int (i - j), .sh⟩ ρ) : WB .sub (.int i) (.int j) ρ Q := ⟨_, rfl, h⟩
def MulOk (i j : Int) : Prop := i.natAbs.log2 + j.natAbs.log2 < 1000000
theorem wb_mul {i j : Int} (h : Q ⟨.int (i * j), .sh⟩ ρ) (hm : MulOk i j) : WB .mul (.int i) (.int j) ρ Q := ⟨⟨.int (i * j), .sh⟩, by exact if_pos hm, h⟩
def DivOk (j : Int) : Prop := j ≠ 0 ∧ j.natAbs.log2 < 9000
theorem wb_fdiv {i j : Int} (h : Q ⟨.int (i.fdiv j), .sh⟩ ρ) (hm : DivOk j) : WB .fdiv (.int i) (.int j) ρ Q := ⟨⟨.int (i.fdiv j), .sh⟩, by exact if_pos hm, h⟩
theorem wb_mod {i j : Int} (h : Q ⟨.int (i.fmod j), .sh⟩ ρ) (hm : j ≠ 0) : WB .mod (.int i) (.int j) ρ Q := ⟨⟨.int (i.fmod j), .sh⟩, by exact if_pos hm, h⟩
theorem wb_pow {i j : Int} (h : Q ⟨.int (i ^ j.toNat), .sh⟩ ρ) (hm : 0 ≤ j ∧ j ≤ 1000000 ∧ i.natAbs < 2 ^ 64) : WB .pow (.int i) (.int j) ρ Q := ⟨⟨.int (i ^ j.toNat), .sh⟩, by exact if_pos hm, h⟩
theorem wb_and {i j : Int} (h : Q ⟨.int (Builtin.bitAnd i j), .sh⟩ ρ) : WB .and (.int i) (.int j) ρ Q := ⟨_, rfl, h⟩
theorem wb_xor {i j : Int} (h : Q ⟨.int (Builtin.bitXor i j), .sh⟩ ρ) : WB .xor (.int i) (.int j) ρ Q := ⟨_, rfl, h⟩
theorem wb_shr {i j : Int} (h : Q ⟨.int (i / 2 ^ j.toNat), .sh⟩ ρ) (hm : 0 ≤ j) : WB .shr (.int i) (.int j) ρ Q := ⟨⟨.int (i / 2 ^ j.toNat), .sh⟩, by exact if_pos hm, h⟩
theorem wb_addT {xs ys : List D} (h : Q ⟨.tup (xs ++ ys), .sh⟩ ρ) (hm : xs.length + ys.length ≤ sizeLine) : WB .add (.tup xs) (.tup ys) ρ Q := ⟨⟨.tup (xs ++ ys), .sh⟩, by exact if_pos hm, h⟩
theorem wb_addL {xs ys : List D} (h : Q ⟨.lst (xs ++ ys), .fr⟩ ρ) (hm : xs.length + ys.length ≤ sizeLine) : WB .add (.lst xs) (.lst ys) ρ Q := ⟨⟨.lst (xs ++ ys), .fr⟩, by exact if_pos hm, h⟩
theorem wb_mulL {xs : List D} {k : Int} (h : Q ⟨.lst (List.replicate k.toNat xs).flatten, .fr⟩ ρ) (hm : 0 ≤ k ∧ k < 2 ^ 62 ∧ xs.length * k.toNat ≤ sizeLine) : WB .mul (.lst xs) (.int k) ρ Q := ⟨⟨.lst (List.replicate k.toNat xs).flatten, .fr⟩, by exact if_pos hm, h⟩
theorem w_neg (h : WR (ev g cf a env ρ) (fun x ρ1 => ∃ i, x.d = .int i ∧ Q ⟨.int (-i), .sh⟩ ρ1) X) : WR (ev g cf (.neg a) env ρ) Q X := by
  unfold ev
  refine WR.bind (WR.mono h (fun x ρ1 ⟨i, e, h⟩ => ?_) fun _ _ q => q)
  rw [e]; exact h
theorem w_not (h : WR (ev g cf a env ρ) (fun x ρ1 => ∃ b, tru ρ1 x.d = some b ∧ Q ⟨.bl (!b), .sh⟩ ρ1) X) : WR (ev g cf (.not a) env ρ) Q X := by
  unfold ev
  refine WR.bind (WR.mono h (fun x ρ1 ⟨i, e, h⟩ => ?_) fun _ _ q => q)
  rw [e]; exact h
/-- a comparison's answer -/
def WC (o : Co) (x y : D) (ρ : Sto) (Q : Bool → Prop) : Prop := ∃ r, cop o (der ρ x) (der ρ y) = some r ∧ Q r
theorem w_cmp {o : Co} (h : WR (ev g cf a env ρ) (fun x ρ1 => WR (ev g cf b env ρ1) (fun y ρ2 => WC o x.d y.d ρ2 fun r => Q ⟨.bl r, .sh⟩ ρ2) X) X) : WR (ev g cf (.cmp o a b) env ρ) Q X := by
  unfold ev
  refine WR.bind (WR.mono h (fun x ρ1 h => WR.bind (WR.mono h (fun y ρ2 ⟨r, e, h⟩ => ?_) fun _ _ q => q)) fun _ _ q => q)
  rw [e]; exact h
theorem w_chn {o p : Co} (h : WR (ev g cf a env ρ) (fun x ρ1 => WR (ev g cf b env ρ1) (fun y ρ2 => WC o x.d y.d ρ2 fun r => BT (some r) (WR (ev g cf c env ρ2) (fun z ρ3 => WC p y.d z.d ρ3 fun r => Q ⟨.bl r, .sh⟩ ρ3) X) (Q ⟨.bl false, .sh⟩ ρ2)) X) X) : WR (ev g cf (.chn o p a b c) env ρ) Q X := by
  unfold ev
  refine WR.bind (WR.mono h (fun x ρ1 h => WR.bind (WR.mono h (fun y ρ2 ⟨r, e, h⟩ => ?_) fun _ _ q => q)) fun _ _ q => q)
  rw [e]
  obtain ⟨_, e2, h1, h2⟩ := h
  cases e2
  cases r with
  | true =>
    refine WR.bind (WR.mono (h1 rfl) (fun z ρ3 ⟨r, e, h⟩ => ?_) fun _ _ q => q)
    rw [e]; exact h
  | false => exact h2 rfl
theorem wc_lt {i j : Int} {Q : Bool → Prop} (h : Q (decide (i < j))) : WC .lt (.int i) (.int j) ρ Q := ⟨_, rfl, h⟩
theorem wc_le {i j : Int} {Q : Bool → Prop} (h : Q (decide (i ≤ j))) : WC .le (.int i) (.int j) ρ Q := ⟨_, rfl, h⟩
theorem wc_gt {i j : Int} {Q : Bool → Prop} (h : Q (decide (j < i))) : WC .gt (.int i) (.int j) ρ Q := ⟨_, rfl, h⟩
theorem wc_ge {i j : Int} {Q : Bool → Prop} (h : Q (decide (j ≤ i))) : WC .ge (.int i) (.int j) ρ Q := ⟨_, rfl, h⟩
theorem eqv_int (i j : Int) : eqv (.int i) (.int j) = decide (i = j) := by
  show PyData.eqv (.int i) (.int j) = _
  unfold PyData.eqv
  rfl
theorem eqv_str (i j : Str) : eqv (.str i) (.str j) = decide (i = j) := by
  show PyData.eqv (.str i) (.str j) = _
  unfold PyData.eqv
  by_cases h : i = j
  · rw [decide_eq_true h, h]; exact beq_self_eq_true j
  · rw [decide_eq_false h]; exact beq_eq_false_iff_ne.mpr h
theorem wc_eqI {i j : Int} {Q : Bool → Prop} (h : Q (decide (i = j))) : WC .eq (.int i) (.int j) ρ Q := ⟨decide (i = j), by rw [← eqv_int]; rfl, h⟩
theorem wc_neI {i j : Int} {Q : Bool → Prop} (h : Q (!decide (i = j))) : WC .ne (.int i) (.int j) ρ Q := ⟨!decide (i = j), by rw [← eqv_int]; rfl, h⟩
theorem wc_eq {x y : D} {Q : Bool → Prop} (h1 : okD 60 (der ρ x) = true) (h2 : okD 60 (der ρ y) = true) (h : Q (eqv (der ρ x) (der ρ y))) : WC .eq x y ρ Q := ⟨eqv (der ρ x) (der ρ y), by show (if (okD 60 (der ρ x) && okD 60 (der ρ y)) = true then _ else _) = _; rw [h1, h2]; rfl, h⟩
theorem wc_ne {x y : D} {Q : Bool → Prop} (h1 : okD 60 (der ρ x) = true) (h2 : okD 60 (der ρ y) = true) (h : Q (!eqv (der ρ x) (der ρ y))) : WC .ne x y ρ Q := ⟨!eqv (der ρ x) (der ρ y), by show (if (okD 60 (der ρ x) && okD 60 (der ρ y)) = true then _ else _) = _; rw [h1, h2]; rfl, h⟩
theorem wc_isN {x : D} {b : Bool} {Q : Bool → Prop} (e : cop .isN (der ρ x) .non = some b) (h : Q b) : WC .isN x .non ρ Q := ⟨b, e, h⟩
theorem wc_notN {x : D} {b : Bool} {Q : Bool → Prop} (e : cop .notN (der ρ x) .non = some b) (h : Q b) : WC .notN x .non ρ Q := ⟨b, e, h⟩
theorem w_andE (h : WR (ev g cf a env ρ) (fun x ρ1 => TV ρ1 x.d (WR (ev g cf b env ρ1) Q X) (Q x ρ1)) X) : WR (ev g cf (.and a b) env ρ) Q X := by
  unfold ev
  refine WR.bind (WR.mono h (fun x ρ1 ⟨b, e, h1, h2⟩ => ?_) fun _ _ q => q)
  rw [e]
  cases b with
  | true => exact h1 rfl
  | false => exact h2 rfl
theorem w_orE (h : WR (ev g cf a env ρ) (fun x ρ1 => TV ρ1 x.d (Q x ρ1) (WR (ev g cf b env ρ1) Q X)) X) : WR (ev g cf (.or a b) env ρ) Q X := by
  unfold ev
  refine WR.bind (WR.mono h (fun x ρ1 ⟨b, e, h1, h2⟩ => ?_) fun _ _ q => q)
  rw [e]
  cases b with
  | true => exact h1 rfl
  | false => exact h2 rfl
theorem w_ite (h : WR (ev g cf c env ρ) (fun x ρ1 => TV ρ1 x.d (WR (ev g cf a env ρ1) Q X) (WR (ev g cf b env ρ1) Q X)) X) : WR (ev g cf (.ite c a b) env ρ) Q X := by
  unfold ev
  refine WR.bind (WR.mono h (fun x ρ1 ⟨b, e, h1, h2⟩ => ?_) fun _ _ q => q)
  rw [e]
  cases b with
  | true => exact h1 rfl
  | false => exact h2 rfl
theorem w_nil (h : QL [] ρ) : WR (evs g cf .nil env ρ) QL X := h
theorem w_cons (h : WR (ev g cf a env ρ) (fun r ρ1 => r.fl ≠ .al ∧ WR (evs g cf es env ρ1) (fun ds ρ2 => QL (r.d :: ds) ρ2) X) X) : WR (evs g cf (.cons a es) env ρ) QL X := by
  unfold evs
  refine WR.bind (WR.mono h (fun x ρ1 ⟨n, h⟩ => ?_) fun _ _ q => q)
  rw [if_neg n]
  exact WR.bind h
theorem nal_sh {p : Prop} {d : D} (h : p) : (⟨d, .sh⟩ : Rv).fl ≠ .al ∧ p := ⟨by simp, h⟩
theorem nal_fr {p : Prop} {d : D} (h : p) : (⟨d, .fr⟩ : Rv).fl ≠ .al ∧ p := ⟨by simp, h⟩
theorem w_tup (h : WR (evs g cf es env ρ) (fun ds ρ1 => ds.length ≤ sizeLine ∧ Q ⟨.tup ds, .sh⟩ ρ1) X) : WR (ev g cf (.tup es) env ρ) Q X := by
  unfold ev
  refine WR.bind (WR.mono h (fun x ρ1 ⟨n, h⟩ => ?_) fun _ _ q => q)
  rw [if_pos n]; exact h
theorem w_lst (h : WR (evs g cf es env ρ) (fun ds ρ1 => ds.length ≤ sizeLine ∧ Q ⟨.lst ds, .fr⟩ ρ1) X) : WR (ev g cf (.lst es) env ρ) Q X := by
  unfold ev
  refine WR.bind (WR.mono h (fun x ρ1 ⟨n, h⟩ => ?_) fun _ _ q => q)
  rw [if_pos n]; exact h
def WI (x y : D) (ρ : Sto) (Q : Rv → Sto → Prop) : Prop := ∃ r, idx (der ρ x) y = some r ∧ Q r ρ
theorem w_ix (h : WR (ev g cf a env ρ) (fun x ρ1 => WR (ev g cf b env ρ1) (fun y ρ2 => WI x.d y.d ρ2 Q) X) X) : WR (ev g cf (.ix a b) env ρ) Q X := by
  unfold ev
  exact WR.bind (WR.mono h (fun x ρ1 h => WR.bind (WR.mono h (fun y ρ2 h => WR.opt h) fun _ _ q => q)) fun _ _ q => q)
theorem wi_tup {xs : List D} {i : Int} (e : atI xs i = some d) (h : Q ⟨d, .sh⟩ ρ) : WI (.tup xs) (.int i) ρ Q := ⟨⟨d, .sh⟩, by show (atI xs i).map _ = _; rw [e]; rfl, h⟩
theorem wi_lst {xs : List D} {i : Int} (e : atI xs i = some d) (h : Q ⟨d, .sh⟩ ρ) : WI (.lst xs) (.int i) ρ Q := ⟨⟨d, .sh⟩, by show (atI xs i).map _ = _; rw [e]; rfl, h⟩
theorem wi_ro {xs : List D} {i : Int} (e : atI xs i = some d) (h : Q ⟨d, .sh⟩ ρ) : WI (.ro xs) (.int i) ρ Q := ⟨⟨d, .sh⟩, by show (atI xs i).map _ = _; rw [e]; rfl, h⟩
def WL (x : D) (lo hi : Option Int) (ρ : Sto) (Q : Rv → Sto → Prop) : Prop := ∃ r, slc (der ρ x) lo hi = some r ∧ Q r ρ
theorem w_sl {hi lo : E} (h : WR (ev g cf a env ρ) (fun x ρ1 => WR (ev g cf lo env ρ1) (fun l ρ2 => ∃ l', part l.d = some l' ∧ WR (ev g cf hi env ρ2) (fun h ρ3 => ∃ h', part h.d = some h' ∧ WL x.d l' h' ρ3 Q) X) X) X) : WR (ev g cf (.sl a lo hi) env ρ) Q X := by
  unfold ev
  refine WR.bind (WR.mono h (fun x ρ1 h => WR.bind (WR.mono h (fun y ρ2 ⟨l', e, h⟩ => ?_) fun _ _ q => q)) fun _ _ q => q)
  rw [e]
  refine WR.bind (WR.mono h (fun z ρ3 ⟨h', e, h⟩ => ?_) fun _ _ q => q)
  rw [e]
  exact WR.opt h
theorem w_call (h : WR (evs g cf es env ρ) (fun ds ρ1 => WR (cf f ds ρ1) Q X) X) : WR (ev g cf (.call f es) env ρ) Q X := by
  unfold ev; exact WR.bind h
theorem w_callk {pm : List Nat} (h : WR (evs g cf es env ρ) (fun ds ρ1 => WR (evs g cf ks env ρ1) (fun us ρ2 => ∃ ds', perm pm (ds ++ us) = some ds' ∧ WR (cf f ds' ρ2) Q X) X) X) : WR (ev g cf (.callk f pm es ks) env ρ) Q X := by
  unfold ev
  refine WR.bind (WR.mono h (fun x ρ1 h => WR.bind (WR.mono h (fun y ρ2 ⟨l', e, h⟩ => ?_) fun _ _ q => q)) fun _ _ q => q)
  rw [e]; exact h
def WF (b : Bi) (ds : List D) (ρ : Sto) (Q : Rv → Sto → Prop) : Prop := ∃ r, bfn b (ds.map (der ρ)) = some r ∧ Q r ρ
theorem w_bi {b : Bi} (h : WR (evs g cf es env ρ) (fun ds ρ1 => WF b ds ρ1 Q) X) : WR (ev g cf (.bi b es) env ρ) Q X := by
  unfold ev
  exact WR.bind (WR.mono h (fun x ρ1 h => WR.opt h) fun _ _ q => q)
theorem w_bi1 {b : Bi} (h : WR (ev g cf a env ρ) (fun x ρ1 => WF b [x.d] ρ1 Q) X) : WR (ev g cf (.bi1 b a) env ρ) Q X := by
  unfold ev
  exact WR.bind (WR.mono h (fun x ρ1 h => WR.opt h) fun _ _ q => q)
theorem w_isi {t : Tn} (h : WR (ev g cf a env ρ) (fun x ρ1 => ∃ u, tyN x.d = some u ∧ Q ⟨.bl (isT u t), .sh⟩ ρ1) X) : WR (ev g cf (.isi a t) env ρ) Q X := by
  unfold ev
  refine WR.bind (WR.mono h (fun x ρ1 ⟨u, e, h⟩ => ?_) fun _ _ q => q)
  rw [e]; exact h
theorem w_pop (h : WR (ev g cf a env ρ) (fun x ρ1 => ∃ n xs d, x.d = .loc n ∧ ρ1[n]? = some (.lst xs) ∧ xs.getLast? = some d ∧ Q ⟨d, .sh⟩ (ρ1.set n (.lst xs.dropLast))) X) : WR (ev g cf (.pop a) env ρ) Q X := by
  unfold ev
  refine WR.bind (WR.mono h (fun x ρ1 ⟨n, xs, d, e1, e2, e3, h⟩ => ?_) fun _ _ q => q)
  rw [e1]; show WR (match ρ1[n]? with | some (.lst xs) => _ | none => _) _ _; rw [e2]; show WR (match xs.getLast? with | some d => _ | none => _) _ _; rw [e3]; exact h
theorem w_lc {own : List Nat} {t : Tg} {it : Iw} (h : WR (evI g cf it true env ρ) (fun ds ρ1 => ds.length ≤ sizeLine ∧ WR (lcLoop (lcTurn g cf env own t c e) ds ρ1) (fun ys ρ2 => Q ⟨.lst ys, .fr⟩ ρ2) X) X) : WR (ev g cf (.lc own t it c e) env ρ) Q X := by
  rw [ev_lc]
  refine WR.bind (WR.mono h (fun x ρ1 ⟨n, h⟩ => ?_) fun _ _ q => q)
  rw [if_pos n]
  exact WR.bind h
theorem w_lc0 {fn : D → Sto → Res (Option D)} (h : QL [] ρ) : WR (lcLoop fn [] ρ) QL X := h
theorem w_lc1 {fn : D → Sto → Res (Option D)} {d : D} {r : List D} (h : WR (fn d ρ) (fun o ρ1 => WR (lcLoop fn r ρ1) (fun ys ρ2 => QL (o.toList ++ ys) ρ2) X) X) : WR (lcLoop fn (d :: r) ρ) QL X := by
  unfold lcLoop
  exact WR.bind (WR.mono h (fun x ρ1 h => WR.bind h) fun _ _ q => q)
theorem WR.nox {r : Res α} (h : WR r QQ X0) : WR r.nox QQ X := by
  cases r with
  | ok => exact h
  | exc => exact False.elim h
  | no => exact h
theorem w_turn0 {own : List Nat} {t : Tg} {d : D} {env' : Envr} {QO : Option D → Sto → Prop} (ea : asgT t d (wipeE env own) = some env') (h : WR (ev g cf e env' ρ) (fun r ρ2 => r.fl ≠ .al ∧ QO (some r.d) ρ2) X0) : WR (lcTurn g cf env own t .nop e d ρ) QO X := by
  unfold lcTurn
  rw [ea]
  show WR ((ev g cf e env' ρ).nox.bind _) _ _
  refine WR.bind (WR.mono (WR.nox h) (fun r ρ1 ⟨n, h⟩ => ?_) fun _ _ q => q)
  rw [if_neg n]; exact h
theorem w_turn {own : List Nat} {t : Tg} {d : D} {env' : Envr} {QO : Option D → Sto → Prop} (hn : isNop c = false) (ea : asgT t d (wipeE env own) = some env') (h : WR (ev g cf c env' ρ) (fun b ρ1 => TV ρ1 b.d (WR (ev g cf e env' ρ1) (fun r ρ2 => r.fl ≠ .al ∧ QO (some r.d) ρ2) X0) (QO none ρ1)) X0) : WR (lcTurn g cf env own t c e d ρ) QO X := by
  unfold lcTurn
  rw [ea]
  dsimp only
  refine WR.bind (WR.mono (WR.nox h) (fun b ρ1 ⟨bb, e, h1, h2⟩ => ?_) fun _ _ q => q)
  rw [hn, if_neg (by decide), e]
  cases bb with
  | true =>
    refine WR.bind (WR.mono (WR.nox (h1 rfl)) (fun r ρ1 ⟨n, h⟩ => ?_) fun _ _ q => q)
    rw [if_neg n]; exact h
  | false => exact h2 rfl
theorem w_over {al : Bool} (h : WR (ev g cf a env ρ) (fun x ρ1 => ¬ (x.fl = .al ∧ al = false) ∧ ∃ ds, itemsOf x.d = some ds ∧ QL ds ρ1) X) : WR (evI g cf (.over a) al env ρ) QL X := by
  unfold evI
  refine WR.bind (WR.mono h (fun x ρ1 ⟨n, ds, e, h⟩ => ?_) fun _ _ q => q)
  rw [if_neg n, e]; exact h
theorem w_rng1 {al : Bool} {a : E} (h : WR (ev g cf a env ρ) (fun r ρ1 => r.fl ≠ .al ∧ ∃ j : Int, r.d = .int j ∧ (-(2 ^ 62) ≤ j ∧ j < 2 ^ 62) ∧ QL (rngD 0 j.toNat) ρ1) X) : WR (evI g cf (.rng (.cons a .nil)) al env ρ) QL X := by
  unfold evI
  refine WR.bind (w_cons (WR.mono h (fun r ρ1 ⟨n, j, e, b, h⟩ => ⟨n, w_nil ?_⟩) fun _ _ q => q))
  rw [e]; dsimp only; rw [if_pos b]; exact h
theorem w_enum {al : Bool} {a : E} (h : WR (ev g cf a env ρ) (fun r ρ1 => r.fl ≠ .al ∧ ∃ xs, r.d = .lst xs ∧ QL (enumD 0 xs) ρ1) X) : WR (evI g cf (.enum (.cons a .nil)) al env ρ) QL X := by
  unfold evI
  refine WR.bind (w_cons (WR.mono h (fun r ρ1 ⟨n, j, e, h⟩ => ⟨n, w_nil ?_⟩) fun _ _ q => q))
  rw [e]; exact h
theorem w_zip {al : Bool} {a b : E} (h : WR (ev g cf a env ρ) (fun r ρ1 => r.fl ≠ .al ∧ WR (ev g cf b env ρ1) (fun s ρ2 => s.fl ≠ .al ∧ ((∃ xs ys, r.d = .lst xs ∧ s.d = .lst ys ∧ QL (zipD xs ys) ρ2) ∨ ∃ xs ys, r.d = .tup xs ∧ s.d = .tup ys ∧ QL (zipD xs ys) ρ2)) X) X) : WR (evI g cf (.zip (.cons a (.cons b .nil))) al env ρ) QL X := by
  unfold evI
  refine WR.bind (w_cons (WR.mono h (fun r ρ1 ⟨n, h⟩ => ⟨n, w_cons (WR.mono h (fun s ρ2 ⟨n2, h⟩ => ⟨n2, w_nil ?_⟩) fun _ _ q => q)⟩) fun _ _ q => q))
  rcases h with ⟨xs, ys, e1, e2, h⟩ | ⟨xs, ys, e1, e2, h⟩
  · rw [e1, e2]; exact h
  · rw [e1, e2]; exact h

/-! ### statements -/
theorem WS.ofR {r : Res α} {k : α → Sto → SR} (h : WR r (fun a ρ => WS (k a ρ) nx rt ex bk ct) (fun x ρ => ex x env ρ)) : WS (ofR r env k) nx rt ex bk ct := by cases r <;> exact h
theorem s_nil (h : nx env ρ) : WS (exSs g cf sb wl .nil env ρ) nx rt ex bk ct := h
theorem s_cons (h : WS (exS g cf sb wl s env ρ) (fun e ρ => WS (exSs g cf sb wl t e ρ) nx rt ex bk ct) rt ex bk ct) : WS (exSs g cf sb wl (.cons s t) env ρ) nx rt ex bk ct := by
  unfold exSs
  cases e : exS g cf sb wl s env ρ <;> rw [e] at h <;> exact h
theorem s_frz {env' : Envr} (e : frzR i env = env') (h : WS (exSs g cf sb wl t env' ρ) nx rt ex bk ct) : WS (exSs g cf sb wl (.frz i t) env ρ) nx rt ex bk ct := by subst e; exact h
theorem s_prm {p : Envr × Sto} (e : prmR i env ρ = p) (h : WS (exSs g cf sb wl t p.1 p.2) nx rt ex bk ct) : WS (exSs g cf sb wl (.prm i t) env ρ) nx rt ex bk ct := by subst e; exact h
theorem s_asg (h : WR (ev g cf e env ρ) (fun r ρ1 => r.fl ≠ .al ∧ nx (putR i env r) ρ1) fun x ρ => ex x env ρ) : WS (exS g cf sb wl (.asg i e) env ρ) nx rt ex bk ct := by
  unfold exS
  refine WS.ofR (WR.mono h (fun r ρ1 ⟨n, h⟩ => ?_) fun _ _ q => q)
  rw [if_neg n]; exact h
theorem s_tgt {t : Tg} (h : WR (ev g cf e env ρ) (fun r ρ1 => r.fl = .sh ∧ ∃ env', asgT t r.d env = some env' ∧ nx env' ρ1) fun x ρ => ex x env ρ) : WS (exS g cf sb wl (.tgt t e) env ρ) nx rt ex bk ct := by
  unfold exS
  refine WS.ofR (WR.mono h (fun r ρ1 ⟨n, env', ea, h⟩ => ?_) fun _ _ q => q)
  rw [if_pos n, ea]; exact h
theorem s_par (h : WR (ev g cf a env ρ) (fun x ρ1 => WR (ev g cf b env ρ1) (fun y ρ2 => x.fl ≠ .al ∧ y.fl ≠ .al ∧ nx (putR j (putR i env x) y) ρ2) fun x ρ => ex x env ρ) fun x ρ => ex x env ρ) : WS (exS g cf sb wl (.par i j a b) env ρ) nx rt ex bk ct := by
  unfold exS
  refine WS.ofR (WR.mono h (fun r ρ1 h => WS.ofR (WR.mono h (fun r ρ1 ⟨n1, n2, h⟩ => ?_) fun _ _ q => q)) fun _ _ q => q)
  rw [if_neg (fun q => q.elim n1 n2)]; exact h
theorem s_exp (h : WR (ev g cf e env ρ) (fun r ρ1 => nx env ρ1) fun x ρ => ex x env ρ) : WS (exS g cf sb wl (.exp e) env ρ) nx rt ex bk ct := by
  unfold exS
  exact WS.ofR h
theorem s_ret (h : WR (ev g cf e env ρ) (fun r ρ1 => r.fl ≠ .al ∧ rt r ρ1) fun x ρ => ex x env ρ) : WS (exS g cf sb wl (.ret e) env ρ) nx rt ex bk ct := by
  unfold exS
  refine WS.ofR (WR.mono h (fun r ρ1 ⟨n, h⟩ => ?_) fun _ _ q => q)
  rw [if_neg n]; exact h
theorem s_retv (e : env[i]? = some (some ⟨false, d⟩)) (h : rt ⟨d, .sh⟩ ρ) : WS (exS g cf sb wl (.retv i) env ρ) nx rt ex bk ct := by unfold exS; rw [e]; exact h
theorem s_reto (e : env[i]? = some (some ⟨true, d⟩)) (h : rt ⟨d, .fr⟩ ρ) : WS (exS g cf sb wl (.retv i) env ρ) nx rt ex bk ct := by unfold exS; rw [e]; exact h
theorem s_retN (h : rt ⟨.non, .sh⟩ ρ) : WS (exS g cf sb wl .retN env ρ) nx rt ex bk ct := h
theorem s_pas (h : nx env ρ) : WS (exS g cf sb wl .pas env ρ) nx rt ex bk ct := h
theorem s_brk (h : bk env ρ) : WS (exS g cf sb wl .brk env ρ) nx rt ex bk ct := h
theorem s_cnt (h : ct env ρ) : WS (exS g cf sb wl .cnt env ρ) nx rt ex bk ct := h
theorem s_ifs (h : WR (ev g cf c env ρ) (fun x ρ1 => TV ρ1 x.d (WS (exSs g cf sb wl t env ρ1) nx rt ex bk ct) (WS (exSs g cf sb wl u env ρ1) nx rt ex bk ct)) fun x ρ => ex x env ρ) : WS (exS g cf sb wl (.ifs c t u) env ρ) nx rt ex bk ct := by
  unfold exS
  refine WS.ofR (WR.mono h (fun x ρ1 ⟨b, e, h1, h2⟩ => ?_) fun _ _ q => q)
  rw [e]
  cases b with
  | true => exact h1 rfl
  | false => exact h2 rfl
theorem s_rai (h : WR (ev g cf e env ρ) (fun r ρ1 => ex ⟨k, none⟩ env ρ1) fun x ρ => ex x env ρ) : WS (exS g cf sb wl (.rai k e) env ρ) nx rt ex bk ct := by
  unfold exS
  exact WS.ofR h
theorem s_tri {hs : List (Nat × Hb)} (h : WS (exSs g cf sb wl t env ρ) nx rt (fun x e ρ => WS (hndR sb x e ρ hs) nx rt ex bk ct) bk ct) : WS (exS g cf sb wl (.tri t hs) env ρ) nx rt ex bk ct := by
  unfold exS
  cases e : exSs g cf sb wl t env ρ <;> rw [e] at h <;> exact h
theorem s_for {t : Tg} {it : Iw} {u : Ss} (h : WR (evI g cf it false env ρ) (fun ds ρ1 => WS (forLoop t (exSs g cf sb wl u) ds env ρ1) nx rt ex bk ct) fun x ρ => ex x env ρ) : WS (exS g cf sb wl (.for_ t it u) env ρ) nx rt ex bk ct := by
  unfold exS
  exact WS.ofR h
theorem s_for0 {t : Tg} {body : Envr → Sto → SR} (h : nx env ρ) : WS (forLoop t body [] env ρ) nx rt ex bk ct := h
theorem s_for1 {t : Tg} {body : Envr → Sto → SR} {d : D} {r : List D} {env' : Envr} (ea : asgT t d env = some env') (h : WS (body env' ρ) (fun e ρ => WS (forLoop t body r e ρ) nx rt ex bk ct) rt ex nx (fun e ρ => WS (forLoop t body r e ρ) nx rt ex bk ct)) : WS (forLoop t body (d :: r) env ρ) nx rt ex bk ct := by
  unfold forLoop
  rw [ea]
  dsimp only
  cases e : body env' ρ <;> rw [e] at h <;> exact h
/-- a for over any list: what stays true -/
theorem s_forI {t : Tg} {body : Envr → Sto → SR} (I : Nat → Envr → Sto → Prop) {ds : List D} (h0 : I 0 env ρ)
    (h1 : ∀ i d env ρ, ds[i]? = some d → I i env ρ → ∃ env', asgT t d env = some env' ∧ WS (body env' ρ) (I (i + 1)) rt ex nx (I (i + 1))) (h2 : ∀ env ρ, I ds.length env ρ → nx env ρ) : WS (forLoop t body ds env ρ) nx rt ex bk ct := by
  induction ds generalizing I env ρ with
  | nil => exact h2 env ρ h0
  | cons d r ih =>
    obtain ⟨env', ea, h⟩ := h1 0 d env ρ rfl h0
    refine s_for1 ea (WS.mono h (fun e ρ q => ?_) (fun _ _ q => q) (fun _ _ _ q => q) (fun _ _ q => q) (fun e ρ q => ?_))
    · exact ih (fun i => I (i + 1)) q (fun i d env ρ e q => h1 (i + 1) d env ρ e q) h2
    · exact ih (fun i => I (i + 1)) q (fun i d env ρ e q => h1 (i + 1) d env ρ e q) h2
/-- a while: a measure below the fuel -/
theorem s_whiI (I : Nat → Envr → Sto → Prop) {c : E} {u : Ss} {m : Nat} (h0 : I m env ρ) (hm : m < wl)
    (h1 : ∀ m env ρ, I m env ρ → WR (ev g cf c env ρ) (fun x ρ1 => TV ρ1 x.d (0 < m ∧ WS (exSs g cf sb wl u env ρ1) (I (m - 1)) rt ex nx (I (m - 1))) (nx env ρ1)) fun x ρ => ex x env ρ) : WS (exS g cf sb wl (.whi c u) env ρ) nx rt ex bk ct := by
  unfold exS
  have go : ∀ (n m : Nat) (env : Envr) (ρ : Sto), m < n → I m env ρ → WS (whiLoop (ev g cf c) (exSs g cf sb wl u) n env ρ) nx rt ex bk ct := by
    intro n
    induction n with
    | zero => intro m env ρ h; omega
    | succ n ih =>
      intro m env ρ hm q
      unfold whiLoop
      refine WS.ofR (WR.mono (h1 m env ρ q) (fun x ρ1 ⟨b, e, h1, h2⟩ => ?_) fun _ _ q => q)
      rw [e]
      cases b with
      | true =>
        obtain ⟨hp, h⟩ := h1 rfl
        dsimp only
        cases e2 : exSs g cf sb wl u env ρ1 with
        | nx e' ρ' => rw [e2] at h; exact ih (m - 1) e' ρ' (by omega) h
        | ct e' ρ' => rw [e2] at h; exact ih (m - 1) e' ρ' (by omega) h
        | bk => rw [e2] at h; exact h
        | rt => rw [e2] at h; exact h
        | exc => rw [e2] at h; exact h
        | no => rw [e2] at h; exact h
      | false => exact h2 rfl
  exact go wl m env ρ hm h0
theorem s_app {xs : List D} (e1 : env[i]? = some (some ⟨true, .lst xs⟩)) (h : WR (ev g cf e env ρ) (fun r ρ1 => r.fl ≠ .al ∧ xs.length < sizeLine ∧ nx (env.set i (some ⟨true, .lst (xs ++ [r.d])⟩)) ρ1) fun x ρ => ex x env ρ) : WS (exS g cf sb wl (.app i e) env ρ) nx rt ex bk ct := by
  unfold exS appR
  rw [e1]
  refine WS.ofR (WR.mono h (fun r ρ1 ⟨n, m, h⟩ => ?_) fun _ _ q => q)
  rw [if_neg n, if_pos m]; exact h
theorem s_rev {xs : List D} (e1 : env[i]? = some (some ⟨true, .lst xs⟩)) (h : nx (env.set i (some ⟨true, .lst xs.reverse⟩)) ρ) : WS (exS g cf sb wl (.rev i) env ρ) nx rt ex bk ct := by
  unfold exS revR
  rw [e1]; exact h
theorem WR.body {r : SR} (h : WS r (fun _ ρ => Q ⟨.non, .sh⟩ ρ) Q (fun x _ ρ => X x ρ) (fun _ _ => False) (fun _ _ => False)) : WR (bodyR r) Q X := by cases r <;> exact h
end
/-- a def's run, from its body -/
theorem WR.run {g : List D} {sb : Nat → Nat → Option Bool} {wl k f : Nat} {fs : List (Nat × Ss)} {ds : List D} {ρ : Sto} {Q : Rv → Sto → Prop} {X : Xc → Sto → Prop} {n : Nat} {b : Ss} (e : fs[f]? = some (n, b))
    (h : WS (exSs g (run g sb wl fs k) sb wl b (startE n ds) ρ) (fun _ ρ => Q ⟨.non, .sh⟩ ρ) Q (fun x _ ρ => X x ρ) (fun _ _ => False) (fun _ _ => False)) : WR (run g sb wl fs (k + 1) f ds ρ) Q X := by
  unfold Ev.run
  simp only [e]
  cases k <;> exact WR.body h

/-! ### small steps -/
section
variable {ρ : Sto} {d : D} {xs ds : List D} {p q : Prop}
theorem bt_t' {b : Bool} (e : b = true) (h : p) : BT (some b) p q := by subst e; exact bt_t h
theorem bt_f' {b : Bool} (e : b = false) (h : q) : BT (some b) p q := by subst e; exact bt_f h
theorem tv_b' {b : Bool} (e : tru ρ d = some b) (h : BT (some b) p q) : TV ρ d p q := by unfold TV; rw [e]; exact h
theorem ex_tru {b : Bool} {Q : Bool → Prop} (e : tru ρ d = some b) (h : Q b) : ∃ b, tru ρ d = some b ∧ Q b := ⟨b, e, h⟩
theorem ex_ty {u : Tn} {Q : Tn → Prop} (e : tyN d = some u) (h : Q u) : ∃ u, tyN d = some u ∧ Q u := ⟨u, e, h⟩
theorem ex_int {i : Int} {Q : Int → Prop} (e : d = .int i) (h : Q i) : ∃ i, d = .int i ∧ Q i := ⟨i, e, h⟩
theorem ex_part {l : Option Int} {Q : Option Int → Prop} (e : part d = some l) (h : Q l) : ∃ l, part d = some l ∧ Q l := ⟨l, e, h⟩
theorem ex_perm {pm : List Nat} {Q : List D → Prop} (e : perm pm ds = some xs) (h : Q xs) : ∃ xs, perm pm ds = some xs ∧ Q xs := ⟨xs, e, h⟩
theorem ex_asg {t : Tg} {env env' : Envr} {Q : Envr → Prop} (e : asgT t d env = some env') (h : Q env') : ∃ env', asgT t d env = some env' ∧ Q env' := ⟨env', e, h⟩
theorem ex_sh (h : p) : (⟨d, .sh⟩ : Rv).fl = .sh ∧ p := ⟨rfl, h⟩
theorem ex_over {fl : Fl} {al : Bool} {Q : List D → Prop} (n : (decide (fl = .al) && !al) = false) (e : itemsOf d = some ds) (h : Q ds) : ¬ ((⟨d, fl⟩ : Rv).fl = .al ∧ al = false) ∧ ∃ ds, itemsOf (⟨d, fl⟩ : Rv).d = some ds ∧ Q ds := by
  refine ⟨fun z => ?_, ds, e, h⟩
  obtain ⟨z1, z2⟩ := z
  have z1 : fl = .al := z1
  subst z1; subst z2
  cases n
theorem len_and (e : Nat.ble ds.length sizeLine = true) (h : p) : ds.length ≤ sizeLine ∧ p := ⟨Nat.le_of_ble_eq_true e, h⟩
theorem wb_of {o : Bo} {x y : D} {r : Rv} {Q : Rv → Sto → Prop} (e : bop o (der ρ x) (der ρ y) = some r) (h : Q r ρ) : WB o x y ρ Q := ⟨r, e, h⟩
theorem wc_of {o : Co} {x y : D} {r : Bool} {Q : Bool → Prop} (e : cop o (der ρ x) (der ρ y) = some r) (h : Q r) : WC o x y ρ Q := ⟨r, e, h⟩
theorem wi_of {x y : D} {r : Rv} {Q : Rv → Sto → Prop} (e : idx (der ρ x) y = some r) (h : Q r ρ) : WI x y ρ Q := ⟨r, e, h⟩
theorem wl_of {x : D} {lo hi : Option Int} {r : Rv} {Q : Rv → Sto → Prop} (e : slc (der ρ x) lo hi = some r) (h : Q r ρ) : WL x lo hi ρ Q := ⟨r, e, h⟩
theorem wf_of {b : Bi} {r : Rv} {Q : Rv → Sto → Prop} (e : bfn b (ds.map (der ρ)) = some r) (h : Q r ρ) : WF b ds ρ Q := ⟨r, e, h⟩
theorem nal_c {fl : Fl} (e : decide (fl ≠ .al) = true) (h : p) : fl ≠ .al ∧ p := ⟨of_decide_eq_true e, h⟩
theorem nal2 {fl fl' : Fl} {d d' : D} (e : (decide (fl ≠ .al) && decide (fl' ≠ .al)) = true) (h : p) : (⟨d, fl⟩ : Rv).fl ≠ .al ∧ (⟨d', fl'⟩ : Rv).fl ≠ .al ∧ p := by
  simp only [Bool.and_eq_true, decide_eq_true_eq] at e
  exact ⟨e.1, e.2, h⟩
end
end Ev
end

section
set_option Elab.async false
set_option linter.all false
set_option maxRecDepth 100000
set_option maxHeartbeats 4000000
namespace K01
open PySem PySem.Spec PyProof.Rows L2 Ev
/-- the text by places -/
def top (i : Nat) : Stmt := PySem.Challenge.pw_viewsalone_k01_a_fractions_one_by_one.main.body.getD i (.Pass ⟨0, 0, 0, 0⟩)
def b_is_integer : Ss :=
  (Ss.cons (S.ret (E.and (E.isi (E.var 0) .int) (E.not (E.isi (E.var 0) .bool))))
  Ss.nil)
def f_is_integer : Df := ⟨["value"], b_is_integer, top 9⟩
def b_is_fraction : Ss :=
  (Ss.cons (S.ifs (E.or (E.not (E.isi (E.var 0) .tuple)) (E.cmp .ne (E.bi1 .len (E.var 0)) (E.con (D.int 2)))) (Ss.cons (S.ret (E.con (D.bl false)))
  Ss.nil) Ss.nil)
  (Ss.cons (S.ifs (E.or (E.not (E.call 0 (Es.cons (E.ix (E.var 0) (E.con (D.int 0))) Es.nil))) (E.not (E.call 0 (Es.cons (E.ix (E.var 0) (E.con (D.int 1))) Es.nil)))) (Ss.cons (S.ret (E.con (D.bl false)))
  Ss.nil) Ss.nil)
  (Ss.cons (S.ret (E.and (E.cmp .gt (E.ix (E.var 0) (E.con (D.int 1))) (E.con (D.int 0))) (E.cmp .eq (E.bi .gcd (Es.cons (E.ix (E.var 0) (E.con (D.int 0))) (Es.cons (E.ix (E.var 0) (E.con (D.int 1))) Es.nil))) (E.con (D.int 1)))))
  Ss.nil)))
def f_is_fraction : Df := ⟨["value"], b_is_fraction, top 10⟩
def b_is_chance : Ss :=
  (Ss.cons (S.ret (E.and (E.call 1 (Es.cons (E.var 0) Es.nil)) (E.chn .le .le (E.con (D.int 0)) (E.ix (E.var 0) (E.con (D.int 0))) (E.ix (E.var 0) (E.con (D.int 1))))))
  Ss.nil)
def f_is_chance : Df := ⟨["value"], b_is_chance, top 11⟩
def b_check_number : Ss :=
  (Ss.cons (S.ifs (E.not (E.call 1 (Es.cons (E.var 0) Es.nil))) (Ss.cons (S.rai 0 (E.con (D.str "not a fraction")))
  Ss.nil) Ss.nil)
  Ss.nil)
def f_check_number : Df := ⟨["number"], b_check_number, top 12⟩
def b_check_count : Ss :=
  (Ss.cons (S.ifs (E.or (E.not (E.call 0 (Es.cons (E.var 0) Es.nil))) (E.cmp .lt (E.var 0) (E.var 1))) (Ss.cons (S.rai 1 (E.con (D.str "not an integer in the asked range")))
  Ss.nil) Ss.nil)
  Ss.nil)
def f_check_count : Df := ⟨["value", "least"], b_check_count, top 13⟩
def b_made : Ss :=
  (Ss.cons (S.asg 2 (E.bi .gcd (Es.cons (E.var 0) (Es.cons (E.var 1) Es.nil))))
  (Ss.cons (S.ifs (E.cmp .lt (E.var 1) (E.con (D.int 0))) (Ss.cons (S.asg 2 (E.neg (E.var 2)))
  Ss.nil) Ss.nil)
  (Ss.cons (S.ret (E.tup (Es.cons (E.bin .fdiv (E.var 0) (E.var 2)) (Es.cons (E.bin .fdiv (E.var 1) (E.var 2)) Es.nil))))
  Ss.nil)))
def f_made : Df := ⟨["top", "bottom", "shared"], b_made, top 14⟩
def b_added : Ss :=
  (Ss.cons (S.ret (E.call 5 (Es.cons (E.bin .add (E.bin .mul (E.ix (E.var 0) (E.con (D.int 0))) (E.ix (E.var 1) (E.con (D.int 1)))) (E.bin .mul (E.ix (E.var 1) (E.con (D.int 0))) (E.ix (E.var 0) (E.con (D.int 1))))) (Es.cons (E.bin .mul (E.ix (E.var 0) (E.con (D.int 1))) (E.ix (E.var 1) (E.con (D.int 1)))) Es.nil))))
  Ss.nil)
def f_added : Df := ⟨["number", "other"], b_added, top 15⟩
def b_subtracted : Ss :=
  (Ss.cons (S.ret (E.call 5 (Es.cons (E.bin .sub (E.bin .mul (E.ix (E.var 0) (E.con (D.int 0))) (E.ix (E.var 1) (E.con (D.int 1)))) (E.bin .mul (E.ix (E.var 1) (E.con (D.int 0))) (E.ix (E.var 0) (E.con (D.int 1))))) (Es.cons (E.bin .mul (E.ix (E.var 0) (E.con (D.int 1))) (E.ix (E.var 1) (E.con (D.int 1)))) Es.nil))))
  Ss.nil)
def f_subtracted : Df := ⟨["number", "other"], b_subtracted, top 16⟩
def b_multiplied : Ss :=
  (Ss.cons (S.ret (E.call 5 (Es.cons (E.bin .mul (E.ix (E.var 0) (E.con (D.int 0))) (E.ix (E.var 1) (E.con (D.int 0)))) (Es.cons (E.bin .mul (E.ix (E.var 0) (E.con (D.int 1))) (E.ix (E.var 1) (E.con (D.int 1)))) Es.nil))))
  Ss.nil)
def f_multiplied : Df := ⟨["number", "other"], b_multiplied, top 17⟩
def b_quotient : Ss :=
  (Ss.cons (S.ret (E.call 5 (Es.cons (E.bin .mul (E.ix (E.var 0) (E.con (D.int 0))) (E.ix (E.var 1) (E.con (D.int 1)))) (Es.cons (E.bin .mul (E.ix (E.var 0) (E.con (D.int 1))) (E.ix (E.var 1) (E.con (D.int 0)))) Es.nil))))
  Ss.nil)
def f_quotient : Df := ⟨["number", "other"], b_quotient, top 18⟩
def b_is_below : Ss :=
  (Ss.cons (S.ret (E.cmp .lt (E.bin .mul (E.ix (E.var 0) (E.con (D.int 0))) (E.ix (E.var 1) (E.con (D.int 1)))) (E.bin .mul (E.ix (E.var 1) (E.con (D.int 0))) (E.ix (E.var 0) (E.con (D.int 1))))))
  Ss.nil)
def f_is_below : Df := ⟨["number", "other"], b_is_below, top 19⟩
def b_over_one : Ss :=
  (Ss.cons (S.asg 1 (E.con (D.int 1)))
  (Ss.cons (S.for_ (Tg.nm 2) (Iw.over (E.var 0)) (Ss.cons (S.asg 1 (E.bi .lcm (Es.cons (E.var 1) (Es.cons (E.ix (E.var 2) (E.con (D.int 1))) Es.nil))))
  Ss.nil))
  (Ss.cons (S.ret (E.tup (Es.cons (E.lc [2] (Tg.nm 2) (Iw.over (E.var 0)) E.nop (E.bin .mul (E.ix (E.var 2) (E.con (D.int 0))) (E.bin .fdiv (E.var 1) (E.ix (E.var 2) (E.con (D.int 1)))))) (Es.cons (E.var 1) Es.nil))))
  Ss.nil)))
def f_over_one : Df := ⟨["numbers", "bottom", "number"], b_over_one, top 20⟩
def b_sum_of : Ss :=
  (Ss.cons (S.tgt (Tg.tup (Tgs.cons (Tg.nm 1) (Tgs.cons (Tg.nm 2) Tgs.nil))) (E.call 11 (Es.cons (E.var 0) Es.nil)))
  (Ss.cons (S.ret (E.call 5 (Es.cons (E.bi1 .sum (E.var 1)) (Es.cons (E.var 2) Es.nil))))
  Ss.nil))
def f_sum_of : Df := ⟨["numbers", "tops", "bottom"], b_sum_of, top 21⟩
def b_fraction : Ss :=
  (Ss.cons (S.ifs (E.or (E.not (E.call 0 (Es.cons (E.var 0) Es.nil))) (E.not (E.call 0 (Es.cons (E.var 1) Es.nil)))) (Ss.cons (S.rai 0 (E.con (D.str "not two integers")))
  Ss.nil) Ss.nil)
  (Ss.cons (S.ifs (E.cmp .eq (E.var 1) (E.con (D.int 0))) (Ss.cons (S.rai 2 (E.con (D.str "the bottom is 0")))
  Ss.nil) Ss.nil)
  (Ss.cons (S.ret (E.call 5 (Es.cons (E.var 0) (Es.cons (E.var 1) Es.nil))))
  Ss.nil)))
def f_fraction : Df := ⟨["top", "bottom"], b_fraction, top 22⟩
def b_plus : Ss :=
  (Ss.cons (S.exp (E.call 3 (Es.cons (E.var 0) Es.nil)))
  (Ss.cons (S.exp (E.call 3 (Es.cons (E.var 1) Es.nil)))
  (Ss.cons (S.ret (E.call 6 (Es.cons (E.var 0) (Es.cons (E.var 1) Es.nil))))
  Ss.nil)))
def f_plus : Df := ⟨["number", "other_number"], b_plus, top 23⟩
def b_minus : Ss :=
  (Ss.cons (S.exp (E.call 3 (Es.cons (E.var 0) Es.nil)))
  (Ss.cons (S.exp (E.call 3 (Es.cons (E.var 1) Es.nil)))
  (Ss.cons (S.ret (E.call 7 (Es.cons (E.var 0) (Es.cons (E.var 1) Es.nil))))
  Ss.nil)))
def f_minus : Df := ⟨["number", "other_number"], b_minus, top 24⟩
def b_times : Ss :=
  (Ss.cons (S.exp (E.call 3 (Es.cons (E.var 0) Es.nil)))
  (Ss.cons (S.exp (E.call 3 (Es.cons (E.var 1) Es.nil)))
  (Ss.cons (S.ret (E.call 8 (Es.cons (E.var 0) (Es.cons (E.var 1) Es.nil))))
  Ss.nil)))
def f_times : Df := ⟨["number", "other_number"], b_times, top 25⟩
def b_divided : Ss :=
  (Ss.cons (S.exp (E.call 3 (Es.cons (E.var 0) Es.nil)))
  (Ss.cons (S.exp (E.call 3 (Es.cons (E.var 1) Es.nil)))
  (Ss.cons (S.ifs (E.cmp .eq (E.var 1) (E.glb 0)) (Ss.cons (S.rai 2 (E.con (D.str "the divisor is 0")))
  Ss.nil) Ss.nil)
  (Ss.cons (S.ret (E.call 9 (Es.cons (E.var 0) (Es.cons (E.var 1) Es.nil))))
  Ss.nil))))
def f_divided : Df := ⟨["number", "other_number"], b_divided, top 26⟩
def b_less : Ss :=
  (Ss.cons (S.exp (E.call 3 (Es.cons (E.var 0) Es.nil)))
  (Ss.cons (S.exp (E.call 3 (Es.cons (E.var 1) Es.nil)))
  (Ss.cons (S.ret (E.call 10 (Es.cons (E.var 0) (Es.cons (E.var 1) Es.nil))))
  Ss.nil)))
def f_less : Df := ⟨["number", "other_number"], b_less, top 27⟩
def b_total : Ss :=
  (Ss.cons (S.ifs (E.or (E.not (E.isi (E.var 0) .tuple)) (E.not (E.bi1 .all (E.lc [1] (Tg.nm 1) (Iw.over (E.var 0)) E.nop (E.call 1 (Es.cons (E.var 1) Es.nil)))))) (Ss.cons (S.rai 0 (E.con (D.str "not a tuple of fractions")))
  Ss.nil) Ss.nil)
  (Ss.cons (S.ret (E.call 12 (Es.cons (E.var 0) Es.nil)))
  Ss.nil))
def f_total : Df := ⟨["numbers", "number"], b_total, top 28⟩
def b_power : Ss :=
  (Ss.cons (S.exp (E.call 3 (Es.cons (E.var 0) Es.nil)))
  (Ss.cons (S.exp (E.call 4 (Es.cons (E.var 1) (Es.cons (E.con (D.int 0)) Es.nil))))
  (Ss.cons (S.asg 2 (E.glb 1))
  (Ss.cons (S.asg 3 (E.var 0))
  (Ss.cons (S.whi (E.cmp .gt (E.var 1) (E.con (D.int 0))) (Ss.cons (S.ifs (E.bin .and (E.var 1) (E.con (D.int 1))) (Ss.cons (S.asg 2 (E.call 8 (Es.cons (E.var 2) (Es.cons (E.var 3) Es.nil))))
  Ss.nil) Ss.nil)
  (Ss.cons (S.asg 1 (E.bin .shr (E.var 1) (E.con (D.int 1))))
  (Ss.cons (S.ifs (E.cmp .gt (E.var 1) (E.con (D.int 0))) (Ss.cons (S.asg 3 (E.call 8 (Es.cons (E.var 3) (Es.cons (E.var 3) Es.nil))))
  Ss.nil) Ss.nil)
  Ss.nil))))
  (Ss.cons (S.retv 2)
  Ss.nil))))))
def f_power : Df := ⟨["number", "count", "found", "step"], b_power, top 29⟩
def b__law_draws : Ss :=
  (Ss.cons (S.par 2 3 (E.lst Es.nil) (E.bin .add (E.bin .mul (E.con (D.int 53)) (E.bi1 .len (E.var 0))) (E.con (D.int 17))))
  (Ss.cons (S.for_ (Tg.tup (Tgs.cons (Tg.nm 4) (Tgs.cons (Tg.nm 5) Tgs.nil))) (Iw.enum (Es.cons (E.sl (E.var 0) E.nop (E.con (D.int 63))) Es.nil)) (Ss.cons (S.asg 6 (E.bi1 .int (E.var 5)))
  (Ss.cons (S.asg 3 (E.bin .mod (E.bi1 .int (E.bin .add (E.bin .add (E.bin .add (E.bin .mul (E.var 3) (E.con (D.int 71))) (E.bin .mod (E.bi1 .int (E.var 6)) (E.con (D.int 2147483353)))) (E.bin .mul (E.con (D.int 7)) (E.var 4))) (E.con (D.int 1)))) (E.con (D.int 2147483269))))
  (Ss.cons (S.ifs (E.cmp .lt (E.var 6) (E.bin .pow (E.con (D.int 10)) (E.con (D.int 18)))) (Ss.cons (S.app 2 (E.bin .mod (E.bi1 .int (E.call 22 (Es.cons (E.var 3) (Es.cons (E.var 4) Es.nil)))) (E.con (D.int 5040))))
  Ss.nil) (Ss.cons (S.asg 6 (E.bin .sub (E.var 6) (E.bin .pow (E.con (D.int 10)) (E.con (D.int 18)))))
  (Ss.cons (S.for_ (Tg.nm 7) (Iw.rng (Es.cons (E.con (D.int 60)) Es.nil)) (Ss.cons (S.ifs (E.cmp .gt (E.var 6) (E.con (D.int 0))) (Ss.cons (S.app 2 (E.bin .mod (E.bi1 .int (E.var 6)) (E.con (D.int 5040))))
  (Ss.cons (S.asg 6 (E.bin .fdiv (E.var 6) (E.con (D.int 5040))))
  Ss.nil)) Ss.nil)
  Ss.nil))
  Ss.nil)))
  Ss.nil))))
  (Ss.cons (S.for_ (Tg.nm 8) (Iw.rng (Es.cons (E.bin .sub (E.var 1) (E.bi1 .len (E.var 2))) Es.nil)) (Ss.cons (S.app 2 (E.bin .mod (E.bi1 .int (E.call 22 (Es.cons (E.var 3) (Es.cons (E.bin .add (E.con (D.int 100)) (E.var 8)) Es.nil)))) (E.con (D.int 5040))))
  Ss.nil))
  (Ss.cons (S.rev 2)
  (Ss.cons (S.retv 2)
  Ss.nil)))))
def f__law_draws : Df := ⟨["script", "many", "found", "seed", "at", "cell", "rest", "j", "k"], b__law_draws, top 31⟩
def b__law_stir : Ss :=
  (Ss.cons (S.asg 2 (E.bin .mod (E.bi1 .int (E.bin .add (E.bin .add (E.bin .add (E.bin .mul (E.var 0) (E.con (D.int 73))) (E.bin .mul (E.bin .mul (E.con (D.int 6151)) (E.var 1)) (E.var 1))) (E.bin .mul (E.con (D.int 80021)) (E.var 1))) (E.con (D.int 59)))) (E.con (D.int 2147483353))))
  (Ss.cons (S.ret (E.bin .mod (E.bi1 .int (E.bin .add (E.bin .add (E.bin .add (E.bin .mul (E.var 2) (E.var 2)) (E.bin .mul (E.var 2) (E.con (D.int 40927)))) (E.bin .mul (E.var 0) (E.con (D.int 41)))) (E.bin .mul (E.con (D.int 19)) (E.var 1)))) (E.con (D.int 2147483269))))
  Ss.nil))
def f__law_stir : Df := ⟨["seed", "k", "one"], b__law_stir, top 32⟩
def b__law_take : Ss :=
  (Ss.cons (S.ret (E.ite (E.cmp .ne (E.var 0) (E.lst Es.nil)) (E.bin .mod (E.bi1 .int (E.pop (E.var 0))) (E.var 1)) (E.con (D.int 0))))
  Ss.nil)
def f__law_take : Df := ⟨["draws", "many"], b__law_take, top 33⟩
def b__law_pick : Ss :=
  (Ss.cons (S.ret (E.ix (E.var 1) (E.call 23 (Es.cons (E.var 0) (Es.cons (E.bi1 .len (E.var 1)) Es.nil)))))
  Ss.nil)
def f__law_pick : Df := ⟨["draws", "things"], b__law_pick, top 34⟩
def b__law_same : Ss :=
  (Ss.cons (S.ifs (E.or (E.isi (E.var 1) .tuple) (E.isi (E.var 1) .list)) (Ss.cons (S.ifs (E.or (E.and (E.isi (E.var 1) .tuple) (E.not (E.isi (E.var 0) .tuple))) (E.and (E.isi (E.var 1) .list) (E.not (E.isi (E.var 0) .list)))) (Ss.cons (S.ret (E.con (D.bl false)))
  Ss.nil) Ss.nil)
  (Ss.cons (S.ret (E.and (E.cmp .eq (E.bi1 .len (E.var 0)) (E.bi1 .len (E.var 1))) (E.bi1 .all (E.lc [2] (Tg.nm 2) (Iw.rng (Es.cons (E.bi1 .len (E.var 1)) Es.nil)) E.nop (E.call 25 (Es.cons (E.ix (E.var 0) (E.var 2)) (Es.cons (E.ix (E.var 1) (E.var 2)) Es.nil)))))))
  Ss.nil)) Ss.nil)
  (Ss.cons (S.ifs (E.cmp .isN (E.var 1) (E.con D.non)) (Ss.cons (S.ret (E.cmp .isN (E.var 0) (E.con D.non)))
  Ss.nil) Ss.nil)
  (Ss.cons (S.ifs (E.isi (E.var 1) .bool) (Ss.cons (S.ret (E.and (E.isi (E.var 0) .bool) (E.cmp .eq (E.var 0) (E.var 1))))
  Ss.nil) Ss.nil)
  (Ss.cons (S.ifs (E.isi (E.var 1) .int) (Ss.cons (S.ret (E.and (E.isi (E.var 0) .int) (E.and (E.not (E.isi (E.var 0) .bool)) (E.cmp .eq (E.var 0) (E.var 1)))))
  Ss.nil) Ss.nil)
  (Ss.cons (S.ret (E.and (E.isi (E.var 0) .str) (E.cmp .eq (E.var 0) (E.var 1))))
  Ss.nil)))))
def f__law_same : Df := ⟨["got", "due", "k"], b__law_same, top 35⟩
def b__law_spoilt : Ss :=
  (Ss.cons (S.ifs (E.and (E.isi (E.var 1) .tuple) (E.and (E.cmp .ne (E.var 1) (E.tup Es.nil)) (E.cmp .gt (E.var 2) (E.con (D.int 0))))) (Ss.cons (S.par 3 4 (E.call 23 (Es.cons (E.var 0) (Es.cons (E.bi1 .len (E.var 1)) Es.nil))) (E.call 23 (Es.cons (E.var 0) (Es.cons (E.con (D.int 8)) Es.nil))))
  (Ss.cons (S.ifs (E.cmp .eq (E.var 4) (E.con (D.int 0))) (Ss.cons (S.ret (E.bin .add (E.sl (E.var 1) E.nop (E.var 3)) (E.sl (E.var 1) (E.bin .add (E.var 3) (E.con (D.int 1))) E.nop)))
  Ss.nil) Ss.nil)
  (Ss.cons (S.ifs (E.cmp .eq (E.var 4) (E.con (D.int 1))) (Ss.cons (S.ret (E.bin .add (E.bin .add (E.sl (E.var 1) E.nop (E.var 3)) (E.tup (Es.cons (E.ix (E.var 1) (E.var 3)) Es.nil))) (E.sl (E.var 1) (E.var 3) E.nop)))
  Ss.nil) Ss.nil)
  (Ss.cons (S.ifs (E.cmp .eq (E.var 4) (E.con (D.int 2))) (Ss.cons (S.ret (E.bin .add (E.sl (E.var 1) (E.var 3) E.nop) (E.sl (E.var 1) E.nop (E.var 3))))
  Ss.nil) Ss.nil)
  (Ss.cons (S.ret (E.call 27 (Es.cons (E.var 1) (Es.cons (E.var 3) (Es.cons (E.call 26 (Es.cons (E.var 0) (Es.cons (E.ix (E.var 1) (E.var 3)) (Es.cons (E.bin .sub (E.var 2) (E.con (D.int 1))) Es.nil)))) Es.nil)))))
  Ss.nil))))) Ss.nil)
  (Ss.cons (S.ifs (E.isi (E.var 1) .bool) (Ss.cons (S.ret (E.call 24 (Es.cons (E.var 0) (Es.cons (E.lst (Es.cons (E.not (E.var 1)) (Es.cons (E.con D.non) (Es.cons (E.bi1 .int (E.var 1)) (Es.cons (E.con (D.str "x")) Es.nil))))) Es.nil))))
  Ss.nil) Ss.nil)
  (Ss.cons (S.ifs (E.isi (E.var 1) .str) (Ss.cons (S.ret (E.call 24 (Es.cons (E.var 0) (Es.cons (E.lst (Es.cons (E.bin .add (E.var 1) (E.con (D.str "a"))) (Es.cons (E.sl (E.var 1) (E.con (D.int 1)) E.nop) (Es.cons E.bad (Es.cons E.bad (Es.cons (E.con (D.str "x")) (Es.cons (E.con (D.str "ask")) (Es.cons (E.con (D.str "end")) (Es.cons (E.con (D.str "a")) (Es.cons (E.con (D.str "")) (Es.cons (E.con (D.str "x1")) (Es.cons (E.con D.non) (Es.cons (E.con (D.int 1)) (Es.cons (E.tup (Es.cons (E.var 1) Es.nil)) Es.nil)))))))))))))) Es.nil))))
  Ss.nil) Ss.nil)
  (Ss.cons (S.ifs (E.call 29 (Es.cons (E.var 1) Es.nil)) (Ss.cons (S.ret (E.call 24 (Es.cons (E.var 0) (Es.cons (E.lst (Es.cons (E.bin .add (E.var 1) (E.con (D.int 1))) (Es.cons (E.bin .sub (E.var 1) (E.con (D.int 1))) (Es.cons (E.neg (E.var 1)) (Es.cons (E.bin .add (E.var 1) (E.con (D.int 2))) (Es.cons (E.con (D.int 0)) (Es.cons (E.con (D.int 1)) (Es.cons (E.con D.non) (Es.cons (E.con (D.bl true)) (Es.cons (E.con (D.str "x")) (Es.cons (E.tup (Es.cons (E.var 1) Es.nil)) Es.nil))))))))))) Es.nil))))
  Ss.nil) Ss.nil)
  (Ss.cons (S.ret (E.call 24 (Es.cons (E.var 0) (Es.cons (E.lst (Es.cons (E.con D.non) (Es.cons (E.con (D.int 0)) (Es.cons (E.con (D.int 1)) (Es.cons (E.con (D.bl true)) (Es.cons (E.con (D.str "")) (Es.cons (E.con (D.str "x")) (Es.cons (E.tup Es.nil) (Es.cons (E.lst Es.nil) (Es.cons E.bad (Es.cons (E.tup (Es.cons (E.var 1) Es.nil)) (Es.cons (E.tup (Es.cons (E.con (D.str "")) Es.nil)) (Es.cons (E.tup (Es.cons (E.tup Es.nil) (Es.cons (E.tup Es.nil) Es.nil))) (Es.cons (E.ite (E.isi (E.var 1) .tuple) (E.bi1 .list (E.var 1)) (E.lst (Es.cons (E.var 1) Es.nil))) Es.nil)))))))))))))) Es.nil))))
  Ss.nil)))))
def f__law_spoilt : Df := ⟨["draws", "value", "deep", "k", "kind"], b__law_spoilt, top 36⟩
def b__law_put : Ss :=
  (Ss.cons (S.ret (E.bin .add (E.bin .add (E.sl (E.var 0) E.nop (E.var 1)) (E.tup (Es.cons (E.var 2) Es.nil))) (E.sl (E.var 0) (E.bin .add (E.var 1) (E.con (D.int 1))) E.nop)))
  Ss.nil)
def f__law_put : Df := ⟨["row", "at", "thing"], b__law_put, top 37⟩
def b__law_is_tuple : Ss :=
  (Ss.cons (S.ret (E.and (E.isi (E.var 0) .tuple) (E.cmp .eq (E.bi1 .len (E.var 0)) (E.var 1))))
  Ss.nil)
def f__law_is_tuple : Df := ⟨["value", "size"], b__law_is_tuple, top 38⟩
def b__law_is_int : Ss :=
  (Ss.cons (S.ret (E.and (E.isi (E.var 0) .int) (E.not (E.isi (E.var 0) .bool))))
  Ss.nil)
def f__law_is_int : Df := ⟨["value"], b__law_is_int, top 39⟩
def b__law_gcd : Ss :=
  (Ss.cons (S.for_ (Tg.nm 2) (Iw.rng (Es.cons (E.con (D.int 6000)) Es.nil)) (Ss.cons (S.ifs (E.cmp .eq (E.var 1) (E.con (D.int 0))) (Ss.cons (S.retv 0)
  Ss.nil) Ss.nil)
  (Ss.cons (S.par 0 1 (E.var 1) (E.bin .mod (E.bi1 .int (E.var 0)) (E.var 1)))
  Ss.nil)))
  (Ss.cons (S.retv 0)
  Ss.nil))
def f__law_gcd : Df := ⟨["one", "other", "turn"], b__law_gcd, top 40⟩
def b__law_fr : Ss :=
  (Ss.cons (S.ifs (E.cmp .lt (E.var 1) (E.con (D.int 0))) (Ss.cons (S.par 0 1 (E.bin .sub (E.con (D.int 0)) (E.var 0)) (E.bin .sub (E.con (D.int 0)) (E.var 1)))
  Ss.nil) Ss.nil)
  (Ss.cons (S.asg 2 (E.call 30 (Es.cons (E.bi1 .abs (E.var 0)) (Es.cons (E.var 1) Es.nil))))
  (Ss.cons (S.ret (E.tup (Es.cons (E.bin .fdiv (E.var 0) (E.var 2)) (Es.cons (E.bin .fdiv (E.var 1) (E.var 2)) Es.nil))))
  Ss.nil)))
def f__law_fr : Df := ⟨["top", "bottom", "most"], b__law_fr, top 41⟩
def b__law_add : Ss :=
  (Ss.cons (S.ret (E.call 31 (Es.cons (E.bin .add (E.bin .mul (E.ix (E.var 0) (E.con (D.int 0))) (E.ix (E.var 1) (E.con (D.int 1)))) (E.bin .mul (E.ix (E.var 1) (E.con (D.int 0))) (E.ix (E.var 0) (E.con (D.int 1))))) (Es.cons (E.bin .mul (E.ix (E.var 0) (E.con (D.int 1))) (E.ix (E.var 1) (E.con (D.int 1)))) Es.nil))))
  Ss.nil)
def f__law_add : Df := ⟨["one", "other"], b__law_add, top 42⟩
def b__law_sub : Ss :=
  (Ss.cons (S.ret (E.call 31 (Es.cons (E.bin .sub (E.bin .mul (E.ix (E.var 0) (E.con (D.int 0))) (E.ix (E.var 1) (E.con (D.int 1)))) (E.bin .mul (E.ix (E.var 1) (E.con (D.int 0))) (E.ix (E.var 0) (E.con (D.int 1))))) (Es.cons (E.bin .mul (E.ix (E.var 0) (E.con (D.int 1))) (E.ix (E.var 1) (E.con (D.int 1)))) Es.nil))))
  Ss.nil)
def f__law_sub : Df := ⟨["one", "other"], b__law_sub, top 43⟩
def b__law_mul : Ss :=
  (Ss.cons (S.ret (E.call 31 (Es.cons (E.bin .mul (E.ix (E.var 0) (E.con (D.int 0))) (E.ix (E.var 1) (E.con (D.int 0)))) (Es.cons (E.bin .mul (E.ix (E.var 0) (E.con (D.int 1))) (E.ix (E.var 1) (E.con (D.int 1)))) Es.nil))))
  Ss.nil)
def f__law_mul : Df := ⟨["one", "other"], b__law_mul, top 44⟩
def b__law_div : Ss :=
  (Ss.cons (S.ret (E.call 31 (Es.cons (E.bin .mul (E.ix (E.var 0) (E.con (D.int 0))) (E.ix (E.var 1) (E.con (D.int 1)))) (Es.cons (E.bin .mul (E.ix (E.var 0) (E.con (D.int 1))) (E.ix (E.var 1) (E.con (D.int 0)))) Es.nil))))
  Ss.nil)
def f__law_div : Df := ⟨["one", "other"], b__law_div, top 45⟩
def b__law_lt : Ss :=
  (Ss.cons (S.ret (E.cmp .lt (E.bin .mul (E.ix (E.var 0) (E.con (D.int 0))) (E.ix (E.var 1) (E.con (D.int 1)))) (E.bin .mul (E.ix (E.var 1) (E.con (D.int 0))) (E.ix (E.var 0) (E.con (D.int 1))))))
  Ss.nil)
def f__law_lt : Df := ⟨["one", "other"], b__law_lt, top 46⟩
def b__law_sum : Ss :=
  (Ss.cons (S.asg 1 (E.tup (Es.cons (E.con (D.int 0)) (Es.cons (E.con (D.int 1)) Es.nil))))
  (Ss.cons (S.for_ (Tg.nm 2) (Iw.over (E.var 0)) (Ss.cons (S.asg 1 (E.call 32 (Es.cons (E.var 1) (Es.cons (E.var 2) Es.nil))))
  Ss.nil))
  (Ss.cons (S.retv 1)
  Ss.nil)))
def f__law_sum : Df := ⟨["numbers", "found", "one"], b__law_sum, top 47⟩
def b__law_is_fr : Ss :=
  (Ss.cons (S.ifs (E.or (E.not (E.call 28 (Es.cons (E.var 0) (Es.cons (E.con (D.int 2)) Es.nil)))) (E.or (E.not (E.call 29 (Es.cons (E.ix (E.var 0) (E.con (D.int 0))) Es.nil))) (E.or (E.not (E.call 29 (Es.cons (E.ix (E.var 0) (E.con (D.int 1))) Es.nil))) (E.cmp .lt (E.ix (E.var 0) (E.con (D.int 1))) (E.con (D.int 1)))))) (Ss.cons (S.ret (E.con (D.bl false)))
  Ss.nil) Ss.nil)
  (Ss.cons (S.ret (E.cmp .eq (E.call 30 (Es.cons (E.bi1 .abs (E.ix (E.var 0) (E.con (D.int 0)))) (Es.cons (E.ix (E.var 0) (E.con (D.int 1))) Es.nil))) (E.con (D.int 1))))
  Ss.nil))
def f__law_is_fr : Df := ⟨["value"], b__law_is_fr, top 48⟩
def b__law_is_chance : Ss :=
  (Ss.cons (S.ret (E.and (E.call 38 (Es.cons (E.var 0) Es.nil)) (E.chn .le .le (E.con (D.int 0)) (E.ix (E.var 0) (E.con (D.int 0))) (E.ix (E.var 0) (E.con (D.int 1))))))
  Ss.nil)
def f__law_is_chance : Df := ⟨["value"], b__law_is_chance, top 49⟩
def b__law_bad_fr : Ss :=
  (Ss.cons (S.ret (E.call 24 (Es.cons (E.var 0) (Es.cons (E.lst (Es.cons (E.con D.non) (Es.cons (E.con (D.int 1)) (Es.cons (E.tup (Es.cons (E.con (D.int 1)) Es.nil)) (Es.cons (E.tup (Es.cons (E.con (D.int 2)) (Es.cons (E.con (D.int 4)) Es.nil))) (Es.cons (E.tup (Es.cons (E.con (D.int 1)) (Es.cons (E.con (D.int 0)) Es.nil))) (Es.cons (E.tup (Es.cons (E.con (D.int 1)) (Es.cons (E.neg (E.con (D.int 2))) Es.nil))) (Es.cons (E.tup (Es.cons (E.con (D.int 0)) (Es.cons (E.con (D.int 2)) Es.nil))) (Es.cons (E.tup (Es.cons (E.con (D.bl true)) (Es.cons (E.con (D.int 1)) Es.nil))) (Es.cons (E.tup (Es.cons (E.con (D.int 1)) (Es.cons (E.con (D.bl true)) Es.nil))) (Es.cons (E.con (D.str "1/2")) (Es.cons (E.lst (Es.cons (E.con (D.int 1)) (Es.cons (E.con (D.int 2)) Es.nil))) (Es.cons (E.tup (Es.cons (E.con (D.int 1)) (Es.cons (E.con (D.int 2)) (Es.cons (E.con (D.int 3)) Es.nil)))) (Es.cons (E.tup (Es.cons (E.con (D.str "1")) (Es.cons (E.con (D.int 2)) Es.nil))) (Es.cons (E.tup Es.nil) Es.nil))))))))))))))) Es.nil))))
  Ss.nil)
def f__law_bad_fr : Df := ⟨["draws"], b__law_bad_fr, top 50⟩
def b__law_told : Ss :=
  (Ss.cons (S.tgt (Tg.tup (Tgs.cons (Tg.nm 3) (Tgs.cons (Tg.nm 4) Tgs.nil))) (E.tup (Es.cons (E.con D.non) (Es.cons (E.con (D.str "")) Es.nil))))
  (Ss.cons (S.tri (Ss.cons (S.ifs (E.cmp .lt (E.var 0) (E.con (D.int 3))) (Ss.cons (S.asg 3 (E.ite (E.cmp .eq (E.var 0) (E.con (D.int 0))) (E.callk 14 [0, 1] Es.nil (Es.cons (E.var 1) (Es.cons (E.var 2) Es.nil))) (E.ite (E.cmp .eq (E.var 0) (E.con (D.int 1))) (E.callk 15 [0, 1] Es.nil (Es.cons (E.var 1) (Es.cons (E.var 2) Es.nil))) (E.callk 16 [0, 1] Es.nil (Es.cons (E.var 1) (Es.cons (E.var 2) Es.nil))))))
  Ss.nil) (Ss.cons (S.ifs (E.cmp .lt (E.var 0) (E.con (D.int 6))) (Ss.cons (S.asg 3 (E.ite (E.cmp .eq (E.var 0) (E.con (D.int 3))) (E.callk 17 [0, 1] Es.nil (Es.cons (E.var 1) (Es.cons (E.var 2) Es.nil))) (E.ite (E.cmp .eq (E.var 0) (E.con (D.int 4))) (E.callk 18 [0, 1] Es.nil (Es.cons (E.var 1) (Es.cons (E.var 2) Es.nil))) (E.callk 13 [0, 1] Es.nil (Es.cons (E.var 1) (Es.cons (E.var 2) Es.nil))))))
  Ss.nil) (Ss.cons (S.asg 3 (E.ite (E.cmp .eq (E.var 0) (E.con (D.int 6))) (E.callk 19 [0] Es.nil (Es.cons (E.var 1) Es.nil)) (E.callk 20 [0, 1] Es.nil (Es.cons (E.var 1) (Es.cons (E.var 2) Es.nil)))))
  Ss.nil))
  Ss.nil))
  Ss.nil) [(0, (Hb.set 4 (D.str "number"))), (1, (Hb.set 4 (D.str "index"))), (2, (Hb.set 4 (D.str "none")))])
  (Ss.cons (S.ret (E.ite (E.cmp .eq (E.var 4) (E.con (D.str ""))) (E.lst (Es.cons (E.var 3) Es.nil)) (E.var 4)))
  Ss.nil)))
def f__law_told : Df := ⟨["which", "one", "other", "told", "word"], b__law_told, top 51⟩
def b__law_wide : Ss :=
  (Ss.cons (S.asg 1 (E.bin .add (E.bin .mul (E.call 23 (Es.cons (E.var 0) (Es.cons (E.con (D.int 5040)) Es.nil))) (E.call 24 (Es.cons (E.var 0) (Es.cons (E.lst (Es.cons (E.con (D.int 1)) (Es.cons (E.con (D.int 1)) (Es.cons (E.con (D.int 5041)) (Es.cons (E.bin .mul (E.con (D.int 5040)) (E.con (D.int 4999))) Es.nil))))) Es.nil)))) (E.call 23 (Es.cons (E.var 0) (Es.cons (E.con (D.int 5040)) Es.nil)))))
  (Ss.cons (S.asg 2 (E.bin .add (E.con (D.int 1)) (E.bin .mul (E.call 23 (Es.cons (E.var 0) (Es.cons (E.con (D.int 5040)) Es.nil))) (E.call 24 (Es.cons (E.var 0) (Es.cons (E.lst (Es.cons (E.con (D.int 1)) (Es.cons (E.con (D.int 0)) (Es.cons (E.con (D.int 5041)) (Es.cons (E.con (D.int 19683)) Es.nil))))) Es.nil))))))
  (Ss.cons (S.ret (E.call 31 (Es.cons (E.call 24 (Es.cons (E.var 0) (Es.cons (E.lst (Es.cons (E.var 1) (Es.cons (E.bin .sub (E.con (D.int 0)) (E.var 1)) (Es.cons (E.call 23 (Es.cons (E.var 0) (Es.cons (E.con (D.int 4)) Es.nil))) (Es.cons (E.var 1) Es.nil))))) Es.nil))) (Es.cons (E.var 2) Es.nil))))
  Ss.nil)))
def f__law_wide : Df := ⟨["draws", "top", "bottom"], b__law_wide, top 52⟩
def b__law_raised : Ss :=
  (Ss.cons (S.asg 2 (E.tup (Es.cons (E.con (D.int 1)) (Es.cons (E.con (D.int 1)) Es.nil))))
  (Ss.cons (S.for_ (Tg.nm 3) (Iw.rng (Es.cons (E.var 1) Es.nil)) (Ss.cons (S.asg 2 (E.tup (Es.cons (E.bin .mul (E.ix (E.var 2) (E.con (D.int 0))) (E.ix (E.var 0) (E.con (D.int 0)))) (Es.cons (E.bin .mul (E.ix (E.var 2) (E.con (D.int 1))) (E.ix (E.var 0) (E.con (D.int 1)))) Es.nil))))
  Ss.nil))
  (Ss.cons (S.retv 2)
  Ss.nil)))
def f__law_raised : Df := ⟨["one", "count", "found", "turn"], b__law_raised, top 53⟩
def b_law : Ss :=
  (Ss.cons (S.asg 1 (E.call 21 (Es.cons (E.var 0) (Es.cons (E.con (D.int 900)) Es.nil))))
  (Ss.prm 1 (Ss.cons (S.for_ (Tg.nm 2) (Iw.rng (Es.cons (E.con (D.int 5)) Es.nil)) (Ss.cons (S.tgt (Tg.tup (Tgs.cons (Tg.nm 3) (Tgs.cons (Tg.nm 4) Tgs.nil))) (E.tup (Es.cons (E.call 42 (Es.cons (E.var 1) Es.nil)) (Es.cons (E.call 42 (Es.cons (E.var 1) Es.nil)) Es.nil))))
  (Ss.cons (S.asg 4 (E.call 24 (Es.cons (E.var 1) (Es.cons (E.lst (Es.cons (E.var 4) (Es.cons (E.var 4) (Es.cons (E.var 3) (Es.cons (E.call 31 (Es.cons (E.bin .sub (E.con (D.int 0)) (E.ix (E.var 3) (E.con (D.int 0)))) (Es.cons (E.ix (E.var 3) (E.con (D.int 1))) Es.nil))) (Es.cons (E.tup (Es.cons (E.con (D.int 0)) (Es.cons (E.con (D.int 1)) Es.nil))) (Es.cons (E.call 31 (Es.cons (E.ix (E.var 3) (E.con (D.int 1))) (Es.cons (E.bi .max2 (Es.cons (E.con (D.int 1)) (Es.cons (E.bi1 .abs (E.ix (E.var 3) (E.con (D.int 0)))) Es.nil))) Es.nil))) Es.nil))))))) Es.nil))))
  (Ss.cons (S.asg 5 (E.lst (Es.cons (E.lst (Es.cons (E.call 32 (Es.cons (E.var 3) (Es.cons (E.var 4) Es.nil))) Es.nil)) (Es.cons (E.lst (Es.cons (E.call 33 (Es.cons (E.var 3) (Es.cons (E.var 4) Es.nil))) Es.nil)) (Es.cons (E.lst (Es.cons (E.call 34 (Es.cons (E.var 3) (Es.cons (E.var 4) Es.nil))) Es.nil)) (Es.cons (E.ite (E.cmp .ne (E.ix (E.var 4) (E.con (D.int 0))) (E.con (D.int 0))) (E.lst (Es.cons (E.call 35 (Es.cons (E.var 3) (Es.cons (E.var 4) Es.nil))) Es.nil)) (E.con (D.str "none"))) (Es.cons (E.lst (Es.cons (E.call 36 (Es.cons (E.var 3) (Es.cons (E.var 4) Es.nil))) Es.nil)) Es.nil)))))))
  (Ss.frz 5 (Ss.cons (S.ifs (E.not (E.call 25 (Es.cons (E.lc [6] (Tg.nm 6) (Iw.rng (Es.cons (E.con (D.int 5)) Es.nil)) E.nop (E.call 41 (Es.cons (E.var 6) (Es.cons (E.var 3) (Es.cons (E.var 4) Es.nil))))) (Es.cons (E.var 5) Es.nil)))) (Ss.cons (S.ret (E.con (D.bl false)))
  Ss.nil) Ss.nil)
  (Ss.cons (S.ifs (E.or (E.cmp .ne (E.call 14 (Es.cons (E.call 15 (Es.cons (E.var 3) (Es.cons (E.var 4) Es.nil))) (Es.cons (E.var 4) Es.nil))) (E.var 3)) (E.and (E.cmp .ne (E.ix (E.var 4) (E.con (D.int 0))) (E.con (D.int 0))) (E.cmp .ne (E.call 16 (Es.cons (E.call 17 (Es.cons (E.var 3) (Es.cons (E.var 4) Es.nil))) (Es.cons (E.var 4) Es.nil))) (E.var 3)))) (Ss.cons (S.ret (E.con (D.bl false)))
  Ss.nil) Ss.nil)
  (Ss.cons (S.asg 7 (E.bi1 .tuple (E.lc [8] (Tg.nm 8) (Iw.rng (Es.cons (E.call 23 (Es.cons (E.var 1) (Es.cons (E.con (D.int 8)) Es.nil))) Es.nil)) E.nop (E.call 24 (Es.cons (E.var 1) (Es.cons (E.lst (Es.cons (E.var 3) (Es.cons (E.var 4) (Es.cons (E.call 42 (Es.cons (E.var 1) Es.nil)) (Es.cons (E.tup (Es.cons (E.con (D.int 0)) (Es.cons (E.con (D.int 1)) Es.nil))) Es.nil))))) Es.nil))))))
  (Ss.cons (S.ifs (E.not (E.call 25 (Es.cons (E.lst (Es.cons (E.call 41 (Es.cons (E.con (D.int 6)) (Es.cons (E.var 7) (Es.cons (E.con D.non) Es.nil)))) (Es.cons (E.callk 19 [0] Es.nil (Es.cons (E.tup Es.nil) Es.nil)) Es.nil))) (Es.cons (E.lst (Es.cons (E.lst (Es.cons (E.call 37 (Es.cons (E.var 7) Es.nil)) Es.nil)) (Es.cons (E.tup (Es.cons (E.con (D.int 0)) (Es.cons (E.con (D.int 1)) Es.nil))) Es.nil))) Es.nil)))) (Ss.cons (S.ret (E.con (D.bl false)))
  Ss.nil) Ss.nil)
  (Ss.cons (S.asg 9 (E.call 24 (Es.cons (E.var 1) (Es.cons (E.lst (Es.cons (E.con (D.int 0)) (Es.cons (E.con (D.int 1)) (Es.cons (E.con (D.int 2)) (Es.cons (E.con (D.int 7)) (Es.cons (E.con (D.int 30)) Es.nil)))))) Es.nil))))
  (Ss.cons (S.ifs (E.not (E.call 25 (Es.cons (E.call 41 (Es.cons (E.con (D.int 7)) (Es.cons (E.var 3) (Es.cons (E.var 9) Es.nil)))) (Es.cons (E.lst (Es.cons (E.call 43 (Es.cons (E.var 3) (Es.cons (E.var 9) Es.nil))) Es.nil)) Es.nil)))) (Ss.cons (S.ret (E.con (D.bl false)))
  Ss.nil) Ss.nil)
  (Ss.cons (S.par 10 11 (E.call 24 (Es.cons (E.var 1) (Es.cons (E.lst (Es.cons (E.ix (E.var 3) (E.con (D.int 0))) (Es.cons (E.bin .add (E.bin .pow (E.con (D.int 10)) (E.con (D.int 59))) (E.con (D.int 7))) (Es.cons (E.neg (E.con (D.int 360360))) (Es.cons (E.con (D.int 0)) Es.nil))))) Es.nil))) (E.call 24 (Es.cons (E.var 1) (Es.cons (E.lst (Es.cons (E.ix (E.var 4) (E.con (D.int 0))) (Es.cons (E.neg (E.con (D.int 720))) (Es.cons (E.con (D.int 0)) (Es.cons (E.bin .pow (E.con (D.int 10)) (E.con (D.int 58))) Es.nil))))) Es.nil))))
  (Ss.cons (S.ifs (E.not (E.call 25 (Es.cons (E.call 41 (Es.cons (E.con (D.int 5)) (Es.cons (E.var 10) (Es.cons (E.var 11) Es.nil)))) (Es.cons (E.ite (E.cmp .ne (E.var 11) (E.con (D.int 0))) (E.lst (Es.cons (E.call 31 (Es.cons (E.var 10) (Es.cons (E.var 11) Es.nil))) Es.nil)) (E.con (D.str "none"))) Es.nil)))) (Ss.cons (S.ret (E.con (D.bl false)))
  Ss.nil) Ss.nil)
  (Ss.cons (S.for_ (Tg.nm 12) (Iw.over (E.bin .add (E.lst (Es.cons (E.var 3) (Es.cons (E.call 26 (Es.cons (E.var 1) (Es.cons (E.var 3) (Es.cons (E.con (D.int 2)) Es.nil)))) (Es.cons (E.tup (Es.cons (E.bin .mul (E.ix (E.var 3) (E.con (D.int 0))) (E.con (D.int 2))) (Es.cons (E.bin .mul (E.ix (E.var 3) (E.con (D.int 1))) (E.con (D.int 2))) Es.nil))) (Es.cons (E.tup (Es.cons (E.ix (E.var 3) (E.con (D.int 0))) (Es.cons (E.bin .sub (E.con (D.int 0)) (E.ix (E.var 3) (E.con (D.int 1)))) Es.nil))) (Es.cons (E.bi1 .list (E.var 3)) (Es.cons (E.bin .add (E.var 3) (E.tup (Es.cons (E.con (D.int 1)) Es.nil))) (Es.cons (E.ix (E.var 3) (E.con (D.int 0))) Es.nil)))))))) (E.lc [8] (Tg.nm 8) (Iw.rng (Es.cons (E.con (D.int 3)) Es.nil)) E.nop (E.call 40 (Es.cons (E.var 1) Es.nil))))) (Ss.cons (S.ifs (E.not (E.call 25 (Es.cons (E.lst (Es.cons (E.callk 1 [0] Es.nil (Es.cons (E.var 12) Es.nil)) (Es.cons (E.callk 2 [0] Es.nil (Es.cons (E.var 12) Es.nil)) Es.nil))) (Es.cons (E.lst (Es.cons (E.call 38 (Es.cons (E.var 12) Es.nil)) (Es.cons (E.call 39 (Es.cons (E.var 12) Es.nil)) Es.nil))) Es.nil)))) (Ss.cons (S.ret (E.con (D.bl false)))
  Ss.nil) Ss.nil)
  Ss.nil))
  (Ss.cons (S.tgt (Tg.tup (Tgs.cons (Tg.nm 13) (Tgs.cons (Tg.nm 14) Tgs.nil))) (E.tup (Es.cons (E.call 40 (Es.cons (E.var 1) Es.nil)) (Es.cons (E.call 24 (Es.cons (E.var 1) (Es.cons (E.lst (Es.cons (E.con D.non) (Es.cons (E.neg (E.con (D.int 1))) (Es.cons (E.con (D.bl true)) (Es.cons (E.con (D.str "2")) (Es.cons (E.tup (Es.cons (E.con (D.int 1)) Es.nil)) Es.nil)))))) Es.nil))) Es.nil))))
  (Ss.cons (S.asg 15 (E.bin .add (E.bin .add (E.lc [6] (Tg.nm 6) (Iw.rng (Es.cons (E.con (D.int 5)) Es.nil)) E.nop (E.call 41 (Es.cons (E.var 6) (Es.cons (E.var 13) (Es.cons (E.var 4) Es.nil))))) (E.lc [6] (Tg.nm 6) (Iw.rng (Es.cons (E.con (D.int 5)) Es.nil)) E.nop (E.call 41 (Es.cons (E.var 6) (Es.cons (E.var 3) (Es.cons (E.var 13) Es.nil)))))) (E.lst (Es.cons (E.call 41 (Es.cons (E.con (D.int 3)) (Es.cons (E.var 13) (Es.cons (E.tup (Es.cons (E.con (D.int 0)) (Es.cons (E.con (D.int 1)) Es.nil))) Es.nil)))) Es.nil))))
  (Ss.frz 15 (Ss.cons (S.ifs (E.cmp .ne (E.var 15) (E.bin .mul (E.lst (Es.cons (E.con (D.str "number")) Es.nil)) (E.con (D.int 11)))) (Ss.cons (S.ret (E.con (D.bl false)))
  Ss.nil) Ss.nil)
  (Ss.cons (S.asg 15 (E.lst (Es.cons (E.call 41 (Es.cons (E.con (D.int 5)) (Es.cons (E.con D.non) (Es.cons (E.con (D.int 0)) Es.nil)))) (Es.cons (E.call 41 (Es.cons (E.con (D.int 5)) (Es.cons (E.con (D.int 1)) (Es.cons (E.con (D.bl true)) Es.nil)))) (Es.cons (E.call 41 (Es.cons (E.con (D.int 6)) (Es.cons (E.con D.non) (Es.cons (E.con D.non) Es.nil)))) (Es.cons (E.call 41 (Es.cons (E.con (D.int 6)) (Es.cons (E.lst (Es.cons (E.var 3) Es.nil)) (Es.cons (E.con D.non) Es.nil)))) (Es.cons (E.call 41 (Es.cons (E.con (D.int 6)) (Es.cons (E.tup (Es.cons (E.var 3) (Es.cons (E.var 13) Es.nil))) (Es.cons (E.con D.non) Es.nil)))) (Es.cons (E.call 41 (Es.cons (E.con (D.int 7)) (Es.cons (E.var 13) (Es.cons (E.var 14) Es.nil)))) (Es.cons (E.call 41 (Es.cons (E.con (D.int 7)) (Es.cons (E.var 3) (Es.cons (E.var 14) Es.nil)))) Es.nil)))))))))
  (Ss.frz 15 (Ss.cons (S.ifs (E.cmp .ne (E.var 15) (E.bin .add (E.bin .mul (E.lst (Es.cons (E.con (D.str "number")) Es.nil)) (E.con (D.int 6))) (E.lst (Es.cons (E.con (D.str "index")) Es.nil)))) (Ss.cons (S.ret (E.con (D.bl false)))
  Ss.nil) Ss.nil)
  Ss.nil)))))))))))))))))))))
  (Ss.cons (S.ret (E.con (D.bl true)))
  Ss.nil))))
def f_law : Df := ⟨["script", "draws", "turn", "one", "other", "due", "which", "some", "k", "count", "top", "bottom", "value", "bad", "odd", "words"], b_law, top 54⟩
def n_is_integer : Str × List Str := ("is_integer", ["value"])
def n_is_fraction : Str × List Str := ("is_fraction", ["value"])
def n_is_chance : Str × List Str := ("is_chance", ["value"])
def n_check_number : Str × List Str := ("check_number", ["number"])
def n_check_count : Str × List Str := ("check_count", ["value", "least"])
def n_made : Str × List Str := ("made", ["top", "bottom"])
def n_added : Str × List Str := ("added", ["number", "other"])
def n_subtracted : Str × List Str := ("subtracted", ["number", "other"])
def n_multiplied : Str × List Str := ("multiplied", ["number", "other"])
def n_quotient : Str × List Str := ("quotient", ["number", "other"])
def n_is_below : Str × List Str := ("is_below", ["number", "other"])
def n_over_one : Str × List Str := ("over_one", ["numbers"])
def n_sum_of : Str × List Str := ("sum_of", ["numbers"])
def n_fraction : Str × List Str := ("fraction", ["top", "bottom"])
def n_plus : Str × List Str := ("plus", ["number", "other_number"])
def n_minus : Str × List Str := ("minus", ["number", "other_number"])
def n_times : Str × List Str := ("times", ["number", "other_number"])
def n_divided : Str × List Str := ("divided", ["number", "other_number"])
def n_less : Str × List Str := ("less", ["number", "other_number"])
def n_total : Str × List Str := ("total", ["numbers"])
def n_power : Str × List Str := ("power", ["number", "count"])
def n__law_draws : Str × List Str := ("_law_draws", ["script", "many"])
def n__law_stir : Str × List Str := ("_law_stir", ["seed", "k"])
def n__law_take : Str × List Str := ("_law_take", ["draws", "many"])
def n__law_pick : Str × List Str := ("_law_pick", ["draws", "things"])
def n__law_same : Str × List Str := ("_law_same", ["got", "due"])
def n__law_spoilt : Str × List Str := ("_law_spoilt", ["draws", "value", "deep"])
def n__law_put : Str × List Str := ("_law_put", ["row", "at", "thing"])
def n__law_is_tuple : Str × List Str := ("_law_is_tuple", ["value", "size"])
def n__law_is_int : Str × List Str := ("_law_is_int", ["value"])
def n__law_gcd : Str × List Str := ("_law_gcd", ["one", "other"])
def n__law_fr : Str × List Str := ("_law_fr", ["top", "bottom"])
def n__law_add : Str × List Str := ("_law_add", ["one", "other"])
def n__law_sub : Str × List Str := ("_law_sub", ["one", "other"])
def n__law_mul : Str × List Str := ("_law_mul", ["one", "other"])
def n__law_div : Str × List Str := ("_law_div", ["one", "other"])
def n__law_lt : Str × List Str := ("_law_lt", ["one", "other"])
def n__law_sum : Str × List Str := ("_law_sum", ["numbers"])
def n__law_is_fr : Str × List Str := ("_law_is_fr", ["value"])
def n__law_is_chance : Str × List Str := ("_law_is_chance", ["value"])
def n__law_bad_fr : Str × List Str := ("_law_bad_fr", ["draws"])
def n__law_told : Str × List Str := ("_law_told", ["which", "one", "other"])
def n__law_wide : Str × List Str := ("_law_wide", ["draws"])
def n__law_raised : Str × List Str := ("_law_raised", ["one", "count"])
def n_law : Str × List Str := ("law", ["script"])
def T : Tabs where
  dn := [n_is_integer, n_is_fraction, n_is_chance, n_check_number, n_check_count, n_made, n_added, n_subtracted, n_multiplied, n_quotient, n_is_below, n_over_one, n_sum_of, n_fraction, n_plus, n_minus, n_times, n_divided, n_less, n_total, n_power, n__law_draws, n__law_stir, n__law_take, n__law_pick, n__law_same, n__law_spoilt, n__law_put, n__law_is_tuple, n__law_is_int, n__law_gcd, n__law_fr, n__law_add, n__law_sub, n__law_mul, n__law_div, n__law_lt, n__law_sum, n__law_is_fr, n__law_is_chance, n__law_bad_fr, n__law_told, n__law_wide, n__law_raised, n_law]
  kb := [(14, 0, ["number", "other_number"], [0, 1]), (15, 0, ["number", "other_number"], [0, 1]), (16, 0, ["number", "other_number"], [0, 1]), (17, 0, ["number", "other_number"], [0, 1]), (18, 0, ["number", "other_number"], [0, 1]), (13, 0, ["top", "bottom"], [0, 1]), (19, 0, ["numbers"], [0]), (20, 0, ["number", "count"], [0, 1]), (2, 0, ["value"], [0]), (1, 0, ["value"], [0])]
  gn := ["ZERO", "ONE"]
  bn := ["isinstance", "int", "bool", "tuple", "len", "sum", "all", "enumerate", "range", "list", "str", "abs", "max"]
  gl := [("gcd", "math.gcd"), ("lcm", "math.lcm")]
  cn := ["InvalidNumber", "InvalidIndex", "NoDivision"]
  sb := [[true, false, false], [false, true, false], [false, false, true]]
def g : List D := [(D.tup [(D.int 0), (D.int 1)]), (D.tup [(D.int 1), (D.int 1)])]
def fs : List Df := [f_is_integer, f_is_fraction, f_is_chance, f_check_number, f_check_count, f_made, f_added, f_subtracted, f_multiplied, f_quotient, f_is_below, f_over_one, f_sum_of, f_fraction, f_plus, f_minus, f_times, f_divided, f_less, f_total, f_power, f__law_draws, f__law_stir, f__law_take, f__law_pick, f__law_same, f__law_spoilt, f__law_put, f__law_is_tuple, f__law_is_int, f__law_gcd, f__law_fr, f__law_add, f__law_sub, f__law_mul, f__law_div, f__law_lt, f__law_sum, f__law_is_fr, f__law_is_chance, f__law_bad_fr, f__law_told, f__law_wide, f__law_raised, f_law]
theorem c_is_integer : chkSs T f_is_integer.N f_is_integer.b (defScope f_is_integer.st) (defBody f_is_integer.st) = true := by decide +kernel
theorem c_is_fraction : chkSs T f_is_fraction.N f_is_fraction.b (defScope f_is_fraction.st) (defBody f_is_fraction.st) = true := by decide +kernel
theorem c_is_chance : chkSs T f_is_chance.N f_is_chance.b (defScope f_is_chance.st) (defBody f_is_chance.st) = true := by decide +kernel
theorem c_check_number : chkSs T f_check_number.N f_check_number.b (defScope f_check_number.st) (defBody f_check_number.st) = true := by decide +kernel
theorem c_check_count : chkSs T f_check_count.N f_check_count.b (defScope f_check_count.st) (defBody f_check_count.st) = true := by decide +kernel
theorem c_made : chkSs T f_made.N f_made.b (defScope f_made.st) (defBody f_made.st) = true := by decide +kernel
theorem c_added : chkSs T f_added.N f_added.b (defScope f_added.st) (defBody f_added.st) = true := by decide +kernel
theorem c_subtracted : chkSs T f_subtracted.N f_subtracted.b (defScope f_subtracted.st) (defBody f_subtracted.st) = true := by decide +kernel
theorem c_multiplied : chkSs T f_multiplied.N f_multiplied.b (defScope f_multiplied.st) (defBody f_multiplied.st) = true := by decide +kernel
theorem c_quotient : chkSs T f_quotient.N f_quotient.b (defScope f_quotient.st) (defBody f_quotient.st) = true := by decide +kernel
theorem c_is_below : chkSs T f_is_below.N f_is_below.b (defScope f_is_below.st) (defBody f_is_below.st) = true := by decide +kernel
theorem c_over_one : chkSs T f_over_one.N f_over_one.b (defScope f_over_one.st) (defBody f_over_one.st) = true := by decide +kernel
theorem c_sum_of : chkSs T f_sum_of.N f_sum_of.b (defScope f_sum_of.st) (defBody f_sum_of.st) = true := by decide +kernel
theorem c_fraction : chkSs T f_fraction.N f_fraction.b (defScope f_fraction.st) (defBody f_fraction.st) = true := by decide +kernel
theorem c_plus : chkSs T f_plus.N f_plus.b (defScope f_plus.st) (defBody f_plus.st) = true := by decide +kernel
theorem c_minus : chkSs T f_minus.N f_minus.b (defScope f_minus.st) (defBody f_minus.st) = true := by decide +kernel
theorem c_times : chkSs T f_times.N f_times.b (defScope f_times.st) (defBody f_times.st) = true := by decide +kernel
theorem c_divided : chkSs T f_divided.N f_divided.b (defScope f_divided.st) (defBody f_divided.st) = true := by decide +kernel
theorem c_less : chkSs T f_less.N f_less.b (defScope f_less.st) (defBody f_less.st) = true := by decide +kernel
theorem c_total : chkSs T f_total.N f_total.b (defScope f_total.st) (defBody f_total.st) = true := by decide +kernel
theorem c_power : chkSs T f_power.N f_power.b (defScope f_power.st) (defBody f_power.st) = true := by decide +kernel
theorem c__law_draws : chkSs T f__law_draws.N f__law_draws.b (defScope f__law_draws.st) (defBody f__law_draws.st) = true := by decide +kernel
theorem c__law_stir : chkSs T f__law_stir.N f__law_stir.b (defScope f__law_stir.st) (defBody f__law_stir.st) = true := by decide +kernel
theorem c__law_take : chkSs T f__law_take.N f__law_take.b (defScope f__law_take.st) (defBody f__law_take.st) = true := by decide +kernel
theorem c__law_pick : chkSs T f__law_pick.N f__law_pick.b (defScope f__law_pick.st) (defBody f__law_pick.st) = true := by decide +kernel
theorem c__law_same : chkSs T f__law_same.N f__law_same.b (defScope f__law_same.st) (defBody f__law_same.st) = true := by decide +kernel
theorem c__law_spoilt : chkSs T f__law_spoilt.N f__law_spoilt.b (defScope f__law_spoilt.st) (defBody f__law_spoilt.st) = true := by decide +kernel
theorem c__law_put : chkSs T f__law_put.N f__law_put.b (defScope f__law_put.st) (defBody f__law_put.st) = true := by decide +kernel
theorem c__law_is_tuple : chkSs T f__law_is_tuple.N f__law_is_tuple.b (defScope f__law_is_tuple.st) (defBody f__law_is_tuple.st) = true := by decide +kernel
theorem c__law_is_int : chkSs T f__law_is_int.N f__law_is_int.b (defScope f__law_is_int.st) (defBody f__law_is_int.st) = true := by decide +kernel
theorem c__law_gcd : chkSs T f__law_gcd.N f__law_gcd.b (defScope f__law_gcd.st) (defBody f__law_gcd.st) = true := by decide +kernel
theorem c__law_fr : chkSs T f__law_fr.N f__law_fr.b (defScope f__law_fr.st) (defBody f__law_fr.st) = true := by decide +kernel
theorem c__law_add : chkSs T f__law_add.N f__law_add.b (defScope f__law_add.st) (defBody f__law_add.st) = true := by decide +kernel
theorem c__law_sub : chkSs T f__law_sub.N f__law_sub.b (defScope f__law_sub.st) (defBody f__law_sub.st) = true := by decide +kernel
theorem c__law_mul : chkSs T f__law_mul.N f__law_mul.b (defScope f__law_mul.st) (defBody f__law_mul.st) = true := by decide +kernel
theorem c__law_div : chkSs T f__law_div.N f__law_div.b (defScope f__law_div.st) (defBody f__law_div.st) = true := by decide +kernel
theorem c__law_lt : chkSs T f__law_lt.N f__law_lt.b (defScope f__law_lt.st) (defBody f__law_lt.st) = true := by decide +kernel
theorem c__law_sum : chkSs T f__law_sum.N f__law_sum.b (defScope f__law_sum.st) (defBody f__law_sum.st) = true := by decide +kernel
theorem c__law_is_fr : chkSs T f__law_is_fr.N f__law_is_fr.b (defScope f__law_is_fr.st) (defBody f__law_is_fr.st) = true := by decide +kernel
theorem c__law_is_chance : chkSs T f__law_is_chance.N f__law_is_chance.b (defScope f__law_is_chance.st) (defBody f__law_is_chance.st) = true := by decide +kernel
theorem c__law_bad_fr : chkSs T f__law_bad_fr.N f__law_bad_fr.b (defScope f__law_bad_fr.st) (defBody f__law_bad_fr.st) = true := by decide +kernel
theorem c__law_told : chkSs T f__law_told.N f__law_told.b (defScope f__law_told.st) (defBody f__law_told.st) = true := by decide +kernel
theorem c__law_wide : chkSs T f__law_wide.N f__law_wide.b (defScope f__law_wide.st) (defBody f__law_wide.st) = true := by decide +kernel
theorem c__law_raised : chkSs T f__law_raised.N f__law_raised.b (defScope f__law_raised.st) (defBody f__law_raised.st) = true := by decide +kernel
theorem c_law : chkSs T f_law.N f_law.b (defScope f_law.st) (defBody f_law.st) = true := by decide +kernel
end K01
end

section
set_option Elab.async false
set_option linter.all false
set_option maxRecDepth 100000
set_option maxHeartbeats 4000000
namespace K01
open PySem PySem.Spec PyProof.Rows L2 Ev
theorem bd_is_integer : BindA n_is_integer f_is_integer := fun _ _ _ _ _ _ us (hl : us.length = 1) => match us, hl with | [_], _ => rfl
theorem sc_is_integer : C8.scC f_is_integer.N n_is_integer.2 (defScope f_is_integer.st) = true := by decide +kernel
theorem bd_is_fraction : BindA n_is_fraction f_is_fraction := fun _ _ _ _ _ _ us (hl : us.length = 1) => match us, hl with | [_], _ => rfl
theorem sc_is_fraction : C8.scC f_is_fraction.N n_is_fraction.2 (defScope f_is_fraction.st) = true := by decide +kernel
theorem bd_is_chance : BindA n_is_chance f_is_chance := fun _ _ _ _ _ _ us (hl : us.length = 1) => match us, hl with | [_], _ => rfl
theorem sc_is_chance : C8.scC f_is_chance.N n_is_chance.2 (defScope f_is_chance.st) = true := by decide +kernel
theorem bd_check_number : BindA n_check_number f_check_number := fun _ _ _ _ _ _ us (hl : us.length = 1) => match us, hl with | [_], _ => rfl
theorem sc_check_number : C8.scC f_check_number.N n_check_number.2 (defScope f_check_number.st) = true := by decide +kernel
theorem bd_check_count : BindA n_check_count f_check_count := fun _ _ _ _ _ _ us (hl : us.length = 2) => match us, hl with | [_, _], _ => rfl
theorem sc_check_count : C8.scC f_check_count.N n_check_count.2 (defScope f_check_count.st) = true := by decide +kernel
theorem bd_made : BindA n_made f_made := fun _ _ _ _ _ _ us (hl : us.length = 2) => match us, hl with | [_, _], _ => rfl
theorem sc_made : C8.scC f_made.N n_made.2 (defScope f_made.st) = true := by decide +kernel
theorem bd_added : BindA n_added f_added := fun _ _ _ _ _ _ us (hl : us.length = 2) => match us, hl with | [_, _], _ => rfl
theorem sc_added : C8.scC f_added.N n_added.2 (defScope f_added.st) = true := by decide +kernel
theorem bd_subtracted : BindA n_subtracted f_subtracted := fun _ _ _ _ _ _ us (hl : us.length = 2) => match us, hl with | [_, _], _ => rfl
theorem sc_subtracted : C8.scC f_subtracted.N n_subtracted.2 (defScope f_subtracted.st) = true := by decide +kernel
theorem bd_multiplied : BindA n_multiplied f_multiplied := fun _ _ _ _ _ _ us (hl : us.length = 2) => match us, hl with | [_, _], _ => rfl
theorem sc_multiplied : C8.scC f_multiplied.N n_multiplied.2 (defScope f_multiplied.st) = true := by decide +kernel
theorem bd_quotient : BindA n_quotient f_quotient := fun _ _ _ _ _ _ us (hl : us.length = 2) => match us, hl with | [_, _], _ => rfl
theorem sc_quotient : C8.scC f_quotient.N n_quotient.2 (defScope f_quotient.st) = true := by decide +kernel
theorem bd_is_below : BindA n_is_below f_is_below := fun _ _ _ _ _ _ us (hl : us.length = 2) => match us, hl with | [_, _], _ => rfl
theorem sc_is_below : C8.scC f_is_below.N n_is_below.2 (defScope f_is_below.st) = true := by decide +kernel
theorem bd_over_one : BindA n_over_one f_over_one := fun _ _ _ _ _ _ us (hl : us.length = 1) => match us, hl with | [_], _ => rfl
theorem sc_over_one : C8.scC f_over_one.N n_over_one.2 (defScope f_over_one.st) = true := by decide +kernel
theorem bd_sum_of : BindA n_sum_of f_sum_of := fun _ _ _ _ _ _ us (hl : us.length = 1) => match us, hl with | [_], _ => rfl
theorem sc_sum_of : C8.scC f_sum_of.N n_sum_of.2 (defScope f_sum_of.st) = true := by decide +kernel
theorem bd_fraction : BindA n_fraction f_fraction := fun _ _ _ _ _ _ us (hl : us.length = 2) => match us, hl with | [_, _], _ => rfl
theorem sc_fraction : C8.scC f_fraction.N n_fraction.2 (defScope f_fraction.st) = true := by decide +kernel
theorem bd_plus : BindA n_plus f_plus := fun _ _ _ _ _ _ us (hl : us.length = 2) => match us, hl with | [_, _], _ => rfl
theorem sc_plus : C8.scC f_plus.N n_plus.2 (defScope f_plus.st) = true := by decide +kernel
theorem bd_minus : BindA n_minus f_minus := fun _ _ _ _ _ _ us (hl : us.length = 2) => match us, hl with | [_, _], _ => rfl
theorem sc_minus : C8.scC f_minus.N n_minus.2 (defScope f_minus.st) = true := by decide +kernel
theorem bd_times : BindA n_times f_times := fun _ _ _ _ _ _ us (hl : us.length = 2) => match us, hl with | [_, _], _ => rfl
theorem sc_times : C8.scC f_times.N n_times.2 (defScope f_times.st) = true := by decide +kernel
theorem bd_divided : BindA n_divided f_divided := fun _ _ _ _ _ _ us (hl : us.length = 2) => match us, hl with | [_, _], _ => rfl
theorem sc_divided : C8.scC f_divided.N n_divided.2 (defScope f_divided.st) = true := by decide +kernel
theorem bd_less : BindA n_less f_less := fun _ _ _ _ _ _ us (hl : us.length = 2) => match us, hl with | [_, _], _ => rfl
theorem sc_less : C8.scC f_less.N n_less.2 (defScope f_less.st) = true := by decide +kernel
theorem bd_total : BindA n_total f_total := fun _ _ _ _ _ _ us (hl : us.length = 1) => match us, hl with | [_], _ => rfl
theorem sc_total : C8.scC f_total.N n_total.2 (defScope f_total.st) = true := by decide +kernel
theorem bd_power : BindA n_power f_power := fun _ _ _ _ _ _ us (hl : us.length = 2) => match us, hl with | [_, _], _ => rfl
theorem sc_power : C8.scC f_power.N n_power.2 (defScope f_power.st) = true := by decide +kernel
theorem bd__law_draws : BindA n__law_draws f__law_draws := fun _ _ _ _ _ _ us (hl : us.length = 2) => match us, hl with | [_, _], _ => rfl
theorem sc__law_draws : C8.scC f__law_draws.N n__law_draws.2 (defScope f__law_draws.st) = true := by decide +kernel
theorem bd__law_stir : BindA n__law_stir f__law_stir := fun _ _ _ _ _ _ us (hl : us.length = 2) => match us, hl with | [_, _], _ => rfl
theorem sc__law_stir : C8.scC f__law_stir.N n__law_stir.2 (defScope f__law_stir.st) = true := by decide +kernel
theorem bd__law_take : BindA n__law_take f__law_take := fun _ _ _ _ _ _ us (hl : us.length = 2) => match us, hl with | [_, _], _ => rfl
theorem sc__law_take : C8.scC f__law_take.N n__law_take.2 (defScope f__law_take.st) = true := by decide +kernel
theorem bd__law_pick : BindA n__law_pick f__law_pick := fun _ _ _ _ _ _ us (hl : us.length = 2) => match us, hl with | [_, _], _ => rfl
theorem sc__law_pick : C8.scC f__law_pick.N n__law_pick.2 (defScope f__law_pick.st) = true := by decide +kernel
theorem bd__law_same : BindA n__law_same f__law_same := fun _ _ _ _ _ _ us (hl : us.length = 2) => match us, hl with | [_, _], _ => rfl
theorem sc__law_same : C8.scC f__law_same.N n__law_same.2 (defScope f__law_same.st) = true := by decide +kernel
theorem bd__law_spoilt : BindA n__law_spoilt f__law_spoilt := fun _ _ _ _ _ _ us (hl : us.length = 3) => match us, hl with | [_, _, _], _ => rfl
theorem sc__law_spoilt : C8.scC f__law_spoilt.N n__law_spoilt.2 (defScope f__law_spoilt.st) = true := by decide +kernel
theorem bd__law_put : BindA n__law_put f__law_put := fun _ _ _ _ _ _ us (hl : us.length = 3) => match us, hl with | [_, _, _], _ => rfl
theorem sc__law_put : C8.scC f__law_put.N n__law_put.2 (defScope f__law_put.st) = true := by decide +kernel
theorem bd__law_is_tuple : BindA n__law_is_tuple f__law_is_tuple := fun _ _ _ _ _ _ us (hl : us.length = 2) => match us, hl with | [_, _], _ => rfl
theorem sc__law_is_tuple : C8.scC f__law_is_tuple.N n__law_is_tuple.2 (defScope f__law_is_tuple.st) = true := by decide +kernel
theorem bd__law_is_int : BindA n__law_is_int f__law_is_int := fun _ _ _ _ _ _ us (hl : us.length = 1) => match us, hl with | [_], _ => rfl
theorem sc__law_is_int : C8.scC f__law_is_int.N n__law_is_int.2 (defScope f__law_is_int.st) = true := by decide +kernel
theorem bd__law_gcd : BindA n__law_gcd f__law_gcd := fun _ _ _ _ _ _ us (hl : us.length = 2) => match us, hl with | [_, _], _ => rfl
theorem sc__law_gcd : C8.scC f__law_gcd.N n__law_gcd.2 (defScope f__law_gcd.st) = true := by decide +kernel
theorem bd__law_fr : BindA n__law_fr f__law_fr := fun _ _ _ _ _ _ us (hl : us.length = 2) => match us, hl with | [_, _], _ => rfl
theorem sc__law_fr : C8.scC f__law_fr.N n__law_fr.2 (defScope f__law_fr.st) = true := by decide +kernel
theorem bd__law_add : BindA n__law_add f__law_add := fun _ _ _ _ _ _ us (hl : us.length = 2) => match us, hl with | [_, _], _ => rfl
theorem sc__law_add : C8.scC f__law_add.N n__law_add.2 (defScope f__law_add.st) = true := by decide +kernel
theorem bd__law_sub : BindA n__law_sub f__law_sub := fun _ _ _ _ _ _ us (hl : us.length = 2) => match us, hl with | [_, _], _ => rfl
theorem sc__law_sub : C8.scC f__law_sub.N n__law_sub.2 (defScope f__law_sub.st) = true := by decide +kernel
theorem bd__law_mul : BindA n__law_mul f__law_mul := fun _ _ _ _ _ _ us (hl : us.length = 2) => match us, hl with | [_, _], _ => rfl
theorem sc__law_mul : C8.scC f__law_mul.N n__law_mul.2 (defScope f__law_mul.st) = true := by decide +kernel
theorem bd__law_div : BindA n__law_div f__law_div := fun _ _ _ _ _ _ us (hl : us.length = 2) => match us, hl with | [_, _], _ => rfl
theorem sc__law_div : C8.scC f__law_div.N n__law_div.2 (defScope f__law_div.st) = true := by decide +kernel
theorem bd__law_lt : BindA n__law_lt f__law_lt := fun _ _ _ _ _ _ us (hl : us.length = 2) => match us, hl with | [_, _], _ => rfl
theorem sc__law_lt : C8.scC f__law_lt.N n__law_lt.2 (defScope f__law_lt.st) = true := by decide +kernel
theorem bd__law_sum : BindA n__law_sum f__law_sum := fun _ _ _ _ _ _ us (hl : us.length = 1) => match us, hl with | [_], _ => rfl
theorem sc__law_sum : C8.scC f__law_sum.N n__law_sum.2 (defScope f__law_sum.st) = true := by decide +kernel
theorem bd__law_is_fr : BindA n__law_is_fr f__law_is_fr := fun _ _ _ _ _ _ us (hl : us.length = 1) => match us, hl with | [_], _ => rfl
theorem sc__law_is_fr : C8.scC f__law_is_fr.N n__law_is_fr.2 (defScope f__law_is_fr.st) = true := by decide +kernel
theorem bd__law_is_chance : BindA n__law_is_chance f__law_is_chance := fun _ _ _ _ _ _ us (hl : us.length = 1) => match us, hl with | [_], _ => rfl
theorem sc__law_is_chance : C8.scC f__law_is_chance.N n__law_is_chance.2 (defScope f__law_is_chance.st) = true := by decide +kernel
theorem bd__law_bad_fr : BindA n__law_bad_fr f__law_bad_fr := fun _ _ _ _ _ _ us (hl : us.length = 1) => match us, hl with | [_], _ => rfl
theorem sc__law_bad_fr : C8.scC f__law_bad_fr.N n__law_bad_fr.2 (defScope f__law_bad_fr.st) = true := by decide +kernel
theorem bd__law_told : BindA n__law_told f__law_told := fun _ _ _ _ _ _ us (hl : us.length = 3) => match us, hl with | [_, _, _], _ => rfl
theorem sc__law_told : C8.scC f__law_told.N n__law_told.2 (defScope f__law_told.st) = true := by decide +kernel
theorem bd__law_wide : BindA n__law_wide f__law_wide := fun _ _ _ _ _ _ us (hl : us.length = 1) => match us, hl with | [_], _ => rfl
theorem sc__law_wide : C8.scC f__law_wide.N n__law_wide.2 (defScope f__law_wide.st) = true := by decide +kernel
theorem bd__law_raised : BindA n__law_raised f__law_raised := fun _ _ _ _ _ _ us (hl : us.length = 2) => match us, hl with | [_, _], _ => rfl
theorem sc__law_raised : C8.scC f__law_raised.N n__law_raised.2 (defScope f__law_raised.st) = true := by decide +kernel
theorem bd_law : BindA n_law f_law := fun _ _ _ _ _ _ us (hl : us.length = 1) => match us, hl with | [_], _ => rfl
theorem sc_law : C8.scC f_law.N n_law.2 (defScope f_law.st) = true := by decide +kernel
theorem kw_0 : KwA n_plus f_plus 0 ["number", "other_number"] [0, 1] := by
  intro kV doc pm an cdv ct us ws zs h1 h2 h3
  match us, ws, h1, h2, h3 with
  | [], [w0, w1], _, _, h3 =>
    have e := Option.some.inj (show some [w0, w1] = some zs from h3)
    subst e
    rfl
theorem kw_1 : KwA n_minus f_minus 0 ["number", "other_number"] [0, 1] := by
  intro kV doc pm an cdv ct us ws zs h1 h2 h3
  match us, ws, h1, h2, h3 with
  | [], [w0, w1], _, _, h3 =>
    have e := Option.some.inj (show some [w0, w1] = some zs from h3)
    subst e
    rfl
theorem kw_2 : KwA n_times f_times 0 ["number", "other_number"] [0, 1] := by
  intro kV doc pm an cdv ct us ws zs h1 h2 h3
  match us, ws, h1, h2, h3 with
  | [], [w0, w1], _, _, h3 =>
    have e := Option.some.inj (show some [w0, w1] = some zs from h3)
    subst e
    rfl
theorem kw_3 : KwA n_divided f_divided 0 ["number", "other_number"] [0, 1] := by
  intro kV doc pm an cdv ct us ws zs h1 h2 h3
  match us, ws, h1, h2, h3 with
  | [], [w0, w1], _, _, h3 =>
    have e := Option.some.inj (show some [w0, w1] = some zs from h3)
    subst e
    rfl
theorem kw_4 : KwA n_less f_less 0 ["number", "other_number"] [0, 1] := by
  intro kV doc pm an cdv ct us ws zs h1 h2 h3
  match us, ws, h1, h2, h3 with
  | [], [w0, w1], _, _, h3 =>
    have e := Option.some.inj (show some [w0, w1] = some zs from h3)
    subst e
    rfl
theorem kw_5 : KwA n_fraction f_fraction 0 ["top", "bottom"] [0, 1] := by
  intro kV doc pm an cdv ct us ws zs h1 h2 h3
  match us, ws, h1, h2, h3 with
  | [], [w0, w1], _, _, h3 =>
    have e := Option.some.inj (show some [w0, w1] = some zs from h3)
    subst e
    rfl
theorem kw_6 : KwA n_total f_total 0 ["numbers"] [0] := by
  intro kV doc pm an cdv ct us ws zs h1 h2 h3
  match us, ws, h1, h2, h3 with
  | [], [w0], _, _, h3 =>
    have e := Option.some.inj (show some [w0] = some zs from h3)
    subst e
    rfl
theorem kw_7 : KwA n_power f_power 0 ["number", "count"] [0, 1] := by
  intro kV doc pm an cdv ct us ws zs h1 h2 h3
  match us, ws, h1, h2, h3 with
  | [], [w0, w1], _, _, h3 =>
    have e := Option.some.inj (show some [w0, w1] = some zs from h3)
    subst e
    rfl
theorem kw_8 : KwA n_is_chance f_is_chance 0 ["value"] [0] := by
  intro kV doc pm an cdv ct us ws zs h1 h2 h3
  match us, ws, h1, h2, h3 with
  | [], [w0], _, _, h3 =>
    have e := Option.some.inj (show some [w0] = some zs from h3)
    subst e
    rfl
theorem kw_9 : KwA n_is_fraction f_is_fraction 0 ["value"] [0] := by
  intro kV doc pm an cdv ct us ws zs h1 h2 h3
  match us, ws, h1, h2, h3 with
  | [], [w0], _, _, h3 =>
    have e := Option.some.inj (show some [w0] = some zs from h3)
    subst e
    rfl
theorem dz : T.dn.zip fs = [(n_is_integer, f_is_integer), (n_is_fraction, f_is_fraction), (n_is_chance, f_is_chance), (n_check_number, f_check_number), (n_check_count, f_check_count), (n_made, f_made), (n_added, f_added), (n_subtracted, f_subtracted), (n_multiplied, f_multiplied), (n_quotient, f_quotient), (n_is_below, f_is_below), (n_over_one, f_over_one), (n_sum_of, f_sum_of), (n_fraction, f_fraction), (n_plus, f_plus), (n_minus, f_minus), (n_times, f_times), (n_divided, f_divided), (n_less, f_less), (n_total, f_total), (n_power, f_power), (n__law_draws, f__law_draws), (n__law_stir, f__law_stir), (n__law_take, f__law_take), (n__law_pick, f__law_pick), (n__law_same, f__law_same), (n__law_spoilt, f__law_spoilt), (n__law_put, f__law_put), (n__law_is_tuple, f__law_is_tuple), (n__law_is_int, f__law_is_int), (n__law_gcd, f__law_gcd), (n__law_fr, f__law_fr), (n__law_add, f__law_add), (n__law_sub, f__law_sub), (n__law_mul, f__law_mul), (n__law_div, f__law_div), (n__law_lt, f__law_lt), (n__law_sum, f__law_sum), (n__law_is_fr, f__law_is_fr), (n__law_is_chance, f__law_is_chance), (n__law_bad_fr, f__law_bad_fr), (n__law_told, f__law_told), (n__law_wide, f__law_wide), (n__law_raised, f__law_raised), (n_law, f_law)] := rfl
theorem kz : Each (KwP T fs) T.kb := (Each.cons (show KwP T fs _ from kw_0) (Each.cons (show KwP T fs _ from kw_1) (Each.cons (show KwP T fs _ from kw_2) (Each.cons (show KwP T fs _ from kw_3) (Each.cons (show KwP T fs _ from kw_4) (Each.cons (show KwP T fs _ from kw_5) (Each.cons (show KwP T fs _ from kw_6) (Each.cons (show KwP T fs _ from kw_7) (Each.cons (show KwP T fs _ from kw_8) (Each.cons (show KwP T fs _ from kw_9) Each.nil))))))))))
theorem sub_ok {K : PySem.W.Frag} (C : Nat → Addr) (h0_0 : PySem.W.subIn K (.ref (C 0)) (.ref (C 0)) = some true) (h0_1 : PySem.W.subIn K (.ref (C 0)) (.ref (C 1)) = some false) (h0_2 : PySem.W.subIn K (.ref (C 0)) (.ref (C 2)) = some false) (h1_0 : PySem.W.subIn K (.ref (C 1)) (.ref (C 0)) = some false) (h1_1 : PySem.W.subIn K (.ref (C 1)) (.ref (C 1)) = some true) (h1_2 : PySem.W.subIn K (.ref (C 1)) (.ref (C 2)) = some false) (h2_0 : PySem.W.subIn K (.ref (C 2)) (.ref (C 0)) = some false) (h2_1 : PySem.W.subIn K (.ref (C 2)) (.ref (C 1)) = some false) (h2_2 : PySem.W.subIn K (.ref (C 2)) (.ref (C 2)) = some true) :
    ∀ k h b, T.sub k h = some b → k < T.cn.length ∧ h < T.cn.length ∧ PySem.W.subIn K (.ref (C k)) (.ref (C h)) = some b := by
  intro k h b e
  match k, h, e with
  | 0, 0, e => cases e; exact ⟨by decide, by decide, h0_0⟩
  | 0, 1, e => cases e; exact ⟨by decide, by decide, h0_1⟩
  | 0, 2, e => cases e; exact ⟨by decide, by decide, h0_2⟩
  | 1, 0, e => cases e; exact ⟨by decide, by decide, h1_0⟩
  | 1, 1, e => cases e; exact ⟨by decide, by decide, h1_1⟩
  | 1, 2, e => cases e; exact ⟨by decide, by decide, h1_2⟩
  | 2, 0, e => cases e; exact ⟨by decide, by decide, h2_0⟩
  | 2, 1, e => cases e; exact ⟨by decide, by decide, h2_1⟩
  | 2, 2, e => cases e; exact ⟨by decide, by decide, h2_2⟩
  | 0, _ + 3, e => cases e
  | 1, _ + 3, e => cases e
  | 2, _ + 3, e => cases e
  | _ + 3, _, e => cases e
end K01
end

section
namespace K01
open Ev
def wl : Nat := 100000
abbrev R := run g T.sub wl (sizes fs)
theorem sz42 : (sizes fs)[42]? = some (3, b__law_wide) := rfl
theorem sz43 : (sizes fs)[43]? = some (4, b__law_raised) := rfl
theorem sz44 : (sizes fs)[44]? = some (16, b_law) := rfl
end K01
end

section
set_option Elab.async false
set_option linter.all false
set_option maxRecDepth 100000
set_option exponentiation.threshold 100
/-! k01: fractions in plain Lean -/
namespace K01
/-- top / bottom in least terms, the bottom above 0 -/
def frN (t b : Int) : Int := if b < 0 then -t / (Int.gcd t b : Int) else t / (Int.gcd t b : Int)
def frE (t b : Int) : Int := if b < 0 then -b / (Int.gcd t b : Int) else b / (Int.gcd t b : Int)
structure IsFr (n d : Int) : Prop where
  pos : 0 < d
  cop : Int.gcd n d = 1
theorem fr_is {t b : Int} (hb : b ≠ 0) : IsFr (frN t b) (frE t b) ∧ frN t b * b = t * frE t b := by
  have hg : 0 < Int.gcd t b := Nat.pos_of_ne_zero fun h => hb (Int.gcd_eq_zero_iff.mp h).2
  obtain ⟨t', ht⟩ := Int.gcd_dvd_left t b
  obtain ⟨b', hb'⟩ := Int.gcd_dvd_right t b
  have hG : ((Int.gcd t b : Nat) : Int) ≠ 0 := by omega
  have q1 : t / (Int.gcd t b : Int) = t' := by conv => lhs; lhs; rw [ht]
                                               rw [Int.mul_ediv_cancel_left _ hG]
  have q2 : b / (Int.gcd t b : Int) = b' := by conv => lhs; lhs; rw [hb']
                                               rw [Int.mul_ediv_cancel_left _ hG]
  have q3 : -t / (Int.gcd t b : Int) = -t' := by conv => lhs; lhs; rw [ht]
                                                 rw [← Int.mul_neg, Int.mul_ediv_cancel_left _ hG]
  have q4 : -b / (Int.gcd t b : Int) = -b' := by conv => lhs; lhs; rw [hb']
                                                 rw [← Int.mul_neg, Int.mul_ediv_cancel_left _ hG]
  have hc : Int.gcd t' b' = 1 := by
    have h := Int.gcd_ediv_gcd_ediv_gcd hg
    rw [q1, q2] at h
    exact h
  generalize hgg : ((Int.gcd t b : Nat) : Int) = G at *
  have hGp : 0 < G := by omega
  unfold frN frE
  rw [hgg]
  by_cases h : b < 0
  · rw [if_pos h, if_pos h, q3, q4]
    refine ⟨⟨?_, by rw [Int.gcd_neg, Int.neg_gcd]; exact hc⟩, by rw [ht, hb']; grind⟩
    have : ¬ 0 ≤ b' := fun z => by
      have := Int.mul_nonneg (Int.le_of_lt hGp) z
      omega
    omega
  · rw [if_neg h, if_neg h, q1, q2]
    refine ⟨⟨?_, hc⟩, by rw [ht, hb']; grind⟩
    have : ¬ b' ≤ 0 := fun z => by
      have := Int.mul_nonneg (Int.le_of_lt hGp) (Int.neg_nonneg_of_nonpos z)
      rw [Int.mul_neg] at this
      omega
    omega
theorem dvd_cop {d n m : Int} (h : d ∣ n * m) (hc : Int.gcd d n = 1) : d ∣ m := by
  rw [← Int.natAbs_dvd_natAbs, Int.natAbs_mul] at h
  exact Int.natAbs_dvd_natAbs.mp (Nat.Coprime.dvd_of_dvd_mul_left hc h)
theorem fr_uniq {n d n' d' : Int} (h : IsFr n d) (h' : IsFr n' d') (e : n * d' = n' * d) : n = n' ∧ d = d' := by
  have p1 := h.pos
  have p2 := h'.pos
  have e1 : d ∣ d' := by
    have : d ∣ n * d' := ⟨n', by rw [e, Int.mul_comm]⟩
    exact dvd_cop this (by rw [Int.gcd_comm]; exact h.cop)
  have e2 : d' ∣ d := by
    have : d' ∣ n' * d := ⟨n, by rw [← e, Int.mul_comm]⟩
    exact dvd_cop this (by rw [Int.gcd_comm]; exact h'.cop)
  have ed : d = d' := Int.dvd_antisymm (Int.le_of_lt p1) (Int.le_of_lt p2) e1 e2
  subst ed
  exact ⟨Int.eq_of_mul_eq_mul_right (Int.ne_of_gt p1) e, rfl⟩
theorem fr_self {n d : Int} (h : IsFr n d) : frN n d = n ∧ frE n d = d := by
  obtain ⟨h1, h2⟩ := fr_is (t := n) (b := d) (Int.ne_of_gt h.pos)
  exact fr_uniq h1 h h2
/-- equal quotients have one fraction -/
theorem fr_eq {t b t' b' : Int} (hb : b ≠ 0) (hb' : b' ≠ 0) (e : t * b' = t' * b) : frN t b = frN t' b' ∧ frE t b = frE t' b' := by
  obtain ⟨h1, h2⟩ := fr_is (t := t) hb
  obtain ⟨h3, h4⟩ := fr_is (t := t') hb'
  refine fr_uniq h1 h3 ?_
  have z : (b * b') ≠ 0 := Int.mul_ne_zero hb hb'
  refine Int.eq_of_mul_eq_mul_right z ?_
  have : frN t b * frE t' b' * (b * b') = (frN t b * b) * frE t' b' * b' := by grind
  rw [this, h2]
  have : frN t' b' * frE t b * (b * b') = (frN t' b' * b') * frE t b * b := by grind
  rw [this, h4]
  grind
theorem fr_le {t b : Int} (hb : b ≠ 0) : (frN t b).natAbs ≤ t.natAbs ∧ (frE t b).natAbs ≤ b.natAbs := by
  unfold frN frE
  split
  · constructor
    · rw [Int.natAbs_ediv_of_dvd (Int.dvd_neg.mpr (Int.gcd_dvd_left t b)), Int.natAbs_neg]
      exact Nat.div_le_self _ _
    · rw [Int.natAbs_ediv_of_dvd (Int.dvd_neg.mpr (Int.gcd_dvd_right t b)), Int.natAbs_neg]
      exact Nat.div_le_self _ _
  · constructor
    · rw [Int.natAbs_ediv_of_dvd (Int.gcd_dvd_left t b)]
      exact Nat.div_le_self _ _
    · rw [Int.natAbs_ediv_of_dvd (Int.gcd_dvd_right t b)]
      exact Nat.div_le_self _ _
/-! bounds -/
theorem log_lt {a : Nat} {n : Nat} (hn : 0 < n) (h : a < 2 ^ n) : a.log2 < n := by
  by_cases z : a = 0
  · subst z; simpa using hn
  · exact (Nat.log2_lt z).mpr h
open Ev in
theorem mul_ok {i j : Int} (hi : i.natAbs < 2 ^ 5000) (hj : j.natAbs < 2 ^ 5000) : MulOk i j := by
  have := log_lt (by omega) hi
  have := log_lt (by omega) hj
  unfold MulOk
  omega
open Ev in
theorem div_ok {j : Int} (h0 : j ≠ 0) (hj : j.natAbs < 2 ^ 5000) : DivOk j := ⟨h0, by have := log_lt (by omega) hj; omega⟩

/-! Euclid's steps -/
theorem euclid_step {a b i : Nat} (hb : b ≠ 0) (h : (i = 0 ∧ a * b < 2 ^ 5000) ∨ (0 < i ∧ b < a ∧ a * b * 2 ^ i < 2 ^ (5000 + 1))) : 0 < i + 1 ∧ a % b < b ∧ b * (a % b) * 2 ^ (i + 1) < 2 ^ (5000 + 1) := by
  have hlt : a % b < b := Nat.mod_lt _ (Nat.pos_of_ne_zero hb)
  refine ⟨by omega, hlt, ?_⟩
  rcases h with ⟨rfl, h⟩ | ⟨hi, hba, h⟩
  · have : b * (a % b) ≤ a * b := by
      rw [Nat.mul_comm a b]
      exact Nat.mul_le_mul_left _ (Nat.mod_le _ _)
    have e : (2 : Nat) ^ (5000 + 1) = 2 ^ 5000 * 2 := Nat.pow_succ 2 5000
    rw [e]
    generalize (2 : Nat) ^ 5000 = M at *
    show b * (a % b) * 2 ^ (0 + 1) < M * 2
    omega
  · have h2 : a % b * 2 ≤ a := by
      have e := Nat.div_add_mod a b
      have : 1 ≤ a / b := Nat.div_pos (Nat.le_of_lt hba) (Nat.pos_of_ne_zero hb)
      have : b ≤ b * (a / b) := Nat.le_mul_of_pos_right _ this
      omega
    refine Nat.lt_of_le_of_lt ?_ h
    have : b * (a % b) * 2 ^ (i + 1) = b * (a % b * 2) * 2 ^ i := by rw [Nat.pow_succ]; grind
    rw [this]
    refine Nat.mul_le_mul_right _ ?_
    rw [Nat.mul_comm a b]
    exact Nat.mul_le_mul_left _ h2
theorem euclid_end {a b i : Nat} (hi : 5001 ≤ i) (h : (i = 0 ∧ a * b < 2 ^ 5000) ∨ (0 < i ∧ b < a ∧ a * b * 2 ^ i < 2 ^ (5000 + 1))) : b = 0 := by
  rcases h with ⟨h, _⟩ | ⟨_, hba, h⟩
  · omega
  · have e : (2 : Nat) ^ (5000 + 1) ≤ 2 ^ i := Nat.pow_le_pow_right (by decide) hi
    have : a * b < 1 := by
      have z : a * b * 2 ^ i < 1 * 2 ^ i := by rw [Nat.one_mul]; exact Nat.lt_of_lt_of_le h e
      exact Nat.lt_of_mul_lt_mul_right z
    have : a * b = 0 := by omega
    rcases Nat.mul_eq_zero.mp this with q | q
    · omega
    · exact q
end K01
end

section
set_option Elab.async false
set_option linter.all false
set_option maxRecDepth 100000
local macro_rules
  | `(tactic| walk_at "ev1") => `(tactic| first
    | with_reducible refine Ev.w_con ?_
    | ((with_reducible refine Ev.w_sh (d := ?v) ?e ?_); (case e => exact rfl))
    | ((with_reducible refine Ev.w_al (d := ?v) ?e ?_); (case e => exact rfl))
    | with_reducible refine Ev.nal_sh ?_
    | with_reducible refine Ev.w_cons ?_
    | with_reducible refine Ev.w_nil ?_
    | with_reducible refine Ev.w_bin ?_
    | with_reducible refine Ev.wb_add ?_
    | with_reducible refine Ev.wb_sub ?_
    | with_reducible refine Ev.wb_mul ?_ ?_
    | with_reducible refine Ev.wb_fdiv ?_ ?_
    | with_reducible refine Ev.wb_mod ?_ ?_
    | with_reducible refine Ev.w_ix ?_
    | ((with_reducible refine Ev.wi_of (r := ?v) ?e ?_); (case e => exact rfl))
    | with_reducible refine Ev.w_call ?_
    | with_reducible refine Ev.w_callk ?_
    | ((with_reducible refine Ev.ex_perm (xs := ?v) ?e ?_); (case e => exact rfl))
    | with_reducible refine Ev.w_cmp ?_
    | with_reducible refine Ev.w_chn ?_
    | with_reducible refine Ev.wc_lt ?_
    | with_reducible refine Ev.wc_le ?_
    | with_reducible refine Ev.wc_gt ?_
    | with_reducible refine Ev.wc_ge ?_
    | with_reducible refine Ev.wc_eqI ?_
    | with_reducible refine Ev.wc_neI ?_
    | with_reducible refine Ev.w_and ?_
    | with_reducible refine Ev.w_or ?_
    | with_reducible refine Ev.w_andE ?_
    | with_reducible refine Ev.w_orE ?_
    | with_reducible refine Ev.w_ite ?_
    | ((with_reducible refine Ev.tv_b' (b := ?v) ?e ?_); (case e => exact rfl))
    | ((with_reducible refine Ev.bt_t' ?e ?_); (case e => exact rfl))
    | ((with_reducible refine Ev.bt_f' ?e ?_); (case e => exact rfl))
    | with_reducible refine Ev.bt_n ?_
    | ((with_reducible refine Ev.bt_d ?_ ?_) <;> intro _)
    | with_reducible refine Ev.w_not ?_
    | ((with_reducible refine Ev.ex_tru (b := ?v) ?e ?_); (case e => exact rfl))
    | with_reducible refine Ev.w_neg ?_
    | ((with_reducible refine Ev.ex_int (i := ?v) ?e ?_); (case e => exact rfl))
    | with_reducible refine Ev.w_tup ?_
    | with_reducible refine Ev.w_lst ?_
    | ((with_reducible refine Ev.len_and ?e ?_); (case e => exact rfl))
    | with_reducible refine Ev.w_isi ?_
    | ((with_reducible refine Ev.ex_ty (u := ?v) ?e ?_); (case e => first | exact rfl | assumption))
    | with_reducible refine Ev.w_bi1 ?_
    | with_reducible refine Ev.w_bi ?_
    | ((with_reducible refine Ev.wf_of (r := ?v) ?e ?_); (case e => exact rfl))
    | with_reducible refine Ev.nal_fr ?_
    | with_reducible refine Ev.s_cons ?_
    | with_reducible refine Ev.s_nil ?_
    | with_reducible refine Ev.s_ifs ?_
    | with_reducible refine Ev.s_asg ?_
    | with_reducible refine Ev.s_ret ?_
    | ((with_reducible refine Ev.s_retv (d := ?v) ?e ?_); (case e => exact rfl))
    | ((with_reducible refine Ev.s_reto (d := ?v) ?e ?_); (case e => exact rfl))
    | with_reducible refine Ev.s_retN ?_
    | with_reducible refine Ev.s_tgt ?_
    | with_reducible refine Ev.ex_sh ?_
    | ((with_reducible refine Ev.ex_asg (env' := ?v) ?e ?_); (case e => exact rfl))
    | with_reducible refine Ev.s_par ?_
    | ((with_reducible refine Ev.nal2 ?e ?_); (case e => exact rfl))
    | with_reducible refine Ev.s_exp ?_
    | with_reducible refine Ev.s_rai ?_
    | with_reducible refine Ev.s_tri ?_
    | with_reducible refine Ev.s_pas ?_
    | with_reducible refine Ev.w_sl ?_
    | with_reducible refine Ev.w_nop ?_
    | ((with_reducible refine Ev.ex_part (l := ?v) ?e ?_); (case e => exact rfl))
    | ((with_reducible refine Ev.wl_of (r := ?v) ?e ?_); (case e => exact rfl))
    | ((with_reducible refine Ev.s_frz (env' := ?v) ?e ?_); (case e => exact rfl))
    | with_reducible refine Ev.s_for ?_
    | with_reducible refine Ev.w_over ?_
    | ((with_reducible refine Ev.ex_over (ds := ?v) ?e ?f ?_); (case e => exact rfl); (case f => exact rfl))
    | with_reducible refine Ev.w_lc ?_
    | ((with_reducible refine Ev.w_glb (d := ?v) ?e ?_); (case e => exact rfl)))
namespace K01
open Ev PySem
abbrev frD (t b : Int) : D := .tup [.int (frN t b), .int (frE t b)]
theorem s_is_integer (k d ρ t) (h : tyN d = some t) : R (k+1) 0 [d] ρ = .ok ⟨.bl (isT t .int && !isT t .bool), .sh⟩ ρ := by
  refine WR.eq (WR.run (n := 1) (b := b_is_integer) rfl ?_)
  unfold b_is_integer
  cases t <;> (repeat' (walk_at "ev1")) <;> exact ⟨rfl, rfl⟩
theorem gcd_lt {a b : Int} (hb : b ≠ 0) (hz : b.natAbs < 2 ^ 5000) : Nat.gcd a.natAbs b.natAbs ≠ 0 ∧ Nat.gcd a.natAbs b.natAbs < 2 ^ 5000 := by
  have h0 : b.natAbs ≠ 0 := by omega
  exact ⟨fun z => h0 (Nat.gcd_eq_zero_iff.mp z).2, Nat.lt_of_le_of_lt (Nat.gcd_le_right _ (by omega)) hz⟩
theorem fdivN {a g : Int} (hg : g ∣ a) (h0 : g ≠ 0) : a.fdiv (-g) = -a / g := by
  obtain ⟨c, rfl⟩ := hg
  rw [← Int.mul_neg, Int.mul_ediv_cancel_left _ h0]
  have : g * c = -g * -c := by grind
  rw [this, Int.mul_fdiv_cancel_left _ (by omega)]
theorem fdivP {a g : Int} (hg : g ∣ a) (h0 : g ≠ 0) : a.fdiv g = a / g := by
  obtain ⟨c, rfl⟩ := hg
  rw [Int.mul_ediv_cancel_left _ h0, Int.mul_fdiv_cancel_left _ h0]
theorem s_made (k a b ρ) (hb : b ≠ 0) (hz : b.natAbs < 2 ^ 5000) : R (k+1) 5 [.int a, .int b] ρ = .ok ⟨frD a b, .sh⟩ ρ := by
  obtain ⟨g1, g2⟩ := gcd_lt (a := a) hb hz
  have d1 : ((Nat.gcd a.natAbs b.natAbs : Nat) : Int) ∣ a := Int.gcd_dvd_left a b
  have d2 : ((Nat.gcd a.natAbs b.natAbs : Nat) : Int) ∣ b := Int.gcd_dvd_right a b
  have h0 : ((Nat.gcd a.natAbs b.natAbs : Nat) : Int) ≠ 0 := by omega
  refine WR.eq (WR.run (n := 3) (b := b_made) rfl ?_)
  unfold b_made
  repeat' (walk_at "ev1")
  · rename_i h
    refine ⟨?_, rfl⟩
    dsimp only
    rw [fdivN d1 h0, fdivN d2 h0]
    unfold frD frN frE
    rw [if_pos h, if_pos h]
    rfl
  · exact div_ok (by omega) (by rw [Int.natAbs_neg]; exact g2)
  · exact div_ok (by omega) (by rw [Int.natAbs_neg]; exact g2)
  · rename_i h
    refine ⟨?_, rfl⟩
    dsimp only
    rw [fdivP d1 h0, fdivP d2 h0]
    unfold frD frN frE
    rw [if_neg h, if_neg h]
    rfl
  · exact div_ok h0 g2
  · exact div_ok h0 g2
/-- bounds of members -/
def Bd (n : Nat) (i : Int) : Prop := i.natAbs < 2 ^ n
theorem Bd.mul {n m k : Nat} {i j : Int} (h : Bd n i) (h' : Bd m j) (hk : n + m ≤ k) : Bd k (i * j) := by
  unfold Bd at *
  rw [Int.natAbs_mul]
  refine Nat.lt_of_lt_of_le (Nat.mul_lt_mul'' h h') ?_
  rw [← Nat.pow_add]
  exact Nat.pow_le_pow_right (by decide) hk
theorem Bd.mono {n k : Nat} {i : Int} (h : Bd n i) (hk : n ≤ k) : Bd k i := Nat.lt_of_lt_of_le h (Nat.pow_le_pow_right (by decide) hk)
theorem Bd.ok {n m : Nat} {i j : Int} (h : Bd n i) (h' : Bd m j) (hn : n ≤ 5000) (hm : m ≤ 5000) : MulOk i j := mul_ok (h.mono hn) (h'.mono hm)
section
variable {k : Nat} {a b c d : Int} {ρ : Sto}
theorem s_added (hb : 0 < b) (hd : 0 < d) (ba : Bd 2000 a) (bb : Bd 2000 b) (bc : Bd 2000 c) (bd : Bd 2000 d) : R (k+2) 6 [.tup [.int a, .int b], .tup [.int c, .int d]] ρ = .ok ⟨frD (a * d + c * b) (b * d), .sh⟩ ρ := by
  refine WR.eq (WR.run (n := 2) (b := b_added) rfl ?_)
  unfold b_added
  repeat' (walk_at "ev1")
  · exact WR.of (s_made _ _ _ _ (Int.ne_of_gt (Int.mul_pos hb hd)) ((bb.mul bd (k := 5000) (by omega)))) ⟨by simp, rfl, rfl⟩
  · exact bb.ok bd (by omega) (by omega)
  · exact bc.ok bb (by omega) (by omega)
  · exact ba.ok bd (by omega) (by omega)
theorem s_subtracted (hb : 0 < b) (hd : 0 < d) (ba : Bd 2000 a) (bb : Bd 2000 b) (bc : Bd 2000 c) (bd : Bd 2000 d) : R (k+2) 7 [.tup [.int a, .int b], .tup [.int c, .int d]] ρ = .ok ⟨frD (a * d - c * b) (b * d), .sh⟩ ρ := by
  refine WR.eq (WR.run (n := 2) (b := b_subtracted) rfl ?_)
  unfold b_subtracted
  repeat' (walk_at "ev1")
  · exact WR.of (s_made _ _ _ _ (Int.ne_of_gt (Int.mul_pos hb hd)) ((bb.mul bd (k := 5000) (by omega)))) ⟨by simp, rfl, rfl⟩
  · exact bb.ok bd (by omega) (by omega)
  · exact bc.ok bb (by omega) (by omega)
  · exact ba.ok bd (by omega) (by omega)
theorem s_multiplied (hb : 0 < b) (hd : 0 < d) (ba : Bd 2000 a) (bb : Bd 2000 b) (bc : Bd 2000 c) (bd : Bd 2000 d) : R (k+2) 8 [.tup [.int a, .int b], .tup [.int c, .int d]] ρ = .ok ⟨frD (a * c) (b * d), .sh⟩ ρ := by
  refine WR.eq (WR.run (n := 2) (b := b_multiplied) rfl ?_)
  unfold b_multiplied
  repeat' (walk_at "ev1")
  · exact WR.of (s_made _ _ _ _ (Int.ne_of_gt (Int.mul_pos hb hd)) ((bb.mul bd (k := 5000) (by omega)))) ⟨by simp, rfl, rfl⟩
  · exact bb.ok bd (by omega) (by omega)
  · exact ba.ok bc (by omega) (by omega)
theorem s_quotient (hb : 0 < b) (hc : c ≠ 0) (ba : Bd 2000 a) (bb : Bd 2000 b) (bc : Bd 2000 c) (bd : Bd 2000 d) : R (k+2) 9 [.tup [.int a, .int b], .tup [.int c, .int d]] ρ = .ok ⟨frD (a * d) (b * c), .sh⟩ ρ := by
  refine WR.eq (WR.run (n := 2) (b := b_quotient) rfl ?_)
  unfold b_quotient
  repeat' (walk_at "ev1")
  · exact WR.of (s_made _ _ _ _ (Int.mul_ne_zero (Int.ne_of_gt hb) hc) ((bb.mul bc (k := 5000) (by omega)))) ⟨by simp, rfl, rfl⟩
  · exact bb.ok bc (by omega) (by omega)
  · exact ba.ok bd (by omega) (by omega)
theorem s_is_below (ba : Bd 2000 a) (bb : Bd 2000 b) (bc : Bd 2000 c) (bd : Bd 2000 d) : R (k+1) 10 [.tup [.int a, .int b], .tup [.int c, .int d]] ρ = .ok ⟨.bl (decide (a * d < c * b)), .sh⟩ ρ := by
  refine WR.eq (WR.run (n := 2) (b := b_is_below) rfl ?_)
  unfold b_is_below
  repeat' (walk_at "ev1")
  · exact ⟨rfl, rfl⟩
  · exact bc.ok bb (by omega) (by omega)
  · exact ba.ok bd (by omega) (by omega)
end
end K01
end

section
set_option Elab.async false
set_option linter.all false
set_option maxRecDepth 100000
set_option exponentiation.threshold 100
local macro_rules
  | `(tactic| walk_at "ev1") => `(tactic| first
    | with_reducible refine Ev.w_con ?_
    | ((with_reducible refine Ev.w_sh (d := ?v) ?e ?_); (case e => exact rfl))
    | ((with_reducible refine Ev.w_al (d := ?v) ?e ?_); (case e => exact rfl))
    | with_reducible refine Ev.nal_sh ?_
    | with_reducible refine Ev.w_cons ?_
    | with_reducible refine Ev.w_nil ?_
    | with_reducible refine Ev.w_bin ?_
    | with_reducible refine Ev.wb_add ?_
    | with_reducible refine Ev.wb_sub ?_
    | with_reducible refine Ev.wb_mul ?_ ?_
    | with_reducible refine Ev.wb_fdiv ?_ ?_
    | with_reducible refine Ev.wb_mod ?_ ?_
    | with_reducible refine Ev.w_ix ?_
    | ((with_reducible refine Ev.wi_of (r := ?v) ?e ?_); (case e => exact rfl))
    | with_reducible refine Ev.w_call ?_
    | with_reducible refine Ev.w_callk ?_
    | ((with_reducible refine Ev.ex_perm (xs := ?v) ?e ?_); (case e => exact rfl))
    | with_reducible refine Ev.w_cmp ?_
    | with_reducible refine Ev.w_chn ?_
    | with_reducible refine Ev.wc_lt ?_
    | with_reducible refine Ev.wc_le ?_
    | with_reducible refine Ev.wc_gt ?_
    | with_reducible refine Ev.wc_ge ?_
    | with_reducible refine Ev.wc_eqI ?_
    | with_reducible refine Ev.wc_neI ?_
    | with_reducible refine Ev.w_and ?_
    | with_reducible refine Ev.w_or ?_
    | with_reducible refine Ev.w_andE ?_
    | with_reducible refine Ev.w_orE ?_
    | with_reducible refine Ev.w_ite ?_
    | ((with_reducible refine Ev.tv_b' (b := ?v) ?e ?_); (case e => exact rfl))
    | ((with_reducible refine Ev.bt_t' ?e ?_); (case e => exact rfl))
    | ((with_reducible refine Ev.bt_f' ?e ?_); (case e => exact rfl))
    | with_reducible refine Ev.bt_n ?_
    | ((with_reducible refine Ev.bt_d ?_ ?_) <;> intro _)
    | with_reducible refine Ev.w_not ?_
    | ((with_reducible refine Ev.ex_tru (b := ?v) ?e ?_); (case e => exact rfl))
    | with_reducible refine Ev.w_neg ?_
    | ((with_reducible refine Ev.ex_int (i := ?v) ?e ?_); (case e => exact rfl))
    | with_reducible refine Ev.w_tup ?_
    | with_reducible refine Ev.w_lst ?_
    | ((with_reducible refine Ev.len_and ?e ?_); (case e => exact rfl))
    | with_reducible refine Ev.w_isi ?_
    | ((with_reducible refine Ev.ex_ty (u := ?v) ?e ?_); (case e => first | exact rfl | assumption))
    | with_reducible refine Ev.w_bi1 ?_
    | with_reducible refine Ev.w_bi ?_
    | ((with_reducible refine Ev.wf_of (r := ?v) ?e ?_); (case e => exact rfl))
    | with_reducible refine Ev.nal_fr ?_
    | with_reducible refine Ev.s_cons ?_
    | with_reducible refine Ev.s_nil ?_
    | with_reducible refine Ev.s_ifs ?_
    | with_reducible refine Ev.s_asg ?_
    | with_reducible refine Ev.s_ret ?_
    | ((with_reducible refine Ev.s_retv (d := ?v) ?e ?_); (case e => exact rfl))
    | ((with_reducible refine Ev.s_reto (d := ?v) ?e ?_); (case e => exact rfl))
    | with_reducible refine Ev.s_retN ?_
    | with_reducible refine Ev.s_tgt ?_
    | with_reducible refine Ev.ex_sh ?_
    | ((with_reducible refine Ev.ex_asg (env' := ?v) ?e ?_); (case e => exact rfl))
    | with_reducible refine Ev.s_par ?_
    | ((with_reducible refine Ev.nal2 ?e ?_); (case e => exact rfl))
    | with_reducible refine Ev.s_exp ?_
    | with_reducible refine Ev.s_rai ?_
    | with_reducible refine Ev.s_tri ?_
    | with_reducible refine Ev.s_pas ?_
    | with_reducible refine Ev.w_sl ?_
    | with_reducible refine Ev.w_nop ?_
    | ((with_reducible refine Ev.ex_part (l := ?v) ?e ?_); (case e => exact rfl))
    | ((with_reducible refine Ev.wl_of (r := ?v) ?e ?_); (case e => exact rfl))
    | ((with_reducible refine Ev.s_frz (env' := ?v) ?e ?_); (case e => exact rfl))
    | with_reducible refine Ev.s_for ?_
    | with_reducible refine Ev.w_over ?_
    | ((with_reducible refine Ev.ex_over (ds := ?v) ?e ?f ?_); (case e => exact rfl); (case f => exact rfl))
    | with_reducible refine Ev.w_lc ?_
    | ((with_reducible refine Ev.w_glb (d := ?v) ?e ?_); (case e => exact rfl))
    | ((with_reducible refine Ev.bt_b ?_ ?_) <;> intro _))
namespace K01
open Ev PySem
def isI : D → Bool
  | .int _ => true
  | _ => false
def isFr : D → Bool
  | .tup [.int a, .int b] => decide (0 < b) && decide (((Nat.gcd a.natAbs b.natAbs : Nat) : Int) = 1)
  | _ => false
def Pl (d : D) : Prop := ∃ t, tyN d = some t
def Pv (d : D) : Prop := Pl d ∧ ∀ xs, d = .tup xs → ∀ x ∈ xs, Pl x
theorem q_is_integer (k d ρ) (h : Pl d) : R (k+1) 0 [d] ρ = .ok ⟨.bl (isI d), .sh⟩ ρ := by
  obtain ⟨t, h⟩ := h
  rw [s_is_integer k d ρ t h]
  cases d <;> cases h <;> rfl
theorem isI_t {d : D} (h : isI d = true) : ∃ i, d = .int i := by
  cases d <;> first | exact ⟨_, rfl⟩ | cases h
theorem s_is_fraction (k ρ) : ∀ d, Pv d → R (k+2) 1 [d] ρ = .ok ⟨.bl (isFr d), .sh⟩ ρ := by
  intro d h
  obtain ⟨⟨t, ht⟩, hx⟩ := h
  refine WR.eq (WR.run (n := 1) (b := b_is_fraction) rfl ?_)
  unfold b_is_fraction
  cases d with
  | tup xs =>
    match xs, hx with
    | [], hx => (repeat' (walk_at "ev1")) <;> exact ⟨rfl, rfl⟩
    | [x], hx => (repeat' (walk_at "ev1")) <;> exact ⟨by cases x <;> rfl, rfl⟩
    | x :: y :: z :: r, hx =>
      repeat' (walk_at "ev1")
      refine ⟨?_, rfl⟩
      cases x <;> first | rfl | (cases y <;> rfl)
    | [x, y], hx =>
      have px := hx _ rfl x (by simp)
      have py := hx _ rfl y (by simp)
      have fin : ∀ b : Bool, b = isFr (.tup [x, y]) → (⟨.bl b, .sh⟩ : Rv) = ⟨.bl (isFr (.tup [x, y])), .sh⟩ := fun b e => by rw [e]
      cases ex : isI x with
      | false =>
        have e0 : false = isFr (.tup [x, y]) := by cases x <;> first | rfl | cases ex
        repeat' (walk_at "ev1")
        refine WR.of (q_is_integer k x ρ px) ?_
        rw [ex]
        repeat' (walk_at "ev1")
        exact ⟨fin _ e0, rfl⟩
      | true =>
      obtain ⟨i, rfl⟩ := isI_t ex
      cases ey : isI y with
      | false =>
        have e0 : false = isFr (.tup [.int i, y]) := by cases y <;> first | rfl | cases ey
        repeat' (walk_at "ev1")
        refine WR.of (q_is_integer k _ ρ px) ?_
        repeat' (walk_at "ev1")
        refine WR.of (q_is_integer k _ ρ py) ?_
        rw [ey]
        repeat' (walk_at "ev1")
        exact ⟨fin _ e0, rfl⟩
      | true =>
      obtain ⟨j, rfl⟩ := isI_t ey
      have e0 : (decide (0 < j) && decide (((Nat.gcd i.natAbs j.natAbs : Nat) : Int) = 1)) = isFr (.tup [.int i, .int j]) := rfl
      repeat' (walk_at "ev1")
      refine WR.of (q_is_integer k _ ρ px) ?_
      repeat' (walk_at "ev1")
      refine WR.of (q_is_integer k _ ρ py) ?_
      repeat' (walk_at "ev1")
      · rename_i e3
        rw [decide_eq_true e3] at e0
        exact ⟨fin _ e0, rfl⟩
      · rename_i e3
        rw [decide_eq_false e3] at e0
        exact ⟨fin _ (by rw [decide_eq_false e3]; exact e0), rfl⟩
  | cst v => cases ht
  | _ => (repeat' (walk_at "ev1")) <;> exact ⟨rfl, rfl⟩
theorem isFr_t {d : D} (h : isFr d = true) : ∃ a b, d = .tup [.int a, .int b] ∧ IsFr a b := by
  unfold isFr at h
  split at h
  · simp only [Bool.and_eq_true, decide_eq_true_eq] at h
    refine ⟨_, _, rfl, h.1, ?_⟩
    have := h.2
    unfold Int.gcd
    omega
  · cases h
theorem isFr_i {a b : Int} (h : IsFr a b) : isFr (.tup [.int a, .int b]) = true := by
  have := h.pos
  have := h.cop
  unfold isFr
  simp only [Bool.and_eq_true, decide_eq_true_eq]
  unfold Int.gcd at *
  omega
def isCh : D → Bool
  | .tup [.int a, .int b] => isFr (.tup [.int a, .int b]) && (decide (0 ≤ a) && decide (a ≤ b))
  | _ => false
theorem s_is_chance (k ρ) (d) (h : Pv d) : R (k+3) 2 [d] ρ = .ok ⟨.bl (isCh d), .sh⟩ ρ := by
  refine WR.eq (WR.run (n := 1) (b := b_is_chance) rfl ?_)
  unfold b_is_chance
  repeat' (walk_at "ev1")
  refine WR.of (s_is_fraction k ρ d h) ?_
  repeat' (walk_at "ev1")
  · rename_i e
    obtain ⟨a, b, rfl, q⟩ := isFr_t e
    repeat' (walk_at "ev1")
    · rename_i e2
      refine ⟨?_, rfl⟩
      show _ = (⟨.bl (isFr _ && (decide (0 ≤ a) && decide (a ≤ b))), .sh⟩ : Rv)
      rw [e, decide_eq_true e2]
      rfl
    · rename_i e2
      refine ⟨?_, rfl⟩
      show _ = (⟨.bl (isFr _ && (decide (0 ≤ a) && decide (a ≤ b))), .sh⟩ : Rv)
      rw [e, decide_eq_false e2]
      rfl
  · rename_i e
    refine ⟨?_, rfl⟩
    rw [e]
    unfold isCh
    split
    · rw [e]; rfl
    · rfl
theorem s_check_number (k ρ d) (h : Pv d) (e : isFr d = true) : R (k+3) 3 [d] ρ = .ok ⟨.non, .sh⟩ ρ := by
  refine WR.eq (WR.run (n := 1) (b := b_check_number) rfl ?_)
  unfold b_check_number
  repeat' (walk_at "ev1")
  refine WR.of (s_is_fraction k ρ d h) ?_
  rw [e]
  repeat' (walk_at "ev1")
  exact ⟨rfl, rfl⟩
theorem x_check_number (k ρ d) (h : Pv d) (e : isFr d = false) : R (k+3) 3 [d] ρ = .exc ⟨0, none⟩ ρ := by
  refine WR.eqX (WR.run (n := 1) (b := b_check_number) rfl ?_)
  unfold b_check_number
  repeat' (walk_at "ev1")
  refine WR.of (s_is_fraction k ρ d h) ?_
  rw [e]
  repeat' (walk_at "ev1")
  exact ⟨rfl, rfl⟩
theorem s_check_count (k ρ) (i l : Int) (e : l ≤ i) : R (k+2) 4 [.int i, .int l] ρ = .ok ⟨.non, .sh⟩ ρ := by
  refine WR.eq (WR.run (n := 2) (b := b_check_count) rfl ?_)
  unfold b_check_count
  repeat' (walk_at "ev1")
  refine WR.of (q_is_integer k _ ρ ⟨_, rfl⟩) ?_
  repeat' (walk_at "ev1")
  · omega
  · exact ⟨rfl, rfl⟩
theorem x_check_count (k ρ d) (l : Int) (h : Pl d) (e : isI d = false ∨ ∃ i, d = .int i ∧ i < l) : R (k+2) 4 [d, .int l] ρ = .exc ⟨1, none⟩ ρ := by
  refine WR.eqX (WR.run (n := 2) (b := b_check_count) rfl ?_)
  unfold b_check_count
  repeat' (walk_at "ev1")
  refine WR.of (q_is_integer k d ρ h) ?_
  rcases e with e | ⟨i, rfl, e⟩
  · rw [e]
    repeat' (walk_at "ev1")
    exact ⟨rfl, rfl⟩
  · repeat' (walk_at "ev1")
    · exact ⟨rfl, rfl⟩
    · omega
end K01
end

section
set_option Elab.async false
set_option linter.all false
set_option maxRecDepth 100000
set_option exponentiation.threshold 100
local macro_rules
  | `(tactic| walk_at "ev1") => `(tactic| first
    | with_reducible refine Ev.w_con ?_
    | ((with_reducible refine Ev.w_sh (d := ?v) ?e ?_); (case e => exact rfl))
    | ((with_reducible refine Ev.w_al (d := ?v) ?e ?_); (case e => exact rfl))
    | with_reducible refine Ev.nal_sh ?_
    | with_reducible refine Ev.w_cons ?_
    | with_reducible refine Ev.w_nil ?_
    | with_reducible refine Ev.w_bin ?_
    | with_reducible refine Ev.wb_add ?_
    | with_reducible refine Ev.wb_sub ?_
    | with_reducible refine Ev.wb_mul ?_ ?_
    | with_reducible refine Ev.wb_fdiv ?_ ?_
    | with_reducible refine Ev.wb_mod ?_ ?_
    | with_reducible refine Ev.w_ix ?_
    | ((with_reducible refine Ev.wi_of (r := ?v) ?e ?_); (case e => exact rfl))
    | with_reducible refine Ev.w_call ?_
    | with_reducible refine Ev.w_callk ?_
    | ((with_reducible refine Ev.ex_perm (xs := ?v) ?e ?_); (case e => exact rfl))
    | with_reducible refine Ev.w_cmp ?_
    | with_reducible refine Ev.w_chn ?_
    | with_reducible refine Ev.wc_lt ?_
    | with_reducible refine Ev.wc_le ?_
    | with_reducible refine Ev.wc_gt ?_
    | with_reducible refine Ev.wc_ge ?_
    | with_reducible refine Ev.wc_eqI ?_
    | with_reducible refine Ev.wc_neI ?_
    | with_reducible refine Ev.w_and ?_
    | with_reducible refine Ev.w_or ?_
    | with_reducible refine Ev.w_andE ?_
    | with_reducible refine Ev.w_orE ?_
    | with_reducible refine Ev.w_ite ?_
    | ((with_reducible refine Ev.tv_b' (b := ?v) ?e ?_); (case e => exact rfl))
    | ((with_reducible refine Ev.bt_t' ?e ?_); (case e => exact rfl))
    | ((with_reducible refine Ev.bt_f' ?e ?_); (case e => exact rfl))
    | with_reducible refine Ev.bt_n ?_
    | ((with_reducible refine Ev.bt_d ?_ ?_) <;> intro _)
    | with_reducible refine Ev.w_not ?_
    | ((with_reducible refine Ev.ex_tru (b := ?v) ?e ?_); (case e => exact rfl))
    | with_reducible refine Ev.w_neg ?_
    | ((with_reducible refine Ev.ex_int (i := ?v) ?e ?_); (case e => exact rfl))
    | with_reducible refine Ev.w_tup ?_
    | with_reducible refine Ev.w_lst ?_
    | ((with_reducible refine Ev.len_and ?e ?_); (case e => exact rfl))
    | with_reducible refine Ev.w_isi ?_
    | ((with_reducible refine Ev.ex_ty (u := ?v) ?e ?_); (case e => first | exact rfl | assumption))
    | with_reducible refine Ev.w_bi1 ?_
    | with_reducible refine Ev.w_bi ?_
    | ((with_reducible refine Ev.wf_of (r := ?v) ?e ?_); (case e => exact rfl))
    | with_reducible refine Ev.nal_fr ?_
    | with_reducible refine Ev.s_cons ?_
    | with_reducible refine Ev.s_nil ?_
    | with_reducible refine Ev.s_ifs ?_
    | with_reducible refine Ev.s_asg ?_
    | with_reducible refine Ev.s_ret ?_
    | ((with_reducible refine Ev.s_retv (d := ?v) ?e ?_); (case e => exact rfl))
    | ((with_reducible refine Ev.s_reto (d := ?v) ?e ?_); (case e => exact rfl))
    | with_reducible refine Ev.s_retN ?_
    | with_reducible refine Ev.s_tgt ?_
    | with_reducible refine Ev.ex_sh ?_
    | ((with_reducible refine Ev.ex_asg (env' := ?v) ?e ?_); (case e => exact rfl))
    | with_reducible refine Ev.s_par ?_
    | ((with_reducible refine Ev.nal2 ?e ?_); (case e => exact rfl))
    | with_reducible refine Ev.s_exp ?_
    | with_reducible refine Ev.s_rai ?_
    | with_reducible refine Ev.s_tri ?_
    | with_reducible refine Ev.s_pas ?_
    | with_reducible refine Ev.w_sl ?_
    | with_reducible refine Ev.w_nop ?_
    | ((with_reducible refine Ev.ex_part (l := ?v) ?e ?_); (case e => exact rfl))
    | ((with_reducible refine Ev.wl_of (r := ?v) ?e ?_); (case e => exact rfl))
    | ((with_reducible refine Ev.s_frz (env' := ?v) ?e ?_); (case e => exact rfl))
    | with_reducible refine Ev.s_for ?_
    | with_reducible refine Ev.w_over ?_
    | ((with_reducible refine Ev.ex_over (ds := ?v) ?e ?f ?_); (case e => exact rfl); (case f => exact rfl))
    | with_reducible refine Ev.w_lc ?_
    | ((with_reducible refine Ev.w_glb (d := ?v) ?e ?_); (case e => exact rfl))
    | ((with_reducible refine Ev.bt_b ?_ ?_) <;> intro _))
namespace K01
open Ev PySem
/-- a fraction within bounds -/
structure Fr (n : Nat) (d : D) (a b : Int) : Prop where
  e : d = .tup [.int a, .int b]
  f : IsFr a b
  ba : Bd n a
  bb : Bd n b
theorem Fr.pv {n : Nat} {d : D} {a b : Int} (h : Fr n d a b) : Pv d := by
  rw [h.e]
  refine ⟨⟨_, rfl⟩, fun xs e x hx => ?_⟩
  cases e
  simp only [List.mem_cons, List.not_mem_nil, or_false] at hx
  rcases hx with rfl | rfl <;> exact ⟨_, rfl⟩
theorem Fr.is {n : Nat} {d : D} {a b : Int} (h : Fr n d a b) : isFr d = true := by rw [h.e]; exact isFr_i h.f
theorem Fr.mono {n m : Nat} {d : D} {a b : Int} (h : Fr n d a b) (hm : n ≤ m) : Fr m d a b := ⟨h.e, h.f, h.ba.mono hm, h.bb.mono hm⟩
section
variable {k : Nat} {x y : D} {a b c d : Int} {ρ : Sto}
theorem s_fraction (a b : Int) (hb : b ≠ 0) (bb : Bd 5000 b) : R (k+3) 13 [.int a, .int b] ρ = .ok ⟨frD a b, .sh⟩ ρ := by
  refine WR.eq (WR.run (n := 2) (b := b_fraction) rfl ?_)
  unfold b_fraction
  repeat' (walk_at "ev1")
  refine WR.of (q_is_integer _ _ ρ ⟨_, rfl⟩) ?_
  repeat' (walk_at "ev1")
  refine WR.of (q_is_integer _ _ ρ ⟨_, rfl⟩) ?_
  repeat' (walk_at "ev1")
  · rename_i z; exact absurd z hb
  · exact WR.of (s_made _ _ _ _ hb bb) ⟨by simp, rfl, rfl⟩
theorem x_fraction0 (a : Int) : R (k+3) 13 [.int a, .int 0] ρ = .exc ⟨2, none⟩ ρ := by
  refine WR.eqX (WR.run (n := 2) (b := b_fraction) rfl ?_)
  unfold b_fraction
  repeat' (walk_at "ev1")
  refine WR.of (q_is_integer _ _ ρ ⟨_, rfl⟩) ?_
  repeat' (walk_at "ev1")
  refine WR.of (q_is_integer _ _ ρ ⟨_, rfl⟩) ?_
  repeat' (walk_at "ev1")
  exact ⟨rfl, rfl⟩
theorem x_fraction (x y : D) (px : Pl x) (py : Pl y) (h : isI x = false ∨ isI y = false) : R (k+3) 13 [x, y] ρ = .exc ⟨0, none⟩ ρ := by
  refine WR.eqX (WR.run (n := 2) (b := b_fraction) rfl ?_)
  unfold b_fraction
  repeat' (walk_at "ev1")
  refine WR.of (q_is_integer _ _ ρ px) ?_
  cases ex : isI x with
  | false =>
    repeat' (walk_at "ev1")
    exact ⟨rfl, rfl⟩
  | true =>
    rw [ex] at h
    rcases h with h | h
    · cases h
    · repeat' (walk_at "ev1")
      refine WR.of (q_is_integer _ _ ρ py) ?_
      rw [h]
      repeat' (walk_at "ev1")
      exact ⟨rfl, rfl⟩
theorem s_plus (hx : Fr 2000 x a b) (hy : Fr 2000 y c d) : R (k+4) 14 [x, y] ρ = .ok ⟨frD (a * d + c * b) (b * d), .sh⟩ ρ := by
  refine WR.eq (WR.run (n := 2) (b := b_plus) rfl ?_)
  unfold b_plus
  repeat' (walk_at "ev1")
  refine WR.of (s_check_number _ _ _ hx.pv hx.is) ?_
  repeat' (walk_at "ev1")
  refine WR.of (s_check_number _ _ _ hy.pv hy.is) ?_
  repeat' (walk_at "ev1")
  cases hx.e
  cases hy.e
  exact WR.of (s_added hx.f.pos hy.f.pos hx.ba hx.bb hy.ba hy.bb) ⟨by simp, rfl, rfl⟩
theorem s_minus (hx : Fr 2000 x a b) (hy : Fr 2000 y c d) : R (k+4) 15 [x, y] ρ = .ok ⟨frD (a * d - c * b) (b * d), .sh⟩ ρ := by
  refine WR.eq (WR.run (n := 2) (b := b_minus) rfl ?_)
  unfold b_minus
  repeat' (walk_at "ev1")
  refine WR.of (s_check_number _ _ _ hx.pv hx.is) ?_
  repeat' (walk_at "ev1")
  refine WR.of (s_check_number _ _ _ hy.pv hy.is) ?_
  repeat' (walk_at "ev1")
  cases hx.e
  cases hy.e
  exact WR.of (s_subtracted hx.f.pos hy.f.pos hx.ba hx.bb hy.ba hy.bb) ⟨by simp, rfl, rfl⟩
theorem s_times (hx : Fr 2000 x a b) (hy : Fr 2000 y c d) : R (k+4) 16 [x, y] ρ = .ok ⟨frD (a * c) (b * d), .sh⟩ ρ := by
  refine WR.eq (WR.run (n := 2) (b := b_times) rfl ?_)
  unfold b_times
  repeat' (walk_at "ev1")
  refine WR.of (s_check_number _ _ _ hx.pv hx.is) ?_
  repeat' (walk_at "ev1")
  refine WR.of (s_check_number _ _ _ hy.pv hy.is) ?_
  repeat' (walk_at "ev1")
  cases hx.e
  cases hy.e
  exact WR.of (s_multiplied hx.f.pos hy.f.pos hx.ba hx.bb hy.ba hy.bb) ⟨by simp, rfl, rfl⟩
theorem eqv_pair (a b c d : Int) : eqv (.tup [.int a, .int b]) (.tup [.int c, .int d]) = (decide (a = c) && decide (b = d)) := by
  show PyData.eqv (.tuple [.int a, .int b]) (.tuple [.int c, .int d]) = _
  simp only [PyData.eqv, PyData.eqvAll, Bool.and_true]
  rfl
theorem s_divided (hx : Fr 2000 x a b) (hy : Fr 2000 y c d) (hc : c ≠ 0) : R (k+4) 17 [x, y] ρ = .ok ⟨frD (a * d) (b * c), .sh⟩ ρ := by
  refine WR.eq (WR.run (n := 2) (b := b_divided) rfl ?_)
  unfold b_divided
  repeat' (walk_at "ev1")
  refine WR.of (s_check_number _ _ _ hx.pv hx.is) ?_
  repeat' (walk_at "ev1")
  refine WR.of (s_check_number _ _ _ hy.pv hy.is) ?_
  repeat' (walk_at "ev1")
  cases hx.e
  cases hy.e
  refine wc_eq rfl rfl ?_
  show TV ρ (.bl (eqv (.tup [.int c, .int d]) (.tup [.int 0, .int 1]))) _ _
  rw [eqv_pair, decide_eq_false hc]
  repeat' (walk_at "ev1")
  exact WR.of (s_quotient hx.f.pos hc hx.ba hx.bb hy.ba hy.bb) ⟨by simp, rfl, rfl⟩
theorem x_divided0 (hx : Fr 2000 x a b) (hy : Fr 2000 y 0 d) : R (k+4) 17 [x, y] ρ = .exc ⟨2, none⟩ ρ := by
  refine WR.eqX (WR.run (n := 2) (b := b_divided) rfl ?_)
  unfold b_divided
  repeat' (walk_at "ev1")
  refine WR.of (s_check_number _ _ _ hx.pv hx.is) ?_
  repeat' (walk_at "ev1")
  refine WR.of (s_check_number _ _ _ hy.pv hy.is) ?_
  repeat' (walk_at "ev1")
  cases hx.e
  cases hy.e
  have hd : d = 1 := by
    have := hy.f.cop
    have := hy.f.pos
    rw [Int.gcd_zero_left] at *
    omega
  subst hd
  refine wc_eq rfl rfl ?_
  show TV ρ (.bl (eqv (.tup [.int 0, .int 1]) (.tup [.int 0, .int 1]))) _ _
  rw [eqv_pair]
  repeat' (walk_at "ev1")
  exact ⟨rfl, rfl⟩
theorem s_less (hx : Fr 2000 x a b) (hy : Fr 2000 y c d) : R (k+4) 18 [x, y] ρ = .ok ⟨.bl (decide (a * d < c * b)), .sh⟩ ρ := by
  refine WR.eq (WR.run (n := 2) (b := b_less) rfl ?_)
  unfold b_less
  repeat' (walk_at "ev1")
  refine WR.of (s_check_number _ _ _ hx.pv hx.is) ?_
  repeat' (walk_at "ev1")
  refine WR.of (s_check_number _ _ _ hy.pv hy.is) ?_
  repeat' (walk_at "ev1")
  cases hx.e
  cases hy.e
  exact WR.of (s_is_below hx.ba hx.bb hy.ba hy.bb) ⟨by simp, rfl, rfl⟩
/-- the first of two is bad, or the second -/
theorem x_two {f : Nat} (hf : f = 14 ∨ f = 15 ∨ f = 16 ∨ f = 17 ∨ f = 18) (px : Pv x) (py : Pv y) (h : isFr x = false ∨ isFr y = false) : R (k+4) f [x, y] ρ = .exc ⟨0, none⟩ ρ := by
  have two : ∀ {t : Ss}, WS (exSs g (run g T.sub wl (sizes fs) (k + 3)) T.sub wl (.cons (S.exp (E.call 3 (Es.cons (E.var 0) Es.nil))) (.cons (S.exp (E.call 3 (Es.cons (E.var 1) Es.nil))) t)) (startE 2 [x, y]) ρ) (fun _ _ => False) (fun _ _ => False) (fun z _ ρ' => z = ⟨0, none⟩ ∧ ρ' = ρ) (fun _ _ => False) (fun _ _ => False) := by
    intro t
    repeat' (walk_at "ev1")
    cases ex : isFr x with
    | false => exact WR.ofX (x_check_number _ _ _ px ex) ⟨rfl, rfl⟩
    | true =>
      refine WR.of (s_check_number _ _ _ px ex) ?_
      repeat' (walk_at "ev1")
      rw [ex] at h
      rcases h with h | h
      · cases h
      · exact WR.ofX (x_check_number _ _ _ py h) ⟨rfl, rfl⟩
  rcases hf with rfl | rfl | rfl | rfl | rfl
  · exact WR.eqX (WR.run (n := 2) (b := b_plus) rfl two)
  · exact WR.eqX (WR.run (n := 2) (b := b_minus) rfl two)
  · exact WR.eqX (WR.run (n := 2) (b := b_times) rfl two)
  · exact WR.eqX (WR.run (n := 2) (b := b_divided) rfl two)
  · exact WR.eqX (WR.run (n := 2) (b := b_less) rfl two)
end
end K01
end

section
set_option Elab.async false
set_option linter.all false
set_option maxRecDepth 100000
set_option exponentiation.threshold 100
local macro_rules
  | `(tactic| walk_at "ev1") => `(tactic| first
    | with_reducible refine Ev.w_con ?_
    | ((with_reducible refine Ev.w_sh (d := ?v) ?e ?_); (case e => exact rfl))
    | ((with_reducible refine Ev.w_al (d := ?v) ?e ?_); (case e => exact rfl))
    | with_reducible refine Ev.nal_sh ?_
    | with_reducible refine Ev.w_cons ?_
    | with_reducible refine Ev.w_nil ?_
    | with_reducible refine Ev.w_bin ?_
    | with_reducible refine Ev.wb_add ?_
    | with_reducible refine Ev.wb_sub ?_
    | with_reducible refine Ev.wb_mul ?_ ?_
    | with_reducible refine Ev.wb_fdiv ?_ ?_
    | with_reducible refine Ev.wb_mod ?_ ?_
    | with_reducible refine Ev.w_ix ?_
    | ((with_reducible refine Ev.wi_of (r := ?v) ?e ?_); (case e => exact rfl))
    | with_reducible refine Ev.w_call ?_
    | with_reducible refine Ev.w_callk ?_
    | ((with_reducible refine Ev.ex_perm (xs := ?v) ?e ?_); (case e => exact rfl))
    | with_reducible refine Ev.w_cmp ?_
    | with_reducible refine Ev.w_chn ?_
    | with_reducible refine Ev.wc_lt ?_
    | with_reducible refine Ev.wc_le ?_
    | with_reducible refine Ev.wc_gt ?_
    | with_reducible refine Ev.wc_ge ?_
    | with_reducible refine Ev.wc_eqI ?_
    | with_reducible refine Ev.wc_neI ?_
    | with_reducible refine Ev.w_and ?_
    | with_reducible refine Ev.w_or ?_
    | with_reducible refine Ev.w_andE ?_
    | with_reducible refine Ev.w_orE ?_
    | with_reducible refine Ev.w_ite ?_
    | ((with_reducible refine Ev.tv_b' (b := ?v) ?e ?_); (case e => exact rfl))
    | ((with_reducible refine Ev.bt_t' ?e ?_); (case e => exact rfl))
    | ((with_reducible refine Ev.bt_f' ?e ?_); (case e => exact rfl))
    | with_reducible refine Ev.bt_n ?_
    | ((with_reducible refine Ev.bt_d ?_ ?_) <;> intro _)
    | with_reducible refine Ev.w_not ?_
    | ((with_reducible refine Ev.ex_tru (b := ?v) ?e ?_); (case e => exact rfl))
    | with_reducible refine Ev.w_neg ?_
    | ((with_reducible refine Ev.ex_int (i := ?v) ?e ?_); (case e => exact rfl))
    | with_reducible refine Ev.w_tup ?_
    | with_reducible refine Ev.w_lst ?_
    | ((with_reducible refine Ev.len_and ?e ?_); (case e => exact rfl))
    | with_reducible refine Ev.w_isi ?_
    | ((with_reducible refine Ev.ex_ty (u := ?v) ?e ?_); (case e => first | exact rfl | assumption))
    | with_reducible refine Ev.w_bi1 ?_
    | with_reducible refine Ev.w_bi ?_
    | ((with_reducible refine Ev.wf_of (r := ?v) ?e ?_); (case e => exact rfl))
    | with_reducible refine Ev.nal_fr ?_
    | with_reducible refine Ev.s_cons ?_
    | with_reducible refine Ev.s_nil ?_
    | with_reducible refine Ev.s_ifs ?_
    | with_reducible refine Ev.s_asg ?_
    | with_reducible refine Ev.s_ret ?_
    | ((with_reducible refine Ev.s_retv (d := ?v) ?e ?_); (case e => exact rfl))
    | ((with_reducible refine Ev.s_reto (d := ?v) ?e ?_); (case e => exact rfl))
    | with_reducible refine Ev.s_retN ?_
    | with_reducible refine Ev.s_tgt ?_
    | with_reducible refine Ev.ex_sh ?_
    | ((with_reducible refine Ev.ex_asg (env' := ?v) ?e ?_); (case e => exact rfl))
    | with_reducible refine Ev.s_par ?_
    | ((with_reducible refine Ev.nal2 ?e ?_); (case e => exact rfl))
    | with_reducible refine Ev.s_exp ?_
    | with_reducible refine Ev.s_rai ?_
    | with_reducible refine Ev.s_tri ?_
    | with_reducible refine Ev.s_pas ?_
    | with_reducible refine Ev.w_sl ?_
    | with_reducible refine Ev.w_nop ?_
    | ((with_reducible refine Ev.ex_part (l := ?v) ?e ?_); (case e => exact rfl))
    | ((with_reducible refine Ev.wl_of (r := ?v) ?e ?_); (case e => exact rfl))
    | ((with_reducible refine Ev.s_frz (env' := ?v) ?e ?_); (case e => exact rfl))
    | with_reducible refine Ev.s_for ?_
    | with_reducible refine Ev.w_over ?_
    | ((with_reducible refine Ev.ex_over (ds := ?v) ?e ?f ?_); (case e => exact rfl); (case f => exact rfl))
    | with_reducible refine Ev.w_lc ?_
    | ((with_reducible refine Ev.w_glb (d := ?v) ?e ?_); (case e => exact rfl))
    | ((with_reducible refine Ev.bt_b ?_ ?_) <;> intro _))
namespace K01
open Ev PySem
def pd (p : Int × Int) : D := .tup [.int p.1, .int p.2]
/-- Euclid by the law -/
theorem s_law_gcd (k : Nat) (ρ : Sto) (a b : Nat) (h : a * b < 2 ^ 5000) : R (k+1) 30 [.int a, .int b] ρ = .ok ⟨.int (Nat.gcd a b), .sh⟩ ρ := by
  refine WR.eq (WR.run (n := 3) (b := b__law_gcd) rfl ?_)
  unfold b__law_gcd
  repeat' (walk_at "ev1")
  refine w_rng1 ?_
  repeat' (walk_at "ev1")
  refine ⟨by omega, ?_⟩
  refine s_forI (fun i env ρ' => ρ' = ρ ∧ ∃ (x y : Nat) (o : Option Slot), env = [some ⟨false, .int x⟩, some ⟨false, .int y⟩, o] ∧ Nat.gcd x y = Nat.gcd a b ∧ ((i = 0 ∧ x * y < 2 ^ 5000) ∨ (0 < i ∧ y < x ∧ x * y * 2 ^ i < 2 ^ (5000 + 1)))) ⟨rfl, a, b, none, rfl, rfl, .inl ⟨rfl, h⟩⟩ ?_ ?_
  · rintro i d env ρ' hd ⟨rfl, x, y, o, rfl, hg, hb⟩
    refine ⟨_, rfl, ?_⟩
    repeat' (walk_at "ev1")
    · rename_i z
      have z : y = 0 := by omega
      subst z
      rw [Nat.gcd_zero_right] at hg
      rw [hg]
      exact ⟨rfl, rfl⟩
    · rename_i z
      have z : y ≠ 0 := by omega
      refine ⟨rfl, y, x % y, some ⟨false, d⟩, ?_, ?_, .inr (euclid_step z hb)⟩
      · have e : ((x : Int).fmod (y : Int)) = ((x % y : Nat) : Int) := by rw [Int.fmod_eq_emod_of_nonneg _ (by omega)]; rfl
        rw [← e]
        rfl
      · rw [← hg, Nat.gcd_comm x y, Nat.gcd_rec y x, Nat.gcd_comm]
    · rename_i z
      omega
  · rintro env ρ' ⟨rfl, x, y, o, rfl, hg, hb⟩
    have hl : (rngD 0 (6000 : Int).toNat).length = 6000 := by unfold rngD; simp
    rw [hl] at hb
    have z := euclid_end (by omega) hb
    subst z
    rw [Nat.gcd_zero_right] at hg
    repeat' (walk_at "ev1")
    rw [hg]
    exact ⟨rfl, rfl⟩
theorem s_law_fr (k : Nat) (ρ : Sto) (t b : Int) (hb : b ≠ 0) (bt : Bd 2400 t) (bb : Bd 2400 b) : R (k+2) 31 [.int t, .int b] ρ = .ok ⟨frD t b, .sh⟩ ρ := by
  obtain ⟨g1, g2⟩ := gcd_lt (a := t) hb (bb.mono (by omega))
  have d1 : ((Nat.gcd t.natAbs b.natAbs : Nat) : Int) ∣ t := Int.gcd_dvd_left t b
  have d2 : ((Nat.gcd t.natAbs b.natAbs : Nat) : Int) ∣ b := Int.gcd_dvd_right t b
  have h0 : ((Nat.gcd t.natAbs b.natAbs : Nat) : Int) ≠ 0 := by omega
  have hz : t.natAbs * b.natAbs < 2 ^ 5000 := by
    have := bt.mul bb (k := 5000) (by omega)
    unfold Bd at this
    rw [Int.natAbs_mul] at this
    exact this
  have ha : ∀ i : Int, (if i < 0 then -i else i) = (i.natAbs : Int) := fun i => by split <;> omega
  refine WR.eq (WR.run (n := 3) (b := b__law_fr) rfl ?_)
  unfold b__law_fr
  repeat' (walk_at "ev1")
  · rename_i h
    have e1 : (if (0 - t) < 0 then -(0 - t) else (0 - t)) = (t.natAbs : Int) := by rw [ha]; omega
    have e2 : 0 - b = (b.natAbs : Int) := by omega
    dsimp only
    rw [e1, e2]
    refine WR.of (s_law_gcd k ρ _ _ hz) ?_
    repeat' (walk_at "ev1")
    · refine ⟨?_, rfl⟩
      dsimp only
      rw [← e2, fdivP (by rw [Int.zero_sub]; exact Int.dvd_neg.mpr d1) h0, fdivP (by rw [Int.zero_sub]; exact Int.dvd_neg.mpr d2) h0, Int.zero_sub, Int.zero_sub]
      unfold frD frN frE
      rw [if_pos h, if_pos h]
      rfl
    · exact div_ok h0 g2
    · exact div_ok h0 g2
  · rename_i h
    have e2 : b = (b.natAbs : Int) := by omega
    dsimp only
    rw [ha]
    refine WR.of (a := ⟨.int (Nat.gcd t.natAbs b.natAbs), .sh⟩) (ρ := ρ) ?_ ?_
    · conv => lhs; rw [e2]
      exact s_law_gcd k ρ _ _ hz
    repeat' (walk_at "ev1")
    · refine ⟨?_, rfl⟩
      dsimp only
      rw [fdivP d1 h0, fdivP d2 h0]
      unfold frD frN frE
      rw [if_neg h, if_neg h]
      rfl
    · exact div_ok h0 g2
    · exact div_ok h0 g2
section
variable {k : Nat} {a b c d : Int} {ρ : Sto}
theorem Bd.add {n m k : Nat} {i j : Int} (h : Bd n i) (h' : Bd m j) (hn : n < k) (hm : m < k) : Bd k (i + j) := by
  unfold Bd at *
  have h1 : i.natAbs < 2 ^ (k - 1) := Nat.lt_of_lt_of_le h (Nat.pow_le_pow_right (by decide) (by omega))
  have h2 : j.natAbs < 2 ^ (k - 1) := Nat.lt_of_lt_of_le h' (Nat.pow_le_pow_right (by decide) (by omega))
  have e : 2 ^ k = 2 ^ (k - 1) * 2 := by rw [← Nat.pow_succ]; congr 1; omega
  omega
theorem Bd.neg {n : Nat} {i : Int} (h : Bd n i) : Bd n (-i) := by unfold Bd at *; rw [Int.natAbs_neg]; exact h
theorem Bd.sub {n m k : Nat} {i j : Int} (h : Bd n i) (h' : Bd m j) (hn : n < k) (hm : m < k) : Bd k (i - j) := by
  rw [Int.sub_eq_add_neg]
  exact h.add h'.neg hn hm
theorem s_law_add (hb : 0 < b) (hd : 0 < d) (ba : Bd 1000 a) (bb : Bd 1000 b) (bc : Bd 1000 c) (bd : Bd 1000 d) : R (k+3) 32 [.tup [.int a, .int b], .tup [.int c, .int d]] ρ = .ok ⟨frD (a * d + c * b) (b * d), .sh⟩ ρ := by
  refine WR.eq (WR.run (n := 2) (b := b__law_add) rfl ?_)
  unfold b__law_add
  repeat' (walk_at "ev1")
  · exact WR.of (s_law_fr _ _ _ _ (Int.ne_of_gt (Int.mul_pos hb hd)) ((ba.mul bd (k := 2000) (by omega)).add (bc.mul bb (k := 2000) (by omega)) (by omega) (by omega)) (bb.mul bd (by omega))) ⟨by simp, rfl, rfl⟩
  · exact bb.ok bd (by omega) (by omega)
  · exact bc.ok bb (by omega) (by omega)
  · exact ba.ok bd (by omega) (by omega)
theorem s_law_sub (hb : 0 < b) (hd : 0 < d) (ba : Bd 1000 a) (bb : Bd 1000 b) (bc : Bd 1000 c) (bd : Bd 1000 d) : R (k+3) 33 [.tup [.int a, .int b], .tup [.int c, .int d]] ρ = .ok ⟨frD (a * d - c * b) (b * d), .sh⟩ ρ := by
  refine WR.eq (WR.run (n := 2) (b := b__law_sub) rfl ?_)
  unfold b__law_sub
  repeat' (walk_at "ev1")
  · exact WR.of (s_law_fr _ _ _ _ (Int.ne_of_gt (Int.mul_pos hb hd)) ((ba.mul bd (k := 2000) (by omega)).sub (bc.mul bb (k := 2000) (by omega)) (by omega) (by omega)) (bb.mul bd (by omega))) ⟨by simp, rfl, rfl⟩
  · exact bb.ok bd (by omega) (by omega)
  · exact bc.ok bb (by omega) (by omega)
  · exact ba.ok bd (by omega) (by omega)
theorem s_law_mul (hb : 0 < b) (hd : 0 < d) (ba : Bd 1000 a) (bb : Bd 1000 b) (bc : Bd 1000 c) (bd : Bd 1000 d) : R (k+3) 34 [.tup [.int a, .int b], .tup [.int c, .int d]] ρ = .ok ⟨frD (a * c) (b * d), .sh⟩ ρ := by
  refine WR.eq (WR.run (n := 2) (b := b__law_mul) rfl ?_)
  unfold b__law_mul
  repeat' (walk_at "ev1")
  · exact WR.of (s_law_fr _ _ _ _ (Int.ne_of_gt (Int.mul_pos hb hd)) (ba.mul bc (by omega)) (bb.mul bd (by omega))) ⟨by simp, rfl, rfl⟩
  · exact bb.ok bd (by omega) (by omega)
  · exact ba.ok bc (by omega) (by omega)
theorem s_law_div (hb : 0 < b) (hc : c ≠ 0) (ba : Bd 1000 a) (bb : Bd 1000 b) (bc : Bd 1000 c) (bd : Bd 1000 d) : R (k+3) 35 [.tup [.int a, .int b], .tup [.int c, .int d]] ρ = .ok ⟨frD (a * d) (b * c), .sh⟩ ρ := by
  refine WR.eq (WR.run (n := 2) (b := b__law_div) rfl ?_)
  unfold b__law_div
  repeat' (walk_at "ev1")
  · exact WR.of (s_law_fr _ _ _ _ (Int.mul_ne_zero (Int.ne_of_gt hb) hc) (ba.mul bd (by omega)) (bb.mul bc (by omega))) ⟨by simp, rfl, rfl⟩
  · exact bb.ok bc (by omega) (by omega)
  · exact ba.ok bd (by omega) (by omega)
theorem s_law_lt (ba : Bd 2000 a) (bb : Bd 2000 b) (bc : Bd 2000 c) (bd : Bd 2000 d) : R (k+1) 36 [.tup [.int a, .int b], .tup [.int c, .int d]] ρ = .ok ⟨.bl (decide (a * d < c * b)), .sh⟩ ρ := by
  refine WR.eq (WR.run (n := 2) (b := b__law_lt) rfl ?_)
  unfold b__law_lt
  repeat' (walk_at "ev1")
  · exact ⟨rfl, rfl⟩
  · exact bc.ok bb (by omega) (by omega)
  · exact ba.ok bd (by omega) (by omega)
end
end K01
end

section
set_option Elab.async false
set_option linter.all false
set_option maxRecDepth 100000
set_option exponentiation.threshold 100
local macro_rules
  | `(tactic| walk_at "ev1") => `(tactic| first
    | with_reducible refine Ev.w_con ?_
    | ((with_reducible refine Ev.w_sh (d := ?v) ?e ?_); (case e => exact rfl))
    | ((with_reducible refine Ev.w_al (d := ?v) ?e ?_); (case e => exact rfl))
    | with_reducible refine Ev.nal_sh ?_
    | with_reducible refine Ev.w_cons ?_
    | with_reducible refine Ev.w_nil ?_
    | with_reducible refine Ev.w_bin ?_
    | with_reducible refine Ev.wb_add ?_
    | with_reducible refine Ev.wb_sub ?_
    | with_reducible refine Ev.wb_mul ?_ ?_
    | with_reducible refine Ev.wb_fdiv ?_ ?_
    | with_reducible refine Ev.wb_mod ?_ ?_
    | with_reducible refine Ev.w_ix ?_
    | ((with_reducible refine Ev.wi_of (r := ?v) ?e ?_); (case e => exact rfl))
    | with_reducible refine Ev.w_call ?_
    | with_reducible refine Ev.w_callk ?_
    | ((with_reducible refine Ev.ex_perm (xs := ?v) ?e ?_); (case e => exact rfl))
    | with_reducible refine Ev.w_cmp ?_
    | with_reducible refine Ev.w_chn ?_
    | with_reducible refine Ev.wc_lt ?_
    | with_reducible refine Ev.wc_le ?_
    | with_reducible refine Ev.wc_gt ?_
    | with_reducible refine Ev.wc_ge ?_
    | with_reducible refine Ev.wc_eqI ?_
    | with_reducible refine Ev.wc_neI ?_
    | with_reducible refine Ev.w_and ?_
    | with_reducible refine Ev.w_or ?_
    | with_reducible refine Ev.w_andE ?_
    | with_reducible refine Ev.w_orE ?_
    | with_reducible refine Ev.w_ite ?_
    | ((with_reducible refine Ev.tv_b' (b := ?v) ?e ?_); (case e => exact rfl))
    | ((with_reducible refine Ev.bt_t' ?e ?_); (case e => exact rfl))
    | ((with_reducible refine Ev.bt_f' ?e ?_); (case e => exact rfl))
    | with_reducible refine Ev.bt_n ?_
    | ((with_reducible refine Ev.bt_d ?_ ?_) <;> intro _)
    | with_reducible refine Ev.w_not ?_
    | ((with_reducible refine Ev.ex_tru (b := ?v) ?e ?_); (case e => exact rfl))
    | with_reducible refine Ev.w_neg ?_
    | ((with_reducible refine Ev.ex_int (i := ?v) ?e ?_); (case e => exact rfl))
    | with_reducible refine Ev.w_tup ?_
    | with_reducible refine Ev.w_lst ?_
    | ((with_reducible refine Ev.len_and ?e ?_); (case e => exact rfl))
    | with_reducible refine Ev.w_isi ?_
    | ((with_reducible refine Ev.ex_ty (u := ?v) ?e ?_); (case e => first | exact rfl | assumption))
    | with_reducible refine Ev.w_bi1 ?_
    | with_reducible refine Ev.w_bi ?_
    | ((with_reducible refine Ev.wf_of (r := ?v) ?e ?_); (case e => exact rfl))
    | with_reducible refine Ev.nal_fr ?_
    | with_reducible refine Ev.s_cons ?_
    | with_reducible refine Ev.s_nil ?_
    | with_reducible refine Ev.s_ifs ?_
    | with_reducible refine Ev.s_asg ?_
    | with_reducible refine Ev.s_ret ?_
    | ((with_reducible refine Ev.s_retv (d := ?v) ?e ?_); (case e => exact rfl))
    | ((with_reducible refine Ev.s_reto (d := ?v) ?e ?_); (case e => exact rfl))
    | with_reducible refine Ev.s_retN ?_
    | with_reducible refine Ev.s_tgt ?_
    | with_reducible refine Ev.ex_sh ?_
    | ((with_reducible refine Ev.ex_asg (env' := ?v) ?e ?_); (case e => exact rfl))
    | with_reducible refine Ev.s_par ?_
    | ((with_reducible refine Ev.nal2 ?e ?_); (case e => exact rfl))
    | with_reducible refine Ev.s_exp ?_
    | with_reducible refine Ev.s_rai ?_
    | with_reducible refine Ev.s_tri ?_
    | with_reducible refine Ev.s_pas ?_
    | with_reducible refine Ev.w_sl ?_
    | with_reducible refine Ev.w_nop ?_
    | ((with_reducible refine Ev.ex_part (l := ?v) ?e ?_); (case e => exact rfl))
    | ((with_reducible refine Ev.wl_of (r := ?v) ?e ?_); (case e => exact rfl))
    | ((with_reducible refine Ev.s_frz (env' := ?v) ?e ?_); (case e => exact rfl))
    | with_reducible refine Ev.s_for ?_
    | with_reducible refine Ev.w_over ?_
    | ((with_reducible refine Ev.ex_over (ds := ?v) ?e ?f ?_); (case e => exact rfl); (case f => exact rfl))
    | with_reducible refine Ev.w_lc ?_
    | ((with_reducible refine Ev.w_glb (d := ?v) ?e ?_); (case e => exact rfl))
    | ((with_reducible refine Ev.bt_b ?_ ?_) <;> intro _))
namespace K01
open Ev PySem
section
variable {k : Nat} {ρ : Sto}
/-- fractions of some bits -/
def Frs (n : Nat) (ps : List (Int × Int)) : Prop := ∀ p ∈ ps, IsFr p.1 p.2 ∧ Bd n p.1 ∧ Bd n p.2
def lcmL (l : Nat) : List (Int × Int) → Nat
  | [] => l
  | p :: r => lcmL (Nat.lcm l p.2.natAbs) r
theorem lcmL_dvd : ∀ (ps : List (Int × Int)) (l : Nat), l ∣ lcmL l ps ∧ ∀ p ∈ ps, p.2.natAbs ∣ lcmL l ps
  | [], l => ⟨Nat.dvd_refl _, by simp⟩
  | p :: r, l => by
    obtain ⟨h1, h2⟩ := lcmL_dvd r (Nat.lcm l p.2.natAbs)
    refine ⟨Nat.dvd_trans (Nat.dvd_lcm_left _ _) h1, fun q hq => ?_⟩
    rcases List.mem_cons.mp hq with rfl | hq
    · exact Nat.dvd_trans (Nat.dvd_lcm_right _ _) h1
    · exact h2 q hq
theorem lcmL_bd : ∀ (ps : List (Int × Int)) (l n m : Nat), Frs n ps → 0 < l → l < 2 ^ m → 0 < lcmL l ps ∧ lcmL l ps < 2 ^ (m + n * ps.length)
  | [], l, n, m, h, h0, hl => ⟨h0, by simpa [lcmL] using hl⟩
  | p :: r, l, n, m, h, h0, hl => by
    obtain ⟨f, _, b⟩ := h p (by simp)
    have := f.pos
    have q0 : 0 < p.2.natAbs := by omega
    have q1 : Nat.lcm l p.2.natAbs < 2 ^ (m + n) := by
      refine Nat.lt_of_le_of_lt (Nat.div_le_self _ _) ?_
      rw [Nat.pow_add]
      exact Nat.mul_lt_mul'' hl b
    obtain ⟨z1, z2⟩ := lcmL_bd r _ n (m + n) (fun q hq => h q (List.mem_cons_of_mem _ hq)) (Nat.lcm_pos h0 q0) q1
    refine ⟨z1, ?_⟩
    rw [List.length_cons]
    have e : m + n * (r.length + 1) = m + n + n * r.length := by rw [Nat.mul_add]; omega
    rw [e]
    exact z2
def topsL (B : Nat) (ps : List (Int × Int)) : List Int := ps.map fun p => p.1 * ((B : Int) / p.2)
theorem wf_lcm {i j : Int} {Q : Rv → Sto → Prop} (h : Q ⟨.int (Nat.lcm i.natAbs j.natAbs : Nat), .sh⟩ ρ) (hm : i.natAbs.log2 < 13000 ∧ j.natAbs.log2 < 13000) : WF .lcm [.int i, .int j] ρ Q := ⟨⟨.int (Nat.lcm i.natAbs j.natAbs : Nat), .sh⟩, by exact if_pos hm, h⟩
theorem oo_loop (t : Tg) (ht : t = .nm 2) {cf : Nat → List D → Sto → Res Rv} {nx : Envr → Sto → Prop} {rt : Rv → Sto → Prop} {ex : Xc → Envr → Sto → Prop} {bk ct : Envr → Sto → Prop} (n : D) : ∀ (ps : List (Int × Int)) (l m : Nat) (o : Option Slot), Frs 300 ps → 0 < l → l < 2 ^ m → m + 300 * ps.length ≤ 4000 →
    (∀ o, nx [some ⟨false, n⟩, some ⟨false, .int (lcmL l ps)⟩, o] ρ) →
    WS (forLoop t (exSs g cf T.sub wl (.cons (S.asg 1 (E.bi .lcm (Es.cons (E.var 1) (Es.cons (E.ix (E.var 2) (E.con (D.int 1))) Es.nil)))) .nil)) (ps.map pd) [some ⟨false, n⟩, some ⟨false, .int l⟩, o] ρ) nx rt ex bk ct
  | [], l, m, o, h, h0, hl, hm, q => s_for0 (q o)
  | p :: r, l, m, o, h, h0, hl, hm, q => by
    subst ht
    obtain ⟨f, _, b⟩ := h p (by simp)
    have := f.pos
    refine s_for1 rfl ?_
    unfold pd
    repeat' (walk_at "ev1")
    refine wf_lcm ?_ ⟨?_, ?_⟩
    · repeat' (walk_at "ev1")
      have q1 : Nat.lcm l p.2.natAbs < 2 ^ (m + 300) := by
        refine Nat.lt_of_le_of_lt (Nat.div_le_self _ _) ?_
        rw [Nat.pow_add]
        exact Nat.mul_lt_mul'' hl b
      exact oo_loop (.nm 2) rfl n r (Nat.lcm l p.2.natAbs) (m + 300) _ (fun q hq => h q (List.mem_cons_of_mem _ hq)) (Nat.lcm_pos h0 (by omega)) q1 (by rw [List.length_cons] at hm; omega) q
    · have := log_lt (n := m + 1) (by omega) (Nat.lt_of_lt_of_le hl (Nat.pow_le_pow_right (by decide) (by omega)))
      rw [List.length_cons] at hm
      show (l : Int).natAbs.log2 < 13000
      rw [Int.natAbs_natCast]
      omega
    · have := log_lt (n := 300) (by omega) b
      show p.2.natAbs.log2 < 13000
      omega
theorem oo_comp (B : Nat) (hB : Bd 4000 B) (env : Envr) (he : ∃ x z, env = [x, some ⟨false, .int B⟩, z]) {cf : Nat → List D → Sto → Res Rv} {X : Xc → Sto → Prop} : ∀ (ps : List (Int × Int)) {QL : List D → Sto → Prop}, Frs 300 ps → (∀ p ∈ ps, p.2.natAbs ∣ B) → QL ((topsL B ps).map D.int) ρ →
    WR (lcLoop (lcTurn g cf env [2] (.nm 2) .nop (E.bin .mul (E.ix (E.var 2) (E.con (D.int 0))) (E.bin .fdiv (E.var 1) (E.ix (E.var 2) (E.con (D.int 1)))))) (ps.map pd) ρ) QL X
  | [], QL, h, hd, q => w_lc0 q
  | p :: r, QL, h, hd, q => by
    obtain ⟨x, z, rfl⟩ := he
    obtain ⟨f, b1, b⟩ := h p (by simp)
    have := f.pos
    have hdv : p.2 ∣ (B : Int) := Int.natAbs_dvd_natAbs.mp (by rw [Int.natAbs_natCast]; exact hd p (by simp))
    refine w_lc1 (w_turn0 rfl ?_)
    unfold pd
    repeat' (walk_at "ev1")
    · refine oo_comp B hB _ ⟨_, _, rfl⟩ r (fun q hq => h q (List.mem_cons_of_mem _ hq)) (fun q hq => hd q (List.mem_cons_of_mem _ hq)) ?_
      rw [fdivP hdv (by omega)]
      exact q
    · show MulOk p.1 ((B : Int).fdiv p.2)
      rw [fdivP hdv (by omega)]
      refine b1.ok (m := 4000) ?_ (by omega) (by omega)
      unfold Bd
      rw [Int.natAbs_ediv_of_dvd hdv]
      exact Nat.lt_of_le_of_lt (Nat.div_le_self _ _) hB
    · exact div_ok (by omega) (b.mono (by omega))
theorem s_over_one (ps : List (Int × Int)) (h : Frs 300 ps) (hl : ps.length ≤ 12) : R (k+1) 11 [.tup (ps.map pd)] ρ = .ok ⟨.tup [.lst ((topsL (lcmL 1 ps) ps).map D.int), .int (lcmL 1 ps)], .sh⟩ ρ := by
  obtain ⟨p0, p1⟩ := lcmL_bd ps 1 300 1 h (by omega) (by omega)
  have hB : Bd 4000 (lcmL 1 ps) := by
    unfold Bd
    rw [Int.natAbs_natCast]
    exact Nat.lt_of_lt_of_le p1 (Nat.pow_le_pow_right (by decide) (by omega))
  refine WR.eq (WR.run (n := 3) (b := b_over_one) rfl ?_)
  unfold b_over_one
  repeat' (walk_at "ev1")
  refine oo_loop _ rfl _ ps 1 1 none h (by omega) (by omega) (by omega) fun o => ?_
  repeat' (walk_at "ev1")
  refine ⟨by rw [List.length_map]; exact Nat.le_trans hl (by decide), ?_⟩
  refine oo_comp (lcmL 1 ps) hB _ ⟨_, _, rfl⟩ ps h (lcmL_dvd ps 1).2 ?_
  repeat' (walk_at "ev1")
  exact ⟨rfl, rfl⟩
theorem asInts_map (ns : List Int) : asInts (ns.map D.int) = some ns := by
  induction ns with
  | nil => rfl
  | cons n r ih => simp only [List.map_cons, asInts, ih, Option.map_some]
theorem wf_sum {ns : List Int} {Q : Rv → Sto → Prop} (h : Q ⟨.int ns.sum, .sh⟩ ρ) : WF .sum [.lst (ns.map D.int)] ρ Q := ⟨⟨.int ns.sum, .sh⟩, by show (asInts (ns.map D.int)).map _ = _; rw [asInts_map]; rfl, h⟩
theorem s_sum_of (ps : List (Int × Int)) (h : Frs 300 ps) (hl : ps.length ≤ 12) : R (k+2) 12 [.tup (ps.map pd)] ρ = .ok ⟨frD (topsL (lcmL 1 ps) ps).sum (lcmL 1 ps), .sh⟩ ρ := by
  obtain ⟨p0, p1⟩ := lcmL_bd ps 1 300 1 h (by omega) (by omega)
  refine WR.eq (WR.run (n := 3) (b := b_sum_of) rfl ?_)
  unfold b_sum_of
  repeat' (walk_at "ev1")
  refine WR.of (s_over_one ps h hl) ?_
  repeat' (walk_at "ev1")
  refine wf_sum ?_
  repeat' (walk_at "ev1")
  refine WR.of (s_made _ _ _ _ (by omega) ?_) ⟨by simp, rfl, rfl⟩
  rw [Int.natAbs_natCast]
  exact Nat.lt_of_lt_of_le p1 (Nat.pow_le_pow_right (by decide) (by omega))
theorem asBls_map (ns : List Bool) : asBls (ns.map D.bl) = some ns := by
  induction ns with
  | nil => rfl
  | cons n r ih => simp only [List.map_cons, asBls, ih, Option.map_some]
theorem wf_all {ns : List Bool} {Q : Rv → Sto → Prop} (h : Q ⟨.bl (ns.all id), .sh⟩ ρ) : WF .all [.lst (ns.map D.bl)] ρ Q := ⟨⟨.bl (ns.all id), .sh⟩, by show (asBls (ns.map D.bl)).map _ = _; rw [asBls_map]; rfl, h⟩
theorem tt_comp (env : Envr) (he : ∃ x z, env = [x, z]) {X : Xc → Sto → Prop} : ∀ (xs : List D) {QL : List D → Sto → Prop}, (∀ x ∈ xs, Pv x) → QL ((xs.map isFr).map D.bl) ρ →
    WR (lcLoop (lcTurn g (R (k+2)) env [1] (.nm 1) .nop (E.call 1 (Es.cons (E.var 1) Es.nil))) xs ρ) QL X
  | [], QL, h, q => w_lc0 q
  | x :: r, QL, h, q => by
    obtain ⟨a, b, rfl⟩ := he
    refine w_lc1 (w_turn0 rfl ?_)
    repeat' (walk_at "ev1")
    refine WR.of (s_is_fraction k ρ x (h x (by simp))) ?_
    repeat' (walk_at "ev1")
    exact tt_comp _ ⟨_, _, rfl⟩ r (fun y hy => h y (List.mem_cons_of_mem _ hy)) q
theorem s_total (ps : List (Int × Int)) (h : Frs 300 ps) (hl : ps.length ≤ 12) : R (k+3) 19 [.tup (ps.map pd)] ρ = .ok ⟨frD (topsL (lcmL 1 ps) ps).sum (lcmL 1 ps), .sh⟩ ρ := by
  refine WR.eq (WR.run (n := 2) (b := b_total) rfl ?_)
  unfold b_total
  repeat' (walk_at "ev1")
  refine ⟨by rw [List.length_map]; exact Nat.le_trans hl (by decide), ?_⟩
  refine tt_comp _ ⟨_, _, rfl⟩ _ (fun x hx => ?_) ?_
  · obtain ⟨p, _, rfl⟩ := List.mem_map.mp hx
    refine ⟨⟨_, rfl⟩, fun xs e x hx => ?_⟩
    cases e
    simp only [List.mem_cons, List.not_mem_nil, or_false] at hx
    rcases hx with rfl | rfl <;> exact ⟨_, rfl⟩
  · refine wf_all ?_
    have e : (((ps.map pd).map isFr).all id) = true := by
      rw [List.all_eq_true]
      intro b hb
      rw [List.map_map] at hb
      obtain ⟨p, hp, rfl⟩ := List.mem_map.mp hb
      exact isFr_i (h p hp).1
    rw [e]
    repeat' (walk_at "ev1")
    exact WR.of (s_sum_of ps h hl) ⟨by simp, rfl, rfl⟩
theorem x_total (d : D) (hp : Pl d) (h : (∀ xs, d ≠ .tup xs) ∨ ∃ xs, d = .tup xs ∧ xs.length ≤ 12 ∧ (∀ x ∈ xs, Pv x) ∧ xs.all isFr = false) : R (k+3) 19 [d] ρ = .exc ⟨0, none⟩ ρ := by
  refine WR.eqX (WR.run (n := 2) (b := b_total) rfl ?_)
  unfold b_total
  rcases h with h | ⟨xs, rfl, hl, h, e⟩
  · obtain ⟨t, ht⟩ := hp
    cases d with
    | tup xs => exact absurd rfl (h xs)
    | cst v => cases ht
    | _ => (repeat' (walk_at "ev1")) <;> exact ⟨rfl, rfl⟩
  · repeat' (walk_at "ev1")
    refine ⟨Nat.le_trans hl (by decide), ?_⟩
    refine tt_comp _ ⟨_, _, rfl⟩ _ h ?_
    refine wf_all ?_
    have e : ((xs.map isFr).all id) = false := by
      rw [← e, List.all_map]
      rfl
    rw [e]
    repeat' (walk_at "ev1")
    exact ⟨rfl, rfl⟩
end
end K01
end

section
set_option Elab.async false
set_option linter.all false
set_option maxRecDepth 100000
set_option exponentiation.threshold 100
local macro_rules
  | `(tactic| walk_at "ev1") => `(tactic| first
    | with_reducible refine Ev.w_con ?_
    | ((with_reducible refine Ev.w_sh (d := ?v) ?e ?_); (case e => exact rfl))
    | ((with_reducible refine Ev.w_al (d := ?v) ?e ?_); (case e => exact rfl))
    | with_reducible refine Ev.nal_sh ?_
    | with_reducible refine Ev.w_cons ?_
    | with_reducible refine Ev.w_nil ?_
    | with_reducible refine Ev.w_bin ?_
    | with_reducible refine Ev.wb_add ?_
    | with_reducible refine Ev.wb_sub ?_
    | with_reducible refine Ev.wb_mul ?_ ?_
    | with_reducible refine Ev.wb_fdiv ?_ ?_
    | with_reducible refine Ev.wb_mod ?_ ?_
    | with_reducible refine Ev.w_ix ?_
    | ((with_reducible refine Ev.wi_of (r := ?v) ?e ?_); (case e => exact rfl))
    | with_reducible refine Ev.w_call ?_
    | with_reducible refine Ev.w_callk ?_
    | ((with_reducible refine Ev.ex_perm (xs := ?v) ?e ?_); (case e => exact rfl))
    | with_reducible refine Ev.w_cmp ?_
    | with_reducible refine Ev.w_chn ?_
    | with_reducible refine Ev.wc_lt ?_
    | with_reducible refine Ev.wc_le ?_
    | with_reducible refine Ev.wc_gt ?_
    | with_reducible refine Ev.wc_ge ?_
    | with_reducible refine Ev.wc_eqI ?_
    | with_reducible refine Ev.wc_neI ?_
    | with_reducible refine Ev.w_and ?_
    | with_reducible refine Ev.w_or ?_
    | with_reducible refine Ev.w_andE ?_
    | with_reducible refine Ev.w_orE ?_
    | with_reducible refine Ev.w_ite ?_
    | ((with_reducible refine Ev.tv_b' (b := ?v) ?e ?_); (case e => exact rfl))
    | ((with_reducible refine Ev.bt_t' ?e ?_); (case e => exact rfl))
    | ((with_reducible refine Ev.bt_f' ?e ?_); (case e => exact rfl))
    | with_reducible refine Ev.bt_n ?_
    | ((with_reducible refine Ev.bt_d ?_ ?_) <;> intro _)
    | with_reducible refine Ev.w_not ?_
    | ((with_reducible refine Ev.ex_tru (b := ?v) ?e ?_); (case e => exact rfl))
    | with_reducible refine Ev.w_neg ?_
    | ((with_reducible refine Ev.ex_int (i := ?v) ?e ?_); (case e => exact rfl))
    | with_reducible refine Ev.w_tup ?_
    | with_reducible refine Ev.w_lst ?_
    | ((with_reducible refine Ev.len_and ?e ?_); (case e => exact rfl))
    | with_reducible refine Ev.w_isi ?_
    | ((with_reducible refine Ev.ex_ty (u := ?v) ?e ?_); (case e => first | exact rfl | assumption))
    | with_reducible refine Ev.w_bi1 ?_
    | with_reducible refine Ev.w_bi ?_
    | ((with_reducible refine Ev.wf_of (r := ?v) ?e ?_); (case e => exact rfl))
    | with_reducible refine Ev.nal_fr ?_
    | with_reducible refine Ev.s_cons ?_
    | with_reducible refine Ev.s_nil ?_
    | with_reducible refine Ev.s_ifs ?_
    | with_reducible refine Ev.s_asg ?_
    | with_reducible refine Ev.s_ret ?_
    | ((with_reducible refine Ev.s_retv (d := ?v) ?e ?_); (case e => exact rfl))
    | ((with_reducible refine Ev.s_reto (d := ?v) ?e ?_); (case e => exact rfl))
    | with_reducible refine Ev.s_retN ?_
    | with_reducible refine Ev.s_tgt ?_
    | with_reducible refine Ev.ex_sh ?_
    | ((with_reducible refine Ev.ex_asg (env' := ?v) ?e ?_); (case e => exact rfl))
    | with_reducible refine Ev.s_par ?_
    | ((with_reducible refine Ev.nal2 ?e ?_); (case e => exact rfl))
    | with_reducible refine Ev.s_exp ?_
    | with_reducible refine Ev.s_rai ?_
    | with_reducible refine Ev.s_tri ?_
    | with_reducible refine Ev.s_pas ?_
    | with_reducible refine Ev.w_sl ?_
    | with_reducible refine Ev.w_nop ?_
    | ((with_reducible refine Ev.ex_part (l := ?v) ?e ?_); (case e => exact rfl))
    | ((with_reducible refine Ev.wl_of (r := ?v) ?e ?_); (case e => exact rfl))
    | ((with_reducible refine Ev.s_frz (env' := ?v) ?e ?_); (case e => exact rfl))
    | with_reducible refine Ev.s_for ?_
    | with_reducible refine Ev.w_over ?_
    | ((with_reducible refine Ev.ex_over (ds := ?v) ?e ?f ?_); (case e => exact rfl); (case f => exact rfl))
    | with_reducible refine Ev.w_lc ?_
    | ((with_reducible refine Ev.w_glb (d := ?v) ?e ?_); (case e => exact rfl))
    | ((with_reducible refine Ev.bt_b ?_ ?_) <;> intro _))
namespace K01
open Ev PySem
section
variable {k : Nat} {ρ : Sto} {a b : Int}
theorem IsFr.pow (h : IsFr a b) (n : Nat) : IsFr (a ^ n) (b ^ n) := by
  refine ⟨Int.pow_pos h.pos, ?_⟩
  have := h.cop
  unfold Int.gcd at *
  rw [Int.natAbs_pow, Int.natAbs_pow]
  exact Nat.Coprime.pow n n this
theorem Bd.pow {n m : Nat} (h : Bd n a) (hn : 0 < n) (u : Nat) (hm : n * u + 1 ≤ m) : Bd m (a ^ u) := by
  unfold Bd at *
  rw [Int.natAbs_pow]
  refine Nat.lt_of_lt_of_le ?_ (Nat.pow_le_pow_right (by decide) hm)
  rw [Nat.pow_succ, Nat.pow_mul]
  have : a.natAbs ^ u ≤ (2 ^ n) ^ u := Nat.pow_le_pow_left (Nat.le_of_lt h) u
  have : 0 < (2 ^ n) ^ u := Nat.pow_pos (Nat.pow_pos (by decide))
  omega
def pw (a b : Int) (u : Nat) : D := .tup [.int (a ^ u), .int (b ^ u)]
theorem s_mulpw (h : IsFr a b) (ba : Bd 60 a) (bb : Bd 60 b) (u v : Nat) (hu : u ≤ 32) (hv : v ≤ 32) : R (k+2) 8 [pw a b u, pw a b v] ρ = .ok ⟨pw a b (u + v), .sh⟩ ρ := by
  have e := s_multiplied (k := k) (ρ := ρ) (h.pow u).pos (h.pow v).pos (ba.pow (by omega) u (m := 2000) (by omega)) (bb.pow (by omega) u (m := 2000) (by omega)) (ba.pow (by omega) v (m := 2000) (by omega)) (bb.pow (by omega) v (m := 2000) (by omega))
  have e1 : frD (a ^ u * a ^ v) (b ^ u * b ^ v) = pw a b (u + v) := by
    obtain ⟨q1, q2⟩ := fr_self (h.pow (u + v))
    rw [Int.pow_add, Int.pow_add] at q1 q2
    unfold frD pw
    rw [q1, q2, Int.pow_add, Int.pow_add]
  rw [e1] at e
  exact e
theorem s_power (h : IsFr a b) (ba : Bd 60 a) (bb : Bd 60 b) (n : Nat) (hn : n ≤ 30) : R (k+4) 20 [pd (a, b), .int n] ρ = .ok ⟨pw a b n, .sh⟩ ρ := by
  have F : Fr 60 (pd (a, b)) a b := ⟨rfl, h, ba, bb⟩
  refine WR.eq (WR.run (n := 4) (b := b_power) rfl ?_)
  unfold b_power
  repeat' (walk_at "ev1")
  refine WR.of (s_check_number _ _ _ F.pv F.is) ?_
  repeat' (walk_at "ev1")
  refine WR.of (s_check_count _ _ _ _ (by omega)) ?_
  repeat' (walk_at "ev1")
  refine s_whiI (fun m env ρ' => ρ' = ρ ∧ ∃ c u v : Nat, env = [some ⟨false, pd (a, b)⟩, some ⟨false, .int c⟩, some ⟨false, pw a b u⟩, some ⟨false, pw a b v⟩] ∧ c < 2 ^ m ∧ u + c * v = n) (m := 5) ⟨rfl, n, 0, 1, ?_, by omega, by omega⟩ (by decide) ?_
  · unfold pw
    rw [Int.pow_zero, Int.pow_zero, Int.pow_one, Int.pow_one]
    rfl
  · rintro m env ρ' ⟨rfl, c, u, v, rfl, hc, hs⟩
    repeat' (walk_at "ev1")
    · rename_i hc0
      have c0 : 0 < c := by omega
      have hv : v ≤ 32 := by
        have : v ≤ c * v := Nat.le_mul_of_pos_left _ c0
        omega
      have hu : u ≤ 32 := by omega
      have hm : 0 < m := by
        rcases Nat.eq_zero_or_pos m with z | z
        · subst z; omega
        · exact z
      have em : 2 ^ m = 2 ^ (m - 1) * 2 := by rw [← Nat.pow_succ]; congr 1; omega
      have sh : ∀ {bk ct : Envr → Sto → Prop} (e : Envr) (u' : Nat), e = [some ⟨false, pd (a, b)⟩, some ⟨false, .int c⟩, some ⟨false, pw a b u'⟩, some ⟨false, pw a b v⟩] → u' + (c / 2) * (v + v) = n →
          WS (exSs g (R (k+3)) T.sub wl (.cons (S.asg 1 (E.bin .shr (E.var 1) (E.con (D.int 1)))) (.cons (S.ifs (E.cmp .gt (E.var 1) (E.con (D.int 0))) (.cons (S.asg 3 (E.call 8 (Es.cons (E.var 3) (Es.cons (E.var 3) Es.nil)))) .nil) .nil) .nil)) e ρ')
            (fun env ρ2 => ρ2 = ρ' ∧ ∃ c u v : Nat, env = [some ⟨false, pd (a, b)⟩, some ⟨false, .int c⟩, some ⟨false, pw a b u⟩, some ⟨false, pw a b v⟩] ∧ c < 2 ^ (m - 1) ∧ u + c * v = n) (fun r ρ2 => r = ⟨pw a b n, .sh⟩ ∧ ρ2 = ρ') (fun _ _ _ => False) bk ct := by
        rintro bk ct e u' rfl hs'
        repeat' (walk_at "ev1")
        refine wb_shr ?_ (by omega)
        have ec : (c : Int) / 2 ^ (1 : Int).toNat = ((c / 2 : Nat) : Int) := by
          show (c : Int) / 2 ^ 1 = _
          omega
        rw [ec]
        repeat' (walk_at "ev1")
        · refine WR.of (s_mulpw h ba bb v v hv hv) ?_
          repeat' (walk_at "ev1")
          exact ⟨rfl, c / 2, u', v + v, rfl, by omega, hs'⟩
        · rename_i z
          have z : c / 2 = 0 := by omega
          rw [z, Nat.zero_mul] at hs'
          exact ⟨rfl, c / 2, u', v, rfl, by omega, by rw [z, Nat.zero_mul]; exact hs'⟩
      refine ⟨hm, ?_⟩
      repeat' (walk_at "ev1")
      refine wb_and ?_
      obtain ⟨h2, hh⟩ : ∃ h2, h2 = c / 2 := ⟨_, rfl⟩
      refine tv_int (fun z => ?_) (fun z => ?_)
      · have z : c % 2 = 1 := by
          rw [PyProof.Rows.bitAnd_m1] at z
          omega
        repeat' (walk_at "ev1")
        refine WR.of (s_mulpw h ba bb u v hu hv) ?_
        refine nal_sh ?_
        refine s_nil ?_
        refine sh _ (u + v) rfl ?_
        rw [← hh]
        have e : c = 2 * h2 + 1 := by omega
        rw [e] at hs
        grind
      · have z : c % 2 = 0 := by
          rw [PyProof.Rows.bitAnd_m1] at z
          omega
        refine s_nil ?_
        refine sh _ u rfl ?_
        rw [← hh]
        have e : c = 2 * h2 := by omega
        rw [e] at hs
        grind
    · rename_i hc0
      have c0 : c = 0 := by omega
      subst c0
      rw [Nat.zero_mul, Nat.add_zero] at hs
      subst hs
      exact ⟨rfl, rfl⟩
theorem s_raised (ba : Bd 60 a) (bb : Bd 60 b) (n : Nat) (j : Int) (hj : j = n) (hn : n ≤ 30) : R (k+1) 43 [pd (a, b), .int j] ρ = .ok ⟨pw a b n, .sh⟩ ρ := by
  refine WR.eq (WR.run sz43 ?_)
  unfold b__law_raised
  repeat' (walk_at "ev1")
  refine w_rng1 ?_
  repeat' (walk_at "ev1")
  refine ⟨by omega, ?_⟩
  have hl : (rngD 0 j.toNat).length = n := by unfold rngD; simp; omega
  refine s_forI (fun i env ρ' => ρ' = ρ ∧ ∃ o, env = [some ⟨false, pd (a, b)⟩, some ⟨false, .int j⟩, some ⟨false, pw a b i⟩, o]) ⟨rfl, none, ?_⟩ ?_ ?_
  · unfold pw
    rw [Int.pow_zero, Int.pow_zero]
    rfl
  · rintro i d env ρ' hd ⟨rfl, o, rfl⟩
    have hi : i < n := by rw [← hl]; exact (List.getElem?_eq_some_iff.mp hd).1
    refine ⟨_, rfl, ?_⟩
    unfold pw pd
    repeat' (walk_at "ev1")
    · refine ⟨rfl, some ⟨false, d⟩, ?_⟩
      rw [Int.pow_succ, Int.pow_succ]
      rfl
    · exact (bb.pow (by omega) i (m := 5000) (by omega)).ok bb (by omega) (by omega)
    · exact (ba.pow (by omega) i (m := 5000) (by omega)).ok ba (by omega) (by omega)
  · rintro env ρ' ⟨rfl, o, rfl⟩
    rw [hl]
    repeat' (walk_at "ev1")
    exact ⟨rfl, rfl⟩
/-! sums -/
def accQ (t b : Int) : List (Int × Int) → Int × Int
  | [] => (t, b)
  | p :: r => accQ (t * p.2 + p.1 * b) (b * p.2) r
theorem accQ_ne : ∀ (ps : List (Int × Int)) (t b : Int), b ≠ 0 → (∀ p ∈ ps, IsFr p.1 p.2) → (accQ t b ps).2 ≠ 0
  | [], t, b, h, _ => h
  | p :: r, t, b, h, hp => accQ_ne r _ _ (Int.mul_ne_zero h (Int.ne_of_gt (hp p (by simp)).pos)) fun q hq => hp q (List.mem_cons_of_mem _ hq)
theorem accQ_sum (B : Int) : ∀ (ps : List (Int × Int)) (t b : Int), (∀ p ∈ ps, IsFr p.1 p.2 ∧ p.2 ∣ B) → (accQ t b ps).1 * b * B = (accQ t b ps).2 * (t * B + b * (ps.map fun p => p.1 * (B / p.2)).sum)
  | [], t, b, _ => by simp only [accQ, List.map_nil, List.sum_nil]; grind
  | p :: r, t, b, h => by
    obtain ⟨f, hd⟩ := h p (by simp)
    have hp := f.pos
    have ih := accQ_sum B r (t * p.2 + p.1 * b) (b * p.2) fun q hq => h q (List.mem_cons_of_mem _ hq)
    have e : p.2 * (B / p.2) = B := Int.mul_ediv_cancel' hd
    simp only [accQ, List.map_cons, List.sum_cons]
    generalize (accQ (t * p.2 + p.1 * b) (b * p.2) r).1 = t' at *
    generalize (accQ (t * p.2 + p.1 * b) (b * p.2) r).2 = b' at *
    generalize (r.map fun p => p.1 * (B / p.2)).sum = S at *
    generalize B / p.2 = q at *
    refine Int.eq_of_mul_eq_mul_right (Int.ne_of_gt hp) ?_
    rw [← e] at ih ⊢
    grind
theorem sum_eq (ps : List (Int × Int)) (h : Frs 300 ps) : frD (topsL (lcmL 1 ps) ps).sum (lcmL 1 ps) = frD (accQ 0 1 ps).1 (accQ 0 1 ps).2 := by
  have hd := (lcmL_dvd ps 1).2
  have hB : ((lcmL 1 ps : Nat) : Int) ≠ 0 := by
    have := (lcmL_bd ps 1 300 1 h (by omega) (by omega)).1
    omega
  have q := accQ_sum (lcmL 1 ps : Nat) ps 0 1 fun p hp => ⟨(h p hp).1, Int.natAbs_dvd_natAbs.mp (by rw [Int.natAbs_natCast]; exact hd p hp)⟩
  have z := fr_eq (t := (topsL (lcmL 1 ps) ps).sum) (t' := (accQ 0 1 ps).1) hB (accQ_ne ps 0 1 (by omega) fun p hp => (h p hp).1) (by
    unfold topsL
    rw [Int.mul_one, Int.zero_mul, Int.zero_add, Int.one_mul] at q
    rw [q, Int.mul_comm])
  unfold frD
  rw [z.1, z.2]
theorem ls_loop {k : Nat} {cf : Nat → List D → Sto → Res Rv} (hcf : cf = R (k+3)) {nx : Envr → Sto → Prop} {rt : Rv → Sto → Prop} {ex : Xc → Envr → Sto → Prop} {bk ct : Envr → Sto → Prop} (n : D) : ∀ (ps : List (Int × Int)) (t b : Int) (i : Nat) (o : Option Slot), Frs 60 ps → b ≠ 0 → Bd (61 * i + 1) t → Bd (60 * i + 1) b → i + ps.length ≤ 12 →
    (∀ o, nx [some ⟨false, n⟩, some ⟨false, frD (accQ t b ps).1 (accQ t b ps).2⟩, o] ρ) →
    WS (forLoop (.nm 2) (exSs g cf T.sub wl (.cons (S.asg 1 (E.call 32 (Es.cons (E.var 1) (Es.cons (E.var 2) Es.nil)))) .nil)) (ps.map pd) [some ⟨false, n⟩, some ⟨false, frD t b⟩, o] ρ) nx rt ex bk ct
  | [], t, b, i, o, h, hb, bt, bb, hl, q => s_for0 (q o)
  | p :: r, t, b, i, o, h, hb, bt, bb, hl, q => by
    subst hcf
    rw [List.length_cons] at hl
    obtain ⟨f, b1, b2⟩ := h p (by simp)
    obtain ⟨g1, g2⟩ := fr_is (t := t) hb
    obtain ⟨l1, l2⟩ := fr_le (t := t) hb
    refine s_for1 rfl ?_
    unfold pd
    repeat' (walk_at "ev1")
    refine WR.of (s_law_add g1.pos f.pos ((show Bd (61 * i + 1) _ from Nat.lt_of_le_of_lt l1 bt).mono (by omega)) ((show Bd (60 * i + 1) _ from Nat.lt_of_le_of_lt l2 bb).mono (by omega)) (b1.mono (by omega)) (b2.mono (by omega))) ?_
    have e : frD (frN t b * p.2 + p.1 * frE t b) (frE t b * p.2) = frD (t * p.2 + p.1 * b) (b * p.2) := by
      have z := fr_eq (t := frN t b * p.2 + p.1 * frE t b) (b := frE t b * p.2) (t' := t * p.2 + p.1 * b) (b' := b * p.2) (Int.mul_ne_zero (Int.ne_of_gt g1.pos) (Int.ne_of_gt f.pos)) (Int.mul_ne_zero hb (Int.ne_of_gt f.pos)) (by
        have : (frN t b * p.2 + p.1 * frE t b) * (b * p.2) = (frN t b * b) * p.2 * p.2 + p.1 * frE t b * b * p.2 := by grind
        rw [this, g2]
        grind)
      unfold frD
      rw [z.1, z.2]
    rw [e]
    repeat' (walk_at "ev1")
    refine ls_loop rfl n r _ _ (i + 1) _ (fun q hq => h q (List.mem_cons_of_mem _ hq)) (Int.mul_ne_zero hb (Int.ne_of_gt f.pos)) ?_ (bb.mul b2 (by omega)) (by omega) q
    exact (bt.mul b2 (k := 61 * i + 61) (by omega)).add (b1.mul bb (k := 61 * i + 61) (by omega)) (by omega) (by omega)
theorem s_law_sum (ps : List (Int × Int)) (h : Frs 60 ps) (hl : ps.length ≤ 12) : R (k+4) 37 [.tup (ps.map pd)] ρ = .ok ⟨frD (accQ 0 1 ps).1 (accQ 0 1 ps).2, .sh⟩ ρ := by
  refine WR.eq (WR.run (n := 3) (b := b__law_sum) rfl ?_)
  unfold b__law_sum
  repeat' (walk_at "ev1")
  have e : (D.tup [.int 0, .int 1]) = frD 0 1 := by
    obtain ⟨q1, q2⟩ := fr_self (n := 0) (d := 1) ⟨by omega, by decide⟩
    unfold frD
    rw [q1, q2]
  have z := ls_loop (ρ := ρ) (k := k) rfl (.tup (ps.map pd)) ps 0 1 0 none h (by omega) (by unfold Bd; decide) (by unfold Bd; decide) (by omega)
    (nx := fun e ρ_1 => WS (exSs g (run g T.sub wl (sizes fs) (k + 3)) T.sub wl (Ss.cons (S.retv 1) Ss.nil) e ρ_1) (fun _ _ => False) (fun r ρ' => r = ⟨frD (accQ 0 1 ps).1 (accQ 0 1 ps).2, .sh⟩ ∧ ρ' = ρ) (fun _ _ _ => False) (fun _ _ => False) (fun _ _ => False)) (rt := fun r ρ' => r = ⟨frD (accQ 0 1 ps).1 (accQ 0 1 ps).2, .sh⟩ ∧ ρ' = ρ) (ex := fun _ _ _ => False) (bk := fun _ _ => False) (ct := fun _ _ => False) (by
      intro o
      repeat' (walk_at "ev1")
      exact ⟨rfl, rfl⟩)
  rw [← e] at z
  exact WS.mono z (fun e ρ q => WS.mono q (fun _ _ q => False.elim q) (fun _ _ q => q) (fun _ _ _ q => q) (fun _ _ q => q) (fun _ _ q => q)) (fun _ _ q => q) (fun _ _ _ q => q) (fun _ _ q => q) (fun _ _ q => q)
end
end K01
end

section
set_option Elab.async false
set_option linter.all false
set_option maxRecDepth 100000
set_option exponentiation.threshold 100
local macro_rules
  | `(tactic| walk_at "ev1") => `(tactic| first
    | with_reducible refine Ev.w_con ?_
    | ((with_reducible refine Ev.w_sh (d := ?v) ?e ?_); (case e => exact rfl))
    | ((with_reducible refine Ev.w_al (d := ?v) ?e ?_); (case e => exact rfl))
    | with_reducible refine Ev.nal_sh ?_
    | with_reducible refine Ev.w_cons ?_
    | with_reducible refine Ev.w_nil ?_
    | with_reducible refine Ev.w_bin ?_
    | with_reducible refine Ev.wb_add ?_
    | with_reducible refine Ev.wb_sub ?_
    | with_reducible refine Ev.wb_mul ?_ ?_
    | with_reducible refine Ev.wb_fdiv ?_ ?_
    | with_reducible refine Ev.wb_mod ?_ ?_
    | with_reducible refine Ev.w_ix ?_
    | ((with_reducible refine Ev.wi_of (r := ?v) ?e ?_); (case e => exact rfl))
    | with_reducible refine Ev.w_call ?_
    | with_reducible refine Ev.w_callk ?_
    | ((with_reducible refine Ev.ex_perm (xs := ?v) ?e ?_); (case e => exact rfl))
    | with_reducible refine Ev.w_cmp ?_
    | with_reducible refine Ev.w_chn ?_
    | with_reducible refine Ev.wc_lt ?_
    | with_reducible refine Ev.wc_le ?_
    | with_reducible refine Ev.wc_gt ?_
    | with_reducible refine Ev.wc_ge ?_
    | with_reducible refine Ev.wc_eqI ?_
    | with_reducible refine Ev.wc_neI ?_
    | ((with_reducible refine Ev.wc_isN (b := ?v) ?e ?_); (case e => exact rfl))
    | ((with_reducible refine Ev.wc_notN (b := ?v) ?e ?_); (case e => exact rfl))
    | with_reducible refine Ev.w_andE ?_
    | with_reducible refine Ev.w_orE ?_
    | with_reducible refine Ev.w_ite ?_
    | ((with_reducible refine Ev.tv_b' (b := ?v) ?e ?_); (case e => exact rfl))
    | ((with_reducible refine Ev.bt_t' ?e ?_); (case e => exact rfl))
    | ((with_reducible refine Ev.bt_f' ?e ?_); (case e => exact rfl))
    | with_reducible refine Ev.bt_n ?_
    | ((with_reducible refine Ev.bt_d ?_ ?_) <;> intro _)
    | with_reducible refine Ev.w_not ?_
    | ((with_reducible refine Ev.ex_tru (b := ?v) ?e ?_); (case e => exact rfl))
    | with_reducible refine Ev.w_neg ?_
    | ((with_reducible refine Ev.ex_int (i := ?v) ?e ?_); (case e => exact rfl))
    | with_reducible refine Ev.w_tup ?_
    | with_reducible refine Ev.w_lst ?_
    | ((with_reducible refine Ev.len_and ?e ?_); (case e => exact rfl))
    | with_reducible refine Ev.w_isi ?_
    | ((with_reducible refine Ev.ex_ty (u := ?v) ?e ?_); (case e => first | exact rfl | assumption))
    | with_reducible refine Ev.w_bi1 ?_
    | with_reducible refine Ev.w_bi ?_
    | ((with_reducible refine Ev.wf_of (r := ?v) ?e ?_); (case e => exact rfl))
    | with_reducible refine Ev.nal_fr ?_
    | with_reducible refine Ev.s_cons ?_
    | with_reducible refine Ev.s_nil ?_
    | with_reducible refine Ev.s_ifs ?_
    | with_reducible refine Ev.s_asg ?_
    | with_reducible refine Ev.s_ret ?_
    | ((with_reducible refine Ev.s_retv (d := ?v) ?e ?_); (case e => exact rfl))
    | ((with_reducible refine Ev.s_reto (d := ?v) ?e ?_); (case e => exact rfl))
    | with_reducible refine Ev.s_retN ?_
    | with_reducible refine Ev.s_tgt ?_
    | with_reducible refine Ev.ex_sh ?_
    | ((with_reducible refine Ev.ex_asg (env' := ?v) ?e ?_); (case e => exact rfl))
    | with_reducible refine Ev.s_par ?_
    | ((with_reducible refine Ev.nal2 ?e ?_); (case e => exact rfl))
    | with_reducible refine Ev.s_exp ?_
    | with_reducible refine Ev.s_rai ?_
    | with_reducible refine Ev.s_tri ?_
    | with_reducible refine Ev.s_pas ?_
    | with_reducible refine Ev.w_sl ?_
    | with_reducible refine Ev.w_nop ?_
    | ((with_reducible refine Ev.ex_part (l := ?v) ?e ?_); (case e => exact rfl))
    | ((with_reducible refine Ev.wl_of (r := ?v) ?e ?_); (case e => exact rfl))
    | ((with_reducible refine Ev.s_frz (env' := ?v) ?e ?_); (case e => exact rfl))
    | with_reducible refine Ev.s_for ?_
    | with_reducible refine Ev.w_over ?_
    | ((with_reducible refine Ev.ex_over (ds := ?v) ?e ?f ?_); (case e => exact rfl); (case f => exact rfl))
    | with_reducible refine Ev.w_lc ?_
    | ((with_reducible refine Ev.w_glb (d := ?v) ?e ?_); (case e => exact rfl))
    | ((with_reducible refine Ev.bt_b ?_ ?_) <;> intro _))
namespace K01
open Ev PySem L2
section
variable {k : Nat} {ρ : Sto}
def isT2 (d : D) (n : Int) : Bool := match d with
  | .tup xs => decide ((xs.length : Int) = n)
  | _ => false
theorem s_law_is_tuple (d : D) (n : Int) (h : Pl d) : R (k+1) 28 [d, .int n] ρ = .ok ⟨.bl (isT2 d n), .sh⟩ ρ := by
  refine WR.eq (WR.run (n := 2) (b := b__law_is_tuple) rfl ?_)
  unfold b__law_is_tuple
  obtain ⟨t, ht⟩ := h
  cases d with
  | cst v => cases ht
  | tup xs => (repeat' (walk_at "ev1")) <;> exact ⟨rfl, rfl⟩
  | _ => (repeat' (walk_at "ev1")) <;> exact ⟨rfl, rfl⟩
theorem s_law_is_int (d : D) (h : Pl d) : R (k+1) 29 [d] ρ = .ok ⟨.bl (isI d), .sh⟩ ρ := by
  refine WR.eq (WR.run (n := 1) (b := b__law_is_int) rfl ?_)
  unfold b__law_is_int
  obtain ⟨t, ht⟩ := h
  cases d with
  | cst v => cases ht
  | _ => (repeat' (walk_at "ev1")) <;> exact ⟨rfl, rfl⟩
/-- within bounds, if a pair of ints -/
def SV (d : D) : Prop := Pv d ∧ ∀ a b : Int, d = .tup [.int a, .int b] → Bd 2000 a ∧ Bd 2000 b
theorem s_law_is_fr (d : D) (h : SV d) : R (k+2) 38 [d] ρ = .ok ⟨.bl (isFr d), .sh⟩ ρ := by
  obtain ⟨⟨hp, hx⟩, hb⟩ := h
  refine WR.eq (WR.run (n := 1) (b := b__law_is_fr) rfl ?_)
  unfold b__law_is_fr
  repeat' (walk_at "ev1")
  refine WR.of (s_law_is_tuple d 2 hp) ?_
  cases e : isT2 d 2 with
  | false =>
    have e0 : isFr d = false := by
      cases d with
      | tup xs =>
        match xs with
        | [] => rfl
        | [x] => cases x <;> rfl
        | [x, y] => cases e
        | x :: y :: z :: r => cases x <;> first | rfl | (cases y <;> rfl)
      | _ => rfl
    rw [e0]
    repeat' (walk_at "ev1")
    exact ⟨rfl, rfl⟩
  | true =>
    have : ∃ x y, d = .tup [x, y] := by
      cases d with
      | tup xs =>
        unfold isT2 at e
        have e := of_decide_eq_true e
        match xs, e with
        | [], e => cases e
        | [x], e => cases e
        | [x, y], e => exact ⟨x, y, rfl⟩
        | x :: y :: z :: r, e => simp at e; omega
      | _ => cases e
    obtain ⟨x, y, rfl⟩ := this
    have px := hx _ rfl x (by simp)
    have py := hx _ rfl y (by simp)
    repeat' (walk_at "ev1")
    refine WR.of (s_law_is_int x px) ?_
    cases ex : isI x with
    | false =>
      have e0 : isFr (.tup [x, y]) = false := by cases x <;> first | rfl | cases ex
      rw [e0]
      repeat' (walk_at "ev1")
      exact ⟨rfl, rfl⟩
    | true =>
    obtain ⟨i, rfl⟩ := isI_t ex
    repeat' (walk_at "ev1")
    refine WR.of (s_law_is_int y py) ?_
    cases ey : isI y with
    | false =>
      have e0 : isFr (.tup [.int i, y]) = false := by cases y <;> first | rfl | cases ey
      rw [e0]
      repeat' (walk_at "ev1")
      exact ⟨rfl, rfl⟩
    | true =>
    obtain ⟨j, rfl⟩ := isI_t ey
    obtain ⟨b1, b2⟩ := hb i j rfl
    have e0 : (decide (0 < j) && decide (((Nat.gcd i.natAbs j.natAbs : Nat) : Int) = 1)) = isFr (.tup [.int i, .int j]) := rfl
    rw [← e0]
    repeat' (walk_at "ev1")
    · rename_i hj
      rw [decide_eq_false (by omega : ¬ 0 < j)]
      exact ⟨rfl, rfl⟩
    · rename_i hj
      have ha : (if i < 0 then -i else i) = (i.natAbs : Int) := by split <;> omega
      have hj2 : j = (j.natAbs : Int) := by omega
      dsimp only
      rw [ha]
      have hz : i.natAbs * j.natAbs < 2 ^ 5000 := by
        have := b1.mul b2 (k := 5000) (by omega)
        unfold Bd at this
        rw [Int.natAbs_mul] at this
        exact this
      refine WR.of (a := ⟨.int (Nat.gcd i.natAbs j.natAbs : Nat), .sh⟩) (ρ := ρ) ?_ ?_
      · conv => lhs; rw [hj2]
        exact s_law_gcd k ρ _ _ hz
      repeat' (walk_at "ev1")
      rw [decide_eq_true (by omega : 0 < j)]
      exact ⟨by simp, rfl, rfl⟩
theorem s_law_is_chance (d : D) (h : SV d) : R (k+3) 39 [d] ρ = .ok ⟨.bl (isCh d), .sh⟩ ρ := by
  refine WR.eq (WR.run (n := 1) (b := b__law_is_chance) rfl ?_)
  unfold b__law_is_chance
  repeat' (walk_at "ev1")
  refine WR.of (s_law_is_fr d h) ?_
  repeat' (walk_at "ev1")
  · rename_i e
    obtain ⟨a, b, rfl, q⟩ := isFr_t e
    repeat' (walk_at "ev1")
    · rename_i e2
      refine ⟨?_, rfl⟩
      show _ = (⟨.bl (isFr _ && (decide (0 ≤ a) && decide (a ≤ b))), .sh⟩ : Rv)
      rw [e, decide_eq_true e2]
      rfl
    · rename_i e2
      refine ⟨?_, rfl⟩
      show _ = (⟨.bl (isFr _ && (decide (0 ≤ a) && decide (a ≤ b))), .sh⟩ : Rv)
      rw [e, decide_eq_false e2]
      rfl
  · rename_i e
    refine ⟨?_, rfl⟩
    rw [e]
    unfold isCh
    split
    · rw [e]; rfl
    · rfl
/-! what is told -/
theorem oke : okD 60 (.str ("" : Str)) = true := by decide +kernel
def toldF : List (Int × Nat) := [(0, 14), (1, 15), (2, 16), (3, 17), (4, 18), (5, 13), (7, 20)]
theorem told_ok {w : Int} {f : Nat} (hw : (w, f) ∈ toldF) {x y d : D} (h : R k f [x, y] ρ = .ok ⟨d, .sh⟩ ρ) : R (k+1) 41 [.int w, x, y] ρ = .ok ⟨.lst [d], .fr⟩ ρ := by
  refine WR.eq (WR.run (n := 5) (b := b__law_told) rfl ?_)
  unfold b__law_told
  simp only [toldF, List.mem_cons, Prod.mk.injEq, List.not_mem_nil, or_false] at hw
  rcases hw with ⟨rfl, rfl⟩ | ⟨rfl, rfl⟩ | ⟨rfl, rfl⟩ | ⟨rfl, rfl⟩ | ⟨rfl, rfl⟩ | ⟨rfl, rfl⟩ | ⟨rfl, rfl⟩ <;>
  · repeat' (walk_at "ev1")
    refine WR.of h ?_
    repeat' (walk_at "ev1")
    refine wc_eq oke oke ?_
    show TV ρ (.bl (eqv (.str "") (.str ""))) _ _
    rw [eqv_str]
    repeat' (walk_at "ev1")
    exact ⟨rfl, rfl⟩
def wordOf : Nat → Str
  | 0 => "number"
  | 1 => "index"
  | _ => "none"
theorem word_ne (c : Nat) : okD 60 (.str (wordOf c)) = true ∧ eqv (.str (wordOf c)) (.str "") = false := by
  match c with
  | 0 => exact ⟨by decide +kernel, by rw [eqv_str]; decide +kernel⟩
  | 1 => exact ⟨by decide +kernel, by rw [eqv_str]; decide +kernel⟩
  | c + 2 => exact ⟨show okD 60 (.str ("none" : Str)) = true by decide +kernel, by rw [eqv_str]; show decide (("none" : Str) = "") = false; decide +kernel⟩
theorem told_x {w : Int} {f : Nat} (hw : (w, f) ∈ toldF) {x y : D} {c : Nat} (hc : c < 3) (h : R k f [x, y] ρ = .exc ⟨c, none⟩ ρ) : R (k+1) 41 [.int w, x, y] ρ = .ok ⟨.str (wordOf c), .sh⟩ ρ := by
  have nd : ∀ env, hndR T.sub ⟨c, none⟩ env ρ [(0, Hb.set 4 (D.str "number")), (1, Hb.set 4 (D.str "index")), (2, Hb.set 4 (D.str "none"))] = .nx (env.set 4 (some ⟨false, .str (wordOf c)⟩)) ρ := fun env => by
    match c, hc with
    | 0, _ => rfl
    | 1, _ => rfl
    | 2, _ => rfl
  refine WR.eq (WR.run (n := 5) (b := b__law_told) rfl ?_)
  unfold b__law_told
  simp only [toldF, List.mem_cons, Prod.mk.injEq, List.not_mem_nil, or_false] at hw
  rcases hw with ⟨rfl, rfl⟩ | ⟨rfl, rfl⟩ | ⟨rfl, rfl⟩ | ⟨rfl, rfl⟩ | ⟨rfl, rfl⟩ | ⟨rfl, rfl⟩ | ⟨rfl, rfl⟩ <;>
  · repeat' (walk_at "ev1")
    refine WR.ofX h ?_
    rw [nd]
    show WS (exSs _ _ _ _ _ _ _) _ _ _ _ _
    repeat' (walk_at "ev1")
    refine wc_eq (word_ne c).1 oke ?_
    show TV ρ (.bl (eqv (.str (wordOf c)) (.str ""))) _ _
    rw [(word_ne c).2]
    repeat' (walk_at "ev1")
    exact ⟨rfl, rfl⟩
theorem told6 {x y d : D} (h : R k 19 [x] ρ = .ok ⟨d, .sh⟩ ρ) : R (k+1) 41 [.int 6, x, y] ρ = .ok ⟨.lst [d], .fr⟩ ρ := by
  refine WR.eq (WR.run (n := 5) (b := b__law_told) rfl ?_)
  unfold b__law_told
  repeat' (walk_at "ev1")
  refine WR.of h ?_
  repeat' (walk_at "ev1")
  refine wc_eq oke oke ?_
  show TV ρ (.bl (eqv (.str "") (.str ""))) _ _
  rw [eqv_str]
  repeat' (walk_at "ev1")
  exact ⟨rfl, rfl⟩
theorem told6x {x y : D} (h : R k 19 [x] ρ = .exc ⟨0, none⟩ ρ) : R (k+1) 41 [.int 6, x, y] ρ = .ok ⟨.str (wordOf 0), .sh⟩ ρ := by
  refine WR.eq (WR.run (n := 5) (b := b__law_told) rfl ?_)
  unfold b__law_told
  repeat' (walk_at "ev1")
  refine WR.ofX h ?_
  show WS (exSs _ _ _ _ _ _ _) _ _ _ _ _
  repeat' (walk_at "ev1")
  refine wc_eq (word_ne 0).1 oke ?_
  show TV ρ (.bl (eqv (.str (wordOf 0)) (.str ""))) _ _
  rw [(word_ne 0).2]
  repeat' (walk_at "ev1")
  exact ⟨rfl, rfl⟩
/-! the law's own sameness -/
inductive Dt : Nat → D → Prop
  | bl (n : Nat) (b : Bool) : Dt n (.bl b)
  | int (n : Nat) (i : Int) : Dt n (.int i)
  | str (n : Nat) (s : Str) (h : PyData.strOk s = true) : Dt n (.str s)
  | tup (n : Nat) (xs : List D) (h : xs.length ≤ 1000) (hx : ∀ x ∈ xs, Dt n x) : Dt (n + 1) (.tup xs)
  | lst (n : Nat) (xs : List D) (h : xs.length ≤ 1000) (hx : ∀ x ∈ xs, Dt n x) : Dt (n + 1) (.lst xs)
theorem lc_const {f : D → Sto → Res (Option D)} {X : Xc → Sto → Prop} {d : D} (l : List D) {QL : List D → Sto → Prop} (h : ∀ x ∈ l, WR (f x ρ) (fun o ρ' => o = some d ∧ ρ' = ρ) X) (q : QL (List.replicate l.length d) ρ) : WR (lcLoop f l ρ) QL X := by
  induction l generalizing QL with
  | nil => exact w_lc0 q
  | cons x r ih =>
    refine w_lc1 (WR.mono (h x (by simp)) (fun o ρ' e => ?_) fun _ _ q => q)
    obtain ⟨e1, e2⟩ := e
    subst e1
    subst e2
    exact ih (fun y hy => h y (List.mem_cons_of_mem _ hy)) q
theorem rng_mem {n : Nat} {x : D} (h : x ∈ rngD 0 n) : ∃ i : Nat, i < n ∧ x = .int i := by
  unfold rngD at h
  obtain ⟨i, hi, rfl⟩ := List.mem_map.mp h
  exact ⟨i, by simpa using hi, by rw [Int.zero_add]⟩
theorem atI_nat {xs : List D} {i : Nat} (h : i < xs.length) : atI xs (i : Int) = some xs[i] := by
  unfold atI ixN
  rw [if_pos (by omega), if_pos (by omega)]
  show xs[(i : Int).toNat]? = _
  rw [Int.toNat_natCast]
  exact List.getElem?_eq_getElem h
theorem same_seq {n : Nat} {xs : List D} {c : D} {rv : Rv} {env : Envr} (h : xs.length ≤ 1000) (ih : ∀ x ∈ xs, R n 25 [x, x] ρ = .ok ⟨.bl true, .sh⟩ ρ) (hc : c = .tup xs ∨ c = .lst xs) {Q : Rv → Sto → Prop} {X : Xc → Sto → Prop} (q : Q ⟨.bl true, .sh⟩ ρ) :
    WR (ev g (R n) (E.and (E.cmp .eq (E.bi1 .len (E.var 0)) (E.bi1 .len (E.var 1))) (E.bi1 .all (E.lc [2] (Tg.nm 2) (Iw.rng (Es.cons (E.bi1 .len (E.var 1)) Es.nil)) E.nop (E.call 25 (Es.cons (E.ix (E.var 0) (E.var 2)) (Es.cons (E.ix (E.var 1) (E.var 2)) Es.nil)))))) [some ⟨false, c⟩, some ⟨false, c⟩, none] ρ) Q X := by
  have hlen : bfn .len [der ρ c] = some ⟨.int xs.length, .sh⟩ := by rcases hc with rfl | rfl <;> rfl
  have hix : ∀ i : Nat, (hi : i < xs.length) → idx (der ρ c) (.int i) = some ⟨xs[i], .sh⟩ := fun i hi => by
    rcases hc with rfl | rfl
    · show (atI xs (i : Int)).map _ = _
      rw [atI_nat hi]; rfl
    · show (atI xs (i : Int)).map _ = _
      rw [atI_nat hi]; rfl
  repeat' (walk_at "ev1")
  refine wf_of hlen ?_
  repeat' (walk_at "ev1")
  refine wf_of hlen ?_
  repeat' (walk_at "ev1")
  · refine w_rng1 ?_
    repeat' (walk_at "ev1")
    refine wf_of hlen ?_
    repeat' (walk_at "ev1")
    refine ⟨by omega, ?_, ?_⟩
    · show (rngD 0 xs.length).length ≤ sizeLine
      unfold rngD
      rw [List.length_map, List.length_range]
      exact Nat.le_trans h (by decide)
    · show WR (lcLoop _ (rngD 0 xs.length) ρ) _ _
      refine lc_const (d := .bl true) _ (fun x hx => ?_) ?_
      · obtain ⟨i, hi, rfl⟩ := rng_mem hx
        refine w_turn0 rfl ?_
        repeat' (walk_at "ev1")
        refine wi_of (hix i hi) ?_
        repeat' (walk_at "ev1")
        refine wi_of (hix i hi) ?_
        repeat' (walk_at "ev1")
        refine WR.of (ih _ (List.getElem_mem hi)) ?_
        repeat' (walk_at "ev1")
        exact ⟨rfl, rfl⟩
      · have e : ∀ m : Nat, List.replicate m (D.bl true) = (List.replicate m true).map D.bl := fun m => by rw [List.map_replicate]
        rw [e]
        refine wf_all ?_
        have e2 : ∀ m : Nat, (List.replicate m true).all id = true := fun m => by induction m with
          | zero => rfl
          | succ m ih => rw [List.replicate_succ, List.all_cons, ih]; rfl
        rw [e2]
        exact q
  · rename_i z
    exact absurd rfl z
theorem s_same : ∀ (n : Nat) (d : D), Dt n d → R (n+1) 25 [d, d] ρ = .ok ⟨.bl true, .sh⟩ ρ
  | n, _, .bl _ b => by
    refine WR.eq (WR.run (n := 3) (b := b__law_same) rfl ?_)
    unfold b__law_same
    repeat' (walk_at "ev1")
    refine wc_eq rfl rfl ?_
    exact ⟨by simp, by cases b <;> rfl, rfl⟩
  | n, _, .int _ i => by
    refine WR.eq (WR.run (n := 3) (b := b__law_same) rfl ?_)
    unfold b__law_same
    repeat' (walk_at "ev1")
    refine ⟨?_, rfl⟩
    rw [decide_eq_true rfl]
  | n, _, .str _ s h => by
    refine WR.eq (WR.run (n := 3) (b := b__law_same) rfl ?_)
    unfold b__law_same
    repeat' (walk_at "ev1")
    refine wc_eq h h ?_
    refine ⟨by simp, ?_, rfl⟩
    show (⟨.bl (eqv (.str s) (.str s)), .sh⟩ : Rv) = _
    rw [eqv_str, decide_eq_true rfl]
  | _, _, .tup n xs h hx => by
    have ih : ∀ x ∈ xs, R (n + 1) 25 [x, x] ρ = .ok ⟨.bl true, .sh⟩ ρ := fun x hm => s_same n x (hx x hm)
    refine WR.eq (WR.run (n := 3) (b := b__law_same) rfl ?_)
    unfold b__law_same
    generalize hex : (E.and (E.cmp .eq (E.bi1 .len (E.var 0)) (E.bi1 .len (E.var 1))) (E.bi1 .all (E.lc [2] (Tg.nm 2) (Iw.rng (Es.cons (E.bi1 .len (E.var 1)) Es.nil)) E.nop (E.call 25 (Es.cons (E.ix (E.var 0) (E.var 2)) (Es.cons (E.ix (E.var 1) (E.var 2)) Es.nil)))))) = ex
    repeat' (walk_at "ev1")
    subst hex
    exact same_seq (rv := ⟨.non, .sh⟩) (env := []) h ih (.inl rfl) ⟨by simp, rfl, rfl⟩
  | _, _, .lst n xs h hx => by
    have ih : ∀ x ∈ xs, R (n + 1) 25 [x, x] ρ = .ok ⟨.bl true, .sh⟩ ρ := fun x hm => s_same n x (hx x hm)
    refine WR.eq (WR.run (n := 3) (b := b__law_same) rfl ?_)
    unfold b__law_same
    generalize hex : (E.and (E.cmp .eq (E.bi1 .len (E.var 0)) (E.bi1 .len (E.var 1))) (E.bi1 .all (E.lc [2] (Tg.nm 2) (Iw.rng (Es.cons (E.bi1 .len (E.var 1)) Es.nil)) E.nop (E.call 25 (Es.cons (E.ix (E.var 0) (E.var 2)) (Es.cons (E.ix (E.var 1) (E.var 2)) Es.nil)))))) = ex
    repeat' (walk_at "ev1")
    subst hex
    exact same_seq (rv := ⟨.non, .sh⟩) (env := []) h ih (.inr rfl) ⟨by simp, rfl, rfl⟩
end
end K01
end

section
set_option Elab.async false
set_option linter.all false
set_option maxRecDepth 100000
set_option exponentiation.threshold 100
local macro_rules
  | `(tactic| walk_at "ev1") => `(tactic| first
    | with_reducible refine Ev.w_con ?_
    | ((with_reducible refine Ev.w_sh (d := ?v) ?e ?_); (case e => exact rfl))
    | ((with_reducible refine Ev.w_al (d := ?v) ?e ?_); (case e => exact rfl))
    | with_reducible refine Ev.nal_sh ?_
    | with_reducible refine Ev.w_cons ?_
    | with_reducible refine Ev.w_nil ?_
    | with_reducible refine Ev.w_bin ?_
    | with_reducible refine Ev.wb_add ?_
    | with_reducible refine Ev.wb_sub ?_
    | with_reducible refine Ev.wb_mul ?_ ?_
    | with_reducible refine Ev.wb_fdiv ?_ ?_
    | with_reducible refine Ev.wb_mod ?_ ?_
    | with_reducible refine Ev.w_ix ?_
    | ((with_reducible refine Ev.wi_of (r := ?v) ?e ?_); (case e => exact rfl))
    | with_reducible refine Ev.w_call ?_
    | with_reducible refine Ev.w_callk ?_
    | ((with_reducible refine Ev.ex_perm (xs := ?v) ?e ?_); (case e => exact rfl))
    | with_reducible refine Ev.w_cmp ?_
    | with_reducible refine Ev.w_chn ?_
    | with_reducible refine Ev.wc_lt ?_
    | with_reducible refine Ev.wc_le ?_
    | with_reducible refine Ev.wc_gt ?_
    | with_reducible refine Ev.wc_ge ?_
    | with_reducible refine Ev.wc_eqI ?_
    | with_reducible refine Ev.wc_neI ?_
    | ((with_reducible refine Ev.wc_isN (b := ?v) ?e ?_); (case e => exact rfl))
    | ((with_reducible refine Ev.wc_notN (b := ?v) ?e ?_); (case e => exact rfl))
    | with_reducible refine Ev.w_andE ?_
    | with_reducible refine Ev.w_orE ?_
    | with_reducible refine Ev.w_ite ?_
    | ((with_reducible refine Ev.tv_b' (b := ?v) ?e ?_); (case e => exact rfl))
    | ((with_reducible refine Ev.bt_t' ?e ?_); (case e => exact rfl))
    | ((with_reducible refine Ev.bt_f' ?e ?_); (case e => exact rfl))
    | with_reducible refine Ev.bt_n ?_
    | ((with_reducible refine Ev.bt_d ?_ ?_) <;> intro _)
    | with_reducible refine Ev.w_not ?_
    | ((with_reducible refine Ev.ex_tru (b := ?v) ?e ?_); (case e => exact rfl))
    | with_reducible refine Ev.w_neg ?_
    | ((with_reducible refine Ev.ex_int (i := ?v) ?e ?_); (case e => exact rfl))
    | with_reducible refine Ev.w_tup ?_
    | with_reducible refine Ev.w_lst ?_
    | ((with_reducible refine Ev.len_and ?e ?_); (case e => exact rfl))
    | with_reducible refine Ev.w_isi ?_
    | ((with_reducible refine Ev.ex_ty (u := ?v) ?e ?_); (case e => first | exact rfl | assumption))
    | with_reducible refine Ev.w_bi1 ?_
    | with_reducible refine Ev.w_bi ?_
    | ((with_reducible refine Ev.wf_of (r := ?v) ?e ?_); (case e => exact rfl))
    | with_reducible refine Ev.nal_fr ?_
    | with_reducible refine Ev.s_cons ?_
    | with_reducible refine Ev.s_nil ?_
    | with_reducible refine Ev.s_ifs ?_
    | with_reducible refine Ev.s_asg ?_
    | with_reducible refine Ev.s_ret ?_
    | ((with_reducible refine Ev.s_retv (d := ?v) ?e ?_); (case e => exact rfl))
    | ((with_reducible refine Ev.s_reto (d := ?v) ?e ?_); (case e => exact rfl))
    | with_reducible refine Ev.s_retN ?_
    | with_reducible refine Ev.s_tgt ?_
    | with_reducible refine Ev.ex_sh ?_
    | ((with_reducible refine Ev.ex_asg (env' := ?v) ?e ?_); (case e => exact rfl))
    | with_reducible refine Ev.s_par ?_
    | ((with_reducible refine Ev.nal2 ?e ?_); (case e => exact rfl))
    | with_reducible refine Ev.s_exp ?_
    | with_reducible refine Ev.s_rai ?_
    | with_reducible refine Ev.s_tri ?_
    | with_reducible refine Ev.s_pas ?_
    | with_reducible refine Ev.w_sl ?_
    | with_reducible refine Ev.w_nop ?_
    | ((with_reducible refine Ev.ex_part (l := ?v) ?e ?_); (case e => exact rfl))
    | ((with_reducible refine Ev.wl_of (r := ?v) ?e ?_); (case e => exact rfl))
    | ((with_reducible refine Ev.s_frz (env' := ?v) ?e ?_); (case e => exact rfl))
    | with_reducible refine Ev.s_for ?_
    | with_reducible refine Ev.w_over ?_
    | ((with_reducible refine Ev.ex_over (ds := ?v) ?e ?f ?_); (case e => exact rfl); (case f => exact rfl))
    | with_reducible refine Ev.w_lc ?_
    | ((with_reducible refine Ev.w_glb (d := ?v) ?e ?_); (case e => exact rfl))
    | ((with_reducible refine Ev.bt_b ?_ ?_) <;> intro _))
namespace K01
open Ev PySem L2
section
variable {k : Nat} {ρ : Sto}
/-- the draws: a list of ints in the first cell -/
def Good (ρ : Sto) : Prop := ∃ ns : List Int, ρ = [.lst (ns.map D.int)]
theorem okDs_ints (n : Nat) : ∀ ns : List Int, okDs n (ns.map D.int) = true
  | [] => by simp [okDs]
  | i :: r => by
    rw [List.map_cons]
    unfold okDs
    rw [okDs_ints n r]
    unfold okD
    rfl
theorem eqv_nil (xs : List D) : eqv (.lst xs) (.lst []) = xs.isEmpty := by
  show PyData.eqv (.list (toPys xs)) (.list []) = _
  cases xs with
  | nil => simp only [toPys, PyData.eqv, PyData.eqvAll]; rfl
  | cons x r => simp only [toPys, PyData.eqv, PyData.eqvAll]; rfl
theorem s_take {m : Int} (hm : 0 < m) (hg : Good ρ) : WR (R (k+1) 23 [.loc 0, .int m] ρ) (fun r ρ' => Good ρ' ∧ ∃ v : Int, r = ⟨.int v, .sh⟩ ∧ 0 ≤ v ∧ v < m) X0 := by
  obtain ⟨ns, rfl⟩ := hg
  refine WR.run (n := 2) (b := b__law_take) rfl ?_
  unfold b__law_take
  repeat' (walk_at "ev1")
  refine wc_ne ?_ rfl ?_
  · show okD 60 (.lst (ns.map D.int)) = true
    unfold okD
    exact okDs_ints 59 ns
  · show TV _ (.bl (!eqv (.lst (ns.map D.int)) (.lst []))) _ _
    rw [eqv_nil]
    cases hn : ns.getLast? with
    | none =>
      rw [List.getLast?_eq_none_iff] at hn
      subst hn
      repeat' (walk_at "ev1")
      exact ⟨⟨[], rfl⟩, 0, rfl, by omega, hm⟩
    | some last =>
      have he : (ns.map D.int).isEmpty = false := by
        cases ns with
        | nil => cases hn
        | cons a r => rfl
      rw [he]
      repeat' (walk_at "ev1")
      refine w_pop ?_
      repeat' (walk_at "ev1")
      refine ⟨0, ns.map D.int, .int last, rfl, rfl, by rw [List.getLast?_map, hn]; rfl, ?_⟩
      repeat' (walk_at "ev1")
      · refine ⟨⟨ns.dropLast, by rw [List.map_dropLast]; rfl⟩, _, rfl, ?_, ?_⟩
        · rw [Int.fmod_eq_emod_of_nonneg _ (by omega)]
          exact Int.emod_nonneg _ (by omega)
        · rw [Int.fmod_eq_emod_of_nonneg _ (by omega)]
          exact Int.emod_lt_of_pos _ hm
      · omega
theorem s_pick {xs : List D} (hx : xs ≠ []) (hg : Good ρ) : WR (R (k+2) 24 [.loc 0, .lst xs] ρ) (fun r ρ' => Good ρ' ∧ ∃ d ∈ xs, r = ⟨d, .sh⟩) X0 := by
  refine WR.run (n := 2) (b := b__law_pick) rfl ?_
  unfold b__law_pick
  repeat' (walk_at "ev1")
  have hl : 0 < xs.length := by
    cases xs with
    | nil => exact absurd rfl hx
    | cons => simp
  refine WR.mono (s_take (m := xs.length) (by omega) hg) (fun r ρ' ⟨g', v, e, h0, h1⟩ => ?_) fun _ _ q => q
  subst e
  obtain ⟨m, rfl⟩ : ∃ m : Nat, v = m := ⟨v.toNat, by omega⟩
  have hv : m < xs.length := by omega
  refine ⟨⟨xs[m], .sh⟩, ?_, ?_⟩
  · show (atI xs (m : Int)).map _ = _
    rw [atI_nat hv]
    rfl
  · exact ⟨by simp, g', _, List.getElem_mem hv, rfl⟩
theorem s_stir {s j : Int} (h0 : 0 ≤ s) (h1 : s < 2 ^ 40) (j0 : 0 ≤ j) (j1 : j < 2 ^ 40) : WR (R (k+1) 22 [.int s, .int j] ρ) (fun r ρ' => ρ' = ρ ∧ ∃ v : Int, r = ⟨.int v, .sh⟩) X0 := by
  refine WR.run (n := 3) (b := b__law_stir) rfl ?_
  unfold b__law_stir
  have bs : Bd 40 s := by unfold Bd; omega
  have bj : Bd 40 j := by unfold Bd; omega
  have c : ∀ i : Int, 0 ≤ i → i < 2 ^ 40 → Bd 40 i := fun i h1 h2 => by unfold Bd; omega
  have bm : ∀ i : Int, Bd 40 (i.fmod 2147483353) := fun i => by
    have e := Int.fmod_eq_emod_of_nonneg i (b := 2147483353) (by omega)
    have := Int.emod_nonneg i (b := 2147483353) (by omega)
    have := Int.emod_lt_of_pos i (b := 2147483353) (by omega)
    unfold Bd
    omega
  repeat' (walk_at "ev1")
  · exact ⟨rfl, _, rfl⟩
  · omega
  · exact (c _ (by omega) (by omega)).ok bj (by omega) (by omega)
  · exact bs.ok (c _ (by omega) (by omega)) (by omega) (by omega)
  · exact (bm _).ok (c _ (by omega) (by omega)) (by omega) (by omega)
  · exact (bm _).ok (bm _) (by omega) (by omega)
  · omega
  · exact (c _ (by omega) (by omega)).ok bj (by omega) (by omega)
  · exact ((c 6151 (by omega) (by omega)).mul bj (k := 80) (by omega)).ok bj (by omega) (by omega)
  · exact (c _ (by omega) (by omega)).ok bj (by omega) (by omega)
  · exact bs.ok (c _ (by omega) (by omega)) (by omega) (by omega)
theorem cut_ints (ns : List Int) (hi : Option Int) : ∃ ms : List Int, cutD (ns.map D.int) none hi = ms.map D.int ∧ ms.length ≤ ns.length := by
  unfold cutD
  refine ⟨(ns.drop (HT.sIx (ns.map D.int).length 0 none)).take (HT.sIx (ns.map D.int).length (ns.map D.int).length hi - HT.sIx (ns.map D.int).length 0 none), by rw [List.map_take, List.map_drop], ?_⟩
  rw [List.length_take, List.length_drop]
  omega
theorem map_snoc (L : List Int) (v : Int) : L.map D.int ++ [.int v] = (L ++ [v]).map D.int := by rw [List.map_append]; rfl
theorem s_draws (ns : List Int) (hn : ns.length ≤ 63) : WR (R (k+2) 21 [.ro (ns.map D.int), .int 900] ρ) (fun r ρ' => ρ' = ρ ∧ ∃ L : List Int, r = ⟨.lst (L.map D.int), .fr⟩) X0 := by
  have hlen : ((ns.map D.int).length : Int) ≤ 63 := by rw [List.length_map]; omega
  refine WR.run (n := 9) (b := b__law_draws) rfl ?_
  unfold b__law_draws
  repeat' (walk_at "ev1")
  rotate_left
  · have : Bd 40 ((ns.map D.int).length : Int) := by unfold Bd; omega
    exact (show Bd 40 53 by unfold Bd; omega).ok this (by omega) (by omega)
  refine w_enum ?_
  repeat' (walk_at "ev1")
  obtain ⟨ms, hms, hml⟩ := cut_ints ns (some 63)
  refine ⟨cutD (ns.map D.int) none (some 63), rfl, ?_⟩
  rw [hms]
  refine s_forI (fun i env ρ' => ρ' = ρ ∧ ∃ (L : List Int) (s : Int) (o4 o5 o6 o7 o8 : Option Slot), env = [some ⟨false, .ro (ns.map D.int)⟩, some ⟨false, .int 900⟩, some ⟨true, .lst (L.map D.int)⟩, some ⟨false, .int s⟩, o4, o5, o6, o7, o8] ∧ L.length ≤ 61 * i ∧ 0 ≤ s ∧ s < 2 ^ 40)
    ⟨rfl, [], _, none, none, none, none, none, rfl, by simp, by omega, by omega⟩ ?_ ?_
  · rintro i d env ρ' hd ⟨rfl, L, s, o4, o5, o6, o7, o8, rfl, hL, s0, s1⟩
    rw [enum_get, Option.map_eq_some_iff] at hd
    obtain ⟨d', e1, rfl⟩ := hd
    rw [List.getElem?_map, Option.map_eq_some_iff] at e1
    obtain ⟨cell, e2, rfl⟩ := e1
    have hi : i < 63 := by
      have := (List.getElem?_eq_some_iff.mp e2).1
      omega
    have bs : Bd 40 s := by unfold Bd; omega
    refine ⟨_, rfl, ?_⟩
    have sr : ∀ x : Int, 0 ≤ x.fmod 2147483269 ∧ x.fmod 2147483269 < 2 ^ 40 := fun x => by
      have e := Int.fmod_eq_emod_of_nonneg x (b := 2147483269) (by omega)
      have := Int.emod_nonneg x (b := 2147483269) (by omega)
      have := Int.emod_lt_of_pos x (b := 2147483269) (by omega)
      omega
    repeat' (walk_at "ev1")
    · refine wb_pow ?_ (by omega)
      repeat' (walk_at "ev1")
      · refine s_app rfl ?_
        repeat' (walk_at "ev1")
        · refine WR.mono (s_stir (sr _).1 (sr _).2 (by omega) (by omega)) (fun r ρ' ⟨eρ, v, e⟩ => ?_) fun _ _ q => False.elim q
          subst e
          subst eρ
          repeat' (walk_at "ev1")
          · refine ⟨by rw [List.length_map]; exact Nat.lt_of_le_of_lt hL (Nat.lt_of_lt_of_le (by omega : 61 * i < 5000) (by decide)), ?_⟩
            repeat' (walk_at "ev1")
            rw [map_snoc]
            exact ⟨rfl, _, _, _, _, _, _, _, rfl, by rw [List.length_append]; show _ + 1 ≤ _; omega, (sr _).1, (sr _).2⟩
          · omega
      · refine wb_pow ?_ (by omega)
        repeat' (walk_at "ev1")
        refine w_rng1 ?_
        repeat' (walk_at "ev1")
        refine ⟨by omega, ?_⟩
        have hl : (rngD 0 (60 : Int).toNat).length = 60 := by unfold rngD; simp
        refine s_forI (fun j env ρ2 => ρ2 = ρ' ∧ ∃ (L2 : List Int) (s : Int) (o4 o5 : Option Slot) (rest : Int) (o7 o8 : Option Slot), env = [some ⟨false, .ro (ns.map D.int)⟩, some ⟨false, .int 900⟩, some ⟨true, .lst (L2.map D.int)⟩, some ⟨false, .int s⟩, o4, o5, some ⟨false, .int rest⟩, o7, o8] ∧ L2.length ≤ 61 * i + j ∧ 0 ≤ s ∧ s < 2 ^ 40)
          ⟨rfl, L, _, _, _, _, _, _, rfl, by omega, (sr _).1, (sr _).2⟩ ?_ ?_
        · rintro j d env ρ2 hd ⟨rfl, L2, s2, p4, p5, rest, p7, p8, rfl, hL2, q0, q1⟩
          have hj : j < 60 := by rw [← hl]; exact (List.getElem?_eq_some_iff.mp hd).1
          refine ⟨_, rfl, ?_⟩
          repeat' (walk_at "ev1")
          · refine s_app rfl ?_
            repeat' (walk_at "ev1")
            · refine ⟨by rw [List.length_map]; exact Nat.lt_of_le_of_lt hL2 (Nat.lt_of_lt_of_le (by omega : 61 * i + j < 5000) (by decide)), ?_⟩
              repeat' (walk_at "ev1")
              · rw [map_snoc]
                exact ⟨rfl, _, _, _, _, _, _, _, rfl, by rw [List.length_append]; show _ + 1 ≤ _; omega, q0, q1⟩
              · exact div_ok (by omega) (show Bd 5000 5040 from (show Bd 40 5040 by unfold Bd; omega).mono (by omega))
            · omega
          · exact ⟨rfl, _, _, _, _, _, _, _, rfl, by omega, q0, q1⟩
        · rintro env ρ2 ⟨rfl, L2, s2, p4, p5, rest, p7, p8, rfl, hL2, q0, q1⟩
          rw [hl] at hL2
          repeat' (walk_at "ev1")
          exact ⟨rfl, _, _, _, _, _, _, _, rfl, by omega, q0, q1⟩
    · omega
    · have : Bd 40 (i : Int) := by unfold Bd; omega
      exact (show Bd 40 7 by unfold Bd; omega).ok (by simpa using this) (by omega) (by omega)
    · omega
    · exact bs.ok (show Bd 40 71 by unfold Bd; omega) (by omega) (by omega)
  · rintro env ρ' ⟨rfl, L, s, o4, o5, o6, o7, o8, rfl, hL, s0, s1⟩
    rw [enum_len, List.length_map] at hL
    repeat' (walk_at "ev1")
    refine w_rng1 ?_
    repeat' (walk_at "ev1")
    refine ⟨by rw [List.length_map]; omega, ?_⟩
    refine s_forI (fun i env ρ2 => ρ2 = ρ' ∧ ∃ (L : List Int) (o4 o5 o6 o7 o8 : Option Slot), env = [some ⟨false, .ro (ns.map D.int)⟩, some ⟨false, .int 900⟩, some ⟨true, .lst (L.map D.int)⟩, some ⟨false, .int s⟩, o4, o5, o6, o7, o8] ∧ L.length ≤ 5000 + i)
      ⟨rfl, L, _, _, _, _, _, rfl, by omega⟩ ?_ ?_
    · rintro i d env ρ2 hd ⟨rfl, L2, p4, p5, p6, p7, p8, rfl, hL2⟩
      have hi : i < 900 := by
        have := (List.getElem?_eq_some_iff.mp hd).1
        unfold rngD at this
        rw [List.length_map, List.length_range] at this
        omega
      obtain ⟨hm⟩ : Nonempty (d = .int (i : Int)) := by
        unfold rngD at hd
        rw [List.getElem?_map, Option.map_eq_some_iff] at hd
        obtain ⟨a, ha, rfl⟩ := hd
        have ha := List.getElem?_range (n := (900 - ((L.map D.int).length : Int)).toNat) (i := i) (by
          have := (List.getElem?_eq_some_iff.mp ha).1
          rw [List.length_range] at this
          exact this) ▸ ha
        cases ha
        rw [Int.zero_add]
        exact ⟨rfl⟩
      subst hm
      refine ⟨_, rfl, ?_⟩
      refine s_cons (s_app rfl ?_)
      repeat' (walk_at "ev1")
      · refine WR.mono (s_stir s0 s1 (by omega) (by omega)) (fun r ρ3 ⟨eρ, v, e⟩ => ?_) fun _ _ q => False.elim q
        subst e
        subst eρ
        repeat' (walk_at "ev1")
        · refine ⟨by rw [List.length_map]; exact Nat.lt_of_le_of_lt hL2 (Nat.lt_of_lt_of_le (by omega : 5000 + i < 6000) (by decide)), ?_⟩
          repeat' (walk_at "ev1")
          rw [map_snoc]
          exact ⟨rfl, _, _, _, _, _, _, rfl, by rw [List.length_append]; show _ + 1 ≤ _; omega⟩
        · omega
    · rintro env ρ2 ⟨rfl, L2, p4, p5, p6, p7, p8, rfl, hL2⟩
      repeat' (walk_at "ev1")
      refine s_rev rfl ?_
      repeat' (walk_at "ev1")
      exact ⟨rfl, L2.reverse, by rw [List.map_reverse]⟩
end
end K01
end

section
set_option Elab.async false
set_option linter.all false
set_option maxRecDepth 100000
set_option exponentiation.threshold 100
local macro_rules
  | `(tactic| walk_at "ev1") => `(tactic| first
    | with_reducible refine Ev.w_con ?_
    | ((with_reducible refine Ev.w_sh (d := ?v) ?e ?_); (case e => exact rfl))
    | ((with_reducible refine Ev.w_al (d := ?v) ?e ?_); (case e => exact rfl))
    | with_reducible refine Ev.nal_sh ?_
    | with_reducible refine Ev.w_cons ?_
    | with_reducible refine Ev.w_nil ?_
    | with_reducible refine Ev.w_bin ?_
    | with_reducible refine Ev.wb_add ?_
    | with_reducible refine Ev.wb_sub ?_
    | with_reducible refine Ev.wb_mul ?_ ?_
    | with_reducible refine Ev.wb_fdiv ?_ ?_
    | with_reducible refine Ev.wb_mod ?_ ?_
    | ((with_reducible refine Ev.wb_of (r := ?v) ?e ?_); (case e => exact rfl))
    | with_reducible refine Ev.w_ix ?_
    | ((with_reducible refine Ev.wi_of (r := ?v) ?e ?_); (case e => exact rfl))
    | with_reducible refine Ev.w_call ?_
    | with_reducible refine Ev.w_callk ?_
    | ((with_reducible refine Ev.ex_perm (xs := ?v) ?e ?_); (case e => exact rfl))
    | with_reducible refine Ev.w_cmp ?_
    | with_reducible refine Ev.w_chn ?_
    | with_reducible refine Ev.wc_lt ?_
    | with_reducible refine Ev.wc_le ?_
    | with_reducible refine Ev.wc_gt ?_
    | with_reducible refine Ev.wc_ge ?_
    | with_reducible refine Ev.wc_eqI ?_
    | with_reducible refine Ev.wc_neI ?_
    | ((with_reducible refine Ev.wc_isN (b := ?v) ?e ?_); (case e => exact rfl))
    | ((with_reducible refine Ev.wc_notN (b := ?v) ?e ?_); (case e => exact rfl))
    | with_reducible refine Ev.w_andE ?_
    | with_reducible refine Ev.w_orE ?_
    | with_reducible refine Ev.w_ite ?_
    | ((with_reducible refine Ev.tv_b' (b := ?v) ?e ?_); (case e => exact rfl))
    | ((with_reducible refine Ev.bt_t' ?e ?_); (case e => exact rfl))
    | ((with_reducible refine Ev.bt_f' ?e ?_); (case e => exact rfl))
    | with_reducible refine Ev.bt_n ?_
    | ((with_reducible refine Ev.bt_d ?_ ?_) <;> intro _)
    | with_reducible refine Ev.w_not ?_
    | ((with_reducible refine Ev.ex_tru (b := ?v) ?e ?_); (case e => exact rfl))
    | with_reducible refine Ev.w_neg ?_
    | ((with_reducible refine Ev.ex_int (i := ?v) ?e ?_); (case e => exact rfl))
    | with_reducible refine Ev.w_tup ?_
    | with_reducible refine Ev.w_lst ?_
    | ((with_reducible refine Ev.len_and ?e ?_); (case e => exact rfl))
    | with_reducible refine Ev.w_isi ?_
    | ((with_reducible refine Ev.ex_ty (u := ?v) ?e ?_); (case e => first | exact rfl | assumption))
    | with_reducible refine Ev.w_bi1 ?_
    | with_reducible refine Ev.w_bi ?_
    | ((with_reducible refine Ev.wf_of (r := ?v) ?e ?_); (case e => exact rfl))
    | with_reducible refine Ev.nal_fr ?_
    | with_reducible refine Ev.s_cons ?_
    | with_reducible refine Ev.s_nil ?_
    | with_reducible refine Ev.s_ifs ?_
    | with_reducible refine Ev.s_asg ?_
    | with_reducible refine Ev.s_ret ?_
    | ((with_reducible refine Ev.s_retv (d := ?v) ?e ?_); (case e => exact rfl))
    | ((with_reducible refine Ev.s_reto (d := ?v) ?e ?_); (case e => exact rfl))
    | with_reducible refine Ev.s_retN ?_
    | with_reducible refine Ev.s_tgt ?_
    | with_reducible refine Ev.ex_sh ?_
    | ((with_reducible refine Ev.ex_asg (env' := ?v) ?e ?_); (case e => exact rfl))
    | with_reducible refine Ev.s_par ?_
    | ((with_reducible refine Ev.nal2 ?e ?_); (case e => exact rfl))
    | with_reducible refine Ev.s_exp ?_
    | with_reducible refine Ev.s_rai ?_
    | with_reducible refine Ev.s_tri ?_
    | with_reducible refine Ev.s_pas ?_
    | with_reducible refine Ev.w_sl ?_
    | with_reducible refine Ev.w_nop ?_
    | ((with_reducible refine Ev.ex_part (l := ?v) ?e ?_); (case e => exact rfl))
    | ((with_reducible refine Ev.wl_of (r := ?v) ?e ?_); (case e => exact rfl))
    | ((with_reducible refine Ev.s_frz (env' := ?v) ?e ?_); (case e => exact rfl))
    | with_reducible refine Ev.s_for ?_
    | with_reducible refine Ev.w_over ?_
    | ((with_reducible refine Ev.ex_over (ds := ?v) ?e ?f ?_); (case e => exact rfl); (case f => exact rfl))
    | with_reducible refine Ev.w_lc ?_
    | ((with_reducible refine Ev.w_glb (d := ?v) ?e ?_); (case e => exact rfl))
    | ((with_reducible refine Ev.bt_b ?_ ?_) <;> intro _))
namespace K01
open Ev PySem L2
section
variable {k : Nat} {ρ : Sto}
theorem s_wide (hg : Good ρ) : WR (R (k+4) 42 [.loc 0] ρ) (fun r ρ' => Good ρ' ∧ ∃ a b : Int, r = ⟨pd (a, b), .sh⟩ ∧ IsFr a b ∧ Bd 50 a ∧ Bd 50 b) X0 := by
  refine WR.run sz42 ?_
  unfold b__law_wide
  repeat' (walk_at "ev1")
  refine WR.mono (s_take (by omega) hg) (fun r ρ1 ⟨g1, v1, e, a0, a1⟩ => ?_) fun _ _ q => q
  subst e
  repeat' (walk_at "ev1")
  rotate_left
  · exact (show Bd 40 5040 by unfold Bd; omega).ok (show Bd 40 4999 by unfold Bd; omega) (by omega) (by omega)
  refine WR.mono (s_pick (by simp) g1) (fun r ρ2 ⟨g2, d, hd, e⟩ => ?_) fun _ _ q => q
  subst e
  have : ∃ w : Int, d = .int w ∧ 0 ≤ w ∧ w ≤ 5040 * 4999 := by
    simp only [List.mem_cons, List.not_mem_nil, or_false] at hd
    rcases hd with rfl | rfl | rfl | rfl
    · exact ⟨_, rfl, by omega, by omega⟩
    · exact ⟨_, rfl, by omega, by omega⟩
    · exact ⟨_, rfl, by omega, by omega⟩
    · exact ⟨_, rfl, by omega, by omega⟩
  obtain ⟨w, rfl, w0, w1⟩ := this
  repeat' (walk_at "ev1")
  rotate_left
  · exact (show Bd 40 v1 by unfold Bd; omega).ok (show Bd 40 w by unfold Bd; omega) (by omega) (by omega)
  refine WR.mono (s_take (by omega) g2) (fun r ρ3 ⟨g3, v2, e, b0, b1⟩ => ?_) fun _ _ q => q
  subst e
  have bt : Bd 42 (v1 * w + v2) := ((show Bd 13 v1 by unfold Bd; omega).mul (show Bd 28 w by unfold Bd; omega) (k := 41) (by omega)).add (show Bd 13 v2 by unfold Bd; omega) (by omega) (by omega)
  repeat' (walk_at "ev1")
  refine WR.mono (s_take (by omega) g3) (fun r ρ4 ⟨g4, v3, e, c0, c1⟩ => ?_) fun _ _ q => q
  subst e
  repeat' (walk_at "ev1")
  refine WR.mono (s_pick (by simp) g4) (fun r ρ5 ⟨g5, d, hd, e⟩ => ?_) fun _ _ q => q
  subst e
  have : ∃ w : Int, d = .int w ∧ 0 ≤ w ∧ w ≤ 19683 := by
    simp only [List.mem_cons, List.not_mem_nil, or_false] at hd
    rcases hd with rfl | rfl | rfl | rfl
    · exact ⟨_, rfl, by omega, by omega⟩
    · exact ⟨_, rfl, by omega, by omega⟩
    · exact ⟨_, rfl, by omega, by omega⟩
    · exact ⟨_, rfl, by omega, by omega⟩
  obtain ⟨w', rfl, w0', w1'⟩ := this
  repeat' (walk_at "ev1")
  rotate_left
  · exact (show Bd 40 v3 by unfold Bd; omega).ok (show Bd 40 w' by unfold Bd; omega) (by omega) (by omega)
  have bb : Bd 42 (1 + v3 * w') := (show Bd 13 1 by unfold Bd; omega).add ((show Bd 13 v3 by unfold Bd; omega).mul (show Bd 28 w' by unfold Bd; omega) (k := 41) (by omega)) (by omega) (by omega)
  have b0' : 0 < 1 + v3 * w' := by
    have := Int.mul_nonneg c0 w0'
    omega
  obtain ⟨bot, hbot⟩ : ∃ bot, bot = 1 + v3 * w' := ⟨_, rfl⟩
  rw [← hbot] at bb b0'
  refine WR.mono (s_take (by omega) g5) (fun r ρ6 ⟨g6, v4, e, d0, d1⟩ => ?_) fun _ _ q => q
  subst e
  repeat' (walk_at "ev1")
  refine WR.mono (s_pick (by simp) g6) (fun r ρ7 ⟨g7, d, hd, e⟩ => ?_) fun _ _ q => q
  subst e
  have : ∃ t : Int, d = .int t ∧ Bd 42 t := by
    simp only [List.mem_cons, List.not_mem_nil, or_false] at hd
    rcases hd with rfl | rfl | rfl | rfl
    · exact ⟨_, rfl, bt⟩
    · exact ⟨_, rfl, by rw [Int.zero_sub]; exact bt.neg⟩
    · exact ⟨_, rfl, by unfold Bd; omega⟩
    · exact ⟨_, rfl, bt⟩
  obtain ⟨t, rfl, ht⟩ := this
  repeat' (walk_at "ev1")
  dsimp only
  rw [← hbot]
  refine WR.of (s_law_fr _ _ t bot (by omega) (ht.mono (by omega)) (bb.mono (by omega))) ?_
  obtain ⟨f1, f2⟩ := fr_is (t := t) (b := bot) (by omega)
  obtain ⟨l1, l2⟩ := fr_le (t := t) (b := bot) (by omega)
  exact ⟨by simp, g7, _, _, rfl, f1, (show Bd 42 _ from Nat.lt_of_le_of_lt l1 ht).mono (by omega), (show Bd 42 _ from Nat.lt_of_le_of_lt l2 bb).mono (by omega)⟩
/-! values near to fractions -/
def badL : List D := [.non, .int 1, .tup [.int 1], .tup [.int 2, .int 4], .tup [.int 1, .int 0], .tup [.int 1, .int (-2)], .tup [.int 0, .int 2], .tup [.bl true, .int 1], .tup [.int 1, .bl true], .str "1/2", .lst [.int 1, .int 2], .tup [.int 1, .int 2, .int 3], .tup [.str "1", .int 2], .tup []]
/-- plain, its members too -/
def plB : D → Bool
  | .cst _ => false
  | _ => true
def pvB : D → Bool
  | .cst _ => false
  | .tup xs => xs.all plB
  | _ => true
theorem plB_of {d : D} (h : plB d = true) : Pl d := by
  cases d <;> first | exact ⟨_, rfl⟩ | cases h
theorem pvB_of {d : D} (h : pvB d = true) : Pv d := by
  cases d with
  | cst => cases h
  | tup xs =>
    refine ⟨⟨_, rfl⟩, fun ys e x hx => ?_⟩
    cases e
    exact plB_of (List.all_eq_true.mp h x hx)
  | _ => exact ⟨⟨_, rfl⟩, fun ys e => nomatch e⟩
theorem bad_all {d : D} (h : d ∈ badL) : SV d ∧ isFr d = false := by
  simp only [badL, List.mem_cons, List.not_mem_nil, or_false] at h
  have bd : ∀ i : Int, -100 ≤ i → i ≤ 100 → Bd 2000 i := fun i h1 h2 => (show Bd 40 i by unfold Bd; omega).mono (by omega)
  rcases h with rfl | rfl | rfl | rfl | rfl | rfl | rfl | rfl | rfl | rfl | rfl | rfl | rfl | rfl <;>
  · refine ⟨⟨pvB_of rfl, fun a b e => ?_⟩, by first | rfl | decide⟩
    first
      | (cases e; done)
      | (cases e; exact ⟨bd _ (by omega) (by omega), bd _ (by omega) (by omega)⟩)
theorem s_bad (hg : Good ρ) : WR (R (k+3) 40 [.loc 0] ρ) (fun r ρ' => Good ρ' ∧ ∃ d ∈ badL, r = ⟨d, .sh⟩) X0 := by
  refine WR.run (n := 1) (b := b__law_bad_fr) rfl ?_
  unfold b__law_bad_fr
  repeat' (walk_at "ev1")
  exact WR.mono (s_pick (xs := badL) (by simp [badL]) hg) (fun r ρ1 ⟨g1, d, hd, e⟩ => by
    subst e
    exact ⟨by simp, g1, d, hd, rfl⟩) fun _ _ q => q
theorem s_put (x y z : D) (i : Int) (hi : i = 0 ∨ i = 1) : R (k+1) 27 [.tup [x, y], .int i, z] ρ = .ok ⟨if i = 0 then .tup [z, y] else .tup [x, z], .sh⟩ ρ := by
  refine WR.eq (WR.run (n := 3) (b := b__law_put) rfl ?_)
  unfold b__law_put
  rcases hi with rfl | rfl
  · repeat' (walk_at "ev1")
    exact ⟨rfl, rfl⟩
  · repeat' (walk_at "ev1")
    exact ⟨rfl, rfl⟩
theorem eqv_tnil (x : D) (xs : List D) : eqv (.tup (x :: xs)) (.tup []) = false := by
  show PyData.eqv (.tuple (toPys (x :: xs))) (.tuple []) = _
  simp only [toPys, PyData.eqv, PyData.eqvAll]
theorem s_spoilt1 (v : Int) (hv : Bd 60 v) (hg : Good ρ) : WR (R (k+3) 26 [.loc 0, .int v, .int 1] ρ) (fun r ρ' => Good ρ' ∧ ∃ d, r = ⟨d, .sh⟩ ∧ plB d = true ∧ ∀ i, d = .int i → Bd 1000 i) X0 := by
  refine WR.run (n := 5) (b := b__law_spoilt) rfl ?_
  unfold b__law_spoilt
  repeat' (walk_at "ev1")
  refine WR.of (s_law_is_int _ ⟨_, rfl⟩) ?_
  repeat' (walk_at "ev1")
  refine WR.mono (s_pick (by simp) hg) (fun r ρ1 ⟨g1, d, hd, e⟩ => ?_) fun _ _ q => q
  subst e
  refine ⟨by simp, g1, d, rfl, ?_⟩
  have bd : ∀ i : Int, -100 ≤ i → i ≤ 100 → Bd 60 i := fun i h1 h2 => (show Bd 40 i by unfold Bd; omega).mono (by omega)
  simp only [List.mem_cons, List.not_mem_nil, or_false] at hd
  rcases hd with rfl | rfl | rfl | rfl | rfl | rfl | rfl | rfl | rfl | rfl <;> (refine ⟨rfl, fun i e => ?_⟩; cases e)
  · exact hv.add (bd 1 (by omega) (by omega)) (by omega) (by omega)
  · exact hv.sub (bd 1 (by omega) (by omega)) (by omega) (by omega)
  · exact hv.neg.mono (by omega)
  · exact hv.add (bd 2 (by omega) (by omega)) (by omega) (by omega)
  · exact (bd 0 (by omega) (by omega)).mono (by omega)
  · exact (bd 1 (by omega) (by omega)).mono (by omega)
end
end K01
end

section
set_option Elab.async false
set_option linter.all false
set_option maxRecDepth 100000
set_option exponentiation.threshold 100
local macro_rules
  | `(tactic| walk_at "ev1") => `(tactic| first
    | with_reducible refine Ev.w_con ?_
    | ((with_reducible refine Ev.w_sh (d := ?v) ?e ?_); (case e => exact rfl))
    | ((with_reducible refine Ev.w_al (d := ?v) ?e ?_); (case e => exact rfl))
    | with_reducible refine Ev.nal_sh ?_
    | with_reducible refine Ev.w_cons ?_
    | with_reducible refine Ev.w_nil ?_
    | with_reducible refine Ev.w_bin ?_
    | with_reducible refine Ev.wb_add ?_
    | with_reducible refine Ev.wb_sub ?_
    | with_reducible refine Ev.wb_mul ?_ ?_
    | with_reducible refine Ev.wb_fdiv ?_ ?_
    | with_reducible refine Ev.wb_mod ?_ ?_
    | ((with_reducible refine Ev.wb_of (r := ?v) ?e ?_); (case e => exact rfl))
    | with_reducible refine Ev.w_ix ?_
    | ((with_reducible refine Ev.wi_of (r := ?v) ?e ?_); (case e => exact rfl))
    | with_reducible refine Ev.w_call ?_
    | with_reducible refine Ev.w_callk ?_
    | ((with_reducible refine Ev.ex_perm (xs := ?v) ?e ?_); (case e => exact rfl))
    | with_reducible refine Ev.w_cmp ?_
    | with_reducible refine Ev.w_chn ?_
    | with_reducible refine Ev.wc_lt ?_
    | with_reducible refine Ev.wc_le ?_
    | with_reducible refine Ev.wc_gt ?_
    | with_reducible refine Ev.wc_ge ?_
    | with_reducible refine Ev.wc_eqI ?_
    | with_reducible refine Ev.wc_neI ?_
    | ((with_reducible refine Ev.wc_isN (b := ?v) ?e ?_); (case e => exact rfl))
    | ((with_reducible refine Ev.wc_notN (b := ?v) ?e ?_); (case e => exact rfl))
    | with_reducible refine Ev.w_andE ?_
    | with_reducible refine Ev.w_orE ?_
    | with_reducible refine Ev.w_ite ?_
    | ((with_reducible refine Ev.tv_b' (b := ?v) ?e ?_); (case e => exact rfl))
    | ((with_reducible refine Ev.bt_t' ?e ?_); (case e => exact rfl))
    | ((with_reducible refine Ev.bt_f' ?e ?_); (case e => exact rfl))
    | with_reducible refine Ev.bt_n ?_
    | ((with_reducible refine Ev.bt_d ?_ ?_) <;> intro _)
    | with_reducible refine Ev.w_not ?_
    | ((with_reducible refine Ev.ex_tru (b := ?v) ?e ?_); (case e => exact rfl))
    | with_reducible refine Ev.w_neg ?_
    | ((with_reducible refine Ev.ex_int (i := ?v) ?e ?_); (case e => exact rfl))
    | with_reducible refine Ev.w_tup ?_
    | with_reducible refine Ev.w_lst ?_
    | ((with_reducible refine Ev.len_and ?e ?_); (case e => exact rfl))
    | with_reducible refine Ev.w_isi ?_
    | ((with_reducible refine Ev.ex_ty (u := ?v) ?e ?_); (case e => first | exact rfl | assumption))
    | with_reducible refine Ev.w_bi1 ?_
    | with_reducible refine Ev.w_bi ?_
    | ((with_reducible refine Ev.wf_of (r := ?v) ?e ?_); (case e => exact rfl))
    | with_reducible refine Ev.nal_fr ?_
    | with_reducible refine Ev.s_cons ?_
    | with_reducible refine Ev.s_nil ?_
    | with_reducible refine Ev.s_ifs ?_
    | with_reducible refine Ev.s_asg ?_
    | with_reducible refine Ev.s_ret ?_
    | ((with_reducible refine Ev.s_retv (d := ?v) ?e ?_); (case e => exact rfl))
    | ((with_reducible refine Ev.s_reto (d := ?v) ?e ?_); (case e => exact rfl))
    | with_reducible refine Ev.s_retN ?_
    | with_reducible refine Ev.s_tgt ?_
    | with_reducible refine Ev.ex_sh ?_
    | ((with_reducible refine Ev.ex_asg (env' := ?v) ?e ?_); (case e => exact rfl))
    | with_reducible refine Ev.s_par ?_
    | ((with_reducible refine Ev.nal2 ?e ?_); (case e => exact rfl))
    | with_reducible refine Ev.s_exp ?_
    | with_reducible refine Ev.s_rai ?_
    | with_reducible refine Ev.s_tri ?_
    | with_reducible refine Ev.s_pas ?_
    | with_reducible refine Ev.w_sl ?_
    | with_reducible refine Ev.w_nop ?_
    | ((with_reducible refine Ev.ex_part (l := ?v) ?e ?_); (case e => exact rfl))
    | ((with_reducible refine Ev.wl_of (r := ?v) ?e ?_); (case e => exact rfl))
    | ((with_reducible refine Ev.s_frz (env' := ?v) ?e ?_); (case e => exact rfl))
    | with_reducible refine Ev.s_for ?_
    | with_reducible refine Ev.w_over ?_
    | ((with_reducible refine Ev.ex_over (ds := ?v) ?e ?f ?_); (case e => exact rfl); (case f => exact rfl))
    | with_reducible refine Ev.w_lc ?_
    | ((with_reducible refine Ev.w_glb (d := ?v) ?e ?_); (case e => exact rfl))
    | ((with_reducible refine Ev.bt_b ?_ ?_) <;> intro _))
namespace K01
open Ev PySem L2
section
variable {k : Nat} {ρ : Sto}
theorem sv_of {d : D} (h : pvB d = true) (hb : ∀ a b : Int, d = .tup [.int a, .int b] → Bd 2000 a ∧ Bd 2000 b) : SV d := ⟨pvB_of h, hb⟩
theorem s_spoilt2 (a b : Int) (ha : Bd 60 a) (hb : Bd 60 b) (hg : Good ρ) : WR (R (k+4) 26 [.loc 0, pd (a, b), .int 2] ρ) (fun r ρ' => Good ρ' ∧ ∃ d, r = ⟨d, .sh⟩ ∧ SV d) X0 := by
  have put : ∀ (d : D) (p : Bool), plB d = true → (∀ i, d = .int i → Bd 1000 i) → SV (if p then .tup [d, .int b] else .tup [.int a, d]) := fun d p h1 h2 => by
    cases p with
    | true =>
      refine sv_of (by show (plB d && (plB (.int b) && true)) = true; rw [h1]; rfl) fun x y e => ?_
      injection e with e
      injection e with e1 e
      injection e with e2 _
      injection e2 with e2
      subst e2
      exact ⟨(h2 _ e1).mono (by omega), hb.mono (by omega)⟩
    | false =>
      refine sv_of (by show (plB (.int a) && (plB d && true)) = true; rw [h1]; rfl) fun x y e => ?_
      injection e with e
      injection e with e1 e
      injection e with e2 _
      injection e1 with e1
      subst e1
      exact ⟨ha.mono (by omega), (h2 _ e2).mono (by omega)⟩
  refine WR.run (n := 5) (b := b__law_spoilt) rfl ?_
  unfold b__law_spoilt pd
  repeat' (walk_at "ev1")
  refine wc_ne rfl rfl ?_
  show TV ρ (.bl (!eqv (.tup [.int a, .int b]) (.tup []))) _ _
  rw [eqv_tnil]
  repeat' (walk_at "ev1")
  refine WR.mono (s_take (by show (0 : Int) < 2; decide) hg) (fun r ρ1 ⟨g1, v, e, v0, v1⟩ => ?_) fun _ _ q => q
  subst e
  repeat' (walk_at "ev1")
  refine WR.mono (s_take (by decide) g1) (fun r ρ2 ⟨g2, w, e, w0, w1⟩ => ?_) fun _ _ q => q
  subst e
  have hv : v = 0 ∨ v = 1 := by
    have v1 : v < 2 := v1
    omega
  rcases hv with rfl | rfl
  · repeat' (walk_at "ev1")
    · exact ⟨g2, _, rfl, sv_of rfl fun x y e => by cases e⟩
    · exact ⟨g2, _, rfl, sv_of rfl fun x y e => by cases e⟩
    · exact ⟨g2, _, rfl, sv_of rfl fun x y e => by cases e; exact ⟨ha.mono (by omega), hb.mono (by omega)⟩⟩
    · refine WR.mono (s_spoilt1 a ha g2) (fun r ρ3 ⟨g3, d, e, h1, h2⟩ => ?_) fun _ _ q => q
      subst e
      repeat' (walk_at "ev1")
      refine WR.of (s_put _ _ _ _ (.inl rfl)) ?_
      exact ⟨by simp, g3, _, rfl, put d true h1 h2⟩
  · repeat' (walk_at "ev1")
    · exact ⟨g2, _, rfl, sv_of rfl fun x y e => by cases e⟩
    · exact ⟨g2, _, rfl, sv_of rfl fun x y e => by cases e⟩
    · exact ⟨g2, _, rfl, sv_of rfl fun x y e => by cases e; exact ⟨hb.mono (by omega), ha.mono (by omega)⟩⟩
    · refine WR.mono (s_spoilt1 b hb g2) (fun r ρ3 ⟨g3, d, e, h1, h2⟩ => ?_) fun _ _ q => q
      subst e
      repeat' (walk_at "ev1")
      refine WR.of (s_put _ _ _ _ (.inr rfl)) ?_
      exact ⟨by simp, g3, _, rfl, put d false h1 h2⟩
/-- a comprehension whose turns draw -/
theorem lc_inv {f : D → Sto → Res (Option D)} {X : Xc → Sto → Prop} (I : Sto → Prop) (P : D → Prop) (l : List D) {QL : List D → Sto → Prop} (h0 : I ρ) (h : ∀ x ∈ l, ∀ ρ, I ρ → WR (f x ρ) (fun o ρ' => I ρ' ∧ ∃ d, o = some d ∧ P d) X)
    (q : ∀ ys ρ', I ρ' → ys.length = l.length → (∀ y ∈ ys, P y) → QL ys ρ') : WR (lcLoop f l ρ) QL X := by
  induction l generalizing QL ρ with
  | nil => exact w_lc0 (q [] ρ h0 rfl (by simp))
  | cons x r ih =>
    refine w_lc1 (WR.mono (h x (by simp) ρ h0) (fun o ρ' ⟨h1, d, e, hp⟩ => ?_) fun _ _ q => q)
    subst e
    refine ih h1 (fun y hy => h y (List.mem_cons_of_mem _ hy)) fun ys ρ2 h2 hl hy => ?_
    refine q _ ρ2 h2 (by simp [hl]) fun y hm => ?_
    rcases List.mem_cons.mp (by simpa using hm) with rfl | hm
    · exact hp
    · exact hy y hm
end
end K01
end

section
set_option Elab.async false
set_option linter.all false
set_option maxRecDepth 100000
set_option exponentiation.threshold 100
set_option maxHeartbeats 300000
local macro_rules
  | `(tactic| walk_at "ev1") => `(tactic| first
    | with_reducible refine Ev.w_con ?_
    | ((with_reducible refine Ev.w_sh (d := ?v) ?e ?_); (case e => exact rfl))
    | ((with_reducible refine Ev.w_al (d := ?v) ?e ?_); (case e => exact rfl))
    | with_reducible refine Ev.nal_sh ?_
    | with_reducible refine Ev.w_cons ?_
    | with_reducible refine Ev.w_nil ?_
    | with_reducible refine Ev.w_bin ?_
    | with_reducible refine Ev.wb_add ?_
    | with_reducible refine Ev.wb_sub ?_
    | with_reducible refine Ev.wb_mul ?_ ?_
    | with_reducible refine Ev.wb_fdiv ?_ ?_
    | with_reducible refine Ev.wb_mod ?_ ?_
    | ((with_reducible refine Ev.wb_of (r := ?v) ?e ?_); (case e => exact rfl))
    | with_reducible refine Ev.w_ix ?_
    | ((with_reducible refine Ev.wi_of (r := ?v) ?e ?_); (case e => exact rfl))
    | with_reducible refine Ev.w_call ?_
    | with_reducible refine Ev.w_callk ?_
    | ((with_reducible refine Ev.ex_perm (xs := ?v) ?e ?_); (case e => exact rfl))
    | with_reducible refine Ev.w_cmp ?_
    | with_reducible refine Ev.w_chn ?_
    | with_reducible refine Ev.wc_lt ?_
    | with_reducible refine Ev.wc_le ?_
    | with_reducible refine Ev.wc_gt ?_
    | with_reducible refine Ev.wc_ge ?_
    | with_reducible refine Ev.wc_eqI ?_
    | with_reducible refine Ev.wc_neI ?_
    | ((with_reducible refine Ev.wc_isN (b := ?v) ?e ?_); (case e => exact rfl))
    | ((with_reducible refine Ev.wc_notN (b := ?v) ?e ?_); (case e => exact rfl))
    | with_reducible refine Ev.w_andE ?_
    | with_reducible refine Ev.w_orE ?_
    | with_reducible refine Ev.w_ite ?_
    | ((with_reducible refine Ev.tv_b' (b := ?v) ?e ?_); (case e => exact rfl))
    | ((with_reducible refine Ev.bt_t' ?e ?_); (case e => exact rfl))
    | ((with_reducible refine Ev.bt_f' ?e ?_); (case e => exact rfl))
    | with_reducible refine Ev.bt_n ?_
    | ((with_reducible refine Ev.bt_d ?_ ?_) <;> intro _)
    | with_reducible refine Ev.w_not ?_
    | ((with_reducible refine Ev.ex_tru (b := ?v) ?e ?_); (case e => exact rfl))
    | with_reducible refine Ev.w_neg ?_
    | ((with_reducible refine Ev.ex_int (i := ?v) ?e ?_); (case e => exact rfl))
    | with_reducible refine Ev.w_tup ?_
    | with_reducible refine Ev.w_lst ?_
    | ((with_reducible refine Ev.len_and ?e ?_); (case e => exact rfl))
    | with_reducible refine Ev.w_isi ?_
    | ((with_reducible refine Ev.ex_ty (u := ?v) ?e ?_); (case e => first | exact rfl | assumption))
    | with_reducible refine Ev.w_bi1 ?_
    | with_reducible refine Ev.w_bi ?_
    | ((with_reducible refine Ev.wf_of (r := ?v) ?e ?_); (case e => exact rfl))
    | with_reducible refine Ev.nal_fr ?_
    | with_reducible refine Ev.s_cons ?_
    | with_reducible refine Ev.s_nil ?_
    | with_reducible refine Ev.s_ifs ?_
    | with_reducible refine Ev.s_asg ?_
    | with_reducible refine Ev.s_ret ?_
    | ((with_reducible refine Ev.s_retv (d := ?v) ?e ?_); (case e => exact rfl))
    | ((with_reducible refine Ev.s_reto (d := ?v) ?e ?_); (case e => exact rfl))
    | with_reducible refine Ev.s_retN ?_
    | with_reducible refine Ev.s_tgt ?_
    | with_reducible refine Ev.ex_sh ?_
    | ((with_reducible refine Ev.ex_asg (env' := ?v) ?e ?_); (case e => exact rfl))
    | with_reducible refine Ev.s_par ?_
    | ((with_reducible refine Ev.nal2 ?e ?_); (case e => exact rfl))
    | with_reducible refine Ev.s_exp ?_
    | with_reducible refine Ev.s_rai ?_
    | with_reducible refine Ev.s_tri ?_
    | with_reducible refine Ev.s_pas ?_
    | with_reducible refine Ev.w_sl ?_
    | with_reducible refine Ev.w_nop ?_
    | ((with_reducible refine Ev.ex_part (l := ?v) ?e ?_); (case e => exact rfl))
    | ((with_reducible refine Ev.wl_of (r := ?v) ?e ?_); (case e => exact rfl))
    | ((with_reducible refine Ev.s_frz (env' := ?v) ?e ?_); (case e => exact rfl))
    | with_reducible refine Ev.s_for ?_
    | with_reducible refine Ev.w_over ?_
    | ((with_reducible refine Ev.ex_over (ds := ?v) ?e ?f ?_); (case e => exact rfl); (case f => exact rfl))
    | with_reducible refine Ev.w_lc ?_
    | ((with_reducible refine Ev.w_glb (d := ?v) ?e ?_); (case e => exact rfl))
    | ((with_reducible refine Ev.nal_c ?e ?_); (case e => exact rfl))
    | ((with_reducible refine Ev.bt_b ?_ ?_) <;> intro _))
namespace K01
open Ev PySem L2
theorem frD_self {a b : Int} (h : IsFr a b) : frD a b = pd (a, b) := by
  obtain ⟨q1, q2⟩ := fr_self h
  unfold frD pd
  rw [q1, q2]
theorem frD_eq {t b t' b' : Int} (hb : b ≠ 0) (hb' : b' ≠ 0) (e : t * b' = t' * b) : frD t b = frD t' b' := by
  obtain ⟨q1, q2⟩ := fr_eq hb hb' e
  unfold frD
  rw [q1, q2]
/-- a fraction of n bits -/
def Frn (n : Nat) (p : Int × Int) : Prop := IsFr p.1 p.2 ∧ Bd n p.1 ∧ Bd n p.2
theorem frn_fr {n : Nat} {t b : Int} (hb : b ≠ 0) (ht : Bd n t) (hbb : Bd n b) : Frn n (frN t b, frE t b) := by
  obtain ⟨f1, _⟩ := fr_is (t := t) hb
  obtain ⟨l1, l2⟩ := fr_le (t := t) hb
  exact ⟨f1, Nat.lt_of_le_of_lt l1 ht, Nat.lt_of_le_of_lt l2 hbb⟩
theorem Frn.mono {n m : Nat} {p : Int × Int} (h : Frn n p) (hm : n ≤ m) : Frn m p := ⟨h.1, h.2.1.mono hm, h.2.2.mono hm⟩
theorem Frn.fr {n m : Nat} {p : Int × Int} (h : Frn n p) (hm : n ≤ m) : Fr m (pd p) p.1 p.2 := ⟨rfl, h.1, h.2.1.mono hm, h.2.2.mono hm⟩
section
variable {k : Nat} {ρ : Sto} {a b c d : Int}
/-- the second of a turn's pair -/
theorem pick_other {env : Envr} {o2 : Option Slot} {r : List (Option Slot)} (hg : Good ρ) (h1 : Frn 50 (a, b)) (h2 : Frn 50 (c, d)) (x0 : Option Slot) {X : Xc → Sto → Prop} {Q : Rv → Sto → Prop} (hq : ∀ ρ' c' d', Good ρ' → Frn 52 (c', d') → Q ⟨pd (c', d'), .sh⟩ ρ') :
    WR (ev g (R (k+6)) (E.call 24 (Es.cons (E.var 1) (Es.cons (E.lst (Es.cons (E.var 4) (Es.cons (E.var 4) (Es.cons (E.var 3) (Es.cons (E.call 31 (Es.cons (E.bin .sub (E.con (D.int 0)) (E.ix (E.var 3) (E.con (D.int 0)))) (Es.cons (E.ix (E.var 3) (E.con (D.int 1))) Es.nil))) (Es.cons (E.tup (Es.cons (E.con (D.int 0)) (Es.cons (E.con (D.int 1)) Es.nil))) (Es.cons (E.call 31 (Es.cons (E.ix (E.var 3) (E.con (D.int 1))) (Es.cons (E.bi .max2 (Es.cons (E.con (D.int 1)) (Es.cons (E.bi1 .abs (E.ix (E.var 3) (E.con (D.int 0)))) Es.nil))) Es.nil))) Es.nil))))))) Es.nil))) (x0 :: some ⟨false, .loc 0⟩ :: o2 :: some ⟨false, pd (a, b)⟩ :: some ⟨false, pd (c, d)⟩ :: r) ρ) Q X := by
  have hb := h1.1.pos
  have hb : 0 < b := hb
  unfold pd
  repeat' (walk_at "ev1")
  refine WR.of (s_law_fr (k+4) ρ (0 - a) b (by omega) (by rw [Int.zero_sub]; exact h1.2.1.neg.mono (by omega)) (h1.2.2.mono (by omega))) ?_
  repeat' (walk_at "ev1")
  have hm : ∃ m : Int, (if (if a < 0 then -a else a) > 1 then (if a < 0 then -a else a) else 1) = m ∧ 0 < m ∧ Bd 50 m := by
    refine ⟨_, rfl, ?_, ?_⟩
    · split <;> omega
    · have := h1.2.1
      unfold Bd at *
      dsimp only at this
      split
      · split <;> omega
      · omega
  obtain ⟨m, em, m0, bm⟩ := hm
  dsimp only
  rw [em]
  refine WR.of (s_law_fr (k+4) ρ b m (by omega) (h1.2.2.mono (by omega)) (bm.mono (by omega))) ?_
  repeat' (walk_at "ev1")
  have key := s_pick (k := k+4) (ρ := ρ) (xs := [D.tup [.int c, .int d], D.tup [.int c, .int d], D.tup [.int a, .int b], frD (0 - a) b, D.tup [.int 0, .int 1], frD b m]) (by simp) hg
  refine WR.mono key ?_ fun _ _ q => False.elim q
  rintro r ρ1 ⟨g1, x, hd, e⟩
  subst e
  simp only [List.mem_cons, List.not_mem_nil, or_false] at hd
  rcases hd with rfl | rfl | rfl | rfl | rfl | rfl
  · exact hq _ _ _ g1 (h2.mono (by omega))
  · exact hq _ _ _ g1 (h2.mono (by omega))
  · exact hq _ _ _ g1 (h1.mono (by omega))
  · exact hq _ _ _ g1 (frn_fr (by omega) (by rw [Int.zero_sub]; exact h1.2.1.neg.mono (by omega)) (h1.2.2.mono (by omega)))
  · exact hq _ 0 1 g1 ⟨⟨by decide, by decide⟩, by unfold Bd; decide, by unfold Bd; decide⟩
  · exact hq _ _ _ g1 (frn_fr (by omega) (h1.2.2.mono (by omega)) (bm.mono (by omega)))
def due3 (a b c d : Int) : D := if c = 0 then .str "none" else .lst [frD (a * d) (b * c)]
def duesL (a b c d : Int) : List D := [.lst [frD (a * d + c * b) (b * d)], .lst [frD (a * d - c * b) (b * d)], .lst [frD (a * c) (b * d)], due3 a b c d, .lst [.bl (decide (a * d < c * b))]]
theorem s_due {o2 : Option Slot} {r : List (Option Slot)} (h1 : Frn 50 (a, b)) (h2 : Frn 52 (c, d)) (x0 x1 : Option Slot) {X : Xc → Sto → Prop} {Q : Rv → Sto → Prop} (hq : Q ⟨.lst (duesL a b c d), .fr⟩ ρ) :
    WR (ev g (R (k+6)) (E.lst (Es.cons (E.lst (Es.cons (E.call 32 (Es.cons (E.var 3) (Es.cons (E.var 4) Es.nil))) Es.nil)) (Es.cons (E.lst (Es.cons (E.call 33 (Es.cons (E.var 3) (Es.cons (E.var 4) Es.nil))) Es.nil)) (Es.cons (E.lst (Es.cons (E.call 34 (Es.cons (E.var 3) (Es.cons (E.var 4) Es.nil))) Es.nil)) (Es.cons (E.ite (E.cmp .ne (E.ix (E.var 4) (E.con (D.int 0))) (E.con (D.int 0))) (E.lst (Es.cons (E.call 35 (Es.cons (E.var 3) (Es.cons (E.var 4) Es.nil))) Es.nil)) (E.con (D.str "none"))) (Es.cons (E.lst (Es.cons (E.call 36 (Es.cons (E.var 3) (Es.cons (E.var 4) Es.nil))) Es.nil)) Es.nil)))))) (x0 :: x1 :: o2 :: some ⟨false, pd (a, b)⟩ :: some ⟨false, pd (c, d)⟩ :: r) ρ) Q X := by
  obtain ⟨f1, a1, b1⟩ := h1
  obtain ⟨f2, c1, d1⟩ := h2
  unfold pd
  repeat' (walk_at "ev1")
  refine WR.of (s_law_add f1.pos f2.pos (a1.mono (by omega)) (b1.mono (by omega)) (c1.mono (by omega)) (d1.mono (by omega))) ?_
  repeat' (walk_at "ev1")
  refine WR.of (s_law_sub f1.pos f2.pos (a1.mono (by omega)) (b1.mono (by omega)) (c1.mono (by omega)) (d1.mono (by omega))) ?_
  repeat' (walk_at "ev1")
  refine WR.of (s_law_mul f1.pos f2.pos (a1.mono (by omega)) (b1.mono (by omega)) (c1.mono (by omega)) (d1.mono (by omega))) ?_
  repeat' (walk_at "ev1")
  · rename_i hc
    refine WR.of (s_law_lt (a1.mono (by omega)) (b1.mono (by omega)) (c1.mono (by omega)) (d1.mono (by omega))) ?_
    repeat' (walk_at "ev1")
    have e : due3 a b c d = .str "none" := if_pos hc
    rw [← e]
    exact hq
  · rename_i hc
    refine WR.of (s_law_div f1.pos hc (a1.mono (by omega)) (b1.mono (by omega)) (c1.mono (by omega)) (d1.mono (by omega))) ?_
    repeat' (walk_at "ev1")
    refine WR.of (s_law_lt (a1.mono (by omega)) (b1.mono (by omega)) (c1.mono (by omega)) (d1.mono (by omega))) ?_
    repeat' (walk_at "ev1")
    have e : due3 a b c d = .lst [frD (a * d) (b * c)] := if_neg hc
    have e2 : (D.lst [frD (a * d) (b * c)]) = due3 a b c d := e.symm
    rw [show duesL a b c d = [.lst [frD (a * d + c * b) (b * d)], .lst [frD (a * d - c * b) (b * d)], .lst [frD (a * c) (b * d)], due3 a b c d, .lst [.bl (decide (a * d < c * b))]] from rfl, e] at hq
    exact hq
theorem rng5 : rngD 0 (5 : Int).toNat = [.int 0, .int 1, .int 2, .int 3, .int 4] := rfl
/-- what is told of a right pair -/
theorem s_tolds {x0 x1 x2 x5 x6 : Option Slot} {r : List (Option Slot)} (h1 : Frn 50 (a, b)) (h2 : Frn 52 (c, d)) {X : Xc → Sto → Prop} {Q : Rv → Sto → Prop} (hq : Q ⟨.lst (duesL a b c d), .fr⟩ ρ) :
    WR (ev g (R (k+6)) (E.lc [6] (Tg.nm 6) (Iw.rng (Es.cons (E.con (D.int 5)) Es.nil)) E.nop (E.call 41 (Es.cons (E.var 6) (Es.cons (E.var 3) (Es.cons (E.var 4) Es.nil))))) (x0 :: x1 :: x2 :: some ⟨false, pd (a, b)⟩ :: some ⟨false, pd (c, d)⟩ :: x5 :: x6 :: r) ρ) Q X := by
  have F1 : Fr 2000 (pd (a, b)) a b := h1.fr (by omega)
  have F2 : Fr 2000 (pd (c, d)) c d := h2.fr (by omega)
  refine w_lc ?_
  refine w_rng1 ?_
  repeat' (walk_at "ev1")
  refine ⟨by omega, by decide, ?_⟩
  rw [rng5]
  refine w_lc1 (w_turn0 rfl ?_)
  repeat' (walk_at "ev1")
  refine WR.of (told_ok (by simp [toldF]) (s_plus F1 F2)) ?_
  repeat' (walk_at "ev1")
  refine w_lc1 (w_turn0 rfl ?_)
  repeat' (walk_at "ev1")
  refine WR.of (told_ok (by simp [toldF]) (s_minus F1 F2)) ?_
  repeat' (walk_at "ev1")
  refine w_lc1 (w_turn0 rfl ?_)
  repeat' (walk_at "ev1")
  refine WR.of (told_ok (by simp [toldF]) (s_times F1 F2)) ?_
  repeat' (walk_at "ev1")
  refine w_lc1 (w_turn0 rfl ?_)
  repeat' (walk_at "ev1")
  have e3 : ∃ fl, R (k+6) 41 [.int 3, pd (a, b), pd (c, d)] ρ = .ok ⟨due3 a b c d, fl⟩ ρ ∧ fl ≠ .al := by
    by_cases hc : c = 0
    · subst hc
      refine ⟨.sh, ?_, by simp⟩
      rw [show due3 a b 0 d = .str (wordOf 2) from if_pos rfl]
      exact told_x (by simp [toldF]) (by omega) (x_divided0 F1 F2)
    · refine ⟨.fr, ?_, by simp⟩
      rw [show due3 a b c d = .lst [frD (a * d) (b * c)] from if_neg hc]
      exact told_ok (by simp [toldF]) (s_divided F1 F2 hc)
  obtain ⟨fl, e3, nal⟩ := e3
  refine WR.of e3 ⟨nal, ?_⟩
  refine w_lc1 (w_turn0 rfl ?_)
  repeat' (walk_at "ev1")
  refine WR.of (told_ok (by simp [toldF]) (s_less F1 F2)) ?_
  repeat' (walk_at "ev1")
  refine w_lc0 ?_
  exact hq
theorem dt_fr (n : Nat) (t b : Int) : Dt (n + 1) (frD t b) := .tup n _ (by simp) (by
  intro x hx
  simp only [List.mem_cons, List.not_mem_nil, or_false] at hx
  rcases hx with rfl | rfl <;> exact .int _ _)
theorem dt_l1 (n : Nat) {x : D} (h : Dt n x) : Dt (n + 1) (.lst [x]) := .lst n _ (by simp) (by
  intro y hy
  simp only [List.mem_cons, List.not_mem_nil, or_false] at hy
  rw [hy]; exact h)
theorem strOk_none : PyData.strOk ("none" : Str) = true := by decide +kernel
theorem dt_due : Dt 3 (.lst (duesL a b c d)) := .lst 2 _ (by simp [duesL]) (by
  intro x hx
  simp only [duesL, List.mem_cons, List.not_mem_nil, or_false] at hx
  rcases hx with rfl | rfl | rfl | rfl | rfl
  · exact dt_l1 1 (dt_fr 0 _ _)
  · exact dt_l1 1 (dt_fr 0 _ _)
  · exact dt_l1 1 (dt_fr 0 _ _)
  · unfold due3
    split
    · exact .str _ _ strOk_none
    · exact dt_l1 1 (dt_fr 0 _ _)
  · exact dt_l1 1 (.bl _ _))
end
end K01
end

section
set_option Elab.async false
set_option linter.all false
set_option maxRecDepth 100000
set_option exponentiation.threshold 100
set_option maxHeartbeats 400000
local macro_rules
  | `(tactic| walk_at "ev1") => `(tactic| first
    | with_reducible refine Ev.w_con ?_
    | ((with_reducible refine Ev.w_sh (d := ?v) ?e ?_); (case e => exact rfl))
    | ((with_reducible refine Ev.w_al (d := ?v) ?e ?_); (case e => exact rfl))
    | with_reducible refine Ev.nal_sh ?_
    | with_reducible refine Ev.w_cons ?_
    | with_reducible refine Ev.w_nil ?_
    | with_reducible refine Ev.w_bin ?_
    | with_reducible refine Ev.wb_add ?_
    | with_reducible refine Ev.wb_sub ?_
    | with_reducible refine Ev.wb_mul ?_ ?_
    | with_reducible refine Ev.wb_fdiv ?_ ?_
    | with_reducible refine Ev.wb_mod ?_ ?_
    | ((with_reducible refine Ev.wb_of (r := ?v) ?e ?_); (case e => exact rfl))
    | with_reducible refine Ev.w_ix ?_
    | ((with_reducible refine Ev.wi_of (r := ?v) ?e ?_); (case e => exact rfl))
    | with_reducible refine Ev.w_call ?_
    | with_reducible refine Ev.w_callk ?_
    | ((with_reducible refine Ev.ex_perm (xs := ?v) ?e ?_); (case e => exact rfl))
    | with_reducible refine Ev.w_cmp ?_
    | with_reducible refine Ev.w_chn ?_
    | with_reducible refine Ev.wc_lt ?_
    | with_reducible refine Ev.wc_le ?_
    | with_reducible refine Ev.wc_gt ?_
    | with_reducible refine Ev.wc_ge ?_
    | with_reducible refine Ev.wc_eqI ?_
    | with_reducible refine Ev.wc_neI ?_
    | ((with_reducible refine Ev.wc_isN (b := ?v) ?e ?_); (case e => exact rfl))
    | ((with_reducible refine Ev.wc_notN (b := ?v) ?e ?_); (case e => exact rfl))
    | with_reducible refine Ev.w_andE ?_
    | with_reducible refine Ev.w_orE ?_
    | with_reducible refine Ev.w_ite ?_
    | ((with_reducible refine Ev.tv_b' (b := ?v) ?e ?_); (case e => exact rfl))
    | ((with_reducible refine Ev.bt_t' ?e ?_); (case e => exact rfl))
    | ((with_reducible refine Ev.bt_f' ?e ?_); (case e => exact rfl))
    | with_reducible refine Ev.bt_n ?_
    | ((with_reducible refine Ev.bt_d ?_ ?_) <;> intro _)
    | with_reducible refine Ev.w_not ?_
    | ((with_reducible refine Ev.ex_tru (b := ?v) ?e ?_); (case e => exact rfl))
    | with_reducible refine Ev.w_neg ?_
    | ((with_reducible refine Ev.ex_int (i := ?v) ?e ?_); (case e => exact rfl))
    | with_reducible refine Ev.w_tup ?_
    | with_reducible refine Ev.w_lst ?_
    | ((with_reducible refine Ev.len_and ?e ?_); (case e => exact rfl))
    | with_reducible refine Ev.w_isi ?_
    | ((with_reducible refine Ev.ex_ty (u := ?v) ?e ?_); (case e => first | exact rfl | assumption))
    | with_reducible refine Ev.w_bi1 ?_
    | with_reducible refine Ev.w_bi ?_
    | ((with_reducible refine Ev.wf_of (r := ?v) ?e ?_); (case e => exact rfl))
    | with_reducible refine Ev.nal_fr ?_
    | with_reducible refine Ev.s_cons ?_
    | with_reducible refine Ev.s_nil ?_
    | with_reducible refine Ev.s_ifs ?_
    | with_reducible refine Ev.s_asg ?_
    | with_reducible refine Ev.s_ret ?_
    | ((with_reducible refine Ev.s_retv (d := ?v) ?e ?_); (case e => exact rfl))
    | ((with_reducible refine Ev.s_reto (d := ?v) ?e ?_); (case e => exact rfl))
    | with_reducible refine Ev.s_retN ?_
    | with_reducible refine Ev.s_tgt ?_
    | with_reducible refine Ev.ex_sh ?_
    | ((with_reducible refine Ev.ex_asg (env' := ?v) ?e ?_); (case e => exact rfl))
    | with_reducible refine Ev.s_par ?_
    | ((with_reducible refine Ev.nal2 ?e ?_); (case e => exact rfl))
    | with_reducible refine Ev.s_exp ?_
    | with_reducible refine Ev.s_rai ?_
    | with_reducible refine Ev.s_tri ?_
    | with_reducible refine Ev.s_pas ?_
    | with_reducible refine Ev.w_sl ?_
    | with_reducible refine Ev.w_nop ?_
    | ((with_reducible refine Ev.ex_part (l := ?v) ?e ?_); (case e => exact rfl))
    | ((with_reducible refine Ev.wl_of (r := ?v) ?e ?_); (case e => exact rfl))
    | ((with_reducible refine Ev.s_frz (env' := ?v) ?e ?_); (case e => exact rfl))
    | with_reducible refine Ev.s_for ?_
    | with_reducible refine Ev.w_over ?_
    | ((with_reducible refine Ev.ex_over (ds := ?v) ?e ?f ?_); (case e => exact rfl); (case f => exact rfl))
    | with_reducible refine Ev.w_lc ?_
    | ((with_reducible refine Ev.w_glb (d := ?v) ?e ?_); (case e => exact rfl))
    | ((with_reducible refine Ev.nal_c ?e ?_); (case e => exact rfl))
    | ((with_reducible refine Ev.bt_b ?_ ?_) <;> intro _))
namespace K01
open Ev PySem L2
section
variable {k : Nat} {ρ : Sto} {a b c d : Int}
theorem wc_nePair {a b c d : Int} {Q : Bool → Prop} (h : Q (!(decide (a = c) && decide (b = d)))) : WC .ne (.tup [.int a, .int b]) (.tup [.int c, .int d]) ρ Q := by
  refine wc_ne rfl rfl ?_
  show Q (!eqv (.tup [.int a, .int b]) (.tup [.int c, .int d]))
  rw [eqv_pair]
  exact h
theorem back_plus (hb : 0 < b) (hd : 0 < d) (h : IsFr a b) : frD (frN (a * d - c * b) (b * d) * d + c * frE (a * d - c * b) (b * d)) (frE (a * d - c * b) (b * d) * d) = pd (a, b) := by
  have hB : b * d ≠ 0 := Int.ne_of_gt (Int.mul_pos hb hd)
  obtain ⟨f, e⟩ := fr_is (t := a * d - c * b) hB
  have hm := f.pos
  generalize frN (a * d - c * b) (b * d) = n at *
  generalize frE (a * d - c * b) (b * d) = m at *
  rw [← frD_self h]
  refine frD_eq (Int.ne_of_gt (Int.mul_pos hm hd)) (Int.ne_of_gt hb) ?_
  grind
theorem back_times (hb : 0 < b) (hd : 0 < d) (hc : c ≠ 0) (h : IsFr a b) : frD (frN (a * d) (b * c) * c) (frE (a * d) (b * c) * d) = pd (a, b) := by
  have hB : b * c ≠ 0 := Int.mul_ne_zero (Int.ne_of_gt hb) hc
  obtain ⟨f, e⟩ := fr_is (t := a * d) hB
  have hm := f.pos
  generalize frN (a * d) (b * c) = n at *
  generalize frE (a * d) (b * c) = m at *
  rw [← frD_self h]
  refine frD_eq (Int.ne_of_gt (Int.mul_pos hm hd)) (Int.ne_of_gt hb) ?_
  grind
theorem s_back {x0 x1 x2 : Option Slot} {r : List (Option Slot)} (h1 : Frn 50 (a, b)) (h2 : Frn 52 (c, d)) {X : Xc → Sto → Prop} {Q : Rv → Sto → Prop} (hq : Q ⟨.bl false, .sh⟩ ρ) :
    WR (ev g (R (k+6)) (E.or (E.cmp .ne (E.call 14 (Es.cons (E.call 15 (Es.cons (E.var 3) (Es.cons (E.var 4) Es.nil))) (Es.cons (E.var 4) Es.nil))) (E.var 3)) (E.and (E.cmp .ne (E.ix (E.var 4) (E.con (D.int 0))) (E.con (D.int 0))) (E.cmp .ne (E.call 16 (Es.cons (E.call 17 (Es.cons (E.var 3) (Es.cons (E.var 4) Es.nil))) (Es.cons (E.var 4) Es.nil))) (E.var 3)))) (x0 :: x1 :: x2 :: some ⟨false, pd (a, b)⟩ :: some ⟨false, pd (c, d)⟩ :: r) ρ) Q X := by
  have F1 : Fr 2000 (pd (a, b)) a b := h1.fr (by omega)
  have F2 : Fr 2000 (pd (c, d)) c d := h2.fr (by omega)
  have hb : 0 < b := h1.1.pos
  have hd : 0 < d := h2.1.pos
  have B1 : Bd 50 a := h1.2.1
  have B2 : Bd 50 b := h1.2.2
  have B3 : Bd 52 c := h2.2.1
  have B4 : Bd 52 d := h2.2.2
  have G1 : Frn 200 (frN (a * d - c * b) (b * d), frE (a * d - c * b) (b * d)) := frn_fr (Int.ne_of_gt (Int.mul_pos hb hd)) ((B1.mul B4 (k := 110) (by omega)).sub (B3.mul B2 (k := 110) (by omega)) (by omega) (by omega)) (B2.mul B4 (by omega))
  have e1 : R (k+6) 14 [frD (a * d - c * b) (b * d), pd (c, d)] ρ = .ok ⟨pd (a, b), .sh⟩ ρ := by
    have z := s_plus (k := k+2) (ρ := ρ) (G1.fr (m := 2000) (by omega)) F2
    rw [back_plus hb hd h1.1] at z
    exact z
  have e0 : R (k+6) 15 [pd (a, b), pd (c, d)] ρ = .ok ⟨frD (a * d - c * b) (b * d), .sh⟩ ρ := s_minus (k := k+2) F1 F2
  repeat' (walk_at "ev1")
  refine WR.of e0 ?_
  repeat' (walk_at "ev1")
  refine WR.of e1 ?_
  repeat' (walk_at "ev1")
  refine wc_nePair ?_
  rw [decide_eq_true rfl, decide_eq_true rfl]
  repeat' (walk_at "ev1")
  · rename_i hc
    rw [decide_eq_true hc]
    exact hq
  · rename_i hc
    have G2 : Frn 200 (frN (a * d) (b * c), frE (a * d) (b * c)) := frn_fr (Int.mul_ne_zero (Int.ne_of_gt hb) hc) (B1.mul B4 (by omega)) (B2.mul B3 (by omega))
    have e2 : R (k+6) 17 [pd (a, b), pd (c, d)] ρ = .ok ⟨frD (a * d) (b * c), .sh⟩ ρ := s_divided (k := k+2) F1 F2 hc
    have e3 : R (k+6) 16 [frD (a * d) (b * c), pd (c, d)] ρ = .ok ⟨pd (a, b), .sh⟩ ρ := by
      have z := s_times (k := k+2) (ρ := ρ) (G2.fr (m := 2000) (by omega)) F2
      rw [back_times hb hd hc h1.1] at z
      exact z
    refine WR.of e2 ?_
    repeat' (walk_at "ev1")
    refine WR.of e3 ?_
    repeat' (walk_at "ev1")
    refine wc_nePair ?_
    rw [decide_eq_true rfl, decide_eq_true rfl]
    exact hq
end
end K01
end

section
set_option Elab.async false
set_option linter.all false
set_option maxRecDepth 100000
set_option exponentiation.threshold 100
set_option maxHeartbeats 400000
local macro_rules
  | `(tactic| walk_at "ev1") => `(tactic| first
    | with_reducible refine Ev.w_con ?_
    | ((with_reducible refine Ev.w_sh (d := ?v) ?e ?_); (case e => exact rfl))
    | ((with_reducible refine Ev.w_al (d := ?v) ?e ?_); (case e => exact rfl))
    | with_reducible refine Ev.nal_sh ?_
    | with_reducible refine Ev.w_cons ?_
    | with_reducible refine Ev.w_nil ?_
    | with_reducible refine Ev.w_bin ?_
    | with_reducible refine Ev.wb_add ?_
    | with_reducible refine Ev.wb_sub ?_
    | with_reducible refine Ev.wb_mul ?_ ?_
    | with_reducible refine Ev.wb_fdiv ?_ ?_
    | with_reducible refine Ev.wb_mod ?_ ?_
    | ((with_reducible refine Ev.wb_of (r := ?v) ?e ?_); (case e => exact rfl))
    | with_reducible refine Ev.w_ix ?_
    | ((with_reducible refine Ev.wi_of (r := ?v) ?e ?_); (case e => exact rfl))
    | with_reducible refine Ev.w_call ?_
    | with_reducible refine Ev.w_callk ?_
    | ((with_reducible refine Ev.ex_perm (xs := ?v) ?e ?_); (case e => exact rfl))
    | with_reducible refine Ev.w_cmp ?_
    | with_reducible refine Ev.w_chn ?_
    | with_reducible refine Ev.wc_lt ?_
    | with_reducible refine Ev.wc_le ?_
    | with_reducible refine Ev.wc_gt ?_
    | with_reducible refine Ev.wc_ge ?_
    | with_reducible refine Ev.wc_eqI ?_
    | with_reducible refine Ev.wc_neI ?_
    | ((with_reducible refine Ev.wc_isN (b := ?v) ?e ?_); (case e => exact rfl))
    | ((with_reducible refine Ev.wc_notN (b := ?v) ?e ?_); (case e => exact rfl))
    | with_reducible refine Ev.w_andE ?_
    | with_reducible refine Ev.w_orE ?_
    | with_reducible refine Ev.w_ite ?_
    | ((with_reducible refine Ev.tv_b' (b := ?v) ?e ?_); (case e => exact rfl))
    | ((with_reducible refine Ev.bt_t' ?e ?_); (case e => exact rfl))
    | ((with_reducible refine Ev.bt_f' ?e ?_); (case e => exact rfl))
    | with_reducible refine Ev.bt_n ?_
    | ((with_reducible refine Ev.bt_d ?_ ?_) <;> intro _)
    | with_reducible refine Ev.w_not ?_
    | ((with_reducible refine Ev.ex_tru (b := ?v) ?e ?_); (case e => exact rfl))
    | with_reducible refine Ev.w_neg ?_
    | ((with_reducible refine Ev.ex_int (i := ?v) ?e ?_); (case e => exact rfl))
    | with_reducible refine Ev.w_tup ?_
    | with_reducible refine Ev.w_lst ?_
    | ((with_reducible refine Ev.len_and ?e ?_); (case e => exact rfl))
    | with_reducible refine Ev.w_isi ?_
    | ((with_reducible refine Ev.ex_ty (u := ?v) ?e ?_); (case e => first | exact rfl | assumption))
    | with_reducible refine Ev.w_bi1 ?_
    | with_reducible refine Ev.w_bi ?_
    | ((with_reducible refine Ev.wf_of (r := ?v) ?e ?_); (case e => exact rfl))
    | with_reducible refine Ev.nal_fr ?_
    | with_reducible refine Ev.s_cons ?_
    | with_reducible refine Ev.s_nil ?_
    | with_reducible refine Ev.s_ifs ?_
    | with_reducible refine Ev.s_asg ?_
    | with_reducible refine Ev.s_ret ?_
    | ((with_reducible refine Ev.s_retv (d := ?v) ?e ?_); (case e => exact rfl))
    | ((with_reducible refine Ev.s_reto (d := ?v) ?e ?_); (case e => exact rfl))
    | with_reducible refine Ev.s_retN ?_
    | with_reducible refine Ev.s_tgt ?_
    | with_reducible refine Ev.ex_sh ?_
    | ((with_reducible refine Ev.ex_asg (env' := ?v) ?e ?_); (case e => exact rfl))
    | with_reducible refine Ev.s_par ?_
    | ((with_reducible refine Ev.nal2 ?e ?_); (case e => exact rfl))
    | with_reducible refine Ev.s_exp ?_
    | with_reducible refine Ev.s_rai ?_
    | with_reducible refine Ev.s_tri ?_
    | with_reducible refine Ev.s_pas ?_
    | with_reducible refine Ev.w_sl ?_
    | with_reducible refine Ev.w_nop ?_
    | ((with_reducible refine Ev.ex_part (l := ?v) ?e ?_); (case e => exact rfl))
    | ((with_reducible refine Ev.wl_of (r := ?v) ?e ?_); (case e => exact rfl))
    | ((with_reducible refine Ev.s_frz (env' := ?v) ?e ?_); (case e => exact rfl))
    | with_reducible refine Ev.s_for ?_
    | with_reducible refine Ev.w_over ?_
    | ((with_reducible refine Ev.ex_over (ds := ?v) ?e ?f ?_); (case e => exact rfl); (case f => exact rfl))
    | with_reducible refine Ev.w_lc ?_
    | ((with_reducible refine Ev.w_glb (d := ?v) ?e ?_); (case e => exact rfl))
    | ((with_reducible refine Ev.nal_c ?e ?_); (case e => exact rfl))
    | ((with_reducible refine Ev.bt_b ?_ ?_) <;> intro _))
namespace K01
open Ev PySem L2
section
variable {k : Nat} {ρ : Sto} {a b c d : Int}
theorem ps_of : ∀ (ys : List D), (∀ y ∈ ys, ∃ p : Int × Int, y = pd p ∧ Frn 60 p) → ∃ ps : List (Int × Int), ys = ps.map pd ∧ Frs 60 ps
  | [], _ => ⟨[], rfl, fun p hp => by simp at hp⟩
  | y :: r, h => by
    obtain ⟨p, e, hp⟩ := h y (by simp)
    obtain ⟨ps, e2, h2⟩ := ps_of r fun z hz => h z (List.mem_cons_of_mem _ hz)
    refine ⟨p :: ps, by rw [e, e2]; rfl, fun q hq => ?_⟩
    rcases List.mem_cons.mp hq with rfl | hq
    · exact hp
    · exact h2 q hq
theorem s_some {x0 x2 x5 x6 x7 x8 : Option Slot} {r : List (Option Slot)} (hg : Good ρ) (h1 : Frn 50 (a, b)) (h2 : Frn 52 (c, d)) {X : Xc → Sto → Prop} {Q : Rv → Sto → Prop} (hq : ∀ ρ' ps, Good ρ' → Frs 60 ps → ps.length ≤ 12 → Q ⟨.tup (ps.map pd), .sh⟩ ρ') :
    WR (ev g (R (k+6)) (E.bi1 .tuple (E.lc [8] (Tg.nm 8) (Iw.rng (Es.cons (E.call 23 (Es.cons (E.var 1) (Es.cons (E.con (D.int 8)) Es.nil))) Es.nil)) E.nop (E.call 24 (Es.cons (E.var 1) (Es.cons (E.lst (Es.cons (E.var 3) (Es.cons (E.var 4) (Es.cons (E.call 42 (Es.cons (E.var 1) Es.nil)) (Es.cons (E.tup (Es.cons (E.con (D.int 0)) (Es.cons (E.con (D.int 1)) Es.nil))) Es.nil))))) Es.nil))))) (x0 :: some ⟨false, .loc 0⟩ :: x2 :: some ⟨false, pd (a, b)⟩ :: some ⟨false, pd (c, d)⟩ :: x5 :: x6 :: x7 :: x8 :: r) ρ) Q X := by
  refine w_bi1 (w_lc (w_rng1 ?_))
  repeat' (walk_at "ev1")
  have key := s_take (k := k+5) (ρ := ρ) (m := 8) (by decide) hg
  refine WR.mono key ?_ fun _ _ q => False.elim q
  rintro r1 ρ1 ⟨g1, v, e, v0, v1⟩
  subst e
  repeat' (walk_at "ev1")
  have hl : (rngD 0 v.toNat).length = v.toNat := by unfold rngD; simp
  refine ⟨by omega, by rw [hl]; exact Nat.le_trans (by omega : v.toNat ≤ 8) (by decide), ?_⟩
  refine lc_inv Good (fun y => ∃ p : Int × Int, y = pd p ∧ Frn 60 p) _ g1 (fun x hx ρ2 g2 => ?_) fun ys ρ2 g2 hy hp => ?_
  · refine w_turn0 rfl ?_
    repeat' (walk_at "ev1")
    have key := s_wide (k := k+2) (ρ := ρ2) g2
    refine WR.mono key ?_ fun _ _ q => False.elim q
    rintro r2 ρ3 ⟨g3, p, q, e, f, bp, bq⟩
    subst e
    repeat' (walk_at "ev1")
    have key := s_pick (k := k+4) (ρ := ρ3) (xs := [pd (a, b), pd (c, d), pd (p, q), D.tup [.int 0, .int 1]]) (by simp) g3
    refine WR.mono key ?_ fun _ _ q => False.elim q
    rintro r3 ρ4 ⟨g4, y, hd, e⟩
    subst e
    refine ⟨by simp, g4, y, rfl, ?_⟩
    simp only [List.mem_cons, List.not_mem_nil, or_false] at hd
    rcases hd with rfl | rfl | rfl | rfl
    · exact ⟨_, rfl, h1.mono (by omega)⟩
    · exact ⟨_, rfl, h2.mono (by omega)⟩
    · exact ⟨(p, q), rfl, (show Frn 50 (p, q) from ⟨f, bp, bq⟩).mono (by omega)⟩
    · exact ⟨(0, 1), rfl, ⟨by decide, by decide⟩, by unfold Bd; decide, by unfold Bd; decide⟩
  · obtain ⟨ps, e, hps⟩ := ps_of ys hp
    subst e
    refine wf_of (r := ⟨.tup (ps.map pd), .sh⟩) rfl ?_
    rw [hl, List.length_map] at hy
    exact hq _ ps g2 hps (by omega)
theorem Frs.mono {n m : Nat} {ps : List (Int × Int)} (h : Frs n ps) (hm : n ≤ m) : Frs m ps := fun p hp => ⟨(h p hp).1, (h p hp).2.1.mono hm, (h p hp).2.2.mono hm⟩
/-- the total that is told, and of nothing -/
theorem s_totals (ps : List (Int × Int)) (h : Frs 60 ps) (hl : ps.length ≤ 12) {x0 x1 x2 x3 x4 x5 x6 : Option Slot} {r : List (Option Slot)} {X : Xc → Sto → Prop} {Q : Rv → Sto → Prop} (hq : Q ⟨.bl true, .sh⟩ ρ) :
    WR (ev g (R (k+6)) (E.call 25 (Es.cons (E.lst (Es.cons (E.call 41 (Es.cons (E.con (D.int 6)) (Es.cons (E.var 7) (Es.cons (E.con D.non) Es.nil)))) (Es.cons (E.callk 19 [0] Es.nil (Es.cons (E.tup Es.nil) Es.nil)) Es.nil))) (Es.cons (E.lst (Es.cons (E.lst (Es.cons (E.call 37 (Es.cons (E.var 7) Es.nil)) Es.nil)) (Es.cons (E.tup (Es.cons (E.con (D.int 0)) (Es.cons (E.con (D.int 1)) Es.nil))) Es.nil))) Es.nil))) (x0 :: x1 :: x2 :: x3 :: x4 :: x5 :: x6 :: some ⟨false, .tup (ps.map pd)⟩ :: r) ρ) Q X := by
  have h3 : Frs 300 ps := h.mono (by omega)
  have e1 : R (k+6) 41 [.int 6, .tup (ps.map pd), .non] ρ = .ok ⟨.lst [frD (accQ 0 1 ps).1 (accQ 0 1 ps).2], .fr⟩ ρ := by
    have z := told6 (k := k+5) (y := .non) (s_total (k := k+2) (ρ := ρ) ps h3 hl)
    rw [sum_eq ps h3] at z
    exact z
  have e2 : R (k+6) 19 [.tup []] ρ = .ok ⟨pd (0, 1), .sh⟩ ρ := by
    have z := s_total (k := k+3) (ρ := ρ) [] (fun p hp => by simp at hp) (by simp)
    rw [sum_eq [] (fun p hp => by simp at hp)] at z
    have e : frD (accQ 0 1 []).1 (accQ 0 1 []).2 = pd (0, 1) := frD_self ⟨by decide, by decide⟩
    rw [e] at z
    exact z
  have e3 : R (k+6) 37 [.tup (ps.map pd)] ρ = .ok ⟨frD (accQ 0 1 ps).1 (accQ 0 1 ps).2, .sh⟩ ρ := s_law_sum (k := k+2) ps h hl
  have e4 : R (k+6) 25 [.lst [.lst [frD (accQ 0 1 ps).1 (accQ 0 1 ps).2], pd (0, 1)], .lst [.lst [frD (accQ 0 1 ps).1 (accQ 0 1 ps).2], pd (0, 1)]] ρ = .ok ⟨.bl true, .sh⟩ ρ := by
    refine s_same (k+5) _ (.lst (k+4) _ (by simp) fun x hx => ?_)
    simp only [List.mem_cons, List.not_mem_nil, or_false] at hx
    rcases hx with rfl | rfl
    · exact dt_l1 (k+3) (dt_fr (k+2) _ _)
    · exact .tup (k+3) _ (by simp) (fun x hx => by
        simp only [List.mem_cons, List.not_mem_nil, or_false] at hx
        rcases hx with rfl | rfl <;> exact .int _ _)
  generalize frD (accQ 0 1 ps).1 (accQ 0 1 ps).2 = sm at e1 e3 e4
  repeat' (walk_at "ev1")
  refine WR.of e1 ?_
  repeat' (walk_at "ev1")
  refine WR.of e2 ?_
  repeat' (walk_at "ev1")
  refine WR.of e3 ?_
  repeat' (walk_at "ev1")
  dsimp only [pd] at e4 ⊢
  rw [e4]
  exact hq
end
end K01
end

section
set_option Elab.async false
set_option linter.all false
set_option maxRecDepth 100000
set_option exponentiation.threshold 100
set_option maxHeartbeats 400000
local macro_rules
  | `(tactic| walk_at "ev1") => `(tactic| first
    | with_reducible refine Ev.w_con ?_
    | ((with_reducible refine Ev.w_sh (d := ?v) ?e ?_); (case e => exact rfl))
    | ((with_reducible refine Ev.w_al (d := ?v) ?e ?_); (case e => exact rfl))
    | with_reducible refine Ev.nal_sh ?_
    | with_reducible refine Ev.w_cons ?_
    | with_reducible refine Ev.w_nil ?_
    | with_reducible refine Ev.w_bin ?_
    | with_reducible refine Ev.wb_add ?_
    | with_reducible refine Ev.wb_sub ?_
    | with_reducible refine Ev.wb_mul ?_ ?_
    | with_reducible refine Ev.wb_fdiv ?_ ?_
    | with_reducible refine Ev.wb_mod ?_ ?_
    | ((with_reducible refine Ev.wb_of (r := ?v) ?e ?_); (case e => exact rfl))
    | with_reducible refine Ev.w_ix ?_
    | ((with_reducible refine Ev.wi_of (r := ?v) ?e ?_); (case e => exact rfl))
    | with_reducible refine Ev.w_call ?_
    | with_reducible refine Ev.w_callk ?_
    | ((with_reducible refine Ev.ex_perm (xs := ?v) ?e ?_); (case e => exact rfl))
    | with_reducible refine Ev.w_cmp ?_
    | with_reducible refine Ev.w_chn ?_
    | with_reducible refine Ev.wc_lt ?_
    | with_reducible refine Ev.wc_le ?_
    | with_reducible refine Ev.wc_gt ?_
    | with_reducible refine Ev.wc_ge ?_
    | with_reducible refine Ev.wc_eqI ?_
    | with_reducible refine Ev.wc_neI ?_
    | ((with_reducible refine Ev.wc_isN (b := ?v) ?e ?_); (case e => exact rfl))
    | ((with_reducible refine Ev.wc_notN (b := ?v) ?e ?_); (case e => exact rfl))
    | with_reducible refine Ev.w_andE ?_
    | with_reducible refine Ev.w_orE ?_
    | with_reducible refine Ev.w_ite ?_
    | ((with_reducible refine Ev.tv_b' (b := ?v) ?e ?_); (case e => exact rfl))
    | ((with_reducible refine Ev.bt_t' ?e ?_); (case e => exact rfl))
    | ((with_reducible refine Ev.bt_f' ?e ?_); (case e => exact rfl))
    | with_reducible refine Ev.bt_n ?_
    | ((with_reducible refine Ev.bt_d ?_ ?_) <;> intro _)
    | with_reducible refine Ev.w_not ?_
    | ((with_reducible refine Ev.ex_tru (b := ?v) ?e ?_); (case e => exact rfl))
    | with_reducible refine Ev.w_neg ?_
    | ((with_reducible refine Ev.ex_int (i := ?v) ?e ?_); (case e => exact rfl))
    | with_reducible refine Ev.w_tup ?_
    | with_reducible refine Ev.w_lst ?_
    | ((with_reducible refine Ev.len_and ?e ?_); (case e => exact rfl))
    | with_reducible refine Ev.w_isi ?_
    | ((with_reducible refine Ev.ex_ty (u := ?v) ?e ?_); (case e => first | exact rfl | assumption))
    | with_reducible refine Ev.w_bi1 ?_
    | with_reducible refine Ev.w_bi ?_
    | ((with_reducible refine Ev.wf_of (r := ?v) ?e ?_); (case e => exact rfl))
    | with_reducible refine Ev.nal_fr ?_
    | with_reducible refine Ev.s_cons ?_
    | with_reducible refine Ev.s_nil ?_
    | with_reducible refine Ev.s_ifs ?_
    | with_reducible refine Ev.s_asg ?_
    | with_reducible refine Ev.s_ret ?_
    | ((with_reducible refine Ev.s_retv (d := ?v) ?e ?_); (case e => exact rfl))
    | ((with_reducible refine Ev.s_reto (d := ?v) ?e ?_); (case e => exact rfl))
    | with_reducible refine Ev.s_retN ?_
    | with_reducible refine Ev.s_tgt ?_
    | with_reducible refine Ev.ex_sh ?_
    | ((with_reducible refine Ev.ex_asg (env' := ?v) ?e ?_); (case e => exact rfl))
    | with_reducible refine Ev.s_par ?_
    | ((with_reducible refine Ev.nal2 ?e ?_); (case e => exact rfl))
    | with_reducible refine Ev.s_exp ?_
    | with_reducible refine Ev.s_rai ?_
    | with_reducible refine Ev.s_tri ?_
    | with_reducible refine Ev.s_pas ?_
    | with_reducible refine Ev.w_sl ?_
    | with_reducible refine Ev.w_nop ?_
    | ((with_reducible refine Ev.ex_part (l := ?v) ?e ?_); (case e => exact rfl))
    | ((with_reducible refine Ev.wl_of (r := ?v) ?e ?_); (case e => exact rfl))
    | ((with_reducible refine Ev.s_frz (env' := ?v) ?e ?_); (case e => exact rfl))
    | with_reducible refine Ev.s_for ?_
    | with_reducible refine Ev.w_over ?_
    | ((with_reducible refine Ev.ex_over (ds := ?v) ?e ?f ?_); (case e => exact rfl); (case f => exact rfl))
    | with_reducible refine Ev.w_lc ?_
    | ((with_reducible refine Ev.w_glb (d := ?v) ?e ?_); (case e => exact rfl))
    | ((with_reducible refine Ev.nal_c ?e ?_); (case e => exact rfl))
    | ((with_reducible refine Ev.bt_b ?_ ?_) <;> intro _))
namespace K01
open Ev PySem L2
section
variable {k : Nat} {ρ : Sto} {a b c d : Int}
theorem dt_pw (m : Nat) (a b : Int) (n : Nat) : Dt (m + 1) (pw a b n) := .tup m _ (by simp) (by
  intro x hx
  simp only [List.mem_cons, List.not_mem_nil, or_false] at hx
  rcases hx with rfl | rfl <;> exact .int _ _)
theorem s_count (n : Nat) (j : Int) (hj : j = n) (hn : n ≤ 30) (h1 : Frn 50 (a, b)) {x0 x1 x2 x4 x5 x6 x7 x8 : Option Slot} {r : List (Option Slot)} {X : Xc → Sto → Prop} {Q : Rv → Sto → Prop} (hq : Q ⟨.bl true, .sh⟩ ρ) :
    WR (ev g (R (k+6)) (E.call 25 (Es.cons (E.call 41 (Es.cons (E.con (D.int 7)) (Es.cons (E.var 3) (Es.cons (E.var 9) Es.nil)))) (Es.cons (E.lst (Es.cons (E.call 43 (Es.cons (E.var 3) (Es.cons (E.var 9) Es.nil))) Es.nil)) Es.nil))) (x0 :: x1 :: x2 :: some ⟨false, pd (a, b)⟩ :: x4 :: x5 :: x6 :: x7 :: x8 :: some ⟨false, .int j⟩ :: r) ρ) Q X := by
  have h2 : Frn 60 (a, b) := h1.mono (by omega)
  obtain ⟨P, hP⟩ : ∃ P, P = pw a b n := ⟨_, rfl⟩
  have e1 : R (k+6) 41 [.int 7, pd (a, b), .int j] ρ = .ok ⟨.lst [P], .fr⟩ ρ := by
    rw [hP, hj]
    exact told_ok (k := k+5) (by simp [toldF]) (s_power (k := k+1) h2.1 h2.2.1 h2.2.2 n hn)
  have e2 : R (k+6) 43 [pd (a, b), .int j] ρ = .ok ⟨P, .sh⟩ ρ := by
    rw [hP]
    exact s_raised (k := k+5) h2.2.1 h2.2.2 n j hj hn
  have e3 : R (k+6) 25 [.lst [P], .lst [P]] ρ = .ok ⟨.bl true, .sh⟩ ρ := s_same (k+5) _ (dt_l1 (k+4) (by rw [hP]; exact dt_pw (k+3) a b n))
  generalize pd (a, b) = one at e1 e2 ⊢
  clear hP hj
  repeat' (walk_at "ev1")
  dsimp only
  rw [e1]
  refine nal_fr ?_
  repeat' (walk_at "ev1")
  dsimp only
  rw [e2]
  refine nal_sh ?_
  repeat' (walk_at "ev1")
  dsimp only
  rw [e3]
  exact hq
end
end K01
end

section
set_option Elab.async false
set_option linter.all false
set_option maxRecDepth 100000
set_option exponentiation.threshold 100
set_option maxHeartbeats 400000
local macro_rules
  | `(tactic| walk_at "ev1") => `(tactic| first
    | with_reducible refine Ev.w_con ?_
    | ((with_reducible refine Ev.w_sh (d := ?v) ?e ?_); (case e => exact rfl))
    | ((with_reducible refine Ev.w_al (d := ?v) ?e ?_); (case e => exact rfl))
    | with_reducible refine Ev.nal_sh ?_
    | with_reducible refine Ev.w_cons ?_
    | with_reducible refine Ev.w_nil ?_
    | with_reducible refine Ev.w_bin ?_
    | with_reducible refine Ev.wb_add ?_
    | with_reducible refine Ev.wb_sub ?_
    | with_reducible refine Ev.wb_mul ?_ ?_
    | with_reducible refine Ev.wb_fdiv ?_ ?_
    | with_reducible refine Ev.wb_mod ?_ ?_
    | ((with_reducible refine Ev.wb_of (r := ?v) ?e ?_); (case e => exact rfl))
    | with_reducible refine Ev.w_ix ?_
    | ((with_reducible refine Ev.wi_of (r := ?v) ?e ?_); (case e => exact rfl))
    | with_reducible refine Ev.w_call ?_
    | with_reducible refine Ev.w_callk ?_
    | ((with_reducible refine Ev.ex_perm (xs := ?v) ?e ?_); (case e => exact rfl))
    | with_reducible refine Ev.w_cmp ?_
    | with_reducible refine Ev.w_chn ?_
    | with_reducible refine Ev.wc_lt ?_
    | with_reducible refine Ev.wc_le ?_
    | with_reducible refine Ev.wc_gt ?_
    | with_reducible refine Ev.wc_ge ?_
    | with_reducible refine Ev.wc_eqI ?_
    | with_reducible refine Ev.wc_neI ?_
    | ((with_reducible refine Ev.wc_isN (b := ?v) ?e ?_); (case e => exact rfl))
    | ((with_reducible refine Ev.wc_notN (b := ?v) ?e ?_); (case e => exact rfl))
    | with_reducible refine Ev.w_andE ?_
    | with_reducible refine Ev.w_orE ?_
    | with_reducible refine Ev.w_ite ?_
    | ((with_reducible refine Ev.tv_b' (b := ?v) ?e ?_); (case e => exact rfl))
    | ((with_reducible refine Ev.bt_t' ?e ?_); (case e => exact rfl))
    | ((with_reducible refine Ev.bt_f' ?e ?_); (case e => exact rfl))
    | with_reducible refine Ev.bt_n ?_
    | ((with_reducible refine Ev.bt_d ?_ ?_) <;> intro _)
    | with_reducible refine Ev.w_not ?_
    | ((with_reducible refine Ev.ex_tru (b := ?v) ?e ?_); (case e => exact rfl))
    | with_reducible refine Ev.w_neg ?_
    | ((with_reducible refine Ev.ex_int (i := ?v) ?e ?_); (case e => exact rfl))
    | with_reducible refine Ev.w_tup ?_
    | with_reducible refine Ev.w_lst ?_
    | ((with_reducible refine Ev.len_and ?e ?_); (case e => exact rfl))
    | with_reducible refine Ev.w_isi ?_
    | ((with_reducible refine Ev.ex_ty (u := ?v) ?e ?_); (case e => first | exact rfl | assumption))
    | with_reducible refine Ev.w_bi1 ?_
    | with_reducible refine Ev.w_bi ?_
    | ((with_reducible refine Ev.wf_of (r := ?v) ?e ?_); (case e => exact rfl))
    | with_reducible refine Ev.nal_fr ?_
    | with_reducible refine Ev.s_cons ?_
    | with_reducible refine Ev.s_nil ?_
    | with_reducible refine Ev.s_ifs ?_
    | with_reducible refine Ev.s_asg ?_
    | with_reducible refine Ev.s_ret ?_
    | ((with_reducible refine Ev.s_retv (d := ?v) ?e ?_); (case e => exact rfl))
    | ((with_reducible refine Ev.s_reto (d := ?v) ?e ?_); (case e => exact rfl))
    | with_reducible refine Ev.s_retN ?_
    | with_reducible refine Ev.s_tgt ?_
    | with_reducible refine Ev.ex_sh ?_
    | ((with_reducible refine Ev.ex_asg (env' := ?v) ?e ?_); (case e => exact rfl))
    | with_reducible refine Ev.s_par ?_
    | ((with_reducible refine Ev.nal2 ?e ?_); (case e => exact rfl))
    | with_reducible refine Ev.s_exp ?_
    | with_reducible refine Ev.s_rai ?_
    | with_reducible refine Ev.s_tri ?_
    | with_reducible refine Ev.s_pas ?_
    | with_reducible refine Ev.w_sl ?_
    | with_reducible refine Ev.w_nop ?_
    | ((with_reducible refine Ev.ex_part (l := ?v) ?e ?_); (case e => exact rfl))
    | ((with_reducible refine Ev.wl_of (r := ?v) ?e ?_); (case e => exact rfl))
    | ((with_reducible refine Ev.s_frz (env' := ?v) ?e ?_); (case e => exact rfl))
    | with_reducible refine Ev.s_for ?_
    | with_reducible refine Ev.w_over ?_
    | ((with_reducible refine Ev.ex_over (ds := ?v) ?e ?f ?_); (case e => exact rfl); (case f => exact rfl))
    | with_reducible refine Ev.w_lc ?_
    | ((with_reducible refine Ev.w_glb (d := ?v) ?e ?_); (case e => exact rfl))
    | ((with_reducible refine Ev.nal_c ?e ?_); (case e => exact rfl))
    | ((with_reducible refine Ev.bt_b ?_ ?_) <;> intro _))
namespace K01
open Ev PySem L2
section
variable {k : Nat} {ρ : Sto} {a b c d : Int}
theorem s_told5 (t u : Int) (ht : Bd 300 t) (hu : Bd 300 u) {x0 x1 x2 x3 x4 x5 x6 x7 x8 x9 : Option Slot} {r : List (Option Slot)} {X : Xc → Sto → Prop} {Q : Rv → Sto → Prop} (hq : Q ⟨.bl true, .sh⟩ ρ) :
    WR (ev g (R (k+6)) (E.call 25 (Es.cons (E.call 41 (Es.cons (E.con (D.int 5)) (Es.cons (E.var 10) (Es.cons (E.var 11) Es.nil)))) (Es.cons (E.ite (E.cmp .ne (E.var 11) (E.con (D.int 0))) (E.lst (Es.cons (E.call 31 (Es.cons (E.var 10) (Es.cons (E.var 11) Es.nil))) Es.nil)) (E.con (D.str "none"))) Es.nil))) (x0 :: x1 :: x2 :: x3 :: x4 :: x5 :: x6 :: x7 :: x8 :: x9 :: some ⟨false, .int t⟩ :: some ⟨false, .int u⟩ :: r) ρ) Q X := by
  by_cases hu0 : u = 0
  · subst hu0
    have e1 : R (k+6) 41 [.int 5, .int t, .int 0] ρ = .ok ⟨.str "none", .sh⟩ ρ := told_x (k := k+5) (by simp [toldF]) (by omega) (x_fraction0 (k := k+2) t)
    have e3 : R (k+6) 25 [.str "none", .str "none"] ρ = .ok ⟨.bl true, .sh⟩ ρ := s_same (k+5) _ (.str _ _ strOk_none)
    repeat' (walk_at "ev1")
    dsimp only
    rw [e1]
    refine nal_sh ?_
    repeat' (walk_at "ev1")
    dsimp only
    rw [e3]
    exact hq
  · obtain ⟨P, hP⟩ : ∃ P, P = frD t u := ⟨_, rfl⟩
    have e1 : R (k+6) 41 [.int 5, .int t, .int u] ρ = .ok ⟨.lst [P], .fr⟩ ρ := by
      rw [hP]
      exact told_ok (k := k+5) (by simp [toldF]) (s_fraction (k := k+2) t u hu0 (hu.mono (by omega)))
    have e2 : R (k+6) 31 [.int t, .int u] ρ = .ok ⟨P, .sh⟩ ρ := by
      rw [hP]
      exact s_law_fr (k+4) ρ t u hu0 (ht.mono (by omega)) (hu.mono (by omega))
    have e3 : R (k+6) 25 [.lst [P], .lst [P]] ρ = .ok ⟨.bl true, .sh⟩ ρ := s_same (k+5) _ (dt_l1 (k+4) (by rw [hP]; exact dt_fr (k+3) t u))
    clear hP
    repeat' (walk_at "ev1")
    dsimp only
    rw [e1]
    refine nal_fr ?_
    repeat' (walk_at "ev1")
    · rename_i z
      exact absurd z hu0
    · dsimp only
      rw [e2]
      refine nal_sh ?_
      repeat' (walk_at "ev1")
      dsimp only
      rw [e3]
      exact hq
end
end K01
end

section
set_option Elab.async false
set_option linter.all false
set_option maxRecDepth 100000
set_option exponentiation.threshold 100
set_option maxHeartbeats 400000
local macro_rules
  | `(tactic| walk_at "ev1") => `(tactic| first
    | with_reducible refine Ev.w_con ?_
    | ((with_reducible refine Ev.w_sh (d := ?v) ?e ?_); (case e => exact rfl))
    | ((with_reducible refine Ev.w_al (d := ?v) ?e ?_); (case e => exact rfl))
    | with_reducible refine Ev.nal_sh ?_
    | with_reducible refine Ev.w_cons ?_
    | with_reducible refine Ev.w_nil ?_
    | with_reducible refine Ev.w_bin ?_
    | with_reducible refine Ev.wb_add ?_
    | with_reducible refine Ev.wb_sub ?_
    | with_reducible refine Ev.wb_mul ?_ ?_
    | with_reducible refine Ev.wb_fdiv ?_ ?_
    | with_reducible refine Ev.wb_mod ?_ ?_
    | ((with_reducible refine Ev.wb_of (r := ?v) ?e ?_); (case e => exact rfl))
    | with_reducible refine Ev.w_ix ?_
    | ((with_reducible refine Ev.wi_of (r := ?v) ?e ?_); (case e => exact rfl))
    | with_reducible refine Ev.w_call ?_
    | with_reducible refine Ev.w_callk ?_
    | ((with_reducible refine Ev.ex_perm (xs := ?v) ?e ?_); (case e => exact rfl))
    | with_reducible refine Ev.w_cmp ?_
    | with_reducible refine Ev.w_chn ?_
    | with_reducible refine Ev.wc_lt ?_
    | with_reducible refine Ev.wc_le ?_
    | with_reducible refine Ev.wc_gt ?_
    | with_reducible refine Ev.wc_ge ?_
    | with_reducible refine Ev.wc_eqI ?_
    | with_reducible refine Ev.wc_neI ?_
    | ((with_reducible refine Ev.wc_isN (b := ?v) ?e ?_); (case e => exact rfl))
    | ((with_reducible refine Ev.wc_notN (b := ?v) ?e ?_); (case e => exact rfl))
    | with_reducible refine Ev.w_andE ?_
    | with_reducible refine Ev.w_orE ?_
    | with_reducible refine Ev.w_ite ?_
    | ((with_reducible refine Ev.tv_b' (b := ?v) ?e ?_); (case e => exact rfl))
    | ((with_reducible refine Ev.bt_t' ?e ?_); (case e => exact rfl))
    | ((with_reducible refine Ev.bt_f' ?e ?_); (case e => exact rfl))
    | with_reducible refine Ev.bt_n ?_
    | ((with_reducible refine Ev.bt_d ?_ ?_) <;> intro _)
    | with_reducible refine Ev.w_not ?_
    | ((with_reducible refine Ev.ex_tru (b := ?v) ?e ?_); (case e => exact rfl))
    | with_reducible refine Ev.w_neg ?_
    | ((with_reducible refine Ev.ex_int (i := ?v) ?e ?_); (case e => exact rfl))
    | with_reducible refine Ev.w_tup ?_
    | with_reducible refine Ev.w_lst ?_
    | ((with_reducible refine Ev.len_and ?e ?_); (case e => exact rfl))
    | with_reducible refine Ev.w_isi ?_
    | ((with_reducible refine Ev.ex_ty (u := ?v) ?e ?_); (case e => first | exact rfl | assumption))
    | with_reducible refine Ev.w_bi1 ?_
    | with_reducible refine Ev.w_bi ?_
    | ((with_reducible refine Ev.wf_of (r := ?v) ?e ?_); (case e => exact rfl))
    | with_reducible refine Ev.nal_fr ?_
    | with_reducible refine Ev.s_cons ?_
    | with_reducible refine Ev.s_nil ?_
    | with_reducible refine Ev.s_ifs ?_
    | with_reducible refine Ev.s_asg ?_
    | with_reducible refine Ev.s_ret ?_
    | ((with_reducible refine Ev.s_retv (d := ?v) ?e ?_); (case e => exact rfl))
    | ((with_reducible refine Ev.s_reto (d := ?v) ?e ?_); (case e => exact rfl))
    | with_reducible refine Ev.s_retN ?_
    | with_reducible refine Ev.s_tgt ?_
    | with_reducible refine Ev.ex_sh ?_
    | ((with_reducible refine Ev.ex_asg (env' := ?v) ?e ?_); (case e => exact rfl))
    | with_reducible refine Ev.s_par ?_
    | ((with_reducible refine Ev.nal2 ?e ?_); (case e => exact rfl))
    | with_reducible refine Ev.s_exp ?_
    | with_reducible refine Ev.s_rai ?_
    | with_reducible refine Ev.s_tri ?_
    | with_reducible refine Ev.s_pas ?_
    | with_reducible refine Ev.w_sl ?_
    | with_reducible refine Ev.w_nop ?_
    | ((with_reducible refine Ev.ex_part (l := ?v) ?e ?_); (case e => exact rfl))
    | ((with_reducible refine Ev.wl_of (r := ?v) ?e ?_); (case e => exact rfl))
    | ((with_reducible refine Ev.s_frz (env' := ?v) ?e ?_); (case e => exact rfl))
    | with_reducible refine Ev.s_for ?_
    | with_reducible refine Ev.w_over ?_
    | ((with_reducible refine Ev.ex_over (ds := ?v) ?e ?f ?_); (case e => exact rfl); (case f => exact rfl))
    | with_reducible refine Ev.w_lc ?_
    | ((with_reducible refine Ev.w_glb (d := ?v) ?e ?_); (case e => exact rfl))
    | ((with_reducible refine Ev.nal_c ?e ?_); (case e => exact rfl))
    | ((with_reducible refine Ev.bt_b ?_ ?_) <;> intro _))
namespace K01
open Ev PySem L2
section
variable {k : Nat} {ρ : Sto} {a b c d : Int}
/-- a value near to a fraction is judged alike -/
theorem s_judge (x : D) (h : SV x) {x0 x1 x2 x3 x4 x5 x6 x7 x8 x9 x10 x11 : Option Slot} {r : List (Option Slot)} {X : Xc → Sto → Prop} {Q : Rv → Sto → Prop} (hq : Q ⟨.bl true, .sh⟩ ρ) :
    WR (ev g (R (k+6)) (E.call 25 (Es.cons (E.lst (Es.cons (E.callk 1 [0] Es.nil (Es.cons (E.var 12) Es.nil)) (Es.cons (E.callk 2 [0] Es.nil (Es.cons (E.var 12) Es.nil)) Es.nil))) (Es.cons (E.lst (Es.cons (E.call 38 (Es.cons (E.var 12) Es.nil)) (Es.cons (E.call 39 (Es.cons (E.var 12) Es.nil)) Es.nil))) Es.nil))) (x0 :: x1 :: x2 :: x3 :: x4 :: x5 :: x6 :: x7 :: x8 :: x9 :: x10 :: x11 :: some ⟨false, x⟩ :: r) ρ) Q X := by
  have e1 : R (k+6) 1 [x] ρ = .ok ⟨.bl (isFr x), .sh⟩ ρ := s_is_fraction (k+4) ρ x h.1
  have e2 : R (k+6) 2 [x] ρ = .ok ⟨.bl (isCh x), .sh⟩ ρ := s_is_chance (k+3) ρ x h.1
  have e3 : R (k+6) 38 [x] ρ = .ok ⟨.bl (isFr x), .sh⟩ ρ := s_law_is_fr (k := k+4) x h
  have e4 : R (k+6) 39 [x] ρ = .ok ⟨.bl (isCh x), .sh⟩ ρ := s_law_is_chance (k := k+3) x h
  generalize isFr x = p at e1 e3
  generalize isCh x = q at e2 e4
  have e5 : R (k+6) 25 [.lst [.bl p, .bl q], .lst [.bl p, .bl q]] ρ = .ok ⟨.bl true, .sh⟩ ρ := s_same (k+5) _ (.lst (k+4) _ (by simp) fun y hy => by
    simp only [List.mem_cons, List.not_mem_nil, or_false] at hy
    rcases hy with rfl | rfl <;> exact .bl _ _)
  repeat' (walk_at "ev1")
  show WR (R (k+6) 1 [x] ρ) _ _
  rw [e1]
  refine nal_sh ?_
  repeat' (walk_at "ev1")
  show WR (R (k+6) 2 [x] ρ) _ _
  rw [e2]
  refine nal_sh ?_
  repeat' (walk_at "ev1")
  dsimp only
  rw [e3]
  refine nal_sh ?_
  repeat' (walk_at "ev1")
  dsimp only
  rw [e4]
  refine nal_sh ?_
  repeat' (walk_at "ev1")
  dsimp only
  rw [e5]
  exact hq
end
end K01
end

section
set_option Elab.async false
set_option linter.all false
set_option maxRecDepth 100000
set_option exponentiation.threshold 100
set_option maxHeartbeats 400000
local macro_rules
  | `(tactic| walk_at "ev1") => `(tactic| first
    | with_reducible refine Ev.w_con ?_
    | ((with_reducible refine Ev.w_sh (d := ?v) ?e ?_); (case e => exact rfl))
    | ((with_reducible refine Ev.w_al (d := ?v) ?e ?_); (case e => exact rfl))
    | with_reducible refine Ev.nal_sh ?_
    | with_reducible refine Ev.w_cons ?_
    | with_reducible refine Ev.w_nil ?_
    | with_reducible refine Ev.w_bin ?_
    | with_reducible refine Ev.wb_add ?_
    | with_reducible refine Ev.wb_sub ?_
    | with_reducible refine Ev.wb_mul ?_ ?_
    | with_reducible refine Ev.wb_fdiv ?_ ?_
    | with_reducible refine Ev.wb_mod ?_ ?_
    | ((with_reducible refine Ev.wb_of (r := ?v) ?e ?_); (case e => exact rfl))
    | with_reducible refine Ev.w_ix ?_
    | ((with_reducible refine Ev.wi_of (r := ?v) ?e ?_); (case e => exact rfl))
    | with_reducible refine Ev.w_call ?_
    | with_reducible refine Ev.w_callk ?_
    | ((with_reducible refine Ev.ex_perm (xs := ?v) ?e ?_); (case e => exact rfl))
    | with_reducible refine Ev.w_cmp ?_
    | with_reducible refine Ev.w_chn ?_
    | with_reducible refine Ev.wc_lt ?_
    | with_reducible refine Ev.wc_le ?_
    | with_reducible refine Ev.wc_gt ?_
    | with_reducible refine Ev.wc_ge ?_
    | with_reducible refine Ev.wc_eqI ?_
    | with_reducible refine Ev.wc_neI ?_
    | ((with_reducible refine Ev.wc_isN (b := ?v) ?e ?_); (case e => exact rfl))
    | ((with_reducible refine Ev.wc_notN (b := ?v) ?e ?_); (case e => exact rfl))
    | with_reducible refine Ev.w_andE ?_
    | with_reducible refine Ev.w_orE ?_
    | with_reducible refine Ev.w_ite ?_
    | ((with_reducible refine Ev.tv_b' (b := ?v) ?e ?_); (case e => exact rfl))
    | ((with_reducible refine Ev.bt_t' ?e ?_); (case e => exact rfl))
    | ((with_reducible refine Ev.bt_f' ?e ?_); (case e => exact rfl))
    | with_reducible refine Ev.bt_n ?_
    | ((with_reducible refine Ev.bt_d ?_ ?_) <;> intro _)
    | with_reducible refine Ev.w_not ?_
    | ((with_reducible refine Ev.ex_tru (b := ?v) ?e ?_); (case e => exact rfl))
    | with_reducible refine Ev.w_neg ?_
    | ((with_reducible refine Ev.ex_int (i := ?v) ?e ?_); (case e => exact rfl))
    | with_reducible refine Ev.w_tup ?_
    | with_reducible refine Ev.w_lst ?_
    | ((with_reducible refine Ev.len_and ?e ?_); (case e => exact rfl))
    | with_reducible refine Ev.w_isi ?_
    | ((with_reducible refine Ev.ex_ty (u := ?v) ?e ?_); (case e => first | exact rfl | assumption))
    | with_reducible refine Ev.w_bi1 ?_
    | with_reducible refine Ev.w_bi ?_
    | ((with_reducible refine Ev.wf_of (r := ?v) ?e ?_); (case e => exact rfl))
    | with_reducible refine Ev.nal_fr ?_
    | with_reducible refine Ev.s_cons ?_
    | with_reducible refine Ev.s_nil ?_
    | with_reducible refine Ev.s_ifs ?_
    | with_reducible refine Ev.s_asg ?_
    | with_reducible refine Ev.s_ret ?_
    | ((with_reducible refine Ev.s_retv (d := ?v) ?e ?_); (case e => exact rfl))
    | ((with_reducible refine Ev.s_reto (d := ?v) ?e ?_); (case e => exact rfl))
    | with_reducible refine Ev.s_retN ?_
    | with_reducible refine Ev.s_tgt ?_
    | with_reducible refine Ev.ex_sh ?_
    | ((with_reducible refine Ev.ex_asg (env' := ?v) ?e ?_); (case e => exact rfl))
    | with_reducible refine Ev.s_par ?_
    | ((with_reducible refine Ev.nal2 ?e ?_); (case e => exact rfl))
    | with_reducible refine Ev.s_exp ?_
    | with_reducible refine Ev.s_rai ?_
    | with_reducible refine Ev.s_tri ?_
    | with_reducible refine Ev.s_pas ?_
    | with_reducible refine Ev.w_sl ?_
    | with_reducible refine Ev.w_nop ?_
    | ((with_reducible refine Ev.ex_part (l := ?v) ?e ?_); (case e => exact rfl))
    | ((with_reducible refine Ev.wl_of (r := ?v) ?e ?_); (case e => exact rfl))
    | ((with_reducible refine Ev.s_frz (env' := ?v) ?e ?_); (case e => exact rfl))
    | with_reducible refine Ev.s_for ?_
    | with_reducible refine Ev.w_over ?_
    | ((with_reducible refine Ev.ex_over (ds := ?v) ?e ?f ?_); (case e => exact rfl); (case f => exact rfl))
    | with_reducible refine Ev.w_lc ?_
    | ((with_reducible refine Ev.w_glb (d := ?v) ?e ?_); (case e => exact rfl))
    | ((with_reducible refine Ev.nal_c ?e ?_); (case e => exact rfl))
    | ((with_reducible refine Ev.bt_b ?_ ?_) <;> intro _))
namespace K01
open Ev PySem L2
section
variable {k : Nat} {ρ : Sto} {a b c d : Int}
theorem s_near {x0 x2 x4 x5 x6 x7 x8 x9 x10 x11 x12 : Option Slot} {r : List (Option Slot)} (hg : Good ρ) (h1 : Frn 50 (a, b)) {X : Xc → Sto → Prop} {QL : List D → Sto → Prop} (hq : ∀ ρ' xs, Good ρ' → (∀ x ∈ xs, SV x) → QL xs ρ') :
    WR (evI g (R (k+6)) (Iw.over (E.bin .add (E.lst (Es.cons (E.var 3) (Es.cons (E.call 26 (Es.cons (E.var 1) (Es.cons (E.var 3) (Es.cons (E.con (D.int 2)) Es.nil)))) (Es.cons (E.tup (Es.cons (E.bin .mul (E.ix (E.var 3) (E.con (D.int 0))) (E.con (D.int 2))) (Es.cons (E.bin .mul (E.ix (E.var 3) (E.con (D.int 1))) (E.con (D.int 2))) Es.nil))) (Es.cons (E.tup (Es.cons (E.ix (E.var 3) (E.con (D.int 0))) (Es.cons (E.bin .sub (E.con (D.int 0)) (E.ix (E.var 3) (E.con (D.int 1)))) Es.nil))) (Es.cons (E.bi1 .list (E.var 3)) (Es.cons (E.bin .add (E.var 3) (E.tup (Es.cons (E.con (D.int 1)) Es.nil))) (Es.cons (E.ix (E.var 3) (E.con (D.int 0))) Es.nil)))))))) (E.lc [8] (Tg.nm 8) (Iw.rng (Es.cons (E.con (D.int 3)) Es.nil)) E.nop (E.call 40 (Es.cons (E.var 1) Es.nil))))) false (x0 :: some ⟨false, .loc 0⟩ :: x2 :: some ⟨false, pd (a, b)⟩ :: x4 :: x5 :: x6 :: x7 :: x8 :: r) ρ) QL X := by
  have B1 : Bd 50 a := h1.2.1
  have B2 : Bd 50 b := h1.2.2
  have b2 : Bd 40 2 := by unfold Bd; omega
  have key := s_spoilt2 (k := k+2) (ρ := ρ) a b (B1.mono (by omega)) (B2.mono (by omega)) hg
  unfold pd at key ⊢
  repeat' (walk_at "ev1")
  refine WR.mono key ?_ fun _ _ q => False.elim q
  rintro r1 ρ1 ⟨g1, y, e, hy⟩
  subst e
  repeat' (walk_at "ev1")
  · refine w_rng1 ?_
    repeat' (walk_at "ev1")
    refine ⟨by omega, by decide, ?_⟩
    refine lc_inv Good (fun y => SV y) _ g1 (fun x hx ρ2 g2 => ?_) fun ys ρ2 g2 hl hp => ?_
    · refine w_turn0 rfl ?_
      repeat' (walk_at "ev1")
      have key := s_bad (k := k+3) (ρ := ρ2) g2
      refine WR.mono key ?_ fun _ _ q => False.elim q
      rintro r2 ρ3 ⟨g3, z, hz, e⟩
      subst e
      exact ⟨by simp, g3, z, rfl, (bad_all hz).1⟩
    · have hl : ys.length = 3 := by rw [hl]; rfl
      refine wb_addL ?_ (by rw [hl]; show 7 + 3 ≤ sizeLine; decide)
      repeat' (walk_at "ev1")
      refine hq _ _ g2 fun x hx => ?_
      rcases List.mem_append.mp hx with hx | hx
      · simp only [List.mem_cons, List.not_mem_nil, or_false] at hx
        rcases hx with rfl | rfl | rfl | rfl | rfl | rfl | rfl
        · exact sv_of rfl fun x y e => by cases e; exact ⟨B1.mono (by omega), B2.mono (by omega)⟩
        · exact hy
        · exact sv_of rfl fun x y e => by cases e; exact ⟨B1.mul b2 (by omega), B2.mul b2 (by omega)⟩
        · exact sv_of rfl fun x y e => by cases e; exact ⟨B1.mono (by omega), by rw [Int.zero_sub]; exact B2.neg.mono (by omega)⟩
        · exact sv_of rfl fun x y e => nomatch e
        · exact sv_of rfl fun x y e => by cases e
        · exact sv_of rfl fun x y e => nomatch e
      · exact hp x hx
  all_goals first | exact B1.ok b2 (by omega) (by omega) | exact B2.ok b2 (by omega) (by omega)
end
end K01
end

section
set_option Elab.async false
set_option linter.all false
set_option maxRecDepth 100000
set_option exponentiation.threshold 100
set_option maxHeartbeats 400000
local macro_rules
  | `(tactic| walk_at "ev1") => `(tactic| first
    | with_reducible refine Ev.w_con ?_
    | ((with_reducible refine Ev.w_sh (d := ?v) ?e ?_); (case e => exact rfl))
    | ((with_reducible refine Ev.w_al (d := ?v) ?e ?_); (case e => exact rfl))
    | with_reducible refine Ev.nal_sh ?_
    | with_reducible refine Ev.w_cons ?_
    | with_reducible refine Ev.w_nil ?_
    | with_reducible refine Ev.w_bin ?_
    | with_reducible refine Ev.wb_add ?_
    | with_reducible refine Ev.wb_sub ?_
    | with_reducible refine Ev.wb_mul ?_ ?_
    | with_reducible refine Ev.wb_fdiv ?_ ?_
    | with_reducible refine Ev.wb_mod ?_ ?_
    | ((with_reducible refine Ev.wb_of (r := ?v) ?e ?_); (case e => exact rfl))
    | with_reducible refine Ev.w_ix ?_
    | ((with_reducible refine Ev.wi_of (r := ?v) ?e ?_); (case e => exact rfl))
    | with_reducible refine Ev.w_call ?_
    | with_reducible refine Ev.w_callk ?_
    | ((with_reducible refine Ev.ex_perm (xs := ?v) ?e ?_); (case e => exact rfl))
    | with_reducible refine Ev.w_cmp ?_
    | with_reducible refine Ev.w_chn ?_
    | with_reducible refine Ev.wc_lt ?_
    | with_reducible refine Ev.wc_le ?_
    | with_reducible refine Ev.wc_gt ?_
    | with_reducible refine Ev.wc_ge ?_
    | with_reducible refine Ev.wc_eqI ?_
    | with_reducible refine Ev.wc_neI ?_
    | ((with_reducible refine Ev.wc_isN (b := ?v) ?e ?_); (case e => exact rfl))
    | ((with_reducible refine Ev.wc_notN (b := ?v) ?e ?_); (case e => exact rfl))
    | with_reducible refine Ev.w_andE ?_
    | with_reducible refine Ev.w_orE ?_
    | with_reducible refine Ev.w_ite ?_
    | ((with_reducible refine Ev.tv_b' (b := ?v) ?e ?_); (case e => exact rfl))
    | ((with_reducible refine Ev.bt_t' ?e ?_); (case e => exact rfl))
    | ((with_reducible refine Ev.bt_f' ?e ?_); (case e => exact rfl))
    | with_reducible refine Ev.bt_n ?_
    | ((with_reducible refine Ev.bt_d ?_ ?_) <;> intro _)
    | with_reducible refine Ev.w_not ?_
    | ((with_reducible refine Ev.ex_tru (b := ?v) ?e ?_); (case e => exact rfl))
    | with_reducible refine Ev.w_neg ?_
    | ((with_reducible refine Ev.ex_int (i := ?v) ?e ?_); (case e => exact rfl))
    | with_reducible refine Ev.w_tup ?_
    | with_reducible refine Ev.w_lst ?_
    | ((with_reducible refine Ev.len_and ?e ?_); (case e => exact rfl))
    | with_reducible refine Ev.w_isi ?_
    | ((with_reducible refine Ev.ex_ty (u := ?v) ?e ?_); (case e => first | exact rfl | assumption))
    | with_reducible refine Ev.w_bi1 ?_
    | with_reducible refine Ev.w_bi ?_
    | ((with_reducible refine Ev.wf_of (r := ?v) ?e ?_); (case e => exact rfl))
    | with_reducible refine Ev.nal_fr ?_
    | with_reducible refine Ev.s_cons ?_
    | with_reducible refine Ev.s_nil ?_
    | with_reducible refine Ev.s_ifs ?_
    | with_reducible refine Ev.s_asg ?_
    | with_reducible refine Ev.s_ret ?_
    | ((with_reducible refine Ev.s_retv (d := ?v) ?e ?_); (case e => exact rfl))
    | ((with_reducible refine Ev.s_reto (d := ?v) ?e ?_); (case e => exact rfl))
    | with_reducible refine Ev.s_retN ?_
    | with_reducible refine Ev.s_tgt ?_
    | with_reducible refine Ev.ex_sh ?_
    | ((with_reducible refine Ev.ex_asg (env' := ?v) ?e ?_); (case e => exact rfl))
    | with_reducible refine Ev.s_par ?_
    | ((with_reducible refine Ev.nal2 ?e ?_); (case e => exact rfl))
    | with_reducible refine Ev.s_exp ?_
    | with_reducible refine Ev.s_rai ?_
    | with_reducible refine Ev.s_tri ?_
    | with_reducible refine Ev.s_pas ?_
    | with_reducible refine Ev.w_sl ?_
    | with_reducible refine Ev.w_nop ?_
    | ((with_reducible refine Ev.ex_part (l := ?v) ?e ?_); (case e => exact rfl))
    | ((with_reducible refine Ev.wl_of (r := ?v) ?e ?_); (case e => exact rfl))
    | ((with_reducible refine Ev.s_frz (env' := ?v) ?e ?_); (case e => exact rfl))
    | with_reducible refine Ev.s_for ?_
    | with_reducible refine Ev.w_over ?_
    | ((with_reducible refine Ev.ex_over (ds := ?v) ?e ?f ?_); (case e => exact rfl); (case f => exact rfl))
    | with_reducible refine Ev.w_lc ?_
    | ((with_reducible refine Ev.w_glb (d := ?v) ?e ?_); (case e => exact rfl))
    | ((with_reducible refine Ev.nal_c ?e ?_); (case e => exact rfl))
    | ((with_reducible refine Ev.bt_b ?_ ?_) <;> intro _))
namespace K01
open Ev PySem L2
section
variable {k : Nat} {ρ : Sto} {a b c d : Int}
/-- five bad pairs told -/
theorem s_words5 {x y : D} {i j : Nat} {env : Envr} (h6 : 6 < env.length) (hi : i ≠ 6) (hj : j ≠ 6) (ei : env[i]? = some (some ⟨false, x⟩)) (ej : env[j]? = some (some ⟨false, y⟩)) (px : Pv x) (py : Pv y) (h : isFr x = false ∨ isFr y = false) {X : Xc → Sto → Prop} {Q : Rv → Sto → Prop} (hq : Q ⟨.lst [.str "number", .str "number", .str "number", .str "number", .str "number"], .fr⟩ ρ) :
    WR (ev g (R (k+6)) (E.lc [6] (Tg.nm 6) (Iw.rng (Es.cons (E.con (D.int 5)) Es.nil)) E.nop (E.call 41 (Es.cons (E.var 6) (Es.cons (E.var i) (Es.cons (E.var j) Es.nil))))) env ρ) Q X := by
  have told : ∀ (w : Int) (f : Nat), (w, f) ∈ toldF → (f = 14 ∨ f = 15 ∨ f = 16 ∨ f = 17 ∨ f = 18) → R (k+6) 41 [.int w, x, y] ρ = .ok ⟨.str "number", .sh⟩ ρ := fun w f hw hf =>
    told_x (k := k+5) hw (by omega) (x_two (k := k+1) hf px py h)
  have as : ∀ w : D, asgT (.nm 6) w (wipeE env [6]) = some ((env.set 6 none).set 6 (some ⟨false, w⟩)) := fun w => by
    have l : 6 < (wipeE env [6]).length := by rw [wipeE_len]; exact h6
    unfold asgT
    rw [if_pos l]
    rfl
  have turn : ∀ (w : Int) (f : Nat), (w, f) ∈ toldF → (f = 14 ∨ f = 15 ∨ f = 16 ∨ f = 17 ∨ f = 18) → ∀ {QO : Option D → Sto → Prop}, QO (some (.str "number")) ρ → WR (lcTurn g (R (k+6)) env [6] (.nm 6) .nop (E.call 41 (Es.cons (E.var 6) (Es.cons (E.var i) (Es.cons (E.var j) Es.nil)))) (.int w) ρ) QO X := fun w f hw hf QO q => by
    refine w_turn0 (as _) ?_
    have e6 : ((env.set 6 none).set 6 (some ⟨false, .int w⟩))[6]? = some (some ⟨false, D.int w⟩) := List.getElem?_set_self (by rw [List.length_set]; exact h6)
    have e1 : ((env.set 6 none).set 6 (some ⟨false, .int w⟩))[i]? = some (some ⟨false, x⟩) := by rw [List.getElem?_set_ne (Ne.symm hi), List.getElem?_set_ne (Ne.symm hi)]; exact ei
    have e2 : ((env.set 6 none).set 6 (some ⟨false, .int w⟩))[j]? = some (some ⟨false, y⟩) := by rw [List.getElem?_set_ne (Ne.symm hj), List.getElem?_set_ne (Ne.symm hj)]; exact ej
    refine w_call (w_cons (w_sh e6 (nal_sh (w_cons (w_sh e1 (nal_sh (w_cons (w_sh e2 (nal_sh (w_nil ?_)))))))))) 
    show WR (R (k+6) 41 [.int w, x, y] ρ) _ _
    rw [told w f hw hf]
    exact nal_sh q
  refine w_lc (w_rng1 ?_)
  repeat' (walk_at "ev1")
  refine ⟨by omega, by decide, ?_⟩
  rw [rng5]
  refine w_lc1 (turn 0 14 (by simp [toldF]) (by omega) ?_)
  refine w_lc1 (turn 1 15 (by simp [toldF]) (by omega) ?_)
  refine w_lc1 (turn 2 16 (by simp [toldF]) (by omega) ?_)
  refine w_lc1 (turn 3 17 (by simp [toldF]) (by omega) ?_)
  refine w_lc1 (turn 4 18 (by simp [toldF]) (by omega) ?_)
  exact w_lc0 hq
end
end K01
end

section
set_option Elab.async false
set_option linter.all false
set_option maxRecDepth 100000
set_option exponentiation.threshold 100
set_option maxHeartbeats 400000
local macro_rules
  | `(tactic| walk_at "ev1") => `(tactic| first
    | with_reducible refine Ev.w_con ?_
    | ((with_reducible refine Ev.w_sh (d := ?v) ?e ?_); (case e => exact rfl))
    | ((with_reducible refine Ev.w_al (d := ?v) ?e ?_); (case e => exact rfl))
    | with_reducible refine Ev.nal_sh ?_
    | with_reducible refine Ev.w_cons ?_
    | with_reducible refine Ev.w_nil ?_
    | with_reducible refine Ev.w_bin ?_
    | with_reducible refine Ev.wb_add ?_
    | with_reducible refine Ev.wb_sub ?_
    | with_reducible refine Ev.wb_mul ?_ ?_
    | with_reducible refine Ev.wb_fdiv ?_ ?_
    | with_reducible refine Ev.wb_mod ?_ ?_
    | ((with_reducible refine Ev.wb_of (r := ?v) ?e ?_); (case e => exact rfl))
    | with_reducible refine Ev.w_ix ?_
    | ((with_reducible refine Ev.wi_of (r := ?v) ?e ?_); (case e => exact rfl))
    | with_reducible refine Ev.w_call ?_
    | with_reducible refine Ev.w_callk ?_
    | ((with_reducible refine Ev.ex_perm (xs := ?v) ?e ?_); (case e => exact rfl))
    | with_reducible refine Ev.w_cmp ?_
    | with_reducible refine Ev.w_chn ?_
    | with_reducible refine Ev.wc_lt ?_
    | with_reducible refine Ev.wc_le ?_
    | with_reducible refine Ev.wc_gt ?_
    | with_reducible refine Ev.wc_ge ?_
    | with_reducible refine Ev.wc_eqI ?_
    | with_reducible refine Ev.wc_neI ?_
    | ((with_reducible refine Ev.wc_isN (b := ?v) ?e ?_); (case e => exact rfl))
    | ((with_reducible refine Ev.wc_notN (b := ?v) ?e ?_); (case e => exact rfl))
    | with_reducible refine Ev.w_andE ?_
    | with_reducible refine Ev.w_orE ?_
    | with_reducible refine Ev.w_ite ?_
    | ((with_reducible refine Ev.tv_b' (b := ?v) ?e ?_); (case e => exact rfl))
    | ((with_reducible refine Ev.bt_t' ?e ?_); (case e => exact rfl))
    | ((with_reducible refine Ev.bt_f' ?e ?_); (case e => exact rfl))
    | with_reducible refine Ev.bt_n ?_
    | ((with_reducible refine Ev.bt_d ?_ ?_) <;> intro _)
    | with_reducible refine Ev.w_not ?_
    | ((with_reducible refine Ev.ex_tru (b := ?v) ?e ?_); (case e => exact rfl))
    | with_reducible refine Ev.w_neg ?_
    | ((with_reducible refine Ev.ex_int (i := ?v) ?e ?_); (case e => exact rfl))
    | with_reducible refine Ev.w_tup ?_
    | with_reducible refine Ev.w_lst ?_
    | ((with_reducible refine Ev.len_and ?e ?_); (case e => exact rfl))
    | with_reducible refine Ev.w_isi ?_
    | ((with_reducible refine Ev.ex_ty (u := ?v) ?e ?_); (case e => first | exact rfl | assumption))
    | with_reducible refine Ev.w_bi1 ?_
    | with_reducible refine Ev.w_bi ?_
    | ((with_reducible refine Ev.wf_of (r := ?v) ?e ?_); (case e => exact rfl))
    | with_reducible refine Ev.nal_fr ?_
    | with_reducible refine Ev.s_cons ?_
    | with_reducible refine Ev.s_nil ?_
    | with_reducible refine Ev.s_ifs ?_
    | with_reducible refine Ev.s_asg ?_
    | with_reducible refine Ev.s_ret ?_
    | ((with_reducible refine Ev.s_retv (d := ?v) ?e ?_); (case e => exact rfl))
    | ((with_reducible refine Ev.s_reto (d := ?v) ?e ?_); (case e => exact rfl))
    | with_reducible refine Ev.s_retN ?_
    | with_reducible refine Ev.s_tgt ?_
    | with_reducible refine Ev.ex_sh ?_
    | ((with_reducible refine Ev.ex_asg (env' := ?v) ?e ?_); (case e => exact rfl))
    | with_reducible refine Ev.s_par ?_
    | ((with_reducible refine Ev.nal2 ?e ?_); (case e => exact rfl))
    | with_reducible refine Ev.s_exp ?_
    | with_reducible refine Ev.s_rai ?_
    | with_reducible refine Ev.s_tri ?_
    | with_reducible refine Ev.s_pas ?_
    | with_reducible refine Ev.w_sl ?_
    | with_reducible refine Ev.w_nop ?_
    | ((with_reducible refine Ev.ex_part (l := ?v) ?e ?_); (case e => exact rfl))
    | ((with_reducible refine Ev.wl_of (r := ?v) ?e ?_); (case e => exact rfl))
    | ((with_reducible refine Ev.s_frz (env' := ?v) ?e ?_); (case e => exact rfl))
    | with_reducible refine Ev.s_for ?_
    | with_reducible refine Ev.w_over ?_
    | ((with_reducible refine Ev.ex_over (ds := ?v) ?e ?f ?_); (case e => exact rfl); (case f => exact rfl))
    | with_reducible refine Ev.w_lc ?_
    | ((with_reducible refine Ev.w_glb (d := ?v) ?e ?_); (case e => exact rfl))
    | ((with_reducible refine Ev.nal_c ?e ?_); (case e => exact rfl))
    | ((with_reducible refine Ev.bt_b ?_ ?_) <;> intro _))
namespace K01
open Ev PySem L2
section
variable {k : Nat} {ρ : Sto} {a b : Int} {x y : D}
theorem x_power (px : Pv x) (h : isFr x = false) : R (k+4) 20 [x, y] ρ = .exc ⟨0, none⟩ ρ := by
  refine WR.eqX (WR.run (n := 4) (b := b_power) rfl ?_)
  unfold b_power
  repeat' (walk_at "ev1")
  exact WR.ofX (x_check_number _ _ _ px h) ⟨rfl, rfl⟩
theorem x_powerC (px : Pv x) (h : isFr x = true) (py : Pl y) (hy : isI y = false ∨ ∃ i, y = .int i ∧ i < 0) : R (k+4) 20 [x, y] ρ = .exc ⟨1, none⟩ ρ := by
  refine WR.eqX (WR.run (n := 4) (b := b_power) rfl ?_)
  unfold b_power
  repeat' (walk_at "ev1")
  refine WR.of (s_check_number _ _ _ px h) ?_
  repeat' (walk_at "ev1")
  exact WR.ofX (x_check_count _ _ _ _ py hy) ⟨rfl, rfl⟩
def oddL : List D := [.non, .int (-1), .bl true, .str "2", .tup [.int 1]]
theorem odd_all {y : D} (h : y ∈ oddL) : Pl y ∧ (isI y = false ∨ ∃ i, y = .int i ∧ i < 0) := by
  simp only [oddL, List.mem_cons, List.not_mem_nil, or_false] at h
  rcases h with rfl | rfl | rfl | rfl | rfl
  · exact ⟨⟨_, rfl⟩, .inl rfl⟩
  · exact ⟨⟨_, rfl⟩, .inr ⟨_, rfl, by decide⟩⟩
  · exact ⟨⟨_, rfl⟩, .inl rfl⟩
  · exact ⟨⟨_, rfl⟩, .inl rfl⟩
  · exact ⟨⟨_, rfl⟩, .inl rfl⟩
section
variable {one bad odd : D}
theorem t1 : R (k+6) 41 [.int 5, .non, .int 0] ρ = .ok ⟨.str "number", .sh⟩ ρ := told_x (k := k+5) (by simp [toldF]) (by omega) (x_fraction (k := k+2) _ _ ⟨_, rfl⟩ ⟨_, rfl⟩ (.inl rfl))
theorem t2 : R (k+6) 41 [.int 5, .int 1, .bl true] ρ = .ok ⟨.str "number", .sh⟩ ρ := told_x (k := k+5) (by simp [toldF]) (by omega) (x_fraction (k := k+2) _ _ ⟨_, rfl⟩ ⟨_, rfl⟩ (.inr rfl))
theorem t3 : R (k+6) 41 [.int 6, .non, .non] ρ = .ok ⟨.str "number", .sh⟩ ρ := told6x (k := k+5) (x_total (k := k+2) _ ⟨_, rfl⟩ (.inl fun xs e => nomatch e))
theorem t4 : R (k+6) 41 [.int 6, .lst [one], .non] ρ = .ok ⟨.str "number", .sh⟩ ρ := told6x (k := k+5) (x_total (k := k+2) _ ⟨_, rfl⟩ (.inl fun xs e => nomatch e))
theorem t5 (p1 : Pv one) (p2 : Pv bad) (h : isFr bad = false) : R (k+6) 41 [.int 6, .tup [one, bad], .non] ρ = .ok ⟨.str "number", .sh⟩ ρ := told6x (k := k+5) (x_total (k := k+2) _ ⟨_, rfl⟩ (.inr ⟨_, rfl, by simp, fun x hx => by
  simp only [List.mem_cons, List.not_mem_nil, or_false] at hx
  rcases hx with rfl | rfl
  · exact p1
  · exact p2, by simp [h]⟩))
theorem t6 (p2 : Pv bad) (h : isFr bad = false) : R (k+6) 41 [.int 7, bad, odd] ρ = .ok ⟨.str "number", .sh⟩ ρ := told_x (k := k+5) (by simp [toldF]) (by omega) (x_power (k := k+1) p2 h)
theorem t7 (p1 : Pv one) (h : isFr one = true) (ho : odd ∈ oddL) : R (k+6) 41 [.int 7, one, odd] ρ = .ok ⟨.str "index", .sh⟩ ρ := told_x (k := k+5) (by simp [toldF]) (by omega) (x_powerC (k := k+1) p1 h (odd_all ho).1 (odd_all ho).2)
theorem t8 (p2 : Pv bad) (h : isFr bad = false) : R (k+6) 41 [.int 3, bad, .tup [.int 0, .int 1]] ρ = .ok ⟨.str "number", .sh⟩ ρ := told_x (k := k+5) (f := 17) (c := 0) (by simp [toldF]) (by omega) (x_two (k := k+1) (f := 17) (by omega) p2 (pvB_of rfl) (.inl h))
end
end
end K01
end

section
set_option Elab.async false
set_option linter.all false
set_option maxRecDepth 100000
set_option exponentiation.threshold 100
set_option maxHeartbeats 400000
local macro_rules
  | `(tactic| walk_at "ev1") => `(tactic| first
    | with_reducible refine Ev.w_con ?_
    | ((with_reducible refine Ev.w_sh (d := ?v) ?e ?_); (case e => exact rfl))
    | ((with_reducible refine Ev.w_al (d := ?v) ?e ?_); (case e => exact rfl))
    | with_reducible refine Ev.nal_sh ?_
    | with_reducible refine Ev.w_cons ?_
    | with_reducible refine Ev.w_nil ?_
    | with_reducible refine Ev.w_bin ?_
    | with_reducible refine Ev.wb_add ?_
    | with_reducible refine Ev.wb_sub ?_
    | with_reducible refine Ev.wb_mul ?_ ?_
    | with_reducible refine Ev.wb_fdiv ?_ ?_
    | with_reducible refine Ev.wb_mod ?_ ?_
    | ((with_reducible refine Ev.wb_of (r := ?v) ?e ?_); (case e => exact rfl))
    | with_reducible refine Ev.w_ix ?_
    | ((with_reducible refine Ev.wi_of (r := ?v) ?e ?_); (case e => exact rfl))
    | with_reducible refine Ev.w_call ?_
    | with_reducible refine Ev.w_callk ?_
    | ((with_reducible refine Ev.ex_perm (xs := ?v) ?e ?_); (case e => exact rfl))
    | with_reducible refine Ev.w_cmp ?_
    | with_reducible refine Ev.w_chn ?_
    | with_reducible refine Ev.wc_lt ?_
    | with_reducible refine Ev.wc_le ?_
    | with_reducible refine Ev.wc_gt ?_
    | with_reducible refine Ev.wc_ge ?_
    | with_reducible refine Ev.wc_eqI ?_
    | with_reducible refine Ev.wc_neI ?_
    | ((with_reducible refine Ev.wc_isN (b := ?v) ?e ?_); (case e => exact rfl))
    | ((with_reducible refine Ev.wc_notN (b := ?v) ?e ?_); (case e => exact rfl))
    | with_reducible refine Ev.w_andE ?_
    | with_reducible refine Ev.w_orE ?_
    | with_reducible refine Ev.w_ite ?_
    | ((with_reducible refine Ev.tv_b' (b := ?v) ?e ?_); (case e => exact rfl))
    | ((with_reducible refine Ev.bt_t' ?e ?_); (case e => exact rfl))
    | ((with_reducible refine Ev.bt_f' ?e ?_); (case e => exact rfl))
    | with_reducible refine Ev.bt_n ?_
    | ((with_reducible refine Ev.bt_d ?_ ?_) <;> intro _)
    | with_reducible refine Ev.w_not ?_
    | ((with_reducible refine Ev.ex_tru (b := ?v) ?e ?_); (case e => exact rfl))
    | with_reducible refine Ev.w_neg ?_
    | ((with_reducible refine Ev.ex_int (i := ?v) ?e ?_); (case e => exact rfl))
    | with_reducible refine Ev.w_tup ?_
    | with_reducible refine Ev.w_lst ?_
    | ((with_reducible refine Ev.len_and ?e ?_); (case e => exact rfl))
    | with_reducible refine Ev.w_isi ?_
    | ((with_reducible refine Ev.ex_ty (u := ?v) ?e ?_); (case e => first | exact rfl | assumption))
    | with_reducible refine Ev.w_bi1 ?_
    | with_reducible refine Ev.w_bi ?_
    | ((with_reducible refine Ev.wf_of (r := ?v) ?e ?_); (case e => exact rfl))
    | with_reducible refine Ev.nal_fr ?_
    | with_reducible refine Ev.s_cons ?_
    | with_reducible refine Ev.s_nil ?_
    | with_reducible refine Ev.s_ifs ?_
    | with_reducible refine Ev.s_asg ?_
    | with_reducible refine Ev.s_ret ?_
    | ((with_reducible refine Ev.s_retv (d := ?v) ?e ?_); (case e => exact rfl))
    | ((with_reducible refine Ev.s_reto (d := ?v) ?e ?_); (case e => exact rfl))
    | with_reducible refine Ev.s_retN ?_
    | with_reducible refine Ev.s_tgt ?_
    | with_reducible refine Ev.ex_sh ?_
    | ((with_reducible refine Ev.ex_asg (env' := ?v) ?e ?_); (case e => exact rfl))
    | with_reducible refine Ev.s_par ?_
    | ((with_reducible refine Ev.nal2 ?e ?_); (case e => exact rfl))
    | with_reducible refine Ev.s_exp ?_
    | with_reducible refine Ev.s_rai ?_
    | with_reducible refine Ev.s_tri ?_
    | with_reducible refine Ev.s_pas ?_
    | with_reducible refine Ev.w_sl ?_
    | with_reducible refine Ev.w_nop ?_
    | ((with_reducible refine Ev.ex_part (l := ?v) ?e ?_); (case e => exact rfl))
    | ((with_reducible refine Ev.wl_of (r := ?v) ?e ?_); (case e => exact rfl))
    | ((with_reducible refine Ev.s_frz (env' := ?v) ?e ?_); (case e => exact rfl))
    | with_reducible refine Ev.s_for ?_
    | with_reducible refine Ev.w_over ?_
    | ((with_reducible refine Ev.ex_over (ds := ?v) ?e ?f ?_); (case e => exact rfl); (case f => exact rfl))
    | with_reducible refine Ev.w_lc ?_
    | ((with_reducible refine Ev.w_glb (d := ?v) ?e ?_); (case e => exact rfl))
    | ((with_reducible refine Ev.nal_c ?e ?_); (case e => exact rfl))
    | ((with_reducible refine Ev.bt_b ?_ ?_) <;> intro _))
namespace K01
open Ev PySem L2
def turnB : Ss := match b_law with
  | .cons _ (.prm _ (.cons (.for_ _ _ b) _)) => b
  | _ => .nil
def tailB : Ss := match turnB with
  | .cons _ (.cons _ (.cons _ (.frz _ (.cons _ (.cons _ (.cons _ (.cons _ (.cons _ (.cons _ (.cons _ (.cons _ (.cons _ t)))))))))))) => t
  | _ => .nil
theorem wc_neL {ρ : Sto} {x y : List D} {Q : Bool → Prop} (h : (okD 60 (.lst x) && okD 60 (.lst y)) = true) (q : Q (!eqv (.lst x) (.lst y))) : WC .ne (.lst x) (.lst y) ρ Q := by
  rw [Bool.and_eq_true] at h
  exact wc_ne h.1 h.2 q
/-- how the law's names stand between two turns -/
def Sh (e : Envr) : Prop := ∃ x0 o2 o3 o4 o5 o6 o7 o8 o9 o10 o11 o12 o13 o14 o15, e = [x0, some ⟨false, .loc 0⟩, o2, o3, o4, o5, o6, o7, o8, o9, o10, o11, o12, o13, o14, o15]
theorem s_tail {k : Nat} {ρ : Sto} {a b c d : Int} {x0 o2 o5 o6 o7 o8 o9 o10 o11 o12 o13 o14 o15 : Option Slot} (hg : Good ρ) (h1 : Frn 50 (a, b)) (h3 : Frn 52 (c, d)) :
    WS (exSs g (R (k+6)) T.sub wl tailB [x0, some ⟨false, .loc 0⟩, o2, some ⟨false, pd (a, b)⟩, some ⟨false, pd (c, d)⟩, o5, o6, o7, o8, o9, o10, o11, o12, o13, o14, o15] ρ) (fun e ρ => Good ρ ∧ Sh e) (fun _ _ => False) (fun _ _ _ => False) (fun _ _ => False) (fun e ρ => Good ρ ∧ Sh e) := by
  unfold tailB turnB b_law
  dsimp only
  have p1 : Pv (pd (a, b)) := pvB_of rfl
  have p3 : Pv (pd (c, d)) := pvB_of rfl
  have f1 : isFr (pd (a, b)) = true := isFr_i h1.1
  refine s_cons (s_tgt (w_tup (w_cons (w_call (w_cons (w_sh rfl (nal_sh (w_nil ?_))))))))
  refine WR.mono (s_bad (k := k+3) hg) ?_ fun _ _ q => False.elim q
  rintro r9 ρ9 ⟨g9, bad, hb, e⟩
  subst e
  obtain ⟨⟨pb, _⟩, fb⟩ := bad_all hb
  repeat' (walk_at "ev1")
  refine WR.mono (s_pick (k := k+4) (ρ := ρ9) (xs := oddL) (by simp [oddL]) g9) ?_ fun _ _ q => False.elim q
  rintro r10 ρ10 ⟨g10, odd, ho, e⟩
  subst e
  refine nal_sh (w_nil (len_and rfl (ex_sh (ex_asg rfl ?_))))
  -- eleven words
  refine s_cons (s_asg (w_bin (w_bin ?_)))
  refine s_words5 (by show 6 < 16; omega) (by omega) (by omega) rfl rfl pb p3 (.inl fb) ?_
  refine s_words5 (by show 6 < 16; omega) (by omega) (by omega) rfl rfl p1 pb (.inr fb) ?_
  repeat' (walk_at "ev1")
  refine WR.of (t8 (k := k) (bad := bad) pb fb) ?_
  refine nal_sh (w_nil (len_and rfl (wb_addL (nal_fr ?_) (by decide))))
  refine s_frz rfl (s_cons (s_ifs (w_cmp (w_sh rfl (w_bin (w_lst (w_cons (w_con (nal_sh (w_nil (len_and rfl (w_con (wb_mulL ?_ (by decide))))))))))))))
  refine wc_neL (by decide +kernel) ?_
  refine tv_b' rfl (bt_f' (by decide +kernel) (s_nil ?_))
  -- seven words
  refine s_cons (s_asg (w_lst ?_))
  refine w_cons (w_call (w_cons (w_con (nal_sh (w_cons (w_con (nal_sh (w_cons (w_con (nal_sh (w_nil ?_)))))))))))
  refine WR.of (t1 (k := k)) (nal_sh ?_)
  refine w_cons (w_call (w_cons (w_con (nal_sh (w_cons (w_con (nal_sh (w_cons (w_con (nal_sh (w_nil ?_)))))))))))
  refine WR.of (t2 (k := k)) (nal_sh ?_)
  refine w_cons (w_call (w_cons (w_con (nal_sh (w_cons (w_con (nal_sh (w_cons (w_con (nal_sh (w_nil ?_)))))))))))
  refine WR.of (t3 (k := k)) (nal_sh ?_)
  refine w_cons (w_call (w_cons (w_con (nal_sh (w_cons (w_lst (w_cons (w_sh rfl (nal_sh (w_nil (len_and rfl (nal_fr (w_cons (w_con (nal_sh (w_nil ?_))))))))))))))))
  refine WR.of (t4 (k := k)) (nal_sh ?_)
  refine w_cons (w_call (w_cons (w_con (nal_sh (w_cons (w_tup (w_cons (w_sh rfl (nal_sh (w_cons (w_sh rfl (nal_sh (w_nil (len_and rfl (nal_sh (w_cons (w_con (nal_sh (w_nil ?_)))))))))))))))))))
  refine WR.of (t5 (k := k) p1 pb fb) (nal_sh ?_)
  refine w_cons (w_call (w_cons (w_con (nal_sh (w_cons (w_sh rfl (nal_sh (w_cons (w_sh rfl (nal_sh (w_nil ?_)))))))))))
  refine WR.of (t6 (k := k) (odd := odd) pb fb) (nal_sh ?_)
  refine w_cons (w_call (w_cons (w_con (nal_sh (w_cons (w_sh rfl (nal_sh (w_cons (w_sh rfl (nal_sh (w_nil ?_)))))))))))
  refine WR.of (t7 (k := k) p1 f1 ho) (nal_sh ?_)
  refine w_nil (len_and rfl (nal_fr ?_))
  refine s_frz rfl (s_cons (s_ifs (w_cmp (w_sh rfl (w_bin (w_bin (w_lst (w_cons (w_con (nal_sh (w_nil (len_and rfl (w_con (wb_mulL ?_ (by decide)))))))))))))))
  refine w_lst (w_cons (w_con (nal_sh (w_nil (len_and rfl (wb_addL ?_ (by decide)))))))
  refine wc_neL (by decide +kernel) ?_
  refine tv_b' rfl (bt_f' (by decide +kernel) (s_nil (s_nil ?_)))
  exact ⟨g10, _, _, _, _, _, _, _, _, _, _, _, _, _, _, _, rfl⟩
end K01
end

section
set_option Elab.async false
set_option linter.all false
set_option maxRecDepth 100000
set_option exponentiation.threshold 100
set_option maxHeartbeats 400000
local macro_rules
  | `(tactic| walk_at "ev1") => `(tactic| first
    | with_reducible refine Ev.w_con ?_
    | ((with_reducible refine Ev.w_sh (d := ?v) ?e ?_); (case e => exact rfl))
    | ((with_reducible refine Ev.w_al (d := ?v) ?e ?_); (case e => exact rfl))
    | with_reducible refine Ev.nal_sh ?_
    | with_reducible refine Ev.w_cons ?_
    | with_reducible refine Ev.w_nil ?_
    | with_reducible refine Ev.w_bin ?_
    | with_reducible refine Ev.wb_add ?_
    | with_reducible refine Ev.wb_sub ?_
    | with_reducible refine Ev.wb_mul ?_ ?_
    | with_reducible refine Ev.wb_fdiv ?_ ?_
    | with_reducible refine Ev.wb_mod ?_ ?_
    | ((with_reducible refine Ev.wb_of (r := ?v) ?e ?_); (case e => exact rfl))
    | with_reducible refine Ev.w_ix ?_
    | ((with_reducible refine Ev.wi_of (r := ?v) ?e ?_); (case e => exact rfl))
    | with_reducible refine Ev.w_call ?_
    | with_reducible refine Ev.w_callk ?_
    | ((with_reducible refine Ev.ex_perm (xs := ?v) ?e ?_); (case e => exact rfl))
    | with_reducible refine Ev.w_cmp ?_
    | with_reducible refine Ev.w_chn ?_
    | with_reducible refine Ev.wc_lt ?_
    | with_reducible refine Ev.wc_le ?_
    | with_reducible refine Ev.wc_gt ?_
    | with_reducible refine Ev.wc_ge ?_
    | with_reducible refine Ev.wc_eqI ?_
    | with_reducible refine Ev.wc_neI ?_
    | ((with_reducible refine Ev.wc_isN (b := ?v) ?e ?_); (case e => exact rfl))
    | ((with_reducible refine Ev.wc_notN (b := ?v) ?e ?_); (case e => exact rfl))
    | with_reducible refine Ev.w_andE ?_
    | with_reducible refine Ev.w_orE ?_
    | with_reducible refine Ev.w_ite ?_
    | ((with_reducible refine Ev.tv_b' (b := ?v) ?e ?_); (case e => exact rfl))
    | ((with_reducible refine Ev.bt_t' ?e ?_); (case e => exact rfl))
    | ((with_reducible refine Ev.bt_f' ?e ?_); (case e => exact rfl))
    | with_reducible refine Ev.bt_n ?_
    | ((with_reducible refine Ev.bt_d ?_ ?_) <;> intro _)
    | with_reducible refine Ev.w_not ?_
    | ((with_reducible refine Ev.ex_tru (b := ?v) ?e ?_); (case e => exact rfl))
    | with_reducible refine Ev.w_neg ?_
    | ((with_reducible refine Ev.ex_int (i := ?v) ?e ?_); (case e => exact rfl))
    | with_reducible refine Ev.w_tup ?_
    | with_reducible refine Ev.w_lst ?_
    | ((with_reducible refine Ev.len_and ?e ?_); (case e => exact rfl))
    | with_reducible refine Ev.w_isi ?_
    | ((with_reducible refine Ev.ex_ty (u := ?v) ?e ?_); (case e => first | exact rfl | assumption))
    | with_reducible refine Ev.w_bi1 ?_
    | with_reducible refine Ev.w_bi ?_
    | ((with_reducible refine Ev.wf_of (r := ?v) ?e ?_); (case e => exact rfl))
    | with_reducible refine Ev.nal_fr ?_
    | with_reducible refine Ev.s_cons ?_
    | with_reducible refine Ev.s_nil ?_
    | with_reducible refine Ev.s_ifs ?_
    | with_reducible refine Ev.s_asg ?_
    | with_reducible refine Ev.s_ret ?_
    | ((with_reducible refine Ev.s_retv (d := ?v) ?e ?_); (case e => exact rfl))
    | ((with_reducible refine Ev.s_reto (d := ?v) ?e ?_); (case e => exact rfl))
    | with_reducible refine Ev.s_retN ?_
    | with_reducible refine Ev.s_tgt ?_
    | with_reducible refine Ev.ex_sh ?_
    | ((with_reducible refine Ev.ex_asg (env' := ?v) ?e ?_); (case e => exact rfl))
    | with_reducible refine Ev.s_par ?_
    | ((with_reducible refine Ev.nal2 ?e ?_); (case e => exact rfl))
    | with_reducible refine Ev.s_exp ?_
    | with_reducible refine Ev.s_rai ?_
    | with_reducible refine Ev.s_tri ?_
    | with_reducible refine Ev.s_pas ?_
    | with_reducible refine Ev.w_sl ?_
    | with_reducible refine Ev.w_nop ?_
    | ((with_reducible refine Ev.ex_part (l := ?v) ?e ?_); (case e => exact rfl))
    | ((with_reducible refine Ev.wl_of (r := ?v) ?e ?_); (case e => exact rfl))
    | ((with_reducible refine Ev.s_frz (env' := ?v) ?e ?_); (case e => exact rfl))
    | with_reducible refine Ev.s_for ?_
    | with_reducible refine Ev.w_over ?_
    | ((with_reducible refine Ev.ex_over (ds := ?v) ?e ?f ?_); (case e => exact rfl); (case f => exact rfl))
    | with_reducible refine Ev.w_lc ?_
    | ((with_reducible refine Ev.w_glb (d := ?v) ?e ?_); (case e => exact rfl))
    | ((with_reducible refine Ev.nal_c ?e ?_); (case e => exact rfl))
    | ((with_reducible refine Ev.bt_b ?_ ?_) <;> intro _))
namespace K01
open Ev PySem L2
theorem dt_dueN (n : Nat) (a b c d : Int) : Dt (n + 3) (.lst (duesL a b c d)) := .lst (n + 2) _ (by simp [duesL]) (by
  intro x hx
  simp only [duesL, List.mem_cons, List.not_mem_nil, or_false] at hx
  rcases hx with rfl | rfl | rfl | rfl | rfl
  · exact dt_l1 (n + 1) (dt_fr n _ _)
  · exact dt_l1 (n + 1) (dt_fr n _ _)
  · exact dt_l1 (n + 1) (dt_fr n _ _)
  · unfold due3
    split
    · exact .str _ _ strOk_none
    · exact dt_l1 (n + 1) (dt_fr n _ _)
  · exact dt_l1 (n + 1) (.bl _ _))
theorem s_turn {k : Nat} {ρ : Sto} {e : Envr} (hg : Good ρ) (he : Sh e) : WS (exSs g (R (k+6)) T.sub wl turnB e ρ) (fun e ρ => Good ρ ∧ Sh e) (fun _ _ => False) (fun _ _ _ => False) (fun _ _ => False) (fun e ρ => Good ρ ∧ Sh e) := by
  obtain ⟨x0, o2, o3, o4, o5, o6, o7, o8, o9, o10, o11, o12, o13, o14, o15, rfl⟩ := he
  unfold turnB b_law
  dsimp only
  -- one, other
  refine s_cons (s_tgt (w_tup (w_cons (w_call (w_cons (w_sh rfl (nal_sh (w_nil ?_))))))))
  refine WR.mono (s_wide (k := k+2) hg) ?_ fun _ _ q => False.elim q
  rintro r1 ρ1 ⟨g1, a, b, e, f1, ba, bb⟩
  subst e
  have h1 : Frn 50 (a, b) := ⟨f1, ba, bb⟩
  refine nal_sh (w_cons (w_call (w_cons (w_sh rfl (nal_sh (w_nil ?_))))))
  refine WR.mono (s_wide (k := k+2) g1) ?_ fun _ _ q => False.elim q
  rintro r2 ρ2 ⟨g2, c, d, e, f2, bc, bd⟩
  subst e
  have h2 : Frn 50 (c, d) := ⟨f2, bc, bd⟩
  refine nal_sh (w_nil (len_and rfl (ex_sh (ex_asg rfl ?_))))
  -- other
  refine s_cons (s_asg (pick_other (env := []) g2 h1 h2 _ ?_))
  intro ρ3 c' d' g3 h3
  refine nal_sh ?_
  obtain ⟨L, hL⟩ : ∃ L, L = duesL a b c' d' := ⟨_, rfl⟩
  have sm := s_same (ρ := ρ3) (k+5) _ (dt_dueN (k+2) a b c' d')
  refine s_cons (s_asg (s_due h1 h3 _ _ ?_))
  rw [← hL] at sm ⊢
  refine nal_fr ?_
  refine s_frz rfl ?_
  refine s_cons (s_ifs (w_not (w_call (w_cons (s_tolds h1 h3 ?_)))))
  rw [← hL]
  clear hL
  refine nal_fr (w_cons (w_sh rfl (nal_sh (w_nil ?_))))
  dsimp only
  rw [sm]
  refine ex_tru rfl (tv_b' rfl (bt_f' rfl (s_nil ?_)))
  -- there and back
  refine s_cons (s_ifs (s_back h1 h3 (tv_b' rfl (bt_f' rfl (s_nil ?_)))))
  -- some
  refine s_cons (s_asg (s_some g3 h1 h3 ?_))
  intro ρ4 ps g4 hps hpl
  refine nal_sh ?_
  refine s_cons (s_ifs (w_not (s_totals ps hps hpl (ex_tru rfl (tv_b' rfl (bt_f' rfl (s_nil ?_)))))))
  -- count
  refine s_cons (s_asg ?_)
  repeat' (walk_at "ev1")
  refine WR.mono (s_pick (k := k+4) (ρ := ρ4) (xs := [.int 0, .int 1, .int 2, .int 7, .int 30]) (by simp) g4) ?_ fun _ _ q => False.elim q
  rintro r5 ρ5 ⟨g5, z, hz, e⟩
  subst e
  have hn : ∃ n : Nat, z = .int (n : Int) ∧ n ≤ 30 := by
    simp only [List.mem_cons, List.not_mem_nil, or_false] at hz
    rcases hz with rfl | rfl | rfl | rfl | rfl
    · exact ⟨0, rfl, by omega⟩
    · exact ⟨1, rfl, by omega⟩
    · exact ⟨2, rfl, by omega⟩
    · exact ⟨7, rfl, by omega⟩
    · exact ⟨30, rfl, by omega⟩
  obtain ⟨n, rfl, hn⟩ := hn
  refine nal_sh ?_
  refine s_cons (s_ifs (w_not (s_count n n rfl hn h1 (ex_tru rfl (tv_b' rfl (bt_f' rfl (s_nil ?_)))))))
  -- top, bottom
  refine s_cons (s_par ?_)
  repeat' (walk_at "ev1")
  refine WR.mono (s_pick (k := k+4) (ρ := ρ5) (xs := [.int a, .int (10 ^ (59 : Int).toNat + 7), .int (-360360), .int 0]) (by simp) g5) ?_ fun _ _ q => False.elim q
  rintro r6 ρ6 ⟨g6, z, hz, e⟩
  subst e
  have ht : ∃ t : Int, z = .int t ∧ Bd 300 t := by
    simp only [List.mem_cons, List.not_mem_nil, or_false] at hz
    rcases hz with rfl | rfl | rfl | rfl
    · exact ⟨_, rfl, h1.2.1.mono (by omega)⟩
    · exact ⟨_, rfl, by unfold Bd; decide⟩
    · exact ⟨_, rfl, by unfold Bd; decide⟩
    · exact ⟨_, rfl, by unfold Bd; decide⟩
  obtain ⟨t, rfl, ht⟩ := ht
  repeat' (walk_at "ev1")
  refine WR.mono (s_pick (k := k+4) (ρ := ρ6) (xs := [.int c', .int (-720), .int 0, .int (10 ^ (58 : Int).toNat)]) (by simp) g6) ?_ fun _ _ q => False.elim q
  rintro r7 ρ7 ⟨g7, z, hz, e⟩
  subst e
  have hu : ∃ u : Int, z = .int u ∧ Bd 300 u := by
    simp only [List.mem_cons, List.not_mem_nil, or_false] at hz
    rcases hz with rfl | rfl | rfl | rfl
    · exact ⟨_, rfl, h3.2.1.mono (by omega)⟩
    · exact ⟨_, rfl, by unfold Bd; decide⟩
    · exact ⟨_, rfl, by unfold Bd; decide⟩
    · exact ⟨_, rfl, by unfold Bd; decide⟩
  obtain ⟨u, rfl, hu⟩ := hu
  refine nal2 rfl ?_
  refine s_cons (s_ifs (w_not (s_told5 t u ht hu (ex_tru rfl (tv_b' rfl (bt_f' rfl (s_nil ?_)))))))
  -- near values
  refine s_cons (s_for (s_near (x9 := none) (x10 := none) (x11 := none) (x12 := none) g7 h1 ?_))
  intro ρ8 xs g8 hxs
  refine s_forI (fun i env ρ' => ρ' = ρ8 ∧ ∃ o12, env = [x0, some ⟨false, .loc 0⟩, o2, some ⟨false, pd (a, b)⟩, some ⟨false, pd (c', d')⟩, some ⟨false, .lst L⟩, o6, some ⟨false, .tup (ps.map pd)⟩, o8, some ⟨false, .int n⟩, some ⟨false, .int t⟩, some ⟨false, .int u⟩, o12, o13, o14, o15]) ⟨rfl, _, rfl⟩ ?_ ?_
  · rintro i x env ρ' hx ⟨rfl, o12, rfl⟩
    refine ⟨_, rfl, ?_⟩
    refine s_cons (s_ifs (w_not (s_judge x (hxs x (List.mem_of_getElem? hx)) (ex_tru rfl (tv_b' rfl (bt_f' rfl (s_nil ?_)))))))
    exact s_nil ⟨rfl, _, rfl⟩
  rintro env ρ' ⟨rfl, o12, rfl⟩
  exact s_tail g8 h1 h3
end K01
end

section
set_option Elab.async false
set_option linter.all false
set_option maxRecDepth 100000
set_option exponentiation.threshold 100
set_option maxHeartbeats 400000
local macro_rules
  | `(tactic| walk_at "ev1") => `(tactic| first
    | with_reducible refine Ev.w_con ?_
    | ((with_reducible refine Ev.w_sh (d := ?v) ?e ?_); (case e => exact rfl))
    | ((with_reducible refine Ev.w_al (d := ?v) ?e ?_); (case e => exact rfl))
    | with_reducible refine Ev.nal_sh ?_
    | with_reducible refine Ev.w_cons ?_
    | with_reducible refine Ev.w_nil ?_
    | with_reducible refine Ev.w_bin ?_
    | with_reducible refine Ev.wb_add ?_
    | with_reducible refine Ev.wb_sub ?_
    | with_reducible refine Ev.wb_mul ?_ ?_
    | with_reducible refine Ev.wb_fdiv ?_ ?_
    | with_reducible refine Ev.wb_mod ?_ ?_
    | ((with_reducible refine Ev.wb_of (r := ?v) ?e ?_); (case e => exact rfl))
    | with_reducible refine Ev.w_ix ?_
    | ((with_reducible refine Ev.wi_of (r := ?v) ?e ?_); (case e => exact rfl))
    | with_reducible refine Ev.w_call ?_
    | with_reducible refine Ev.w_callk ?_
    | ((with_reducible refine Ev.ex_perm (xs := ?v) ?e ?_); (case e => exact rfl))
    | with_reducible refine Ev.w_cmp ?_
    | with_reducible refine Ev.w_chn ?_
    | with_reducible refine Ev.wc_lt ?_
    | with_reducible refine Ev.wc_le ?_
    | with_reducible refine Ev.wc_gt ?_
    | with_reducible refine Ev.wc_ge ?_
    | with_reducible refine Ev.wc_eqI ?_
    | with_reducible refine Ev.wc_neI ?_
    | ((with_reducible refine Ev.wc_isN (b := ?v) ?e ?_); (case e => exact rfl))
    | ((with_reducible refine Ev.wc_notN (b := ?v) ?e ?_); (case e => exact rfl))
    | with_reducible refine Ev.w_andE ?_
    | with_reducible refine Ev.w_orE ?_
    | with_reducible refine Ev.w_ite ?_
    | ((with_reducible refine Ev.tv_b' (b := ?v) ?e ?_); (case e => exact rfl))
    | ((with_reducible refine Ev.bt_t' ?e ?_); (case e => exact rfl))
    | ((with_reducible refine Ev.bt_f' ?e ?_); (case e => exact rfl))
    | with_reducible refine Ev.bt_n ?_
    | ((with_reducible refine Ev.bt_d ?_ ?_) <;> intro _)
    | with_reducible refine Ev.w_not ?_
    | ((with_reducible refine Ev.ex_tru (b := ?v) ?e ?_); (case e => exact rfl))
    | with_reducible refine Ev.w_neg ?_
    | ((with_reducible refine Ev.ex_int (i := ?v) ?e ?_); (case e => exact rfl))
    | with_reducible refine Ev.w_tup ?_
    | with_reducible refine Ev.w_lst ?_
    | ((with_reducible refine Ev.len_and ?e ?_); (case e => exact rfl))
    | with_reducible refine Ev.w_isi ?_
    | ((with_reducible refine Ev.ex_ty (u := ?v) ?e ?_); (case e => first | exact rfl | assumption))
    | with_reducible refine Ev.w_bi1 ?_
    | with_reducible refine Ev.w_bi ?_
    | ((with_reducible refine Ev.wf_of (r := ?v) ?e ?_); (case e => exact rfl))
    | with_reducible refine Ev.nal_fr ?_
    | with_reducible refine Ev.s_cons ?_
    | with_reducible refine Ev.s_nil ?_
    | with_reducible refine Ev.s_ifs ?_
    | with_reducible refine Ev.s_asg ?_
    | with_reducible refine Ev.s_ret ?_
    | ((with_reducible refine Ev.s_retv (d := ?v) ?e ?_); (case e => exact rfl))
    | ((with_reducible refine Ev.s_reto (d := ?v) ?e ?_); (case e => exact rfl))
    | with_reducible refine Ev.s_retN ?_
    | with_reducible refine Ev.s_tgt ?_
    | with_reducible refine Ev.ex_sh ?_
    | ((with_reducible refine Ev.ex_asg (env' := ?v) ?e ?_); (case e => exact rfl))
    | with_reducible refine Ev.s_par ?_
    | ((with_reducible refine Ev.nal2 ?e ?_); (case e => exact rfl))
    | with_reducible refine Ev.s_exp ?_
    | with_reducible refine Ev.s_rai ?_
    | with_reducible refine Ev.s_tri ?_
    | with_reducible refine Ev.s_pas ?_
    | with_reducible refine Ev.w_sl ?_
    | with_reducible refine Ev.w_nop ?_
    | ((with_reducible refine Ev.ex_part (l := ?v) ?e ?_); (case e => exact rfl))
    | ((with_reducible refine Ev.wl_of (r := ?v) ?e ?_); (case e => exact rfl))
    | ((with_reducible refine Ev.s_frz (env' := ?v) ?e ?_); (case e => exact rfl))
    | with_reducible refine Ev.s_for ?_
    | with_reducible refine Ev.w_over ?_
    | ((with_reducible refine Ev.ex_over (ds := ?v) ?e ?f ?_); (case e => exact rfl); (case f => exact rfl))
    | with_reducible refine Ev.w_lc ?_
    | ((with_reducible refine Ev.w_glb (d := ?v) ?e ?_); (case e => exact rfl))
    | ((with_reducible refine Ev.nal_c ?e ?_); (case e => exact rfl))
    | ((with_reducible refine Ev.bt_b ?_ ?_) <;> intro _))
namespace K01
open Ev PySem L2
theorem s_law (ns : List Int) (hn : ns.length ≤ 63) : WR (R 60 44 [.ro (ns.map D.int)] []) (fun r _ => r = ⟨.bl true, .sh⟩) X0 := by
  refine WR.run sz44 ?_
  show WS (exSs g (R 59) T.sub wl (.cons (S.asg 1 (E.call 21 (Es.cons (E.var 0) (Es.cons (E.con (D.int 900)) Es.nil)))) (.prm 1 (.cons (S.for_ (Tg.nm 2) (Iw.rng (Es.cons (E.con (D.int 5)) Es.nil)) turnB) (.cons (S.ret (E.con (D.bl true))) .nil)))) _ _) _ _ _ _ _
  refine s_cons (s_asg (w_call (w_cons (w_sh rfl (nal_sh (w_cons (w_con (nal_sh (w_nil ?_)))))))))
  refine WR.mono (s_draws (k := 57) ns hn) ?_ fun _ _ q => False.elim q
  rintro r ρ' ⟨rfl, L, rfl⟩
  refine nal_fr (s_prm rfl ?_)
  refine s_cons (s_for (w_rng1 (w_con (nal_sh ⟨5, rfl, ⟨by decide, by decide⟩, ?_⟩))))
  refine s_forI (fun i e ρ => Good ρ ∧ Sh e) ⟨⟨L, rfl⟩, _, _, _, _, _, _, _, _, _, _, _, _, _, _, _, rfl⟩ ?_ ?_
  · rintro i d e ρ1 _ ⟨g1, h1⟩
    obtain ⟨x0, o2, o3, o4, o5, o6, o7, o8, o9, o10, o11, o12, o13, o14, o15, rfl⟩ := h1
    refine ⟨_, rfl, ?_⟩
    exact WS.mono (s_turn (k := 53) g1 ⟨_, _, _, _, _, _, _, _, _, _, _, _, _, _, _, rfl⟩) (fun _ _ h => h) (fun _ _ h => False.elim h) (fun _ _ _ h => False.elim h) (fun _ _ h => False.elim h) (fun _ _ h => h)
  · rintro e ρ1 _
    exact s_cons (s_ret (w_con (nal_sh rfl)))
theorem law_true : ∀ ns : List Int, ns.length ≤ 63 → ∃ ρ', run g T.sub wl (sizes fs) (59 + 1) 44 [.ro (ns.map D.int)] [] = .ok ⟨.bl true, .sh⟩ ρ' := by
  intro ns hn
  have h := s_law ns hn
  unfold R at h
  cases e : run g T.sub wl (sizes fs) (59 + 1) 44 [.ro (ns.map D.int)] [] with
  | ok r ρ => rw [e] at h; exact ⟨ρ, by cases (show r = _ from h); rfl⟩
  | exc x ρ => rw [e] at h; exact False.elim h
  | no => rw [e] at h; exact False.elim h
end K01
end

section
set_option Elab.async false
set_option linter.all false
set_option maxRecDepth 100000
set_option maxHeartbeats 4000000
namespace K01
open PySem PySem.Spec PyProof.Rows L2 Ev
theorem all_mk {l : PySem.W.OpenLaw} {w : World} {K : PySem.W.Frag} {h : Heap} {mg : Str → Option Value} {fa : Addr} (X : K.In h) (G : h.Ns mainGlobals mg) (hmg : mg "law" = some (.ref fa))
    (d_is_integer : DefT K "is_integer" (top 9))
    (d_is_fraction : DefT K "is_fraction" (top 10))
    (d_is_chance : DefT K "is_chance" (top 11))
    (d_check_number : DefT K "check_number" (top 12))
    (d_check_count : DefT K "check_count" (top 13))
    (d_made : DefT K "made" (top 14))
    (d_added : DefT K "added" (top 15))
    (d_subtracted : DefT K "subtracted" (top 16))
    (d_multiplied : DefT K "multiplied" (top 17))
    (d_quotient : DefT K "quotient" (top 18))
    (d_is_below : DefT K "is_below" (top 19))
    (d_over_one : DefT K "over_one" (top 20))
    (d_sum_of : DefT K "sum_of" (top 21))
    (d_fraction : DefT K "fraction" (top 22))
    (d_plus : DefT K "plus" (top 23))
    (d_minus : DefT K "minus" (top 24))
    (d_times : DefT K "times" (top 25))
    (d_divided : DefT K "divided" (top 26))
    (d_less : DefT K "less" (top 27))
    (d_total : DefT K "total" (top 28))
    (d_power : DefT K "power" (top 29))
    (d__law_draws : DefT K "_law_draws" (top 31))
    (d__law_stir : DefT K "_law_stir" (top 32))
    (d__law_take : DefT K "_law_take" (top 33))
    (d__law_pick : DefT K "_law_pick" (top 34))
    (d__law_same : DefT K "_law_same" (top 35))
    (d__law_spoilt : DefT K "_law_spoilt" (top 36))
    (d__law_put : DefT K "_law_put" (top 37))
    (d__law_is_tuple : DefT K "_law_is_tuple" (top 38))
    (d__law_is_int : DefT K "_law_is_int" (top 39))
    (d__law_gcd : DefT K "_law_gcd" (top 40))
    (d__law_fr : DefT K "_law_fr" (top 41))
    (d__law_add : DefT K "_law_add" (top 42))
    (d__law_sub : DefT K "_law_sub" (top 43))
    (d__law_mul : DefT K "_law_mul" (top 44))
    (d__law_div : DefT K "_law_div" (top 45))
    (d__law_lt : DefT K "_law_lt" (top 46))
    (d__law_sum : DefT K "_law_sum" (top 47))
    (d__law_is_fr : DefT K "_law_is_fr" (top 48))
    (d__law_is_chance : DefT K "_law_is_chance" (top 49))
    (d__law_bad_fr : DefT K "_law_bad_fr" (top 50))
    (d__law_told : DefT K "_law_told" (top 51))
    (d__law_wide : DefT K "_law_wide" (top 52))
    (d__law_raised : DefT K "_law_raised" (top 53))
    (d_law : DefT K "law" (top 54))
    (hcls : ∃ c0 c1 c2, ClsT K "InvalidNumber" c0 ∧ ClsT K "InvalidIndex" c1 ∧ ClsT K "NoDivision" c2 ∧ PySem.W.subIn K (.ref c0) (.ref c0) = some true ∧ PySem.W.subIn K (.ref c0) (.ref c1) = some false ∧ PySem.W.subIn K (.ref c0) (.ref c2) = some false ∧ PySem.W.subIn K (.ref c1) (.ref c0) = some false ∧ PySem.W.subIn K (.ref c1) (.ref c1) = some true ∧ PySem.W.subIn K (.ref c1) (.ref c2) = some false ∧ PySem.W.subIn K (.ref c2) (.ref c0) = some false ∧ PySem.W.subIn K (.ref c2) (.ref c1) = some false ∧ PySem.W.subIn K (.ref c2) (.ref c2) = some true)
    (g_ZERO : GlbT K "ZERO" (D.tup [(D.int 0), (D.int 1)]))
    (g_ONE : GlbT K "ONE" (D.tup [(D.int 1), (D.int 1)]))
    (b_isinstance : PySem.W.nsIn K mainGlobals "isinstance" = some none)
    (b_int : PySem.W.nsIn K mainGlobals "int" = some none)
    (b_bool : PySem.W.nsIn K mainGlobals "bool" = some none)
    (b_tuple : PySem.W.nsIn K mainGlobals "tuple" = some none)
    (b_len : PySem.W.nsIn K mainGlobals "len" = some none)
    (b_sum : PySem.W.nsIn K mainGlobals "sum" = some none)
    (b_all : PySem.W.nsIn K mainGlobals "all" = some none)
    (b_enumerate : PySem.W.nsIn K mainGlobals "enumerate" = some none)
    (b_range : PySem.W.nsIn K mainGlobals "range" = some none)
    (b_list : PySem.W.nsIn K mainGlobals "list" = some none)
    (b_str : PySem.W.nsIn K mainGlobals "str" = some none)
    (b_abs : PySem.W.nsIn K mainGlobals "abs" = some none)
    (b_max : PySem.W.nsIn K mainGlobals "max" = some none)
    (l_gcd : PySem.W.nsIn K mainGlobals "gcd" = some (some (.builtin "math.gcd")))
    (l_lcm : PySem.W.nsIn K mainGlobals "lcm" = some (some (.builtin "math.lcm")))
    : ∃ fd : FuncData, (∀ (s : Shared) (u : Value), BindsTo s fd ⟨[u], []⟩ [("script", u)]) ∧ ∀ base : Heap, K.In base → base.Ns mainGlobals mg → FnOk l.prog w K mg base (L2.CX l.prog w) 60 fa fd ["script"] (spLaw K) := by
  obtain ⟨c0, c1, c2, C0, C1, C2, S0_0, S0_1, S0_2, S1_0, S1_1, S1_2, S2_0, S2_1, S2_2⟩ := hcls
  have B := fxB_mk (T := T) (g := g) (C := fun k => [c0, c1, c2].getD k 0) (fs := fs) X G rfl
    (by rw [dz]; exact (Each.cons ⟨d_is_integer.b X G, bd_is_integer, sc_is_integer, c_is_integer⟩ (Each.cons ⟨d_is_fraction.b X G, bd_is_fraction, sc_is_fraction, c_is_fraction⟩ (Each.cons ⟨d_is_chance.b X G, bd_is_chance, sc_is_chance, c_is_chance⟩ (Each.cons ⟨d_check_number.b X G, bd_check_number, sc_check_number, c_check_number⟩ (Each.cons ⟨d_check_count.b X G, bd_check_count, sc_check_count, c_check_count⟩ (Each.cons ⟨d_made.b X G, bd_made, sc_made, c_made⟩ (Each.cons ⟨d_added.b X G, bd_added, sc_added, c_added⟩ (Each.cons ⟨d_subtracted.b X G, bd_subtracted, sc_subtracted, c_subtracted⟩ (Each.cons ⟨d_multiplied.b X G, bd_multiplied, sc_multiplied, c_multiplied⟩ (Each.cons ⟨d_quotient.b X G, bd_quotient, sc_quotient, c_quotient⟩ (Each.cons ⟨d_is_below.b X G, bd_is_below, sc_is_below, c_is_below⟩ (Each.cons ⟨d_over_one.b X G, bd_over_one, sc_over_one, c_over_one⟩ (Each.cons ⟨d_sum_of.b X G, bd_sum_of, sc_sum_of, c_sum_of⟩ (Each.cons ⟨d_fraction.b X G, bd_fraction, sc_fraction, c_fraction⟩ (Each.cons ⟨d_plus.b X G, bd_plus, sc_plus, c_plus⟩ (Each.cons ⟨d_minus.b X G, bd_minus, sc_minus, c_minus⟩ (Each.cons ⟨d_times.b X G, bd_times, sc_times, c_times⟩ (Each.cons ⟨d_divided.b X G, bd_divided, sc_divided, c_divided⟩ (Each.cons ⟨d_less.b X G, bd_less, sc_less, c_less⟩ (Each.cons ⟨d_total.b X G, bd_total, sc_total, c_total⟩ (Each.cons ⟨d_power.b X G, bd_power, sc_power, c_power⟩ (Each.cons ⟨d__law_draws.b X G, bd__law_draws, sc__law_draws, c__law_draws⟩ (Each.cons ⟨d__law_stir.b X G, bd__law_stir, sc__law_stir, c__law_stir⟩ (Each.cons ⟨d__law_take.b X G, bd__law_take, sc__law_take, c__law_take⟩ (Each.cons ⟨d__law_pick.b X G, bd__law_pick, sc__law_pick, c__law_pick⟩ (Each.cons ⟨d__law_same.b X G, bd__law_same, sc__law_same, c__law_same⟩ (Each.cons ⟨d__law_spoilt.b X G, bd__law_spoilt, sc__law_spoilt, c__law_spoilt⟩ (Each.cons ⟨d__law_put.b X G, bd__law_put, sc__law_put, c__law_put⟩ (Each.cons ⟨d__law_is_tuple.b X G, bd__law_is_tuple, sc__law_is_tuple, c__law_is_tuple⟩ (Each.cons ⟨d__law_is_int.b X G, bd__law_is_int, sc__law_is_int, c__law_is_int⟩ (Each.cons ⟨d__law_gcd.b X G, bd__law_gcd, sc__law_gcd, c__law_gcd⟩ (Each.cons ⟨d__law_fr.b X G, bd__law_fr, sc__law_fr, c__law_fr⟩ (Each.cons ⟨d__law_add.b X G, bd__law_add, sc__law_add, c__law_add⟩ (Each.cons ⟨d__law_sub.b X G, bd__law_sub, sc__law_sub, c__law_sub⟩ (Each.cons ⟨d__law_mul.b X G, bd__law_mul, sc__law_mul, c__law_mul⟩ (Each.cons ⟨d__law_div.b X G, bd__law_div, sc__law_div, c__law_div⟩ (Each.cons ⟨d__law_lt.b X G, bd__law_lt, sc__law_lt, c__law_lt⟩ (Each.cons ⟨d__law_sum.b X G, bd__law_sum, sc__law_sum, c__law_sum⟩ (Each.cons ⟨d__law_is_fr.b X G, bd__law_is_fr, sc__law_is_fr, c__law_is_fr⟩ (Each.cons ⟨d__law_is_chance.b X G, bd__law_is_chance, sc__law_is_chance, c__law_is_chance⟩ (Each.cons ⟨d__law_bad_fr.b X G, bd__law_bad_fr, sc__law_bad_fr, c__law_bad_fr⟩ (Each.cons ⟨d__law_told.b X G, bd__law_told, sc__law_told, c__law_told⟩ (Each.cons ⟨d__law_wide.b X G, bd__law_wide, sc__law_wide, c__law_wide⟩ (Each.cons ⟨d__law_raised.b X G, bd__law_raised, sc__law_raised, c__law_raised⟩ (Each.cons ⟨d_law.b X G, bd_law, sc_law, c_law⟩ Each.nil))))))))))))))))))))))))))))))))))))))))))))))
    kz
    (Each.cons (g_ZERO.b X G) (Each.cons (g_ONE.b X G) Each.nil))
    (Each.cons b_isinstance (Each.cons b_int (Each.cons b_bool (Each.cons b_tuple (Each.cons b_len (Each.cons b_sum (Each.cons b_all (Each.cons b_enumerate (Each.cons b_range (Each.cons b_list (Each.cons b_str (Each.cons b_abs (Each.cons b_max Each.nil)))))))))))))
    (Each.cons l_gcd (Each.cons l_lcm Each.nil))
    (Each.cons (C0.b X G) (Each.cons (C1.b X G) (Each.cons (C2.b X G) Each.nil)))
    (sub_ok _ S0_0 S0_1 S0_2 S1_0 S1_1 S1_2 S2_0 S2_1 S2_2)
  obtain ⟨fd, hb, hF⟩ := law_ok (wl := wl) (k := 59) (f := 44) B rfl hmg law_true
  exact ⟨fd, hb, fun base _ _ => hF _ _ _⟩
end K01
end

section
set_option Elab.async false
set_option linter.all false
set_option maxRecDepth 100000
set_option maxHeartbeats 4000000
open PySem PySem.W PyProof.Rows
set_option maxRecDepth 100000 in
set_option maxHeartbeats 0 in
theorem PySem.Challenge.cw_viewsalone_k01_a_fractions_one_by_one_holds : PySem.Challenge.rw_viewsalone_k01_a_fractions_one_by_one.Holds := by
  w_on; o_law; k_head; (case hw => w_witness2)
  k_fill
  refine Ev.walk (l := PySem.Challenge.rw_viewsalone_k01_a_fractions_one_by_one) (k := 60) rfl rfl ⟨rfl, by decide, by decide⟩ (fun w h Y => PySem.W.kIn_of Y) ?F
  case F =>
    intro w mg fa h KX G hmg
    refine' K01.all_mk KX G hmg ?d_is_integer ?d_is_fraction ?d_is_chance ?d_check_number ?d_check_count ?d_made ?d_added ?d_subtracted ?d_multiplied ?d_quotient ?d_is_below ?d_over_one ?d_sum_of ?d_fraction ?d_plus ?d_minus ?d_times ?d_divided ?d_less ?d_total ?d_power ?d__law_draws ?d__law_stir ?d__law_take ?d__law_pick ?d__law_same ?d__law_spoilt ?d__law_put ?d__law_is_tuple ?d__law_is_int ?d__law_gcd ?d__law_fr ?d__law_add ?d__law_sub ?d__law_mul ?d__law_div ?d__law_lt ?d__law_sum ?d__law_is_fr ?d__law_is_chance ?d__law_bad_fr ?d__law_told ?d__law_wide ?d__law_raised ?d_law ?hcls ?g_ZERO ?g_ONE ?b_isinstance ?b_int ?b_bool ?b_tuple ?b_len ?b_sum ?b_all ?b_enumerate ?b_range ?b_list ?b_str ?b_abs ?b_max ?l_gcd ?l_lcm
    (case d_is_integer => refine' Ev.defT_mk ?a ?l ?c ?k; (case a => k_is); (case l => k_is); (case c => k_is); (case k => k_is))
    (case d_is_fraction => refine' Ev.defT_mk ?a ?l ?c ?k; (case a => k_is); (case l => k_is); (case c => k_is); (case k => k_is))
    (case d_is_chance => refine' Ev.defT_mk ?a ?l ?c ?k; (case a => k_is); (case l => k_is); (case c => k_is); (case k => k_is))
    (case d_check_number => refine' Ev.defT_mk ?a ?l ?c ?k; (case a => k_is); (case l => k_is); (case c => k_is); (case k => k_is))
    (case d_check_count => refine' Ev.defT_mk ?a ?l ?c ?k; (case a => k_is); (case l => k_is); (case c => k_is); (case k => k_is))
    (case d_made => refine' Ev.defT_mk ?a ?l ?c ?k; (case a => k_is); (case l => k_is); (case c => k_is); (case k => k_is))
    (case d_added => refine' Ev.defT_mk ?a ?l ?c ?k; (case a => k_is); (case l => k_is); (case c => k_is); (case k => k_is))
    (case d_subtracted => refine' Ev.defT_mk ?a ?l ?c ?k; (case a => k_is); (case l => k_is); (case c => k_is); (case k => k_is))
    (case d_multiplied => refine' Ev.defT_mk ?a ?l ?c ?k; (case a => k_is); (case l => k_is); (case c => k_is); (case k => k_is))
    (case d_quotient => refine' Ev.defT_mk ?a ?l ?c ?k; (case a => k_is); (case l => k_is); (case c => k_is); (case k => k_is))
    (case d_is_below => refine' Ev.defT_mk ?a ?l ?c ?k; (case a => k_is); (case l => k_is); (case c => k_is); (case k => k_is))
    (case d_over_one => refine' Ev.defT_mk ?a ?l ?c ?k; (case a => k_is); (case l => k_is); (case c => k_is); (case k => k_is))
    (case d_sum_of => refine' Ev.defT_mk ?a ?l ?c ?k; (case a => k_is); (case l => k_is); (case c => k_is); (case k => k_is))
    (case d_fraction => refine' Ev.defT_mk ?a ?l ?c ?k; (case a => k_is); (case l => k_is); (case c => k_is); (case k => k_is))
    (case d_plus => refine' Ev.defT_mk ?a ?l ?c ?k; (case a => k_is); (case l => k_is); (case c => k_is); (case k => k_is))
    (case d_minus => refine' Ev.defT_mk ?a ?l ?c ?k; (case a => k_is); (case l => k_is); (case c => k_is); (case k => k_is))
    (case d_times => refine' Ev.defT_mk ?a ?l ?c ?k; (case a => k_is); (case l => k_is); (case c => k_is); (case k => k_is))
    (case d_divided => refine' Ev.defT_mk ?a ?l ?c ?k; (case a => k_is); (case l => k_is); (case c => k_is); (case k => k_is))
    (case d_less => refine' Ev.defT_mk ?a ?l ?c ?k; (case a => k_is); (case l => k_is); (case c => k_is); (case k => k_is))
    (case d_total => refine' Ev.defT_mk ?a ?l ?c ?k; (case a => k_is); (case l => k_is); (case c => k_is); (case k => k_is))
    (case d_power => refine' Ev.defT_mk ?a ?l ?c ?k; (case a => k_is); (case l => k_is); (case c => k_is); (case k => k_is))
    (case d__law_draws => refine' Ev.defT_mk ?a ?l ?c ?k; (case a => k_is); (case l => k_is); (case c => k_is); (case k => k_is))
    (case d__law_stir => refine' Ev.defT_mk ?a ?l ?c ?k; (case a => k_is); (case l => k_is); (case c => k_is); (case k => k_is))
    (case d__law_take => refine' Ev.defT_mk ?a ?l ?c ?k; (case a => k_is); (case l => k_is); (case c => k_is); (case k => k_is))
    (case d__law_pick => refine' Ev.defT_mk ?a ?l ?c ?k; (case a => k_is); (case l => k_is); (case c => k_is); (case k => k_is))
    (case d__law_same => refine' Ev.defT_mk ?a ?l ?c ?k; (case a => k_is); (case l => k_is); (case c => k_is); (case k => k_is))
    (case d__law_spoilt => refine' Ev.defT_mk ?a ?l ?c ?k; (case a => k_is); (case l => k_is); (case c => k_is); (case k => k_is))
    (case d__law_put => refine' Ev.defT_mk ?a ?l ?c ?k; (case a => k_is); (case l => k_is); (case c => k_is); (case k => k_is))
    (case d__law_is_tuple => refine' Ev.defT_mk ?a ?l ?c ?k; (case a => k_is); (case l => k_is); (case c => k_is); (case k => k_is))
    (case d__law_is_int => refine' Ev.defT_mk ?a ?l ?c ?k; (case a => k_is); (case l => k_is); (case c => k_is); (case k => k_is))
    (case d__law_gcd => refine' Ev.defT_mk ?a ?l ?c ?k; (case a => k_is); (case l => k_is); (case c => k_is); (case k => k_is))
    (case d__law_fr => refine' Ev.defT_mk ?a ?l ?c ?k; (case a => k_is); (case l => k_is); (case c => k_is); (case k => k_is))
    (case d__law_add => refine' Ev.defT_mk ?a ?l ?c ?k; (case a => k_is); (case l => k_is); (case c => k_is); (case k => k_is))
    (case d__law_sub => refine' Ev.defT_mk ?a ?l ?c ?k; (case a => k_is); (case l => k_is); (case c => k_is); (case k => k_is))
    (case d__law_mul => refine' Ev.defT_mk ?a ?l ?c ?k; (case a => k_is); (case l => k_is); (case c => k_is); (case k => k_is))
    (case d__law_div => refine' Ev.defT_mk ?a ?l ?c ?k; (case a => k_is); (case l => k_is); (case c => k_is); (case k => k_is))
    (case d__law_lt => refine' Ev.defT_mk ?a ?l ?c ?k; (case a => k_is); (case l => k_is); (case c => k_is); (case k => k_is))
    (case d__law_sum => refine' Ev.defT_mk ?a ?l ?c ?k; (case a => k_is); (case l => k_is); (case c => k_is); (case k => k_is))
    (case d__law_is_fr => refine' Ev.defT_mk ?a ?l ?c ?k; (case a => k_is); (case l => k_is); (case c => k_is); (case k => k_is))
    (case d__law_is_chance => refine' Ev.defT_mk ?a ?l ?c ?k; (case a => k_is); (case l => k_is); (case c => k_is); (case k => k_is))
    (case d__law_bad_fr => refine' Ev.defT_mk ?a ?l ?c ?k; (case a => k_is); (case l => k_is); (case c => k_is); (case k => k_is))
    (case d__law_told => refine' Ev.defT_mk ?a ?l ?c ?k; (case a => k_is); (case l => k_is); (case c => k_is); (case k => k_is))
    (case d__law_wide => refine' Ev.defT_mk ?a ?l ?c ?k; (case a => k_is); (case l => k_is); (case c => k_is); (case k => k_is))
    (case d__law_raised => refine' Ev.defT_mk ?a ?l ?c ?k; (case a => k_is); (case l => k_is); (case c => k_is); (case k => k_is))
    (case d_law => refine' Ev.defT_mk ?a ?l ?c ?k; (case a => k_is); (case l => k_is); (case c => k_is); (case k => k_is))
    (case hcls =>
      refine' ⟨_, _, _, ⟨?a0, ?k0, ?b0, ?t0, ?e0, ?d0⟩, ⟨?a1, ?k1, ?b1, ?t1, ?e1, ?d1⟩, ⟨?a2, ?k2, ?b2, ?t2, ?e2, ?d2⟩, ?s0_0, ?s0_1, ?s0_2, ?s1_0, ?s1_1, ?s1_2, ?s2_0, ?s2_1, ?s2_2⟩
      (case a0 => k_is); (case k0 => k_is); (case b0 => k_is); (case t0 => k_is); (case e0 => k_exc); (case d0 => k_is)
      (case a1 => k_is); (case k1 => k_is); (case b1 => k_is); (case t1 => k_is); (case e1 => k_exc); (case d1 => k_is)
      (case a2 => k_is); (case k2 => k_is); (case b2 => k_is); (case t2 => k_is); (case e2 => k_exc); (case d2 => k_is)
      (case s0_0 => first | rfl | k_is)
      (case s0_1 => first | rfl | k_is)
      (case s0_2 => first | rfl | k_is)
      (case s1_0 => first | rfl | k_is)
      (case s1_1 => first | rfl | k_is)
      (case s1_2 => first | rfl | k_is)
      (case s2_0 => first | rfl | k_is)
      (case s2_1 => first | rfl | k_is)
      (case s2_2 => first | rfl | k_is))
    (case g_ZERO => refine' Ev.glbT_tup2 ?a ?l; (case a => k_is); (case l => k_is))
    (case g_ONE => refine' Ev.glbT_tup2 ?a ?l; (case a => k_is); (case l => k_is))
    (case b_isinstance => k_is)
    (case b_int => k_is)
    (case b_bool => k_is)
    (case b_tuple => k_is)
    (case b_len => k_is)
    (case b_sum => k_is)
    (case b_all => k_is)
    (case b_enumerate => k_is)
    (case b_range => k_is)
    (case b_list => k_is)
    (case b_str => k_is)
    (case b_abs => k_is)
    (case b_max => k_is)
    (case l_gcd => k_is)
    (case l_lcm => k_is)
end
