import PyProof.Rows.All
import Wide.All
import OpenK.AllK
import Wide.FinOn
import HandS.ForMost
import HandS.Walk
import HandS.Exc
import HandS.CallSlots
import HandS.Wide
import HandS.TupAny
import HandS.TupMul
import HandS.Style
import HandS.More
import HandS.Deep
import KE.DataEq
import HandS.IsInst
import HandS.StrMore
import KE.GoesEnum
import KE.GoesMore
import HandS.SortRule
import HandS.Comp
import HandS.Words
import HandS.Codes
import HandS.Dict
import HandS.Small
import HandS.WordsDict
import HandS.Text
import HandS.Conv
import HandS.MapSum
import HandS.AnyAll
import PyProof.ReprRoads
import HandS.Ends
import PyProof.StrLawsIn
import HandS.BoundList
import HandS.Flt
import PyProof.ReprBulk
import PySem.Challenge.RW_towerline_k49_whole_times
set_option Elab.async false
set_option linter.all false
set_option maxRecDepth 100000
namespace DL
open PySem PySem.Spec PyProof.Rows L2

/-- plain data; a mark true: the list or dict is owned (may be changed), false: frozen -/
inductive D where
  | non | bl (b : Bool) | int (i : Int) | str (s : Str)
  | tup (xs : List D)
  | lst (m : Bool) (xs : List D)
  | dic (m : Bool) (ks : List Key) (vs : List D)
  | opq (v : V)
  /-- no data: what stays true of the heap -/
  | fact (φ : Hp → Prop)

/-- a frozen list -/
def SqF (K : PySem.W.Frag) (H : Hp) (a : Addr) (xs : List V) : Prop :=
  (∃ o, H a = some (.frz o (.lst xs))) ∨
    ∃ (o : Obj) (its : Array Value) (n : Nat), K.lookup a = some o ∧ o.cls = .type "list" ∧ o.dict = none ∧ o.data = .seq its n ∧ its.size ≤ sizeLine ∧ Vals xs its.toList
theorem SqF.sq {K : PySem.W.Frag} {H : Hp} {a : Addr} {xs : List V} (h : SqF K H a xs) : SqL K H a xs := by
  rcases h with h | h
  · exact .inl (.inr h)
  · exact .inr h

mutual
inductive Dv (K : PySem.W.Frag) (H : Hp) : D → V → List Addr → Prop
  | non : Dv K H .non .non []
  | bl (b : Bool) : Dv K H (.bl b) (.bl b) []
  | int (i : Int) : Dv K H (.int i) (.int i) []
  | str (s : Str) : Dv K H (.str s) (.str s) []
  | opq (v : V) : Dv K H (.opq v) v []
  | fact {φ : Hp → Prop} (v : V) (h : φ H) (st : ∀ H' : Hp, (∀ a o u, H a = some (.frz o u) → H' a = some (.frz o u)) → φ H') : Dv K H (.fact φ) v []
  | tup {a : Addr} {xs : List V} {ds : List D} {fp : List Addr} : SqT K H a xs → DvL K H ds xs fp → Dv K H (.tup ds) (.ref a) fp
  | flst {a : Addr} {xs : List V} {ds : List D} : SqF K H a xs → DvL K H ds xs [] → Dv K H (.lst false ds) (.ref a) []
  | olst {a : Addr} {xs : List V} {ds : List D} {fp : List Addr} : H a = some (.lst xs) → DvL K H ds xs fp → Dv K H (.lst true ds) (.ref a) (a :: fp)
  | fdic {a : Addr} {o : Obj} {kvv : List (Key × V)} {ks : List Key} {ds : List D} : H a = some (.frz o (.dK kvv)) → kvv.map (·.1) = ks → DvL K H ds (kvv.map (·.2)) [] → Dv K H (.dic false ks ds) (.ref a) []
  | odic {a : Addr} {kvv : List (Key × V)} {ks : List Key} {ds : List D} {fp : List Addr} : H a = some (.dK kvv) → kvv.map (·.1) = ks → DvL K H ds (kvv.map (·.2)) fp → Dv K H (.dic true ks ds) (.ref a) (a :: fp)
inductive DvL (K : PySem.W.Frag) (H : Hp) : List D → List V → List Addr → Prop
  | nil : DvL K H [] [] []
  | cons {d : D} {v : V} {ds : List D} {vs : List V} {f1 f2 : List Addr} : Dv K H d v f1 → DvL K H ds vs f2 → DvL K H (d :: ds) (v :: vs) (f1 ++ f2)
end

section
variable {K : PySem.W.Frag} {H H' : Hp} {W : List Addr}

mutual
theorem Dv.mut {d : D} {v : V} {fp : List Addr} : Dv K H d v fp → ∀ a ∈ fp, Mut (H a)
  | .non => fun _ h => nomatch h
  | .bl _ => fun _ h => nomatch h
  | .int _ => fun _ h => nomatch h
  | .str _ => fun _ h => nomatch h
  | .opq _ => fun _ h => nomatch h
  | .fact _ _ _ => fun _ h => nomatch h
  | .tup _ l => fun a h => l.mut a h
  | .flst _ _ => fun _ h => nomatch h
  | .olst e l => fun a h => by
    rcases List.mem_cons.mp h with rfl | h
    · rw [e]; trivial
    · exact l.mut a h
  | .fdic _ _ _ => fun _ h => nomatch h
  | .odic e _ l => fun a h => by
    rcases List.mem_cons.mp h with rfl | h
    · rw [e]; trivial
    · exact l.mut a h
theorem DvL.mut {ds : List D} {vs : List V} {fp : List Addr} : DvL K H ds vs fp → ∀ a ∈ fp, Mut (H a)
  | .nil => fun _ h => nomatch h
  | .cons x l => fun a h => by
    rcases List.mem_append.mp h with h | h
    · exact x.mut a h
    · exact l.mut a h
end

theorem SqT.keep {a : Addr} {xs : List V} (hk : ∀ a o, a ∉ W → H a = some o → H' a = some o) (hW : ∀ a ∈ W, Mut (H a)) (h : SqT K H a xs) : SqT K H' a xs := by
  rcases h with (h | ⟨o, h⟩) | h
  · exact .inl (.inl (hk _ _ (fun z => by have := hW _ z; rw [h] at this; exact this) h))
  · exact .inl (.inr ⟨o, hk _ _ (fun z => by have := hW _ z; rw [h] at this; exact this) h⟩)
  · exact .inr h
theorem SqF.keep {a : Addr} {xs : List V} (hk : ∀ a o, a ∉ W → H a = some o → H' a = some o) (hW : ∀ a ∈ W, Mut (H a)) (h : SqF K H a xs) : SqF K H' a xs := by
  rcases h with ⟨o, h⟩ | h
  · exact .inl ⟨o, hk _ _ (fun z => by have := hW _ z; rw [h] at this; exact this) h⟩
  · exact .inr h

mutual
/-- data is kept where its own owned parts are not touched -/
theorem Dv.keep (hk : ∀ a o, a ∉ W → H a = some o → H' a = some o) (hW : ∀ a ∈ W, Mut (H a)) {d : D} {v : V} {fp : List Addr} : Dv K H d v fp → (∀ a ∈ fp, a ∉ W) → Dv K H' d v fp
  | .non, _ => .non
  | .bl b, _ => .bl b
  | .int i, _ => .int i
  | .str s, _ => .str s
  | .opq v, _ => .opq v
  | .fact v h st, _ => by
    have fk : ∀ a o u, H a = some (.frz o u) → H' a = some (.frz o u) := fun a o u e => hk a _ (fun z => by have := hW a z; rw [e] at this; exact this) e
    exact .fact v (st H' fk) fun H2 k2 => st H2 fun a o u e => k2 a o u (fk a o u e)
  | .tup e l, n => .tup (SqT.keep hk hW e) (l.keep hk hW n)
  | .flst e l, n => .flst (SqF.keep hk hW e) (l.keep hk hW n)
  | .olst e l, n => .olst (hk _ _ (n _ List.mem_cons_self) e) (l.keep hk hW fun a h => n a (List.mem_cons_of_mem _ h))
  | .fdic e z l, n => .fdic (hk _ _ (fun q => by have := hW _ q; rw [e] at this; exact this) e) z (l.keep hk hW n)
  | .odic e z l, n => .odic (hk _ _ (n _ List.mem_cons_self) e) z (l.keep hk hW fun a h => n a (List.mem_cons_of_mem _ h))
theorem DvL.keep (hk : ∀ a o, a ∉ W → H a = some o → H' a = some o) (hW : ∀ a ∈ W, Mut (H a)) {ds : List D} {vs : List V} {fp : List Addr} : DvL K H ds vs fp → (∀ a ∈ fp, a ∉ W) → DvL K H' ds vs fp
  | .nil, _ => .nil
  | .cons x l, n => .cons (x.keep hk hW fun a h => n a (List.mem_append_left _ h)) (l.keep hk hW fun a h => n a (List.mem_append_right _ h))
end
/-- .. where all stands (and more, it may be) -/
theorem Dv.ext {d : D} {v : V} {fp : List Addr} (x : Dv K H d v fp) (hk : ∀ a o, H a = some o → H' a = some o) : Dv K H' d v fp :=
  x.keep (W := []) (fun a o _ h => hk a o h) (fun _ z => nomatch z) fun _ _ z => nomatch z
theorem DvL.ext {ds : List D} {vs : List V} {fp : List Addr} (x : DvL K H ds vs fp) (hk : ∀ a o, H a = some o → H' a = some o) : DvL K H' ds vs fp :=
  x.keep (W := []) (fun a o _ h => hk a o h) (fun _ z => nomatch z) fun _ _ z => nomatch z

theorem DvL.length : ∀ {ds : List D} {vs : List V} {fp : List Addr}, DvL K H ds vs fp → ds.length = vs.length
  | _, _, _, .nil => rfl
  | _, _, _, .cons _ l => congrArg (· + 1) l.length
theorem DvL.append : ∀ {ds es : List D} {vs us : List V} {fp fq : List Addr}, DvL K H ds vs fp → DvL K H es us fq → DvL K H (ds ++ es) (vs ++ us) (fp ++ fq)
  | _, _, _, _, _, _, .nil, y => y
  | _, _, _, _, _, _, .cons x l, y => by rw [List.append_assoc]; exact .cons x (l.append y)
theorem DvL.one {d : D} {v : V} {fp : List Addr} (x : Dv K H d v fp) : DvL K H [d] [v] fp := by
  have := DvL.cons x .nil
  rw [List.append_nil] at this; exact this
theorem DvL.split : ∀ {ds es : List D} {ws : List V} {fp : List Addr}, DvL K H (ds ++ es) ws fp → ∃ vs us f1 f2, ws = vs ++ us ∧ fp = f1 ++ f2 ∧ DvL K H ds vs f1 ∧ DvL K H es us f2
  | [], _, ws, fp, h => ⟨[], ws, [], fp, rfl, rfl, .nil, h⟩
  | _ :: _, _, _, _, .cons x l => by
    obtain ⟨vs, us, f1, f2, e1, e2, a, b⟩ := l.split
    subst e1 e2
    exact ⟨_, us, _, f2, rfl, (List.append_assoc _ _ _).symm, .cons x a, b⟩
/-- the i-th -/
theorem DvL.at : ∀ {ds : List D} {vs : List V} {fp : List Addr} {i : Nat} {d : D}, DvL K H ds vs fp → ds[i]? = some d → ∃ v f, vs[i]? = some v ∧ Dv K H d v f ∧ ∀ a ∈ f, a ∈ fp
  | _, _, _, _, _, .nil, e => by simp at e
  | _, _, _, 0, d, .cons x l, e => by
    simp at e; subst e
    exact ⟨_, _, rfl, x, fun a h => List.mem_append_left _ h⟩
  | _, _, _, i + 1, d, .cons x l, e => by
    obtain ⟨v, f, h1, h2, h3⟩ := l.at (i := i) (d := d) (by simpa using e)
    exact ⟨v, f, by simpa using h1, h2, fun a h => List.mem_append_right _ (h3 a h)⟩
end

/-! ### frozen data -/
mutual
def D.frz : D → D
  | .non => .non
  | .bl b => .bl b
  | .int i => .int i
  | .str s => .str s
  | .tup xs => .tup (D.frzL xs)
  | .lst _ xs => .lst false (D.frzL xs)
  | .dic _ ks vs => .dic false ks (D.frzL vs)
  | .opq v => .opq v
  | .fact φ => .fact φ
def D.frzL : List D → List D
  | [] => []
  | d :: ds => d.frz :: D.frzL ds
end
mutual
def D.isF : D → Bool
  | .non => true
  | .bl _ => true
  | .int _ => true
  | .str _ => true
  | .tup xs => D.isFL xs
  | .lst m xs => !m && D.isFL xs
  | .dic m _ vs => !m && D.isFL vs
  | .opq _ => true
  | .fact _ => true
def D.isFL : List D → Bool
  | [] => true
  | d :: ds => d.isF && D.isFL ds
end
theorem D.frzL_eq : ∀ ds : List D, D.frzL ds = ds.map D.frz
  | [] => rfl
  | d :: r => by show d.frz :: D.frzL r = d.frz :: r.map D.frz; rw [D.frzL_eq r]
theorem D.isFL_eq : ∀ ds : List D, D.isFL ds = ds.all D.isF
  | [] => rfl
  | d :: r => by show (d.isF && D.isFL r) = (d.isF && r.all D.isF); rw [D.isFL_eq r]
mutual
theorem D.frz_isF : ∀ d : D, d.frz.isF = true
  | .non => rfl
  | .bl _ => rfl
  | .int _ => rfl
  | .str _ => rfl
  | .opq _ => rfl
  | .fact _ => rfl
  | .tup xs => D.frzL_isF xs
  | .lst _ xs => by show (!false && D.isFL (D.frzL xs)) = true; rw [D.frzL_isF xs]; rfl
  | .dic _ _ vs => by show (!false && D.isFL (D.frzL vs)) = true; rw [D.frzL_isF vs]; rfl
theorem D.frzL_isF : ∀ ds : List D, D.isFL (D.frzL ds) = true
  | [] => rfl
  | d :: r => by show (d.frz.isF && D.isFL (D.frzL r)) = true; rw [D.frz_isF d, D.frzL_isF r]; rfl
end
mutual
theorem D.frz_of : ∀ {d : D}, d.isF = true → d.frz = d
  | .non, _ => rfl
  | .bl _, _ => rfl
  | .int _, _ => rfl
  | .str _, _ => rfl
  | .opq _, _ => rfl
  | .fact _, _ => rfl
  | .tup xs, h => by show D.tup (D.frzL xs) = .tup xs; rw [D.frzL_of h]
  | .lst m xs, h => by
    have h' : (!m && D.isFL xs) = true := h
    simp at h'
    show D.lst false (D.frzL xs) = .lst m xs
    rw [D.frzL_of h'.2, h'.1]
  | .dic m ks vs, h => by
    have h' : (!m && D.isFL vs) = true := h
    simp at h'
    show D.dic false ks (D.frzL vs) = .dic m ks vs
    rw [D.frzL_of h'.2, h'.1]
theorem D.frzL_of : ∀ {ds : List D}, D.isFL ds = true → D.frzL ds = ds
  | [], _ => rfl
  | d :: r, h => by
    have h' : (d.isF && D.isFL r) = true := h
    simp at h'
    show d.frz :: D.frzL r = d :: r
    rw [D.frz_of h'.1, D.frzL_of h'.2]
end

section
variable {K : PySem.W.Frag} {H : Hp}
mutual
theorem Dv.fz : ∀ {d : D} {v : V} {fp : List Addr}, Dv K H d v fp → d.isF = true → fp = []
  | _, _, _, .non, _ => rfl
  | _, _, _, .bl _, _ => rfl
  | _, _, _, .int _, _ => rfl
  | _, _, _, .str _, _ => rfl
  | _, _, _, .opq _, _ => rfl
  | _, _, _, .fact _ _ _, _ => rfl
  | _, _, _, .tup _ l, h => l.fz h
  | _, _, _, .flst _ _, _ => rfl
  | _, _, _, .olst (ds := ds) _ _, h => by have h' : (!true && D.isFL ds) = true := h; simp at h'
  | _, _, _, .fdic _ _ _, _ => rfl
  | _, _, _, .odic (ds := ds) _ _ _, h => by have h' : (!true && D.isFL ds) = true := h; simp at h'
theorem DvL.fz : ∀ {ds : List D} {vs : List V} {fp : List Addr}, DvL K H ds vs fp → D.isFL ds = true → fp = []
  | _, _, _, .nil, _ => rfl
  | _, _, _, .cons (d := d) (ds := r) x l, h => by
    have h' : (d.isF && D.isFL r) = true := h
    simp at h'
    rw [x.fz h'.1, l.fz h'.2]; rfl
end
end

/-! ### freezing -/
section
variable {X : Cx} {pins : List (Addr × Obj)} {σ : L2.St} {s : Shared}
def KeepsBut (W : List Addr) (H H' : Hp) : Prop := (∀ a o, a ∉ W → H a = some o → H' a = some o) ∧ ∀ a, H a = none → H' a = none
theorem KeepsBut.refl {W : List Addr} {H : Hp} : KeepsBut W H H := ⟨fun _ _ _ h => h, fun _ h => h⟩
theorem KeepsBut.trans {W1 W2 W : List Addr} {H H1 H2 : Hp} (a : KeepsBut W1 H H1) (b : KeepsBut W2 H1 H2) (h1 : ∀ x ∈ W1, x ∈ W) (h2 : ∀ x ∈ W2, x ∈ W) : KeepsBut W H H2 :=
  ⟨fun x o n e => b.1 x o (fun z => n (h2 x z)) (a.1 x o (fun z => n (h1 x z)) e), fun x e => b.2 x (a.2 x e)⟩
theorem KeepsBut.upd {H : Hp} {a : Addr} {o u : HO} (h : H a = some o) : KeepsBut [a] H (upd H a u) :=
  ⟨fun b o n e => by rw [upd_ne (fun z => n (by simp [z]))]; exact e, fun b e => by rw [upd_ne (fun z => by rw [z, h] at e; cases e)]; exact e⟩

mutual
theorem freeze : ∀ (d : D) {H : Hp} {v : V} {fp : List Addr}, Dv X.K H d v fp → Inv X pins σ H s → fp.Nodup → ∃ H', Inv X pins σ H' s ∧ Dv X.K H' d.frz v [] ∧ KeepsBut fp H H'
  | .non, H, _, _, x, I, _ => by cases x; exact ⟨H, I, .non, .refl⟩
  | .bl b, H, _, _, x, I, _ => by cases x; exact ⟨H, I, .bl b, .refl⟩
  | .int i, H, _, _, x, I, _ => by cases x; exact ⟨H, I, .int i, .refl⟩
  | .str i, H, _, _, x, I, _ => by cases x; exact ⟨H, I, .str i, .refl⟩
  | .opq i, H, _, _, x, I, _ => by cases x; exact ⟨H, I, .opq i, .refl⟩
  | .fact φ, H, _, _, x, I, _ => by
    have e := x.fz rfl
    subst e
    exact ⟨H, I, x, .refl⟩
  | .tup ds, H, _, _, x, I, nd => by
    cases x with
    | tup e l =>
      obtain ⟨H', I', l', k⟩ := freezeL ds l I nd
      exact ⟨H', I', .tup (SqT.keep k.1 l.mut e) l', k⟩
  | .lst m ds, H, _, _, x, I, nd => by
    cases x with
    | flst e l =>
      obtain ⟨H', I', l', k⟩ := freezeL ds l I nd
      exact ⟨H', I', .flst (SqF.keep k.1 (fun _ z => nomatch z) e) l', k⟩
    | @olst a xs _ _ e l =>
      obtain ⟨H1, I1, l1, k1⟩ := freezeL ds l I (List.nodup_cons.mp nd).2
      have e1 : H1 a = some (.lst xs) := k1.1 _ _ (List.nodup_cons.mp nd).1 e
      obtain ⟨od, I2⟩ := I1.lock e1 trivial
      have k2 : KeepsBut [a] H1 (L2.upd H1 a (.frz od (.lst xs))) := KeepsBut.upd e1
      refine ⟨_, I2, .flst (.inl ⟨od, upd_same⟩) (l1.keep k2.1 (fun b z => ?_) fun _ z => nomatch z), k1.trans k2 (fun x z => List.mem_cons_of_mem _ z) fun x z => ?_⟩
      · have : b = a := by simpa using z
        subst this; rw [e1]; trivial
      · have : x = a := by simpa using z
        subst this; exact List.mem_cons_self
  | .dic m ks ds, H, _, _, x, I, nd => by
    cases x with
    | fdic e q l =>
      obtain ⟨H', I', l', k⟩ := freezeL ds l I nd
      exact ⟨H', I', .fdic (k.1 _ _ (fun z => nomatch z) e) q l', k⟩
    | @odic a kvv _ _ _ e q l =>
      obtain ⟨H1, I1, l1, k1⟩ := freezeL ds l I (List.nodup_cons.mp nd).2
      have e1 : H1 a = some (.dK kvv) := k1.1 _ _ (List.nodup_cons.mp nd).1 e
      obtain ⟨od, I2⟩ := I1.lock e1 trivial
      have k2 : KeepsBut [a] H1 (L2.upd H1 a (.frz od (.dK kvv))) := KeepsBut.upd e1
      refine ⟨_, I2, .fdic upd_same q (l1.keep k2.1 (fun b z => ?_) fun _ z => nomatch z), k1.trans k2 (fun x z => List.mem_cons_of_mem _ z) fun x z => ?_⟩
      · have : b = a := by simpa using z
        subst this; rw [e1]; trivial
      · have : x = a := by simpa using z
        subst this; exact List.mem_cons_self
theorem freezeL : ∀ (ds : List D) {H : Hp} {vs : List V} {fp : List Addr}, DvL X.K H ds vs fp → Inv X pins σ H s → fp.Nodup → ∃ H', Inv X pins σ H' s ∧ DvL X.K H' (D.frzL ds) vs [] ∧ KeepsBut fp H H'
  | [], H, _, _, x, I, _ => by cases x; exact ⟨H, I, .nil, .refl⟩
  | d :: ds, H, _, _, x, I, nd => by
    cases x with
    | cons x l =>
      obtain ⟨n1, n2, n3⟩ := List.nodup_append.mp nd
      obtain ⟨H1, I1, x1, k1⟩ := freeze d x I n1
      have l1 := l.keep k1.1 x.mut (fun a h h' => n3 a h' a h rfl)
      obtain ⟨H2, I2, l2, k2⟩ := freezeL ds l1 I1 n2
      exact ⟨H2, I2, .cons (f1 := []) (f2 := []) (x1.keep k2.1 l1.mut fun _ z => nomatch z) l2, k1.trans k2 (fun x z => List.mem_append_left _ z) fun x z => List.mem_append_right _ z⟩
end
end
end DL

namespace DL
open PySem PySem.Spec PyProof.Rows L2

abbrev En := List (Option D)
/-- an exception: its class, its fields -/
structure Xn where
  cls : Str
  flds : List (Str × D)
/-- what an expression gives -/
inductive R (α : Type) where
  | ok (a : α) (ρ : En) | exc (x : Xn) (ρ : En) | stk

def Sep (Hk : Hp) (l : List Addr) : Prop := l.Nodup ∧ ∀ a ∈ l, Hk a = none
theorem Sep.perm {Hk : Hp} {l l' : List Addr} (h : Sep Hk l) (p : l'.Perm l) : Sep Hk l' := ⟨p.nodup_iff.mpr h.1, fun a z => h.2 a (p.mem_iff.mp z)⟩
theorem Sep.right {Hk : Hp} {l l' : List Addr} (h : Sep Hk (l ++ l')) : Sep Hk l' := ⟨(List.nodup_append.mp h.1).2.1, fun a z => h.2 a (List.mem_append_right _ z)⟩
theorem Sep.left {Hk : Hp} {l l' : List Addr} (h : Sep Hk (l ++ l')) : Sep Hk l := ⟨(List.nodup_append.mp h.1).1, fun a z => h.2 a (List.mem_append_left _ z)⟩
theorem Sep.apart {Hk : Hp} {l l' : List Addr} (h : Sep Hk (l ++ l')) {a : Addr} (h1 : a ∈ l) (h2 : a ∈ l') : False := (List.nodup_append.mp h.1).2.2 a h1 a h2 rfl
theorem Sep.cons {Hk : Hp} {l : List Addr} {a : Addr} (h : Sep Hk l) (n : a ∉ l) (k : Hk a = none) : Sep Hk (a :: l) :=
  ⟨List.nodup_cons.mpr ⟨n, h.1⟩, fun b z => by rcases List.mem_cons.mp z with rfl | z; exact k; exact h.2 b z⟩

/-- slots and their data -/
inductive DvS (K : PySem.W.Frag) (H : Hp) : En → L2.St → List Addr → Prop
  | nil : DvS K H [] [] []
  | skip {ρ : En} {σ : L2.St} {fs : List Addr} {o : Option V} : DvS K H ρ σ fs → DvS K H (none :: ρ) (o :: σ) fs
  | cons {ρ : En} {σ : L2.St} {d : D} {v : V} {f fs : List Addr} : Dv K H d v f → DvS K H ρ σ fs → DvS K H (some d :: ρ) (some v :: σ) (f ++ fs)
section
variable {K : PySem.W.Frag} {H H' : Hp} {W : List Addr}
theorem DvS.mut : ∀ {ρ : En} {σ : L2.St} {fs : List Addr}, DvS K H ρ σ fs → ∀ a ∈ fs, Mut (H a)
  | _, _, _, .nil => fun _ h => nomatch h
  | _, _, _, .skip l => l.mut
  | _, _, _, .cons x l => fun a h => by
    rcases List.mem_append.mp h with h | h
    · exact x.mut a h
    · exact l.mut a h
theorem DvS.keep (hk : ∀ a o, a ∉ W → H a = some o → H' a = some o) (hW : ∀ a ∈ W, Mut (H a)) : ∀ {ρ : En} {σ : L2.St} {fs : List Addr}, DvS K H ρ σ fs → (∀ a ∈ fs, a ∉ W) → DvS K H' ρ σ fs
  | _, _, _, .nil, _ => .nil
  | _, _, _, .skip l, n => .skip (l.keep hk hW n)
  | _, _, _, .cons x l, n => .cons (x.keep hk hW fun a h => n a (List.mem_append_left _ h)) (l.keep hk hW fun a h => n a (List.mem_append_right _ h))
theorem DvS.length : ∀ {ρ : En} {σ : L2.St} {fs : List Addr}, DvS K H ρ σ fs → ρ.length = σ.length
  | _, _, _, .nil => rfl
  | _, _, _, .skip l => congrArg (· + 1) l.length
  | _, _, _, .cons _ l => congrArg (· + 1) l.length
/-- the content of a slot taken out -/
theorem DvS.get : ∀ {ρ : En} {σ : L2.St} {fs : List Addr} {i : Nat} {d : D}, DvS K H ρ σ fs → ρ[i]? = some (some d) →
    ∃ v f1 f2, σ[i]? = some (some v) ∧ Dv K H d v f1 ∧ fs.Perm (f1 ++ f2) ∧ DvS K H (ρ.set i none) σ f2
  | _, _, _, _, _, .nil, e => by simp at e
  | _, _, _, 0, d, .skip l, e => by simp at e
  | _, _, _, 0, d, .cons (v := v) (f := f) (fs := fs) x l, e => by
    simp at e; subst e
    exact ⟨v, f, fs, rfl, x, List.Perm.refl _, .skip l⟩
  | _, _, _, i + 1, d, .skip (ρ := ρ) l, e => by
    obtain ⟨v, f1, f2, h1, h2, h3, h4⟩ := l.get (i := i) (d := d) (by simpa using e)
    exact ⟨v, f1, f2, by simpa using h1, h2, h3, .skip h4⟩
  | _, _, _, i + 1, d, .cons (f := f) (fs := fs) x l, e => by
    obtain ⟨v, f1, f2, h1, h2, h3, h4⟩ := l.get (i := i) (d := d) (by simpa using e)
    refine ⟨v, f1, f ++ f2, by simpa using h1, h2, ?_, .cons x h4⟩
    exact (List.Perm.append_left f h3).trans (by
      rw [← List.append_assoc, ← List.append_assoc]
      exact List.Perm.append_right _ List.perm_append_comm)
/-- the content of a slot dropped, the slot's value is free -/
theorem DvS.drop : ∀ {ρ : En} {σ : L2.St} {fs : List Addr} (i : Nat) (o : Option V), DvS K H ρ σ fs → ∃ f0 f2, fs.Perm (f0 ++ f2) ∧ DvS K H (ρ.set i none) (σ.set i o) f2
  | _, _, _, _, _, .nil => ⟨[], [], List.Perm.refl _, .nil⟩
  | _, _, _, 0, o, .skip l => ⟨[], _, List.Perm.refl _, .skip l⟩
  | _, _, _, 0, o, .cons (f := f) (fs := fs) x l => ⟨f, fs, List.Perm.refl _, .skip l⟩
  | _, _, _, i + 1, o, .skip l => by
    obtain ⟨f0, f2, p, h⟩ := l.drop i o
    exact ⟨f0, f2, p, .skip h⟩
  | _, _, _, i + 1, o, .cons (f := f) (fs := fs) x l => by
    obtain ⟨f0, f2, p, h⟩ := l.drop i o
    refine ⟨f0, f ++ f2, ?_, .cons x h⟩
    exact (List.Perm.append_left f p).trans (by
      rw [← List.append_assoc, ← List.append_assoc]
      exact List.Perm.append_right _ List.perm_append_comm)
theorem DvS.fill : ∀ {ρ : En} {σ : L2.St} {fs f : List Addr} {i : Nat} {d : D} {v : V}, DvS K H ρ σ fs → ρ[i]? = some none → σ[i]? = some (some v) → Dv K H d v f → ∃ fs', DvS K H (ρ.set i (some d)) σ fs' ∧ fs'.Perm (f ++ fs)
  | _, _, _, _, _, _, _, .nil, e, _, _ => by simp at e
  | _, _, _, f, 0, d, v, .skip (o := o) l, _, e, x => by
    simp at e; subst e
    exact ⟨_, .cons x l, List.Perm.refl _⟩
  | _, _, _, f, 0, d, v, .cons _ l, e, _, _ => by simp at e
  | _, _, _, f, i + 1, d, v, .skip l, e, e2, x => by
    obtain ⟨fs', h, p⟩ := l.fill (i := i) (by simpa using e) (by simpa using e2) x
    exact ⟨fs', .skip h, p⟩
  | _, _, _, f, i + 1, d, v, .cons (f := g) (fs := fs) y l, e, e2, x => by
    obtain ⟨fs', h, p⟩ := l.fill (i := i) (by simpa using e) (by simpa using e2) x
    refine ⟨g ++ fs', .cons y h, ?_⟩
    exact (List.Perm.append_left g p).trans (by
      rw [← List.append_assoc, ← List.append_assoc]
      exact List.Perm.append_right _ List.perm_append_comm)
end

/-- what is fixed through a body: the heap that is kept, the slots that stay, and the slots at the entry -/
structure Ct where
  Hk : Hp
  Z : List Nat
  σ0 : L2.St
def Ct.zs (c : Ct) (σ : L2.St) : Prop := σ.length = c.σ0.length ∧ ∀ j ∈ c.Z, σ[j]? = c.σ0[j]?
/-- slots σ and heap H bear the data ρ, the pending values P; Hk is kept as it is -/
def Rp (K : PySem.W.Frag) (c : Ct) (σ : L2.St) (H : Hp) (ρ : En) (P : List (D × V)) : Prop :=
  ∃ fs fp, DvS K H ρ σ fs ∧ DvL K H (P.map (·.1)) (P.map (·.2)) fp ∧ Sep c.Hk (fs ++ fp) ∧ (∀ a o, c.Hk a = some o → H a = some o) ∧ c.zs σ
section
variable {K : PySem.W.Frag} {c : Ct} {H H' : Hp} {σ : L2.St} {ρ : En} {P : List (D × V)} {d : D} {v : V} {i : Nat}
theorem perm3 {α : Type} (a b c : List α) : (a ++ (b ++ c)).Perm (b ++ (a ++ c)) := by
  rw [← List.append_assoc, ← List.append_assoc]
  exact List.Perm.append_right _ List.perm_append_comm
theorem Rp.pop {x : D × V} (r : Rp K c σ H ρ (x :: P)) : Rp K c σ H ρ P := by
  obtain ⟨fs, fp, h1, h2, h3, h4⟩ := r
  cases h2 with
  | @cons _ _ _ _ f1 f2 x l =>
    exact ⟨fs, f2, h1, l, Sep.right (l := f1) (h3.perm (perm3 _ _ _)), h4⟩
theorem Rp.pops : ∀ {Pn : List (D × V)}, Rp K c σ H ρ (Pn ++ P) → Rp K c σ H ρ P
  | [], r => r
  | _ :: Pn, r => Rp.pops (Pn := Pn) r.pop
theorem Rp.head (r : Rp K c σ H ρ ((d, v) :: P)) : ∃ f, Dv K H d v f := by
  obtain ⟨fs, fp, h1, h2, h3, h4⟩ := r
  cases h2 with
  | cons x l => exact ⟨_, x⟩
theorem Rp.mem (h : (d, v) ∈ P) (r : Rp K c σ H ρ P) : ∃ f, Dv K H d v f := by
  induction P with
  | nil => cases h
  | cons x P ih =>
    rcases List.mem_cons.mp h with e | h
    · subst e; exact r.head
    · exact ih h r.pop
theorem Rp.len (r : Rp K c σ H ρ P) : ρ.length = σ.length := by
  obtain ⟨fs, fp, h1, h2, h3, h4⟩ := r
  exact h1.length
theorem Rp.ext (r : Rp K c σ H ρ P) (hk : ∀ a o, H a = some o → H' a = some o) : Rp K c σ H' ρ P := by
  obtain ⟨fs, fp, h1, h2, h3, h4, hz⟩ := r
  exact ⟨fs, fp, h1.keep (W := []) (fun a o _ h => hk a o h) (fun _ z => nomatch z) (fun _ _ z => nomatch z), h2.ext hk, h3, fun a o e => hk a o (h4 a o e), hz⟩
theorem upd_ext {p : Addr} {o : HO} (hp : H p = none) : ∀ a u, H a = some u → upd H p o a = some u := fun a u e => by
  rw [upd_ne (ne_of_none e hp)]; exact e
/-- frozen data is pushed -/
theorem Rp.push0 (r : Rp K c σ H ρ P) (x : Dv K H d v []) : Rp K c σ H ρ ((d, v) :: P) := by
  obtain ⟨fs, fp, h1, h2, h3, h4⟩ := r
  exact ⟨fs, fp, h1, .cons (f1 := []) x h2, h3, h4⟩
/-- a slot is read -/
theorem Rp.slot (r : Rp K c σ H ρ P) (e : ρ[i]? = some (some d)) : ∃ v f, σ[i]? = some (some v) ∧ Dv K H d v f := by
  obtain ⟨fs, fp, h1, h2, h3, h4⟩ := r
  obtain ⟨v, f1, f2, e1, x, _, _⟩ := h1.get e
  exact ⟨v, f1, e1, x⟩
theorem Rp.take (r : Rp K c σ H ρ P) (e : ρ[i]? = some (some d)) : ∃ v, σ[i]? = some (some v) ∧ Rp K c σ H (ρ.set i none) ((d, v) :: P) := by
  obtain ⟨fs, fp, h1, h2, h3, h4⟩ := r
  obtain ⟨v, f1, f2, e1, x, p, h5⟩ := h1.get e
  refine ⟨v, e1, f2, f1 ++ fp, h5, .cons x h2, h3.perm ?_, h4⟩
  rw [← List.append_assoc]
  exact List.Perm.append_right _ (List.perm_append_comm.trans p.symm)
theorem Rp.drop (r : Rp K c σ H ρ P) (i : Nat) (o : Option V) (ni : i ∉ c.Z) : Rp K c (σ.set i o) H (ρ.set i none) P := by
  obtain ⟨fs, fp, h1, h2, h3, h4, hz⟩ := r
  obtain ⟨f0, f2, p, h5⟩ := h1.drop i o
  refine ⟨f2, fp, h5, h2, ?_, h4, by rw [List.length_set]; exact hz.1, fun j hj => ?_⟩
  · have : Sep c.Hk (f0 ++ (f2 ++ fp)) := h3.perm (by
      rw [← List.append_assoc]
      exact List.Perm.append_right _ p.symm)
    exact this.right
  · have hne : i ≠ j := fun e => ni (by rw [e]; exact hj)
    rw [List.getElem?_set_ne hne]; exact hz.2 j hj
/-- what a slot holds is forgotten -/
theorem Rp.clear (r : Rp K c σ H ρ P) (i : Nat) : Rp K c σ H (ρ.set i none) P := by
  by_cases hi : i < σ.length
  · obtain ⟨fs, fp, h1, h2, h3, h4⟩ := r
    obtain ⟨f0, f2, p, h5⟩ := h1.drop i σ[i]
    rw [List.set_getElem_self hi] at h5
    refine ⟨f2, fp, h5, h2, ?_, h4⟩
    have : Sep c.Hk (f0 ++ (f2 ++ fp)) := h3.perm (by
      rw [← List.append_assoc]
      exact List.Perm.append_right _ p.symm)
    exact this.right
  · have e : ρ.set i none = ρ := List.set_eq_of_length_le (by rw [r.len]; omega)
    rw [e]; exact r
theorem Rp.fill (r : Rp K c σ H ρ ((d, v) :: P)) (e : ρ[i]? = some none) (e2 : σ[i]? = some (some v)) : Rp K c σ H (ρ.set i (some d)) P := by
  obtain ⟨fs, fp, h1, h2, h3, h4⟩ := r
  cases h2 with
  | @cons _ _ _ _ f1 f2 x l =>
    obtain ⟨fs', h5, p⟩ := h1.fill e e2 x
    refine ⟨fs', f2, h5, l, h3.perm ?_, h4⟩
    refine (List.Perm.append_right _ p).trans ?_
    rw [List.append_assoc]
    exact perm3 _ _ _
/-- put back: the slot's value is v -/
theorem Rp.put (r : Rp K c σ H ρ ((d, v) :: P)) (e2 : σ[i]? = some (some v)) : Rp K c σ H (ρ.set i (some d)) P := by
  have hl := r.len
  have hi : i < ρ.length := by rw [hl]; exact (List.getElem?_eq_some_iff.mp e2).1
  have r2 := (r.clear i).fill (i := i) (by simp [hi]) e2
  rw [List.set_set] at r2
  exact r2
theorem Rp.store (r : Rp K c σ H ρ ((d, v) :: P)) (ni : i ∉ c.Z) : Rp K c (σ.set i (some v)) H (ρ.set i (some d)) P := by
  have hl := r.len
  by_cases hi : i < σ.length
  · have hi' : i < ρ.length := by rw [hl]; exact hi
    have r1 := r.drop i (some v) ni
    have r2 := r1.fill (i := i) (by simp [hi']) (by simp [hi])
    rw [List.set_set] at r2
    exact r2
  · have e : ρ.set i (some d) = ρ := List.set_eq_of_length_le (by rw [hl]; omega)
    have e' : σ.set i (some v) = σ := List.set_eq_of_length_le (by omega)
    rw [e, e']; exact r.pop
theorem DvL.perm {P P' : List (D × V)} (h : P.Perm P') : ∀ {fp : List Addr}, DvL K H (P.map (·.1)) (P.map (·.2)) fp → ∃ fp', DvL K H (P'.map (·.1)) (P'.map (·.2)) fp' ∧ fp'.Perm fp := by
  induction h with
  | nil => intro fp h; exact ⟨fp, h, List.Perm.refl _⟩
  | cons x p ih =>
    intro fp h
    cases h with
    | @cons _ _ _ _ f1 f2 x l =>
      obtain ⟨fp', h5, q⟩ := ih l
      exact ⟨f1 ++ fp', .cons x h5, List.Perm.append_left _ q⟩
  | swap x y l =>
    intro fp h
    cases h with
    | @cons _ _ _ _ f1 f2 a l =>
      cases l with
      | @cons _ _ _ _ f3 f4 b l => exact ⟨f3 ++ (f1 ++ f4), .cons b (.cons a l), perm3 _ _ _⟩
  | trans p1 p2 ih1 ih2 =>
    intro fp h
    obtain ⟨fp1, h1, q1⟩ := ih1 h
    obtain ⟨fp2, h2, q2⟩ := ih2 h1
    exact ⟨fp2, h2, q2.trans q1⟩
theorem Rp.perm {P' : List (D × V)} (r : Rp K c σ H ρ P) (p : P.Perm P') : Rp K c σ H ρ P' := by
  obtain ⟨fs, fp, h1, h2, h3, h4⟩ := r
  obtain ⟨fp', h5, p⟩ := DvL.perm p h2
  exact ⟨fs, fp', h1, h5, h3.perm (List.Perm.append_left _ p), h4⟩
theorem Rp.swap {x y : D × V} (r : Rp K c σ H ρ (x :: y :: P)) : Rp K c σ H ρ (y :: x :: P) := r.perm (.swap _ _ _)
theorem perm4 {α : Type} (a b c d : List α) : (b ++ (c ++ (a ++ d))).Perm ((a ++ b) ++ (c ++ d)) := by
  rw [List.append_assoc]
  exact (List.Perm.append_left b (perm3 c a d)).trans (perm3 b a (c ++ d))
theorem split_pend {Po : List (D × V)} {fp : List Addr} (h2 : DvL K H ((Po ++ P).map (·.1)) ((Po ++ P).map (·.2)) fp) : ∃ f1 f2, fp = f1 ++ f2 ∧ DvL K H (Po.map (·.1)) (Po.map (·.2)) f1 ∧ DvL K H (P.map (·.1)) (P.map (·.2)) f2 := by
  rw [List.map_append, List.map_append] at h2
  obtain ⟨vs, us, f1, f2, e1, e2, a, b⟩ := h2.split
  have le : vs.length = (Po.map (·.2)).length := by have := a.length; simpa using this.symm
  obtain ⟨e3, e4⟩ := List.append_inj e1.symm le
  subst e3 e4 e2
  exact ⟨f1, f2, rfl, a, b⟩
/-- the top of P is changed, at the addresses W that it owns -/
theorem Rp.chg {Pn : List (D × V)} (Po : List (D × V)) (W : List Addr) (r : Rp K c σ H ρ (Po ++ P))
    (h : ∀ fp, DvL K H (Po.map (·.1)) (Po.map (·.2)) fp → (∀ a ∈ W, a ∈ fp) ∧ (∀ a o, a ∉ W → H a = some o → H' a = some o) ∧ ∃ fp' f0, DvL K H' (Pn.map (·.1)) (Pn.map (·.2)) fp' ∧ (fp' ++ f0).Perm fp) : Rp K c σ H' ρ (Pn ++ P) := by
  obtain ⟨fs, fp, h1, h2, h3, h4, hz⟩ := r
  obtain ⟨f1, f2, rfl, a, b⟩ := split_pend h2
  obtain ⟨w1, w2, fp', f0, c1, p⟩ := h f1 a
  have hW : ∀ a ∈ W, Mut (H a) := fun x z => a.mut x (w1 x z)
  have s2 : Sep c.Hk (f1 ++ (fs ++ f2)) := h3.perm (perm3 _ _ _)
  refine ⟨fs, fp' ++ f2, h1.keep w2 hW fun x z z' => ?_, ?_, ?_, fun x o e => w2 x o (fun z => ?_) (h4 x o e), hz⟩
  · exact s2.apart (w1 x z') (List.mem_append_left _ z)
  · rw [List.map_append, List.map_append]
    exact c1.append (b.keep w2 hW fun x z z' => s2.apart (w1 x z') (List.mem_append_right _ z))
  · have : Sep c.Hk (f0 ++ (fs ++ (fp' ++ f2))) := s2.perm ((perm4 fp' f0 fs f2).trans (List.Perm.append_right (fs ++ f2) p))
    exact this.right
  · have := h3.2 x (List.mem_append_right _ (List.mem_append_left _ (w1 x z)))
    rw [this] at e; cases e
/-- a new object is laid at p, made of the top of P -/
theorem Rp.lay {Pn : List (D × V)} (Po : List (D × V)) {p : Addr} {o : HO} (r : Rp K c σ H ρ (Po ++ P)) (hp : H p = none)
    (h : ∀ fp, DvL K H (Po.map (·.1)) (Po.map (·.2)) fp → DvL K (upd H p o) (Po.map (·.1)) (Po.map (·.2)) fp → ∃ fp' f0, DvL K (upd H p o) (Pn.map (·.1)) (Pn.map (·.2)) fp' ∧ ((fp' ++ f0).Perm fp ∨ (fp' ++ f0).Perm (p :: fp))) : Rp K c σ (upd H p o) ρ (Pn ++ P) := by
  obtain ⟨fs, fp, h1, h2, h3, h4, hz⟩ := r
  obtain ⟨f1, f2, rfl, a, b⟩ := split_pend h2
  obtain ⟨fp', f0, c1, q⟩ := h f1 a (a.ext (upd_ext hp))
  have hk : c.Hk p = none := by
    cases e : c.Hk p with
    | none => rfl
    | some u => rw [h4 p u e] at hp; cases hp
  have np : ∀ x, Mut (H x) → x ≠ p := fun x m z => by subst z; rw [hp] at m; exact m
  have s1 : Sep c.Hk (p :: (f1 ++ (fs ++ f2))) := by
    refine Sep.cons (h3.perm (perm3 _ _ _)) (fun z => ?_) hk
    rcases List.mem_append.mp z with z | z
    · exact np p (a.mut p z) rfl
    · rcases List.mem_append.mp z with z | z
      · exact np p (h1.mut p z) rfl
      · exact np p (b.mut p z) rfl
  have s2 : Sep c.Hk ((fp' ++ f0) ++ (fs ++ f2)) := by
    rcases q with q | q
    · exact (Sep.right (l := [p]) s1).perm (List.Perm.append_right _ q)
    · exact s1.perm (List.Perm.append_right (fs ++ f2) q)
  refine ⟨fs, fp' ++ f2, h1.keep (W := []) (fun a o _ h => upd_ext hp a o h) (fun _ z => nomatch z) (fun _ _ z => nomatch z), ?_, ?_, fun x u e => upd_ext hp x u (h4 x u e), hz⟩
  · rw [List.map_append, List.map_append]
    exact c1.append (b.ext (upd_ext hp))
  · exact (Sep.perm s2 (perm4 fp' f0 fs f2)).right
/-- a value that is new, or frozen: what it owns is new -/
def Fresh (K : PySem.W.Frag) (H H' : Hp) (d : D) (v : V) : Prop := (∀ a o, H a = some o → H' a = some o) ∧ ∃ f, Dv K H' d v f ∧ f.Nodup ∧ ∀ a ∈ f, H a = none
theorem Rp.fresh (r : Rp K c σ H ρ P) (f : Fresh K H H' d v) : Rp K c σ H' ρ ((d, v) :: P) := by
  obtain ⟨hk, f, x, nd, nw⟩ := f
  obtain ⟨fs, fp, h1, h2, h3, h4, hz⟩ := r
  refine ⟨fs, f ++ fp, h1.keep (W := []) (fun a o _ h => hk a o h) (fun _ z => nomatch z) (fun _ _ z => nomatch z), .cons x (h2.ext hk), ?_, fun a o e => hk a o (h4 a o e), hz⟩
  have np : ∀ x ∈ f, ¬ Mut (H x) := fun x z m => by rw [nw x z] at m; exact m
  have s1 : Sep c.Hk (f ++ (fs ++ fp)) := by
    refine ⟨List.nodup_append.mpr ⟨nd, h3.1, fun a za b zb e => ?_⟩, fun a z => ?_⟩
    · subst e
      rcases List.mem_append.mp zb with q | q
      · exact np a za (h1.mut a q)
      · exact np a za (h2.mut a q)
    · rcases List.mem_append.mp z with q | q
      · cases e : c.Hk a with
        | none => rfl
        | some u => have := h4 a u e; rw [nw a q] at this; cases this
      · exact h3.2 a q
  exact s1.perm (perm3 _ _ _)
theorem Fresh.same (x : Dv K H d v []) : Fresh K H H d v := ⟨fun _ _ e => e, [], x, List.nodup_nil, fun _ z => nomatch z⟩
end
section
variable {X : Cx} {pins : List (Addr × Obj)} {c : Ct} {H : Hp} {σ : L2.St} {s : Shared} {ρ : En} {P : List (D × V)} {d : D} {v : V} {i : Nat}
/-- the top value is frozen -/
theorem Rp.freeze (I : Inv X pins σ H s) (r : Rp X.K c σ H ρ ((d, v) :: P)) : ∃ H', Inv X pins σ H' s ∧ Rp X.K c σ H' ρ ((d.frz, v) :: P) := by
  obtain ⟨fs, fp, h1, h2, h3, h4, hz⟩ := r
  cases h2 with
  | @cons _ _ _ _ f1 f2 x l =>
    have s2 : Sep c.Hk (f1 ++ (fs ++ f2)) := h3.perm (perm3 _ _ _)
    obtain ⟨H', I', x', k⟩ := DL.freeze d x I s2.left.1
    refine ⟨H', I', fs, f2, h1.keep k.1 x.mut (fun a z z' => s2.apart z' (List.mem_append_left _ z)), .cons (f1 := []) x' (l.keep k.1 x.mut fun a z z' => s2.apart z' (List.mem_append_right _ z)), s2.right, fun a o e => k.1 a o (fun z => ?_) (h4 a o e), hz⟩
    rw [s2.2 a (List.mem_append_left _ z)] at e; cases e
/-- a slot is read as a value: it is frozen from then on -/
theorem Rp.load (I : Inv X pins σ H s) (r : Rp X.K c σ H ρ P) (e : ρ[i]? = some (some d)) : ∃ v H', σ[i]? = some (some v) ∧ Inv X pins σ H' s ∧ Rp X.K c σ H' (ρ.set i (some d.frz)) ((d.frz, v) :: P) := by
  obtain ⟨v, e1, r1⟩ := r.take e
  obtain ⟨H', I', r2⟩ := Rp.freeze I r1
  refine ⟨v, H', e1, I', ?_⟩
  obtain ⟨f, x⟩ := r2.head
  have x0 : Dv X.K H' d.frz v [] := by have := x.fz (D.frz_isF d); subst this; exact x
  have r3 := r2.put (i := i) e1
  rw [List.set_set] at r3
  exact r3.push0 x0
end
end DL

namespace DL
open PySem PySem.Spec PyProof.Rows L2

section
variable {α β : Type}
def R.sat (r : R α) (ok : α → En → Prop) (ex : Xn → En → Prop) : Prop := match r with
  | .ok a ρ => ok a ρ
  | .exc x ρ => ex x ρ
  | .stk => False
def R.bind (r : R α) (k : α → En → R β) : R β := match r with
  | .ok a ρ => k a ρ
  | .exc x ρ => .exc x ρ
  | .stk => .stk
theorem R.sat_bind {r : R α} {k : α → En → R β} {ok : β → En → Prop} {ex : Xn → En → Prop} : (r.bind k).sat ok ex = r.sat (fun a ρ => (k a ρ).sat ok ex) ex := by
  cases r <;> rfl
theorem R.sat.imp {r : R α} {ok ok' : α → En → Prop} {ex : Xn → En → Prop} (h : r.sat ok ex) (h1 : ∀ a ρ, ok a ρ → ok' a ρ) : r.sat ok' ex := by
  cases r with
  | ok a ρ => exact h1 a ρ h
  | exc x ρ => exact h
  | stk => exact h
/-- of an option -/
def R.of (o : Option α) (ρ : En) : R α := match o with
  | some a => .ok a ρ
  | none => .stk
theorem R.of_sat {o : Option α} {ρ : En} {ok : α → En → Prop} {ex : Xn → En → Prop} (h : (R.of o ρ).sat ok ex) : ∃ a, o = some a ∧ ok a ρ := by
  cases o with
  | none => exact h.elim
  | some a => exact ⟨a, rfl, h⟩
@[simp] theorem R.bind_ok (a : α) (ρ : En) (k : α → En → R β) : (R.ok a ρ).bind k = k a ρ := rfl
@[simp] theorem R.bind_exc (x : Xn) (ρ : En) (k : α → En → R β) : (R.exc x ρ : R α).bind k = .exc x ρ := rfl
@[simp] theorem R.bind_stk (k : α → En → R β) : (R.stk : R α).bind k = .stk := rfl
@[simp] theorem R.of_some (a : α) (ρ : En) : R.of (some a) ρ = .ok a ρ := rfl
@[simp] theorem R.of_none (ρ : En) : R.of (none : Option α) ρ = .stk := rfl
end

/-- an operand: a value, or what a name holds (looked at when it is used) -/
inductive Ar where
  | val (d : D) | loc (i : Nat)
def slot (ρ : En) (i : Nat) : Option D := match ρ[i]? with
  | some (some d) => some d
  | _ => none
theorem slot_some {ρ : En} {i : Nat} {d : D} (h : slot ρ i = some d) : ρ[i]? = some (some d) := by
  unfold slot at h
  split at h
  · rename_i e; rw [e]; cases h; rfl
  · cases h
def res (a : Ar) (ρ : En) : Option D := match a with
  | .val d => some d
  | .loc i => slot ρ i
abbrev FE := En → R D
abbrev FO := En → R Ar
abbrev FB := En → R Bool
abbrev FLs := En → R (List Ar)
def ArOk (σ : L2.St) (P : List (D × V)) : Ar → V → Prop
  | .val d, v => (d, v) ∈ P
  | .loc i, v => σ[i]? = some (some v)
theorem ArOk.up {σ : L2.St} {P : List (D × V)} {a : Ar} {v : V} (Pn : List (D × V)) (h : ArOk σ P a v) : ArOk σ (Pn ++ P) a v := by
  cases a with
  | val d => exact List.mem_append_right _ h
  | loc i => exact h
theorem ArOk.dv {K : PySem.W.Frag} {c : Ct} {H : Hp} {σ : L2.St} {ρ : En} {P : List (D × V)} {a : Ar} {v : V} {d : D} (h : ArOk σ P a v) (r : Rp K c σ H ρ P) (e : res a ρ = some d) : ∃ f, Dv K H d v f := by
  cases a with
  | val d' => cases e; exact Rp.mem h r
  | loc i =>
    obtain ⟨v', f, e1, x⟩ := r.slot (slot_some e)
    have e2 : σ[i]? = some (some v) := h
    rw [e2] at e1; cases e1
    exact ⟨f, x⟩

section
variable (K : PySem.W.Frag) (c : Ct) (Ew : Xn → En → Prop)
def rdE (f : FE) : TE := fun σ H Q => ∃ ρ P, Rp K c σ H ρ P ∧ (f ρ).sat (fun d ρ' => ∀ v H', Rp K c σ H' ρ' ((d, v) :: P) → Q v H') Ew
def rdO (f : FO) : TE := fun σ H Q => ∃ ρ P, Rp K c σ H ρ P ∧ (f ρ).sat (fun a ρ' => ∀ v H' Pn, Rp K c σ H' ρ' (Pn ++ P) → ArOk σ (Pn ++ P) a v → Q v H') Ew
def rdT (f : FB) : TT := fun σ H Q => ∃ ρ P, Rp K c σ H ρ P ∧ (f ρ).sat (fun b ρ' => ∀ H', Rp K c σ H' ρ' P → Q b H') Ew
def rdA (f : FLs) : TA := fun σ H Q => ∃ ρ P, Rp K c σ H ρ P ∧ (f ρ).sat (fun as ρ' => ∀ vs H' Pn, Rp K c σ H' ρ' (Pn ++ P) → Paired (ArOk σ (Pn ++ P)) as vs → Q vs H') Ew
end
abbrev DE (X : Cx) (c : Ct) (Ew : Xn → En → Prop) (e : Expr) (f : FE) : Prop := PE X e (rdE X.K c Ew f)
abbrev DO (X : Cx) (c : Ct) (Ew : Xn → En → Prop) (e : Expr) (f : FO) : Prop := PE X e (rdO X.K c Ew f)
abbrev DT (X : Cx) (c : Ct) (Ew : Xn → En → Prop) (e : Expr) (f : FB) : Prop := PT X e (rdT X.K c Ew f)
abbrev DW (X : Cx) (c : Ct) (Ew : Xn → En → Prop) (e : Expr) (f : FB) : Prop := PW X e (rdT X.K c Ew f)
abbrev DA (X : Cx) (c : Ct) (Ew : Xn → En → Prop) (es : List Expr) (f : FLs) : Prop := PA X es (rdA X.K c Ew f)

theorem _root_.L2.PE.dimp {X : Cx} {e : Expr} {t u : TE} (h : PE X e t) (q : ∀ σ H Q, u σ H Q → t σ H Q) : PE X e u := ⟨fun pins s σ H Q I x => h.run pins s σ H Q I (q σ H Q x)⟩
theorem _root_.L2.PT.dimp {X : Cx} {e : Expr} {t u : TT} (h : PT X e t) (q : ∀ σ H Q, u σ H Q → t σ H Q) : PT X e u := ⟨fun pins s σ H Q I x => h.run pins s σ H Q I (q σ H Q x)⟩
theorem _root_.L2.PW.dimp {X : Cx} {e : Expr} {t u : TT} (h : PW X e t) (q : ∀ σ H Q, u σ H Q → t σ H Q) : PW X e u := ⟨fun wh pins s σ H Q I x => h.run wh pins s σ H Q I (q σ H Q x)⟩
theorem _root_.L2.PA.dimp {X : Cx} {e : List Expr} {t u : TA} (h : PA X e t) (q : ∀ σ H Q, u σ H Q → t σ H Q) : PA X e u := ⟨fun pos pins s σ H Q I x => h.run pos pins s σ H Q I (q σ H Q x)⟩

section
variable {X : Cx} {c : Ct} {Ew : Xn → En → Prop} {e a b : Expr} {pos : Pos} {es : List Expr}

/-! ### constants, names -/
def fC (d : D) : FE := fun ρ => .ok d ρ
theorem de_c {v : V} {d : D} (h : PE X e (tC v)) (x : ∀ H, Dv X.K H d v []) : DE X c Ew e (fC d) := h.dimp fun σ H Q ⟨ρ, P, r, q⟩ => q v H (r.push0 (x H))
theorem de_int {i j} : DE X c Ew (.Constant (.int i) j pos) (fC (.int i)) := de_c pe_int fun _ => .int i
theorem de_bl {i j} : DE X c Ew (.Constant (.bool i) j pos) (fC (.bl i)) := de_c pe_bl fun _ => .bl i
theorem de_non {j} : DE X c Ew (.Constant .none j pos) (fC .non) := de_c pe_non fun _ => .non
theorem de_str {i j} : DE X c Ew (.Constant (.str i) j pos) (fC (.str i)) := de_c pe_str fun _ => .str i
theorem de_glob {x : Str} {v : V} {u : Value} {d : D} (hm : X.mg x = some u) (hg : Gl X x) (r : RelV v u) (q : ∀ H, Dv X.K H d v []) (hd : (x == ("__debug__" : Str)) = false := by decide) : DE X c Ew (.Name x pos) (fC d) := de_c (pe_glob hg hm r hd) q
/-- a name as a value: what it holds is frozen -/
def fName (i : Nat) : FE := fun ρ => match slot ρ i with
  | some d => .ok d.frz (ρ.set i (some d.frz))
  | none => .stk
/-- a name given away -/
def fMove (i : Nat) : FE := fun ρ => match slot ρ i with
  | some d => .ok d (ρ.set i none)
  | none => .stk
def fLoc (i : Nat) : FO := fun ρ => match slot ρ i with
  | some _ => .ok (.loc i) ρ
  | none => .stk
theorem de_name (i : Nat) {x : Str} (h : PE X (.Name x pos) (tVar i)) : DE X c Ew (.Name x pos) (fName i) := by
  refine ⟨fun pins s σ H Q I ⟨ρ, P, r, q⟩ => ?_⟩
  unfold fName at q
  cases e : slot ρ i with
  | none => rw [e] at q; exact q.elim
  | some d =>
    rw [e] at q
    obtain ⟨v, f, e1, _⟩ := r.slot (slot_some e)
    refine thn (h.run pins s σ H (fun v' H1 => v' = v ∧ H1 = H) I ⟨v, e1, rfl, rfl⟩) fun u s1 ⟨v1, H1, I1, rv, e2, e3⟩ => ?_
    subst e2 e3
    obtain ⟨v2, H', e4, I', r'⟩ := Rp.load I1 r (slot_some e)
    rw [e1] at e4; cases e4
    exact ⟨v1, H', I', rv, q v1 H' r'⟩
theorem de_move (i : Nat) {x : Str} (h : PE X (.Name x pos) (tVar i)) : DE X c Ew (.Name x pos) (fMove i) := h.dimp fun σ H Q ⟨ρ, P, r, q⟩ => by
  unfold fMove at q
  cases e : slot ρ i with
  | none => rw [e] at q; exact q.elim
  | some d =>
    rw [e] at q
    obtain ⟨v, e1, r1⟩ := r.take (slot_some e)
    exact ⟨v, e1, q v H r1⟩
/-- a name as an operand; it must hold something (res looks later) -/
theorem do_loc (i : Nat) {x : Str} (h : PE X (.Name x pos) (tVar i)) : DO X c Ew (.Name x pos) (fLoc i) := h.dimp fun σ H Q ⟨ρ, P, r, q⟩ => by
  unfold fLoc at q
  cases e : slot ρ i with
  | none => rw [e] at q; exact q.elim
  | some d =>
    rw [e] at q
    obtain ⟨v, f, e1, _⟩ := r.slot (slot_some e)
    exact ⟨v, e1, q v H [] r e1⟩
def fVal (f : FE) : FO := fun ρ => (f ρ).bind fun d ρ' => .ok (.val d) ρ'
theorem do_val {f : FE} (h : DE X c Ew e f) : DO X c Ew e (fVal f) := h.dimp fun σ H Q ⟨ρ, P, r, q⟩ => by
  refine ⟨ρ, P, r, ?_⟩
  unfold fVal at q
  rw [R.sat_bind] at q
  exact q.imp fun d ρ' k v H' r' => k v H' [(d, v)] r' (List.mem_cons_self)
/-- the value is frozen -/
def fFz (f : FE) : FE := fun ρ => (f ρ).bind fun d ρ' => .ok d.frz ρ'
theorem de_fz {f : FE} (h : DE X c Ew e f) : DE X c Ew e (fFz f) := by
  refine ⟨fun pins s σ H Q I ⟨ρ, P, r, q⟩ => ?_⟩
  unfold fFz at q
  rw [R.sat_bind] at q
  refine thn (h.run pins s σ H (fun v H1 => ∃ d ρ', Rp X.K c σ H1 ρ' ((d, v) :: P) ∧ ∀ v H', Rp X.K c σ H' ρ' ((d.frz, v) :: P) → Q v H') I ⟨ρ, P, r, q.imp fun d ρ' k v H' r' => ⟨d, ρ', r', k⟩⟩) fun u s1 ⟨v, H1, I1, rv, d, ρ', r1, k⟩ => ?_
  obtain ⟨H2, I2, r2⟩ := Rp.freeze I1 r1
  exact ⟨v, H2, I2, rv, k v H2 r2⟩

/-! ### operations by values -/
def lift2 (g : D → D → Option D) (a b : Ar) : FE := fun ρ => match res a ρ, res b ρ with
  | some d, some e => R.of (g d e) ρ
  | _, _ => .stk
def fBin (g : D → D → Option D) (fa fb : FO) : FE := fun ρ => (fa ρ).bind fun a ρ1 => (fb ρ1).bind fun b ρ2 => lift2 g a b ρ2
def lift1 (g : D → Option D) (a : Ar) : FE := fun ρ => match res a ρ with
  | some d => R.of (g d) ρ
  | _ => .stk
def fUn (g : D → Option D) (fa : FO) : FE := fun ρ => (fa ρ).bind fun a ρ1 => lift1 g a ρ1
def Op2 (K : PySem.W.Frag) (r : R2) (g : D → D → Option D) : Prop := ∀ (H : Hp) (x y : V) (d e : D) (f1 f2 : List Addr) (Q : VK) (dr : D), Dv K H d x f1 → Dv K H e y f2 → g d e = some dr → (∀ v H', Fresh K H H' dr v → Q v H') → r x y H Q
def Op1 (K : PySem.W.Frag) (r : V → Hp → VK → Prop) (g : D → Option D) : Prop := ∀ (H : Hp) (x : V) (d : D) (f1 : List Addr) (Q : VK) (dr : D), Dv K H d x f1 → g d = some dr → (∀ v H', Fresh K H H' dr v → Q v H') → r x H Q
theorem lift2_sat {g : D → D → Option D} {a b : Ar} {ρ : En} {ok : D → En → Prop} {ex : Xn → En → Prop} (h : (lift2 g a b ρ).sat ok ex) : ∃ d e dr, res a ρ = some d ∧ res b ρ = some e ∧ g d e = some dr ∧ ok dr ρ := by
  unfold lift2 at h
  cases ea : res a ρ with
  | none => rw [ea] at h; exact h.elim
  | some d =>
    cases eb : res b ρ with
    | none => rw [ea, eb] at h; exact h.elim
    | some e =>
      rw [ea, eb] at h
      obtain ⟨dr, e1, q⟩ := R.of_sat h
      exact ⟨d, e, dr, rfl, rfl, e1, q⟩
theorem lift1_sat {g : D → Option D} {a : Ar} {ρ : En} {ok : D → En → Prop} {ex : Xn → En → Prop} (h : (lift1 g a ρ).sat ok ex) : ∃ d dr, res a ρ = some d ∧ g d = some dr ∧ ok dr ρ := by
  unfold lift1 at h
  cases ea : res a ρ with
  | none => rw [ea] at h; exact h.elim
  | some d =>
    rw [ea] at h
    obtain ⟨dr, e1, q⟩ := R.of_sat h
    exact ⟨d, dr, rfl, e1, q⟩
theorem rd_op2 {K : PySem.W.Frag} {r : R2} {g : D → D → Option D} (h : Op2 K r g) (fa fb : FO) (σ : L2.St) (H : Hp) (Q : VK) : rdE K c Ew (fBin g fa fb) σ H Q → tOp r (rdO K c Ew fa) (rdO K c Ew fb) σ H Q := by
  rintro ⟨ρ, P, rp, hs⟩
  unfold fBin at hs
  rw [R.sat_bind] at hs
  refine ⟨ρ, P, rp, hs.imp fun a ρ1 hs v H1 Pn r1 oka => ?_⟩
  rw [R.sat_bind] at hs
  refine ⟨ρ1, Pn ++ P, r1, hs.imp fun b ρ2 hs u H2 Pm r2 okb => ?_⟩
  obtain ⟨d, e, dr, ea, eb, eg, q⟩ := lift2_sat hs
  obtain ⟨f1, x⟩ := (oka.up Pm).dv r2 ea
  obtain ⟨f2, y⟩ := okb.dv r2 eb
  exact h H2 v u d e f1 f2 Q dr x y eg fun w H3 fr => q w H3 (Rp.fresh r2.pops.pops fr)
theorem rd_op1 {K : PySem.W.Frag} {r : V → Hp → VK → Prop} {g : D → Option D} (h : Op1 K r g) (fa : FO) (σ : L2.St) (H : Hp) (Q : VK) : rdE K c Ew (fUn g fa) σ H Q → tUn r (rdO K c Ew fa) σ H Q := by
  rintro ⟨ρ, P, rp, hs⟩
  unfold fUn at hs
  rw [R.sat_bind] at hs
  refine ⟨ρ, P, rp, hs.imp fun a ρ1 hs v H1 Pn r1 oka => ?_⟩
  obtain ⟨d, dr, ea, eg, q⟩ := lift1_sat hs
  obtain ⟨f1, x⟩ := oka.dv r1 ea
  exact h H1 v d f1 Q dr x eg fun w H3 fr => q w H3 (Rp.fresh r1.pops fr)
theorem de_bin {op : Operator} {r : R2} {g : D → D → Option D} {fa fb : FO} (ho : OpR X (binaryOp op) r) (h : Op2 X.K r g) (ha : DO X c Ew a fa) (hb : DO X c Ew b fb) : DE X c Ew (.BinOp a op b pos) (fBin g fa fb) := (pe_op ho ha hb).dimp (rd_op2 h fa fb)
theorem de_un {op : UnaryOp} {r : V → Hp → VK → Prop} {g : D → Option D} {fa : FO} (ho : UnR X (unaryOp op) r) (h : Op1 X.K r g) (ha : DO X c Ew a fa) : DE X c Ew (.UnaryOp op a pos) (fUn g fa) := (pe_un ho ha).dimp (rd_op1 h fa)
theorem de_cmp {op : CmpOp} {r : R2} {g : D → D → Option D} {fa fb : FO} (ho : OpR X (compareOp op) r) (h : Op2 X.K r g) (ha : DO X c Ew a fa) (hb : DO X c Ew b fb) (hm : behindInMarks op b = false) : DE X c Ew (.Compare a [op] [b] pos) (fBin g fa fb) := (pe_cmpR ho ha hb hm).dimp (rd_op2 h fa fb)
theorem de_ix {r : R2} {g : D → D → Option D} {fa fb : FO} (ho : IxR X r) (h : Op2 X.K r g) (ha : DO X c Ew a fa) (hb : DO X c Ew b fb) (hs : PlainIx b) : DE X c Ew (.Subscript a b pos) (fBin g fa fb) := (pe_ix ho ha hb hs).dimp (rd_op2 h fa fb)
/-- a comparison as a test -/
def asB : D → En → R Bool := fun d ρ => match d with
  | .bl b => .ok b ρ
  | _ => .stk
def fTst (f : FE) : FB := fun ρ => (f ρ).bind asB
theorem asB_sat {d : D} {ρ : En} {ok : Bool → En → Prop} {ex : Xn → En → Prop} (h : (asB d ρ).sat ok ex) : ∃ b, d = .bl b ∧ ok b ρ := by
  cases d with
  | bl b => exact ⟨b, rfl, h⟩
  | _ => exact h.elim
theorem Rp.bl {K : PySem.W.Frag} {c : Ct} {σ : L2.St} {H : Hp} {ρ : En} {P : List (D × V)} {b : Bool} {v : V} (r : Rp K c σ H ρ ((.bl b, v) :: P)) : v = .bl b := by
  obtain ⟨f, x⟩ := r.head
  cases x; rfl
theorem dt_cmp {op : CmpOp} {r : R2} {g : D → D → Option D} {fa fb : FO} (ho : OpR X (compareOp op) r) (h : Op2 X.K r g) (ha : DO X c Ew a fa) (hb : DO X c Ew b fb) (hm : behindInMarks op b = false) : DT X c Ew (.Compare a [op] [b] pos) (fTst (fBin g fa fb)) := by
  refine (pt_cmpR ho ha hb hm).dimp fun σ H Q ⟨ρ, P, rp, q⟩ => ?_
  refine rd_op2 (c := c) (Ew := Ew) h fa fb σ H _ ⟨ρ, P, rp, ?_⟩
  unfold fTst at q
  rw [R.sat_bind] at q
  refine q.imp fun d ρ' k v H' r' => ?_
  obtain ⟨b, rfl, k⟩ := asB_sat k
  exact ⟨b, r'.bl, k H' r'.pop⟩
/-- any expression whose value is a bool as a test -/
theorem dt_val {f : FE} (h : DE X c Ew e f) (he : ∀ whole, isTrue e X.env whole = (do let v ← whole; standAt e.pos; holding [v] (truthy v)) := by intro _; rfl) : DT X c Ew e (fTst f) := by
  refine (pt_val h he).dimp fun σ H Q ⟨ρ, P, rp, q⟩ => ?_
  unfold fTst at q
  rw [R.sat_bind] at q
  refine ⟨ρ, P, rp, q.imp fun d ρ' k v H' r' => ?_⟩
  obtain ⟨b, rfl, k⟩ := asB_sat k
  exact ⟨b, r'.bl, k H' r'.pop⟩
/-! ### not, and, or, if else -/
def fNotT (f : FB) : FB := fun ρ => (f ρ).bind fun b ρ' => .ok (!b) ρ'
def fAndT (f g : FB) : FB := fun ρ => (f ρ).bind fun b ρ' => if b then g ρ' else .ok false ρ'
def fOrT (f g : FB) : FB := fun ρ => (f ρ).bind fun b ρ' => if b then .ok true ρ' else g ρ'
theorem dt_not {f : FB} (h : DT X c Ew a f) : DT X c Ew (.UnaryOp .Not a pos) (fNotT f) := (pt_not h).dimp fun σ H Q ⟨ρ, P, rp, q⟩ => by
  unfold fNotT at q
  rw [R.sat_bind] at q
  exact ⟨ρ, P, rp, q.imp fun b ρ' k H' r' => k H' r'⟩
theorem dw_and1 {f : FB} (h : DT X c Ew a f) : DW X c Ew (.BoolOp .And [a] pos) f := pw_and1 h
theorem dw_or1 {f : FB} (h : DT X c Ew a f) : DW X c Ew (.BoolOp .Or [a] pos) f := pw_or1 h
theorem dw_and {f g : FB} {rest : List Expr} (h : DT X c Ew a f) (h2 : DW X c Ew (.BoolOp .And (b :: rest) pos) g) : DW X c Ew (.BoolOp .And (a :: b :: rest) pos) (fAndT f g) := (pw_and h h2).dimp fun σ H Q ⟨ρ, P, rp, q⟩ => by
  unfold fAndT at q
  rw [R.sat_bind] at q
  refine ⟨ρ, P, rp, q.imp fun b ρ' k H' r' => ?_⟩
  cases b with
  | true => exact ⟨ρ', P, r', k⟩
  | false => exact k H' r'
theorem dw_or {f g : FB} {rest : List Expr} (h : DT X c Ew a f) (h2 : DW X c Ew (.BoolOp .Or (b :: rest) pos) g) : DW X c Ew (.BoolOp .Or (a :: b :: rest) pos) (fOrT f g) := (pw_or h h2).dimp fun σ H Q ⟨ρ, P, rp, q⟩ => by
  unfold fOrT at q
  rw [R.sat_bind] at q
  refine ⟨ρ, P, rp, q.imp fun b ρ' k H' r' => ?_⟩
  cases b with
  | true => exact k H' r'
  | false => exact ⟨ρ', P, r', k⟩
theorem dt_w {f : FB} (h : DW X c Ew e f) : DT X c Ew e f := h.pt
/-- .. as values -/
def fAndV (f g : FE) : FE := fun ρ => (f ρ).bind fun d ρ' => (asB d ρ').bind fun b ρ' => if b then g ρ' else .ok (.bl false) ρ'
def fOrV (f g : FE) : FE := fun ρ => (f ρ).bind fun d ρ' => (asB d ρ').bind fun b ρ' => if b then .ok (.bl true) ρ' else g ρ'
def fNotV (f : FE) : FE := fun ρ => (f ρ).bind fun d ρ' => (asB d ρ').bind fun b ρ' => .ok (.bl (!b)) ρ'
theorem de_one {op} {f : FE} (h : DE X c Ew a f) : DE X c Ew (.BoolOp op [a] pos) f := pe_one h
theorem de_and {f g : FE} {rest : List Expr} (h : DE X c Ew a f) (h2 : DE X c Ew (.BoolOp .And (b :: rest) pos) g) : DE X c Ew (.BoolOp .And (a :: b :: rest) pos) (fAndV f g) := (pe_and h h2).dimp fun σ H Q ⟨ρ, P, rp, q⟩ => by
  unfold fAndV at q
  rw [R.sat_bind] at q
  refine ⟨ρ, P, rp, q.imp fun d ρ' k v H' r' => ?_⟩
  rw [R.sat_bind] at k
  obtain ⟨b, rfl, k⟩ := asB_sat k
  refine ⟨b, r'.bl, ?_⟩
  cases b with
  | true => exact ⟨ρ', P, r'.pop, k⟩
  | false => exact k _ H' (r'.pop.push0 (.bl _))
theorem de_or {f g : FE} {rest : List Expr} (h : DE X c Ew a f) (h2 : DE X c Ew (.BoolOp .Or (b :: rest) pos) g) : DE X c Ew (.BoolOp .Or (a :: b :: rest) pos) (fOrV f g) := (pe_or h h2).dimp fun σ H Q ⟨ρ, P, rp, q⟩ => by
  unfold fOrV at q
  rw [R.sat_bind] at q
  refine ⟨ρ, P, rp, q.imp fun d ρ' k v H' r' => ?_⟩
  rw [R.sat_bind] at k
  obtain ⟨b, rfl, k⟩ := asB_sat k
  refine ⟨b, r'.bl, ?_⟩
  cases b with
  | true => exact k _ H' (r'.pop.push0 (.bl _))
  | false => exact ⟨ρ', P, r'.pop, k⟩
theorem de_not {f : FE} (h : DE X c Ew a f) : DE X c Ew (.UnaryOp .Not a pos) (fNotV f) := (pe_not h).dimp fun σ H Q ⟨ρ, P, rp, q⟩ => by
  unfold fNotV at q
  rw [R.sat_bind] at q
  refine ⟨ρ, P, rp, q.imp fun d ρ' k v H' r' => ?_⟩
  rw [R.sat_bind] at k
  obtain ⟨b, rfl, k⟩ := asB_sat k
  exact ⟨b, r'.bl, k _ H' (r'.pop.push0 (.bl _))⟩
def fIf (t : FB) (f g : FE) : FE := fun ρ => (t ρ).bind fun b ρ' => if b then f ρ' else g ρ'
theorem de_if {t : Expr} {ft : FB} {f g : FE} (ht : DT X c Ew t ft) (ha : DE X c Ew a f) (hb : DE X c Ew b g) : DE X c Ew (.IfExp t a b pos) (fIf ft f g) := (pe_ifExp ht ha hb).dimp fun σ H Q ⟨ρ, P, rp, q⟩ => by
  unfold fIf at q
  rw [R.sat_bind] at q
  refine ⟨ρ, P, rp, q.imp fun b ρ' k H' r' => ?_⟩
  cases b with
  | true => exact ⟨ρ', P, r', k⟩
  | false => exact ⟨ρ', P, r', k⟩
/-- a <= b <= d as a test, as a value -/
def fChain (g g' : D → D → Option D) (fa fb fc : FO) : FE := fun ρ => (fa ρ).bind fun a ρ1 => (fb ρ1).bind fun b ρ2 => (lift2 g a b ρ2).bind fun z ρ3 => (asB z ρ3).bind fun k ρ4 => if k then (fc ρ4).bind fun d ρ5 => lift2 g' b d ρ5 else .ok (.bl false) ρ4
theorem rd_chain {K : PySem.W.Frag} {r r' : R2} {g g' : D → D → Option D} (h : Op2 K r g) (h' : Op2 K r' g') (fa fb fc : FO) (σ : L2.St) (H : Hp) (Q : VK) : rdE K c Ew (fChain g g' fa fb fc) σ H Q → tChain r r' (rdO K c Ew fa) (rdO K c Ew fb) (rdO K c Ew fc) σ H Q := by
  rintro ⟨ρ, P, rp, hs⟩
  unfold fChain at hs
  rw [R.sat_bind] at hs
  refine ⟨ρ, P, rp, hs.imp fun a ρ1 hs v H1 Pn r1 oka => ?_⟩
  rw [R.sat_bind] at hs
  refine ⟨ρ1, Pn ++ P, r1, hs.imp fun b ρ2 hs u H2 Pm r2 okb => ?_⟩
  rw [R.sat_bind] at hs
  obtain ⟨d, e, dr, ea, eb, eg, q⟩ := lift2_sat hs
  rw [R.sat_bind] at q
  obtain ⟨k, rfl, q⟩ := asB_sat q
  obtain ⟨f1, x⟩ := (oka.up Pm).dv r2 ea
  obtain ⟨f2, y⟩ := okb.dv r2 eb
  refine h H2 v u d e f1 f2 _ _ x y eg fun w H3 fr => ?_
  have r3 := Rp.fresh r2 fr
  refine ⟨k, r3.bl, ?_⟩
  cases k with
  | false => exact q _ H3 (r3.pop.pops.pops.push0 (.bl _))
  | true =>
    have q : ((fc ρ2).bind fun d ρ5 => lift2 g' b d ρ5).sat _ _ := q
    rw [R.sat_bind] at q
    refine ⟨ρ2, Pm ++ (Pn ++ P), r3.pop, q.imp fun d2 ρ5 hs w2 H4 Pk r4 okd => ?_⟩
    obtain ⟨d, e, dr, ea, eb, eg, q⟩ := lift2_sat hs
    obtain ⟨f1, x⟩ := (okb.up Pk).dv r4 ea
    obtain ⟨f2, y⟩ := okd.dv r4 eb
    exact h' H4 _ _ d e f1 f2 Q dr x y eg fun w H5 fr => q w H5 (Rp.fresh r4.pops.pops.pops fr)
theorem de_chain {d : Expr} {op op' : CmpOp} {r r' : R2} {g g' : D → D → Option D} {fa fb fc : FO} (ho : OpR X (compareOp op) r) (h : Op2 X.K r g) (ho' : OpR X (compareOp op') r') (h' : Op2 X.K r' g') (ha : DO X c Ew a fa) (hb : DO X c Ew b fb) (hd : DO X c Ew d fc)
    (hm : lastMarks [op, op'] [b, d] = false := by with_unfolding_all rfl) : DE X c Ew (.Compare a [op, op'] [b, d] pos) (fChain g g' fa fb fc) := (pe_chain ho ho' ha hb hd hm).dimp (rd_chain h h' fa fb fc)
theorem dt_chain {d : Expr} {op op' : CmpOp} {r r' : R2} {g g' : D → D → Option D} {fa fb fc : FO} (ho : OpR X (compareOp op) r) (h : Op2 X.K r g) (ho' : OpR X (compareOp op') r') (h' : Op2 X.K r' g') (ha : DO X c Ew a fa) (hb : DO X c Ew b fb) (hd : DO X c Ew d fc)
    (hm : lastMarks [op, op'] [b, d] = false := by with_unfolding_all rfl) : DT X c Ew (.Compare a [op, op'] [b, d] pos) (fTst (fChain g g' fa fb fc)) := by
  refine (pt_chain ho ho' ha hb hd hm).dimp fun σ H Q ⟨ρ, P, rp, q⟩ => ?_
  refine rd_chain (c := c) (Ew := Ew) h h' fa fb fc σ H _ ⟨ρ, P, rp, ?_⟩
  unfold fTst at q
  rw [R.sat_bind] at q
  refine q.imp fun d ρ' k v H' r' => ?_
  obtain ⟨b, rfl, k⟩ := asB_sat k
  exact ⟨b, r'.bl, k H' r'.pop⟩
/-! ### arguments -/
def fNil : FLs := fun ρ => .ok [] ρ
def fCons (f : FO) (g : FLs) : FLs := fun ρ => (f ρ).bind fun a ρ1 => (g ρ1).bind fun as ρ2 => .ok (a :: as) ρ2
theorem da_nil : DA X c Ew [] fNil := pa_nil.dimp fun σ H Q ⟨ρ, P, r, q⟩ => q [] H [] r .nil
theorem ArOk.ups {σ : L2.St} {P : List (D × V)} (Pn : List (D × V)) : ∀ {as : List Ar} {vs : List V}, Paired (ArOk σ P) as vs → Paired (ArOk σ (Pn ++ P)) as vs
  | _, _, .nil => .nil
  | _, _, .cons h t => .cons (h.up Pn) (ArOk.ups Pn t)
theorem da_cons {f : FO} {g : FLs} (h : DO X c Ew e f) (h2 : DA X c Ew es g) (hs : starEach (e :: es) X.env = (false, eval e X.env) :: starEach es X.env := by rfl) : DA X c Ew (e :: es) (fCons f g) := (pa_cons h h2 hs).dimp fun σ H Q ⟨ρ, P, rp, q⟩ => by
  unfold fCons at q
  rw [R.sat_bind] at q
  refine ⟨ρ, P, rp, q.imp fun a ρ1 q v H1 Pn r1 oka => ?_⟩
  rw [R.sat_bind] at q
  refine ⟨ρ1, Pn ++ P, r1, q.imp fun as ρ2 q vs H2 Pm r2 okas => ?_⟩
  rw [← List.append_assoc] at r2 okas
  exact q (v :: vs) H2 (Pm ++ Pn) r2 (.cons (by rw [List.append_assoc]; exact oka.up Pm) okas)
/-- what arguments hold -/
def ress (as : List Ar) (ρ : En) : Option (List D) := match as with
  | [] => some []
  | a :: as => match res a ρ, ress as ρ with
    | some d, some ds => some (d :: ds)
    | _, _ => none
/-- one by one, what they own is not told -/
abbrev DvA (K : PySem.W.Frag) (H : Hp) : List D → List V → Prop := Paired fun d v => ∃ f, Dv K H d v f
theorem ArOk.dvs {K : PySem.W.Frag} {c : Ct} {H : Hp} {σ : L2.St} {ρ : En} {P : List (D × V)} (r : Rp K c σ H ρ P) : ∀ {as : List Ar} {vs : List V} {ds : List D}, Paired (ArOk σ P) as vs → ress as ρ = some ds → DvA K H ds vs
  | _, _, _, .nil, e => by cases e; exact .nil
  | _, _, ds, .cons (a := a) (l₁ := as) h t, e => by
    unfold ress at e
    cases ea : res a ρ with
    | none => rw [ea] at e; cases e
    | some d =>
      cases eb : ress as ρ with
      | none => rw [ea, eb] at e; cases e
      | some ds' =>
        rw [ea, eb] at e
        cases e
        exact .cons (h.dv r ea) (ArOk.dvs r t eb)
def liftN (g : List D → Option D) (as : List Ar) : FE := fun ρ => match ress as ρ with
  | some ds => R.of (g ds) ρ
  | none => .stk
theorem liftN_sat {g : List D → Option D} {as : List Ar} {ρ : En} {ok : D → En → Prop} {ex : Xn → En → Prop} (h : (liftN g as ρ).sat ok ex) : ∃ ds dr, ress as ρ = some ds ∧ g ds = some dr ∧ ok dr ρ := by
  unfold liftN at h
  cases ea : ress as ρ with
  | none => rw [ea] at h; exact h.elim
  | some d =>
    rw [ea] at h
    obtain ⟨dr, e1, q⟩ := R.of_sat h
    exact ⟨d, dr, rfl, e1, q⟩
def fCallB (g : List D → Option D) (fs : FLs) : FE := fun ρ => (fs ρ).bind fun as ρ1 => liftN g as ρ1
def OpN (K : PySem.W.Frag) (r : List V → Hp → VK → Prop) (g : List D → Option D) : Prop := ∀ (H : Hp) (xs : List V) (ds : List D) (Q : VK) (dr : D), DvA K H ds xs → g ds = some dr → (∀ v H', Fresh K H H' dr v → Q v H') → r xs H Q
theorem rd_opN {K : PySem.W.Frag} {r : List V → Hp → VK → Prop} {g : List D → Option D} (h : OpN K r g) (fs : FLs) (σ : L2.St) (H : Hp) (Q : VK) : rdE K c Ew (fCallB g fs) σ H Q → tCB r (rdA K c Ew fs) σ H Q := by
  rintro ⟨ρ, P, rp, hs⟩
  unfold fCallB at hs
  rw [R.sat_bind] at hs
  refine ⟨ρ, P, rp, hs.imp fun as ρ1 hs vs H1 Pn r1 oka => ?_⟩
  obtain ⟨ds, dr, ea, eg, q⟩ := liftN_sat hs
  exact h H1 vs ds Q dr (ArOk.dvs r1 oka ea) eg fun w H3 fr => q w H3 (Rp.fresh r1.pops fr)
theorem de_callB {x : Str} {id : String} {r : List V → Hp → VK → Prop} {g : List D → Option D} {fs : FLs} {p : Pos} (hm : X.mg x = none) (hc : CallR X (.builtin id) r) (h : OpN X.K r g) (hv : bootBuiltins x = some (.builtin id)) (ha : DA X c Ew (e :: es) fs) (hg : Gl X x := by rfl) (hn : x ≠ "__name__" := by decide) (hdb : (x == ("__debug__" : Str)) = false := by decide)
    (h1 : starEach (e :: es) X.env = (false, eval e X.env) :: starEach es X.env := by rfl) (h2 : (backTo pos (starEach es X.env)).any (·.1) = false := by rfl) :
    DE X c Ew (.Call (.Name x p) (e :: es) [] pos) (fCallB g fs) := (pe_callB hc hg hm hv ha hn hdb h1 h2).dimp (rd_opN h fs)
theorem de_callTy {x : Str} {T : String} {r : List V → Hp → VK → Prop} {g : List D → Option D} {fs : FLs} {p : Pos} (hm : X.mg x = none) (hc : CallR X (.type T) r) (h : OpN X.K r g) (hv : bootBuiltins x = some (.type T)) (ha : DA X c Ew (e :: es) fs) (hg : Gl X x := by rfl) (hn : x ≠ "__name__" := by decide) (hdb : (x == ("__debug__" : Str)) = false := by decide)
    (h1 : starEach (e :: es) X.env = (false, eval e X.env) :: starEach es X.env := by rfl) (h2 : (backTo pos (starEach es X.env)).any (·.1) = false := by rfl) :
    DE X c Ew (.Call (.Name x p) (e :: es) [] pos) (fCallB g fs) := (pe_callTy hc hg hm hv ha hn hdb h1 h2).dimp (rd_opN h fs)
end
end DL

namespace DL
open PySem PySem.Spec PyProof.Rows L2

/-! ### data as the library's data -/
mutual
def D.py : D → Option PyData
  | .non => some .none
  | .bl b => some (.bool b)
  | .int i => some (.int i)
  | .str s => some (.str s)
  | .tup xs => (D.pyL xs).map .tuple
  | .lst _ xs => (D.pyL xs).map .list
  | .dic _ _ _ => none
  | .opq _ => none
  | .fact _ => none
def D.pyL : List D → Option (List PyData)
  | [] => some []
  | d :: ds => match d.py, D.pyL ds with
    | some p, some ps => some (p :: ps)
    | _, _ => none
end
theorem D.pyL_cons {d : D} {ds : List D} {q : List PyData} (h : D.pyL (d :: ds) = some q) : ∃ p ps, d.py = some p ∧ D.pyL ds = some ps ∧ q = p :: ps := by
  unfold D.pyL at h
  split at h
  · rename_i p ps e1 e2; cases h; exact ⟨p, ps, e1, e2, rfl⟩
  · cases h
section
variable {K : PySem.W.Frag} {H : Hp}
mutual
theorem Dv.dp : ∀ (d : D) {v : V} {f : List Addr} {p : PyData}, Dv K H d v f → d.py = some p → Dp K H v p
  | .non, _, _, _, x, e => by cases x; cases e; exact .non
  | .bl _, _, _, _, x, e => by cases x; cases e; exact .bl _
  | .int _, _, _, _, x, e => by cases x; cases e; exact .int _
  | .str _, _, _, _, x, e => by cases x; cases e; exact .str _
  | .tup ds, _, _, _, x, e => by
    cases x with
    | tup h l =>
      unfold D.py at e
      obtain ⟨q, e1, e2⟩ := Option.map_eq_some_iff.mp e
      subst e2
      exact .tup h (DvL.dp ds l e1)
  | .lst _ ds, _, _, _, x, e => by
    unfold D.py at e
    obtain ⟨q, e1, e2⟩ := Option.map_eq_some_iff.mp e
    subst e2
    cases x with
    | flst h l => exact .lst h.sq (DvL.dp ds l e1)
    | olst h l => exact .lst (.of h) (DvL.dp ds l e1)
  | .dic _ _ _, _, _, _, _, e => by unfold D.py at e; cases e
  | .opq _, _, _, _, _, e => by unfold D.py at e; cases e
  | .fact _, _, _, _, _, e => by unfold D.py at e; cases e
theorem DvL.dp : ∀ (ds : List D) {vs : List V} {f : List Addr} {p : List PyData}, DvL K H ds vs f → D.pyL ds = some p → DpAll K H vs p
  | [], _, _, _, x, e => by cases x; unfold D.pyL at e; cases e; exact .nil
  | d :: ds, _, _, _, x, e => by
    obtain ⟨p, ps, e1, e2, e3⟩ := D.pyL_cons e
    subst e3
    cases x with
    | cons x l => exact .cons (Dv.dp d x e1) (DvL.dp ds l e2)
end
end
mutual
theorem D.py_plain : ∀ (d : D) {p : PyData}, d.py = some p → p.plain = true
  | .non, _, e => by cases e; rfl
  | .bl _, _, e => by cases e; rfl
  | .int _, _, e => by cases e; rfl
  | .str _, _, e => by cases e; rfl
  | .tup ds, _, e => by
    unfold D.py at e
    obtain ⟨q, e1, e2⟩ := Option.map_eq_some_iff.mp e
    subst e2
    simp only [PyData.plain]; exact D.pyL_plain ds e1
  | .lst _ ds, _, e => by
    unfold D.py at e
    obtain ⟨q, e1, e2⟩ := Option.map_eq_some_iff.mp e
    subst e2
    simp only [PyData.plain]; exact D.pyL_plain ds e1
  | .dic _ _ _, _, e => by unfold D.py at e; cases e
  | .opq _, _, e => by unfold D.py at e; cases e
  | .fact _, _, e => by unfold D.py at e; cases e
theorem D.pyL_plain : ∀ (ds : List D) {p : List PyData}, D.pyL ds = some p → PyData.plainAll p = true
  | [], _, e => by unfold D.pyL at e; cases e; rfl
  | d :: ds, _, e => by
    obtain ⟨p, ps, e1, e2, e3⟩ := D.pyL_cons e
    subst e3
    simp only [PyData.plainAll, D.py_plain d e1, D.pyL_plain ds e2, Bool.and_self]
end

/-! ### what a sequence holds -/
section
variable {K : PySem.W.Frag} {H H' : Hp}
theorem Dv.lstR {m : Bool} {ds : List D} {x : V} {f : List Addr} (h : Dv K H (.lst m ds) x f) : ∃ a xs g, x = .ref a ∧ SqL K H a xs ∧ DvL K H ds xs g := by
  cases h with
  | flst h l => exact ⟨_, _, _, rfl, h.sq, l⟩
  | olst h l => exact ⟨_, _, _, rfl, .of h, l⟩
theorem Dv.tupR {ds : List D} {x : V} {f : List Addr} (h : Dv K H (.tup ds) x f) : ∃ a xs, x = .ref a ∧ SqT K H a xs ∧ DvL K H ds xs f := by
  cases h with
  | tup h l => exact ⟨_, _, rfl, h, l⟩
theorem Dv.intR {i : Int} {x : V} {f : List Addr} (h : Dv K H (.int i) x f) : x = .int i := by cases h; rfl
theorem Dv.strR {i : Str} {x : V} {f : List Addr} (h : Dv K H (.str i) x f) : x = .str i := by cases h; rfl
theorem Dv.blR {i : Bool} {x : V} {f : List Addr} (h : Dv K H (.bl i) x f) : x = .bl i := by cases h; rfl
theorem Dv.nonR {x : V} {f : List Addr} (h : Dv K H .non x f) : x = .non := by cases h; rfl
theorem DvL.f0 {ds : List D} {xs : List V} {f : List Addr} (l : DvL K H ds xs f) (h : D.isFL ds = true) : DvL K H ds xs [] := by
  have e := l.fz h; subst e; exact l
theorem Dv.f0 {d : D} {x : V} {f : List Addr} (l : Dv K H d x f) (h : d.isF = true) : Dv K H d x [] := by
  have e := l.fz h; subst e; exact l
/-- a new list of frozen data -/
theorem fresh_lst {ds : List D} {xs : List V} {p : Addr} (l : DvL K H ds xs []) (hp : H p = none) : Fresh K H (upd H p (.lst xs)) (.lst true ds) (.ref p) :=
  ⟨upd_ext hp, [p], .olst upd_same (l.ext (upd_ext hp)), by simp, fun a z => (List.mem_singleton.mp z) ▸ hp⟩
theorem fresh_tup {ds : List D} {xs : List V} {p : Addr} (l : DvL K H ds xs []) (hp : H p = none) : Fresh K H (upd H p (.tup xs)) (.tup ds) (.ref p) :=
  ⟨upd_ext hp, [], .tup (.of upd_same) (l.ext (upd_ext hp)), List.nodup_nil, fun a z => nomatch z⟩
theorem fresh_int {i : Int} : Fresh K H H (.int i) (.int i) := .same (.int i)
theorem fresh_bl {i : Bool} : Fresh K H H (.bl i) (.bl i) := .same (.bl i)
theorem fresh_str {i : Str} : Fresh K H H (.str i) (.str i) := .same (.str i)
theorem fresh_non : Fresh K H H .non .non := .same .non
theorem D.isFL_append : ∀ (a b : List D), D.isFL (a ++ b) = (D.isFL a && D.isFL b) := fun a b => by rw [D.isFL_eq, D.isFL_eq, D.isFL_eq, List.all_append]
theorem DvL.tail0 {d : D} {v : V} {ds : List D} {xs : List V} (l : DvL K H (d :: ds) (v :: xs) []) : Dv K H d v [] ∧ DvL K H ds xs [] := by
  generalize e : ([] : List Addr) = f at l
  cases l with
  | cons x l =>
    obtain ⟨e1, e2⟩ := List.append_eq_nil_iff.mp e.symm
    subst e1 e2
    exact ⟨x, l⟩
theorem DvL.drop : ∀ (n : Nat) {ds : List D} {xs : List V}, DvL K H ds xs [] → DvL K H (ds.drop n) (xs.drop n) []
  | 0, _, _, l => l
  | n + 1, [], [], _ => .nil
  | n + 1, [], _ :: _, l => nomatch l
  | n + 1, _ :: _, [], l => nomatch l
  | n + 1, d :: ds, v :: xs, l => DvL.drop n l.tail0.2
theorem DvL.take : ∀ (n : Nat) {ds : List D} {xs : List V}, DvL K H ds xs [] → DvL K H (ds.take n) (xs.take n) []
  | 0, _, _, _ => .nil
  | n + 1, [], [], _ => .nil
  | n + 1, [], _ :: _, l => nomatch l
  | n + 1, _ :: _, [], l => nomatch l
  | n + 1, d :: ds, v :: xs, l => .cons (f1 := []) (f2 := []) l.tail0.1 (DvL.take n l.tail0.2)
theorem D.isFL_drop (n : Nat) {ds : List D} (h : D.isFL ds = true) : D.isFL (ds.drop n) = true := by
  rw [D.isFL_eq, List.all_eq_true] at *
  exact fun x hx => h x (List.mem_of_mem_drop hx)
theorem D.isFL_take (n : Nat) {ds : List D} (h : D.isFL ds = true) : D.isFL (ds.take n) = true := by
  rw [D.isFL_eq, List.all_eq_true] at *
  exact fun x hx => h x (List.mem_of_mem_take hx)
end

theorem ite_some {p : Prop} [Decidable p] {α : Type} {a b : α} (h : (if p then some a else none) = some b) : p ∧ a = b := by
  by_cases q : p
  · rw [if_pos q] at h; exact ⟨q, Option.some.inj h⟩
  · rw [if_neg q] at h; cases h
/-! ### + -/
def addD : D → D → Option D
  | .int i, .int j => some (.int (i + j))
  | .str i, .str j => if i.length + j.length ≤ sizeLine then some (.str (i ++ j)) else none
  | .tup xs, .tup ys => if xs.length + ys.length ≤ sizeLine ∧ D.isFL xs = true ∧ D.isFL ys = true then some (.tup (xs ++ ys)) else none
  | .lst _ xs, .lst _ ys => if xs.length + ys.length ≤ sizeLine ∧ D.isFL xs = true ∧ D.isFL ys = true then some (.lst true (xs ++ ys)) else none
  | _, _ => none
section
variable {X : Cx}
def rCatL (K : PySem.W.Frag) : R2 := fun x y H Q => ∃ l b xs zs, x = .ref l ∧ y = .ref b ∧ SqL K H l xs ∧ SqL K H b zs ∧ xs.length + zs.length ≤ sizeLine ∧ ∀ p, H p = none → Q (.ref p) (upd H p (.lst (xs ++ zs)))
theorem op_catL : OpR X (binaryOp .Add) (rCatL X.K) := by
  intro pins s σ H x y v u Q I rx ry h
  obtain ⟨l, b, xs, zs, rfl, rfl, hH, hB, hz, q⟩ := h
  cases rx
  cases ry
  obtain ⟨its, r, p1, hz1⟩ := I.list hH
  obtain ⟨its2, r2, p2, hz2⟩ := I.list hB
  obtain ⟨⟨cls, dd, data, sl⟩, n, ho, hc, hd, hdt⟩ := p1
  obtain ⟨⟨cls2, dd2, data2, sl2⟩, n2, ho2, hc2, hd2, hdt2⟩ := p2
  simp only at hc hdt hc2 hdt2
  subst hc hdt hc2 hdt2
  have e1 : xs.length = its.length := r.length
  have e2 : zs.length = its2.length := r2.length
  refine concat_meets ⟨_, ho, rfl⟩ ⟨_, ho2, rfl⟩ noFill_list_add seq_list_add PySem.F.slot_list_add PySem.F.entry_list_add (PySem.F.args_list_add_2 _ _) (list_addW l b its.toArray its2.toArray n n2 dd dd2 sl sl2 (by simp; omega)) ⟨ho, ho2, ?_⟩
  have ea : its.toArray ++ its2.toArray = (its ++ its2).toArray := by simp
  rw [ea]
  exact ⟨.ref _, _, I.lnew (t' := s.toks) (r.append r2) (by rw [List.length_append]; omega), rfl, q _ I.fresh⟩
def rAdd (K : PySem.W.Frag) : R2 := fun x y H Q => rI0 (fun i j => .int (i + j)) x y H Q ∨ (∃ i j, x = .str i ∧ y = .str j ∧ i.length + j.length ≤ sizeLine ∧ Q (.str (i ++ j)) H) ∨ rCatA K x y H Q ∨ rCatL K x y H Q
theorem or_add : OpR X (binaryOp .Add) (rAdd X.K) := op_add.or (op_add_str.or (op_catA.or op_catL))
theorem add_ok {K : PySem.W.Frag} : Op2 K (rAdd K) addD := by
  intro H x y d e f1 f2 Q dr hx hy hg q
  cases d with
  | int i =>
    cases e with
    | int j => cases hg; exact .inl ⟨i, j, hx.intR, hy.intR, q _ _ fresh_int⟩
    | _ => cases hg
  | str i =>
    cases e with
    | str j =>
      obtain ⟨h, rfl⟩ := ite_some hg
      exact .inr (.inl ⟨i, j, hx.strR, hy.strR, h, q _ _ fresh_str⟩)
    | _ => cases hg
  | tup ds =>
    cases e with
    | tup es =>
      obtain ⟨h, rfl⟩ := ite_some hg
      ·
        obtain ⟨a, xs, rfl, h1, l1⟩ := hx.tupR
        obtain ⟨b, ys, rfl, h2, l2⟩ := hy.tupR
        have e1 := l1.length
        have e2 := l2.length
        have l1 := l1.f0 h.2.1
        have l2 := l2.f0 h.2.2
        refine .inr (.inr (.inl ⟨a, b, xs, ys, rfl, rfl, h1, h2, by omega, fun z => ?_, fun _ z => ?_, fun _ _ p hp => ?_⟩))
        · have : ds = [] := List.eq_nil_of_length_eq_zero (by rw [e1, z]; rfl)
          subst this
          exact q _ _ (.same (.tup h2 l2))
        · have : es = [] := List.eq_nil_of_length_eq_zero (by rw [e2, z]; rfl)
          subst this
          rw [List.append_nil] at q
          exact q _ _ (.same (.tup h1 l1))
        · exact q _ _ (fresh_tup (l1.append l2) hp)
    | _ => cases hg
  | lst m ds =>
    cases e with
    | lst m' es =>
      obtain ⟨h, rfl⟩ := ite_some hg
      ·
        obtain ⟨a, xs, g1, rfl, h1, l1⟩ := hx.lstR
        obtain ⟨b, ys, g2, rfl, h2, l2⟩ := hy.lstR
        have e1 := l1.length
        have e2 := l2.length
        exact .inr (.inr (.inr ⟨a, b, xs, ys, rfl, rfl, h1, h2, by omega, fun p hp => q _ _ (fresh_lst ((l1.f0 h.2.1).append (l2.f0 h.2.2)) hp)⟩))
    | _ => cases hg
  | _ => cases hg

/-! ### - * // % ** -x -/
def subD : D → D → Option D
  | .int i, .int j => some (.int (i - j))
  | _, _ => none
theorem sub_ok {K : PySem.W.Frag} : Op2 K (rI0 fun i j => .int (i - j)) subD := by
  intro H x y d e f1 f2 Q dr hx hy hg q
  cases d with
  | int i =>
    cases e with
    | int j => cases hg; exact ⟨i, j, hx.intR, hy.intR, q _ _ fresh_int⟩
    | _ => cases hg
  | _ => cases hg
/-- a product's size: the bits of both together are below a million -/
def mulOk (i j : Int) : Bool := decide (i.natAbs.log2 + j.natAbs.log2 < 1000000)
def repL {α : Type} (k : Nat) (xs : List α) : List α := (List.replicate k xs).flatten
def mulD : D → D → Option D
  | .int i, .int j => if mulOk i j = true then some (.int (i * j)) else none
  | .lst true xs, .int k => if xs.length * k.toNat ≤ sizeLine ∧ -(2 ^ 63) ≤ k ∧ k < 2 ^ 63 ∧ D.isFL xs = true then some (.lst true (repL k.toNat xs)) else none
  | _, _ => none
theorem DvL.rep {K : PySem.W.Frag} {H : Hp} {ds : List D} {xs : List V} (l : DvL K H ds xs []) : ∀ k : Nat, DvL K H (repL k ds) (repL k xs) []
  | 0 => .nil
  | k + 1 => by
    unfold repL
    rw [List.replicate_succ, List.replicate_succ, List.flatten_cons, List.flatten_cons]
    exact l.append (DvL.rep l k)
def rMul (K : PySem.W.Frag) : R2 := fun x y H Q => rI CMulW (fun i j => .int (i * j)) x y H Q ∨ rRep x y H Q
theorem or_mul : OpR X (binaryOp .Mult) (rMul X.K) := op_mulW.or op_rep
theorem mul_ok {K : PySem.W.Frag} : Op2 K (rMul K) mulD := by
  intro H x y d e f1 f2 Q dr hx hy hg q
  cases d with
  | int i =>
    cases e with
    | int j =>
      obtain ⟨h, rfl⟩ := ite_some hg
      exact .inl ⟨i, j, hx.intR, hy.intR, (show i.natAbs.log2 + j.natAbs.log2 < 1000000 from of_decide_eq_true h), q _ _ fresh_int⟩
    | _ => cases hg
  | lst m ds =>
    cases e with
    | int k =>
      cases m with
      | false => cases hg
      | true =>
        obtain ⟨h, rfl⟩ := ite_some hg
        cases hx with
        | olst h1 l =>
          have e1 := l.length
          exact .inr ⟨_, k, _, rfl, hy.intR, h1, h.2.1, h.2.2.1, by rw [← e1]; exact h.1, fun p hp => q _ _ (fresh_lst ((l.f0 h.2.2.2).rep _) hp)⟩
    | _ => cases m <;> cases hg
  | _ => cases hg
def fdivD : D → D → Option D
  | .int i, .int j => if 0 < j ∧ j.natAbs.log2 < 9000 then some (.int (i / j)) else none
  | _, _ => none
theorem fdiv_ok {K : PySem.W.Frag} : Op2 K (rI CDivW fun i j => .int (i / j)) fdivD := by
  intro H x y d e f1 f2 Q dr hx hy hg q
  cases d with
  | int i =>
    cases e with
    | int j =>
      obtain ⟨h, rfl⟩ := ite_some hg
      exact ⟨i, j, hx.intR, hy.intR, h, q _ _ fresh_int⟩
    | _ => cases hg
  | _ => cases hg
def modD : D → D → Option D
  | .int i, .int j => if 0 < j then some (.int (i % j)) else none
  | _, _ => none
theorem mod_ok {K : PySem.W.Frag} : Op2 K (rI (fun _ j => 0 < j) fun i j => .int (i % j)) modD := by
  intro H x y d e f1 f2 Q dr hx hy hg q
  cases d with
  | int i =>
    cases e with
    | int j =>
      obtain ⟨h, rfl⟩ := ite_some hg
      exact ⟨i, j, hx.intR, hy.intR, h, q _ _ fresh_int⟩
    | _ => cases hg
  | _ => cases hg
def powD : D → D → Option D
  | .int i, .int j => if 0 ≤ j ∧ j ≤ 1000000 ∧ i.natAbs < 2 ^ 64 then some (.int (i ^ j.toNat)) else none
  | _, _ => none
theorem pow_ok {K : PySem.W.Frag} : Op2 K (rI CPow fun i j => .int (i ^ j.toNat)) powD := by
  intro H x y d e f1 f2 Q dr hx hy hg q
  cases d with
  | int i =>
    cases e with
    | int j =>
      obtain ⟨h, rfl⟩ := ite_some hg
      exact ⟨i, j, hx.intR, hy.intR, h, q _ _ fresh_int⟩
    | _ => cases hg
  | _ => cases hg
def negD : D → Option D
  | .int i => some (.int (-i))
  | _ => none
theorem neg_ok {K : PySem.W.Frag} : Op1 K (rU fun i => .int (-i)) negD := by
  intro H x d f1 Q dr hx hg q
  cases d with
  | int i => cases hg; exact ⟨i, hx.intR, q _ _ fresh_int⟩
  | _ => cases hg

/-! ### == != -/
def eqD (neg : Bool) (d e : D) : Option D := match d.py, e.py with
  | some p, some q => if p.depth ≤ 64 then some (.bl (if neg then !PyData.eqv p q else PyData.eqv p q)) else none
  | _, _ => none
def rEqP (K : PySem.W.Frag) (neg : Bool) : R2 := fun x y H Q => ∃ d e, Dp K H x d ∧ Dp K H y e ∧ d.plain = true ∧ e.plain = true ∧ d.depth ≤ 64 ∧ Q (.bl (if neg then !PyData.eqv d e else PyData.eqv d e)) H
theorem or_eq (hu : X.A.units + 64 < cLine) : OpR X (compareOp .Eq) (rEqP X.K false) := by
  intro pins s σ H x y v u Q I rx ry ⟨d, e, hd, he, p1, p2, hz, q⟩
  obtain ⟨as, r1⟩ := Dp.reads I d x v hd rx
  obtain ⟨bs, r2⟩ := Dp.reads I e y u he ry
  have hm := Nat.min_le_left d.depth e.depth
  exact PySem.SeqAt.eq_plain r1 r2 p1 p2 (by omega) ⟨.bl _, H, I, rfl, q⟩
theorem or_ne (hu : X.A.units + 64 < cLine) : OpR X (compareOp .NotEq) (rEqP X.K true) := by
  intro pins s σ H x y v u Q I rx ry ⟨d, e, hd, he, p1, p2, hz, q⟩
  obtain ⟨as, r1⟩ := Dp.reads I d x v hd rx
  obtain ⟨bs, r2⟩ := Dp.reads I e y u he ry
  have hm := Nat.min_le_left d.depth e.depth
  exact PySem.SeqAt.ne_plain r1 r2 p1 p2 (by omega) ⟨.bl _, H, I, rfl, q⟩
theorem eq_ok {K : PySem.W.Frag} {neg : Bool} : Op2 K (rEqP K neg) (eqD neg) := by
  intro H x y d e f1 f2 Q dr hx hy hg q
  unfold eqD at hg
  split at hg
  · rename_i p q' e1 e2
    split at hg
    · rename_i h
      cases hg
      exact ⟨p, q', Dv.dp d hx e1, Dv.dp e hy e2, D.py_plain d e1, D.py_plain e e2, h, q _ _ fresh_bl⟩
    · cases hg
  · cases hg
/-! ### < <= > >= of ints and texts -/
def ltD : D → D → Option D
  | .int i, .int j => some (.bl (decide (i < j)))
  | .str i, .str j => some (.bl (decide (i.cps.toList < j.cps.toList)))
  | _, _ => none
def rLt : R2 := fun x y H Q => rI0 (fun i j => .bl (decide (i < j))) x y H Q ∨ (∃ i j, x = .str i ∧ y = .str j ∧ Q (.bl (decide (i.cps.toList < j.cps.toList))) H)
theorem or_lt : OpR X (compareOp .Lt) rLt := op_lt.or op_lt_str
theorem lt_ok {K : PySem.W.Frag} : Op2 K rLt ltD := by
  intro H x y d e f1 f2 Q dr hx hy hg q
  cases d with
  | int i =>
    cases e with
    | int j => cases hg; exact .inl ⟨i, j, hx.intR, hy.intR, q _ _ fresh_bl⟩
    | _ => cases hg
  | str i =>
    cases e with
    | str j => cases hg; exact .inr ⟨i, j, hx.strR, hy.strR, q _ _ fresh_bl⟩
    | _ => cases hg
  | _ => cases hg
def cmpI (p : Int → Int → Bool) : D → D → Option D
  | .int i, .int j => some (.bl (p i j))
  | _, _ => none
theorem cmpI_ok {K : PySem.W.Frag} {p : Int → Int → Bool} : Op2 K (rI0 fun i j => .bl (p i j)) (cmpI p) := by
  intro H x y d e f1 f2 Q dr hx hy hg q
  cases d with
  | int i =>
    cases e with
    | int j => cases hg; exact ⟨i, j, hx.intR, hy.intR, q _ _ fresh_bl⟩
    | _ => cases hg
  | _ => cases hg
abbrev leD : D → D → Option D := cmpI fun i j => decide (i ≤ j)
abbrev gtD : D → D → Option D := cmpI fun i j => decide (j < i)
abbrev geD : D → D → Option D := cmpI fun i j => decide (j ≤ i)
/-! ### is None, is of bools -/
def D.isN : D → Bool
  | .non => true
  | _ => false
def D.isO : D → Bool
  | .opq _ => true
  | .fact _ => true
  | _ => false
def isND (neg : Bool) (d : D) : Option D := if d.isO = false then some (.bl (if neg then !d.isN else d.isN)) else none
def isD (neg : Bool) : D → D → Option D
  | .bl a, .bl b => some (.bl (if neg then !decide (a = b) else decide (a = b)))
  | d, .non => isND neg d
  | _, _ => none
def rIs : R2 := fun x y H Q => (y = .non ∧ Q (.bl (decide (x = .non))) H) ∨ rIsB x y H Q
def rIsNot : R2 := fun x y H Q => (y = .non ∧ Q (.bl (!decide (x = .non))) H) ∨ rNotB x y H Q
theorem or_is : OpR X (compareOp .Is) rIs := op_isN.or op_isBl
theorem or_isnot : OpR X (compareOp .IsNot) rIsNot := op_notN.or op_notBl
theorem Dv.isN {K : PySem.W.Frag} {H : Hp} {d : D} {x : V} {f : List Addr} (h : Dv K H d x f) (n : d.isO = false) : decide (x = .non) = d.isN := by
  cases h <;> first | rfl | (simp [D.isN]; done) | (cases n)
theorem isND_ok {K : PySem.W.Frag} {H : Hp} {d dr : D} {x : V} {f : List Addr} {neg : Bool} (h : Dv K H d x f) (e : isND neg d = some dr) : dr = .bl (if neg then !decide (x = .non) else decide (x = .non)) := by
  obtain ⟨n, e⟩ := ite_some e
  rw [h.isN n]
  exact e.symm
theorem is_ok {K : PySem.W.Frag} : Op2 K rIs (isD false) := by
  intro H x y d e f1 f2 Q dr hx hy hg q
  unfold isD at hg
  split at hg
  · cases hg; exact .inr ⟨_, _, hx.blR, hy.blR, q _ _ fresh_bl⟩
  · have := isND_ok hx hg
    subst this
    exact .inl ⟨hy.nonR, q _ _ fresh_bl⟩
  · cases hg
theorem isnot_ok {K : PySem.W.Frag} : Op2 K rIsNot (isD true) := by
  intro H x y d e f1 f2 Q dr hx hy hg q
  unfold isD at hg
  split at hg
  · cases hg; exact .inr ⟨_, _, hx.blR, hy.blR, q _ _ fresh_bl⟩
  · have := isND_ok hx hg
    subst this
    exact .inl ⟨hy.nonR, q _ _ fresh_bl⟩
  · cases hg
/-! ### x[i] of lists, tuples, texts -/
def ixD : D → D → Option D
  | .lst _ xs, .int i => (atI xs i).bind fun d => if d.isF = true then some d else none
  | .tup xs, .int i => (atI xs i).bind fun d => if d.isF = true then some d else none
  | .str z, .int i => if z.length ≤ sizeLine then (atI z.cps.toList i).map fun c => .str ⟨#[c]⟩ else none
  | _, _ => none
theorem atI_map {α β : Type} {xs : List α} {ys : List β} {i : Int} {x : α} (hl : xs.length = ys.length) (h : atI xs i = some x) : ∃ (j : Nat) (y : β), xs[j]? = some x ∧ ys[j]? = some y ∧ atI ys i = some y := by
  unfold atI at h ⊢
  rw [← hl]
  cases e : ixN xs.length i with
  | none => rw [e] at h; cases h
  | some j =>
    rw [e] at h
    have h' : xs[j]? = some x := h
    have hj : j < ys.length := by rw [← hl]; exact (List.getElem?_eq_some_iff.mp h').1
    exact ⟨j, ys[j], h', by simp [hj], by simp [hj]⟩
theorem ix_ok {K : PySem.W.Frag} : Op2 K (rIx K) ixD := by
  intro H x y d e f1 f2 Q dr hx hy hg q
  cases d with
  | lst m ds =>
    cases e with
    | int i =>
      obtain ⟨d', h1, h2⟩ := Option.bind_eq_some_iff.mp (show (atI ds i).bind _ = some dr from hg)
      split at h2
      · rename_i hf
        cases h2
        obtain ⟨a, xs, g, rfl, h, l⟩ := hx.lstR
        obtain ⟨j, y', e1, e2, e3⟩ := atI_map l.length h1
        obtain ⟨v, f, e4, x', _⟩ := l.at e1
        rw [e2] at e4; cases e4
        exact .inl ⟨a, xs, i, _, rfl, hy.intR, h, e3, q _ _ (.same (x'.f0 hf))⟩
      · cases h2
    | _ => cases hg
  | tup ds =>
    cases e with
    | int i =>
      obtain ⟨d', h1, h2⟩ := Option.bind_eq_some_iff.mp (show (atI ds i).bind _ = some dr from hg)
      split at h2
      · rename_i hf
        cases h2
        obtain ⟨a, xs, rfl, h, l⟩ := hx.tupR
        obtain ⟨j, y', e1, e2, e3⟩ := atI_map l.length h1
        obtain ⟨v, f, e4, x', _⟩ := l.at e1
        rw [e2] at e4; cases e4
        exact .inr (.inl ⟨a, xs, i, _, rfl, hy.intR, h, e3, q _ _ (.same (x'.f0 hf))⟩)
      · cases h2
    | _ => cases hg
  | str z =>
    cases e with
    | int i =>
      have hg : (if z.length ≤ sizeLine then (atI z.cps.toList i).map (fun c => D.str ⟨#[c]⟩) else none) = some dr := hg
      split at hg
      · rename_i hz
        obtain ⟨c, h1, h2⟩ := Option.map_eq_some_iff.mp hg
        subst h2
        exact .inr (.inr ⟨z, i, c, hx.strR, hy.intR, hz, h1, q _ _ fresh_str⟩)
      · cases hg
    | _ => cases hg
  | _ => cases hg
end
end DL

namespace DL
open PySem PySem.Spec PyProof.Rows L2

/-! ### displays -/
def tupG (ds : List D) : Option D := if ds.length ≤ sizeLine ∧ D.isFL ds = true then some (.tup ds) else none
def lstG (ds : List D) : Option D := if ds.length ≤ sizeLine ∧ D.isFL ds = true then some (.lst true ds) else none
theorem DvA.length {K : PySem.W.Frag} {H : Hp} : ∀ {ds : List D} {vs : List V}, DvA K H ds vs → ds.length = vs.length
  | _, _, .nil => rfl
  | _, _, .cons _ t => congrArg (· + 1) (DvA.length t)
theorem DvA.all0 {K : PySem.W.Frag} {H : Hp} : ∀ {ds : List D} {vs : List V}, DvA K H ds vs → D.isFL ds = true → DvL K H ds vs []
  | _, _, .nil, _ => .nil
  | _, _, .cons (a := d) (l₁ := ds) ⟨f, x⟩ t, h => by
    have h' : (d.isF && D.isFL ds) = true := h
    simp at h'
    exact .cons (f1 := []) (f2 := []) (x.f0 h'.1) (DvA.all0 t h'.2)
section
variable {X : Cx} {c : Ct} {Ew : Xn → En → Prop} {e a b : Expr} {pos : Pos} {es : List Expr}
theorem de_tup {fs : FLs} {k : Nat} (h : DA X c Ew es fs) : DE X c Ew (.Tuple es k pos) (fCallB tupG fs) := (pe_tup h).dimp fun σ H Q q => by
  obtain ⟨ρ, P, rp, hs⟩ := q
  unfold fCallB at hs
  rw [R.sat_bind] at hs
  refine ⟨ρ, P, rp, hs.imp fun as ρ1 hs vs H1 Pn r1 oka => ?_⟩
  obtain ⟨ds, dr, ea, eg, q⟩ := liftN_sat hs
  obtain ⟨h1, rfl⟩ := ite_some eg
  have l := ArOk.dvs r1 oka ea
  have e1 := l.length
  exact ⟨by omega, fun p hp => q _ _ (Rp.fresh r1.pops (fresh_tup (l.all0 h1.2) hp))⟩
theorem de_lst {fs : FLs} (h : DA X c Ew es fs) : DE X c Ew (.List es pos) (fCallB lstG fs) := (pe_lst h).dimp fun σ H Q q => by
  obtain ⟨ρ, P, rp, hs⟩ := q
  unfold fCallB at hs
  rw [R.sat_bind] at hs
  refine ⟨ρ, P, rp, hs.imp fun as ρ1 hs vs H1 Pn r1 oka => ?_⟩
  obtain ⟨ds, dr, ea, eg, q⟩ := liftN_sat hs
  obtain ⟨h1, rfl⟩ := ite_some eg
  have l := ArOk.dvs r1 oka ea
  have e1 := l.length
  exact ⟨by omega, fun p hp => q _ _ (Rp.fresh r1.pops (fresh_lst (l.all0 h1.2) hp))⟩

/-! ### slices -/
def cutL {α : Type} (xs : List α) (lo hi : Option Int) : List α := (xs.drop (HT.sIx xs.length 0 lo)).take (HT.sIx xs.length xs.length hi - HT.sIx xs.length 0 lo)
def slD (d : D) (lo hi : Option Int) : Option D := match d with
  | .str z => if z.length ≤ sizeLine then some (.str (cutS z lo hi)) else none
  | .tup xs => if D.isFL xs = true then some (.tup (cutL xs lo hi)) else none
  | .lst _ xs => if D.isFL xs = true then some (.lst true (cutL xs lo hi)) else none
  | _ => none
def rSl (K : PySem.W.Frag) : V → Option Int → Option Int → Hp → VK → Prop := fun x lo hi H Q => rSlS x lo hi H Q ∨ rSlA K x lo hi H Q ∨ rSlL K x lo hi H Q
theorem or_sl : SlR X (rSl X.K) := sl_str.or (sl_tupA.or sl_list)
theorem cut_whole {α : Type} {xs : List α} {lo hi : Option Int} (h1 : HT.sIx xs.length 0 lo = 0) (h2 : HT.sIx xs.length xs.length hi = xs.length) : cutL xs lo hi = xs := by
  unfold cutL
  rw [h1, h2]
  simp
theorem sl_ok {K : PySem.W.Frag} {H : Hp} {x : V} {d dr : D} {f : List Addr} {lo hi : Option Int} {Q : VK} (hx : Dv K H d x f) (hg : slD d lo hi = some dr) (q : ∀ v H', Fresh K H H' dr v → Q v H') : rSl K x lo hi H Q := by
  cases d with
  | str z =>
    obtain ⟨h, rfl⟩ := ite_some hg
    exact .inl ⟨z, hx.strR, h, q _ _ fresh_str⟩
  | tup ds =>
    obtain ⟨h, rfl⟩ := ite_some hg
    obtain ⟨a, xs, rfl, h1, l⟩ := hx.tupR
    have el := l.length
    have l0 := l.f0 h
    refine .inr (.inl ⟨a, xs, rfl, h1, fun w => ?_, fun _ p hp => ?_⟩)
    · rw [← el] at w
      rw [cut_whole w.1 w.2] at q
      exact q _ _ (.same (.tup h1 l0))
    · have l1 := (l0.drop (HT.sIx ds.length 0 lo)).take (HT.sIx ds.length ds.length hi - HT.sIx ds.length 0 lo)
      refine q _ _ (fresh_tup ?_ hp)
      unfold cutV
      rw [← el]
      exact l1
  | lst m ds =>
    obtain ⟨h, rfl⟩ := ite_some hg
    obtain ⟨a, xs, g, rfl, h1, l⟩ := hx.lstR
    have el := l.length
    have l0 := l.f0 h
    refine .inr (.inr ⟨a, xs, rfl, h1, fun p hp => ?_⟩)
    have l1 := (l0.drop (HT.sIx ds.length 0 lo)).take (HT.sIx ds.length ds.length hi - HT.sIx ds.length 0 lo)
    refine q _ _ (fresh_lst ?_ hp)
    unfold cutV
    rw [← el]
    exact l1
  | _ => cases hg
/-- a part of a slice: an int, or left out -/
abbrev FP := Option FO
def prt (fp : FP) : En → R (Option Int) := fun ρ => match fp with
  | none => .ok none ρ
  | some f => (f ρ).bind fun a ρ1 => match res a ρ1 with
    | some (.int i) => .ok (some i) ρ1
    | _ => .stk
inductive DP (X : Cx) (c : Ct) (Ew : Xn → En → Prop) : Option Expr → FP → Prop
  | none : DP X c Ew none none
  | some {e : Expr} {f : FO} (h : DO X c Ew e f) : DP X c Ew (some e) (some f)
def rdP (K : PySem.W.Frag) (c : Ct) (Ew : Xn → En → Prop) (fp : FP) : TO := fun σ H Q => ∃ ρ P, Rp K c σ H ρ P ∧ (prt fp ρ).sat (fun o ρ' => ∀ H' Pn, Rp K c σ H' ρ' (Pn ++ P) → Q o H') Ew
theorem _root_.L2.PO.dimp {X : Cx} {e : Option Expr} {t u : TO} (h : PO X e t) (q : ∀ σ H Q, u σ H Q → t σ H Q) : PO X e u := ⟨fun pins s σ H Q I x => h.run pins s σ H Q I (q σ H Q x)⟩
theorem DP.po {o : Option Expr} {fp : FP} (h : DP X c Ew o fp) : PO X o (rdP X.K c Ew fp) := by
  cases h with
  | none =>
    refine po_none.dimp fun σ H Q ⟨ρ, P, rp, q⟩ => ?_
    exact q H [] rp
  | some h =>
    rename_i e f
    refine (po_some h).dimp fun σ H Q ⟨ρ, P, rp, q⟩ => ⟨ρ, P, rp, ?_⟩
    have q : ((f ρ).bind fun a ρ1 => match res a ρ1 with
      | Option.some (D.int i) => R.ok (Option.some i) ρ1
      | _ => .stk).sat _ _ := q
    rw [R.sat_bind] at q
    refine q.imp fun a ρ1 k v H' Pn r oka => ?_
    split at k
    · rename_i i ei
      obtain ⟨f, x⟩ := oka.dv r ei
      exact ⟨i, x.intR, k H' Pn r⟩
    · exact k.elim
def fSl (fa : FO) (lo hi : FP) : FE := fun ρ => (fa ρ).bind fun a ρ1 => (prt lo ρ1).bind fun l ρ2 => (prt hi ρ2).bind fun u ρ3 => match res a ρ3 with
  | some d => R.of (slD d l u) ρ3
  | none => .stk
theorem de_slice {fa : FO} {lo hi : Option Expr} {fl fh : FP} {p2 : Pos} (h : DO X c Ew a fa) (hl : DP X c Ew lo fl) (hh : DP X c Ew hi fh) : DE X c Ew (.Subscript a (.Slice lo hi none p2) pos) (fSl fa fl fh) := by
  refine (pe_slice or_sl h hl.po hh.po).dimp fun σ H Q ⟨ρ, P, rp, q⟩ => ?_
  unfold fSl at q
  rw [R.sat_bind] at q
  refine ⟨ρ, P, rp, q.imp fun x ρ1 q v H1 Pn r1 oka => ?_⟩
  rw [R.sat_bind] at q
  refine ⟨ρ1, Pn ++ P, r1, q.imp fun l ρ2 q H2 Pm r2 => ?_⟩
  rw [R.sat_bind] at q
  refine ⟨ρ2, Pm ++ (Pn ++ P), r2, q.imp fun u ρ3 q H3 Pk r3 => ?_⟩
  split at q
  · rename_i d ed
    obtain ⟨dr, e1, q⟩ := R.of_sat q
    obtain ⟨f, dv⟩ := ((oka.up Pm).up Pk).dv r3 ed
    exact sl_ok dv e1 fun w H4 fr => q w H4 (Rp.fresh r3.pops.pops.pops fr)
  · exact q.elim

/-! ### in, not in -/
def inS (i j : Str) : Bool := !(Builtin.Str.occurrences j i 0 j.length 1).isEmpty
def inD (neg : Bool) : D → D → Option D
  | .str i, .str j => some (.bl (if neg then !inS i j else inS i j))
  | d, .lst _ xs => match d.py, D.pyL xs with
    | some p, some ps => if p.depth ≤ 64 then some (.bl (if neg then !ps.any fun z => PyData.eqv z p else ps.any fun z => PyData.eqv z p)) else none
    | _, _ => none
  | d, .tup xs => match d.py, D.pyL xs with
    | some p, some ps => if p.depth ≤ 64 then some (.bl (if neg then !ps.any fun z => PyData.eqv z p else ps.any fun z => PyData.eqv z p)) else none
    | _, _ => none
  | .str i, .dic _ ks _ => some (.bl (if neg then !ks.any fun k => decide (k = Sum.inr i) else ks.any fun k => decide (k = Sum.inr i)))
  | .int i, .dic _ ks _ => some (.bl (if neg then !ks.any fun k => decide (k = Sum.inl i) else ks.any fun k => decide (k = Sum.inl i)))
  | _, _ => none
def rInP (K : PySem.W.Frag) (neg : Bool) : R2 := fun x y H Q => ∃ d ds, Dp K H x d ∧ (Dp K H y (.list ds) ∨ Dp K H y (.tuple ds)) ∧ d.plain = true ∧ PyData.plainAll ds = true ∧ d.depth ≤ 64 ∧ Q (.bl (if neg then !ds.any fun z => PyData.eqv z d else ds.any fun z => PyData.eqv z d)) H
def rInDc (neg : Bool) : R2 := fun x y H Q => ∃ a o, y = .ref a ∧ DGet H a x o ∧ Q (.bl (if neg then !o.isSome else o.isSome)) H
theorem or_inP (hu : X.A.units + 65 < cLine) : OpR X (compareOp .In) (rInP X.K false) := by
  intro pins s σ H x y v u Q I rx ry ⟨d, ds, hd, hy, p1, p2, hz, q⟩
  obtain ⟨as, r1⟩ := Dp.reads I d x v hd rx
  have hm := Nat.min_le_right (PyData.depthAll ds) d.depth
  rcases hy with hy | hy
  · obtain ⟨bs, r2⟩ := Dp.reads I _ y u hy ry
    exact PySem.SeqAt.in_list_data r2 r1 p2 p1 (by omega) ⟨.bl _, H, I, rfl, q⟩
  · obtain ⟨bs, r2⟩ := Dp.reads I _ y u hy ry
    exact PySem.SeqAt.in_tuple_data r2 r1 p2 p1 (by omega) ⟨.bl _, H, I, rfl, q⟩
theorem or_notInP (hu : X.A.units + 65 < cLine) : OpR X (compareOp .NotIn) (rInP X.K true) := by
  intro pins s σ H x y v u Q I rx ry ⟨d, ds, hd, hy, p1, p2, hz, q⟩
  obtain ⟨as, r1⟩ := Dp.reads I d x v hd rx
  have hm := Nat.min_le_right (PyData.depthAll ds) d.depth
  rcases hy with hy | hy
  · obtain ⟨bs, r2⟩ := Dp.reads I _ y u hy ry
    exact PySem.SeqAt.notIn_list_data r2 r1 p2 p1 (by omega) ⟨.bl _, H, I, rfl, q⟩
  · obtain ⟨bs, r2⟩ := Dp.reads I _ y u hy ry
    exact PySem.SeqAt.notIn_tuple_data r2 r1 p2 p1 (by omega) ⟨.bl _, H, I, rfl, q⟩
theorem or_inDc (hu : X.A.units + 1 < cLine) : OpR X (compareOp .In) (rInDc false) := by
  intro pins s σ H x y v u Q I rx ry ⟨a, o, e, g, q⟩
  subst e
  cases ry
  exact d_in hu I g rx fun s' I' => ⟨.bl _, H, I', rfl, q⟩
theorem or_notInDc (hu : X.A.units + 1 < cLine) : OpR X (compareOp .NotIn) (rInDc true) := by
  intro pins s σ H x y v u Q I rx ry ⟨a, o, e, g, q⟩
  subst e
  cases ry
  exact d_notIn hu I g rx fun s' I' => ⟨.bl _, H, I', rfl, q⟩
def rInA (K : PySem.W.Frag) (neg : Bool) : R2 := fun x y H Q => (∃ i j, x = .str i ∧ y = .str j ∧ Q (.bl (if neg then !inS i j else inS i j)) H) ∨ rInP K neg x y H Q ∨ rInDc neg x y H Q
theorem or_in (hu : X.A.units + 65 < cLine) : OpR X (compareOp .In) (rInA X.K false) := op_in_str.or ((or_inP hu).or (or_inDc (by omega)))
theorem or_notIn (hu : X.A.units + 65 < cLine) : OpR X (compareOp .NotIn) (rInA X.K true) := L2.op_notIn_str.or ((or_notInP hu).or (or_notInDc (by omega)))
theorem valV_in {kvs : List (Key × V)} (k : Key) : (valV kvs k).isSome = (kvs.map (·.1)).any fun x => decide (x = k) := by
  rw [← valV_any, List.any_map]
  rfl
theorem Dv.dicR {K : PySem.W.Frag} {H : Hp} {m : Bool} {ks : List Key} {vs : List D} {y : V} {f : List Addr} (h : Dv K H (.dic m ks vs) y f) : ∃ a kvv g, y = .ref a ∧ Rd H a (.dK kvv) ∧ kvv.map (·.1) = ks ∧ DvL K H vs (kvv.map (·.2)) g := by
  cases h with
  | fdic h e l => exact ⟨_, _, _, rfl, .inr ⟨_, h⟩, e, l⟩
  | odic h e l => exact ⟨_, _, _, rfl, .inl h, e, l⟩
theorem in_ok {K : PySem.W.Frag} {neg : Bool} : Op2 K (rInA K neg) (inD neg) := by
  intro H x y d e f1 f2 Q dr hx hy hg q
  have seq : ∀ {t : List D → D} {xs : List D}, (∀ ps, D.pyL xs = some ps → Dp K H y (.list ps) ∨ Dp K H y (.tuple ps)) → (match d.py, D.pyL xs with
      | some p, some ps => if p.depth ≤ 64 then some (.bl (if neg then !ps.any fun z => PyData.eqv z p else ps.any fun z => PyData.eqv z p)) else none
      | _, _ => none) = some dr → rInA K neg x y H Q := by
    intro t xs hp hg
    cases e1 : d.py with
    | none => rw [e1] at hg; cases hg
    | some p =>
      cases e2 : D.pyL xs with
      | none => rw [e1, e2] at hg; cases hg
      | some ps =>
        rw [e1, e2] at hg
        obtain ⟨h, rfl⟩ := ite_some hg
        exact .inr (.inl ⟨p, ps, Dv.dp d hx e1, hp ps e2, D.py_plain d e1, D.pyL_plain xs e2, h, q _ _ fresh_bl⟩)
  unfold inD at hg
  split at hg
  · cases hg; exact .inl ⟨_, _, hx.strR, hy.strR, q _ _ fresh_bl⟩
  · rename_i xs
    refine seq (t := fun xs => .lst true xs) (xs := xs) (fun ps e2 => .inl ?_) hg
    exact Dv.dp _ hy (by unfold D.py; rw [e2]; rfl)
  · rename_i xs
    refine seq (t := fun xs => .lst true xs) (xs := xs) (fun ps e2 => .inr ?_) hg
    exact Dv.dp _ hy (by unfold D.py; rw [e2]; rfl)
  · cases hg
    obtain ⟨a, kvv, g, rfl, h1, h2, l⟩ := hy.dicR
    rename_i i _ _ _
    have z := hx.strR
    subst z
    refine .inr (.inr ⟨a, valV kvv (Sum.inr i), rfl, .inl ⟨kvv, Sum.inr i, h1, rfl, rfl⟩, ?_⟩)
    rw [valV_in, h2]
    exact q _ _ fresh_bl
  · cases hg
    obtain ⟨a, kvv, g, rfl, h1, h2, l⟩ := hy.dicR
    rename_i i _ _ _
    have z := hx.intR
    subst z
    refine .inr (.inr ⟨a, valV kvv (Sum.inl i), rfl, .inl ⟨kvv, Sum.inl i, h1, rfl, rfl⟩, ?_⟩)
    rw [valV_in, h2]
    exact q _ _ fresh_bl
  · cases hg

/-! ### built-ins by name -/
def lenG : List D → Option D
  | [.str z] => if z.length ≤ sizeLine then some (.int z.length) else none
  | [.tup xs] => some (.int xs.length)
  | [.lst _ xs] => some (.int xs.length)
  | _ => none
theorem len_ok {K : PySem.W.Frag} : OpN K (fun xs H Q => ∃ x n, xs = [x] ∧ LenV K x H n ∧ Q (.int n) H) lenG := by
  intro H xs ds Q dr hx hg q
  unfold lenG at hg
  split at hg
  · match hx with
    | .cons ⟨f, hx⟩ .nil =>
      obtain ⟨h, rfl⟩ := ite_some hg
      have := hx.strR
      subst this
      exact ⟨_, _, rfl, ⟨h, rfl⟩, q _ _ fresh_int⟩
  · match hx with
    | .cons ⟨f, hx⟩ .nil =>
      cases hg
      obtain ⟨a, ys, rfl, h, l⟩ := hx.tupR
      exact ⟨_, ys.length, rfl, .inr ⟨ys, h, rfl⟩, by rw [← l.length]; exact q _ _ fresh_int⟩
  · match hx with
    | .cons ⟨f, hx⟩ .nil =>
      cases hg
      obtain ⟨a, ys, g, rfl, h, l⟩ := hx.lstR
      exact ⟨_, ys.length, rfl, .inl ⟨ys, h, rfl⟩, by rw [← l.length]; exact q _ _ fresh_int⟩
  · cases hg
def intG : List D → Option D
  | [.int i] => some (.int i)
  | [.bl k] => some (.int (if k then 1 else 0))
  | _ => none
theorem int_ok {K : PySem.W.Frag} : OpN K (fun xs H Q => (∃ i, xs = [.int i] ∧ Q (.int i) H) ∨ ∃ k, xs = [.bl k] ∧ Q (.int (if k then 1 else 0)) H) intG := by
  intro H xs ds Q dr hx hg q
  unfold intG at hg
  split at hg
  · match hx with
    | .cons ⟨f, hx⟩ .nil => cases hg; have := hx.intR; subst this; exact .inl ⟨_, rfl, q _ _ fresh_int⟩
  · match hx with
    | .cons ⟨f, hx⟩ .nil => cases hg; have := hx.blR; subst this; exact .inr ⟨_, rfl, q _ _ fresh_int⟩
  · cases hg
/-! ### isinstance -/
def D.typ : D → String
  | .non => "NoneType"
  | .bl _ => "bool"
  | .int _ => "int"
  | .str _ => "str"
  | .tup _ => "tuple"
  | .lst _ _ => "list"
  | .dic _ _ _ => "dict"
  | .opq _ => "?"
  | .fact _ => "?"
def isiG : List D → Option D
  | [d, .opq (.ty T)] => if d.isO = false then (kitB d.typ T).map .bl else none
  | _ => none
theorem Dv.tyx {K : PySem.W.Frag} {H : Hp} {d : D} {x : V} {f : List Addr} (h : Dv K H d x f) (n : d.isO = false) : TyX K H x (.type d.typ) := by
  cases h with
  | non => exact .base .non
  | bl b => exact .base (.bl b)
  | int i => exact .base (.int i)
  | str s => exact .base (.str s)
  | opq v => cases n
  | fact _ _ _ => cases n
  | tup h l =>
    rcases h with (h | ⟨o, h⟩) | ⟨o, its, k, h, hc, _⟩
    · exact .base (.tup h)
    · exact .fTuple h
    · exact .kTuple h hc
  | flst h l =>
    rcases h with ⟨o, h⟩ | ⟨o, its, k, h, hc, _⟩
    · exact .base (.frz h)
    · exact .kList h hc
  | olst h l => exact .base (.lst h)
  | fdic h _ l => exact .fDict h
  | odic h _ l => exact .base (.dK h)
theorem isi_ok {K : PySem.W.Frag} : OpN K (rIsi K) isiG := by
  intro H xs ds Q dr hx hg q
  unfold isiG at hg
  split at hg
  · rename_i d T
    match hx with
    | .cons (b := x) ⟨f, hx⟩ (.cons (b := y) ⟨g, hy⟩ .nil) =>
      split at hg
      · rename_i n
        obtain ⟨b, e1, e2⟩ := Option.map_eq_some_iff.mp hg
        subst e2
        cases hy
        exact ⟨x, _, _, _, b, rfl, .ty T, hx.tyx n, kit_ty e1, q _ _ fresh_bl⟩
      · cases hg
  · cases hg
end
end DL

namespace DL
open PySem PySem.Spec PyProof.Rows L2

/-- what a statement comes to -/
inductive SR where
  | nx (ρ : En) | rt (d : D) (ρ : En) | bk (ρ : En) | ct (ρ : En) | exc (x : Xn) (ρ : En) | stk
abbrev FS := En → SR
def R.bindS {α : Type} (r : R α) (k : α → En → SR) : SR := match r with
  | .ok a ρ => k a ρ
  | .exc x ρ => .exc x ρ
  | .stk => .stk
@[simp] theorem R.bindS_ok {α : Type} (a : α) (ρ : En) (k : α → En → SR) : (R.ok a ρ).bindS k = k a ρ := rfl
@[simp] theorem R.bindS_exc {α : Type} (x : Xn) (ρ : En) (k : α → En → SR) : (R.exc x ρ : R α).bindS k = .exc x ρ := rfl
@[simp] theorem R.bindS_stk {α : Type} (k : α → En → SR) : (R.stk : R α).bindS k = .stk := rfl
def SR.sat (K : PySem.W.Frag) (c : Ct) (Ew : Xn → En → Prop) (P : List (D × V)) (Z : Ends) (r : SR) : Prop := match r with
  | .nx ρ => ∀ σ H, Rp K c σ H ρ P → Z.nx σ H
  | .rt d ρ => ∀ v σ H, Rp K c σ H ρ ((d, v) :: P) → Z.rt v H
  | .bk ρ => ∀ σ H, Rp K c σ H ρ P → Z.bk σ H
  | .ct ρ => ∀ σ H, Rp K c σ H ρ P → Z.ct σ H
  | .exc x ρ => Ew x ρ
  | .stk => False
theorem R.satS {K : PySem.W.Frag} {c : Ct} {Ew : Xn → En → Prop} {P : List (D × V)} {Z : Ends} {α : Type} {r : R α} {k : α → En → SR} (h : SR.sat K c Ew P Z (r.bindS k)) : r.sat (fun a ρ => SR.sat K c Ew P Z (k a ρ)) Ew := by
  cases r <;> exact h
def rdS (K : PySem.W.Frag) (c : Ct) (Ew : Xn → En → Prop) (f : FS) : TS := fun Z σ H => ∃ ρ P, Rp K c σ H ρ P ∧ SR.sat K c Ew P Z (f ρ)
abbrev DS (X : Cx) (c : Ct) (Ew : Xn → En → Prop) (st : Stmt) (f : FS) : Prop := PS X st (rdS X.K c Ew f)
abbrev DSs (X : Cx) (c : Ct) (Ew : Xn → En → Prop) (st : List Stmt) (f : FS) : Prop := PSs X st (rdS X.K c Ew f)
theorem _root_.L2.PS.dimp {X : Cx} {e : Stmt} {t u : TS} (h : PS X e t) (q : ∀ Z σ H, u Z σ H → t Z σ H) : PS X e u := ⟨fun pins s σ H Z I x => h.run pins s σ H Z I (q Z σ H x)⟩
theorem _root_.L2.PSs.dimp {X : Cx} {e : List Stmt} {t u : TS} (h : PSs X e t) (q : ∀ Z σ H, u Z σ H → t Z σ H) : PSs X e u := ⟨fun pins s σ H Z I x => h.run pins s σ H Z I (q Z σ H x)⟩
section
variable {X : Cx} {c : Ct} {Ew : Xn → En → Prop} {e a b : Expr} {pos : Pos} {es : List Expr} {st : Stmt} {sts : List Stmt} {f g : FS}
def fNx : FS := fun ρ => .nx ρ
def fSeq (f g : FS) : FS := fun ρ => match f ρ with
  | .nx ρ' => g ρ'
  | r => r
theorem ds_nil : DSs X c Ew [] fNx := pss_nil.dimp fun Z σ H ⟨ρ, P, r, q⟩ => q σ H r
theorem ds_cons (h : DS X c Ew st f) (h2 : DSs X c Ew sts g) : DSs X c Ew (st :: sts) (fSeq f g) := (pss_cons h h2).dimp fun Z σ H ⟨ρ, P, r, q⟩ => by
  refine ⟨ρ, P, r, ?_⟩
  unfold fSeq at q
  cases e : f ρ with
  | nx ρ' => rw [e] at q; exact fun σ' H' r' => ⟨ρ', P, r', q⟩
  | _ => rw [e] at q; exact q
theorem ds_one (h : DS X c Ew st f) : DSs X c Ew [st] f := (pss_one h).dimp fun _ _ _ q => q
theorem ds_pass : DS X c Ew (.Pass pos) fNx := ps_pass.dimp fun Z σ H ⟨ρ, P, r, q⟩ => q σ H r
theorem ds_break : DS X c Ew (.Break pos) (fun ρ => .bk ρ) := ps_break.dimp fun Z σ H ⟨ρ, P, r, q⟩ => q σ H r
theorem ds_continue : DS X c Ew (.Continue pos) (fun ρ => .ct ρ) := ps_continue.dimp fun Z σ H ⟨ρ, P, r, q⟩ => q σ H r
theorem ds_never : DS X c Ew st (fun _ => .stk) := ps_never.dimp fun Z σ H ⟨ρ, P, r, q⟩ => q
def fSet (i : Nat) (f : FE) : FS := fun ρ => (f ρ).bindS fun d ρ' => .nx (ρ'.set i (some d))
theorem ds_set {fe : FE} (i : Nat) {x : Str} {px : Pos} (hz : i ∉ c.Z) (hN : X.N.Nodup) (h : DE X c Ew e fe) (hi : X.N[i]? = some x := by rfl) (hx : Loc X.env.scope x := by first | exact Or.inl rfl | exact Or.inr rfl)
    (hs : swapsWith e (some (.Name x px)) pos.line X.env = pure false := by rfl) (hf : X.fn x = true ∨ X.env.scope.names.lookup x = some .local := by first | exact .inl rfl | exact .inr rfl | assumption) :
    DS X c Ew (.Assign [.Name x px] e pos) (fSet i fe) := (ps_set hN hi hx h hs hf).dimp fun Z σ H ⟨ρ, P, r, q⟩ => ⟨ρ, P, r, (R.satS q).imp fun d ρ' k v H' r' => k _ H' (r'.store hz)⟩
def fDrop (f : FE) : FS := fun ρ => (f ρ).bindS fun _ ρ' => .nx ρ'
theorem ds_expr {fe : FE} (h : DE X c Ew e fe) (hs : swapsWith e none pos.line X.env = pure false := by rfl) : DS X c Ew (.Expr e pos) (fDrop fe) := (ps_expr h hs).dimp fun Z σ H ⟨ρ, P, r, q⟩ =>
  ⟨ρ, P, r, (R.satS q).imp fun d ρ' k v H' r' => k σ H' r'.pop⟩
def fRet (f : FE) : FS := fun ρ => (f ρ).bindS fun d ρ' => .rt d ρ'
theorem ds_ret {fe : FE} (h : DE X c Ew e fe) : DS X c Ew (.Return (some e) pos) (fRet fe) := (ps_ret h).dimp fun Z σ H ⟨ρ, P, r, q⟩ =>
  ⟨ρ, P, r, (R.satS q).imp fun d ρ' k v H' r' => k v σ H' r'⟩
theorem ds_retN : DS X c Ew (.Return none pos) (fun ρ => .rt .non ρ) := ps_retN.dimp fun Z σ H ⟨ρ, P, r, q⟩ => q .non σ H (r.push0 .non)
def fIfS (t : FB) (f g : FS) : FS := fun ρ => (t ρ).bindS fun b ρ' => if b then f ρ' else g ρ'
theorem ds_if {t : Expr} {ft : FB} {s1 s2 : List Stmt} (ht : DT X c Ew t ft) (h1 : DSs X c Ew s1 f) (h2 : DSs X c Ew s2 g) : DS X c Ew (.If t s1 s2 pos) (fIfS ft f g) := (ps_if ht h1 h2).dimp fun Z σ H ⟨ρ, P, r, q⟩ => by
  refine ⟨ρ, P, r, (R.satS q).imp fun b ρ' k H' r' => ?_⟩
  cases b with
  | true => exact ⟨ρ', P, r', k⟩
  | false => exact ⟨ρ', P, r', k⟩

/-! ### targets -/
abbrev FG := D → En → Option En
abbrev FGs := List D → En → Option En
def rdG (K : PySem.W.Frag) (c : Ct) (g : FG) : TG := fun v σ H Q => ∃ d ρ P, Rp K c σ H ρ ((d, v) :: P) ∧ ∃ ρ', g d ρ = some ρ' ∧ ∀ σ' H', Rp K c σ' H' ρ' P → Q σ' H'
def rdGs (K : PySem.W.Frag) (c : Ct) (g : FGs) : TGs := fun vs σ H Q => ∃ ds ρ P, ds.length = vs.length ∧ Rp K c σ H ρ (ds.zip vs ++ P) ∧ ∃ ρ', g ds ρ = some ρ' ∧ ∀ σ' H', Rp K c σ' H' ρ' P → Q σ' H'
abbrev DG (X : Cx) (c : Ct) (e : Expr) (g : FG) : Prop := PG X e (rdG X.K c g)
abbrev DGs (X : Cx) (c : Ct) (es : List Expr) (g : FGs) : Prop := PGs X es (rdGs X.K c g)
theorem _root_.L2.PG.dimp {X : Cx} {e : Expr} {t u : TG} (h : PG X e t) (q : ∀ v σ H Q, u v σ H Q → t v σ H Q) : PG X e u := ⟨fun pins s σ H v w Q I r x => h.run pins s σ H v w Q I r (q v σ H Q x)⟩
theorem _root_.L2.PGs.dimp {X : Cx} {e : List Expr} {t u : TGs} (h : PGs X e t) (q : ∀ v σ H Q, u v σ H Q → t v σ H Q) : PGs X e u := ⟨fun pins s σ H v w Q I r x => h.run pins s σ H v w Q I r (q v σ H Q x)⟩
def gSet (i : Nat) : FG := fun d ρ => some (ρ.set i (some d))
theorem dg_name (i : Nat) {x : Str} {px : Pos} (hz : i ∉ c.Z) (hN : X.N.Nodup) (hi : X.N[i]? = some x := by rfl) (hx : Loc X.env.scope x := by first | exact Or.inl rfl | exact Or.inr rfl) (hf : X.fn x = true ∨ X.env.scope.names.lookup x = some .local := by first | exact .inl rfl | exact .inr rfl | assumption) :
    DG X c (.Name x px) (gSet i) := (pg_name hN hi hx hf).dimp fun v σ H Q ⟨d, ρ, P, r, ρ', e, q⟩ => by
  cases e
  exact q _ H (r.store hz)
def gsNil : FGs := fun ds ρ => match ds with
  | [] => some ρ
  | _ => none
def gsCons (g : FG) (gs : FGs) : FGs := fun ds ρ => match ds with
  | [] => none
  | d :: ds => (g d ρ).bind (gs ds)
theorem dgs_nil : DGs X c [] gsNil := pgs_nil.dimp fun vs σ H Q ⟨ds, ρ, P, hl, r, ρ', e, q⟩ => by
  cases ds with
  | nil =>
    cases e
    exact ⟨List.eq_nil_of_length_eq_zero hl.symm, q σ H r⟩
  | cons _ _ => cases e
theorem dgs_cons {g : FG} {gs : FGs} (h : DG X c e g) (h2 : DGs X c es gs) (hs : (assignEach (e :: es) X.env).map (·.2) = assign e X.env :: (assignEach es X.env).map (·.2) := by rfl) : DGs X c (e :: es) (gsCons g gs) := (pgs_cons h h2 hs).dimp fun vs σ H Q ⟨ds, ρ, P, hl, r, ρ', e, q⟩ => by
  cases ds with
  | nil => cases e
  | cons d ds =>
    cases vs with
    | nil => cases hl
    | cons v vs =>
      obtain ⟨ρ1, e1, e2⟩ := Option.bind_eq_some_iff.mp e
      exact ⟨v, vs, rfl, d, ρ, ds.zip vs ++ P, r, ρ1, e1, fun σ' H' r' => ⟨ds, ρ1, P, by simpa using hl, r', ρ', e2, q⟩⟩
def gTupF (n : Nat) (gs : FGs) : FG := fun d ρ => match d with
  | .tup ds => if ds.length = n then gs ds ρ else none
  | _ => none
theorem pend_of {K : PySem.W.Frag} {H : Hp} : ∀ {ds : List D} {vs : List V} {f : List Addr}, DvL K H ds vs f → (ds.zip vs).map (·.1) = ds ∧ (ds.zip vs).map (·.2) = vs
  | _, _, _, .nil => ⟨rfl, rfl⟩
  | _, _, _, .cons _ l => by
    obtain ⟨h1, h2⟩ := pend_of l
    exact ⟨by rw [List.zip_cons_cons, List.map_cons, h1], by rw [List.zip_cons_cons, List.map_cons, h2]⟩
/-- a tuple on the top is taken apart -/
theorem Rp.untup {K : PySem.W.Frag} {H : Hp} {σ : L2.St} {ρ : En} {P : List (D × V)} {ds : List D} {v : V} (r : Rp K c σ H ρ ((.tup ds, v) :: P)) : ∃ a xs, v = .ref a ∧ SqT K H a xs ∧ ds.length = xs.length ∧ Rp K c σ H ρ (ds.zip xs ++ P) := by
  obtain ⟨fs, fp, h1, h2, h3⟩ := r
  cases h2 with
  | cons x1 l1 =>
    obtain ⟨a, xs, e, h, l⟩ := x1.tupR
    obtain ⟨p1, p2⟩ := pend_of l
    refine ⟨a, xs, e, h, l.length, fs, _, h1, ?_, h3⟩
    rw [List.map_append, List.map_append, p1, p2]
    exact l.append l1
theorem dg_tup {gs : FGs} {k n : Nat} (hc : X.calm = true) (h : DGs X c es gs) (hn : (assignEach es X.env).length = n := by rfl) (hst : (assignEach es X.env).findIdx? (·.1) = none := by rfl) : DG X c (.Tuple es k pos) (gTupF n gs) := (pg_tup hc h hn hst).dimp fun v σ H Q ⟨d, ρ, P, r, ρ', e, q⟩ => by
  unfold gTupF at e
  split at e
  · rename_i ds
    split at e
    · rename_i hl
      obtain ⟨a, xs', e', h', hl', r'⟩ := r.untup
      exact ⟨a, xs', e', h', by omega, ds, ρ, P, hl', r', ρ', e, q⟩
    · cases e
  · cases e
end
section
variable {X : Cx} {c : Ct} {Ew : Xn → En → Prop} {e a b : Expr} {pos : Pos} {es : List Expr} {st : Stmt} {sts : List Stmt} {f g : FS}
def R.ofS (o : Option En) : SR := match o with
  | some ρ => .nx ρ
  | none => .stk
def fAsg (g : FG) (f : FE) : FS := fun ρ => (f ρ).bindS fun d ρ' => R.ofS (g d ρ')
theorem ofS_sat {K : PySem.W.Frag} {P : List (D × V)} {Z : Ends} {o : Option En} (h : SR.sat K c Ew P Z (R.ofS o)) : ∃ ρ, o = some ρ ∧ ∀ σ H, Rp K c σ H ρ P → Z.nx σ H := by
  cases o with
  | none => exact h.elim
  | some ρ => exact ⟨ρ, rfl, h⟩
theorem ds_asg {tg : Expr} {g : FG} {fe : FE} (h : DE X c Ew e fe) (hg : DG X c tg g) (hs : swapsWithSole [tg] e pos.line X.env = pure false := by rfl) (hw : swappedStores [tg] e X.env = pure none := by rfl)
    (h1 : (assignEach [tg] X.env).map (·.2) = [assign tg X.env] := by rfl) : DS X c Ew (.Assign [tg] e pos) (fAsg g fe) := (ps_asg h hg hs hw h1).dimp fun Z σ H ⟨ρ, P, r, q⟩ =>
  ⟨ρ, P, r, (R.satS q).imp fun d ρ' k v H' r' => by
    obtain ⟨ρ2, e2, q2⟩ := ofS_sat k
    exact ⟨d, ρ', P, r', ρ2, e2, q2⟩⟩
/-- a, b = x, y of plain names -/
def fPar (i j : Nat) (f g : FE) : FS := fun ρ => (f ρ).bindS fun d ρ1 => (g ρ1).bindS fun e ρ2 => .nx ((ρ2.set i (some d)).set j (some e))
theorem ds_par {x y : Str} {fa fb : FE} {px py pt : Pos} {kt k2 pt2} (i j : Nat) (hz : i ∉ c.Z) (hz2 : j ∉ c.Z) (hc : X.calm = true) (hN : X.N.Nodup) (ha : DE X c Ew a fa) (hb : DE X c Ew b fb)
    (hw : swappedStores [.Tuple [.Name x px, .Name y py] kt pt] (.Tuple [a, b] k2 pt2) X.env = pure (some [x, y]))
    (hi : X.N[i]? = some x := by rfl) (hj : X.N[j]? = some y := by rfl) (hij : i ≠ j := by decide)
    (hx : X.env.scope.names.lookup x = some .local := by rfl) (hy : X.env.scope.names.lookup y = some .local := by rfl)
    (hs : swapsWithSole [.Tuple [.Name x px, .Name y py] kt pt] (.Tuple [a, b] k2 pt2) pos.line X.env = pure false := by rfl)
    (h1 : starEach [a, b] X.env = (false, eval a X.env) :: starEach [b] X.env := by rfl) (h2 : starEach [b] X.env = (false, eval b X.env) :: starEach [] X.env := by rfl) :
    DS X c Ew (.Assign [.Tuple [.Name x px, .Name y py] kt pt] (.Tuple [a, b] k2 pt2) pos) (fPar i j fa fb) := (ps_par hc hN hi hj hij hx hy (pa_cons ha (pa_cons hb pa_nil h2) h1) hw hs).dimp fun Z σ H ⟨ρ, P, r, q⟩ =>
  ⟨ρ, P, r, (R.satS q).imp fun d ρ1 q v H1 r1 => ⟨ρ1, (d, v) :: P, r1, (R.satS q).imp fun e ρ2 k u H2 r2 => ⟨v, u, rfl, k _ H2 ((r2.swap.store hz).store hz2)⟩⟩⟩
/-- a, b, d = x, y, z of plain names -/
def fPar3 (i j l : Nat) (f g h : FE) : FS := fun ρ => (f ρ).bindS fun d ρ1 => (g ρ1).bindS fun e ρ2 => (h ρ2).bindS fun u ρ3 => .nx (((ρ3.set i (some d)).set j (some e)).set l (some u))
theorem ds_par3 {x y z : Str} {d : Expr} {fa fb fd : FE} {px py pz pt : Pos} {kt k2 pt2} (i j l : Nat) (hz : i ∉ c.Z) (hz2 : j ∉ c.Z) (hz3 : l ∉ c.Z) (hc : X.calm = true) (hN : X.N.Nodup) (ha : DE X c Ew a fa) (hb : DE X c Ew b fb) (hd : DE X c Ew d fd)
    (hw : swappedStores [.Tuple [.Name x px, .Name y py, .Name z pz] kt pt] (.Tuple [a, b, d] k2 pt2) X.env = pure (some [x, y, z]))
    (hi : X.N[i]? = some x := by rfl) (hj : X.N[j]? = some y := by rfl) (hl : X.N[l]? = some z := by rfl) (hij : i ≠ j := by decide) (hil : i ≠ l := by decide) (hjl : j ≠ l := by decide)
    (hx : X.env.scope.names.lookup x = some .local := by rfl) (hy : X.env.scope.names.lookup y = some .local := by rfl) (hzz : X.env.scope.names.lookup z = some .local := by rfl)
    (hs : swapsWithSole [.Tuple [.Name x px, .Name y py, .Name z pz] kt pt] (.Tuple [a, b, d] k2 pt2) pos.line X.env = pure false := by rfl)
    (h1 : starEach [a, b, d] X.env = (false, eval a X.env) :: starEach [b, d] X.env := by rfl) (h2 : starEach [b, d] X.env = (false, eval b X.env) :: starEach [d] X.env := by rfl) (h3 : starEach [d] X.env = (false, eval d X.env) :: starEach [] X.env := by rfl) :
    DS X c Ew (.Assign [.Tuple [.Name x px, .Name y py, .Name z pz] kt pt] (.Tuple [a, b, d] k2 pt2) pos) (fPar3 i j l fa fb fd) := (ps_par3 hc hN hi hj hl hij hil hjl hx hy hzz (pa_cons ha (pa_cons hb (pa_cons hd pa_nil h3) h2) h1) hw hs).dimp fun Z σ H ⟨ρ, P, r, q⟩ =>
  ⟨ρ, P, r, (R.satS q).imp fun d ρ1 q v H1 r1 => ⟨ρ1, (d, v) :: P, r1, (R.satS q).imp fun e ρ2 q u H2 r2 => ⟨ρ2, (e, u) :: (d, v) :: P, r2, (R.satS q).imp fun g ρ3 k w H3 r3 =>
    ⟨v, u, w, rfl, k _ H3 (((r3.perm (P' := (d, v) :: (e, u) :: (g, w) :: P) (by
      refine (List.Perm.swap _ _ _).trans ?_
      refine (List.Perm.cons _ (List.Perm.swap _ _ _)).trans ?_
      exact List.Perm.swap _ _ _)).store hz).store hz2 |>.store hz3)⟩⟩⟩⟩
/-- name op= e, of flat values -/
def fAug (i : Nat) (g : D → D → Option D) (f : FE) : FS := fun ρ => match slot ρ i with
  | some d0 => if d0.isF = true then (f ρ).bindS fun d ρ' => match g d0 d with
    | some r => .nx (ρ'.set i (some r))
    | none => .stk
    else .stk
  | none => .stk
theorem ds_aug {op : Operator} {r : R2} {g : D → D → Option D} {fe : FE} (i : Nat) {x : Str} {px : Pos} (hz : i ∉ c.Z) (hN : X.N.Nodup) (ho : OpR X (inplaceOp op) r) (hg : Op2 X.K r g) (h : DE X c Ew e fe) (hi : X.N[i]? = some x := by rfl) (hx : Loc X.env.scope x := by first | exact Or.inl rfl | exact Or.inr rfl)
    (hf : X.fn x = true ∨ X.env.scope.names.lookup x = some .local := by first | exact .inl rfl | exact .inr rfl | assumption) : DS X c Ew (.AugAssign (.Name x px) op e pos) (fAug i g fe) := (ps_aug hN hi hx h ho hf).dimp fun Z σ H ⟨ρ, P, rp, q⟩ => by
  unfold fAug at q
  cases es : slot ρ i with
  | none => rw [es] at q; exact q.elim
  | some d0 =>
    rw [es] at q
    have q : SR.sat X.K c Ew P Z (if d0.isF = true then (fe ρ).bindS fun d ρ' => match g d0 d with
      | some r => SR.nx (ρ'.set i (some r))
      | none => SR.stk
      else SR.stk) := q
    split at q
    · rename_i hF
      obtain ⟨v0, f0, e0, x0⟩ := rp.slot (slot_some es)
      have x00 := x0.f0 hF
      refine ⟨v0, e0, ρ, (d0, v0) :: P, rp.push0 x00, (R.satS q).imp fun d ρ' k v H' r' => ?_⟩
      split at k
      · rename_i dr eg
        obtain ⟨f1, x1⟩ := r'.head
        obtain ⟨f2, x2⟩ := r'.pop.head
        exact hg H' v0 v d0 d f2 f1 _ dr x2 x1 eg fun w H3 fr => k _ H3 ((Rp.fresh r'.pop.pop fr).store hz)
      · exact k.elim
    · exact q.elim
end
end DL

namespace DL
open PySem PySem.Spec PyProof.Rows L2

/-! ### a source that is drawn from: a list, a tuple, a text -/
/-- v begins an iterator; St: the iterator's own cell; T z: the heap holds the source as z; n z items told by Pd z -/
structure Src (P : Program) (w : World) (v : Value) (ex : List Addr) (St : Addr → Nat → Heap → Prop) {ζ : Type} (T : ζ → Heap → Prop) (n : ζ → Nat) (Pd : ζ → Nat → Value → Prop) : Prop where
  draws : ∀ (z : ζ) (A : Around) (it : Addr), A.handled = none → it ∉ ex → Draws P w A it (it :: ex) (n z) (Pd z) fun i h => St it i h ∧ T z h
  begins : ∃ o, (∀ z, Begins v o (T z)) ∧ ∀ it h, h.get? it = some o → St it 0 h
  obj : ∀ it i h, St it i h → ∃ o, h.get? it = some o ∧ ∀ u, o.data ≠ .cell u
  keep : ∀ it i h h', St it i h → (∀ o, h.get? it = some o → h'.get? it = some o) → St it i h'
  lt : ∀ z h, T z h → ∀ b ∈ ex, b < h.objs.size
section
variable {P : Program} {w : World}
theorem src_list (l : Addr) : Src P w (.ref l) [l] (fun it i h => h.IsListIter it l i) (fun (items : Array Value) h => h.IsList l items) (fun items => items.size) (fun items i v => items[i]? = some v) where
  draws := fun items A it hh hn => Draws.list hh it l (fun e => hn (by simp [e])) items
  begins := ⟨_, begins_list l, fun it h e => ⟨_, e, rfl, rfl⟩⟩
  obj := fun it i h ⟨o, e, _, d⟩ => ⟨o, e, fun u q => by rw [d] at q; cases q⟩
  keep := fun it i h h' st k => st.at k
  lt := fun z h ⟨o, e, _⟩ b hb => by rw [List.mem_singleton.mp hb]; exact Heap.lt_size e
theorem src_tuple (l : Addr) : Src P w (.ref l) [l] (fun it i h => h.IsTupleIter it l i) (fun (items : Array Value) h => h.IsTuple l items) (fun items => items.size) (fun items i v => items[i]? = some v) where
  draws := fun items A it hh hn => Draws.tuple hh it l (fun e => hn (by simp [e])) items
  begins := ⟨_, begins_tuple l, fun it h e => ⟨_, e, rfl, rfl⟩⟩
  obj := fun it i h ⟨o, e, _, d⟩ => ⟨o, e, fun u q => by rw [d] at q; cases q⟩
  keep := fun it i h h' st k => st.at k
  lt := fun z h ⟨o, e, _⟩ b hb => by rw [List.mem_singleton.mp hb]; exact Heap.lt_size e
theorem src_text (x : Str) (t : Tok) : Src P w (.str x t) [] (fun it i h => h.IsStrIter it (strIterType x) x t i) (fun (_ : Unit) _ => True) (fun _ => x.cps.size) (fun _ i v => ∃ c u, x.cps[i]? = some c ∧ v = .str ⟨#[c]⟩ u) where
  draws := fun _ A it hh _ => by
    have D := Draws.text (prog := P) (w := w) hh it x t
    exact { live := fun i h st => D.live i h st.1, frame := fun i h h' st hk => ⟨D.frame i h h' st.1 hk, trivial⟩,
            item := fun i s Q E hi st hQ => D.item i s Q E hi st.1 fun x h' tk p st' sb => hQ x h' tk p ⟨st', trivial⟩ sb,
            done := fun s Q E st hE => D.done s Q E st.1 hE }
  begins := ⟨_, fun _ => begins_text x t, fun it h e => ⟨_, e, rfl, rfl⟩⟩
  obj := fun it i h ⟨o, e, _, d⟩ => ⟨o, e, fun u q => by rw [d] at q; cases q⟩
  keep := fun it i h h' ⟨o, e, r⟩ k => ⟨o, k o e, r⟩
  lt := fun z h _ b hb => nomatch hb
end

/-! ### an iterator of pairs as a turn -/
/-- pairs: at turn i a new tuple of xs with Y i H xs, while G -/
def ItP (n : Nat) (G : Hp → Prop) (Y : Nat → Hp → List V → Prop) : It :=
  ⟨fun i H => i < n ∧ G H, fun i H v H' => ∃ T xs, v = .ref T ∧ H T = none ∧ H' = upd H T (.tup xs) ∧ Y i H xs, fun i H => i = n ∧ G H⟩
theorem turn_pairs {P : Program} {w : World} {K : PySem.W.Frag} {elts : List Expr} {kk : Nat} {tpos : Pos} {it : Addr} {fp fpW wr : List Addr} {n : Nat} {ζ : Type} {nz : ζ → Nat} {Pt : ζ → Nat → Array Value → Prop} {StW : ζ → Nat → Heap → Prop} {Mid : ζ → Nat → Addr → Heap → Prop}
    {tn : Nat → Heap → Prop} {G : Hp → Prop} {Y : Nat → Hp → List V → Prop} {T : ζ → Heap → Prop} (W : ∀ (z : ζ) (A : Around), A.handled = none → WalksT P w A it fpW wr (nz z) (Pt z) (StW z) (Mid z))
    (mem : it ∈ fp) (hwr : ∀ b ∈ wr, b ∈ fp) (into : ∀ z i h, tn i h → T z h → StW z i h) (outof : ∀ z i h, StW z i h → tn i h)
    (src : ∀ (X : Cx) (pins : List (Addr × Obj)) (σ : L2.St) (H : Hp) (s : Shared), X.prog = P → X.w = w → X.K = K → Inv X pins σ H s → G H → ∃ z, nz z = n ∧ T z s.heap ∧ ∀ i vals, Pt z i vals → ∃ xs, Vals xs vals.toList ∧ xs.length ≤ sizeLine ∧ Y i H xs)
    (obj : ∀ i h, tn i h → ∀ b ∈ fp, ∃ o, h.get? b = some o ∧ ∀ v, o.data ≠ .cell v)
    (keep : ∀ i h h', tn i h → (∀ b ∈ fp, ∀ o, h.get? b = some o → h'.get? b = some o) → tn i h')
    (self : ∀ (A : Around) (i : Nat) (s : Shared) (Q : Value → Shared → Prop) (E : Value → Shared → Prop), tn i s.heap → Q (.ref it) s → wpAny (model P w) A (pyIter (.ref it)) Q E s) : Turn P w K (.Tuple elts kk tpos) (ItP n G Y) fp it tn where
  mem := mem
  obj := obj
  keep := keep
  self := self
  item := by
    intro X hP hw hK hc i pins s σ H E I hf st ⟨hi, hg⟩
    obtain ⟨z, hz, hT, hval⟩ := src X pins σ H s hP hw hK I hg
    subst hP hw hK
    have wk := W z X.A (I.ok.hd hc)
    refine wk.item i s _ _ (by rw [hz]; exact hi) (into z i _ st hT) fun T' vals h' tk hp hle ht hm hk => ?_
    refine ⟨_, rfl, wk.go elts kk tpos i T' { s with heap := h', toks := tk } _ _ hm fun h2 st2 hk2 => ?_⟩
    obtain ⟨xs, rv, hxl, hy⟩ := hval i vals hp
    have hT2 : IsTup h2 T' vals := ht.at fun o e => hk2 T' o (wk.apart i T' h' hm) e
    have new : ObjOk X.prog X.w (upd H T' (.tup xs)) h2 T' (.tup xs) := ⟨hxl, vals.toList, rv, by simpa using hT2⟩
    have I1 : Inv X pins σ (upd H T' (.tup xs)) { s with heap := h2, toks := tk } :=
      I.turnedNew (ch := wr) (fun b ob hb q => hk2 b ob hb (hk b ob hb q)) (fun b hb => hf b (hwr b hb)) hle new
    refine ⟨.ref T', _, I1, rfl, ⟨T', xs, rfl, I.hok.fresh hle, rfl, hy⟩, outof _ _ _ st2, fun b hb => ?_⟩
    obtain ⟨o, e, _⟩ := obj i _ st b hb
    rw [upd_ne (Nat.ne_of_lt (Nat.lt_of_lt_of_le (Heap.lt_size e) hle))]
    exact (hf b hb).1
  done := by
    intro X hP hw hK hc i pins s σ H E I hf st ⟨hi, hg⟩
    obtain ⟨z, hz, hT, _⟩ := src X pins σ H s hP hw hK I hg
    subst hP hw hK hi
    have wk := W z X.A (I.ok.hd hc)
    exact wk.done s _ _ (by rw [hz]; exact into z i _ st hT) fun h' tk hk => ⟨rfl, I.turnedL (t' := tk) (ch := wr) (fun b o hb q => hk b o hb q) fun b hb => hf b (hwr b hb)⟩

/-! ### enumerate(v) -/
set_option maxHeartbeats 1000000 in
theorem meets_enum1 {v : Value} {o : Obj} {HH : Heap → Prop} (B : Begins v o HH) :
    Meets (Builtin.«enumerate.__new__» ⟨[.type "enumerate", v], []⟩) (fun _ R s => HH s.heap ∧
      R (.ok (.ret (.ref (s.heap.push o).objs.size))) { s with heap := (s.heap.push o).push { cls := .type "enumerate", data := .fields #[.none, .bool false, .ref s.heap.objs.size, rawInt 0, .none, .none] } }) :=
  .of_wp fun prog w A R s hh => by
    obtain ⟨hp, g, d, tk, os⟩ := s
    obtain ⟨h1, h⟩ := hh
    have hsub := sub_enumerate
    have q1 : ∀ {A' : Around} {E Q : Value → Shared → Prop}, Q (.ref hp.objs.size) ⟨hp.push o, g, d, tk, os⟩ → wpAny (model prog w) A' (pyIter v) Q E ⟨hp, g, d, tk, os⟩ := fun q => B.iter prog w _ _ ⟨hp, g, d, tk, os⟩ _ h1 q
    wp_walk using q1
    refine wpAny_stack_any fun st => wpAny_pure ?_
    split
    · rename_i c _ _ _ _ _
      cases (c == Value.type "enumerate")
      · wp_walk using q1
        exact ⟨_, rfl, h⟩
      · wp_walk using q1
        exact ⟨_, rfl, h⟩
    · wp_walk using q1
      exact ⟨_, rfl, h⟩
theorem enum1_begins {prog : Program} {w : World} {A : Around} {E : Value → Shared → Prop} {s : Shared} {v : Value} {o : Obj} {HH : Heap → Prop} {Q : Value → Shared → Prop} (B : Begins v o HH) (h1 : HH s.heap)
    (h : ∀ h', IsEnum h' (s.heap.objs.size + 1) s.heap.objs.size 0 .none → h'.get? s.heap.objs.size = some o → (∀ b o, s.heap.get? b = some o → h'.get? b = some o) → Q (.ref (s.heap.objs.size + 1)) { s with heap := h' }) :
    wpAny (model prog w) A (call (.type "enumerate") [v]) Q E s := by
  refine callType_new F.called_enumerate (by decide) (F.typeCall_enumerate_1 _) (F.newCall_enumerate_1 _) (fun ob => F.args_object_init_2 ob _) F.entry_enumerate_new (meets_enum1 B) ⟨h1, ?_⟩
  have hz : (s.heap.push o).objs.size = s.heap.objs.size + 1 := Heap.size_push ..
  show _ ∧ _
  rw [hz]
  have he : IsEnum ((s.heap.push o).push { cls := .type "enumerate", data := .fields #[.none, .bool false, .ref s.heap.objs.size, rawInt 0, .none, .none] }) (s.heap.objs.size + 1) s.heap.objs.size 0 .none := by
    have q := Heap.get?_push_size (s.heap.push o) (o := { cls := .type "enumerate", data := .fields #[.none, .bool false, .ref s.heap.objs.size, rawInt 0, .none, .none] }) rfl
    rw [hz] at q
    exact q
  exact ⟨⟨_, he, rfl⟩, h _ he (Heap.get?_push_of_some _ (Heap.get?_push_size _ B.free)) fun b ob x => Heap.get?_push_of_some _ (Heap.get?_push_of_some _ x)⟩
section
variable {X : Cx} {pins : List (Addr × Obj)} {σ : L2.St} {H : Hp} {s : Shared}
/-- enumerate of a source has come -/
theorem enum_come {v : Value} {ex : List Addr} {St : Addr → Nat → Heap → Prop} {ζ : Type} {T : ζ → Heap → Prop} {nz : ζ → Nat} {Pd : ζ → Nat → Value → Prop} {G : Hp → Prop} {Y : Nat → Hp → List V → Prop} {n : Nat} {R : It → Hp → Prop}
    {elts : List Expr} {kk : Nat} {tpos : Pos} (S : Src X.prog X.w v ex St T nz Pd) (I : Inv X pins σ H s) (g : G H)
    (src : ∀ (pins : List (Addr × Obj)) (X' : Cx) (σ : L2.St) (H : Hp) (s : Shared), X'.prog = X.prog → X'.w = X.w → X'.K = X.K → Inv X' pins σ H s → G H → ∃ z, nz z = n ∧ T z s.heap ∧ ∀ i u, Pd z i u → ∃ x, RelV x u ∧ Y i H [.int (i : Nat), x])
    (q : R (ItP n G Y) H) : wpAny (model X.prog X.w) X.A (call (.type "enumerate") [v]) (fun v s1 => wpAny (model X.prog X.w) X.A (pyIter v) (PIE X pins σ (.Tuple elts kk tpos) R) X.xe s1) X.xe s := by
  obtain ⟨z0, _, hT, _⟩ := src pins X σ H s rfl rfl rfl I g
  obtain ⟨o, B, st0⟩ := S.begins
  refine enum1_begins (B z0) hT fun h' he ho hk => wpAny_pyIter_enum he ?_
  have hne : s.heap.objs.size + 1 ≠ s.heap.objs.size := Nat.succ_ne_self _
  have hex : ∀ b ∈ ex, b < s.heap.objs.size := S.lt z0 _ hT
  have nin : ∀ k, s.heap.objs.size + k ∉ ex := fun k hb => absurd (hex _ hb) (Nat.not_lt.mpr (Nat.le_add_right _ _))
  have nin0 : s.heap.objs.size ∉ ex := nin 0
  refine ⟨s.heap.objs.size + 1, [s.heap.objs.size + 1, s.heap.objs.size], (fun i h => (∃ old, IsEnum h (s.heap.objs.size + 1) s.heap.objs.size ((0 : Int) + (i : Int)) old) ∧ St s.heap.objs.size i h), _, H, rfl, I.kept (t' := s.toks) hk,
    turn_pairs (fun z A hh => WalksT.enumFrom (0 : Int) (S.draws z A.in1 _ hh nin0) (s.heap.objs.size + 1) hne (fun hb => ?_) List.mem_cons_self) (by simp) (fun b hb => hb)
      (fun z i h st hT => ⟨st.1, st.2, hT⟩) (fun z i h st => ⟨st.1, st.2.1⟩) (fun X' pins σ H s hP hw hK I hg => ?_) (fun i h st b hb => ?_) (fun i h h' st k => ⟨?_, S.keep _ i _ _ st.2 fun o e => k _ (by simp) o e⟩) (fun A i s Q E st h => ?_), ⟨⟨.none, he⟩, st0 _ _ ho⟩, fun b hb => ?_, q⟩
  · rcases List.mem_cons.mp hb with e | hb
    · exact hne e
    · exact nin 1 hb
  · obtain ⟨z, hz, hT, hv⟩ := src pins X' σ H s hP hw hK I hg
    refine ⟨z, hz, hT, fun i vals hp => ?_⟩
    obtain ⟨t, u, hu, rfl⟩ := hp
    obtain ⟨x, rx, hy⟩ := hv i u hu
    have e0 : (0 : Int) + (i : Int) = ((i : Nat) : Int) := by omega
    exact ⟨[.int (i : Nat), x], .cons ⟨t, by rw [e0]⟩ (.cons rx .nil), by show 2 ≤ sizeLine; decide, hy⟩
  · obtain ⟨⟨old, he⟩, st⟩ := st
    have e' : b = s.heap.objs.size + 1 ∨ b = s.heap.objs.size := by simpa using hb
    rcases e' with e | e
    · rw [e]; exact ⟨_, he, fun v q => nomatch q⟩
    · rw [e]; exact S.obj _ _ _ st
  · obtain ⟨⟨old, he⟩, _⟩ := st
    exact ⟨old, k _ (by simp) _ he⟩
  · obtain ⟨⟨old, he⟩, _⟩ := st
    exact wpAny_pyIter_enum he h
  · have e' : b = s.heap.objs.size + 1 ∨ b = s.heap.objs.size := by simpa using hb
    have hle : s.heap.objs.size ≤ b := by
      rcases e' with z | z
      · rw [z]; exact Nat.le_add_right _ _
      · rw [z]; exact Nat.le_refl _
    exact I.fpOk hle (I.hok.fresh hle)
/-- zip of two sources has come -/
theorem zip_come {v v2 : Value} {ex ex2 : List Addr} {St St2 : Addr → Nat → Heap → Prop} {ζ ζ2 : Type} {T : ζ → Heap → Prop} {T2 : ζ2 → Heap → Prop} {nz : ζ → Nat} {nz2 : ζ2 → Nat} {Pd : ζ → Nat → Value → Prop} {Pd2 : ζ2 → Nat → Value → Prop} {G : Hp → Prop} {Y : Nat → Hp → List V → Prop} {n : Nat} {R : It → Hp → Prop}
    {elts : List Expr} {kk : Nat} {tpos : Pos} (S : Src X.prog X.w v ex St T nz Pd) (S2 : Src X.prog X.w v2 ex2 St2 T2 nz2 Pd2) (I : Inv X pins σ H s) (g : G H)
    (src : ∀ (pins : List (Addr × Obj)) (X' : Cx) (σ : L2.St) (H : Hp) (s : Shared), X'.prog = X.prog → X'.w = X.w → X'.K = X.K → Inv X' pins σ H s → G H → ∃ z z2, min (nz z) (nz2 z2) = n ∧ T z s.heap ∧ T2 z2 s.heap ∧ ∀ i u u2, Pd z i u → Pd2 z2 i u2 → ∃ x x2, RelV x u ∧ RelV x2 u2 ∧ Y i H [x, x2])
    (q : R (ItP n G Y) H) : wpAny (model X.prog X.w) X.A (call (.type "zip") [v, v2]) (fun v s1 => wpAny (model X.prog X.w) X.A (pyIter v) (PIE X pins σ (.Tuple elts kk tpos) R) X.xe s1) X.xe s := by
  obtain ⟨z0, z1, _, hT, hT2, _⟩ := src pins X σ H s rfl rfl rfl I g
  obtain ⟨o, B, st0⟩ := S.begins
  obtain ⟨o2, B2, st02⟩ := S2.begins
  refine zip_begins2 (B z0) (B2 z1) hT hT2 fun h' hz hTI hTO ho ho2 hsz hk => wpAny_pyIter_zip hz ?_
  have hex : ∀ b ∈ ex, b < s.heap.objs.size := S.lt z0 _ hT
  have hex2 : ∀ b ∈ ex2, b < s.heap.objs.size := S2.lt z1 _ hT2
  have nin : ∀ k, s.heap.objs.size + k ∉ ex := fun k hb => absurd (hex _ hb) (Nat.not_lt.mpr (Nat.le_add_right _ _))
  have nin2 : ∀ k, s.heap.objs.size + k ∉ ex2 := fun k hb => absurd (hex2 _ hb) (Nat.not_lt.mpr (Nat.le_add_right _ _))
  refine ⟨s.heap.objs.size + 4, [s.heap.objs.size + 4, s.heap.objs.size + 2, s.heap.objs.size + 3, s.heap.objs.size, s.heap.objs.size + 1],
    (fun i h => IsZip h (s.heap.objs.size + 4) (s.heap.objs.size + 2) (s.heap.objs.size + 3) .none ∧ IsTupOf2 h (s.heap.objs.size + 2) (.ref s.heap.objs.size) (.ref (s.heap.objs.size + 1)) ∧ (∃ a1 a2, IsTupOf2 h (s.heap.objs.size + 3) a1 a2) ∧ St s.heap.objs.size i h ∧ St2 (s.heap.objs.size + 1) i h), _, H, rfl, I.kept (t' := s.toks) hk,
    turn_pairs (ζ := ζ × ζ2) (nz := fun z => min (nz z.1) (nz2 z.2)) (T := fun z h => T z.1 h ∧ T2 z.2 h) (fun z A hh => WalksT.zipD2 (zip_sep2 hex hex2) (S.draws z.1 A.in1 _ hh (nin 0)) (S2.draws z.2 A.in1 _ hh (nin2 1))) (by simp) (fun b hb => ?_)
      (fun z i h st hT => ⟨st.1, st.2.1, st.2.2.1, ⟨st.2.2.2.1, hT.1⟩, ⟨st.2.2.2.2, hT.2⟩⟩) (fun z i h st => ⟨st.1, st.2.1, st.2.2.1, st.2.2.2.1.1, st.2.2.2.2.1⟩) (fun X' pins σ H s hP hw hK I hg => ?_) (fun i h st b hb => ?_) (fun i h h' st k => ⟨k _ (by simp) _ st.1, k _ (by simp) _ st.2.1, ?_, S.keep _ i _ _ st.2.2.2.1 fun o e => k _ (by simp) o e, S2.keep _ i _ _ st.2.2.2.2 fun o e => k _ (by simp) o e⟩) (fun A i s Q E st h => wpAny_pyIter_zip st.1 h), ⟨hz, hTI, ⟨_, _, hTO⟩, st0 _ _ ho, st02 _ _ ho2⟩, fun b hb => ?_, q⟩
  · simp only [List.mem_cons, List.not_mem_nil, or_false] at hb ⊢
    rcases hb with e | e | e | e
    · exact .inl e
    · exact .inr (.inr (.inl e))
    · exact .inr (.inr (.inr (.inl e)))
    · exact .inr (.inr (.inr (.inr e)))
  · obtain ⟨z, z2, hz, hT, hT2, hv⟩ := src pins X' σ H s hP hw hK I hg
    refine ⟨(z, z2), hz, ⟨hT, hT2⟩, fun i vals hp => ?_⟩
    obtain ⟨u, u2, hu, hu2, rfl⟩ := hp
    obtain ⟨x, x2, rx, rx2, hy⟩ := hv i u u2 hu hu2
    exact ⟨[x, x2], .cons rx (.cons rx2 .nil), by show 2 ≤ sizeLine; decide, hy⟩
  · obtain ⟨a1, a2, ⟨b1, b2, a3⟩, a4, a5⟩ := st
    simp only [List.mem_cons, List.not_mem_nil, or_false] at hb
    rcases hb with e | e | e | e | e
    · rw [e]; exact ⟨_, a1, fun v q => nomatch q⟩
    · rw [e]; exact ⟨_, a2, fun v q => nomatch q⟩
    · rw [e]; exact ⟨_, a3, fun v q => nomatch q⟩
    · rw [e]; exact S.obj _ _ _ a4
    · rw [e]; exact S2.obj _ _ _ a5
  · obtain ⟨b1, b2, a3⟩ := st.2.2.1
    exact ⟨b1, b2, k _ (by simp) _ a3⟩
  · have hle : s.heap.objs.size ≤ b := by
      simp only [List.mem_cons, List.not_mem_nil, or_false] at hb
      rcases hb with z | z | z | z | z
      · rw [z]; exact Nat.le_add_right _ _
      · rw [z]; exact Nat.le_add_right _ _
      · rw [z]; exact Nat.le_add_right _ _
      · rw [z]; exact Nat.le_refl _
      · rw [z]; exact Nat.le_add_right _ _
    exact I.fpOk hle (I.hok.fresh hle)
end

/-! ### what a for walks -/
def SrcOk (K : PySem.W.Frag) (H : Hp) (src : List (D × V)) : Prop := ∀ p ∈ src, ∃ f, Dv K H p.1 p.2 f
/-- the iterator gives ds, while the sources stand -/
def Wk (K : PySem.W.Frag) (J : It) (ds : List D) (src : List (D × V)) : Prop := ∀ H, SrcOk K H src → (∀ i, i < ds.length → J.go i H) ∧ J.stop ds.length H ∧ ∀ i x H', i < ds.length → J.yld i H x H' → ∃ d, ds[i]? = some d ∧ Fresh K H H' d x
abbrev FI := En → R (List D)
def rdI (K : PySem.W.Frag) (c : Ct) (Ew : Xn → En → Prop) (f : FI) : TI := fun σ H R => ∃ ρ P, Rp K c σ H ρ P ∧ (f ρ).sat (fun ds ρ' => ∀ J H' src, Rp K c σ H' ρ' (src ++ P) → Wk K J ds src → R J H') Ew
abbrev DI (X : Cx) (c : Ct) (Ew : Xn → En → Prop) (tg e : Expr) (f : FI) : Prop := PI X tg e (rdI X.K c Ew f)
theorem _root_.L2.PI.dimp {X : Cx} {tg e : Expr} {t u : TI} (h : PI X tg e t) (q : ∀ σ H Q, u σ H Q → t σ H Q) : PI X tg e u := ⟨fun pins s σ H R I x => h.run pins s σ H R I (q σ H R x)⟩
def keyD : Key → D
  | .inl i => .int i
  | .inr s => .str s
/-- the items of frozen data -/
def items (d : D) : Option (List D) := match d with
  | .lst m xs => if D.isF (.lst m xs) = true then some xs else none
  | .tup xs => if D.isFL xs = true then some xs else none
  | .str z => some (z.cps.toList.map fun k => .str ⟨#[k]⟩)
  | .dic m ks vs => if D.isF (.dic m ks vs) = true then some (ks.map keyD) else none
  | _ => none
def fIter (f : FE) : FI := fun ρ => (f ρ).bind fun d ρ' => R.of (items d) ρ'
section
variable {X : Cx} {c : Ct} {Ew : Xn → En → Prop} {e a b tg : Expr} {pos : Pos}
theorem wk_list {K : PySem.W.Frag} {a : Addr} {ds : List D} (hf : D.isFL ds = true) : Wk K (Itl K a) ds [(.lst false ds, .ref a)] := by
  intro H ok
  obtain ⟨f, x⟩ := ok _ (List.mem_singleton.mpr rfl)
  obtain ⟨a', xs, g, e, h, l⟩ := x.lstR
  cases e
  have hl := l.length
  refine ⟨fun i hi => ⟨xs, xs[i]'(by omega), h, by simp⟩, ⟨xs, h, by omega⟩, fun i y H' hi yl => ?_⟩
  obtain ⟨e1, e2⟩ := yl
  subst e1
  have e3 := e2 xs h
  obtain ⟨v, f, e4, dv, _⟩ := (l.f0 hf).at (i := i) (d := ds[i]) (by simp [hi])
  rw [e3] at e4; cases e4
  exact ⟨ds[i], by simp [hi], .same (dv.f0 (by rw [D.isFL_eq, List.all_eq_true] at hf; exact hf _ (List.getElem_mem hi)))⟩
theorem wk_tup {K : PySem.W.Frag} {a : Addr} {ds : List D} (hf : D.isFL ds = true) : Wk K (Itt K a) ds [(.tup ds, .ref a)] := by
  intro H ok
  obtain ⟨f, x⟩ := ok _ (List.mem_singleton.mpr rfl)
  obtain ⟨a', xs, e, h, l⟩ := x.tupR
  cases e
  have hl := l.length
  refine ⟨fun i hi => ⟨xs, xs[i]'(by omega), h, by simp⟩, ⟨xs, h, by omega⟩, fun i y H' hi yl => ?_⟩
  obtain ⟨e1, e2⟩ := yl
  subst e1
  have e3 := e2 xs h
  obtain ⟨v, f, e4, dv, _⟩ := (l.f0 hf).at (i := i) (d := ds[i]) (by simp [hi])
  rw [e3] at e4; cases e4
  exact ⟨ds[i], by simp [hi], .same (dv.f0 (by rw [D.isFL_eq, List.all_eq_true] at hf; exact hf _ (List.getElem_mem hi)))⟩
theorem wk_str {K : PySem.W.Frag} {z : Str} {src : List (D × V)} : Wk K (Its z) (z.cps.toList.map fun k => .str ⟨#[k]⟩) src := by
  intro H ok
  have hl : (z.cps.toList.map fun k => D.str ⟨#[k]⟩).length = z.cps.size := by simp
  rw [hl]
  refine ⟨fun i hi => hi, Nat.le_refl _, fun i y H' hi yl => ?_⟩
  obtain ⟨e1, k, e2, e3⟩ := yl
  subst e1 e3
  exact ⟨.str ⟨#[k]⟩, by simp [e2], fresh_str⟩
theorem wk_keys {K : PySem.W.Frag} {d : Addr} {o : Obj} {kvv : List (Key × V)} {ks : List Key} {src : List (D × V)} (hk : kvv.map (·.1) = ks) (hs : ∀ H, SrcOk K H src → H d = some (.frz o (.dK kvv))) : Wk K (Itk d o kvv) (ks.map keyD) src := by
  intro H ok
  have h := hs H ok
  have hl : (ks.map keyD).length = kvv.length := by rw [← hk]; simp
  rw [hl]
  refine ⟨fun i hi => ⟨h, hi⟩, ⟨h, Nat.le_refl _⟩, fun i y H' hi yl => ?_⟩
  obtain ⟨e1, k, v, e2, e3⟩ := yl
  subst e1 e3
  have e4 : ks[i]? = some k := by rw [← hk]; simp [e2]
  refine ⟨keyD k, by simp [e4], ?_⟩
  cases k with
  | inl i => exact fresh_int
  | inr s => exact fresh_str
/-- a list, a tuple, a text, a dict's keys: whichever it is -/
theorem di_val {f : FE} (h : DE X c Ew e f) : DI X c Ew tg e (fIter f) := by
  refine ⟨fun pins s σ H RR I ⟨ρ, P, rp, q⟩ => ?_⟩
  have wh : ∀ (t : TI) (hp : PI X tg e t), t σ H RR → wpAny (model X.prog X.w) X.A (eval e X.env) (fun v s1 => wpAny (model X.prog X.w) X.A (pyIter v) (PIE X pins σ tg RR) X.xe s1) X.xe s := fun t hp ht => hp.run pins s σ H RR I ht
  unfold fIter at q
  rw [R.sat_bind] at q
  cases ef : f ρ with
  | stk => rw [ef] at q; exact q.elim
  | exc x ρ' =>
    rw [ef] at q
    exact wh _ (pi_list h) ⟨ρ, P, rp, by rw [ef]; exact q⟩
  | ok d ρ' =>
    rw [ef] at q
    obtain ⟨ds, ei, q2⟩ := R.of_sat (show (R.of (items d) ρ').sat _ _ from q)
    clear q
    cases d with
    | lst m xs =>
      obtain ⟨hf, rfl⟩ := ite_some ei
      have hf2 : (!m && D.isFL xs) = true := hf
      simp at hf2
      obtain ⟨rfl, hf3⟩ := hf2
      refine wh _ (pi_list h) ⟨ρ, P, rp, ?_⟩
      rw [ef]
      intro v H' r'
      obtain ⟨f, x⟩ := r'.head
      obtain ⟨a, ys, g, rfl, h1, l⟩ := x.lstR
      exact ⟨a, rfl, ⟨ys, h1⟩, q2 _ H' [(.lst false xs, .ref a)] r' (wk_list hf3)⟩
    | tup xs =>
      obtain ⟨hf, rfl⟩ := ite_some ei
      refine wh _ (pi_tup h) ⟨ρ, P, rp, ?_⟩
      rw [ef]
      intro v H' r'
      obtain ⟨f, x⟩ := r'.head
      obtain ⟨a, ys, rfl, h1, l⟩ := x.tupR
      exact ⟨a, rfl, ⟨ys, h1⟩, q2 _ H' [(.tup xs, .ref a)] r' (wk_tup hf)⟩
    | str z =>
      cases ei
      refine wh _ (pi_str h) ⟨ρ, P, rp, ?_⟩
      rw [ef]
      intro v H' r'
      obtain ⟨f, x⟩ := r'.head
      exact ⟨z, x.strR, q2 _ H' [] r'.pop wk_str⟩
    | dic m ks vs =>
      obtain ⟨hf, rfl⟩ := ite_some ei
      have hf2 : (!m && D.isFL vs) = true := hf
      simp at hf2
      obtain ⟨rfl, hf3⟩ := hf2
      refine wh _ (pi_keys h) ⟨ρ, P, rp, ?_⟩
      rw [ef]
      intro v H' r'
      obtain ⟨f, x⟩ := r'.head
      cases x with
      | @fdic dd o kvv _ _ h1 h2 l =>
        have r2 : Rp X.K c σ H' ρ' ((.fact (fun H => H dd = some (.frz o (.dK kvv))), .ref dd) :: P) := r'.pop.push0 (.fact _ h1 fun H2 k => k _ _ _ h1)
        refine ⟨dd, o, rfl, .inl ⟨kvv, h1, q2 _ H' [(.fact (fun H => H dd = some (.frz o (.dK kvv))), .ref dd)] r2 (wk_keys h2 fun H2 ok => ?_)⟩⟩
        obtain ⟨f, x⟩ := ok _ (List.mem_singleton.mpr rfl)
        cases x with
        | fact _ h st => exact h
    | _ => cases ei
end
end DL

namespace DL
open PySem PySem.Spec PyProof.Rows L2

/-! ### a source by its data -/
theorem RelV.strE {z : Str} {u : Value} (r : RelV (.str z) u) : ∃ t, u = .str z t := r
/-- what a frozen sequence is as a source -/
theorem source_of {P : Program} {w : World} {K : PySem.W.Frag} {H : Hp} {d : D} {v : V} {u : Value} {f : List Addr} {ds : List D} (x : Dv K H d v f) (ru : RelV v u) (hi : items d = some ds) (hd : ∀ m ks vs, d ≠ .dic m ks vs) :
    ∃ (ex : List Addr) (St : Addr → Nat → Heap → Prop) (ζ : Type) (T : ζ → Heap → Prop) (nz : ζ → Nat) (Pd : ζ → Nat → Value → Prop), Src P w u ex St T nz Pd ∧
      ∀ (pins : List (Addr × Obj)) (X : Cx) (σ : L2.St) (H : Hp) (s : Shared), X.prog = P → X.w = w → X.K = K → Inv X pins σ H s → (∃ f, Dv K H d v f) → ∃ z, nz z = ds.length ∧ T z s.heap ∧ ∀ (i : Nat) (u' : Value), Pd z i u' → ∃ (x : V), RelV x u' ∧ ∃ (d' : D), ds[i]? = some d' ∧ Dv K H d' x [] := by
  have seq : ∀ {ds : List D} {xs : List V} {its : List Value} {g : List Addr} {H : Hp}, D.isFL ds = true → DvL K H ds xs g → Vals xs its → its.toArray.size = ds.length ∧ ∀ (i : Nat) (u' : Value), its.toArray[i]? = some u' → ∃ (x : V), RelV x u' ∧ ∃ (d' : D), ds[i]? = some d' ∧ Dv K H d' x [] := by
    intro ds xs its g H hf l r
    have l1 := l.length
    have l2 := r.length
    refine ⟨by simp; omega, fun i u' e => ?_⟩
    have e' : its[i]? = some u' := by simpa using e
    have hi : i < its.length := (List.getElem?_eq_some_iff.mp e').1
    obtain ⟨y, hy, ry⟩ := r.get (i := i) (x := xs[i]'(by omega)) (by simp)
    rw [e'] at hy; cases hy
    obtain ⟨v', f', e4, dv, _⟩ := (l.f0 hf).at (i := i) (d := ds[i]'(by omega)) (by simp)
    have e5 : xs[i]? = some (xs[i]'(by omega)) := by simp
    rw [e5] at e4; cases e4
    exact ⟨_, ry, ds[i]'(by omega), by simp, dv.f0 (by rw [D.isFL_eq, List.all_eq_true] at hf; exact hf _ (List.getElem_mem _))⟩
  cases d with
  | lst m xs =>
    obtain ⟨hf, rfl⟩ := ite_some hi
    have hf2 : (!m && D.isFL xs) = true := hf
    simp at hf2
    obtain ⟨a, ys, g, rfl, h1, l⟩ := x.lstR
    cases ru
    refine ⟨_, _, _, _, _, _, src_list a, fun pins X σ H s hP hw hK I ⟨f, x⟩ => ?_⟩
    obtain ⟨a', ys, g, e, h1, l⟩ := x.lstR
    cases e
    rw [← hK] at h1
    obtain ⟨its, r, p, hz⟩ := I.list h1
    obtain ⟨q1, q2⟩ := seq hf2.2 l r
    exact ⟨its.toArray, q1, p.isList, q2⟩
  | tup xs =>
    obtain ⟨hf, rfl⟩ := ite_some hi
    obtain ⟨a, ys, rfl, h1, l⟩ := x.tupR
    cases ru
    refine ⟨_, _, _, _, _, _, src_tuple a, fun pins X σ H s hP hw hK I ⟨f, x⟩ => ?_⟩
    obtain ⟨a', ys, e, h1, l⟩ := x.tupR
    cases e
    rw [← hK] at h1
    obtain ⟨its, r, p, hz⟩ := I.tuple h1
    obtain ⟨q1, q2⟩ := seq hf l r
    exact ⟨its.toArray, q1, p, q2⟩
  | str z =>
    cases hi
    have e := x.strR
    subst e
    obtain ⟨t, rfl⟩ := RelV.strE ru
    refine ⟨_, _, _, _, _, _, src_text z t, fun pins X σ H s hP hw hK I ⟨f, x⟩ => ⟨(), by simp, trivial, fun i u' ⟨k, t', e1, e2⟩ => ?_⟩⟩
    subst e2
    exact ⟨.str ⟨#[k]⟩, ⟨t', rfl⟩, .str ⟨#[k]⟩, by simp [e1], .str _⟩
  | dic m ks vs => exact absurd rfl (hd m ks vs)
  | _ => cases hi
def D.isDic : D → Bool
  | .dic _ _ _ => true
  | _ => false
/-- the items of a sequence, no dict -/
def itemsQ (d : D) : Option (List D) := if d.isDic = false then items d else none
theorem itemsQ_some {d : D} {ds : List D} (h : itemsQ d = some ds) : items d = some ds ∧ ∀ m ks vs, d ≠ .dic m ks vs := by
  unfold itemsQ at h
  split at h
  · rename_i e
    exact ⟨h, fun m ks vs z => by subst z; cases e⟩
  · cases h
theorem items_isF {d : D} {ds : List D} (h : items d = some ds) : d.isF = true := by
  cases d with
  | lst m xs => exact (ite_some h).1
  | tup xs => exact (ite_some h).1
  | dic m ks vs => exact (ite_some h).1
  | str z => rfl
  | _ => cases h
theorem wk_pairs {K : PySem.W.Frag} {ds : List D} {src : List (D × V)} {G : Hp → Prop} {Y : Nat → Hp → List V → Prop} (hG : ∀ H, SrcOk K H src → G H) (hY : ∀ i H ys, Y i H ys → ∃ es, ds[i]? = some (.tup es) ∧ DvL K H es ys []) : Wk K (ItP ds.length G Y) ds src := by
  intro H ok
  refine ⟨fun i hi => ⟨hi, hG H ok⟩, ⟨rfl, hG H ok⟩, fun i x H' hi yl => ?_⟩
  obtain ⟨T, xs, rfl, hT, rfl, hy⟩ := yl
  obtain ⟨es, e1, l⟩ := hY i H xs hy
  exact ⟨_, e1, fresh_tup l hT⟩
def enumFrom : Nat → List D → List D
  | _, [] => []
  | k, x :: xs => .tup [.int (k : Nat), x] :: enumFrom (k + 1) xs
theorem enumFrom_length : ∀ (xs : List D) (k : Nat), (enumFrom k xs).length = xs.length
  | [], _ => rfl
  | _ :: xs, k => congrArg (· + 1) (enumFrom_length xs (k + 1))
theorem enumFrom_get : ∀ (xs : List D) (k i : Nat) (d : D), xs[i]? = some d → (enumFrom k xs)[i]? = some (.tup [.int ((k + i : Nat) : Int), d])
  | [], _, _, _, h => by simp at h
  | x :: xs, k, 0, d, h => by simp at h; subst h; rfl
  | x :: xs, k, i + 1, d, h => by
    have := enumFrom_get xs (k + 1) i d (by simpa using h)
    show (enumFrom (k + 1) xs)[i]? = _
    rw [this]
    have e : k + 1 + i = k + (i + 1) := by omega
    rw [e]
def fEnum (f : FE) : FI := fun ρ => (f ρ).bind fun d ρ' => R.of ((itemsQ d).map (enumFrom 0)) ρ'
def fZip (f g : FE) : FI := fun ρ => (f ρ).bind fun d ρ1 => (g ρ1).bind fun e ρ2 => match itemsQ d, itemsQ e with
  | some xs, some ys => .ok (List.zipWith (fun x y => D.tup [x, y]) xs ys) ρ2
  | _, _ => .stk
section
variable {X : Cx} {c : Ct} {Ew : Xn → En → Prop} {e a b tg : Expr} {pos tpos p : Pos} {elts : List Expr} {kk : Nat}
theorem di_enum {f : FE} (hm : X.mg "enumerate" = none) (h : DE X c Ew e f) (hg : Gl X "enumerate" := by rfl) (hs : starEach [e] X.env = [(false, eval e X.env)] := by rfl) : DI X c Ew (.Tuple elts kk tpos) (.Call (.Name "enumerate" p) [e] [] pos) (fEnum f) := by
  refine ⟨fun pins s σ H RR I ⟨ρ, P, rp, q⟩ => ?_⟩
  unfold fEnum at q
  rw [R.sat_bind] at q
  refine Call_ (ld_blt I hg hm boot_enumerate (PyProof.Rows.callWith_type1 (thn ((pa_cons h pa_nil hs).run pos pins s σ H (fun vs H1 => ∃ v d ρ', vs = [v] ∧ Rp X.K c σ H1 ρ' ((d, v) :: P) ∧ (R.of ((itemsQ d).map (enumFrom 0)) ρ').sat (fun ds ρ' => ∀ J H' src, Rp X.K c σ H' ρ' (src ++ P) → Wk X.K J ds src → RR J H') Ew) I
    ⟨ρ, P, rp, q.imp fun d ρ' q v H1 r => ⟨v, d, ρ', rfl, r, q⟩⟩) fun us s1 ⟨vs, H1, I1, r1, q1⟩ => ?_) hs rfl))
  obtain ⟨v, d, ρ', rfl, r, q1⟩ := q1
  obtain ⟨ds, e1, q2⟩ := R.of_sat q1
  obtain ⟨xs, e2, e3⟩ := Option.map_eq_some_iff.mp e1
  subst e3
  obtain ⟨e4, nd⟩ := itemsQ_some e2
  cases r1 with
  | cons ru rr =>
    cases rr
    obtain ⟨f0, x0⟩ := r.head
    obtain ⟨ex, St, ζ, T, nz, Pd, S, src⟩ := source_of (P := X.prog) (w := X.w) x0 ru e4 nd
    have hl := enumFrom_length xs 0
    refine enum_come (G := fun H => ∃ f, Dv X.K H d v f) (Y := fun i H ys => ∃ x d', ys = [.int (i : Nat), x] ∧ xs[i]? = some d' ∧ Dv X.K H d' x []) (n := (enumFrom 0 xs).length) S I1 ⟨f0, x0⟩ (fun pins X' σ H s hP hw hK I g => ?_) (q2 _ H1 [(d, v)] r (wk_pairs (fun H ok => ok _ (List.mem_singleton.mpr rfl)) fun i H ys hy => ?_))
    · obtain ⟨z, h1, h2, h3⟩ := src pins X' σ H s hP hw hK I g
      refine ⟨z, by rw [h1, hl], h2, fun i u hu => ?_⟩
      obtain ⟨x, rx, d', h4, h5⟩ := h3 i u hu
      exact ⟨x, rx, x, d', rfl, h4, h5⟩
    · obtain ⟨x, d', rfl, h4, h5⟩ := hy
      have h6 := enumFrom_get xs 0 i d' h4
      rw [Nat.zero_add] at h6
      exact ⟨_, h6, .cons (f1 := []) (f2 := []) (.int _) (.cons (f1 := []) (f2 := []) h5 .nil)⟩
theorem di_zip {f g : FE} (hm : X.mg "zip" = none) (h : DE X c Ew a f) (h' : DE X c Ew b g) (hg : Gl X "zip" := by rfl) (hs : starEach [a, b] X.env = (false, eval a X.env) :: starEach [b] X.env := by rfl) (hs2 : starEach [b] X.env = (false, eval b X.env) :: starEach [] X.env := by rfl) (hpl : (backTo pos (starEach [b] X.env)).any (·.1) = false := by rfl) :
    DI X c Ew (.Tuple elts kk tpos) (.Call (.Name "zip" p) [a, b] [] pos) (fZip f g) := by
  refine ⟨fun pins s σ H RR I ⟨ρ, P, rp, q⟩ => ?_⟩
  unfold fZip at q
  rw [R.sat_bind] at q
  refine Call_ (ld_blt I hg hm PyProof.Rows.boot_zip (PyProof.Rows.callWith_type1 (thn ((pa_cons h (pa_cons h' pa_nil hs2) hs).run pos pins s σ H (fun vs H1 => ∃ v d v2 d2 ρ', vs = [v, v2] ∧ Rp X.K c σ H1 ρ' ((d2, v2) :: (d, v) :: P) ∧ (match itemsQ d, itemsQ d2 with
      | some xs, some ys => R.ok (List.zipWith (fun x y => D.tup [x, y]) xs ys) ρ'
      | _, _ => .stk).sat (fun ds ρ' => ∀ J H' src, Rp X.K c σ H' ρ' (src ++ P) → Wk X.K J ds src → RR J H') Ew) I
    ⟨ρ, P, rp, q.imp fun d ρ1 q v H1 r => ⟨ρ1, (d, v) :: P, r, (by rw [R.sat_bind] at q; exact q.imp fun d2 ρ2 q v2 H2 r2 => ⟨v, d, v2, d2, ρ2, rfl, r2, q⟩)⟩⟩) fun us s1 ⟨vs, H1, I1, r1, q1⟩ => ?_) hs hpl))
  obtain ⟨v, d, v2, d2, ρ', rfl, r, q1⟩ := q1
  cases e2 : itemsQ d with
  | none => rw [e2] at q1; exact q1.elim
  | some xs =>
    cases e3 : itemsQ d2 with
    | none => rw [e2, e3] at q1; exact q1.elim
    | some ys =>
      rw [e2, e3] at q1
      obtain ⟨e4, nd⟩ := itemsQ_some e2
      obtain ⟨e5, nd2⟩ := itemsQ_some e3
      cases r1 with
      | cons ru rr =>
        cases rr with
        | cons ru2 rr =>
          cases rr
          obtain ⟨f2, x2⟩ := r.head
          obtain ⟨f0, x0⟩ := r.pop.head
          obtain ⟨ex, St, ζ, T, nz, Pd, S, src⟩ := source_of (P := X.prog) (w := X.w) x0 ru e4 nd
          obtain ⟨ex2, St2, ζ2, T2, nz2, Pd2, S2, src2⟩ := source_of (P := X.prog) (w := X.w) x2 ru2 e5 nd2
          have hl : (List.zipWith (fun x y => D.tup [x, y]) xs ys).length = min xs.length ys.length := List.length_zipWith
          refine zip_come (G := fun H => (∃ f, Dv X.K H d v f) ∧ ∃ f, Dv X.K H d2 v2 f) (Y := fun i H zs => ∃ x y d' e', zs = [x, y] ∧ xs[i]? = some d' ∧ Dv X.K H d' x [] ∧ ys[i]? = some e' ∧ Dv X.K H e' y []) (n := (List.zipWith (fun x y => D.tup [x, y]) xs ys).length) S S2 I1 ⟨⟨f0, x0⟩, ⟨f2, x2⟩⟩
            (fun pins X' σ H s hP hw hK I g => ?_) (q1 _ H1 [(d2, v2), (d, v)] r (wk_pairs (fun H ok => ⟨ok (d, v) (by simp), ok (d2, v2) (by simp)⟩) fun i H zs hy => ?_))
          · obtain ⟨z, h1, h2, h3⟩ := src pins X' σ H s hP hw hK I g.1
            obtain ⟨z2, k1, k2, k3⟩ := src2 pins X' σ H s hP hw hK I g.2
            refine ⟨z, z2, by rw [h1, k1, hl], h2, k2, fun i u u2 hu hu2 => ?_⟩
            obtain ⟨x, rx, d', h4, h5⟩ := h3 i u hu
            obtain ⟨y, ry, e', k4, k5⟩ := k3 i u2 hu2
            exact ⟨x, y, rx, ry, x, y, d', e', rfl, h4, h5, k4, k5⟩
          · obtain ⟨x, y, d', e', rfl, h4, h5, k4, k5⟩ := hy
            refine ⟨[d', e'], ?_, .cons (f1 := []) (f2 := []) h5 (.cons (f1 := []) (f2 := []) k5 .nil)⟩
            rw [List.getElem?_zipWith, h4, k4]
/-! ### ranges -/
def rangeL (lo : Int) (n : Nat) : List D := (List.range n).map fun k => .int (lo + (k : Nat))
def big62 (i : Int) : Prop := -(2 ^ 62) ≤ i ∧ i < 2 ^ 62
instance : DecidablePred big62 := fun i => inferInstanceAs (Decidable (-(2 ^ 62) ≤ i ∧ i < 2 ^ 62))
theorem wk_range {K : PySem.W.Frag} {lo : Int} {n : Nat} : Wk K (Itr lo n) (rangeL lo n) [] := by
  intro H ok
  have hl : (rangeL lo n).length = n := by simp [rangeL]
  rw [hl]
  refine ⟨fun i hi => hi, Nat.le_refl _, fun i x H' hi yl => ?_⟩
  obtain ⟨rfl, rfl⟩ := yl
  exact ⟨.int (lo + (i : Nat)), by simp [rangeL, hi], fresh_int⟩
def fRange1 (f : FO) : FI := fun ρ => (f ρ).bind fun a ρ1 => match res a ρ1 with
  | some (.int j) => if big62 j then .ok (rangeL 0 j.toNat) ρ1 else .stk
  | _ => .stk
theorem di_range1 {f : FO} (hm : X.mg "range" = none) (h : DO X c Ew a f) (hg : Gl X "range" := by rfl) (hs : starEach [a] X.env = [(false, eval a X.env)] := by rfl) : DI X c Ew tg (.Call (.Name "range" p) [a] [] pos) (fRange1 f) := (pi_range1 hg hm (pa_cons h pa_nil hs) hs).dimp fun σ H RR ⟨ρ, P, rp, q⟩ => by
  unfold fRange1 at q
  rw [R.sat_bind] at q
  refine ⟨ρ, P, rp, q.imp fun x ρ1 q v H1 Pn r1 oka => ?_⟩
  split at q
  · rename_i j ej
    split at q
    · rename_i hb
      obtain ⟨f, dv⟩ := oka.dv r1 ej
      have e := dv.intR
      subst e
      exact ⟨j, rfl, hb.1, hb.2, q _ H1 [] r1.pops wk_range⟩
    · exact q.elim
  · exact q.elim
def fRange2 (f g : FO) : FI := fun ρ => (f ρ).bind fun a ρ1 => (g ρ1).bind fun b ρ2 => match res a ρ2, res b ρ2 with
  | some (.int i), some (.int j) => if big62 i ∧ big62 j then .ok (rangeL i (j - i).toNat) ρ2 else .stk
  | _, _ => .stk
theorem di_range2 {f g : FO} (hm : X.mg "range" = none) (h : DO X c Ew a f) (h' : DO X c Ew b g) (hg : Gl X "range" := by rfl) (hs : starEach [a, b] X.env = [(false, eval a X.env), (false, eval b X.env)] := by rfl) (hs2 : starEach [b] X.env = [(false, eval b X.env)] := by rfl) : DI X c Ew tg (.Call (.Name "range" p) [a, b] [] pos) (fRange2 f g) := (pi_range2 hg hm (pa_cons h (pa_cons h' pa_nil hs2) (hs.trans (by rw [hs2]))) hs hs2).dimp fun σ H RR ⟨ρ, P, rp, q⟩ => by
  unfold fRange2 at q
  rw [R.sat_bind] at q
  refine ⟨ρ, P, rp, q.imp fun x ρ1 q v H1 Pn r1 oka => ⟨ρ1, Pn ++ P, r1, ?_⟩⟩
  rw [R.sat_bind] at q
  refine q.imp fun y ρ2 q u H2 Pm r2 okb => ?_
  split at q
  · rename_i i j ei ej
    split at q
    · rename_i hb
      obtain ⟨f, dv⟩ := (oka.up Pm).dv r2 ei
      obtain ⟨f2, dv2⟩ := okb.dv r2 ej
      have e := dv.intR
      have e2 := dv2.intR
      subst e e2
      exact ⟨i, j, rfl, ⟨hb.1.1, hb.1.2, hb.2.1, hb.2.2⟩, q _ H2 [] r2.pops.pops wk_range⟩
    · exact q.elim
  · exact q.elim
def rangeLC (lo cc : Int) (n : Nat) : List D := (List.range n).map fun k => .int (lo + (k : Nat) * cc)
theorem wk_rangeC {K : PySem.W.Frag} {lo cc : Int} {n : Nat} : Wk K (Itc lo cc n) (rangeLC lo cc n) [] := by
  intro H ok
  have hl : (rangeLC lo cc n).length = n := by simp [rangeLC]
  rw [hl]
  refine ⟨fun i hi => hi, Nat.le_refl _, fun i x H' hi yl => ?_⟩
  obtain ⟨rfl, rfl⟩ := yl
  exact ⟨.int (lo + (i : Nat) * cc), by simp [rangeLC, hi], fresh_int⟩
/-- range(i, j, -1) -/
def fRange3 (f g k : FO) : FI := fun ρ => (f ρ).bind fun a ρ1 => (g ρ1).bind fun b ρ2 => (k ρ2).bind fun d ρ3 => match res a ρ3, res b ρ3, res d ρ3 with
  | some (.int i), some (.int j), some (.int cc) => if big62 i ∧ big62 j ∧ cc = -1 then .ok (rangeLC i (-1) (i - j).toNat) ρ3 else .stk
  | _, _, _ => .stk
theorem di_range3 {f g k : FO} {d : Expr} (hm : X.mg "range" = none) (h : DO X c Ew a f) (h' : DO X c Ew b g) (h'' : DO X c Ew d k) (hpi : ∀ {t : TA}, PA X [a, b, d] t → PI X tg (.Call (.Name "range" p) [a, b, d] [] pos) (iRng3 t)) (hs : starEach [a, b, d] X.env = (false, eval a X.env) :: starEach [b, d] X.env := by rfl) (hs2 : starEach [b, d] X.env = (false, eval b X.env) :: starEach [d] X.env := by rfl) (hs3 : starEach [d] X.env = (false, eval d X.env) :: starEach [] X.env := by rfl) :
    DI X c Ew tg (.Call (.Name "range" p) [a, b, d] [] pos) (fRange3 f g k) := (hpi (pa_cons h (pa_cons h' (pa_cons h'' pa_nil hs3) hs2) hs)).dimp fun σ H RR ⟨ρ, P, rp, q⟩ => by
  unfold fRange3 at q
  rw [R.sat_bind] at q
  refine ⟨ρ, P, rp, q.imp fun x ρ1 q v H1 Pn r1 oka => ⟨ρ1, Pn ++ P, r1, ?_⟩⟩
  rw [R.sat_bind] at q
  refine q.imp fun y ρ2 q u H2 Pm r2 okb => ⟨ρ2, Pm ++ (Pn ++ P), r2, ?_⟩
  rw [R.sat_bind] at q
  refine q.imp fun z ρ3 q w H3 Pk r3 okd => ?_
  split at q
  · rename_i i j cc ei ej ec
    split at q
    · rename_i hb
      obtain ⟨f, dv⟩ := ((oka.up Pm).up Pk).dv r3 ei
      obtain ⟨f2, dv2⟩ := (okb.up Pk).dv r3 ej
      obtain ⟨f3, dv3⟩ := okd.dv r3 ec
      have e := dv.intR
      have e2 := dv2.intR
      have e3 := dv3.intR
      subst e e2 e3
      obtain ⟨h1, h2, rfl⟩ := hb
      exact ⟨i, j, -1, _, rfl, RgC.neg h1.1 h1.2 h2.1 h2.2, q _ H3 [] r3.pops.pops.pops wk_rangeC⟩
    · exact q.elim
  · exact q.elim

/-! ### for, while -/
def forF (g : FG) (body : FS) : List D → FS
  | [], ρ => .nx ρ
  | d :: ds, ρ => match g d ρ with
    | none => .stk
    | some ρ1 => match body ρ1 with
      | .nx ρ2 => forF g body ds ρ2
      | .ct ρ2 => forF g body ds ρ2
      | .bk ρ2 => .nx ρ2
      | r => r
def fFor (fi : FI) (g : FG) (body : FS) : FS := fun ρ => (fi ρ).bindS fun ds ρ' => forF g body ds ρ'
theorem Rp.under {K : PySem.W.Frag} {σ : L2.St} {H : Hp} {ρ : En} {P src : List (D × V)} {x : D × V} (r : Rp K c σ H ρ (x :: (src ++ P))) : Rp K c σ H ρ (x :: P) := by
  have : Rp K c σ H ρ (src ++ (x :: P)) := r.perm (by
    have := perm3 [x] src P
    simpa using this)
  exact this.pops
theorem ds_for {iter : Expr} {body : List Stmt} {fi : FI} {g : FG} {fb : FS} (hp : PassesOwn (model X.prog X.w) X.A X.env X.xe) (hc : X.calm = true) (hi : DI X c Ew tg iter fi) (hg : DG X c tg g) (hb : DSs X c Ew body fb)
    (hs : ∀ x, foldedSetIterable iter X.env x = pure x := by intro _; rfl) : DS X c Ew (.For tg iter body [] pos) (fFor fi g fb) := (ps_for hp hc hi hg hb hs).dimp fun Z σ H ⟨ρ, P, r, q⟩ => by
  refine ⟨ρ, P, r, (R.satS q).imp fun ds ρ' q J H1 src r1 wk => ?_⟩
  refine ⟨fun i m σ H => m = ds.length - i ∧ i ≤ ds.length ∧ ∃ ρ, Rp X.K c σ H ρ (src ++ P) ∧ SR.sat X.K c Ew P Z (forF g fb (ds.drop i) ρ), ⟨_, rfl, Nat.zero_le _, ρ', r1, q⟩, ?_⟩
  rintro i m σ H ⟨rfl, hi, ρ, r, q⟩
  have ok : SrcOk X.K H src := fun p hp => Rp.mem (List.mem_append_left _ hp) r
  obtain ⟨w1, w2, w3⟩ := wk H ok
  by_cases hlt : i < ds.length
  · refine .inr ⟨w1 i hlt, fun σ' H' => ∃ ρ, Rp X.K c σ' H' ρ (src ++ P) ∧ SR.sat X.K c Ew P Z (forF g fb (ds.drop (i + 1)) ρ), fun σ' H' ⟨ρ2, r2, q2⟩ => ⟨ds.length - (i + 1), by omega, rfl, hlt, ρ2, r2, q2⟩, fun x H' yl => ?_⟩
    obtain ⟨d, e1, fr⟩ := w3 i x H' hlt yl
    have e2 : ds.drop i = d :: ds.drop (i + 1) := by
      rw [List.drop_eq_getElem_cons hlt]
      rw [List.getElem?_eq_getElem hlt] at e1
      cases e1; rfl
    rw [e2] at q
    unfold forF at q
    cases eg : g d ρ with
    | none => rw [eg] at q; exact q.elim
    | some ρ1 =>
      rw [eg] at q
      have q : SR.sat X.K c Ew P Z (match fb ρ1 with
        | .nx ρ2 => forF g fb (ds.drop (i + 1)) ρ2
        | .ct ρ2 => forF g fb (ds.drop (i + 1)) ρ2
        | .bk ρ2 => .nx ρ2
        | r => r) := q
      refine ⟨d, ρ, src ++ P, Rp.fresh r fr, ρ1, eg, fun σ2 H2 r2 => ⟨ρ1, src ++ P, r2, ?_⟩⟩
      cases eb : fb ρ1 with
      | nx ρ2 => rw [eb] at q; exact fun σ3 H3 r3 => ⟨ρ2, r3, q⟩
      | ct ρ2 => rw [eb] at q; exact fun σ3 H3 r3 => ⟨ρ2, r3, q⟩
      | bk ρ2 => rw [eb] at q; exact fun σ3 H3 r3 => q σ3 H3 r3.pops
      | rt d' ρ2 => rw [eb] at q; exact fun v σ3 H3 r3 => q v σ3 H3 r3.under
      | exc x ρ2 => rw [eb] at q; exact q
      | stk => rw [eb] at q; exact q
  · have e : i = ds.length := by omega
    subst e
    rw [List.drop_length] at q
    exact .inl ⟨w2, q σ H r.pops⟩
def whileF (t : FB) (body : FS) : Nat → FS
  | 0, _ => .stk
  | n + 1, ρ => (t ρ).bindS fun b ρ1 => if b then match body ρ1 with
      | .nx ρ2 => whileF t body n ρ2
      | .ct ρ2 => whileF t body n ρ2
      | .bk ρ2 => .nx ρ2
      | r => r
    else .nx ρ1
theorem ds_while {t : Expr} {body : List Stmt} {ft : FB} {fb : FS} (n : Nat) (hp : PassesOwn (model X.prog X.w) X.A X.env X.xe) (ht : DT X c Ew t ft) (hb : DSs X c Ew body fb) : DS X c Ew (.While t body [] pos) (whileF ft fb n) := (ps_while hp ht hb).dimp fun Z σ H ⟨ρ, P, r, q⟩ => by
  refine ⟨fun m σ H => ∃ ρ, Rp X.K c σ H ρ P ∧ SR.sat X.K c Ew P Z (whileF ft fb m ρ), ⟨n, ρ, r, q⟩, ?_⟩
  rintro m σ H ⟨ρ, r, q⟩
  cases m with
  | zero => exact q.elim
  | succ m =>
    unfold whileF at q
    refine ⟨ρ, P, r, (R.satS q).imp fun b ρ1 q H1 r1 => ?_⟩
    cases b with
    | false => exact q σ H1 r1
    | true =>
      refine ⟨fun σ' H' => ∃ ρ, Rp X.K c σ' H' ρ P ∧ SR.sat X.K c Ew P Z (whileF ft fb m ρ), fun σ' H' h => ⟨m, Nat.lt_succ_self m, h⟩, ρ1, P, r1, ?_⟩
      have q : SR.sat X.K c Ew P Z (match fb ρ1 with
        | .nx ρ2 => whileF ft fb m ρ2
        | .ct ρ2 => whileF ft fb m ρ2
        | .bk ρ2 => .nx ρ2
        | r => r) := q
      cases eb : fb ρ1 with
      | nx ρ2 => rw [eb] at q; exact fun σ3 H3 r3 => ⟨ρ2, r3, q⟩
      | ct ρ2 => rw [eb] at q; exact fun σ3 H3 r3 => ⟨ρ2, r3, q⟩
      | bk ρ2 => rw [eb] at q; exact fun σ3 H3 r3 => q σ3 H3 r3
      | rt d' ρ2 => rw [eb] at q; exact fun v σ3 H3 r3 => q v σ3 H3 r3
      | exc x ρ2 => rw [eb] at q; exact q
      | stk => rw [eb] at q; exact q
end
end DL

namespace DL
open PySem PySem.Spec PyProof.Rows L2

/-! ### comprehensions -/
def R.nox {α : Type} (r : R α) : R α := match r with
  | .exc _ _ => .stk
  | r => r
theorem R.nox_sat {α : Type} {r : R α} {ok : α → En → Prop} {ex ex' : Xn → En → Prop} (h : r.nox.sat ok ex) : r.sat ok ex' := by
  cases r with
  | ok a ρ => exact h
  | exc x ρ => exact h.elim
  | stk => exact h.elim
@[simp] theorem R.nox_ok {α : Type} (a : α) (ρ : En) : (R.ok a ρ).nox = .ok a ρ := rfl
def wipeD (ρ : En) : List Nat → En
  | [] => ρ
  | v :: vs => (wipeD ρ vs).set v none
def restD (ρ : En) : List Nat → En → En
  | [], ρ2 => ρ2
  | v :: vs, ρ2 => restD ρ vs (ρ2.set v (slot (wipeD ρ vs) v))
/-- the slots that are not vs -/
def zOf (n : Nat) (vs : List Nat) : List Nat := (List.range n).filter fun j => !vs.contains j
theorem wipe_get {σ : L2.St} {j : Nat} : ∀ {vs : List Nat}, (wipe σ vs)[j]? = if j ∈ vs then (if j < σ.length then some none else none) else σ[j]?
  | [] => by simp [wipe]
  | v :: vs => by
    unfold wipe
    by_cases e : v = j
    · subst e
      by_cases hj : v < σ.length
      · rw [List.getElem?_set_self (by rw [wipe_length]; exact hj)]; simp [hj]
      · rw [List.getElem?_eq_none (by rw [List.length_set, wipe_length]; omega)]; simp [hj]
    · rw [List.getElem?_set_ne e, wipe_get]
      have : (j ∈ v :: vs) ↔ (j ∈ vs) := by simp [Ne.symm e]
      by_cases h : j ∈ vs
      · rw [if_pos h, if_pos (this.mpr h)]
      · rw [if_neg h, if_neg (fun q => h (this.mp q))]
/-- the block's frame -/
def Ct.blk (c : Ct) (n : Nat) (vs : List Nat) (σ : L2.St) : Ct := ⟨c.Hk, zOf n vs, wipe σ vs⟩
theorem blk_back {c : Ct} {n : Nat} {vs : List Nat} {σ σ2 : L2.St} (hn : σ.length = n) (h : (c.blk n vs σ).zs σ2) : wipe σ2 vs = wipe σ vs := by
  obtain ⟨h1, h2⟩ := h
  have h1 : σ2.length = (wipe σ vs).length := h1
  rw [wipe_length] at h1
  apply List.ext_getElem?
  intro j
  rw [wipe_get, wipe_get, h1]
  by_cases hj : j ∈ vs
  · rw [if_pos hj, if_pos hj]
  · rw [if_neg hj, if_neg hj]
    by_cases hl : j < n
    · have := h2 j (by
        show j ∈ zOf n vs
        unfold zOf
        simp [hl, hj])
      have this : σ2[j]? = (wipe σ vs)[j]? := this
      rw [this, wipe_get, if_neg hj]
    · rw [List.getElem?_eq_none (by omega), List.getElem?_eq_none (by omega)]
section
variable {K : PySem.W.Frag} {c : Ct} {H H' : Hp} {σ : L2.St} {ρ : En} {P : List (D × V)} {d : D} {v : V} {i : Nat}
theorem Rp.recast {c' : Ct} (r : Rp K c σ H ρ P) (e : c'.Hk = c.Hk) (z : c'.zs σ) : Rp K c' σ H ρ P := by
  obtain ⟨fs, fp, h1, h2, h3, h4, hz⟩ := r
  exact ⟨fs, fp, h1, h2, by rw [e]; exact h3, by rw [e]; exact h4, z⟩
theorem Rp.zs (r : Rp K c σ H ρ P) : c.zs σ := by
  obtain ⟨fs, fp, h1, h2, h3, h4, hz⟩ := r
  exact hz
theorem Rp.wipe1 {Hk : Hp} {σ0 : L2.St} (v : Nat) (r : Rp K ⟨Hk, [], σ0⟩ σ H ρ P) : ∃ Ps, Rp K ⟨Hk, [], σ0⟩ (σ.set v none) H (ρ.set v none) (Ps ++ P) ∧
    ∀ ρ2 H2 P', Rp K ⟨Hk, [], σ0⟩ (σ.set v none) H2 ρ2 (Ps ++ P') → Rp K ⟨Hk, [], σ0⟩ σ H2 (ρ2.set v (DL.slot ρ v)) P' := by
  by_cases hv : v < σ.length
  · cases es : DL.slot ρ v with
    | none =>
      refine ⟨[], r.drop v none (by simp), fun ρ2 H2 P' r2 => ?_⟩
      have := r2.drop v σ[v] (by simp)
      rw [List.set_set, List.set_getElem_self hv] at this
      exact this
    | some d =>
      obtain ⟨x, e1, r1⟩ := r.take (slot_some es)
      have r2 := r1.drop v none (by simp)
      rw [List.set_set] at r2
      refine ⟨[(d, x)], r2, fun ρ2 H2 P' r2 => ?_⟩
      have r3 := r2.drop v σ[v] (by simp)
      rw [List.set_set, List.set_getElem_self hv] at r3
      have r4 := Rp.put (i := v) r3 e1
      rw [List.set_set] at r4
      exact r4
  · have e : ∀ o, σ.set v o = σ := fun o => List.set_eq_of_length_le (by omega)
    have e2 : ρ.set v none = ρ := List.set_eq_of_length_le (by have := r.len; omega)
    refine ⟨[], by rw [e, e2]; exact r, fun ρ2 H2 P' r2 => ?_⟩
    rw [e] at r2
    have r2 : Rp K ⟨Hk, [], σ0⟩ σ H2 ρ2 P' := r2
    have e3 : ρ2.set v (DL.slot ρ v) = ρ2 := List.set_eq_of_length_le (by have := r2.len; omega)
    rw [e3]; exact r2
theorem Rp.wipes {Hk : Hp} {σ0 : L2.St} : ∀ (vs : List Nat) {P : List (D × V)}, Rp K ⟨Hk, [], σ0⟩ σ H ρ P → ∃ Ps, Rp K ⟨Hk, [], σ0⟩ (wipe σ vs) H (wipeD ρ vs) (Ps ++ P) ∧
    ∀ ρ2 H2 P', Rp K ⟨Hk, [], σ0⟩ (wipe σ vs) H2 ρ2 (Ps ++ P') → Rp K ⟨Hk, [], σ0⟩ σ H2 (restD ρ vs ρ2) P'
  | [], P, r => ⟨[], r, fun _ _ _ r => r⟩
  | v :: vs, P, r => by
    obtain ⟨Ps, r1, back⟩ := Rp.wipes vs r
    obtain ⟨Pv, r2, back1⟩ := Rp.wipe1 v r1
    refine ⟨Pv ++ Ps, by rw [List.append_assoc]; exact r2, fun ρ2 H2 P' r3 => ?_⟩
    rw [List.append_assoc] at r3
    exact back _ _ _ (back1 _ _ _ r3)
theorem Rp.block (n : Nat) (vs : List Nat) (r : Rp K c σ H ρ P) : ∃ Ps, Rp K (c.blk n vs σ) (wipe σ vs) H (wipeD ρ vs) (Ps ++ P) ∧
    ∀ ρ2 H2 P', Rp K (c.blk n vs σ) (wipe σ vs) H2 ρ2 (Ps ++ P') → Rp K c σ H2 (restD ρ vs ρ2) P' := by
  have z0 : ∀ τ : L2.St, τ.length = σ.length → (⟨c.Hk, [], σ⟩ : Ct).zs τ := fun τ e => ⟨e, fun j hj => nomatch hj⟩
  obtain ⟨Ps, r1, back⟩ := Rp.wipes (σ0 := σ) vs (r.recast (c' := ⟨c.Hk, [], σ⟩) rfl (z0 _ rfl))
  refine ⟨Ps, r1.recast rfl ⟨rfl, fun _ _ => rfl⟩, fun ρ2 H2 P' r2 => ?_⟩
  exact (back ρ2 H2 P' (r2.recast rfl (z0 _ (wipe_length σ vs)))).recast rfl r.zs
theorem DvL.uncons {ds : List D} {vs : List V} {f : List Addr} (h : DvL K H (d :: ds) (v :: vs) f) : ∃ f1 f2, f = f1 ++ f2 ∧ Dv K H d v f1 ∧ DvL K H ds vs f2 := by
  cases h with
  | cons x l => exact ⟨_, _, rfl, x, l⟩
theorem DvL.unnil {f : List Addr} (h : DvL K H [] [] f) : f = [] := by cases h; rfl
theorem Dv.own {ds : List D} {f : List Addr} (h : Dv K H (.lst true ds) v f) : ∃ a xs g, v = .ref a ∧ f = a :: g ∧ H a = some (.lst xs) ∧ DvL K H ds xs g := by
  cases h with
  | olst h l => exact ⟨_, _, _, rfl, rfl, h, l⟩
theorem Dv.ownD {ks : List Key} {ds : List D} {f : List Addr} (h : Dv K H (.dic true ks ds) v f) : ∃ a kvv g, v = .ref a ∧ f = a :: g ∧ H a = some (.dK kvv) ∧ kvv.map (·.1) = ks ∧ DvL K H ds (kvv.map (·.2)) g := by
  cases h with
  | odic h e l => exact ⟨_, _, _, rfl, rfl, h, e, l⟩
/-- the top of P is worked on: what it owns may change, and what it comes to owns that or what is new -/
theorem Rp.step2 (Po : List (D × V)) (r : Rp K c σ H ρ (Po ++ P)) : ∃ fp, DvL K H (Po.map (·.1)) (Po.map (·.2)) fp ∧ fp.Nodup ∧ ∀ (H' : Hp) (Pn : List (D × V)) (fp' : List Addr),
    (∀ a o, a ∉ fp → H a = some o → H' a = some o) → DvL K H' (Pn.map (·.1)) (Pn.map (·.2)) fp' → fp'.Nodup → (∀ a ∈ fp', a ∈ fp ∨ H a = none) → Rp K c σ H' ρ (Pn ++ P) := by
  obtain ⟨fs, fp, h1, h2, h3, h4, hz⟩ := r
  obtain ⟨f1, f2, rfl, a, b⟩ := split_pend h2
  have s2 : Sep c.Hk (f1 ++ (fs ++ f2)) := h3.perm (perm3 _ _ _)
  refine ⟨f1, a, s2.left.1, fun H' Pn fp' w2 c1 nd w3 => ?_⟩
  have hW : ∀ a ∈ f1, Mut (H a) := a.mut
  have kn : ∀ x, H x = none → c.Hk x = none := fun x e => by
    cases e1 : c.Hk x with
    | none => rfl
    | some u => rw [h4 x u e1] at e; cases e
  refine ⟨fs, fp' ++ f2, h1.keep w2 hW fun x z z' => s2.apart z' (List.mem_append_left _ z), ?_, ?_, fun x o e => w2 x o (fun z => ?_) (h4 x o e), hz⟩
  · rw [List.map_append, List.map_append]
    exact c1.append (b.keep w2 hW fun x z z' => s2.apart z' (List.mem_append_right _ z))
  · have s3 : Sep c.Hk (fp' ++ (fs ++ f2)) := by
      refine ⟨List.nodup_append.mpr ⟨nd, s2.right.1, fun x zx y zy e => ?_⟩, fun x z => ?_⟩
      · subst e
        rcases w3 x zx with q | q
        · exact s2.apart q zy
        · rcases List.mem_append.mp zy with z | z
          · have := h1.mut x z; rw [q] at this; exact this
          · have := b.mut x z; rw [q] at this; exact this
      · rcases List.mem_append.mp z with z | z
        · rcases w3 x z with q | q
          · exact s2.2 x (List.mem_append_left _ q)
          · exact kn x q
        · exact s2.right.2 x z
    exact s3.perm (perm3 _ _ _)
  · have := s2.2 x (List.mem_append_left _ z)
    rw [this] at e; cases e
theorem Rp.step {Pn : List (D × V)} (Po : List (D × V)) (r : Rp K c σ H ρ (Po ++ P))
    (h : ∀ fp, DvL K H (Po.map (·.1)) (Po.map (·.2)) fp → fp.Nodup → (∀ a o, a ∉ fp → H a = some o → H' a = some o) ∧ ∃ fp', DvL K H' (Pn.map (·.1)) (Pn.map (·.2)) fp' ∧ fp'.Nodup ∧ ∀ a ∈ fp', a ∈ fp ∨ H a = none) : Rp K c σ H' ρ (Pn ++ P) := by
  obtain ⟨fp, h1, h2, k⟩ := r.step2 Po
  obtain ⟨w, fp', h3, h4, h5⟩ := h fp h1 h2
  exact k H' Pn fp' w h3 h4 h5
theorem Rp.wipe0 {Hk : Hp} {σ0 : L2.St} : ∀ (vs : List Nat), Rp K ⟨Hk, [], σ0⟩ σ H ρ P → Rp K ⟨Hk, [], σ0⟩ (wipe σ vs) H (wipeD ρ vs) P
  | [], r => r
  | v :: vs, r => (Rp.wipe0 vs r).drop v none (by simp)
theorem Rp.wiped {n : Nat} {vs : List Nat} {σ2 : L2.St} (r : Rp K (c.blk n vs σ) σ2 H ρ P) (e : wipe σ2 vs = wipe σ vs) : Rp K (c.blk n vs σ) (wipe σ vs) H (wipeD ρ vs) P := by
  have r1 := Rp.wipe0 vs (r.recast (c' := ⟨c.Hk, [], σ2⟩) rfl ⟨rfl, fun j hj => nomatch hj⟩)
  rw [e] at r1
  exact r1.recast rfl ⟨rfl, fun _ _ => rfl⟩
/-- an item is appended to the list at the top -/
theorem Rp.app1 {acc : List D} {a : Addr} {y : V} (r : Rp K c σ H ρ ((d, y) :: (.lst true acc, .ref a) :: P)) : ∃ xs, H a = some (.lst xs) ∧ xs.length = acc.length ∧ Rp K c σ (upd H a (.lst (xs ++ [y]))) ρ ((.lst true (acc ++ [d]), .ref a) :: P) := by
  obtain ⟨f0, x0⟩ := r.pop.head
  cases x0 with
  | @olst _ xs _ fp0 h1 l0 =>
    refine ⟨xs, h1, l0.length.symm, Rp.step (Pn := [(.lst true (acc ++ [d]), .ref a)]) [(d, y), (.lst true acc, .ref a)] r fun fp lp nd => ?_⟩
    have lp : DvL K H [d, .lst true acc] [y, .ref a] fp := lp
    obtain ⟨f1, f2, rfl, x1, lp⟩ := lp.uncons
    obtain ⟨f3, f4, rfl, x2, lp⟩ := lp.uncons
    have e4 := lp.unnil
    subst e4
    obtain ⟨a', xs', fp3, e, rfl, h2, l⟩ := x2.own
    cases e
    rw [h1] at h2
    cases h2
    have nd' := nd
    rw [List.append_nil] at nd
    obtain ⟨n1, n2, n3⟩ := List.nodup_append.mp nd
    have n4 := List.nodup_cons.mp n2
    have hk : ∀ b o, b ∉ [a] → H b = some o → upd H a (.lst (xs ++ [y])) b = some o := fun b o hb e => by
      rw [upd_ne (by simpa using hb)]; exact e
    have hW : ∀ b ∈ [a], Mut (H b) := fun b hb => by
      rw [List.mem_singleton.mp hb, h1]; trivial
    refine ⟨fun b o hb e => hk b o (fun z => hb (by rw [List.mem_singleton.mp z]; simp)) e, a :: (fp3 ++ (f1 ++ [])), ?_, ?_, ?_⟩
    · have l2 : DvL K (upd H a (.lst (xs ++ [y]))) (acc ++ [d]) (xs ++ [y]) (fp3 ++ (f1 ++ [])) := (l.keep hk hW fun b z z' => n4.1 (by rw [List.mem_singleton.mp z'] at z; exact z)).append (.cons (f2 := []) (x1.keep hk hW fun b z z' => n3 b z a (by simp) (List.mem_singleton.mp z')) .nil)
      have l3 : DvL K (upd H a (.lst (xs ++ [y]))) [.lst true (acc ++ [d])] [.ref a] ((a :: (fp3 ++ (f1 ++ []))) ++ []) := .cons (.olst (by simp [upd]) l2) .nil
      rw [List.append_nil] at l3
      exact l3
    · rw [List.append_nil]
      refine List.nodup_cons.mpr ⟨fun z => ?_, List.nodup_append.mpr ⟨n4.2, n1, fun b hb b' hb' e => n3 b' hb' b (List.mem_cons_of_mem _ hb) e.symm⟩⟩
      rcases List.mem_append.mp z with z | z
      · exact n4.1 z
      · exact n3 a z a (by simp) rfl
    · intro b hb
      simp at hb ⊢
      rcases hb with h | h | h
      · exact .inl (.inr (.inl h))
      · exact .inl (.inr (.inr h))
      · exact .inl (.inl h)
end
/-- the items made by a list comprehension -/
def lcF (vs : List Nat) (g : FG) (ft : FB) (fe : FE) : List D → Nat → En → R (List D)
  | [], _, ρ => .ok [] ρ
  | d :: ds, n, ρ => match g d ρ with
    | none => .stk
    | some ρ1 => (ft ρ1).bind fun b ρ2 => if b then (fe ρ2).bind fun y ρ3 => if n < sizeLine then (lcF vs g ft fe ds (n + 1) (wipeD ρ3 vs)).bind fun ys ρ4 => .ok (y :: ys) ρ4 else .stk
      else lcF vs g ft fe ds n (wipeD ρ2 vs)
def fLc (vs : List Nat) (fi : FI) (g : FG) (ft : FB) (fe : FE) : FE := fun ρ => (fi ρ).bind fun ds ρ1 => (lcF vs g ft fe ds 0 (wipeD ρ1 vs)).nox.bind fun ys ρ2 => .ok (.lst true ys) (restD ρ1 vs ρ2)
def NoX : Xn → En → Prop := fun _ _ => False
theorem rd_lc {K : PySem.W.Frag} {c : Ct} {Ew : Xn → En → Prop} {vs : List Nat} {fi : FI} {g : FG} {ft : FB} {fe : FE} {σ : L2.St} {H : Hp} {Q : VK} {n : Nat} (hn : σ.length = n) (h : rdE K c Ew (fLc vs fi g ft fe) σ H Q) :
    tLc (rdI K c Ew fi) (rdG K (c.blk n vs σ) g) (rdT K (c.blk n vs σ) NoX ft) (rdE K (c.blk n vs σ) NoX fe) vs σ H Q := by
  obtain ⟨ρ, P, rp, q⟩ := h
  unfold fLc at q
  rw [R.sat_bind] at q
  refine ⟨ρ, P, rp, q.imp fun ds ρ1 q J H1 src r1 wk A hA => ?_⟩
  rw [R.sat_bind] at q
  have q := R.nox_sat (ex' := NoX) q
  have r2 : Rp K c σ (upd H1 A (.lst [])) ρ1 ((.lst true [], .ref A) :: (src ++ P)) := Rp.fresh r1 ⟨upd_ext hA, [A], .olst (by simp [upd]) .nil, by simp, fun a z => by rw [List.mem_singleton.mp z]; exact hA⟩
  obtain ⟨Ps, r3, back⟩ := r2.block n vs
  refine ⟨fun i m H => m = ds.length - i ∧ i ≤ ds.length ∧ ∃ acc ρ, Rp K (c.blk n vs σ) (wipe σ vs) H ρ (Ps ++ ((.lst true acc, .ref A) :: (src ++ P))) ∧
      (lcF vs g ft fe (ds.drop i) acc.length ρ).sat (fun ys ρ2 => ∀ v H', Rp K c σ H' (restD ρ1 vs ρ2) ((.lst true (acc ++ ys), v) :: P) → Q v H') NoX, ⟨_, rfl, Nat.zero_le _, [], _, r3, q⟩, ?_⟩
  rintro i m H ⟨rfl, hi, acc, ρ, r, q⟩
  have ok : SrcOk K H src := fun p hp => Rp.mem (List.mem_append_right _ (List.mem_cons_of_mem _ (List.mem_append_left _ hp))) r
  obtain ⟨w1, w2, w3⟩ := wk H ok
  by_cases hlt : i < ds.length
  · refine .inr ⟨w1 i hlt, fun H' => ∃ acc ρ, Rp K (c.blk n vs σ) (wipe σ vs) H' ρ (Ps ++ ((.lst true acc, .ref A) :: (src ++ P))) ∧
      (lcF vs g ft fe (ds.drop (i + 1)) acc.length ρ).sat (fun ys ρ2 => ∀ v H', Rp K c σ H' (restD ρ1 vs ρ2) ((.lst true (acc ++ ys), v) :: P) → Q v H') NoX, fun H' h' => ⟨ds.length - (i + 1), by omega, rfl, hlt, h'⟩, fun x H' yl => ?_⟩
    obtain ⟨d, e1, fr⟩ := w3 i x H' hlt yl
    have e2 : ds.drop i = d :: ds.drop (i + 1) := by
      rw [List.drop_eq_getElem_cons hlt]
      rw [List.getElem?_eq_getElem hlt] at e1
      cases e1; rfl
    rw [e2] at q
    unfold lcF at q
    cases eg : g d ρ with
    | none => rw [eg] at q; exact q.elim
    | some ρ1' =>
      rw [eg] at q
      refine ⟨d, ρ, _, Rp.fresh r fr, ρ1', eg, fun σ2 H2 r2 => ?_⟩
      have ew := blk_back hn r2.zs
      refine ⟨ew, ρ1', _, r2, ?_⟩
      have q : ((ft ρ1').bind fun b ρ2 => if b then (fe ρ2).bind fun y ρ3 => if acc.length < sizeLine then (lcF vs g ft fe (ds.drop (i + 1)) (acc.length + 1) (wipeD ρ3 vs)).bind fun ys ρ4 => .ok (y :: ys) ρ4 else .stk
        else lcF vs g ft fe (ds.drop (i + 1)) acc.length (wipeD ρ2 vs)).sat _ NoX := q
      rw [R.sat_bind] at q
      refine q.imp fun b ρ2 q H3 r3 => ?_
      cases b with
      | false =>
        simp only [Bool.false_eq_true, if_false] at q ⊢
        exact ⟨acc, _, r3.wiped ew, q⟩
      | true =>
        simp only [if_true] at q ⊢
        rw [R.sat_bind] at q
        refine ⟨ρ2, _, r3, q.imp fun y ρ3 q yv H4 r4 => ?_⟩
        split at q
        · rename_i hz
          have r5 : Rp K (c.blk n vs σ) σ2 H4 ρ3 ((y, yv) :: (.lst true acc, .ref A) :: (Ps ++ (src ++ P))) := r4.perm (.cons _ List.perm_middle)
          obtain ⟨xs, h1, h2, r6⟩ := r5.app1
          refine ⟨xs, h1, by omega, acc ++ [y], _, (r6.perm List.perm_middle.symm).wiped ew, ?_⟩
          rw [R.sat_bind] at q
          rw [List.length_append]
          refine q.imp fun ys ρ4 q v H' r' => q v H' ?_
          simpa using r'
        · exact q.elim
  · have e : i = ds.length := by omega
    subst e
    rw [List.drop_length] at q
    refine .inl ⟨w2, q (.ref A) H ?_⟩
    have r4 := back _ _ _ r
    rw [List.append_nil]
    exact r4.under
section
variable {X : Cx} {c : Ct} {Ew : Xn → En → Prop} {elt tg iter : Expr} {ifs : List Expr} {scope : Scope} {own : List (Str × Nat)} {pos spos : Pos} {fi : FI} {g : FG} {ft : FB} {fe : FE}
abbrev DTs (X : Cx) (c : Ct) (Ew : Xn → En → Prop) (ifs : List Expr) (f : FB) : Prop := PTs X ifs (rdT X.K c Ew f)
def fYes : FB := fun ρ => .ok true ρ
theorem _root_.L2.PTs.dimp {X : Cx} {e : List Expr} {t u : TT} (h : PTs X e t) (q : ∀ σ H Q, u σ H Q → t σ H Q) : PTs X e u := ⟨fun pins s σ H Q I x => h.run pins s σ H Q I (q σ H Q x)⟩
theorem dts_nil : DTs X c Ew [] fYes := pts_nil.dimp fun σ H Q ⟨ρ, P, r, q⟩ => q H r
theorem dts_one {e : Expr} {f : FB} (h : DT X c Ew e f) : DTs X c Ew [e] f := pts_one h
/-- [e for target in iter if ..] as a value; the block's slots are own; in the block nothing may raise -/
theorem de_lc (n : Nat) (hc : X.calm = true) (hN : X.N.Nodup) (hn : X.N.length = n) (hi : DI X c Ew tg iter fi) (ok : BlkOk X.N X.env.scope scope own)
    (hg : ∀ c' : Ct, c'.Z = zOf n (own.map (·.2)) → ∀ (s : Shared) (H : Hp) (C : Addr) (cl : List (Str × Addr)) (fp : List Addr), DG (X.blk s H scope (compEnvC scope cl C X.env) fp) c' tg g)
    (ht : ∀ c' : Ct, c'.Z = zOf n (own.map (·.2)) → ∀ (s : Shared) (H : Hp) (C : Addr) (cl : List (Str × Addr)) (fp : List Addr), DTs (X.blk s H scope (compEnvC scope cl C X.env) fp) c' NoX ifs ft)
    (he : ∀ c' : Ct, c'.Z = zOf n (own.map (·.2)) → ∀ (s : Shared) (H : Hp) (C : Addr) (cl : List (Str × Addr)) (fp : List Addr), DE (X.blk s H scope (compEnvC scope cl C X.env) fp) c' NoX elt fe)
    (hs : ∀ x, foldedSetIterable iter X.env x = pure x := by intro _; rfl) :
    DE X c Ew (.ListComp elt [⟨tg, iter, ifs, 0⟩] scope pos) (fLc (own.map (·.2)) fi g ft fe) :=
  ⟨fun pins s σ H Q I h => (pe_lc hc hN hi ok (hg (c.blk n (own.map (·.2)) σ) rfl) (ht (c.blk n (own.map (·.2)) σ) rfl) (he (c.blk n (own.map (·.2)) σ) rfl) hs).run pins s σ H Q I (rd_lc (I.len.trans hn) h)⟩
/-- name = [..] on one line -/
theorem ds_setLc (n : Nat) (i : Nat) {y : Str} {py : Pos} (hz : i ∉ c.Z) (hc : X.calm = true) (hN : X.N.Nodup) (hn : X.N.length = n) (hi : DI X c Ew tg iter fi) (ok : BlkOk X.N X.env.scope scope own)
    (hg : ∀ c' : Ct, c'.Z = zOf n (own.map (·.2)) → ∀ (s : Shared) (H : Hp) (C : Addr) (cl : List (Str × Addr)) (fp : List Addr), DG (X.blk s H scope (compEnvC scope cl C X.env) fp) c' tg g)
    (ht : ∀ c' : Ct, c'.Z = zOf n (own.map (·.2)) → ∀ (s : Shared) (H : Hp) (C : Addr) (cl : List (Str × Addr)) (fp : List Addr), DTs (X.blk s H scope (compEnvC scope cl C X.env) fp) c' NoX ifs ft)
    (he : ∀ c' : Ct, c'.Z = zOf n (own.map (·.2)) → ∀ (s : Shared) (H : Hp) (C : Addr) (cl : List (Str × Addr)) (fp : List Addr), DE (X.blk s H scope (compEnvC scope cl C X.env) fp) c' NoX elt fe)
    (hsw : swapsWith (.ListComp elt [⟨tg, iter, ifs, 0⟩] scope pos) (some (.Name y py)) spos.line X.env = pure true)
    (hy : X.N[i]? = some y := by rfl) (hyl : X.env.scope.names.lookup y = some .local := by rfl)
    (hs : ∀ x, foldedSetIterable iter X.env x = pure x := by intro _; rfl) :
    DS X c Ew (.Assign [.Name y py] (.ListComp elt [⟨tg, iter, ifs, 0⟩] scope pos) spos) (fSet i (fLc (own.map (·.2)) fi g ft fe)) :=
  ⟨fun pins s σ H Z I h => (ps_setLc hc hN hy hyl hsw hi ok (hg (c.blk n (own.map (·.2)) σ) rfl) (ht (c.blk n (own.map (·.2)) σ) rfl) (he (c.blk n (own.map (·.2)) σ) rfl) hs).run pins s σ H Z I
    (by
      obtain ⟨ρ, P, r, q⟩ := h
      exact rd_lc (Ew := Ew) (I.len.trans hn) ⟨ρ, P, r, (R.satS q).imp fun d ρ' k v H' r' => k _ H' (r'.store hz)⟩)⟩
end
end DL

namespace DL
open PySem PySem.Spec PyProof.Rows L2

/-! ### defs -/
/-- what a call comes to: the value, and what the taken first argument has become -/
inductive GR where
  | ok (d : D) (m : List D) | exc (x : Xn) (m : List D) | stk
def GR.sat (r : GR) (ok : D → List D → Prop) : Prop := match r with
  | .ok d m => ok d m
  | _ => False
structure FnG (P : Program) (w : World) (K : PySem.W.Frag) (mg : Str → Option Value) (base : Heap) (k : Nat) (f : Addr) (fd : FuncData) (ps : List Str) (G : List D → GR) : Prop where
  len : ∀ ds, (G ds).sat (fun _ _ => True) → ds.length = ps.length
  run : ∀ (A : Around) (outer : List Env) (s : Shared) (H : Hp) (args : Args) (us : List Value) (vs : List V) (Q : VK) (ds : List D) (fp : List Addr), A.guards = some [] → Room k A → Env0 P w K mg base A outer s H → BindsTo s fd args (ps.zip us) → Vals vs us →
    DvL K H ds vs fp → fp.Nodup → (G ds).sat (fun d m => ∀ v H' fp', (∀ a o, a ∉ fp → H a = some o → H' a = some o) → DvL K H' (d :: m) (v :: vs.take m.length) fp' → fp'.Nodup → (∀ a ∈ fp', a ∈ fp ∨ H a = none) → Q v H') →
    codeAny (model P w) A (.call (.ref f) args) (CR CX0 outer P w H s Q fun _ _ _ => False) s
def endG (mi : Bool) (d : D) (ρ : En) : GR := if mi then (match slot ρ 0 with
  | some d0 => .ok d [d0]
  | none => .stk) else .ok d []
/-- a def by what its body does -/
def GF (np nN : Nat) (mi : Bool) (fb : FS) : List D → GR := fun ds => if ds.length = np then (match fb (ds.map some ++ List.replicate (nN - np) none) with
  | .rt d ρ => endG mi d ρ
  | .nx ρ => endG mi .non ρ
  | _ => .stk) else .stk
theorem dvs_start {K : PySem.W.Frag} {H : Hp} : ∀ {ds : List D} {vs : List V} {fp : List Addr} (n : Nat), DvL K H ds vs fp → DvS K H (ds.map some ++ List.replicate n none) (vs.map some ++ List.replicate n none) fp
  | _, _, _, 0, .nil => .nil
  | _, _, _, n + 1, .nil => by
    have := dvs_start (K := K) (H := H) n .nil
    exact .skip this
  | _, _, _, n, .cons x l => .cons x (dvs_start n l)
section
variable {P : Program} {w : World} {K : PySem.W.Frag} {mg : Str → Option Value} {base : Heap}
theorem fnG_of {x qual : Str} {st : Stmt} {f : Addr} {fd : FuncData} {N ps : List Str} {k : Nat} (F : L2.Fun K x qual st f fd) (S : FnScope N ps (defScope st)) (mi : Bool) (fb : FS)
    (hb : ∀ (cdv : Value) (A : Around) (outer : List Env) (s : Shared) (H : Hp) (E : XK) (c : Ct), (A.deeper (envOfC qual (defScope st) s.heap.objs.size f cdv)).guards = some [] → Room k (A.deeper (envOfC qual (defScope st) s.heap.objs.size f cdv)) → c.Z = (if mi then [0] else []) →
      DSs (cxOf CX0 P w K mg base N qual (defScope st) f cdv A outer s H E).nox c NoX (defBody st) fb) :
    FnG P w K mg base (k + 1) f fd ps (GF ps.length N.length mi fb) := by
  refine ⟨fun ds h => ?_, fun A outer s H args us vs Q ds fp hgu hr e0 hbi rv dl nd q => ?_⟩
  · unfold GF at h
    split at h
    · assumption
    · exact h.elim
  obtain ⟨oc, od, kV, doc, pm, an, cdv, ct, osl, rfl, lk, hcd⟩ := F.ex
  unfold GF at q
  split at q
  case isFalse => exact q.elim
  rename_i hds
  have hvl : vs.length = ps.length := by rw [← dl.length]; exact hds
  have KX : K.In s.heap := e0.mod.kin.keeps fun b o e => (e0.bs b o e).1
  have lim : s.heap.NoLimit := e0.mod.nolimit.keeps fun b o e => (e0.bs b o e).1
  have kinds : ∀ z ∈ ps.zip us, (defScope st).names.lookup z.1 = some .local ∨ ((defScope st).names.lookup z.1 = some .cell ∧ ((cellsFrom (s.heap.objs.size + 1) (defScope st).names []).lookup z.1).isSome = true) := fun z hz => by
    rcases S.par z.1 (List.of_mem_zip (a := z.1) (b := z.2) hz).1 with q | q
    · exact .inl q
    · exact .inr ⟨q, PySem.W.cellsFrom_some _ _ _ (.inl q)⟩
  refine codeAny_call_function hr.depth (KX _ _ lk) rfl S.co S.gen rfl (PySem.W.codeRec_of KX hcd) (hbi _ _ _ _ ?_)
  refine wpAny_newFunctionEnv_cells S.kind kinds fun env he s1 xx => ?_
  subst he
  refine ⟨lim.keeps xx.toInCall.keep, codeAny_func ?_⟩
  have I := inv_start (CX := CX0) (E := fun _ _ _ => False) S hr.hd e0 hvl rv xx
  let c : Ct := ⟨fun a => if a ∈ fp then none else H a, if mi then [0] else [], L2.start N vs⟩
  have hkH : ∀ a o, c.Hk a = some o → H a = some o := fun a o e => by
    by_cases ha : a ∈ fp
    · have e : (if a ∈ fp then none else H a) = some o := e
      rw [if_pos ha] at e; cases e
    · have e : (if a ∈ fp then none else H a) = some o := e
      rw [if_neg ha] at e; exact e
  have hkN : ∀ a, c.Hk a = none → a ∈ fp ∨ H a = none := fun a e => by
    by_cases ha : a ∈ fp
    · exact .inl ha
    · have e : (if a ∈ fp then none else H a) = none := e
      rw [if_neg ha] at e; exact .inr e
  have r0 : Rp K c (L2.start N vs) H (ds.map some ++ List.replicate (N.length - ps.length) none) [] := by
    refine ⟨fp, [], ?_, .nil, ⟨by rw [List.append_nil]; exact nd, fun a ha => ?_⟩, hkH, rfl, fun _ _ => rfl⟩
    · unfold L2.start
      rw [hvl]
      exact dvs_start _ dl
    · rw [List.append_nil] at ha
      show (if a ∈ fp then none else H a) = none
      rw [if_pos ha]
  -- the end of the body
  have fin : ∀ {σ' : L2.St} {H' : Hp} {ρ : En} {d : D} {v : V}, (endG mi d ρ).sat (fun d m => ∀ v H' fp', (∀ a o, a ∉ fp → H a = some o → H' a = some o) → DvL K H' (d :: m) (v :: vs.take m.length) fp' → fp'.Nodup → (∀ a ∈ fp', a ∈ fp ∨ H a = none) → Q v H') → Rp K c σ' H' ρ [(d, v)] → Q v H' := fun {σ' H' ρ d v} q r => by
    have kp : ∀ {σ' : L2.St} {ρ : En} {P : List (D × V)}, Rp K c σ' H' ρ P → ∃ fp', DvL K H' (P.map (·.1)) (P.map (·.2)) fp' ∧ fp'.Nodup ∧ (∀ a ∈ fp', a ∈ fp ∨ H a = none) ∧ ∀ a o, a ∉ fp → H a = some o → H' a = some o := fun {σ' ρ P} ⟨fs, fp', h1, h2, h3, h4, h5⟩ =>
      ⟨fp', h2, h3.right.1, fun a ha => hkN a (h3.right.2 a ha), fun a o ha e => h4 a o (by
        show (if a ∈ fp then none else H a) = some o
        rw [if_neg ha]; exact e)⟩
    unfold endG at q
    cases mi with
    | false =>
      obtain ⟨fp', h1, h2, h3, h4⟩ := kp r
      exact q v H' fp' h4 h1 h2 h3
    | true =>
      simp only [if_true] at q
      cases es : slot ρ 0 with
      | none => rw [es] at q; exact q.elim
      | some d0 =>
        rw [es] at q
        obtain ⟨v0, e1, r1⟩ := r.take (slot_some es)
        have z0 := r.zs.2 0 (by simp [c])
        have z1 : (L2.start N vs)[0]? = some (some v0) := by
          have z0 : σ'[0]? = (L2.start N vs)[0]? := z0
          rw [← z0]; exact e1
        have z2 : vs.take 1 = [v0] := by
          unfold L2.start at z1
          cases vs with
          | nil =>
            have z1 : (List.replicate N.length (none : Option V))[0]? = some (some v0) := z1
            rw [List.getElem?_replicate] at z1
            split at z1 <;> cases z1
          | cons y ys => simp at z1; subst z1; rfl
        obtain ⟨fp', h1, h2, h3, h4⟩ := kp r1.swap
        refine q v H' fp' h4 ?_ h2 h3
        show DvL K H' [d, d0] (v :: vs.take 1) fp'
        rw [z2]
        exact h1
  refine wpAny_mono ((hb cdv A outer s H (fun _ _ _ => False) c hgu (hr.deeper _) rfl).nox.run [] s1 (L2.start N vs) H { nx := fun _ H' => Q .non H', rt := Q } I ⟨_, [], r0, ?_⟩) (fun fl s' hs => ?_) fun e s' hs => hs
  · generalize hρ : ds.map some ++ List.replicate (N.length - ps.length) none = ρ0 at q
    cases e : fb ρ0 with
    | nx ρ => rw [e] at q; exact fun σ' H' r => fin (d := .non) (v := .non) q (r.push0 .non)
    | rt d ρ => rw [e] at q; exact fun v σ' H' r => fin q r
    | _ => rw [e] at q; exact q.elim
  · have close : ∀ {σ' : L2.St} {H' : Hp} {v : V} {u : Value}, Inv (cxOf CX0 P w K mg base N qual (defScope st) f cdv A outer s H fun _ _ _ => False) [] σ' H' s' → RelV v u → Q v H' → CE outer P w H s Q u s' :=
      fun {σ' H' v u} J ru q => ⟨v, H', J.os, J.bare, J.base, J.hok, ru, q⟩
    cases fl with
    | ret u =>
      obtain ⟨v, σ', H', J, ru, q⟩ := hs
      exact close J ru q
    | next =>
      obtain ⟨σ', H', J, q⟩ := hs
      exact close (v := V.non) (u := Value.none) J rfl q
    | brk =>
      obtain ⟨_, _, _, q⟩ := hs
      exact q.elim
    | cont =>
      obtain ⟨_, _, _, q⟩ := hs
      exact q.elim
end
/-- frozen arguments -/
def resF (ρ : En) : List Ar → Option (List D)
  | [] => some []
  | a :: as => match res a ρ, resF ρ as with
    | some d, some ds => if d.isF then some (d :: ds) else none
    | _, _ => none
theorem resF_dv {K : PySem.W.Frag} {c : Ct} {H : Hp} {σ : L2.St} {ρ : En} {P P' : List (D × V)} (hP : ∀ x ∈ P', x ∈ P) (r : Rp K c σ H ρ P) : ∀ {as : List Ar} {vs : List V} {ds : List D}, Paired (ArOk σ P') as vs → resF ρ as = some ds → DvL K H ds vs []
  | [], _, _, .nil, e => by cases e; exact .nil
  | a :: as, v :: _, _, .cons x l, e => by
    unfold resF at e
    split at e
    · rename_i d ds e1 e2
      split at e
      · rename_i hf
        cases e
        have x' : ArOk σ P a v := by
          cases a with
          | val d => exact hP _ x
          | loc i => exact x
        obtain ⟨f, x1⟩ := x'.dv r e1
        exact .cons (f1 := []) (f2 := []) (x1.f0 hf) (resF_dv hP r l e2)
      · cases e
    · cases e
/-- a call: the arguments frozen -/
def fCall (G : List D → GR) (fas : FLs) : FE := fun ρ => (fas ρ).bind fun as ρ1 => match resF ρ1 as with
  | some ds => (match G ds with
    | .ok d [] => .ok d ρ1
    | _ => .stk)
  | none => .stk
/-- a call: the first argument is a name whose content is taken, and given back as the call leaves it -/
def fCallM (G : List D → GR) (fas : FLs) : FE := fun ρ => (fas ρ).bind fun as ρ1 => match as with
  | .loc i :: as => (match slot ρ1 i, resF (ρ1.set i none) as with
    | some d0, some ds => (match G (d0 :: ds) with
      | .ok d [d1] => .ok d (ρ1.set i (some d1))
      | _ => .stk)
    | _, _ => .stk)
  | _ => .stk
section
variable {X : Cx} {c : Ct} {Ew : Xn → En → Prop} {e : Expr} {es : List Expr} {pos p : Pos} {k : Nat} {f : Addr} {fd : FuncData} {ps : List Str} {G : List D → GR} {x : Str} {dfl : List Value} {dvs : List V} {dd : List D} {fas : FLs}
/-- the callee runs, from any state -/
theorem run_g {pins : List (Addr × Obj)} {σ : L2.St} {H : Hp} {s : Shared} {Q : VK} {us : List Value} {vs : List V} {ds : List D} {fp : List Addr} (F : FnG X.prog X.w X.K X.mg X.base k f fd ps G) (hgu : X.A.guards = some []) (hr : Room k X.A) (hb : Binds X.K fd ps dfl) (hd : Vals dvs dfl) (hD : ∀ H, DvL X.K H dd dvs [])
    (I : Inv X pins σ H s) (rv : Vals vs us) (dl : DvL X.K H ds vs fp) (nd : fp.Nodup) (q : (G (ds ++ dd)).sat fun d m => ∀ v H' fp', (∀ a o, a ∉ fp → H a = some o → H' a = some o) → DvL X.K H' (d :: m) (v :: (vs ++ dvs).take m.length) fp' → fp'.Nodup → (∀ a ∈ fp', a ∈ fp ∨ H a = none) → Q v H') :
    wpAny (model X.prog X.w) X.A (call (.ref f) us) (EP X pins σ Q) X.xe s := by
  have dl2 : DvL X.K H (ds ++ dd) (vs ++ dvs) (fp ++ []) := dl.append (hD H)
  rw [List.append_nil] at dl2
  have hl : (us ++ dfl).length = ps.length := by
    have h1 := F.len (ds ++ dd) (by
      revert q
      cases G (ds ++ dd) <;> intro q <;> first | trivial | exact q)
    rw [← h1, dl2.length, (rv.append hd).length]
  refine wpAny_call (codeAny_mono (F.run X.A X.stack s H ⟨us, []⟩ (us ++ dfl) (vs ++ dvs) Q (ds ++ dd) fp hgu hr I.env0 (hb s us I.kIn hl) (rv.append hd) dl2 nd q) fun r s' hq => ?_)
  cases r with
  | error e => exact hq.elim
  | ok fl => cases fl with
    | ret u => exact I.after hq
    | _ => exact hq.elim
theorem de_call (F : FnG X.prog X.w X.K X.mg X.base k f fd ps G) (hgu : X.A.guards = some []) (hr : Room k X.A) (hg : Gl X x) (hm : X.mg x = some (.ref f)) (hk : PySem.W.keepIn X.K (.ref f) = true) (hb : Binds X.K fd ps dfl) (hd : Vals dvs dfl) (hD : ∀ H, DvL X.K H dd dvs [])
    (ha : DA X c Ew (e :: es) fas) (hdb : (x == ("__debug__" : Str)) = false := by decide) (he : starEach (e :: es) X.env = (false, eval e X.env) :: starEach es X.env := by rfl) (hpl : (backTo pos (starEach es X.env)).any (·.1) = false := by rfl) :
    DE X c Ew (.Call (.Name x p) (e :: es) [] pos) (fCall (fun ds => G (ds ++ dd)) fas) := by
  refine ⟨fun pins s σ H Q I ⟨ρ, P, rp, q⟩ => ?_⟩
  unfold fCall at q
  rw [R.sat_bind] at q
  refine wpAny_Call_Name_kw (ld_glob I hg hm ?_ hdb)
  refine PySem.W.callWith_K (h₀ := X.base) I.ok.mod.kin hk (thn (ha.run pos pins s σ H (fun vs H1 => ∃ as ρ1 Pn, Rp X.K c σ H1 ρ1 (Pn ++ P) ∧ Paired (ArOk σ (Pn ++ P)) as vs ∧
    R.sat (match resF ρ1 as with
      | some ds => (match G (ds ++ dd) with
        | .ok d [] => .ok d ρ1
        | _ => .stk)
      | none => .stk) (fun d ρ' => ∀ v H', Rp X.K c σ H' ρ' ((d, v) :: P) → Q v H') Ew) I ⟨ρ, P, rp, q.imp fun as ρ1 q vs H1 Pn r1 pa => ⟨as, ρ1, Pn, r1, pa, q⟩⟩) fun us s1 ⟨vs, H1, I1, rv, as, ρ1, Pn, r1, pa, q⟩ => ⟨I1.kIn, ?_⟩) he hpl
  cases e1 : resF ρ1 as with
  | none => rw [e1] at q; exact q.elim
  | some ds =>
    rw [e1] at q
    have dl := resF_dv (fun _ h => h) r1 pa e1
    refine run_g F hgu hr hb hd hD I1 rv dl List.nodup_nil ?_
    have q : R.sat (match G (ds ++ dd) with
        | .ok d [] => .ok d ρ1
        | _ => .stk) (fun d ρ' => ∀ v H', Rp X.K c σ H' ρ' ((d, v) :: P) → Q v H') Ew := q
    cases e2 : G (ds ++ dd) with
    | ok d m =>
      rw [e2] at q
      cases m with
      | nil => exact fun v H' fp' k1 l n1 n2 => q v H' (Rp.step (Pn := [(d, v)]) [] r1.pops fun fp l0 _ => by
          have e0 := DvL.unnil l0
          subst e0
          exact ⟨fun a o _ => k1 a o (by simp), fp', l, n1, n2⟩)
      | cons _ _ => exact q.elim
    | _ => rw [e2] at q; exact q.elim
theorem de_callM (F : FnG X.prog X.w X.K X.mg X.base k f fd ps G) (hgu : X.A.guards = some []) (hr : Room k X.A) (hg : Gl X x) (hm : X.mg x = some (.ref f)) (hk : PySem.W.keepIn X.K (.ref f) = true) (hb : Binds X.K fd ps dfl) (hd : Vals dvs dfl) (hD : ∀ H, DvL X.K H dd dvs [])
    (ha : DA X c Ew (e :: es) fas) (hdb : (x == ("__debug__" : Str)) = false := by decide) (he : starEach (e :: es) X.env = (false, eval e X.env) :: starEach es X.env := by rfl) (hpl : (backTo pos (starEach es X.env)).any (·.1) = false := by rfl) :
    DE X c Ew (.Call (.Name x p) (e :: es) [] pos) (fCallM (fun ds => G (ds ++ dd)) fas) := by
  refine ⟨fun pins s σ H Q I ⟨ρ, P, rp, q⟩ => ?_⟩
  unfold fCallM at q
  rw [R.sat_bind] at q
  refine wpAny_Call_Name_kw (ld_glob I hg hm ?_ hdb)
  refine PySem.W.callWith_K (h₀ := X.base) I.ok.mod.kin hk (thn (ha.run pos pins s σ H (fun vs H1 => ∃ as ρ1 Pn, Rp X.K c σ H1 ρ1 (Pn ++ P) ∧ Paired (ArOk σ (Pn ++ P)) as vs ∧
    R.sat (match as with
      | .loc i :: as => (match slot ρ1 i, resF (ρ1.set i none) as with
        | some d0, some ds => (match G (d0 :: ds ++ dd) with
          | .ok d [d1] => .ok d (ρ1.set i (some d1))
          | _ => .stk)
        | _, _ => .stk)
      | _ => .stk) (fun d ρ' => ∀ v H', Rp X.K c σ H' ρ' ((d, v) :: P) → Q v H') Ew) I ⟨ρ, P, rp, q.imp fun as ρ1 q vs H1 Pn r1 pa => ⟨as, ρ1, Pn, r1, pa, q⟩⟩) fun us s1 ⟨vs, H1, I1, rv, as, ρ1, Pn, r1, pa, q⟩ => ⟨I1.kIn, ?_⟩) he hpl
  cases pa with
  | nil => exact q.elim
  | @cons a v0 as vs a0 pa =>
    cases a with
    | val d => exact q.elim
    | loc i =>
      cases e0 : slot ρ1 i with
      | none =>
        simp only [e0] at q
        exact q.elim
      | some d0 =>
        cases e1 : resF (ρ1.set i none) as with
        | none =>
          simp only [e0, e1] at q
          exact q.elim
        | some ds =>
          simp only [e0, e1] at q
          obtain ⟨v1, e2, r2⟩ := r1.take (slot_some e0)
          have a0 : σ[i]? = some (some v0) := a0
          rw [a0] at e2
          cases e2
          have dl := resF_dv (P' := Pn ++ P) (fun _ h => List.mem_cons_of_mem _ h) r2 pa e1
          obtain ⟨f1, x1, nd1, st⟩ := r2.under.step2 [(d0, v0)]
          have dl2 : DvL X.K H1 (d0 :: ds) (v0 :: vs) f1 := by
            have x1 : DvL X.K H1 [d0] [v0] f1 := x1
            have := x1.append dl
            rw [List.append_nil] at this
            exact this
          refine run_g F hgu hr hb hd hD I1 rv dl2 nd1 ?_
          cases e3 : G (d0 :: ds ++ dd) with
          | ok d m =>
            rw [e3] at q
            cases m with
            | nil => exact q.elim
            | cons d1 m =>
              cases m with
              | nil =>
                refine fun v H' fp' k1 l n1 n2 => q v H' ?_
                have r4 := (st H' [(d, v), (d1, v0)] fp' k1 l n1 n2).swap.put (i := i) a0
                rw [List.set_set] at r4
                exact r4
              | cons _ _ => exact q.elim
          | _ => rw [e3] at q; exact q.elim
end
end DL

namespace DL
open PySem PySem.Spec PyProof.Rows L2

/-! ### owned lists and dicts are changed in place -/
section
variable {K : PySem.W.Frag} {c : Ct} {H H' : Hp} {σ : L2.St} {ρ : En} {P : List (D × V)} {d : D} {v : V} {i : Nat}
theorem DvL.put : ∀ {ds : List D} {vs : List V} {f : List Addr} {j : Nat} {d : D} {v : V} {f1 : List Addr}, DvL K H ds vs f → j < ds.length → Dv K H d v f1 → ∃ f0 f2 f', f.Perm (f0 ++ f2) ∧ DvL K H (ds.set j d) (vs.set j v) f' ∧ f'.Perm (f1 ++ f2)
  | [], _, _, _, _, _, _, _, hj, _ => by simp at hj
  | e :: ds, _, _, 0, d, v, f1, .cons (f1 := g) (f2 := gs) x l, _, y => ⟨g, gs, f1 ++ gs, List.Perm.refl _, .cons y l, List.Perm.refl _⟩
  | e :: ds, _, _, j + 1, d, v, f1, .cons (f1 := g) (f2 := gs) x l, hj, y => by
    obtain ⟨f0, f2, f', p1, h, p2⟩ := l.put (j := j) (by simpa using hj) y
    refine ⟨f0, g ++ f2, g ++ f', ?_, .cons x h, ?_⟩
    · exact (List.Perm.append_left g p1).trans (perm3 g f0 f2)
    · exact (List.Perm.append_left g p2).trans (perm3 g f1 f2)
/-- an item taken out, a mark of its value in its place -/
theorem DvL.hole : ∀ {ds : List D} {vs : List V} {f : List Addr} {j : Nat} {d : D}, DvL K H ds vs f → ds[j]? = some d → ∃ x f1 f2, vs[j]? = some x ∧ Dv K H d x f1 ∧ f.Perm (f1 ++ f2) ∧ DvL K H (ds.set j (.opq x)) vs f2
  | [], _, _, _, _, _, e => by simp at e
  | e :: ds, _, _, 0, d, .cons (v := v) (f1 := g) (f2 := gs) x l, h => by
    simp at h; subst h
    exact ⟨v, g, gs, rfl, x, List.Perm.refl _, .cons (f1 := []) (.opq v) l⟩
  | e :: ds, _, _, j + 1, d, .cons (v := v) (f1 := g) (f2 := gs) x l, h => by
    obtain ⟨y, f1, f2, h1, h2, h3, h4⟩ := l.hole (j := j) (by simpa using h)
    exact ⟨y, f1, g ++ f2, by simpa using h1, h2, (List.Perm.append_left g h3).trans (perm3 g f1 f2), .cons x h4⟩
theorem DvL.fillH : ∀ {ds : List D} {vs : List V} {f : List Addr} {j : Nat} {d : D} {x : V} {f1 : List Addr}, DvL K H ds vs f → ds[j]? = some (.opq x) → Dv K H d x f1 → ∃ f', DvL K H (ds.set j d) vs f' ∧ f'.Perm (f1 ++ f)
  | [], _, _, _, _, _, _, _, e, _ => by simp at e
  | e :: ds, _, _, 0, d, x, f1, .cons (v := v) (f1 := g) (f2 := gs) y l, h, z => by
    simp at h; subst h
    cases y
    exact ⟨f1 ++ gs, .cons z l, List.Perm.refl _⟩
  | e :: ds, _, _, j + 1, d, x, f1, .cons (v := v) (f1 := g) (f2 := gs) y l, h, z => by
    obtain ⟨f', h1, p⟩ := l.fillH (j := j) (by simpa using h) z
    exact ⟨g ++ f', .cons y h1, (List.Perm.append_left g p).trans (perm3 g f1 gs)⟩
theorem DvL.opqAt : ∀ {ds : List D} {vs : List V} {f : List Addr} {j : Nat} {x : V}, DvL K H ds vs f → ds[j]? = some (.opq x) → vs[j]? = some x
  | [], _, _, _, _, _, e => by simp at e
  | e :: ds, _, _, 0, x, .cons y l, h => by
    simp at h; subst h
    cases y; rfl
  | e :: ds, _, _, j + 1, x, .cons y l, h => by
    have := l.opqAt (j := j) (by simpa using h)
    simpa using this
theorem DvL.pair {x y : D × V} {fp : List Addr} (h : DvL K H ([x, y].map (·.1)) ([x, y].map (·.2)) fp) : ∃ f1 f2, fp = f1 ++ f2 ∧ Dv K H x.1 x.2 f1 ∧ Dv K H y.1 y.2 f2 := by
  have h : DvL K H [x.1, y.1] [x.2, y.2] fp := h
  obtain ⟨f1, f2, rfl, a, h⟩ := h.uncons
  obtain ⟨f3, f4, rfl, b, h⟩ := h.uncons
  have e := h.unnil
  subst e
  rw [List.append_nil]
  exact ⟨f1, f3, rfl, a, b⟩
theorem upd_keep {a : Addr} {o : HO} {b : Addr} {u : HO} (hb : b ∉ [a]) (e : H b = some u) : upd H a o b = some u := by
  rw [upd_ne (by simpa using hb)]; exact e
/-- xs[j] = v -/
theorem Rp.setL {xs : List D} {a : Addr} {j : Nat} (hj : j < xs.length) (r : Rp K c σ H ρ ((.lst true xs, .ref a) :: (d, v) :: P)) : ∃ vs, H a = some (.lst vs) ∧ vs.length = xs.length ∧ Rp K c σ (upd H a (.lst (vs.set j v))) ρ ((.lst true (xs.set j d), .ref a) :: P) := by
  obtain ⟨fp, hp, nd, k⟩ := Rp.step2 [(.lst true xs, .ref a), (d, v)] r
  obtain ⟨f1, f2, rfl, x, y⟩ := hp.pair
  obtain ⟨a', vs, g, e, rfl, h1, l⟩ := Dv.own x
  cases e
  refine ⟨vs, h1, l.length.symm, ?_⟩
  obtain ⟨n1, n2, n3⟩ := List.nodup_append.mp nd
  have n4 := List.nodup_cons.mp n1
  have hW : ∀ b ∈ [a], Mut (H b) := fun b hb => by rw [List.mem_singleton.mp hb, h1]; trivial
  have l2 := l.keep (H' := upd H a (.lst (vs.set j v))) (fun b o hb e => upd_keep hb e) hW fun b z z' => n4.1 (by rw [List.mem_singleton.mp z'] at z; exact z)
  have y2 := y.keep (H' := upd H a (.lst (vs.set j v))) (fun b o hb e => upd_keep hb e) hW fun b z z' => n3 a (by simp) b z (List.mem_singleton.mp z').symm
  obtain ⟨f0, f3, f', p1, l3, p2⟩ := l2.put hj y2
  have nd2 : (f2 ++ (f0 ++ f3)).Nodup := by
    refine (List.Perm.nodup_iff ?_).mp (List.nodup_append.mpr ⟨n2, n4.2, fun b hb b' hb' e => n3 b' (List.mem_cons_of_mem _ hb') b hb e.symm⟩)
    exact List.Perm.append_left f2 p1
  have na : a ∉ f' := fun z => by
    rcases List.mem_append.mp (p2.mem_iff.mp z) with z | z
    · exact n3 a (by simp) a z rfl
    · exact n4.1 (p1.mem_iff.mpr (List.mem_append_right _ z))
  refine k _ [(.lst true (xs.set j d), .ref a)] (a :: f') (fun b o hb e => upd_keep (fun z => hb (by rw [List.mem_singleton.mp z]; simp)) e) (.one (.olst (by simp [upd]) l3)) (List.nodup_cons.mpr ⟨na, p2.nodup_iff.mpr ?_⟩) fun b hb => ?_
  · have := List.nodup_append.mp nd2
    exact List.nodup_append.mpr ⟨n2, (List.nodup_append.mp this.2.1).2.1, fun b hb b' hb' e => this.2.2 b hb b' (List.mem_append_right _ hb') e⟩
  · left
    rcases List.mem_cons.mp hb with rfl | hb
    · simp
    · rcases List.mem_append.mp (p2.mem_iff.mp hb) with z | z
      · exact List.mem_append_right _ z
      · exact List.mem_append_left _ (List.mem_cons_of_mem _ (p1.mem_iff.mpr (List.mem_append_right _ z)))
end
/-- the first place of a key -/
def kIx : List Key → Key → Option Nat
  | [], _ => none
  | a :: ks, k => if a = k then some 0 else (kIx ks k).map (· + 1)
theorem kIx_some {k : Key} : ∀ {kvv : List (Key × V)} {j : Nat}, kIx (kvv.map (·.1)) k = some j → j < kvv.length ∧ valV kvv k = (kvv.map (·.2))[j]?
  | [], _, h => by cases h
  | p :: r, j, h => by
    unfold kIx at h
    rw [List.map_cons] at h
    by_cases e : p.1 = k
    · simp only [e, if_true] at h
      cases h
      exact ⟨by simp, by rw [valV_pos e]; rfl⟩
    · simp only [e, if_false] at h
      obtain ⟨j', h1, h2⟩ := Option.map_eq_some_iff.mp h
      obtain ⟨h3, h4⟩ := kIx_some h1
      subst h2
      exact ⟨by simpa using h3, by rw [valV_neg e, h4]; rfl⟩
theorem kIx_none {k : Key} : ∀ {kvv : List (Key × V)}, kIx (kvv.map (·.1)) k = none → valV kvv k = none
  | [], h => rfl
  | p :: r, h => by
    unfold kIx at h
    rw [List.map_cons] at h
    by_cases e : p.1 = k
    · simp only [e, if_true] at h; cases h
    · simp only [e, if_false] at h
      rw [valV_neg e]
      exact kIx_none (Option.map_eq_none_iff.mp h)
def putD (ks : List Key) (ds : List D) (k : Key) (d : D) : Option (List Key × List D) := if ks.Nodup ∧ ks.length < sizeLine then (match kIx ks k with
  | some j => some (ks, ds.set j d)
  | none => some (ks ++ [k], ds ++ [d])) else none
theorem map_put {k : Key} {v : V} : ∀ {kvv : List (Key × V)} {j : Nat}, (kvv.map (·.1)).Nodup → kIx (kvv.map (·.1)) k = some j → (kvv.map fun kv => if kv.1 = k then (kv.1, v) else kv).map (·.1) = kvv.map (·.1) ∧ (kvv.map fun kv => if kv.1 = k then (kv.1, v) else kv).map (·.2) = (kvv.map (·.2)).set j v
  | [], _, _, h => by cases h
  | p :: r, j, nd, h => by
    unfold kIx at h
    simp only [List.map_cons] at h nd ⊢
    obtain ⟨n1, n2⟩ := List.nodup_cons.mp nd
    by_cases e : p.1 = k
    · simp only [e, if_true] at h
      cases h
      have same : (r.map fun kv => if kv.1 = k then (kv.1, v) else kv) = r := by
        conv => rhs; rw [← List.map_id r]
        refine List.map_congr_left fun q hq => ?_
        rw [if_neg (fun z => n1 (by rw [e, ← z]; exact List.mem_map_of_mem hq))]; rfl
      rw [same]
      simp [e]
    · simp only [e, if_false] at h ⊢
      obtain ⟨j', h1, h2⟩ := Option.map_eq_some_iff.mp h
      subst h2
      obtain ⟨h3, h4⟩ := map_put (v := v) n2 h1
      exact ⟨by rw [h3], by rw [h4]; rfl⟩
theorem putD_some {ks ks' : List Key} {ds ds' : List D} {k : Key} {d : D} {v : V} {kvv : List (Key × V)} (h : putD ks ds k d = some (ks', ds')) (e : kvv.map (·.1) = ks) (hl : ds.length = kvv.length) :
    kvv.length < sizeLine ∧ (putK kvv k v).map (·.1) = ks' ∧ ((∃ j, j < ds.length ∧ ds' = ds.set j d ∧ (putK kvv k v).map (·.2) = (kvv.map (·.2)).set j v) ∨ (ds' = ds ++ [d] ∧ (putK kvv k v).map (·.2) = kvv.map (·.2) ++ [v])) := by
  subst e
  unfold putD at h
  split at h
  case isFalse => cases h
  rename_i hh
  refine ⟨by have := hh.2; rwa [List.length_map] at this, ?_⟩
  unfold putK
  rw [valV_any]
  cases e : kIx (kvv.map (·.1)) k with
  | some j =>
    rw [e] at h
    cases h
    obtain ⟨h1, h2⟩ := kIx_some e
    obtain ⟨h3, h4⟩ := map_put (v := v) hh.1 e
    have : (valV kvv k).isSome = true := by rw [h2]; simp [h1]
    rw [if_pos this]
    exact ⟨h3, .inl ⟨j, by omega, rfl, h4⟩⟩
  | none =>
    rw [e] at h
    cases h
    have : (valV kvv k).isSome = false := by rw [kIx_none e]; rfl
    rw [if_neg (by rw [this]; simp)]
    exact ⟨by simp, .inr ⟨rfl, by simp⟩⟩
section
variable {K : PySem.W.Frag} {c : Ct} {H H' : Hp} {σ : L2.St} {ρ : En} {P : List (D × V)} {d : D} {v : V} {i : Nat} {ks ks' : List Key} {ds ds' : List D} {a : Addr} {k : Key}
/-- d[k] = v -/
theorem Rp.setD (r : Rp K c σ H ρ ((.dic true ks ds, .ref a) :: (d, v) :: P)) (h : putD ks ds k d = some (ks', ds')) : ∃ kvv, H a = some (.dK kvv) ∧ kvv.length < sizeLine ∧ Rp K c σ (upd H a (.dK (putK kvv k v))) ρ ((.dic true ks' ds', .ref a) :: P) := by
  obtain ⟨fp, hp, nd, kk⟩ := Rp.step2 [(.dic true ks ds, .ref a), (d, v)] r
  obtain ⟨f1, f2, rfl, x, y⟩ := hp.pair
  obtain ⟨a', kvv, g, e, rfl, h1, h2, l⟩ := Dv.ownD x
  cases e
  have hl : ds.length = kvv.length := by rw [l.length, List.length_map]
  obtain ⟨hz, e1, e2⟩ := putD_some (v := v) h h2 hl
  refine ⟨kvv, h1, hz, ?_⟩
  obtain ⟨n1, n2, n3⟩ := List.nodup_append.mp nd
  have n4 := List.nodup_cons.mp n1
  have hW : ∀ b ∈ [a], Mut (H b) := fun b hb => by rw [List.mem_singleton.mp hb, h1]; trivial
  have l2 := l.keep (H' := upd H a (.dK (putK kvv k v))) (fun b o hb e => upd_keep hb e) hW fun b z z' => n4.1 (by rw [List.mem_singleton.mp z'] at z; exact z)
  have y2 := y.keep (H' := upd H a (.dK (putK kvv k v))) (fun b o hb e => upd_keep hb e) hW fun b z z' => n3 a (by simp) b z (List.mem_singleton.mp z').symm
  have key : ∃ f0 f3 f', g.Perm (f0 ++ f3) ∧ DvL K (upd H a (.dK (putK kvv k v))) ds' ((putK kvv k v).map (·.2)) f' ∧ f'.Perm (f2 ++ f3) := by
    rcases e2 with ⟨j, hj, rfl, e3⟩ | ⟨rfl, e3⟩
    · rw [e3]; exact l2.put hj y2
    · rw [e3]; exact ⟨[], g, g ++ f2, List.Perm.refl _, l2.append (.one y2), List.perm_append_comm⟩
  obtain ⟨f0, f3, f', p1, l3, p2⟩ := key
  have na : a ∉ f' := fun z => by
    rcases List.mem_append.mp (p2.mem_iff.mp z) with z | z
    · exact n3 a (by simp) a z rfl
    · exact n4.1 (p1.mem_iff.mpr (List.mem_append_right _ z))
  have n5 := (List.nodup_append.mp (p1.nodup_iff.mp n4.2)).2.1
  refine kk _ [(.dic true ks' ds', .ref a)] (a :: f') (fun b o hb e => upd_keep (fun z => hb (by rw [List.mem_singleton.mp z]; simp)) e) (.one (.odic (by simp [upd]) e1 l3)) (List.nodup_cons.mpr ⟨na, p2.nodup_iff.mpr (List.nodup_append.mpr ⟨n2, n5, fun b hb b' hb' e => n3 b' (List.mem_cons_of_mem _ (p1.mem_iff.mpr (List.mem_append_right _ hb'))) b hb e.symm⟩)⟩) fun b hb => ?_
  left
  rcases List.mem_cons.mp hb with rfl | hb
  · simp
  · rcases List.mem_append.mp (p2.mem_iff.mp hb) with z | z
    · exact List.mem_append_right _ z
    · exact List.mem_append_left _ (List.mem_cons_of_mem _ (p1.mem_iff.mpr (List.mem_append_right _ z)))
/-- the content of a key taken out -/
theorem Rp.hole {j : Nat} {u : V} (r : Rp K c σ H ρ ((.dic true ks ds, u) :: P)) (h : kIx ks k = some j) (hd : ds[j]? = some d) : ∃ a kvv x, u = .ref a ∧ H a = some (.dK kvv) ∧ valV kvv k = some x ∧ Rp K c σ H ρ ((.dic true ks (ds.set j (.opq x)), u) :: (d, x) :: P) := by
  obtain ⟨fp, hp, nd, kk⟩ := Rp.step2 [(.dic true ks ds, u)] r
  have hp : DvL K H [.dic true ks ds] [u] fp := hp
  obtain ⟨f1, f2, rfl, x, hp⟩ := hp.uncons
  have e0 := hp.unnil
  subst e0
  rw [List.append_nil] at nd kk
  obtain ⟨a, kvv, g, rfl, rfl, h1, h2, l⟩ := Dv.ownD x
  obtain ⟨y, f1, f2, h3, h4, p, l2⟩ := l.hole hd
  subst h2
  obtain ⟨h5, h6⟩ := kIx_some h
  obtain ⟨n1, n2⟩ := List.nodup_cons.mp nd
  refine ⟨a, kvv, y, rfl, h1, by rw [h6, h3], kk H [(.dic true _ (ds.set j (.opq y)), .ref a), (d, y)] ((a :: f2) ++ f1) (fun _ _ _ e => e) (.cons (.odic h1 rfl l2) (.one h4)) ?_ fun b hb => .inl ?_⟩
  · have n3 := p.nodup_iff.mp n2
    refine List.nodup_cons.mpr ⟨fun z => n1 (p.mem_iff.mpr ?_), (List.perm_append_comm.nodup_iff).mp n3⟩
    rcases List.mem_append.mp z with z | z
    · exact List.mem_append_right _ z
    · exact List.mem_append_left _ z
  · rcases List.mem_append.mp hb with z | z
    · rcases List.mem_cons.mp z with rfl | z
      · simp
      · exact List.mem_cons_of_mem _ (p.mem_iff.mpr (List.mem_append_right _ z))
    · exact List.mem_cons_of_mem _ (p.mem_iff.mpr (List.mem_append_left _ z))
/-- .. and put back -/
theorem Rp.fillH {j : Nat} {u x : V} (r : Rp K c σ H ρ ((.dic true ks ds, u) :: (d, x) :: P)) (hd : ds[j]? = some (.opq x)) : Rp K c σ H ρ ((.dic true ks (ds.set j d), u) :: P) := by
  obtain ⟨fp, hp, nd, kk⟩ := Rp.step2 [(.dic true ks ds, u), (d, x)] r
  obtain ⟨f1, f2, rfl, xa, y⟩ := hp.pair
  obtain ⟨a, kvv, g, e, rfl, h1, h2, l⟩ := Dv.ownD xa
  have e : u = .ref a := e
  subst e
  obtain ⟨f', l2, p⟩ := l.fillH hd y
  obtain ⟨n1, n2, n3⟩ := List.nodup_append.mp nd
  obtain ⟨n4, n5⟩ := List.nodup_cons.mp n1
  refine kk H [(.dic true ks (ds.set j d), .ref a)] (a :: f') (fun _ _ _ e => e) (.one (.odic h1 h2 l2)) (List.nodup_cons.mpr ⟨fun z => ?_, p.nodup_iff.mpr (List.nodup_append.mpr ⟨n2, n5, fun b hb b' hb' e => n3 b' (List.mem_cons_of_mem _ hb') b hb e.symm⟩)⟩) fun b hb => .inl ?_
  · rcases List.mem_append.mp (p.mem_iff.mp z) with z | z
    · exact n3 a (by simp) a z rfl
    · exact n4 z
  · rcases List.mem_cons.mp hb with rfl | hb
    · simp
    · rcases List.mem_append.mp (p.mem_iff.mp hb) with z | z
      · exact List.mem_append_right _ z
      · exact List.mem_append_left _ (List.mem_cons_of_mem _ z)
end
end DL

namespace DL
open PySem PySem.Spec PyProof.Rows L2

/-! ### a dict's items, and stores -/
def D.key : D → Option Key
  | .int i => some (.inl i)
  | .str s => some (.inr s)
  | _ => none
theorem Dv.keyV {K : PySem.W.Frag} {H : Hp} {d : D} {v : V} {f : List Addr} {k : Key} (x : Dv K H d v f) (e : d.key = some k) : v = kV k := by
  cases x <;> cases e <;> rfl
/-- d[k], the item frozen -/
def fDGet (i : Nat) (fk : FO) : FE := fun ρ => match slot ρ i with
  | none => .stk
  | some _ => (fk ρ).bind fun a ρ1 => match (res a ρ1).bind D.key, slot ρ1 i with
    | some k, some (.dic m ks ds) => (match kIx ks k with
      | some j => (match ds[j]? with
        | some d => if m then .ok d.frz (ρ1.set i (some (.dic true ks (ds.set j d.frz)))) else .ok d ρ1
        | none => .stk)
      | none => .stk)
    | _, _ => .stk
section
variable {X : Cx} {c : Ct} {Ew : Xn → En → Prop} {kx e b : Expr} {pos p : Pos} {x : Str} {i : Nat}
theorem de_dget {fk : FO} (i : Nat) (hu : X.A.units + 1 < cLine) (hm : PE X (.Name x p) (tVar i)) (hk : DO X c Ew kx fk) (hs : NoSl kx := by intro _ _; rfl) : DE X c Ew (.Subscript (.Name x p) kx pos) (fDGet i fk) := by
  refine ⟨fun pins s σ H Q I ⟨ρ, P, rp, q⟩ => ?_⟩
  unfold fDGet at q
  cases e0 : slot ρ i with
  | none => rw [e0] at q; exact q.elim
  | some d0 =>
    rw [e0] at q
    obtain ⟨v0, f0, e1, _⟩ := rp.slot (slot_some e0)
    have q : ((fk ρ).bind fun a ρ1 => match (res a ρ1).bind D.key, slot ρ1 i with
      | some k, some (.dic m ks ds) => (match kIx ks k with
        | some j => (match ds[j]? with
          | some d => if m then R.ok d.frz (ρ1.set i (some (.dic true ks (ds.set j d.frz)))) else .ok d ρ1
          | none => .stk)
        | none => .stk)
      | _, _ => .stk).sat _ Ew := q
    rw [R.sat_bind] at q
    refine thn ((pe_dget hu hm hk hs).run pins s σ H (fun v H1 => (∃ d ρ1, Rp X.K c σ H1 ρ1 ((d, v) :: P) ∧ ∀ v H', Rp X.K c σ H' ρ1 ((d, v) :: P) → Q v H') ∨
      ∃ ρ1 ks ds j d, ds[j]? = some (.opq v) ∧ Rp X.K c σ H1 ρ1 ((.dic true ks ds, v0) :: (d, v) :: P) ∧ ∀ v H', Rp X.K c σ H' (ρ1.set i (some (.dic true ks (ds.set j d.frz)))) ((d.frz, v) :: P) → Q v H')
      I ⟨v0, e1, ρ, P, rp, q.imp fun a ρ1 q y H2 Pn r1 oka => ?_⟩) fun u s1 ⟨v, H1, I1, rv, k⟩ => ?_
    · cases e2 : res a ρ1 with
      | none => rw [e2] at q; exact q.elim
      | some kd =>
        obtain ⟨f1, x1⟩ := oka.dv r1 e2
        cases e3 : kd.key with
        | none => simp only [e2, Option.bind_some, e3] at q; exact q.elim
        | some k =>
          obtain rfl := x1.keyV e3
          simp only [e2, Option.bind_some, e3] at q
          cases e4 : slot ρ1 i with
          | none => simp only [e4] at q; exact q.elim
          | some dd =>
          cases dd with
          | dic m ks ds =>
           simp only [e4] at q
           cases e5 : kIx ks k with
           | none => simp only [e5] at q; exact q.elim
           | some j =>
             cases e6 : ds[j]? with
             | none => simp only [e5, e6] at q; exact q.elim
             | some d =>
               simp only [e5, e6] at q
               obtain ⟨v1, e7, r2⟩ := r1.take (slot_some e4)
               rw [e1] at e7; cases e7
               cases m with
               | true =>
                 simp only [if_true] at q
                 obtain ⟨a, kvv, z, rfl, h1, h2, r3⟩ := r2.hole e5 e6
                 have hj : j < ds.length := (List.getElem?_eq_some_iff.mp e6).1
                 refine ⟨a, z, rfl, by rw [← h2]; exact DGet.k h1, .inr ⟨ρ1.set i none, ks, ds.set j (.opq z), j, d, by simp [hj], r3.perm ?_ |>.pops (Pn := Pn), fun v H' r => q v H' ?_⟩⟩
                 · exact perm3 [(D.dic true ks (ds.set j (.opq z)), V.ref a), (d, z)] Pn P
                 · rw [List.set_set, List.set_set] at r
                   exact r
               | false =>
                 obtain ⟨f2, x2⟩ := r2.head
                 cases x2 with
                 | @fdic a o kvv _ _ h1 h2 l =>
                   subst h2
                   obtain ⟨h3, h4⟩ := kIx_some e5
                   obtain ⟨z, f, e8, xd, hf⟩ := l.at e6
                   have f0 : f = [] := List.eq_nil_iff_forall_not_mem.mpr fun a ha => by have := hf a ha; cases this
                   subst f0
                   exact ⟨a, z, rfl, .inl ⟨kvv, k, .inr ⟨o, h1⟩, rfl, by rw [h4, e8]⟩, .inl ⟨d, ρ1, r1.pops.push0 xd, q⟩⟩
          | _ => simp only [e4] at q; exact q.elim
    · rcases k with ⟨d, ρ1, r, k⟩ | ⟨ρ1, ks, ds, j, d, hj, r, k⟩
      · exact ⟨v, H1, I1, rv, k v H1 r⟩
      · obtain ⟨H2, I2, r2⟩ := Rp.freeze I1 r.swap
        obtain ⟨f, x1⟩ := r2.head
        have x0 : Dv X.K H2 d.frz v [] := by have := x1.fz (D.frz_isF d); subst this; exact x1
        have r3 := r2.swap.fillH hj
        exact ⟨v, H2, I2, rv, k v H2 ((r3.put e1).push0 x0)⟩
end

/-! ### an item of an item, looked at without being frozen -/
/-- a reading that leaves what there is as it is -/
def QE (K : PySem.W.Frag) (te : TE) (g : En → Option D) : Prop := ∀ (c : Ct) (σ : L2.St) (H : Hp) (ρ : En) (P : List (D × V)) (d : D) (Q : VK), Rp K c σ H ρ P → g ρ = some d → (∀ v H', Fresh K H H' d v → Q v H') → te σ H Q
theorem q_c {K : PySem.W.Frag} {v : V} {d : D} (x : ∀ H, Dv K H d v []) : QE K (tC v) (fun _ => some d) := fun c σ H ρ P e Q r h q => by
  cases h
  exact q v H (Fresh.same (x H))
def slotF (i : Nat) (ρ : En) : Option D := match slot ρ i with
  | some d => if d.isF then some d else none
  | none => none
theorem q_name {K : PySem.W.Frag} (i : Nat) : QE K (tVar i) (slotF i) := fun c σ H ρ P e Q r h q => by
  unfold slotF at h
  cases es : slot ρ i with
  | none => rw [es] at h; cases h
  | some d =>
    rw [es] at h
    obtain ⟨hf, rfl⟩ := ite_some h
    obtain ⟨v, f, e1, x⟩ := r.slot (slot_some es)
    exact ⟨v, e1, q v H (Fresh.same (x.f0 hf))⟩
theorem q_nil {K : PySem.W.Frag} : QE K (tLst tNil) (fun _ => some (.lst true [])) := fun c σ H ρ P e Q r h q => by
  cases h
  refine ⟨Nat.zero_le _, fun p hp => q _ _ ⟨upd_ext hp, [p], .olst (by simp [upd]) .nil, by simp, fun a z => by rw [List.mem_singleton.mp z]; exact hp⟩⟩
/-- what stands at the key k of the dict in slot i -/
def pk (ρ : En) (i : Nat) (k : Key) : Option D := match slot ρ i with
  | some (.dic _ ks ds) => (kIx ks k).bind fun j => ds[j]?
  | _ => none
theorem pk_dv {K : PySem.W.Frag} {c : Ct} {σ : L2.St} {H : Hp} {ρ : En} {P : List (D × V)} {i : Nat} {k : Key} {d : D} (r : Rp K c σ H ρ P) (h : pk ρ i k = some d) : ∃ a x f, σ[i]? = some (some (.ref a)) ∧ DGet H a (kV k) (some x) ∧ Dv K H d x f := by
  unfold pk at h
  cases es : slot ρ i with
  | none => rw [es] at h; cases h
  | some dd =>
    rw [es] at h
    cases dd with
    | dic m ks ds =>
      obtain ⟨j, e1, e2⟩ := Option.bind_eq_some_iff.mp h
      obtain ⟨v, f, e3, x⟩ := r.slot (slot_some es)
      cases x with
      | @fdic a o kvv _ _ h1 h2 l =>
        subst h2
        obtain ⟨h3, h4⟩ := kIx_some e1
        obtain ⟨z, f, e8, xd, hf⟩ := l.at e2
        exact ⟨a, z, f, e3, .inl ⟨kvv, k, .inr ⟨o, h1⟩, rfl, by rw [h4, e8]⟩, xd⟩
      | @odic a kvv _ _ _ h1 h2 l =>
        subst h2
        obtain ⟨h3, h4⟩ := kIx_some e1
        obtain ⟨z, f, e8, xd, hf⟩ := l.at e2
        exact ⟨a, z, f, e3, .inl ⟨kvv, k, .inl h1, rfl, by rw [h4, e8]⟩, xd⟩
    | _ => cases h
def fPk (g : D → D → Option D) (i : Nat) (k : Key) (gb : En → Option D) : FE := fun ρ => match pk ρ i k, gb ρ with
  | some d, some e => R.of (g d e) ρ
  | _, _ => .stk
theorem rd_pk {K : PySem.W.Frag} {c : Ct} {Ew : Xn → En → Prop} {r : R2} {g : D → D → Option D} {i : Nat} {k : Key} {te : TE} {gb : En → Option D} (h : Op2 K r g) (qb : QE K te gb) (σ : L2.St) (H : Hp) (Q : VK) : rdE K c Ew (fPk g i k gb) σ H Q → tOp r (tDGet (tVar i) (tC (kV k))) te σ H Q := by
  rintro ⟨ρ, P, rp, q⟩
  unfold fPk at q
  cases e1 : pk ρ i k with
  | none => rw [e1] at q; exact q.elim
  | some d =>
    cases e2 : gb ρ with
    | none => rw [e1, e2] at q; exact q.elim
    | some e =>
      rw [e1, e2] at q
      obtain ⟨dr, e3, q⟩ := R.of_sat q
      obtain ⟨a, x, f, e4, dg, xd⟩ := pk_dv rp e1
      refine ⟨_, e4, a, x, rfl, dg, ?_⟩
      refine qb c σ H ρ P e _ rp e2 fun u H2 fr => ?_
      obtain ⟨hk, f2, xe, _, _⟩ := id fr
      exact h H2 x u d e f f2 Q dr (xd.ext hk) xe e3 fun w H3 fr3 => q w H3 (Rp.fresh (rp.ext hk) fr3)
section
variable {X : Cx} {c : Ct} {Ew : Xn → En → Prop} {b ix : Expr} {pos p p1 p2 p3 : Pos} {x ky : Str} {i : Nat} {te : TE} {gb : En → Option D} {g : D → D → Option D} {r : R2} {kn : Nat}
theorem pe_pk (hu : X.A.units + 1 < cLine) (hm : PE X (.Name x p) (tVar i)) (hs : NoSl (.Constant (.str ky) kn p1) := by intro _ _; rfl) : PE X (.Subscript (.Name x p) (.Constant (.str ky) kn p1) p2) (tDGet (tVar i) (tC (kV (.inr ky)))) := pe_dget hu hm pe_str hs
/-- m["k"] op b -/
theorem dt_pk {op : CmpOp} (hu : X.A.units + 1 < cLine) (hm : PE X (.Name x p) (tVar i)) (ho : OpR X (compareOp op) r) (h : Op2 X.K r g) (hb : PE X b te) (qb : QE X.K te gb) (hmk : behindInMarks op b = false) :
    DT X c Ew (.Compare (.Subscript (.Name x p) (.Constant (.str ky) kn p1) p2) [op] [b] pos) (fTst (fPk g i (.inr ky) gb)) := by
  refine (pt_cmpR ho (pe_pk hu hm) hb hmk).dimp fun σ H Q ⟨ρ, P, rp, q⟩ => ?_
  refine rd_pk (c := c) (Ew := Ew) h qb σ H _ ⟨ρ, P, rp, ?_⟩
  unfold fTst at q
  rw [R.sat_bind] at q
  refine q.imp fun d ρ' k v H' r' => ?_
  obtain ⟨b, rfl, k⟩ := asB_sat k
  exact ⟨b, r'.bl, k H' r'.pop⟩
/-- m["k"][b] -/
theorem de_pk (hu : X.A.units + 1 < cLine) (hm : PE X (.Name x p) (tVar i)) (ho : IxR X r) (h : Op2 X.K r g) (hb : PE X b te) (qb : QE X.K te gb) (hs : PlainIx b) :
    DE X c Ew (.Subscript (.Subscript (.Name x p) (.Constant (.str ky) kn p1) p2) b pos) (fPk g i (.inr ky) gb) := (pe_ix ho (pe_pk hu hm) hb hs).dimp (rd_pk h qb)
/-- m["k"][lo:hi], the bounds written -/
def fPkSl (i : Nat) (k : Key) (lo hi : Option Int) : FE := fun ρ => match pk ρ i k with
  | some d => R.of (slD d lo hi) ρ
  | none => .stk
def cPart (lo : Option Expr) (l : Option Int) (X : Cx) : Prop := PO X lo (fun _ H Q => Q l H)
theorem cp_none : cPart none none X := po_none.dimp fun _ _ _ q => q
theorem cp_int {j : Int} : cPart (some (.Constant (.int j) kn p)) (some j) X := (po_some pe_int).dimp fun _ _ _ q => ⟨j, rfl, q⟩
theorem de_pkSl {lo hi : Option Expr} {l u : Option Int} (hu : X.A.units + 1 < cLine) (hm : PE X (.Name x p) (tVar i)) (hl : cPart lo l X) (hh : cPart hi u X) :
    DE X c Ew (.Subscript (.Subscript (.Name x p) (.Constant (.str ky) kn p1) p2) (.Slice lo hi none p3) pos) (fPkSl i (.inr ky) l u) := by
  refine (pe_slice or_sl (pe_pk hu hm) hl hh).dimp fun σ H Q ⟨ρ, P, rp, q⟩ => ?_
  unfold fPkSl at q
  cases e1 : pk ρ i (.inr ky) with
  | none => rw [e1] at q; exact q.elim
  | some d =>
    rw [e1] at q
    obtain ⟨dr, e3, q⟩ := R.of_sat q
    obtain ⟨a, z, f, e4, dg, xd⟩ := pk_dv rp e1
    exact ⟨_, e4, a, z, rfl, dg, sl_ok xd e3 fun w H4 fr => q w H4 (Rp.fresh rp fr)⟩
end

/-! ### stores -/
def stL (d : D) (z : Int) (v : D) : Option D := match d with
  | .lst true xs => (ixN xs.length z).map fun j => .lst true (xs.set j v)
  | _ => none
theorem stL_some {d v r : D} {z : Int} (h : stL d z v = some r) : ∃ xs j, d = .lst true xs ∧ ixN xs.length z = some j ∧ j < xs.length ∧ r = .lst true (xs.set j v) := by
  unfold stL at h
  split at h
  · rename_i xs
    obtain ⟨j, e1, e2⟩ := Option.map_eq_some_iff.mp h
    exact ⟨xs, j, rfl, e1, (ixN_seq e1).2.1, e2.symm⟩
  · cases h
def stD (d : D) (k : Key) (v : D) : Option D := match d with
  | .dic true ks ds => (putD ks ds k v).map fun p => .dic true p.1 p.2
  | _ => none
theorem stD_some {d v r : D} {k : Key} (h : stD d k v = some r) : ∃ ks ds ks' ds', d = .dic true ks ds ∧ putD ks ds k v = some (ks', ds') ∧ r = .dic true ks' ds' := by
  unfold stD at h
  split at h
  · rename_i ks ds
    obtain ⟨⟨a, b⟩, e1, e2⟩ := Option.map_eq_some_iff.mp h
    exact ⟨ks, ds, a, b, rfl, e1, e2.symm⟩
  · cases h
/-- name[e] = v, a list -/
def gStL (i : Nat) (fi : FO) : FG := fun v ρ => match slot ρ i, fi ρ with
  | some _, .ok a ρ1 => (match res a ρ1, slot ρ1 i with
    | some (.int z), some d => (stL d z v).map fun r => ρ1.set i (some r)
    | _, _ => none)
  | _, _ => none
/-- name[e] = v, a dict -/
def gStD (i : Nat) (fi : FO) : FG := fun v ρ => match slot ρ i, fi ρ with
  | some _, .ok a ρ1 => (match (res a ρ1).bind D.key, slot ρ1 i with
    | some k, some d => (stD d k v).map fun r => ρ1.set i (some r)
    | _, _ => none)
  | _, _ => none
/-- name["k"][e] = v -/
def gNest (i : Nat) (k : Key) (gb : En → Option D) : FG := fun v ρ => match slot ρ i, gb ρ with
  | some (.dic true ks ds), some (.int z) => (kIx ks k).bind fun j => (ds[j]?).bind fun d => (stL d z v).map fun r => ρ.set i (some (.dic true ks (ds.set j r)))
  | _, _ => none
section
variable {X : Cx} {c : Ct} {Ew : Xn → En → Prop} {b ix : Expr} {pos p p1 p2 p3 : Pos} {x ky : Str} {te : TE} {gb : En → Option D} {kn : Nat} {fi : FO}
theorem dg_ix (i : Nat) (hm : PE X (.Name x p) (tVar i)) (hi : DO X c NoX ix fi)
    (ha : ∀ v, assign (.Subscript (.Name x p) ix pos) X.env v = (do
      let ov ← holding [v] (eval (.Name x p) X.env)
      let iv ← holding [v, ov] (eval ix X.env)
      standAt pos
      holding [v, ov, iv] (setItem ov iv v)
      release [v, ov, iv] []) := by intro _; rfl) : DG X c (.Subscript (.Name x p) ix pos) (gStL i fi) := (pg_sub hm hi set_list ha).dimp fun v σ H Q ⟨d, ρ, P, rp, ρ', e, q⟩ => by
  unfold gStL at e
  split at e
  case h_2 => cases e
  rename_i _ _ d0 a ρ1 es0 ef
  obtain ⟨v0, f0, e0, _⟩ := rp.slot (slot_some es0)
  split at e
  case h_2 => cases e
  rename_i _ _ z dd er es
  obtain ⟨r, e1, rfl⟩ := Option.map_eq_some_iff.mp e
  obtain ⟨xs, j, rfl, hj, hl, rfl⟩ := stL_some e1
  refine ⟨v0, e0, ρ, (d, v) :: P, rp, ?_⟩
  rw [ef]
  intro y H2 Pn r1 oka
  obtain ⟨f1, x1⟩ := oka.dv r1 er
  obtain rfl := x1.intR
  obtain ⟨v1, e2, r2⟩ := r1.take (slot_some es)
  rw [e0] at e2; cases e2
  obtain ⟨fa, xa⟩ := r2.head
  obtain ⟨a, vs, g, rfl, _, hH, l⟩ := Dv.own xa
  have r3 : Rp X.K c σ H2 (ρ1.set i none) ((.lst true xs, .ref a) :: (d, v) :: P) := (r2.perm (perm3 [(D.lst true xs, V.ref a)] Pn _)).pops
  obtain ⟨vs', h1, h2, r4⟩ := r3.setL hl
  refine ⟨a, vs', z, j, rfl, rfl, h1, by rw [h2]; exact hj, ?_⟩
  have r5 := r4.put e0
  rw [List.set_set] at r5
  exact q _ _ r5
theorem dg_dk (i : Nat) (hu : X.A.units + 1 < cLine) (hm : PE X (.Name x p) (tVar i)) (hi : DO X c NoX ix fi)
    (ha : ∀ v, assign (.Subscript (.Name x p) ix pos) X.env v = (do
      let ov ← holding [v] (eval (.Name x p) X.env)
      let iv ← holding [v, ov] (eval ix X.env)
      standAt pos
      holding [v, ov, iv] (setItem ov iv v)
      release [v, ov, iv] []) := by intro _; rfl) : DG X c (.Subscript (.Name x p) ix pos) (gStD i fi) := (pg_sub hm hi (set_dict hu) ha).dimp fun v σ H Q ⟨d, ρ, P, rp, ρ', e, q⟩ => by
  unfold gStD at e
  split at e
  case h_2 => cases e
  rename_i _ _ d0 a ρ1 es0 ef
  obtain ⟨v0, f0, e0, _⟩ := rp.slot (slot_some es0)
  split at e
  case h_2 => cases e
  rename_i _ _ k dd er es
  obtain ⟨r, e1, rfl⟩ := Option.map_eq_some_iff.mp e
  obtain ⟨ks, ds, ks', ds', rfl, hp, rfl⟩ := stD_some e1
  obtain ⟨kd, er1, er2⟩ := Option.bind_eq_some_iff.mp er
  refine ⟨v0, e0, ρ, (d, v) :: P, rp, ?_⟩
  rw [ef]
  intro y H2 Pn r1 oka
  obtain ⟨f1, x1⟩ := oka.dv r1 er1
  obtain rfl := x1.keyV er2
  obtain ⟨v1, e2, r2⟩ := r1.take (slot_some es)
  rw [e0] at e2; cases e2
  obtain ⟨fa, xa⟩ := r2.head
  obtain ⟨a, vs, g, rfl, _, hH, hk, l⟩ := Dv.ownD xa
  have r3 : Rp X.K c σ H2 (ρ1.set i none) ((.dic true ks ds, .ref a) :: (d, v) :: P) := (r2.perm (perm3 [(D.dic true ks ds, V.ref a)] Pn _)).pops
  obtain ⟨kvv, h1, h2, r4⟩ := r3.setD hp
  refine ⟨a, _, rfl, DPut.k h1 h2, ?_⟩
  have r5 := r4.put e0
  rw [List.set_set] at r5
  exact q _ _ r5
theorem dg_nest (i : Nat) (hu : X.A.units + 1 < cLine) (hm : PE X (.Name x p) (tVar i)) (hi : PE X ix te) (qb : QE X.K te gb)
    (ha : ∀ v, assign (.Subscript (.Subscript (.Name x p) (.Constant (.str ky) kn p1) p2) ix pos) X.env v = (do
      let ov ← holding [v] (eval (.Subscript (.Name x p) (.Constant (.str ky) kn p1) p2) X.env)
      let iv ← holding [v, ov] (eval ix X.env)
      standAt pos
      holding [v, ov, iv] (setItem ov iv v)
      release [v, ov, iv] []) := by intro _; rfl) : DG X c (.Subscript (.Subscript (.Name x p) (.Constant (.str ky) kn p1) p2) ix pos) (gNest i (.inr ky) gb) := (pg_sub (pe_pk hu hm) hi set_list ha).dimp fun v σ H Q ⟨d, ρ, P, rp, ρ', e, q⟩ => by
  unfold gNest at e
  split at e
  case h_2 => cases e
  rename_i _ _ ks ds z es eb
  obtain ⟨jk, ek, e⟩ := Option.bind_eq_some_iff.mp e
  obtain ⟨dk, edk, e⟩ := Option.bind_eq_some_iff.mp e
  obtain ⟨r, e1, rfl⟩ := Option.map_eq_some_iff.mp e
  obtain ⟨xs, j, rfl, hj, hl, rfl⟩ := stL_some e1
  obtain ⟨v0, e0, r1⟩ := rp.take (slot_some es)
  obtain ⟨a, kvv, y, rfl, h1, h2, r2⟩ := r1.hole ek edk
  refine ⟨_, e0, a, y, rfl, by rw [← h2]; exact DGet.k h1, ?_⟩
  refine qb c σ H ρ _ (.int z) _ rp eb fun iv H2 fr => ?_
  have r3 := (Rp.fresh r2 fr)
  obtain ⟨f1, x1⟩ := r3.head
  obtain rfl := x1.intR
  have r4 : Rp X.K c σ H2 (ρ.set i none) ((.lst true xs, y) :: (d, v) :: (.dic true ks (ds.set jk (.opq y)), .ref a) :: P) := r3.pop.perm (perm3 [(D.dic true ks (ds.set jk (.opq y)), V.ref a)] [(D.lst true xs, y), (d, v)] P)
  obtain ⟨fa, xa⟩ := r4.head
  obtain ⟨b, vs, g, rfl, _, hH, l⟩ := Dv.own xa
  obtain ⟨vs', h3, h4, r5⟩ := r4.setL hl
  refine ⟨b, vs', z, j, rfl, rfl, h3, by rw [h4]; exact hj, ?_⟩
  have hjk : jk < ds.length := (List.getElem?_eq_some_iff.mp edk).1
  have r6 := r5.swap.fillH (j := jk) (by simp [hjk])
  have r7 := r6.put e0
  rw [List.set_set, List.set_set] at r7
  exact q _ _ r7
end

/-! ### displays of dicts -/
def pairF : List (Key × FE) → En → R (List D)
  | [], ρ => .ok [] ρ
  | (_, f) :: fs, ρ => (f ρ).bind fun d ρ1 => (pairF fs ρ1).bind fun ds ρ2 => .ok (d :: ds) ρ2
def mergeD : List Key → List D → List Key → List D → Option (List Key × List D)
  | ks, ds, k :: ms, d :: es => (putD ks ds k d).bind fun p => mergeD p.1 p.2 ms es
  | ks, ds, _, _ => some (ks, ds)
def fDisp (fs : List (Key × FE)) : FE := fun ρ => (pairF fs ρ).bind fun ds ρ' => R.of ((mergeD [] [] (fs.map (·.1)) ds).map fun p => .dic true p.1 p.2) ρ'
def trsOf (K : PySem.W.Frag) (c : Ct) (Ew : Xn → En → Prop) (fs : List (Key × FE)) : List (TE × TE) := fs.map fun p => (tC (kV p.1), rdE K c Ew p.2)
theorem rd_pairs {K : PySem.W.Frag} {c : Ct} {Ew : Xn → En → Prop} : ∀ (fs : List (Key × FE)) (σ : L2.St) (H : Hp) (ρ : En) (P : List (D × V)) (Q : List (V × V) → Hp → Prop), Rp K c σ H ρ P →
    (pairF fs ρ).sat (fun ds ρ' => ∀ vs H', vs.length = ds.length → Rp K c σ H' ρ' (ds.zip vs ++ P) → Q ((fs.map (·.1)).zip vs |>.map fun p => (kV p.1, p.2)) H') Ew → tPairs (trsOf K c Ew fs) σ H Q
  | [], σ, H, ρ, P, Q, r, q => q [] H rfl r
  | (k, f) :: fs, σ, H, ρ, P, Q, r, q => by
    unfold pairF at q
    rw [R.sat_bind] at q
    refine ⟨ρ, P, r, q.imp fun d ρ1 q v H1 r1 => ?_⟩
    rw [R.sat_bind] at q
    refine rd_pairs fs σ H1 ρ1 ((d, v) :: P) _ r1 (q.imp fun ds ρ2 q vs H2 hl r2 => ?_)
    exact q (v :: vs) H2 (by simp [hl]) (r2.perm List.perm_middle)
theorem upd_upd {H : Hp} {a : Addr} {o o' : HO} : upd (upd H a o) a o' = upd H a o' := by
  funext b
  by_cases h : b = a
  · subst h; simp [upd]
  · rw [upd_ne h, upd_ne h, upd_ne h]
theorem upd_self {H : Hp} {a : Addr} {o : HO} (h : H a = some o) : upd H a o = H := by
  funext b
  by_cases hb : b = a
  · subst hb; simp [upd, h]
  · rw [upd_ne hb]
theorem Rp.merge {K : PySem.W.Frag} {c : Ct} {σ : L2.St} {ρ : En} {P : List (D × V)} {a : Addr} : ∀ {ms : List Key} {es : List D} {vs : List V} {ks : List Key} {ds : List D} {H : Hp} {kvv : List (Key × V)} {p : List Key × List D}, es.length = ms.length → vs.length = es.length → H a = some (.dK kvv) →
    Rp K c σ H ρ ((.dic true ks ds, .ref a) :: (es.zip vs ++ P)) → mergeD ks ds ms es = some p → Rp K c σ (upd H a (.dK (mergeK kvv (ms.zip vs)))) ρ ((.dic true p.1 p.2, .ref a) :: P)
  | [], [], [], ks, ds, H, kvv, p, _, _, h, r, e => by
    cases e
    show Rp K c σ (upd H a (.dK kvv)) ρ _
    rw [upd_self h]; exact r
  | k :: ms, d :: es, v :: vs, ks, ds, H, kvv, p, l1, l2, h, r, e => by
    unfold mergeD at e
    obtain ⟨⟨ks', ds'⟩, e1, e2⟩ := Option.bind_eq_some_iff.mp e
    obtain ⟨kvv', h1, _, r1⟩ := Rp.setD r e1
    rw [h] at h1; cases h1
    have r2 := Rp.merge (ms := ms) (es := es) (vs := vs) (kvv := putK kvv k v) (by simpa using l1) (by simpa using l2) (by simp [upd]) r1 e2
    rw [upd_upd] at r2
    exact r2
theorem pairF_len : ∀ {fs : List (Key × FE)} {ρ ρ' : En} {ds : List D}, pairF fs ρ = .ok ds ρ' → ds.length = fs.length
  | [], _, _, _, h => by cases h; rfl
  | (k, f) :: fs, ρ, ρ', ds, h => by
    unfold pairF at h
    cases e : f ρ with
    | ok d ρ1 =>
      rw [e] at h
      have h : (pairF fs ρ1).bind (fun ds ρ2 => R.ok (d :: ds) ρ2) = .ok ds ρ' := h
      cases e2 : pairF fs ρ1 with
      | ok es ρ2 => rw [e2] at h; cases h; simp [pairF_len e2]
      | exc _ _ => rw [e2] at h; cases h
      | stk => rw [e2] at h; cases h
    | exc _ _ => rw [e] at h; cases h
    | stk => rw [e] at h; cases h
section
variable {X : Cx} {c : Ct} {Ew : Xn → En → Prop} {pos : Pos} {keys : List (Option Expr)} {values : List Expr} {fs : List (Key × FE)}
theorem de_disp (h : PPs X pos keys values (trsOf X.K c Ew fs)) (hf : fs.length ≤ 15) (hall : keys.all (·.isSome) = true := by rfl) (hl : keys.length = values.length := by rfl) (h0 : keys ≠ [] := by exact List.cons_ne_nil _ _) (h15 : keys.length ≤ 15 := by decide) :
    DE X c Ew (.Dict keys values pos) (fDisp fs) := (pe_disp h hall hl h0 h15).dimp fun σ H Q ⟨ρ, P, rp, q⟩ p hp => by
  unfold fDisp at q
  rw [R.sat_bind] at q
  have r1 : Rp X.K c σ (upd H p (.dK [])) ρ ((.dic true [] [], .ref p) :: P) := Rp.fresh rp ⟨upd_ext hp, [p], .odic (kvv := []) (by simp [upd]) rfl .nil, by simp, fun a z => by rw [List.mem_singleton.mp z]; exact hp⟩
  refine rd_pairs fs σ _ ρ _ _ r1 ?_
  cases e : pairF fs ρ with
  | ok ds ρ' =>
    rw [e] at q
    obtain ⟨d, e1, q⟩ := R.of_sat q
    obtain ⟨pp, e2, rfl⟩ := Option.map_eq_some_iff.mp e1
    have hln := pairF_len e
    intro vs H2 hvl r2
    have r3 : Rp X.K c σ H2 ρ' ((.dic true [] [], .ref p) :: (ds.zip vs ++ P)) := r2.perm List.perm_middle
    obtain ⟨f1, x1⟩ := r3.head
    obtain ⟨a, kvv, g, e3, _, h1, h2, l⟩ := Dv.ownD x1
    cases e3
    have hk : kvv = [] := by cases kvv with | nil => rfl | cons _ _ => cases h2
    subst hk
    refine ⟨h1, (fs.map (·.1)).zip vs, rfl, by simp; omega, ?_⟩
    exact q _ _ (Rp.merge (by simp [hln]) hvl h1 r3 e2)
  | exc _ _ => rw [e] at q; exact q
  | stk => rw [e] at q; exact q
theorem dp_nil : PPs X pos [] [] (trsOf X.K c Ew []) := pps_nil
theorem dp_str {k : Str} {kn : Nat} {p1 : Pos} {v : Expr} {f : FE} (hv : DE X c Ew v f) (hr : PPs X pos keys values (trsOf X.K c Ew fs)) : PPs X pos (some (.Constant (.str k) kn p1) :: keys) (v :: values) (trsOf X.K c Ew ((.inr k, f) :: fs)) := pps_cons pe_str hv hr
theorem dp_int {k : Int} {kn : Nat} {p1 : Pos} {v : Expr} {f : FE} (hv : DE X c Ew v f) (hr : PPs X pos keys values (trsOf X.K c Ew fs)) : PPs X pos (some (.Constant (.int k) kn p1) :: keys) (v :: values) (trsOf X.K c Ew ((.inl k, f) :: fs)) := pps_cons pe_int hv hr
/-- {} -/
theorem de_dict0 : DE X c Ew (.Dict [] [] pos) (fC (.dic true [] [])) := pe_dnewK.dimp fun σ H Q ⟨ρ, P, rp, q⟩ p hp =>
  q _ _ (Rp.fresh rp ⟨upd_ext hp, [p], .odic (kvv := []) (by simp [upd]) rfl .nil, by simp, fun a z => by rw [List.mem_singleton.mp z]; exact hp⟩)
end
end DL

namespace DL
open PySem PySem.Spec PyProof.Rows L2

/-! ### repr -/
mutual
theorem hasDict_plain : ∀ d : PyData, d.plain = true → d.hasDict = false
  | .none, _ => by simp only [PyData.hasDict]
  | .bool _, _ => by simp only [PyData.hasDict]
  | .int _, _ => by simp only [PyData.hasDict]
  | .str _, _ => by simp only [PyData.hasDict]
  | .list xs, h => by
    simp only [PyData.plain] at h
    simp only [PyData.hasDict]
    exact hasDictAll_plain xs h
  | .tuple xs, h => by
    simp only [PyData.plain] at h
    simp only [PyData.hasDict]
    exact hasDictAll_plain xs h
  | .dict _, h => by simp [PyData.plain] at h
theorem hasDictAll_plain : ∀ xs : List PyData, PyData.plainAll xs = true → PyData.hasDictAll xs = false
  | [], _ => by simp only [PyData.hasDictAll]
  | x :: xs, h => by
    simp only [PyData.plainAll, Bool.and_eq_true] at h
    simp only [PyData.hasDictAll, hasDict_plain x h.1, hasDictAll_plain xs h.2, Bool.or_self]
end
def rRepr (K : PySem.W.Frag) : List V → Hp → VK → Prop := fun xs H Q => ∃ x p, xs = [x] ∧ Dp K H x p ∧ p.plain = true ∧ p.showable = true ∧ p.shown.length ≤ sizeLine ∧ p.depth ≤ 64 ∧ Q (.str p.shown) H
theorem call_reprD {X : Cx} (hg : X.A.guards = some []) (hu : X.A.units + 65 < cLine) : CallR X (.builtin "repr") (rRepr X.K) := by
  intro pins s σ H xs us Q I r h
  obtain ⟨x, p, rfl, dp, hp, hs, hz, hd, q⟩ := h
  match r with
  | .cons (b := u) ru .nil =>
    obtain ⟨as, rd⟩ := Dp.reads I p x u dp ru
    cases dp with
    | non => obtain rfl : u = .none := ru; exact PySem.P.repr_of_none ⟨.str _, H, I.tok _, ⟨_, rfl⟩, q⟩
    | bl b => obtain rfl : u = .bool b := ru; exact PySem.P.repr_of_bool ⟨.str _, H, I.tok _, ⟨_, rfl⟩, q⟩
    | int i =>
      obtain ⟨t, rfl⟩ := ru
      exact PySem.P.repr_of_int (by simpa [PyData.showable] using hs) ⟨.str _, H, I.tok _, ⟨_, rfl⟩, q⟩
    | str z =>
      obtain ⟨t, rfl⟩ := ru
      exact PySem.P.repr_of_str ⟨.str _, H, I.tok _, ⟨_, rfl⟩, q⟩ hz
    | lst h l =>
      obtain rfl : u = .ref _ := ru
      exact repr_of_reads' rd hs (fun z => by rw [hasDict_plain _ hp] at z; cases z) hg (by omega) (fun _ _ e => e) (fun h' t tk k => ⟨.str _, H, I.kept k, ⟨_, rfl⟩, q⟩) hz
    | tup h l =>
      obtain rfl : u = .ref _ := ru
      exact repr_of_reads' rd hs (fun z => by rw [hasDict_plain _ hp] at z; cases z) hg (by omega) (fun _ _ e => e) (fun h' t tk k => ⟨.str _, H, I.kept k, ⟨_, rfl⟩, q⟩) hz
def reprG : List D → Option D
  | [d] => (d.py).bind fun p => if p.showable && decide (p.shown.length ≤ sizeLine) && decide (p.depth ≤ 64) then some (.str p.shown) else none
  | _ => none
theorem repr_ok {K : PySem.W.Frag} : OpN K (rRepr K) reprG := by
  intro H xs ds Q dr hx hg q
  unfold reprG at hg
  split at hg
  · rename_i d
    match hx with
    | .cons (b := x) ⟨f, hx⟩ .nil =>
      obtain ⟨p, e1, e2⟩ := Option.bind_eq_some_iff.mp hg
      obtain ⟨h, rfl⟩ := ite_some e2
      simp only [Bool.and_eq_true, decide_eq_true_eq] at h
      exact ⟨x, p, rfl, Dv.dp d hx e1, D.py_plain d e1, h.1.1, h.1.2, h.2, q _ _ fresh_str⟩
  · cases hg

/-! ### min, max, sum, any, all, list, tuple, join -/
def min2G : List D → Option D
  | [.int i, .int j] => some (.int (if j < i then j else i))
  | _ => none
def max2G : List D → Option D
  | [.int i, .int j] => some (.int (if j > i then j else i))
  | _ => none
theorem min2_ok {K : PySem.W.Frag} : OpN K (fun xs H Q => ∃ i j, xs = [.int i, .int j] ∧ Q (.int (if j < i then j else i)) H) min2G := by
  intro H xs ds Q dr hx hg q
  unfold min2G at hg
  split at hg
  · match hx with
    | .cons ⟨f, hx⟩ (.cons ⟨g, hy⟩ .nil) =>
      cases hg
      have := hx.intR; subst this
      have := hy.intR; subst this
      exact ⟨_, _, rfl, q _ _ fresh_int⟩
  · cases hg
theorem max2_ok {K : PySem.W.Frag} : OpN K (fun xs H Q => ∃ i j, xs = [.int i, .int j] ∧ Q (.int (if j > i then j else i)) H) max2G := by
  intro H xs ds Q dr hx hg q
  unfold max2G at hg
  split at hg
  · match hx with
    | .cons ⟨f, hx⟩ (.cons ⟨g, hy⟩ .nil) =>
      cases hg
      have := hx.intR; subst this
      have := hy.intR; subst this
      exact ⟨_, _, rfl, q _ _ fresh_int⟩
  · cases hg
def intsD : List D → Option (List Int)
  | [] => some []
  | .int i :: ds => (intsD ds).map (i :: ·)
  | _ => none
def strsD : List D → Option (List Str)
  | [] => some []
  | .str i :: ds => (strsD ds).map (i :: ·)
  | _ => none
def blsD : List D → Option (List Bool)
  | [] => some []
  | .bl i :: ds => (blsD ds).map (i :: ·)
  | _ => none
section
variable {K : PySem.W.Frag} {H : Hp}
theorem intsD_v : ∀ {ds : List D} {vs : List V} {f : List Addr} {ns : List Int}, DvL K H ds vs f → intsD ds = some ns → vs = ns.map V.int
  | [], _, _, _, .nil, e => by cases e; rfl
  | d :: ds, _, _, _, .cons x l, e => by
    cases d with
    | int i =>
      obtain ⟨ns, e1, rfl⟩ := Option.map_eq_some_iff.mp e
      rw [x.intR, intsD_v l e1]; rfl
    | _ => cases e
theorem strsD_v : ∀ {ds : List D} {vs : List V} {f : List Addr} {ns : List Str}, DvL K H ds vs f → strsD ds = some ns → vs = ns.map V.str
  | [], _, _, _, .nil, e => by cases e; rfl
  | d :: ds, _, _, _, .cons x l, e => by
    cases d with
    | str i =>
      obtain ⟨ns, e1, rfl⟩ := Option.map_eq_some_iff.mp e
      rw [x.strR, strsD_v l e1]; rfl
    | _ => cases e
theorem blsD_v : ∀ {ds : List D} {vs : List V} {f : List Addr} {ns : List Bool}, DvL K H ds vs f → blsD ds = some ns → vs = ns.map V.bl
  | [], _, _, _, .nil, e => by cases e; rfl
  | d :: ds, _, _, _, .cons x l, e => by
    cases d with
    | bl i =>
      obtain ⟨ns, e1, rfl⟩ := Option.map_eq_some_iff.mp e
      rw [x.blR, blsD_v l e1]; rfl
    | _ => cases e
end
def sumG : List D → Option D
  | [.lst _ xs] => (intsD xs).map fun ns => .int ns.sum
  | _ => none
theorem sum_ok {K : PySem.W.Frag} : OpN K (rSum K) sumG := by
  intro H xs ds Q dr hx hg q
  unfold sumG at hg
  split at hg
  · match hx with
    | .cons ⟨f, hx⟩ .nil =>
      obtain ⟨ns, e1, rfl⟩ := Option.map_eq_some_iff.mp hg
      obtain ⟨a, ys, g, rfl, h, l⟩ := hx.lstR
      have e := intsD_v l e1
      subst e
      exact ⟨a, ns, rfl, h, q _ _ fresh_int⟩
  · cases hg
def anyG : List D → Option D
  | [.lst _ xs] => (blsD xs).map fun ns => .bl (ns.any id)
  | _ => none
def allG : List D → Option D
  | [.lst _ xs] => (blsD xs).map fun ns => .bl (ns.all id)
  | _ => none
theorem any_ok {K : PySem.W.Frag} : OpN K (rAny K) anyG := by
  intro H xs ds Q dr hx hg q
  unfold anyG at hg
  split at hg
  · match hx with
    | .cons ⟨f, hx⟩ .nil =>
      obtain ⟨ns, e1, rfl⟩ := Option.map_eq_some_iff.mp hg
      obtain ⟨a, ys, g, rfl, h, l⟩ := hx.lstR
      have e := blsD_v l e1
      subst e
      exact ⟨a, ns, rfl, h, q _ _ fresh_bl⟩
  · cases hg
theorem all_ok {K : PySem.W.Frag} : OpN K (rAll K) allG := by
  intro H xs ds Q dr hx hg q
  unfold allG at hg
  split at hg
  · match hx with
    | .cons ⟨f, hx⟩ .nil =>
      obtain ⟨ns, e1, rfl⟩ := Option.map_eq_some_iff.mp hg
      obtain ⟨a, ys, g, rfl, h, l⟩ := hx.lstR
      have e := blsD_v l e1
      subst e
      exact ⟨a, ns, rfl, h, q _ _ fresh_bl⟩
  · cases hg
def listG : List D → Option D
  | [.lst _ xs] => if D.isFL xs then some (.lst true xs) else none
  | [.tup xs] => if D.isFL xs then some (.lst true xs) else none
  | _ => none
theorem list_ok {K : PySem.W.Frag} : OpN K (fun xs H Q => ∃ p ys, xs = [.ref p] ∧ (SqL K H p ys ∨ SqT K H p ys) ∧ ∀ l, H l = none → Q (.ref l) (upd H l (.lst ys))) listG := by
  intro H xs ds Q dr hx hg q
  unfold listG at hg
  split at hg
  · match hx with
    | .cons ⟨f, hx⟩ .nil =>
      obtain ⟨hf, rfl⟩ := ite_some hg
      obtain ⟨a, ys, g, rfl, h, l⟩ := hx.lstR
      exact ⟨a, ys, rfl, .inl h, fun p hp => q _ _ (fresh_lst (l.f0 hf) hp)⟩
  · match hx with
    | .cons ⟨f, hx⟩ .nil =>
      obtain ⟨hf, rfl⟩ := ite_some hg
      obtain ⟨a, ys, rfl, h, l⟩ := hx.tupR
      exact ⟨a, ys, rfl, .inr h, fun p hp => q _ _ (fresh_lst (l.f0 hf) hp)⟩
  · cases hg
def tupleG : List D → Option D
  | [.lst _ xs] => if D.isFL xs then some (.tup xs) else none
  | [.tup xs] => if D.isFL xs then some (.tup xs) else none
  | _ => none
theorem tuple_ok {K : PySem.W.Frag} : OpN K (fun xs H Q => ∃ p ys, xs = [.ref p] ∧ ((SqL K H p ys ∧ ∀ l, H l = none → Q (.ref l) (upd H l (.tup ys))) ∨ (SqT K H p ys ∧ Q (.ref p) H))) tupleG := by
  intro H xs ds Q dr hx hg q
  unfold tupleG at hg
  split at hg
  · match hx with
    | .cons ⟨f, hx⟩ .nil =>
      obtain ⟨hf, rfl⟩ := ite_some hg
      obtain ⟨a, ys, g, rfl, h, l⟩ := hx.lstR
      exact ⟨a, ys, rfl, .inl ⟨h, fun p hp => q _ _ (fresh_tup (l.f0 hf) hp)⟩⟩
  · match hx with
    | .cons ⟨f, hx⟩ .nil =>
      obtain ⟨hf, rfl⟩ := ite_some hg
      obtain ⟨a, ys, rfl, h, l⟩ := hx.tupR
      exact ⟨a, ys, rfl, .inr ⟨h, q _ _ (Fresh.same (.tup h (l.f0 hf)))⟩⟩
  · cases hg
def joinD : D → D → Option D
  | .str a, .lst _ xs => (strsD xs).bind fun ys => if (ys.map (·.length)).sum + ys.length * a.length ≤ 16777216 then some (.str (Txt.join a ys)) else none
  | .str a, .tup xs => (strsD xs).bind fun ys => if (ys.map (·.length)).sum + ys.length * a.length ≤ 16777216 then some (.str (Txt.join a ys)) else none
  | _, _ => none
def rJoin (K : PySem.W.Frag) : V → List V → Hp → VK → Prop := fun x xs H Q => ∃ a p, ∃ ys : List Str, x = .str a ∧ xs = [.ref p] ∧ (SqL K H p (ys.map V.str) ∨ SqT K H p (ys.map V.str)) ∧ (ys.map (·.length)).sum + ys.length * a.length ≤ 16777216 ∧ Q (.str (Txt.join a ys)) H
theorem join_ok {K : PySem.W.Frag} : Op2 K (fun x y => rJoin K x [y]) joinD := by
  intro H x y d e f1 f2 Q dr hx hy hg q
  unfold joinD at hg
  split at hg
  · obtain ⟨ys, e1, e2⟩ := Option.bind_eq_some_iff.mp hg
    obtain ⟨h, rfl⟩ := ite_some e2
    obtain ⟨a, zs, g, rfl, h2, l⟩ := hy.lstR
    have e := strsD_v l e1
    subst e
    exact ⟨_, a, ys, hx.strR, rfl, .inl h2, h, q _ _ fresh_str⟩
  · obtain ⟨ys, e1, e2⟩ := Option.bind_eq_some_iff.mp hg
    obtain ⟨h, rfl⟩ := ite_some e2
    obtain ⟨a, zs, rfl, h2, l⟩ := hy.tupR
    have e := strsD_v l e1
    subst e
    exact ⟨_, a, ys, hx.strR, rfl, .inr h2, h, q _ _ fresh_str⟩
  · cases hg
section
variable {X : Cx} {c : Ct} {Ew : Xn → En → Prop} {o e : Expr} {pos apos : Pos} {fo fe : FO}
/-- methods of texts, one argument; the receiver a text -/
def isS : D → Bool
  | .str _ => true
  | _ => false
def fM1 (g : D → D → Option D) (fa fb : FO) : FE := fun ρ => (fa ρ).bind fun a ρ1 => match res a ρ1 with
  | some (.str z) => (fb ρ1).bind fun b ρ2 => match res b ρ2 with
    | some e => R.of (g (.str z) e) ρ2
    | none => .stk
  | _ => .stk
theorem de_m1 {id : String} {name : Str} {r : V → List V → Hp → VK → Prop} {g : D → D → Option D} (slot : Slot "str" name id) (ty : typeOf (.builtin id) = pure (.type "method_descriptor")) (rule : MtR X id r) (h : Op2 X.K (fun x y => r x [y]) g) (ho : DO X c Ew o fo) (he : DO X c Ew e fe)
    (hs : starEach [e] X.env = [(false, eval e X.env)] := by rfl) (hbase : attributeBase o name X.env (eval o X.env) = eval o X.env := by rfl) (hline : (apos.endLine == pos.line) = true := by rfl) :
    DE X c Ew (.Call (.Attribute o name apos) [e] [] pos) (fM1 g fo fe) := (pe_m1 slot ty rule ho he hs hbase hline).dimp fun σ H Q ⟨ρ, P, rp, q⟩ => by
  unfold fM1 at q
  rw [R.sat_bind] at q
  refine ⟨ρ, P, rp, q.imp fun a ρ1 q v H1 Pn r1 oka => ?_⟩
  split at q
  · rename_i z ea
    obtain ⟨f1, x⟩ := oka.dv r1 ea
    obtain rfl := x.strR
    refine ⟨⟨z, rfl⟩, ρ1, Pn ++ P, r1, ?_⟩
    rw [R.sat_bind] at q
    refine q.imp fun b ρ2 q u H2 Pm r2 okb => ?_
    split at q
    · rename_i e eb
      obtain ⟨f2, y⟩ := okb.dv r2 eb
      obtain ⟨dr, e1, q⟩ := R.of_sat q
      exact h H2 (.str z) u (.str z) e [] f2 Q dr (.str z) y e1 fun w H3 fr => q w H3 (Rp.fresh r2.pops.pops fr)
    · exact q.elim
  · exact q.elim
theorem de_join (ho : DO X c Ew o fo) (he : DO X c Ew e fe) (hs : starEach [e] X.env = [(false, eval e X.env)] := by rfl) (hbase : attributeBase o "join" X.env (eval o X.env) = eval o X.env := by rfl) (hline : (apos.endLine == pos.line) = true := by rfl) :
    DE X c Ew (.Call (.Attribute o "join" apos) [e] [] pos) (fM1 joinD fo fe) := de_m1 F.slot_str_join F.type_str_join (r := rJoin X.K) mt_join join_ok ho he hs hbase hline
end
end DL

namespace DL
open PySem PySem.Spec PyProof.Rows L2

/-! ### a def that may be called by its name -/
structure CalG (P : Program) (w : World) (K : PySem.W.Frag) (mg : Str → Option Value) (base : Heap) (k : Nat) (x : Str) (G : List D → GR) : Prop where
  ex : ∃ (f : Addr) (fd : FuncData) (ps : List Str), FnG P w K mg base k f fd ps G ∧ mg x = some (.ref f) ∧ PySem.W.keepIn K (.ref f) = true ∧ Binds K fd ps []
theorem FnG.mono {P : Program} {w : World} {K : PySem.W.Frag} {mg : Str → Option Value} {base : Heap} {j k : Nat} {f : Addr} {fd : FuncData} {ps : List Str} {G : List D → GR} (F : FnG P w K mg base j f fd ps G) (h : j ≤ k) : FnG P w K mg base k f fd ps G :=
  ⟨F.len, fun A outer s H args us vs Q ds fp hg hr => F.run A outer s H args us vs Q ds fp hg (hr.mono h)⟩
section
variable {X : Cx} {c : Ct} {Ew : Xn → En → Prop} {e : Expr} {es : List Expr} {pos p : Pos} {j k : Nat} {G : List D → GR} {x : Str} {fas : FLs}
theorem de_c1 (C : CalG X.prog X.w X.K X.mg X.base j x G) (hgu : X.A.guards = some []) (hr : Room k X.A) (hk : j ≤ k) (ha : DA X c Ew (e :: es) fas) (hg : Gl X x := by rfl) (hdb : (x == ("__debug__" : Str)) = false := by decide) (he : starEach (e :: es) X.env = (false, eval e X.env) :: starEach es X.env := by rfl) (hpl : (backTo pos (starEach es X.env)).any (·.1) = false := by rfl) :
    DE X c Ew (.Call (.Name x p) (e :: es) [] pos) (fCall G fas) := by
  obtain ⟨f, fd, ps, F, hm, kp, b⟩ := C.ex
  have := de_call (c := c) (Ew := Ew) (pos := pos) (p := p) (F.mono hk) hgu hr hg hm kp b .nil (fun _ => .nil) ha hdb he hpl
  have e0 : (fun ds => G (ds ++ [])) = G := by funext ds; rw [List.append_nil]
  rw [e0] at this
  exact this
theorem de_cM (C : CalG X.prog X.w X.K X.mg X.base j x G) (hgu : X.A.guards = some []) (hr : Room k X.A) (hk : j ≤ k) (ha : DA X c Ew (e :: es) fas) (hg : Gl X x := by rfl) (hdb : (x == ("__debug__" : Str)) = false := by decide) (he : starEach (e :: es) X.env = (false, eval e X.env) :: starEach es X.env := by rfl) (hpl : (backTo pos (starEach es X.env)).any (·.1) = false := by rfl) :
    DE X c Ew (.Call (.Name x p) (e :: es) [] pos) (fCallM G fas) := by
  obtain ⟨f, fd, ps, F, hm, kp, b⟩ := C.ex
  have := de_callM (c := c) (Ew := Ew) (pos := pos) (p := p) (F.mono hk) hgu hr hg hm kp b .nil (fun _ => .nil) ha hdb he hpl
  have e0 : (fun ds => G (ds ++ [])) = G := by funext ds; rw [List.append_nil]
  rw [e0] at this
  exact this
end
theorem calG_of {P : Program} {w : World} {K : PySem.W.Frag} {mg : Str → Option Value} {base : Heap} {st : Stmt} {fd : FuncData} {x : Str} {k : Nat} {f : Addr} {ps : List Str} {G : List D → GR} (F : L2.Fun K x x st f fd) (hm : mg x = some (.ref f)) (O : FnG P w K mg base k f fd ps G)
    (b : Binds K fd ps []) : CalG P w K mg base k x G := ⟨f, fd, ps, O, hm, F.kp, b⟩
/-! ### the law -/
theorem ints_dv {K : PySem.W.Frag} {H : Hp} : ∀ (ns : List Int), DvL K H (ns.map D.int) (ns.map V.int) []
  | [] => .nil
  | n :: ns => .cons (f1 := []) (f2 := []) (.int n) (ints_dv ns)
theorem script_dv {K : PySem.W.Frag} {H : Hp} {a : Addr} {ns : List Int} (ho : Only H) (h : SqL K H a (ns.map V.int)) : DvL K H [.lst false (ns.map D.int)] [.ref a] [] := by
  refine .cons (f1 := []) (f2 := []) (.flst ?_ (ints_dv ns)) .nil
  rcases h with (h | ⟨o, h⟩) | h
  · rcases ho a with z | ⟨o, xs, z⟩
    · rw [h] at z; cases z
    · rw [h] at z; cases z
  · exact .inl ⟨o, h⟩
  · exact .inr h
theorem end_law {P : Program} {w : World} {K : PySem.W.Frag} {mg mb : Str → Option Value} {k : Nat} {fa a : Addr} {fd : FuncData} {x : Str} {G : List D → GR} {s1 : Shared} {vs : List Value} {ns : List Int}
    (KX : K.In s1.heap) (hns : s1.heap.Ns mainGlobals mg) (hb : s1.heap.Ns builtinsNs mb) (hbb : ∀ x : Str, x ≠ "__name__" → mb x = bootBuiltins x) (hlim : s1.heap.NoLimit) (hg : s1.gens = #[])
    (ha : s1.heap.get? a = some { cls := .type "list", data := .seq vs.toArray }) (hi : IntsAre vs ns) (hl : ns.length ≤ sizeLine) (hr : Room k callerA)
    (F : ∀ base : Heap, FnG P w K mg base k fa fd [x] G) (bi : ∀ (s : Shared) (u : Value), BindsTo s fd ⟨[u], []⟩ [(x, u)]) (q : ∃ m, G [.lst false (ns.map D.int)] = .ok (.bl true) m) :
    codeAny (model P w) callerA (.call (.ref fa) ⟨[.ref a], []⟩) (fun r s' => r = .ok (.ret (.bool true)) ∧ OldK s1.heap s'.heap ∧ s'.os = s1.os ∧ AllBare s'.gens) s1 := by
  have rv := vals_ints hi
  have main : ∀ H : Hp, Only H → SqL K H a (ns.map V.int) → HOk P w H s1.heap → (∀ b, H b ≠ none → b = a) → (H a ≠ none → K.lookup a = none) →
      codeAny (model P w) callerA (.call (.ref fa) ⟨[.ref a], []⟩) (fun r s' => r = .ok (.ret (.bool true)) ∧ OldK s1.heap s'.heap ∧ s'.os = s1.os ∧ AllBare s'.gens) s1 := by
    intro H hO hS hok hA hK
    have at_ : ∀ {b : Addr} {o : Obj}, s1.heap.get? b = some o → H b = none → (hidT s1.heap H).get? b = some o := fun e n => hidT_get e n
    have dictN : ∀ {b : Addr} {o : Obj} {es : Array DictEntry} {ep : Nat}, s1.heap.get? b = some o → o.data = .dict es ep → H b = none := fun {b o es ep} e d => Classical.byContradiction fun z => by
      have e' : b = a := hA b z
      subst e'
      rw [ha] at e; cases e; cases d
    have spaces : ∀ {b : Addr} {m : Str → Option Value}, s1.heap.Ns b m → (hidT s1.heap H).Ns b m := fun {b m} ⟨o, es, ep, e, d, r⟩ => ⟨o, es, ep, at_ e (dictN e d), d, r⟩
    have KB : K.In (hidT s1.heap H) := fun b o e => at_ (KX b o e) (Classical.byContradiction fun z => by
      have e' : b = a := hA b z
      subst e'
      rw [hK z] at e; cases e)
    obtain ⟨mc, lm1, lm2⟩ := hlim
    have M : Mod K mg (hidT s1.heap H) := ⟨KB, spaces hns, ⟨mb, spaces hb, hbb⟩, mc, spaces lm1, lm2⟩
    have E : Env0 P w K mg (hidT s1.heap H) callerA [] s1 H := ⟨rfl, M, fun b o e => of_hidT e, Nat.le_of_eq (hidT_size _ _), trivial, fun b hb => (List.not_mem_nil hb).elim, hok, .of_eq hg⟩
    obtain ⟨m, q⟩ := q
    refine codeAny_mono ((F (hidT s1.heap H)).run callerA [] s1 H ⟨[.ref a], []⟩ [.ref a] [.ref a] (fun v _ => v = .bl true) _ [] rfl hr E (bi s1 (.ref a)) (.cons rfl .nil) (script_dv hO hS) List.nodup_nil (by
      rw [q]
      intro v H' fp' _ l _ _
      obtain ⟨f1, f2, _, y, _⟩ := l.uncons
      exact y.blR)) fun r s' h => ?_
    cases r with
    | error e => exact h.elim
    | ok fl =>
      cases fl with
      | ret u =>
        obtain ⟨v, H', os, bare, un, hok', ru, q⟩ := h
        have q' : v = .bl true := q
        subst q'
        obtain rfl : u = Value.bool true := ru
        refine ⟨rfl, OldK.of_keep fun b o e => ?_, os, bare⟩
        rcases hO b with z | ⟨ob, xs, z⟩
        · exact un.keep b o e z (fun y => (List.not_mem_nil (show b ∈ ([] : List Addr) from y)).elim) (by simp)
        · obtain ⟨e1, _⟩ := hok b _ z
          obtain ⟨e2, _⟩ := hok' b _ (un.frzs b ob _ z)
          rw [e] at e1; cases e1
          exact e2
      | _ => exact h.elim
  cases hk : K.lookup a with
  | some o =>
    have e := KX a o hk
    rw [ha] at e
    cases e
    exact main (fun _ => none) (fun _ => .inl rfl) (.inr ⟨_, vs.toArray, _, hk, rfl, rfl, rfl, by rw [List.size_toArray, hi.length]; exact hl, by simpa using rv⟩) (fun b u z => nomatch (show (none : Option HO) = some u from z)) (fun b z => absurd rfl z) fun z => absurd rfl z
  | none =>
    let H : Hp := fun b => if b = a then some (.frz { cls := .type "list", data := .seq vs.toArray } (.lst (ns.map V.int))) else none
    have h1 : H a = some (.frz { cls := .type "list", data := .seq vs.toArray } (.lst (ns.map V.int))) := if_pos rfl
    have h2 : ∀ b, b ≠ a → H b = none := fun b z => if_neg z
    refine main H (fun b => ?_) (.inl (.inr ⟨_, h1⟩)) (fun b u z => ?_) (fun b z => Classical.byContradiction fun y => z (h2 b y)) fun _ => hk
    · by_cases z : b = a
      · rw [z]; exact .inr ⟨_, _, h1⟩
      · exact .inl (h2 b z)
    · by_cases y : b = a
      · subst y
        rw [h1] at z; cases z
        exact ⟨ha, by rw [List.length_map]; exact hl, vs, _, rv, ha⟩
      · rw [h2 b y] at z; cases z
theorem walkG {l : PySem.W.OpenLaw} {n k : Nat} {q : Program} {loose : List Str} {XP : (Str → Option Value) → Heap → Prop} {YP : World → Heap → Prop} {d : DefRec} {K : Params → PySem.W.Frag} {x : Str} {G : List D → GR}
    (hn : l.most = some n) (hn2 : n ≤ sizeLine) (hdf : d.params.defaults = []) (hr : Room k callerA) (hY : ∀ (w : World) (h : Heap), YP w h → (K w.params).In h)
    (F : ∀ (w : World) (mg : Str → Option Value) (fa : Addr) (h : Heap), (K w.params).In h → h.Ns mainGlobals mg → mg d.name = some (.ref fa) →
      ∃ fd : FuncData, (∀ (s : Shared) (u : Value), BindsTo s fd ⟨[u], []⟩ [(x, u)]) ∧ ∀ base : Heap, FnG l.prog w (K w.params) mg base k fa fd [x] G)
    (law : ∀ ns : List Int, ns.length ≤ n → ∃ m, G [.lst false (ns.map D.int)] = .ok (.bl true) m) : PySem.W.WalkO q loose XP YP l.row.toRowW d [] (fun f vs => PySem.call f vs) := by
  refine Att.attach_call hn hdf fun w s₀ s1 mg mb fa o pm cd doc a vs ns G Y _ _ _ hmg hobj hints hlen hg => ?_
  obtain ⟨fd, b, O⟩ := F w mg fa _ (hY w _ Y) G.T.g hmg
  exact end_law (hY w _ Y) G.T.g G.T.b G.T.builtins G.T.nolimit hg hobj hints (Nat.le_trans hlen hn2) hr O b (law ns hlen)
end DL

namespace DL
open PySem PySem.Spec PyProof.Rows L2

/-! ### small things for printed derivations -/
theorem u1 {k : Nat} {A : PySem.Around} (h : Room k A) : A.units + 1 < cLine := by have := h.un; omega
theorem u64 {k : Nat} {A : PySem.Around} (h : Room k A) : A.units + 64 < cLine := by have := h.un; omega
theorem u65 {k : Nat} {A : PySem.Around} (h : Room k A) : A.units + 65 < cLine := by have := h.un; omega
theorem nz {c : Ct} {Z : List Nat} (h : c.Z = Z) {i : Nat} (hd : decide (i ∈ Z) = false) : i ∉ c.Z := by
  rw [h]; exact of_decide_eq_false hd
def GInt (mg : Str → Option Value) (x : Str) (i : Int) : Prop := ∃ t, mg x = some (.int i t)
def GStr (mg : Str → Option Value) (x : Str) (z : Str) : Prop := ∃ t, mg x = some (.str z t)
section
variable {X : Cx} {c : Ct} {Ew : Xn → En → Prop} {x : Str} {pos : Pos}
theorem de_gint {i : Int} (h : GInt X.mg x i) (hg : Gl X x := by rfl) (hd : (x == ("__debug__" : Str)) = false := by decide) : DE X c Ew (.Name x pos) (fC (.int i)) := by
  obtain ⟨t, h⟩ := h
  exact de_glob (v := .int i) h hg ⟨t, rfl⟩ (fun _ => .int i) hd
theorem de_gstr {i : Str} (h : GStr X.mg x i) (hg : Gl X x := by rfl) (hd : (x == ("__debug__" : Str)) = false := by decide) : DE X c Ew (.Name x pos) (fC (.str i)) := by
  obtain ⟨t, h⟩ := h
  exact de_glob (v := .str i) h hg ⟨t, rfl⟩ (fun _ => .str i) hd
/-- a built-in class as a value -/
theorem de_ty {T : String} (hm : X.mg x = none) (hv : bootBuiltins x = some (.type T)) (hg : Gl X x := by rfl) (hn : x ≠ "__name__" := by decide) (hd : (x == ("__debug__" : Str)) = false := by decide) : DE X c Ew (.Name x pos) (fC (.opq (.ty T))) :=
  de_c (pe_bltn (v := .ty T) hg hm hv rfl hn hd) fun _ => .opq _
end
theorem le_ok {K : PySem.W.Frag} : Op2 K (rI0 fun i j => .bl (decide (i ≤ j))) leD := cmpI_ok
theorem gt_ok {K : PySem.W.Frag} : Op2 K (rI0 fun i j => .bl (decide (j < i))) gtD := cmpI_ok
theorem ge_ok {K : PySem.W.Frag} : Op2 K (rI0 fun i j => .bl (decide (j ≤ i))) geD := cmpI_ok
/-- in place, of ints -/
def iaddD : D → D → Option D
  | .int i, .int j => some (.int (i + j))
  | _, _ => none
theorem iadd_ok {K : PySem.W.Frag} : Op2 K (rI0 fun i j => .int (i + j)) iaddD := by
  intro H x y d e f1 f2 Q dr hx hy hg q
  unfold iaddD at hg
  split at hg
  · cases hg
    exact ⟨_, _, hx.intR, hy.intR, q _ _ fresh_int⟩
  · cases hg
theorem bt_len : bootBuiltins "len" = some (.builtin "len") := by first | exact PySem.boot_len | exact PyProof.Rows.boot_len | rfl | decide +kernel
theorem bt_range : bootBuiltins "range" = some (.type "range") := by first | exact PySem.boot_range | exact PyProof.Rows.boot_range | rfl | decide +kernel
theorem bt_zip : bootBuiltins "zip" = some (.type "zip") := by first | exact PySem.boot_zip | exact PyProof.Rows.boot_zip | rfl | decide +kernel
theorem bt_enumerate : bootBuiltins "enumerate" = some (.type "enumerate") := by first | exact PySem.boot_enumerate | exact PyProof.Rows.boot_enumerate | rfl | decide +kernel
theorem bt_isinstance : bootBuiltins "isinstance" = some (.builtin "isinstance") := by first | exact PySem.boot_isinstance | exact PyProof.Rows.boot_isinstance | rfl | decide +kernel
theorem bt_int : bootBuiltins "int" = some (.type "int") := by first | exact PySem.boot_int | exact PyProof.Rows.boot_int | rfl | decide +kernel
theorem bt_str : bootBuiltins "str" = some (.type "str") := by first | exact PySem.boot_str | exact PyProof.Rows.boot_str | rfl | decide +kernel
theorem bt_bool : bootBuiltins "bool" = some (.type "bool") := by first | exact PySem.boot_bool | exact PyProof.Rows.boot_bool | rfl | decide +kernel
theorem bt_list : bootBuiltins "list" = some (.type "list") := by first | exact PySem.boot_list | exact PyProof.Rows.boot_list | rfl | decide +kernel
theorem bt_tuple : bootBuiltins "tuple" = some (.type "tuple") := by first | exact PySem.boot_tuple | exact PyProof.Rows.boot_tuple | rfl | decide +kernel
theorem bt_dict : bootBuiltins "dict" = some (.type "dict") := by first | exact PySem.boot_dict | exact PyProof.Rows.boot_dict | rfl | decide +kernel
theorem bt_set : bootBuiltins "set" = some (.type "set") := by first | exact PySem.boot_set | exact PyProof.Rows.boot_set | rfl | decide +kernel
theorem bt_sum : bootBuiltins "sum" = some (.builtin "sum") := by first | exact PySem.boot_sum | exact PyProof.Rows.boot_sum | rfl | decide +kernel
theorem bt_min : bootBuiltins "min" = some (.builtin "min") := by first | exact PySem.boot_min | exact PyProof.Rows.boot_min | rfl | decide +kernel
theorem bt_max : bootBuiltins "max" = some (.builtin "max") := by first | exact PySem.boot_max | exact PyProof.Rows.boot_max | rfl | decide +kernel
theorem bt_any : bootBuiltins "any" = some (.builtin "any") := by first | exact PySem.boot_any | exact PyProof.Rows.boot_any | rfl | decide +kernel
theorem bt_all : bootBuiltins "all" = some (.builtin "all") := by first | exact PySem.boot_all | exact PyProof.Rows.boot_all | rfl | decide +kernel
theorem bt_repr : bootBuiltins "repr" = some (.builtin "repr") := by first | exact PySem.boot_repr | exact PyProof.Rows.boot_repr | rfl | decide +kernel
theorem bt_sorted : bootBuiltins "sorted" = some (.builtin "sorted") := by first | exact PySem.boot_sorted | exact PyProof.Rows.boot_sorted | rfl | decide +kernel
theorem bt_abs : bootBuiltins "abs" = some (.builtin "abs") := by first | exact PySem.boot_abs | exact PyProof.Rows.boot_abs | rfl | decide +kernel
theorem bt_reversed : bootBuiltins "reversed" = some (.type "reversed") := by first | exact PySem.boot_reversed | exact PyProof.Rows.boot_reversed | rfl | decide +kernel
theorem bt_ord : bootBuiltins "ord" = some (.builtin "ord") := by first | exact PySem.boot_ord | exact PyProof.Rows.boot_ord | rfl | decide +kernel
theorem bt_chr : bootBuiltins "chr" = some (.builtin "chr") := by first | exact PySem.boot_chr | exact PyProof.Rows.boot_chr | rfl | decide +kernel
theorem bt_divmod : bootBuiltins "divmod" = some (.builtin "divmod") := by first | exact PySem.boot_divmod | exact PyProof.Rows.boot_divmod | rfl | decide +kernel
theorem bt_frozenset : bootBuiltins "frozenset" = some (.type "frozenset") := by first | exact PySem.boot_frozenset | exact PyProof.Rows.boot_frozenset | rfl | decide +kernel
theorem bt_iter : bootBuiltins "iter" = some (.builtin "iter") := by first | exact PySem.boot_iter | exact PyProof.Rows.boot_iter | rfl | decide +kernel
theorem bt_next : bootBuiltins "next" = some (.builtin "next") := by first | exact PySem.boot_next | exact PyProof.Rows.boot_next | rfl | decide +kernel
theorem bt_type : bootBuiltins "type" = some (.type "type") := by first | exact PySem.boot_type | exact PyProof.Rows.boot_type | rfl | decide +kernel
theorem bt_float : bootBuiltins "float" = some (.type "float") := by first | exact PySem.boot_float | exact PyProof.Rows.boot_float | rfl | decide +kernel
theorem bt_bytes : bootBuiltins "bytes" = some (.type "bytes") := by first | exact PySem.boot_bytes | exact PyProof.Rows.boot_bytes | rfl | decide +kernel
theorem bt_map : bootBuiltins "map" = some (.type "map") := by first | exact PySem.boot_map | exact PyProof.Rows.boot_map | rfl | decide +kernel
theorem bt_object : bootBuiltins "object" = some (.type "object") := by first | exact PySem.boot_object | exact PyProof.Rows.boot_object | rfl | decide +kernel
end DL

namespace DL
open PySem PySem.Spec PyProof.Rows L2

/-! ### the functions, evaluated step by step (by simp) -/
section
variable {α β : Type} {ρ ρ' : En} {d e : D} {a b : Ar} {xs : En} {o : Option D} {i : Nat}
theorem slot_0 : slot (some d :: xs) 0 = some d := rfl
theorem slot_n : slot (none :: xs) 0 = none := rfl
theorem slot_s : slot (o :: xs) (i + 1) = slot xs i := rfl
theorem res_v : res (.val d) ρ = some d := rfl
theorem res_l : res (.loc i) ρ = slot ρ i := rfl
theorem ev_C : fC d ρ = .ok d ρ := rfl
def kName (i : Nat) (ρ : En) : Option D → R D
  | some d => .ok d.frz (ρ.set i (some d.frz))
  | none => .stk
theorem ev_Name : fName i ρ = kName i ρ (slot ρ i) := by unfold fName kName; rfl
theorem ev_Name1 : kName i ρ (some d) = .ok d.frz (ρ.set i (some d.frz)) := rfl
def kMove (i : Nat) (ρ : En) : Option D → R D
  | some d => .ok d (ρ.set i none)
  | none => .stk
theorem ev_Move : fMove i ρ = kMove i ρ (slot ρ i) := by unfold fMove kMove; rfl
theorem ev_Move1 : kMove i ρ (some d) = .ok d (ρ.set i none) := rfl
def kLoc (i : Nat) (ρ : En) : Option D → R Ar
  | some _ => .ok (.loc i) ρ
  | none => .stk
theorem ev_Loc : fLoc i ρ = kLoc i ρ (slot ρ i) := by unfold fLoc kLoc; rfl
theorem ev_Loc1 : kLoc i ρ (some d) = .ok (.loc i) ρ := rfl
def kVal (d : D) (ρ : En) : R Ar := .ok (.val d) ρ
theorem ev_Val {f : FE} : fVal f ρ = (f ρ).bind kVal := rfl
theorem ev_Val1 : kVal d ρ = .ok (.val d) ρ := rfl
def kFz (d : D) (ρ : En) : R D := .ok d.frz ρ
theorem ev_Fz {f : FE} : fFz f ρ = (f ρ).bind kFz := rfl
theorem ev_Fz1 : kFz d ρ = .ok d.frz ρ := rfl
/-- operators -/
def kL2 (g : D → D → Option D) (ρ : En) : Option D → Option D → R D
  | some d, some e => R.of (g d e) ρ
  | _, _ => .stk
theorem ev_l2 {g : D → D → Option D} : lift2 g a b ρ = kL2 g ρ (res a ρ) (res b ρ) := by unfold lift2 kL2; rfl
theorem ev_l21 {g : D → D → Option D} : kL2 g ρ (some d) (some e) = R.of (g d e) ρ := rfl
def kL1 (g : D → Option D) (ρ : En) : Option D → R D
  | some d => R.of (g d) ρ
  | _ => .stk
theorem ev_l1 {g : D → Option D} : lift1 g a ρ = kL1 g ρ (res a ρ) := by unfold lift1 kL1; rfl
theorem ev_l11 {g : D → Option D} : kL1 g ρ (some d) = R.of (g d) ρ := rfl
def kBin (g : D → D → Option D) (fb : FO) (a : Ar) (ρ : En) : R D := (fb ρ).bind (lift2 g a)
theorem ev_Bin {g : D → D → Option D} {fa fb : FO} : fBin g fa fb ρ = (fa ρ).bind (kBin g fb) := rfl
theorem ev_Bin1 {g : D → D → Option D} {fb : FO} : kBin g fb a ρ = (fb ρ).bind (lift2 g a) := rfl
theorem ev_Un {g : D → Option D} {fa : FO} : fUn g fa ρ = (fa ρ).bind (lift1 g) := rfl
theorem ev_Tst {f : FE} : fTst f ρ = (f ρ).bind asB := rfl
theorem ev_asB {b : Bool} : asB (.bl b) ρ = .ok b ρ := rfl
def kNot (b : Bool) (ρ : En) : R Bool := .ok (!b) ρ
theorem ev_NotT {f : FB} : fNotT f ρ = (f ρ).bind kNot := rfl
theorem ev_NotT1 {b : Bool} : kNot b ρ = .ok (!b) ρ := rfl
def kAndT (g : FB) (b : Bool) (ρ : En) : R Bool := if b then g ρ else .ok false ρ
theorem ev_AndT {f g : FB} : fAndT f g ρ = (f ρ).bind (kAndT g) := rfl
theorem ev_AndT1 {g : FB} {b : Bool} : kAndT g b ρ = if b then g ρ else .ok false ρ := rfl
def kOrT (g : FB) (b : Bool) (ρ : En) : R Bool := if b then .ok true ρ else g ρ
theorem ev_OrT {f g : FB} : fOrT f g ρ = (f ρ).bind (kOrT g) := rfl
theorem ev_OrT1 {g : FB} {b : Bool} : kOrT g b ρ = if b then .ok true ρ else g ρ := rfl
def kAndV (g : FE) (b : Bool) (ρ : En) : R D := if b then g ρ else .ok (.bl false) ρ
theorem ev_AndV {f g : FE} : fAndV f g ρ = ((f ρ).bind asB).bind (kAndV g) := by
  unfold fAndV kAndV
  cases f ρ <;> rfl
theorem ev_AndV1 {g : FE} {b : Bool} : kAndV g b ρ = if b then g ρ else .ok (.bl false) ρ := rfl
def kOrV (g : FE) (b : Bool) (ρ : En) : R D := if b then .ok (.bl true) ρ else g ρ
theorem ev_OrV {f g : FE} : fOrV f g ρ = ((f ρ).bind asB).bind (kOrV g) := by
  unfold fOrV kOrV
  cases f ρ <;> rfl
theorem ev_OrV1 {g : FE} {b : Bool} : kOrV g b ρ = if b then .ok (.bl true) ρ else g ρ := rfl
def kNotV (b : Bool) (ρ : En) : R D := .ok (.bl (!b)) ρ
theorem ev_NotV {f : FE} : fNotV f ρ = ((f ρ).bind asB).bind kNotV := by
  unfold fNotV kNotV
  cases f ρ <;> rfl
theorem ev_NotV1 {b : Bool} : kNotV b ρ = .ok (.bl (!b)) ρ := rfl
def kIf (f g : FE) (b : Bool) (ρ : En) : R D := if b then f ρ else g ρ
theorem ev_If {t : FB} {f g : FE} : fIf t f g ρ = (t ρ).bind (kIf f g) := rfl
theorem ev_If1 {f g : FE} {b : Bool} : kIf f g b ρ = if b then f ρ else g ρ := rfl
def kCh1 (g g' : D → D → Option D) (fb fc : FO) (a : Ar) (ρ : En) : R D := (fb ρ).bind fun b ρ2 => (lift2 g a b ρ2).bind fun z ρ3 => (asB z ρ3).bind fun k ρ4 => if k then (fc ρ4).bind fun d ρ5 => lift2 g' b d ρ5 else .ok (.bl false) ρ4
def kCh2 (g g' : D → D → Option D) (fc : FO) (a b : Ar) (ρ : En) : R D := (lift2 g a b ρ).bind fun z ρ3 => (asB z ρ3).bind fun k ρ4 => if k then (fc ρ4).bind fun d ρ5 => lift2 g' b d ρ5 else .ok (.bl false) ρ4
def kCh3 (g' : D → D → Option D) (fc : FO) (b : Ar) (k : Bool) (ρ : En) : R D := if k then (fc ρ).bind (lift2 g' b) else .ok (.bl false) ρ
theorem ev_Ch {g g' : D → D → Option D} {fa fb fc : FO} : fChain g g' fa fb fc ρ = (fa ρ).bind (kCh1 g g' fb fc) := rfl
theorem ev_Ch1 {g g' : D → D → Option D} {fb fc : FO} : kCh1 g g' fb fc a ρ = (fb ρ).bind (kCh2 g g' fc a) := rfl
theorem ev_Ch2 {g g' : D → D → Option D} {fc : FO} : kCh2 g g' fc a b ρ = ((lift2 g a b ρ).bind asB).bind (kCh3 g' fc b) := by
  unfold kCh2 kCh3
  cases lift2 g a b ρ <;> rfl
theorem ev_Ch3 {g' : D → D → Option D} {fc : FO} {k : Bool} : kCh3 g' fc b k ρ = if k then (fc ρ).bind (lift2 g' b) else .ok (.bl false) ρ := rfl
/-- arguments, calls -/
theorem ev_Nil : fNil ρ = .ok [] ρ := rfl
def kCons1 (g : FLs) (a : Ar) (ρ : En) : R (List Ar) := (g ρ).bind fun as ρ2 => .ok (a :: as) ρ2
def kCons2 (a : Ar) (as : List Ar) (ρ : En) : R (List Ar) := .ok (a :: as) ρ
theorem ev_Cons {f : FO} {g : FLs} : fCons f g ρ = (f ρ).bind (kCons1 g) := rfl
theorem ev_Cons1 {g : FLs} : kCons1 g a ρ = (g ρ).bind (kCons2 a) := rfl
theorem ev_Cons2 {as : List Ar} : kCons2 a as ρ = .ok (a :: as) ρ := rfl
def oc : Option D → Option (List D) → Option (List D)
  | some d, some ds => some (d :: ds)
  | _, _ => none
theorem oc_s {ds : List D} : oc (some d) (some ds) = some (d :: ds) := rfl
theorem ress_0 : ress [] ρ = some [] := rfl
theorem ress_s {as : List Ar} : ress (a :: as) ρ = oc (res a ρ) (ress as ρ) := rfl
def ocF : Option D → Option (List D) → Option (List D)
  | some d, some ds => if d.isF then some (d :: ds) else none
  | _, _ => none
theorem ocF_s {ds : List D} : ocF (some d) (some ds) = if d.isF then some (d :: ds) else none := rfl
theorem resF_0 : resF ρ [] = some [] := rfl
theorem resF_s {as : List Ar} : resF ρ (a :: as) = ocF (res a ρ) (resF ρ as) := rfl
def kLN (g : List D → Option D) (ρ : En) : Option (List D) → R D
  | some ds => R.of (g ds) ρ
  | none => .stk
theorem ev_lN {g : List D → Option D} {as : List Ar} : liftN g as ρ = kLN g ρ (ress as ρ) := by unfold liftN kLN; rfl
theorem ev_lN1 {g : List D → Option D} {ds : List D} : kLN g ρ (some ds) = R.of (g ds) ρ := rfl
theorem ev_CallB {g : List D → Option D} {fs : FLs} : fCallB g fs ρ = (fs ρ).bind (liftN g) := rfl
/-- a def's end -/
def kRet (ρ : En) : GR → R D
  | .ok d [] => .ok d ρ
  | _ => .stk
theorem kRet_ok : kRet ρ (.ok d []) = .ok d ρ := rfl
def kCall1 (G : List D → GR) (ρ : En) : Option (List D) → R D
  | some ds => kRet ρ (G ds)
  | none => .stk
def kCall (G : List D → GR) (as : List Ar) (ρ : En) : R D := kCall1 G ρ (resF ρ as)
theorem ev_Call {G : List D → GR} {fas : FLs} : fCall G fas ρ = (fas ρ).bind (kCall G) := by
  unfold fCall kCall kCall1 kRet
  congr 1
theorem ev_Call1 {G : List D → GR} {as : List Ar} : kCall G as ρ = kCall1 G ρ (resF ρ as) := rfl
theorem ev_Call2 {G : List D → GR} {ds : List D} : kCall1 G ρ (some ds) = kRet ρ (G ds) := rfl
def kRetM (i : Nat) (ρ : En) : GR → R D
  | .ok d [d1] => .ok d (ρ.set i (some d1))
  | _ => .stk
theorem kRetM_ok : kRetM i ρ (.ok d [e]) = .ok d (ρ.set i (some e)) := rfl
def kCallM1 (G : List D → GR) (i : Nat) (ρ : En) : Option D → Option (List D) → R D
  | some d0, some ds => kRetM i ρ (G (d0 :: ds))
  | _, _ => .stk
def kCallM (G : List D → GR) : List Ar → En → R D
  | .loc i :: as, ρ => kCallM1 G i ρ (slot ρ i) (resF (ρ.set i none) as)
  | _, _ => .stk
theorem ev_CallM {G : List D → GR} {fas : FLs} : fCallM G fas ρ = (fas ρ).bind (kCallM G) := by
  unfold fCallM
  congr 1
  funext as ρ1
  cases as with
  | nil => rfl
  | cons a as =>
    cases a with
    | val d => rfl
    | loc i =>
      show (match slot ρ1 i, resF (ρ1.set i none) as with
        | some d0, some ds => (match G (d0 :: ds) with
          | .ok d [d1] => R.ok d (ρ1.set i (some d1))
          | _ => .stk)
        | _, _ => .stk) = kCallM1 G i ρ1 (slot ρ1 i) (resF (ρ1.set i none) as)
      cases slot ρ1 i with
      | none => rfl
      | some d0 => cases resF (ρ1.set i none) as with
        | none => rfl
        | some ds =>
          show (match G (d0 :: ds) with
            | .ok d [d1] => R.ok d (ρ1.set i (some d1))
            | _ => .stk) = kRetM i ρ1 (G (d0 :: ds))
          cases G (d0 :: ds) with
          | ok d m => cases m with
            | nil => rfl
            | cons d1 m => cases m <;> rfl
          | _ => rfl
theorem ev_CallM1 {G : List D → GR} {as : List Ar} : kCallM G (.loc i :: as) ρ = kCallM1 G i ρ (slot ρ i) (resF (ρ.set i none) as) := rfl
theorem ev_CallM2 {G : List D → GR} {ds : List D} : kCallM1 G i ρ (some d) (some ds) = kRetM i ρ (G (d :: ds)) := rfl
/-- methods of texts -/
def kM2 (g : D → D → Option D) (z : Str) (ρ : En) : Option D → R D
  | some e => R.of (g (.str z) e) ρ
  | none => .stk
def kM1b (g : D → D → Option D) (z : Str) (b : Ar) (ρ : En) : R D := kM2 g z ρ (res b ρ)
def kM1a (g : D → D → Option D) (fb : FO) (ρ : En) : Option D → R D
  | some (.str z) => (fb ρ).bind (kM1b g z)
  | _ => .stk
def kM1 (g : D → D → Option D) (fb : FO) (a : Ar) (ρ : En) : R D := kM1a g fb ρ (res a ρ)
theorem ev_M1 {g : D → D → Option D} {fa fb : FO} : fM1 g fa fb ρ = (fa ρ).bind (kM1 g fb) := by
  unfold fM1
  congr 1
theorem ev_M11 {g : D → D → Option D} {fb : FO} : kM1 g fb a ρ = kM1a g fb ρ (res a ρ) := rfl
theorem ev_M12 {g : D → D → Option D} {fb : FO} {z : Str} : kM1a g fb ρ (some (.str z)) = (fb ρ).bind (kM1b g z) := rfl
theorem ev_M13 {g : D → D → Option D} {z : Str} : kM1b g z b ρ = kM2 g z ρ (res b ρ) := rfl
theorem ev_M14 {g : D → D → Option D} {z : Str} : kM2 g z ρ (some e) = R.of (g (.str z) e) ρ := rfl
/-- parts of parts -/
def kPk (g : D → D → Option D) (ρ : En) : Option D → Option D → R D
  | some d, some e => R.of (g d e) ρ
  | _, _ => .stk
theorem ev_Pk {g : D → D → Option D} {k : Key} {gb : En → Option D} : fPk g i k gb ρ = kPk g ρ (pk ρ i k) (gb ρ) := rfl
theorem ev_Pk1 {g : D → D → Option D} : kPk g ρ (some d) (some e) = R.of (g d e) ρ := rfl
def kPkSl (lo hi : Option Int) (ρ : En) : Option D → R D
  | some d => R.of (slD d lo hi) ρ
  | none => .stk
theorem ev_PkSl {k : Key} {lo hi : Option Int} : fPkSl i k lo hi ρ = kPkSl lo hi ρ (pk ρ i k) := rfl
theorem ev_PkSl1 {lo hi : Option Int} : kPkSl lo hi ρ (some d) = R.of (slD d lo hi) ρ := rfl
def pk1 (k : Key) : Option D → Option D
  | some (.dic _ ks ds) => (kIx ks k).bind fun j => ds[j]?
  | _ => none
theorem ev_pk {k : Key} : pk ρ i k = pk1 k (slot ρ i) := rfl
theorem ev_pk1 {k : Key} {m : Bool} {ks : List Key} {ds : List D} : pk1 k (some (.dic m ks ds)) = (kIx ks k).bind fun j => ds[j]? := rfl
/-- slices -/
def kPrt (ρ : En) : Option D → R (Option Int)
  | some (.int i) => .ok (some i) ρ
  | _ => .stk
def kPrt0 (a : Ar) (ρ : En) : R (Option Int) := kPrt ρ (res a ρ)
theorem prt_n : prt none ρ = .ok none ρ := rfl
theorem prt_s {f : FO} : prt (some f) ρ = (f ρ).bind kPrt0 := by
  show (f ρ).bind _ = _
  congr 1
theorem prt_1 : kPrt0 a ρ = kPrt ρ (res a ρ) := rfl
theorem prt_2 {j : Int} : kPrt ρ (some (.int j)) = .ok (some j) ρ := rfl
def kSl3 (l u : Option Int) (ρ : En) : Option D → R D
  | some d => R.of (slD d l u) ρ
  | none => .stk
def kSl2 (a : Ar) (l : Option Int) (u : Option Int) (ρ : En) : R D := kSl3 l u ρ (res a ρ)
def kSl1 (hi : FP) (a : Ar) (l : Option Int) (ρ : En) : R D := (prt hi ρ).bind (kSl2 a l)
def kSl0 (lo hi : FP) (a : Ar) (ρ : En) : R D := (prt lo ρ).bind (kSl1 hi a)
theorem ev_Sl {fa : FO} {lo hi : FP} : fSl fa lo hi ρ = (fa ρ).bind (kSl0 lo hi) := by
  unfold fSl kSl0 kSl1 kSl2 kSl3
  rfl
theorem ev_Sl0 {lo hi : FP} : kSl0 lo hi a ρ = (prt lo ρ).bind (kSl1 hi a) := rfl
theorem ev_Sl1 {hi : FP} {l : Option Int} : kSl1 hi a l ρ = (prt hi ρ).bind (kSl2 a l) := rfl
theorem ev_Sl2 {l u : Option Int} : kSl2 a l u ρ = kSl3 l u ρ (res a ρ) := rfl
theorem ev_Sl3 {l u : Option Int} : kSl3 l u ρ (some d) = R.of (slD d l u) ρ := rfl
/-- an item of a dict -/
def kDG2 (i : Nat) (m : Bool) (ks : List Key) (ds : List D) (ρ : En) (j : Nat) : Option D → R D
  | some d => if m then .ok d.frz (ρ.set i (some (.dic true ks (ds.set j d.frz)))) else .ok d ρ
  | none => .stk
def kDG1 (i : Nat) (m : Bool) (ks : List Key) (ds : List D) (ρ : En) : Option Nat → R D
  | some j => kDG2 i m ks ds ρ j ds[j]?
  | none => .stk
def kDG0 (i : Nat) (ρ : En) : Option Key → Option D → R D
  | some k, some (.dic m ks ds) => kDG1 i m ks ds ρ (kIx ks k)
  | _, _ => .stk
def kDG (i : Nat) (a : Ar) (ρ : En) : R D := kDG0 i ρ ((res a ρ).bind D.key) (slot ρ i)
def kDGs (i : Nat) (fk : FO) (ρ : En) : Option D → R D
  | some _ => (fk ρ).bind (kDG i)
  | none => .stk
theorem ev_DG {fk : FO} : fDGet i fk ρ = kDGs i fk ρ (slot ρ i) := by
  unfold fDGet kDGs
  cases slot ρ i with
  | none => rfl
  | some d0 =>
    show (fk ρ).bind _ = (fk ρ).bind _
    congr 1
theorem ev_DGs {fk : FO} : kDGs i fk ρ (some d) = (fk ρ).bind (kDG i) := rfl
theorem ev_DG0 : kDG i a ρ = kDG0 i ρ ((res a ρ).bind D.key) (slot ρ i) := rfl
theorem ev_DG1 {k : Key} {m : Bool} {ks : List Key} {ds : List D} : kDG0 i ρ (some k) (some (.dic m ks ds)) = kDG1 i m ks ds ρ (kIx ks k) := rfl
theorem ev_DG2 {m : Bool} {ks : List Key} {ds : List D} {j : Nat} : kDG1 i m ks ds ρ (some j) = kDG2 i m ks ds ρ j ds[j]? := rfl
theorem ev_DG3 {ks : List Key} {ds : List D} {j : Nat} : kDG2 i true ks ds ρ j (some d) = .ok d.frz (ρ.set i (some (.dic true ks (ds.set j d.frz)))) := rfl
theorem ev_DG4 {ks : List Key} {ds : List D} {j : Nat} : kDG2 i false ks ds ρ j (some d) = .ok d ρ := rfl
/-- displays of dicts -/
def kPair2 (d : D) (ds : List D) (ρ : En) : R (List D) := .ok (d :: ds) ρ
def kPair1 (fs : List (Key × FE)) (d : D) (ρ : En) : R (List D) := (pairF fs ρ).bind (kPair2 d)
theorem ev_P0 : pairF [] ρ = .ok [] ρ := rfl
theorem ev_P1 {k : Key} {f : FE} {fs : List (Key × FE)} : pairF ((k, f) :: fs) ρ = (f ρ).bind (kPair1 fs) := rfl
theorem ev_P2 {fs : List (Key × FE)} : kPair1 fs d ρ = (pairF fs ρ).bind (kPair2 d) := rfl
theorem ev_P3 {ds : List D} : kPair2 d ds ρ = .ok (d :: ds) ρ := rfl
def kDisp (ks : List Key) (ds : List D) (ρ : En) : R D := R.of ((mergeD [] [] ks ds).map fun p => .dic true p.1 p.2) ρ
theorem ev_Disp {fs : List (Key × FE)} : fDisp fs ρ = (pairF fs ρ).bind (kDisp (fs.map (·.1))) := rfl
theorem ev_Disp1 {ks : List Key} {ds : List D} : kDisp ks ds ρ = R.of ((mergeD [] [] ks ds).map fun p => .dic true p.1 p.2) ρ := rfl
/-- comprehensions -/
def kLc2 (ρ1 : En) (vs : List Nat) (ys : List D) (ρ : En) : R D := .ok (.lst true ys) (restD ρ1 vs ρ)
def kLc1 (vs : List Nat) (g : FG) (ft : FB) (fe : FE) (ds : List D) (ρ : En) : R D := (lcF vs g ft fe ds 0 (wipeD ρ vs)).nox.bind (kLc2 ρ vs)
theorem ev_Lc {vs : List Nat} {fi : FI} {g : FG} {ft : FB} {fe : FE} : fLc vs fi g ft fe ρ = (fi ρ).bind (kLc1 vs g ft fe) := rfl
theorem ev_Lc1 {vs : List Nat} {g : FG} {ft : FB} {fe : FE} {ds : List D} : kLc1 vs g ft fe ds ρ = (lcF vs g ft fe ds 0 (wipeD ρ vs)).nox.bind (kLc2 ρ vs) := rfl
theorem ev_Lc2 {ρ1 : En} {vs : List Nat} {ys : List D} : kLc2 ρ1 vs ys ρ = .ok (.lst true ys) (restD ρ1 vs ρ) := rfl
theorem ev_Yes : fYes ρ = .ok true ρ := rfl
theorem wipe_0 : wipeD ρ [] = ρ := rfl
theorem wipe_s {v : Nat} {vs : List Nat} : wipeD ρ (v :: vs) = (wipeD ρ vs).set v none := rfl
theorem rest_0 : restD ρ [] ρ' = ρ' := rfl
theorem rest_s {v : Nat} {vs : List Nat} : restD ρ (v :: vs) ρ' = restD ρ vs (ρ'.set v (slot (wipeD ρ vs) v)) := rfl
/-- sources -/
def kIter (d : D) (ρ : En) : R (List D) := R.of (items d) ρ
theorem ev_Iter {f : FE} : fIter f ρ = (f ρ).bind kIter := rfl
theorem ev_Iter1 : kIter d ρ = R.of (items d) ρ := rfl
def kEnum (d : D) (ρ : En) : R (List D) := R.of ((itemsQ d).map (enumFrom 0)) ρ
theorem ev_Enum {f : FE} : fEnum f ρ = (f ρ).bind kEnum := rfl
theorem ev_Enum1 : kEnum d ρ = R.of ((itemsQ d).map (enumFrom 0)) ρ := rfl
def kZip2 (ρ : En) : Option (List D) → Option (List D) → R (List D)
  | some xs, some ys => .ok (List.zipWith (fun x y => D.tup [x, y]) xs ys) ρ
  | _, _ => .stk
def kZip1 (d e : D) (ρ : En) : R (List D) := kZip2 ρ (itemsQ d) (itemsQ e)
def kZip (g : FE) (d : D) (ρ : En) : R (List D) := (g ρ).bind (kZip1 d)
theorem ev_Zip {f g : FE} : fZip f g ρ = (f ρ).bind (kZip g) := by
  unfold fZip kZip kZip1 kZip2
  rfl
theorem ev_Zip1 {g : FE} : kZip g d ρ = (g ρ).bind (kZip1 d) := rfl
theorem ev_Zip2 : kZip1 d e ρ = kZip2 ρ (itemsQ d) (itemsQ e) := rfl
theorem ev_Zip3 {xs ys : List D} : kZip2 ρ (some xs) (some ys) = .ok (List.zipWith (fun x y => D.tup [x, y]) xs ys) ρ := rfl
def kRg1 (ρ : En) : Option D → R (List D)
  | some (.int j) => if big62 j then .ok (rangeL 0 j.toNat) ρ else .stk
  | _ => .stk
def kRg (a : Ar) (ρ : En) : R (List D) := kRg1 ρ (res a ρ)
theorem ev_Rg {f : FO} : fRange1 f ρ = (f ρ).bind kRg := by
  unfold fRange1
  congr 1
theorem ev_Rg0 : kRg a ρ = kRg1 ρ (res a ρ) := rfl
theorem ev_Rg1 {j : Int} : kRg1 ρ (some (.int j)) = if big62 j then .ok (rangeL 0 j.toNat) ρ else .stk := rfl
def kRh2 (ρ : En) : Option D → Option D → R (List D)
  | some (.int i), some (.int j) => if big62 i ∧ big62 j then .ok (rangeL i (j - i).toNat) ρ else .stk
  | _, _ => .stk
def kRh1 (a b : Ar) (ρ : En) : R (List D) := kRh2 ρ (res a ρ) (res b ρ)
def kRh (g : FO) (a : Ar) (ρ : En) : R (List D) := (g ρ).bind (kRh1 a)
theorem ev_Rh {f g : FO} : fRange2 f g ρ = (f ρ).bind (kRh g) := by
  unfold fRange2 kRh kRh1 kRh2
  rfl
theorem ev_Rh0 {g : FO} : kRh g a ρ = (g ρ).bind (kRh1 a) := rfl
theorem ev_Rh1 : kRh1 a b ρ = kRh2 ρ (res a ρ) (res b ρ) := rfl
theorem ev_Rh2 {i j : Int} : kRh2 ρ (some (.int i)) (some (.int j)) = if big62 i ∧ big62 j then .ok (rangeL i (j - i).toNat) ρ else .stk := rfl
/-- targets -/
theorem ev_gS : gSet i d ρ = some (ρ.set i (some d)) := rfl
theorem ev_gN : gsNil [] ρ = some ρ := rfl
theorem ev_gC {g : FG} {gs : FGs} {ds : List D} : gsCons g gs (d :: ds) ρ = (g d ρ).bind (gs ds) := rfl
theorem ev_gT {n : Nat} {gs : FGs} {ds : List D} : gTupF n gs (.tup ds) ρ = if ds.length = n then gs ds ρ else none := rfl
def kStL1 (i : Nat) (v : D) (ρ : En) : Option D → Option D → Option En
  | some (.int z), some d => (stL d z v).map fun r => ρ.set i (some r)
  | _, _ => none
def kStL (i : Nat) (v : D) : Option D → R Ar → Option En
  | some _, .ok a ρ1 => kStL1 i v ρ1 (res a ρ1) (slot ρ1 i)
  | _, _ => none
theorem ev_StL {fi : FO} {v : D} : gStL i fi v ρ = kStL i v (slot ρ i) (fi ρ) := by
  unfold gStL kStL kStL1
  rfl
theorem ev_StL1 {v : D} : kStL i v (some d) (.ok a ρ) = kStL1 i v ρ (res a ρ) (slot ρ i) := rfl
theorem ev_StL2 {v : D} {z : Int} : kStL1 i v ρ (some (.int z)) (some d) = (stL d z v).map fun r => ρ.set i (some r) := rfl
def kStD1 (i : Nat) (v : D) (ρ : En) : Option Key → Option D → Option En
  | some k, some d => (stD d k v).map fun r => ρ.set i (some r)
  | _, _ => none
def kStD (i : Nat) (v : D) : Option D → R Ar → Option En
  | some _, .ok a ρ1 => kStD1 i v ρ1 ((res a ρ1).bind D.key) (slot ρ1 i)
  | _, _ => none
theorem ev_StD {fi : FO} {v : D} : gStD i fi v ρ = kStD i v (slot ρ i) (fi ρ) := by
  unfold gStD kStD kStD1
  rfl
theorem ev_StD1 {v : D} : kStD i v (some d) (.ok a ρ) = kStD1 i v ρ ((res a ρ).bind D.key) (slot ρ i) := rfl
theorem ev_StD2 {v : D} {k : Key} : kStD1 i v ρ (some k) (some d) = (stD d k v).map fun r => ρ.set i (some r) := rfl
/-- statements -/
def SR.seq : SR → FS → SR
  | .nx ρ, g => g ρ
  | r, _ => r
theorem ev_Seq {f g : FS} : fSeq f g ρ = SR.seq (f ρ) g := by
  unfold fSeq SR.seq
  cases f ρ <;> rfl
theorem seq_nx {g : FS} : SR.seq (.nx ρ) g = g ρ := rfl
theorem seq_rt {g : FS} : SR.seq (.rt d ρ) g = .rt d ρ := rfl
theorem seq_bk {g : FS} : SR.seq (.bk ρ) g = .bk ρ := rfl
theorem seq_ct {g : FS} : SR.seq (.ct ρ) g = .ct ρ := rfl
theorem ev_Nx : fNx ρ = .nx ρ := rfl
def kSet (i : Nat) (d : D) (ρ : En) : SR := .nx (ρ.set i (some d))
theorem ev_Set {f : FE} : fSet i f ρ = (f ρ).bindS (kSet i) := rfl
theorem ev_Set1 : kSet i d ρ = .nx (ρ.set i (some d)) := rfl
def kDrop (_ : D) (ρ : En) : SR := .nx ρ
theorem ev_Drop {f : FE} : fDrop f ρ = (f ρ).bindS kDrop := rfl
theorem ev_Drop1 : kDrop d ρ = .nx ρ := rfl
theorem ev_Ret {f : FE} : fRet f ρ = (f ρ).bindS .rt := rfl
def kIfS (f g : FS) (b : Bool) (ρ : En) : SR := if b then f ρ else g ρ
theorem ev_IfS {t : FB} {f g : FS} : fIfS t f g ρ = (t ρ).bindS (kIfS f g) := rfl
theorem ev_IfS1 {f g : FS} {b : Bool} : kIfS f g b ρ = if b then f ρ else g ρ := rfl
def kAsg (g : FG) (d : D) (ρ : En) : SR := R.ofS (g d ρ)
theorem ev_Asg {g : FG} {f : FE} : fAsg g f ρ = (f ρ).bindS (kAsg g) := rfl
theorem ev_Asg1 {g : FG} : kAsg g d ρ = R.ofS (g d ρ) := rfl
theorem ofS_some : R.ofS (some ρ) = .nx ρ := rfl
def kPar2 (i j : Nat) (d e : D) (ρ : En) : SR := .nx ((ρ.set i (some d)).set j (some e))
def kPar1 (i j : Nat) (g : FE) (d : D) (ρ : En) : SR := (g ρ).bindS (kPar2 i j d)
theorem ev_Par {j : Nat} {f g : FE} : fPar i j f g ρ = (f ρ).bindS (kPar1 i j g) := rfl
theorem ev_Par1 {j : Nat} {g : FE} : kPar1 i j g d ρ = (g ρ).bindS (kPar2 i j d) := rfl
theorem ev_Par2 {j : Nat} : kPar2 i j d e ρ = .nx ((ρ.set i (some d)).set j (some e)) := rfl
def kTri3 (i j l : Nat) (d e u : D) (ρ : En) : SR := .nx (((ρ.set i (some d)).set j (some e)).set l (some u))
def kTri2 (i j l : Nat) (h : FE) (d e : D) (ρ : En) : SR := (h ρ).bindS (kTri3 i j l d e)
def kTri1 (i j l : Nat) (g h : FE) (d : D) (ρ : En) : SR := (g ρ).bindS (kTri2 i j l h d)
theorem ev_Tri {j l : Nat} {f g h : FE} : fPar3 i j l f g h ρ = (f ρ).bindS (kTri1 i j l g h) := rfl
theorem ev_Tri1 {j l : Nat} {g h : FE} : kTri1 i j l g h d ρ = (g ρ).bindS (kTri2 i j l h d) := rfl
theorem ev_Tri2 {j l : Nat} {h : FE} : kTri2 i j l h d e ρ = (h ρ).bindS (kTri3 i j l d e) := rfl
theorem ev_Tri3 {j l : Nat} {u : D} : kTri3 i j l d e u ρ = .nx (((ρ.set i (some d)).set j (some e)).set l (some u)) := rfl
def kAug2 (i : Nat) (ρ : En) : Option D → SR
  | some r => .nx (ρ.set i (some r))
  | none => .stk
def kAug1 (i : Nat) (g : D → D → Option D) (d0 d : D) (ρ : En) : SR := kAug2 i ρ (g d0 d)
def kAug (i : Nat) (g : D → D → Option D) (f : FE) (ρ : En) : Option D → SR
  | some d0 => if d0.isF = true then (f ρ).bindS (kAug1 i g d0) else .stk
  | none => .stk
theorem ev_Aug {g : D → D → Option D} {f : FE} : fAug i g f ρ = kAug i g f ρ (slot ρ i) := by
  unfold fAug kAug
  cases slot ρ i with
  | none => rfl
  | some d0 =>
    show (if d0.isF = true then (f ρ).bindS (fun d ρ' => match g d0 d with
      | some r => SR.nx (ρ'.set i (some r))
      | none => SR.stk) else SR.stk) = _
    congr 1
theorem ev_Aug1 {g : D → D → Option D} {f : FE} : kAug i g f ρ (some d) = if d.isF = true then (f ρ).bindS (kAug1 i g d) else .stk := rfl
theorem ev_Aug2 {g : D → D → Option D} : kAug1 i g d e ρ = kAug2 i ρ (g d e) := rfl
theorem ev_Aug3 : kAug2 i ρ (some d) = .nx (ρ.set i (some d)) := rfl
def kFor (g : FG) (body : FS) (ds : List D) (ρ : En) : SR := forF g body ds ρ
theorem ev_For {fi : FI} {g : FG} {body : FS} : fFor fi g body ρ = (fi ρ).bindS (kFor g body) := rfl
end
/-! ### loops by an invariant -/
section
variable {g : FG} {body : FS} {vs : List Nat} {ft : FB} {fe : FE}
theorem forF_0 {ρ : En} : forF g body [] ρ = .nx ρ := rfl
/-- every turn goes on -/
theorem forF_inv (I : Nat → En → Prop) {ds : List D} (h : ∀ i d ρ, ds[i]? = some d → I i ρ → ∃ ρ1 ρ2, g d ρ = some ρ1 ∧ (body ρ1 = .nx ρ2 ∨ body ρ1 = .ct ρ2) ∧ I (i + 1) ρ2) {ρ : En} (h0 : I 0 ρ) : ∃ ρ', forF g body ds ρ = .nx ρ' ∧ I ds.length ρ' := by
  have key : ∀ (ds0 : List D) (i : Nat) (ρ : En), (∀ k, ds0[k]? = ds[i + k]?) → i + ds0.length = ds.length → I i ρ → ∃ ρ', forF g body ds0 ρ = .nx ρ' ∧ I ds.length ρ' := by
    intro ds0
    induction ds0 with
    | nil => intro i ρ _ hl hi; exact ⟨ρ, rfl, by simpa [← hl] using hi⟩
    | cons d ds0 ih =>
      intro i ρ hk hl hi
      have e0 := hk 0
      rw [Nat.add_zero] at e0
      obtain ⟨ρ1, ρ2, e1, e2, i2⟩ := h i d ρ (by rw [← e0]; rfl) hi
      obtain ⟨ρ3, e3, i3⟩ := ih (i + 1) ρ2 (fun k => by have := hk (k + 1); rw [List.getElem?_cons_succ] at this; rw [this]; congr 1; omega) (by simp at hl; omega) i2
      refine ⟨ρ3, ?_, i3⟩
      unfold forF
      rw [e1]
      show (match body ρ1 with
        | .nx ρ2 => forF g body ds0 ρ2
        | .ct ρ2 => forF g body ds0 ρ2
        | .bk ρ2 => .nx ρ2
        | r => r) = _
      rcases e2 with e2 | e2 <;> rw [e2] <;> exact e3
  exact key ds 0 ρ (fun k => by rw [Nat.zero_add]) (by omega) h0
/-- a loop as a fold -/
theorem forF_fold {σ : Type} (enc : σ → En) (step : σ → D → σ) {ds : List D} (h : ∀ s d, d ∈ ds → ∃ ρ1, g d (enc s) = some ρ1 ∧ (body ρ1 = .nx (enc (step s d)) ∨ body ρ1 = .ct (enc (step s d)))) (s : σ) : forF g body ds (enc s) = .nx (enc (ds.foldl step s)) := by
  induction ds generalizing s with
  | nil => rfl
  | cons d ds ih =>
    obtain ⟨ρ1, e1, e2⟩ := h s d (List.mem_cons_self)
    unfold forF
    rw [e1]
    show (match body ρ1 with
      | .nx ρ2 => forF g body ds ρ2
      | .ct ρ2 => forF g body ds ρ2
      | .bk ρ2 => .nx ρ2
      | r => r) = _
    have := ih (fun s d hd => h s d (List.mem_cons_of_mem _ hd)) (step s d)
    rcases e2 with e2 | e2 <;> rw [e2] <;> exact this
/-- a comprehension whose turns leave the slots as they are -/
theorem lcF_map {ds : List D} (keep : D → Bool) (val : D → D) {ρ : En} (hz : ds.length ≤ sizeLine) (h : ∀ d ∈ ds, ∃ ρ1 ρ2, g d ρ = some ρ1 ∧ ft ρ1 = .ok (keep d) ρ2 ∧ (keep d = false → wipeD ρ2 vs = ρ) ∧ (keep d = true → ∃ ρ3, fe ρ2 = .ok (val d) ρ3 ∧ wipeD ρ3 vs = ρ)) : lcF vs g ft fe ds 0 ρ = .ok ((ds.filter keep).map val) ρ := by
  have key : ∀ (ds : List D) (n : Nat), n + ds.length ≤ sizeLine → (∀ d ∈ ds, ∃ ρ1 ρ2, g d ρ = some ρ1 ∧ ft ρ1 = .ok (keep d) ρ2 ∧ (keep d = false → wipeD ρ2 vs = ρ) ∧ (keep d = true → ∃ ρ3, fe ρ2 = .ok (val d) ρ3 ∧ wipeD ρ3 vs = ρ)) → lcF vs g ft fe ds n ρ = .ok ((ds.filter keep).map val) ρ := by
    intro ds
    induction ds with
    | nil => intro n _ _; rfl
    | cons d ds ih =>
      intro n hn h
      obtain ⟨ρ1, ρ2, e1, e2, k1, k2⟩ := h d List.mem_cons_self
      have hn' : n + ds.length < sizeLine := by simp at hn; omega
      unfold lcF
      rw [e1]
      show (ft ρ1).bind _ = _
      rw [e2]
      cases ek : keep d with
      | false =>
        show lcF vs g ft fe ds n (wipeD ρ2 vs) = _
        rw [k1 ek, ih n (by omega) fun d hd => h d (List.mem_cons_of_mem _ hd), List.filter_cons, ek]; rfl
      | true =>
        obtain ⟨ρ3, e3, e4⟩ := k2 ek
        show (fe ρ2).bind _ = _
        rw [e3]
        show (if n < sizeLine then (lcF vs g ft fe ds (n + 1) (wipeD ρ3 vs)).bind fun ys ρ4 => R.ok (val d :: ys) ρ4 else .stk) = _
        rw [if_pos (by omega), e4, ih (n + 1) (by omega) fun d hd => h d (List.mem_cons_of_mem _ hd), List.filter_cons, ek]; rfl
  exact key ds 0 (by omega) h
/-- .. by an invariant of the slots -/
theorem lcF_inv (I : Nat → List D → En → Prop) {ds : List D} (hz : ds.length ≤ sizeLine) (h : ∀ i d acc ρ, ds[i]? = some d → I i acc ρ → ∃ ρ1 b ρ2, g d ρ = some ρ1 ∧ ft ρ1 = .ok b ρ2 ∧ (b = false → I (i + 1) acc (wipeD ρ2 vs)) ∧ (b = true → ∃ y ρ3, fe ρ2 = .ok y ρ3 ∧ I (i + 1) (acc ++ [y]) (wipeD ρ3 vs))) {ρ : En} (h0 : I 0 [] ρ) :
    ∃ ys ρ', lcF vs g ft fe ds 0 ρ = .ok ys ρ' ∧ I ds.length ys ρ' := by
  have key : ∀ (ds0 : List D) (i n : Nat) (acc : List D) (ρ : En), (∀ k, ds0[k]? = ds[i + k]?) → i + ds0.length = ds.length → n ≤ i → I i acc ρ → ∃ ys ρ', lcF vs g ft fe ds0 n ρ = .ok ys ρ' ∧ I ds.length (acc ++ ys) ρ' := by
    intro ds0
    induction ds0 with
    | nil => intro i n acc ρ _ hl _ hi; exact ⟨[], ρ, rfl, by simpa [← hl] using hi⟩
    | cons d ds0 ih =>
      intro i n acc ρ hk hl hn hi
      have e0 := hk 0
      rw [Nat.add_zero] at e0
      obtain ⟨ρ1, b, ρ2, e1, e2, k1, k2⟩ := h i d acc ρ (by rw [← e0]; rfl) hi
      have hk' : ∀ k, ds0[k]? = ds[i + 1 + k]? := fun k => by have := hk (k + 1); rw [List.getElem?_cons_succ] at this; rw [this]; congr 1; omega
      have hl' : i + 1 + ds0.length = ds.length := by simp at hl; omega
      unfold lcF
      rw [e1]
      cases b with
      | false =>
        obtain ⟨ys, ρ', e3, i3⟩ := ih (i + 1) n acc _ hk' hl' (by omega) (k1 rfl)
        refine ⟨ys, ρ', ?_, i3⟩
        show (ft ρ1).bind _ = _
        rw [e2]
        exact e3
      | true =>
        obtain ⟨y, ρ3, e4, i4⟩ := k2 rfl
        obtain ⟨ys, ρ', e3, i3⟩ := ih (i + 1) (n + 1) (acc ++ [y]) _ hk' hl' (by omega) i4
        refine ⟨y :: ys, ρ', ?_, by simpa using i3⟩
        show (ft ρ1).bind _ = _
        rw [e2]
        show (fe ρ2).bind _ = _
        rw [e4]
        show (if n < sizeLine then (lcF vs g ft fe ds0 (n + 1) (wipeD ρ3 vs)).bind fun ys ρ4 => R.ok (y :: ys) ρ4 else .stk) = _
        rw [if_pos (by omega), e3]; rfl
  obtain ⟨ys, ρ', e, i⟩ := key ds 0 0 [] ρ (fun k => by rw [Nat.zero_add]) (by omega) (Nat.le_refl _) h0
  exact ⟨ys, ρ', e, i⟩
theorem nox_lc {α : Type} {a : α} {ρ : En} : (R.ok a ρ).nox = .ok a ρ := rfl
end
end DL

namespace DL
open PySem PySem.Spec PyProof.Rows L2

/-! ### plain facts on data -/
theorem isFL_cons {d : D} {ds : List D} : D.isFL (d :: ds) = (d.isF && D.isFL ds) := rfl
theorem isFL_nil : D.isFL [] = true := rfl
theorem frzL_cons {d : D} {ds : List D} : D.frzL (d :: ds) = d.frz :: D.frzL ds := rfl
theorem frzL_nil : D.frzL [] = [] := rfl
theorem frz_int {i : Int} : (D.int i).frz = .int i := rfl
theorem frz_str {i : Str} : (D.str i).frz = .str i := rfl
theorem frz_bl {i : Bool} : (D.bl i).frz = .bl i := rfl
theorem frz_non : D.non.frz = .non := rfl
theorem frz_tup {xs : List D} : (D.tup xs).frz = .tup (D.frzL xs) := rfl
theorem frz_lst {m : Bool} {xs : List D} : (D.lst m xs).frz = .lst false (D.frzL xs) := rfl
theorem isF_int {i : Int} : (D.int i).isF = true := rfl
theorem isF_str {i : Str} : (D.str i).isF = true := rfl
theorem isF_bl {i : Bool} : (D.bl i).isF = true := rfl
theorem isF_non : D.non.isF = true := rfl
theorem isF_opq {v : V} : (D.opq v).isF = true := rfl
theorem isF_tup {xs : List D} : (D.tup xs).isF = D.isFL xs := rfl
theorem isF_lst {xs : List D} : (D.lst false xs).isF = D.isFL xs := rfl
theorem isFL_map {α : Type} {f : α → D} (h : ∀ a, (f a).isF = true) : ∀ xs : List α, D.isFL (xs.map f) = true
  | [] => rfl
  | x :: xs => by rw [List.map_cons, isFL_cons, h, isFL_map h xs]; rfl
theorem frzL_of {xs : List D} (h : D.isFL xs = true) : D.frzL xs = xs := by
  induction xs with
  | nil => rfl
  | cons x xs ih =>
    rw [isFL_cons, Bool.and_eq_true] at h
    rw [frzL_cons, D.frz_of h.1, ih h.2]
theorem frzL_map {α : Type} {f : α → D} (h : ∀ a, (f a).isF = true) (xs : List α) : D.frzL (xs.map f) = xs.map f := frzL_of (isFL_map h xs)
theorem isFL_int (ns : List Int) : D.isFL (ns.map D.int) = true := isFL_map (fun _ => rfl) ns
theorem isFL_str (ns : List Str) : D.isFL (ns.map D.str) = true := isFL_map (fun _ => rfl) ns
theorem isFL_bl (ns : List Bool) : D.isFL (ns.map D.bl) = true := isFL_map (fun _ => rfl) ns
theorem frzL_int (ns : List Int) : D.frzL (ns.map D.int) = ns.map D.int := frzL_of (isFL_int ns)
theorem frzL_str (ns : List Str) : D.frzL (ns.map D.str) = ns.map D.str := frzL_of (isFL_str ns)
theorem intsD_map : ∀ ns : List Int, intsD (ns.map D.int) = some ns
  | [] => rfl
  | n :: ns => by show (intsD (ns.map D.int)).map (n :: ·) = _; rw [intsD_map ns]; rfl
theorem strsD_map : ∀ ns : List Str, strsD (ns.map D.str) = some ns
  | [] => rfl
  | n :: ns => by show (strsD (ns.map D.str)).map (n :: ·) = _; rw [strsD_map ns]; rfl
theorem blsD_map : ∀ ns : List Bool, blsD (ns.map D.bl) = some ns
  | [] => rfl
  | n :: ns => by show (blsD (ns.map D.bl)).map (n :: ·) = _; rw [blsD_map ns]; rfl
/-- == of ints, texts, bools -/
theorem eq_int {n : Bool} {i j : Int} : eqD n (.int i) (.int j) = some (.bl (if n then !decide (i = j) else decide (i = j))) := by
  show (if PyData.depth (.int i) ≤ 64 then some (D.bl (if n then !PyData.eqv (.int i) (.int j) else PyData.eqv (.int i) (.int j))) else none) = _
  have e : PyData.eqv (.int i) (.int j) = decide (i = j) := by
    show (i == j) = _
    exact Bool.eq_iff_iff.mpr (by simp)
  have e2 : PyData.depth (.int i) ≤ 64 := by show 0 ≤ 64; decide
  rw [if_pos e2, e]
theorem eq_str {n : Bool} {i j : Str} : eqD n (.str i) (.str j) = some (.bl (if n then !decide (i = j) else decide (i = j))) := by
  show (if PyData.depth (.str i) ≤ 64 then some (D.bl (if n then !PyData.eqv (.str i) (.str j) else PyData.eqv (.str i) (.str j))) else none) = _
  have e : PyData.eqv (.str i) (.str j) = decide (i = j) := by
    show (i == j) = _
    exact Bool.eq_iff_iff.mpr (by simp)
  have e2 : PyData.depth (.str i) ≤ 64 := by show 0 ≤ 64; decide
  rw [if_pos e2, e]
theorem py_ints : ∀ ns : List Int, D.pyL (ns.map D.int) = some (ns.map PyData.int)
  | [] => rfl
  | n :: ns => by
    show (match (D.int n).py, D.pyL (ns.map D.int) with
      | some p, some ps => some (p :: ps)
      | _, _ => none) = _
    rw [py_ints ns]; rfl
theorem py_strs : ∀ ns : List Str, D.pyL (ns.map D.str) = some (ns.map PyData.str)
  | [] => rfl
  | n :: ns => by
    show (match (D.str n).py, D.pyL (ns.map D.str) with
      | some p, some ps => some (p :: ps)
      | _, _ => none) = _
    rw [py_strs ns]; rfl
theorem depth_flat : ∀ ps : List PyData, (∀ p ∈ ps, p.depth = 0) → PyData.depthAll ps = 0
  | [], _ => rfl
  | p :: ps, h => by
    show max p.depth (PyData.depthAll ps) = 0
    rw [h p List.mem_cons_self, depth_flat ps fun q hq => h q (List.mem_cons_of_mem _ hq)]; rfl
theorem eq_nil_ints {n m m' : Bool} {ns : List Int} : eqD n (.lst m (ns.map D.int)) (.lst m' []) = some (.bl (if n then !ns.isEmpty else ns.isEmpty)) := by
  have e : (D.lst m (ns.map D.int)).py = some (.list (ns.map PyData.int)) := by
    show (D.pyL (ns.map D.int)).map PyData.list = _
    rw [py_ints]; rfl
  have e2 : PyData.depth (.list (ns.map PyData.int)) ≤ 64 := by
    show PyData.depthAll (ns.map PyData.int) + 1 ≤ 64
    rw [depth_flat _ (fun p hp => by obtain ⟨i, _, rfl⟩ := List.mem_map.mp hp; rfl)]; decide
  have e3 : PyData.eqv (.list (ns.map PyData.int)) (.list []) = ns.isEmpty := by
    cases ns <;> rfl
  unfold eqD
  rw [e]
  show (if PyData.depth (.list (ns.map PyData.int)) ≤ 64 then some (D.bl (if n then !PyData.eqv (.list (ns.map PyData.int)) (.list []) else PyData.eqv (.list (ns.map PyData.int)) (.list []))) else none) = _
  rw [if_pos e2, e3]
theorem lt_int {i j : Int} : ltD (.int i) (.int j) = some (.bl (decide (i < j))) := rfl
theorem le_int {i j : Int} : leD (.int i) (.int j) = some (.bl (decide (i ≤ j))) := rfl
theorem gt_int {i j : Int} : gtD (.int i) (.int j) = some (.bl (decide (j < i))) := rfl
theorem ge_int {i j : Int} : geD (.int i) (.int j) = some (.bl (decide (j ≤ i))) := rfl
theorem add_int {i j : Int} : addD (.int i) (.int j) = some (.int (i + j)) := rfl
theorem sub_int {i j : Int} : subD (.int i) (.int j) = some (.int (i - j)) := rfl
theorem mul_int {i j : Int} (h : i.natAbs.log2 + j.natAbs.log2 < 1000000) : mulD (.int i) (.int j) = some (.int (i * j)) := by
  show (if mulOk i j = true then some (D.int (i * j)) else none) = _
  have e : mulOk i j = true := decide_eq_true h
  rw [if_pos e]
theorem mod_int {i j : Int} (h : 0 < j) : modD (.int i) (.int j) = some (.int (i % j)) := if_pos h
theorem fdiv_int {i j : Int} (h : 0 < j) (h2 : j.natAbs.log2 < 9000) : fdivD (.int i) (.int j) = some (.int (i / j)) := if_pos ⟨h, h2⟩
theorem pow_int {i j : Int} (h : 0 ≤ j ∧ j ≤ 1000000 ∧ i.natAbs < 2 ^ 64) : powD (.int i) (.int j) = some (.int (i ^ j.toNat)) := if_pos h
theorem neg_int {i : Int} : negD (.int i) = some (.int (-i)) := rfl
theorem iadd_int {i j : Int} : iaddD (.int i) (.int j) = some (.int (i + j)) := rfl
theorem intG_int {i : Int} : intG [.int i] = some (.int i) := rfl
theorem lenG_lst {m : Bool} {xs : List D} : lenG [.lst m xs] = some (.int xs.length) := rfl
theorem lenG_tup {xs : List D} : lenG [.tup xs] = some (.int xs.length) := rfl
theorem lenG_str {z : Str} (h : z.length ≤ sizeLine) : lenG [.str z] = some (.int z.length) := if_pos h
theorem lstG_of {xs : List D} (h : xs.length ≤ sizeLine) (hf : D.isFL xs = true) : lstG xs = some (.lst true xs) := if_pos ⟨h, hf⟩
theorem tupG_of {xs : List D} (h : xs.length ≤ sizeLine) (hf : D.isFL xs = true) : tupG xs = some (.tup xs) := if_pos ⟨h, hf⟩
theorem ixN_pos {n j : Nat} (h : j < n) : ixN n (j : Int) = some j := by
  unfold ixN
  rw [if_pos (by omega), if_pos (by omega)]; simp
theorem atI_nat {α : Type} {xs : List α} {j : Nat} : atI xs (j : Int) = xs[j]? := by
  unfold atI
  by_cases h : j < xs.length
  · rw [ixN_pos h]; rfl
  · unfold ixN
    rw [if_pos (by omega), if_neg (by omega), List.getElem?_eq_none (by omega)]; rfl
theorem ix_int {m : Bool} {ns : List Int} {j : Nat} {i : Int} (h : ns[j]? = some i) : ixD (.lst m (ns.map D.int)) (.int (j : Int)) = some (.int i) := by
  show (atI (ns.map D.int) (j : Int)).bind _ = _
  rw [atI_nat, List.getElem?_map, h]; rfl
theorem log2_lt_of {i : Int} {n : Nat} (h : i.natAbs < 2 ^ n) (hn : 0 < n) : i.natAbs.log2 < n := by
  by_cases e : i.natAbs = 0
  · rw [e]; show Nat.log2 0 < n; have : Nat.log2 0 = 0 := by decide
    omega
  · exact (Nat.log2_lt e).mpr h
/-- a while loop -/
theorem whileF_f {t : FB} {body : FS} {n : Nat} {ρ ρ1 : En} (h : t ρ = .ok false ρ1) : whileF t body (n + 1) ρ = .nx ρ1 := by
  unfold whileF; rw [h]; rfl
theorem whileF_t {t : FB} {body : FS} {n : Nat} {ρ ρ1 ρ2 : En} (h : t ρ = .ok true ρ1) (h2 : body ρ1 = .nx ρ2) : whileF t body (n + 1) ρ = whileF t body n ρ2 := by
  unfold whileF; rw [h]
  show (match body ρ1 with
      | .nx ρ2 => whileF t body n ρ2
      | .ct ρ2 => whileF t body n ρ2
      | .bk ρ2 => .nx ρ2
      | r => r) = _
  rw [h2]
  cases n <;> rfl
/-- a def at its arguments -/
def GR.fin (mi : Bool) : SR → GR
  | .rt d ρ => endG mi d ρ
  | .nx ρ => endG mi .non ρ
  | _ => .stk
theorem fin_rt {mi : Bool} {d : D} {ρ : En} : GR.fin mi (.rt d ρ) = endG mi d ρ := rfl
theorem fin_nx {mi : Bool} {ρ : En} : GR.fin mi (.nx ρ) = endG mi .non ρ := rfl
theorem endG_f {d : D} {ρ : En} : endG false d ρ = .ok d [] := rfl
theorem endG_t {d e : D} {ρ : En} : endG true d (some e :: ρ) = .ok d [e] := rfl
theorem GF_at {np nN : Nat} {mi : Bool} {fb : FS} {ds : List D} (h : ds.length = np) : GF np nN mi fb ds = GR.fin mi (fb (ds.map some ++ List.replicate (nN - np) none)) := by
  unfold GF
  rw [if_pos h]
  cases fb (ds.map some ++ List.replicate (nN - np) none) <;> rfl
/-- slices -/
theorem cutL_nn {α : Type} (xs : List α) (i j : Nat) : cutL xs (some (i : Int)) (some (j : Int)) = (xs.take j).drop i := by
  unfold cutL
  rw [HT.sIx_nat, HT.sIx_nat]
  apply List.ext_getElem?
  intro k
  rw [List.getElem?_drop, List.getElem?_take, List.getElem?_take, List.getElem?_drop]
  by_cases h : i < xs.length
  · rw [Nat.min_eq_left (Nat.le_of_lt h)]
    by_cases h2 : i + k < j
    · rw [if_pos h2]
      by_cases h3 : i + k < xs.length
      · rw [if_pos (by omega)]
      · rw [List.getElem?_eq_none (by omega)]; split <;> rfl
    · rw [if_neg h2, if_neg (by omega)]
  · rw [List.getElem?_eq_none (by omega : xs.length ≤ min i xs.length + k), List.getElem?_eq_none (by omega : xs.length ≤ i + k)]
    split <;> split <;> rfl
theorem cutL_n_ {α : Type} (xs : List α) (i : Nat) : cutL xs (some (i : Int)) none = xs.drop i := by
  unfold cutL
  rw [HT.sIx_nat, HT.sIx_none]
  apply List.ext_getElem?
  intro k
  rw [List.getElem?_drop, List.getElem?_take, List.getElem?_drop]
  by_cases h : i < xs.length
  · rw [Nat.min_eq_left (Nat.le_of_lt h)]
    by_cases h3 : i + k < xs.length
    · rw [if_pos (by omega)]
    · rw [List.getElem?_eq_none (by omega)]; split <;> rfl
  · rw [List.getElem?_eq_none (by omega : xs.length ≤ min i xs.length + k), List.getElem?_eq_none (by omega : xs.length ≤ i + k)]
    split <;> rfl
theorem cutL__n {α : Type} (xs : List α) (j : Nat) : cutL xs none (some (j : Int)) = xs.take j := by
  unfold cutL
  rw [HT.sIx_nat, HT.sIx_none]
  apply List.ext_getElem?
  intro k
  rw [List.getElem?_take, List.getElem?_take, List.getElem?_drop, Nat.zero_add]
  by_cases h3 : k < xs.length
  · by_cases h : k < j
    · rw [if_pos h, if_pos (by omega)]
    · rw [if_neg h, if_neg (by omega)]
  · rw [List.getElem?_eq_none (by omega)]; split <;> split <;> rfl
theorem GF_0 {nN : Nat} {mi : Bool} {fb : FS} : GF 0 nN mi fb [] = GR.fin mi (fb (List.replicate (nN - 0) none)) := GF_at (np := 0) (ds := []) rfl
theorem GF_1 {nN : Nat} {mi : Bool} {fb : FS} {a : D} : GF 1 nN mi fb [a] = GR.fin mi (fb (some a :: List.replicate (nN - 1) none)) := GF_at (np := 1) (ds := [a]) rfl
theorem GF_2 {nN : Nat} {mi : Bool} {fb : FS} {a b : D} : GF 2 nN mi fb [a, b] = GR.fin mi (fb (some a :: some b :: List.replicate (nN - 2) none)) := GF_at (np := 2) (ds := [a, b]) rfl
theorem GF_3 {nN : Nat} {mi : Bool} {fb : FS} {a b c : D} : GF 3 nN mi fb [a, b, c] = GR.fin mi (fb (some a :: some b :: some c :: List.replicate (nN - 3) none)) := GF_at (np := 3) (ds := [a, b, c]) rfl
theorem GF_4 {nN : Nat} {mi : Bool} {fb : FS} {a b c d : D} : GF 4 nN mi fb [a, b, c, d] = GR.fin mi (fb (some a :: some b :: some c :: some d :: List.replicate (nN - 4) none)) := GF_at (np := 4) (ds := [a, b, c, d]) rfl
theorem GF_5 {nN : Nat} {mi : Bool} {fb : FS} {a b c d e : D} : GF 5 nN mi fb [a, b, c, d, e] = GR.fin mi (fb (some a :: some b :: some c :: some d :: some e :: List.replicate (nN - 5) none)) := GF_at (np := 5) (ds := [a, b, c, d, e]) rfl
theorem GF_6 {nN : Nat} {mi : Bool} {fb : FS} {a b c d e f : D} : GF 6 nN mi fb [a, b, c, d, e, f] = GR.fin mi (fb (some a :: some b :: some c :: some d :: some e :: some f :: List.replicate (nN - 6) none)) := GF_at (np := 6) (ds := [a, b, c, d, e, f]) rfl
def kNe (i : Nat) (k : Key) (v : D) (ρ : En) : Option D → Option D → Option En
  | some (.dic true ks ds), some (.int z) => (kIx ks k).bind fun j => (ds[j]?).bind fun d => (stL d z v).map fun r => ρ.set i (some (.dic true ks (ds.set j r)))
  | _, _ => none
theorem ev_Nest {i : Nat} {k : Key} {gb : En → Option D} {v : D} {ρ : En} : gNest i k gb v ρ = kNe i k v ρ (slot ρ i) (gb ρ) := by
  unfold gNest kNe
  rfl
theorem ev_Nest1 {i : Nat} {k : Key} {v : D} {ρ : En} {ks : List Key} {ds : List D} {z : Int} : kNe i k v ρ (some (.dic true ks ds)) (some (.int z)) = (kIx ks k).bind fun j => (ds[j]?).bind fun d => (stL d z v).map fun r => ρ.set i (some (.dic true ks (ds.set j r))) := rfl
theorem stL_nat {xs : List D} {j : Nat} {v : D} (h : j < xs.length) : stL (.lst true xs) (j : Int) v = some (.lst true (xs.set j v)) := by
  show (ixN xs.length (j : Int)).map _ = _
  rw [ixN_pos h]; rfl
theorem lst_nil : lstG [] = some (.lst true []) := rfl
/-- sizes of ints -/
def Bd (n : Nat) (i : Int) : Prop := i.natAbs < 2 ^ n
theorem Bd.mono {n m : Nat} {i : Int} (h : Bd n i) (hm : n ≤ m) : Bd m i := Nat.lt_of_lt_of_le h (Nat.pow_le_pow_right (by decide) hm)
theorem Bd.add {n m : Nat} {i j : Int} (h : Bd n i) (h2 : Bd m j) : Bd (max n m + 1) (i + j) := by
  have h1 := h.mono (Nat.le_max_left n m)
  have h3 := h2.mono (Nat.le_max_right n m)
  have := Int.natAbs_add_le i j
  unfold Bd at *
  rw [Nat.pow_succ]
  omega
theorem Bd.sub {n m : Nat} {i j : Int} (h : Bd n i) (h2 : Bd m j) : Bd (max n m + 1) (i - j) := by
  have h3 : Bd m (-j) := by unfold Bd at *; rwa [Int.natAbs_neg]
  have := h.add h3
  rwa [← Int.sub_eq_add_neg] at this
theorem Bd.mul {n m : Nat} {i j : Int} (h : Bd n i) (h2 : Bd m j) : Bd (n + m) (i * j) := by
  unfold Bd at *
  rw [Int.natAbs_mul, Nat.pow_add]
  exact Nat.mul_lt_mul'' h h2
theorem Bd.mod {m : Nat} {i j : Int} (h : 0 < j) (h2 : Bd m j) : Bd m (i % j) := by
  have h3 := Int.emod_nonneg i (Int.ne_of_gt h)
  have h4 := Int.emod_lt_of_pos i h
  unfold Bd at *
  omega
theorem mul_bd {n m : Nat} {i j : Int} (h : Bd n i) (h2 : Bd m j) (hs : n + m < 1000000) : mulD (.int i) (.int j) = some (.int (i * j)) := by
  refine mul_int ?_
  have a : i.natAbs.log2 ≤ n := by
    by_cases e : i.natAbs = 0
    · rw [e]; have : Nat.log2 0 = 0 := by decide
      omega
    · exact Nat.le_of_lt ((Nat.log2_lt e).mpr h)
  have b : j.natAbs.log2 ≤ m := by
    by_cases e : j.natAbs = 0
    · rw [e]; have : Nat.log2 0 = 0 := by decide
      omega
    · exact Nat.le_of_lt ((Nat.log2_lt e).mpr h2)
  omega
theorem kIx_out {k : Key} : ∀ {ks : List Key}, k ∉ ks → kIx ks k = none
  | [], _ => rfl
  | a :: ks, h => by
    show (if a = k then some 0 else (kIx ks k).map (· + 1)) = none
    rw [if_neg (fun e => h (by rw [e]; exact List.mem_cons_self)), kIx_out fun q => h (List.mem_cons_of_mem _ q)]; rfl
theorem mergeD_new : ∀ (ms : List Key) (es : List D) (ks : List Key) (ds : List D), (ks ++ ms).Nodup → es.length = ms.length → (ks ++ ms).length ≤ 1000 → mergeD ks ds ms es = some (ks ++ ms, ds ++ es)
  | [], [], ks, ds, _, _, _ => by
    show some (ks, ds) = _
    rw [List.append_nil, List.append_nil]
  | k :: ms, d :: es, ks, ds, hn, hl, hz => by
    have h1 := List.nodup_append.mp hn
    have h2 : k ∉ ks := fun q => h1.2.2 k q k List.mem_cons_self rfl
    have h3 : ks.length < sizeLine := by
      rw [List.length_append] at hz
      have : (1000 : Nat) < sizeLine := by decide
      omega
    show (putD ks ds k d).bind _ = _
    have e : putD ks ds k d = some (ks ++ [k], ds ++ [d]) := by
      unfold putD
      rw [if_pos ⟨h1.1, h3⟩, kIx_out h2]
    rw [e]
    show mergeD (ks ++ [k]) (ds ++ [d]) ms es = _
    rw [mergeD_new ms es _ _ (by rw [List.append_assoc]; exact hn) (by simpa using hl) (by rw [List.append_assoc]; exact hz), List.append_assoc, List.append_assoc]
    rfl
theorem mergeD_at {ms : List Key} {es : List D} (hn : ms.Nodup) (hl : es.length = ms.length) (hz : ms.length ≤ 1000) : mergeD [] [] ms es = some (ms, es) := mergeD_new ms es [] [] hn hl hz
theorem listG_of {m : Bool} {xs : List D} (h : D.isFL xs = true) : listG [.lst m xs] = some (.lst true xs) := if_pos h
theorem items_lst {xs : List D} (h : D.isFL xs = true) : items (.lst false xs) = some xs := by
  show (if D.isF (.lst false xs) = true then some xs else none) = _
  rw [if_pos (by rw [isF_lst]; exact h)]
theorem items_str {z : Str} : items (.str z) = some (z.cps.toList.map fun k => .str ⟨#[k]⟩) := rfl
end DL

namespace DL
open PySem PySem.Spec PyProof.Rows L2

/-! ### texts as lists of code points -/
abbrev T (l : List Nat) : Str := ⟨l.toArray⟩
theorem T_of (z : Str) : T z.cps.toList = z := by cases z; rfl
theorem T_len (l : List Nat) : (T l).length = l.length := by simp [T, Str.length]
theorem T_cps (l : List Nat) : (T l).cps.toList = l := by simp [T]
theorem T_app (a b : List Nat) : T a ++ T b = T (a ++ b) := by
  show (⟨a.toArray ++ b.toArray⟩ : Str) = ⟨(a ++ b).toArray⟩
  simp
theorem T_inj {a b : List Nat} : (T a = T b) ↔ a = b := by
  constructor
  · intro h
    have := congrArg (fun z : Str => z.cps.toList) h
    simpa using this
  · rintro rfl; rfl
theorem items_T (l : List Nat) : items (.str (T l)) = some (l.map fun c => .str (T [c])) := by
  show some ((T l).cps.toList.map fun k => D.str ⟨#[k]⟩) = _
  rw [T_cps]
theorem ix_T {l : List Nat} {j c : Nat} (h : l[j]? = some c) (hl : l.length ≤ sizeLine) : ixD (.str (T l)) (.int (j : Int)) = some (.str (T [c])) := by
  show (if (T l).length ≤ sizeLine then (atI (T l).cps.toList (j : Int)).map fun c => D.str ⟨#[c]⟩ else none) = _
  rw [if_pos (by rw [T_len]; exact hl), T_cps, atI_nat, h]; rfl
theorem sl_T {l : List Nat} {lo hi : Option Int} (hl : l.length ≤ sizeLine) : slD (.str (T l)) lo hi = some (.str (T (cutL l lo hi))) := by
  show (if (T l).length ≤ sizeLine then some (D.str (cutS (T l) lo hi)) else none) = _
  rw [if_pos (by rw [T_len]; exact hl)]
  unfold cutS cutL
  rw [T_cps, T_len]
theorem eq_T {n : Bool} {a b : List Nat} : eqD n (.str (T a)) (.str (T b)) = some (.bl (if n then !decide (a = b) else decide (a = b))) := by
  rw [eq_str]
  have : decide (T a = T b) = decide (a = b) := by simp only [T_inj]
  rw [this]
theorem len_T {l : List Nat} (h : l.length ≤ sizeLine) : lenG [.str (T l)] = some (.int l.length) := by
  rw [lenG_str (by rw [T_len]; exact h), T_len]
theorem add_T {a b : List Nat} (h : a.length + b.length ≤ sizeLine) : addD (.str (T a)) (.str (T b)) = some (.str (T (a ++ b))) := by
  show (if (T a).length + (T b).length ≤ sizeLine then some (D.str (T a ++ T b)) else none) = _
  rw [if_pos (by rw [T_len, T_len]; exact h), T_app]
theorem in_T {c : Nat} {z : Str} : inD false (.str (T [c])) (.str z) = some (.bl (decide (c ∈ z.cps.toList))) := by
  show some (D.bl (inS (T [c]) z)) = _
  have : inS (T [c]) z = decide (c ∈ z.cps.toList) := PySem.StrLaws.found_one z c
  rw [this]
theorem strsD_T (f : List Nat → Str) (ys : List (List Nat)) : strsD (ys.map fun l => .str (f l)) = some (ys.map f) := by
  have := strsD_map (ys.map f)
  rw [List.map_map] at this
  exact this
theorem join_flat : ∀ ys : List (List Nat), Txt.join (T []) (ys.map T) = T ys.flatten := by
  have key : ∀ (ys : List (List Nat)) (a : List Nat), (ys.map T).foldl (fun acc p => acc ++ (T []).cps ++ p.cps) a.toArray = (a ++ ys.flatten).toArray := by
    intro ys
    induction ys with
    | nil => intro a; simp
    | cons y ys ih =>
      intro a
      rw [List.map_cons, List.foldl_cons]
      have : a.toArray ++ (T []).cps ++ (T y).cps = (a ++ y).toArray := by simp [T]
      rw [this, ih, List.flatten_cons, List.append_assoc]
  intro ys
  show (⟨((ys.map T).drop 1).foldl (fun acc p => acc ++ (T []).cps ++ p.cps) ((ys.map T).headD Str.empty).cps⟩ : Str) = _
  cases ys with
  | nil => rfl
  | cons y ys =>
    show (⟨(ys.map T).foldl (fun acc p => acc ++ (T []).cps ++ p.cps) y.toArray⟩ : Str) = _
    rw [key, List.flatten_cons]
theorem join_T {m : Bool} {ys : List (List Nat)} (h : ys.flatten.length ≤ 16777216) : joinD (.str (T [])) (.lst m (ys.map fun l => .str (T l))) = some (.str (T ys.flatten)) := by
  show (strsD (ys.map fun l => .str (T l))).bind _ = _
  rw [strsD_T]
  show (if ((ys.map T).map (·.length)).sum + (ys.map T).length * (T []).length ≤ 16777216 then some (D.str (Txt.join (T []) (ys.map T))) else none) = _
  have e : ((ys.map T).map (·.length)).sum = ys.flatten.length := by
    rw [List.map_map, List.length_flatten]
    congr 1
  rw [if_pos (by rw [e]; simpa [T, Str.length] using h), join_flat]
/-- signs one by one -/
theorem join_signs {m : Bool} {l : List Nat} (h : l.length ≤ 16777216) : joinD (.str (T [])) (.lst m (l.map fun c => .str (T [c]))) = some (.str (T l)) := by
  have e : (l.map fun c => [c]).flatten = l := by
    induction l with
    | nil => rfl
    | cons c l ih =>
      rw [List.map_cons, List.flatten_cons, ih (by simp at h; omega)]; rfl
  have := join_T (m := m) (ys := l.map fun c => [c]) (by rw [e]; exact h)
  rw [e, List.map_map] at this
  exact this
theorem isFL_T (l : List Nat) : D.isFL (l.map fun c => .str (T [c])) = true := isFL_map (fun _ => rfl) l
/-- repr of bools and small ints -/
theorem repr_at {d : D} {p : PyData} (h : d.py = some p) (h1 : p.showable = true) (h2 : p.shown.length ≤ sizeLine) (h3 : p.depth ≤ 64) : reprG [d] = some (.str p.shown) := by
  show (d.py).bind _ = _
  rw [h]
  show (if (p.showable && decide (p.shown.length ≤ sizeLine) && decide (p.depth ≤ 64)) = true then some (D.str p.shown) else none) = _
  rw [if_pos (by rw [h1, decide_eq_true h2, decide_eq_true h3]; rfl)]
theorem repr_bl {b : Bool} : reprG [.bl b] = some (.str (PyData.shown (.bool b))) := by
  refine repr_at rfl rfl ?_ (by show 0 ≤ 64; decide)
  cases b
  · show (Str.ofString "False").length ≤ sizeLine
    decide +kernel
  · show (Str.ofString "True").length ≤ sizeLine
    decide +kernel
theorem repr_int {i : Int} (h : i.natAbs.log2 < 1920) : reprG [.int i] = some (.str (PyData.shown (.int i))) := by
  refine repr_at rfl (decide_eq_true h) ?_ (by show 0 ≤ 64; decide)
  show (Str.ofString (toString i)).length ≤ sizeLine
  have h1 := PySem.int_text_length_le (k := 1920) (by decide) h
  have h2 : (Str.ofString (toString i)).length = (toString i).length := by
    rw [Str.ofString_eq_toList]
    show ((toString i).toList.map Char.toNat).toArray.size = _
    rw [List.size_toArray, List.length_map, String.length_toList]
  have h3 : (1921 : Nat) ≤ sizeLine := by decide
  rw [h2]
  omega
theorem log2_mono {a b : Nat} (h : a ≤ b) : a.log2 ≤ b.log2 := by
  by_cases ea : a = 0
  · subst ea
    have : Nat.log2 0 = 0 := by decide
    omega
  · have hb : b ≠ 0 := by omega
    exact (Nat.le_log2 hb).mpr (Nat.le_trans (Nat.log2_self_le ea) h)
/-- isinstance -/
theorem isi_at {d : D} {T : String} {b : Bool} (ho : d.isO = false) (hk : kitB d.typ T = some b) : isiG [d, .opq (.ty T)] = some (.bl b) := by
  show (if d.isO = false then (kitB d.typ T).map D.bl else none) = _
  rw [if_pos ho, hk]; rfl
theorem isi_str_str {z : Str} : isiG [.str z, .opq (.ty "str")] = some (.bl true) := isi_at rfl (show kitB "str" "str" = some true by decide +kernel)
theorem isi_int_int {z : Int} : isiG [.int z, .opq (.ty "int")] = some (.bl true) := isi_at rfl (show kitB "int" "int" = some true by decide +kernel)
theorem isi_int_bool {z : Int} : isiG [.int z, .opq (.ty "bool")] = some (.bl false) := isi_at rfl (show kitB "int" "bool" = some false by decide +kernel)
theorem isi_tup_tup {z : List D} : isiG [.tup z, .opq (.ty "tuple")] = some (.bl true) := isi_at rfl (show kitB "tuple" "tuple" = some true by decide +kernel)
theorem isi_lst_lst {m : Bool} {z : List D} : isiG [.lst m z, .opq (.ty "list")] = some (.bl true) := isi_at rfl (show kitB "list" "list" = some true by decide +kernel)
/-- the law's loop: every turn goes on -/
theorem law_for {g : FG} {body : FS} {ds : List D} {ρ : En} {k : FS} (I : Nat → En → Prop) (h0 : I 0 ρ) (h : ∀ i d ρ, ds[i]? = some d → I i ρ → ∃ ρ1 ρ2, g d ρ = some ρ1 ∧ (body ρ1 = .nx ρ2 ∨ body ρ1 = .ct ρ2) ∧ I (i + 1) ρ2) (fin : ∀ ρ', I ds.length ρ' → ∃ m, GR.fin false (k ρ') = .ok (.bl true) m) :
    ∃ m, GR.fin false (SR.seq (forF g body ds ρ) k) = .ok (.bl true) m := by
  obtain ⟨ρ', e, i⟩ := forF_inv I h h0
  rw [e, seq_nx]
  exact fin ρ' i
end DL

namespace DL
open PySem PySem.Spec PyProof.Rows L2

/-! ### a tuple times an int -/
set_option maxHeartbeats 4000000 in
theorem tuple_one (l : Addr) (items : Array Value) (n : Nat) (dd : Option Addr) (sl : Array (Option Value)) (u : Tok) :
    Meets (Builtin.«tuple.__mul__» ⟨[.ref l, .int 1 u], []⟩) (fun _ R s => s.heap.get? l = some { cls := .type "tuple", dict := dd, data := .seq items n, slots := sl } ∧ R (.ok (.ret (Value.ref l))) s) :=
  .of_wp fun prog w A R s h => by
    obtain ⟨hp, g, d, tk, os⟩ := s
    obtain ⟨ho, h⟩ := h
    have f1 := AutoSeq1.idx_int
    wp_walk using wpAny_loadPart' ho
    exact ⟨_, rfl, h⟩
def rRepT1 (K : PySem.W.Frag) : R2 := fun x y H Q => ∃ l xs, x = .ref l ∧ y = .int 1 ∧ SqT K H l xs ∧ Q (.ref l) H
theorem op_repT1 {X : Cx} : OpR X (binaryOp .Mult) (rRepT1 X.K) := by
  intro pins s σ H x y v u Q I rx ry h
  obtain ⟨l, xs, rfl, rfl, hT, q⟩ := h
  cases rx
  obtain ⟨t, rfl⟩ := ry
  obtain ⟨its, r, ⟨⟨cls, dd, data, sl⟩, ho, hc, n, hd⟩, hs⟩ := I.tuple hT
  simp only at hc hd
  subst hc hd
  refine wpAny_binaryOp_repeat_ref (T := "tuple") (U := "int") (by decide) ⟨_, ho, rfl⟩ (fun s' => typeIs_int s' 1 t) noFill_tuple_mul F.fills_int_mul F.slot_int_rmul repeat_tuple F.slot_int_index.lookup ?_
  refine call_meets F.slot_int_rmul (typeIs_int s 1 t) F.entry_int_rmul (F.args_int_rmul_2 _ _) (int_rmul_tuple 1 t l its.toArray n dd sl) ⟨ho, rfl, ⟨_, ho, rfl⟩, ?_⟩
  exact call_meets F.slot_tuple_mul ⟨_, ho, rfl⟩ F.entry_tuple_mul (F.args_tuple_mul_2 _ _) (tuple_one l its.toArray n dd sl t) ⟨ho, .ref l, H, I, rfl, q⟩
def tmulD : D → D → Option D
  | .tup xs, .int k => if xs ≠ [] ∧ 1 ≤ k ∧ k ≤ 1000 ∧ xs.length ≤ 1000 ∧ D.isFL xs = true then some (.tup (repL k.toNat xs)) else none
  | _, _ => none
def rTMul (K : PySem.W.Frag) : R2 := fun x y H Q => rRepT1 K x y H Q ∨ rRepT K x y H Q
theorem or_tmul {X : Cx} : OpR X (binaryOp .Mult) (rTMul X.K) := op_repT1.or op_repT
theorem tmul_ok {K : PySem.W.Frag} : Op2 K (rTMul K) tmulD := by
  intro H x y d e f1 f2 Q dr hx hy hg q
  unfold tmulD at hg
  split at hg
  · rename_i xs k
    obtain ⟨⟨h1, h2, h3, h4, h5⟩, rfl⟩ := ite_some hg
    obtain ⟨a, ys, rfl, h, l⟩ := hx.tupR
    have hl := l.length
    by_cases hk : k = 1
    · subst hk
      refine .inl ⟨a, ys, rfl, hy.intR, h, q _ _ (Fresh.same ?_)⟩
      have e : repL (1 : Int).toNat xs = xs := by
        show (List.replicate 1 xs).flatten = xs
        simp
      rw [e]
      exact .tup h (l.f0 h5)
    · exact .inr ⟨a, k, ys, rfl, hy.intR, h, (fun z => h1 (List.eq_nil_of_length_eq_zero (by rw [hl, z]; rfl))), by omega, h3, by omega, fun p hp => q _ _ (fresh_tup ((l.f0 h5).rep k.toNat) hp)⟩
  · cases hg
/-! ### max, min of three; of a list -/
def max3G : List D → Option D
  | [.int i, .int j, .int k] => some (.int (max (max i j) k))
  | _ => none
def min3G : List D → Option D
  | [.int i, .int j, .int k] => some (.int (min (min i j) k))
  | _ => none
theorem nuMax2_int {i j : Int} : nuMax2 (.int i) (.int j) = some (.int (max i j)) := by
  show some (if decide (i < j) = true then V.int j else V.int i) = _
  by_cases h : i < j
  · rw [if_pos (decide_eq_true h), Int.max_eq_right (by omega)]
  · rw [if_neg (by simpa using h), Int.max_eq_left (by omega)]
theorem nuMin2_int {i j : Int} : nuMin2 (.int i) (.int j) = some (.int (min i j)) := by
  show some (if decide (j < i) = true then V.int j else V.int i) = _
  by_cases h : j < i
  · rw [if_pos (decide_eq_true h), Int.min_eq_right (by omega)]
  · rw [if_neg (by simpa using h), Int.min_eq_left (by omega)]
theorem max3_ok {K : PySem.W.Frag} : OpN K (rNuC3 nuMax3) max3G := by
  intro H xs ds Q dr hx hg q
  unfold max3G at hg
  split at hg
  · rename_i i j k
    match hx with
    | .cons ⟨f, hx⟩ (.cons ⟨g, hy⟩ (.cons ⟨h, hz⟩ .nil)) =>
      cases hg
      have := hx.intR; subst this
      have := hy.intR; subst this
      have := hz.intR; subst this
      refine ⟨_, _, _, _, rfl, ?_, q _ _ fresh_int⟩
      show (nuMax2 (.int i) (.int j)).bind _ = _
      rw [nuMax2_int]
      exact nuMax2_int
  · cases hg
theorem min3_ok {K : PySem.W.Frag} : OpN K (rNuC3 nuMin3) min3G := by
  intro H xs ds Q dr hx hg q
  unfold min3G at hg
  split at hg
  · rename_i i j k
    match hx with
    | .cons ⟨f, hx⟩ (.cons ⟨g, hy⟩ (.cons ⟨h, hz⟩ .nil)) =>
      cases hg
      have := hx.intR; subst this
      have := hy.intR; subst this
      have := hz.intR; subst this
      refine ⟨_, _, _, _, rfl, ?_, q _ _ fresh_int⟩
      show (nuMin2 (.int i) (.int j)).bind _ = _
      rw [nuMin2_int]
      exact nuMin2_int
  · cases hg
def maxL : List Int → Int
  | [] => 0
  | x :: xs => xs.foldl max x
def minL : List Int → Int
  | [] => 0
  | x :: xs => xs.foldl min x
theorem maxL_fold : ∀ (xs : List Int) (x : Int), x ≤ xs.foldl max x ∧ (∀ y ∈ xs, y ≤ xs.foldl max x) ∧ (xs.foldl max x = x ∨ xs.foldl max x ∈ xs)
  | [], x => ⟨Int.le_refl _, (fun _ h => nomatch h), .inl rfl⟩
  | z :: xs, x => by
    obtain ⟨h1, h2, h3⟩ := maxL_fold xs (max x z)
    rw [List.foldl_cons]
    refine ⟨by omega, fun y hy => ?_, ?_⟩
    · rcases List.mem_cons.mp hy with rfl | hy
      · omega
      · exact h2 y hy
    · rcases h3 with h3 | h3
      · rw [h3]
        by_cases h : x ≤ z
        · right; rw [Int.max_eq_right h]; exact List.mem_cons_self
        · left; rw [Int.max_eq_left (by omega)]
      · right; exact List.mem_cons_of_mem _ h3
theorem minL_fold : ∀ (xs : List Int) (x : Int), xs.foldl min x ≤ x ∧ (∀ y ∈ xs, xs.foldl min x ≤ y) ∧ (xs.foldl min x = x ∨ xs.foldl min x ∈ xs)
  | [], x => ⟨Int.le_refl _, (fun _ h => nomatch h), .inl rfl⟩
  | z :: xs, x => by
    obtain ⟨h1, h2, h3⟩ := minL_fold xs (min x z)
    rw [List.foldl_cons]
    refine ⟨by omega, fun y hy => ?_, ?_⟩
    · rcases List.mem_cons.mp hy with rfl | hy
      · omega
      · exact h2 y hy
    · rcases h3 with h3 | h3
      · rw [h3]
        by_cases h : x ≤ z
        · left; rw [Int.min_eq_left h]
        · right; rw [Int.min_eq_right (by omega)]; exact List.mem_cons_self
      · right; exact List.mem_cons_of_mem _ h3
theorem maxL_is {ns : List Int} {m : Int} (h : m ∈ ns) (h2 : ∀ y ∈ ns, y ≤ m) : m = maxL ns := by
  cases ns with
  | nil => cases h
  | cons x xs =>
    obtain ⟨a, b, c⟩ := maxL_fold xs x
    have u : maxL (x :: xs) ≤ m := by
      show xs.foldl max x ≤ m
      rcases c with c | c
      · rw [c]; exact h2 x List.mem_cons_self
      · exact h2 _ (List.mem_cons_of_mem _ c)
    have l : m ≤ maxL (x :: xs) := by
      show m ≤ xs.foldl max x
      rcases List.mem_cons.mp h with rfl | h
      · exact a
      · exact b m h
    omega
theorem minL_is {ns : List Int} {m : Int} (h : m ∈ ns) (h2 : ∀ y ∈ ns, m ≤ y) : m = minL ns := by
  cases ns with
  | nil => cases h
  | cons x xs =>
    obtain ⟨a, b, c⟩ := minL_fold xs x
    have u : m ≤ minL (x :: xs) := by
      show m ≤ xs.foldl min x
      rcases c with c | c
      · rw [c]; exact h2 x List.mem_cons_self
      · exact h2 _ (List.mem_cons_of_mem _ c)
    have l : minL (x :: xs) ≤ m := by
      show xs.foldl min x ≤ m
      rcases List.mem_cons.mp h with rfl | h
      · exact a
      · exact b m h
    omega
def maxLG : List D → Option D
  | [.lst _ xs] => (intsD xs).bind fun ns => if 0 < ns.length then some (.int (maxL ns)) else none
  | _ => none
def minLG : List D → Option D
  | [.lst _ xs] => (intsD xs).bind fun ns => if 0 < ns.length then some (.int (minL ns)) else none
  | _ => none
theorem maxL_ok {K : PySem.W.Frag} : OpN K (rMax K) maxLG := by
  intro H xs ds Q dr hx hg q
  unfold maxLG at hg
  split at hg
  · match hx with
    | .cons ⟨f, hx⟩ .nil =>
      obtain ⟨ns, e1, e2⟩ := Option.bind_eq_some_iff.mp hg
      obtain ⟨h, rfl⟩ := ite_some e2
      obtain ⟨a, ys, g, rfl, hs, l⟩ := hx.lstR
      have e := intsD_v l e1
      subst e
      exact ⟨a, ns, rfl, hs, h, fun m h1 h2 => by rw [maxL_is h1 h2]; exact q _ _ fresh_int⟩
  · cases hg
theorem minL_ok {K : PySem.W.Frag} : OpN K (rMin K) minLG := by
  intro H xs ds Q dr hx hg q
  unfold minLG at hg
  split at hg
  · match hx with
    | .cons ⟨f, hx⟩ .nil =>
      obtain ⟨ns, e1, e2⟩ := Option.bind_eq_some_iff.mp hg
      obtain ⟨h, rfl⟩ := ite_some e2
      obtain ⟨a, ys, g, rfl, hs, l⟩ := hx.lstR
      have e := intsD_v l e1
      subst e
      exact ⟨a, ns, rfl, hs, h, fun m h1 h2 => by rw [minL_is h1 h2]; exact q _ _ fresh_int⟩
  · cases hg
/-! ### append -/
def kApp2 (i : Nat) (d : D) (ρ : En) : Option D → R D
  | some (.lst true xs) => if xs.length < sizeLine then .ok .non (ρ.set i (some (.lst true (xs ++ [d])))) else .stk
  | _ => .stk
def kApp1 (i : Nat) (d : D) (ρ : En) : R D := kApp2 i d ρ (slot ρ i)
def kApp (i : Nat) (f : FE) (ρ : En) : Option D → R D
  | some (.lst _ _) => (f ρ).bind (kApp1 i)
  | _ => .stk
def fApp (i : Nat) (f : FE) : FE := fun ρ => kApp i f ρ (slot ρ i)
theorem ev_App {i : Nat} {f : FE} {ρ : En} : fApp i f ρ = kApp i f ρ (slot ρ i) := rfl
theorem ev_App0 {i : Nat} {f : FE} {ρ : En} {m : Bool} {xs : List D} : kApp i f ρ (some (.lst m xs)) = (f ρ).bind (kApp1 i) := rfl
theorem ev_App1 {i : Nat} {d : D} {ρ : En} : kApp1 i d ρ = kApp2 i d ρ (slot ρ i) := rfl
theorem ev_App2 {i : Nat} {d : D} {ρ : En} {xs : List D} (h : xs.length < sizeLine) : kApp2 i d ρ (some (.lst true xs)) = .ok .non (ρ.set i (some (.lst true (xs ++ [d])))) := if_pos h
section
variable {X : Cx} {c : Ct} {Ew : Xn → En → Prop} {e : Expr} {pos apos p : Pos} {x : Str}
theorem de_append {f : FE} (i : Nat) (hm : PE X (.Name x p) (tVar i)) (h : DE X c Ew e f) (hbase : attributeBase (.Name x p) "append" X.env (eval (.Name x p) X.env) = eval (.Name x p) X.env := by rfl)
    (hfew : ((backTo pos (starEach [e] X.env)).all (fun x => !x.1) && (backToKw pos (keywordEach [] X.env)).all (fun x => x.1.isSome) && decide ([e].length + ([] : List Keyword).length + (if ([] : List Keyword).isEmpty then 0 else 1) < 30)) = true := by rfl)
    (hline : (apos.endLine == pos.line) = true := by rfl) (hs : starEach [e] X.env = (false, eval e X.env) :: starEach [] X.env := by rfl) (hplain : (backTo pos (starEach [] X.env)).any (·.1) = false := by rfl) :
    DE X c Ew (.Call (.Attribute (.Name x p) "append" apos) [e] [] pos) (fApp i f) := by
  refine (pe_bm PySem.F.plainAttrs_list PySem.F.slot_list_append PySem.F.type_list_append mt_append hm (pa_cons h pa_nil hs) hbase hfew hline hs hplain).dimp fun σ H Q ⟨ρ, P, rp, q⟩ => ?_
  unfold fApp at q
  cases es : slot ρ i with
  | none => rw [es] at q; exact q.elim
  | some d0 =>
    rw [es] at q
    cases d0 with
    | lst m0 xs0 =>
      rw [ev_App0, R.sat_bind] at q
      obtain ⟨v0, f0, e0, x0⟩ := rp.slot (slot_some es)
      obtain ⟨a, ys, g, rfl, hs, _⟩ := x0.lstR
      refine ⟨.ref a, e0, .inl ⟨rfl, ys, hs⟩, ρ, P, rp, q.imp fun d ρ1 q v H1 r1 => ?_⟩
      rw [ev_App1] at q
      cases e1 : slot ρ1 i with
      | none => rw [e1] at q; exact q.elim
      | some d1 =>
        rw [e1] at q
        cases d1 with
        | lst m xs =>
          cases m with
          | false => exact q.elim
          | true =>
            have q : (if xs.length < sizeLine then R.ok D.non (ρ1.set i (some (.lst true (xs ++ [d])))) else .stk).sat _ Ew := q
            split at q
            · rename_i hz
              obtain ⟨v1, e2, r2⟩ := r1.take (slot_some e1)
              rw [e0] at e2; cases e2
              obtain ⟨zs, h1, h2, r3⟩ := r2.swap.app1
              have r4 := r3.put e0
              rw [List.set_set] at r4
              exact ⟨a, zs, v, rfl, rfl, h1, by omega, q .non _ (r4.push0 .non)⟩
            · exact q.elim
        | _ => exact q.elim
    | _ => exact q.elim
end
end DL

namespace DL
open PySem PySem.Spec PyProof.Rows L2

/-! ### what is shown is short -/
theorem int_shown {i : Int} (h : Bd 1000 i) : (PyData.shown (.int i)).length ≤ 1200 ∧ PyData.showable (.int i) = true := by
  have hl : i.natAbs.log2 < 1000 := log2_lt_of h (by decide)
  constructor
  · show (Str.ofString (toString i)).length ≤ 1200
    have h1 := PySem.int_text_length_le (k := 1000) (by decide) hl
    have h2 : (Str.ofString (toString i)).length = (toString i).length := by
      rw [Str.ofString_eq_toList]
      show ((toString i).toList.map Char.toNat).toArray.size = _
      rw [List.size_toArray, List.length_map, String.length_toList]
    omega
  · exact decide_eq_true (Nat.lt_trans hl (by decide))
theorem repr_gen {d : D} {p : PyData} (h : d.py = some p) (h1 : p.showable = true) (h2 : p.leavesShort 1200 = true) (h3 : p.bulk ≤ 10000) (h4 : p.depth ≤ 64) : reprG [d] = some (.str p.shown) := by
  refine repr_at h h1 ?_ h4
  have := PyData.shown_le_bulk 1200 (by decide) p h2
  have hz : (1200 + 2) * 10000 + 1200 ≤ sizeLine := by decide
  have : (1200 + 2) * p.bulk ≤ (1200 + 2) * 10000 := Nat.mul_le_mul_left _ h3
  omega
theorem ints_parts : ∀ ns : List Int, (∀ n ∈ ns, Bd 1000 n) → PyData.showableAll (ns.map PyData.int) = true ∧ PyData.leavesShortAll 1200 (ns.map PyData.int) = true ∧ PyData.bulkAll (ns.map PyData.int) = ns.length
  | [], _ => ⟨rfl, rfl, rfl⟩
  | n :: ns, h => by
    obtain ⟨a, b, c⟩ := ints_parts ns fun x hx => h x (List.mem_cons_of_mem _ hx)
    obtain ⟨u, v⟩ := int_shown (h n List.mem_cons_self)
    refine ⟨?_, ?_, ?_⟩
    · simp only [List.map_cons, PyData.showableAll, v, a, Bool.and_self]
    · simp only [List.map_cons, PyData.leavesShortAll, PyData.leavesShort, decide_eq_true u, b, Bool.and_self]
    · simp only [List.map_cons, PyData.bulkAll, PyData.bulk, c, List.length_cons]
      omega
theorem repr_ints {m : Bool} {ns : List Int} (h : ∀ n ∈ ns, Bd 1000 n) (hl : ns.length ≤ 10000) : reprG [.lst m (ns.map D.int)] = some (.str (PyData.shown (.list (ns.map PyData.int)))) := by
  obtain ⟨a, b, c⟩ := ints_parts ns h
  refine repr_gen (p := .list (ns.map PyData.int)) ?_ (by simpa only [PyData.showable] using a) (by simpa only [PyData.leavesShort] using b) (by simpa only [PyData.bulk, c] using hl) ?_
  · show (D.pyL (ns.map D.int)).map PyData.list = _
    rw [py_ints]; rfl
  · show PyData.depthAll (ns.map PyData.int) + 1 ≤ 64
    rw [depth_flat _ (fun p hp => by obtain ⟨i, _, rfl⟩ := List.mem_map.mp hp; rfl)]; decide
theorem repr_tup_ints {ns : List Int} (h : ∀ n ∈ ns, Bd 1000 n) (hl : ns.length ≤ 10000) : reprG [.tup (ns.map D.int)] = some (.str (PyData.shown (.tuple (ns.map PyData.int)))) := by
  obtain ⟨a, b, c⟩ := ints_parts ns h
  refine repr_gen (p := .tuple (ns.map PyData.int)) ?_ (by simpa only [PyData.showable] using a) (by simpa only [PyData.leavesShort] using b) (by simpa only [PyData.bulk, c] using hl) ?_
  · show (D.pyL (ns.map D.int)).map PyData.tuple = _
    rw [py_ints]; rfl
  · show PyData.depthAll (ns.map PyData.int) + 1 ≤ 64
    rw [depth_flat _ (fun p hp => by obtain ⟨i, _, rfl⟩ := List.mem_map.mp hp; rfl)]; decide
/-! ### small lemmas on subscripts -/
theorem ix_lst {m : Bool} {xs : List D} {j : Nat} {d : D} (h : xs[j]? = some d) (hf : d.isF = true) : ixD (.lst m xs) (.int (j : Int)) = some d := by
  show (atI xs (j : Int)).bind _ = _
  rw [atI_nat, h]
  show (if d.isF = true then some d else none) = _
  rw [if_pos hf]
theorem ix_tup {xs : List D} {j : Nat} {d : D} (h : xs[j]? = some d) (hf : d.isF = true) : ixD (.tup xs) (.int (j : Int)) = some d := by
  show (atI xs (j : Int)).bind _ = _
  rw [atI_nat, h]
  show (if d.isF = true then some d else none) = _
  rw [if_pos hf]
theorem sl_tup {xs : List D} {lo hi : Option Int} (h : D.isFL xs = true) : slD (.tup xs) lo hi = some (.tup (cutL xs lo hi)) := if_pos h
theorem sl_lst {m : Bool} {xs : List D} {lo hi : Option Int} (h : D.isFL xs = true) : slD (.lst m xs) lo hi = some (.lst true (cutL xs lo hi)) := if_pos h
theorem items_tup {xs : List D} (h : D.isFL xs = true) : items (.tup xs) = some xs := if_pos h
theorem itemsQ_tup {xs : List D} (h : D.isFL xs = true) : itemsQ (.tup xs) = some xs := if_pos h
theorem itemsQ_lst {xs : List D} (h : D.isFL xs = true) : itemsQ (.lst false xs) = some xs := items_lst h
theorem isFL_rep {x : D} (h : x.isF = true) : ∀ n, D.isFL (List.replicate n x) = true
  | 0 => rfl
  | n + 1 => by rw [List.replicate_succ, isFL_cons, h, isFL_rep h n]; rfl
theorem max2_int {i j : Int} : max2G [.int i, .int j] = some (.int (max i j)) := by
  show some (D.int (if j > i then j else i)) = _
  by_cases h : j > i
  · rw [if_pos h, Int.max_eq_right (by omega)]
  · rw [if_neg h, Int.max_eq_left (by omega)]
theorem min2_int {i j : Int} : min2G [.int i, .int j] = some (.int (min i j)) := by
  show some (D.int (if j < i then j else i)) = _
  by_cases h : j < i
  · rw [if_pos h, Int.min_eq_right (by omega)]
  · rw [if_neg h, Int.min_eq_left (by omega)]
theorem max3_int {i j k : Int} : max3G [.int i, .int j, .int k] = some (.int (max (max i j) k)) := rfl
theorem maxLG_ints {m : Bool} {ns : List Int} (h : 0 < ns.length) : maxLG [.lst m (ns.map D.int)] = some (.int (maxL ns)) := by
  show (intsD (ns.map D.int)).bind _ = _
  rw [intsD_map]
  exact if_pos h
theorem minLG_ints {m : Bool} {ns : List Int} (h : 0 < ns.length) : minLG [.lst m (ns.map D.int)] = some (.int (minL ns)) := by
  show (intsD (ns.map D.int)).bind _ = _
  rw [intsD_map]
  exact if_pos h
theorem sumG_ints {m : Bool} {ns : List Int} : sumG [.lst m (ns.map D.int)] = some (.int ns.sum) := by
  show (intsD (ns.map D.int)).map _ = _
  rw [intsD_map]; rfl
theorem addD_lst {m m' : Bool} {xs ys : List D} (h : xs.length + ys.length ≤ sizeLine) (hx : D.isFL xs = true) (hy : D.isFL ys = true) : addD (.lst m xs) (.lst m' ys) = some (.lst true (xs ++ ys)) := if_pos ⟨h, hx, hy⟩
theorem addD_tup {xs ys : List D} (h : xs.length + ys.length ≤ sizeLine) (hx : D.isFL xs = true) (hy : D.isFL ys = true) : addD (.tup xs) (.tup ys) = some (.tup (xs ++ ys)) := if_pos ⟨h, hx, hy⟩
theorem tmul_of {xs : List D} {k : Int} (h : xs ≠ [] ∧ 1 ≤ k ∧ k ≤ 1000 ∧ xs.length ≤ 1000 ∧ D.isFL xs = true) : tmulD (.tup xs) (.int k) = some (.tup (repL k.toNat xs)) := if_pos h
theorem rep_one {x : D} : ∀ k : Nat, repL k [x] = List.replicate k x
  | 0 => rfl
  | k + 1 => by
    show (List.replicate (k + 1) [x]).flatten = _
    rw [List.replicate_succ, List.flatten_cons, List.replicate_succ]
    show x :: (List.replicate k [x]).flatten = _
    rw [show (List.replicate k [x]).flatten = List.replicate k x from rep_one k]
theorem ixN_last {n : Nat} : ixN (n + 1) (-1) = some n := by
  unfold ixN
  rw [if_neg (by decide), if_pos (by omega)]
  congr 1
  omega
theorem rangeL_n {lo : Int} {n : Nat} : (rangeL lo n).length = n := by simp [rangeL]
theorem rangeL_get {lo : Int} {n i : Nat} {d : D} (h : (rangeL lo n)[i]? = some d) : i < n ∧ d = .int (lo + (i : Nat)) := by
  have hi : i < n := by
    have := (List.getElem?_eq_some_iff.mp h).1
    rwa [rangeL_n] at this
  refine ⟨hi, ?_⟩
  simp [rangeL, hi] at h
  exact h.symm
theorem big62_at {i : Int} (h : 0 ≤ i) (h2 : i ≤ 1000000) : big62 i := ⟨by omega, by omega⟩
theorem sz1000 {n : Nat} (h : n ≤ 1000) : n ≤ sizeLine := Nat.le_trans h (by decide)
end DL

namespace DL
open PySem PySem.Spec PyProof.Rows L2
abbrev fuelB : Nat := 1000000
def bB_begun : FS := fSeq (fSet 1 (fLc [2] (fIter (fName 0)) (gSet 2) (fTst (fBin (geD) (fLoc 2) (fVal (fBin powD (fVal (fC (.int 10))) (fVal (fC (.int 18))))))) (fName 2))) (fRet (fDisp [(.inr "cells", fCallB listG (fCons (fLoc 0) (fNil))), (.inr "great", fMove 1), (.inr "spot", fC (.int 0))]))
def gB_begun : List D → GR := GF 1 3 false bB_begun
def bB_next : FS := fSeq (whileF (fAndT (fTst (fPk (eqD true) 0 (.inr "great") (fun _ => some (.lst true [])))) (fTst (fBin (eqD false) (fVal (fPk ixD 0 (.inr "great") (fun _ => some (.int 0)))) (fVal (fC (.int 0)))))) (fAsg (gStD 0 (fVal (fC (.str "great")))) (fPkSl 0 (.inr "great") (some 1) none)) fuelB) (fSeq (fIfS (fTst (fPk (eqD true) 0 (.inr "great") (fun _ => some (.lst true [])))) (fSeq (fSet 2 (fCallB intG (fCons (fVal (fPk ixD 0 (.inr "great") (fun _ => some (.int 0)))) (fNil)))) (fSeq (fAsg (gNest 0 (.inr "great") (fun _ => some (.int 0))) (fBin fdivD (fLoc 2) (fLoc 1))) (fRet (fBin modD (fLoc 2) (fLoc 1))))) (fNx)) (fSeq (fSet 3 (fBin addD (fVal (fDGet 0 (fVal (fC (.str "spot"))))) (fVal (fC (.int 1))))) (fSeq (fAsg (gStD 0 (fVal (fC (.str "spot")))) (fName 3)) (fSeq (fSet 4 (fIf (fTst (fBin (eqD true) (fVal (fDGet 0 (fVal (fC (.str "cells"))))) (fVal (fCallB lstG (fNil))))) (fBin ixD (fVal (fDGet 0 (fVal (fC (.str "cells"))))) (fVal (fBin modD (fVal (fCallB intG (fCons (fLoc 3) (fNil)))) (fVal (fCallB lenG (fCons (fVal (fDGet 0 (fVal (fC (.str "cells"))))) (fNil))))))) (fC (.int 43)))) (fSeq (fSet 5 (fBin mulD (fVal (fCallB intG (fCons (fVal (fBin addD (fVal (fBin addD (fVal (fBin modD (fVal (fCallB intG (fCons (fLoc 4) (fNil)))) (fVal (fC (.int 2147483563))))) (fVal (fBin mulD (fVal (fC (.int 6053))) (fLoc 3))))) (fVal (fBin mulD (fVal (fBin mulD (fVal (fC (.int 53))) (fLoc 3))) (fLoc 3))))) (fNil)))) (fVal (fC (.int 40014))))) (fSeq (fSet 5 (fBin mulD (fVal (fCallB intG (fCons (fVal (fBin addD (fVal (fBin modD (fVal (fCallB intG (fCons (fLoc 5) (fNil)))) (fVal (fC (.int 2147483563))))) (fVal (fBin mulD (fVal (fC (.int 88969))) (fLoc 3))))) (fNil)))) (fVal (fC (.int 742938285))))) (fRet (fBin modD (fVal (fCallB intG (fCons (fVal (fBin fdivD (fVal (fBin modD (fVal (fCallB intG (fCons (fLoc 5) (fNil)))) (fVal (fC (.int 2147483549))))) (fVal (fC (.int 17))))) (fNil)))) (fLoc 1)))))))))
def gB_next : List D → GR := GF 2 6 true bB_next
def bB_of : FS := fRet (fBin ixD (fLoc 1) (fVal (fCallM gB_next (fCons (fLoc 0) (fCons (fVal (fFz (fCallB lenG (fCons (fLoc 1) (fNil))))) (fNil))))))
def gB_of : List D → GR := GF 2 2 true bB_of
/-! ### the draws of the laws 41 to 57 -/
def kB : List Key := [.inr "cells", .inr "great", .inr "spot"]
theorem kB_c : kIx kB (.inr "cells") = some 0 := by decide +kernel
theorem kB_g : kIx kB (.inr "great") = some 1 := by decide +kernel
theorem kB_s : kIx kB (.inr "spot") = some 2 := by decide +kernel
theorem kB_nd : kB.Nodup ∧ kB.length < sizeLine := by decide +kernel
theorem putB_g {a b c d : D} : putD kB [a, b, c] (.inr "great") d = some (kB, [a, d, c]) := by
  unfold putD; rw [if_pos kB_nd, kB_g]; rfl
theorem putB_s {a b c d : D} : putD kB [a, b, c] (.inr "spot") d = some (kB, [a, b, d]) := by
  unfold putD; rw [if_pos kB_nd, kB_s]; rfl
def mB (cm : Bool) (cs gs : List Int) (k : Int) : D := .dic true kB [.lst cm (cs.map .int), .lst true (gs.map .int), .int k]
def DrB (n : Nat) (m : D) : Prop := ∃ cm cs gs k, m = mB cm cs gs k ∧ 0 ≤ k ∧ k ≤ n ∧ gs.length ≤ 63
theorem cut1 (gs : List Int) : slD (.lst true (gs.map D.int)) (some 1) none = some (.lst true (gs.tail.map D.int)) := by
  show (if D.isFL (gs.map D.int) = true then some (D.lst true (cutL (gs.map D.int) (some 1) none)) else none) = _
  rw [if_pos (isFL_int gs), show cutL (gs.map D.int) (some 1) none = (gs.map D.int).drop 1 from cutL_n_ _ 1, ← List.map_drop, List.drop_one]
section
variable {t : Int} {a b c d e' : Option D}
theorem whileB (cm : Bool) (cs : List Int) (k : Int) : ∀ (gs : List Int) (n : Nat), gs.length < n → whileF (fAndT (fTst (fPk (eqD true) 0 (.inr "great") (fun _ => some (.lst true [])))) (fTst (fBin (eqD false) (fVal (fPk ixD 0 (.inr "great") (fun _ => some (.int 0)))) (fVal (fC (.int 0)))))) (fAsg (gStD 0 (fVal (fC (.str "great")))) (fPkSl 0 (.inr "great") (some 1) none)) n [some (mB cm cs gs k), a, b, c, d, e'] = .nx [some (mB cm cs (gs.dropWhile (· = 0)) k), a, b, c, d, e'] := by
  intro gs
  induction gs with
  | nil =>
    intro n hn
    obtain ⟨n, rfl⟩ : ∃ n', n = n' + 1 := ⟨n - 1, by simp at hn; omega⟩
    refine whileF_f ?_
    have e := @eq_nil_ints true true true []
    simp only [List.map_nil, if_true, List.isEmpty_nil, Bool.not_true] at e
    simp -implicitDefEqProofs only [slot_0, slot_n, slot_s, res_v, res_l, ev_C, ev_Name, ev_Name1, ev_Move, ev_Move1, ev_Loc, ev_Loc1, ev_Val, ev_Val1, ev_Fz, ev_Fz1, ev_l2, ev_l21, ev_l1, ev_l11, ev_Bin, ev_Bin1, ev_Un, ev_Tst, ev_asB, ev_NotT, ev_NotT1, ev_AndT, ev_AndT1, ev_OrT, ev_OrT1, ev_AndV, ev_AndV1, ev_OrV, ev_OrV1, ev_NotV, ev_NotV1, ev_If, ev_If1, ev_Ch, ev_Ch1, ev_Ch2, ev_Ch3, ev_Nil, ev_Cons, ev_Cons1, ev_Cons2, oc_s, ress_0, ress_s, ocF_s, resF_0, resF_s, ev_lN, ev_lN1, ev_CallB, kRet_ok, ev_Call, ev_Call1, ev_Call2, kRetM_ok, ev_CallM, ev_CallM1, ev_CallM2, ev_M1, ev_M11, ev_M12, ev_M13, ev_M14, ev_Pk, ev_Pk1, ev_PkSl, ev_PkSl1, ev_pk, ev_pk1, prt_n, prt_s, prt_1, prt_2, ev_Sl, ev_Sl0, ev_Sl1, ev_Sl2, ev_Sl3, ev_DG, ev_DGs, ev_DG0, ev_DG1, ev_DG2, ev_DG3, ev_DG4, ev_P0, ev_P1, ev_P2, ev_P3, ev_Disp, ev_Disp1, ev_Lc, ev_Lc1, ev_Lc2, ev_Yes, wipe_0, wipe_s, rest_0, rest_s, ev_Iter, ev_Iter1, ev_Enum, ev_Enum1, ev_Zip, ev_Zip1, ev_Zip2, ev_Zip3, ev_Rg, ev_Rg0, ev_Rg1, ev_Rh, ev_Rh0, ev_Rh1, ev_Rh2, ev_gS, ev_gN, ev_gC, ev_gT, ev_StL, ev_StL1, ev_StL2, ev_StD, ev_StD1, ev_StD2, ev_Seq, seq_nx, seq_rt, seq_bk, seq_ct, ev_Nx, ev_Set, ev_Set1, ev_Drop, ev_Drop1, ev_Ret, ev_IfS, ev_IfS1, ev_Asg, ev_Asg1, ofS_some, ev_Par, ev_Par1, ev_Par2, ev_Tri, ev_Tri1, ev_Tri2, ev_Tri3, ev_Aug, ev_Aug1, ev_Aug2, ev_Aug3, ev_For, nox_lc, R.bind_ok, R.bindS_ok, R.of_some, List.set_cons_zero, List.set_cons_succ, if_true, Bool.false_eq_true, if_false, Bool.not_true, Bool.not_false, Option.bind_some, Option.map_some, ev_Nest, ev_Nest1, lst_nil, frz_int, frz_str, frz_bl, frz_lst, frzL_int, frzL_str, frz_non, frz_tup, frzL_cons, frzL_nil, isF_tup, isFL_cons, isFL_nil, Bool.and_true, Bool.true_and, Bool.and_self, ev_App, ev_App0, ev_App1, isF_int, isF_str, isF_bl, isF_lst, isFL_int, isFL_str, isF_non, isF_opq, fin_rt, fin_nx, endG_f, endG_t, D.key, mB, kB_g, List.getElem?_cons_zero, List.getElem?_cons_succ, List.map_nil, e, List.dropWhile_nil]
  | cons g gs ih =>
    intro n hn
    obtain ⟨n, rfl⟩ : ∃ n', n = n' + 1 := ⟨n - 1, by simp at hn; omega⟩
    have e := @eq_nil_ints true true true (g :: gs)
    simp only [if_true, List.isEmpty_cons, Bool.not_false] at e
    have e1 : ixD (.lst true ((g :: gs).map D.int)) (.int 0) = some (.int g) := ix_int (j := 0) rfl
    by_cases hg : g = 0
    · subst hg
      rw [List.dropWhile_cons, if_pos (by decide)]
      refine (whileF_t (ρ1 := [some (mB cm cs (0 :: gs) k), a, b, c, d, e']) (ρ2 := [some (mB cm cs gs k), a, b, c, d, e']) ?_ ?_).trans (ih n (by simp at hn; omega))
      · simp -implicitDefEqProofs only [slot_0, slot_n, slot_s, res_v, res_l, ev_C, ev_Name, ev_Name1, ev_Move, ev_Move1, ev_Loc, ev_Loc1, ev_Val, ev_Val1, ev_Fz, ev_Fz1, ev_l2, ev_l21, ev_l1, ev_l11, ev_Bin, ev_Bin1, ev_Un, ev_Tst, ev_asB, ev_NotT, ev_NotT1, ev_AndT, ev_AndT1, ev_OrT, ev_OrT1, ev_AndV, ev_AndV1, ev_OrV, ev_OrV1, ev_NotV, ev_NotV1, ev_If, ev_If1, ev_Ch, ev_Ch1, ev_Ch2, ev_Ch3, ev_Nil, ev_Cons, ev_Cons1, ev_Cons2, oc_s, ress_0, ress_s, ocF_s, resF_0, resF_s, ev_lN, ev_lN1, ev_CallB, kRet_ok, ev_Call, ev_Call1, ev_Call2, kRetM_ok, ev_CallM, ev_CallM1, ev_CallM2, ev_M1, ev_M11, ev_M12, ev_M13, ev_M14, ev_Pk, ev_Pk1, ev_PkSl, ev_PkSl1, ev_pk, ev_pk1, prt_n, prt_s, prt_1, prt_2, ev_Sl, ev_Sl0, ev_Sl1, ev_Sl2, ev_Sl3, ev_DG, ev_DGs, ev_DG0, ev_DG1, ev_DG2, ev_DG3, ev_DG4, ev_P0, ev_P1, ev_P2, ev_P3, ev_Disp, ev_Disp1, ev_Lc, ev_Lc1, ev_Lc2, ev_Yes, wipe_0, wipe_s, rest_0, rest_s, ev_Iter, ev_Iter1, ev_Enum, ev_Enum1, ev_Zip, ev_Zip1, ev_Zip2, ev_Zip3, ev_Rg, ev_Rg0, ev_Rg1, ev_Rh, ev_Rh0, ev_Rh1, ev_Rh2, ev_gS, ev_gN, ev_gC, ev_gT, ev_StL, ev_StL1, ev_StL2, ev_StD, ev_StD1, ev_StD2, ev_Seq, seq_nx, seq_rt, seq_bk, seq_ct, ev_Nx, ev_Set, ev_Set1, ev_Drop, ev_Drop1, ev_Ret, ev_IfS, ev_IfS1, ev_Asg, ev_Asg1, ofS_some, ev_Par, ev_Par1, ev_Par2, ev_Tri, ev_Tri1, ev_Tri2, ev_Tri3, ev_Aug, ev_Aug1, ev_Aug2, ev_Aug3, ev_For, nox_lc, R.bind_ok, R.bindS_ok, R.of_some, List.set_cons_zero, List.set_cons_succ, if_true, Bool.false_eq_true, if_false, Bool.not_true, Bool.not_false, Option.bind_some, Option.map_some, ev_Nest, ev_Nest1, lst_nil, frz_int, frz_str, frz_bl, frz_lst, frzL_int, frzL_str, frz_non, frz_tup, frzL_cons, frzL_nil, isF_tup, isFL_cons, isFL_nil, Bool.and_true, Bool.true_and, Bool.and_self, ev_App, ev_App0, ev_App1, isF_int, isF_str, isF_bl, isF_lst, isFL_int, isFL_str, isF_non, isF_opq, fin_rt, fin_nx, endG_f, endG_t, D.key, mB, kB_g, List.getElem?_cons_zero, List.getElem?_cons_succ, e, e1, eq_int, decide_true]
      · have e2 := cut1 (0 :: gs)
        simp -implicitDefEqProofs only [slot_0, slot_n, slot_s, res_v, res_l, ev_C, ev_Name, ev_Name1, ev_Move, ev_Move1, ev_Loc, ev_Loc1, ev_Val, ev_Val1, ev_Fz, ev_Fz1, ev_l2, ev_l21, ev_l1, ev_l11, ev_Bin, ev_Bin1, ev_Un, ev_Tst, ev_asB, ev_NotT, ev_NotT1, ev_AndT, ev_AndT1, ev_OrT, ev_OrT1, ev_AndV, ev_AndV1, ev_OrV, ev_OrV1, ev_NotV, ev_NotV1, ev_If, ev_If1, ev_Ch, ev_Ch1, ev_Ch2, ev_Ch3, ev_Nil, ev_Cons, ev_Cons1, ev_Cons2, oc_s, ress_0, ress_s, ocF_s, resF_0, resF_s, ev_lN, ev_lN1, ev_CallB, kRet_ok, ev_Call, ev_Call1, ev_Call2, kRetM_ok, ev_CallM, ev_CallM1, ev_CallM2, ev_M1, ev_M11, ev_M12, ev_M13, ev_M14, ev_Pk, ev_Pk1, ev_PkSl, ev_PkSl1, ev_pk, ev_pk1, prt_n, prt_s, prt_1, prt_2, ev_Sl, ev_Sl0, ev_Sl1, ev_Sl2, ev_Sl3, ev_DG, ev_DGs, ev_DG0, ev_DG1, ev_DG2, ev_DG3, ev_DG4, ev_P0, ev_P1, ev_P2, ev_P3, ev_Disp, ev_Disp1, ev_Lc, ev_Lc1, ev_Lc2, ev_Yes, wipe_0, wipe_s, rest_0, rest_s, ev_Iter, ev_Iter1, ev_Enum, ev_Enum1, ev_Zip, ev_Zip1, ev_Zip2, ev_Zip3, ev_Rg, ev_Rg0, ev_Rg1, ev_Rh, ev_Rh0, ev_Rh1, ev_Rh2, ev_gS, ev_gN, ev_gC, ev_gT, ev_StL, ev_StL1, ev_StL2, ev_StD, ev_StD1, ev_StD2, ev_Seq, seq_nx, seq_rt, seq_bk, seq_ct, ev_Nx, ev_Set, ev_Set1, ev_Drop, ev_Drop1, ev_Ret, ev_IfS, ev_IfS1, ev_Asg, ev_Asg1, ofS_some, ev_Par, ev_Par1, ev_Par2, ev_Tri, ev_Tri1, ev_Tri2, ev_Tri3, ev_Aug, ev_Aug1, ev_Aug2, ev_Aug3, ev_For, nox_lc, R.bind_ok, R.bindS_ok, R.of_some, List.set_cons_zero, List.set_cons_succ, if_true, Bool.false_eq_true, if_false, Bool.not_true, Bool.not_false, Option.bind_some, Option.map_some, ev_Nest, ev_Nest1, lst_nil, frz_int, frz_str, frz_bl, frz_lst, frzL_int, frzL_str, frz_non, frz_tup, frzL_cons, frzL_nil, isF_tup, isFL_cons, isFL_nil, Bool.and_true, Bool.true_and, Bool.and_self, ev_App, ev_App0, ev_App1, isF_int, isF_str, isF_bl, isF_lst, isFL_int, isFL_str, isF_non, isF_opq, fin_rt, fin_nx, endG_f, endG_t, D.key, mB, kB_g, List.getElem?_cons_zero, List.getElem?_cons_succ, e2, D.key, stD, putB_g, List.tail_cons]
    · rw [List.dropWhile_cons, if_neg (by simpa using hg)]
      refine whileF_f ?_
      simp -implicitDefEqProofs only [slot_0, slot_n, slot_s, res_v, res_l, ev_C, ev_Name, ev_Name1, ev_Move, ev_Move1, ev_Loc, ev_Loc1, ev_Val, ev_Val1, ev_Fz, ev_Fz1, ev_l2, ev_l21, ev_l1, ev_l11, ev_Bin, ev_Bin1, ev_Un, ev_Tst, ev_asB, ev_NotT, ev_NotT1, ev_AndT, ev_AndT1, ev_OrT, ev_OrT1, ev_AndV, ev_AndV1, ev_OrV, ev_OrV1, ev_NotV, ev_NotV1, ev_If, ev_If1, ev_Ch, ev_Ch1, ev_Ch2, ev_Ch3, ev_Nil, ev_Cons, ev_Cons1, ev_Cons2, oc_s, ress_0, ress_s, ocF_s, resF_0, resF_s, ev_lN, ev_lN1, ev_CallB, kRet_ok, ev_Call, ev_Call1, ev_Call2, kRetM_ok, ev_CallM, ev_CallM1, ev_CallM2, ev_M1, ev_M11, ev_M12, ev_M13, ev_M14, ev_Pk, ev_Pk1, ev_PkSl, ev_PkSl1, ev_pk, ev_pk1, prt_n, prt_s, prt_1, prt_2, ev_Sl, ev_Sl0, ev_Sl1, ev_Sl2, ev_Sl3, ev_DG, ev_DGs, ev_DG0, ev_DG1, ev_DG2, ev_DG3, ev_DG4, ev_P0, ev_P1, ev_P2, ev_P3, ev_Disp, ev_Disp1, ev_Lc, ev_Lc1, ev_Lc2, ev_Yes, wipe_0, wipe_s, rest_0, rest_s, ev_Iter, ev_Iter1, ev_Enum, ev_Enum1, ev_Zip, ev_Zip1, ev_Zip2, ev_Zip3, ev_Rg, ev_Rg0, ev_Rg1, ev_Rh, ev_Rh0, ev_Rh1, ev_Rh2, ev_gS, ev_gN, ev_gC, ev_gT, ev_StL, ev_StL1, ev_StL2, ev_StD, ev_StD1, ev_StD2, ev_Seq, seq_nx, seq_rt, seq_bk, seq_ct, ev_Nx, ev_Set, ev_Set1, ev_Drop, ev_Drop1, ev_Ret, ev_IfS, ev_IfS1, ev_Asg, ev_Asg1, ofS_some, ev_Par, ev_Par1, ev_Par2, ev_Tri, ev_Tri1, ev_Tri2, ev_Tri3, ev_Aug, ev_Aug1, ev_Aug2, ev_Aug3, ev_For, nox_lc, R.bind_ok, R.bindS_ok, R.of_some, List.set_cons_zero, List.set_cons_succ, if_true, Bool.false_eq_true, if_false, Bool.not_true, Bool.not_false, Option.bind_some, Option.map_some, ev_Nest, ev_Nest1, lst_nil, frz_int, frz_str, frz_bl, frz_lst, frzL_int, frzL_str, frz_non, frz_tup, frzL_cons, frzL_nil, isF_tup, isFL_cons, isFL_nil, Bool.and_true, Bool.true_and, Bool.and_self, ev_App, ev_App0, ev_App1, isF_int, isF_str, isF_bl, isF_lst, isFL_int, isFL_str, isF_non, isF_opq, fin_rt, fin_nx, endG_f, endG_t, D.key, mB, kB_g, List.getElem?_cons_zero, List.getElem?_cons_succ, e, e1, eq_int, hg, decide_false]
end
theorem nextB {n : Nat} {m : D} (h : DrB n m) (hn : n < 2 ^ 40) {t : Int} (ht : 0 < t) (h9 : t.natAbs.log2 < 9000) : ∃ r m', gB_next [m, .int t] = .ok (.int r) [m'] ∧ 0 ≤ r ∧ r < t ∧ DrB (n + 1) m' := by
  obtain ⟨cm, cs, gs, k, rfl, hk, hk2, hg⟩ := h
  unfold gB_next
  rw [GF_2]
  unfold bB_next
  rw [ev_Seq]
  show ∃ r m', GR.fin true (SR.seq (whileF _ _ fuelB [some (mB cm cs gs k), some (.int t), none, none, none, none]) _) = _ ∧ _
  rw [whileB cm cs k gs fuelB (by show _ < 1000000; omega), seq_nx]
  have hd : (gs.dropWhile (· = 0)).length ≤ 63 := Nat.le_trans (List.Sublist.length_le (List.dropWhile_sublist _)) hg
  cases e : gs.dropWhile (· = 0) with
  | cons g rest =>
    have e0 := @eq_nil_ints true true true (g :: rest)
    simp only [if_true, List.isEmpty_cons, Bool.not_false] at e0
    have e1 : ixD (.lst true ((g :: rest).map D.int)) (.int 0) = some (.int g) := ix_int (j := 0) rfl
    refine ⟨g % t, mB cm cs (g / t :: rest) k, ?_, Int.emod_nonneg _ (by omega), Int.emod_lt_of_pos _ ht, ⟨cm, cs, _, k, rfl, hk, by omega, by rw [e] at hd; simpa using hd⟩⟩
    simp -implicitDefEqProofs only [slot_0, slot_n, slot_s, res_v, res_l, ev_C, ev_Name, ev_Name1, ev_Move, ev_Move1, ev_Loc, ev_Loc1, ev_Val, ev_Val1, ev_Fz, ev_Fz1, ev_l2, ev_l21, ev_l1, ev_l11, ev_Bin, ev_Bin1, ev_Un, ev_Tst, ev_asB, ev_NotT, ev_NotT1, ev_AndT, ev_AndT1, ev_OrT, ev_OrT1, ev_AndV, ev_AndV1, ev_OrV, ev_OrV1, ev_NotV, ev_NotV1, ev_If, ev_If1, ev_Ch, ev_Ch1, ev_Ch2, ev_Ch3, ev_Nil, ev_Cons, ev_Cons1, ev_Cons2, oc_s, ress_0, ress_s, ocF_s, resF_0, resF_s, ev_lN, ev_lN1, ev_CallB, kRet_ok, ev_Call, ev_Call1, ev_Call2, kRetM_ok, ev_CallM, ev_CallM1, ev_CallM2, ev_M1, ev_M11, ev_M12, ev_M13, ev_M14, ev_Pk, ev_Pk1, ev_PkSl, ev_PkSl1, ev_pk, ev_pk1, prt_n, prt_s, prt_1, prt_2, ev_Sl, ev_Sl0, ev_Sl1, ev_Sl2, ev_Sl3, ev_DG, ev_DGs, ev_DG0, ev_DG1, ev_DG2, ev_DG3, ev_DG4, ev_P0, ev_P1, ev_P2, ev_P3, ev_Disp, ev_Disp1, ev_Lc, ev_Lc1, ev_Lc2, ev_Yes, wipe_0, wipe_s, rest_0, rest_s, ev_Iter, ev_Iter1, ev_Enum, ev_Enum1, ev_Zip, ev_Zip1, ev_Zip2, ev_Zip3, ev_Rg, ev_Rg0, ev_Rg1, ev_Rh, ev_Rh0, ev_Rh1, ev_Rh2, ev_gS, ev_gN, ev_gC, ev_gT, ev_StL, ev_StL1, ev_StL2, ev_StD, ev_StD1, ev_StD2, ev_Seq, seq_nx, seq_rt, seq_bk, seq_ct, ev_Nx, ev_Set, ev_Set1, ev_Drop, ev_Drop1, ev_Ret, ev_IfS, ev_IfS1, ev_Asg, ev_Asg1, ofS_some, ev_Par, ev_Par1, ev_Par2, ev_Tri, ev_Tri1, ev_Tri2, ev_Tri3, ev_Aug, ev_Aug1, ev_Aug2, ev_Aug3, ev_For, nox_lc, R.bind_ok, R.bindS_ok, R.of_some, List.set_cons_zero, List.set_cons_succ, if_true, Bool.false_eq_true, if_false, Bool.not_true, Bool.not_false, Option.bind_some, Option.map_some, ev_Nest, ev_Nest1, lst_nil, frz_int, frz_str, frz_bl, frz_lst, frzL_int, frzL_str, frz_non, frz_tup, frzL_cons, frzL_nil, isF_tup, isFL_cons, isFL_nil, Bool.and_true, Bool.true_and, Bool.and_self, ev_App, ev_App0, ev_App1, isF_int, isF_str, isF_bl, isF_lst, isFL_int, isFL_str, isF_non, isF_opq, fin_rt, fin_nx, endG_f, endG_t, D.key, mB, kB_g, List.getElem?_cons_zero, List.getElem?_cons_succ, e0, e1, intG_int, fdiv_int ht h9, mod_int ht]
    have e2 : stL (.lst true ((g :: rest).map D.int)) 0 (.int (g / t)) = some (.lst true ((g / t :: rest).map D.int)) := stL_nat (j := 0) (by simp)
    simp -implicitDefEqProofs only [slot_0, slot_n, slot_s, res_v, res_l, ev_C, ev_Name, ev_Name1, ev_Move, ev_Move1, ev_Loc, ev_Loc1, ev_Val, ev_Val1, ev_Fz, ev_Fz1, ev_l2, ev_l21, ev_l1, ev_l11, ev_Bin, ev_Bin1, ev_Un, ev_Tst, ev_asB, ev_NotT, ev_NotT1, ev_AndT, ev_AndT1, ev_OrT, ev_OrT1, ev_AndV, ev_AndV1, ev_OrV, ev_OrV1, ev_NotV, ev_NotV1, ev_If, ev_If1, ev_Ch, ev_Ch1, ev_Ch2, ev_Ch3, ev_Nil, ev_Cons, ev_Cons1, ev_Cons2, oc_s, ress_0, ress_s, ocF_s, resF_0, resF_s, ev_lN, ev_lN1, ev_CallB, kRet_ok, ev_Call, ev_Call1, ev_Call2, kRetM_ok, ev_CallM, ev_CallM1, ev_CallM2, ev_M1, ev_M11, ev_M12, ev_M13, ev_M14, ev_Pk, ev_Pk1, ev_PkSl, ev_PkSl1, ev_pk, ev_pk1, prt_n, prt_s, prt_1, prt_2, ev_Sl, ev_Sl0, ev_Sl1, ev_Sl2, ev_Sl3, ev_DG, ev_DGs, ev_DG0, ev_DG1, ev_DG2, ev_DG3, ev_DG4, ev_P0, ev_P1, ev_P2, ev_P3, ev_Disp, ev_Disp1, ev_Lc, ev_Lc1, ev_Lc2, ev_Yes, wipe_0, wipe_s, rest_0, rest_s, ev_Iter, ev_Iter1, ev_Enum, ev_Enum1, ev_Zip, ev_Zip1, ev_Zip2, ev_Zip3, ev_Rg, ev_Rg0, ev_Rg1, ev_Rh, ev_Rh0, ev_Rh1, ev_Rh2, ev_gS, ev_gN, ev_gC, ev_gT, ev_StL, ev_StL1, ev_StL2, ev_StD, ev_StD1, ev_StD2, ev_Seq, seq_nx, seq_rt, seq_bk, seq_ct, ev_Nx, ev_Set, ev_Set1, ev_Drop, ev_Drop1, ev_Ret, ev_IfS, ev_IfS1, ev_Asg, ev_Asg1, ofS_some, ev_Par, ev_Par1, ev_Par2, ev_Tri, ev_Tri1, ev_Tri2, ev_Tri3, ev_Aug, ev_Aug1, ev_Aug2, ev_Aug3, ev_For, nox_lc, R.bind_ok, R.bindS_ok, R.of_some, List.set_cons_zero, List.set_cons_succ, if_true, Bool.false_eq_true, if_false, Bool.not_true, Bool.not_false, Option.bind_some, Option.map_some, ev_Nest, ev_Nest1, lst_nil, frz_int, frz_str, frz_bl, frz_lst, frzL_int, frzL_str, frz_non, frz_tup, frzL_cons, frzL_nil, isF_tup, isFL_cons, isFL_nil, Bool.and_true, Bool.true_and, Bool.and_self, ev_App, ev_App0, ev_App1, isF_int, isF_str, isF_bl, isF_lst, isFL_int, isFL_str, isF_non, isF_opq, fin_rt, fin_nx, endG_f, endG_t, D.key, kB_g, List.getElem?_cons_zero, List.getElem?_cons_succ, mod_int ht, e2]
  | nil =>
    have e0 := @eq_nil_ints true true true []
    simp only [if_true, List.isEmpty_nil, Bool.not_true, List.map_nil] at e0
    have ec := @eq_nil_ints true false true cs
    have hk' : (k + 1).natAbs.log2 < 100 := log2_lt_of (by omega) (by omega)
    have cell : ∃ x : Int, fIf (fTst (fBin (eqD true) (fVal (fDGet 0 (fVal (fC (.str "cells"))))) (fVal (fCallB lstG (fNil))))) (fBin ixD (fVal (fDGet 0 (fVal (fC (.str "cells"))))) (fVal (fBin modD (fVal (fCallB intG (fCons (fLoc 3) (fNil)))) (fVal (fCallB lenG (fCons (fVal (fDGet 0 (fVal (fC (.str "cells"))))) (fNil))))))) (fC (.int 43))
        [some (mB cm cs [] (k + 1)), some (.int t), none, some (.int (k + 1)), none, none] = .ok (.int x) [some (mB false cs [] (k + 1)), some (.int t), none, some (.int (k + 1)), none, none] := by
      cases cs with
      | nil =>
        refine ⟨43, ?_⟩
        have ec := @eq_nil_ints true false true []
        simp only [if_true, List.isEmpty_nil, Bool.not_true, List.map_nil] at ec
        simp -implicitDefEqProofs only [slot_0, slot_n, slot_s, res_v, res_l, ev_C, ev_Name, ev_Name1, ev_Move, ev_Move1, ev_Loc, ev_Loc1, ev_Val, ev_Val1, ev_Fz, ev_Fz1, ev_l2, ev_l21, ev_l1, ev_l11, ev_Bin, ev_Bin1, ev_Un, ev_Tst, ev_asB, ev_NotT, ev_NotT1, ev_AndT, ev_AndT1, ev_OrT, ev_OrT1, ev_AndV, ev_AndV1, ev_OrV, ev_OrV1, ev_NotV, ev_NotV1, ev_If, ev_If1, ev_Ch, ev_Ch1, ev_Ch2, ev_Ch3, ev_Nil, ev_Cons, ev_Cons1, ev_Cons2, oc_s, ress_0, ress_s, ocF_s, resF_0, resF_s, ev_lN, ev_lN1, ev_CallB, kRet_ok, ev_Call, ev_Call1, ev_Call2, kRetM_ok, ev_CallM, ev_CallM1, ev_CallM2, ev_M1, ev_M11, ev_M12, ev_M13, ev_M14, ev_Pk, ev_Pk1, ev_PkSl, ev_PkSl1, ev_pk, ev_pk1, prt_n, prt_s, prt_1, prt_2, ev_Sl, ev_Sl0, ev_Sl1, ev_Sl2, ev_Sl3, ev_DG, ev_DGs, ev_DG0, ev_DG1, ev_DG2, ev_DG3, ev_DG4, ev_P0, ev_P1, ev_P2, ev_P3, ev_Disp, ev_Disp1, ev_Lc, ev_Lc1, ev_Lc2, ev_Yes, wipe_0, wipe_s, rest_0, rest_s, ev_Iter, ev_Iter1, ev_Enum, ev_Enum1, ev_Zip, ev_Zip1, ev_Zip2, ev_Zip3, ev_Rg, ev_Rg0, ev_Rg1, ev_Rh, ev_Rh0, ev_Rh1, ev_Rh2, ev_gS, ev_gN, ev_gC, ev_gT, ev_StL, ev_StL1, ev_StL2, ev_StD, ev_StD1, ev_StD2, ev_Seq, seq_nx, seq_rt, seq_bk, seq_ct, ev_Nx, ev_Set, ev_Set1, ev_Drop, ev_Drop1, ev_Ret, ev_IfS, ev_IfS1, ev_Asg, ev_Asg1, ofS_some, ev_Par, ev_Par1, ev_Par2, ev_Tri, ev_Tri1, ev_Tri2, ev_Tri3, ev_Aug, ev_Aug1, ev_Aug2, ev_Aug3, ev_For, nox_lc, R.bind_ok, R.bindS_ok, R.of_some, List.set_cons_zero, List.set_cons_succ, if_true, Bool.false_eq_true, if_false, Bool.not_true, Bool.not_false, Option.bind_some, Option.map_some, ev_Nest, ev_Nest1, lst_nil, frz_int, frz_str, frz_bl, frz_lst, frzL_int, frzL_str, frz_non, frz_tup, frzL_cons, frzL_nil, isF_tup, isFL_cons, isFL_nil, Bool.and_true, Bool.true_and, Bool.and_self, ev_App, ev_App0, ev_App1, isF_int, isF_str, isF_bl, isF_lst, isFL_int, isFL_str, isF_non, isF_opq, fin_rt, fin_nx, endG_f, endG_t, D.key, mB, kB_c, List.getElem?_cons_zero, List.getElem?_cons_succ, List.map_nil, D.frzL, ec]
      | cons c cs =>
        have ec := @eq_nil_ints true false true (c :: cs)
        simp only [if_true, List.isEmpty_cons, Bool.not_false] at ec
        have hl : (0 : Int) < (((c :: cs).map D.int).length : Nat) := by simp
        have hm := Int.emod_nonneg (k + 1) (Int.ne_of_gt hl)
        have hm2 := Int.emod_lt_of_pos (k + 1) hl
        obtain ⟨j, hj⟩ := Int.eq_ofNat_of_zero_le hm
        have hj2 : j < (c :: cs).length := by rw [hj, List.length_map] at hm2; omega
        refine ⟨(c :: cs)[j], ?_⟩
        have e1 : ixD (.lst false ((c :: cs).map D.int)) (.int ((j : Nat) : Int)) = some (.int (c :: cs)[j]) := ix_int (by simp)
        simp -implicitDefEqProofs only [slot_0, slot_n, slot_s, res_v, res_l, ev_C, ev_Name, ev_Name1, ev_Move, ev_Move1, ev_Loc, ev_Loc1, ev_Val, ev_Val1, ev_Fz, ev_Fz1, ev_l2, ev_l21, ev_l1, ev_l11, ev_Bin, ev_Bin1, ev_Un, ev_Tst, ev_asB, ev_NotT, ev_NotT1, ev_AndT, ev_AndT1, ev_OrT, ev_OrT1, ev_AndV, ev_AndV1, ev_OrV, ev_OrV1, ev_NotV, ev_NotV1, ev_If, ev_If1, ev_Ch, ev_Ch1, ev_Ch2, ev_Ch3, ev_Nil, ev_Cons, ev_Cons1, ev_Cons2, oc_s, ress_0, ress_s, ocF_s, resF_0, resF_s, ev_lN, ev_lN1, ev_CallB, kRet_ok, ev_Call, ev_Call1, ev_Call2, kRetM_ok, ev_CallM, ev_CallM1, ev_CallM2, ev_M1, ev_M11, ev_M12, ev_M13, ev_M14, ev_Pk, ev_Pk1, ev_PkSl, ev_PkSl1, ev_pk, ev_pk1, prt_n, prt_s, prt_1, prt_2, ev_Sl, ev_Sl0, ev_Sl1, ev_Sl2, ev_Sl3, ev_DG, ev_DGs, ev_DG0, ev_DG1, ev_DG2, ev_DG3, ev_DG4, ev_P0, ev_P1, ev_P2, ev_P3, ev_Disp, ev_Disp1, ev_Lc, ev_Lc1, ev_Lc2, ev_Yes, wipe_0, wipe_s, rest_0, rest_s, ev_Iter, ev_Iter1, ev_Enum, ev_Enum1, ev_Zip, ev_Zip1, ev_Zip2, ev_Zip3, ev_Rg, ev_Rg0, ev_Rg1, ev_Rh, ev_Rh0, ev_Rh1, ev_Rh2, ev_gS, ev_gN, ev_gC, ev_gT, ev_StL, ev_StL1, ev_StL2, ev_StD, ev_StD1, ev_StD2, ev_Seq, seq_nx, seq_rt, seq_bk, seq_ct, ev_Nx, ev_Set, ev_Set1, ev_Drop, ev_Drop1, ev_Ret, ev_IfS, ev_IfS1, ev_Asg, ev_Asg1, ofS_some, ev_Par, ev_Par1, ev_Par2, ev_Tri, ev_Tri1, ev_Tri2, ev_Tri3, ev_Aug, ev_Aug1, ev_Aug2, ev_Aug3, ev_For, nox_lc, R.bind_ok, R.bindS_ok, R.of_some, List.set_cons_zero, List.set_cons_succ, if_true, Bool.false_eq_true, if_false, Bool.not_true, Bool.not_false, Option.bind_some, Option.map_some, ev_Nest, ev_Nest1, lst_nil, frz_int, frz_str, frz_bl, frz_lst, frzL_int, frzL_str, frz_non, frz_tup, frzL_cons, frzL_nil, isF_tup, isFL_cons, isFL_nil, Bool.and_true, Bool.true_and, Bool.and_self, ev_App, ev_App0, ev_App1, isF_int, isF_str, isF_bl, isF_lst, isFL_int, isFL_str, isF_non, isF_opq, fin_rt, fin_nx, endG_f, endG_t, D.key, mB, kB_c, List.getElem?_cons_zero, List.getElem?_cons_succ, ec, intG_int, lenG_lst, mod_int hl, hj, e1]
    obtain ⟨x, cell⟩ := cell
    have B1 : Bd 42 (k + 1) := by show (k + 1).natAbs < 2 ^ 42; omega
    have c1 : Bd 13 6053 := by show (6053 : Int).natAbs < 2 ^ 13; decide
    have c2 : Bd 6 53 := by show (53 : Int).natAbs < 2 ^ 6; decide
    have c3 : Bd 16 40014 := by show (40014 : Int).natAbs < 2 ^ 16; decide
    have c4 : Bd 17 88969 := by show (88969 : Int).natAbs < 2 ^ 17; decide
    have c5 : Bd 30 742938285 := by show (742938285 : Int).natAbs < 2 ^ 30; decide
    have c6 : Bd 32 2147483563 := by show (2147483563 : Int).natAbs < 2 ^ 32; decide
    have s1 := ((Bd.mod (i := x) (by decide) c6).add (c1.mul B1)).add ((c2.mul B1).mul B1)
    have s2 := (Bd.mod (i := ((x % 2147483563 + 6053 * (k + 1) + 53 * (k + 1) * (k + 1)) * 40014)) (by decide) c6).add (c4.mul B1)
    refine ⟨(((x % 2147483563 + 6053 * (k + 1) + 53 * (k + 1) * (k + 1)) * 40014 % 2147483563 + 88969 * (k + 1)) * 742938285 % 2147483549 / 17) % t, mB false cs [] (k + 1), ?_, ?_⟩
    rotate_left
    · refine ⟨?_, ?_, false, cs, [], k + 1, rfl, by omega, by omega, by simp⟩
      rotate_left
      · exact Int.emod_lt_of_pos _ ht
      · exact Int.emod_nonneg _ (Int.ne_of_gt ht)
    · simp only [mB, List.map_nil] at cell
      generalize fIf (fTst (fBin (eqD true) (fVal (fDGet 0 (fVal (fC (.str "cells"))))) (fVal (fCallB lstG (fNil))))) (fBin ixD (fVal (fDGet 0 (fVal (fC (.str "cells"))))) (fVal (fBin modD (fVal (fCallB intG (fCons (fLoc 3) (fNil)))) (fVal (fCallB lenG (fCons (fVal (fDGet 0 (fVal (fC (.str "cells"))))) (fNil))))))) (fC (.int 43)) = F at cell ⊢
      simp -implicitDefEqProofs only [slot_0, slot_n, slot_s, res_v, res_l, ev_C, ev_Name, ev_Name1, ev_Move, ev_Move1, ev_Loc, ev_Loc1, ev_Val, ev_Val1, ev_Fz, ev_Fz1, ev_l2, ev_l21, ev_l1, ev_l11, ev_Bin, ev_Bin1, ev_Un, ev_Tst, ev_asB, ev_NotT, ev_NotT1, ev_AndT, ev_AndT1, ev_OrT, ev_OrT1, ev_AndV, ev_AndV1, ev_OrV, ev_OrV1, ev_NotV, ev_NotV1, ev_If, ev_If1, ev_Ch, ev_Ch1, ev_Ch2, ev_Ch3, ev_Nil, ev_Cons, ev_Cons1, ev_Cons2, oc_s, ress_0, ress_s, ocF_s, resF_0, resF_s, ev_lN, ev_lN1, ev_CallB, kRet_ok, ev_Call, ev_Call1, ev_Call2, kRetM_ok, ev_CallM, ev_CallM1, ev_CallM2, ev_M1, ev_M11, ev_M12, ev_M13, ev_M14, ev_Pk, ev_Pk1, ev_PkSl, ev_PkSl1, ev_pk, ev_pk1, prt_n, prt_s, prt_1, prt_2, ev_Sl, ev_Sl0, ev_Sl1, ev_Sl2, ev_Sl3, ev_DG, ev_DGs, ev_DG0, ev_DG1, ev_DG2, ev_DG3, ev_DG4, ev_P0, ev_P1, ev_P2, ev_P3, ev_Disp, ev_Disp1, ev_Lc, ev_Lc1, ev_Lc2, ev_Yes, wipe_0, wipe_s, rest_0, rest_s, ev_Iter, ev_Iter1, ev_Enum, ev_Enum1, ev_Zip, ev_Zip1, ev_Zip2, ev_Zip3, ev_Rg, ev_Rg0, ev_Rg1, ev_Rh, ev_Rh0, ev_Rh1, ev_Rh2, ev_gS, ev_gN, ev_gC, ev_gT, ev_StL, ev_StL1, ev_StL2, ev_StD, ev_StD1, ev_StD2, ev_Seq, seq_nx, seq_rt, seq_bk, seq_ct, ev_Nx, ev_Set, ev_Set1, ev_Drop, ev_Drop1, ev_Ret, ev_IfS, ev_IfS1, ev_Asg, ev_Asg1, ofS_some, ev_Par, ev_Par1, ev_Par2, ev_Tri, ev_Tri1, ev_Tri2, ev_Tri3, ev_Aug, ev_Aug1, ev_Aug2, ev_Aug3, ev_For, nox_lc, R.bind_ok, R.bindS_ok, R.of_some, List.set_cons_zero, List.set_cons_succ, if_true, Bool.false_eq_true, if_false, Bool.not_true, Bool.not_false, Option.bind_some, Option.map_some, ev_Nest, ev_Nest1, lst_nil, frz_int, frz_str, frz_bl, frz_lst, frzL_int, frzL_str, frz_non, frz_tup, frzL_cons, frzL_nil, isF_tup, isFL_cons, isFL_nil, Bool.and_true, Bool.true_and, Bool.and_self, ev_App, ev_App0, ev_App1, isF_int, isF_str, isF_bl, isF_lst, isFL_int, isFL_str, isF_non, isF_opq, fin_rt, fin_nx, endG_f, endG_t, D.key, mB, kB_g, kB_s, kB_c, List.getElem?_cons_zero, List.getElem?_cons_succ, e0, intG_int, List.map_nil, add_int, stD, putB_s, cell,
        mul_bd c1 B1 (by decide), mul_bd c2 B1 (by decide), mul_bd (c2.mul B1) B1 (by decide), mod_int (show (0 : Int) < 2147483563 by decide), mod_int (show (0 : Int) < 2147483549 by decide), mul_bd s1 c3 (by decide), mul_bd c4 B1 (by decide), mul_bd s2 c5 (by decide), fdiv_int (show (0 : Int) < 17 by decide) (by decide), mod_int ht]
theorem begunB {ns : List Int} (h : ns.length ≤ 63) : ∃ m, gB_begun [.lst false (ns.map D.int)] = .ok m [] ∧ DrB 0 m := by
  refine ⟨mB true ns (ns.filter fun c => decide (10 ^ 18 ≤ c)) 0, ?_, true, ns, _, 0, rfl, by decide, by decide, Nat.le_trans (List.length_filter_le _ _) h⟩
  unfold gB_begun
  rw [GF_1]
  unfold bB_begun
  have ep : powD (.int 10) (.int 18) = some (.int (10 ^ 18)) := pow_int (by decide)
  have lc : lcF [2] (gSet 2) (fTst (fBin geD (fLoc 2) (fVal (fBin powD (fVal (fC (.int 10))) (fVal (fC (.int 18))))))) (fName 2) (ns.map D.int) 0 [some (.lst false (ns.map D.int)), none, none] = .ok ((ns.filter fun c => decide (10 ^ 18 ≤ c)).map D.int) [some (.lst false (ns.map D.int)), none, none] := by
    rw [lcF_map (fun d => match d with | .int c => decide ((10 : Int) ^ 18 ≤ c) | _ => false) id (by rw [List.length_map]; exact Nat.le_trans h (by decide)) (fun d hd => ?_)]
    · rw [List.map_id, List.filter_map]; rfl
    · obtain ⟨c, _, rfl⟩ := List.mem_map.mp hd
      refine ⟨[some (.lst false (ns.map D.int)), none, some (.int c)], [some (.lst false (ns.map D.int)), none, some (.int c)], rfl, ?_, fun _ => rfl, fun _ => ⟨_, rfl, rfl⟩⟩
      simp -implicitDefEqProofs only [slot_0, slot_n, slot_s, res_v, res_l, ev_C, ev_Name, ev_Name1, ev_Move, ev_Move1, ev_Loc, ev_Loc1, ev_Val, ev_Val1, ev_Fz, ev_Fz1, ev_l2, ev_l21, ev_l1, ev_l11, ev_Bin, ev_Bin1, ev_Un, ev_Tst, ev_asB, ev_NotT, ev_NotT1, ev_AndT, ev_AndT1, ev_OrT, ev_OrT1, ev_AndV, ev_AndV1, ev_OrV, ev_OrV1, ev_NotV, ev_NotV1, ev_If, ev_If1, ev_Ch, ev_Ch1, ev_Ch2, ev_Ch3, ev_Nil, ev_Cons, ev_Cons1, ev_Cons2, oc_s, ress_0, ress_s, ocF_s, resF_0, resF_s, ev_lN, ev_lN1, ev_CallB, kRet_ok, ev_Call, ev_Call1, ev_Call2, kRetM_ok, ev_CallM, ev_CallM1, ev_CallM2, ev_M1, ev_M11, ev_M12, ev_M13, ev_M14, ev_Pk, ev_Pk1, ev_PkSl, ev_PkSl1, ev_pk, ev_pk1, prt_n, prt_s, prt_1, prt_2, ev_Sl, ev_Sl0, ev_Sl1, ev_Sl2, ev_Sl3, ev_DG, ev_DGs, ev_DG0, ev_DG1, ev_DG2, ev_DG3, ev_DG4, ev_P0, ev_P1, ev_P2, ev_P3, ev_Disp, ev_Disp1, ev_Lc, ev_Lc1, ev_Lc2, ev_Yes, wipe_0, wipe_s, rest_0, rest_s, ev_Iter, ev_Iter1, ev_Enum, ev_Enum1, ev_Zip, ev_Zip1, ev_Zip2, ev_Zip3, ev_Rg, ev_Rg0, ev_Rg1, ev_Rh, ev_Rh0, ev_Rh1, ev_Rh2, ev_gS, ev_gN, ev_gC, ev_gT, ev_StL, ev_StL1, ev_StL2, ev_StD, ev_StD1, ev_StD2, ev_Seq, seq_nx, seq_rt, seq_bk, seq_ct, ev_Nx, ev_Set, ev_Set1, ev_Drop, ev_Drop1, ev_Ret, ev_IfS, ev_IfS1, ev_Asg, ev_Asg1, ofS_some, ev_Par, ev_Par1, ev_Par2, ev_Tri, ev_Tri1, ev_Tri2, ev_Tri3, ev_Aug, ev_Aug1, ev_Aug2, ev_Aug3, ev_For, nox_lc, R.bind_ok, R.bindS_ok, R.of_some, List.set_cons_zero, List.set_cons_succ, if_true, Bool.false_eq_true, if_false, Bool.not_true, Bool.not_false, Option.bind_some, Option.map_some, ev_Nest, ev_Nest1, lst_nil, frz_int, frz_str, frz_bl, frz_lst, frzL_int, frzL_str, frz_non, frz_tup, frzL_cons, frzL_nil, isF_tup, isFL_cons, isFL_nil, Bool.and_true, Bool.true_and, Bool.and_self, ev_App, ev_App0, ev_App1, isF_int, isF_str, isF_bl, isF_lst, isFL_int, isFL_str, isF_non, isF_opq, fin_rt, fin_nx, endG_f, endG_t, D.key, ep, ge_int]
  simp -implicitDefEqProofs only [slot_0, slot_n, slot_s, res_v, res_l, ev_C, ev_Name, ev_Name1, ev_Move, ev_Move1, ev_Loc, ev_Loc1, ev_Val, ev_Val1, ev_Fz, ev_Fz1, ev_l2, ev_l21, ev_l1, ev_l11, ev_Bin, ev_Bin1, ev_Un, ev_Tst, ev_asB, ev_NotT, ev_NotT1, ev_AndT, ev_AndT1, ev_OrT, ev_OrT1, ev_AndV, ev_AndV1, ev_OrV, ev_OrV1, ev_NotV, ev_NotV1, ev_If, ev_If1, ev_Ch, ev_Ch1, ev_Ch2, ev_Ch3, ev_Nil, ev_Cons, ev_Cons1, ev_Cons2, oc_s, ress_0, ress_s, ocF_s, resF_0, resF_s, ev_lN, ev_lN1, ev_CallB, kRet_ok, ev_Call, ev_Call1, ev_Call2, kRetM_ok, ev_CallM, ev_CallM1, ev_CallM2, ev_M1, ev_M11, ev_M12, ev_M13, ev_M14, ev_Pk, ev_Pk1, ev_PkSl, ev_PkSl1, ev_pk, ev_pk1, prt_n, prt_s, prt_1, prt_2, ev_Sl, ev_Sl0, ev_Sl1, ev_Sl2, ev_Sl3, ev_DG, ev_DGs, ev_DG0, ev_DG1, ev_DG2, ev_DG3, ev_DG4, ev_P0, ev_P1, ev_P2, ev_P3, ev_Disp, ev_Disp1, ev_Lc, ev_Lc1, ev_Lc2, ev_Yes, wipe_0, wipe_s, rest_0, rest_s, ev_Iter, ev_Iter1, ev_Enum, ev_Enum1, ev_Zip, ev_Zip1, ev_Zip2, ev_Zip3, ev_Rg, ev_Rg0, ev_Rg1, ev_Rh, ev_Rh0, ev_Rh1, ev_Rh2, ev_gS, ev_gN, ev_gC, ev_gT, ev_StL, ev_StL1, ev_StL2, ev_StD, ev_StD1, ev_StD2, ev_Seq, seq_nx, seq_rt, seq_bk, seq_ct, ev_Nx, ev_Set, ev_Set1, ev_Drop, ev_Drop1, ev_Ret, ev_IfS, ev_IfS1, ev_Asg, ev_Asg1, ofS_some, ev_Par, ev_Par1, ev_Par2, ev_Tri, ev_Tri1, ev_Tri2, ev_Tri3, ev_Aug, ev_Aug1, ev_Aug2, ev_Aug3, ev_For, nox_lc, R.bind_ok, R.bindS_ok, R.of_some, List.set_cons_zero, List.set_cons_succ, if_true, Bool.false_eq_true, if_false, Bool.not_true, Bool.not_false, Option.bind_some, Option.map_some, ev_Nest, ev_Nest1, lst_nil, frz_int, frz_str, frz_bl, frz_lst, frzL_int, frzL_str, frz_non, frz_tup, frzL_cons, frzL_nil, isF_tup, isFL_cons, isFL_nil, Bool.and_true, Bool.true_and, Bool.and_self, ev_App, ev_App0, ev_App1, isF_int, isF_str, isF_bl, isF_lst, isFL_int, isFL_str, isF_non, isF_opq, fin_rt, fin_nx, endG_f, endG_t, D.key, List.replicate, lc, items_lst (isFL_int ns), listG_of (isFL_int ns), List.map_cons, List.map_nil]
  have er := mergeD_at (ms := kB) (es := [.lst true (ns.map D.int), .lst true ((ns.filter fun c => decide (10 ^ 18 ≤ c)).map D.int), .int 0]) kB_nd.1 rfl (by decide)
  simp only [kB] at er
  simp -implicitDefEqProofs only [slot_0, slot_n, slot_s, res_v, res_l, ev_C, ev_Name, ev_Name1, ev_Move, ev_Move1, ev_Loc, ev_Loc1, ev_Val, ev_Val1, ev_Fz, ev_Fz1, ev_l2, ev_l21, ev_l1, ev_l11, ev_Bin, ev_Bin1, ev_Un, ev_Tst, ev_asB, ev_NotT, ev_NotT1, ev_AndT, ev_AndT1, ev_OrT, ev_OrT1, ev_AndV, ev_AndV1, ev_OrV, ev_OrV1, ev_NotV, ev_NotV1, ev_If, ev_If1, ev_Ch, ev_Ch1, ev_Ch2, ev_Ch3, ev_Nil, ev_Cons, ev_Cons1, ev_Cons2, oc_s, ress_0, ress_s, ocF_s, resF_0, resF_s, ev_lN, ev_lN1, ev_CallB, kRet_ok, ev_Call, ev_Call1, ev_Call2, kRetM_ok, ev_CallM, ev_CallM1, ev_CallM2, ev_M1, ev_M11, ev_M12, ev_M13, ev_M14, ev_Pk, ev_Pk1, ev_PkSl, ev_PkSl1, ev_pk, ev_pk1, prt_n, prt_s, prt_1, prt_2, ev_Sl, ev_Sl0, ev_Sl1, ev_Sl2, ev_Sl3, ev_DG, ev_DGs, ev_DG0, ev_DG1, ev_DG2, ev_DG3, ev_DG4, ev_P0, ev_P1, ev_P2, ev_P3, ev_Disp, ev_Disp1, ev_Lc, ev_Lc1, ev_Lc2, ev_Yes, wipe_0, wipe_s, rest_0, rest_s, ev_Iter, ev_Iter1, ev_Enum, ev_Enum1, ev_Zip, ev_Zip1, ev_Zip2, ev_Zip3, ev_Rg, ev_Rg0, ev_Rg1, ev_Rh, ev_Rh0, ev_Rh1, ev_Rh2, ev_gS, ev_gN, ev_gC, ev_gT, ev_StL, ev_StL1, ev_StL2, ev_StD, ev_StD1, ev_StD2, ev_Seq, seq_nx, seq_rt, seq_bk, seq_ct, ev_Nx, ev_Set, ev_Set1, ev_Drop, ev_Drop1, ev_Ret, ev_IfS, ev_IfS1, ev_Asg, ev_Asg1, ofS_some, ev_Par, ev_Par1, ev_Par2, ev_Tri, ev_Tri1, ev_Tri2, ev_Tri3, ev_Aug, ev_Aug1, ev_Aug2, ev_Aug3, ev_For, nox_lc, R.bind_ok, R.bindS_ok, R.of_some, List.set_cons_zero, List.set_cons_succ, if_true, Bool.false_eq_true, if_false, Bool.not_true, Bool.not_false, Option.bind_some, Option.map_some, ev_Nest, ev_Nest1, lst_nil, frz_int, frz_str, frz_bl, frz_lst, frzL_int, frzL_str, frz_non, frz_tup, frzL_cons, frzL_nil, isF_tup, isFL_cons, isFL_nil, Bool.and_true, Bool.true_and, Bool.and_self, ev_App, ev_App0, ev_App1, isF_int, isF_str, isF_bl, isF_lst, isFL_int, isFL_str, isF_non, isF_opq, fin_rt, fin_nx, endG_f, endG_t, D.key, er, mB, kB]
theorem ofB {n : Nat} {m : D} (h : DrB n m) (hn : n < 2 ^ 40) {xs : List D} (hx : 0 < xs.length) (hx2 : xs.length < 2 ^ 20) (hf : D.isFL xs = true) : ∃ d m', gB_of [m, .lst false xs] = .ok d [m'] ∧ d ∈ xs ∧ DrB (n + 1) m' := by
  have hb : ((xs.length : Int)).natAbs.log2 < 20 := log2_lt_of (i := (xs.length : Int)) (by rw [Int.natAbs_natCast]; exact hx2) (by decide)
  obtain ⟨r, m', e, h1, h2, h3⟩ := nextB h hn (t := (xs.length : Int)) (by omega) (by omega)
  obtain ⟨j, rfl⟩ := Int.eq_ofNat_of_zero_le h1
  have hj : j < xs.length := by omega
  refine ⟨xs[j], m', ?_, List.getElem_mem hj, h3⟩
  unfold gB_of
  rw [GF_2]
  unfold bB_of
  have e2 : ixD (.lst false xs) (.int (j : Int)) = some xs[j] := by
    show (atI xs (j : Int)).bind _ = _
    rw [atI_nat, List.getElem?_eq_getElem hj]
    have : xs[j].isF = true := by rw [D.isFL_eq, List.all_eq_true] at hf; exact hf _ (List.getElem_mem hj)
    simp [this]
  simp -implicitDefEqProofs only [slot_0, slot_n, slot_s, res_v, res_l, ev_C, ev_Name, ev_Name1, ev_Move, ev_Move1, ev_Loc, ev_Loc1, ev_Val, ev_Val1, ev_Fz, ev_Fz1, ev_l2, ev_l21, ev_l1, ev_l11, ev_Bin, ev_Bin1, ev_Un, ev_Tst, ev_asB, ev_NotT, ev_NotT1, ev_AndT, ev_AndT1, ev_OrT, ev_OrT1, ev_AndV, ev_AndV1, ev_OrV, ev_OrV1, ev_NotV, ev_NotV1, ev_If, ev_If1, ev_Ch, ev_Ch1, ev_Ch2, ev_Ch3, ev_Nil, ev_Cons, ev_Cons1, ev_Cons2, oc_s, ress_0, ress_s, ocF_s, resF_0, resF_s, ev_lN, ev_lN1, ev_CallB, kRet_ok, ev_Call, ev_Call1, ev_Call2, kRetM_ok, ev_CallM, ev_CallM1, ev_CallM2, ev_M1, ev_M11, ev_M12, ev_M13, ev_M14, ev_Pk, ev_Pk1, ev_PkSl, ev_PkSl1, ev_pk, ev_pk1, prt_n, prt_s, prt_1, prt_2, ev_Sl, ev_Sl0, ev_Sl1, ev_Sl2, ev_Sl3, ev_DG, ev_DGs, ev_DG0, ev_DG1, ev_DG2, ev_DG3, ev_DG4, ev_P0, ev_P1, ev_P2, ev_P3, ev_Disp, ev_Disp1, ev_Lc, ev_Lc1, ev_Lc2, ev_Yes, wipe_0, wipe_s, rest_0, rest_s, ev_Iter, ev_Iter1, ev_Enum, ev_Enum1, ev_Zip, ev_Zip1, ev_Zip2, ev_Zip3, ev_Rg, ev_Rg0, ev_Rg1, ev_Rh, ev_Rh0, ev_Rh1, ev_Rh2, ev_gS, ev_gN, ev_gC, ev_gT, ev_StL, ev_StL1, ev_StL2, ev_StD, ev_StD1, ev_StD2, ev_Seq, seq_nx, seq_rt, seq_bk, seq_ct, ev_Nx, ev_Set, ev_Set1, ev_Drop, ev_Drop1, ev_Ret, ev_IfS, ev_IfS1, ev_Asg, ev_Asg1, ofS_some, ev_Par, ev_Par1, ev_Par2, ev_Tri, ev_Tri1, ev_Tri2, ev_Tri3, ev_Aug, ev_Aug1, ev_Aug2, ev_Aug3, ev_For, nox_lc, R.bind_ok, R.bindS_ok, R.of_some, List.set_cons_zero, List.set_cons_succ, if_true, Bool.false_eq_true, if_false, Bool.not_true, Bool.not_false, Option.bind_some, Option.map_some, ev_Nest, ev_Nest1, lst_nil, frz_int, frz_str, frz_bl, frz_lst, frzL_int, frzL_str, frz_non, frz_tup, frzL_cons, frzL_nil, isF_tup, isFL_cons, isFL_nil, Bool.and_true, Bool.true_and, Bool.and_self, ev_App, ev_App0, ev_App1, isF_int, isF_str, isF_bl, isF_lst, isFL_int, isFL_str, isF_non, isF_opq, fin_rt, fin_nx, endG_f, endG_t, D.key, List.replicate, lenG_lst, e, e2]
theorem DrB.mono {n n' : Nat} {m : D} (h : DrB n m) (hn : n ≤ n') : DrB n' m := by
  obtain ⟨cm, cs, gs, k, e, h1, h2, h3⟩ := h
  exact ⟨cm, cs, gs, k, e, h1, by omega, h3⟩
theorem ofB_T {n : Nat} {m : D} (h : DrB n m) (hn : n < 2 ^ 40) {l : List Nat} (hx : 0 < l.length) (hx2 : l.length ≤ 1000) : ∃ c m', gB_of [m, .str (T l)] = .ok (.str (T [c])) [m'] ∧ c ∈ l ∧ DrB (n + 1) m' := by
  have hz : l.length ≤ sizeLine := Nat.le_trans hx2 (by decide)
  have hb : ((l.length : Int)).natAbs.log2 < 20 := log2_lt_of (i := (l.length : Int)) (by rw [Int.natAbs_natCast]; exact Nat.lt_of_le_of_lt hx2 (by decide)) (by decide)
  obtain ⟨r, m', e, h1, h2, h3⟩ := nextB h hn (t := (l.length : Int)) (by omega) (by omega)
  obtain ⟨j, rfl⟩ := Int.eq_ofNat_of_zero_le h1
  have hj : j < l.length := by omega
  refine ⟨l[j], m', ?_, List.getElem_mem hj, h3⟩
  unfold gB_of
  rw [GF_2]
  unfold bB_of
  simp -implicitDefEqProofs only [slot_0, slot_n, slot_s, res_v, res_l, ev_C, ev_Name, ev_Name1, ev_Move, ev_Move1, ev_Loc, ev_Loc1, ev_Val, ev_Val1, ev_Fz, ev_Fz1, ev_l2, ev_l21, ev_l1, ev_l11, ev_Bin, ev_Bin1, ev_Un, ev_Tst, ev_asB, ev_NotT, ev_NotT1, ev_AndT, ev_AndT1, ev_OrT, ev_OrT1, ev_AndV, ev_AndV1, ev_OrV, ev_OrV1, ev_NotV, ev_NotV1, ev_If, ev_If1, ev_Ch, ev_Ch1, ev_Ch2, ev_Ch3, ev_Nil, ev_Cons, ev_Cons1, ev_Cons2, oc_s, ress_0, ress_s, ocF_s, resF_0, resF_s, ev_lN, ev_lN1, ev_CallB, kRet_ok, ev_Call, ev_Call1, ev_Call2, kRetM_ok, ev_CallM, ev_CallM1, ev_CallM2, ev_M1, ev_M11, ev_M12, ev_M13, ev_M14, ev_Pk, ev_Pk1, ev_PkSl, ev_PkSl1, ev_pk, ev_pk1, prt_n, prt_s, prt_1, prt_2, ev_Sl, ev_Sl0, ev_Sl1, ev_Sl2, ev_Sl3, ev_DG, ev_DGs, ev_DG0, ev_DG1, ev_DG2, ev_DG3, ev_DG4, ev_P0, ev_P1, ev_P2, ev_P3, ev_Disp, ev_Disp1, ev_Lc, ev_Lc1, ev_Lc2, ev_Yes, wipe_0, wipe_s, rest_0, rest_s, ev_Iter, ev_Iter1, ev_Enum, ev_Enum1, ev_Zip, ev_Zip1, ev_Zip2, ev_Zip3, ev_Rg, ev_Rg0, ev_Rg1, ev_Rh, ev_Rh0, ev_Rh1, ev_Rh2, ev_gS, ev_gN, ev_gC, ev_gT, ev_StL, ev_StL1, ev_StL2, ev_StD, ev_StD1, ev_StD2, ev_Seq, seq_nx, seq_rt, seq_bk, seq_ct, ev_Nx, ev_Set, ev_Set1, ev_Drop, ev_Drop1, ev_Ret, ev_IfS, ev_IfS1, ev_Asg, ev_Asg1, ofS_some, ev_Par, ev_Par1, ev_Par2, ev_Tri, ev_Tri1, ev_Tri2, ev_Tri3, ev_Aug, ev_Aug1, ev_Aug2, ev_Aug3, ev_For, nox_lc, R.bind_ok, R.bindS_ok, R.of_some, List.set_cons_zero, List.set_cons_succ, if_true, Bool.false_eq_true, if_false, Bool.not_true, Bool.not_false, Option.bind_some, Option.map_some, ev_Nest, ev_Nest1, lst_nil, frz_int, frz_str, frz_bl, frz_lst, frzL_int, frzL_str, frz_non, frz_tup, frzL_cons, frzL_nil, isF_tup, isFL_cons, isFL_nil, Bool.and_true, Bool.true_and, Bool.and_self, ev_App, ev_App0, ev_App1, isF_int, isF_str, isF_bl, isF_lst, isFL_int, isFL_str, isF_non, isF_opq, fin_rt, fin_nx, endG_f, endG_t, D.key, List.replicate, len_T hz, e, ix_T (List.getElem?_eq_getElem hj) hz]
theorem small_log {i : Int} (h1 : 0 ≤ i) (h2 : i ≤ 1000000) : i.natAbs.log2 < 9000 := by
  have := log2_lt_of (i := i) (n := 20) (by have : (1000000 : Nat) < 2 ^ 20 := by decide
                                            omega) (by decide)
  omega
end DL

namespace Rd
/-! ### a road's moments, in numbers alone: n towers, what tower k adds (s), how long it holds (h), what its answer takes (a) -/
section
variable (s h a : Nat → Int)
def rg (k : Nat) : Int := a k + s (k + 1)
def bs : Nat → Int
  | 0 => h 0
  | l + 1 => max (max (bs l) (h (l + 1))) (rg s a l)
def wy (i : Nat) : Nat → Int
  | 0 => 0
  | d + 1 => wy i d + rg s a (i + d)
def tm (i j d : Nat) : Int := wy s a i d + ((j : Int) - d) * bs s h a (i + d)
def fd (i j : Nat) : Nat → Int
  | 0 => 0
  | m + 1 => max (fd i j m) (tm s h a i j m)
def bg : Nat → Int
  | 0 => 0
  | i + 1 => bg i + s (i + 1)
def wn (n i j : Nat) : Int := bg s i + fd s h a i j (min (n - 1 - i) j + 1)
end
section
variable {s h a : Nat → Int}
theorem fd_pos (i j : Nat) : ∀ m, 0 ≤ fd s h a i j m
  | 0 => Int.le_refl _
  | m + 1 => by
    have := fd_pos i j m
    show 0 ≤ max _ _
    omega
theorem tm_le {i j m d : Nat} (hd : d < m) : tm s h a i j d ≤ fd s h a i j m := by
  induction m with
  | zero => omega
  | succ m ih =>
    show _ ≤ max (fd s h a i j m) (tm s h a i j m)
    by_cases e : d = m
    · subst e; omega
    · have := ih (by omega)
      omega
theorem fd_le {i j m : Nat} {x : Int} (h0 : 0 ≤ x) (ht : ∀ d, d < m → tm s h a i j d ≤ x) : fd s h a i j m ≤ x := by
  induction m with
  | zero => exact h0
  | succ m ih =>
    show max (fd s h a i j m) (tm s h a i j m) ≤ x
    have := ih fun d hd => ht d (by omega)
    have := ht m (by omega)
    omega
theorem bs_mono (i : Nat) : ∀ d, bs s h a i ≤ bs s h a (i + d)
  | 0 => Int.le_refl _
  | d + 1 => by
    have := bs_mono i d
    show _ ≤ max (max (bs s h a (i + d)) _) _
    omega
theorem h_bs (i : Nat) : h i ≤ bs s h a i := by
  cases i with
  | zero => exact Int.le_refl _
  | succ i => show _ ≤ max (max _ _) _; omega
theorem rg_bs (i : Nat) : rg s a i ≤ bs s h a (i + 1) := by
  show _ ≤ max (max _ _) _
  omega
theorem wy_front (i : Nat) : ∀ d, wy s a i (d + 1) = rg s a i + wy s a (i + 1) d
  | 0 => by show 0 + rg s a (i + 0) = rg s a i + 0; rw [Nat.add_zero]; omega
  | d + 1 => by
    show wy s a i (d + 1) + rg s a (i + (d + 1)) = rg s a i + (wy s a (i + 1) d + rg s a (i + 1 + d))
    rw [wy_front i d, show i + (d + 1) = i + 1 + d by omega]
    omega
theorem tm_front (i j d : Nat) : tm s h a i (j + 1) (d + 1) = rg s a i + tm s h a (i + 1) j d := by
  unfold tm
  rw [wy_front, show i + (d + 1) = i + 1 + d by omega, show (((j + 1 : Nat)) : Int) - ((d + 1 : Nat) : Int) = (j : Int) - d by omega]
  omega
theorem tm_zero (i j : Nat) : tm s h a i j 0 = (j : Int) * bs s h a i := by
  unfold tm
  show 0 + ((j : Int) - ((0 : Nat) : Int)) * bs s h a (i + 0) = _
  rw [Nat.add_zero, show (j : Int) - ((0 : Nat) : Int) = j by omega]
  omega
variable (hs : ∀ k, 0 ≤ s k) (hh : ∀ k, 0 ≤ h k) (ha : ∀ k, 0 ≤ a k)
include hh in
theorem bs_pos (i : Nat) : 0 ≤ bs s h a i := Int.le_trans (hh i) (h_bs i)
theorem tm_up (i j d : Nat) : tm s h a i (j + 1) d = tm s h a i j d + bs s h a (i + d) := by
  unfold tm
  rw [show (((j + 1 : Nat)) : Int) - (d : Int) = ((j : Int) - d) + 1 by omega, Int.add_mul, Int.one_mul]
  omega
theorem wn_0 (n i : Nat) : wn s h a n i 0 = bg s i := by
  unfold wn
  rw [Nat.min_zero]
  show bg s i + max 0 (tm s h a i 0 0) = _
  rw [tm_zero]
  show bg s i + max 0 ((0 : Int) * _) = _
  rw [Int.zero_mul]
  show bg s i + 0 = _
  omega
include hs hh ha in
/-- from the tower ahead -/
theorem up_a {n i j : Nat} (hi : i + 1 < n) : wn s h a n i (j + 1) + s (i + 1) ≤ wn s h a n (i + 1) (j + 1) := by
  unfold wn
  show bg s i + _ + s (i + 1) ≤ bg s i + s (i + 1) + _
  have : fd s h a i (j + 1) (min (n - 1 - i) (j + 1) + 1) ≤ fd s h a (i + 1) (j + 1) (min (n - 1 - (i + 1)) (j + 1) + 1) := by
    refine fd_le (fd_pos _ _ _) fun d hd => ?_
    cases d with
    | zero =>
      refine Int.le_trans ?_ (tm_le (d := 0) (by omega))
      rw [tm_zero, tm_zero]
      exact Int.mul_le_mul_of_nonneg_left (bs_mono i 1) (by omega)
    | succ d =>
      refine Int.le_trans ?_ (tm_le (d := d) (by omega))
      rw [tm_front, tm_up]
      have h1 := rg_bs (s := s) (h := h) (a := a) i
      have h2 := bs_mono (s := s) (h := h) (a := a) (i + 1) d
      omega
  omega
include hh in
/-- from the sign ahead -/
theorem up_b {n i j : Nat} (hi : i < n) : wn s h a n i j + h i ≤ wn s h a n i (j + 1) := by
  unfold wn
  have : fd s h a i j (min (n - 1 - i) j + 1) + h i ≤ fd s h a i (j + 1) (min (n - 1 - i) (j + 1) + 1) := by
    have key : fd s h a i j (min (n - 1 - i) j + 1) ≤ fd s h a i (j + 1) (min (n - 1 - i) (j + 1) + 1) - h i := by
      refine fd_le ?_ fun d hd => ?_
      · have := tm_le (s := s) (h := h) (a := a) (i := i) (j := j + 1) (m := min (n - 1 - i) (j + 1) + 1) (d := 0) (by omega)
        rw [tm_up, tm_zero, Nat.add_zero] at this
        have p := Int.mul_nonneg (show (0 : Int) ≤ (j : Int) by omega) (bs_pos (s := s) (a := a) hh i)
        have q := h_bs (s := s) (h := h) (a := a) i
        omega
      · have := tm_le (s := s) (h := h) (a := a) (i := i) (j := j + 1) (m := min (n - 1 - i) (j + 1) + 1) (d := d) (by omega)
        rw [tm_up] at this
        have q := h_bs (s := s) (h := h) (a := a) i
        have r := bs_mono (s := s) (h := h) (a := a) i d
        omega
    omega
  omega
include hh in
/-- from the answer -/
theorem up_c {n i j : Nat} (hi : i + 1 < n) : wn s h a n (i + 1) j + a i ≤ wn s h a n i (j + 1) := by
  unfold wn
  show bg s i + s (i + 1) + _ + a i ≤ bg s i + _
  have key : fd s h a (i + 1) j (min (n - 1 - (i + 1)) j + 1) ≤ fd s h a i (j + 1) (min (n - 1 - i) (j + 1) + 1) - rg s a i := by
    refine fd_le ?_ fun d hd => ?_
    · have := tm_le (s := s) (h := h) (a := a) (i := i) (j := j + 1) (m := min (n - 1 - i) (j + 1) + 1) (d := 0 + 1) (by omega)
      rw [tm_front, tm_zero] at this
      have p := Int.mul_nonneg (show (0 : Int) ≤ (j : Int) by omega) (bs_pos (s := s) (a := a) hh (i + 1))
      omega
    · have := tm_le (s := s) (h := h) (a := a) (i := i) (j := j + 1) (m := min (n - 1 - i) (j + 1) + 1) (d := d + 1) (by omega)
      rw [tm_front] at this
      omega
  unfold rg at key
  omega
include hs hh ha in
/-- no other way is longer -/
theorem down {n i j : Nat} {x : Int} (hi : i < n) (xa : ∀ k, i = k + 1 → wn s h a n k (j + 1) + s i ≤ x) (xb : wn s h a n i j + h i ≤ x) (xc : i + 1 < n → wn s h a n (i + 1) j + a i ≤ x) : wn s h a n i (j + 1) ≤ x := by
  have key : fd s h a i (j + 1) (min (n - 1 - i) (j + 1) + 1) ≤ x - bg s i := by
    refine fd_le ?_ fun d hd => ?_
    · have := fd_pos (s := s) (h := h) (a := a) i j (min (n - 1 - i) j + 1)
      have := hh i
      unfold wn at xb
      omega
    · cases d with
      | zero =>
        have hb : fd s h a i j (min (n - 1 - i) j + 1) ≤ x - bg s i - h i := by unfold wn at xb; omega
        have hb0 := Int.le_trans (tm_le (s := s) (h := h) (a := a) (i := i) (j := j) (d := 0) (by omega)) hb
        rw [tm_zero] at hb0
        rw [tm_up, tm_zero, Nat.add_zero]
        cases i with
        | zero =>
          have : bs s h a 0 = h 0 := rfl
          omega
        | succ k =>
          have e : bs s h a (k + 1) = max (max (bs s h a k) (h (k + 1))) (rg s a k) := rfl
          have ha' := xa k rfl
          have hq : fd s h a k (j + 1) (min (n - 1 - k) (j + 1) + 1) ≤ x - bg s (k + 1) := by
            unfold wn at ha'
            show _ ≤ x - (bg s k + s (k + 1))
            omega
          by_cases c1 : bs s h a (k + 1) = h (k + 1)
          · omega
          · by_cases c2 : bs s h a (k + 1) = rg s a k
            · have := Int.le_trans (tm_le (s := s) (h := h) (a := a) (i := k) (j := j + 1) (d := 0 + 1) (by omega)) hq
              rw [tm_front, tm_zero] at this
              omega
            · have c3 : bs s h a (k + 1) = bs s h a k := by omega
              have := Int.le_trans (tm_le (s := s) (h := h) (a := a) (i := k) (j := j + 1) (d := 0) (by omega)) hq
              rw [tm_up, tm_zero, Nat.add_zero] at this
              rw [c3]
              exact this
      | succ d =>
        have hc := xc (by omega)
        have hq : fd s h a (i + 1) j (min (n - 1 - (i + 1)) j + 1) ≤ x - bg s (i + 1) - a i := by unfold wn at hc; omega
        have := Int.le_trans (tm_le (s := s) (h := h) (a := a) (i := i + 1) (j := j) (d := d) (by omega)) hq
        rw [tm_front]
        have e : bg s (i + 1) = bg s i + s (i + 1) := rfl
        unfold rg
        omega
  unfold wn
  omega
include hs in
theorem bg_pos : ∀ i, 0 ≤ bg s i
  | 0 => Int.le_refl _
  | i + 1 => by
    have := bg_pos i
    have := hs (i + 1)
    show 0 ≤ bg s i + s (i + 1)
    omega
include hs hh in
theorem wn_pos (n i j : Nat) : 0 ≤ wn s h a n i j := by
  have := bg_pos hs i
  have := fd_pos (s := s) (h := h) (a := a) i j (min (n - 1 - i) j + 1)
  unfold wn
  omega
end
end Rd

/-! the defs of roads (as gen.py prints them) and what they compute -/
namespace Rd
open PySem DL L2
def fb_is_whole : FS := fSeq (fIfS (fOrT (fNotT (fTst (fCallB isiG (fCons (fLoc 0) (fCons (fVal (fC (.opq (.ty "int")))) (fNil)))))) (fTst (fCallB isiG (fCons (fLoc 0) (fCons (fVal (fC (.opq (.ty "bool")))) (fNil)))))) (fRet (fC (.bl false))) (fNx)) (fRet (fAndV (fOrV (fBin (isD false) (fLoc 1) (fVal (fC .non))) (fBin (geD) (fLoc 0) (fLoc 1))) (fOrV (fBin (isD false) (fLoc 2) (fVal (fC .non))) (fBin (leD) (fLoc 0) (fLoc 2)))))
def G_is_whole : List D → GR := GF 3 3 false fb_is_whole
def fb_is_triple : FS := fSeq (fIfS (fOrT (fNotT (fTst (fCallB isiG (fCons (fLoc 0) (fCons (fVal (fC (.opq (.ty "tuple")))) (fNil)))))) (fOrT (fTst (fBin (eqD true) (fVal (fCallB lenG (fCons (fLoc 0) (fNil)))) (fVal (fC (.int 3))))) (fNotT (fTst (fCall G_is_whole (fCons (fVal (fFz (fBin ixD (fLoc 0) (fVal (fC (.int 1)))))) (fCons (fVal (fC (.int 1))) (fCons (fVal (fC (.int 1000))) (fNil))))))))) (fRet (fC (.bl false))) (fNx)) (fRet (fAndV (fCall G_is_whole (fCons (fVal (fFz (fBin ixD (fLoc 0) (fVal (fC (.int 0)))))) (fCons (fVal (fC (.int 0))) (fCons (fVal (fC (.int 1000))) (fNil))))) (fCall G_is_whole (fCons (fVal (fFz (fBin ixD (fLoc 0) (fVal (fC (.int 2)))))) (fCons (fVal (fC (.int 0))) (fCons (fVal (fC (.int 1000))) (fNil)))))))
def G_is_triple : List D → GR := GF 1 1 false fb_is_triple
def fb_need_road : FS := fSeq (fIfS (fOrT (fNotT (fTst (fCallB isiG (fCons (fLoc 0) (fCons (fVal (fC (.opq (.ty "tuple")))) (fNil)))))) (fNotT (fTst (fChain (leD) (leD) (fVal (fC (.int 1))) (fVal (fCallB lenG (fCons (fLoc 0) (fNil)))) (fVal (fC (.int 40))))))) ((fun _ => .stk)) (fNx)) (fSeq (fFor (fEnum (fName 0)) (gTupF 2 (gsCons (gSet 1) (gsCons (gSet 2) (gsNil)))) (fIfS (fNotT (fTst (fCall G_is_triple (fCons (fVal (fName 2)) (fNil))))) ((fun _ => .stk)) (fNx))) (fRet (fMove 0)))
def G_need_road : List D → GR := GF 1 3 false fb_need_road
def fb_rings_of : FS := fRet (fLc [1, 2] (fZip (fName 0) (fFz (fSl (fLoc 0) (some (fVal (fC (.int 1)))) none))) (gTupF 2 (gsCons (gSet 1) (gsCons (gSet 2) (gsNil)))) (fYes) (fBin addD (fVal (fBin ixD (fLoc 1) (fVal (fC (.int 2))))) (fVal (fBin ixD (fLoc 2) (fVal (fC (.int 0)))))))
def G_rings_of : List D → GR := GF 1 3 false fb_rings_of
def fb_pace_of : FS := fRet (fCallB maxLG (fCons (fVal (fBin addD (fVal (fLc [1] (fIter (fName 0)) (gSet 1) (fYes) (fBin ixD (fLoc 1) (fVal (fC (.int 1)))))) (fVal (fCall G_rings_of (fCons (fVal (fName 0)) (fNil)))))) (fNil)))
def G_pace_of : List D → GR := GF 1 2 false fb_pace_of
def fb_pace : FS := fRet (fCall G_pace_of (fCons (fVal (fFz (fCall G_need_road (fCons (fVal (fName 0)) (fNil))))) (fNil)))
def G_pace : List D → GR := GF 1 1 false fb_pace
def fb_slowest : FS := fSeq (fPar 1 2 (fCall G_pace_of (fCons (fVal (fFz (fCall G_need_road (fCons (fVal (fName 0)) (fNil))))) (fNil))) (fCallB lstG (fNil))) (fSeq (fSet 3 (fCall G_rings_of (fCons (fVal (fName 0)) (fNil)))) (fSeq (fFor (fEnum (fName 0)) (gTupF 2 (gsCons (gSet 4) (gsCons (gSet 5) (gsNil)))) (fSeq (fIfS (fTst (fBin (eqD false) (fVal (fBin ixD (fLoc 5) (fVal (fC (.int 1))))) (fLoc 1))) (fDrop (fApp 2 (fCallB tupG (fCons (fVal (fName 4)) (fCons (fVal (fC (.str "hold"))) (fNil)))))) (fNx)) (fIfS (fAndT (fTst (fBin (ltD) (fLoc 4) (fVal (fCallB lenG (fCons (fLoc 3) (fNil)))))) (fTst (fBin (eqD false) (fVal (fBin ixD (fLoc 3) (fLoc 4))) (fLoc 1)))) (fDrop (fApp 2 (fCallB tupG (fCons (fVal (fName 4)) (fCons (fVal (fC (.str "ring"))) (fNil)))))) (fNx)))) (fRet (fCallB tupleG (fCons (fLoc 2) (fNil))))))
def G_slowest : List D → GR := GF 1 6 false fb_slowest
def fb_need_tower : FS := fIfS (fNotT (fTst (fCall G_is_whole (fCons (fVal (fName 1)) (fCons (fVal (fC (.int 0))) (fCons (fVal (fFz (fBin subD (fVal (fCallB lenG (fCons (fVal (fCall G_need_road (fCons (fVal (fName 0)) (fNil)))) (fNil)))) (fVal (fC (.int 1)))))) (fNil))))))) ((fun _ => .stk)) (fNx)
def G_need_tower : List D → GR := GF 2 2 false fb_need_tower
def fb_when_in : FS := fSeq (fPar 3 4 (fCall G_rings_of (fCons (fVal (fName 0)) (fNil))) (fCallB sumG (fCons (fVal (fLc [9] (fIter (fFz (fSl (fLoc 0) (some (fVal (fC (.int 1)))) (some (fVal (fBin addD (fLoc 1) (fVal (fC (.int 1))))))))) (gSet 9) (fYes) (fBin ixD (fLoc 9) (fVal (fC (.int 0)))))) (fNil)))) (fSeq (fAsg (gTupF 2 (gsCons (gSet 5) (gsCons (gSet 6) (gsNil)))) (fCallB tupG (fCons (fVal (fC (.int 0))) (fCons (fVal (fC (.int 0))) (fNil))))) (fSeq (fSet 7 (fCallB maxLG (fCons (fVal (fBin addD (fVal (fLc [9] (fIter (fFz (fSl (fLoc 0) none (some (fVal (fBin addD (fLoc 1) (fVal (fC (.int 1))))))))) (gSet 9) (fYes) (fBin ixD (fLoc 9) (fVal (fC (.int 1)))))) (fVal (fSl (fLoc 3) none (some (fLoc 1)))))) (fNil)))) (fSeq (fFor (fRange2 (fLoc 1) (fVal (fBin addD (fVal (fCallB min2G (fCons (fVal (fBin subD (fVal (fCallB lenG (fCons (fLoc 0) (fNil)))) (fVal (fC (.int 1))))) (fCons (fVal (fBin addD (fLoc 1) (fLoc 2))) (fNil))))) (fVal (fC (.int 1)))))) (gSet 8) (fSeq (fIfS (fTst (fBin (gtD) (fLoc 8) (fLoc 1))) (fSeq (fAug 6 iaddD (fBin ixD (fLoc 3) (fVal (fBin subD (fLoc 8) (fVal (fC (.int 1))))))) (fSet 7 (fCallB max3G (fCons (fLoc 7) (fCons (fVal (fBin ixD (fVal (fBin ixD (fLoc 0) (fLoc 8))) (fVal (fC (.int 1))))) (fCons (fVal (fBin ixD (fLoc 3) (fVal (fBin subD (fLoc 8) (fVal (fC (.int 1))))))) (fNil))))))) (fNx)) (fSet 5 (fCallB max2G (fCons (fLoc 5) (fCons (fVal (fBin addD (fLoc 6) (fVal (fBin mulD (fVal (fBin addD (fVal (fBin subD (fLoc 2) (fLoc 8))) (fLoc 1))) (fLoc 7))))) (fNil))))))) (fRet (fBin addD (fLoc 4) (fLoc 5))))))
def G_when_in : List D → GR := GF 3 10 false fb_when_in
def fb_when : FS := fSeq (fDrop (fCall G_need_tower (fCons (fVal (fName 0)) (fCons (fVal (fName 1)) (fNil))))) (fSeq (fIfS (fNotT (fTst (fCall G_is_whole (fCons (fVal (fName 2)) (fCons (fVal (fC (.int 0))) (fCons (fVal (fC (.int 1000000000000000000000000000000))) (fNil))))))) ((fun _ => .stk)) (fNx)) (fRet (fCall G_when_in (fCons (fVal (fName 0)) (fCons (fVal (fName 1)) (fCons (fVal (fName 2)) (fNil)))))))
def G_when : List D → GR := GF 3 3 false fb_when
def fb__law_film : FS := fSeq (fSet 2 (fCallB lstG (fNil))) (fSeq (fFor (fRange1 (fLoc 1)) (gSet 3) (fSeq (fSet 4 (fCallB lstG (fNil))) (fSeq (fFor (fEnum (fName 0)) (gTupF 2 (gsCons (gSet 5) (gsCons (gTupF 3 (gsCons (gSet 6) (gsCons (gSet 7) (gsCons (gSet 8) (gsNil))))) (gsNil)))) (fSeq (fSet 9 (fIf (fTst (fBin (eqD false) (fLoc 5) (fVal (fC (.int 0))))) (fC (.int 0)) (fBin addD (fVal (fBin ixD (fLoc 4) (fVal (fBin subD (fLoc 5) (fVal (fC (.int 1))))))) (fLoc 6)))) (fSeq (fIfS (fTst (fBin (gtD) (fLoc 3) (fVal (fC (.int 0))))) (fSet 9 (fCallB max2G (fCons (fLoc 9) (fCons (fVal (fBin addD (fVal (fBin ixD (fVal (fBin ixD (fLoc 2) (fVal (fBin subD (fLoc 3) (fVal (fC (.int 1))))))) (fLoc 5))) (fLoc 7))) (fNil))))) (fNx)) (fSeq (fIfS (fAndT (fTst (fBin (gtD) (fLoc 3) (fVal (fC (.int 0))))) (fTst (fBin (ltD) (fLoc 5) (fVal (fBin subD (fVal (fCallB lenG (fCons (fLoc 0) (fNil)))) (fVal (fC (.int 1)))))))) (fSet 9 (fCallB max2G (fCons (fLoc 9) (fCons (fVal (fBin addD (fVal (fBin ixD (fVal (fBin ixD (fLoc 2) (fVal (fBin subD (fLoc 3) (fVal (fC (.int 1))))))) (fVal (fBin addD (fLoc 5) (fVal (fC (.int 1))))))) (fLoc 8))) (fNil))))) (fNx)) (fDrop (fApp 4 (fName 9))))))) (fDrop (fApp 2 (fName 4)))))) (fRet (fMove 2)))
def G__law_film : List D → GR := GF 2 10 false fb__law_film
theorem is_whole_ok {i lo hi : Int} : G_is_whole [.int i, .int lo, .int hi] = .ok (.bl (decide (lo ≤ i) && decide (i ≤ hi))) [] := by
  unfold G_is_whole
  rw [GF_3]
  unfold fb_is_whole
  have n1 : isD false (.int lo) .non = some (.bl false) := rfl
  have n2 : isD false (.int hi) .non = some (.bl false) := rfl
  by_cases h1 : lo ≤ i
  · by_cases h2 : i ≤ hi
    · simp -implicitDefEqProofs only [slot_0, slot_n, slot_s, res_v, res_l, ev_C, ev_Name, ev_Name1, ev_Move, ev_Move1, ev_Loc, ev_Loc1, ev_Val, ev_Val1, ev_Fz, ev_Fz1, ev_l2, ev_l21, ev_l1, ev_l11, ev_Bin, ev_Bin1, ev_Un, ev_Tst, ev_asB, ev_NotT, ev_NotT1, ev_AndT, ev_AndT1, ev_OrT, ev_OrT1, ev_AndV, ev_AndV1, ev_OrV, ev_OrV1, ev_NotV, ev_NotV1, ev_If, ev_If1, ev_Ch, ev_Ch1, ev_Ch2, ev_Ch3, ev_Nil, ev_Cons, ev_Cons1, ev_Cons2, oc_s, ress_0, ress_s, ocF_s, resF_0, resF_s, ev_lN, ev_lN1, ev_CallB, kRet_ok, ev_Call, ev_Call1, ev_Call2, kRetM_ok, ev_CallM, ev_CallM1, ev_CallM2, ev_M1, ev_M11, ev_M12, ev_M13, ev_M14, ev_Pk, ev_Pk1, ev_PkSl, ev_PkSl1, ev_pk, ev_pk1, prt_n, prt_s, prt_1, prt_2, ev_Sl, ev_Sl0, ev_Sl1, ev_Sl2, ev_Sl3, ev_DG, ev_DGs, ev_DG0, ev_DG1, ev_DG2, ev_DG3, ev_DG4, ev_P0, ev_P1, ev_P2, ev_P3, ev_Disp, ev_Disp1, ev_Lc, ev_Lc1, ev_Lc2, ev_Yes, wipe_0, wipe_s, rest_0, rest_s, ev_Iter, ev_Iter1, ev_Enum, ev_Enum1, ev_Zip, ev_Zip1, ev_Zip2, ev_Zip3, ev_Rg, ev_Rg0, ev_Rg1, ev_Rh, ev_Rh0, ev_Rh1, ev_Rh2, ev_gS, ev_gN, ev_gC, ev_gT, ev_StL, ev_StL1, ev_StL2, ev_StD, ev_StD1, ev_StD2, ev_Seq, seq_nx, seq_rt, seq_bk, seq_ct, ev_Nx, ev_Set, ev_Set1, ev_Drop, ev_Drop1, ev_Ret, ev_IfS, ev_IfS1, ev_Asg, ev_Asg1, ofS_some, ev_Par, ev_Par1, ev_Par2, ev_Tri, ev_Tri1, ev_Tri2, ev_Tri3, ev_Aug, ev_Aug1, ev_Aug2, ev_Aug3, ev_For, nox_lc, R.bind_ok, R.bindS_ok, R.of_some, List.set_cons_zero, List.set_cons_succ, if_true, Bool.false_eq_true, if_false, Bool.not_true, Bool.not_false, Option.bind_some, Option.map_some, ev_Nest, ev_Nest1, lst_nil, frz_int, frz_str, frz_bl, frz_lst, frzL_int, frzL_str, frz_non, frz_tup, frzL_cons, frzL_nil, isF_tup, isFL_cons, isFL_nil, Bool.and_true, Bool.true_and, Bool.and_self, ev_App, ev_App0, ev_App1, isF_int, isF_str, isF_bl, isF_lst, isFL_int, isFL_str, isF_non, isF_opq, fin_rt, fin_nx, endG_f, endG_t, D.key, List.replicate, isi_int_int, isi_int_bool, n1, n2, ge_int, le_int, decide_eq_true h1, decide_eq_true h2, Bool.and_true]
    · simp -implicitDefEqProofs only [slot_0, slot_n, slot_s, res_v, res_l, ev_C, ev_Name, ev_Name1, ev_Move, ev_Move1, ev_Loc, ev_Loc1, ev_Val, ev_Val1, ev_Fz, ev_Fz1, ev_l2, ev_l21, ev_l1, ev_l11, ev_Bin, ev_Bin1, ev_Un, ev_Tst, ev_asB, ev_NotT, ev_NotT1, ev_AndT, ev_AndT1, ev_OrT, ev_OrT1, ev_AndV, ev_AndV1, ev_OrV, ev_OrV1, ev_NotV, ev_NotV1, ev_If, ev_If1, ev_Ch, ev_Ch1, ev_Ch2, ev_Ch3, ev_Nil, ev_Cons, ev_Cons1, ev_Cons2, oc_s, ress_0, ress_s, ocF_s, resF_0, resF_s, ev_lN, ev_lN1, ev_CallB, kRet_ok, ev_Call, ev_Call1, ev_Call2, kRetM_ok, ev_CallM, ev_CallM1, ev_CallM2, ev_M1, ev_M11, ev_M12, ev_M13, ev_M14, ev_Pk, ev_Pk1, ev_PkSl, ev_PkSl1, ev_pk, ev_pk1, prt_n, prt_s, prt_1, prt_2, ev_Sl, ev_Sl0, ev_Sl1, ev_Sl2, ev_Sl3, ev_DG, ev_DGs, ev_DG0, ev_DG1, ev_DG2, ev_DG3, ev_DG4, ev_P0, ev_P1, ev_P2, ev_P3, ev_Disp, ev_Disp1, ev_Lc, ev_Lc1, ev_Lc2, ev_Yes, wipe_0, wipe_s, rest_0, rest_s, ev_Iter, ev_Iter1, ev_Enum, ev_Enum1, ev_Zip, ev_Zip1, ev_Zip2, ev_Zip3, ev_Rg, ev_Rg0, ev_Rg1, ev_Rh, ev_Rh0, ev_Rh1, ev_Rh2, ev_gS, ev_gN, ev_gC, ev_gT, ev_StL, ev_StL1, ev_StL2, ev_StD, ev_StD1, ev_StD2, ev_Seq, seq_nx, seq_rt, seq_bk, seq_ct, ev_Nx, ev_Set, ev_Set1, ev_Drop, ev_Drop1, ev_Ret, ev_IfS, ev_IfS1, ev_Asg, ev_Asg1, ofS_some, ev_Par, ev_Par1, ev_Par2, ev_Tri, ev_Tri1, ev_Tri2, ev_Tri3, ev_Aug, ev_Aug1, ev_Aug2, ev_Aug3, ev_For, nox_lc, R.bind_ok, R.bindS_ok, R.of_some, List.set_cons_zero, List.set_cons_succ, if_true, Bool.false_eq_true, if_false, Bool.not_true, Bool.not_false, Option.bind_some, Option.map_some, ev_Nest, ev_Nest1, lst_nil, frz_int, frz_str, frz_bl, frz_lst, frzL_int, frzL_str, frz_non, frz_tup, frzL_cons, frzL_nil, isF_tup, isFL_cons, isFL_nil, Bool.and_true, Bool.true_and, Bool.and_self, ev_App, ev_App0, ev_App1, isF_int, isF_str, isF_bl, isF_lst, isFL_int, isFL_str, isF_non, isF_opq, fin_rt, fin_nx, endG_f, endG_t, D.key, List.replicate, isi_int_int, isi_int_bool, n1, n2, ge_int, le_int, decide_eq_true h1, decide_eq_false h2, Bool.and_false]
  · simp -implicitDefEqProofs only [slot_0, slot_n, slot_s, res_v, res_l, ev_C, ev_Name, ev_Name1, ev_Move, ev_Move1, ev_Loc, ev_Loc1, ev_Val, ev_Val1, ev_Fz, ev_Fz1, ev_l2, ev_l21, ev_l1, ev_l11, ev_Bin, ev_Bin1, ev_Un, ev_Tst, ev_asB, ev_NotT, ev_NotT1, ev_AndT, ev_AndT1, ev_OrT, ev_OrT1, ev_AndV, ev_AndV1, ev_OrV, ev_OrV1, ev_NotV, ev_NotV1, ev_If, ev_If1, ev_Ch, ev_Ch1, ev_Ch2, ev_Ch3, ev_Nil, ev_Cons, ev_Cons1, ev_Cons2, oc_s, ress_0, ress_s, ocF_s, resF_0, resF_s, ev_lN, ev_lN1, ev_CallB, kRet_ok, ev_Call, ev_Call1, ev_Call2, kRetM_ok, ev_CallM, ev_CallM1, ev_CallM2, ev_M1, ev_M11, ev_M12, ev_M13, ev_M14, ev_Pk, ev_Pk1, ev_PkSl, ev_PkSl1, ev_pk, ev_pk1, prt_n, prt_s, prt_1, prt_2, ev_Sl, ev_Sl0, ev_Sl1, ev_Sl2, ev_Sl3, ev_DG, ev_DGs, ev_DG0, ev_DG1, ev_DG2, ev_DG3, ev_DG4, ev_P0, ev_P1, ev_P2, ev_P3, ev_Disp, ev_Disp1, ev_Lc, ev_Lc1, ev_Lc2, ev_Yes, wipe_0, wipe_s, rest_0, rest_s, ev_Iter, ev_Iter1, ev_Enum, ev_Enum1, ev_Zip, ev_Zip1, ev_Zip2, ev_Zip3, ev_Rg, ev_Rg0, ev_Rg1, ev_Rh, ev_Rh0, ev_Rh1, ev_Rh2, ev_gS, ev_gN, ev_gC, ev_gT, ev_StL, ev_StL1, ev_StL2, ev_StD, ev_StD1, ev_StD2, ev_Seq, seq_nx, seq_rt, seq_bk, seq_ct, ev_Nx, ev_Set, ev_Set1, ev_Drop, ev_Drop1, ev_Ret, ev_IfS, ev_IfS1, ev_Asg, ev_Asg1, ofS_some, ev_Par, ev_Par1, ev_Par2, ev_Tri, ev_Tri1, ev_Tri2, ev_Tri3, ev_Aug, ev_Aug1, ev_Aug2, ev_Aug3, ev_For, nox_lc, R.bind_ok, R.bindS_ok, R.of_some, List.set_cons_zero, List.set_cons_succ, if_true, Bool.false_eq_true, if_false, Bool.not_true, Bool.not_false, Option.bind_some, Option.map_some, ev_Nest, ev_Nest1, lst_nil, frz_int, frz_str, frz_bl, frz_lst, frzL_int, frzL_str, frz_non, frz_tup, frzL_cons, frzL_nil, isF_tup, isFL_cons, isFL_nil, Bool.and_true, Bool.true_and, Bool.and_self, ev_App, ev_App0, ev_App1, isF_int, isF_str, isF_bl, isF_lst, isFL_int, isFL_str, isF_non, isF_opq, fin_rt, fin_nx, endG_f, endG_t, D.key, List.replicate, isi_int_int, isi_int_bool, n1, n2, ge_int, le_int, decide_eq_false h1, Bool.false_and]
theorem whole_yes {i lo hi : Int} (h1 : lo ≤ i) (h2 : i ≤ hi) : G_is_whole [.int i, .int lo, .int hi] = .ok (.bl true) [] := by
  rw [is_whole_ok, decide_eq_true h1, decide_eq_true h2]; rfl
abbrev tri (s h a : Int) : D := .tup [.int s, .int h, .int a]
theorem tri_0 {s h a : Int} : ixD (tri s h a) (.int 0) = some (.int s) := ix_tup (j := 0) rfl rfl
theorem tri_1 {s h a : Int} : ixD (tri s h a) (.int 1) = some (.int h) := ix_tup (j := 1) rfl rfl
theorem tri_2 {s h a : Int} : ixD (tri s h a) (.int 2) = some (.int a) := ix_tup (j := 2) rfl rfl
structure Ok (s h a : Int) : Prop where
  s0 : 0 ≤ s
  s1 : s ≤ 1000
  h0 : 1 ≤ h
  h1 : h ≤ 1000
  a0 : 0 ≤ a
  a1 : a ≤ 1000
theorem triple_ok {s h a : Int} (o : Ok s h a) : G_is_triple [tri s h a] = .ok (.bl true) [] := by
  unfold G_is_triple
  rw [GF_1]
  unfold fb_is_triple
  have w1 := whole_yes (i := h) (lo := 1) (hi := 1000) o.h0 o.h1
  have w0 := whole_yes (i := s) (lo := 0) (hi := 1000) o.s0 o.s1
  have w2 := whole_yes (i := a) (lo := 0) (hi := 1000) o.a0 o.a1
  have l3 : lenG [tri s h a] = some (.int 3) := rfl
  simp -implicitDefEqProofs only [slot_0, slot_n, slot_s, res_v, res_l, ev_C, ev_Name, ev_Name1, ev_Move, ev_Move1, ev_Loc, ev_Loc1, ev_Val, ev_Val1, ev_Fz, ev_Fz1, ev_l2, ev_l21, ev_l1, ev_l11, ev_Bin, ev_Bin1, ev_Un, ev_Tst, ev_asB, ev_NotT, ev_NotT1, ev_AndT, ev_AndT1, ev_OrT, ev_OrT1, ev_AndV, ev_AndV1, ev_OrV, ev_OrV1, ev_NotV, ev_NotV1, ev_If, ev_If1, ev_Ch, ev_Ch1, ev_Ch2, ev_Ch3, ev_Nil, ev_Cons, ev_Cons1, ev_Cons2, oc_s, ress_0, ress_s, ocF_s, resF_0, resF_s, ev_lN, ev_lN1, ev_CallB, kRet_ok, ev_Call, ev_Call1, ev_Call2, kRetM_ok, ev_CallM, ev_CallM1, ev_CallM2, ev_M1, ev_M11, ev_M12, ev_M13, ev_M14, ev_Pk, ev_Pk1, ev_PkSl, ev_PkSl1, ev_pk, ev_pk1, prt_n, prt_s, prt_1, prt_2, ev_Sl, ev_Sl0, ev_Sl1, ev_Sl2, ev_Sl3, ev_DG, ev_DGs, ev_DG0, ev_DG1, ev_DG2, ev_DG3, ev_DG4, ev_P0, ev_P1, ev_P2, ev_P3, ev_Disp, ev_Disp1, ev_Lc, ev_Lc1, ev_Lc2, ev_Yes, wipe_0, wipe_s, rest_0, rest_s, ev_Iter, ev_Iter1, ev_Enum, ev_Enum1, ev_Zip, ev_Zip1, ev_Zip2, ev_Zip3, ev_Rg, ev_Rg0, ev_Rg1, ev_Rh, ev_Rh0, ev_Rh1, ev_Rh2, ev_gS, ev_gN, ev_gC, ev_gT, ev_StL, ev_StL1, ev_StL2, ev_StD, ev_StD1, ev_StD2, ev_Seq, seq_nx, seq_rt, seq_bk, seq_ct, ev_Nx, ev_Set, ev_Set1, ev_Drop, ev_Drop1, ev_Ret, ev_IfS, ev_IfS1, ev_Asg, ev_Asg1, ofS_some, ev_Par, ev_Par1, ev_Par2, ev_Tri, ev_Tri1, ev_Tri2, ev_Tri3, ev_Aug, ev_Aug1, ev_Aug2, ev_Aug3, ev_For, nox_lc, R.bind_ok, R.bindS_ok, R.of_some, List.set_cons_zero, List.set_cons_succ, if_true, Bool.false_eq_true, if_false, Bool.not_true, Bool.not_false, Option.bind_some, Option.map_some, ev_Nest, ev_Nest1, lst_nil, frz_int, frz_str, frz_bl, frz_lst, frzL_int, frzL_str, frz_non, frz_tup, frzL_cons, frzL_nil, isF_tup, isFL_cons, isFL_nil, Bool.and_true, Bool.true_and, Bool.and_self, ev_App, ev_App0, ev_App1, isF_int, isF_str, isF_bl, isF_lst, isFL_int, isFL_str, isF_non, isF_opq, fin_rt, fin_nx, endG_f, endG_t, D.key, List.replicate, isi_tup_tup, l3, eq_int, decide_true, tri_0, tri_1, tri_2, w0, w1, w2]
abbrev Tr := Int × Int × Int
abbrev td (t : Tr) : D := tri t.1 t.2.1 t.2.2
def roadD (rd : List Tr) : List D := rd.map td
def at' (rd : List Tr) (k : Nat) : Tr := (rd[k]?).getD (0, 1, 0)
def sF (rd : List Tr) (k : Nat) : Int := (at' rd k).1
def hF (rd : List Tr) (k : Nat) : Int := (at' rd k).2.1
def aF (rd : List Tr) (k : Nat) : Int := (at' rd k).2.2
structure Good (rd : List Tr) : Prop where
  ok : ∀ t ∈ rd, Ok t.1 t.2.1 t.2.2
  l1 : 1 ≤ rd.length
  l2 : rd.length ≤ 40
theorem Good.at {rd : List Tr} (g : Good rd) (k : Nat) : Ok (sF rd k) (hF rd k) (aF rd k) := by
  unfold sF hF aF at'
  cases e : rd[k]? with
  | none => exact ⟨by decide, by decide, by decide, by decide, by decide, by decide⟩
  | some t => exact g.ok t (List.mem_of_getElem? e)
theorem roadD_F {rd : List Tr} : D.isFL (roadD rd) = true := isFL_map (fun _ => rfl) rd
theorem roadD_z {rd : List Tr} : D.frzL (roadD rd) = roadD rd := frzL_of roadD_F
theorem roadD_len {rd : List Tr} : (roadD rd).length = rd.length := List.length_map ..
theorem roadD_get {rd : List Tr} {k : Nat} (h : k < rd.length) : (roadD rd)[k]? = some (tri (sF rd k) (hF rd k) (aF rd k)) := by
  unfold roadD sF hF aF at'
  rw [List.getElem?_map, List.getElem?_eq_getElem h]; rfl
theorem enumR {rd : List Tr} {i : Nat} {d : D} (hd : (enumFrom 0 (roadD rd))[i]? = some d) : i < rd.length ∧ d = .tup [.int (i : Int), tri (sF rd i) (hF rd i) (aF rd i)] := by
  have hi : i < rd.length := by
    have := (List.getElem?_eq_some_iff.mp hd).1
    rwa [enumFrom_length, roadD_len] at this
  refine ⟨hi, ?_⟩
  have := enumFrom_get (roadD rd) 0 i _ (roadD_get hi)
  rw [this, Nat.zero_add] at hd
  exact (Option.some.inj hd).symm
theorem need_ok {rd : List Tr} (g : Good rd) : G_need_road [.tup (roadD rd)] = .ok (.tup (roadD rd)) [] := by
  unfold G_need_road
  rw [GF_1]
  unfold fb_need_road
  have lp := forF_inv (g := gTupF 2 (gsCons (gSet 1) (gsCons (gSet 2) (gsNil)))) (body := fIfS (fNotT (fTst (fCall G_is_triple (fCons (fVal (fName 2)) (fNil))))) ((fun _ => .stk)) (fNx)) (ds := enumFrom 0 (roadD rd))
    (fun i ρ => ∃ o1 o2, ρ = [some (.tup (roadD rd)), o1, o2]) (fun i d ρ hd hi => ?_) (ρ := [some (.tup (roadD rd)), none, none]) ⟨_, _, rfl⟩
  · obtain ⟨ρ', e, o1, o2, rfl⟩ := lp
    have c1 : (1 : Int) ≤ (rd.length : Int) := by have := g.l1; omega
    have c2 : (rd.length : Int) ≤ 40 := by have := g.l2; omega
    simp -implicitDefEqProofs only [slot_0, slot_n, slot_s, res_v, res_l, ev_C, ev_Name, ev_Name1, ev_Move, ev_Move1, ev_Loc, ev_Loc1, ev_Val, ev_Val1, ev_Fz, ev_Fz1, ev_l2, ev_l21, ev_l1, ev_l11, ev_Bin, ev_Bin1, ev_Un, ev_Tst, ev_asB, ev_NotT, ev_NotT1, ev_AndT, ev_AndT1, ev_OrT, ev_OrT1, ev_AndV, ev_AndV1, ev_OrV, ev_OrV1, ev_NotV, ev_NotV1, ev_If, ev_If1, ev_Ch, ev_Ch1, ev_Ch2, ev_Ch3, ev_Nil, ev_Cons, ev_Cons1, ev_Cons2, oc_s, ress_0, ress_s, ocF_s, resF_0, resF_s, ev_lN, ev_lN1, ev_CallB, kRet_ok, ev_Call, ev_Call1, ev_Call2, kRetM_ok, ev_CallM, ev_CallM1, ev_CallM2, ev_M1, ev_M11, ev_M12, ev_M13, ev_M14, ev_Pk, ev_Pk1, ev_PkSl, ev_PkSl1, ev_pk, ev_pk1, prt_n, prt_s, prt_1, prt_2, ev_Sl, ev_Sl0, ev_Sl1, ev_Sl2, ev_Sl3, ev_DG, ev_DGs, ev_DG0, ev_DG1, ev_DG2, ev_DG3, ev_DG4, ev_P0, ev_P1, ev_P2, ev_P3, ev_Disp, ev_Disp1, ev_Lc, ev_Lc1, ev_Lc2, ev_Yes, wipe_0, wipe_s, rest_0, rest_s, ev_Iter, ev_Iter1, ev_Enum, ev_Enum1, ev_Zip, ev_Zip1, ev_Zip2, ev_Zip3, ev_Rg, ev_Rg0, ev_Rg1, ev_Rh, ev_Rh0, ev_Rh1, ev_Rh2, ev_gS, ev_gN, ev_gC, ev_gT, ev_StL, ev_StL1, ev_StL2, ev_StD, ev_StD1, ev_StD2, ev_Seq, seq_nx, seq_rt, seq_bk, seq_ct, ev_Nx, ev_Set, ev_Set1, ev_Drop, ev_Drop1, ev_Ret, ev_IfS, ev_IfS1, ev_Asg, ev_Asg1, ofS_some, ev_Par, ev_Par1, ev_Par2, ev_Tri, ev_Tri1, ev_Tri2, ev_Tri3, ev_Aug, ev_Aug1, ev_Aug2, ev_Aug3, ev_For, nox_lc, R.bind_ok, R.bindS_ok, R.of_some, List.set_cons_zero, List.set_cons_succ, if_true, Bool.false_eq_true, if_false, Bool.not_true, Bool.not_false, Option.bind_some, Option.map_some, ev_Nest, ev_Nest1, lst_nil, frz_int, frz_str, frz_bl, frz_lst, frzL_int, frzL_str, frz_non, frz_tup, frzL_cons, frzL_nil, isF_tup, isFL_cons, isFL_nil, Bool.and_true, Bool.true_and, Bool.and_self, ev_App, ev_App0, ev_App1, isF_int, isF_str, isF_bl, isF_lst, isFL_int, isFL_str, isF_non, isF_opq, fin_rt, fin_nx, endG_f, endG_t, D.key, List.replicate, isi_tup_tup, lenG_tup, roadD_len, le_int, decide_eq_true c1, decide_eq_true c2, roadD_z, itemsQ_tup roadD_F, kFor, e]
  · obtain ⟨o1, o2, rfl⟩ := hi
    obtain ⟨hi, rfl⟩ := enumR hd
    refine ⟨[some (.tup (roadD rd)), some (.int (i : Int)), some (tri (sF rd i) (hF rd i) (aF rd i))], _, rfl, .inl ?_, some (.int (i : Int)), some (tri (sF rd i) (hF rd i) (aF rd i)), rfl⟩
    have t := triple_ok (g.at i)
    simp -implicitDefEqProofs only [slot_0, slot_n, slot_s, res_v, res_l, ev_C, ev_Name, ev_Name1, ev_Move, ev_Move1, ev_Loc, ev_Loc1, ev_Val, ev_Val1, ev_Fz, ev_Fz1, ev_l2, ev_l21, ev_l1, ev_l11, ev_Bin, ev_Bin1, ev_Un, ev_Tst, ev_asB, ev_NotT, ev_NotT1, ev_AndT, ev_AndT1, ev_OrT, ev_OrT1, ev_AndV, ev_AndV1, ev_OrV, ev_OrV1, ev_NotV, ev_NotV1, ev_If, ev_If1, ev_Ch, ev_Ch1, ev_Ch2, ev_Ch3, ev_Nil, ev_Cons, ev_Cons1, ev_Cons2, oc_s, ress_0, ress_s, ocF_s, resF_0, resF_s, ev_lN, ev_lN1, ev_CallB, kRet_ok, ev_Call, ev_Call1, ev_Call2, kRetM_ok, ev_CallM, ev_CallM1, ev_CallM2, ev_M1, ev_M11, ev_M12, ev_M13, ev_M14, ev_Pk, ev_Pk1, ev_PkSl, ev_PkSl1, ev_pk, ev_pk1, prt_n, prt_s, prt_1, prt_2, ev_Sl, ev_Sl0, ev_Sl1, ev_Sl2, ev_Sl3, ev_DG, ev_DGs, ev_DG0, ev_DG1, ev_DG2, ev_DG3, ev_DG4, ev_P0, ev_P1, ev_P2, ev_P3, ev_Disp, ev_Disp1, ev_Lc, ev_Lc1, ev_Lc2, ev_Yes, wipe_0, wipe_s, rest_0, rest_s, ev_Iter, ev_Iter1, ev_Enum, ev_Enum1, ev_Zip, ev_Zip1, ev_Zip2, ev_Zip3, ev_Rg, ev_Rg0, ev_Rg1, ev_Rh, ev_Rh0, ev_Rh1, ev_Rh2, ev_gS, ev_gN, ev_gC, ev_gT, ev_StL, ev_StL1, ev_StL2, ev_StD, ev_StD1, ev_StD2, ev_Seq, seq_nx, seq_rt, seq_bk, seq_ct, ev_Nx, ev_Set, ev_Set1, ev_Drop, ev_Drop1, ev_Ret, ev_IfS, ev_IfS1, ev_Asg, ev_Asg1, ofS_some, ev_Par, ev_Par1, ev_Par2, ev_Tri, ev_Tri1, ev_Tri2, ev_Tri3, ev_Aug, ev_Aug1, ev_Aug2, ev_Aug3, ev_For, nox_lc, R.bind_ok, R.bindS_ok, R.of_some, List.set_cons_zero, List.set_cons_succ, if_true, Bool.false_eq_true, if_false, Bool.not_true, Bool.not_false, Option.bind_some, Option.map_some, ev_Nest, ev_Nest1, lst_nil, frz_int, frz_str, frz_bl, frz_lst, frzL_int, frzL_str, frz_non, frz_tup, frzL_cons, frzL_nil, isF_tup, isFL_cons, isFL_nil, Bool.and_true, Bool.true_and, Bool.and_self, ev_App, ev_App0, ev_App1, isF_int, isF_str, isF_bl, isF_lst, isFL_int, isFL_str, isF_non, isF_opq, fin_rt, fin_nx, endG_f, endG_t, D.key, t]
theorem tower_ok {rd : List Tr} {t : Nat} (g : Good rd) (h1 : t < rd.length) : G_need_tower [.tup (roadD rd), .int t] = .ok .non [] := by
  unfold G_need_tower
  rw [GF_2]
  unfold fb_need_tower
  have e := need_ok g
  have w := whole_yes (i := (t : Int)) (lo := 0) (hi := (rd.length : Int) - 1) (by omega) (by omega)
  simp -implicitDefEqProofs only [slot_0, slot_n, slot_s, res_v, res_l, ev_C, ev_Name, ev_Name1, ev_Move, ev_Move1, ev_Loc, ev_Loc1, ev_Val, ev_Val1, ev_Fz, ev_Fz1, ev_l2, ev_l21, ev_l1, ev_l11, ev_Bin, ev_Bin1, ev_Un, ev_Tst, ev_asB, ev_NotT, ev_NotT1, ev_AndT, ev_AndT1, ev_OrT, ev_OrT1, ev_AndV, ev_AndV1, ev_OrV, ev_OrV1, ev_NotV, ev_NotV1, ev_If, ev_If1, ev_Ch, ev_Ch1, ev_Ch2, ev_Ch3, ev_Nil, ev_Cons, ev_Cons1, ev_Cons2, oc_s, ress_0, ress_s, ocF_s, resF_0, resF_s, ev_lN, ev_lN1, ev_CallB, kRet_ok, ev_Call, ev_Call1, ev_Call2, kRetM_ok, ev_CallM, ev_CallM1, ev_CallM2, ev_M1, ev_M11, ev_M12, ev_M13, ev_M14, ev_Pk, ev_Pk1, ev_PkSl, ev_PkSl1, ev_pk, ev_pk1, prt_n, prt_s, prt_1, prt_2, ev_Sl, ev_Sl0, ev_Sl1, ev_Sl2, ev_Sl3, ev_DG, ev_DGs, ev_DG0, ev_DG1, ev_DG2, ev_DG3, ev_DG4, ev_P0, ev_P1, ev_P2, ev_P3, ev_Disp, ev_Disp1, ev_Lc, ev_Lc1, ev_Lc2, ev_Yes, wipe_0, wipe_s, rest_0, rest_s, ev_Iter, ev_Iter1, ev_Enum, ev_Enum1, ev_Zip, ev_Zip1, ev_Zip2, ev_Zip3, ev_Rg, ev_Rg0, ev_Rg1, ev_Rh, ev_Rh0, ev_Rh1, ev_Rh2, ev_gS, ev_gN, ev_gC, ev_gT, ev_StL, ev_StL1, ev_StL2, ev_StD, ev_StD1, ev_StD2, ev_Seq, seq_nx, seq_rt, seq_bk, seq_ct, ev_Nx, ev_Set, ev_Set1, ev_Drop, ev_Drop1, ev_Ret, ev_IfS, ev_IfS1, ev_Asg, ev_Asg1, ofS_some, ev_Par, ev_Par1, ev_Par2, ev_Tri, ev_Tri1, ev_Tri2, ev_Tri3, ev_Aug, ev_Aug1, ev_Aug2, ev_Aug3, ev_For, nox_lc, R.bind_ok, R.bindS_ok, R.of_some, List.set_cons_zero, List.set_cons_succ, if_true, Bool.false_eq_true, if_false, Bool.not_true, Bool.not_false, Option.bind_some, Option.map_some, ev_Nest, ev_Nest1, lst_nil, frz_int, frz_str, frz_bl, frz_lst, frzL_int, frzL_str, frz_non, frz_tup, frzL_cons, frzL_nil, isF_tup, isFL_cons, isFL_nil, Bool.and_true, Bool.true_and, Bool.and_self, ev_App, ev_App0, ev_App1, isF_int, isF_str, isF_bl, isF_lst, isFL_int, isFL_str, isF_non, isF_opq, fin_rt, fin_nx, endG_f, endG_t, D.key, List.replicate, roadD_z, roadD_F, e, lenG_tup, roadD_len, sub_int, w]
def rgL (rd : List Tr) (m : Nat) : List Int := (List.range m).map (rg (sF rd) (aF rd))
theorem rgL_len {rd : List Tr} {m : Nat} : (rgL rd m).length = m := by simp [rgL]
theorem rgL_get {rd : List Tr} {m k : Nat} (h : k < m) : (rgL rd m)[k]? = some (rg (sF rd) (aF rd) k) := by
  unfold rgL
  rw [List.getElem?_map, List.getElem?_range h]; rfl
theorem rings_ok {rd : List Tr} (g : Good rd) : G_rings_of [.tup (roadD rd)] = .ok (.lst true ((rgL rd (rd.length - 1)).map D.int)) [] := by
  have l2 := g.l2
  unfold G_rings_of
  rw [GF_1]
  unfold fb_rings_of
  have e1 : slD (.tup (roadD rd)) (some 1) none = some (.tup ((roadD rd).drop 1)) := by
    rw [sl_tup roadD_F, show cutL (roadD rd) (some 1) none = (roadD rd).drop 1 from cutL_n_ _ 1]
  have dF : D.isFL ((roadD rd).drop 1) = true := by
    have : (roadD rd).drop 1 = roadD (rd.drop 1) := by unfold roadD; rw [List.map_drop]
    rw [this]; exact roadD_F
  have ez : List.zipWith (fun x y => D.tup [x, y]) (roadD rd) ((roadD rd).drop 1) = (List.range (rd.length - 1)).map fun k => D.tup [tri (sF rd k) (hF rd k) (aF rd k), tri (sF rd (k + 1)) (hF rd (k + 1)) (aF rd (k + 1))] := by
    apply List.ext_getElem?
    intro k
    rw [List.getElem?_zipWith, List.getElem?_map, List.getElem?_drop]
    by_cases hk : k < rd.length - 1
    · rw [roadD_get (show k < rd.length by omega), Nat.add_comm 1 k, roadD_get (show k + 1 < rd.length by omega), List.getElem?_range hk]; rfl
    · rw [List.getElem?_eq_none (l := roadD rd) (i := 1 + k) (by rw [roadD_len]; omega), List.getElem?_eq_none (l := List.range (rd.length - 1)) (by rw [List.length_range]; omega)]
      cases (roadD rd)[k]? <;> rfl
  have lc : lcF [1, 2] (gTupF 2 (gsCons (gSet 1) (gsCons (gSet 2) (gsNil)))) fYes (fBin addD (fVal (fBin ixD (fLoc 1) (fVal (fC (.int 2))))) (fVal (fBin ixD (fLoc 2) (fVal (fC (.int 0)))))) ((List.range (rd.length - 1)).map fun k => D.tup [tri (sF rd k) (hF rd k) (aF rd k), tri (sF rd (k + 1)) (hF rd (k + 1)) (aF rd (k + 1))]) 0 [some (.tup (roadD rd)), none, none] = .ok ((rgL rd (rd.length - 1)).map D.int) [some (.tup (roadD rd)), none, none] := by
    rw [lcF_map (fun _ => true) (fun d => match d with | .tup [.tup [_, _, .int x], .tup [.int y, _, _]] => .int (x + y) | d => d) (by rw [List.length_map, List.length_range]; exact sz1000 (by omega)) (fun d hd => ?_)]
    · congr 1
      rw [List.filter_eq_self.mpr (fun _ _ => rfl)]
      unfold rgL
      rw [List.map_map, List.map_map]
      rfl
    · obtain ⟨k, _, rfl⟩ := List.mem_map.mp hd
      refine ⟨_, _, rfl, rfl, (fun h => by cases h), fun _ => ⟨[some (.tup (roadD rd)), some (tri (sF rd k) (hF rd k) (aF rd k)), some (tri (sF rd (k + 1)) (hF rd (k + 1)) (aF rd (k + 1)))], ?_, rfl⟩⟩
      simp -implicitDefEqProofs only [slot_0, slot_n, slot_s, res_v, res_l, ev_C, ev_Name, ev_Name1, ev_Move, ev_Move1, ev_Loc, ev_Loc1, ev_Val, ev_Val1, ev_Fz, ev_Fz1, ev_l2, ev_l21, ev_l1, ev_l11, ev_Bin, ev_Bin1, ev_Un, ev_Tst, ev_asB, ev_NotT, ev_NotT1, ev_AndT, ev_AndT1, ev_OrT, ev_OrT1, ev_AndV, ev_AndV1, ev_OrV, ev_OrV1, ev_NotV, ev_NotV1, ev_If, ev_If1, ev_Ch, ev_Ch1, ev_Ch2, ev_Ch3, ev_Nil, ev_Cons, ev_Cons1, ev_Cons2, oc_s, ress_0, ress_s, ocF_s, resF_0, resF_s, ev_lN, ev_lN1, ev_CallB, kRet_ok, ev_Call, ev_Call1, ev_Call2, kRetM_ok, ev_CallM, ev_CallM1, ev_CallM2, ev_M1, ev_M11, ev_M12, ev_M13, ev_M14, ev_Pk, ev_Pk1, ev_PkSl, ev_PkSl1, ev_pk, ev_pk1, prt_n, prt_s, prt_1, prt_2, ev_Sl, ev_Sl0, ev_Sl1, ev_Sl2, ev_Sl3, ev_DG, ev_DGs, ev_DG0, ev_DG1, ev_DG2, ev_DG3, ev_DG4, ev_P0, ev_P1, ev_P2, ev_P3, ev_Disp, ev_Disp1, ev_Lc, ev_Lc1, ev_Lc2, ev_Yes, wipe_0, wipe_s, rest_0, rest_s, ev_Iter, ev_Iter1, ev_Enum, ev_Enum1, ev_Zip, ev_Zip1, ev_Zip2, ev_Zip3, ev_Rg, ev_Rg0, ev_Rg1, ev_Rh, ev_Rh0, ev_Rh1, ev_Rh2, ev_gS, ev_gN, ev_gC, ev_gT, ev_StL, ev_StL1, ev_StL2, ev_StD, ev_StD1, ev_StD2, ev_Seq, seq_nx, seq_rt, seq_bk, seq_ct, ev_Nx, ev_Set, ev_Set1, ev_Drop, ev_Drop1, ev_Ret, ev_IfS, ev_IfS1, ev_Asg, ev_Asg1, ofS_some, ev_Par, ev_Par1, ev_Par2, ev_Tri, ev_Tri1, ev_Tri2, ev_Tri3, ev_Aug, ev_Aug1, ev_Aug2, ev_Aug3, ev_For, nox_lc, R.bind_ok, R.bindS_ok, R.of_some, List.set_cons_zero, List.set_cons_succ, if_true, Bool.false_eq_true, if_false, Bool.not_true, Bool.not_false, Option.bind_some, Option.map_some, ev_Nest, ev_Nest1, lst_nil, frz_int, frz_str, frz_bl, frz_lst, frzL_int, frzL_str, frz_non, frz_tup, frzL_cons, frzL_nil, isF_tup, isFL_cons, isFL_nil, Bool.and_true, Bool.true_and, Bool.and_self, ev_App, ev_App0, ev_App1, isF_int, isF_str, isF_bl, isF_lst, isFL_int, isFL_str, isF_non, isF_opq, fin_rt, fin_nx, endG_f, endG_t, D.key, tri_2, tri_0, add_int]
  simp -implicitDefEqProofs only [slot_0, slot_n, slot_s, res_v, res_l, ev_C, ev_Name, ev_Name1, ev_Move, ev_Move1, ev_Loc, ev_Loc1, ev_Val, ev_Val1, ev_Fz, ev_Fz1, ev_l2, ev_l21, ev_l1, ev_l11, ev_Bin, ev_Bin1, ev_Un, ev_Tst, ev_asB, ev_NotT, ev_NotT1, ev_AndT, ev_AndT1, ev_OrT, ev_OrT1, ev_AndV, ev_AndV1, ev_OrV, ev_OrV1, ev_NotV, ev_NotV1, ev_If, ev_If1, ev_Ch, ev_Ch1, ev_Ch2, ev_Ch3, ev_Nil, ev_Cons, ev_Cons1, ev_Cons2, oc_s, ress_0, ress_s, ocF_s, resF_0, resF_s, ev_lN, ev_lN1, ev_CallB, kRet_ok, ev_Call, ev_Call1, ev_Call2, kRetM_ok, ev_CallM, ev_CallM1, ev_CallM2, ev_M1, ev_M11, ev_M12, ev_M13, ev_M14, ev_Pk, ev_Pk1, ev_PkSl, ev_PkSl1, ev_pk, ev_pk1, prt_n, prt_s, prt_1, prt_2, ev_Sl, ev_Sl0, ev_Sl1, ev_Sl2, ev_Sl3, ev_DG, ev_DGs, ev_DG0, ev_DG1, ev_DG2, ev_DG3, ev_DG4, ev_P0, ev_P1, ev_P2, ev_P3, ev_Disp, ev_Disp1, ev_Lc, ev_Lc1, ev_Lc2, ev_Yes, wipe_0, wipe_s, rest_0, rest_s, ev_Iter, ev_Iter1, ev_Enum, ev_Enum1, ev_Zip, ev_Zip1, ev_Zip2, ev_Zip3, ev_Rg, ev_Rg0, ev_Rg1, ev_Rh, ev_Rh0, ev_Rh1, ev_Rh2, ev_gS, ev_gN, ev_gC, ev_gT, ev_StL, ev_StL1, ev_StL2, ev_StD, ev_StD1, ev_StD2, ev_Seq, seq_nx, seq_rt, seq_bk, seq_ct, ev_Nx, ev_Set, ev_Set1, ev_Drop, ev_Drop1, ev_Ret, ev_IfS, ev_IfS1, ev_Asg, ev_Asg1, ofS_some, ev_Par, ev_Par1, ev_Par2, ev_Tri, ev_Tri1, ev_Tri2, ev_Tri3, ev_Aug, ev_Aug1, ev_Aug2, ev_Aug3, ev_For, nox_lc, R.bind_ok, R.bindS_ok, R.of_some, List.set_cons_zero, List.set_cons_succ, if_true, Bool.false_eq_true, if_false, Bool.not_true, Bool.not_false, Option.bind_some, Option.map_some, ev_Nest, ev_Nest1, lst_nil, frz_int, frz_str, frz_bl, frz_lst, frzL_int, frzL_str, frz_non, frz_tup, frzL_cons, frzL_nil, isF_tup, isFL_cons, isFL_nil, Bool.and_true, Bool.true_and, Bool.and_self, ev_App, ev_App0, ev_App1, isF_int, isF_str, isF_bl, isF_lst, isFL_int, isFL_str, isF_non, isF_opq, fin_rt, fin_nx, endG_f, endG_t, D.key, List.replicate, roadD_z, e1, itemsQ_tup roadD_F, dF, itemsQ_tup dF, frzL_of dF, ez, lc]
/-! ### when -/
theorem bs_ub {s h a : Nat → Int} : ∀ (t k : Nat), k ≤ t → h k ≤ bs s h a t := fun t k hk => by
  have := h_bs (s := s) (h := h) (a := a) k
  have m := bs_mono (s := s) (h := h) (a := a) k (t - k)
  rw [show k + (t - k) = t by omega] at m
  omega
theorem bs_ub2 {s h a : Nat → Int} : ∀ (t k : Nat), k < t → rg s a k ≤ bs s h a t := fun t k hk => by
  have := rg_bs (s := s) (h := h) (a := a) k
  have m := bs_mono (s := s) (h := h) (a := a) (k + 1) (t - (k + 1))
  rw [show k + 1 + (t - (k + 1)) = t by omega] at m
  omega
theorem bs_mem {s h a : Nat → Int} : ∀ t : Nat, (∃ k, k ≤ t ∧ bs s h a t = h k) ∨ ∃ k, k < t ∧ bs s h a t = rg s a k
  | 0 => .inl ⟨0, Nat.le_refl _, rfl⟩
  | t + 1 => by
    have e : bs s h a (t + 1) = max (max (bs s h a t) (h (t + 1))) (rg s a t) := rfl
    by_cases c1 : bs s h a (t + 1) = h (t + 1)
    · exact .inl ⟨t + 1, Nat.le_refl _, c1⟩
    · by_cases c2 : bs s h a (t + 1) = rg s a t
      · exact .inr ⟨t, Nat.lt_succ_self t, c2⟩
      · have c3 : bs s h a (t + 1) = bs s h a t := by omega
        rcases bs_mem (s := s) (h := h) (a := a) t with ⟨k, h1, h2⟩ | ⟨k, h1, h2⟩
        · exact .inl ⟨k, by omega, by omega⟩
        · exact .inr ⟨k, by omega, by omega⟩
theorem maxL_bs {s h a : Nat → Int} (t : Nat) : maxL ((List.range (t + 1)).map h ++ (List.range t).map (rg s a)) = bs s h a t := by
  refine (maxL_is ?_ ?_).symm
  · rcases bs_mem (s := s) (h := h) (a := a) t with ⟨k, h1, h2⟩ | ⟨k, h1, h2⟩
    · rw [h2]; exact List.mem_append_left _ (List.mem_map_of_mem (List.mem_range.mpr (by omega)))
    · rw [h2]; exact List.mem_append_right _ (List.mem_map_of_mem (List.mem_range.mpr h1))
  · intro y hy
    rcases List.mem_append.mp hy with q | q
    · obtain ⟨k, hk, rfl⟩ := List.mem_map.mp q
      exact bs_ub t k (by have := List.mem_range.mp hk; omega)
    · obtain ⟨k, hk, rfl⟩ := List.mem_map.mp q
      exact bs_ub2 t k (List.mem_range.mp hk)
theorem sum_bg {s : Nat → Int} : ∀ t : Nat, ((List.range t).map fun k => s (k + 1)).sum = bg s t
  | 0 => rfl
  | t + 1 => by
    rw [List.range_succ, List.map_append, List.sum_append, sum_bg t]
    show bg s t + (s (t + 1) + 0) = bg s t + s (t + 1)
    omega
theorem Good.bs {rd : List Tr} (g : Good rd) (k : Nat) : 0 ≤ bs (sF rd) (hF rd) (aF rd) k ∧ bs (sF rd) (hF rd) (aF rd) k ≤ 2000 := by
  rcases bs_mem (s := sF rd) (h := hF rd) (a := aF rd) k with ⟨k, _, h2⟩ | ⟨k, _, h2⟩
  · have := g.at k
    rw [h2]
    exact ⟨by have := this.h0; omega, by have := this.h1; omega⟩
  · have o1 := g.at k
    have o2 := g.at (k + 1)
    rw [h2]
    unfold rg
    exact ⟨by have := o1.a0; have := o2.s0; omega, by have := o1.a1; have := o2.s1; omega⟩
theorem when_in_ok {rd : List Tr} {t sg : Nat} (g : Good rd) (h1 : t < rd.length) (h3 : sg ≤ 2 ^ 110) : G_when_in [.tup (roadD rd), .int t, .int sg] = .ok (.int (wn (sF rd) (hF rd) (aF rd) rd.length t sg)) [] := by
  have l2 := g.l2
  have rz : ∀ m, roadD (rd.take m) = (roadD rd).take m := fun m => by unfold roadD; rw [List.map_take]
  have rF : ∀ m, D.isFL ((roadD rd).take m) = true := fun m => by rw [← rz]; exact roadD_F
  have rF2 : D.isFL (((roadD rd).take (t + 1)).drop 1) = true := by
    have : ((roadD rd).take (t + 1)).drop 1 = roadD ((rd.take (t + 1)).drop 1) := by unfold roadD; rw [List.map_drop, List.map_take]
    rw [this]; exact roadD_F
  have q1 : ((roadD rd).take (t + 1)).drop 1 = (List.range t).map fun k => tri (sF rd (k + 1)) (hF rd (k + 1)) (aF rd (k + 1)) := by
    apply List.ext_getElem?
    intro k
    rw [List.getElem?_drop, List.getElem?_take, List.getElem?_map]
    by_cases hk : k < t
    · rw [if_pos (by omega), Nat.add_comm 1 k, roadD_get (show k + 1 < rd.length by omega), List.getElem?_range hk]; rfl
    · rw [if_neg (by omega), List.getElem?_eq_none (l := List.range t) (by rw [List.length_range]; omega)]; rfl
  have q2 : (roadD rd).take (t + 1) = (List.range (t + 1)).map fun k => tri (sF rd k) (hF rd k) (aF rd k) := by
    apply List.ext_getElem?
    intro k
    rw [List.getElem?_take, List.getElem?_map]
    by_cases hk : k < t + 1
    · rw [if_pos (by omega), roadD_get (show k < rd.length by omega), List.getElem?_range hk]; rfl
    · rw [if_neg (by omega), List.getElem?_eq_none (l := List.range (t + 1)) (by rw [List.length_range]; omega)]; rfl
  have sl1 : slD (.tup (roadD rd)) (some 1) (some ((t : Int) + 1)) = some (.tup ((List.range t).map fun k => tri (sF rd (k + 1)) (hF rd (k + 1)) (aF rd (k + 1)))) := by
    have := sl_tup (xs := roadD rd) (lo := some ((1 : Nat) : Int)) (hi := some (((t + 1 : Nat)) : Int)) roadD_F
    rw [cutL_nn, q1] at this
    exact this
  have sl2 : slD (.tup (roadD rd)) none (some ((t : Int) + 1)) = some (.tup ((List.range (t + 1)).map fun k => tri (sF rd k) (hF rd k) (aF rd k))) := by
    have := sl_tup (xs := roadD rd) (lo := none) (hi := some (((t + 1 : Nat)) : Int)) roadD_F
    rw [cutL__n, q2] at this
    exact this
  have f1 : D.isFL ((List.range t).map fun k => tri (sF rd (k + 1)) (hF rd (k + 1)) (aF rd (k + 1))) = true := isFL_map (fun _ => rfl) _
  have f2 : D.isFL ((List.range (t + 1)).map fun k => tri (sF rd k) (hF rd k) (aF rd k)) = true := isFL_map (fun _ => rfl) _
  have sl3 : slD (.lst true ((rgL rd (rd.length - 1)).map D.int)) none (some (t : Int)) = some (.lst true (((List.range t).map (rg (sF rd) (aF rd))).map D.int)) := by
    have := sl_lst (m := true) (lo := none) (hi := some (t : Int)) (isFL_int (rgL rd (rd.length - 1)))
    rw [cutL__n, ← List.map_take] at this
    have e : (rgL rd (rd.length - 1)).take t = (List.range t).map (rg (sF rd) (aF rd)) := by
      unfold rgL
      rw [← List.map_take, List.take_range, Nat.min_eq_left (by omega)]
    rw [e] at this
    exact this
  have lc1 : ∀ ρ : En, ∀ x0 x1 x2, ρ = [x0, x1, x2, none, none, none, none, none, none, none] → lcF [9] (gSet 9) fYes (fBin ixD (fLoc 9) (fVal (fC (.int 0)))) ((List.range t).map fun k => tri (sF rd (k + 1)) (hF rd (k + 1)) (aF rd (k + 1))) 0 ρ = .ok (((List.range t).map fun k => sF rd (k + 1)).map D.int) ρ := by
    rintro ρ x0 x1 x2 rfl
    rw [lcF_map (fun _ => true) (fun d => match d with | .tup [x, _, _] => x | d => d) (by rw [List.length_map, List.length_range]; exact sz1000 (by omega)) (fun d hd => ?_)]
    · congr 1
      rw [List.filter_eq_self.mpr (fun _ _ => rfl), List.map_map, List.map_map]; rfl
    · obtain ⟨k, _, rfl⟩ := List.mem_map.mp hd
      refine ⟨_, _, rfl, rfl, (fun h => by cases h), fun _ => ⟨[x0, x1, x2, none, none, none, none, none, none, some (tri (sF rd (k + 1)) (hF rd (k + 1)) (aF rd (k + 1)))], ?_, rfl⟩⟩
      simp -implicitDefEqProofs only [slot_0, slot_n, slot_s, res_v, res_l, ev_C, ev_Name, ev_Name1, ev_Move, ev_Move1, ev_Loc, ev_Loc1, ev_Val, ev_Val1, ev_Fz, ev_Fz1, ev_l2, ev_l21, ev_l1, ev_l11, ev_Bin, ev_Bin1, ev_Un, ev_Tst, ev_asB, ev_NotT, ev_NotT1, ev_AndT, ev_AndT1, ev_OrT, ev_OrT1, ev_AndV, ev_AndV1, ev_OrV, ev_OrV1, ev_NotV, ev_NotV1, ev_If, ev_If1, ev_Ch, ev_Ch1, ev_Ch2, ev_Ch3, ev_Nil, ev_Cons, ev_Cons1, ev_Cons2, oc_s, ress_0, ress_s, ocF_s, resF_0, resF_s, ev_lN, ev_lN1, ev_CallB, kRet_ok, ev_Call, ev_Call1, ev_Call2, kRetM_ok, ev_CallM, ev_CallM1, ev_CallM2, ev_M1, ev_M11, ev_M12, ev_M13, ev_M14, ev_Pk, ev_Pk1, ev_PkSl, ev_PkSl1, ev_pk, ev_pk1, prt_n, prt_s, prt_1, prt_2, ev_Sl, ev_Sl0, ev_Sl1, ev_Sl2, ev_Sl3, ev_DG, ev_DGs, ev_DG0, ev_DG1, ev_DG2, ev_DG3, ev_DG4, ev_P0, ev_P1, ev_P2, ev_P3, ev_Disp, ev_Disp1, ev_Lc, ev_Lc1, ev_Lc2, ev_Yes, wipe_0, wipe_s, rest_0, rest_s, ev_Iter, ev_Iter1, ev_Enum, ev_Enum1, ev_Zip, ev_Zip1, ev_Zip2, ev_Zip3, ev_Rg, ev_Rg0, ev_Rg1, ev_Rh, ev_Rh0, ev_Rh1, ev_Rh2, ev_gS, ev_gN, ev_gC, ev_gT, ev_StL, ev_StL1, ev_StL2, ev_StD, ev_StD1, ev_StD2, ev_Seq, seq_nx, seq_rt, seq_bk, seq_ct, ev_Nx, ev_Set, ev_Set1, ev_Drop, ev_Drop1, ev_Ret, ev_IfS, ev_IfS1, ev_Asg, ev_Asg1, ofS_some, ev_Par, ev_Par1, ev_Par2, ev_Tri, ev_Tri1, ev_Tri2, ev_Tri3, ev_Aug, ev_Aug1, ev_Aug2, ev_Aug3, ev_For, nox_lc, R.bind_ok, R.bindS_ok, R.of_some, List.set_cons_zero, List.set_cons_succ, if_true, Bool.false_eq_true, if_false, Bool.not_true, Bool.not_false, Option.bind_some, Option.map_some, ev_Nest, ev_Nest1, lst_nil, frz_int, frz_str, frz_bl, frz_lst, frzL_int, frzL_str, frz_non, frz_tup, frzL_cons, frzL_nil, isF_tup, isFL_cons, isFL_nil, Bool.and_true, Bool.true_and, Bool.and_self, ev_App, ev_App0, ev_App1, isF_int, isF_str, isF_bl, isF_lst, isFL_int, isFL_str, isF_non, isF_opq, fin_rt, fin_nx, endG_f, endG_t, D.key, tri_0]
  have lc2 : ∀ ρ : En, ∀ x0 x1 x2 x3 x4 x5 x6, ρ = [x0, x1, x2, x3, x4, x5, x6, none, none, none] → lcF [9] (gSet 9) fYes (fBin ixD (fLoc 9) (fVal (fC (.int 1)))) ((List.range (t + 1)).map fun k => tri (sF rd k) (hF rd k) (aF rd k)) 0 ρ = .ok (((List.range (t + 1)).map (hF rd)).map D.int) ρ := by
    rintro ρ x0 x1 x2 x3 x4 x5 x6 rfl
    rw [lcF_map (fun _ => true) (fun d => match d with | .tup [_, x, _] => x | d => d) (by rw [List.length_map, List.length_range]; exact sz1000 (by omega)) (fun d hd => ?_)]
    · congr 1
      rw [List.filter_eq_self.mpr (fun _ _ => rfl), List.map_map, List.map_map]; rfl
    · obtain ⟨k, _, rfl⟩ := List.mem_map.mp hd
      refine ⟨_, _, rfl, rfl, (fun h => by cases h), fun _ => ⟨[x0, x1, x2, x3, x4, x5, x6, none, none, some (tri (sF rd k) (hF rd k) (aF rd k))], ?_, rfl⟩⟩
      simp -implicitDefEqProofs only [slot_0, slot_n, slot_s, res_v, res_l, ev_C, ev_Name, ev_Name1, ev_Move, ev_Move1, ev_Loc, ev_Loc1, ev_Val, ev_Val1, ev_Fz, ev_Fz1, ev_l2, ev_l21, ev_l1, ev_l11, ev_Bin, ev_Bin1, ev_Un, ev_Tst, ev_asB, ev_NotT, ev_NotT1, ev_AndT, ev_AndT1, ev_OrT, ev_OrT1, ev_AndV, ev_AndV1, ev_OrV, ev_OrV1, ev_NotV, ev_NotV1, ev_If, ev_If1, ev_Ch, ev_Ch1, ev_Ch2, ev_Ch3, ev_Nil, ev_Cons, ev_Cons1, ev_Cons2, oc_s, ress_0, ress_s, ocF_s, resF_0, resF_s, ev_lN, ev_lN1, ev_CallB, kRet_ok, ev_Call, ev_Call1, ev_Call2, kRetM_ok, ev_CallM, ev_CallM1, ev_CallM2, ev_M1, ev_M11, ev_M12, ev_M13, ev_M14, ev_Pk, ev_Pk1, ev_PkSl, ev_PkSl1, ev_pk, ev_pk1, prt_n, prt_s, prt_1, prt_2, ev_Sl, ev_Sl0, ev_Sl1, ev_Sl2, ev_Sl3, ev_DG, ev_DGs, ev_DG0, ev_DG1, ev_DG2, ev_DG3, ev_DG4, ev_P0, ev_P1, ev_P2, ev_P3, ev_Disp, ev_Disp1, ev_Lc, ev_Lc1, ev_Lc2, ev_Yes, wipe_0, wipe_s, rest_0, rest_s, ev_Iter, ev_Iter1, ev_Enum, ev_Enum1, ev_Zip, ev_Zip1, ev_Zip2, ev_Zip3, ev_Rg, ev_Rg0, ev_Rg1, ev_Rh, ev_Rh0, ev_Rh1, ev_Rh2, ev_gS, ev_gN, ev_gC, ev_gT, ev_StL, ev_StL1, ev_StL2, ev_StD, ev_StD1, ev_StD2, ev_Seq, seq_nx, seq_rt, seq_bk, seq_ct, ev_Nx, ev_Set, ev_Set1, ev_Drop, ev_Drop1, ev_Ret, ev_IfS, ev_IfS1, ev_Asg, ev_Asg1, ofS_some, ev_Par, ev_Par1, ev_Par2, ev_Tri, ev_Tri1, ev_Tri2, ev_Tri3, ev_Aug, ev_Aug1, ev_Aug2, ev_Aug3, ev_For, nox_lc, R.bind_ok, R.bindS_ok, R.of_some, List.set_cons_zero, List.set_cons_succ, if_true, Bool.false_eq_true, if_false, Bool.not_true, Bool.not_false, Option.bind_some, Option.map_some, ev_Nest, ev_Nest1, lst_nil, frz_int, frz_str, frz_bl, frz_lst, frzL_int, frzL_str, frz_non, frz_tup, frzL_cons, frzL_nil, isF_tup, isFL_cons, isFL_nil, Bool.and_true, Bool.true_and, Bool.and_self, ev_App, ev_App0, ev_App1, isF_int, isF_str, isF_bl, isF_lst, isFL_int, isFL_str, isF_non, isF_opq, fin_rt, fin_nx, endG_f, endG_t, D.key, tri_1]
  have ad : addD (.lst true (((List.range (t + 1)).map (hF rd)).map D.int)) (.lst true (((List.range t).map (rg (sF rd) (aF rd))).map D.int)) = some (.lst true (((List.range (t + 1)).map (hF rd) ++ (List.range t).map (rg (sF rd) (aF rd))).map D.int)) := by
    rw [addD_lst (by simp only [List.length_map, List.length_range]; exact sz1000 (by omega)) (isFL_int _) (isFL_int _), List.map_append]
  have mx : maxLG [.lst true (((List.range (t + 1)).map (hF rd) ++ (List.range t).map (rg (sF rd) (aF rd))).map D.int)] = some (.int (bs (sF rd) (hF rd) (aF rd) t)) := by
    rw [maxLG_ints (by rw [List.length_append, List.length_map, List.length_range]; omega), maxL_bs]
  have rgs := rings_ok g
  have t2 : tupG [.int 0, .int 0] = some (.tup [.int 0, .int 0]) := tupG_of (by show 2 ≤ sizeLine; decide) rfl
  generalize hc : ((min ((rd.length : Int) - 1) ((t : Int) + sg) + 1) - (t : Int)).toNat = cnt
  have hcn : cnt = min (rd.length - 1 - t) sg + 1 := by omega
  have bg' : big62 (t : Int) ∧ big62 (min ((rd.length : Int) - 1) ((t : Int) + sg) + 1) := ⟨big62_at (by omega) (by omega), big62_at (by omega) (by omega)⟩
  have lp := forF_inv (g := gSet 8) (body := fSeq (fIfS (fTst (fBin (gtD) (fLoc 8) (fLoc 1))) (fSeq (fAug 6 iaddD (fBin ixD (fLoc 3) (fVal (fBin subD (fLoc 8) (fVal (fC (.int 1))))))) (fSet 7 (fCallB max3G (fCons (fLoc 7) (fCons (fVal (fBin ixD (fVal (fBin ixD (fLoc 0) (fLoc 8))) (fVal (fC (.int 1))))) (fCons (fVal (fBin ixD (fLoc 3) (fVal (fBin subD (fLoc 8) (fVal (fC (.int 1))))))) (fNil))))))) (fNx)) (fSet 5 (fCallB max2G (fCons (fLoc 5) (fCons (fVal (fBin addD (fLoc 6) (fVal (fBin mulD (fVal (fBin addD (fVal (fBin subD (fLoc 2) (fLoc 8))) (fLoc 1))) (fLoc 7))))) (fNil)))))) (ds := rangeL (t : Int) cnt)
    (fun k ρ => ∃ o8, ρ = [some (.tup (roadD rd)), some (.int t), some (.int sg), some (.lst true ((rgL rd (rd.length - 1)).map D.int)), some (.int (bg (sF rd) t)), some (.int (fd (sF rd) (hF rd) (aF rd) t sg k)), some (.int (wy (sF rd) (aF rd) t (k - 1))), some (.int (bs (sF rd) (hF rd) (aF rd) (t + (k - 1)))), o8, none])
    (fun k d ρ hd hk => ?_) (ρ := [some (.tup (roadD rd)), some (.int t), some (.int sg), some (.lst true ((rgL rd (rd.length - 1)).map D.int)), some (.int (bg (sF rd) t)), some (.int 0), some (.int 0), some (.int (bs (sF rd) (hF rd) (aF rd) t)), none, none]) ⟨none, rfl⟩
  · obtain ⟨ρ', e, o8, rfl⟩ := lp
    rw [rangeL_n, hcn] at e
    unfold G_when_in
    rw [GF_3]
    unfold fb_when_in
    rw [hcn] at hc
    simp -implicitDefEqProofs only [slot_0, slot_n, slot_s, res_v, res_l, ev_C, ev_Name, ev_Name1, ev_Move, ev_Move1, ev_Loc, ev_Loc1, ev_Val, ev_Val1, ev_Fz, ev_Fz1, ev_l2, ev_l21, ev_l1, ev_l11, ev_Bin, ev_Bin1, ev_Un, ev_Tst, ev_asB, ev_NotT, ev_NotT1, ev_AndT, ev_AndT1, ev_OrT, ev_OrT1, ev_AndV, ev_AndV1, ev_OrV, ev_OrV1, ev_NotV, ev_NotV1, ev_If, ev_If1, ev_Ch, ev_Ch1, ev_Ch2, ev_Ch3, ev_Nil, ev_Cons, ev_Cons1, ev_Cons2, oc_s, ress_0, ress_s, ocF_s, resF_0, resF_s, ev_lN, ev_lN1, ev_CallB, kRet_ok, ev_Call, ev_Call1, ev_Call2, kRetM_ok, ev_CallM, ev_CallM1, ev_CallM2, ev_M1, ev_M11, ev_M12, ev_M13, ev_M14, ev_Pk, ev_Pk1, ev_PkSl, ev_PkSl1, ev_pk, ev_pk1, prt_n, prt_s, prt_1, prt_2, ev_Sl, ev_Sl0, ev_Sl1, ev_Sl2, ev_Sl3, ev_DG, ev_DGs, ev_DG0, ev_DG1, ev_DG2, ev_DG3, ev_DG4, ev_P0, ev_P1, ev_P2, ev_P3, ev_Disp, ev_Disp1, ev_Lc, ev_Lc1, ev_Lc2, ev_Yes, wipe_0, wipe_s, rest_0, rest_s, ev_Iter, ev_Iter1, ev_Enum, ev_Enum1, ev_Zip, ev_Zip1, ev_Zip2, ev_Zip3, ev_Rg, ev_Rg0, ev_Rg1, ev_Rh, ev_Rh0, ev_Rh1, ev_Rh2, ev_gS, ev_gN, ev_gC, ev_gT, ev_StL, ev_StL1, ev_StL2, ev_StD, ev_StD1, ev_StD2, ev_Seq, seq_nx, seq_rt, seq_bk, seq_ct, ev_Nx, ev_Set, ev_Set1, ev_Drop, ev_Drop1, ev_Ret, ev_IfS, ev_IfS1, ev_Asg, ev_Asg1, ofS_some, ev_Par, ev_Par1, ev_Par2, ev_Tri, ev_Tri1, ev_Tri2, ev_Tri3, ev_Aug, ev_Aug1, ev_Aug2, ev_Aug3, ev_For, nox_lc, R.bind_ok, R.bindS_ok, R.of_some, List.set_cons_zero, List.set_cons_succ, if_true, Bool.false_eq_true, if_false, Bool.not_true, Bool.not_false, Option.bind_some, Option.map_some, ev_Nest, ev_Nest1, lst_nil, frz_int, frz_str, frz_bl, frz_lst, frzL_int, frzL_str, frz_non, frz_tup, frzL_cons, frzL_nil, isF_tup, isFL_cons, isFL_nil, Bool.and_true, Bool.true_and, Bool.and_self, ev_App, ev_App0, ev_App1, isF_int, isF_str, isF_bl, isF_lst, isFL_int, isFL_str, isF_non, isF_opq, fin_rt, fin_nx, endG_f, endG_t, D.key, List.replicate, roadD_z, roadD_F, rgs, add_int, sl1, f1, items_tup f1, frzL_of f1, lc1 _ _ _ _ rfl, sumG_ints, sum_bg, t2, ev_gT, List.length_cons, List.length_nil, sl2, f2, items_tup f2, frzL_of f2, lc2 _ _ _ _ _ _ _ _ rfl, sl3, ad, mx, lenG_tup, roadD_len, sub_int, min2_int, if_pos bg', hc, kFor, e]
    rfl
  · obtain ⟨o8, rfl⟩ := hk
    obtain ⟨hk, rfl⟩ := rangeL_get hd
    have lt : (t : Int) + (k : Int) < rd.length := by omega
    have em : (sg : Int) - ((t : Int) + (k : Int)) + (t : Int) = (sg : Int) - k := by omega
    have bd1 : Bd 112 ((sg : Int) - k) := by show ((sg : Int) - k).natAbs < 2 ^ 112; omega
    cases k with
    | zero =>
      have hgt : ¬ ((t : Int) < (t : Int) + ((0 : Nat) : Int)) := by omega
      have gb := g.bs t
      have bd2 : Bd 11 (bs (sF rd) (hF rd) (aF rd) t) := by show (bs (sF rd) (hF rd) (aF rd) t).natAbs < 2 ^ 11; omega
      have mu := mul_bd bd1 bd2 (by decide)
      have v1 : max (fd (sF rd) (hF rd) (aF rd) t sg 0) (wy (sF rd) (aF rd) t 0 + ((sg : Int) - ((0 : Nat) : Int)) * bs (sF rd) (hF rd) (aF rd) t) = fd (sF rd) (hF rd) (aF rd) t sg 1 := rfl
      refine ⟨_, [some (.tup (roadD rd)), some (.int t), some (.int sg), some (.lst true ((rgL rd (rd.length - 1)).map D.int)), some (.int (bg (sF rd) t)), some (.int (fd (sF rd) (hF rd) (aF rd) t sg 1)), some (.int (wy (sF rd) (aF rd) t 0)), some (.int (bs (sF rd) (hF rd) (aF rd) t)), some (.int ((t : Int) + ((0 : Nat) : Int))), none], rfl, .inl ?_, _, rfl⟩
      show fSeq _ _ [some (.tup (roadD rd)), some (.int t), some (.int sg), some (.lst true ((rgL rd (rd.length - 1)).map D.int)), some (.int (bg (sF rd) t)), some (.int (fd (sF rd) (hF rd) (aF rd) t sg 0)), some (.int (wy (sF rd) (aF rd) t 0)), some (.int (bs (sF rd) (hF rd) (aF rd) t)), some (.int ((t : Int) + ((0 : Nat) : Int))), none] = _
      simp -implicitDefEqProofs only [slot_0, slot_n, slot_s, res_v, res_l, ev_C, ev_Name, ev_Name1, ev_Move, ev_Move1, ev_Loc, ev_Loc1, ev_Val, ev_Val1, ev_Fz, ev_Fz1, ev_l2, ev_l21, ev_l1, ev_l11, ev_Bin, ev_Bin1, ev_Un, ev_Tst, ev_asB, ev_NotT, ev_NotT1, ev_AndT, ev_AndT1, ev_OrT, ev_OrT1, ev_AndV, ev_AndV1, ev_OrV, ev_OrV1, ev_NotV, ev_NotV1, ev_If, ev_If1, ev_Ch, ev_Ch1, ev_Ch2, ev_Ch3, ev_Nil, ev_Cons, ev_Cons1, ev_Cons2, oc_s, ress_0, ress_s, ocF_s, resF_0, resF_s, ev_lN, ev_lN1, ev_CallB, kRet_ok, ev_Call, ev_Call1, ev_Call2, kRetM_ok, ev_CallM, ev_CallM1, ev_CallM2, ev_M1, ev_M11, ev_M12, ev_M13, ev_M14, ev_Pk, ev_Pk1, ev_PkSl, ev_PkSl1, ev_pk, ev_pk1, prt_n, prt_s, prt_1, prt_2, ev_Sl, ev_Sl0, ev_Sl1, ev_Sl2, ev_Sl3, ev_DG, ev_DGs, ev_DG0, ev_DG1, ev_DG2, ev_DG3, ev_DG4, ev_P0, ev_P1, ev_P2, ev_P3, ev_Disp, ev_Disp1, ev_Lc, ev_Lc1, ev_Lc2, ev_Yes, wipe_0, wipe_s, rest_0, rest_s, ev_Iter, ev_Iter1, ev_Enum, ev_Enum1, ev_Zip, ev_Zip1, ev_Zip2, ev_Zip3, ev_Rg, ev_Rg0, ev_Rg1, ev_Rh, ev_Rh0, ev_Rh1, ev_Rh2, ev_gS, ev_gN, ev_gC, ev_gT, ev_StL, ev_StL1, ev_StL2, ev_StD, ev_StD1, ev_StD2, ev_Seq, seq_nx, seq_rt, seq_bk, seq_ct, ev_Nx, ev_Set, ev_Set1, ev_Drop, ev_Drop1, ev_Ret, ev_IfS, ev_IfS1, ev_Asg, ev_Asg1, ofS_some, ev_Par, ev_Par1, ev_Par2, ev_Tri, ev_Tri1, ev_Tri2, ev_Tri3, ev_Aug, ev_Aug1, ev_Aug2, ev_Aug3, ev_For, nox_lc, R.bind_ok, R.bindS_ok, R.of_some, List.set_cons_zero, List.set_cons_succ, if_true, Bool.false_eq_true, if_false, Bool.not_true, Bool.not_false, Option.bind_some, Option.map_some, ev_Nest, ev_Nest1, lst_nil, frz_int, frz_str, frz_bl, frz_lst, frzL_int, frzL_str, frz_non, frz_tup, frzL_cons, frzL_nil, isF_tup, isFL_cons, isFL_nil, Bool.and_true, Bool.true_and, Bool.and_self, ev_App, ev_App0, ev_App1, isF_int, isF_str, isF_bl, isF_lst, isFL_int, isFL_str, isF_non, isF_opq, fin_rt, fin_nx, endG_f, endG_t, D.key, gt_int, decide_eq_false hgt, sub_int, add_int, em, mu, max2_int, v1]
    | succ k =>
      have hgt : ((t : Int) < (t : Int) + ((k + 1 : Nat) : Int)) := by omega
      have ei : (t : Int) + ((k + 1 : Nat) : Int) - 1 = ((t + k : Nat) : Int) := by omega
      have ex : (t : Int) + ((k + 1 : Nat) : Int) = ((t + k + 1 : Nat) : Int) := by omega
      have i1 : ixD (.lst true ((rgL rd (rd.length - 1)).map D.int)) (.int ((t : Int) + ((k + 1 : Nat) : Int) - 1)) = some (.int (rg (sF rd) (aF rd) (t + k))) := by
        rw [ei]
        exact ix_int (rgL_get (by omega))
      have i2 : ixD (.tup (roadD rd)) (.int ((t : Int) + ((k + 1 : Nat) : Int))) = some (tri (sF rd (t + k + 1)) (hF rd (t + k + 1)) (aF rd (t + k + 1))) := by
        rw [ex]
        exact ix_tup (roadD_get (by omega)) rfl
      have gb := g.bs (t + k + 1)
      have bd2 : Bd 11 (bs (sF rd) (hF rd) (aF rd) (t + k + 1)) := by show (bs (sF rd) (hF rd) (aF rd) (t + k + 1)).natAbs < 2 ^ 11; omega
      have mu := mul_bd bd1 bd2 (by decide)
      have vm : max (max (bs (sF rd) (hF rd) (aF rd) (t + k)) (hF rd (t + k + 1))) (rg (sF rd) (aF rd) (t + k)) = bs (sF rd) (hF rd) (aF rd) (t + k + 1) := rfl
      have vw : wy (sF rd) (aF rd) t k + rg (sF rd) (aF rd) (t + k) = wy (sF rd) (aF rd) t (k + 1) := rfl
      have vf : max (fd (sF rd) (hF rd) (aF rd) t sg (k + 1)) (wy (sF rd) (aF rd) t (k + 1) + ((sg : Int) - ((k + 1 : Nat) : Int)) * bs (sF rd) (hF rd) (aF rd) (t + k + 1)) = fd (sF rd) (hF rd) (aF rd) t sg (k + 1 + 1) := rfl
      refine ⟨_, [some (.tup (roadD rd)), some (.int t), some (.int sg), some (.lst true ((rgL rd (rd.length - 1)).map D.int)), some (.int (bg (sF rd) t)), some (.int (fd (sF rd) (hF rd) (aF rd) t sg (k + 1 + 1))), some (.int (wy (sF rd) (aF rd) t (k + 1))), some (.int (bs (sF rd) (hF rd) (aF rd) (t + k + 1))), some (.int ((t : Int) + ((k + 1 : Nat) : Int))), none], rfl, .inl ?_, _, rfl⟩
      show fSeq _ _ [some (.tup (roadD rd)), some (.int t), some (.int sg), some (.lst true ((rgL rd (rd.length - 1)).map D.int)), some (.int (bg (sF rd) t)), some (.int (fd (sF rd) (hF rd) (aF rd) t sg (k + 1))), some (.int (wy (sF rd) (aF rd) t k)), some (.int (bs (sF rd) (hF rd) (aF rd) (t + k))), some (.int ((t : Int) + ((k + 1 : Nat) : Int))), none] = _
      simp -implicitDefEqProofs only [slot_0, slot_n, slot_s, res_v, res_l, ev_C, ev_Name, ev_Name1, ev_Move, ev_Move1, ev_Loc, ev_Loc1, ev_Val, ev_Val1, ev_Fz, ev_Fz1, ev_l2, ev_l21, ev_l1, ev_l11, ev_Bin, ev_Bin1, ev_Un, ev_Tst, ev_asB, ev_NotT, ev_NotT1, ev_AndT, ev_AndT1, ev_OrT, ev_OrT1, ev_AndV, ev_AndV1, ev_OrV, ev_OrV1, ev_NotV, ev_NotV1, ev_If, ev_If1, ev_Ch, ev_Ch1, ev_Ch2, ev_Ch3, ev_Nil, ev_Cons, ev_Cons1, ev_Cons2, oc_s, ress_0, ress_s, ocF_s, resF_0, resF_s, ev_lN, ev_lN1, ev_CallB, kRet_ok, ev_Call, ev_Call1, ev_Call2, kRetM_ok, ev_CallM, ev_CallM1, ev_CallM2, ev_M1, ev_M11, ev_M12, ev_M13, ev_M14, ev_Pk, ev_Pk1, ev_PkSl, ev_PkSl1, ev_pk, ev_pk1, prt_n, prt_s, prt_1, prt_2, ev_Sl, ev_Sl0, ev_Sl1, ev_Sl2, ev_Sl3, ev_DG, ev_DGs, ev_DG0, ev_DG1, ev_DG2, ev_DG3, ev_DG4, ev_P0, ev_P1, ev_P2, ev_P3, ev_Disp, ev_Disp1, ev_Lc, ev_Lc1, ev_Lc2, ev_Yes, wipe_0, wipe_s, rest_0, rest_s, ev_Iter, ev_Iter1, ev_Enum, ev_Enum1, ev_Zip, ev_Zip1, ev_Zip2, ev_Zip3, ev_Rg, ev_Rg0, ev_Rg1, ev_Rh, ev_Rh0, ev_Rh1, ev_Rh2, ev_gS, ev_gN, ev_gC, ev_gT, ev_StL, ev_StL1, ev_StL2, ev_StD, ev_StD1, ev_StD2, ev_Seq, seq_nx, seq_rt, seq_bk, seq_ct, ev_Nx, ev_Set, ev_Set1, ev_Drop, ev_Drop1, ev_Ret, ev_IfS, ev_IfS1, ev_Asg, ev_Asg1, ofS_some, ev_Par, ev_Par1, ev_Par2, ev_Tri, ev_Tri1, ev_Tri2, ev_Tri3, ev_Aug, ev_Aug1, ev_Aug2, ev_Aug3, ev_For, nox_lc, R.bind_ok, R.bindS_ok, R.of_some, List.set_cons_zero, List.set_cons_succ, if_true, Bool.false_eq_true, if_false, Bool.not_true, Bool.not_false, Option.bind_some, Option.map_some, ev_Nest, ev_Nest1, lst_nil, frz_int, frz_str, frz_bl, frz_lst, frzL_int, frzL_str, frz_non, frz_tup, frzL_cons, frzL_nil, isF_tup, isFL_cons, isFL_nil, Bool.and_true, Bool.true_and, Bool.and_self, ev_App, ev_App0, ev_App1, isF_int, isF_str, isF_bl, isF_lst, isFL_int, isFL_str, isF_non, isF_opq, fin_rt, fin_nx, endG_f, endG_t, D.key, gt_int, decide_eq_true hgt, sub_int, i1, iadd_int, vw, i2, tri_1, max3_int, vm, add_int, em, mu, max2_int, vf]
theorem when_ok {rd : List Tr} {t sg : Nat} (g : Good rd) (h1 : t < rd.length) (h3 : (sg : Int) ≤ 1000000000000000000000000000000) : G_when [.tup (roadD rd), .int t, .int sg] = .ok (.int (wn (sF rd) (hF rd) (aF rd) rd.length t sg)) [] := by
  unfold G_when
  rw [GF_3]
  unfold fb_when
  have e1 := tower_ok g h1
  have e2 := when_in_ok (sg := sg) g h1 (by omega)
  have w := whole_yes (i := (sg : Int)) (lo := 0) (hi := 1000000000000000000000000000000) (by omega) h3
  simp -implicitDefEqProofs only [slot_0, slot_n, slot_s, res_v, res_l, ev_C, ev_Name, ev_Name1, ev_Move, ev_Move1, ev_Loc, ev_Loc1, ev_Val, ev_Val1, ev_Fz, ev_Fz1, ev_l2, ev_l21, ev_l1, ev_l11, ev_Bin, ev_Bin1, ev_Un, ev_Tst, ev_asB, ev_NotT, ev_NotT1, ev_AndT, ev_AndT1, ev_OrT, ev_OrT1, ev_AndV, ev_AndV1, ev_OrV, ev_OrV1, ev_NotV, ev_NotV1, ev_If, ev_If1, ev_Ch, ev_Ch1, ev_Ch2, ev_Ch3, ev_Nil, ev_Cons, ev_Cons1, ev_Cons2, oc_s, ress_0, ress_s, ocF_s, resF_0, resF_s, ev_lN, ev_lN1, ev_CallB, kRet_ok, ev_Call, ev_Call1, ev_Call2, kRetM_ok, ev_CallM, ev_CallM1, ev_CallM2, ev_M1, ev_M11, ev_M12, ev_M13, ev_M14, ev_Pk, ev_Pk1, ev_PkSl, ev_PkSl1, ev_pk, ev_pk1, prt_n, prt_s, prt_1, prt_2, ev_Sl, ev_Sl0, ev_Sl1, ev_Sl2, ev_Sl3, ev_DG, ev_DGs, ev_DG0, ev_DG1, ev_DG2, ev_DG3, ev_DG4, ev_P0, ev_P1, ev_P2, ev_P3, ev_Disp, ev_Disp1, ev_Lc, ev_Lc1, ev_Lc2, ev_Yes, wipe_0, wipe_s, rest_0, rest_s, ev_Iter, ev_Iter1, ev_Enum, ev_Enum1, ev_Zip, ev_Zip1, ev_Zip2, ev_Zip3, ev_Rg, ev_Rg0, ev_Rg1, ev_Rh, ev_Rh0, ev_Rh1, ev_Rh2, ev_gS, ev_gN, ev_gC, ev_gT, ev_StL, ev_StL1, ev_StL2, ev_StD, ev_StD1, ev_StD2, ev_Seq, seq_nx, seq_rt, seq_bk, seq_ct, ev_Nx, ev_Set, ev_Set1, ev_Drop, ev_Drop1, ev_Ret, ev_IfS, ev_IfS1, ev_Asg, ev_Asg1, ofS_some, ev_Par, ev_Par1, ev_Par2, ev_Tri, ev_Tri1, ev_Tri2, ev_Tri3, ev_Aug, ev_Aug1, ev_Aug2, ev_Aug3, ev_For, nox_lc, R.bind_ok, R.bindS_ok, R.of_some, List.set_cons_zero, List.set_cons_succ, if_true, Bool.false_eq_true, if_false, Bool.not_true, Bool.not_false, Option.bind_some, Option.map_some, ev_Nest, ev_Nest1, lst_nil, frz_int, frz_str, frz_bl, frz_lst, frzL_int, frzL_str, frz_non, frz_tup, frzL_cons, frzL_nil, isF_tup, isFL_cons, isFL_nil, Bool.and_true, Bool.true_and, Bool.and_self, ev_App, ev_App0, ev_App1, isF_int, isF_str, isF_bl, isF_lst, isFL_int, isFL_str, isF_non, isF_opq, fin_rt, fin_nx, endG_f, endG_t, D.key, List.replicate, roadD_z, roadD_F, e1, w, e2]
/-! ### the film -/
def W (rd : List Tr) (i j : Nat) : Int := wn (sF rd) (hF rd) (aF rd) rd.length i j
theorem Good.hs {rd : List Tr} (g : Good rd) : ∀ k, 0 ≤ sF rd k := fun k => (g.at k).s0
theorem Good.hh {rd : List Tr} (g : Good rd) : ∀ k, 0 ≤ hF rd k := fun k => by have := (g.at k).h0; omega
theorem Good.ha {rd : List Tr} (g : Good rd) : ∀ k, 0 ≤ aF rd k := fun k => (g.at k).a0
theorem W_a {rd : List Tr} (g : Good rd) {i j : Nat} (hi : i + 1 < rd.length) : W rd i (j + 1) + sF rd (i + 1) ≤ W rd (i + 1) (j + 1) := up_a g.hs g.hh g.ha hi
theorem W_b {rd : List Tr} (g : Good rd) {i j : Nat} (hi : i < rd.length) : W rd i j + hF rd i ≤ W rd i (j + 1) := up_b g.hh hi
theorem W_c {rd : List Tr} (g : Good rd) {i j : Nat} (hi : i + 1 < rd.length) : W rd (i + 1) j + aF rd i ≤ W rd i (j + 1) := up_c g.hh hi
theorem W_down {rd : List Tr} (g : Good rd) {i j : Nat} {x : Int} (hi : i < rd.length) (xa : ∀ k, i = k + 1 → W rd k (j + 1) + sF rd i ≤ x) (xb : W rd i j + hF rd i ≤ x) (xc : i + 1 < rd.length → W rd (i + 1) j + aF rd i ≤ x) : W rd i (j + 1) ≤ x := down g.hs g.hh g.ha hi xa xb xc
def rowI (rd : List Tr) (m j : Nat) : List Int := (List.range m).map fun i => W rd i j
def rowD (rd : List Tr) (j : Nat) : D := .lst false ((rowI rd rd.length j).map D.int)
theorem row_get {rd : List Tr} {m i j : Nat} (h : i < m) : (rowI rd m j)[i]? = some (W rd i j) := by
  unfold rowI
  rw [List.getElem?_map, List.getElem?_range h]; rfl
theorem rowI_succ {rd : List Tr} {m j : Nat} : rowI rd (m + 1) j = rowI rd m j ++ [W rd m j] := by
  unfold rowI
  rw [List.range_succ, List.map_append]; rfl
theorem rowD_F {rd : List Tr} {j : Nat} : (rowD rd j).isF = true := isFL_int _
def films (rd : List Tr) (j : Nat) : List D := (List.range j).map (rowD rd)
theorem films_F {rd : List Tr} {j : Nat} : D.isFL (films rd j) = true := isFL_map (fun _ => rowD_F) _
theorem films_get {rd : List Tr} {i j : Nat} (h : i < j) : (films rd j)[i]? = some (rowD rd i) := by
  unfold films
  rw [List.getElem?_map, List.getElem?_range h]; rfl
theorem films_succ {rd : List Tr} {j : Nat} : films rd (j + 1) = films rd j ++ [rowD rd j] := by
  unfold films
  rw [List.range_succ, List.map_append]; rfl
theorem film_ok {rd : List Tr} {J : Nat} (g : Good rd) (h3 : J ≤ 1000) : G__law_film [.tup (roadD rd), .int J] = .ok (.lst true (films rd J)) [] := by
  have l2 := g.l2
  have hs : ∀ k, 0 ≤ sF rd k := fun k => (g.at k).s0
  have hh : ∀ k, 0 ≤ hF rd k := fun k => by have := (g.at k).h0; omega
  have ha : ∀ k, 0 ≤ aF rd k := fun k => (g.at k).a0
  have nn : ∀ i j, 0 ≤ W rd i j := fun i j => wn_pos hs hh _ i j
  have inner : ∀ (j : Nat) (o5 o6 o7 o8 o9 : Option D), ∃ p5 p6 p7 p8 p9, forF (gTupF 2 (gsCons (gSet 5) (gsCons (gTupF 3 (gsCons (gSet 6) (gsCons (gSet 7) (gsCons (gSet 8) (gsNil))))) (gsNil)))) (fSeq (fSet 9 (fIf (fTst (fBin (eqD false) (fLoc 5) (fVal (fC (.int 0))))) (fC (.int 0)) (fBin addD (fVal (fBin ixD (fLoc 4) (fVal (fBin subD (fLoc 5) (fVal (fC (.int 1))))))) (fLoc 6)))) (fSeq (fIfS (fTst (fBin (gtD) (fLoc 3) (fVal (fC (.int 0))))) (fSet 9 (fCallB max2G (fCons (fLoc 9) (fCons (fVal (fBin addD (fVal (fBin ixD (fVal (fBin ixD (fLoc 2) (fVal (fBin subD (fLoc 3) (fVal (fC (.int 1))))))) (fLoc 5))) (fLoc 7))) (fNil))))) (fNx)) (fSeq (fIfS (fAndT (fTst (fBin (gtD) (fLoc 3) (fVal (fC (.int 0))))) (fTst (fBin (ltD) (fLoc 5) (fVal (fBin subD (fVal (fCallB lenG (fCons (fLoc 0) (fNil)))) (fVal (fC (.int 1)))))))) (fSet 9 (fCallB max2G (fCons (fLoc 9) (fCons (fVal (fBin addD (fVal (fBin ixD (fVal (fBin ixD (fLoc 2) (fVal (fBin subD (fLoc 3) (fVal (fC (.int 1))))))) (fVal (fBin addD (fLoc 5) (fVal (fC (.int 1))))))) (fLoc 8))) (fNil))))) (fNx)) (fDrop (fApp 4 (fName 9)))))) (enumFrom 0 (roadD rd))
      [some (.tup (roadD rd)), some (.int J), some (.lst true (films rd j)), some (.int (j : Int)), some (.lst true []), o5, o6, o7, o8, o9] =
      .nx [some (.tup (roadD rd)), some (.int J), some (.lst true (films rd j)), some (.int (j : Int)), some (.lst true ((rowI rd rd.length j).map D.int)), p5, p6, p7, p8, p9] := by
    intro j o5 o6 o7 o8 o9
    have lp := forF_inv (g := gTupF 2 (gsCons (gSet 5) (gsCons (gTupF 3 (gsCons (gSet 6) (gsCons (gSet 7) (gsCons (gSet 8) (gsNil))))) (gsNil)))) (body := fSeq (fSet 9 (fIf (fTst (fBin (eqD false) (fLoc 5) (fVal (fC (.int 0))))) (fC (.int 0)) (fBin addD (fVal (fBin ixD (fLoc 4) (fVal (fBin subD (fLoc 5) (fVal (fC (.int 1))))))) (fLoc 6)))) (fSeq (fIfS (fTst (fBin (gtD) (fLoc 3) (fVal (fC (.int 0))))) (fSet 9 (fCallB max2G (fCons (fLoc 9) (fCons (fVal (fBin addD (fVal (fBin ixD (fVal (fBin ixD (fLoc 2) (fVal (fBin subD (fLoc 3) (fVal (fC (.int 1))))))) (fLoc 5))) (fLoc 7))) (fNil))))) (fNx)) (fSeq (fIfS (fAndT (fTst (fBin (gtD) (fLoc 3) (fVal (fC (.int 0))))) (fTst (fBin (ltD) (fLoc 5) (fVal (fBin subD (fVal (fCallB lenG (fCons (fLoc 0) (fNil)))) (fVal (fC (.int 1)))))))) (fSet 9 (fCallB max2G (fCons (fLoc 9) (fCons (fVal (fBin addD (fVal (fBin ixD (fVal (fBin ixD (fLoc 2) (fVal (fBin subD (fLoc 3) (fVal (fC (.int 1))))))) (fVal (fBin addD (fLoc 5) (fVal (fC (.int 1))))))) (fLoc 8))) (fNil))))) (fNx)) (fDrop (fApp 4 (fName 9)))))) (ds := enumFrom 0 (roadD rd))
      (fun i ρ => ∃ o5 o6 o7 o8 o9, ρ = [some (.tup (roadD rd)), some (.int J), some (.lst true (films rd j)), some (.int (j : Int)), some (.lst true ((rowI rd i j).map D.int)), o5, o6, o7, o8, o9]) (fun i d ρ hd hi => ?_)
      (ρ := [some (.tup (roadD rd)), some (.int J), some (.lst true (films rd j)), some (.int (j : Int)), some (.lst true []), o5, o6, o7, o8, o9]) ⟨_, _, _, _, _, rfl⟩
    · obtain ⟨ρ', e, p5, p6, p7, p8, p9, rfl⟩ := lp
      rw [enumFrom_length, roadD_len] at e
      exact ⟨p5, p6, p7, p8, p9, e⟩
    · obtain ⟨q5, q6, q7, q8, q9, rfl⟩ := hi
      obtain ⟨hi, rfl⟩ := enumR hd
      have ap : ((rowI rd i j).map D.int).length < sizeLine := Nat.lt_of_le_of_lt (by rw [List.length_map]; unfold rowI; rw [List.length_map, List.length_range]; exact Nat.le_of_lt (Nat.lt_of_lt_of_le hi l2)) (by decide)
      have rs : (rowI rd i j).map D.int ++ [.int (W rd i j)] = (rowI rd (i + 1) j).map D.int := by rw [rowI_succ, List.map_append]; rfl
      refine ⟨_, [some (.tup (roadD rd)), some (.int J), some (.lst true (films rd j)), some (.int (j : Int)), some (.lst true ((rowI rd (i + 1) j).map D.int)), some (.int (i : Int)), some (.int (sF rd i)), some (.int (hF rd i)), some (.int (aF rd i)), some (.int (W rd i j))], rfl, .inl ?_, _, _, _, _, _, rfl⟩
      have lr : lenG [.tup (roadD rd)] = some (.int (rd.length : Int)) := by rw [lenG_tup, roadD_len]
      cases j with
      | zero =>
        have hj : ¬ ((0 : Int) < ((0 : Nat) : Int)) := by omega
        cases i with
        | zero =>
          have w0 : W rd 0 0 = 0 := wn_0 _ _
          rw [w0] at rs ⊢
          have h0' : ((0 : Nat) : Int) = 0 := rfl
          simp -implicitDefEqProofs only [slot_0, slot_n, slot_s, res_v, res_l, ev_C, ev_Name, ev_Name1, ev_Move, ev_Move1, ev_Loc, ev_Loc1, ev_Val, ev_Val1, ev_Fz, ev_Fz1, ev_l2, ev_l21, ev_l1, ev_l11, ev_Bin, ev_Bin1, ev_Un, ev_Tst, ev_asB, ev_NotT, ev_NotT1, ev_AndT, ev_AndT1, ev_OrT, ev_OrT1, ev_AndV, ev_AndV1, ev_OrV, ev_OrV1, ev_NotV, ev_NotV1, ev_If, ev_If1, ev_Ch, ev_Ch1, ev_Ch2, ev_Ch3, ev_Nil, ev_Cons, ev_Cons1, ev_Cons2, oc_s, ress_0, ress_s, ocF_s, resF_0, resF_s, ev_lN, ev_lN1, ev_CallB, kRet_ok, ev_Call, ev_Call1, ev_Call2, kRetM_ok, ev_CallM, ev_CallM1, ev_CallM2, ev_M1, ev_M11, ev_M12, ev_M13, ev_M14, ev_Pk, ev_Pk1, ev_PkSl, ev_PkSl1, ev_pk, ev_pk1, prt_n, prt_s, prt_1, prt_2, ev_Sl, ev_Sl0, ev_Sl1, ev_Sl2, ev_Sl3, ev_DG, ev_DGs, ev_DG0, ev_DG1, ev_DG2, ev_DG3, ev_DG4, ev_P0, ev_P1, ev_P2, ev_P3, ev_Disp, ev_Disp1, ev_Lc, ev_Lc1, ev_Lc2, ev_Yes, wipe_0, wipe_s, rest_0, rest_s, ev_Iter, ev_Iter1, ev_Enum, ev_Enum1, ev_Zip, ev_Zip1, ev_Zip2, ev_Zip3, ev_Rg, ev_Rg0, ev_Rg1, ev_Rh, ev_Rh0, ev_Rh1, ev_Rh2, ev_gS, ev_gN, ev_gC, ev_gT, ev_StL, ev_StL1, ev_StL2, ev_StD, ev_StD1, ev_StD2, ev_Seq, seq_nx, seq_rt, seq_bk, seq_ct, ev_Nx, ev_Set, ev_Set1, ev_Drop, ev_Drop1, ev_Ret, ev_IfS, ev_IfS1, ev_Asg, ev_Asg1, ofS_some, ev_Par, ev_Par1, ev_Par2, ev_Tri, ev_Tri1, ev_Tri2, ev_Tri3, ev_Aug, ev_Aug1, ev_Aug2, ev_Aug3, ev_For, nox_lc, R.bind_ok, R.bindS_ok, R.of_some, List.set_cons_zero, List.set_cons_succ, if_true, Bool.false_eq_true, if_false, Bool.not_true, Bool.not_false, Option.bind_some, Option.map_some, ev_Nest, ev_Nest1, lst_nil, frz_int, frz_str, frz_bl, frz_lst, frzL_int, frzL_str, frz_non, frz_tup, frzL_cons, frzL_nil, isF_tup, isFL_cons, isFL_nil, Bool.and_true, Bool.true_and, Bool.and_self, ev_App, ev_App0, ev_App1, isF_int, isF_str, isF_bl, isF_lst, isFL_int, isFL_str, isF_non, isF_opq, fin_rt, fin_nx, endG_f, endG_t, D.key, eq_int, decide_eq_true h0', gt_int, decide_eq_false hj, ev_App2 ap, rs]
        | succ i =>
          have hne : ¬ (((i + 1 : Nat) : Int) = 0) := by omega
          have ep : ixD (.lst true ((rowI rd (i + 1) 0).map D.int)) (.int (((i + 1 : Nat) : Int) - 1)) = some (.int (W rd i 0)) := by
            rw [show (((i + 1 : Nat) : Int) - 1) = (i : Int) by omega]
            exact ix_int (row_get (Nat.lt_succ_self i))
          have v1 : W rd i 0 + sF rd (i + 1) = W rd (i + 1) 0 := by
            show wn _ _ _ _ _ _ + _ = wn _ _ _ _ _ _
            rw [wn_0, wn_0]; rfl
          simp -implicitDefEqProofs only [slot_0, slot_n, slot_s, res_v, res_l, ev_C, ev_Name, ev_Name1, ev_Move, ev_Move1, ev_Loc, ev_Loc1, ev_Val, ev_Val1, ev_Fz, ev_Fz1, ev_l2, ev_l21, ev_l1, ev_l11, ev_Bin, ev_Bin1, ev_Un, ev_Tst, ev_asB, ev_NotT, ev_NotT1, ev_AndT, ev_AndT1, ev_OrT, ev_OrT1, ev_AndV, ev_AndV1, ev_OrV, ev_OrV1, ev_NotV, ev_NotV1, ev_If, ev_If1, ev_Ch, ev_Ch1, ev_Ch2, ev_Ch3, ev_Nil, ev_Cons, ev_Cons1, ev_Cons2, oc_s, ress_0, ress_s, ocF_s, resF_0, resF_s, ev_lN, ev_lN1, ev_CallB, kRet_ok, ev_Call, ev_Call1, ev_Call2, kRetM_ok, ev_CallM, ev_CallM1, ev_CallM2, ev_M1, ev_M11, ev_M12, ev_M13, ev_M14, ev_Pk, ev_Pk1, ev_PkSl, ev_PkSl1, ev_pk, ev_pk1, prt_n, prt_s, prt_1, prt_2, ev_Sl, ev_Sl0, ev_Sl1, ev_Sl2, ev_Sl3, ev_DG, ev_DGs, ev_DG0, ev_DG1, ev_DG2, ev_DG3, ev_DG4, ev_P0, ev_P1, ev_P2, ev_P3, ev_Disp, ev_Disp1, ev_Lc, ev_Lc1, ev_Lc2, ev_Yes, wipe_0, wipe_s, rest_0, rest_s, ev_Iter, ev_Iter1, ev_Enum, ev_Enum1, ev_Zip, ev_Zip1, ev_Zip2, ev_Zip3, ev_Rg, ev_Rg0, ev_Rg1, ev_Rh, ev_Rh0, ev_Rh1, ev_Rh2, ev_gS, ev_gN, ev_gC, ev_gT, ev_StL, ev_StL1, ev_StL2, ev_StD, ev_StD1, ev_StD2, ev_Seq, seq_nx, seq_rt, seq_bk, seq_ct, ev_Nx, ev_Set, ev_Set1, ev_Drop, ev_Drop1, ev_Ret, ev_IfS, ev_IfS1, ev_Asg, ev_Asg1, ofS_some, ev_Par, ev_Par1, ev_Par2, ev_Tri, ev_Tri1, ev_Tri2, ev_Tri3, ev_Aug, ev_Aug1, ev_Aug2, ev_Aug3, ev_For, nox_lc, R.bind_ok, R.bindS_ok, R.of_some, List.set_cons_zero, List.set_cons_succ, if_true, Bool.false_eq_true, if_false, Bool.not_true, Bool.not_false, Option.bind_some, Option.map_some, ev_Nest, ev_Nest1, lst_nil, frz_int, frz_str, frz_bl, frz_lst, frzL_int, frzL_str, frz_non, frz_tup, frzL_cons, frzL_nil, isF_tup, isFL_cons, isFL_nil, Bool.and_true, Bool.true_and, Bool.and_self, ev_App, ev_App0, ev_App1, isF_int, isF_str, isF_bl, isF_lst, isFL_int, isFL_str, isF_non, isF_opq, fin_rt, fin_nx, endG_f, endG_t, D.key, eq_int, decide_eq_false hne, sub_int, ep, add_int, v1, gt_int, decide_eq_false hj, ev_App2 ap, rs]
      | succ j =>
        have hj : ((0 : Int) < ((j + 1 : Nat) : Int)) := by omega
        have ef : ixD (.lst true (films rd (j + 1))) (.int (((j + 1 : Nat) : Int) - 1)) = some (rowD rd j) := by
          rw [show (((j + 1 : Nat) : Int) - 1) = (j : Int) by omega]
          exact ix_lst (films_get (Nat.lt_succ_self j)) rowD_F
        have er : ixD (rowD rd j) (.int (i : Int)) = some (.int (W rd i j)) := ix_int (row_get hi)
        have er1 : i + 1 < rd.length → ixD (rowD rd j) (.int ((i : Int) + 1)) = some (.int (W rd (i + 1) j)) := fun q => ix_int (j := i + 1) (row_get q)
        have ub := W_b g (j := j) hi
        have uc : i + 1 < rd.length → W rd (i + 1) j + aF rd i ≤ W rd i (j + 1) := fun q => W_c g q
        cases i with
        | zero =>
          have h0' : ((0 : Nat) : Int) = 0 := rfl
          have p0 := nn 0 (j + 1)
          by_cases hl : 0 + 1 < rd.length
          · have hl' : ((0 : Nat) : Int) < (rd.length : Int) - 1 := by omega
            have v3 : max (max 0 (W rd 0 j + hF rd 0)) (W rd (0 + 1) j + aF rd 0) = W rd 0 (j + 1) := by
              have u2 := uc hl
              have dn := W_down g (j := j) hi (x := max (max 0 (W rd 0 j + hF rd 0)) (W rd (0 + 1) j + aF rd 0)) (fun k hk => by omega) (by omega) (fun _ => by omega)
              omega
            simp -implicitDefEqProofs only [slot_0, slot_n, slot_s, res_v, res_l, ev_C, ev_Name, ev_Name1, ev_Move, ev_Move1, ev_Loc, ev_Loc1, ev_Val, ev_Val1, ev_Fz, ev_Fz1, ev_l2, ev_l21, ev_l1, ev_l11, ev_Bin, ev_Bin1, ev_Un, ev_Tst, ev_asB, ev_NotT, ev_NotT1, ev_AndT, ev_AndT1, ev_OrT, ev_OrT1, ev_AndV, ev_AndV1, ev_OrV, ev_OrV1, ev_NotV, ev_NotV1, ev_If, ev_If1, ev_Ch, ev_Ch1, ev_Ch2, ev_Ch3, ev_Nil, ev_Cons, ev_Cons1, ev_Cons2, oc_s, ress_0, ress_s, ocF_s, resF_0, resF_s, ev_lN, ev_lN1, ev_CallB, kRet_ok, ev_Call, ev_Call1, ev_Call2, kRetM_ok, ev_CallM, ev_CallM1, ev_CallM2, ev_M1, ev_M11, ev_M12, ev_M13, ev_M14, ev_Pk, ev_Pk1, ev_PkSl, ev_PkSl1, ev_pk, ev_pk1, prt_n, prt_s, prt_1, prt_2, ev_Sl, ev_Sl0, ev_Sl1, ev_Sl2, ev_Sl3, ev_DG, ev_DGs, ev_DG0, ev_DG1, ev_DG2, ev_DG3, ev_DG4, ev_P0, ev_P1, ev_P2, ev_P3, ev_Disp, ev_Disp1, ev_Lc, ev_Lc1, ev_Lc2, ev_Yes, wipe_0, wipe_s, rest_0, rest_s, ev_Iter, ev_Iter1, ev_Enum, ev_Enum1, ev_Zip, ev_Zip1, ev_Zip2, ev_Zip3, ev_Rg, ev_Rg0, ev_Rg1, ev_Rh, ev_Rh0, ev_Rh1, ev_Rh2, ev_gS, ev_gN, ev_gC, ev_gT, ev_StL, ev_StL1, ev_StL2, ev_StD, ev_StD1, ev_StD2, ev_Seq, seq_nx, seq_rt, seq_bk, seq_ct, ev_Nx, ev_Set, ev_Set1, ev_Drop, ev_Drop1, ev_Ret, ev_IfS, ev_IfS1, ev_Asg, ev_Asg1, ofS_some, ev_Par, ev_Par1, ev_Par2, ev_Tri, ev_Tri1, ev_Tri2, ev_Tri3, ev_Aug, ev_Aug1, ev_Aug2, ev_Aug3, ev_For, nox_lc, R.bind_ok, R.bindS_ok, R.of_some, List.set_cons_zero, List.set_cons_succ, if_true, Bool.false_eq_true, if_false, Bool.not_true, Bool.not_false, Option.bind_some, Option.map_some, ev_Nest, ev_Nest1, lst_nil, frz_int, frz_str, frz_bl, frz_lst, frzL_int, frzL_str, frz_non, frz_tup, frzL_cons, frzL_nil, isF_tup, isFL_cons, isFL_nil, Bool.and_true, Bool.true_and, Bool.and_self, ev_App, ev_App0, ev_App1, isF_int, isF_str, isF_bl, isF_lst, isFL_int, isFL_str, isF_non, isF_opq, fin_rt, fin_nx, endG_f, endG_t, D.key, eq_int, decide_eq_true h0', gt_int, decide_eq_true hj, sub_int, ef, er, add_int, max2_int, lr, lt_int, decide_eq_true hl', er1 hl, v3, ev_App2 ap, rs]
          · have hl' : ¬ (((0 : Nat) : Int) < (rd.length : Int) - 1) := by omega
            have v3 : max 0 (W rd 0 j + hF rd 0) = W rd 0 (j + 1) := by
              have dn := W_down g (j := j) hi (x := max 0 (W rd 0 j + hF rd 0)) (fun k hk => by omega) (by omega) (fun q => absurd q hl)
              omega
            simp -implicitDefEqProofs only [slot_0, slot_n, slot_s, res_v, res_l, ev_C, ev_Name, ev_Name1, ev_Move, ev_Move1, ev_Loc, ev_Loc1, ev_Val, ev_Val1, ev_Fz, ev_Fz1, ev_l2, ev_l21, ev_l1, ev_l11, ev_Bin, ev_Bin1, ev_Un, ev_Tst, ev_asB, ev_NotT, ev_NotT1, ev_AndT, ev_AndT1, ev_OrT, ev_OrT1, ev_AndV, ev_AndV1, ev_OrV, ev_OrV1, ev_NotV, ev_NotV1, ev_If, ev_If1, ev_Ch, ev_Ch1, ev_Ch2, ev_Ch3, ev_Nil, ev_Cons, ev_Cons1, ev_Cons2, oc_s, ress_0, ress_s, ocF_s, resF_0, resF_s, ev_lN, ev_lN1, ev_CallB, kRet_ok, ev_Call, ev_Call1, ev_Call2, kRetM_ok, ev_CallM, ev_CallM1, ev_CallM2, ev_M1, ev_M11, ev_M12, ev_M13, ev_M14, ev_Pk, ev_Pk1, ev_PkSl, ev_PkSl1, ev_pk, ev_pk1, prt_n, prt_s, prt_1, prt_2, ev_Sl, ev_Sl0, ev_Sl1, ev_Sl2, ev_Sl3, ev_DG, ev_DGs, ev_DG0, ev_DG1, ev_DG2, ev_DG3, ev_DG4, ev_P0, ev_P1, ev_P2, ev_P3, ev_Disp, ev_Disp1, ev_Lc, ev_Lc1, ev_Lc2, ev_Yes, wipe_0, wipe_s, rest_0, rest_s, ev_Iter, ev_Iter1, ev_Enum, ev_Enum1, ev_Zip, ev_Zip1, ev_Zip2, ev_Zip3, ev_Rg, ev_Rg0, ev_Rg1, ev_Rh, ev_Rh0, ev_Rh1, ev_Rh2, ev_gS, ev_gN, ev_gC, ev_gT, ev_StL, ev_StL1, ev_StL2, ev_StD, ev_StD1, ev_StD2, ev_Seq, seq_nx, seq_rt, seq_bk, seq_ct, ev_Nx, ev_Set, ev_Set1, ev_Drop, ev_Drop1, ev_Ret, ev_IfS, ev_IfS1, ev_Asg, ev_Asg1, ofS_some, ev_Par, ev_Par1, ev_Par2, ev_Tri, ev_Tri1, ev_Tri2, ev_Tri3, ev_Aug, ev_Aug1, ev_Aug2, ev_Aug3, ev_For, nox_lc, R.bind_ok, R.bindS_ok, R.of_some, List.set_cons_zero, List.set_cons_succ, if_true, Bool.false_eq_true, if_false, Bool.not_true, Bool.not_false, Option.bind_some, Option.map_some, ev_Nest, ev_Nest1, lst_nil, frz_int, frz_str, frz_bl, frz_lst, frzL_int, frzL_str, frz_non, frz_tup, frzL_cons, frzL_nil, isF_tup, isFL_cons, isFL_nil, Bool.and_true, Bool.true_and, Bool.and_self, ev_App, ev_App0, ev_App1, isF_int, isF_str, isF_bl, isF_lst, isFL_int, isFL_str, isF_non, isF_opq, fin_rt, fin_nx, endG_f, endG_t, D.key, eq_int, decide_eq_true h0', gt_int, decide_eq_true hj, sub_int, ef, er, add_int, max2_int, lr, lt_int, decide_eq_false hl', v3, ev_App2 ap, rs]
        | succ i =>
          have hne : ¬ (((i + 1 : Nat) : Int) = 0) := by omega
          have ep : ixD (.lst true ((rowI rd (i + 1) (j + 1)).map D.int)) (.int (((i + 1 : Nat) : Int) - 1)) = some (.int (W rd i (j + 1))) := by
            rw [show (((i + 1 : Nat) : Int) - 1) = (i : Int) by omega]
            exact ix_int (row_get (Nat.lt_succ_self i))
          have ua := W_a g (j := j) hi
          by_cases hl : i + 1 + 1 < rd.length
          · have hl' : ((i + 1 : Nat) : Int) < (rd.length : Int) - 1 := by omega
            have v3 : max (max (W rd i (j + 1) + sF rd (i + 1)) (W rd (i + 1) j + hF rd (i + 1))) (W rd (i + 1 + 1) j + aF rd (i + 1)) = W rd (i + 1) (j + 1) := by
              have u2 := uc hl
              have dn := W_down g (j := j) hi (x := max (max (W rd i (j + 1) + sF rd (i + 1)) (W rd (i + 1) j + hF rd (i + 1))) (W rd (i + 1 + 1) j + aF rd (i + 1))) (fun k hk => by
                have : k = i := by omega
                subst this
                omega) (by omega) (fun _ => by omega)
              omega
            simp -implicitDefEqProofs only [slot_0, slot_n, slot_s, res_v, res_l, ev_C, ev_Name, ev_Name1, ev_Move, ev_Move1, ev_Loc, ev_Loc1, ev_Val, ev_Val1, ev_Fz, ev_Fz1, ev_l2, ev_l21, ev_l1, ev_l11, ev_Bin, ev_Bin1, ev_Un, ev_Tst, ev_asB, ev_NotT, ev_NotT1, ev_AndT, ev_AndT1, ev_OrT, ev_OrT1, ev_AndV, ev_AndV1, ev_OrV, ev_OrV1, ev_NotV, ev_NotV1, ev_If, ev_If1, ev_Ch, ev_Ch1, ev_Ch2, ev_Ch3, ev_Nil, ev_Cons, ev_Cons1, ev_Cons2, oc_s, ress_0, ress_s, ocF_s, resF_0, resF_s, ev_lN, ev_lN1, ev_CallB, kRet_ok, ev_Call, ev_Call1, ev_Call2, kRetM_ok, ev_CallM, ev_CallM1, ev_CallM2, ev_M1, ev_M11, ev_M12, ev_M13, ev_M14, ev_Pk, ev_Pk1, ev_PkSl, ev_PkSl1, ev_pk, ev_pk1, prt_n, prt_s, prt_1, prt_2, ev_Sl, ev_Sl0, ev_Sl1, ev_Sl2, ev_Sl3, ev_DG, ev_DGs, ev_DG0, ev_DG1, ev_DG2, ev_DG3, ev_DG4, ev_P0, ev_P1, ev_P2, ev_P3, ev_Disp, ev_Disp1, ev_Lc, ev_Lc1, ev_Lc2, ev_Yes, wipe_0, wipe_s, rest_0, rest_s, ev_Iter, ev_Iter1, ev_Enum, ev_Enum1, ev_Zip, ev_Zip1, ev_Zip2, ev_Zip3, ev_Rg, ev_Rg0, ev_Rg1, ev_Rh, ev_Rh0, ev_Rh1, ev_Rh2, ev_gS, ev_gN, ev_gC, ev_gT, ev_StL, ev_StL1, ev_StL2, ev_StD, ev_StD1, ev_StD2, ev_Seq, seq_nx, seq_rt, seq_bk, seq_ct, ev_Nx, ev_Set, ev_Set1, ev_Drop, ev_Drop1, ev_Ret, ev_IfS, ev_IfS1, ev_Asg, ev_Asg1, ofS_some, ev_Par, ev_Par1, ev_Par2, ev_Tri, ev_Tri1, ev_Tri2, ev_Tri3, ev_Aug, ev_Aug1, ev_Aug2, ev_Aug3, ev_For, nox_lc, R.bind_ok, R.bindS_ok, R.of_some, List.set_cons_zero, List.set_cons_succ, if_true, Bool.false_eq_true, if_false, Bool.not_true, Bool.not_false, Option.bind_some, Option.map_some, ev_Nest, ev_Nest1, lst_nil, frz_int, frz_str, frz_bl, frz_lst, frzL_int, frzL_str, frz_non, frz_tup, frzL_cons, frzL_nil, isF_tup, isFL_cons, isFL_nil, Bool.and_true, Bool.true_and, Bool.and_self, ev_App, ev_App0, ev_App1, isF_int, isF_str, isF_bl, isF_lst, isFL_int, isFL_str, isF_non, isF_opq, fin_rt, fin_nx, endG_f, endG_t, D.key, eq_int, decide_eq_false hne, ep, gt_int, decide_eq_true hj, sub_int, ef, er, add_int, max2_int, lr, lt_int, decide_eq_true hl', er1 hl, v3, ev_App2 ap, rs]
          · have hl' : ¬ (((i + 1 : Nat) : Int) < (rd.length : Int) - 1) := by omega
            have v3 : max (W rd i (j + 1) + sF rd (i + 1)) (W rd (i + 1) j + hF rd (i + 1)) = W rd (i + 1) (j + 1) := by
              have dn := W_down g (j := j) hi (x := max (W rd i (j + 1) + sF rd (i + 1)) (W rd (i + 1) j + hF rd (i + 1))) (fun k hk => by
                have : k = i := by omega
                subst this
                omega) (by omega) (fun q => absurd q hl)
              omega
            simp -implicitDefEqProofs only [slot_0, slot_n, slot_s, res_v, res_l, ev_C, ev_Name, ev_Name1, ev_Move, ev_Move1, ev_Loc, ev_Loc1, ev_Val, ev_Val1, ev_Fz, ev_Fz1, ev_l2, ev_l21, ev_l1, ev_l11, ev_Bin, ev_Bin1, ev_Un, ev_Tst, ev_asB, ev_NotT, ev_NotT1, ev_AndT, ev_AndT1, ev_OrT, ev_OrT1, ev_AndV, ev_AndV1, ev_OrV, ev_OrV1, ev_NotV, ev_NotV1, ev_If, ev_If1, ev_Ch, ev_Ch1, ev_Ch2, ev_Ch3, ev_Nil, ev_Cons, ev_Cons1, ev_Cons2, oc_s, ress_0, ress_s, ocF_s, resF_0, resF_s, ev_lN, ev_lN1, ev_CallB, kRet_ok, ev_Call, ev_Call1, ev_Call2, kRetM_ok, ev_CallM, ev_CallM1, ev_CallM2, ev_M1, ev_M11, ev_M12, ev_M13, ev_M14, ev_Pk, ev_Pk1, ev_PkSl, ev_PkSl1, ev_pk, ev_pk1, prt_n, prt_s, prt_1, prt_2, ev_Sl, ev_Sl0, ev_Sl1, ev_Sl2, ev_Sl3, ev_DG, ev_DGs, ev_DG0, ev_DG1, ev_DG2, ev_DG3, ev_DG4, ev_P0, ev_P1, ev_P2, ev_P3, ev_Disp, ev_Disp1, ev_Lc, ev_Lc1, ev_Lc2, ev_Yes, wipe_0, wipe_s, rest_0, rest_s, ev_Iter, ev_Iter1, ev_Enum, ev_Enum1, ev_Zip, ev_Zip1, ev_Zip2, ev_Zip3, ev_Rg, ev_Rg0, ev_Rg1, ev_Rh, ev_Rh0, ev_Rh1, ev_Rh2, ev_gS, ev_gN, ev_gC, ev_gT, ev_StL, ev_StL1, ev_StL2, ev_StD, ev_StD1, ev_StD2, ev_Seq, seq_nx, seq_rt, seq_bk, seq_ct, ev_Nx, ev_Set, ev_Set1, ev_Drop, ev_Drop1, ev_Ret, ev_IfS, ev_IfS1, ev_Asg, ev_Asg1, ofS_some, ev_Par, ev_Par1, ev_Par2, ev_Tri, ev_Tri1, ev_Tri2, ev_Tri3, ev_Aug, ev_Aug1, ev_Aug2, ev_Aug3, ev_For, nox_lc, R.bind_ok, R.bindS_ok, R.of_some, List.set_cons_zero, List.set_cons_succ, if_true, Bool.false_eq_true, if_false, Bool.not_true, Bool.not_false, Option.bind_some, Option.map_some, ev_Nest, ev_Nest1, lst_nil, frz_int, frz_str, frz_bl, frz_lst, frzL_int, frzL_str, frz_non, frz_tup, frzL_cons, frzL_nil, isF_tup, isFL_cons, isFL_nil, Bool.and_true, Bool.true_and, Bool.and_self, ev_App, ev_App0, ev_App1, isF_int, isF_str, isF_bl, isF_lst, isFL_int, isFL_str, isF_non, isF_opq, fin_rt, fin_nx, endG_f, endG_t, D.key, eq_int, decide_eq_false hne, ep, gt_int, decide_eq_true hj, sub_int, ef, er, add_int, max2_int, lr, lt_int, decide_eq_false hl', v3, ev_App2 ap, rs]
  have outer := forF_inv (g := gSet 3) (body := fSeq (fSet 4 (fCallB lstG (fNil))) (fSeq (fFor (fEnum (fName 0)) (gTupF 2 (gsCons (gSet 5) (gsCons (gTupF 3 (gsCons (gSet 6) (gsCons (gSet 7) (gsCons (gSet 8) (gsNil))))) (gsNil)))) (fSeq (fSet 9 (fIf (fTst (fBin (eqD false) (fLoc 5) (fVal (fC (.int 0))))) (fC (.int 0)) (fBin addD (fVal (fBin ixD (fLoc 4) (fVal (fBin subD (fLoc 5) (fVal (fC (.int 1))))))) (fLoc 6)))) (fSeq (fIfS (fTst (fBin (gtD) (fLoc 3) (fVal (fC (.int 0))))) (fSet 9 (fCallB max2G (fCons (fLoc 9) (fCons (fVal (fBin addD (fVal (fBin ixD (fVal (fBin ixD (fLoc 2) (fVal (fBin subD (fLoc 3) (fVal (fC (.int 1))))))) (fLoc 5))) (fLoc 7))) (fNil))))) (fNx)) (fSeq (fIfS (fAndT (fTst (fBin (gtD) (fLoc 3) (fVal (fC (.int 0))))) (fTst (fBin (ltD) (fLoc 5) (fVal (fBin subD (fVal (fCallB lenG (fCons (fLoc 0) (fNil)))) (fVal (fC (.int 1)))))))) (fSet 9 (fCallB max2G (fCons (fLoc 9) (fCons (fVal (fBin addD (fVal (fBin ixD (fVal (fBin ixD (fLoc 2) (fVal (fBin subD (fLoc 3) (fVal (fC (.int 1))))))) (fVal (fBin addD (fLoc 5) (fVal (fC (.int 1))))))) (fLoc 8))) (fNil))))) (fNx)) (fDrop (fApp 4 (fName 9))))))) (fDrop (fApp 2 (fName 4))))) (ds := rangeL 0 J)
    (fun j ρ => ∃ o3 o4 o5 o6 o7 o8 o9, ρ = [some (.tup (roadD rd)), some (.int J), some (.lst true (films rd j)), o3, o4, o5, o6, o7, o8, o9]) (fun j d ρ hd hj => ?_)
    (ρ := [some (.tup (roadD rd)), some (.int J), some (.lst true []), none, none, none, none, none, none, none]) ⟨_, _, _, _, _, _, _, rfl⟩
  · obtain ⟨ρ', e, o3, o4, o5, o6, o7, o8, o9, rfl⟩ := outer
    rw [rangeL_n] at e
    unfold G__law_film
    rw [GF_2]
    unfold fb__law_film
    simp -implicitDefEqProofs only [slot_0, slot_n, slot_s, res_v, res_l, ev_C, ev_Name, ev_Name1, ev_Move, ev_Move1, ev_Loc, ev_Loc1, ev_Val, ev_Val1, ev_Fz, ev_Fz1, ev_l2, ev_l21, ev_l1, ev_l11, ev_Bin, ev_Bin1, ev_Un, ev_Tst, ev_asB, ev_NotT, ev_NotT1, ev_AndT, ev_AndT1, ev_OrT, ev_OrT1, ev_AndV, ev_AndV1, ev_OrV, ev_OrV1, ev_NotV, ev_NotV1, ev_If, ev_If1, ev_Ch, ev_Ch1, ev_Ch2, ev_Ch3, ev_Nil, ev_Cons, ev_Cons1, ev_Cons2, oc_s, ress_0, ress_s, ocF_s, resF_0, resF_s, ev_lN, ev_lN1, ev_CallB, kRet_ok, ev_Call, ev_Call1, ev_Call2, kRetM_ok, ev_CallM, ev_CallM1, ev_CallM2, ev_M1, ev_M11, ev_M12, ev_M13, ev_M14, ev_Pk, ev_Pk1, ev_PkSl, ev_PkSl1, ev_pk, ev_pk1, prt_n, prt_s, prt_1, prt_2, ev_Sl, ev_Sl0, ev_Sl1, ev_Sl2, ev_Sl3, ev_DG, ev_DGs, ev_DG0, ev_DG1, ev_DG2, ev_DG3, ev_DG4, ev_P0, ev_P1, ev_P2, ev_P3, ev_Disp, ev_Disp1, ev_Lc, ev_Lc1, ev_Lc2, ev_Yes, wipe_0, wipe_s, rest_0, rest_s, ev_Iter, ev_Iter1, ev_Enum, ev_Enum1, ev_Zip, ev_Zip1, ev_Zip2, ev_Zip3, ev_Rg, ev_Rg0, ev_Rg1, ev_Rh, ev_Rh0, ev_Rh1, ev_Rh2, ev_gS, ev_gN, ev_gC, ev_gT, ev_StL, ev_StL1, ev_StL2, ev_StD, ev_StD1, ev_StD2, ev_Seq, seq_nx, seq_rt, seq_bk, seq_ct, ev_Nx, ev_Set, ev_Set1, ev_Drop, ev_Drop1, ev_Ret, ev_IfS, ev_IfS1, ev_Asg, ev_Asg1, ofS_some, ev_Par, ev_Par1, ev_Par2, ev_Tri, ev_Tri1, ev_Tri2, ev_Tri3, ev_Aug, ev_Aug1, ev_Aug2, ev_Aug3, ev_For, nox_lc, R.bind_ok, R.bindS_ok, R.of_some, List.set_cons_zero, List.set_cons_succ, if_true, Bool.false_eq_true, if_false, Bool.not_true, Bool.not_false, Option.bind_some, Option.map_some, ev_Nest, ev_Nest1, lst_nil, frz_int, frz_str, frz_bl, frz_lst, frzL_int, frzL_str, frz_non, frz_tup, frzL_cons, frzL_nil, isF_tup, isFL_cons, isFL_nil, Bool.and_true, Bool.true_and, Bool.and_self, ev_App, ev_App0, ev_App1, isF_int, isF_str, isF_bl, isF_lst, isFL_int, isFL_str, isF_non, isF_opq, fin_rt, fin_nx, endG_f, endG_t, D.key, List.replicate, if_pos (big62_at (i := (J : Int)) (by omega) (by omega)), Int.toNat_natCast, kFor, e]
  · obtain ⟨o3, o4, o5, o6, o7, o8, o9, rfl⟩ := hj
    obtain ⟨hj, rfl⟩ := rangeL_get hd
    rw [Int.zero_add]
    obtain ⟨p5, p6, p7, p8, p9, e⟩ := inner j o5 o6 o7 o8 o9
    have ap : (films rd j).length < sizeLine := Nat.lt_of_le_of_lt (by unfold films; rw [List.length_map, List.length_range]; exact Nat.le_of_lt (Nat.lt_of_lt_of_le hj h3)) (by decide)
    have rs : films rd j ++ [.lst false ((rowI rd rd.length j).map D.int)] = films rd (j + 1) := films_succ.symm
    refine ⟨_, [some (.tup (roadD rd)), some (.int J), some (.lst true (films rd (j + 1))), some (.int (j : Int)), some (.lst false ((rowI rd rd.length j).map D.int)), p5, p6, p7, p8, p9], rfl, .inl ?_, _, _, _, _, _, _, _, rfl⟩
    simp -implicitDefEqProofs only [slot_0, slot_n, slot_s, res_v, res_l, ev_C, ev_Name, ev_Name1, ev_Move, ev_Move1, ev_Loc, ev_Loc1, ev_Val, ev_Val1, ev_Fz, ev_Fz1, ev_l2, ev_l21, ev_l1, ev_l11, ev_Bin, ev_Bin1, ev_Un, ev_Tst, ev_asB, ev_NotT, ev_NotT1, ev_AndT, ev_AndT1, ev_OrT, ev_OrT1, ev_AndV, ev_AndV1, ev_OrV, ev_OrV1, ev_NotV, ev_NotV1, ev_If, ev_If1, ev_Ch, ev_Ch1, ev_Ch2, ev_Ch3, ev_Nil, ev_Cons, ev_Cons1, ev_Cons2, oc_s, ress_0, ress_s, ocF_s, resF_0, resF_s, ev_lN, ev_lN1, ev_CallB, kRet_ok, ev_Call, ev_Call1, ev_Call2, kRetM_ok, ev_CallM, ev_CallM1, ev_CallM2, ev_M1, ev_M11, ev_M12, ev_M13, ev_M14, ev_Pk, ev_Pk1, ev_PkSl, ev_PkSl1, ev_pk, ev_pk1, prt_n, prt_s, prt_1, prt_2, ev_Sl, ev_Sl0, ev_Sl1, ev_Sl2, ev_Sl3, ev_DG, ev_DGs, ev_DG0, ev_DG1, ev_DG2, ev_DG3, ev_DG4, ev_P0, ev_P1, ev_P2, ev_P3, ev_Disp, ev_Disp1, ev_Lc, ev_Lc1, ev_Lc2, ev_Yes, wipe_0, wipe_s, rest_0, rest_s, ev_Iter, ev_Iter1, ev_Enum, ev_Enum1, ev_Zip, ev_Zip1, ev_Zip2, ev_Zip3, ev_Rg, ev_Rg0, ev_Rg1, ev_Rh, ev_Rh0, ev_Rh1, ev_Rh2, ev_gS, ev_gN, ev_gC, ev_gT, ev_StL, ev_StL1, ev_StL2, ev_StD, ev_StD1, ev_StD2, ev_Seq, seq_nx, seq_rt, seq_bk, seq_ct, ev_Nx, ev_Set, ev_Set1, ev_Drop, ev_Drop1, ev_Ret, ev_IfS, ev_IfS1, ev_Asg, ev_Asg1, ofS_some, ev_Par, ev_Par1, ev_Par2, ev_Tri, ev_Tri1, ev_Tri2, ev_Tri3, ev_Aug, ev_Aug1, ev_Aug2, ev_Aug3, ev_For, nox_lc, R.bind_ok, R.bindS_ok, R.of_some, List.set_cons_zero, List.set_cons_succ, if_true, Bool.false_eq_true, if_false, Bool.not_true, Bool.not_false, Option.bind_some, Option.map_some, ev_Nest, ev_Nest1, lst_nil, frz_int, frz_str, frz_bl, frz_lst, frzL_int, frzL_str, frz_non, frz_tup, frzL_cons, frzL_nil, isF_tup, isFL_cons, isFL_nil, Bool.and_true, Bool.true_and, Bool.and_self, ev_App, ev_App0, ev_App1, isF_int, isF_str, isF_bl, isF_lst, isFL_int, isFL_str, isF_non, isF_opq, fin_rt, fin_nx, endG_f, endG_t, D.key, roadD_z, itemsQ_tup roadD_F, kFor, e, ev_App2 ap, rs]
end Rd

namespace K49
open PySem PySem.Spec PyProof.Rows L2 DL
abbrev fuel : Nat := 1000000
def fb__law_begun : FS := fSeq (fSet 1 (fLc [2] (fIter (fName 0)) (gSet 2) (fTst (fBin (geD) (fLoc 2) (fVal (fBin powD (fVal (fC (.int 10))) (fVal (fC (.int 18))))))) (fName 2))) (fRet (fDisp [(.inr "cells", fCallB listG (fCons (fLoc 0) (fNil))), (.inr "great", fMove 1), (.inr "spot", fC (.int 0))]))
def G__law_begun : List D → GR := GF 1 3 false fb__law_begun
def fb__law_next : FS := fSeq (whileF (fAndT (fTst (fPk (eqD true) 0 (.inr "great") (fun _ => some (.lst true [])))) (fTst (fBin (eqD false) (fVal (fPk ixD 0 (.inr "great") (fun _ => some (.int 0)))) (fVal (fC (.int 0)))))) (fAsg (gStD 0 (fVal (fC (.str "great")))) (fPkSl 0 (.inr "great") (some 1) none)) fuel) (fSeq (fIfS (fTst (fPk (eqD true) 0 (.inr "great") (fun _ => some (.lst true [])))) (fSeq (fSet 2 (fCallB intG (fCons (fVal (fPk ixD 0 (.inr "great") (fun _ => some (.int 0)))) (fNil)))) (fSeq (fAsg (gNest 0 (.inr "great") (fun _ => some (.int 0))) (fBin fdivD (fLoc 2) (fLoc 1))) (fRet (fBin modD (fLoc 2) (fLoc 1))))) (fNx)) (fSeq (fSet 3 (fBin addD (fVal (fDGet 0 (fVal (fC (.str "spot"))))) (fVal (fC (.int 1))))) (fSeq (fAsg (gStD 0 (fVal (fC (.str "spot")))) (fName 3)) (fSeq (fSet 4 (fIf (fTst (fBin (eqD true) (fVal (fDGet 0 (fVal (fC (.str "cells"))))) (fVal (fCallB lstG (fNil))))) (fBin ixD (fVal (fDGet 0 (fVal (fC (.str "cells"))))) (fVal (fBin modD (fVal (fCallB intG (fCons (fLoc 3) (fNil)))) (fVal (fCallB lenG (fCons (fVal (fDGet 0 (fVal (fC (.str "cells"))))) (fNil))))))) (fC (.int 43)))) (fSeq (fSet 5 (fBin mulD (fVal (fCallB intG (fCons (fVal (fBin addD (fVal (fBin addD (fVal (fBin modD (fVal (fCallB intG (fCons (fLoc 4) (fNil)))) (fVal (fC (.int 2147483563))))) (fVal (fBin mulD (fVal (fC (.int 6053))) (fLoc 3))))) (fVal (fBin mulD (fVal (fBin mulD (fVal (fC (.int 53))) (fLoc 3))) (fLoc 3))))) (fNil)))) (fVal (fC (.int 40014))))) (fSeq (fSet 5 (fBin mulD (fVal (fCallB intG (fCons (fVal (fBin addD (fVal (fBin modD (fVal (fCallB intG (fCons (fLoc 5) (fNil)))) (fVal (fC (.int 2147483563))))) (fVal (fBin mulD (fVal (fC (.int 88969))) (fLoc 3))))) (fNil)))) (fVal (fC (.int 742938285))))) (fRet (fBin modD (fVal (fCallB intG (fCons (fVal (fBin fdivD (fVal (fBin modD (fVal (fCallB intG (fCons (fLoc 5) (fNil)))) (fVal (fC (.int 2147483549))))) (fVal (fC (.int 17))))) (fNil)))) (fLoc 1)))))))))
def G__law_next : List D → GR := GF 2 6 true fb__law_next
def fb__law_way : FS := fSeq (fSet 3 (fCallB lstG (fNil))) (fSeq (fFor (fRange1 (fVal (fBin addD (fVal (fC (.int 1))) (fVal (fCallM G__law_next (fCons (fLoc 0) (fCons (fVal (fName 1)) (fNil)))))))) (gSet 4) (fSeq (fPar 5 6 (fCallM G__law_next (fCons (fLoc 0) (fCons (fVal (fFz (fBin addD (fLoc 2) (fVal (fC (.int 1)))))) (fNil)))) (fBin addD (fVal (fC (.int 1))) (fVal (fCallM G__law_next (fCons (fLoc 0) (fCons (fVal (fName 2)) (fNil))))))) (fDrop (fApp 3 (fCallB tupG (fCons (fVal (fName 5)) (fCons (fVal (fName 6)) (fCons (fVal (fCallM G__law_next (fCons (fLoc 0) (fCons (fVal (fFz (fBin addD (fLoc 2) (fVal (fC (.int 1)))))) (fNil))))) (fNil))))))))) (fRet (fCallB tupleG (fCons (fLoc 3) (fNil)))))
def G__law_way : List D → GR := GF 3 7 true fb__law_way
def fb__law_film : FS := fSeq (fSet 2 (fCallB lstG (fNil))) (fSeq (fFor (fRange1 (fLoc 1)) (gSet 3) (fSeq (fSet 4 (fCallB lstG (fNil))) (fSeq (fFor (fEnum (fName 0)) (gTupF 2 (gsCons (gSet 5) (gsCons (gTupF 3 (gsCons (gSet 6) (gsCons (gSet 7) (gsCons (gSet 8) (gsNil))))) (gsNil)))) (fSeq (fSet 9 (fIf (fTst (fBin (eqD false) (fLoc 5) (fVal (fC (.int 0))))) (fC (.int 0)) (fBin addD (fVal (fBin ixD (fLoc 4) (fVal (fBin subD (fLoc 5) (fVal (fC (.int 1))))))) (fLoc 6)))) (fSeq (fIfS (fTst (fBin (gtD) (fLoc 3) (fVal (fC (.int 0))))) (fSet 9 (fCallB max2G (fCons (fLoc 9) (fCons (fVal (fBin addD (fVal (fBin ixD (fVal (fBin ixD (fLoc 2) (fVal (fBin subD (fLoc 3) (fVal (fC (.int 1))))))) (fLoc 5))) (fLoc 7))) (fNil))))) (fNx)) (fSeq (fIfS (fAndT (fTst (fBin (gtD) (fLoc 3) (fVal (fC (.int 0))))) (fTst (fBin (ltD) (fLoc 5) (fVal (fBin subD (fVal (fCallB lenG (fCons (fLoc 0) (fNil)))) (fVal (fC (.int 1)))))))) (fSet 9 (fCallB max2G (fCons (fLoc 9) (fCons (fVal (fBin addD (fVal (fBin ixD (fVal (fBin ixD (fLoc 2) (fVal (fBin subD (fLoc 3) (fVal (fC (.int 1))))))) (fVal (fBin addD (fLoc 5) (fVal (fC (.int 1))))))) (fLoc 8))) (fNil))))) (fNx)) (fDrop (fApp 4 (fName 9))))))) (fDrop (fApp 2 (fName 4)))))) (fRet (fMove 2)))
def G__law_film : List D → GR := GF 2 10 false fb__law_film
def fb_is_whole : FS := fSeq (fIfS (fOrT (fNotT (fTst (fCallB isiG (fCons (fLoc 0) (fCons (fVal (fC (.opq (.ty "int")))) (fNil)))))) (fTst (fCallB isiG (fCons (fLoc 0) (fCons (fVal (fC (.opq (.ty "bool")))) (fNil)))))) (fRet (fC (.bl false))) (fNx)) (fRet (fAndV (fOrV (fBin (isD false) (fLoc 1) (fVal (fC .non))) (fBin (geD) (fLoc 0) (fLoc 1))) (fOrV (fBin (isD false) (fLoc 2) (fVal (fC .non))) (fBin (leD) (fLoc 0) (fLoc 2)))))
def G_is_whole : List D → GR := GF 3 3 false fb_is_whole
def fb_is_triple : FS := fSeq (fIfS (fOrT (fNotT (fTst (fCallB isiG (fCons (fLoc 0) (fCons (fVal (fC (.opq (.ty "tuple")))) (fNil)))))) (fOrT (fTst (fBin (eqD true) (fVal (fCallB lenG (fCons (fLoc 0) (fNil)))) (fVal (fC (.int 3))))) (fNotT (fTst (fCall G_is_whole (fCons (fVal (fFz (fBin ixD (fLoc 0) (fVal (fC (.int 1)))))) (fCons (fVal (fC (.int 1))) (fCons (fVal (fC (.int 1000))) (fNil))))))))) (fRet (fC (.bl false))) (fNx)) (fRet (fAndV (fCall G_is_whole (fCons (fVal (fFz (fBin ixD (fLoc 0) (fVal (fC (.int 0)))))) (fCons (fVal (fC (.int 0))) (fCons (fVal (fC (.int 1000))) (fNil))))) (fCall G_is_whole (fCons (fVal (fFz (fBin ixD (fLoc 0) (fVal (fC (.int 2)))))) (fCons (fVal (fC (.int 0))) (fCons (fVal (fC (.int 1000))) (fNil)))))))
def G_is_triple : List D → GR := GF 1 1 false fb_is_triple
def fb_need_road : FS := fSeq (fIfS (fOrT (fNotT (fTst (fCallB isiG (fCons (fLoc 0) (fCons (fVal (fC (.opq (.ty "tuple")))) (fNil)))))) (fNotT (fTst (fChain (leD) (leD) (fVal (fC (.int 1))) (fVal (fCallB lenG (fCons (fLoc 0) (fNil)))) (fVal (fC (.int 40))))))) ((fun _ => .stk)) (fNx)) (fSeq (fFor (fEnum (fName 0)) (gTupF 2 (gsCons (gSet 1) (gsCons (gSet 2) (gsNil)))) (fIfS (fNotT (fTst (fCall G_is_triple (fCons (fVal (fName 2)) (fNil))))) ((fun _ => .stk)) (fNx))) (fRet (fMove 0)))
def G_need_road : List D → GR := GF 1 3 false fb_need_road
def fb_rings_of : FS := fRet (fLc [1, 2] (fZip (fName 0) (fFz (fSl (fLoc 0) (some (fVal (fC (.int 1)))) none))) (gTupF 2 (gsCons (gSet 1) (gsCons (gSet 2) (gsNil)))) (fYes) (fBin addD (fVal (fBin ixD (fLoc 1) (fVal (fC (.int 2))))) (fVal (fBin ixD (fLoc 2) (fVal (fC (.int 0)))))))
def G_rings_of : List D → GR := GF 1 3 false fb_rings_of
def fb_pace_of : FS := fRet (fCallB maxLG (fCons (fVal (fBin addD (fVal (fLc [1] (fIter (fName 0)) (gSet 1) (fYes) (fBin ixD (fLoc 1) (fVal (fC (.int 1)))))) (fVal (fCall G_rings_of (fCons (fVal (fName 0)) (fNil)))))) (fNil)))
def G_pace_of : List D → GR := GF 1 2 false fb_pace_of
def fb_pace : FS := fRet (fCall G_pace_of (fCons (fVal (fFz (fCall G_need_road (fCons (fVal (fName 0)) (fNil))))) (fNil)))
def G_pace : List D → GR := GF 1 1 false fb_pace
def fb__law_pace : FS := fSeq (fSet 1 (fLc [2, 3] (fZip (fName 0) (fFz (fSl (fLoc 0) (some (fVal (fC (.int 1)))) none))) (gTupF 2 (gsCons (gSet 2) (gsCons (gSet 3) (gsNil)))) (fYes) (fBin addD (fVal (fBin ixD (fLoc 2) (fVal (fC (.int 2))))) (fVal (fBin ixD (fLoc 3) (fVal (fC (.int 0)))))))) (fRet (fCallB maxLG (fCons (fVal (fBin addD (fVal (fLc [2] (fIter (fName 0)) (gSet 2) (fYes) (fBin ixD (fLoc 2) (fVal (fC (.int 1)))))) (fLoc 1))) (fNil))))
def G__law_pace : List D → GR := GF 1 4 false fb__law_pace
def fb_slowest : FS := fSeq (fPar 1 2 (fCall G_pace_of (fCons (fVal (fFz (fCall G_need_road (fCons (fVal (fName 0)) (fNil))))) (fNil))) (fCallB lstG (fNil))) (fSeq (fSet 3 (fCall G_rings_of (fCons (fVal (fName 0)) (fNil)))) (fSeq (fFor (fEnum (fName 0)) (gTupF 2 (gsCons (gSet 4) (gsCons (gSet 5) (gsNil)))) (fSeq (fIfS (fTst (fBin (eqD false) (fVal (fBin ixD (fLoc 5) (fVal (fC (.int 1))))) (fLoc 1))) (fDrop (fApp 2 (fCallB tupG (fCons (fVal (fName 4)) (fCons (fVal (fC (.str "hold"))) (fNil)))))) (fNx)) (fIfS (fAndT (fTst (fBin (ltD) (fLoc 4) (fVal (fCallB lenG (fCons (fLoc 3) (fNil)))))) (fTst (fBin (eqD false) (fVal (fBin ixD (fLoc 3) (fLoc 4))) (fLoc 1)))) (fDrop (fApp 2 (fCallB tupG (fCons (fVal (fName 4)) (fCons (fVal (fC (.str "ring"))) (fNil)))))) (fNx)))) (fRet (fCallB tupleG (fCons (fLoc 2) (fNil))))))
def G_slowest : List D → GR := GF 1 6 false fb_slowest
def fb__law_slowest : FS := fSeq (fPar 1 2 (fCall G__law_pace (fCons (fVal (fName 0)) (fNil))) (fCallB lstG (fNil))) (fSeq (fFor (fEnum (fName 0)) (gTupF 2 (gsCons (gSet 3) (gsCons (gSet 4) (gsNil)))) (fSeq (fIfS (fTst (fBin (eqD false) (fVal (fBin ixD (fLoc 4) (fVal (fC (.int 1))))) (fLoc 1))) (fDrop (fApp 2 (fCallB tupG (fCons (fVal (fName 3)) (fCons (fVal (fC (.str "hold"))) (fNil)))))) (fNx)) (fIfS (fAndT (fTst (fBin (ltD) (fLoc 3) (fVal (fBin subD (fVal (fCallB lenG (fCons (fLoc 0) (fNil)))) (fVal (fC (.int 1))))))) (fTst (fBin (eqD false) (fVal (fBin addD (fVal (fBin ixD (fLoc 4) (fVal (fC (.int 2))))) (fVal (fBin ixD (fVal (fBin ixD (fLoc 0) (fVal (fBin addD (fLoc 3) (fVal (fC (.int 1))))))) (fVal (fC (.int 0))))))) (fLoc 1)))) (fDrop (fApp 2 (fCallB tupG (fCons (fVal (fName 3)) (fCons (fVal (fC (.str "ring"))) (fNil)))))) (fNx)))) (fRet (fCallB tupleG (fCons (fLoc 2) (fNil)))))
def G__law_slowest : List D → GR := GF 1 5 false fb__law_slowest
def fb_need_tower : FS := fIfS (fNotT (fTst (fCall G_is_whole (fCons (fVal (fName 1)) (fCons (fVal (fC (.int 0))) (fCons (fVal (fFz (fBin subD (fVal (fCallB lenG (fCons (fVal (fCall G_need_road (fCons (fVal (fName 0)) (fNil)))) (fNil)))) (fVal (fC (.int 1)))))) (fNil))))))) ((fun _ => .stk)) (fNx)
def G_need_tower : List D → GR := GF 2 2 false fb_need_tower
def fb_when_in : FS := fSeq (fPar 3 4 (fCall G_rings_of (fCons (fVal (fName 0)) (fNil))) (fCallB sumG (fCons (fVal (fLc [9] (fIter (fFz (fSl (fLoc 0) (some (fVal (fC (.int 1)))) (some (fVal (fBin addD (fLoc 1) (fVal (fC (.int 1))))))))) (gSet 9) (fYes) (fBin ixD (fLoc 9) (fVal (fC (.int 0)))))) (fNil)))) (fSeq (fAsg (gTupF 2 (gsCons (gSet 5) (gsCons (gSet 6) (gsNil)))) (fCallB tupG (fCons (fVal (fC (.int 0))) (fCons (fVal (fC (.int 0))) (fNil))))) (fSeq (fSet 7 (fCallB maxLG (fCons (fVal (fBin addD (fVal (fLc [9] (fIter (fFz (fSl (fLoc 0) none (some (fVal (fBin addD (fLoc 1) (fVal (fC (.int 1))))))))) (gSet 9) (fYes) (fBin ixD (fLoc 9) (fVal (fC (.int 1)))))) (fVal (fSl (fLoc 3) none (some (fLoc 1)))))) (fNil)))) (fSeq (fFor (fRange2 (fLoc 1) (fVal (fBin addD (fVal (fCallB min2G (fCons (fVal (fBin subD (fVal (fCallB lenG (fCons (fLoc 0) (fNil)))) (fVal (fC (.int 1))))) (fCons (fVal (fBin addD (fLoc 1) (fLoc 2))) (fNil))))) (fVal (fC (.int 1)))))) (gSet 8) (fSeq (fIfS (fTst (fBin (gtD) (fLoc 8) (fLoc 1))) (fSeq (fAug 6 iaddD (fBin ixD (fLoc 3) (fVal (fBin subD (fLoc 8) (fVal (fC (.int 1))))))) (fSet 7 (fCallB max3G (fCons (fLoc 7) (fCons (fVal (fBin ixD (fVal (fBin ixD (fLoc 0) (fLoc 8))) (fVal (fC (.int 1))))) (fCons (fVal (fBin ixD (fLoc 3) (fVal (fBin subD (fLoc 8) (fVal (fC (.int 1))))))) (fNil))))))) (fNx)) (fSet 5 (fCallB max2G (fCons (fLoc 5) (fCons (fVal (fBin addD (fLoc 6) (fVal (fBin mulD (fVal (fBin addD (fVal (fBin subD (fLoc 2) (fLoc 8))) (fLoc 1))) (fLoc 7))))) (fNil))))))) (fRet (fBin addD (fLoc 4) (fLoc 5))))))
def G_when_in : List D → GR := GF 3 10 false fb_when_in
def fb_when : FS := fSeq (fDrop (fCall G_need_tower (fCons (fVal (fName 0)) (fCons (fVal (fName 1)) (fNil))))) (fSeq (fIfS (fNotT (fTst (fCall G_is_whole (fCons (fVal (fName 2)) (fCons (fVal (fC (.int 0))) (fCons (fVal (fC (.int 1000000000000000000000000000000))) (fNil))))))) ((fun _ => .stk)) (fNx)) (fRet (fCall G_when_in (fCons (fVal (fName 0)) (fCons (fVal (fName 1)) (fCons (fVal (fName 2)) (fNil)))))))
def G_when : List D → GR := GF 3 3 false fb_when
def fb_law : FS := fSeq (fSet 1 (fCall G__law_begun (fCons (fVal (fName 0)) (fNil)))) (fSeq (fFor (fRange1 (fVal (fBin addD (fVal (fC (.int 4))) (fVal (fCallB min2G (fCons (fVal (fCallB lenG (fCons (fLoc 0) (fNil)))) (fCons (fVal (fC (.int 7))) (fNil)))))))) (gSet 2) (fSeq (fSet 3 (fIf (fTst (fBin (gtD) (fLoc 2) (fVal (fC (.int 0))))) (fCallM G__law_way (fCons (fLoc 1) (fCons (fVal (fC (.int 6))) (fCons (fVal (fC (.int 9))) (fNil))))) (fCallM G__law_way (fCons (fLoc 1) (fCons (fVal (fC (.int 40))) (fCons (fVal (fC (.int 1000))) (fNil))))))) (fSeq (fSet 4 (fIf (fTst (fBin (gtD) (fLoc 2) (fVal (fC (.int 0))))) (fC (.int 25)) (fC (.int 60)))) (fSeq (fSet 5 (fCall G__law_film (fCons (fVal (fName 3)) (fCons (fVal (fName 4)) (fNil))))) (fSeq (fIfS (fOrT (fTst (fBin (eqD true) (fVal (fCall G_need_road (fCons (fVal (fName 3)) (fNil)))) (fLoc 3))) (fTst (fBin (eqD true) (fVal (fCallB reprG (fCons (fVal (fCall G_pace (fCons (fVal (fName 3)) (fNil)))) (fNil)))) (fVal (fCallB reprG (fCons (fVal (fCall G__law_pace (fCons (fVal (fName 3)) (fNil)))) (fNil))))))) (fRet (fC (.bl false))) (fNx)) (fSeq (fIfS (fTst (fBin (eqD true) (fVal (fCallB reprG (fCons (fVal (fCall G_slowest (fCons (fVal (fName 3)) (fNil)))) (fNil)))) (fVal (fCallB reprG (fCons (fVal (fCall G__law_slowest (fCons (fVal (fName 3)) (fNil)))) (fNil)))))) (fRet (fC (.bl false))) (fNx)) (fFor (fRange1 (fVal (fC (.int 20)))) (gSet 6) (fSeq (fPar 7 8 (fCallM G__law_next (fCons (fLoc 1) (fCons (fVal (fFz (fCallB lenG (fCons (fLoc 3) (fNil))))) (fNil)))) (fCallM G__law_next (fCons (fLoc 1) (fCons (fVal (fName 4)) (fNil))))) (fIfS (fTst (fBin (eqD true) (fVal (fCallB reprG (fCons (fVal (fCall G_when (fCons (fVal (fName 3)) (fCons (fVal (fName 7)) (fCons (fVal (fName 8)) (fNil)))))) (fNil)))) (fVal (fCallB reprG (fCons (fVal (fBin ixD (fVal (fBin ixD (fLoc 5) (fLoc 8))) (fLoc 7))) (fNil)))))) (fRet (fC (.bl false))) (fNx)))))))))) (fRet (fAndV (fBin (eqD false) (fVal (fCall G_when (fCons (fVal (fFz (fCallB tupG (fCons (fVal (fCallB tupG (fCons (fVal (fC (.int 5))) (fCons (fVal (fC (.int 2))) (fCons (fVal (fC (.int 7))) (fNil)))))) (fCons (fVal (fCallB tupG (fCons (fVal (fC (.int 3))) (fCons (fVal (fC (.int 4))) (fCons (fVal (fC (.int 0))) (fNil)))))) (fNil)))))) (fCons (fVal (fC (.int 1))) (fCons (fVal (fC (.int 3))) (fNil)))))) (fVal (fBin addD (fVal (fC (.int 3))) (fVal (fBin mulD (fVal (fC (.int 3))) (fVal (fC (.int 10)))))))) (fBin (eqD false) (fVal (fCall G_when (fCons (fVal (fFz (fCallB tupG (fCons (fVal (fCallB tupG (fCons (fVal (fC (.int 5))) (fCons (fVal (fC (.int 2))) (fCons (fVal (fC (.int 7))) (fNil)))))) (fNil))))) (fCons (fVal (fC (.int 0))) (fCons (fVal (fC (.int 9))) (fNil)))))) (fVal (fC (.int 18)))))))
def G_law : List D → GR := GF 1 9 false fb_law
end K49

namespace K49
open PySem DL L2 Rd

theorem next_eq : G__law_next = gB_next := rfl
theorem begun_eq : G__law_begun = gB_begun := rfl
theorem film_eq : G__law_film = Rd.G__law_film := rfl
theorem need_eq : G_need_road = Rd.G_need_road := rfl
theorem rings_eq : G_rings_of = Rd.G_rings_of := rfl
theorem when_eq : G_when = Rd.G_when := rfl
theorem tupleG_of {m : Bool} {xs : List D} (h : D.isFL xs = true) : tupleG [.lst m xs] = some (.tup xs) := if_pos h
theorem way_ok {n : Nat} {m : D} (hD : DrB n m) {most bound : Int} (h1 : 1 ≤ most) (h2 : most ≤ 40) (b1 : 1 ≤ bound) (b2 : bound ≤ 1000) (hn : n + 1000 < 2 ^ 40) :
    ∃ rd m', G__law_way [m, .int most, .int bound] = .ok (.tup (roadD rd)) [m'] ∧ Good rd ∧ DrB (n + 200) m' := by
  obtain ⟨c, m1, e1, c0, c1, D1⟩ := nextB hD (by omega) (t := most) (by omega) (small_log (by omega) (by omega))
  rw [← next_eq] at e1
  obtain ⟨c, rfl⟩ := Int.eq_ofNat_of_zero_le c0
  have lp := forF_inv (g := gSet 4) (body := fSeq (fPar 5 6 (fCallM G__law_next (fCons (fLoc 0) (fCons (fVal (fFz (fBin addD (fLoc 2) (fVal (fC (.int 1)))))) (fNil)))) (fBin addD (fVal (fC (.int 1))) (fVal (fCallM G__law_next (fCons (fLoc 0) (fCons (fVal (fName 2)) (fNil))))))) (fDrop (fApp 3 (fCallB tupG (fCons (fVal (fName 5)) (fCons (fVal (fName 6)) (fCons (fVal (fCallM G__law_next (fCons (fLoc 0) (fCons (fVal (fFz (fBin addD (fLoc 2) (fVal (fC (.int 1)))))) (fNil))))) (fNil)))))))) (ds := rangeL 0 (c + 1))
    (fun i ρ => ∃ rd m' o4 o5 o6, ρ = [some m', some (.int most), some (.int bound), some (.lst true (roadD rd)), o4, o5, o6] ∧ rd.length = i ∧ (∀ t ∈ rd, Ok t.1 t.2.1 t.2.2) ∧ DrB (n + 1 + 3 * i) m') (fun i d ρ hd hi => ?_)
    (ρ := [some m1, some (.int most), some (.int bound), some (.lst true []), none, none, none]) ⟨[], m1, _, _, _, rfl, rfl, (fun t ht => nomatch ht), D1⟩
  · obtain ⟨ρ', e, rd, m', o4, o5, o6, rfl, hl, ho, hD'⟩ := lp
    rw [rangeL_n] at hl hD'
    refine ⟨rd, m', ?_, ⟨ho, by omega, by omega⟩, hD'.mono (by omega)⟩
    unfold G__law_way
    rw [GF_3]
    unfold fb__law_way
    have ec : (1 + (c : Int)).toNat = c + 1 := by omega
    simp -implicitDefEqProofs only [slot_0, slot_n, slot_s, res_v, res_l, ev_C, ev_Name, ev_Name1, ev_Move, ev_Move1, ev_Loc, ev_Loc1, ev_Val, ev_Val1, ev_Fz, ev_Fz1, ev_l2, ev_l21, ev_l1, ev_l11, ev_Bin, ev_Bin1, ev_Un, ev_Tst, ev_asB, ev_NotT, ev_NotT1, ev_AndT, ev_AndT1, ev_OrT, ev_OrT1, ev_AndV, ev_AndV1, ev_OrV, ev_OrV1, ev_NotV, ev_NotV1, ev_If, ev_If1, ev_Ch, ev_Ch1, ev_Ch2, ev_Ch3, ev_Nil, ev_Cons, ev_Cons1, ev_Cons2, oc_s, ress_0, ress_s, ocF_s, resF_0, resF_s, ev_lN, ev_lN1, ev_CallB, kRet_ok, ev_Call, ev_Call1, ev_Call2, kRetM_ok, ev_CallM, ev_CallM1, ev_CallM2, ev_M1, ev_M11, ev_M12, ev_M13, ev_M14, ev_Pk, ev_Pk1, ev_PkSl, ev_PkSl1, ev_pk, ev_pk1, prt_n, prt_s, prt_1, prt_2, ev_Sl, ev_Sl0, ev_Sl1, ev_Sl2, ev_Sl3, ev_DG, ev_DGs, ev_DG0, ev_DG1, ev_DG2, ev_DG3, ev_DG4, ev_P0, ev_P1, ev_P2, ev_P3, ev_Disp, ev_Disp1, ev_Lc, ev_Lc1, ev_Lc2, ev_Yes, wipe_0, wipe_s, rest_0, rest_s, ev_Iter, ev_Iter1, ev_Enum, ev_Enum1, ev_Zip, ev_Zip1, ev_Zip2, ev_Zip3, ev_Rg, ev_Rg0, ev_Rg1, ev_Rh, ev_Rh0, ev_Rh1, ev_Rh2, ev_gS, ev_gN, ev_gC, ev_gT, ev_StL, ev_StL1, ev_StL2, ev_StD, ev_StD1, ev_StD2, ev_Seq, seq_nx, seq_rt, seq_bk, seq_ct, ev_Nx, ev_Set, ev_Set1, ev_Drop, ev_Drop1, ev_Ret, ev_IfS, ev_IfS1, ev_Asg, ev_Asg1, ofS_some, ev_Par, ev_Par1, ev_Par2, ev_Tri, ev_Tri1, ev_Tri2, ev_Tri3, ev_Aug, ev_Aug1, ev_Aug2, ev_Aug3, ev_For, nox_lc, R.bind_ok, R.bindS_ok, R.of_some, List.set_cons_zero, List.set_cons_succ, if_true, Bool.false_eq_true, if_false, Bool.not_true, Bool.not_false, Option.bind_some, Option.map_some, ev_Nest, ev_Nest1, lst_nil, frz_int, frz_str, frz_bl, frz_lst, frzL_int, frzL_str, frz_non, frz_tup, frzL_cons, frzL_nil, isF_tup, isFL_cons, isFL_nil, Bool.and_true, Bool.true_and, Bool.and_self, ev_App, ev_App0, ev_App1, isF_int, isF_str, isF_bl, isF_lst, isFL_int, isFL_str, isF_non, isF_opq, fin_rt, fin_nx, endG_f, endG_t, D.key, List.replicate, e1, add_int, if_pos (big62_at (i := 1 + (c : Int)) (by omega) (by omega)), ec, kFor, e, tupleG_of roadD_F]
  · obtain ⟨rd, m', o4, o5, o6, rfl, hl, ho, hD'⟩ := hi
    obtain ⟨hi, rfl⟩ := rangeL_get hd
    obtain ⟨s, m2, e2, s0, s1, D2⟩ := nextB hD' (by omega) (t := bound + 1) (by omega) (small_log (by omega) (by omega))
    rw [← next_eq] at e2
    obtain ⟨h, m3, e3, h0, h1', D3⟩ := nextB D2 (by omega) (t := bound) (by omega) (small_log (by omega) (by omega))
    rw [← next_eq] at e3
    obtain ⟨a, m4, e4, a0, a1, D4⟩ := nextB D3 (by omega) (t := bound + 1) (by omega) (small_log (by omega) (by omega))
    rw [← next_eq] at e4
    have tg : tupG [.int s, .int (1 + h), .int a] = some (tri s (1 + h) a) := tupG_of (by show 3 ≤ sizeLine; decide) rfl
    have ap : (roadD rd).length < sizeLine := Nat.lt_of_le_of_lt (by rw [roadD_len, hl]; exact Nat.le_of_lt (Nat.lt_of_lt_of_le hi (show c + 1 ≤ 41 by omega))) (by decide)
    have rs : roadD rd ++ [tri s (1 + h) a] = roadD (rd ++ [(s, 1 + h, a)]) := by unfold roadD; rw [List.map_append]; rfl
    refine ⟨_, [some m4, some (.int most), some (.int bound), some (.lst true (roadD (rd ++ [(s, 1 + h, a)]))), some (.int (0 + (i : Int))), some (.int s), some (.int (1 + h))], rfl, .inl ?_, rd ++ [(s, 1 + h, a)], m4, _, _, _, rfl, by simp [hl], fun t ht => ?_, D4.mono (by omega)⟩
    · simp -implicitDefEqProofs only [slot_0, slot_n, slot_s, res_v, res_l, ev_C, ev_Name, ev_Name1, ev_Move, ev_Move1, ev_Loc, ev_Loc1, ev_Val, ev_Val1, ev_Fz, ev_Fz1, ev_l2, ev_l21, ev_l1, ev_l11, ev_Bin, ev_Bin1, ev_Un, ev_Tst, ev_asB, ev_NotT, ev_NotT1, ev_AndT, ev_AndT1, ev_OrT, ev_OrT1, ev_AndV, ev_AndV1, ev_OrV, ev_OrV1, ev_NotV, ev_NotV1, ev_If, ev_If1, ev_Ch, ev_Ch1, ev_Ch2, ev_Ch3, ev_Nil, ev_Cons, ev_Cons1, ev_Cons2, oc_s, ress_0, ress_s, ocF_s, resF_0, resF_s, ev_lN, ev_lN1, ev_CallB, kRet_ok, ev_Call, ev_Call1, ev_Call2, kRetM_ok, ev_CallM, ev_CallM1, ev_CallM2, ev_M1, ev_M11, ev_M12, ev_M13, ev_M14, ev_Pk, ev_Pk1, ev_PkSl, ev_PkSl1, ev_pk, ev_pk1, prt_n, prt_s, prt_1, prt_2, ev_Sl, ev_Sl0, ev_Sl1, ev_Sl2, ev_Sl3, ev_DG, ev_DGs, ev_DG0, ev_DG1, ev_DG2, ev_DG3, ev_DG4, ev_P0, ev_P1, ev_P2, ev_P3, ev_Disp, ev_Disp1, ev_Lc, ev_Lc1, ev_Lc2, ev_Yes, wipe_0, wipe_s, rest_0, rest_s, ev_Iter, ev_Iter1, ev_Enum, ev_Enum1, ev_Zip, ev_Zip1, ev_Zip2, ev_Zip3, ev_Rg, ev_Rg0, ev_Rg1, ev_Rh, ev_Rh0, ev_Rh1, ev_Rh2, ev_gS, ev_gN, ev_gC, ev_gT, ev_StL, ev_StL1, ev_StL2, ev_StD, ev_StD1, ev_StD2, ev_Seq, seq_nx, seq_rt, seq_bk, seq_ct, ev_Nx, ev_Set, ev_Set1, ev_Drop, ev_Drop1, ev_Ret, ev_IfS, ev_IfS1, ev_Asg, ev_Asg1, ofS_some, ev_Par, ev_Par1, ev_Par2, ev_Tri, ev_Tri1, ev_Tri2, ev_Tri3, ev_Aug, ev_Aug1, ev_Aug2, ev_Aug3, ev_For, nox_lc, R.bind_ok, R.bindS_ok, R.of_some, List.set_cons_zero, List.set_cons_succ, if_true, Bool.false_eq_true, if_false, Bool.not_true, Bool.not_false, Option.bind_some, Option.map_some, ev_Nest, ev_Nest1, lst_nil, frz_int, frz_str, frz_bl, frz_lst, frzL_int, frzL_str, frz_non, frz_tup, frzL_cons, frzL_nil, isF_tup, isFL_cons, isFL_nil, Bool.and_true, Bool.true_and, Bool.and_self, ev_App, ev_App0, ev_App1, isF_int, isF_str, isF_bl, isF_lst, isFL_int, isFL_str, isF_non, isF_opq, fin_rt, fin_nx, endG_f, endG_t, D.key, add_int, e2, e3, tg, e4, ev_App2 ap, rs]
    · rcases List.mem_append.mp ht with q | q
      · exact ho t q
      · rw [List.mem_singleton.mp q]
        exact ⟨s0, by show s ≤ 1000; omega, by show 1 ≤ 1 + h; omega, by show 1 + h ≤ 1000; omega, a0, by show a ≤ 1000; omega⟩
theorem roadD_range {rd : List Tr} : roadD rd = (List.range rd.length).map fun k => tri (sF rd k) (hF rd k) (aF rd k) := by
  apply List.ext_getElem?
  intro k
  rw [List.getElem?_map]
  by_cases hk : k < rd.length
  · rw [roadD_get hk, List.getElem?_range hk]; rfl
  · rw [List.getElem?_eq_none (by rw [roadD_len]; omega), List.getElem?_eq_none (l := List.range _) (by rw [List.length_range]; omega)]; rfl
abbrev PC (rd : List Tr) : Int := bs (sF rd) (hF rd) (aF rd) (rd.length - 1)
theorem pace_max {rd : List Tr} (g : Good rd) : maxLG [.lst true (((List.range rd.length).map (hF rd) ++ rgL rd (rd.length - 1)).map D.int)] = some (.int (PC rd)) := by
  have l1 := g.l1
  rw [maxLG_ints (by rw [List.length_append, List.length_map, List.length_range]; omega)]
  have := maxL_bs (s := sF rd) (h := hF rd) (a := aF rd) (rd.length - 1)
  rw [show rd.length - 1 + 1 = rd.length by omega] at this
  unfold rgL
  rw [this]
theorem holds_add {rd : List Tr} (g : Good rd) {m m' : Bool} : addD (.lst m (((List.range rd.length).map (hF rd)).map D.int)) (.lst m' ((rgL rd (rd.length - 1)).map D.int)) = some (.lst true (((List.range rd.length).map (hF rd) ++ rgL rd (rd.length - 1)).map D.int)) := by
  have l2 := g.l2
  rw [addD_lst (by simp only [List.length_map, List.length_range, rgL_len]; exact sz1000 (by omega)) (isFL_int _) (isFL_int _), List.map_append]
theorem pace_of_ok {rd : List Tr} (g : Good rd) : G_pace_of [.tup (roadD rd)] = .ok (.int (PC rd)) [] := by
  have l2 := g.l2
  unfold G_pace_of
  rw [GF_1]
  unfold fb_pace_of
  have lc : lcF [1] (gSet 1) fYes (fBin ixD (fLoc 1) (fVal (fC (.int 1)))) (roadD rd) 0 [some (.tup (roadD rd)), none] = .ok (((List.range rd.length).map (hF rd)).map D.int) [some (.tup (roadD rd)), none] := by
    rw [lcF_map (fun _ => true) (fun d => match d with | .tup [_, x, _] => x | d => d) (by rw [roadD_len]; exact sz1000 (by omega)) (fun d hd => ?_)]
    · congr 1
      rw [List.filter_eq_self.mpr (fun _ _ => rfl), roadD_range, List.map_map, List.map_map]; rfl
    · obtain ⟨t, _, rfl⟩ := List.mem_map.mp hd
      refine ⟨_, _, rfl, rfl, (fun h => by cases h), fun _ => ⟨[some (.tup (roadD rd)), some (td t)], ?_, rfl⟩⟩
      simp -implicitDefEqProofs only [slot_0, slot_n, slot_s, res_v, res_l, ev_C, ev_Name, ev_Name1, ev_Move, ev_Move1, ev_Loc, ev_Loc1, ev_Val, ev_Val1, ev_Fz, ev_Fz1, ev_l2, ev_l21, ev_l1, ev_l11, ev_Bin, ev_Bin1, ev_Un, ev_Tst, ev_asB, ev_NotT, ev_NotT1, ev_AndT, ev_AndT1, ev_OrT, ev_OrT1, ev_AndV, ev_AndV1, ev_OrV, ev_OrV1, ev_NotV, ev_NotV1, ev_If, ev_If1, ev_Ch, ev_Ch1, ev_Ch2, ev_Ch3, ev_Nil, ev_Cons, ev_Cons1, ev_Cons2, oc_s, ress_0, ress_s, ocF_s, resF_0, resF_s, ev_lN, ev_lN1, ev_CallB, kRet_ok, ev_Call, ev_Call1, ev_Call2, kRetM_ok, ev_CallM, ev_CallM1, ev_CallM2, ev_M1, ev_M11, ev_M12, ev_M13, ev_M14, ev_Pk, ev_Pk1, ev_PkSl, ev_PkSl1, ev_pk, ev_pk1, prt_n, prt_s, prt_1, prt_2, ev_Sl, ev_Sl0, ev_Sl1, ev_Sl2, ev_Sl3, ev_DG, ev_DGs, ev_DG0, ev_DG1, ev_DG2, ev_DG3, ev_DG4, ev_P0, ev_P1, ev_P2, ev_P3, ev_Disp, ev_Disp1, ev_Lc, ev_Lc1, ev_Lc2, ev_Yes, wipe_0, wipe_s, rest_0, rest_s, ev_Iter, ev_Iter1, ev_Enum, ev_Enum1, ev_Zip, ev_Zip1, ev_Zip2, ev_Zip3, ev_Rg, ev_Rg0, ev_Rg1, ev_Rh, ev_Rh0, ev_Rh1, ev_Rh2, ev_gS, ev_gN, ev_gC, ev_gT, ev_StL, ev_StL1, ev_StL2, ev_StD, ev_StD1, ev_StD2, ev_Seq, seq_nx, seq_rt, seq_bk, seq_ct, ev_Nx, ev_Set, ev_Set1, ev_Drop, ev_Drop1, ev_Ret, ev_IfS, ev_IfS1, ev_Asg, ev_Asg1, ofS_some, ev_Par, ev_Par1, ev_Par2, ev_Tri, ev_Tri1, ev_Tri2, ev_Tri3, ev_Aug, ev_Aug1, ev_Aug2, ev_Aug3, ev_For, nox_lc, R.bind_ok, R.bindS_ok, R.of_some, List.set_cons_zero, List.set_cons_succ, if_true, Bool.false_eq_true, if_false, Bool.not_true, Bool.not_false, Option.bind_some, Option.map_some, ev_Nest, ev_Nest1, lst_nil, frz_int, frz_str, frz_bl, frz_lst, frzL_int, frzL_str, frz_non, frz_tup, frzL_cons, frzL_nil, isF_tup, isFL_cons, isFL_nil, Bool.and_true, Bool.true_and, Bool.and_self, ev_App, ev_App0, ev_App1, isF_int, isF_str, isF_bl, isF_lst, isFL_int, isFL_str, isF_non, isF_opq, fin_rt, fin_nx, endG_f, endG_t, D.key, tri_1]
  have rgs := Rd.rings_ok g
  rw [← rings_eq] at rgs
  simp -implicitDefEqProofs only [slot_0, slot_n, slot_s, res_v, res_l, ev_C, ev_Name, ev_Name1, ev_Move, ev_Move1, ev_Loc, ev_Loc1, ev_Val, ev_Val1, ev_Fz, ev_Fz1, ev_l2, ev_l21, ev_l1, ev_l11, ev_Bin, ev_Bin1, ev_Un, ev_Tst, ev_asB, ev_NotT, ev_NotT1, ev_AndT, ev_AndT1, ev_OrT, ev_OrT1, ev_AndV, ev_AndV1, ev_OrV, ev_OrV1, ev_NotV, ev_NotV1, ev_If, ev_If1, ev_Ch, ev_Ch1, ev_Ch2, ev_Ch3, ev_Nil, ev_Cons, ev_Cons1, ev_Cons2, oc_s, ress_0, ress_s, ocF_s, resF_0, resF_s, ev_lN, ev_lN1, ev_CallB, kRet_ok, ev_Call, ev_Call1, ev_Call2, kRetM_ok, ev_CallM, ev_CallM1, ev_CallM2, ev_M1, ev_M11, ev_M12, ev_M13, ev_M14, ev_Pk, ev_Pk1, ev_PkSl, ev_PkSl1, ev_pk, ev_pk1, prt_n, prt_s, prt_1, prt_2, ev_Sl, ev_Sl0, ev_Sl1, ev_Sl2, ev_Sl3, ev_DG, ev_DGs, ev_DG0, ev_DG1, ev_DG2, ev_DG3, ev_DG4, ev_P0, ev_P1, ev_P2, ev_P3, ev_Disp, ev_Disp1, ev_Lc, ev_Lc1, ev_Lc2, ev_Yes, wipe_0, wipe_s, rest_0, rest_s, ev_Iter, ev_Iter1, ev_Enum, ev_Enum1, ev_Zip, ev_Zip1, ev_Zip2, ev_Zip3, ev_Rg, ev_Rg0, ev_Rg1, ev_Rh, ev_Rh0, ev_Rh1, ev_Rh2, ev_gS, ev_gN, ev_gC, ev_gT, ev_StL, ev_StL1, ev_StL2, ev_StD, ev_StD1, ev_StD2, ev_Seq, seq_nx, seq_rt, seq_bk, seq_ct, ev_Nx, ev_Set, ev_Set1, ev_Drop, ev_Drop1, ev_Ret, ev_IfS, ev_IfS1, ev_Asg, ev_Asg1, ofS_some, ev_Par, ev_Par1, ev_Par2, ev_Tri, ev_Tri1, ev_Tri2, ev_Tri3, ev_Aug, ev_Aug1, ev_Aug2, ev_Aug3, ev_For, nox_lc, R.bind_ok, R.bindS_ok, R.of_some, List.set_cons_zero, List.set_cons_succ, if_true, Bool.false_eq_true, if_false, Bool.not_true, Bool.not_false, Option.bind_some, Option.map_some, ev_Nest, ev_Nest1, lst_nil, frz_int, frz_str, frz_bl, frz_lst, frzL_int, frzL_str, frz_non, frz_tup, frzL_cons, frzL_nil, isF_tup, isFL_cons, isFL_nil, Bool.and_true, Bool.true_and, Bool.and_self, ev_App, ev_App0, ev_App1, isF_int, isF_str, isF_bl, isF_lst, isFL_int, isFL_str, isF_non, isF_opq, fin_rt, fin_nx, endG_f, endG_t, D.key, List.replicate, roadD_z, roadD_F, items_tup roadD_F, lc, rgs, holds_add g, pace_max g]
theorem pace_ok {rd : List Tr} (g : Good rd) : G_pace [.tup (roadD rd)] = .ok (.int (PC rd)) [] := by
  unfold G_pace
  rw [GF_1]
  unfold fb_pace
  have e1 := Rd.need_ok g
  rw [← need_eq] at e1
  have e2 := pace_of_ok g
  simp -implicitDefEqProofs only [slot_0, slot_n, slot_s, res_v, res_l, ev_C, ev_Name, ev_Name1, ev_Move, ev_Move1, ev_Loc, ev_Loc1, ev_Val, ev_Val1, ev_Fz, ev_Fz1, ev_l2, ev_l21, ev_l1, ev_l11, ev_Bin, ev_Bin1, ev_Un, ev_Tst, ev_asB, ev_NotT, ev_NotT1, ev_AndT, ev_AndT1, ev_OrT, ev_OrT1, ev_AndV, ev_AndV1, ev_OrV, ev_OrV1, ev_NotV, ev_NotV1, ev_If, ev_If1, ev_Ch, ev_Ch1, ev_Ch2, ev_Ch3, ev_Nil, ev_Cons, ev_Cons1, ev_Cons2, oc_s, ress_0, ress_s, ocF_s, resF_0, resF_s, ev_lN, ev_lN1, ev_CallB, kRet_ok, ev_Call, ev_Call1, ev_Call2, kRetM_ok, ev_CallM, ev_CallM1, ev_CallM2, ev_M1, ev_M11, ev_M12, ev_M13, ev_M14, ev_Pk, ev_Pk1, ev_PkSl, ev_PkSl1, ev_pk, ev_pk1, prt_n, prt_s, prt_1, prt_2, ev_Sl, ev_Sl0, ev_Sl1, ev_Sl2, ev_Sl3, ev_DG, ev_DGs, ev_DG0, ev_DG1, ev_DG2, ev_DG3, ev_DG4, ev_P0, ev_P1, ev_P2, ev_P3, ev_Disp, ev_Disp1, ev_Lc, ev_Lc1, ev_Lc2, ev_Yes, wipe_0, wipe_s, rest_0, rest_s, ev_Iter, ev_Iter1, ev_Enum, ev_Enum1, ev_Zip, ev_Zip1, ev_Zip2, ev_Zip3, ev_Rg, ev_Rg0, ev_Rg1, ev_Rh, ev_Rh0, ev_Rh1, ev_Rh2, ev_gS, ev_gN, ev_gC, ev_gT, ev_StL, ev_StL1, ev_StL2, ev_StD, ev_StD1, ev_StD2, ev_Seq, seq_nx, seq_rt, seq_bk, seq_ct, ev_Nx, ev_Set, ev_Set1, ev_Drop, ev_Drop1, ev_Ret, ev_IfS, ev_IfS1, ev_Asg, ev_Asg1, ofS_some, ev_Par, ev_Par1, ev_Par2, ev_Tri, ev_Tri1, ev_Tri2, ev_Tri3, ev_Aug, ev_Aug1, ev_Aug2, ev_Aug3, ev_For, nox_lc, R.bind_ok, R.bindS_ok, R.of_some, List.set_cons_zero, List.set_cons_succ, if_true, Bool.false_eq_true, if_false, Bool.not_true, Bool.not_false, Option.bind_some, Option.map_some, ev_Nest, ev_Nest1, lst_nil, frz_int, frz_str, frz_bl, frz_lst, frzL_int, frzL_str, frz_non, frz_tup, frzL_cons, frzL_nil, isF_tup, isFL_cons, isFL_nil, Bool.and_true, Bool.true_and, Bool.and_self, ev_App, ev_App0, ev_App1, isF_int, isF_str, isF_bl, isF_lst, isFL_int, isFL_str, isF_non, isF_opq, fin_rt, fin_nx, endG_f, endG_t, D.key, List.replicate, roadD_z, roadD_F, e1, e2]
theorem drop_F {rd : List Tr} : D.isFL ((roadD rd).drop 1) = true := by
  have : (roadD rd).drop 1 = roadD (rd.drop 1) := by unfold roadD; rw [List.map_drop]
  rw [this]; exact roadD_F
theorem zip_road {rd : List Tr} : List.zipWith (fun x y => D.tup [x, y]) (roadD rd) ((roadD rd).drop 1) = (List.range (rd.length - 1)).map fun k => D.tup [tri (sF rd k) (hF rd k) (aF rd k), tri (sF rd (k + 1)) (hF rd (k + 1)) (aF rd (k + 1))] := by
  apply List.ext_getElem?
  intro k
  rw [List.getElem?_zipWith, List.getElem?_map, List.getElem?_drop]
  by_cases hk : k < rd.length - 1
  · rw [roadD_get (show k < rd.length by omega), Nat.add_comm 1 k, roadD_get (show k + 1 < rd.length by omega), List.getElem?_range hk]; rfl
  · rw [List.getElem?_eq_none (l := roadD rd) (i := 1 + k) (by rw [roadD_len]; omega), List.getElem?_eq_none (l := List.range (rd.length - 1)) (by rw [List.length_range]; omega)]
    cases (roadD rd)[k]? <;> rfl
theorem law_pace_ok {rd : List Tr} (g : Good rd) : G__law_pace [.tup (roadD rd)] = .ok (.int (PC rd)) [] := by
  have l2 := g.l2
  unfold G__law_pace
  rw [GF_1]
  unfold fb__law_pace
  have e1 : slD (.tup (roadD rd)) (some 1) none = some (.tup ((roadD rd).drop 1)) := by
    rw [sl_tup roadD_F, show cutL (roadD rd) (some 1) none = (roadD rd).drop 1 from cutL_n_ _ 1]
  have lc : lcF [2, 3] (gTupF 2 (gsCons (gSet 2) (gsCons (gSet 3) (gsNil)))) fYes (fBin addD (fVal (fBin ixD (fLoc 2) (fVal (fC (.int 2))))) (fVal (fBin ixD (fLoc 3) (fVal (fC (.int 0)))))) ((List.range (rd.length - 1)).map fun k => D.tup [tri (sF rd k) (hF rd k) (aF rd k), tri (sF rd (k + 1)) (hF rd (k + 1)) (aF rd (k + 1))]) 0 [some (.tup (roadD rd)), none, none, none] = .ok ((rgL rd (rd.length - 1)).map D.int) [some (.tup (roadD rd)), none, none, none] := by
    rw [lcF_map (fun _ => true) (fun d => match d with | .tup [.tup [_, _, .int x], .tup [.int y, _, _]] => .int (x + y) | d => d) (by rw [List.length_map, List.length_range]; exact sz1000 (by omega)) (fun d hd => ?_)]
    · congr 1
      rw [List.filter_eq_self.mpr (fun _ _ => rfl)]
      unfold rgL
      rw [List.map_map, List.map_map]
      rfl
    · obtain ⟨k, _, rfl⟩ := List.mem_map.mp hd
      refine ⟨_, _, rfl, rfl, (fun h => by cases h), fun _ => ⟨[some (.tup (roadD rd)), none, some (tri (sF rd k) (hF rd k) (aF rd k)), some (tri (sF rd (k + 1)) (hF rd (k + 1)) (aF rd (k + 1)))], ?_, rfl⟩⟩
      simp -implicitDefEqProofs only [slot_0, slot_n, slot_s, res_v, res_l, ev_C, ev_Name, ev_Name1, ev_Move, ev_Move1, ev_Loc, ev_Loc1, ev_Val, ev_Val1, ev_Fz, ev_Fz1, ev_l2, ev_l21, ev_l1, ev_l11, ev_Bin, ev_Bin1, ev_Un, ev_Tst, ev_asB, ev_NotT, ev_NotT1, ev_AndT, ev_AndT1, ev_OrT, ev_OrT1, ev_AndV, ev_AndV1, ev_OrV, ev_OrV1, ev_NotV, ev_NotV1, ev_If, ev_If1, ev_Ch, ev_Ch1, ev_Ch2, ev_Ch3, ev_Nil, ev_Cons, ev_Cons1, ev_Cons2, oc_s, ress_0, ress_s, ocF_s, resF_0, resF_s, ev_lN, ev_lN1, ev_CallB, kRet_ok, ev_Call, ev_Call1, ev_Call2, kRetM_ok, ev_CallM, ev_CallM1, ev_CallM2, ev_M1, ev_M11, ev_M12, ev_M13, ev_M14, ev_Pk, ev_Pk1, ev_PkSl, ev_PkSl1, ev_pk, ev_pk1, prt_n, prt_s, prt_1, prt_2, ev_Sl, ev_Sl0, ev_Sl1, ev_Sl2, ev_Sl3, ev_DG, ev_DGs, ev_DG0, ev_DG1, ev_DG2, ev_DG3, ev_DG4, ev_P0, ev_P1, ev_P2, ev_P3, ev_Disp, ev_Disp1, ev_Lc, ev_Lc1, ev_Lc2, ev_Yes, wipe_0, wipe_s, rest_0, rest_s, ev_Iter, ev_Iter1, ev_Enum, ev_Enum1, ev_Zip, ev_Zip1, ev_Zip2, ev_Zip3, ev_Rg, ev_Rg0, ev_Rg1, ev_Rh, ev_Rh0, ev_Rh1, ev_Rh2, ev_gS, ev_gN, ev_gC, ev_gT, ev_StL, ev_StL1, ev_StL2, ev_StD, ev_StD1, ev_StD2, ev_Seq, seq_nx, seq_rt, seq_bk, seq_ct, ev_Nx, ev_Set, ev_Set1, ev_Drop, ev_Drop1, ev_Ret, ev_IfS, ev_IfS1, ev_Asg, ev_Asg1, ofS_some, ev_Par, ev_Par1, ev_Par2, ev_Tri, ev_Tri1, ev_Tri2, ev_Tri3, ev_Aug, ev_Aug1, ev_Aug2, ev_Aug3, ev_For, nox_lc, R.bind_ok, R.bindS_ok, R.of_some, List.set_cons_zero, List.set_cons_succ, if_true, Bool.false_eq_true, if_false, Bool.not_true, Bool.not_false, Option.bind_some, Option.map_some, ev_Nest, ev_Nest1, lst_nil, frz_int, frz_str, frz_bl, frz_lst, frzL_int, frzL_str, frz_non, frz_tup, frzL_cons, frzL_nil, isF_tup, isFL_cons, isFL_nil, Bool.and_true, Bool.true_and, Bool.and_self, ev_App, ev_App0, ev_App1, isF_int, isF_str, isF_bl, isF_lst, isFL_int, isFL_str, isF_non, isF_opq, fin_rt, fin_nx, endG_f, endG_t, D.key, tri_2, tri_0, add_int]
  have lc2 : lcF [2] (gSet 2) fYes (fBin ixD (fLoc 2) (fVal (fC (.int 1)))) (roadD rd) 0 [some (.tup (roadD rd)), some (.lst true ((rgL rd (rd.length - 1)).map D.int)), none, none] = .ok (((List.range rd.length).map (hF rd)).map D.int) [some (.tup (roadD rd)), some (.lst true ((rgL rd (rd.length - 1)).map D.int)), none, none] := by
    rw [lcF_map (fun _ => true) (fun d => match d with | .tup [_, x, _] => x | d => d) (by rw [roadD_len]; exact sz1000 (by omega)) (fun d hd => ?_)]
    · congr 1
      rw [List.filter_eq_self.mpr (fun _ _ => rfl), roadD_range, List.map_map, List.map_map]; rfl
    · obtain ⟨t, _, rfl⟩ := List.mem_map.mp hd
      refine ⟨_, _, rfl, rfl, (fun h => by cases h), fun _ => ⟨[some (.tup (roadD rd)), some (.lst true ((rgL rd (rd.length - 1)).map D.int)), some (td t), none], ?_, rfl⟩⟩
      simp -implicitDefEqProofs only [slot_0, slot_n, slot_s, res_v, res_l, ev_C, ev_Name, ev_Name1, ev_Move, ev_Move1, ev_Loc, ev_Loc1, ev_Val, ev_Val1, ev_Fz, ev_Fz1, ev_l2, ev_l21, ev_l1, ev_l11, ev_Bin, ev_Bin1, ev_Un, ev_Tst, ev_asB, ev_NotT, ev_NotT1, ev_AndT, ev_AndT1, ev_OrT, ev_OrT1, ev_AndV, ev_AndV1, ev_OrV, ev_OrV1, ev_NotV, ev_NotV1, ev_If, ev_If1, ev_Ch, ev_Ch1, ev_Ch2, ev_Ch3, ev_Nil, ev_Cons, ev_Cons1, ev_Cons2, oc_s, ress_0, ress_s, ocF_s, resF_0, resF_s, ev_lN, ev_lN1, ev_CallB, kRet_ok, ev_Call, ev_Call1, ev_Call2, kRetM_ok, ev_CallM, ev_CallM1, ev_CallM2, ev_M1, ev_M11, ev_M12, ev_M13, ev_M14, ev_Pk, ev_Pk1, ev_PkSl, ev_PkSl1, ev_pk, ev_pk1, prt_n, prt_s, prt_1, prt_2, ev_Sl, ev_Sl0, ev_Sl1, ev_Sl2, ev_Sl3, ev_DG, ev_DGs, ev_DG0, ev_DG1, ev_DG2, ev_DG3, ev_DG4, ev_P0, ev_P1, ev_P2, ev_P3, ev_Disp, ev_Disp1, ev_Lc, ev_Lc1, ev_Lc2, ev_Yes, wipe_0, wipe_s, rest_0, rest_s, ev_Iter, ev_Iter1, ev_Enum, ev_Enum1, ev_Zip, ev_Zip1, ev_Zip2, ev_Zip3, ev_Rg, ev_Rg0, ev_Rg1, ev_Rh, ev_Rh0, ev_Rh1, ev_Rh2, ev_gS, ev_gN, ev_gC, ev_gT, ev_StL, ev_StL1, ev_StL2, ev_StD, ev_StD1, ev_StD2, ev_Seq, seq_nx, seq_rt, seq_bk, seq_ct, ev_Nx, ev_Set, ev_Set1, ev_Drop, ev_Drop1, ev_Ret, ev_IfS, ev_IfS1, ev_Asg, ev_Asg1, ofS_some, ev_Par, ev_Par1, ev_Par2, ev_Tri, ev_Tri1, ev_Tri2, ev_Tri3, ev_Aug, ev_Aug1, ev_Aug2, ev_Aug3, ev_For, nox_lc, R.bind_ok, R.bindS_ok, R.of_some, List.set_cons_zero, List.set_cons_succ, if_true, Bool.false_eq_true, if_false, Bool.not_true, Bool.not_false, Option.bind_some, Option.map_some, ev_Nest, ev_Nest1, lst_nil, frz_int, frz_str, frz_bl, frz_lst, frzL_int, frzL_str, frz_non, frz_tup, frzL_cons, frzL_nil, isF_tup, isFL_cons, isFL_nil, Bool.and_true, Bool.true_and, Bool.and_self, ev_App, ev_App0, ev_App1, isF_int, isF_str, isF_bl, isF_lst, isFL_int, isFL_str, isF_non, isF_opq, fin_rt, fin_nx, endG_f, endG_t, D.key, tri_1]
  simp -implicitDefEqProofs only [slot_0, slot_n, slot_s, res_v, res_l, ev_C, ev_Name, ev_Name1, ev_Move, ev_Move1, ev_Loc, ev_Loc1, ev_Val, ev_Val1, ev_Fz, ev_Fz1, ev_l2, ev_l21, ev_l1, ev_l11, ev_Bin, ev_Bin1, ev_Un, ev_Tst, ev_asB, ev_NotT, ev_NotT1, ev_AndT, ev_AndT1, ev_OrT, ev_OrT1, ev_AndV, ev_AndV1, ev_OrV, ev_OrV1, ev_NotV, ev_NotV1, ev_If, ev_If1, ev_Ch, ev_Ch1, ev_Ch2, ev_Ch3, ev_Nil, ev_Cons, ev_Cons1, ev_Cons2, oc_s, ress_0, ress_s, ocF_s, resF_0, resF_s, ev_lN, ev_lN1, ev_CallB, kRet_ok, ev_Call, ev_Call1, ev_Call2, kRetM_ok, ev_CallM, ev_CallM1, ev_CallM2, ev_M1, ev_M11, ev_M12, ev_M13, ev_M14, ev_Pk, ev_Pk1, ev_PkSl, ev_PkSl1, ev_pk, ev_pk1, prt_n, prt_s, prt_1, prt_2, ev_Sl, ev_Sl0, ev_Sl1, ev_Sl2, ev_Sl3, ev_DG, ev_DGs, ev_DG0, ev_DG1, ev_DG2, ev_DG3, ev_DG4, ev_P0, ev_P1, ev_P2, ev_P3, ev_Disp, ev_Disp1, ev_Lc, ev_Lc1, ev_Lc2, ev_Yes, wipe_0, wipe_s, rest_0, rest_s, ev_Iter, ev_Iter1, ev_Enum, ev_Enum1, ev_Zip, ev_Zip1, ev_Zip2, ev_Zip3, ev_Rg, ev_Rg0, ev_Rg1, ev_Rh, ev_Rh0, ev_Rh1, ev_Rh2, ev_gS, ev_gN, ev_gC, ev_gT, ev_StL, ev_StL1, ev_StL2, ev_StD, ev_StD1, ev_StD2, ev_Seq, seq_nx, seq_rt, seq_bk, seq_ct, ev_Nx, ev_Set, ev_Set1, ev_Drop, ev_Drop1, ev_Ret, ev_IfS, ev_IfS1, ev_Asg, ev_Asg1, ofS_some, ev_Par, ev_Par1, ev_Par2, ev_Tri, ev_Tri1, ev_Tri2, ev_Tri3, ev_Aug, ev_Aug1, ev_Aug2, ev_Aug3, ev_For, nox_lc, R.bind_ok, R.bindS_ok, R.of_some, List.set_cons_zero, List.set_cons_succ, if_true, Bool.false_eq_true, if_false, Bool.not_true, Bool.not_false, Option.bind_some, Option.map_some, ev_Nest, ev_Nest1, lst_nil, frz_int, frz_str, frz_bl, frz_lst, frzL_int, frzL_str, frz_non, frz_tup, frzL_cons, frzL_nil, isF_tup, isFL_cons, isFL_nil, Bool.and_true, Bool.true_and, Bool.and_self, ev_App, ev_App0, ev_App1, isF_int, isF_str, isF_bl, isF_lst, isFL_int, isFL_str, isF_non, isF_opq, fin_rt, fin_nx, endG_f, endG_t, D.key, List.replicate, roadD_z, e1, itemsQ_tup roadD_F, items_tup roadD_F, drop_F, itemsQ_tup drop_F, frzL_of drop_F, zip_road, lc, lc2, holds_add g, pace_max g]
/-! ### the slowest -/
def sD (p : Nat × Bool) : D := .tup [.int (p.1 : Nat), .str (if p.2 then Str.ofString "ring" else Str.ofString "hold")]
def one1 (rd : List Tr) (k : Nat) : List (Nat × Bool) := if hF rd k = PC rd then [(k, false)] else []
def one2 (rd : List Tr) (k : Nat) : List (Nat × Bool) := if k + 1 < rd.length ∧ rg (sF rd) (aF rd) k = PC rd then [(k, true)] else []
def slo (rd : List Tr) : Nat → List (Nat × Bool)
  | 0 => []
  | m + 1 => slo rd m ++ one1 rd m ++ one2 rd m
theorem slo_len (rd : List Tr) : ∀ m, (slo rd m).length ≤ 2 * m
  | 0 => Nat.le_refl _
  | m + 1 => by
    have := slo_len rd m
    have a : (one1 rd m).length ≤ 1 := by unfold one1; split <;> simp
    have b : (one2 rd m).length ≤ 1 := by unfold one2; split <;> simp
    show (slo rd m ++ one1 rd m ++ one2 rd m).length ≤ _
    rw [List.length_append, List.length_append]
    omega
theorem slo_F (l : List (Nat × Bool)) : D.isFL (l.map sD) = true := isFL_map (fun _ => rfl) l
theorem sl_lt {rd : List Tr} {i : Nat} (h : i ≤ 40) : ((slo rd i).map sD).length < sizeLine ∧ ∀ d, ((slo rd i).map sD ++ [d]).length < sizeLine := by
  have := slo_len rd i
  have z : (1000 : Nat) < sizeLine := by decide
  exact ⟨by rw [List.length_map]; omega, fun d => by rw [List.length_append, List.length_map, List.length_singleton]; omega⟩
theorem tg_hold {k : Nat} : tupG [.int (k : Int), .str (Str.ofString "hold")] = some (sD (k, false)) := tupG_of (by show 2 ≤ sizeLine; decide) rfl
theorem tg_ring {k : Nat} : tupG [.int (k : Int), .str (Str.ofString "ring")] = some (sD (k, true)) := tupG_of (by show 2 ≤ sizeLine; decide) rfl
theorem slowest_ok {rd : List Tr} (g : Good rd) : G_slowest [.tup (roadD rd)] = .ok (.tup ((slo rd rd.length).map sD)) [] := by
  have l2 := g.l2
  have e1 := Rd.need_ok g
  rw [← need_eq] at e1
  have e2 := pace_of_ok g
  have rgs := Rd.rings_ok g
  rw [← rings_eq] at rgs
  have lp := forF_inv (g := gTupF 2 (gsCons (gSet 4) (gsCons (gSet 5) (gsNil)))) (body := fSeq (fIfS (fTst (fBin (eqD false) (fVal (fBin ixD (fLoc 5) (fVal (fC (.int 1))))) (fLoc 1))) (fDrop (fApp 2 (fCallB tupG (fCons (fVal (fName 4)) (fCons (fVal (fC (.str "hold"))) (fNil)))))) (fNx)) (fIfS (fAndT (fTst (fBin (ltD) (fLoc 4) (fVal (fCallB lenG (fCons (fLoc 3) (fNil)))))) (fTst (fBin (eqD false) (fVal (fBin ixD (fLoc 3) (fLoc 4))) (fLoc 1)))) (fDrop (fApp 2 (fCallB tupG (fCons (fVal (fName 4)) (fCons (fVal (fC (.str "ring"))) (fNil)))))) (fNx))) (ds := enumFrom 0 (roadD rd))
    (fun i ρ => ∃ o4 o5, ρ = [some (.tup (roadD rd)), some (.int (PC rd)), some (.lst true ((slo rd i).map sD)), some (.lst true ((rgL rd (rd.length - 1)).map D.int)), o4, o5]) (fun i d ρ hd hi => ?_)
    (ρ := [some (.tup (roadD rd)), some (.int (PC rd)), some (.lst true []), some (.lst true ((rgL rd (rd.length - 1)).map D.int)), none, none]) ⟨_, _, rfl⟩
  · obtain ⟨ρ', e, o4, o5, rfl⟩ := lp
    rw [enumFrom_length, roadD_len] at e
    unfold G_slowest
    rw [GF_1]
    unfold fb_slowest
    simp -implicitDefEqProofs only [slot_0, slot_n, slot_s, res_v, res_l, ev_C, ev_Name, ev_Name1, ev_Move, ev_Move1, ev_Loc, ev_Loc1, ev_Val, ev_Val1, ev_Fz, ev_Fz1, ev_l2, ev_l21, ev_l1, ev_l11, ev_Bin, ev_Bin1, ev_Un, ev_Tst, ev_asB, ev_NotT, ev_NotT1, ev_AndT, ev_AndT1, ev_OrT, ev_OrT1, ev_AndV, ev_AndV1, ev_OrV, ev_OrV1, ev_NotV, ev_NotV1, ev_If, ev_If1, ev_Ch, ev_Ch1, ev_Ch2, ev_Ch3, ev_Nil, ev_Cons, ev_Cons1, ev_Cons2, oc_s, ress_0, ress_s, ocF_s, resF_0, resF_s, ev_lN, ev_lN1, ev_CallB, kRet_ok, ev_Call, ev_Call1, ev_Call2, kRetM_ok, ev_CallM, ev_CallM1, ev_CallM2, ev_M1, ev_M11, ev_M12, ev_M13, ev_M14, ev_Pk, ev_Pk1, ev_PkSl, ev_PkSl1, ev_pk, ev_pk1, prt_n, prt_s, prt_1, prt_2, ev_Sl, ev_Sl0, ev_Sl1, ev_Sl2, ev_Sl3, ev_DG, ev_DGs, ev_DG0, ev_DG1, ev_DG2, ev_DG3, ev_DG4, ev_P0, ev_P1, ev_P2, ev_P3, ev_Disp, ev_Disp1, ev_Lc, ev_Lc1, ev_Lc2, ev_Yes, wipe_0, wipe_s, rest_0, rest_s, ev_Iter, ev_Iter1, ev_Enum, ev_Enum1, ev_Zip, ev_Zip1, ev_Zip2, ev_Zip3, ev_Rg, ev_Rg0, ev_Rg1, ev_Rh, ev_Rh0, ev_Rh1, ev_Rh2, ev_gS, ev_gN, ev_gC, ev_gT, ev_StL, ev_StL1, ev_StL2, ev_StD, ev_StD1, ev_StD2, ev_Seq, seq_nx, seq_rt, seq_bk, seq_ct, ev_Nx, ev_Set, ev_Set1, ev_Drop, ev_Drop1, ev_Ret, ev_IfS, ev_IfS1, ev_Asg, ev_Asg1, ofS_some, ev_Par, ev_Par1, ev_Par2, ev_Tri, ev_Tri1, ev_Tri2, ev_Tri3, ev_Aug, ev_Aug1, ev_Aug2, ev_Aug3, ev_For, nox_lc, R.bind_ok, R.bindS_ok, R.of_some, List.set_cons_zero, List.set_cons_succ, if_true, Bool.false_eq_true, if_false, Bool.not_true, Bool.not_false, Option.bind_some, Option.map_some, ev_Nest, ev_Nest1, lst_nil, frz_int, frz_str, frz_bl, frz_lst, frzL_int, frzL_str, frz_non, frz_tup, frzL_cons, frzL_nil, isF_tup, isFL_cons, isFL_nil, Bool.and_true, Bool.true_and, Bool.and_self, ev_App, ev_App0, ev_App1, isF_int, isF_str, isF_bl, isF_lst, isFL_int, isFL_str, isF_non, isF_opq, fin_rt, fin_nx, endG_f, endG_t, D.key, List.replicate, roadD_z, roadD_F, e1, e2, rgs, itemsQ_tup roadD_F, kFor, e, tupleG_of (slo_F _)]
  · obtain ⟨o4, o5, rfl⟩ := hi
    obtain ⟨hi, rfl⟩ := enumR hd
    obtain ⟨a1, a2⟩ := sl_lt (rd := rd) (i := i) (by omega)
    have lr : lenG [.lst true ((rgL rd (rd.length - 1)).map D.int)] = some (.int ((rd.length - 1 : Nat) : Int)) := by rw [lenG_lst, List.length_map, rgL_len]
    refine ⟨_, [some (.tup (roadD rd)), some (.int (PC rd)), some (.lst true ((slo rd (i + 1)).map sD)), some (.lst true ((rgL rd (rd.length - 1)).map D.int)), some (.int (i : Int)), some (tri (sF rd i) (hF rd i) (aF rd i))], rfl, .inl ?_, _, _, rfl⟩
    have es : slo rd (i + 1) = slo rd i ++ one1 rd i ++ one2 rd i := rfl
    rw [es]
    by_cases hl : i + 1 < rd.length
    · have hl' : (i : Int) < ((rd.length - 1 : Nat) : Int) := by omega
      have ix : ixD (.lst true ((rgL rd (rd.length - 1)).map D.int)) (.int (i : Int)) = some (.int (rg (sF rd) (aF rd) i)) := ix_int (rgL_get (by omega))
      by_cases c1 : hF rd i = PC rd
      · by_cases c2 : rg (sF rd) (aF rd) i = PC rd
        · have o1 : one1 rd i = [(i, false)] := if_pos c1
          have o2 : one2 rd i = [(i, true)] := if_pos ⟨hl, c2⟩
          simp -implicitDefEqProofs only [slot_0, slot_n, slot_s, res_v, res_l, ev_C, ev_Name, ev_Name1, ev_Move, ev_Move1, ev_Loc, ev_Loc1, ev_Val, ev_Val1, ev_Fz, ev_Fz1, ev_l2, ev_l21, ev_l1, ev_l11, ev_Bin, ev_Bin1, ev_Un, ev_Tst, ev_asB, ev_NotT, ev_NotT1, ev_AndT, ev_AndT1, ev_OrT, ev_OrT1, ev_AndV, ev_AndV1, ev_OrV, ev_OrV1, ev_NotV, ev_NotV1, ev_If, ev_If1, ev_Ch, ev_Ch1, ev_Ch2, ev_Ch3, ev_Nil, ev_Cons, ev_Cons1, ev_Cons2, oc_s, ress_0, ress_s, ocF_s, resF_0, resF_s, ev_lN, ev_lN1, ev_CallB, kRet_ok, ev_Call, ev_Call1, ev_Call2, kRetM_ok, ev_CallM, ev_CallM1, ev_CallM2, ev_M1, ev_M11, ev_M12, ev_M13, ev_M14, ev_Pk, ev_Pk1, ev_PkSl, ev_PkSl1, ev_pk, ev_pk1, prt_n, prt_s, prt_1, prt_2, ev_Sl, ev_Sl0, ev_Sl1, ev_Sl2, ev_Sl3, ev_DG, ev_DGs, ev_DG0, ev_DG1, ev_DG2, ev_DG3, ev_DG4, ev_P0, ev_P1, ev_P2, ev_P3, ev_Disp, ev_Disp1, ev_Lc, ev_Lc1, ev_Lc2, ev_Yes, wipe_0, wipe_s, rest_0, rest_s, ev_Iter, ev_Iter1, ev_Enum, ev_Enum1, ev_Zip, ev_Zip1, ev_Zip2, ev_Zip3, ev_Rg, ev_Rg0, ev_Rg1, ev_Rh, ev_Rh0, ev_Rh1, ev_Rh2, ev_gS, ev_gN, ev_gC, ev_gT, ev_StL, ev_StL1, ev_StL2, ev_StD, ev_StD1, ev_StD2, ev_Seq, seq_nx, seq_rt, seq_bk, seq_ct, ev_Nx, ev_Set, ev_Set1, ev_Drop, ev_Drop1, ev_Ret, ev_IfS, ev_IfS1, ev_Asg, ev_Asg1, ofS_some, ev_Par, ev_Par1, ev_Par2, ev_Tri, ev_Tri1, ev_Tri2, ev_Tri3, ev_Aug, ev_Aug1, ev_Aug2, ev_Aug3, ev_For, nox_lc, R.bind_ok, R.bindS_ok, R.of_some, List.set_cons_zero, List.set_cons_succ, if_true, Bool.false_eq_true, if_false, Bool.not_true, Bool.not_false, Option.bind_some, Option.map_some, ev_Nest, ev_Nest1, lst_nil, frz_int, frz_str, frz_bl, frz_lst, frzL_int, frzL_str, frz_non, frz_tup, frzL_cons, frzL_nil, isF_tup, isFL_cons, isFL_nil, Bool.and_true, Bool.true_and, Bool.and_self, ev_App, ev_App0, ev_App1, isF_int, isF_str, isF_bl, isF_lst, isFL_int, isFL_str, isF_non, isF_opq, fin_rt, fin_nx, endG_f, endG_t, D.key, tri_1, eq_int, decide_eq_true c1, tg_hold, ev_App2 a1, lr, lt_int, decide_eq_true hl', ix, decide_eq_true c2, tg_ring, ev_App2 (a2 _), o1, o2, List.map_append, List.map_cons, List.map_nil]
        · have o1 : one1 rd i = [(i, false)] := if_pos c1
          have o2 : one2 rd i = [] := if_neg fun q => c2 q.2
          simp -implicitDefEqProofs only [slot_0, slot_n, slot_s, res_v, res_l, ev_C, ev_Name, ev_Name1, ev_Move, ev_Move1, ev_Loc, ev_Loc1, ev_Val, ev_Val1, ev_Fz, ev_Fz1, ev_l2, ev_l21, ev_l1, ev_l11, ev_Bin, ev_Bin1, ev_Un, ev_Tst, ev_asB, ev_NotT, ev_NotT1, ev_AndT, ev_AndT1, ev_OrT, ev_OrT1, ev_AndV, ev_AndV1, ev_OrV, ev_OrV1, ev_NotV, ev_NotV1, ev_If, ev_If1, ev_Ch, ev_Ch1, ev_Ch2, ev_Ch3, ev_Nil, ev_Cons, ev_Cons1, ev_Cons2, oc_s, ress_0, ress_s, ocF_s, resF_0, resF_s, ev_lN, ev_lN1, ev_CallB, kRet_ok, ev_Call, ev_Call1, ev_Call2, kRetM_ok, ev_CallM, ev_CallM1, ev_CallM2, ev_M1, ev_M11, ev_M12, ev_M13, ev_M14, ev_Pk, ev_Pk1, ev_PkSl, ev_PkSl1, ev_pk, ev_pk1, prt_n, prt_s, prt_1, prt_2, ev_Sl, ev_Sl0, ev_Sl1, ev_Sl2, ev_Sl3, ev_DG, ev_DGs, ev_DG0, ev_DG1, ev_DG2, ev_DG3, ev_DG4, ev_P0, ev_P1, ev_P2, ev_P3, ev_Disp, ev_Disp1, ev_Lc, ev_Lc1, ev_Lc2, ev_Yes, wipe_0, wipe_s, rest_0, rest_s, ev_Iter, ev_Iter1, ev_Enum, ev_Enum1, ev_Zip, ev_Zip1, ev_Zip2, ev_Zip3, ev_Rg, ev_Rg0, ev_Rg1, ev_Rh, ev_Rh0, ev_Rh1, ev_Rh2, ev_gS, ev_gN, ev_gC, ev_gT, ev_StL, ev_StL1, ev_StL2, ev_StD, ev_StD1, ev_StD2, ev_Seq, seq_nx, seq_rt, seq_bk, seq_ct, ev_Nx, ev_Set, ev_Set1, ev_Drop, ev_Drop1, ev_Ret, ev_IfS, ev_IfS1, ev_Asg, ev_Asg1, ofS_some, ev_Par, ev_Par1, ev_Par2, ev_Tri, ev_Tri1, ev_Tri2, ev_Tri3, ev_Aug, ev_Aug1, ev_Aug2, ev_Aug3, ev_For, nox_lc, R.bind_ok, R.bindS_ok, R.of_some, List.set_cons_zero, List.set_cons_succ, if_true, Bool.false_eq_true, if_false, Bool.not_true, Bool.not_false, Option.bind_some, Option.map_some, ev_Nest, ev_Nest1, lst_nil, frz_int, frz_str, frz_bl, frz_lst, frzL_int, frzL_str, frz_non, frz_tup, frzL_cons, frzL_nil, isF_tup, isFL_cons, isFL_nil, Bool.and_true, Bool.true_and, Bool.and_self, ev_App, ev_App0, ev_App1, isF_int, isF_str, isF_bl, isF_lst, isFL_int, isFL_str, isF_non, isF_opq, fin_rt, fin_nx, endG_f, endG_t, D.key, tri_1, eq_int, decide_eq_true c1, tg_hold, ev_App2 a1, lr, lt_int, decide_eq_true hl', ix, decide_eq_false c2, o1, o2, List.map_append, List.map_cons, List.map_nil, List.append_nil]
      · by_cases c2 : rg (sF rd) (aF rd) i = PC rd
        · have o1 : one1 rd i = [] := if_neg c1
          have o2 : one2 rd i = [(i, true)] := if_pos ⟨hl, c2⟩
          simp -implicitDefEqProofs only [slot_0, slot_n, slot_s, res_v, res_l, ev_C, ev_Name, ev_Name1, ev_Move, ev_Move1, ev_Loc, ev_Loc1, ev_Val, ev_Val1, ev_Fz, ev_Fz1, ev_l2, ev_l21, ev_l1, ev_l11, ev_Bin, ev_Bin1, ev_Un, ev_Tst, ev_asB, ev_NotT, ev_NotT1, ev_AndT, ev_AndT1, ev_OrT, ev_OrT1, ev_AndV, ev_AndV1, ev_OrV, ev_OrV1, ev_NotV, ev_NotV1, ev_If, ev_If1, ev_Ch, ev_Ch1, ev_Ch2, ev_Ch3, ev_Nil, ev_Cons, ev_Cons1, ev_Cons2, oc_s, ress_0, ress_s, ocF_s, resF_0, resF_s, ev_lN, ev_lN1, ev_CallB, kRet_ok, ev_Call, ev_Call1, ev_Call2, kRetM_ok, ev_CallM, ev_CallM1, ev_CallM2, ev_M1, ev_M11, ev_M12, ev_M13, ev_M14, ev_Pk, ev_Pk1, ev_PkSl, ev_PkSl1, ev_pk, ev_pk1, prt_n, prt_s, prt_1, prt_2, ev_Sl, ev_Sl0, ev_Sl1, ev_Sl2, ev_Sl3, ev_DG, ev_DGs, ev_DG0, ev_DG1, ev_DG2, ev_DG3, ev_DG4, ev_P0, ev_P1, ev_P2, ev_P3, ev_Disp, ev_Disp1, ev_Lc, ev_Lc1, ev_Lc2, ev_Yes, wipe_0, wipe_s, rest_0, rest_s, ev_Iter, ev_Iter1, ev_Enum, ev_Enum1, ev_Zip, ev_Zip1, ev_Zip2, ev_Zip3, ev_Rg, ev_Rg0, ev_Rg1, ev_Rh, ev_Rh0, ev_Rh1, ev_Rh2, ev_gS, ev_gN, ev_gC, ev_gT, ev_StL, ev_StL1, ev_StL2, ev_StD, ev_StD1, ev_StD2, ev_Seq, seq_nx, seq_rt, seq_bk, seq_ct, ev_Nx, ev_Set, ev_Set1, ev_Drop, ev_Drop1, ev_Ret, ev_IfS, ev_IfS1, ev_Asg, ev_Asg1, ofS_some, ev_Par, ev_Par1, ev_Par2, ev_Tri, ev_Tri1, ev_Tri2, ev_Tri3, ev_Aug, ev_Aug1, ev_Aug2, ev_Aug3, ev_For, nox_lc, R.bind_ok, R.bindS_ok, R.of_some, List.set_cons_zero, List.set_cons_succ, if_true, Bool.false_eq_true, if_false, Bool.not_true, Bool.not_false, Option.bind_some, Option.map_some, ev_Nest, ev_Nest1, lst_nil, frz_int, frz_str, frz_bl, frz_lst, frzL_int, frzL_str, frz_non, frz_tup, frzL_cons, frzL_nil, isF_tup, isFL_cons, isFL_nil, Bool.and_true, Bool.true_and, Bool.and_self, ev_App, ev_App0, ev_App1, isF_int, isF_str, isF_bl, isF_lst, isFL_int, isFL_str, isF_non, isF_opq, fin_rt, fin_nx, endG_f, endG_t, D.key, tri_1, eq_int, decide_eq_false c1, lr, lt_int, decide_eq_true hl', ix, decide_eq_true c2, tg_ring, ev_App2 a1, o1, o2, List.map_append, List.map_cons, List.map_nil, List.append_nil]
        · have o1 : one1 rd i = [] := if_neg c1
          have o2 : one2 rd i = [] := if_neg fun q => c2 q.2
          simp -implicitDefEqProofs only [slot_0, slot_n, slot_s, res_v, res_l, ev_C, ev_Name, ev_Name1, ev_Move, ev_Move1, ev_Loc, ev_Loc1, ev_Val, ev_Val1, ev_Fz, ev_Fz1, ev_l2, ev_l21, ev_l1, ev_l11, ev_Bin, ev_Bin1, ev_Un, ev_Tst, ev_asB, ev_NotT, ev_NotT1, ev_AndT, ev_AndT1, ev_OrT, ev_OrT1, ev_AndV, ev_AndV1, ev_OrV, ev_OrV1, ev_NotV, ev_NotV1, ev_If, ev_If1, ev_Ch, ev_Ch1, ev_Ch2, ev_Ch3, ev_Nil, ev_Cons, ev_Cons1, ev_Cons2, oc_s, ress_0, ress_s, ocF_s, resF_0, resF_s, ev_lN, ev_lN1, ev_CallB, kRet_ok, ev_Call, ev_Call1, ev_Call2, kRetM_ok, ev_CallM, ev_CallM1, ev_CallM2, ev_M1, ev_M11, ev_M12, ev_M13, ev_M14, ev_Pk, ev_Pk1, ev_PkSl, ev_PkSl1, ev_pk, ev_pk1, prt_n, prt_s, prt_1, prt_2, ev_Sl, ev_Sl0, ev_Sl1, ev_Sl2, ev_Sl3, ev_DG, ev_DGs, ev_DG0, ev_DG1, ev_DG2, ev_DG3, ev_DG4, ev_P0, ev_P1, ev_P2, ev_P3, ev_Disp, ev_Disp1, ev_Lc, ev_Lc1, ev_Lc2, ev_Yes, wipe_0, wipe_s, rest_0, rest_s, ev_Iter, ev_Iter1, ev_Enum, ev_Enum1, ev_Zip, ev_Zip1, ev_Zip2, ev_Zip3, ev_Rg, ev_Rg0, ev_Rg1, ev_Rh, ev_Rh0, ev_Rh1, ev_Rh2, ev_gS, ev_gN, ev_gC, ev_gT, ev_StL, ev_StL1, ev_StL2, ev_StD, ev_StD1, ev_StD2, ev_Seq, seq_nx, seq_rt, seq_bk, seq_ct, ev_Nx, ev_Set, ev_Set1, ev_Drop, ev_Drop1, ev_Ret, ev_IfS, ev_IfS1, ev_Asg, ev_Asg1, ofS_some, ev_Par, ev_Par1, ev_Par2, ev_Tri, ev_Tri1, ev_Tri2, ev_Tri3, ev_Aug, ev_Aug1, ev_Aug2, ev_Aug3, ev_For, nox_lc, R.bind_ok, R.bindS_ok, R.of_some, List.set_cons_zero, List.set_cons_succ, if_true, Bool.false_eq_true, if_false, Bool.not_true, Bool.not_false, Option.bind_some, Option.map_some, ev_Nest, ev_Nest1, lst_nil, frz_int, frz_str, frz_bl, frz_lst, frzL_int, frzL_str, frz_non, frz_tup, frzL_cons, frzL_nil, isF_tup, isFL_cons, isFL_nil, Bool.and_true, Bool.true_and, Bool.and_self, ev_App, ev_App0, ev_App1, isF_int, isF_str, isF_bl, isF_lst, isFL_int, isFL_str, isF_non, isF_opq, fin_rt, fin_nx, endG_f, endG_t, D.key, tri_1, eq_int, decide_eq_false c1, lr, lt_int, decide_eq_true hl', ix, decide_eq_false c2, o1, o2, List.map_append, List.map_cons, List.map_nil, List.append_nil]
    · have hl' : ¬ ((i : Int) < ((rd.length - 1 : Nat) : Int)) := by omega
      have o2 : one2 rd i = [] := if_neg fun q => hl q.1
      by_cases c1 : hF rd i = PC rd
      · have o1 : one1 rd i = [(i, false)] := if_pos c1
        simp -implicitDefEqProofs only [slot_0, slot_n, slot_s, res_v, res_l, ev_C, ev_Name, ev_Name1, ev_Move, ev_Move1, ev_Loc, ev_Loc1, ev_Val, ev_Val1, ev_Fz, ev_Fz1, ev_l2, ev_l21, ev_l1, ev_l11, ev_Bin, ev_Bin1, ev_Un, ev_Tst, ev_asB, ev_NotT, ev_NotT1, ev_AndT, ev_AndT1, ev_OrT, ev_OrT1, ev_AndV, ev_AndV1, ev_OrV, ev_OrV1, ev_NotV, ev_NotV1, ev_If, ev_If1, ev_Ch, ev_Ch1, ev_Ch2, ev_Ch3, ev_Nil, ev_Cons, ev_Cons1, ev_Cons2, oc_s, ress_0, ress_s, ocF_s, resF_0, resF_s, ev_lN, ev_lN1, ev_CallB, kRet_ok, ev_Call, ev_Call1, ev_Call2, kRetM_ok, ev_CallM, ev_CallM1, ev_CallM2, ev_M1, ev_M11, ev_M12, ev_M13, ev_M14, ev_Pk, ev_Pk1, ev_PkSl, ev_PkSl1, ev_pk, ev_pk1, prt_n, prt_s, prt_1, prt_2, ev_Sl, ev_Sl0, ev_Sl1, ev_Sl2, ev_Sl3, ev_DG, ev_DGs, ev_DG0, ev_DG1, ev_DG2, ev_DG3, ev_DG4, ev_P0, ev_P1, ev_P2, ev_P3, ev_Disp, ev_Disp1, ev_Lc, ev_Lc1, ev_Lc2, ev_Yes, wipe_0, wipe_s, rest_0, rest_s, ev_Iter, ev_Iter1, ev_Enum, ev_Enum1, ev_Zip, ev_Zip1, ev_Zip2, ev_Zip3, ev_Rg, ev_Rg0, ev_Rg1, ev_Rh, ev_Rh0, ev_Rh1, ev_Rh2, ev_gS, ev_gN, ev_gC, ev_gT, ev_StL, ev_StL1, ev_StL2, ev_StD, ev_StD1, ev_StD2, ev_Seq, seq_nx, seq_rt, seq_bk, seq_ct, ev_Nx, ev_Set, ev_Set1, ev_Drop, ev_Drop1, ev_Ret, ev_IfS, ev_IfS1, ev_Asg, ev_Asg1, ofS_some, ev_Par, ev_Par1, ev_Par2, ev_Tri, ev_Tri1, ev_Tri2, ev_Tri3, ev_Aug, ev_Aug1, ev_Aug2, ev_Aug3, ev_For, nox_lc, R.bind_ok, R.bindS_ok, R.of_some, List.set_cons_zero, List.set_cons_succ, if_true, Bool.false_eq_true, if_false, Bool.not_true, Bool.not_false, Option.bind_some, Option.map_some, ev_Nest, ev_Nest1, lst_nil, frz_int, frz_str, frz_bl, frz_lst, frzL_int, frzL_str, frz_non, frz_tup, frzL_cons, frzL_nil, isF_tup, isFL_cons, isFL_nil, Bool.and_true, Bool.true_and, Bool.and_self, ev_App, ev_App0, ev_App1, isF_int, isF_str, isF_bl, isF_lst, isFL_int, isFL_str, isF_non, isF_opq, fin_rt, fin_nx, endG_f, endG_t, D.key, tri_1, eq_int, decide_eq_true c1, tg_hold, ev_App2 a1, lr, lt_int, decide_eq_false hl', o1, o2, List.map_append, List.map_cons, List.map_nil, List.append_nil]
      · have o1 : one1 rd i = [] := if_neg c1
        simp -implicitDefEqProofs only [slot_0, slot_n, slot_s, res_v, res_l, ev_C, ev_Name, ev_Name1, ev_Move, ev_Move1, ev_Loc, ev_Loc1, ev_Val, ev_Val1, ev_Fz, ev_Fz1, ev_l2, ev_l21, ev_l1, ev_l11, ev_Bin, ev_Bin1, ev_Un, ev_Tst, ev_asB, ev_NotT, ev_NotT1, ev_AndT, ev_AndT1, ev_OrT, ev_OrT1, ev_AndV, ev_AndV1, ev_OrV, ev_OrV1, ev_NotV, ev_NotV1, ev_If, ev_If1, ev_Ch, ev_Ch1, ev_Ch2, ev_Ch3, ev_Nil, ev_Cons, ev_Cons1, ev_Cons2, oc_s, ress_0, ress_s, ocF_s, resF_0, resF_s, ev_lN, ev_lN1, ev_CallB, kRet_ok, ev_Call, ev_Call1, ev_Call2, kRetM_ok, ev_CallM, ev_CallM1, ev_CallM2, ev_M1, ev_M11, ev_M12, ev_M13, ev_M14, ev_Pk, ev_Pk1, ev_PkSl, ev_PkSl1, ev_pk, ev_pk1, prt_n, prt_s, prt_1, prt_2, ev_Sl, ev_Sl0, ev_Sl1, ev_Sl2, ev_Sl3, ev_DG, ev_DGs, ev_DG0, ev_DG1, ev_DG2, ev_DG3, ev_DG4, ev_P0, ev_P1, ev_P2, ev_P3, ev_Disp, ev_Disp1, ev_Lc, ev_Lc1, ev_Lc2, ev_Yes, wipe_0, wipe_s, rest_0, rest_s, ev_Iter, ev_Iter1, ev_Enum, ev_Enum1, ev_Zip, ev_Zip1, ev_Zip2, ev_Zip3, ev_Rg, ev_Rg0, ev_Rg1, ev_Rh, ev_Rh0, ev_Rh1, ev_Rh2, ev_gS, ev_gN, ev_gC, ev_gT, ev_StL, ev_StL1, ev_StL2, ev_StD, ev_StD1, ev_StD2, ev_Seq, seq_nx, seq_rt, seq_bk, seq_ct, ev_Nx, ev_Set, ev_Set1, ev_Drop, ev_Drop1, ev_Ret, ev_IfS, ev_IfS1, ev_Asg, ev_Asg1, ofS_some, ev_Par, ev_Par1, ev_Par2, ev_Tri, ev_Tri1, ev_Tri2, ev_Tri3, ev_Aug, ev_Aug1, ev_Aug2, ev_Aug3, ev_For, nox_lc, R.bind_ok, R.bindS_ok, R.of_some, List.set_cons_zero, List.set_cons_succ, if_true, Bool.false_eq_true, if_false, Bool.not_true, Bool.not_false, Option.bind_some, Option.map_some, ev_Nest, ev_Nest1, lst_nil, frz_int, frz_str, frz_bl, frz_lst, frzL_int, frzL_str, frz_non, frz_tup, frzL_cons, frzL_nil, isF_tup, isFL_cons, isFL_nil, Bool.and_true, Bool.true_and, Bool.and_self, ev_App, ev_App0, ev_App1, isF_int, isF_str, isF_bl, isF_lst, isFL_int, isFL_str, isF_non, isF_opq, fin_rt, fin_nx, endG_f, endG_t, D.key, tri_1, eq_int, decide_eq_false c1, lr, lt_int, decide_eq_false hl', o1, o2, List.map_append, List.map_cons, List.map_nil, List.append_nil]
theorem law_slowest_ok {rd : List Tr} (g : Good rd) : G__law_slowest [.tup (roadD rd)] = .ok (.tup ((slo rd rd.length).map sD)) [] := by
  have l2 := g.l2
  have e2 := law_pace_ok g
  have lp := forF_inv (g := gTupF 2 (gsCons (gSet 3) (gsCons (gSet 4) (gsNil)))) (body := fSeq (fIfS (fTst (fBin (eqD false) (fVal (fBin ixD (fLoc 4) (fVal (fC (.int 1))))) (fLoc 1))) (fDrop (fApp 2 (fCallB tupG (fCons (fVal (fName 3)) (fCons (fVal (fC (.str "hold"))) (fNil)))))) (fNx)) (fIfS (fAndT (fTst (fBin (ltD) (fLoc 3) (fVal (fBin subD (fVal (fCallB lenG (fCons (fLoc 0) (fNil)))) (fVal (fC (.int 1))))))) (fTst (fBin (eqD false) (fVal (fBin addD (fVal (fBin ixD (fLoc 4) (fVal (fC (.int 2))))) (fVal (fBin ixD (fVal (fBin ixD (fLoc 0) (fVal (fBin addD (fLoc 3) (fVal (fC (.int 1))))))) (fVal (fC (.int 0))))))) (fLoc 1)))) (fDrop (fApp 2 (fCallB tupG (fCons (fVal (fName 3)) (fCons (fVal (fC (.str "ring"))) (fNil)))))) (fNx))) (ds := enumFrom 0 (roadD rd))
    (fun i ρ => ∃ o3 o4, ρ = [some (.tup (roadD rd)), some (.int (PC rd)), some (.lst true ((slo rd i).map sD)), o3, o4]) (fun i d ρ hd hi => ?_)
    (ρ := [some (.tup (roadD rd)), some (.int (PC rd)), some (.lst true []), none, none]) ⟨_, _, rfl⟩
  · obtain ⟨ρ', e, o3, o4, rfl⟩ := lp
    rw [enumFrom_length, roadD_len] at e
    unfold G__law_slowest
    rw [GF_1]
    unfold fb__law_slowest
    simp -implicitDefEqProofs only [slot_0, slot_n, slot_s, res_v, res_l, ev_C, ev_Name, ev_Name1, ev_Move, ev_Move1, ev_Loc, ev_Loc1, ev_Val, ev_Val1, ev_Fz, ev_Fz1, ev_l2, ev_l21, ev_l1, ev_l11, ev_Bin, ev_Bin1, ev_Un, ev_Tst, ev_asB, ev_NotT, ev_NotT1, ev_AndT, ev_AndT1, ev_OrT, ev_OrT1, ev_AndV, ev_AndV1, ev_OrV, ev_OrV1, ev_NotV, ev_NotV1, ev_If, ev_If1, ev_Ch, ev_Ch1, ev_Ch2, ev_Ch3, ev_Nil, ev_Cons, ev_Cons1, ev_Cons2, oc_s, ress_0, ress_s, ocF_s, resF_0, resF_s, ev_lN, ev_lN1, ev_CallB, kRet_ok, ev_Call, ev_Call1, ev_Call2, kRetM_ok, ev_CallM, ev_CallM1, ev_CallM2, ev_M1, ev_M11, ev_M12, ev_M13, ev_M14, ev_Pk, ev_Pk1, ev_PkSl, ev_PkSl1, ev_pk, ev_pk1, prt_n, prt_s, prt_1, prt_2, ev_Sl, ev_Sl0, ev_Sl1, ev_Sl2, ev_Sl3, ev_DG, ev_DGs, ev_DG0, ev_DG1, ev_DG2, ev_DG3, ev_DG4, ev_P0, ev_P1, ev_P2, ev_P3, ev_Disp, ev_Disp1, ev_Lc, ev_Lc1, ev_Lc2, ev_Yes, wipe_0, wipe_s, rest_0, rest_s, ev_Iter, ev_Iter1, ev_Enum, ev_Enum1, ev_Zip, ev_Zip1, ev_Zip2, ev_Zip3, ev_Rg, ev_Rg0, ev_Rg1, ev_Rh, ev_Rh0, ev_Rh1, ev_Rh2, ev_gS, ev_gN, ev_gC, ev_gT, ev_StL, ev_StL1, ev_StL2, ev_StD, ev_StD1, ev_StD2, ev_Seq, seq_nx, seq_rt, seq_bk, seq_ct, ev_Nx, ev_Set, ev_Set1, ev_Drop, ev_Drop1, ev_Ret, ev_IfS, ev_IfS1, ev_Asg, ev_Asg1, ofS_some, ev_Par, ev_Par1, ev_Par2, ev_Tri, ev_Tri1, ev_Tri2, ev_Tri3, ev_Aug, ev_Aug1, ev_Aug2, ev_Aug3, ev_For, nox_lc, R.bind_ok, R.bindS_ok, R.of_some, List.set_cons_zero, List.set_cons_succ, if_true, Bool.false_eq_true, if_false, Bool.not_true, Bool.not_false, Option.bind_some, Option.map_some, ev_Nest, ev_Nest1, lst_nil, frz_int, frz_str, frz_bl, frz_lst, frzL_int, frzL_str, frz_non, frz_tup, frzL_cons, frzL_nil, isF_tup, isFL_cons, isFL_nil, Bool.and_true, Bool.true_and, Bool.and_self, ev_App, ev_App0, ev_App1, isF_int, isF_str, isF_bl, isF_lst, isFL_int, isFL_str, isF_non, isF_opq, fin_rt, fin_nx, endG_f, endG_t, D.key, List.replicate, roadD_z, roadD_F, e2, itemsQ_tup roadD_F, kFor, e, tupleG_of (slo_F _)]
  · obtain ⟨o3, o4, rfl⟩ := hi
    obtain ⟨hi, rfl⟩ := enumR hd
    obtain ⟨a1, a2⟩ := sl_lt (rd := rd) (i := i) (by omega)
    have lr : lenG [.tup (roadD rd)] = some (.int (rd.length : Int)) := by rw [lenG_tup, roadD_len]
    refine ⟨_, [some (.tup (roadD rd)), some (.int (PC rd)), some (.lst true ((slo rd (i + 1)).map sD)), some (.int (i : Int)), some (tri (sF rd i) (hF rd i) (aF rd i))], rfl, .inl ?_, _, _, rfl⟩
    have es : slo rd (i + 1) = slo rd i ++ one1 rd i ++ one2 rd i := rfl
    rw [es]
    by_cases hl : i + 1 < rd.length
    · have hl' : (i : Int) < (rd.length : Int) - 1 := by omega
      have ix : ixD (.tup (roadD rd)) (.int ((i : Int) + 1)) = some (tri (sF rd (i + 1)) (hF rd (i + 1)) (aF rd (i + 1))) := ix_tup (j := i + 1) (roadD_get hl) rfl
      by_cases c1 : hF rd i = PC rd
      · by_cases c2 : aF rd i + sF rd (i + 1) = PC rd
        · have o1 : one1 rd i = [(i, false)] := if_pos c1
          have o2 : one2 rd i = [(i, true)] := if_pos ⟨hl, c2⟩
          simp -implicitDefEqProofs only [slot_0, slot_n, slot_s, res_v, res_l, ev_C, ev_Name, ev_Name1, ev_Move, ev_Move1, ev_Loc, ev_Loc1, ev_Val, ev_Val1, ev_Fz, ev_Fz1, ev_l2, ev_l21, ev_l1, ev_l11, ev_Bin, ev_Bin1, ev_Un, ev_Tst, ev_asB, ev_NotT, ev_NotT1, ev_AndT, ev_AndT1, ev_OrT, ev_OrT1, ev_AndV, ev_AndV1, ev_OrV, ev_OrV1, ev_NotV, ev_NotV1, ev_If, ev_If1, ev_Ch, ev_Ch1, ev_Ch2, ev_Ch3, ev_Nil, ev_Cons, ev_Cons1, ev_Cons2, oc_s, ress_0, ress_s, ocF_s, resF_0, resF_s, ev_lN, ev_lN1, ev_CallB, kRet_ok, ev_Call, ev_Call1, ev_Call2, kRetM_ok, ev_CallM, ev_CallM1, ev_CallM2, ev_M1, ev_M11, ev_M12, ev_M13, ev_M14, ev_Pk, ev_Pk1, ev_PkSl, ev_PkSl1, ev_pk, ev_pk1, prt_n, prt_s, prt_1, prt_2, ev_Sl, ev_Sl0, ev_Sl1, ev_Sl2, ev_Sl3, ev_DG, ev_DGs, ev_DG0, ev_DG1, ev_DG2, ev_DG3, ev_DG4, ev_P0, ev_P1, ev_P2, ev_P3, ev_Disp, ev_Disp1, ev_Lc, ev_Lc1, ev_Lc2, ev_Yes, wipe_0, wipe_s, rest_0, rest_s, ev_Iter, ev_Iter1, ev_Enum, ev_Enum1, ev_Zip, ev_Zip1, ev_Zip2, ev_Zip3, ev_Rg, ev_Rg0, ev_Rg1, ev_Rh, ev_Rh0, ev_Rh1, ev_Rh2, ev_gS, ev_gN, ev_gC, ev_gT, ev_StL, ev_StL1, ev_StL2, ev_StD, ev_StD1, ev_StD2, ev_Seq, seq_nx, seq_rt, seq_bk, seq_ct, ev_Nx, ev_Set, ev_Set1, ev_Drop, ev_Drop1, ev_Ret, ev_IfS, ev_IfS1, ev_Asg, ev_Asg1, ofS_some, ev_Par, ev_Par1, ev_Par2, ev_Tri, ev_Tri1, ev_Tri2, ev_Tri3, ev_Aug, ev_Aug1, ev_Aug2, ev_Aug3, ev_For, nox_lc, R.bind_ok, R.bindS_ok, R.of_some, List.set_cons_zero, List.set_cons_succ, if_true, Bool.false_eq_true, if_false, Bool.not_true, Bool.not_false, Option.bind_some, Option.map_some, ev_Nest, ev_Nest1, lst_nil, frz_int, frz_str, frz_bl, frz_lst, frzL_int, frzL_str, frz_non, frz_tup, frzL_cons, frzL_nil, isF_tup, isFL_cons, isFL_nil, Bool.and_true, Bool.true_and, Bool.and_self, ev_App, ev_App0, ev_App1, isF_int, isF_str, isF_bl, isF_lst, isFL_int, isFL_str, isF_non, isF_opq, fin_rt, fin_nx, endG_f, endG_t, D.key, tri_1, tri_2, tri_0, add_int, sub_int, eq_int, decide_eq_true c1, tg_hold, ev_App2 a1, lr, lt_int, decide_eq_true hl', ix, decide_eq_true c2, tg_ring, ev_App2 (a2 _), o1, o2, List.map_append, List.map_cons, List.map_nil]
        · have o1 : one1 rd i = [(i, false)] := if_pos c1
          have o2 : one2 rd i = [] := if_neg fun q => c2 q.2
          simp -implicitDefEqProofs only [slot_0, slot_n, slot_s, res_v, res_l, ev_C, ev_Name, ev_Name1, ev_Move, ev_Move1, ev_Loc, ev_Loc1, ev_Val, ev_Val1, ev_Fz, ev_Fz1, ev_l2, ev_l21, ev_l1, ev_l11, ev_Bin, ev_Bin1, ev_Un, ev_Tst, ev_asB, ev_NotT, ev_NotT1, ev_AndT, ev_AndT1, ev_OrT, ev_OrT1, ev_AndV, ev_AndV1, ev_OrV, ev_OrV1, ev_NotV, ev_NotV1, ev_If, ev_If1, ev_Ch, ev_Ch1, ev_Ch2, ev_Ch3, ev_Nil, ev_Cons, ev_Cons1, ev_Cons2, oc_s, ress_0, ress_s, ocF_s, resF_0, resF_s, ev_lN, ev_lN1, ev_CallB, kRet_ok, ev_Call, ev_Call1, ev_Call2, kRetM_ok, ev_CallM, ev_CallM1, ev_CallM2, ev_M1, ev_M11, ev_M12, ev_M13, ev_M14, ev_Pk, ev_Pk1, ev_PkSl, ev_PkSl1, ev_pk, ev_pk1, prt_n, prt_s, prt_1, prt_2, ev_Sl, ev_Sl0, ev_Sl1, ev_Sl2, ev_Sl3, ev_DG, ev_DGs, ev_DG0, ev_DG1, ev_DG2, ev_DG3, ev_DG4, ev_P0, ev_P1, ev_P2, ev_P3, ev_Disp, ev_Disp1, ev_Lc, ev_Lc1, ev_Lc2, ev_Yes, wipe_0, wipe_s, rest_0, rest_s, ev_Iter, ev_Iter1, ev_Enum, ev_Enum1, ev_Zip, ev_Zip1, ev_Zip2, ev_Zip3, ev_Rg, ev_Rg0, ev_Rg1, ev_Rh, ev_Rh0, ev_Rh1, ev_Rh2, ev_gS, ev_gN, ev_gC, ev_gT, ev_StL, ev_StL1, ev_StL2, ev_StD, ev_StD1, ev_StD2, ev_Seq, seq_nx, seq_rt, seq_bk, seq_ct, ev_Nx, ev_Set, ev_Set1, ev_Drop, ev_Drop1, ev_Ret, ev_IfS, ev_IfS1, ev_Asg, ev_Asg1, ofS_some, ev_Par, ev_Par1, ev_Par2, ev_Tri, ev_Tri1, ev_Tri2, ev_Tri3, ev_Aug, ev_Aug1, ev_Aug2, ev_Aug3, ev_For, nox_lc, R.bind_ok, R.bindS_ok, R.of_some, List.set_cons_zero, List.set_cons_succ, if_true, Bool.false_eq_true, if_false, Bool.not_true, Bool.not_false, Option.bind_some, Option.map_some, ev_Nest, ev_Nest1, lst_nil, frz_int, frz_str, frz_bl, frz_lst, frzL_int, frzL_str, frz_non, frz_tup, frzL_cons, frzL_nil, isF_tup, isFL_cons, isFL_nil, Bool.and_true, Bool.true_and, Bool.and_self, ev_App, ev_App0, ev_App1, isF_int, isF_str, isF_bl, isF_lst, isFL_int, isFL_str, isF_non, isF_opq, fin_rt, fin_nx, endG_f, endG_t, D.key, tri_1, tri_2, tri_0, add_int, sub_int, eq_int, decide_eq_true c1, tg_hold, ev_App2 a1, lr, lt_int, decide_eq_true hl', ix, decide_eq_false c2, o1, o2, List.map_append, List.map_cons, List.map_nil, List.append_nil]
      · by_cases c2 : aF rd i + sF rd (i + 1) = PC rd
        · have o1 : one1 rd i = [] := if_neg c1
          have o2 : one2 rd i = [(i, true)] := if_pos ⟨hl, c2⟩
          simp -implicitDefEqProofs only [slot_0, slot_n, slot_s, res_v, res_l, ev_C, ev_Name, ev_Name1, ev_Move, ev_Move1, ev_Loc, ev_Loc1, ev_Val, ev_Val1, ev_Fz, ev_Fz1, ev_l2, ev_l21, ev_l1, ev_l11, ev_Bin, ev_Bin1, ev_Un, ev_Tst, ev_asB, ev_NotT, ev_NotT1, ev_AndT, ev_AndT1, ev_OrT, ev_OrT1, ev_AndV, ev_AndV1, ev_OrV, ev_OrV1, ev_NotV, ev_NotV1, ev_If, ev_If1, ev_Ch, ev_Ch1, ev_Ch2, ev_Ch3, ev_Nil, ev_Cons, ev_Cons1, ev_Cons2, oc_s, ress_0, ress_s, ocF_s, resF_0, resF_s, ev_lN, ev_lN1, ev_CallB, kRet_ok, ev_Call, ev_Call1, ev_Call2, kRetM_ok, ev_CallM, ev_CallM1, ev_CallM2, ev_M1, ev_M11, ev_M12, ev_M13, ev_M14, ev_Pk, ev_Pk1, ev_PkSl, ev_PkSl1, ev_pk, ev_pk1, prt_n, prt_s, prt_1, prt_2, ev_Sl, ev_Sl0, ev_Sl1, ev_Sl2, ev_Sl3, ev_DG, ev_DGs, ev_DG0, ev_DG1, ev_DG2, ev_DG3, ev_DG4, ev_P0, ev_P1, ev_P2, ev_P3, ev_Disp, ev_Disp1, ev_Lc, ev_Lc1, ev_Lc2, ev_Yes, wipe_0, wipe_s, rest_0, rest_s, ev_Iter, ev_Iter1, ev_Enum, ev_Enum1, ev_Zip, ev_Zip1, ev_Zip2, ev_Zip3, ev_Rg, ev_Rg0, ev_Rg1, ev_Rh, ev_Rh0, ev_Rh1, ev_Rh2, ev_gS, ev_gN, ev_gC, ev_gT, ev_StL, ev_StL1, ev_StL2, ev_StD, ev_StD1, ev_StD2, ev_Seq, seq_nx, seq_rt, seq_bk, seq_ct, ev_Nx, ev_Set, ev_Set1, ev_Drop, ev_Drop1, ev_Ret, ev_IfS, ev_IfS1, ev_Asg, ev_Asg1, ofS_some, ev_Par, ev_Par1, ev_Par2, ev_Tri, ev_Tri1, ev_Tri2, ev_Tri3, ev_Aug, ev_Aug1, ev_Aug2, ev_Aug3, ev_For, nox_lc, R.bind_ok, R.bindS_ok, R.of_some, List.set_cons_zero, List.set_cons_succ, if_true, Bool.false_eq_true, if_false, Bool.not_true, Bool.not_false, Option.bind_some, Option.map_some, ev_Nest, ev_Nest1, lst_nil, frz_int, frz_str, frz_bl, frz_lst, frzL_int, frzL_str, frz_non, frz_tup, frzL_cons, frzL_nil, isF_tup, isFL_cons, isFL_nil, Bool.and_true, Bool.true_and, Bool.and_self, ev_App, ev_App0, ev_App1, isF_int, isF_str, isF_bl, isF_lst, isFL_int, isFL_str, isF_non, isF_opq, fin_rt, fin_nx, endG_f, endG_t, D.key, tri_1, tri_2, tri_0, add_int, sub_int, eq_int, decide_eq_false c1, lr, lt_int, decide_eq_true hl', ix, decide_eq_true c2, tg_ring, ev_App2 a1, o1, o2, List.map_append, List.map_cons, List.map_nil, List.append_nil]
        · have o1 : one1 rd i = [] := if_neg c1
          have o2 : one2 rd i = [] := if_neg fun q => c2 q.2
          simp -implicitDefEqProofs only [slot_0, slot_n, slot_s, res_v, res_l, ev_C, ev_Name, ev_Name1, ev_Move, ev_Move1, ev_Loc, ev_Loc1, ev_Val, ev_Val1, ev_Fz, ev_Fz1, ev_l2, ev_l21, ev_l1, ev_l11, ev_Bin, ev_Bin1, ev_Un, ev_Tst, ev_asB, ev_NotT, ev_NotT1, ev_AndT, ev_AndT1, ev_OrT, ev_OrT1, ev_AndV, ev_AndV1, ev_OrV, ev_OrV1, ev_NotV, ev_NotV1, ev_If, ev_If1, ev_Ch, ev_Ch1, ev_Ch2, ev_Ch3, ev_Nil, ev_Cons, ev_Cons1, ev_Cons2, oc_s, ress_0, ress_s, ocF_s, resF_0, resF_s, ev_lN, ev_lN1, ev_CallB, kRet_ok, ev_Call, ev_Call1, ev_Call2, kRetM_ok, ev_CallM, ev_CallM1, ev_CallM2, ev_M1, ev_M11, ev_M12, ev_M13, ev_M14, ev_Pk, ev_Pk1, ev_PkSl, ev_PkSl1, ev_pk, ev_pk1, prt_n, prt_s, prt_1, prt_2, ev_Sl, ev_Sl0, ev_Sl1, ev_Sl2, ev_Sl3, ev_DG, ev_DGs, ev_DG0, ev_DG1, ev_DG2, ev_DG3, ev_DG4, ev_P0, ev_P1, ev_P2, ev_P3, ev_Disp, ev_Disp1, ev_Lc, ev_Lc1, ev_Lc2, ev_Yes, wipe_0, wipe_s, rest_0, rest_s, ev_Iter, ev_Iter1, ev_Enum, ev_Enum1, ev_Zip, ev_Zip1, ev_Zip2, ev_Zip3, ev_Rg, ev_Rg0, ev_Rg1, ev_Rh, ev_Rh0, ev_Rh1, ev_Rh2, ev_gS, ev_gN, ev_gC, ev_gT, ev_StL, ev_StL1, ev_StL2, ev_StD, ev_StD1, ev_StD2, ev_Seq, seq_nx, seq_rt, seq_bk, seq_ct, ev_Nx, ev_Set, ev_Set1, ev_Drop, ev_Drop1, ev_Ret, ev_IfS, ev_IfS1, ev_Asg, ev_Asg1, ofS_some, ev_Par, ev_Par1, ev_Par2, ev_Tri, ev_Tri1, ev_Tri2, ev_Tri3, ev_Aug, ev_Aug1, ev_Aug2, ev_Aug3, ev_For, nox_lc, R.bind_ok, R.bindS_ok, R.of_some, List.set_cons_zero, List.set_cons_succ, if_true, Bool.false_eq_true, if_false, Bool.not_true, Bool.not_false, Option.bind_some, Option.map_some, ev_Nest, ev_Nest1, lst_nil, frz_int, frz_str, frz_bl, frz_lst, frzL_int, frzL_str, frz_non, frz_tup, frzL_cons, frzL_nil, isF_tup, isFL_cons, isFL_nil, Bool.and_true, Bool.true_and, Bool.and_self, ev_App, ev_App0, ev_App1, isF_int, isF_str, isF_bl, isF_lst, isFL_int, isFL_str, isF_non, isF_opq, fin_rt, fin_nx, endG_f, endG_t, D.key, tri_1, tri_2, tri_0, add_int, sub_int, eq_int, decide_eq_false c1, lr, lt_int, decide_eq_true hl', ix, decide_eq_false c2, o1, o2, List.map_append, List.map_cons, List.map_nil, List.append_nil]
    · have hl' : ¬ ((i : Int) < (rd.length : Int) - 1) := by omega
      have o2 : one2 rd i = [] := if_neg fun q => hl q.1
      by_cases c1 : hF rd i = PC rd
      · have o1 : one1 rd i = [(i, false)] := if_pos c1
        simp -implicitDefEqProofs only [slot_0, slot_n, slot_s, res_v, res_l, ev_C, ev_Name, ev_Name1, ev_Move, ev_Move1, ev_Loc, ev_Loc1, ev_Val, ev_Val1, ev_Fz, ev_Fz1, ev_l2, ev_l21, ev_l1, ev_l11, ev_Bin, ev_Bin1, ev_Un, ev_Tst, ev_asB, ev_NotT, ev_NotT1, ev_AndT, ev_AndT1, ev_OrT, ev_OrT1, ev_AndV, ev_AndV1, ev_OrV, ev_OrV1, ev_NotV, ev_NotV1, ev_If, ev_If1, ev_Ch, ev_Ch1, ev_Ch2, ev_Ch3, ev_Nil, ev_Cons, ev_Cons1, ev_Cons2, oc_s, ress_0, ress_s, ocF_s, resF_0, resF_s, ev_lN, ev_lN1, ev_CallB, kRet_ok, ev_Call, ev_Call1, ev_Call2, kRetM_ok, ev_CallM, ev_CallM1, ev_CallM2, ev_M1, ev_M11, ev_M12, ev_M13, ev_M14, ev_Pk, ev_Pk1, ev_PkSl, ev_PkSl1, ev_pk, ev_pk1, prt_n, prt_s, prt_1, prt_2, ev_Sl, ev_Sl0, ev_Sl1, ev_Sl2, ev_Sl3, ev_DG, ev_DGs, ev_DG0, ev_DG1, ev_DG2, ev_DG3, ev_DG4, ev_P0, ev_P1, ev_P2, ev_P3, ev_Disp, ev_Disp1, ev_Lc, ev_Lc1, ev_Lc2, ev_Yes, wipe_0, wipe_s, rest_0, rest_s, ev_Iter, ev_Iter1, ev_Enum, ev_Enum1, ev_Zip, ev_Zip1, ev_Zip2, ev_Zip3, ev_Rg, ev_Rg0, ev_Rg1, ev_Rh, ev_Rh0, ev_Rh1, ev_Rh2, ev_gS, ev_gN, ev_gC, ev_gT, ev_StL, ev_StL1, ev_StL2, ev_StD, ev_StD1, ev_StD2, ev_Seq, seq_nx, seq_rt, seq_bk, seq_ct, ev_Nx, ev_Set, ev_Set1, ev_Drop, ev_Drop1, ev_Ret, ev_IfS, ev_IfS1, ev_Asg, ev_Asg1, ofS_some, ev_Par, ev_Par1, ev_Par2, ev_Tri, ev_Tri1, ev_Tri2, ev_Tri3, ev_Aug, ev_Aug1, ev_Aug2, ev_Aug3, ev_For, nox_lc, R.bind_ok, R.bindS_ok, R.of_some, List.set_cons_zero, List.set_cons_succ, if_true, Bool.false_eq_true, if_false, Bool.not_true, Bool.not_false, Option.bind_some, Option.map_some, ev_Nest, ev_Nest1, lst_nil, frz_int, frz_str, frz_bl, frz_lst, frzL_int, frzL_str, frz_non, frz_tup, frzL_cons, frzL_nil, isF_tup, isFL_cons, isFL_nil, Bool.and_true, Bool.true_and, Bool.and_self, ev_App, ev_App0, ev_App1, isF_int, isF_str, isF_bl, isF_lst, isFL_int, isFL_str, isF_non, isF_opq, fin_rt, fin_nx, endG_f, endG_t, D.key, tri_1, sub_int, eq_int, decide_eq_true c1, tg_hold, ev_App2 a1, lr, lt_int, decide_eq_false hl', o1, o2, List.map_append, List.map_cons, List.map_nil, List.append_nil]
      · have o1 : one1 rd i = [] := if_neg c1
        simp -implicitDefEqProofs only [slot_0, slot_n, slot_s, res_v, res_l, ev_C, ev_Name, ev_Name1, ev_Move, ev_Move1, ev_Loc, ev_Loc1, ev_Val, ev_Val1, ev_Fz, ev_Fz1, ev_l2, ev_l21, ev_l1, ev_l11, ev_Bin, ev_Bin1, ev_Un, ev_Tst, ev_asB, ev_NotT, ev_NotT1, ev_AndT, ev_AndT1, ev_OrT, ev_OrT1, ev_AndV, ev_AndV1, ev_OrV, ev_OrV1, ev_NotV, ev_NotV1, ev_If, ev_If1, ev_Ch, ev_Ch1, ev_Ch2, ev_Ch3, ev_Nil, ev_Cons, ev_Cons1, ev_Cons2, oc_s, ress_0, ress_s, ocF_s, resF_0, resF_s, ev_lN, ev_lN1, ev_CallB, kRet_ok, ev_Call, ev_Call1, ev_Call2, kRetM_ok, ev_CallM, ev_CallM1, ev_CallM2, ev_M1, ev_M11, ev_M12, ev_M13, ev_M14, ev_Pk, ev_Pk1, ev_PkSl, ev_PkSl1, ev_pk, ev_pk1, prt_n, prt_s, prt_1, prt_2, ev_Sl, ev_Sl0, ev_Sl1, ev_Sl2, ev_Sl3, ev_DG, ev_DGs, ev_DG0, ev_DG1, ev_DG2, ev_DG3, ev_DG4, ev_P0, ev_P1, ev_P2, ev_P3, ev_Disp, ev_Disp1, ev_Lc, ev_Lc1, ev_Lc2, ev_Yes, wipe_0, wipe_s, rest_0, rest_s, ev_Iter, ev_Iter1, ev_Enum, ev_Enum1, ev_Zip, ev_Zip1, ev_Zip2, ev_Zip3, ev_Rg, ev_Rg0, ev_Rg1, ev_Rh, ev_Rh0, ev_Rh1, ev_Rh2, ev_gS, ev_gN, ev_gC, ev_gT, ev_StL, ev_StL1, ev_StL2, ev_StD, ev_StD1, ev_StD2, ev_Seq, seq_nx, seq_rt, seq_bk, seq_ct, ev_Nx, ev_Set, ev_Set1, ev_Drop, ev_Drop1, ev_Ret, ev_IfS, ev_IfS1, ev_Asg, ev_Asg1, ofS_some, ev_Par, ev_Par1, ev_Par2, ev_Tri, ev_Tri1, ev_Tri2, ev_Tri3, ev_Aug, ev_Aug1, ev_Aug2, ev_Aug3, ev_For, nox_lc, R.bind_ok, R.bindS_ok, R.of_some, List.set_cons_zero, List.set_cons_succ, if_true, Bool.false_eq_true, if_false, Bool.not_true, Bool.not_false, Option.bind_some, Option.map_some, ev_Nest, ev_Nest1, lst_nil, frz_int, frz_str, frz_bl, frz_lst, frzL_int, frzL_str, frz_non, frz_tup, frzL_cons, frzL_nil, isF_tup, isFL_cons, isFL_nil, Bool.and_true, Bool.true_and, Bool.and_self, ev_App, ev_App0, ev_App1, isF_int, isF_str, isF_bl, isF_lst, isFL_int, isFL_str, isF_non, isF_opq, fin_rt, fin_nx, endG_f, endG_t, D.key, tri_1, sub_int, eq_int, decide_eq_false c1, lr, lt_int, decide_eq_false hl', o1, o2, List.map_append, List.map_cons, List.map_nil, List.append_nil]
/-- what is shown of it -/
def sP (p : Nat × Bool) : PyData := .tuple [.int (p.1 : Nat), .str (if p.2 then Str.ofString "ring" else Str.ofString "hold")]
theorem slo_py : ∀ l : List (Nat × Bool), D.pyL (l.map sD) = some (l.map sP)
  | [] => rfl
  | p :: l => by
    show (match (sD p).py, D.pyL (l.map sD) with
      | some p, some ps => some (p :: ps)
      | _, _ => none) = _
    rw [slo_py l]; rfl
theorem slo_parts : ∀ l : List (Nat × Bool), (∀ p ∈ l, p.1 ≤ 100) → PyData.showableAll (l.map sP) = true ∧ PyData.leavesShortAll 1200 (l.map sP) = true ∧ PyData.bulkAll (l.map sP) = 7 * l.length ∧ PyData.depthAll (l.map sP) ≤ 1
  | [], _ => ⟨rfl, rfl, rfl, Nat.zero_le _⟩
  | p :: l, h => by
    obtain ⟨a, b, c, d⟩ := slo_parts l fun x hx => h x (List.mem_cons_of_mem _ hx)
    obtain ⟨u, v⟩ := int_shown (i := ((p.1 : Nat) : Int)) (by
      have := h p List.mem_cons_self
      show (((p.1 : Nat) : Int)).natAbs < 2 ^ 1000
      have z : (100 : Nat) < 2 ^ 1000 := by decide
      omega)
    obtain ⟨x, y⟩ := p
    have w1 : (Str.ofString "ring").cps.size = 4 ∧ (Str.ofString "hold").cps.size = 4 := by decide +kernel
    have w2 : ((Str.ofString "ring").cps.toList.all fun c => decide (c < 16 ^ 8)) = true ∧ ((Str.ofString "hold").cps.toList.all fun c => decide (c < 16 ^ 8)) = true := by decide +kernel
    refine ⟨?_, ?_, ?_, ?_⟩
    · simp only [List.map_cons, PyData.showableAll, sP, PyData.showable, Bool.and_true, a]
      simpa only [PyData.showable] using v
    · simp only [List.map_cons, PyData.leavesShortAll, sP, PyData.leavesShort, b, Bool.and_true, Bool.and_eq_true]
      refine ⟨decide_eq_true u, ?_⟩
      cases y
      · exact w2.2
      · exact w2.1
    · have : PyData.bulk (sP (x, y)) = 6 := by
        simp only [sP, PyData.bulk, PyData.bulkAll]
        cases y
        · show 0 + 1 + ((Str.ofString "hold").cps.size + 1 + 0) = 6
          rw [w1.2]
        · show 0 + 1 + ((Str.ofString "ring").cps.size + 1 + 0) = 6
          rw [w1.1]
      simp only [List.map_cons, PyData.bulkAll, this, c, List.length_cons]
      omega
    · have : PyData.depth (sP (x, y)) = 1 := by
        simp only [sP]; rfl
      simp only [List.map_cons, PyData.depthAll, this]
      omega
theorem slo_small (rd : List Tr) : ∀ m, ∀ p ∈ slo rd m, p.1 < m
  | 0, p, h => nomatch h
  | m + 1, p, h => by
    have h : p ∈ slo rd m ++ one1 rd m ++ one2 rd m := h
    rcases List.mem_append.mp h with h | h
    · rcases List.mem_append.mp h with h | h
      · have := slo_small rd m p h
        omega
      · unfold one1 at h
        split at h
        · rw [List.mem_singleton.mp h]; exact Nat.lt_succ_self m
        · cases h
    · unfold one2 at h
      split at h
      · rw [List.mem_singleton.mp h]; exact Nat.lt_succ_self m
      · cases h
theorem repr_slo {rd : List Tr} (g : Good rd) : reprG [.tup ((slo rd rd.length).map sD)] = some (.str (PyData.shown (.tuple ((slo rd rd.length).map sP)))) := by
  have l2 := g.l2
  obtain ⟨a, b, c, d⟩ := slo_parts (slo rd rd.length) fun p hp => by have := slo_small rd _ p hp; omega
  have hl := slo_len rd rd.length
  refine repr_gen (p := .tuple ((slo rd rd.length).map sP)) ?_ (by simpa only [PyData.showable] using a) (by simpa only [PyData.leavesShort] using b) (by simp only [PyData.bulk, c]; omega) ?_
  · show (D.pyL ((slo rd rd.length).map sD)).map PyData.tuple = _
    rw [slo_py]; rfl
  · show PyData.depthAll ((slo rd rd.length).map sP) + 1 ≤ 64
    omega
/-! ### the law -/
theorem eqT_self {d : D} {p : PyData} (h : d.py = some p) (h2 : p.depth ≤ 64) : eqD true d d = some (.bl false) := by
  unfold eqD
  rw [h]
  show (if p.depth ≤ 64 then some (D.bl (if true = true then !PyData.eqv p p else PyData.eqv p p)) else none) = _
  rw [if_pos h2, PySem.SeqAt.eqv_refl_plain p (D.py_plain d h)]; rfl
def tP (t : Tr) : PyData := .tuple [.int t.1, .int t.2.1, .int t.2.2]
theorem road_py : ∀ rd : List Tr, D.pyL (roadD rd) = some (rd.map tP)
  | [] => rfl
  | t :: rd => by
    show (match (td t).py, D.pyL (roadD rd) with
      | some p, some ps => some (p :: ps)
      | _, _ => none) = _
    rw [road_py rd]; rfl
theorem road_depth : ∀ rd : List Tr, PyData.depthAll (rd.map tP) ≤ 1
  | [] => Nat.zero_le _
  | t :: rd => by
    have := road_depth rd
    have e : PyData.depth (tP t) = 1 := by simp only [tP]; rfl
    simp only [List.map_cons, PyData.depthAll, e]
    omega
theorem eq_road {rd : List Tr} : eqD true (.tup (roadD rd)) (.tup (roadD rd)) = some (.bl false) := by
  refine eqT_self (p := .tuple (rd.map tP)) ?_ ?_
  · show (D.pyL (roadD rd)).map PyData.tuple = _
    rw [road_py]; rfl
  · have := road_depth rd
    show PyData.depthAll (rd.map tP) + 1 ≤ 64
    omega
theorem bg_le {rd : List Tr} (g : Good rd) : ∀ i : Nat, Rd.bg (sF rd) i ≤ 1000 * i
  | 0 => Int.le_refl _
  | i + 1 => by
    have := bg_le g i
    have := (g.at (i + 1)).s1
    show Rd.bg (sF rd) i + sF rd (i + 1) ≤ _
    omega
theorem W_le {rd : List Tr} (g : Good rd) : ∀ j i : Nat, i < rd.length → W rd i j ≤ 1000 * i + 2000 * j
  | 0, i, hi => by
    have := bg_le g i
    have e : W rd i 0 = Rd.bg (sF rd) i := wn_0 _ _
    omega
  | j + 1, i, hi => by
    have ih := W_le g j
    induction i with
    | zero =>
      refine W_down g hi (fun k hk => by omega) ?_ fun h => ?_
      · have := ih 0 hi
        have := (g.at 0).h1
        omega
      · have : W rd (0 + 1) j ≤ _ := ih (0 + 1) h
        have := (g.at 0).a1
        omega
    | succ i ihi =>
      refine W_down g hi (fun k hk => ?_) ?_ fun h => ?_
      · have : k = i := by omega
        subst this
        have := ihi (by omega)
        have := (g.at (k + 1)).s1
        omega
      · have := ih (i + 1) hi
        have := (g.at (i + 1)).h1
        omega
      · have := ih (i + 1 + 1) h
        have := (g.at (i + 1)).a1
        omega
theorem W_log {rd : List Tr} (g : Good rd) {i j : Nat} (hi : i < rd.length) (hj : j ≤ 60) : (W rd i j).natAbs.log2 < 1920 := by
  have h1 := W_le g j i hi
  have h2 : 0 ≤ W rd i j := wn_pos g.hs g.hh _ _ _
  have := g.l2
  exact Nat.lt_trans (log2_lt_of (n := 30) (by omega) (by decide)) (by decide)
theorem repr_pc {rd : List Tr} (g : Good rd) : reprG [.int (PC rd)] = some (.str (PyData.shown (.int (PC rd)))) := by
  have := g.bs (rd.length - 1)
  have h : 0 ≤ PC rd ∧ PC rd ≤ 2000 := this
  exact repr_int (Nat.lt_trans (log2_lt_of (n := 30) (by omega) (by decide)) (by decide))
/-- the twenty looks at one road -/
theorem looks {rd : List Tr} (g : Good rd) {count : Nat} (hc : 1 ≤ count) (hc2 : count ≤ 60) {n : Nat} {m z o2 o6 o7 o8 : D} (hD : DrB n m) (hn : n + 100 < 2 ^ 40) (p6 p7 p8 : Option D) :
    ∃ m' q6 q7 q8, forF (gSet 6) (fSeq (fPar 7 8 (fCallM G__law_next (fCons (fLoc 1) (fCons (fVal (fFz (fCallB lenG (fCons (fLoc 3) (fNil))))) (fNil)))) (fCallM G__law_next (fCons (fLoc 1) (fCons (fVal (fName 4)) (fNil))))) (fIfS (fTst (fBin (eqD true) (fVal (fCallB reprG (fCons (fVal (fCall G_when (fCons (fVal (fName 3)) (fCons (fVal (fName 7)) (fCons (fVal (fName 8)) (fNil)))))) (fNil)))) (fVal (fCallB reprG (fCons (fVal (fBin ixD (fVal (fBin ixD (fLoc 5) (fLoc 8))) (fLoc 7))) (fNil)))))) (fRet (fC (.bl false))) (fNx))) (rangeL 0 20)
      [some z, some m, some o2, some (.tup (roadD rd)), some (.int count), some (.lst true (films rd count)), p6, p7, p8]
      = .nx [some z, some m', some o2, some (.tup (roadD rd)), some (.int count), some (.lst true (films rd count)), q6, q7, q8] ∧ DrB (n + 40) m' := by
  have l1 := g.l1
  have l2 := g.l2
  have lp := forF_inv (g := gSet 6) (body := fSeq (fPar 7 8 (fCallM G__law_next (fCons (fLoc 1) (fCons (fVal (fFz (fCallB lenG (fCons (fLoc 3) (fNil))))) (fNil)))) (fCallM G__law_next (fCons (fLoc 1) (fCons (fVal (fName 4)) (fNil))))) (fIfS (fTst (fBin (eqD true) (fVal (fCallB reprG (fCons (fVal (fCall G_when (fCons (fVal (fName 3)) (fCons (fVal (fName 7)) (fCons (fVal (fName 8)) (fNil)))))) (fNil)))) (fVal (fCallB reprG (fCons (fVal (fBin ixD (fVal (fBin ixD (fLoc 5) (fLoc 8))) (fLoc 7))) (fNil)))))) (fRet (fC (.bl false))) (fNx))) (ds := rangeL 0 20)
    (fun k ρ => ∃ m' q6 q7 q8, ρ = [some z, some m', some o2, some (.tup (roadD rd)), some (.int count), some (.lst true (films rd count)), q6, q7, q8] ∧ DrB (n + 2 * k) m') (fun k d ρ hd hk => ?_)
    (ρ := [some z, some m, some o2, some (.tup (roadD rd)), some (.int count), some (.lst true (films rd count)), p6, p7, p8]) ⟨m, _, _, _, rfl, hD⟩
  · obtain ⟨ρ', e, m', q6, q7, q8, rfl, D'⟩ := lp
    rw [rangeL_n] at D'
    exact ⟨m', q6, q7, q8, e, D'.mono (by omega)⟩
  · obtain ⟨m', q6, q7, q8, rfl, D'⟩ := hk
    obtain ⟨hk, rfl⟩ := rangeL_get hd
    obtain ⟨i, m2, e2, i0, i1, D2⟩ := nextB D' (by omega) (t := ((rd.length : Nat) : Int)) (by omega) (small_log (by omega) (by omega))
    rw [← next_eq] at e2
    obtain ⟨i, rfl⟩ := Int.eq_ofNat_of_zero_le i0
    obtain ⟨j, m3, e3, j0, j1, D3⟩ := nextB D2 (by omega) (t := ((count : Nat) : Int)) (by omega) (small_log (by omega) (by omega))
    rw [← next_eq] at e3
    obtain ⟨j, rfl⟩ := Int.eq_ofNat_of_zero_le j0
    have lr : lenG [.tup (roadD rd)] = some (.int ((rd.length : Nat) : Int)) := by rw [lenG_tup, roadD_len]
    have ew : G_when [.tup (roadD rd), .int (i : Int), .int (j : Int)] = .ok (.int (W rd i j)) [] := by
      rw [when_eq]; exact Rd.when_ok g (by omega) (by omega)
    have i1 : ixD (.lst true (films rd count)) (.int (j : Int)) = some (rowD rd j) := ix_lst (films_get (by omega)) rowD_F
    have i2 : ixD (rowD rd j) (.int (i : Int)) = some (.int (W rd i j)) := ix_int (row_get (by omega))
    have rp := repr_int (W_log g (i := i) (j := j) (by omega) (by omega))
    refine ⟨_, [some z, some m3, some o2, some (.tup (roadD rd)), some (.int count), some (.lst true (films rd count)), some (.int (0 + (k : Int))), some (.int (i : Int)), some (.int (j : Int))], rfl, .inl ?_, m3, _, _, _, rfl, D3.mono (by omega)⟩
    simp -implicitDefEqProofs only [slot_0, slot_n, slot_s, res_v, res_l, ev_C, ev_Name, ev_Name1, ev_Move, ev_Move1, ev_Loc, ev_Loc1, ev_Val, ev_Val1, ev_Fz, ev_Fz1, ev_l2, ev_l21, ev_l1, ev_l11, ev_Bin, ev_Bin1, ev_Un, ev_Tst, ev_asB, ev_NotT, ev_NotT1, ev_AndT, ev_AndT1, ev_OrT, ev_OrT1, ev_AndV, ev_AndV1, ev_OrV, ev_OrV1, ev_NotV, ev_NotV1, ev_If, ev_If1, ev_Ch, ev_Ch1, ev_Ch2, ev_Ch3, ev_Nil, ev_Cons, ev_Cons1, ev_Cons2, oc_s, ress_0, ress_s, ocF_s, resF_0, resF_s, ev_lN, ev_lN1, ev_CallB, kRet_ok, ev_Call, ev_Call1, ev_Call2, kRetM_ok, ev_CallM, ev_CallM1, ev_CallM2, ev_M1, ev_M11, ev_M12, ev_M13, ev_M14, ev_Pk, ev_Pk1, ev_PkSl, ev_PkSl1, ev_pk, ev_pk1, prt_n, prt_s, prt_1, prt_2, ev_Sl, ev_Sl0, ev_Sl1, ev_Sl2, ev_Sl3, ev_DG, ev_DGs, ev_DG0, ev_DG1, ev_DG2, ev_DG3, ev_DG4, ev_P0, ev_P1, ev_P2, ev_P3, ev_Disp, ev_Disp1, ev_Lc, ev_Lc1, ev_Lc2, ev_Yes, wipe_0, wipe_s, rest_0, rest_s, ev_Iter, ev_Iter1, ev_Enum, ev_Enum1, ev_Zip, ev_Zip1, ev_Zip2, ev_Zip3, ev_Rg, ev_Rg0, ev_Rg1, ev_Rh, ev_Rh0, ev_Rh1, ev_Rh2, ev_gS, ev_gN, ev_gC, ev_gT, ev_StL, ev_StL1, ev_StL2, ev_StD, ev_StD1, ev_StD2, ev_Seq, seq_nx, seq_rt, seq_bk, seq_ct, ev_Nx, ev_Set, ev_Set1, ev_Drop, ev_Drop1, ev_Ret, ev_IfS, ev_IfS1, ev_Asg, ev_Asg1, ofS_some, ev_Par, ev_Par1, ev_Par2, ev_Tri, ev_Tri1, ev_Tri2, ev_Tri3, ev_Aug, ev_Aug1, ev_Aug2, ev_Aug3, ev_For, nox_lc, R.bind_ok, R.bindS_ok, R.of_some, List.set_cons_zero, List.set_cons_succ, if_true, Bool.false_eq_true, if_false, Bool.not_true, Bool.not_false, Option.bind_some, Option.map_some, ev_Nest, ev_Nest1, lst_nil, frz_int, frz_str, frz_bl, frz_lst, frzL_int, frzL_str, frz_non, frz_tup, frzL_cons, frzL_nil, isF_tup, isFL_cons, isFL_nil, Bool.and_true, Bool.true_and, Bool.and_self, ev_App, ev_App0, ev_App1, isF_int, isF_str, isF_bl, isF_lst, isFL_int, isFL_str, isF_non, isF_opq, fin_rt, fin_nx, endG_f, endG_t, D.key, roadD_z, roadD_F, lr, e2, e3, ew, i1, i2, rp, eq_str, decide_true]
theorem law_holds (ns : List Int) (h : ns.length ≤ 63) : ∃ m, G_law [.lst false (ns.map D.int)] = .ok (.bl true) m := by
  obtain ⟨m0, e0, D0⟩ := begunB h
  rw [← begun_eq] at e0
  unfold G_law
  rw [GF_1]
  unfold fb_law
  have hb : 0 ≤ 4 + min ((ns.length : Nat) : Int) 7 ∧ 4 + min ((ns.length : Nat) : Int) 7 ≤ 11 := by omega
  simp -implicitDefEqProofs only [slot_0, slot_n, slot_s, res_v, res_l, ev_C, ev_Name, ev_Name1, ev_Move, ev_Move1, ev_Loc, ev_Loc1, ev_Val, ev_Val1, ev_Fz, ev_Fz1, ev_l2, ev_l21, ev_l1, ev_l11, ev_Bin, ev_Bin1, ev_Un, ev_Tst, ev_asB, ev_NotT, ev_NotT1, ev_AndT, ev_AndT1, ev_OrT, ev_OrT1, ev_AndV, ev_AndV1, ev_OrV, ev_OrV1, ev_NotV, ev_NotV1, ev_If, ev_If1, ev_Ch, ev_Ch1, ev_Ch2, ev_Ch3, ev_Nil, ev_Cons, ev_Cons1, ev_Cons2, oc_s, ress_0, ress_s, ocF_s, resF_0, resF_s, ev_lN, ev_lN1, ev_CallB, kRet_ok, ev_Call, ev_Call1, ev_Call2, kRetM_ok, ev_CallM, ev_CallM1, ev_CallM2, ev_M1, ev_M11, ev_M12, ev_M13, ev_M14, ev_Pk, ev_Pk1, ev_PkSl, ev_PkSl1, ev_pk, ev_pk1, prt_n, prt_s, prt_1, prt_2, ev_Sl, ev_Sl0, ev_Sl1, ev_Sl2, ev_Sl3, ev_DG, ev_DGs, ev_DG0, ev_DG1, ev_DG2, ev_DG3, ev_DG4, ev_P0, ev_P1, ev_P2, ev_P3, ev_Disp, ev_Disp1, ev_Lc, ev_Lc1, ev_Lc2, ev_Yes, wipe_0, wipe_s, rest_0, rest_s, ev_Iter, ev_Iter1, ev_Enum, ev_Enum1, ev_Zip, ev_Zip1, ev_Zip2, ev_Zip3, ev_Rg, ev_Rg0, ev_Rg1, ev_Rh, ev_Rh0, ev_Rh1, ev_Rh2, ev_gS, ev_gN, ev_gC, ev_gT, ev_StL, ev_StL1, ev_StL2, ev_StD, ev_StD1, ev_StD2, ev_Seq, seq_nx, seq_rt, seq_bk, seq_ct, ev_Nx, ev_Set, ev_Set1, ev_Drop, ev_Drop1, ev_Ret, ev_IfS, ev_IfS1, ev_Asg, ev_Asg1, ofS_some, ev_Par, ev_Par1, ev_Par2, ev_Tri, ev_Tri1, ev_Tri2, ev_Tri3, ev_Aug, ev_Aug1, ev_Aug2, ev_Aug3, ev_For, nox_lc, R.bind_ok, R.bindS_ok, R.of_some, List.set_cons_zero, List.set_cons_succ, if_true, Bool.false_eq_true, if_false, Bool.not_true, Bool.not_false, Option.bind_some, Option.map_some, ev_Nest, ev_Nest1, lst_nil, frz_int, frz_str, frz_bl, frz_lst, frzL_int, frzL_str, frz_non, frz_tup, frzL_cons, frzL_nil, isF_tup, isFL_cons, isFL_nil, Bool.and_true, Bool.true_and, Bool.and_self, ev_App, ev_App0, ev_App1, isF_int, isF_str, isF_bl, isF_lst, isFL_int, isFL_str, isF_non, isF_opq, fin_rt, fin_nx, endG_f, endG_t, D.key, List.replicate, e0, lenG_lst, List.length_map, min2_int, add_int, if_pos (big62_at hb.1 (by omega)), kFor]
  generalize hN : (4 + min ((ns.length : Nat) : Int) 7).toNat = N
  have hN2 : N ≤ 11 := by omega
  refine law_for (fun i ρ => ∃ m o2 o3 o4 o5 o6 o7 o8, ρ = [some (.lst false (ns.map D.int)), some m, o2, o3, o4, o5, o6, o7, o8] ∧ DrB (i * 1000) m) ⟨m0, _, _, _, _, _, _, _, rfl, D0⟩ (fun i d ρ hd hi => ?_) (fun ρ' hi => ?_)
  · obtain ⟨hi15, rfl⟩ := rangeL_get hd
    obtain ⟨m, o2, o3, o4, o5, o6, o7, o8, rfl, DD⟩ := hi
    have big : i * 1000 < 11000 := by omega
    have e20 : ((20 : Int)).toNat = 20 := rfl
    have b20 : big62 = big62 := rfl
    by_cases z : i = 0
    · subst z
      have c0 : ¬ (0 + ((0 : Nat) : Int) > 0) := by decide
      obtain ⟨rd, m1, ew, g, D1⟩ := way_ok DD (most := 40) (bound := 1000) (by decide) (by decide) (by decide) (by decide) (by omega)
      have ef : G__law_film [.tup (roadD rd), .int 60] = .ok (.lst true (films rd 60)) [] := by rw [film_eq]; exact Rd.film_ok (J := 60) g (by omega)
      have en := Rd.need_ok g
      rw [← need_eq] at en
      have p1 := pace_ok g
      have p2 := law_pace_ok g
      have p3 := repr_pc g
      have s1 := slowest_ok g
      have s2 := law_slowest_ok g
      have s3 := repr_slo g
      obtain ⟨m2, q6, q7, q8, el, D2⟩ := looks (count := 60) g (by decide) (by decide) (z := .lst false (ns.map D.int)) (o2 := .int (0 + ((0 : Nat) : Int))) (o6 := .non) (o7 := .non) (o8 := .non) D1 (by omega) o6 o7 o8
      refine ⟨_, [some (.lst false (ns.map D.int)), some m2, some (.int (0 + ((0 : Nat) : Int))), some (.tup (roadD rd)), some (.int 60), some (.lst true (films rd 60)), q6, q7, q8], rfl, .inl ?_, m2, _, _, _, _, _, _, _, rfl, D2.mono (by omega)⟩
      simp -implicitDefEqProofs only [slot_0, slot_n, slot_s, res_v, res_l, ev_C, ev_Name, ev_Name1, ev_Move, ev_Move1, ev_Loc, ev_Loc1, ev_Val, ev_Val1, ev_Fz, ev_Fz1, ev_l2, ev_l21, ev_l1, ev_l11, ev_Bin, ev_Bin1, ev_Un, ev_Tst, ev_asB, ev_NotT, ev_NotT1, ev_AndT, ev_AndT1, ev_OrT, ev_OrT1, ev_AndV, ev_AndV1, ev_OrV, ev_OrV1, ev_NotV, ev_NotV1, ev_If, ev_If1, ev_Ch, ev_Ch1, ev_Ch2, ev_Ch3, ev_Nil, ev_Cons, ev_Cons1, ev_Cons2, oc_s, ress_0, ress_s, ocF_s, resF_0, resF_s, ev_lN, ev_lN1, ev_CallB, kRet_ok, ev_Call, ev_Call1, ev_Call2, kRetM_ok, ev_CallM, ev_CallM1, ev_CallM2, ev_M1, ev_M11, ev_M12, ev_M13, ev_M14, ev_Pk, ev_Pk1, ev_PkSl, ev_PkSl1, ev_pk, ev_pk1, prt_n, prt_s, prt_1, prt_2, ev_Sl, ev_Sl0, ev_Sl1, ev_Sl2, ev_Sl3, ev_DG, ev_DGs, ev_DG0, ev_DG1, ev_DG2, ev_DG3, ev_DG4, ev_P0, ev_P1, ev_P2, ev_P3, ev_Disp, ev_Disp1, ev_Lc, ev_Lc1, ev_Lc2, ev_Yes, wipe_0, wipe_s, rest_0, rest_s, ev_Iter, ev_Iter1, ev_Enum, ev_Enum1, ev_Zip, ev_Zip1, ev_Zip2, ev_Zip3, ev_Rg, ev_Rg0, ev_Rg1, ev_Rh, ev_Rh0, ev_Rh1, ev_Rh2, ev_gS, ev_gN, ev_gC, ev_gT, ev_StL, ev_StL1, ev_StL2, ev_StD, ev_StD1, ev_StD2, ev_Seq, seq_nx, seq_rt, seq_bk, seq_ct, ev_Nx, ev_Set, ev_Set1, ev_Drop, ev_Drop1, ev_Ret, ev_IfS, ev_IfS1, ev_Asg, ev_Asg1, ofS_some, ev_Par, ev_Par1, ev_Par2, ev_Tri, ev_Tri1, ev_Tri2, ev_Tri3, ev_Aug, ev_Aug1, ev_Aug2, ev_Aug3, ev_For, nox_lc, R.bind_ok, R.bindS_ok, R.of_some, List.set_cons_zero, List.set_cons_succ, if_true, Bool.false_eq_true, if_false, Bool.not_true, Bool.not_false, Option.bind_some, Option.map_some, ev_Nest, ev_Nest1, lst_nil, frz_int, frz_str, frz_bl, frz_lst, frzL_int, frzL_str, frz_non, frz_tup, frzL_cons, frzL_nil, isF_tup, isFL_cons, isFL_nil, Bool.and_true, Bool.true_and, Bool.and_self, ev_App, ev_App0, ev_App1, isF_int, isF_str, isF_bl, isF_lst, isFL_int, isFL_str, isF_non, isF_opq, fin_rt, fin_nx, endG_f, endG_t, D.key, gt_int, decide_eq_false c0, ew, roadD_z, roadD_F, ef, en, eq_road, p1, p2, p3, s1, s2, s3, slo_F, eq_str, decide_true, if_pos (big62_at (i := (20 : Int)) (by decide) (by decide)), e20, kFor]
      exact el
    · have c0 : 0 + ((i : Nat) : Int) > 0 := by omega
      obtain ⟨rd, m1, ew, g, D1⟩ := way_ok DD (most := 6) (bound := 9) (by decide) (by decide) (by decide) (by decide) (by omega)
      have ef : G__law_film [.tup (roadD rd), .int 25] = .ok (.lst true (films rd 25)) [] := by rw [film_eq]; exact Rd.film_ok (J := 25) g (by omega)
      have en := Rd.need_ok g
      rw [← need_eq] at en
      have p1 := pace_ok g
      have p2 := law_pace_ok g
      have p3 := repr_pc g
      have s1 := slowest_ok g
      have s2 := law_slowest_ok g
      have s3 := repr_slo g
      obtain ⟨m2, q6, q7, q8, el, D2⟩ := looks (count := 25) g (by decide) (by decide) (z := .lst false (ns.map D.int)) (o2 := .int (0 + (i : Int))) (o6 := .non) (o7 := .non) (o8 := .non) D1 (by omega) o6 o7 o8
      refine ⟨_, [some (.lst false (ns.map D.int)), some m2, some (.int (0 + (i : Int))), some (.tup (roadD rd)), some (.int 25), some (.lst true (films rd 25)), q6, q7, q8], rfl, .inl ?_, m2, _, _, _, _, _, _, _, rfl, D2.mono (by omega)⟩
      simp -implicitDefEqProofs only [slot_0, slot_n, slot_s, res_v, res_l, ev_C, ev_Name, ev_Name1, ev_Move, ev_Move1, ev_Loc, ev_Loc1, ev_Val, ev_Val1, ev_Fz, ev_Fz1, ev_l2, ev_l21, ev_l1, ev_l11, ev_Bin, ev_Bin1, ev_Un, ev_Tst, ev_asB, ev_NotT, ev_NotT1, ev_AndT, ev_AndT1, ev_OrT, ev_OrT1, ev_AndV, ev_AndV1, ev_OrV, ev_OrV1, ev_NotV, ev_NotV1, ev_If, ev_If1, ev_Ch, ev_Ch1, ev_Ch2, ev_Ch3, ev_Nil, ev_Cons, ev_Cons1, ev_Cons2, oc_s, ress_0, ress_s, ocF_s, resF_0, resF_s, ev_lN, ev_lN1, ev_CallB, kRet_ok, ev_Call, ev_Call1, ev_Call2, kRetM_ok, ev_CallM, ev_CallM1, ev_CallM2, ev_M1, ev_M11, ev_M12, ev_M13, ev_M14, ev_Pk, ev_Pk1, ev_PkSl, ev_PkSl1, ev_pk, ev_pk1, prt_n, prt_s, prt_1, prt_2, ev_Sl, ev_Sl0, ev_Sl1, ev_Sl2, ev_Sl3, ev_DG, ev_DGs, ev_DG0, ev_DG1, ev_DG2, ev_DG3, ev_DG4, ev_P0, ev_P1, ev_P2, ev_P3, ev_Disp, ev_Disp1, ev_Lc, ev_Lc1, ev_Lc2, ev_Yes, wipe_0, wipe_s, rest_0, rest_s, ev_Iter, ev_Iter1, ev_Enum, ev_Enum1, ev_Zip, ev_Zip1, ev_Zip2, ev_Zip3, ev_Rg, ev_Rg0, ev_Rg1, ev_Rh, ev_Rh0, ev_Rh1, ev_Rh2, ev_gS, ev_gN, ev_gC, ev_gT, ev_StL, ev_StL1, ev_StL2, ev_StD, ev_StD1, ev_StD2, ev_Seq, seq_nx, seq_rt, seq_bk, seq_ct, ev_Nx, ev_Set, ev_Set1, ev_Drop, ev_Drop1, ev_Ret, ev_IfS, ev_IfS1, ev_Asg, ev_Asg1, ofS_some, ev_Par, ev_Par1, ev_Par2, ev_Tri, ev_Tri1, ev_Tri2, ev_Tri3, ev_Aug, ev_Aug1, ev_Aug2, ev_Aug3, ev_For, nox_lc, R.bind_ok, R.bindS_ok, R.of_some, List.set_cons_zero, List.set_cons_succ, if_true, Bool.false_eq_true, if_false, Bool.not_true, Bool.not_false, Option.bind_some, Option.map_some, ev_Nest, ev_Nest1, lst_nil, frz_int, frz_str, frz_bl, frz_lst, frzL_int, frzL_str, frz_non, frz_tup, frzL_cons, frzL_nil, isF_tup, isFL_cons, isFL_nil, Bool.and_true, Bool.true_and, Bool.and_self, ev_App, ev_App0, ev_App1, isF_int, isF_str, isF_bl, isF_lst, isFL_int, isFL_str, isF_non, isF_opq, fin_rt, fin_nx, endG_f, endG_t, D.key, gt_int, decide_eq_true c0, ew, roadD_z, roadD_F, ef, en, eq_road, p1, p2, p3, s1, s2, s3, slo_F, eq_str, decide_true, if_pos (big62_at (i := (20 : Int)) (by decide) (by decide)), e20, kFor]
      exact el
  · obtain ⟨m, o2, o3, o4, o5, o6, o7, o8, rfl, _⟩ := hi
    have t1 : tupG [.int 5, .int 2, .int 7] = some (tri 5 2 7) := tupG_of (by show 3 ≤ sizeLine; decide) rfl
    have t2 : tupG [.int 3, .int 4, .int 0] = some (tri 3 4 0) := tupG_of (by show 3 ≤ sizeLine; decide) rfl
    have t3 : tupG [tri 5 2 7, tri 3 4 0] = some (.tup (roadD [(5, 2, 7), (3, 4, 0)])) := tupG_of (by show 2 ≤ sizeLine; decide) rfl
    have t4 : tupG [tri 5 2 7] = some (.tup (roadD [(5, 2, 7)])) := tupG_of (by show 1 ≤ sizeLine; decide) rfl
    have g1 : Good [(5, 2, 7), (3, 4, 0)] := ⟨fun t ht => by
      rcases List.mem_cons.mp ht with rfl | ht
      · exact ⟨by decide, by decide, by decide, by decide, by decide, by decide⟩
      · rw [List.mem_singleton.mp ht]
        exact ⟨by decide, by decide, by decide, by decide, by decide, by decide⟩, by decide, by decide⟩
    have g2 : Good [(5, 2, 7)] := ⟨fun t ht => by
      rw [List.mem_singleton.mp ht]
      exact ⟨by decide, by decide, by decide, by decide, by decide, by decide⟩, by decide, by decide⟩
    have w1 : G_when [.tup (roadD [(5, 2, 7), (3, 4, 0)]), .int 1, .int 3] = .ok (.int 33) [] := by
      rw [when_eq]
      have := Rd.when_ok (t := 1) (sg := 3) g1 (by decide) (by decide)
      rw [show wn (sF [(5, 2, 7), (3, 4, 0)]) (hF [(5, 2, 7), (3, 4, 0)]) (aF [(5, 2, 7), (3, 4, 0)]) ([(5, 2, 7), (3, 4, 0)] : List Tr).length 1 3 = 33 by decide +kernel] at this
      exact this
    have w2 : G_when [.tup (roadD [(5, 2, 7)]), .int 0, .int 9] = .ok (.int 18) [] := by
      rw [when_eq]
      have := Rd.when_ok (t := 0) (sg := 9) g2 (by decide) (by decide)
      rw [show wn (sF [(5, 2, 7)]) (hF [(5, 2, 7)]) (aF [(5, 2, 7)]) ([(5, 2, 7)] : List Tr).length 0 9 = 18 by decide +kernel] at this
      exact this
    have x1 : mulD (.int 3) (.int 10) = some (.int 30) := mul_int (by decide)
    have x2 : addD (.int 3) (.int 30) = some (.int 33) := add_int
    refine ⟨[], ?_⟩
    simp -implicitDefEqProofs only [slot_0, slot_n, slot_s, res_v, res_l, ev_C, ev_Name, ev_Name1, ev_Move, ev_Move1, ev_Loc, ev_Loc1, ev_Val, ev_Val1, ev_Fz, ev_Fz1, ev_l2, ev_l21, ev_l1, ev_l11, ev_Bin, ev_Bin1, ev_Un, ev_Tst, ev_asB, ev_NotT, ev_NotT1, ev_AndT, ev_AndT1, ev_OrT, ev_OrT1, ev_AndV, ev_AndV1, ev_OrV, ev_OrV1, ev_NotV, ev_NotV1, ev_If, ev_If1, ev_Ch, ev_Ch1, ev_Ch2, ev_Ch3, ev_Nil, ev_Cons, ev_Cons1, ev_Cons2, oc_s, ress_0, ress_s, ocF_s, resF_0, resF_s, ev_lN, ev_lN1, ev_CallB, kRet_ok, ev_Call, ev_Call1, ev_Call2, kRetM_ok, ev_CallM, ev_CallM1, ev_CallM2, ev_M1, ev_M11, ev_M12, ev_M13, ev_M14, ev_Pk, ev_Pk1, ev_PkSl, ev_PkSl1, ev_pk, ev_pk1, prt_n, prt_s, prt_1, prt_2, ev_Sl, ev_Sl0, ev_Sl1, ev_Sl2, ev_Sl3, ev_DG, ev_DGs, ev_DG0, ev_DG1, ev_DG2, ev_DG3, ev_DG4, ev_P0, ev_P1, ev_P2, ev_P3, ev_Disp, ev_Disp1, ev_Lc, ev_Lc1, ev_Lc2, ev_Yes, wipe_0, wipe_s, rest_0, rest_s, ev_Iter, ev_Iter1, ev_Enum, ev_Enum1, ev_Zip, ev_Zip1, ev_Zip2, ev_Zip3, ev_Rg, ev_Rg0, ev_Rg1, ev_Rh, ev_Rh0, ev_Rh1, ev_Rh2, ev_gS, ev_gN, ev_gC, ev_gT, ev_StL, ev_StL1, ev_StL2, ev_StD, ev_StD1, ev_StD2, ev_Seq, seq_nx, seq_rt, seq_bk, seq_ct, ev_Nx, ev_Set, ev_Set1, ev_Drop, ev_Drop1, ev_Ret, ev_IfS, ev_IfS1, ev_Asg, ev_Asg1, ofS_some, ev_Par, ev_Par1, ev_Par2, ev_Tri, ev_Tri1, ev_Tri2, ev_Tri3, ev_Aug, ev_Aug1, ev_Aug2, ev_Aug3, ev_For, nox_lc, R.bind_ok, R.bindS_ok, R.of_some, List.set_cons_zero, List.set_cons_succ, if_true, Bool.false_eq_true, if_false, Bool.not_true, Bool.not_false, Option.bind_some, Option.map_some, ev_Nest, ev_Nest1, lst_nil, frz_int, frz_str, frz_bl, frz_lst, frzL_int, frzL_str, frz_non, frz_tup, frzL_cons, frzL_nil, isF_tup, isFL_cons, isFL_nil, Bool.and_true, Bool.true_and, Bool.and_self, ev_App, ev_App0, ev_App1, isF_int, isF_str, isF_bl, isF_lst, isFL_int, isFL_str, isF_non, isF_opq, fin_rt, fin_nx, endG_f, endG_t, D.key, t1, t2, t3, t4, roadD_z, roadD_F, w1, w2, x1, x2, eq_int, decide_true]
end K49

namespace K49
open PySem PySem.Spec PyProof.Rows L2 DL
def top (i : Nat) : Stmt := PySem.Challenge.pw_towerline_k49_whole_times.main.body.getD i (.Pass ⟨0, 0, 0, 0⟩)
structure Txt (K : PySem.W.Frag) (mg : Str → Option Value) : Prop where
  b_list : mg "list" = none
  b_range : mg "range" = none
  b_min : mg "min" = none
  b_len : mg "len" = none
  b_int : mg "int" = none
  b_tuple : mg "tuple" = none
  b_enumerate : mg "enumerate" = none
  b_max : mg "max" = none
  b_isinstance : mg "isinstance" = none
  b_bool : mg "bool" = none
  b_repr : mg "repr" = none
  b_zip : mg "zip" = none
  b_sum : mg "sum" = none
  g_MOST_TOWERS : GInt mg "MOST_TOWERS" 40
  g_MOST_TIME : GInt mg "MOST_TIME" 1000
  g_MOST_SIGN : GInt mg "MOST_SIGN" 1000000000000000000000000000000
section
variable {P : Program} {w : World} {K : PySem.W.Frag} {mg : Str → Option Value} {base : Heap}
abbrev s__law_begun : Stmt := top 19
abbrev N__law_begun : List Str := ["script", "great", "cell"]
theorem sc__law_begun : FnScope N__law_begun ["script"] (defScope s__law_begun) := ⟨rfl, rfl, rfl, by decide +kernel, rfl, by decide +kernel, by decide +kernel⟩
theorem ok__law_begun {fa : Addr} {fd : FuncData} (F : L2.Fun K "_law_begun" "_law_begun" s__law_begun fa fd) (T : Txt K mg) : FnG P w K mg base 1 fa fd ["script"] G__law_begun :=
  fnG_of F sc__law_begun false fb__law_begun fun cdv A outer s H E c hgu hr hZ => ds_cons (ds_setLc (own := [("cell", 2)]) 3 1 (nz hZ rfl) rfl sc__law_begun.nd rfl (di_val (de_name 0 (pv 0))) (blkOk_by (N := N__law_begun) (sc := defScope s__law_begun) (by decide +kernel)) (fun _ hZ1 _ _ _ _ _ => dg_name 2 (nz hZ1 rfl) sc__law_begun.nd) (fun _ hZ1 _ _ _ _ _ => dts_one (dt_cmp op_ge ge_ok (do_loc 2 (pv 2)) (do_val (de_bin op_pow pow_ok (do_val (de_int)) (do_val (de_int)))) (nomark _))) (fun _ hZ1 _ _ _ _ _ => de_name 2 (pv 2)) (sw_true rfl rfl rfl (by decide +kernel))) (ds_one (ds_ret (de_disp (dp_str (de_callTy T.b_list call_list_of list_ok bt_list (da_cons (do_loc 0 (pv 0)) (da_nil))) (dp_str (de_move 1 (pv 1)) (dp_str (de_int) (dp_nil)))) (by decide))))
abbrev s__law_next : Stmt := top 20
abbrev N__law_next : List Str := ["m", "total", "rest", "k", "cell", "mixed"]
theorem sc__law_next : FnScope N__law_next ["m", "total"] (defScope s__law_next) := ⟨rfl, rfl, rfl, by decide +kernel, rfl, by decide +kernel, by decide +kernel⟩
theorem ok__law_next {fa : Addr} {fd : FuncData} (F : L2.Fun K "_law_next" "_law_next" s__law_next fa fd) (T : Txt K mg) : FnG P w K mg base 1 fa fd ["m", "total"] G__law_next :=
  fnG_of F sc__law_next true fb__law_next fun cdv A outer s H E c hgu hr hZ => ds_cons (ds_while fuel PassesOwn.never (dt_w (dw_and (dt_pk (u1 hr) (pv 0) (or_ne (u64 hr)) eq_ok (pe_lst pa_nil) q_nil (nomark _)) (dw_and1 (dt_cmp (or_eq (u64 hr)) eq_ok (do_val (de_pk (u1 hr) (pv 0) ix_seq ix_ok pe_int (q_c fun _ => .int _) (by intro _ _; rfl))) (do_val (de_int)) (nomark _))))) (ds_one (ds_asg (de_pkSl (u1 hr) (pv 0) cp_int cp_none) (dg_dk 0 (u1 hr) (pv 0) (do_val (de_str)))))) (ds_cons (ds_if (dt_pk (u1 hr) (pv 0) (or_ne (u64 hr)) eq_ok (pe_lst pa_nil) q_nil (nomark _)) (ds_cons (ds_set 2 (nz hZ rfl) sc__law_next.nd (de_callTy T.b_int call_int1 int_ok bt_int (da_cons (do_val (de_pk (u1 hr) (pv 0) ix_seq ix_ok pe_int (q_c fun _ => .int _) (by intro _ _; rfl))) (da_nil)))) (ds_cons (ds_asg (de_bin op_fdivW fdiv_ok (do_loc 2 (pv 2)) (do_loc 1 (pv 1))) (dg_nest 0 (u1 hr) (pv 0) pe_int (q_c fun _ => .int _))) (ds_one (ds_ret (de_bin op_mod mod_ok (do_loc 2 (pv 2)) (do_loc 1 (pv 1))))))) (ds_nil)) (ds_cons (ds_set 3 (nz hZ rfl) sc__law_next.nd (de_bin or_add add_ok (do_val (de_dget 0 (u1 hr) (pv 0) (do_val (de_str)))) (do_val (de_int)))) (ds_cons (ds_asg (de_name 3 (pv 3)) (dg_dk 0 (u1 hr) (pv 0) (do_val (de_str)))) (ds_cons (ds_set 4 (nz hZ rfl) sc__law_next.nd (de_if (dt_cmp (or_ne (u64 hr)) eq_ok (do_val (de_dget 0 (u1 hr) (pv 0) (do_val (de_str)))) (do_val (de_lst (da_nil))) (nomark _)) (de_ix ix_seq ix_ok (do_val (de_dget 0 (u1 hr) (pv 0) (do_val (de_str)))) (do_val (de_bin op_mod mod_ok (do_val (de_callTy T.b_int call_int1 int_ok bt_int (da_cons (do_loc 3 (pv 3)) (da_nil)))) (do_val (de_callB T.b_len call_len len_ok bt_len (da_cons (do_val (de_dget 0 (u1 hr) (pv 0) (do_val (de_str)))) (da_nil)))))) (by intro _ _; rfl)) (de_int))) (ds_cons (ds_set 5 (nz hZ rfl) sc__law_next.nd (de_bin or_mul mul_ok (do_val (de_callTy T.b_int call_int1 int_ok bt_int (da_cons (do_val (de_bin or_add add_ok (do_val (de_bin or_add add_ok (do_val (de_bin op_mod mod_ok (do_val (de_callTy T.b_int call_int1 int_ok bt_int (da_cons (do_loc 4 (pv 4)) (da_nil)))) (do_val (de_int)))) (do_val (de_bin or_mul mul_ok (do_val (de_int)) (do_loc 3 (pv 3)))))) (do_val (de_bin or_mul mul_ok (do_val (de_bin or_mul mul_ok (do_val (de_int)) (do_loc 3 (pv 3)))) (do_loc 3 (pv 3)))))) (da_nil)))) (do_val (de_int)))) (ds_cons (ds_set 5 (nz hZ rfl) sc__law_next.nd (de_bin or_mul mul_ok (do_val (de_callTy T.b_int call_int1 int_ok bt_int (da_cons (do_val (de_bin or_add add_ok (do_val (de_bin op_mod mod_ok (do_val (de_callTy T.b_int call_int1 int_ok bt_int (da_cons (do_loc 5 (pv 5)) (da_nil)))) (do_val (de_int)))) (do_val (de_bin or_mul mul_ok (do_val (de_int)) (do_loc 3 (pv 3)))))) (da_nil)))) (do_val (de_int)))) (ds_one (ds_ret (de_bin op_mod mod_ok (do_val (de_callTy T.b_int call_int1 int_ok bt_int (da_cons (do_val (de_bin op_fdivW fdiv_ok (do_val (de_bin op_mod mod_ok (do_val (de_callTy T.b_int call_int1 int_ok bt_int (da_cons (do_loc 5 (pv 5)) (da_nil)))) (do_val (de_int)))) (do_val (de_int)))) (da_nil)))) (do_loc 1 (pv 1)))))))))))
abbrev s__law_way : Stmt := top 21
abbrev N__law_way : List Str := ["m", "most", "bound", "found", "k", "see_so", "hold"]
theorem sc__law_way : FnScope N__law_way ["m", "most", "bound"] (defScope s__law_way) := ⟨rfl, rfl, rfl, by decide +kernel, rfl, by decide +kernel, by decide +kernel⟩
theorem ok__law_way {fa : Addr} {fd : FuncData} (F : L2.Fun K "_law_way" "_law_way" s__law_way fa fd) (T : Txt K mg) (C__law_next : CalG P w K mg base 1 "_law_next" G__law_next) : FnG P w K mg base 2 fa fd ["m", "most", "bound"] G__law_way :=
  fnG_of F sc__law_way true fb__law_way fun cdv A outer s H E c hgu hr hZ => ds_cons (ds_set 3 (nz hZ rfl) sc__law_way.nd (de_lst (da_nil))) (ds_cons (ds_for PassesOwn.never rfl (di_range1 T.b_range (do_val (de_bin or_add add_ok (do_val (de_int)) (do_val (de_cM C__law_next hgu hr (by decide) (da_cons (do_loc 0 (pv 0)) (da_cons (do_val (de_name 1 (pv 1))) (da_nil)))))))) (dg_name 4 (nz hZ rfl) sc__law_way.nd) (ds_cons (ds_par 5 6 (nz hZ rfl) (nz hZ rfl) rfl sc__law_way.nd (de_cM C__law_next hgu hr (by decide) (da_cons (do_loc 0 (pv 0)) (da_cons (do_val (de_fz (de_bin or_add add_ok (do_loc 2 (pv 2)) (do_val (de_int))))) (da_nil)))) (de_bin or_add add_ok (do_val (de_int)) (do_val (de_cM C__law_next hgu hr (by decide) (da_cons (do_loc 0 (pv 0)) (da_cons (do_val (de_name 2 (pv 2))) (da_nil)))))) rfl) (ds_one (ds_expr (de_append 3 (pv 3) (de_tup (da_cons (do_val (de_name 5 (pv 5))) (da_cons (do_val (de_name 6 (pv 6))) (da_cons (do_val (de_cM C__law_next hgu hr (by decide) (da_cons (do_loc 0 (pv 0)) (da_cons (do_val (de_fz (de_bin or_add add_ok (do_loc 2 (pv 2)) (do_val (de_int))))) (da_nil))))) (da_nil)))))))))) (ds_one (ds_ret (de_callTy T.b_tuple call_tuple_of tuple_ok bt_tuple (da_cons (do_loc 3 (pv 3)) (da_nil))))))
abbrev s__law_film : Stmt := top 22
abbrev N__law_film : List Str := ["path", "count", "found", "j", "row", "i", "see_so", "hold", "answer", "moment"]
theorem sc__law_film : FnScope N__law_film ["path", "count"] (defScope s__law_film) := ⟨rfl, rfl, rfl, by decide +kernel, rfl, by decide +kernel, by decide +kernel⟩
theorem ok__law_film {fa : Addr} {fd : FuncData} (F : L2.Fun K "_law_film" "_law_film" s__law_film fa fd) (T : Txt K mg) : FnG P w K mg base 1 fa fd ["path", "count"] G__law_film :=
  fnG_of F sc__law_film false fb__law_film fun cdv A outer s H E c hgu hr hZ => ds_cons (ds_set 2 (nz hZ rfl) sc__law_film.nd (de_lst (da_nil))) (ds_cons (ds_for PassesOwn.never rfl (di_range1 T.b_range (do_loc 1 (pv 1))) (dg_name 3 (nz hZ rfl) sc__law_film.nd) (ds_cons (ds_set 4 (nz hZ rfl) sc__law_film.nd (de_lst (da_nil))) (ds_cons (ds_for PassesOwn.never rfl (di_enum T.b_enumerate (de_name 0 (pv 0))) (dg_tup rfl (dgs_cons (dg_name 5 (nz hZ rfl) sc__law_film.nd) (dgs_cons (dg_tup rfl (dgs_cons (dg_name 6 (nz hZ rfl) sc__law_film.nd) (dgs_cons (dg_name 7 (nz hZ rfl) sc__law_film.nd) (dgs_cons (dg_name 8 (nz hZ rfl) sc__law_film.nd) (dgs_nil))))) (dgs_nil)))) (ds_cons (ds_set 9 (nz hZ rfl) sc__law_film.nd (de_if (dt_cmp (or_eq (u64 hr)) eq_ok (do_loc 5 (pv 5)) (do_val (de_int)) (nomark _)) (de_int) (de_bin or_add add_ok (do_val (de_ix ix_seq ix_ok (do_loc 4 (pv 4)) (do_val (de_bin op_sub sub_ok (do_loc 5 (pv 5)) (do_val (de_int)))) (by intro _ _; rfl))) (do_loc 6 (pv 6))))) (ds_cons (ds_if (dt_cmp op_gt gt_ok (do_loc 3 (pv 3)) (do_val (de_int)) (nomark _)) (ds_one (ds_set 9 (nz hZ rfl) sc__law_film.nd (de_callB T.b_max (call_max2 rfl) max2_ok bt_max (da_cons (do_loc 9 (pv 9)) (da_cons (do_val (de_bin or_add add_ok (do_val (de_ix ix_seq ix_ok (do_val (de_ix ix_seq ix_ok (do_loc 2 (pv 2)) (do_val (de_bin op_sub sub_ok (do_loc 3 (pv 3)) (do_val (de_int)))) (by intro _ _; rfl))) (do_loc 5 (pv 5)) (by intro _ _; rfl))) (do_loc 7 (pv 7)))) (da_nil)))))) (ds_nil)) (ds_cons (ds_if (dt_w (dw_and (dt_cmp op_gt gt_ok (do_loc 3 (pv 3)) (do_val (de_int)) (nomark _)) (dw_and1 (dt_cmp or_lt lt_ok (do_loc 5 (pv 5)) (do_val (de_bin op_sub sub_ok (do_val (de_callB T.b_len call_len len_ok bt_len (da_cons (do_loc 0 (pv 0)) (da_nil)))) (do_val (de_int)))) (nomark _))))) (ds_one (ds_set 9 (nz hZ rfl) sc__law_film.nd (de_callB T.b_max (call_max2 rfl) max2_ok bt_max (da_cons (do_loc 9 (pv 9)) (da_cons (do_val (de_bin or_add add_ok (do_val (de_ix ix_seq ix_ok (do_val (de_ix ix_seq ix_ok (do_loc 2 (pv 2)) (do_val (de_bin op_sub sub_ok (do_loc 3 (pv 3)) (do_val (de_int)))) (by intro _ _; rfl))) (do_val (de_bin or_add add_ok (do_loc 5 (pv 5)) (do_val (de_int)))) (by intro _ _; rfl))) (do_loc 8 (pv 8)))) (da_nil)))))) (ds_nil)) (ds_one (ds_expr (de_append 4 (pv 4) (de_name 9 (pv 9))))))))) (ds_one (ds_expr (de_append 2 (pv 2) (de_name 4 (pv 4)))))))) (ds_one (ds_ret (de_move 2 (pv 2)))))
abbrev s_is_whole : Stmt := top 4
abbrev N_is_whole : List Str := ["thing", "least", "most"]
theorem sc_is_whole : FnScope N_is_whole ["thing", "least", "most"] (defScope s_is_whole) := ⟨rfl, rfl, rfl, by decide +kernel, rfl, by decide +kernel, by decide +kernel⟩
theorem ok_is_whole {fa : Addr} {fd : FuncData} (F : L2.Fun K "is_whole" "is_whole" s_is_whole fa fd) (T : Txt K mg) : FnG P w K mg base 1 fa fd ["thing", "least", "most"] G_is_whole :=
  fnG_of F sc_is_whole false fb_is_whole fun cdv A outer s H E c hgu hr hZ => ds_cons (ds_if (dt_w (dw_or (dt_not (dt_val (de_callB T.b_isinstance call_isi isi_ok bt_isinstance (da_cons (do_loc 0 (pv 0)) (da_cons (do_val (de_ty T.b_int bt_int)) (da_nil)))))) (dw_or1 (dt_val (de_callB T.b_isinstance call_isi isi_ok bt_isinstance (da_cons (do_loc 0 (pv 0)) (da_cons (do_val (de_ty T.b_bool bt_bool)) (da_nil)))))))) (ds_one (ds_ret (de_bl))) (ds_nil)) (ds_one (ds_ret (de_and (de_or (de_cmp or_is is_ok (do_loc 1 (pv 1)) (do_val (de_non)) (nomark _)) (de_one (de_cmp op_ge ge_ok (do_loc 0 (pv 0)) (do_loc 1 (pv 1)) (nomark _)))) (de_one (de_or (de_cmp or_is is_ok (do_loc 2 (pv 2)) (do_val (de_non)) (nomark _)) (de_one (de_cmp op_le le_ok (do_loc 0 (pv 0)) (do_loc 2 (pv 2)) (nomark _))))))))
abbrev s_is_triple : Stmt := top 9
abbrev N_is_triple : List Str := ["thing"]
theorem sc_is_triple : FnScope N_is_triple ["thing"] (defScope s_is_triple) := ⟨rfl, rfl, rfl, by decide +kernel, rfl, by decide +kernel, by decide +kernel⟩
theorem ok_is_triple {fa : Addr} {fd : FuncData} (F : L2.Fun K "is_triple" "is_triple" s_is_triple fa fd) (T : Txt K mg) (C_is_whole : CalG P w K mg base 1 "is_whole" G_is_whole) : FnG P w K mg base 2 fa fd ["thing"] G_is_triple :=
  fnG_of F sc_is_triple false fb_is_triple fun cdv A outer s H E c hgu hr hZ => ds_cons (ds_if (dt_w (dw_or (dt_not (dt_val (de_callB T.b_isinstance call_isi isi_ok bt_isinstance (da_cons (do_loc 0 (pv 0)) (da_cons (do_val (de_ty T.b_tuple bt_tuple)) (da_nil)))))) (dw_or (dt_cmp (or_ne (u64 hr)) eq_ok (do_val (de_callB T.b_len call_len len_ok bt_len (da_cons (do_loc 0 (pv 0)) (da_nil)))) (do_val (de_int)) (nomark _)) (dw_or1 (dt_not (dt_val (de_c1 C_is_whole hgu hr (by decide) (da_cons (do_val (de_fz (de_ix ix_seq ix_ok (do_loc 0 (pv 0)) (do_val (de_int)) (by intro _ _; rfl)))) (da_cons (do_val (de_int)) (da_cons (do_val (de_gint T.g_MOST_TIME)) (da_nil))))))))))) (ds_one (ds_ret (de_bl))) (ds_nil)) (ds_one (ds_ret (de_and (de_c1 C_is_whole hgu hr (by decide) (da_cons (do_val (de_fz (de_ix ix_seq ix_ok (do_loc 0 (pv 0)) (do_val (de_int)) (by intro _ _; rfl)))) (da_cons (do_val (de_int)) (da_cons (do_val (de_gint T.g_MOST_TIME)) (da_nil))))) (de_one (de_c1 C_is_whole hgu hr (by decide) (da_cons (do_val (de_fz (de_ix ix_seq ix_ok (do_loc 0 (pv 0)) (do_val (de_int)) (by intro _ _; rfl)))) (da_cons (do_val (de_int)) (da_cons (do_val (de_gint T.g_MOST_TIME)) (da_nil)))))))))
abbrev s_need_road : Stmt := top 10
abbrev N_need_road : List Str := ["thing", "number", "triple"]
theorem sc_need_road : FnScope N_need_road ["thing"] (defScope s_need_road) := ⟨rfl, rfl, rfl, by decide +kernel, rfl, by decide +kernel, by decide +kernel⟩
theorem ok_need_road {fa : Addr} {fd : FuncData} (F : L2.Fun K "need_road" "need_road" s_need_road fa fd) (T : Txt K mg) (C_is_triple : CalG P w K mg base 2 "is_triple" G_is_triple) : FnG P w K mg base 3 fa fd ["thing"] G_need_road :=
  fnG_of F sc_need_road false fb_need_road fun cdv A outer s H E c hgu hr hZ => ds_cons (ds_if (dt_w (dw_or (dt_not (dt_val (de_callB T.b_isinstance call_isi isi_ok bt_isinstance (da_cons (do_loc 0 (pv 0)) (da_cons (do_val (de_ty T.b_tuple bt_tuple)) (da_nil)))))) (dw_or1 (dt_not (dt_chain op_le le_ok op_le le_ok (do_val (de_int)) (do_val (de_callB T.b_len call_len len_ok bt_len (da_cons (do_loc 0 (pv 0)) (da_nil)))) (do_val (de_gint T.g_MOST_TOWERS))))))) (ds_one (ds_never)) (ds_nil)) (ds_cons (ds_for PassesOwn.never rfl (di_enum T.b_enumerate (de_name 0 (pv 0))) (dg_tup rfl (dgs_cons (dg_name 1 (nz hZ rfl) sc_need_road.nd) (dgs_cons (dg_name 2 (nz hZ rfl) sc_need_road.nd) (dgs_nil)))) (ds_one (ds_if (dt_not (dt_val (de_c1 C_is_triple hgu hr (by decide) (da_cons (do_val (de_name 2 (pv 2))) (da_nil))))) (ds_one (ds_never)) (ds_nil)))) (ds_one (ds_ret (de_move 0 (pv 0)))))
abbrev s_rings_of : Stmt := top 11
abbrev N_rings_of : List Str := ["road", "one", "other"]
theorem sc_rings_of : FnScope N_rings_of ["road"] (defScope s_rings_of) := ⟨rfl, rfl, rfl, by decide +kernel, rfl, by decide +kernel, by decide +kernel⟩
theorem ok_rings_of {fa : Addr} {fd : FuncData} (F : L2.Fun K "rings_of" "rings_of" s_rings_of fa fd) (T : Txt K mg) : FnG P w K mg base 1 fa fd ["road"] G_rings_of :=
  fnG_of F sc_rings_of false fb_rings_of fun cdv A outer s H E c hgu hr hZ => ds_one (ds_ret (de_lc (own := [("one", 1), ("other", 2)]) 3 rfl sc_rings_of.nd rfl (di_zip T.b_zip (de_name 0 (pv 0)) (de_fz (de_slice (do_loc 0 (pv 0)) (.some (do_val (de_int))) .none))) (blkOk_by (N := N_rings_of) (sc := defScope s_rings_of) (by decide +kernel)) (fun _ hZ1 _ _ _ _ _ => dg_tup rfl (dgs_cons (dg_name 1 (nz hZ1 rfl) sc_rings_of.nd) (dgs_cons (dg_name 2 (nz hZ1 rfl) sc_rings_of.nd) (dgs_nil)))) (fun _ hZ1 _ _ _ _ _ => dts_nil) (fun _ hZ1 _ _ _ _ _ => de_bin or_add add_ok (do_val (de_ix ix_seq ix_ok (do_loc 1 (pv 1)) (do_val (de_int)) (by intro _ _; rfl))) (do_val (de_ix ix_seq ix_ok (do_loc 2 (pv 2)) (do_val (de_int)) (by intro _ _; rfl))))))
abbrev s_pace_of : Stmt := top 15
abbrev N_pace_of : List Str := ["road", "one"]
theorem sc_pace_of : FnScope N_pace_of ["road"] (defScope s_pace_of) := ⟨rfl, rfl, rfl, by decide +kernel, rfl, by decide +kernel, by decide +kernel⟩
theorem ok_pace_of {fa : Addr} {fd : FuncData} (F : L2.Fun K "pace_of" "pace_of" s_pace_of fa fd) (T : Txt K mg) (C_rings_of : CalG P w K mg base 1 "rings_of" G_rings_of) : FnG P w K mg base 2 fa fd ["road"] G_pace_of :=
  fnG_of F sc_pace_of false fb_pace_of fun cdv A outer s H E c hgu hr hZ => ds_one (ds_ret (de_callB T.b_max (cr_max rfl) maxL_ok bt_max (da_cons (do_val (de_bin or_add add_ok (do_val (de_lc (own := [("one", 1)]) 2 rfl sc_pace_of.nd rfl (di_val (de_name 0 (pv 0))) (blkOk_by (N := N_pace_of) (sc := defScope s_pace_of) (by decide +kernel)) (fun _ hZ1 _ _ _ _ _ => dg_name 1 (nz hZ1 rfl) sc_pace_of.nd) (fun _ hZ1 _ _ _ _ _ => dts_nil) (fun _ hZ1 _ _ _ _ _ => de_ix ix_seq ix_ok (do_loc 1 (pv 1)) (do_val (de_int)) (by intro _ _; rfl)))) (do_val (de_c1 C_rings_of hgu hr (by decide) (da_cons (do_val (de_name 0 (pv 0))) (da_nil)))))) (da_nil))))
abbrev s_pace : Stmt := top 16
abbrev N_pace : List Str := ["road"]
theorem sc_pace : FnScope N_pace ["road"] (defScope s_pace) := ⟨rfl, rfl, rfl, by decide +kernel, rfl, by decide +kernel, by decide +kernel⟩
theorem ok_pace {fa : Addr} {fd : FuncData} (F : L2.Fun K "pace" "pace" s_pace fa fd) (T : Txt K mg) (C_need_road : CalG P w K mg base 3 "need_road" G_need_road) (C_pace_of : CalG P w K mg base 2 "pace_of" G_pace_of) : FnG P w K mg base 4 fa fd ["road"] G_pace :=
  fnG_of F sc_pace false fb_pace fun cdv A outer s H E c hgu hr hZ => ds_one (ds_ret (de_c1 C_pace_of hgu hr (by decide) (da_cons (do_val (de_fz (de_c1 C_need_road hgu hr (by decide) (da_cons (do_val (de_name 0 (pv 0))) (da_nil))))) (da_nil))))
abbrev s__law_pace : Stmt := top 23
abbrev N__law_pace : List Str := ["path", "rings", "one", "other"]
theorem sc__law_pace : FnScope N__law_pace ["path"] (defScope s__law_pace) := ⟨rfl, rfl, rfl, by decide +kernel, rfl, by decide +kernel, by decide +kernel⟩
theorem ok__law_pace {fa : Addr} {fd : FuncData} (F : L2.Fun K "_law_pace" "_law_pace" s__law_pace fa fd) (T : Txt K mg) : FnG P w K mg base 1 fa fd ["path"] G__law_pace :=
  fnG_of F sc__law_pace false fb__law_pace fun cdv A outer s H E c hgu hr hZ => ds_cons (ds_setLc (own := [("one", 2), ("other", 3)]) 4 1 (nz hZ rfl) rfl sc__law_pace.nd rfl (di_zip T.b_zip (de_name 0 (pv 0)) (de_fz (de_slice (do_loc 0 (pv 0)) (.some (do_val (de_int))) .none))) (blkOk_by (N := N__law_pace) (sc := defScope s__law_pace) (by decide +kernel)) (fun _ hZ1 _ _ _ _ _ => dg_tup rfl (dgs_cons (dg_name 2 (nz hZ1 rfl) sc__law_pace.nd) (dgs_cons (dg_name 3 (nz hZ1 rfl) sc__law_pace.nd) (dgs_nil)))) (fun _ hZ1 _ _ _ _ _ => dts_nil) (fun _ hZ1 _ _ _ _ _ => de_bin or_add add_ok (do_val (de_ix ix_seq ix_ok (do_loc 2 (pv 2)) (do_val (de_int)) (by intro _ _; rfl))) (do_val (de_ix ix_seq ix_ok (do_loc 3 (pv 3)) (do_val (de_int)) (by intro _ _; rfl)))) (sw_true rfl rfl rfl (by decide +kernel))) (ds_one (ds_ret (de_callB T.b_max (cr_max rfl) maxL_ok bt_max (da_cons (do_val (de_bin or_add add_ok (do_val (de_lc (own := [("one", 2)]) 4 rfl sc__law_pace.nd rfl (di_val (de_name 0 (pv 0))) (blkOk_by (N := N__law_pace) (sc := defScope s__law_pace) (by decide +kernel)) (fun _ hZ1 _ _ _ _ _ => dg_name 2 (nz hZ1 rfl) sc__law_pace.nd) (fun _ hZ1 _ _ _ _ _ => dts_nil) (fun _ hZ1 _ _ _ _ _ => de_ix ix_seq ix_ok (do_loc 2 (pv 2)) (do_val (de_int)) (by intro _ _; rfl)))) (do_loc 1 (pv 1)))) (da_nil)))))
abbrev s_slowest : Stmt := top 17
abbrev N_slowest : List Str := ["road", "whole", "found", "rings", "number", "one"]
theorem sc_slowest : FnScope N_slowest ["road"] (defScope s_slowest) := ⟨rfl, rfl, rfl, by decide +kernel, rfl, by decide +kernel, by decide +kernel⟩
theorem ok_slowest {fa : Addr} {fd : FuncData} (F : L2.Fun K "slowest" "slowest" s_slowest fa fd) (T : Txt K mg) (C_need_road : CalG P w K mg base 3 "need_road" G_need_road) (C_pace_of : CalG P w K mg base 2 "pace_of" G_pace_of) (C_rings_of : CalG P w K mg base 1 "rings_of" G_rings_of) : FnG P w K mg base 4 fa fd ["road"] G_slowest :=
  fnG_of F sc_slowest false fb_slowest fun cdv A outer s H E c hgu hr hZ => ds_cons (ds_par 1 2 (nz hZ rfl) (nz hZ rfl) rfl sc_slowest.nd (de_c1 C_pace_of hgu hr (by decide) (da_cons (do_val (de_fz (de_c1 C_need_road hgu hr (by decide) (da_cons (do_val (de_name 0 (pv 0))) (da_nil))))) (da_nil))) (de_lst (da_nil)) rfl) (ds_cons (ds_set 3 (nz hZ rfl) sc_slowest.nd (de_c1 C_rings_of hgu hr (by decide) (da_cons (do_val (de_name 0 (pv 0))) (da_nil)))) (ds_cons (ds_for PassesOwn.never rfl (di_enum T.b_enumerate (de_name 0 (pv 0))) (dg_tup rfl (dgs_cons (dg_name 4 (nz hZ rfl) sc_slowest.nd) (dgs_cons (dg_name 5 (nz hZ rfl) sc_slowest.nd) (dgs_nil)))) (ds_cons (ds_if (dt_cmp (or_eq (u64 hr)) eq_ok (do_val (de_ix ix_seq ix_ok (do_loc 5 (pv 5)) (do_val (de_int)) (by intro _ _; rfl))) (do_loc 1 (pv 1)) (nomark _)) (ds_one (ds_expr (de_append 2 (pv 2) (de_tup (da_cons (do_val (de_name 4 (pv 4))) (da_cons (do_val (de_str)) (da_nil))))))) (ds_nil)) (ds_one (ds_if (dt_w (dw_and (dt_cmp or_lt lt_ok (do_loc 4 (pv 4)) (do_val (de_callB T.b_len call_len len_ok bt_len (da_cons (do_loc 3 (pv 3)) (da_nil)))) (nomark _)) (dw_and1 (dt_cmp (or_eq (u64 hr)) eq_ok (do_val (de_ix ix_seq ix_ok (do_loc 3 (pv 3)) (do_loc 4 (pv 4)) (by intro _ _; rfl))) (do_loc 1 (pv 1)) (nomark _))))) (ds_one (ds_expr (de_append 2 (pv 2) (de_tup (da_cons (do_val (de_name 4 (pv 4))) (da_cons (do_val (de_str)) (da_nil))))))) (ds_nil))))) (ds_one (ds_ret (de_callTy T.b_tuple call_tuple_of tuple_ok bt_tuple (da_cons (do_loc 2 (pv 2)) (da_nil)))))))
abbrev s__law_slowest : Stmt := top 24
abbrev N__law_slowest : List Str := ["path", "whole", "found", "k", "one"]
theorem sc__law_slowest : FnScope N__law_slowest ["path"] (defScope s__law_slowest) := ⟨rfl, rfl, rfl, by decide +kernel, rfl, by decide +kernel, by decide +kernel⟩
theorem ok__law_slowest {fa : Addr} {fd : FuncData} (F : L2.Fun K "_law_slowest" "_law_slowest" s__law_slowest fa fd) (T : Txt K mg) (C__law_pace : CalG P w K mg base 1 "_law_pace" G__law_pace) : FnG P w K mg base 2 fa fd ["path"] G__law_slowest :=
  fnG_of F sc__law_slowest false fb__law_slowest fun cdv A outer s H E c hgu hr hZ => ds_cons (ds_par 1 2 (nz hZ rfl) (nz hZ rfl) rfl sc__law_slowest.nd (de_c1 C__law_pace hgu hr (by decide) (da_cons (do_val (de_name 0 (pv 0))) (da_nil))) (de_lst (da_nil)) rfl) (ds_cons (ds_for PassesOwn.never rfl (di_enum T.b_enumerate (de_name 0 (pv 0))) (dg_tup rfl (dgs_cons (dg_name 3 (nz hZ rfl) sc__law_slowest.nd) (dgs_cons (dg_name 4 (nz hZ rfl) sc__law_slowest.nd) (dgs_nil)))) (ds_cons (ds_if (dt_cmp (or_eq (u64 hr)) eq_ok (do_val (de_ix ix_seq ix_ok (do_loc 4 (pv 4)) (do_val (de_int)) (by intro _ _; rfl))) (do_loc 1 (pv 1)) (nomark _)) (ds_one (ds_expr (de_append 2 (pv 2) (de_tup (da_cons (do_val (de_name 3 (pv 3))) (da_cons (do_val (de_str)) (da_nil))))))) (ds_nil)) (ds_one (ds_if (dt_w (dw_and (dt_cmp or_lt lt_ok (do_loc 3 (pv 3)) (do_val (de_bin op_sub sub_ok (do_val (de_callB T.b_len call_len len_ok bt_len (da_cons (do_loc 0 (pv 0)) (da_nil)))) (do_val (de_int)))) (nomark _)) (dw_and1 (dt_cmp (or_eq (u64 hr)) eq_ok (do_val (de_bin or_add add_ok (do_val (de_ix ix_seq ix_ok (do_loc 4 (pv 4)) (do_val (de_int)) (by intro _ _; rfl))) (do_val (de_ix ix_seq ix_ok (do_val (de_ix ix_seq ix_ok (do_loc 0 (pv 0)) (do_val (de_bin or_add add_ok (do_loc 3 (pv 3)) (do_val (de_int)))) (by intro _ _; rfl))) (do_val (de_int)) (by intro _ _; rfl))))) (do_loc 1 (pv 1)) (nomark _))))) (ds_one (ds_expr (de_append 2 (pv 2) (de_tup (da_cons (do_val (de_name 3 (pv 3))) (da_cons (do_val (de_str)) (da_nil))))))) (ds_nil))))) (ds_one (ds_ret (de_callTy T.b_tuple call_tuple_of tuple_ok bt_tuple (da_cons (do_loc 2 (pv 2)) (da_nil))))))
abbrev s_need_tower : Stmt := top 13
abbrev N_need_tower : List Str := ["road", "tower"]
theorem sc_need_tower : FnScope N_need_tower ["road", "tower"] (defScope s_need_tower) := ⟨rfl, rfl, rfl, by decide +kernel, rfl, by decide +kernel, by decide +kernel⟩
theorem ok_need_tower {fa : Addr} {fd : FuncData} (F : L2.Fun K "need_tower" "need_tower" s_need_tower fa fd) (T : Txt K mg) (C_is_whole : CalG P w K mg base 1 "is_whole" G_is_whole) (C_need_road : CalG P w K mg base 3 "need_road" G_need_road) : FnG P w K mg base 4 fa fd ["road", "tower"] G_need_tower :=
  fnG_of F sc_need_tower false fb_need_tower fun cdv A outer s H E c hgu hr hZ => ds_one (ds_if (dt_not (dt_val (de_c1 C_is_whole hgu hr (by decide) (da_cons (do_val (de_name 1 (pv 1))) (da_cons (do_val (de_int)) (da_cons (do_val (de_fz (de_bin op_sub sub_ok (do_val (de_callB T.b_len call_len len_ok bt_len (da_cons (do_val (de_c1 C_need_road hgu hr (by decide) (da_cons (do_val (de_name 0 (pv 0))) (da_nil)))) (da_nil)))) (do_val (de_int))))) (da_nil))))))) (ds_one (ds_never)) (ds_nil))
abbrev s_when_in : Stmt := top 12
abbrev N_when_in : List Str := ["road", "tower", "sign", "rings", "begin", "found", "way", "best", "last", "one"]
theorem sc_when_in : FnScope N_when_in ["road", "tower", "sign"] (defScope s_when_in) := ⟨rfl, rfl, rfl, by decide +kernel, rfl, by decide +kernel, by decide +kernel⟩
theorem ok_when_in {fa : Addr} {fd : FuncData} (F : L2.Fun K "when_in" "when_in" s_when_in fa fd) (T : Txt K mg) (C_rings_of : CalG P w K mg base 1 "rings_of" G_rings_of) : FnG P w K mg base 2 fa fd ["road", "tower", "sign"] G_when_in :=
  fnG_of F sc_when_in false fb_when_in fun cdv A outer s H E c hgu hr hZ => ds_cons (ds_par 3 4 (nz hZ rfl) (nz hZ rfl) rfl sc_when_in.nd (de_c1 C_rings_of hgu hr (by decide) (da_cons (do_val (de_name 0 (pv 0))) (da_nil))) (de_callB T.b_sum (cr_sum rfl) sum_ok bt_sum (da_cons (do_val (de_lc (own := [("one", 9)]) 10 rfl sc_when_in.nd rfl (di_val (de_fz (de_slice (do_loc 0 (pv 0)) (.some (do_val (de_int))) (.some (do_val (de_bin or_add add_ok (do_loc 1 (pv 1)) (do_val (de_int)))))))) (blkOk_by (N := N_when_in) (sc := defScope s_when_in) (by decide +kernel)) (fun _ hZ1 _ _ _ _ _ => dg_name 9 (nz hZ1 rfl) sc_when_in.nd) (fun _ hZ1 _ _ _ _ _ => dts_nil) (fun _ hZ1 _ _ _ _ _ => de_ix ix_seq ix_ok (do_loc 9 (pv 9)) (do_val (de_int)) (by intro _ _; rfl)))) (da_nil))) rfl) (ds_cons (ds_asg (de_tup (da_cons (do_val (de_int)) (da_cons (do_val (de_int)) (da_nil)))) (dg_tup rfl (dgs_cons (dg_name 5 (nz hZ rfl) sc_when_in.nd) (dgs_cons (dg_name 6 (nz hZ rfl) sc_when_in.nd) (dgs_nil))))) (ds_cons (ds_set 7 (nz hZ rfl) sc_when_in.nd (de_callB T.b_max (cr_max rfl) maxL_ok bt_max (da_cons (do_val (de_bin or_add add_ok (do_val (de_lc (own := [("one", 9)]) 10 rfl sc_when_in.nd rfl (di_val (de_fz (de_slice (do_loc 0 (pv 0)) .none (.some (do_val (de_bin or_add add_ok (do_loc 1 (pv 1)) (do_val (de_int)))))))) (blkOk_by (N := N_when_in) (sc := defScope s_when_in) (by decide +kernel)) (fun _ hZ1 _ _ _ _ _ => dg_name 9 (nz hZ1 rfl) sc_when_in.nd) (fun _ hZ1 _ _ _ _ _ => dts_nil) (fun _ hZ1 _ _ _ _ _ => de_ix ix_seq ix_ok (do_loc 9 (pv 9)) (do_val (de_int)) (by intro _ _; rfl)))) (do_val (de_slice (do_loc 3 (pv 3)) .none (.some (do_loc 1 (pv 1))))))) (da_nil)))) (ds_cons (ds_for PassesOwn.never rfl (di_range2 T.b_range (do_loc 1 (pv 1)) (do_val (de_bin or_add add_ok (do_val (de_callB T.b_min (call_min2 rfl) min2_ok bt_min (da_cons (do_val (de_bin op_sub sub_ok (do_val (de_callB T.b_len call_len len_ok bt_len (da_cons (do_loc 0 (pv 0)) (da_nil)))) (do_val (de_int)))) (da_cons (do_val (de_bin or_add add_ok (do_loc 1 (pv 1)) (do_loc 2 (pv 2)))) (da_nil))))) (do_val (de_int))))) (dg_name 8 (nz hZ rfl) sc_when_in.nd) (ds_cons (ds_if (dt_cmp op_gt gt_ok (do_loc 8 (pv 8)) (do_loc 1 (pv 1)) (nomark _)) (ds_cons (ds_aug 6 (nz hZ rfl) sc_when_in.nd iop_add iadd_ok (de_ix ix_seq ix_ok (do_loc 3 (pv 3)) (do_val (de_bin op_sub sub_ok (do_loc 8 (pv 8)) (do_val (de_int)))) (by intro _ _; rfl))) (ds_one (ds_set 7 (nz hZ rfl) sc_when_in.nd (de_callB T.b_max (call_max3Nu rfl) max3_ok bt_max (da_cons (do_loc 7 (pv 7)) (da_cons (do_val (de_ix ix_seq ix_ok (do_val (de_ix ix_seq ix_ok (do_loc 0 (pv 0)) (do_loc 8 (pv 8)) (by intro _ _; rfl))) (do_val (de_int)) (by intro _ _; rfl))) (da_cons (do_val (de_ix ix_seq ix_ok (do_loc 3 (pv 3)) (do_val (de_bin op_sub sub_ok (do_loc 8 (pv 8)) (do_val (de_int)))) (by intro _ _; rfl))) (da_nil)))))))) (ds_nil)) (ds_one (ds_set 5 (nz hZ rfl) sc_when_in.nd (de_callB T.b_max (call_max2 rfl) max2_ok bt_max (da_cons (do_loc 5 (pv 5)) (da_cons (do_val (de_bin or_add add_ok (do_loc 6 (pv 6)) (do_val (de_bin or_mul mul_ok (do_val (de_bin or_add add_ok (do_val (de_bin op_sub sub_ok (do_loc 2 (pv 2)) (do_loc 8 (pv 8)))) (do_loc 1 (pv 1)))) (do_loc 7 (pv 7)))))) (da_nil)))))))) (ds_one (ds_ret (de_bin or_add add_ok (do_loc 4 (pv 4)) (do_loc 5 (pv 5))))))))
abbrev s_when : Stmt := top 14
abbrev N_when : List Str := ["road", "tower", "sign"]
theorem sc_when : FnScope N_when ["road", "tower", "sign"] (defScope s_when) := ⟨rfl, rfl, rfl, by decide +kernel, rfl, by decide +kernel, by decide +kernel⟩
theorem ok_when {fa : Addr} {fd : FuncData} (F : L2.Fun K "when" "when" s_when fa fd) (T : Txt K mg) (C_is_whole : CalG P w K mg base 1 "is_whole" G_is_whole) (C_need_tower : CalG P w K mg base 4 "need_tower" G_need_tower) (C_when_in : CalG P w K mg base 2 "when_in" G_when_in) : FnG P w K mg base 5 fa fd ["road", "tower", "sign"] G_when :=
  fnG_of F sc_when false fb_when fun cdv A outer s H E c hgu hr hZ => ds_cons (ds_expr (de_c1 C_need_tower hgu hr (by decide) (da_cons (do_val (de_name 0 (pv 0))) (da_cons (do_val (de_name 1 (pv 1))) (da_nil))))) (ds_cons (ds_if (dt_not (dt_val (de_c1 C_is_whole hgu hr (by decide) (da_cons (do_val (de_name 2 (pv 2))) (da_cons (do_val (de_int)) (da_cons (do_val (de_gint T.g_MOST_SIGN)) (da_nil))))))) (ds_one (ds_never)) (ds_nil)) (ds_one (ds_ret (de_c1 C_when_in hgu hr (by decide) (da_cons (do_val (de_name 0 (pv 0))) (da_cons (do_val (de_name 1 (pv 1))) (da_cons (do_val (de_name 2 (pv 2))) (da_nil))))))))
abbrev s_law : Stmt := top 25
abbrev N_law : List Str := ["script", "m", "once", "path", "count", "film", "again", "i", "j"]
theorem sc_law : FnScope N_law ["script"] (defScope s_law) := ⟨rfl, rfl, rfl, by decide +kernel, rfl, by decide +kernel, by decide +kernel⟩
theorem ok_law {fa : Addr} {fd : FuncData} (F : L2.Fun K "law" "law" s_law fa fd) (T : Txt K mg) (C__law_begun : CalG P w K mg base 1 "_law_begun" G__law_begun) (C__law_film : CalG P w K mg base 1 "_law_film" G__law_film) (C__law_next : CalG P w K mg base 1 "_law_next" G__law_next) (C__law_pace : CalG P w K mg base 1 "_law_pace" G__law_pace) (C__law_slowest : CalG P w K mg base 2 "_law_slowest" G__law_slowest) (C__law_way : CalG P w K mg base 2 "_law_way" G__law_way) (C_need_road : CalG P w K mg base 3 "need_road" G_need_road) (C_pace : CalG P w K mg base 4 "pace" G_pace) (C_slowest : CalG P w K mg base 4 "slowest" G_slowest) (C_when : CalG P w K mg base 5 "when" G_when) : FnG P w K mg base 6 fa fd ["script"] G_law :=
  fnG_of F sc_law false fb_law fun cdv A outer s H E c hgu hr hZ => ds_cons (ds_set 1 (nz hZ rfl) sc_law.nd (de_c1 C__law_begun hgu hr (by decide) (da_cons (do_val (de_name 0 (pv 0))) (da_nil)))) (ds_cons (ds_for PassesOwn.never rfl (di_range1 T.b_range (do_val (de_bin or_add add_ok (do_val (de_int)) (do_val (de_callB T.b_min (call_min2 rfl) min2_ok bt_min (da_cons (do_val (de_callB T.b_len call_len len_ok bt_len (da_cons (do_loc 0 (pv 0)) (da_nil)))) (da_cons (do_val (de_int)) (da_nil)))))))) (dg_name 2 (nz hZ rfl) sc_law.nd) (ds_cons (ds_set 3 (nz hZ rfl) sc_law.nd (de_if (dt_cmp op_gt gt_ok (do_loc 2 (pv 2)) (do_val (de_int)) (nomark _)) (de_cM C__law_way hgu hr (by decide) (da_cons (do_loc 1 (pv 1)) (da_cons (do_val (de_int)) (da_cons (do_val (de_int)) (da_nil))))) (de_cM C__law_way hgu hr (by decide) (da_cons (do_loc 1 (pv 1)) (da_cons (do_val (de_int)) (da_cons (do_val (de_int)) (da_nil))))))) (ds_cons (ds_set 4 (nz hZ rfl) sc_law.nd (de_if (dt_cmp op_gt gt_ok (do_loc 2 (pv 2)) (do_val (de_int)) (nomark _)) (de_int) (de_int))) (ds_cons (ds_set 5 (nz hZ rfl) sc_law.nd (de_c1 C__law_film hgu hr (by decide) (da_cons (do_val (de_name 3 (pv 3))) (da_cons (do_val (de_name 4 (pv 4))) (da_nil))))) (ds_cons (ds_if (dt_w (dw_or (dt_cmp (or_ne (u64 hr)) eq_ok (do_val (de_c1 C_need_road hgu hr (by decide) (da_cons (do_val (de_name 3 (pv 3))) (da_nil)))) (do_loc 3 (pv 3)) (nomark _)) (dw_or1 (dt_cmp (or_ne (u64 hr)) eq_ok (do_val (de_callB T.b_repr (call_reprD hgu (u65 hr)) repr_ok bt_repr (da_cons (do_val (de_c1 C_pace hgu hr (by decide) (da_cons (do_val (de_name 3 (pv 3))) (da_nil)))) (da_nil)))) (do_val (de_callB T.b_repr (call_reprD hgu (u65 hr)) repr_ok bt_repr (da_cons (do_val (de_c1 C__law_pace hgu hr (by decide) (da_cons (do_val (de_name 3 (pv 3))) (da_nil)))) (da_nil)))) (nomark _))))) (ds_one (ds_ret (de_bl))) (ds_nil)) (ds_cons (ds_if (dt_cmp (or_ne (u64 hr)) eq_ok (do_val (de_callB T.b_repr (call_reprD hgu (u65 hr)) repr_ok bt_repr (da_cons (do_val (de_c1 C_slowest hgu hr (by decide) (da_cons (do_val (de_name 3 (pv 3))) (da_nil)))) (da_nil)))) (do_val (de_callB T.b_repr (call_reprD hgu (u65 hr)) repr_ok bt_repr (da_cons (do_val (de_c1 C__law_slowest hgu hr (by decide) (da_cons (do_val (de_name 3 (pv 3))) (da_nil)))) (da_nil)))) (nomark _)) (ds_one (ds_ret (de_bl))) (ds_nil)) (ds_one (ds_for PassesOwn.never rfl (di_range1 T.b_range (do_val (de_int))) (dg_name 6 (nz hZ rfl) sc_law.nd) (ds_cons (ds_par 7 8 (nz hZ rfl) (nz hZ rfl) rfl sc_law.nd (de_cM C__law_next hgu hr (by decide) (da_cons (do_loc 1 (pv 1)) (da_cons (do_val (de_fz (de_callB T.b_len call_len len_ok bt_len (da_cons (do_loc 3 (pv 3)) (da_nil))))) (da_nil)))) (de_cM C__law_next hgu hr (by decide) (da_cons (do_loc 1 (pv 1)) (da_cons (do_val (de_name 4 (pv 4))) (da_nil)))) rfl) (ds_one (ds_if (dt_cmp (or_ne (u64 hr)) eq_ok (do_val (de_callB T.b_repr (call_reprD hgu (u65 hr)) repr_ok bt_repr (da_cons (do_val (de_c1 C_when hgu hr (by decide) (da_cons (do_val (de_name 3 (pv 3))) (da_cons (do_val (de_name 7 (pv 7))) (da_cons (do_val (de_name 8 (pv 8))) (da_nil)))))) (da_nil)))) (do_val (de_callB T.b_repr (call_reprD hgu (u65 hr)) repr_ok bt_repr (da_cons (do_val (de_ix ix_seq ix_ok (do_val (de_ix ix_seq ix_ok (do_loc 5 (pv 5)) (do_loc 8 (pv 8)) (by intro _ _; rfl))) (do_loc 7 (pv 7)) (by intro _ _; rfl))) (da_nil)))) (nomark _)) (ds_one (ds_ret (de_bl))) (ds_nil)))))))))))) (ds_one (ds_ret (de_and (de_cmp (or_eq (u64 hr)) eq_ok (do_val (de_c1 C_when hgu hr (by decide) (da_cons (do_val (de_fz (de_tup (da_cons (do_val (de_tup (da_cons (do_val (de_int)) (da_cons (do_val (de_int)) (da_cons (do_val (de_int)) (da_nil)))))) (da_cons (do_val (de_tup (da_cons (do_val (de_int)) (da_cons (do_val (de_int)) (da_cons (do_val (de_int)) (da_nil)))))) (da_nil)))))) (da_cons (do_val (de_int)) (da_cons (do_val (de_int)) (da_nil)))))) (do_val (de_bin or_add add_ok (do_val (de_int)) (do_val (de_bin or_mul mul_ok (do_val (de_int)) (do_val (de_int)))))) (nomark _)) (de_one (de_cmp (or_eq (u64 hr)) eq_ok (do_val (de_c1 C_when hgu hr (by decide) (da_cons (do_val (de_fz (de_tup (da_cons (do_val (de_tup (da_cons (do_val (de_int)) (da_cons (do_val (de_int)) (da_cons (do_val (de_int)) (da_nil)))))) (da_nil))))) (da_cons (do_val (de_int)) (da_cons (do_val (de_int)) (da_nil)))))) (do_val (de_int)) (nomark _)))))))
end
theorem all_mk {l : PySem.W.OpenLaw} {w : World} {K : PySem.W.Frag} {h : Heap} {mg : Str → Option Value} {fa : Addr} (X : K.In h) (G : h.Ns mainGlobals mg) (hfa : mg "law" = some (.ref fa))
    {f__law_begun : Addr} {od__law_begun an__law_begun : Option Addr} {sl__law_begun : Array (Option Value)} {oc__law_begun kV__law_begun dc__law_begun pm__law_begun cd__law_begun ct__law_begun : Value} {f__law_next : Addr} {od__law_next an__law_next : Option Addr} {sl__law_next : Array (Option Value)} {oc__law_next kV__law_next dc__law_next pm__law_next cd__law_next ct__law_next : Value} {f__law_way : Addr} {od__law_way an__law_way : Option Addr} {sl__law_way : Array (Option Value)} {oc__law_way kV__law_way dc__law_way pm__law_way cd__law_way ct__law_way : Value} {f__law_film : Addr} {od__law_film an__law_film : Option Addr} {sl__law_film : Array (Option Value)} {oc__law_film kV__law_film dc__law_film pm__law_film cd__law_film ct__law_film : Value} {f_is_whole : Addr} {od_is_whole an_is_whole : Option Addr} {sl_is_whole : Array (Option Value)} {oc_is_whole kV_is_whole dc_is_whole pm_is_whole cd_is_whole ct_is_whole : Value} {f_is_triple : Addr} {od_is_triple an_is_triple : Option Addr} {sl_is_triple : Array (Option Value)} {oc_is_triple kV_is_triple dc_is_triple pm_is_triple cd_is_triple ct_is_triple : Value} {f_need_road : Addr} {od_need_road an_need_road : Option Addr} {sl_need_road : Array (Option Value)} {oc_need_road kV_need_road dc_need_road pm_need_road cd_need_road ct_need_road : Value} {f_rings_of : Addr} {od_rings_of an_rings_of : Option Addr} {sl_rings_of : Array (Option Value)} {oc_rings_of kV_rings_of dc_rings_of pm_rings_of cd_rings_of ct_rings_of : Value} {f_pace_of : Addr} {od_pace_of an_pace_of : Option Addr} {sl_pace_of : Array (Option Value)} {oc_pace_of kV_pace_of dc_pace_of pm_pace_of cd_pace_of ct_pace_of : Value} {f_pace : Addr} {od_pace an_pace : Option Addr} {sl_pace : Array (Option Value)} {oc_pace kV_pace dc_pace pm_pace cd_pace ct_pace : Value} {f__law_pace : Addr} {od__law_pace an__law_pace : Option Addr} {sl__law_pace : Array (Option Value)} {oc__law_pace kV__law_pace dc__law_pace pm__law_pace cd__law_pace ct__law_pace : Value} {f_slowest : Addr} {od_slowest an_slowest : Option Addr} {sl_slowest : Array (Option Value)} {oc_slowest kV_slowest dc_slowest pm_slowest cd_slowest ct_slowest : Value} {f__law_slowest : Addr} {od__law_slowest an__law_slowest : Option Addr} {sl__law_slowest : Array (Option Value)} {oc__law_slowest kV__law_slowest dc__law_slowest pm__law_slowest cd__law_slowest ct__law_slowest : Value} {f_need_tower : Addr} {od_need_tower an_need_tower : Option Addr} {sl_need_tower : Array (Option Value)} {oc_need_tower kV_need_tower dc_need_tower pm_need_tower cd_need_tower ct_need_tower : Value} {f_when_in : Addr} {od_when_in an_when_in : Option Addr} {sl_when_in : Array (Option Value)} {oc_when_in kV_when_in dc_when_in pm_when_in cd_when_in ct_when_in : Value} {f_when : Addr} {od_when an_when : Option Addr} {sl_when : Array (Option Value)} {oc_when kV_when dc_when pm_when cd_when ct_when : Value} {f_law : Addr} {od_law an_law : Option Addr} {sl_law : Array (Option Value)} {oc_law kV_law dc_law pm_law cd_law ct_law : Value} {t_MOST_TOWERS : Tok} {t_MOST_TIME : Tok} {t_MOST_SIGN : Tok}
    (a__law_begun : PySem.W.nsIn K mainGlobals "_law_begun" = some (some (.ref f__law_begun))) (l__law_begun : K.lookup f__law_begun = some ⟨oc__law_begun, od__law_begun, .func (PySem.W.fnOf "_law_begun" "_law_begun" (defArgs s__law_begun) (defBody s__law_begun) (defScope s__law_begun) .none kV__law_begun dc__law_begun pm__law_begun an__law_begun cd__law_begun ct__law_begun), sl__law_begun⟩) (c__law_begun : PySem.W.codeIn K cd__law_begun "_law_begun" = true) (k__law_begun : PySem.W.keepIn K (.ref f__law_begun) = true)
    (a__law_next : PySem.W.nsIn K mainGlobals "_law_next" = some (some (.ref f__law_next))) (l__law_next : K.lookup f__law_next = some ⟨oc__law_next, od__law_next, .func (PySem.W.fnOf "_law_next" "_law_next" (defArgs s__law_next) (defBody s__law_next) (defScope s__law_next) .none kV__law_next dc__law_next pm__law_next an__law_next cd__law_next ct__law_next), sl__law_next⟩) (c__law_next : PySem.W.codeIn K cd__law_next "_law_next" = true) (k__law_next : PySem.W.keepIn K (.ref f__law_next) = true)
    (a__law_way : PySem.W.nsIn K mainGlobals "_law_way" = some (some (.ref f__law_way))) (l__law_way : K.lookup f__law_way = some ⟨oc__law_way, od__law_way, .func (PySem.W.fnOf "_law_way" "_law_way" (defArgs s__law_way) (defBody s__law_way) (defScope s__law_way) .none kV__law_way dc__law_way pm__law_way an__law_way cd__law_way ct__law_way), sl__law_way⟩) (c__law_way : PySem.W.codeIn K cd__law_way "_law_way" = true) (k__law_way : PySem.W.keepIn K (.ref f__law_way) = true)
    (a__law_film : PySem.W.nsIn K mainGlobals "_law_film" = some (some (.ref f__law_film))) (l__law_film : K.lookup f__law_film = some ⟨oc__law_film, od__law_film, .func (PySem.W.fnOf "_law_film" "_law_film" (defArgs s__law_film) (defBody s__law_film) (defScope s__law_film) .none kV__law_film dc__law_film pm__law_film an__law_film cd__law_film ct__law_film), sl__law_film⟩) (c__law_film : PySem.W.codeIn K cd__law_film "_law_film" = true) (k__law_film : PySem.W.keepIn K (.ref f__law_film) = true)
    (a_is_whole : PySem.W.nsIn K mainGlobals "is_whole" = some (some (.ref f_is_whole))) (l_is_whole : K.lookup f_is_whole = some ⟨oc_is_whole, od_is_whole, .func (PySem.W.fnOf "is_whole" "is_whole" (defArgs s_is_whole) (defBody s_is_whole) (defScope s_is_whole) .none kV_is_whole dc_is_whole pm_is_whole an_is_whole cd_is_whole ct_is_whole), sl_is_whole⟩) (c_is_whole : PySem.W.codeIn K cd_is_whole "is_whole" = true) (k_is_whole : PySem.W.keepIn K (.ref f_is_whole) = true)
    (a_is_triple : PySem.W.nsIn K mainGlobals "is_triple" = some (some (.ref f_is_triple))) (l_is_triple : K.lookup f_is_triple = some ⟨oc_is_triple, od_is_triple, .func (PySem.W.fnOf "is_triple" "is_triple" (defArgs s_is_triple) (defBody s_is_triple) (defScope s_is_triple) .none kV_is_triple dc_is_triple pm_is_triple an_is_triple cd_is_triple ct_is_triple), sl_is_triple⟩) (c_is_triple : PySem.W.codeIn K cd_is_triple "is_triple" = true) (k_is_triple : PySem.W.keepIn K (.ref f_is_triple) = true)
    (a_need_road : PySem.W.nsIn K mainGlobals "need_road" = some (some (.ref f_need_road))) (l_need_road : K.lookup f_need_road = some ⟨oc_need_road, od_need_road, .func (PySem.W.fnOf "need_road" "need_road" (defArgs s_need_road) (defBody s_need_road) (defScope s_need_road) .none kV_need_road dc_need_road pm_need_road an_need_road cd_need_road ct_need_road), sl_need_road⟩) (c_need_road : PySem.W.codeIn K cd_need_road "need_road" = true) (k_need_road : PySem.W.keepIn K (.ref f_need_road) = true)
    (a_rings_of : PySem.W.nsIn K mainGlobals "rings_of" = some (some (.ref f_rings_of))) (l_rings_of : K.lookup f_rings_of = some ⟨oc_rings_of, od_rings_of, .func (PySem.W.fnOf "rings_of" "rings_of" (defArgs s_rings_of) (defBody s_rings_of) (defScope s_rings_of) .none kV_rings_of dc_rings_of pm_rings_of an_rings_of cd_rings_of ct_rings_of), sl_rings_of⟩) (c_rings_of : PySem.W.codeIn K cd_rings_of "rings_of" = true) (k_rings_of : PySem.W.keepIn K (.ref f_rings_of) = true)
    (a_pace_of : PySem.W.nsIn K mainGlobals "pace_of" = some (some (.ref f_pace_of))) (l_pace_of : K.lookup f_pace_of = some ⟨oc_pace_of, od_pace_of, .func (PySem.W.fnOf "pace_of" "pace_of" (defArgs s_pace_of) (defBody s_pace_of) (defScope s_pace_of) .none kV_pace_of dc_pace_of pm_pace_of an_pace_of cd_pace_of ct_pace_of), sl_pace_of⟩) (c_pace_of : PySem.W.codeIn K cd_pace_of "pace_of" = true) (k_pace_of : PySem.W.keepIn K (.ref f_pace_of) = true)
    (a_pace : PySem.W.nsIn K mainGlobals "pace" = some (some (.ref f_pace))) (l_pace : K.lookup f_pace = some ⟨oc_pace, od_pace, .func (PySem.W.fnOf "pace" "pace" (defArgs s_pace) (defBody s_pace) (defScope s_pace) .none kV_pace dc_pace pm_pace an_pace cd_pace ct_pace), sl_pace⟩) (c_pace : PySem.W.codeIn K cd_pace "pace" = true) (k_pace : PySem.W.keepIn K (.ref f_pace) = true)
    (a__law_pace : PySem.W.nsIn K mainGlobals "_law_pace" = some (some (.ref f__law_pace))) (l__law_pace : K.lookup f__law_pace = some ⟨oc__law_pace, od__law_pace, .func (PySem.W.fnOf "_law_pace" "_law_pace" (defArgs s__law_pace) (defBody s__law_pace) (defScope s__law_pace) .none kV__law_pace dc__law_pace pm__law_pace an__law_pace cd__law_pace ct__law_pace), sl__law_pace⟩) (c__law_pace : PySem.W.codeIn K cd__law_pace "_law_pace" = true) (k__law_pace : PySem.W.keepIn K (.ref f__law_pace) = true)
    (a_slowest : PySem.W.nsIn K mainGlobals "slowest" = some (some (.ref f_slowest))) (l_slowest : K.lookup f_slowest = some ⟨oc_slowest, od_slowest, .func (PySem.W.fnOf "slowest" "slowest" (defArgs s_slowest) (defBody s_slowest) (defScope s_slowest) .none kV_slowest dc_slowest pm_slowest an_slowest cd_slowest ct_slowest), sl_slowest⟩) (c_slowest : PySem.W.codeIn K cd_slowest "slowest" = true) (k_slowest : PySem.W.keepIn K (.ref f_slowest) = true)
    (a__law_slowest : PySem.W.nsIn K mainGlobals "_law_slowest" = some (some (.ref f__law_slowest))) (l__law_slowest : K.lookup f__law_slowest = some ⟨oc__law_slowest, od__law_slowest, .func (PySem.W.fnOf "_law_slowest" "_law_slowest" (defArgs s__law_slowest) (defBody s__law_slowest) (defScope s__law_slowest) .none kV__law_slowest dc__law_slowest pm__law_slowest an__law_slowest cd__law_slowest ct__law_slowest), sl__law_slowest⟩) (c__law_slowest : PySem.W.codeIn K cd__law_slowest "_law_slowest" = true) (k__law_slowest : PySem.W.keepIn K (.ref f__law_slowest) = true)
    (a_need_tower : PySem.W.nsIn K mainGlobals "need_tower" = some (some (.ref f_need_tower))) (l_need_tower : K.lookup f_need_tower = some ⟨oc_need_tower, od_need_tower, .func (PySem.W.fnOf "need_tower" "need_tower" (defArgs s_need_tower) (defBody s_need_tower) (defScope s_need_tower) .none kV_need_tower dc_need_tower pm_need_tower an_need_tower cd_need_tower ct_need_tower), sl_need_tower⟩) (c_need_tower : PySem.W.codeIn K cd_need_tower "need_tower" = true) (k_need_tower : PySem.W.keepIn K (.ref f_need_tower) = true)
    (a_when_in : PySem.W.nsIn K mainGlobals "when_in" = some (some (.ref f_when_in))) (l_when_in : K.lookup f_when_in = some ⟨oc_when_in, od_when_in, .func (PySem.W.fnOf "when_in" "when_in" (defArgs s_when_in) (defBody s_when_in) (defScope s_when_in) .none kV_when_in dc_when_in pm_when_in an_when_in cd_when_in ct_when_in), sl_when_in⟩) (c_when_in : PySem.W.codeIn K cd_when_in "when_in" = true) (k_when_in : PySem.W.keepIn K (.ref f_when_in) = true)
    (a_when : PySem.W.nsIn K mainGlobals "when" = some (some (.ref f_when))) (l_when : K.lookup f_when = some ⟨oc_when, od_when, .func (PySem.W.fnOf "when" "when" (defArgs s_when) (defBody s_when) (defScope s_when) .none kV_when dc_when pm_when an_when cd_when ct_when), sl_when⟩) (c_when : PySem.W.codeIn K cd_when "when" = true) (k_when : PySem.W.keepIn K (.ref f_when) = true)
    (a_law : PySem.W.nsIn K mainGlobals "law" = some (some (.ref f_law))) (l_law : K.lookup f_law = some ⟨oc_law, od_law, .func (PySem.W.fnOf "law" "law" (defArgs s_law) (defBody s_law) (defScope s_law) .none kV_law dc_law pm_law an_law cd_law ct_law), sl_law⟩) (c_law : PySem.W.codeIn K cd_law "law" = true) (k_law : PySem.W.keepIn K (.ref f_law) = true)
    (z_list : PySem.W.nsIn K mainGlobals "list" = some none)
    (z_range : PySem.W.nsIn K mainGlobals "range" = some none)
    (z_min : PySem.W.nsIn K mainGlobals "min" = some none)
    (z_len : PySem.W.nsIn K mainGlobals "len" = some none)
    (z_int : PySem.W.nsIn K mainGlobals "int" = some none)
    (z_tuple : PySem.W.nsIn K mainGlobals "tuple" = some none)
    (z_enumerate : PySem.W.nsIn K mainGlobals "enumerate" = some none)
    (z_max : PySem.W.nsIn K mainGlobals "max" = some none)
    (z_isinstance : PySem.W.nsIn K mainGlobals "isinstance" = some none)
    (z_bool : PySem.W.nsIn K mainGlobals "bool" = some none)
    (z_repr : PySem.W.nsIn K mainGlobals "repr" = some none)
    (z_zip : PySem.W.nsIn K mainGlobals "zip" = some none)
    (z_sum : PySem.W.nsIn K mainGlobals "sum" = some none)
    (g_MOST_TOWERS : PySem.W.nsIn K mainGlobals "MOST_TOWERS" = some (some (.int 40 t_MOST_TOWERS)))
    (g_MOST_TIME : PySem.W.nsIn K mainGlobals "MOST_TIME" = some (some (.int 1000 t_MOST_TIME)))
    (g_MOST_SIGN : PySem.W.nsIn K mainGlobals "MOST_SIGN" = some (some (.int 1000000000000000000000000000000 t_MOST_SIGN))) :
    ∃ fd : FuncData, (∀ (s : Shared) (u : Value), BindsTo s fd ⟨[u], []⟩ [("script", u)]) ∧ ∀ base : Heap, FnG l.prog w K mg base 6 fa fd ["script"] G_law := by
  have e := hfa.symm.trans (PySem.W.mg_of X G a_law)
  cases e
  have T : Txt K mg := ⟨PySem.W.mg_none_of X G z_list, PySem.W.mg_none_of X G z_range, PySem.W.mg_none_of X G z_min, PySem.W.mg_none_of X G z_len, PySem.W.mg_none_of X G z_int, PySem.W.mg_none_of X G z_tuple, PySem.W.mg_none_of X G z_enumerate, PySem.W.mg_none_of X G z_max, PySem.W.mg_none_of X G z_isinstance, PySem.W.mg_none_of X G z_bool, PySem.W.mg_none_of X G z_repr, PySem.W.mg_none_of X G z_zip, PySem.W.mg_none_of X G z_sum, ⟨_, PySem.W.mg_of X G g_MOST_TOWERS⟩, ⟨_, PySem.W.mg_of X G g_MOST_TIME⟩, ⟨_, PySem.W.mg_of X G g_MOST_SIGN⟩⟩
  have F__law_begun := fun_mk (st := s__law_begun) l__law_begun c__law_begun k__law_begun
  have b__law_begun := F__law_begun.binds (ps := ["script"]) fun _ _ _ _ _ _ us hl => match us, hl with | [_], _ => rfl
  have F__law_next := fun_mk (st := s__law_next) l__law_next c__law_next k__law_next
  have b__law_next := F__law_next.binds (ps := ["m", "total"]) fun _ _ _ _ _ _ us hl => match us, hl with | [_, _], _ => rfl
  have F__law_way := fun_mk (st := s__law_way) l__law_way c__law_way k__law_way
  have b__law_way := F__law_way.binds (ps := ["m", "most", "bound"]) fun _ _ _ _ _ _ us hl => match us, hl with | [_, _, _], _ => rfl
  have F__law_film := fun_mk (st := s__law_film) l__law_film c__law_film k__law_film
  have b__law_film := F__law_film.binds (ps := ["path", "count"]) fun _ _ _ _ _ _ us hl => match us, hl with | [_, _], _ => rfl
  have F_is_whole := fun_mk (st := s_is_whole) l_is_whole c_is_whole k_is_whole
  have b_is_whole := F_is_whole.binds (ps := ["thing", "least", "most"]) fun _ _ _ _ _ _ us hl => match us, hl with | [_, _, _], _ => rfl
  have F_is_triple := fun_mk (st := s_is_triple) l_is_triple c_is_triple k_is_triple
  have b_is_triple := F_is_triple.binds (ps := ["thing"]) fun _ _ _ _ _ _ us hl => match us, hl with | [_], _ => rfl
  have F_need_road := fun_mk (st := s_need_road) l_need_road c_need_road k_need_road
  have b_need_road := F_need_road.binds (ps := ["thing"]) fun _ _ _ _ _ _ us hl => match us, hl with | [_], _ => rfl
  have F_rings_of := fun_mk (st := s_rings_of) l_rings_of c_rings_of k_rings_of
  have b_rings_of := F_rings_of.binds (ps := ["road"]) fun _ _ _ _ _ _ us hl => match us, hl with | [_], _ => rfl
  have F_pace_of := fun_mk (st := s_pace_of) l_pace_of c_pace_of k_pace_of
  have b_pace_of := F_pace_of.binds (ps := ["road"]) fun _ _ _ _ _ _ us hl => match us, hl with | [_], _ => rfl
  have F_pace := fun_mk (st := s_pace) l_pace c_pace k_pace
  have b_pace := F_pace.binds (ps := ["road"]) fun _ _ _ _ _ _ us hl => match us, hl with | [_], _ => rfl
  have F__law_pace := fun_mk (st := s__law_pace) l__law_pace c__law_pace k__law_pace
  have b__law_pace := F__law_pace.binds (ps := ["path"]) fun _ _ _ _ _ _ us hl => match us, hl with | [_], _ => rfl
  have F_slowest := fun_mk (st := s_slowest) l_slowest c_slowest k_slowest
  have b_slowest := F_slowest.binds (ps := ["road"]) fun _ _ _ _ _ _ us hl => match us, hl with | [_], _ => rfl
  have F__law_slowest := fun_mk (st := s__law_slowest) l__law_slowest c__law_slowest k__law_slowest
  have b__law_slowest := F__law_slowest.binds (ps := ["path"]) fun _ _ _ _ _ _ us hl => match us, hl with | [_], _ => rfl
  have F_need_tower := fun_mk (st := s_need_tower) l_need_tower c_need_tower k_need_tower
  have b_need_tower := F_need_tower.binds (ps := ["road", "tower"]) fun _ _ _ _ _ _ us hl => match us, hl with | [_, _], _ => rfl
  have F_when_in := fun_mk (st := s_when_in) l_when_in c_when_in k_when_in
  have b_when_in := F_when_in.binds (ps := ["road", "tower", "sign"]) fun _ _ _ _ _ _ us hl => match us, hl with | [_, _, _], _ => rfl
  have F_when := fun_mk (st := s_when) l_when c_when k_when
  have b_when := F_when.binds (ps := ["road", "tower", "sign"]) fun _ _ _ _ _ _ us hl => match us, hl with | [_, _, _], _ => rfl
  have F_law := fun_mk (st := s_law) l_law c_law k_law
  refine ⟨PySem.W.fnOf "law" "law" (defArgs s_law) (defBody s_law) (defScope s_law) .none kV_law dc_law pm_law an_law cd_law ct_law, fun s v => .of_eq rfl, fun base => ?_⟩
  have C__law_begun : CalG l.prog w K mg base 1 "_law_begun" G__law_begun := calG_of F__law_begun (PySem.W.mg_of X G a__law_begun) (ok__law_begun F__law_begun T) b__law_begun
  have C__law_next : CalG l.prog w K mg base 1 "_law_next" G__law_next := calG_of F__law_next (PySem.W.mg_of X G a__law_next) (ok__law_next F__law_next T) b__law_next
  have C__law_way : CalG l.prog w K mg base 2 "_law_way" G__law_way := calG_of F__law_way (PySem.W.mg_of X G a__law_way) (ok__law_way F__law_way T C__law_next) b__law_way
  have C__law_film : CalG l.prog w K mg base 1 "_law_film" G__law_film := calG_of F__law_film (PySem.W.mg_of X G a__law_film) (ok__law_film F__law_film T) b__law_film
  have C_is_whole : CalG l.prog w K mg base 1 "is_whole" G_is_whole := calG_of F_is_whole (PySem.W.mg_of X G a_is_whole) (ok_is_whole F_is_whole T) b_is_whole
  have C_is_triple : CalG l.prog w K mg base 2 "is_triple" G_is_triple := calG_of F_is_triple (PySem.W.mg_of X G a_is_triple) (ok_is_triple F_is_triple T C_is_whole) b_is_triple
  have C_need_road : CalG l.prog w K mg base 3 "need_road" G_need_road := calG_of F_need_road (PySem.W.mg_of X G a_need_road) (ok_need_road F_need_road T C_is_triple) b_need_road
  have C_rings_of : CalG l.prog w K mg base 1 "rings_of" G_rings_of := calG_of F_rings_of (PySem.W.mg_of X G a_rings_of) (ok_rings_of F_rings_of T) b_rings_of
  have C_pace_of : CalG l.prog w K mg base 2 "pace_of" G_pace_of := calG_of F_pace_of (PySem.W.mg_of X G a_pace_of) (ok_pace_of F_pace_of T C_rings_of) b_pace_of
  have C_pace : CalG l.prog w K mg base 4 "pace" G_pace := calG_of F_pace (PySem.W.mg_of X G a_pace) (ok_pace F_pace T C_need_road C_pace_of) b_pace
  have C__law_pace : CalG l.prog w K mg base 1 "_law_pace" G__law_pace := calG_of F__law_pace (PySem.W.mg_of X G a__law_pace) (ok__law_pace F__law_pace T) b__law_pace
  have C_slowest : CalG l.prog w K mg base 4 "slowest" G_slowest := calG_of F_slowest (PySem.W.mg_of X G a_slowest) (ok_slowest F_slowest T C_need_road C_pace_of C_rings_of) b_slowest
  have C__law_slowest : CalG l.prog w K mg base 2 "_law_slowest" G__law_slowest := calG_of F__law_slowest (PySem.W.mg_of X G a__law_slowest) (ok__law_slowest F__law_slowest T C__law_pace) b__law_slowest
  have C_need_tower : CalG l.prog w K mg base 4 "need_tower" G_need_tower := calG_of F_need_tower (PySem.W.mg_of X G a_need_tower) (ok_need_tower F_need_tower T C_is_whole C_need_road) b_need_tower
  have C_when_in : CalG l.prog w K mg base 2 "when_in" G_when_in := calG_of F_when_in (PySem.W.mg_of X G a_when_in) (ok_when_in F_when_in T C_rings_of) b_when_in
  have C_when : CalG l.prog w K mg base 5 "when" G_when := calG_of F_when (PySem.W.mg_of X G a_when) (ok_when F_when T C_is_whole C_need_tower C_when_in) b_when
  exact ok_law F_law T C__law_begun C__law_film C__law_next C__law_pace C__law_slowest C__law_way C_need_road C_pace C_slowest C_when
end K49

open PySem PySem.W PyProof.Rows
set_option maxRecDepth 100000 in
set_option maxHeartbeats 0 in
theorem PySem.Challenge.cw_towerline_k49_whole_times_holds : PySem.Challenge.rw_towerline_k49_whole_times.Holds := by
  w_on; o_law; k_head; (case hw => w_witness2)
  k_fill
  refine DL.walkG (l := PySem.Challenge.rw_towerline_k49_whole_times) (n := 63) (k := 6) (x := "script") (G := K49.G_law) rfl (by decide) rfl ⟨rfl, by decide, by decide⟩ (fun w h Y => PySem.W.kIn_of Y) ?F K49.law_holds
  case F =>
    intro w mg fa h KX G hmg
    refine' K49.all_mk KX G hmg ?a__law_begun ?l__law_begun ?c__law_begun ?k__law_begun ?a__law_next ?l__law_next ?c__law_next ?k__law_next ?a__law_way ?l__law_way ?c__law_way ?k__law_way ?a__law_film ?l__law_film ?c__law_film ?k__law_film ?a_is_whole ?l_is_whole ?c_is_whole ?k_is_whole ?a_is_triple ?l_is_triple ?c_is_triple ?k_is_triple ?a_need_road ?l_need_road ?c_need_road ?k_need_road ?a_rings_of ?l_rings_of ?c_rings_of ?k_rings_of ?a_pace_of ?l_pace_of ?c_pace_of ?k_pace_of ?a_pace ?l_pace ?c_pace ?k_pace ?a__law_pace ?l__law_pace ?c__law_pace ?k__law_pace ?a_slowest ?l_slowest ?c_slowest ?k_slowest ?a__law_slowest ?l__law_slowest ?c__law_slowest ?k__law_slowest ?a_need_tower ?l_need_tower ?c_need_tower ?k_need_tower ?a_when_in ?l_when_in ?c_when_in ?k_when_in ?a_when ?l_when ?c_when ?k_when ?a_law ?l_law ?c_law ?k_law ?z_list ?z_range ?z_min ?z_len ?z_int ?z_tuple ?z_enumerate ?z_max ?z_isinstance ?z_bool ?z_repr ?z_zip ?z_sum ?g_MOST_TOWERS ?g_MOST_TIME ?g_MOST_SIGN
    (case a__law_begun => k_is)
    (case l__law_begun => k_is)
    (case c__law_begun => k_is)
    (case k__law_begun => k_is)
    (case a__law_next => k_is)
    (case l__law_next => k_is)
    (case c__law_next => k_is)
    (case k__law_next => k_is)
    (case a__law_way => k_is)
    (case l__law_way => k_is)
    (case c__law_way => k_is)
    (case k__law_way => k_is)
    (case a__law_film => k_is)
    (case l__law_film => k_is)
    (case c__law_film => k_is)
    (case k__law_film => k_is)
    (case a_is_whole => k_is)
    (case l_is_whole => k_is)
    (case c_is_whole => k_is)
    (case k_is_whole => k_is)
    (case a_is_triple => k_is)
    (case l_is_triple => k_is)
    (case c_is_triple => k_is)
    (case k_is_triple => k_is)
    (case a_need_road => k_is)
    (case l_need_road => k_is)
    (case c_need_road => k_is)
    (case k_need_road => k_is)
    (case a_rings_of => k_is)
    (case l_rings_of => k_is)
    (case c_rings_of => k_is)
    (case k_rings_of => k_is)
    (case a_pace_of => k_is)
    (case l_pace_of => k_is)
    (case c_pace_of => k_is)
    (case k_pace_of => k_is)
    (case a_pace => k_is)
    (case l_pace => k_is)
    (case c_pace => k_is)
    (case k_pace => k_is)
    (case a__law_pace => k_is)
    (case l__law_pace => k_is)
    (case c__law_pace => k_is)
    (case k__law_pace => k_is)
    (case a_slowest => k_is)
    (case l_slowest => k_is)
    (case c_slowest => k_is)
    (case k_slowest => k_is)
    (case a__law_slowest => k_is)
    (case l__law_slowest => k_is)
    (case c__law_slowest => k_is)
    (case k__law_slowest => k_is)
    (case a_need_tower => k_is)
    (case l_need_tower => k_is)
    (case c_need_tower => k_is)
    (case k_need_tower => k_is)
    (case a_when_in => k_is)
    (case l_when_in => k_is)
    (case c_when_in => k_is)
    (case k_when_in => k_is)
    (case a_when => k_is)
    (case l_when => k_is)
    (case c_when => k_is)
    (case k_when => k_is)
    (case a_law => k_is)
    (case l_law => k_is)
    (case c_law => k_is)
    (case k_law => k_is)
    (case z_list => k_is)
    (case z_range => k_is)
    (case z_min => k_is)
    (case z_len => k_is)
    (case z_int => k_is)
    (case z_tuple => k_is)
    (case z_enumerate => k_is)
    (case z_max => k_is)
    (case z_isinstance => k_is)
    (case z_bool => k_is)
    (case z_repr => k_is)
    (case z_zip => k_is)
    (case z_sum => k_is)
    (case g_MOST_TOWERS => k_is)
    (case g_MOST_TIME => k_is)
    (case g_MOST_SIGN => k_is)

