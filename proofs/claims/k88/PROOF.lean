import PyProof.Rows.All
import Wide.All
import OpenK.AllK
import Wide.FinOn
import HandS.ForMost
import HandS.Walk
import HandS.Exc
import HandS.CallSlots
import HandS.Wide
import HandS.TupAny
import HandS.TupMul
import HandS.Style
import HandS.More
import HandS.Deep
import KE.DataEq
import HandS.IsInst
import HandS.StrMore
import KE.GoesEnum
import KE.GoesMore
import HandS.SortRule
import HandS.Comp
import HandS.Words
import HandS.Codes
import HandS.Dict
import HandS.Small
import HandS.WordsDict
import HandS.Text
import HandS.Conv
import HandS.MapSum
import HandS.AnyAll
import PyProof.ReprRoads
import HandS.Ends
import PyProof.StrLawsIn
import HandS.BoundList
import HandS.Flt
import PyProof.ReprBulk
import PyProof.StrOps2
import HandS.SortInts
import HandS.MapJoin
import HandS.RaiseMore
import HandS.Zip
import HandS.Set
import HandS.Strs
import PyProof.Rows.SetFrom
import HandS.SetFor
import KE.KSortTupG
import PyProof.CollectWalk
import HandS.RevTup
import PySem.Challenge.RW_towerline_k88_whole_texts_there_and_back
set_option Elab.async false
set_option linter.all false
set_option maxRecDepth 100000
namespace DL
open PySem PySem.Spec PyProof.Rows L2

/-- plain data; a mark true: the list or dict is owned (may be changed), false: frozen -/
inductive D where
  | non | bl (b : Bool) | int (i : Int) | str (s : Str)
  | tup (xs : List D)
  | lst (m : Bool) (xs : List D)
  | dic (m : Bool) (ks : List Key) (vs : List D)
  | dit (m : Bool) (ks : List (List Key)) (vs : List D)
  | opq (v : V)
  /-- no data: what stays true of the heap -/
  | fact (φ : Hp → Prop)

/-- a frozen list -/
def SqF (K : PySem.W.Frag) (H : Hp) (a : Addr) (xs : List V) : Prop :=
  (∃ o, H a = some (.frz o (.lst xs))) ∨
    ∃ (o : Obj) (its : Array Value) (n : Nat), K.lookup a = some o ∧ o.cls = .type "list" ∧ o.dict = none ∧ o.data = .seq its n ∧ its.size ≤ sizeLine ∧ Vals xs its.toList
theorem SqF.sq {K : PySem.W.Frag} {H : Hp} {a : Addr} {xs : List V} (h : SqF K H a xs) : SqL K H a xs := by
  rcases h with h | h
  · exact .inl (.inr h)
  · exact .inr h

mutual
inductive Dv (K : PySem.W.Frag) (H : Hp) : D → V → List Addr → Prop
  | non : Dv K H .non .non []
  | bl (b : Bool) : Dv K H (.bl b) (.bl b) []
  | int (i : Int) : Dv K H (.int i) (.int i) []
  | str (s : Str) : Dv K H (.str s) (.str s) []
  | opq (v : V) : Dv K H (.opq v) v []
  | fact {φ : Hp → Prop} (v : V) (h : φ H) (st : ∀ H' : Hp, (∀ a o u, H a = some (.frz o u) → H' a = some (.frz o u)) → φ H') : Dv K H (.fact φ) v []
  | tup {a : Addr} {xs : List V} {ds : List D} {fp : List Addr} : SqT K H a xs → DvL K H ds xs fp → Dv K H (.tup ds) (.ref a) fp
  | flst {a : Addr} {xs : List V} {ds : List D} : SqF K H a xs → DvL K H ds xs [] → Dv K H (.lst false ds) (.ref a) []
  | olst {a : Addr} {xs : List V} {ds : List D} {fp : List Addr} : H a = some (.lst xs) → DvL K H ds xs fp → Dv K H (.lst true ds) (.ref a) (a :: fp)
  | fdic {a : Addr} {o : Obj} {kvv : List (Key × V)} {ks : List Key} {ds : List D} : H a = some (.frz o (.dK kvv)) → kvv.map (·.1) = ks → DvL K H ds (kvv.map (·.2)) [] → Dv K H (.dic false ks ds) (.ref a) []
  | fdit {a : Addr} {o : Obj} {kvv : List (List Key × V)} {ks : List (List Key)} {ds : List D} : H a = some (.frz o (.dT kvv)) → kvv.map (·.1) = ks → DvL K H ds (kvv.map (·.2)) [] → Dv K H (.dit false ks ds) (.ref a) []
  | odic {a : Addr} {kvv : List (Key × V)} {ks : List Key} {ds : List D} {fp : List Addr} : H a = some (.dK kvv) → kvv.map (·.1) = ks → DvL K H ds (kvv.map (·.2)) fp → Dv K H (.dic true ks ds) (.ref a) (a :: fp)
  | odit {a : Addr} {kvv : List (List Key × V)} {ks : List (List Key)} {ds : List D} {fp : List Addr} : H a = some (.dT kvv) → kvv.map (·.1) = ks → DvL K H ds (kvv.map (·.2)) fp → Dv K H (.dit true ks ds) (.ref a) (a :: fp)
inductive DvL (K : PySem.W.Frag) (H : Hp) : List D → List V → List Addr → Prop
  | nil : DvL K H [] [] []
  | cons {d : D} {v : V} {ds : List D} {vs : List V} {f1 f2 : List Addr} : Dv K H d v f1 → DvL K H ds vs f2 → DvL K H (d :: ds) (v :: vs) (f1 ++ f2)
end

section
variable {K : PySem.W.Frag} {H H' : Hp} {W : List Addr}

mutual
theorem Dv.mut {d : D} {v : V} {fp : List Addr} : Dv K H d v fp → ∀ a ∈ fp, Mut (H a)
  | .non => fun _ h => nomatch h
  | .bl _ => fun _ h => nomatch h
  | .int _ => fun _ h => nomatch h
  | .str _ => fun _ h => nomatch h
  | .opq _ => fun _ h => nomatch h
  | .fact _ _ _ => fun _ h => nomatch h
  | .tup _ l => fun a h => l.mut a h
  | .flst _ _ => fun _ h => nomatch h
  | .olst e l => fun a h => by
    rcases List.mem_cons.mp h with rfl | h
    · rw [e]; trivial
    · exact l.mut a h
  | .fdic _ _ _ => fun _ h => nomatch h
  | .fdit _ _ _ => fun _ h => nomatch h
  | .odic e _ l => fun a h => by
    rcases List.mem_cons.mp h with rfl | h
    · rw [e]; trivial
    · exact l.mut a h
  | .odit e _ l => fun a h => by
    rcases List.mem_cons.mp h with rfl | h
    · rw [e]; trivial
    · exact l.mut a h
theorem DvL.mut {ds : List D} {vs : List V} {fp : List Addr} : DvL K H ds vs fp → ∀ a ∈ fp, Mut (H a)
  | .nil => fun _ h => nomatch h
  | .cons x l => fun a h => by
    rcases List.mem_append.mp h with h | h
    · exact x.mut a h
    · exact l.mut a h
end

theorem SqT.keep {a : Addr} {xs : List V} (hk : ∀ a o, a ∉ W → H a = some o → H' a = some o) (hW : ∀ a ∈ W, Mut (H a)) (h : SqT K H a xs) : SqT K H' a xs := by
  rcases h with (h | ⟨o, h⟩) | h
  · exact .inl (.inl (hk _ _ (fun z => by have := hW _ z; rw [h] at this; exact this) h))
  · exact .inl (.inr ⟨o, hk _ _ (fun z => by have := hW _ z; rw [h] at this; exact this) h⟩)
  · exact .inr h
theorem SqF.keep {a : Addr} {xs : List V} (hk : ∀ a o, a ∉ W → H a = some o → H' a = some o) (hW : ∀ a ∈ W, Mut (H a)) (h : SqF K H a xs) : SqF K H' a xs := by
  rcases h with ⟨o, h⟩ | h
  · exact .inl ⟨o, hk _ _ (fun z => by have := hW _ z; rw [h] at this; exact this) h⟩
  · exact .inr h

mutual
/-- data is kept where its own owned parts are not touched -/
theorem Dv.keep (hk : ∀ a o, a ∉ W → H a = some o → H' a = some o) (hW : ∀ a ∈ W, Mut (H a)) {d : D} {v : V} {fp : List Addr} : Dv K H d v fp → (∀ a ∈ fp, a ∉ W) → Dv K H' d v fp
  | .non, _ => .non
  | .bl b, _ => .bl b
  | .int i, _ => .int i
  | .str s, _ => .str s
  | .opq v, _ => .opq v
  | .fact v h st, _ => by
    have fk : ∀ a o u, H a = some (.frz o u) → H' a = some (.frz o u) := fun a o u e => hk a _ (fun z => by have := hW a z; rw [e] at this; exact this) e
    exact .fact v (st H' fk) fun H2 k2 => st H2 fun a o u e => k2 a o u (fk a o u e)
  | .tup e l, n => .tup (SqT.keep hk hW e) (l.keep hk hW n)
  | .flst e l, n => .flst (SqF.keep hk hW e) (l.keep hk hW n)
  | .olst e l, n => .olst (hk _ _ (n _ List.mem_cons_self) e) (l.keep hk hW fun a h => n a (List.mem_cons_of_mem _ h))
  | .fdic e z l, n => .fdic (hk _ _ (fun q => by have := hW _ q; rw [e] at this; exact this) e) z (l.keep hk hW n)
  | .fdit e z l, n => .fdit (hk _ _ (fun q => by have := hW _ q; rw [e] at this; exact this) e) z (l.keep hk hW n)
  | .odic e z l, n => .odic (hk _ _ (n _ List.mem_cons_self) e) z (l.keep hk hW fun a h => n a (List.mem_cons_of_mem _ h))
  | .odit e z l, n => .odit (hk _ _ (n _ List.mem_cons_self) e) z (l.keep hk hW fun a h => n a (List.mem_cons_of_mem _ h))
theorem DvL.keep (hk : ∀ a o, a ∉ W → H a = some o → H' a = some o) (hW : ∀ a ∈ W, Mut (H a)) {ds : List D} {vs : List V} {fp : List Addr} : DvL K H ds vs fp → (∀ a ∈ fp, a ∉ W) → DvL K H' ds vs fp
  | .nil, _ => .nil
  | .cons x l, n => .cons (x.keep hk hW fun a h => n a (List.mem_append_left _ h)) (l.keep hk hW fun a h => n a (List.mem_append_right _ h))
end
/-- .. where all stands (and more, it may be) -/
theorem Dv.ext {d : D} {v : V} {fp : List Addr} (x : Dv K H d v fp) (hk : ∀ a o, H a = some o → H' a = some o) : Dv K H' d v fp :=
  x.keep (W := []) (fun a o _ h => hk a o h) (fun _ z => nomatch z) fun _ _ z => nomatch z
theorem DvL.ext {ds : List D} {vs : List V} {fp : List Addr} (x : DvL K H ds vs fp) (hk : ∀ a o, H a = some o → H' a = some o) : DvL K H' ds vs fp :=
  x.keep (W := []) (fun a o _ h => hk a o h) (fun _ z => nomatch z) fun _ _ z => nomatch z

theorem DvL.length : ∀ {ds : List D} {vs : List V} {fp : List Addr}, DvL K H ds vs fp → ds.length = vs.length
  | _, _, _, .nil => rfl
  | _, _, _, .cons _ l => congrArg (· + 1) l.length
theorem DvL.append : ∀ {ds es : List D} {vs us : List V} {fp fq : List Addr}, DvL K H ds vs fp → DvL K H es us fq → DvL K H (ds ++ es) (vs ++ us) (fp ++ fq)
  | _, _, _, _, _, _, .nil, y => y
  | _, _, _, _, _, _, .cons x l, y => by rw [List.append_assoc]; exact .cons x (l.append y)
theorem DvL.one {d : D} {v : V} {fp : List Addr} (x : Dv K H d v fp) : DvL K H [d] [v] fp := by
  have := DvL.cons x .nil
  rw [List.append_nil] at this; exact this
theorem DvL.split : ∀ {ds es : List D} {ws : List V} {fp : List Addr}, DvL K H (ds ++ es) ws fp → ∃ vs us f1 f2, ws = vs ++ us ∧ fp = f1 ++ f2 ∧ DvL K H ds vs f1 ∧ DvL K H es us f2
  | [], _, ws, fp, h => ⟨[], ws, [], fp, rfl, rfl, .nil, h⟩
  | _ :: _, _, _, _, .cons x l => by
    obtain ⟨vs, us, f1, f2, e1, e2, a, b⟩ := l.split
    subst e1 e2
    exact ⟨_, us, _, f2, rfl, (List.append_assoc _ _ _).symm, .cons x a, b⟩
/-- the i-th -/
theorem DvL.at : ∀ {ds : List D} {vs : List V} {fp : List Addr} {i : Nat} {d : D}, DvL K H ds vs fp → ds[i]? = some d → ∃ v f, vs[i]? = some v ∧ Dv K H d v f ∧ ∀ a ∈ f, a ∈ fp
  | _, _, _, _, _, .nil, e => by simp at e
  | _, _, _, 0, d, .cons x l, e => by
    simp at e; subst e
    exact ⟨_, _, rfl, x, fun a h => List.mem_append_left _ h⟩
  | _, _, _, i + 1, d, .cons x l, e => by
    obtain ⟨v, f, h1, h2, h3⟩ := l.at (i := i) (d := d) (by simpa using e)
    exact ⟨v, f, by simpa using h1, h2, fun a h => List.mem_append_right _ (h3 a h)⟩
end

/-! ### frozen data -/
mutual
def D.frz : D → D
  | .non => .non
  | .bl b => .bl b
  | .int i => .int i
  | .str s => .str s
  | .tup xs => .tup (D.frzL xs)
  | .lst _ xs => .lst false (D.frzL xs)
  | .dic _ ks vs => .dic false ks (D.frzL vs)
  | .dit _ ks vs => .dit false ks (D.frzL vs)
  | .opq v => .opq v
  | .fact φ => .fact φ
def D.frzL : List D → List D
  | [] => []
  | d :: ds => d.frz :: D.frzL ds
end
mutual
def D.isF : D → Bool
  | .non => true
  | .bl _ => true
  | .int _ => true
  | .str _ => true
  | .tup xs => D.isFL xs
  | .lst m xs => !m && D.isFL xs
  | .dic m _ vs => !m && D.isFL vs
  | .dit m _ vs => !m && D.isFL vs
  | .opq _ => true
  | .fact _ => true
def D.isFL : List D → Bool
  | [] => true
  | d :: ds => d.isF && D.isFL ds
end
theorem D.frzL_eq : ∀ ds : List D, D.frzL ds = ds.map D.frz
  | [] => rfl
  | d :: r => by show d.frz :: D.frzL r = d.frz :: r.map D.frz; rw [D.frzL_eq r]
theorem D.isFL_eq : ∀ ds : List D, D.isFL ds = ds.all D.isF
  | [] => rfl
  | d :: r => by show (d.isF && D.isFL r) = (d.isF && r.all D.isF); rw [D.isFL_eq r]
mutual
theorem D.frz_isF : ∀ d : D, d.frz.isF = true
  | .non => rfl
  | .bl _ => rfl
  | .int _ => rfl
  | .str _ => rfl
  | .opq _ => rfl
  | .fact _ => rfl
  | .tup xs => D.frzL_isF xs
  | .lst _ xs => by show (!false && D.isFL (D.frzL xs)) = true; rw [D.frzL_isF xs]; rfl
  | .dic _ _ vs => by show (!false && D.isFL (D.frzL vs)) = true; rw [D.frzL_isF vs]; rfl
  | .dit _ _ vs => by show (!false && D.isFL (D.frzL vs)) = true; rw [D.frzL_isF vs]; rfl
theorem D.frzL_isF : ∀ ds : List D, D.isFL (D.frzL ds) = true
  | [] => rfl
  | d :: r => by show (d.frz.isF && D.isFL (D.frzL r)) = true; rw [D.frz_isF d, D.frzL_isF r]; rfl
end
mutual
theorem D.frz_of : ∀ {d : D}, d.isF = true → d.frz = d
  | .non, _ => rfl
  | .bl _, _ => rfl
  | .int _, _ => rfl
  | .str _, _ => rfl
  | .opq _, _ => rfl
  | .fact _, _ => rfl
  | .tup xs, h => by show D.tup (D.frzL xs) = .tup xs; rw [D.frzL_of h]
  | .lst m xs, h => by
    have h' : (!m && D.isFL xs) = true := h
    simp at h'
    show D.lst false (D.frzL xs) = .lst m xs
    rw [D.frzL_of h'.2, h'.1]
  | .dic m ks vs, h => by
    have h' : (!m && D.isFL vs) = true := h
    simp at h'
    show D.dic false ks (D.frzL vs) = .dic m ks vs
    rw [D.frzL_of h'.2, h'.1]
  | .dit m ks vs, h => by
    have h' : (!m && D.isFL vs) = true := h
    simp at h'
    show D.dit false ks (D.frzL vs) = .dit m ks vs
    rw [D.frzL_of h'.2, h'.1]
theorem D.frzL_of : ∀ {ds : List D}, D.isFL ds = true → D.frzL ds = ds
  | [], _ => rfl
  | d :: r, h => by
    have h' : (d.isF && D.isFL r) = true := h
    simp at h'
    show d.frz :: D.frzL r = d :: r
    rw [D.frz_of h'.1, D.frzL_of h'.2]
end

section
variable {K : PySem.W.Frag} {H : Hp}
mutual
theorem Dv.fz : ∀ {d : D} {v : V} {fp : List Addr}, Dv K H d v fp → d.isF = true → fp = []
  | _, _, _, .non, _ => rfl
  | _, _, _, .bl _, _ => rfl
  | _, _, _, .int _, _ => rfl
  | _, _, _, .str _, _ => rfl
  | _, _, _, .opq _, _ => rfl
  | _, _, _, .fact _ _ _, _ => rfl
  | _, _, _, .tup _ l, h => l.fz h
  | _, _, _, .flst _ _, _ => rfl
  | _, _, _, .olst (ds := ds) _ _, h => by have h' : (!true && D.isFL ds) = true := h; simp at h'
  | _, _, _, .fdic _ _ _, _ => rfl
  | _, _, _, .fdit _ _ _, _ => rfl
  | _, _, _, .odic (ds := ds) _ _ _, h => by have h' : (!true && D.isFL ds) = true := h; simp at h'
  | _, _, _, .odit (ds := ds) _ _ _, h => by have h' : (!true && D.isFL ds) = true := h; simp at h'
theorem DvL.fz : ∀ {ds : List D} {vs : List V} {fp : List Addr}, DvL K H ds vs fp → D.isFL ds = true → fp = []
  | _, _, _, .nil, _ => rfl
  | _, _, _, .cons (d := d) (ds := r) x l, h => by
    have h' : (d.isF && D.isFL r) = true := h
    simp at h'
    rw [x.fz h'.1, l.fz h'.2]; rfl
end
end

/-! ### freezing -/
section
variable {X : Cx} {pins : List (Addr × Obj)} {σ : L2.St} {s : Shared}
def KeepsBut (W : List Addr) (H H' : Hp) : Prop := (∀ a o, a ∉ W → H a = some o → H' a = some o) ∧ ∀ a, H a = none → H' a = none
theorem KeepsBut.refl {W : List Addr} {H : Hp} : KeepsBut W H H := ⟨fun _ _ _ h => h, fun _ h => h⟩
theorem KeepsBut.trans {W1 W2 W : List Addr} {H H1 H2 : Hp} (a : KeepsBut W1 H H1) (b : KeepsBut W2 H1 H2) (h1 : ∀ x ∈ W1, x ∈ W) (h2 : ∀ x ∈ W2, x ∈ W) : KeepsBut W H H2 :=
  ⟨fun x o n e => b.1 x o (fun z => n (h2 x z)) (a.1 x o (fun z => n (h1 x z)) e), fun x e => b.2 x (a.2 x e)⟩
theorem KeepsBut.upd {H : Hp} {a : Addr} {o u : HO} (h : H a = some o) : KeepsBut [a] H (upd H a u) :=
  ⟨fun b o n e => by rw [upd_ne (fun z => n (by simp [z]))]; exact e, fun b e => by rw [upd_ne (fun z => by rw [z, h] at e; cases e)]; exact e⟩

mutual
theorem freeze : ∀ (d : D) {H : Hp} {v : V} {fp : List Addr}, Dv X.K H d v fp → Inv X pins σ H s → fp.Nodup → ∃ H', Inv X pins σ H' s ∧ Dv X.K H' d.frz v [] ∧ KeepsBut fp H H'
  | .non, H, _, _, x, I, _ => by cases x; exact ⟨H, I, .non, .refl⟩
  | .bl b, H, _, _, x, I, _ => by cases x; exact ⟨H, I, .bl b, .refl⟩
  | .int i, H, _, _, x, I, _ => by cases x; exact ⟨H, I, .int i, .refl⟩
  | .str i, H, _, _, x, I, _ => by cases x; exact ⟨H, I, .str i, .refl⟩
  | .opq i, H, _, _, x, I, _ => by cases x; exact ⟨H, I, .opq i, .refl⟩
  | .fact φ, H, _, _, x, I, _ => by
    have e := x.fz rfl
    subst e
    exact ⟨H, I, x, .refl⟩
  | .tup ds, H, _, _, x, I, nd => by
    cases x with
    | tup e l =>
      obtain ⟨H', I', l', k⟩ := freezeL ds l I nd
      exact ⟨H', I', .tup (SqT.keep k.1 l.mut e) l', k⟩
  | .lst m ds, H, _, _, x, I, nd => by
    cases x with
    | flst e l =>
      obtain ⟨H', I', l', k⟩ := freezeL ds l I nd
      exact ⟨H', I', .flst (SqF.keep k.1 (fun _ z => nomatch z) e) l', k⟩
    | @olst a xs _ _ e l =>
      obtain ⟨H1, I1, l1, k1⟩ := freezeL ds l I (List.nodup_cons.mp nd).2
      have e1 : H1 a = some (.lst xs) := k1.1 _ _ (List.nodup_cons.mp nd).1 e
      obtain ⟨od, I2⟩ := I1.lock e1 trivial
      have k2 : KeepsBut [a] H1 (L2.upd H1 a (.frz od (.lst xs))) := KeepsBut.upd e1
      refine ⟨_, I2, .flst (.inl ⟨od, upd_same⟩) (l1.keep k2.1 (fun b z => ?_) fun _ z => nomatch z), k1.trans k2 (fun x z => List.mem_cons_of_mem _ z) fun x z => ?_⟩
      · have : b = a := by simpa using z
        subst this; rw [e1]; trivial
      · have : x = a := by simpa using z
        subst this; exact List.mem_cons_self
  | .dic m ks ds, H, _, _, x, I, nd => by
    cases x with
    | fdic e q l =>
      obtain ⟨H', I', l', k⟩ := freezeL ds l I nd
      exact ⟨H', I', .fdic (k.1 _ _ (fun z => nomatch z) e) q l', k⟩
    | @odic a kvv _ _ _ e q l =>
      obtain ⟨H1, I1, l1, k1⟩ := freezeL ds l I (List.nodup_cons.mp nd).2
      have e1 : H1 a = some (.dK kvv) := k1.1 _ _ (List.nodup_cons.mp nd).1 e
      obtain ⟨od, I2⟩ := I1.lock e1 trivial
      have k2 : KeepsBut [a] H1 (L2.upd H1 a (.frz od (.dK kvv))) := KeepsBut.upd e1
      refine ⟨_, I2, .fdic upd_same q (l1.keep k2.1 (fun b z => ?_) fun _ z => nomatch z), k1.trans k2 (fun x z => List.mem_cons_of_mem _ z) fun x z => ?_⟩
      · have : b = a := by simpa using z
        subst this; rw [e1]; trivial
      · have : x = a := by simpa using z
        subst this; exact List.mem_cons_self
  | .dit m ks ds, H, _, _, x, I, nd => by
    cases x with
    | fdit e q l =>
      obtain ⟨H', I', l', k⟩ := freezeL ds l I nd
      exact ⟨H', I', .fdit (k.1 _ _ (fun z => nomatch z) e) q l', k⟩
    | @odit a kvv _ _ _ e q l =>
      obtain ⟨H1, I1, l1, k1⟩ := freezeL ds l I (List.nodup_cons.mp nd).2
      have e1 : H1 a = some (.dT kvv) := k1.1 _ _ (List.nodup_cons.mp nd).1 e
      obtain ⟨od, I2⟩ := I1.lock e1 trivial
      have k2 : KeepsBut [a] H1 (L2.upd H1 a (.frz od (.dT kvv))) := KeepsBut.upd e1
      refine ⟨_, I2, .fdit upd_same q (l1.keep k2.1 (fun b z => ?_) fun _ z => nomatch z), k1.trans k2 (fun x z => List.mem_cons_of_mem _ z) fun x z => ?_⟩
      · have : b = a := by simpa using z
        subst this; rw [e1]; trivial
      · have : x = a := by simpa using z
        subst this; exact List.mem_cons_self
theorem freezeL : ∀ (ds : List D) {H : Hp} {vs : List V} {fp : List Addr}, DvL X.K H ds vs fp → Inv X pins σ H s → fp.Nodup → ∃ H', Inv X pins σ H' s ∧ DvL X.K H' (D.frzL ds) vs [] ∧ KeepsBut fp H H'
  | [], H, _, _, x, I, _ => by cases x; exact ⟨H, I, .nil, .refl⟩
  | d :: ds, H, _, _, x, I, nd => by
    cases x with
    | cons x l =>
      obtain ⟨n1, n2, n3⟩ := List.nodup_append.mp nd
      obtain ⟨H1, I1, x1, k1⟩ := freeze d x I n1
      have l1 := l.keep k1.1 x.mut (fun a h h' => n3 a h' a h rfl)
      obtain ⟨H2, I2, l2, k2⟩ := freezeL ds l1 I1 n2
      exact ⟨H2, I2, .cons (f1 := []) (f2 := []) (x1.keep k2.1 l1.mut fun _ z => nomatch z) l2, k1.trans k2 (fun x z => List.mem_append_left _ z) fun x z => List.mem_append_right _ z⟩
end
end
end DL

namespace DL
open PySem PySem.Spec PyProof.Rows L2

abbrev En := List (Option D)
/-- an exception: its class, its fields -/
structure Xn where
  cls : Str
  flds : List (Str × D)
/-- what an expression gives -/
inductive R (α : Type) where
  | ok (a : α) (ρ : En) | exc (x : Xn) (ρ : En) | stk

def Sep (Hk : Hp) (l : List Addr) : Prop := l.Nodup ∧ ∀ a ∈ l, Hk a = none
theorem Sep.perm {Hk : Hp} {l l' : List Addr} (h : Sep Hk l) (p : l'.Perm l) : Sep Hk l' := ⟨p.nodup_iff.mpr h.1, fun a z => h.2 a (p.mem_iff.mp z)⟩
theorem Sep.right {Hk : Hp} {l l' : List Addr} (h : Sep Hk (l ++ l')) : Sep Hk l' := ⟨(List.nodup_append.mp h.1).2.1, fun a z => h.2 a (List.mem_append_right _ z)⟩
theorem Sep.left {Hk : Hp} {l l' : List Addr} (h : Sep Hk (l ++ l')) : Sep Hk l := ⟨(List.nodup_append.mp h.1).1, fun a z => h.2 a (List.mem_append_left _ z)⟩
theorem Sep.apart {Hk : Hp} {l l' : List Addr} (h : Sep Hk (l ++ l')) {a : Addr} (h1 : a ∈ l) (h2 : a ∈ l') : False := (List.nodup_append.mp h.1).2.2 a h1 a h2 rfl
theorem Sep.cons {Hk : Hp} {l : List Addr} {a : Addr} (h : Sep Hk l) (n : a ∉ l) (k : Hk a = none) : Sep Hk (a :: l) :=
  ⟨List.nodup_cons.mpr ⟨n, h.1⟩, fun b z => by rcases List.mem_cons.mp z with rfl | z; exact k; exact h.2 b z⟩

/-- slots and their data -/
inductive DvS (K : PySem.W.Frag) (H : Hp) : En → L2.St → List Addr → Prop
  | nil : DvS K H [] [] []
  | skip {ρ : En} {σ : L2.St} {fs : List Addr} {o : Option V} : DvS K H ρ σ fs → DvS K H (none :: ρ) (o :: σ) fs
  | cons {ρ : En} {σ : L2.St} {d : D} {v : V} {f fs : List Addr} : Dv K H d v f → DvS K H ρ σ fs → DvS K H (some d :: ρ) (some v :: σ) (f ++ fs)
section
variable {K : PySem.W.Frag} {H H' : Hp} {W : List Addr}
theorem DvS.mut : ∀ {ρ : En} {σ : L2.St} {fs : List Addr}, DvS K H ρ σ fs → ∀ a ∈ fs, Mut (H a)
  | _, _, _, .nil => fun _ h => nomatch h
  | _, _, _, .skip l => l.mut
  | _, _, _, .cons x l => fun a h => by
    rcases List.mem_append.mp h with h | h
    · exact x.mut a h
    · exact l.mut a h
theorem DvS.keep (hk : ∀ a o, a ∉ W → H a = some o → H' a = some o) (hW : ∀ a ∈ W, Mut (H a)) : ∀ {ρ : En} {σ : L2.St} {fs : List Addr}, DvS K H ρ σ fs → (∀ a ∈ fs, a ∉ W) → DvS K H' ρ σ fs
  | _, _, _, .nil, _ => .nil
  | _, _, _, .skip l, n => .skip (l.keep hk hW n)
  | _, _, _, .cons x l, n => .cons (x.keep hk hW fun a h => n a (List.mem_append_left _ h)) (l.keep hk hW fun a h => n a (List.mem_append_right _ h))
theorem DvS.length : ∀ {ρ : En} {σ : L2.St} {fs : List Addr}, DvS K H ρ σ fs → ρ.length = σ.length
  | _, _, _, .nil => rfl
  | _, _, _, .skip l => congrArg (· + 1) l.length
  | _, _, _, .cons _ l => congrArg (· + 1) l.length
/-- the content of a slot taken out -/
theorem DvS.get : ∀ {ρ : En} {σ : L2.St} {fs : List Addr} {i : Nat} {d : D}, DvS K H ρ σ fs → ρ[i]? = some (some d) →
    ∃ v f1 f2, σ[i]? = some (some v) ∧ Dv K H d v f1 ∧ fs.Perm (f1 ++ f2) ∧ DvS K H (ρ.set i none) σ f2
  | _, _, _, _, _, .nil, e => by simp at e
  | _, _, _, 0, d, .skip l, e => by simp at e
  | _, _, _, 0, d, .cons (v := v) (f := f) (fs := fs) x l, e => by
    simp at e; subst e
    exact ⟨v, f, fs, rfl, x, List.Perm.refl _, .skip l⟩
  | _, _, _, i + 1, d, .skip (ρ := ρ) l, e => by
    obtain ⟨v, f1, f2, h1, h2, h3, h4⟩ := l.get (i := i) (d := d) (by simpa using e)
    exact ⟨v, f1, f2, by simpa using h1, h2, h3, .skip h4⟩
  | _, _, _, i + 1, d, .cons (f := f) (fs := fs) x l, e => by
    obtain ⟨v, f1, f2, h1, h2, h3, h4⟩ := l.get (i := i) (d := d) (by simpa using e)
    refine ⟨v, f1, f ++ f2, by simpa using h1, h2, ?_, .cons x h4⟩
    exact (List.Perm.append_left f h3).trans (by
      rw [← List.append_assoc, ← List.append_assoc]
      exact List.Perm.append_right _ List.perm_append_comm)
/-- the content of a slot dropped, the slot's value is free -/
theorem DvS.drop : ∀ {ρ : En} {σ : L2.St} {fs : List Addr} (i : Nat) (o : Option V), DvS K H ρ σ fs → ∃ f0 f2, fs.Perm (f0 ++ f2) ∧ DvS K H (ρ.set i none) (σ.set i o) f2
  | _, _, _, _, _, .nil => ⟨[], [], List.Perm.refl _, .nil⟩
  | _, _, _, 0, o, .skip l => ⟨[], _, List.Perm.refl _, .skip l⟩
  | _, _, _, 0, o, .cons (f := f) (fs := fs) x l => ⟨f, fs, List.Perm.refl _, .skip l⟩
  | _, _, _, i + 1, o, .skip l => by
    obtain ⟨f0, f2, p, h⟩ := l.drop i o
    exact ⟨f0, f2, p, .skip h⟩
  | _, _, _, i + 1, o, .cons (f := f) (fs := fs) x l => by
    obtain ⟨f0, f2, p, h⟩ := l.drop i o
    refine ⟨f0, f ++ f2, ?_, .cons x h⟩
    exact (List.Perm.append_left f p).trans (by
      rw [← List.append_assoc, ← List.append_assoc]
      exact List.Perm.append_right _ List.perm_append_comm)
theorem DvS.fill : ∀ {ρ : En} {σ : L2.St} {fs f : List Addr} {i : Nat} {d : D} {v : V}, DvS K H ρ σ fs → ρ[i]? = some none → σ[i]? = some (some v) → Dv K H d v f → ∃ fs', DvS K H (ρ.set i (some d)) σ fs' ∧ fs'.Perm (f ++ fs)
  | _, _, _, _, _, _, _, .nil, e, _, _ => by simp at e
  | _, _, _, f, 0, d, v, .skip (o := o) l, _, e, x => by
    simp at e; subst e
    exact ⟨_, .cons x l, List.Perm.refl _⟩
  | _, _, _, f, 0, d, v, .cons _ l, e, _, _ => by simp at e
  | _, _, _, f, i + 1, d, v, .skip l, e, e2, x => by
    obtain ⟨fs', h, p⟩ := l.fill (i := i) (by simpa using e) (by simpa using e2) x
    exact ⟨fs', .skip h, p⟩
  | _, _, _, f, i + 1, d, v, .cons (f := g) (fs := fs) y l, e, e2, x => by
    obtain ⟨fs', h, p⟩ := l.fill (i := i) (by simpa using e) (by simpa using e2) x
    refine ⟨g ++ fs', .cons y h, ?_⟩
    exact (List.Perm.append_left g p).trans (by
      rw [← List.append_assoc, ← List.append_assoc]
      exact List.Perm.append_right _ List.perm_append_comm)
end

/-- what is fixed through a body: the heap that is kept, the slots that stay, and the slots at the entry -/
structure Ct where
  Hk : Hp
  Z : List Nat
  σ0 : L2.St
def Ct.zs (c : Ct) (σ : L2.St) : Prop := σ.length = c.σ0.length ∧ ∀ j ∈ c.Z, σ[j]? = c.σ0[j]?
/-- slots σ and heap H bear the data ρ, the pending values P; Hk is kept as it is -/
def Rp (K : PySem.W.Frag) (c : Ct) (σ : L2.St) (H : Hp) (ρ : En) (P : List (D × V)) : Prop :=
  ∃ fs fp, DvS K H ρ σ fs ∧ DvL K H (P.map (·.1)) (P.map (·.2)) fp ∧ Sep c.Hk (fs ++ fp) ∧ (∀ a o, c.Hk a = some o → H a = some o) ∧ c.zs σ
section
variable {K : PySem.W.Frag} {c : Ct} {H H' : Hp} {σ : L2.St} {ρ : En} {P : List (D × V)} {d : D} {v : V} {i : Nat}
theorem perm3 {α : Type} (a b c : List α) : (a ++ (b ++ c)).Perm (b ++ (a ++ c)) := by
  rw [← List.append_assoc, ← List.append_assoc]
  exact List.Perm.append_right _ List.perm_append_comm
theorem Rp.pop {x : D × V} (r : Rp K c σ H ρ (x :: P)) : Rp K c σ H ρ P := by
  obtain ⟨fs, fp, h1, h2, h3, h4⟩ := r
  cases h2 with
  | @cons _ _ _ _ f1 f2 x l =>
    exact ⟨fs, f2, h1, l, Sep.right (l := f1) (h3.perm (perm3 _ _ _)), h4⟩
theorem Rp.pops : ∀ {Pn : List (D × V)}, Rp K c σ H ρ (Pn ++ P) → Rp K c σ H ρ P
  | [], r => r
  | _ :: Pn, r => Rp.pops (Pn := Pn) r.pop
theorem Rp.head (r : Rp K c σ H ρ ((d, v) :: P)) : ∃ f, Dv K H d v f := by
  obtain ⟨fs, fp, h1, h2, h3, h4⟩ := r
  cases h2 with
  | cons x l => exact ⟨_, x⟩
theorem Rp.mem (h : (d, v) ∈ P) (r : Rp K c σ H ρ P) : ∃ f, Dv K H d v f := by
  induction P with
  | nil => cases h
  | cons x P ih =>
    rcases List.mem_cons.mp h with e | h
    · subst e; exact r.head
    · exact ih h r.pop
theorem Rp.len (r : Rp K c σ H ρ P) : ρ.length = σ.length := by
  obtain ⟨fs, fp, h1, h2, h3, h4⟩ := r
  exact h1.length
theorem Rp.ext (r : Rp K c σ H ρ P) (hk : ∀ a o, H a = some o → H' a = some o) : Rp K c σ H' ρ P := by
  obtain ⟨fs, fp, h1, h2, h3, h4, hz⟩ := r
  exact ⟨fs, fp, h1.keep (W := []) (fun a o _ h => hk a o h) (fun _ z => nomatch z) (fun _ _ z => nomatch z), h2.ext hk, h3, fun a o e => hk a o (h4 a o e), hz⟩
theorem upd_ext {p : Addr} {o : HO} (hp : H p = none) : ∀ a u, H a = some u → upd H p o a = some u := fun a u e => by
  rw [upd_ne (ne_of_none e hp)]; exact e
/-- frozen data is pushed -/
theorem Rp.push0 (r : Rp K c σ H ρ P) (x : Dv K H d v []) : Rp K c σ H ρ ((d, v) :: P) := by
  obtain ⟨fs, fp, h1, h2, h3, h4⟩ := r
  exact ⟨fs, fp, h1, .cons (f1 := []) x h2, h3, h4⟩
/-- a slot is read -/
theorem Rp.slot (r : Rp K c σ H ρ P) (e : ρ[i]? = some (some d)) : ∃ v f, σ[i]? = some (some v) ∧ Dv K H d v f := by
  obtain ⟨fs, fp, h1, h2, h3, h4⟩ := r
  obtain ⟨v, f1, f2, e1, x, _, _⟩ := h1.get e
  exact ⟨v, f1, e1, x⟩
theorem Rp.take (r : Rp K c σ H ρ P) (e : ρ[i]? = some (some d)) : ∃ v, σ[i]? = some (some v) ∧ Rp K c σ H (ρ.set i none) ((d, v) :: P) := by
  obtain ⟨fs, fp, h1, h2, h3, h4⟩ := r
  obtain ⟨v, f1, f2, e1, x, p, h5⟩ := h1.get e
  refine ⟨v, e1, f2, f1 ++ fp, h5, .cons x h2, h3.perm ?_, h4⟩
  rw [← List.append_assoc]
  exact List.Perm.append_right _ (List.perm_append_comm.trans p.symm)
theorem Rp.drop (r : Rp K c σ H ρ P) (i : Nat) (o : Option V) (ni : i ∉ c.Z) : Rp K c (σ.set i o) H (ρ.set i none) P := by
  obtain ⟨fs, fp, h1, h2, h3, h4, hz⟩ := r
  obtain ⟨f0, f2, p, h5⟩ := h1.drop i o
  refine ⟨f2, fp, h5, h2, ?_, h4, by rw [List.length_set]; exact hz.1, fun j hj => ?_⟩
  · have : Sep c.Hk (f0 ++ (f2 ++ fp)) := h3.perm (by
      rw [← List.append_assoc]
      exact List.Perm.append_right _ p.symm)
    exact this.right
  · have hne : i ≠ j := fun e => ni (by rw [e]; exact hj)
    rw [List.getElem?_set_ne hne]; exact hz.2 j hj
/-- what a slot holds is forgotten -/
theorem Rp.clear (r : Rp K c σ H ρ P) (i : Nat) : Rp K c σ H (ρ.set i none) P := by
  by_cases hi : i < σ.length
  · obtain ⟨fs, fp, h1, h2, h3, h4⟩ := r
    obtain ⟨f0, f2, p, h5⟩ := h1.drop i σ[i]
    rw [List.set_getElem_self hi] at h5
    refine ⟨f2, fp, h5, h2, ?_, h4⟩
    have : Sep c.Hk (f0 ++ (f2 ++ fp)) := h3.perm (by
      rw [← List.append_assoc]
      exact List.Perm.append_right _ p.symm)
    exact this.right
  · have e : ρ.set i none = ρ := List.set_eq_of_length_le (by rw [r.len]; omega)
    rw [e]; exact r
theorem Rp.fill (r : Rp K c σ H ρ ((d, v) :: P)) (e : ρ[i]? = some none) (e2 : σ[i]? = some (some v)) : Rp K c σ H (ρ.set i (some d)) P := by
  obtain ⟨fs, fp, h1, h2, h3, h4⟩ := r
  cases h2 with
  | @cons _ _ _ _ f1 f2 x l =>
    obtain ⟨fs', h5, p⟩ := h1.fill e e2 x
    refine ⟨fs', f2, h5, l, h3.perm ?_, h4⟩
    refine (List.Perm.append_right _ p).trans ?_
    rw [List.append_assoc]
    exact perm3 _ _ _
/-- put back: the slot's value is v -/
theorem Rp.put (r : Rp K c σ H ρ ((d, v) :: P)) (e2 : σ[i]? = some (some v)) : Rp K c σ H (ρ.set i (some d)) P := by
  have hl := r.len
  have hi : i < ρ.length := by rw [hl]; exact (List.getElem?_eq_some_iff.mp e2).1
  have r2 := (r.clear i).fill (i := i) (by simp [hi]) e2
  rw [List.set_set] at r2
  exact r2
theorem Rp.store (r : Rp K c σ H ρ ((d, v) :: P)) (ni : i ∉ c.Z) : Rp K c (σ.set i (some v)) H (ρ.set i (some d)) P := by
  have hl := r.len
  by_cases hi : i < σ.length
  · have hi' : i < ρ.length := by rw [hl]; exact hi
    have r1 := r.drop i (some v) ni
    have r2 := r1.fill (i := i) (by simp [hi']) (by simp [hi])
    rw [List.set_set] at r2
    exact r2
  · have e : ρ.set i (some d) = ρ := List.set_eq_of_length_le (by rw [hl]; omega)
    have e' : σ.set i (some v) = σ := List.set_eq_of_length_le (by omega)
    rw [e, e']; exact r.pop
theorem DvL.perm {P P' : List (D × V)} (h : P.Perm P') : ∀ {fp : List Addr}, DvL K H (P.map (·.1)) (P.map (·.2)) fp → ∃ fp', DvL K H (P'.map (·.1)) (P'.map (·.2)) fp' ∧ fp'.Perm fp := by
  induction h with
  | nil => intro fp h; exact ⟨fp, h, List.Perm.refl _⟩
  | cons x p ih =>
    intro fp h
    cases h with
    | @cons _ _ _ _ f1 f2 x l =>
      obtain ⟨fp', h5, q⟩ := ih l
      exact ⟨f1 ++ fp', .cons x h5, List.Perm.append_left _ q⟩
  | swap x y l =>
    intro fp h
    cases h with
    | @cons _ _ _ _ f1 f2 a l =>
      cases l with
      | @cons _ _ _ _ f3 f4 b l => exact ⟨f3 ++ (f1 ++ f4), .cons b (.cons a l), perm3 _ _ _⟩
  | trans p1 p2 ih1 ih2 =>
    intro fp h
    obtain ⟨fp1, h1, q1⟩ := ih1 h
    obtain ⟨fp2, h2, q2⟩ := ih2 h1
    exact ⟨fp2, h2, q2.trans q1⟩
theorem Rp.perm {P' : List (D × V)} (r : Rp K c σ H ρ P) (p : P.Perm P') : Rp K c σ H ρ P' := by
  obtain ⟨fs, fp, h1, h2, h3, h4⟩ := r
  obtain ⟨fp', h5, p⟩ := DvL.perm p h2
  exact ⟨fs, fp', h1, h5, h3.perm (List.Perm.append_left _ p), h4⟩
theorem Rp.swap {x y : D × V} (r : Rp K c σ H ρ (x :: y :: P)) : Rp K c σ H ρ (y :: x :: P) := r.perm (.swap _ _ _)
theorem perm4 {α : Type} (a b c d : List α) : (b ++ (c ++ (a ++ d))).Perm ((a ++ b) ++ (c ++ d)) := by
  rw [List.append_assoc]
  exact (List.Perm.append_left b (perm3 c a d)).trans (perm3 b a (c ++ d))
theorem split_pend {Po : List (D × V)} {fp : List Addr} (h2 : DvL K H ((Po ++ P).map (·.1)) ((Po ++ P).map (·.2)) fp) : ∃ f1 f2, fp = f1 ++ f2 ∧ DvL K H (Po.map (·.1)) (Po.map (·.2)) f1 ∧ DvL K H (P.map (·.1)) (P.map (·.2)) f2 := by
  rw [List.map_append, List.map_append] at h2
  obtain ⟨vs, us, f1, f2, e1, e2, a, b⟩ := h2.split
  have le : vs.length = (Po.map (·.2)).length := by have := a.length; simpa using this.symm
  obtain ⟨e3, e4⟩ := List.append_inj e1.symm le
  subst e3 e4 e2
  exact ⟨f1, f2, rfl, a, b⟩
/-- the top of P is changed, at the addresses W that it owns -/
theorem Rp.chg {Pn : List (D × V)} (Po : List (D × V)) (W : List Addr) (r : Rp K c σ H ρ (Po ++ P))
    (h : ∀ fp, DvL K H (Po.map (·.1)) (Po.map (·.2)) fp → (∀ a ∈ W, a ∈ fp) ∧ (∀ a o, a ∉ W → H a = some o → H' a = some o) ∧ ∃ fp' f0, DvL K H' (Pn.map (·.1)) (Pn.map (·.2)) fp' ∧ (fp' ++ f0).Perm fp) : Rp K c σ H' ρ (Pn ++ P) := by
  obtain ⟨fs, fp, h1, h2, h3, h4, hz⟩ := r
  obtain ⟨f1, f2, rfl, a, b⟩ := split_pend h2
  obtain ⟨w1, w2, fp', f0, c1, p⟩ := h f1 a
  have hW : ∀ a ∈ W, Mut (H a) := fun x z => a.mut x (w1 x z)
  have s2 : Sep c.Hk (f1 ++ (fs ++ f2)) := h3.perm (perm3 _ _ _)
  refine ⟨fs, fp' ++ f2, h1.keep w2 hW fun x z z' => ?_, ?_, ?_, fun x o e => w2 x o (fun z => ?_) (h4 x o e), hz⟩
  · exact s2.apart (w1 x z') (List.mem_append_left _ z)
  · rw [List.map_append, List.map_append]
    exact c1.append (b.keep w2 hW fun x z z' => s2.apart (w1 x z') (List.mem_append_right _ z))
  · have : Sep c.Hk (f0 ++ (fs ++ (fp' ++ f2))) := s2.perm ((perm4 fp' f0 fs f2).trans (List.Perm.append_right (fs ++ f2) p))
    exact this.right
  · have := h3.2 x (List.mem_append_right _ (List.mem_append_left _ (w1 x z)))
    rw [this] at e; cases e
/-- a new object is laid at p, made of the top of P -/
theorem Rp.lay {Pn : List (D × V)} (Po : List (D × V)) {p : Addr} {o : HO} (r : Rp K c σ H ρ (Po ++ P)) (hp : H p = none)
    (h : ∀ fp, DvL K H (Po.map (·.1)) (Po.map (·.2)) fp → DvL K (upd H p o) (Po.map (·.1)) (Po.map (·.2)) fp → ∃ fp' f0, DvL K (upd H p o) (Pn.map (·.1)) (Pn.map (·.2)) fp' ∧ ((fp' ++ f0).Perm fp ∨ (fp' ++ f0).Perm (p :: fp))) : Rp K c σ (upd H p o) ρ (Pn ++ P) := by
  obtain ⟨fs, fp, h1, h2, h3, h4, hz⟩ := r
  obtain ⟨f1, f2, rfl, a, b⟩ := split_pend h2
  obtain ⟨fp', f0, c1, q⟩ := h f1 a (a.ext (upd_ext hp))
  have hk : c.Hk p = none := by
    cases e : c.Hk p with
    | none => rfl
    | some u => rw [h4 p u e] at hp; cases hp
  have np : ∀ x, Mut (H x) → x ≠ p := fun x m z => by subst z; rw [hp] at m; exact m
  have s1 : Sep c.Hk (p :: (f1 ++ (fs ++ f2))) := by
    refine Sep.cons (h3.perm (perm3 _ _ _)) (fun z => ?_) hk
    rcases List.mem_append.mp z with z | z
    · exact np p (a.mut p z) rfl
    · rcases List.mem_append.mp z with z | z
      · exact np p (h1.mut p z) rfl
      · exact np p (b.mut p z) rfl
  have s2 : Sep c.Hk ((fp' ++ f0) ++ (fs ++ f2)) := by
    rcases q with q | q
    · exact (Sep.right (l := [p]) s1).perm (List.Perm.append_right _ q)
    · exact s1.perm (List.Perm.append_right (fs ++ f2) q)
  refine ⟨fs, fp' ++ f2, h1.keep (W := []) (fun a o _ h => upd_ext hp a o h) (fun _ z => nomatch z) (fun _ _ z => nomatch z), ?_, ?_, fun x u e => upd_ext hp x u (h4 x u e), hz⟩
  · rw [List.map_append, List.map_append]
    exact c1.append (b.ext (upd_ext hp))
  · exact (Sep.perm s2 (perm4 fp' f0 fs f2)).right
/-- a value that is new, or frozen: what it owns is new -/
def Fresh (K : PySem.W.Frag) (H H' : Hp) (d : D) (v : V) : Prop := (∀ a o, H a = some o → H' a = some o) ∧ ∃ f, Dv K H' d v f ∧ f.Nodup ∧ ∀ a ∈ f, H a = none
theorem Rp.fresh (r : Rp K c σ H ρ P) (f : Fresh K H H' d v) : Rp K c σ H' ρ ((d, v) :: P) := by
  obtain ⟨hk, f, x, nd, nw⟩ := f
  obtain ⟨fs, fp, h1, h2, h3, h4, hz⟩ := r
  refine ⟨fs, f ++ fp, h1.keep (W := []) (fun a o _ h => hk a o h) (fun _ z => nomatch z) (fun _ _ z => nomatch z), .cons x (h2.ext hk), ?_, fun a o e => hk a o (h4 a o e), hz⟩
  have np : ∀ x ∈ f, ¬ Mut (H x) := fun x z m => by rw [nw x z] at m; exact m
  have s1 : Sep c.Hk (f ++ (fs ++ fp)) := by
    refine ⟨List.nodup_append.mpr ⟨nd, h3.1, fun a za b zb e => ?_⟩, fun a z => ?_⟩
    · subst e
      rcases List.mem_append.mp zb with q | q
      · exact np a za (h1.mut a q)
      · exact np a za (h2.mut a q)
    · rcases List.mem_append.mp z with q | q
      · cases e : c.Hk a with
        | none => rfl
        | some u => have := h4 a u e; rw [nw a q] at this; cases this
      · exact h3.2 a q
  exact s1.perm (perm3 _ _ _)
theorem Fresh.same (x : Dv K H d v []) : Fresh K H H d v := ⟨fun _ _ e => e, [], x, List.nodup_nil, fun _ z => nomatch z⟩
end
section
variable {X : Cx} {pins : List (Addr × Obj)} {c : Ct} {H : Hp} {σ : L2.St} {s : Shared} {ρ : En} {P : List (D × V)} {d : D} {v : V} {i : Nat}
/-- the top value is frozen -/
theorem Rp.freeze (I : Inv X pins σ H s) (r : Rp X.K c σ H ρ ((d, v) :: P)) : ∃ H', Inv X pins σ H' s ∧ Rp X.K c σ H' ρ ((d.frz, v) :: P) := by
  obtain ⟨fs, fp, h1, h2, h3, h4, hz⟩ := r
  cases h2 with
  | @cons _ _ _ _ f1 f2 x l =>
    have s2 : Sep c.Hk (f1 ++ (fs ++ f2)) := h3.perm (perm3 _ _ _)
    obtain ⟨H', I', x', k⟩ := DL.freeze d x I s2.left.1
    refine ⟨H', I', fs, f2, h1.keep k.1 x.mut (fun a z z' => s2.apart z' (List.mem_append_left _ z)), .cons (f1 := []) x' (l.keep k.1 x.mut fun a z z' => s2.apart z' (List.mem_append_right _ z)), s2.right, fun a o e => k.1 a o (fun z => ?_) (h4 a o e), hz⟩
    rw [s2.2 a (List.mem_append_left _ z)] at e; cases e
/-- a slot is read as a value: it is frozen from then on -/
theorem Rp.load (I : Inv X pins σ H s) (r : Rp X.K c σ H ρ P) (e : ρ[i]? = some (some d)) : ∃ v H', σ[i]? = some (some v) ∧ Inv X pins σ H' s ∧ Rp X.K c σ H' (ρ.set i (some d.frz)) ((d.frz, v) :: P) := by
  obtain ⟨v, e1, r1⟩ := r.take e
  obtain ⟨H', I', r2⟩ := Rp.freeze I r1
  refine ⟨v, H', e1, I', ?_⟩
  obtain ⟨f, x⟩ := r2.head
  have x0 : Dv X.K H' d.frz v [] := by have := x.fz (D.frz_isF d); subst this; exact x
  have r3 := r2.put (i := i) e1
  rw [List.set_set] at r3
  exact r3.push0 x0
end
end DL

namespace DL
open PySem PySem.Spec PyProof.Rows L2

section
variable {α β : Type}
def R.sat (r : R α) (ok : α → En → Prop) (ex : Xn → En → Prop) : Prop := match r with
  | .ok a ρ => ok a ρ
  | .exc x ρ => ex x ρ
  | .stk => False
def R.bind (r : R α) (k : α → En → R β) : R β := match r with
  | .ok a ρ => k a ρ
  | .exc x ρ => .exc x ρ
  | .stk => .stk
theorem R.sat_bind {r : R α} {k : α → En → R β} {ok : β → En → Prop} {ex : Xn → En → Prop} : (r.bind k).sat ok ex = r.sat (fun a ρ => (k a ρ).sat ok ex) ex := by
  cases r <;> rfl
theorem R.sat.imp {r : R α} {ok ok' : α → En → Prop} {ex : Xn → En → Prop} (h : r.sat ok ex) (h1 : ∀ a ρ, ok a ρ → ok' a ρ) : r.sat ok' ex := by
  cases r with
  | ok a ρ => exact h1 a ρ h
  | exc x ρ => exact h
  | stk => exact h
/-- of an option -/
def R.of (o : Option α) (ρ : En) : R α := match o with
  | some a => .ok a ρ
  | none => .stk
theorem R.of_sat {o : Option α} {ρ : En} {ok : α → En → Prop} {ex : Xn → En → Prop} (h : (R.of o ρ).sat ok ex) : ∃ a, o = some a ∧ ok a ρ := by
  cases o with
  | none => exact h.elim
  | some a => exact ⟨a, rfl, h⟩
@[simp] theorem R.bind_ok (a : α) (ρ : En) (k : α → En → R β) : (R.ok a ρ).bind k = k a ρ := rfl
@[simp] theorem R.bind_exc (x : Xn) (ρ : En) (k : α → En → R β) : (R.exc x ρ : R α).bind k = .exc x ρ := rfl
@[simp] theorem R.bind_stk (k : α → En → R β) : (R.stk : R α).bind k = .stk := rfl
@[simp] theorem R.of_some (a : α) (ρ : En) : R.of (some a) ρ = .ok a ρ := rfl
@[simp] theorem R.of_none (ρ : En) : R.of (none : Option α) ρ = .stk := rfl
end

/-- an operand: a value, or what a name holds (looked at when it is used) -/
inductive Ar where
  | val (d : D) | loc (i : Nat)
def slot (ρ : En) (i : Nat) : Option D := match ρ[i]? with
  | some (some d) => some d
  | _ => none
theorem slot_some {ρ : En} {i : Nat} {d : D} (h : slot ρ i = some d) : ρ[i]? = some (some d) := by
  unfold slot at h
  split at h
  · rename_i e; rw [e]; cases h; rfl
  · cases h
def res (a : Ar) (ρ : En) : Option D := match a with
  | .val d => some d
  | .loc i => slot ρ i
abbrev FE := En → R D
abbrev FO := En → R Ar
abbrev FB := En → R Bool
abbrev FLs := En → R (List Ar)
def ArOk (σ : L2.St) (P : List (D × V)) : Ar → V → Prop
  | .val d, v => (d, v) ∈ P
  | .loc i, v => σ[i]? = some (some v)
theorem ArOk.up {σ : L2.St} {P : List (D × V)} {a : Ar} {v : V} (Pn : List (D × V)) (h : ArOk σ P a v) : ArOk σ (Pn ++ P) a v := by
  cases a with
  | val d => exact List.mem_append_right _ h
  | loc i => exact h
theorem ArOk.dv {K : PySem.W.Frag} {c : Ct} {H : Hp} {σ : L2.St} {ρ : En} {P : List (D × V)} {a : Ar} {v : V} {d : D} (h : ArOk σ P a v) (r : Rp K c σ H ρ P) (e : res a ρ = some d) : ∃ f, Dv K H d v f := by
  cases a with
  | val d' => cases e; exact Rp.mem h r
  | loc i =>
    obtain ⟨v', f, e1, x⟩ := r.slot (slot_some e)
    have e2 : σ[i]? = some (some v) := h
    rw [e2] at e1; cases e1
    exact ⟨f, x⟩

section
variable (K : PySem.W.Frag) (c : Ct) (Ew : Xn → En → Prop)
def rdE (f : FE) : TE := fun σ H Q => ∃ ρ P, Rp K c σ H ρ P ∧ (f ρ).sat (fun d ρ' => ∀ v H', Rp K c σ H' ρ' ((d, v) :: P) → Q v H') Ew
def rdO (f : FO) : TE := fun σ H Q => ∃ ρ P, Rp K c σ H ρ P ∧ (f ρ).sat (fun a ρ' => ∀ v H' Pn, Rp K c σ H' ρ' (Pn ++ P) → ArOk σ (Pn ++ P) a v → Q v H') Ew
def rdT (f : FB) : TT := fun σ H Q => ∃ ρ P, Rp K c σ H ρ P ∧ (f ρ).sat (fun b ρ' => ∀ H', Rp K c σ H' ρ' P → Q b H') Ew
def rdA (f : FLs) : TA := fun σ H Q => ∃ ρ P, Rp K c σ H ρ P ∧ (f ρ).sat (fun as ρ' => ∀ vs H' Pn, Rp K c σ H' ρ' (Pn ++ P) → Paired (ArOk σ (Pn ++ P)) as vs → Q vs H') Ew
end
abbrev DE (X : Cx) (c : Ct) (Ew : Xn → En → Prop) (e : Expr) (f : FE) : Prop := PE X e (rdE X.K c Ew f)
abbrev DO (X : Cx) (c : Ct) (Ew : Xn → En → Prop) (e : Expr) (f : FO) : Prop := PE X e (rdO X.K c Ew f)
abbrev DT (X : Cx) (c : Ct) (Ew : Xn → En → Prop) (e : Expr) (f : FB) : Prop := PT X e (rdT X.K c Ew f)
abbrev DW (X : Cx) (c : Ct) (Ew : Xn → En → Prop) (e : Expr) (f : FB) : Prop := PW X e (rdT X.K c Ew f)
abbrev DA (X : Cx) (c : Ct) (Ew : Xn → En → Prop) (es : List Expr) (f : FLs) : Prop := PA X es (rdA X.K c Ew f)

theorem _root_.L2.PE.dimp {X : Cx} {e : Expr} {t u : TE} (h : PE X e t) (q : ∀ σ H Q, u σ H Q → t σ H Q) : PE X e u := ⟨fun pins s σ H Q I x => h.run pins s σ H Q I (q σ H Q x)⟩
theorem _root_.L2.PT.dimp {X : Cx} {e : Expr} {t u : TT} (h : PT X e t) (q : ∀ σ H Q, u σ H Q → t σ H Q) : PT X e u := ⟨fun pins s σ H Q I x => h.run pins s σ H Q I (q σ H Q x)⟩
theorem _root_.L2.PW.dimp {X : Cx} {e : Expr} {t u : TT} (h : PW X e t) (q : ∀ σ H Q, u σ H Q → t σ H Q) : PW X e u := ⟨fun wh pins s σ H Q I x => h.run wh pins s σ H Q I (q σ H Q x)⟩
theorem _root_.L2.PA.dimp {X : Cx} {e : List Expr} {t u : TA} (h : PA X e t) (q : ∀ σ H Q, u σ H Q → t σ H Q) : PA X e u := ⟨fun pos pins s σ H Q I x => h.run pos pins s σ H Q I (q σ H Q x)⟩

section
variable {X : Cx} {c : Ct} {Ew : Xn → En → Prop} {e a b : Expr} {pos : Pos} {es : List Expr}

/-! ### constants, names -/
def fC (d : D) : FE := fun ρ => .ok d ρ
theorem de_c {v : V} {d : D} (h : PE X e (tC v)) (x : ∀ H, Dv X.K H d v []) : DE X c Ew e (fC d) := h.dimp fun σ H Q ⟨ρ, P, r, q⟩ => q v H (r.push0 (x H))
theorem de_int {i j} : DE X c Ew (.Constant (.int i) j pos) (fC (.int i)) := de_c pe_int fun _ => .int i
theorem de_bl {i j} : DE X c Ew (.Constant (.bool i) j pos) (fC (.bl i)) := de_c pe_bl fun _ => .bl i
theorem de_non {j} : DE X c Ew (.Constant .none j pos) (fC .non) := de_c pe_non fun _ => .non
theorem de_str {i j} : DE X c Ew (.Constant (.str i) j pos) (fC (.str i)) := de_c pe_str fun _ => .str i
theorem de_glob {x : Str} {v : V} {u : Value} {d : D} (hm : X.mg x = some u) (hg : Gl X x) (r : RelV v u) (q : ∀ H, Dv X.K H d v []) (hd : (x == ("__debug__" : Str)) = false := by decide) : DE X c Ew (.Name x pos) (fC d) := de_c (pe_glob hg hm r hd) q
/-- a name as a value: what it holds is frozen -/
def fName (i : Nat) : FE := fun ρ => match slot ρ i with
  | some d => .ok d.frz (ρ.set i (some d.frz))
  | none => .stk
/-- a name given away -/
def fMove (i : Nat) : FE := fun ρ => match slot ρ i with
  | some d => .ok d (ρ.set i none)
  | none => .stk
def fLoc (i : Nat) : FO := fun ρ => match slot ρ i with
  | some _ => .ok (.loc i) ρ
  | none => .stk
theorem de_name (i : Nat) {x : Str} (h : PE X (.Name x pos) (tVar i)) : DE X c Ew (.Name x pos) (fName i) := by
  refine ⟨fun pins s σ H Q I ⟨ρ, P, r, q⟩ => ?_⟩
  unfold fName at q
  cases e : slot ρ i with
  | none => rw [e] at q; exact q.elim
  | some d =>
    rw [e] at q
    obtain ⟨v, f, e1, _⟩ := r.slot (slot_some e)
    refine thn (h.run pins s σ H (fun v' H1 => v' = v ∧ H1 = H) I ⟨v, e1, rfl, rfl⟩) fun u s1 ⟨v1, H1, I1, rv, e2, e3⟩ => ?_
    subst e2 e3
    obtain ⟨v2, H', e4, I', r'⟩ := Rp.load I1 r (slot_some e)
    rw [e1] at e4; cases e4
    exact ⟨v1, H', I', rv, q v1 H' r'⟩
theorem de_move (i : Nat) {x : Str} (h : PE X (.Name x pos) (tVar i)) : DE X c Ew (.Name x pos) (fMove i) := h.dimp fun σ H Q ⟨ρ, P, r, q⟩ => by
  unfold fMove at q
  cases e : slot ρ i with
  | none => rw [e] at q; exact q.elim
  | some d =>
    rw [e] at q
    obtain ⟨v, e1, r1⟩ := r.take (slot_some e)
    exact ⟨v, e1, q v H r1⟩
/-- a name as an operand; it must hold something (res looks later) -/
theorem do_loc (i : Nat) {x : Str} (h : PE X (.Name x pos) (tVar i)) : DO X c Ew (.Name x pos) (fLoc i) := h.dimp fun σ H Q ⟨ρ, P, r, q⟩ => by
  unfold fLoc at q
  cases e : slot ρ i with
  | none => rw [e] at q; exact q.elim
  | some d =>
    rw [e] at q
    obtain ⟨v, f, e1, _⟩ := r.slot (slot_some e)
    exact ⟨v, e1, q v H [] r e1⟩
def fVal (f : FE) : FO := fun ρ => (f ρ).bind fun d ρ' => .ok (.val d) ρ'
theorem do_val {f : FE} (h : DE X c Ew e f) : DO X c Ew e (fVal f) := h.dimp fun σ H Q ⟨ρ, P, r, q⟩ => by
  refine ⟨ρ, P, r, ?_⟩
  unfold fVal at q
  rw [R.sat_bind] at q
  exact q.imp fun d ρ' k v H' r' => k v H' [(d, v)] r' (List.mem_cons_self)
/-- the value is frozen -/
def fFz (f : FE) : FE := fun ρ => (f ρ).bind fun d ρ' => .ok d.frz ρ'
theorem de_fz {f : FE} (h : DE X c Ew e f) : DE X c Ew e (fFz f) := by
  refine ⟨fun pins s σ H Q I ⟨ρ, P, r, q⟩ => ?_⟩
  unfold fFz at q
  rw [R.sat_bind] at q
  refine thn (h.run pins s σ H (fun v H1 => ∃ d ρ', Rp X.K c σ H1 ρ' ((d, v) :: P) ∧ ∀ v H', Rp X.K c σ H' ρ' ((d.frz, v) :: P) → Q v H') I ⟨ρ, P, r, q.imp fun d ρ' k v H' r' => ⟨d, ρ', r', k⟩⟩) fun u s1 ⟨v, H1, I1, rv, d, ρ', r1, k⟩ => ?_
  obtain ⟨H2, I2, r2⟩ := Rp.freeze I1 r1
  exact ⟨v, H2, I2, rv, k v H2 r2⟩

/-! ### operations by values -/
def lift2 (g : D → D → Option D) (a b : Ar) : FE := fun ρ => match res a ρ, res b ρ with
  | some d, some e => R.of (g d e) ρ
  | _, _ => .stk
def fBin (g : D → D → Option D) (fa fb : FO) : FE := fun ρ => (fa ρ).bind fun a ρ1 => (fb ρ1).bind fun b ρ2 => lift2 g a b ρ2
def lift1 (g : D → Option D) (a : Ar) : FE := fun ρ => match res a ρ with
  | some d => R.of (g d) ρ
  | _ => .stk
def fUn (g : D → Option D) (fa : FO) : FE := fun ρ => (fa ρ).bind fun a ρ1 => lift1 g a ρ1
def Op2 (K : PySem.W.Frag) (r : R2) (g : D → D → Option D) : Prop := ∀ (H : Hp) (x y : V) (d e : D) (f1 f2 : List Addr) (Q : VK) (dr : D), Dv K H d x f1 → Dv K H e y f2 → g d e = some dr → (∀ v H', Fresh K H H' dr v → Q v H') → r x y H Q
def Op1 (K : PySem.W.Frag) (r : V → Hp → VK → Prop) (g : D → Option D) : Prop := ∀ (H : Hp) (x : V) (d : D) (f1 : List Addr) (Q : VK) (dr : D), Dv K H d x f1 → g d = some dr → (∀ v H', Fresh K H H' dr v → Q v H') → r x H Q
theorem lift2_sat {g : D → D → Option D} {a b : Ar} {ρ : En} {ok : D → En → Prop} {ex : Xn → En → Prop} (h : (lift2 g a b ρ).sat ok ex) : ∃ d e dr, res a ρ = some d ∧ res b ρ = some e ∧ g d e = some dr ∧ ok dr ρ := by
  unfold lift2 at h
  cases ea : res a ρ with
  | none => rw [ea] at h; exact h.elim
  | some d =>
    cases eb : res b ρ with
    | none => rw [ea, eb] at h; exact h.elim
    | some e =>
      rw [ea, eb] at h
      obtain ⟨dr, e1, q⟩ := R.of_sat h
      exact ⟨d, e, dr, rfl, rfl, e1, q⟩
theorem lift1_sat {g : D → Option D} {a : Ar} {ρ : En} {ok : D → En → Prop} {ex : Xn → En → Prop} (h : (lift1 g a ρ).sat ok ex) : ∃ d dr, res a ρ = some d ∧ g d = some dr ∧ ok dr ρ := by
  unfold lift1 at h
  cases ea : res a ρ with
  | none => rw [ea] at h; exact h.elim
  | some d =>
    rw [ea] at h
    obtain ⟨dr, e1, q⟩ := R.of_sat h
    exact ⟨d, dr, rfl, e1, q⟩
theorem rd_op2 {K : PySem.W.Frag} {r : R2} {g : D → D → Option D} (h : Op2 K r g) (fa fb : FO) (σ : L2.St) (H : Hp) (Q : VK) : rdE K c Ew (fBin g fa fb) σ H Q → tOp r (rdO K c Ew fa) (rdO K c Ew fb) σ H Q := by
  rintro ⟨ρ, P, rp, hs⟩
  unfold fBin at hs
  rw [R.sat_bind] at hs
  refine ⟨ρ, P, rp, hs.imp fun a ρ1 hs v H1 Pn r1 oka => ?_⟩
  rw [R.sat_bind] at hs
  refine ⟨ρ1, Pn ++ P, r1, hs.imp fun b ρ2 hs u H2 Pm r2 okb => ?_⟩
  obtain ⟨d, e, dr, ea, eb, eg, q⟩ := lift2_sat hs
  obtain ⟨f1, x⟩ := (oka.up Pm).dv r2 ea
  obtain ⟨f2, y⟩ := okb.dv r2 eb
  exact h H2 v u d e f1 f2 Q dr x y eg fun w H3 fr => q w H3 (Rp.fresh r2.pops.pops fr)
theorem rd_op1 {K : PySem.W.Frag} {r : V → Hp → VK → Prop} {g : D → Option D} (h : Op1 K r g) (fa : FO) (σ : L2.St) (H : Hp) (Q : VK) : rdE K c Ew (fUn g fa) σ H Q → tUn r (rdO K c Ew fa) σ H Q := by
  rintro ⟨ρ, P, rp, hs⟩
  unfold fUn at hs
  rw [R.sat_bind] at hs
  refine ⟨ρ, P, rp, hs.imp fun a ρ1 hs v H1 Pn r1 oka => ?_⟩
  obtain ⟨d, dr, ea, eg, q⟩ := lift1_sat hs
  obtain ⟨f1, x⟩ := oka.dv r1 ea
  exact h H1 v d f1 Q dr x eg fun w H3 fr => q w H3 (Rp.fresh r1.pops fr)
theorem de_bin {op : Operator} {r : R2} {g : D → D → Option D} {fa fb : FO} (ho : OpR X (binaryOp op) r) (h : Op2 X.K r g) (ha : DO X c Ew a fa) (hb : DO X c Ew b fb) : DE X c Ew (.BinOp a op b pos) (fBin g fa fb) := (pe_op ho ha hb).dimp (rd_op2 h fa fb)
theorem de_un {op : UnaryOp} {r : V → Hp → VK → Prop} {g : D → Option D} {fa : FO} (ho : UnR X (unaryOp op) r) (h : Op1 X.K r g) (ha : DO X c Ew a fa) : DE X c Ew (.UnaryOp op a pos) (fUn g fa) := (pe_un ho ha).dimp (rd_op1 h fa)
theorem de_cmp {op : CmpOp} {r : R2} {g : D → D → Option D} {fa fb : FO} (ho : OpR X (compareOp op) r) (h : Op2 X.K r g) (ha : DO X c Ew a fa) (hb : DO X c Ew b fb) (hm : behindInMarks op b = false) : DE X c Ew (.Compare a [op] [b] pos) (fBin g fa fb) := (pe_cmpR ho ha hb hm).dimp (rd_op2 h fa fb)
theorem de_ix {r : R2} {g : D → D → Option D} {fa fb : FO} (ho : IxR X r) (h : Op2 X.K r g) (ha : DO X c Ew a fa) (hb : DO X c Ew b fb) (hs : PlainIx b) : DE X c Ew (.Subscript a b pos) (fBin g fa fb) := (pe_ix ho ha hb hs).dimp (rd_op2 h fa fb)
/-- a comparison as a test -/
def asB : D → En → R Bool := fun d ρ => match d with
  | .bl b => .ok b ρ
  | _ => .stk
def fTst (f : FE) : FB := fun ρ => (f ρ).bind asB
theorem asB_sat {d : D} {ρ : En} {ok : Bool → En → Prop} {ex : Xn → En → Prop} (h : (asB d ρ).sat ok ex) : ∃ b, d = .bl b ∧ ok b ρ := by
  cases d with
  | bl b => exact ⟨b, rfl, h⟩
  | _ => exact h.elim
theorem Rp.bl {K : PySem.W.Frag} {c : Ct} {σ : L2.St} {H : Hp} {ρ : En} {P : List (D × V)} {b : Bool} {v : V} (r : Rp K c σ H ρ ((.bl b, v) :: P)) : v = .bl b := by
  obtain ⟨f, x⟩ := r.head
  cases x; rfl
theorem dt_cmp {op : CmpOp} {r : R2} {g : D → D → Option D} {fa fb : FO} (ho : OpR X (compareOp op) r) (h : Op2 X.K r g) (ha : DO X c Ew a fa) (hb : DO X c Ew b fb) (hm : behindInMarks op b = false) : DT X c Ew (.Compare a [op] [b] pos) (fTst (fBin g fa fb)) := by
  refine (pt_cmpR ho ha hb hm).dimp fun σ H Q ⟨ρ, P, rp, q⟩ => ?_
  refine rd_op2 (c := c) (Ew := Ew) h fa fb σ H _ ⟨ρ, P, rp, ?_⟩
  unfold fTst at q
  rw [R.sat_bind] at q
  refine q.imp fun d ρ' k v H' r' => ?_
  obtain ⟨b, rfl, k⟩ := asB_sat k
  exact ⟨b, r'.bl, k H' r'.pop⟩
/-- any expression whose value is a bool as a test -/
theorem dt_val {f : FE} (h : DE X c Ew e f) (he : ∀ whole, isTrue e X.env whole = (do let v ← whole; standAt e.pos; holding [v] (truthy v)) := by intro _; rfl) : DT X c Ew e (fTst f) := by
  refine (pt_val h he).dimp fun σ H Q ⟨ρ, P, rp, q⟩ => ?_
  unfold fTst at q
  rw [R.sat_bind] at q
  refine ⟨ρ, P, rp, q.imp fun d ρ' k v H' r' => ?_⟩
  obtain ⟨b, rfl, k⟩ := asB_sat k
  exact ⟨b, r'.bl, k H' r'.pop⟩
/-! ### not, and, or, if else -/
def fNotT (f : FB) : FB := fun ρ => (f ρ).bind fun b ρ' => .ok (!b) ρ'
def fAndT (f g : FB) : FB := fun ρ => (f ρ).bind fun b ρ' => if b then g ρ' else .ok false ρ'
def fOrT (f g : FB) : FB := fun ρ => (f ρ).bind fun b ρ' => if b then .ok true ρ' else g ρ'
theorem dt_not {f : FB} (h : DT X c Ew a f) : DT X c Ew (.UnaryOp .Not a pos) (fNotT f) := (pt_not h).dimp fun σ H Q ⟨ρ, P, rp, q⟩ => by
  unfold fNotT at q
  rw [R.sat_bind] at q
  exact ⟨ρ, P, rp, q.imp fun b ρ' k H' r' => k H' r'⟩
theorem dw_and1 {f : FB} (h : DT X c Ew a f) : DW X c Ew (.BoolOp .And [a] pos) f := pw_and1 h
theorem dw_or1 {f : FB} (h : DT X c Ew a f) : DW X c Ew (.BoolOp .Or [a] pos) f := pw_or1 h
theorem dw_and {f g : FB} {rest : List Expr} (h : DT X c Ew a f) (h2 : DW X c Ew (.BoolOp .And (b :: rest) pos) g) : DW X c Ew (.BoolOp .And (a :: b :: rest) pos) (fAndT f g) := (pw_and h h2).dimp fun σ H Q ⟨ρ, P, rp, q⟩ => by
  unfold fAndT at q
  rw [R.sat_bind] at q
  refine ⟨ρ, P, rp, q.imp fun b ρ' k H' r' => ?_⟩
  cases b with
  | true => exact ⟨ρ', P, r', k⟩
  | false => exact k H' r'
theorem dw_or {f g : FB} {rest : List Expr} (h : DT X c Ew a f) (h2 : DW X c Ew (.BoolOp .Or (b :: rest) pos) g) : DW X c Ew (.BoolOp .Or (a :: b :: rest) pos) (fOrT f g) := (pw_or h h2).dimp fun σ H Q ⟨ρ, P, rp, q⟩ => by
  unfold fOrT at q
  rw [R.sat_bind] at q
  refine ⟨ρ, P, rp, q.imp fun b ρ' k H' r' => ?_⟩
  cases b with
  | true => exact k H' r'
  | false => exact ⟨ρ', P, r', k⟩
theorem dt_w {f : FB} (h : DW X c Ew e f) : DT X c Ew e f := h.pt
/-- .. as values -/
def fAndV (f g : FE) : FE := fun ρ => (f ρ).bind fun d ρ' => (asB d ρ').bind fun b ρ' => if b then g ρ' else .ok (.bl false) ρ'
def fOrV (f g : FE) : FE := fun ρ => (f ρ).bind fun d ρ' => (asB d ρ').bind fun b ρ' => if b then .ok (.bl true) ρ' else g ρ'
def fNotV (f : FE) : FE := fun ρ => (f ρ).bind fun d ρ' => (asB d ρ').bind fun b ρ' => .ok (.bl (!b)) ρ'
theorem de_one {op} {f : FE} (h : DE X c Ew a f) : DE X c Ew (.BoolOp op [a] pos) f := pe_one h
theorem de_and {f g : FE} {rest : List Expr} (h : DE X c Ew a f) (h2 : DE X c Ew (.BoolOp .And (b :: rest) pos) g) : DE X c Ew (.BoolOp .And (a :: b :: rest) pos) (fAndV f g) := (pe_and h h2).dimp fun σ H Q ⟨ρ, P, rp, q⟩ => by
  unfold fAndV at q
  rw [R.sat_bind] at q
  refine ⟨ρ, P, rp, q.imp fun d ρ' k v H' r' => ?_⟩
  rw [R.sat_bind] at k
  obtain ⟨b, rfl, k⟩ := asB_sat k
  refine ⟨b, r'.bl, ?_⟩
  cases b with
  | true => exact ⟨ρ', P, r'.pop, k⟩
  | false => exact k _ H' (r'.pop.push0 (.bl _))
theorem de_or {f g : FE} {rest : List Expr} (h : DE X c Ew a f) (h2 : DE X c Ew (.BoolOp .Or (b :: rest) pos) g) : DE X c Ew (.BoolOp .Or (a :: b :: rest) pos) (fOrV f g) := (pe_or h h2).dimp fun σ H Q ⟨ρ, P, rp, q⟩ => by
  unfold fOrV at q
  rw [R.sat_bind] at q
  refine ⟨ρ, P, rp, q.imp fun d ρ' k v H' r' => ?_⟩
  rw [R.sat_bind] at k
  obtain ⟨b, rfl, k⟩ := asB_sat k
  refine ⟨b, r'.bl, ?_⟩
  cases b with
  | true => exact k _ H' (r'.pop.push0 (.bl _))
  | false => exact ⟨ρ', P, r'.pop, k⟩
theorem de_not {f : FE} (h : DE X c Ew a f) : DE X c Ew (.UnaryOp .Not a pos) (fNotV f) := (pe_not h).dimp fun σ H Q ⟨ρ, P, rp, q⟩ => by
  unfold fNotV at q
  rw [R.sat_bind] at q
  refine ⟨ρ, P, rp, q.imp fun d ρ' k v H' r' => ?_⟩
  rw [R.sat_bind] at k
  obtain ⟨b, rfl, k⟩ := asB_sat k
  exact ⟨b, r'.bl, k _ H' (r'.pop.push0 (.bl _))⟩
def fIf (t : FB) (f g : FE) : FE := fun ρ => (t ρ).bind fun b ρ' => if b then f ρ' else g ρ'
theorem de_if {t : Expr} {ft : FB} {f g : FE} (ht : DT X c Ew t ft) (ha : DE X c Ew a f) (hb : DE X c Ew b g) : DE X c Ew (.IfExp t a b pos) (fIf ft f g) := (pe_ifExp ht ha hb).dimp fun σ H Q ⟨ρ, P, rp, q⟩ => by
  unfold fIf at q
  rw [R.sat_bind] at q
  refine ⟨ρ, P, rp, q.imp fun b ρ' k H' r' => ?_⟩
  cases b with
  | true => exact ⟨ρ', P, r', k⟩
  | false => exact ⟨ρ', P, r', k⟩
/-- a <= b <= d as a test, as a value -/
def fChain (g g' : D → D → Option D) (fa fb fc : FO) : FE := fun ρ => (fa ρ).bind fun a ρ1 => (fb ρ1).bind fun b ρ2 => (lift2 g a b ρ2).bind fun z ρ3 => (asB z ρ3).bind fun k ρ4 => if k then (fc ρ4).bind fun d ρ5 => lift2 g' b d ρ5 else .ok (.bl false) ρ4
theorem rd_chain {K : PySem.W.Frag} {r r' : R2} {g g' : D → D → Option D} (h : Op2 K r g) (h' : Op2 K r' g') (fa fb fc : FO) (σ : L2.St) (H : Hp) (Q : VK) : rdE K c Ew (fChain g g' fa fb fc) σ H Q → tChain r r' (rdO K c Ew fa) (rdO K c Ew fb) (rdO K c Ew fc) σ H Q := by
  rintro ⟨ρ, P, rp, hs⟩
  unfold fChain at hs
  rw [R.sat_bind] at hs
  refine ⟨ρ, P, rp, hs.imp fun a ρ1 hs v H1 Pn r1 oka => ?_⟩
  rw [R.sat_bind] at hs
  refine ⟨ρ1, Pn ++ P, r1, hs.imp fun b ρ2 hs u H2 Pm r2 okb => ?_⟩
  rw [R.sat_bind] at hs
  obtain ⟨d, e, dr, ea, eb, eg, q⟩ := lift2_sat hs
  rw [R.sat_bind] at q
  obtain ⟨k, rfl, q⟩ := asB_sat q
  obtain ⟨f1, x⟩ := (oka.up Pm).dv r2 ea
  obtain ⟨f2, y⟩ := okb.dv r2 eb
  refine h H2 v u d e f1 f2 _ _ x y eg fun w H3 fr => ?_
  have r3 := Rp.fresh r2 fr
  refine ⟨k, r3.bl, ?_⟩
  cases k with
  | false => exact q _ H3 (r3.pop.pops.pops.push0 (.bl _))
  | true =>
    have q : ((fc ρ2).bind fun d ρ5 => lift2 g' b d ρ5).sat _ _ := q
    rw [R.sat_bind] at q
    refine ⟨ρ2, Pm ++ (Pn ++ P), r3.pop, q.imp fun d2 ρ5 hs w2 H4 Pk r4 okd => ?_⟩
    obtain ⟨d, e, dr, ea, eb, eg, q⟩ := lift2_sat hs
    obtain ⟨f1, x⟩ := (okb.up Pk).dv r4 ea
    obtain ⟨f2, y⟩ := okd.dv r4 eb
    exact h' H4 _ _ d e f1 f2 Q dr x y eg fun w H5 fr => q w H5 (Rp.fresh r4.pops.pops.pops fr)
theorem de_chain {d : Expr} {op op' : CmpOp} {r r' : R2} {g g' : D → D → Option D} {fa fb fc : FO} (ho : OpR X (compareOp op) r) (h : Op2 X.K r g) (ho' : OpR X (compareOp op') r') (h' : Op2 X.K r' g') (ha : DO X c Ew a fa) (hb : DO X c Ew b fb) (hd : DO X c Ew d fc)
    (hm : lastMarks [op, op'] [b, d] = false := by with_unfolding_all rfl) : DE X c Ew (.Compare a [op, op'] [b, d] pos) (fChain g g' fa fb fc) := (pe_chain ho ho' ha hb hd hm).dimp (rd_chain h h' fa fb fc)
theorem dt_chain {d : Expr} {op op' : CmpOp} {r r' : R2} {g g' : D → D → Option D} {fa fb fc : FO} (ho : OpR X (compareOp op) r) (h : Op2 X.K r g) (ho' : OpR X (compareOp op') r') (h' : Op2 X.K r' g') (ha : DO X c Ew a fa) (hb : DO X c Ew b fb) (hd : DO X c Ew d fc)
    (hm : lastMarks [op, op'] [b, d] = false := by with_unfolding_all rfl) : DT X c Ew (.Compare a [op, op'] [b, d] pos) (fTst (fChain g g' fa fb fc)) := by
  refine (pt_chain ho ho' ha hb hd hm).dimp fun σ H Q ⟨ρ, P, rp, q⟩ => ?_
  refine rd_chain (c := c) (Ew := Ew) h h' fa fb fc σ H _ ⟨ρ, P, rp, ?_⟩
  unfold fTst at q
  rw [R.sat_bind] at q
  refine q.imp fun d ρ' k v H' r' => ?_
  obtain ⟨b, rfl, k⟩ := asB_sat k
  exact ⟨b, r'.bl, k H' r'.pop⟩
/-! ### arguments -/
def fNil : FLs := fun ρ => .ok [] ρ
def fCons (f : FO) (g : FLs) : FLs := fun ρ => (f ρ).bind fun a ρ1 => (g ρ1).bind fun as ρ2 => .ok (a :: as) ρ2
theorem da_nil : DA X c Ew [] fNil := pa_nil.dimp fun σ H Q ⟨ρ, P, r, q⟩ => q [] H [] r .nil
theorem ArOk.ups {σ : L2.St} {P : List (D × V)} (Pn : List (D × V)) : ∀ {as : List Ar} {vs : List V}, Paired (ArOk σ P) as vs → Paired (ArOk σ (Pn ++ P)) as vs
  | _, _, .nil => .nil
  | _, _, .cons h t => .cons (h.up Pn) (ArOk.ups Pn t)
theorem da_cons {f : FO} {g : FLs} (h : DO X c Ew e f) (h2 : DA X c Ew es g) (hs : starEach (e :: es) X.env = (false, eval e X.env) :: starEach es X.env := by rfl) : DA X c Ew (e :: es) (fCons f g) := (pa_cons h h2 hs).dimp fun σ H Q ⟨ρ, P, rp, q⟩ => by
  unfold fCons at q
  rw [R.sat_bind] at q
  refine ⟨ρ, P, rp, q.imp fun a ρ1 q v H1 Pn r1 oka => ?_⟩
  rw [R.sat_bind] at q
  refine ⟨ρ1, Pn ++ P, r1, q.imp fun as ρ2 q vs H2 Pm r2 okas => ?_⟩
  rw [← List.append_assoc] at r2 okas
  exact q (v :: vs) H2 (Pm ++ Pn) r2 (.cons (by rw [List.append_assoc]; exact oka.up Pm) okas)
/-- what arguments hold -/
def ress (as : List Ar) (ρ : En) : Option (List D) := match as with
  | [] => some []
  | a :: as => match res a ρ, ress as ρ with
    | some d, some ds => some (d :: ds)
    | _, _ => none
/-- one by one, what they own is not told -/
abbrev DvA (K : PySem.W.Frag) (H : Hp) : List D → List V → Prop := Paired fun d v => ∃ f, Dv K H d v f
theorem ArOk.dvs {K : PySem.W.Frag} {c : Ct} {H : Hp} {σ : L2.St} {ρ : En} {P : List (D × V)} (r : Rp K c σ H ρ P) : ∀ {as : List Ar} {vs : List V} {ds : List D}, Paired (ArOk σ P) as vs → ress as ρ = some ds → DvA K H ds vs
  | _, _, _, .nil, e => by cases e; exact .nil
  | _, _, ds, .cons (a := a) (l₁ := as) h t, e => by
    unfold ress at e
    cases ea : res a ρ with
    | none => rw [ea] at e; cases e
    | some d =>
      cases eb : ress as ρ with
      | none => rw [ea, eb] at e; cases e
      | some ds' =>
        rw [ea, eb] at e
        cases e
        exact .cons (h.dv r ea) (ArOk.dvs r t eb)
def liftN (g : List D → Option D) (as : List Ar) : FE := fun ρ => match ress as ρ with
  | some ds => R.of (g ds) ρ
  | none => .stk
theorem liftN_sat {g : List D → Option D} {as : List Ar} {ρ : En} {ok : D → En → Prop} {ex : Xn → En → Prop} (h : (liftN g as ρ).sat ok ex) : ∃ ds dr, ress as ρ = some ds ∧ g ds = some dr ∧ ok dr ρ := by
  unfold liftN at h
  cases ea : ress as ρ with
  | none => rw [ea] at h; exact h.elim
  | some d =>
    rw [ea] at h
    obtain ⟨dr, e1, q⟩ := R.of_sat h
    exact ⟨d, dr, rfl, e1, q⟩
def fCallB (g : List D → Option D) (fs : FLs) : FE := fun ρ => (fs ρ).bind fun as ρ1 => liftN g as ρ1
def OpN (K : PySem.W.Frag) (r : List V → Hp → VK → Prop) (g : List D → Option D) : Prop := ∀ (H : Hp) (xs : List V) (ds : List D) (Q : VK) (dr : D), DvA K H ds xs → g ds = some dr → (∀ v H', Fresh K H H' dr v → Q v H') → r xs H Q
theorem rd_opN {K : PySem.W.Frag} {r : List V → Hp → VK → Prop} {g : List D → Option D} (h : OpN K r g) (fs : FLs) (σ : L2.St) (H : Hp) (Q : VK) : rdE K c Ew (fCallB g fs) σ H Q → tCB r (rdA K c Ew fs) σ H Q := by
  rintro ⟨ρ, P, rp, hs⟩
  unfold fCallB at hs
  rw [R.sat_bind] at hs
  refine ⟨ρ, P, rp, hs.imp fun as ρ1 hs vs H1 Pn r1 oka => ?_⟩
  obtain ⟨ds, dr, ea, eg, q⟩ := liftN_sat hs
  exact h H1 vs ds Q dr (ArOk.dvs r1 oka ea) eg fun w H3 fr => q w H3 (Rp.fresh r1.pops fr)
theorem de_callB {x : Str} {id : String} {r : List V → Hp → VK → Prop} {g : List D → Option D} {fs : FLs} {p : Pos} (hm : X.mg x = none) (hc : CallR X (.builtin id) r) (h : OpN X.K r g) (hv : bootBuiltins x = some (.builtin id)) (ha : DA X c Ew (e :: es) fs) (hg : Gl X x := by rfl) (hn : x ≠ "__name__" := by decide) (hdb : (x == ("__debug__" : Str)) = false := by decide)
    (h1 : starEach (e :: es) X.env = (false, eval e X.env) :: starEach es X.env := by rfl) (h2 : (backTo pos (starEach es X.env)).any (·.1) = false := by rfl) :
    DE X c Ew (.Call (.Name x p) (e :: es) [] pos) (fCallB g fs) := (pe_callB hc hg hm hv ha hn hdb h1 h2).dimp (rd_opN h fs)
theorem de_callTy {x : Str} {T : String} {r : List V → Hp → VK → Prop} {g : List D → Option D} {fs : FLs} {p : Pos} (hm : X.mg x = none) (hc : CallR X (.type T) r) (h : OpN X.K r g) (hv : bootBuiltins x = some (.type T)) (ha : DA X c Ew (e :: es) fs) (hg : Gl X x := by rfl) (hn : x ≠ "__name__" := by decide) (hdb : (x == ("__debug__" : Str)) = false := by decide)
    (h1 : starEach (e :: es) X.env = (false, eval e X.env) :: starEach es X.env := by rfl) (h2 : (backTo pos (starEach es X.env)).any (·.1) = false := by rfl) :
    DE X c Ew (.Call (.Name x p) (e :: es) [] pos) (fCallB g fs) := (pe_callTy hc hg hm hv ha hn hdb h1 h2).dimp (rd_opN h fs)
end
end DL

namespace DL
open PySem PySem.Spec PyProof.Rows L2

/-! ### data as the library's data -/
mutual
def D.py : D → Option PyData
  | .non => some .none
  | .bl b => some (.bool b)
  | .int i => some (.int i)
  | .str s => some (.str s)
  | .tup xs => (D.pyL xs).map .tuple
  | .lst _ xs => (D.pyL xs).map .list
  | .dic _ _ _ => none
  | .dit _ _ _ => none
  | .opq _ => none
  | .fact _ => none
def D.pyL : List D → Option (List PyData)
  | [] => some []
  | d :: ds => match d.py, D.pyL ds with
    | some p, some ps => some (p :: ps)
    | _, _ => none
end
theorem D.pyL_cons {d : D} {ds : List D} {q : List PyData} (h : D.pyL (d :: ds) = some q) : ∃ p ps, d.py = some p ∧ D.pyL ds = some ps ∧ q = p :: ps := by
  unfold D.pyL at h
  split at h
  · rename_i p ps e1 e2; cases h; exact ⟨p, ps, e1, e2, rfl⟩
  · cases h
section
variable {K : PySem.W.Frag} {H : Hp}
mutual
theorem Dv.dp : ∀ (d : D) {v : V} {f : List Addr} {p : PyData}, Dv K H d v f → d.py = some p → Dp K H v p
  | .non, _, _, _, x, e => by cases x; cases e; exact .non
  | .bl _, _, _, _, x, e => by cases x; cases e; exact .bl _
  | .int _, _, _, _, x, e => by cases x; cases e; exact .int _
  | .str _, _, _, _, x, e => by cases x; cases e; exact .str _
  | .tup ds, _, _, _, x, e => by
    cases x with
    | tup h l =>
      unfold D.py at e
      obtain ⟨q, e1, e2⟩ := Option.map_eq_some_iff.mp e
      subst e2
      exact .tup h (DvL.dp ds l e1)
  | .lst _ ds, _, _, _, x, e => by
    unfold D.py at e
    obtain ⟨q, e1, e2⟩ := Option.map_eq_some_iff.mp e
    subst e2
    cases x with
    | flst h l => exact .lst h.sq (DvL.dp ds l e1)
    | olst h l => exact .lst (.of h) (DvL.dp ds l e1)
  | .dic _ _ _, _, _, _, _, e => by unfold D.py at e; cases e
  | .dit _ _ _, _, _, _, _, e => by unfold D.py at e; cases e
  | .opq _, _, _, _, _, e => by unfold D.py at e; cases e
  | .fact _, _, _, _, _, e => by unfold D.py at e; cases e
theorem DvL.dp : ∀ (ds : List D) {vs : List V} {f : List Addr} {p : List PyData}, DvL K H ds vs f → D.pyL ds = some p → DpAll K H vs p
  | [], _, _, _, x, e => by cases x; unfold D.pyL at e; cases e; exact .nil
  | d :: ds, _, _, _, x, e => by
    obtain ⟨p, ps, e1, e2, e3⟩ := D.pyL_cons e
    subst e3
    cases x with
    | cons x l => exact .cons (Dv.dp d x e1) (DvL.dp ds l e2)
end
end
mutual
theorem D.py_plain : ∀ (d : D) {p : PyData}, d.py = some p → p.plain = true
  | .non, _, e => by cases e; rfl
  | .bl _, _, e => by cases e; rfl
  | .int _, _, e => by cases e; rfl
  | .str _, _, e => by cases e; rfl
  | .tup ds, _, e => by
    unfold D.py at e
    obtain ⟨q, e1, e2⟩ := Option.map_eq_some_iff.mp e
    subst e2
    simp only [PyData.plain]; exact D.pyL_plain ds e1
  | .lst _ ds, _, e => by
    unfold D.py at e
    obtain ⟨q, e1, e2⟩ := Option.map_eq_some_iff.mp e
    subst e2
    simp only [PyData.plain]; exact D.pyL_plain ds e1
  | .dic _ _ _, _, e => by unfold D.py at e; cases e
  | .dit _ _ _, _, e => by unfold D.py at e; cases e
  | .opq _, _, e => by unfold D.py at e; cases e
  | .fact _, _, e => by unfold D.py at e; cases e
theorem D.pyL_plain : ∀ (ds : List D) {p : List PyData}, D.pyL ds = some p → PyData.plainAll p = true
  | [], _, e => by unfold D.pyL at e; cases e; rfl
  | d :: ds, _, e => by
    obtain ⟨p, ps, e1, e2, e3⟩ := D.pyL_cons e
    subst e3
    simp only [PyData.plainAll, D.py_plain d e1, D.pyL_plain ds e2, Bool.and_self]
end

/-! ### what a sequence holds -/
section
variable {K : PySem.W.Frag} {H H' : Hp}
theorem Dv.lstR {m : Bool} {ds : List D} {x : V} {f : List Addr} (h : Dv K H (.lst m ds) x f) : ∃ a xs g, x = .ref a ∧ SqL K H a xs ∧ DvL K H ds xs g := by
  cases h with
  | flst h l => exact ⟨_, _, _, rfl, h.sq, l⟩
  | olst h l => exact ⟨_, _, _, rfl, .of h, l⟩
theorem Dv.tupR {ds : List D} {x : V} {f : List Addr} (h : Dv K H (.tup ds) x f) : ∃ a xs, x = .ref a ∧ SqT K H a xs ∧ DvL K H ds xs f := by
  cases h with
  | tup h l => exact ⟨_, _, rfl, h, l⟩
theorem Dv.intR {i : Int} {x : V} {f : List Addr} (h : Dv K H (.int i) x f) : x = .int i := by cases h; rfl
theorem Dv.strR {i : Str} {x : V} {f : List Addr} (h : Dv K H (.str i) x f) : x = .str i := by cases h; rfl
theorem Dv.blR {i : Bool} {x : V} {f : List Addr} (h : Dv K H (.bl i) x f) : x = .bl i := by cases h; rfl
theorem Dv.nonR {x : V} {f : List Addr} (h : Dv K H .non x f) : x = .non := by cases h; rfl
theorem DvL.f0 {ds : List D} {xs : List V} {f : List Addr} (l : DvL K H ds xs f) (h : D.isFL ds = true) : DvL K H ds xs [] := by
  have e := l.fz h; subst e; exact l
theorem Dv.f0 {d : D} {x : V} {f : List Addr} (l : Dv K H d x f) (h : d.isF = true) : Dv K H d x [] := by
  have e := l.fz h; subst e; exact l
/-- a new list of frozen data -/
theorem fresh_lst {ds : List D} {xs : List V} {p : Addr} (l : DvL K H ds xs []) (hp : H p = none) : Fresh K H (upd H p (.lst xs)) (.lst true ds) (.ref p) :=
  ⟨upd_ext hp, [p], .olst upd_same (l.ext (upd_ext hp)), by simp, fun a z => (List.mem_singleton.mp z) ▸ hp⟩
theorem fresh_tup {ds : List D} {xs : List V} {p : Addr} (l : DvL K H ds xs []) (hp : H p = none) : Fresh K H (upd H p (.tup xs)) (.tup ds) (.ref p) :=
  ⟨upd_ext hp, [], .tup (.of upd_same) (l.ext (upd_ext hp)), List.nodup_nil, fun a z => nomatch z⟩
theorem fresh_int {i : Int} : Fresh K H H (.int i) (.int i) := .same (.int i)
theorem fresh_bl {i : Bool} : Fresh K H H (.bl i) (.bl i) := .same (.bl i)
theorem fresh_str {i : Str} : Fresh K H H (.str i) (.str i) := .same (.str i)
theorem fresh_non : Fresh K H H .non .non := .same .non
theorem D.isFL_append : ∀ (a b : List D), D.isFL (a ++ b) = (D.isFL a && D.isFL b) := fun a b => by rw [D.isFL_eq, D.isFL_eq, D.isFL_eq, List.all_append]
theorem DvL.tail0 {d : D} {v : V} {ds : List D} {xs : List V} (l : DvL K H (d :: ds) (v :: xs) []) : Dv K H d v [] ∧ DvL K H ds xs [] := by
  generalize e : ([] : List Addr) = f at l
  cases l with
  | cons x l =>
    obtain ⟨e1, e2⟩ := List.append_eq_nil_iff.mp e.symm
    subst e1 e2
    exact ⟨x, l⟩
theorem DvL.drop : ∀ (n : Nat) {ds : List D} {xs : List V}, DvL K H ds xs [] → DvL K H (ds.drop n) (xs.drop n) []
  | 0, _, _, l => l
  | n + 1, [], [], _ => .nil
  | n + 1, [], _ :: _, l => nomatch l
  | n + 1, _ :: _, [], l => nomatch l
  | n + 1, d :: ds, v :: xs, l => DvL.drop n l.tail0.2
theorem DvL.take : ∀ (n : Nat) {ds : List D} {xs : List V}, DvL K H ds xs [] → DvL K H (ds.take n) (xs.take n) []
  | 0, _, _, _ => .nil
  | n + 1, [], [], _ => .nil
  | n + 1, [], _ :: _, l => nomatch l
  | n + 1, _ :: _, [], l => nomatch l
  | n + 1, d :: ds, v :: xs, l => .cons (f1 := []) (f2 := []) l.tail0.1 (DvL.take n l.tail0.2)
theorem D.isFL_drop (n : Nat) {ds : List D} (h : D.isFL ds = true) : D.isFL (ds.drop n) = true := by
  rw [D.isFL_eq, List.all_eq_true] at *
  exact fun x hx => h x (List.mem_of_mem_drop hx)
theorem D.isFL_take (n : Nat) {ds : List D} (h : D.isFL ds = true) : D.isFL (ds.take n) = true := by
  rw [D.isFL_eq, List.all_eq_true] at *
  exact fun x hx => h x (List.mem_of_mem_take hx)
end

theorem ite_some {p : Prop} [Decidable p] {α : Type} {a b : α} (h : (if p then some a else none) = some b) : p ∧ a = b := by
  by_cases q : p
  · rw [if_pos q] at h; exact ⟨q, Option.some.inj h⟩
  · rw [if_neg q] at h; cases h
/-! ### + -/
def addD : D → D → Option D
  | .int i, .int j => some (.int (i + j))
  | .str i, .str j => if i.length + j.length ≤ sizeLine then some (.str (i ++ j)) else none
  | .tup xs, .tup ys => if xs.length + ys.length ≤ sizeLine ∧ D.isFL xs = true ∧ D.isFL ys = true then some (.tup (xs ++ ys)) else none
  | .lst _ xs, .lst _ ys => if xs.length + ys.length ≤ sizeLine ∧ D.isFL xs = true ∧ D.isFL ys = true then some (.lst true (xs ++ ys)) else none
  | _, _ => none
section
variable {X : Cx}
def rCatL (K : PySem.W.Frag) : R2 := fun x y H Q => ∃ l b xs zs, x = .ref l ∧ y = .ref b ∧ SqL K H l xs ∧ SqL K H b zs ∧ xs.length + zs.length ≤ sizeLine ∧ ∀ p, H p = none → Q (.ref p) (upd H p (.lst (xs ++ zs)))
theorem op_catL : OpR X (binaryOp .Add) (rCatL X.K) := by
  intro pins s σ H x y v u Q I rx ry h
  obtain ⟨l, b, xs, zs, rfl, rfl, hH, hB, hz, q⟩ := h
  cases rx
  cases ry
  obtain ⟨its, r, p1, hz1⟩ := I.list hH
  obtain ⟨its2, r2, p2, hz2⟩ := I.list hB
  obtain ⟨⟨cls, dd, data, sl⟩, n, ho, hc, hd, hdt⟩ := p1
  obtain ⟨⟨cls2, dd2, data2, sl2⟩, n2, ho2, hc2, hd2, hdt2⟩ := p2
  simp only at hc hdt hc2 hdt2
  subst hc hdt hc2 hdt2
  have e1 : xs.length = its.length := r.length
  have e2 : zs.length = its2.length := r2.length
  refine concat_meets ⟨_, ho, rfl⟩ ⟨_, ho2, rfl⟩ noFill_list_add seq_list_add PySem.F.slot_list_add PySem.F.entry_list_add (PySem.F.args_list_add_2 _ _) (list_addW l b its.toArray its2.toArray n n2 dd dd2 sl sl2 (by simp; omega)) ⟨ho, ho2, ?_⟩
  have ea : its.toArray ++ its2.toArray = (its ++ its2).toArray := by simp
  rw [ea]
  exact ⟨.ref _, _, I.lnew (t' := s.toks) (r.append r2) (by rw [List.length_append]; omega), rfl, q _ I.fresh⟩
def rAdd (K : PySem.W.Frag) : R2 := fun x y H Q => rI0 (fun i j => .int (i + j)) x y H Q ∨ (∃ i j, x = .str i ∧ y = .str j ∧ i.length + j.length ≤ sizeLine ∧ Q (.str (i ++ j)) H) ∨ rCatA K x y H Q ∨ rCatL K x y H Q
theorem or_add : OpR X (binaryOp .Add) (rAdd X.K) := op_add.or (op_add_str.or (op_catA.or op_catL))
theorem add_ok {K : PySem.W.Frag} : Op2 K (rAdd K) addD := by
  intro H x y d e f1 f2 Q dr hx hy hg q
  cases d with
  | int i =>
    cases e with
    | int j => cases hg; exact .inl ⟨i, j, hx.intR, hy.intR, q _ _ fresh_int⟩
    | _ => cases hg
  | str i =>
    cases e with
    | str j =>
      obtain ⟨h, rfl⟩ := ite_some hg
      exact .inr (.inl ⟨i, j, hx.strR, hy.strR, h, q _ _ fresh_str⟩)
    | _ => cases hg
  | tup ds =>
    cases e with
    | tup es =>
      obtain ⟨h, rfl⟩ := ite_some hg
      ·
        obtain ⟨a, xs, rfl, h1, l1⟩ := hx.tupR
        obtain ⟨b, ys, rfl, h2, l2⟩ := hy.tupR
        have e1 := l1.length
        have e2 := l2.length
        have l1 := l1.f0 h.2.1
        have l2 := l2.f0 h.2.2
        refine .inr (.inr (.inl ⟨a, b, xs, ys, rfl, rfl, h1, h2, by omega, fun z => ?_, fun _ z => ?_, fun _ _ p hp => ?_⟩))
        · have : ds = [] := List.eq_nil_of_length_eq_zero (by rw [e1, z]; rfl)
          subst this
          exact q _ _ (.same (.tup h2 l2))
        · have : es = [] := List.eq_nil_of_length_eq_zero (by rw [e2, z]; rfl)
          subst this
          rw [List.append_nil] at q
          exact q _ _ (.same (.tup h1 l1))
        · exact q _ _ (fresh_tup (l1.append l2) hp)
    | _ => cases hg
  | lst m ds =>
    cases e with
    | lst m' es =>
      obtain ⟨h, rfl⟩ := ite_some hg
      ·
        obtain ⟨a, xs, g1, rfl, h1, l1⟩ := hx.lstR
        obtain ⟨b, ys, g2, rfl, h2, l2⟩ := hy.lstR
        have e1 := l1.length
        have e2 := l2.length
        exact .inr (.inr (.inr ⟨a, b, xs, ys, rfl, rfl, h1, h2, by omega, fun p hp => q _ _ (fresh_lst ((l1.f0 h.2.1).append (l2.f0 h.2.2)) hp)⟩))
    | _ => cases hg
  | _ => cases hg

/-! ### - * // % ** -x -/
def subD : D → D → Option D
  | .int i, .int j => some (.int (i - j))
  | _, _ => none
theorem sub_ok {K : PySem.W.Frag} : Op2 K (rI0 fun i j => .int (i - j)) subD := by
  intro H x y d e f1 f2 Q dr hx hy hg q
  cases d with
  | int i =>
    cases e with
    | int j => cases hg; exact ⟨i, j, hx.intR, hy.intR, q _ _ fresh_int⟩
    | _ => cases hg
  | _ => cases hg
/-- a product's size: the bits of both together are below a million -/
def mulOk (i j : Int) : Bool := decide (i.natAbs.log2 + j.natAbs.log2 < 1000000 ∨ i.natAbs.log2 < 60 ∨ j.natAbs.log2 < 60)
theorem mulOk_ok {i j : Int} (h : i.natAbs.log2 + j.natAbs.log2 < 1000000 ∨ i.natAbs.log2 < 60 ∨ j.natAbs.log2 < 60) : IntMulOk i j := by
  have b : ∀ x : Int, Builtin.Int.intBits x ≤ x.natAbs.log2 + 1 := fun x => by
    unfold Builtin.Int.intBits
    split <;> omega
  rcases h with h | h | h
  · exact CMulW.ok h
  · exact IntMulOk.of_left (Nat.le_trans (b i) (by omega))
  · exact IntMulOk.of_right (Nat.le_trans (b j) (by omega))
theorem op_mulV {X : Cx} : OpR X (binaryOp .Mult) (rI (fun i j => i.natAbs.log2 + j.natAbs.log2 < 1000000 ∨ i.natAbs.log2 < 60 ∨ j.natAbs.log2 < 60) fun i j => .int (i * j)) := opI fun _ _ _ _ _ _ _ hc q => PyProof.Rows.mul_int q (mulOk_ok hc)
def repL {α : Type} (k : Nat) (xs : List α) : List α := (List.replicate k xs).flatten
def mulD : D → D → Option D
  | .int i, .int j => if mulOk i j = true then some (.int (i * j)) else none
  | .lst true xs, .int k => if xs.length * k.toNat ≤ sizeLine ∧ -(2 ^ 63) ≤ k ∧ k < 2 ^ 63 ∧ D.isFL xs = true then some (.lst true (repL k.toNat xs)) else none
  | _, _ => none
theorem DvL.rep {K : PySem.W.Frag} {H : Hp} {ds : List D} {xs : List V} (l : DvL K H ds xs []) : ∀ k : Nat, DvL K H (repL k ds) (repL k xs) []
  | 0 => .nil
  | k + 1 => by
    unfold repL
    rw [List.replicate_succ, List.replicate_succ, List.flatten_cons, List.flatten_cons]
    exact l.append (DvL.rep l k)
def rMul (K : PySem.W.Frag) : R2 := fun x y H Q => rI (fun i j => i.natAbs.log2 + j.natAbs.log2 < 1000000 ∨ i.natAbs.log2 < 60 ∨ j.natAbs.log2 < 60) (fun i j => .int (i * j)) x y H Q ∨ rRep x y H Q
theorem or_mul : OpR X (binaryOp .Mult) (rMul X.K) := op_mulV.or op_rep
theorem mul_ok {K : PySem.W.Frag} : Op2 K (rMul K) mulD := by
  intro H x y d e f1 f2 Q dr hx hy hg q
  cases d with
  | int i =>
    cases e with
    | int j =>
      obtain ⟨h, rfl⟩ := ite_some hg
      exact .inl ⟨i, j, hx.intR, hy.intR, of_decide_eq_true h, q _ _ fresh_int⟩
    | _ => cases hg
  | lst m ds =>
    cases e with
    | int k =>
      cases m with
      | false => cases hg
      | true =>
        obtain ⟨h, rfl⟩ := ite_some hg
        cases hx with
        | olst h1 l =>
          have e1 := l.length
          exact .inr ⟨_, k, _, rfl, hy.intR, h1, h.2.1, h.2.2.1, by rw [← e1]; exact h.1, fun p hp => q _ _ (fresh_lst ((l.f0 h.2.2.2).rep _) hp)⟩
    | _ => cases m <;> cases hg
  | _ => cases hg
def fdivD : D → D → Option D
  | .int i, .int j => if 0 < j ∧ j.natAbs.log2 < 9000 then some (.int (i / j)) else none
  | _, _ => none
theorem fdiv_ok {K : PySem.W.Frag} : Op2 K (rI CDivW fun i j => .int (i / j)) fdivD := by
  intro H x y d e f1 f2 Q dr hx hy hg q
  cases d with
  | int i =>
    cases e with
    | int j =>
      obtain ⟨h, rfl⟩ := ite_some hg
      exact ⟨i, j, hx.intR, hy.intR, h, q _ _ fresh_int⟩
    | _ => cases hg
  | _ => cases hg
def modD : D → D → Option D
  | .int i, .int j => if 0 < j then some (.int (i % j)) else none
  | _, _ => none
theorem mod_ok {K : PySem.W.Frag} : Op2 K (rI (fun _ j => 0 < j) fun i j => .int (i % j)) modD := by
  intro H x y d e f1 f2 Q dr hx hy hg q
  cases d with
  | int i =>
    cases e with
    | int j =>
      obtain ⟨h, rfl⟩ := ite_some hg
      exact ⟨i, j, hx.intR, hy.intR, h, q _ _ fresh_int⟩
    | _ => cases hg
  | _ => cases hg
def powD : D → D → Option D
  | .int i, .int j => if 0 ≤ j ∧ j ≤ 1000000 ∧ i.natAbs < 2 ^ 64 then some (.int (i ^ j.toNat)) else none
  | _, _ => none
theorem pow_ok {K : PySem.W.Frag} : Op2 K (rI CPow fun i j => .int (i ^ j.toNat)) powD := by
  intro H x y d e f1 f2 Q dr hx hy hg q
  cases d with
  | int i =>
    cases e with
    | int j =>
      obtain ⟨h, rfl⟩ := ite_some hg
      exact ⟨i, j, hx.intR, hy.intR, h, q _ _ fresh_int⟩
    | _ => cases hg
  | _ => cases hg
def negD : D → Option D
  | .int i => some (.int (-i))
  | _ => none
theorem neg_ok {K : PySem.W.Frag} : Op1 K (rU fun i => .int (-i)) negD := by
  intro H x d f1 Q dr hx hg q
  cases d with
  | int i => cases hg; exact ⟨i, hx.intR, q _ _ fresh_int⟩
  | _ => cases hg

/-! ### == != -/
def eqD (neg : Bool) (d e : D) : Option D := match d.py, e.py with
  | some p, some q => if p.depth ≤ 64 then some (.bl (if neg then !PyData.eqv p q else PyData.eqv p q)) else none
  | _, _ => none
def rEqP (K : PySem.W.Frag) (neg : Bool) : R2 := fun x y H Q => ∃ d e, Dp K H x d ∧ Dp K H y e ∧ d.plain = true ∧ e.plain = true ∧ d.depth ≤ 64 ∧ Q (.bl (if neg then !PyData.eqv d e else PyData.eqv d e)) H
theorem or_eq (hu : X.A.units + 64 < cLine) : OpR X (compareOp .Eq) (rEqP X.K false) := by
  intro pins s σ H x y v u Q I rx ry ⟨d, e, hd, he, p1, p2, hz, q⟩
  obtain ⟨as, r1⟩ := Dp.reads I d x v hd rx
  obtain ⟨bs, r2⟩ := Dp.reads I e y u he ry
  have hm := Nat.min_le_left d.depth e.depth
  exact PySem.SeqAt.eq_plain r1 r2 p1 p2 (by omega) ⟨.bl _, H, I, rfl, q⟩
theorem or_ne (hu : X.A.units + 64 < cLine) : OpR X (compareOp .NotEq) (rEqP X.K true) := by
  intro pins s σ H x y v u Q I rx ry ⟨d, e, hd, he, p1, p2, hz, q⟩
  obtain ⟨as, r1⟩ := Dp.reads I d x v hd rx
  obtain ⟨bs, r2⟩ := Dp.reads I e y u he ry
  have hm := Nat.min_le_left d.depth e.depth
  exact PySem.SeqAt.ne_plain r1 r2 p1 p2 (by omega) ⟨.bl _, H, I, rfl, q⟩
theorem eq_ok {K : PySem.W.Frag} {neg : Bool} : Op2 K (rEqP K neg) (eqD neg) := by
  intro H x y d e f1 f2 Q dr hx hy hg q
  unfold eqD at hg
  split at hg
  · rename_i p q' e1 e2
    split at hg
    · rename_i h
      cases hg
      exact ⟨p, q', Dv.dp d hx e1, Dv.dp e hy e2, D.py_plain d e1, D.py_plain e e2, h, q _ _ fresh_bl⟩
    · cases hg
  · cases hg
/-! ### < <= > >= of ints and texts -/
def ltD : D → D → Option D
  | .int i, .int j => some (.bl (decide (i < j)))
  | .str i, .str j => some (.bl (decide (i.cps.toList < j.cps.toList)))
  | _, _ => none
def rLt : R2 := fun x y H Q => rI0 (fun i j => .bl (decide (i < j))) x y H Q ∨ (∃ i j, x = .str i ∧ y = .str j ∧ Q (.bl (decide (i.cps.toList < j.cps.toList))) H)
theorem or_lt : OpR X (compareOp .Lt) rLt := op_lt.or op_lt_str
theorem lt_ok {K : PySem.W.Frag} : Op2 K rLt ltD := by
  intro H x y d e f1 f2 Q dr hx hy hg q
  cases d with
  | int i =>
    cases e with
    | int j => cases hg; exact .inl ⟨i, j, hx.intR, hy.intR, q _ _ fresh_bl⟩
    | _ => cases hg
  | str i =>
    cases e with
    | str j => cases hg; exact .inr ⟨i, j, hx.strR, hy.strR, q _ _ fresh_bl⟩
    | _ => cases hg
  | _ => cases hg
def cmpI (p : Int → Int → Bool) : D → D → Option D
  | .int i, .int j => some (.bl (p i j))
  | _, _ => none
theorem cmpI_ok {K : PySem.W.Frag} {p : Int → Int → Bool} : Op2 K (rI0 fun i j => .bl (p i j)) (cmpI p) := by
  intro H x y d e f1 f2 Q dr hx hy hg q
  cases d with
  | int i =>
    cases e with
    | int j => cases hg; exact ⟨i, j, hx.intR, hy.intR, q _ _ fresh_bl⟩
    | _ => cases hg
  | _ => cases hg
abbrev leD : D → D → Option D := cmpI fun i j => decide (i ≤ j)
abbrev gtD : D → D → Option D := cmpI fun i j => decide (j < i)
abbrev geD : D → D → Option D := cmpI fun i j => decide (j ≤ i)
/-! ### is None, is of bools -/
def D.isN : D → Bool
  | .non => true
  | _ => false
def D.isO : D → Bool
  | .dit _ _ _ => true
  | .opq _ => true
  | .fact _ => true
  | _ => false
def isND (neg : Bool) (d : D) : Option D := if d.isO = false then some (.bl (if neg then !d.isN else d.isN)) else none
def isD (neg : Bool) : D → D → Option D
  | .bl a, .bl b => some (.bl (if neg then !decide (a = b) else decide (a = b)))
  | d, .non => isND neg d
  | _, _ => none
def rIs : R2 := fun x y H Q => (y = .non ∧ Q (.bl (decide (x = .non))) H) ∨ rIsB x y H Q
def rIsNot : R2 := fun x y H Q => (y = .non ∧ Q (.bl (!decide (x = .non))) H) ∨ rNotB x y H Q
theorem or_is : OpR X (compareOp .Is) rIs := op_isN.or op_isBl
theorem or_isnot : OpR X (compareOp .IsNot) rIsNot := op_notN.or op_notBl
theorem Dv.isN {K : PySem.W.Frag} {H : Hp} {d : D} {x : V} {f : List Addr} (h : Dv K H d x f) (n : d.isO = false) : decide (x = .non) = d.isN := by
  cases h <;> first | rfl | (simp [D.isN]; done) | (cases n)
theorem isND_ok {K : PySem.W.Frag} {H : Hp} {d dr : D} {x : V} {f : List Addr} {neg : Bool} (h : Dv K H d x f) (e : isND neg d = some dr) : dr = .bl (if neg then !decide (x = .non) else decide (x = .non)) := by
  obtain ⟨n, e⟩ := ite_some e
  rw [h.isN n]
  exact e.symm
theorem is_ok {K : PySem.W.Frag} : Op2 K rIs (isD false) := by
  intro H x y d e f1 f2 Q dr hx hy hg q
  unfold isD at hg
  split at hg
  · cases hg; exact .inr ⟨_, _, hx.blR, hy.blR, q _ _ fresh_bl⟩
  · have := isND_ok hx hg
    subst this
    exact .inl ⟨hy.nonR, q _ _ fresh_bl⟩
  · cases hg
theorem isnot_ok {K : PySem.W.Frag} : Op2 K rIsNot (isD true) := by
  intro H x y d e f1 f2 Q dr hx hy hg q
  unfold isD at hg
  split at hg
  · cases hg; exact .inr ⟨_, _, hx.blR, hy.blR, q _ _ fresh_bl⟩
  · have := isND_ok hx hg
    subst this
    exact .inl ⟨hy.nonR, q _ _ fresh_bl⟩
  · cases hg
/-! ### x[i] of lists, tuples, texts -/
def ixD : D → D → Option D
  | .lst _ xs, .int i => (atI xs i).bind fun d => if d.isF = true then some d else none
  | .tup xs, .int i => (atI xs i).bind fun d => if d.isF = true then some d else none
  | .str z, .int i => if z.length ≤ sizeLine then (atI z.cps.toList i).map fun c => .str ⟨#[c]⟩ else none
  | _, _ => none
theorem atI_map {α β : Type} {xs : List α} {ys : List β} {i : Int} {x : α} (hl : xs.length = ys.length) (h : atI xs i = some x) : ∃ (j : Nat) (y : β), xs[j]? = some x ∧ ys[j]? = some y ∧ atI ys i = some y := by
  unfold atI at h ⊢
  rw [← hl]
  cases e : ixN xs.length i with
  | none => rw [e] at h; cases h
  | some j =>
    rw [e] at h
    have h' : xs[j]? = some x := h
    have hj : j < ys.length := by rw [← hl]; exact (List.getElem?_eq_some_iff.mp h').1
    exact ⟨j, ys[j], h', by simp [hj], by simp [hj]⟩
theorem ix_ok {K : PySem.W.Frag} : Op2 K (rIx K) ixD := by
  intro H x y d e f1 f2 Q dr hx hy hg q
  cases d with
  | lst m ds =>
    cases e with
    | int i =>
      obtain ⟨d', h1, h2⟩ := Option.bind_eq_some_iff.mp (show (atI ds i).bind _ = some dr from hg)
      split at h2
      · rename_i hf
        cases h2
        obtain ⟨a, xs, g, rfl, h, l⟩ := hx.lstR
        obtain ⟨j, y', e1, e2, e3⟩ := atI_map l.length h1
        obtain ⟨v, f, e4, x', _⟩ := l.at e1
        rw [e2] at e4; cases e4
        exact .inl ⟨a, xs, i, _, rfl, hy.intR, h, e3, q _ _ (.same (x'.f0 hf))⟩
      · cases h2
    | _ => cases hg
  | tup ds =>
    cases e with
    | int i =>
      obtain ⟨d', h1, h2⟩ := Option.bind_eq_some_iff.mp (show (atI ds i).bind _ = some dr from hg)
      split at h2
      · rename_i hf
        cases h2
        obtain ⟨a, xs, rfl, h, l⟩ := hx.tupR
        obtain ⟨j, y', e1, e2, e3⟩ := atI_map l.length h1
        obtain ⟨v, f, e4, x', _⟩ := l.at e1
        rw [e2] at e4; cases e4
        exact .inr (.inl ⟨a, xs, i, _, rfl, hy.intR, h, e3, q _ _ (.same (x'.f0 hf))⟩)
      · cases h2
    | _ => cases hg
  | str z =>
    cases e with
    | int i =>
      have hg : (if z.length ≤ sizeLine then (atI z.cps.toList i).map (fun c => D.str ⟨#[c]⟩) else none) = some dr := hg
      split at hg
      · rename_i hz
        obtain ⟨c, h1, h2⟩ := Option.map_eq_some_iff.mp hg
        subst h2
        exact .inr (.inr ⟨z, i, c, hx.strR, hy.intR, hz, h1, q _ _ fresh_str⟩)
      · cases hg
    | _ => cases hg
  | _ => cases hg
end
end DL

namespace DL
open PySem PySem.Spec PyProof.Rows L2

/-! ### displays -/
def tupG (ds : List D) : Option D := if ds.length ≤ sizeLine ∧ D.isFL ds = true then some (.tup ds) else none
def lstG (ds : List D) : Option D := if ds.length ≤ sizeLine ∧ D.isFL ds = true then some (.lst true ds) else none
theorem DvA.length {K : PySem.W.Frag} {H : Hp} : ∀ {ds : List D} {vs : List V}, DvA K H ds vs → ds.length = vs.length
  | _, _, .nil => rfl
  | _, _, .cons _ t => congrArg (· + 1) (DvA.length t)
theorem DvA.all0 {K : PySem.W.Frag} {H : Hp} : ∀ {ds : List D} {vs : List V}, DvA K H ds vs → D.isFL ds = true → DvL K H ds vs []
  | _, _, .nil, _ => .nil
  | _, _, .cons (a := d) (l₁ := ds) ⟨f, x⟩ t, h => by
    have h' : (d.isF && D.isFL ds) = true := h
    simp at h'
    exact .cons (f1 := []) (f2 := []) (x.f0 h'.1) (DvA.all0 t h'.2)
section
variable {X : Cx} {c : Ct} {Ew : Xn → En → Prop} {e a b : Expr} {pos : Pos} {es : List Expr}
theorem de_tup {fs : FLs} {k : Nat} (h : DA X c Ew es fs) : DE X c Ew (.Tuple es k pos) (fCallB tupG fs) := (pe_tup h).dimp fun σ H Q q => by
  obtain ⟨ρ, P, rp, hs⟩ := q
  unfold fCallB at hs
  rw [R.sat_bind] at hs
  refine ⟨ρ, P, rp, hs.imp fun as ρ1 hs vs H1 Pn r1 oka => ?_⟩
  obtain ⟨ds, dr, ea, eg, q⟩ := liftN_sat hs
  obtain ⟨h1, rfl⟩ := ite_some eg
  have l := ArOk.dvs r1 oka ea
  have e1 := l.length
  exact ⟨by omega, fun p hp => q _ _ (Rp.fresh r1.pops (fresh_tup (l.all0 h1.2) hp))⟩
theorem de_lst {fs : FLs} (h : DA X c Ew es fs) : DE X c Ew (.List es pos) (fCallB lstG fs) := (pe_lst h).dimp fun σ H Q q => by
  obtain ⟨ρ, P, rp, hs⟩ := q
  unfold fCallB at hs
  rw [R.sat_bind] at hs
  refine ⟨ρ, P, rp, hs.imp fun as ρ1 hs vs H1 Pn r1 oka => ?_⟩
  obtain ⟨ds, dr, ea, eg, q⟩ := liftN_sat hs
  obtain ⟨h1, rfl⟩ := ite_some eg
  have l := ArOk.dvs r1 oka ea
  have e1 := l.length
  exact ⟨by omega, fun p hp => q _ _ (Rp.fresh r1.pops (fresh_lst (l.all0 h1.2) hp))⟩

/-! ### slices -/
def cutL {α : Type} (xs : List α) (lo hi : Option Int) : List α := (xs.drop (HT.sIx xs.length 0 lo)).take (HT.sIx xs.length xs.length hi - HT.sIx xs.length 0 lo)
def slD (d : D) (lo hi : Option Int) : Option D := match d with
  | .str z => if z.length ≤ sizeLine then some (.str (cutS z lo hi)) else none
  | .tup xs => if D.isFL xs = true then some (.tup (cutL xs lo hi)) else none
  | .lst _ xs => if D.isFL xs = true then some (.lst true (cutL xs lo hi)) else none
  | _ => none
def rSl (K : PySem.W.Frag) : V → Option Int → Option Int → Hp → VK → Prop := fun x lo hi H Q => rSlS x lo hi H Q ∨ rSlA K x lo hi H Q ∨ rSlL K x lo hi H Q
theorem or_sl : SlR X (rSl X.K) := sl_str.or (sl_tupA.or sl_list)
theorem cut_whole {α : Type} {xs : List α} {lo hi : Option Int} (h1 : HT.sIx xs.length 0 lo = 0) (h2 : HT.sIx xs.length xs.length hi = xs.length) : cutL xs lo hi = xs := by
  unfold cutL
  rw [h1, h2]
  simp
theorem sl_ok {K : PySem.W.Frag} {H : Hp} {x : V} {d dr : D} {f : List Addr} {lo hi : Option Int} {Q : VK} (hx : Dv K H d x f) (hg : slD d lo hi = some dr) (q : ∀ v H', Fresh K H H' dr v → Q v H') : rSl K x lo hi H Q := by
  cases d with
  | str z =>
    obtain ⟨h, rfl⟩ := ite_some hg
    exact .inl ⟨z, hx.strR, h, q _ _ fresh_str⟩
  | tup ds =>
    obtain ⟨h, rfl⟩ := ite_some hg
    obtain ⟨a, xs, rfl, h1, l⟩ := hx.tupR
    have el := l.length
    have l0 := l.f0 h
    refine .inr (.inl ⟨a, xs, rfl, h1, fun w => ?_, fun _ p hp => ?_⟩)
    · rw [← el] at w
      rw [cut_whole w.1 w.2] at q
      exact q _ _ (.same (.tup h1 l0))
    · have l1 := (l0.drop (HT.sIx ds.length 0 lo)).take (HT.sIx ds.length ds.length hi - HT.sIx ds.length 0 lo)
      refine q _ _ (fresh_tup ?_ hp)
      unfold cutV
      rw [← el]
      exact l1
  | lst m ds =>
    obtain ⟨h, rfl⟩ := ite_some hg
    obtain ⟨a, xs, g, rfl, h1, l⟩ := hx.lstR
    have el := l.length
    have l0 := l.f0 h
    refine .inr (.inr ⟨a, xs, rfl, h1, fun p hp => ?_⟩)
    have l1 := (l0.drop (HT.sIx ds.length 0 lo)).take (HT.sIx ds.length ds.length hi - HT.sIx ds.length 0 lo)
    refine q _ _ (fresh_lst ?_ hp)
    unfold cutV
    rw [← el]
    exact l1
  | _ => cases hg
/-- a part of a slice: an int, or left out -/
abbrev FP := Option FO
def prt (fp : FP) : En → R (Option Int) := fun ρ => match fp with
  | none => .ok none ρ
  | some f => (f ρ).bind fun a ρ1 => match res a ρ1 with
    | some (.int i) => .ok (some i) ρ1
    | _ => .stk
inductive DP (X : Cx) (c : Ct) (Ew : Xn → En → Prop) : Option Expr → FP → Prop
  | none : DP X c Ew none none
  | some {e : Expr} {f : FO} (h : DO X c Ew e f) : DP X c Ew (some e) (some f)
def rdP (K : PySem.W.Frag) (c : Ct) (Ew : Xn → En → Prop) (fp : FP) : TO := fun σ H Q => ∃ ρ P, Rp K c σ H ρ P ∧ (prt fp ρ).sat (fun o ρ' => ∀ H' Pn, Rp K c σ H' ρ' (Pn ++ P) → Q o H') Ew
theorem _root_.L2.PO.dimp {X : Cx} {e : Option Expr} {t u : TO} (h : PO X e t) (q : ∀ σ H Q, u σ H Q → t σ H Q) : PO X e u := ⟨fun pins s σ H Q I x => h.run pins s σ H Q I (q σ H Q x)⟩
theorem DP.po {o : Option Expr} {fp : FP} (h : DP X c Ew o fp) : PO X o (rdP X.K c Ew fp) := by
  cases h with
  | none =>
    refine po_none.dimp fun σ H Q ⟨ρ, P, rp, q⟩ => ?_
    exact q H [] rp
  | some h =>
    rename_i e f
    refine (po_some h).dimp fun σ H Q ⟨ρ, P, rp, q⟩ => ⟨ρ, P, rp, ?_⟩
    have q : ((f ρ).bind fun a ρ1 => match res a ρ1 with
      | Option.some (D.int i) => R.ok (Option.some i) ρ1
      | _ => .stk).sat _ _ := q
    rw [R.sat_bind] at q
    refine q.imp fun a ρ1 k v H' Pn r oka => ?_
    split at k
    · rename_i i ei
      obtain ⟨f, x⟩ := oka.dv r ei
      exact ⟨i, x.intR, k H' Pn r⟩
    · exact k.elim
def fSl (fa : FO) (lo hi : FP) : FE := fun ρ => (fa ρ).bind fun a ρ1 => (prt lo ρ1).bind fun l ρ2 => (prt hi ρ2).bind fun u ρ3 => match res a ρ3 with
  | some d => R.of (slD d l u) ρ3
  | none => .stk
theorem de_slice {fa : FO} {lo hi : Option Expr} {fl fh : FP} {p2 : Pos} (h : DO X c Ew a fa) (hl : DP X c Ew lo fl) (hh : DP X c Ew hi fh) : DE X c Ew (.Subscript a (.Slice lo hi none p2) pos) (fSl fa fl fh) := by
  refine (pe_slice or_sl h hl.po hh.po).dimp fun σ H Q ⟨ρ, P, rp, q⟩ => ?_
  unfold fSl at q
  rw [R.sat_bind] at q
  refine ⟨ρ, P, rp, q.imp fun x ρ1 q v H1 Pn r1 oka => ?_⟩
  rw [R.sat_bind] at q
  refine ⟨ρ1, Pn ++ P, r1, q.imp fun l ρ2 q H2 Pm r2 => ?_⟩
  rw [R.sat_bind] at q
  refine ⟨ρ2, Pm ++ (Pn ++ P), r2, q.imp fun u ρ3 q H3 Pk r3 => ?_⟩
  split at q
  · rename_i d ed
    obtain ⟨dr, e1, q⟩ := R.of_sat q
    obtain ⟨f, dv⟩ := ((oka.up Pm).up Pk).dv r3 ed
    exact sl_ok dv e1 fun w H4 fr => q w H4 (Rp.fresh r3.pops.pops.pops fr)
  · exact q.elim

/-! ### in, not in -/
def inS (i j : Str) : Bool := !(Builtin.Str.occurrences j i 0 j.length 1).isEmpty
def inD (neg : Bool) : D → D → Option D
  | .str i, .str j => some (.bl (if neg then !inS i j else inS i j))
  | d, .lst _ xs => match d.py, D.pyL xs with
    | some p, some ps => if p.depth ≤ 64 then some (.bl (if neg then !ps.any fun z => PyData.eqv z p else ps.any fun z => PyData.eqv z p)) else none
    | _, _ => none
  | d, .tup xs => match d.py, D.pyL xs with
    | some p, some ps => if p.depth ≤ 64 then some (.bl (if neg then !ps.any fun z => PyData.eqv z p else ps.any fun z => PyData.eqv z p)) else none
    | _, _ => none
  | .str i, .dic _ ks _ => some (.bl (if neg then !ks.any fun k => decide (k = Sum.inr i) else ks.any fun k => decide (k = Sum.inr i)))
  | .int i, .dic _ ks _ => some (.bl (if neg then !ks.any fun k => decide (k = Sum.inl i) else ks.any fun k => decide (k = Sum.inl i)))
  | _, _ => none
def rInP (K : PySem.W.Frag) (neg : Bool) : R2 := fun x y H Q => ∃ d ds, Dp K H x d ∧ (Dp K H y (.list ds) ∨ Dp K H y (.tuple ds)) ∧ d.plain = true ∧ PyData.plainAll ds = true ∧ d.depth ≤ 64 ∧ Q (.bl (if neg then !ds.any fun z => PyData.eqv z d else ds.any fun z => PyData.eqv z d)) H
def rInDc (neg : Bool) : R2 := fun x y H Q => ∃ a o, y = .ref a ∧ DGet H a x o ∧ Q (.bl (if neg then !o.isSome else o.isSome)) H
theorem or_inP (hu : X.A.units + 65 < cLine) : OpR X (compareOp .In) (rInP X.K false) := by
  intro pins s σ H x y v u Q I rx ry ⟨d, ds, hd, hy, p1, p2, hz, q⟩
  obtain ⟨as, r1⟩ := Dp.reads I d x v hd rx
  have hm := Nat.min_le_right (PyData.depthAll ds) d.depth
  rcases hy with hy | hy
  · obtain ⟨bs, r2⟩ := Dp.reads I _ y u hy ry
    exact PySem.SeqAt.in_list_data r2 r1 p2 p1 (by omega) ⟨.bl _, H, I, rfl, q⟩
  · obtain ⟨bs, r2⟩ := Dp.reads I _ y u hy ry
    exact PySem.SeqAt.in_tuple_data r2 r1 p2 p1 (by omega) ⟨.bl _, H, I, rfl, q⟩
theorem or_notInP (hu : X.A.units + 65 < cLine) : OpR X (compareOp .NotIn) (rInP X.K true) := by
  intro pins s σ H x y v u Q I rx ry ⟨d, ds, hd, hy, p1, p2, hz, q⟩
  obtain ⟨as, r1⟩ := Dp.reads I d x v hd rx
  have hm := Nat.min_le_right (PyData.depthAll ds) d.depth
  rcases hy with hy | hy
  · obtain ⟨bs, r2⟩ := Dp.reads I _ y u hy ry
    exact PySem.SeqAt.notIn_list_data r2 r1 p2 p1 (by omega) ⟨.bl _, H, I, rfl, q⟩
  · obtain ⟨bs, r2⟩ := Dp.reads I _ y u hy ry
    exact PySem.SeqAt.notIn_tuple_data r2 r1 p2 p1 (by omega) ⟨.bl _, H, I, rfl, q⟩
theorem or_inDc (hu : X.A.units + 1 < cLine) : OpR X (compareOp .In) (rInDc false) := by
  intro pins s σ H x y v u Q I rx ry ⟨a, o, e, g, q⟩
  subst e
  cases ry
  exact d_in hu I g rx fun s' I' => ⟨.bl _, H, I', rfl, q⟩
theorem or_notInDc (hu : X.A.units + 1 < cLine) : OpR X (compareOp .NotIn) (rInDc true) := by
  intro pins s σ H x y v u Q I rx ry ⟨a, o, e, g, q⟩
  subst e
  cases ry
  exact d_notIn hu I g rx fun s' I' => ⟨.bl _, H, I', rfl, q⟩
def rInA (K : PySem.W.Frag) (neg : Bool) : R2 := fun x y H Q => (∃ i j, x = .str i ∧ y = .str j ∧ Q (.bl (if neg then !inS i j else inS i j)) H) ∨ rInP K neg x y H Q ∨ rInDc neg x y H Q
theorem or_in (hu : X.A.units + 65 < cLine) : OpR X (compareOp .In) (rInA X.K false) := op_in_str.or ((or_inP hu).or (or_inDc (by omega)))
theorem or_notIn (hu : X.A.units + 65 < cLine) : OpR X (compareOp .NotIn) (rInA X.K true) := L2.op_notIn_str.or ((or_notInP hu).or (or_notInDc (by omega)))
theorem valV_in {kvs : List (Key × V)} (k : Key) : (valV kvs k).isSome = (kvs.map (·.1)).any fun x => decide (x = k) := by
  rw [← valV_any, List.any_map]
  rfl
theorem Dv.dicR {K : PySem.W.Frag} {H : Hp} {m : Bool} {ks : List Key} {vs : List D} {y : V} {f : List Addr} (h : Dv K H (.dic m ks vs) y f) : ∃ a kvv g, y = .ref a ∧ Rd H a (.dK kvv) ∧ kvv.map (·.1) = ks ∧ DvL K H vs (kvv.map (·.2)) g := by
  cases h with
  | fdic h e l => exact ⟨_, _, _, rfl, .inr ⟨_, h⟩, e, l⟩
  | odic h e l => exact ⟨_, _, _, rfl, .inl h, e, l⟩
theorem in_ok {K : PySem.W.Frag} {neg : Bool} : Op2 K (rInA K neg) (inD neg) := by
  intro H x y d e f1 f2 Q dr hx hy hg q
  have seq : ∀ {t : List D → D} {xs : List D}, (∀ ps, D.pyL xs = some ps → Dp K H y (.list ps) ∨ Dp K H y (.tuple ps)) → (match d.py, D.pyL xs with
      | some p, some ps => if p.depth ≤ 64 then some (.bl (if neg then !ps.any fun z => PyData.eqv z p else ps.any fun z => PyData.eqv z p)) else none
      | _, _ => none) = some dr → rInA K neg x y H Q := by
    intro t xs hp hg
    cases e1 : d.py with
    | none => rw [e1] at hg; cases hg
    | some p =>
      cases e2 : D.pyL xs with
      | none => rw [e1, e2] at hg; cases hg
      | some ps =>
        rw [e1, e2] at hg
        obtain ⟨h, rfl⟩ := ite_some hg
        exact .inr (.inl ⟨p, ps, Dv.dp d hx e1, hp ps e2, D.py_plain d e1, D.pyL_plain xs e2, h, q _ _ fresh_bl⟩)
  unfold inD at hg
  split at hg
  · cases hg; exact .inl ⟨_, _, hx.strR, hy.strR, q _ _ fresh_bl⟩
  · rename_i xs
    refine seq (t := fun xs => .lst true xs) (xs := xs) (fun ps e2 => .inl ?_) hg
    exact Dv.dp _ hy (by unfold D.py; rw [e2]; rfl)
  · rename_i xs
    refine seq (t := fun xs => .lst true xs) (xs := xs) (fun ps e2 => .inr ?_) hg
    exact Dv.dp _ hy (by unfold D.py; rw [e2]; rfl)
  · cases hg
    obtain ⟨a, kvv, g, rfl, h1, h2, l⟩ := hy.dicR
    rename_i i _ _ _
    have z := hx.strR
    subst z
    refine .inr (.inr ⟨a, valV kvv (Sum.inr i), rfl, .inl ⟨kvv, Sum.inr i, h1, rfl, rfl⟩, ?_⟩)
    rw [valV_in, h2]
    exact q _ _ fresh_bl
  · cases hg
    obtain ⟨a, kvv, g, rfl, h1, h2, l⟩ := hy.dicR
    rename_i i _ _ _
    have z := hx.intR
    subst z
    refine .inr (.inr ⟨a, valV kvv (Sum.inl i), rfl, .inl ⟨kvv, Sum.inl i, h1, rfl, rfl⟩, ?_⟩)
    rw [valV_in, h2]
    exact q _ _ fresh_bl
  · cases hg

/-! ### built-ins by name -/
def lenG : List D → Option D
  | [.str z] => if z.length ≤ sizeLine then some (.int z.length) else none
  | [.tup xs] => some (.int xs.length)
  | [.lst _ xs] => some (.int xs.length)
  | _ => none
theorem len_ok {K : PySem.W.Frag} : OpN K (fun xs H Q => ∃ x n, xs = [x] ∧ LenV K x H n ∧ Q (.int n) H) lenG := by
  intro H xs ds Q dr hx hg q
  unfold lenG at hg
  split at hg
  · match hx with
    | .cons ⟨f, hx⟩ .nil =>
      obtain ⟨h, rfl⟩ := ite_some hg
      have := hx.strR
      subst this
      exact ⟨_, _, rfl, ⟨h, rfl⟩, q _ _ fresh_int⟩
  · match hx with
    | .cons ⟨f, hx⟩ .nil =>
      cases hg
      obtain ⟨a, ys, rfl, h, l⟩ := hx.tupR
      exact ⟨_, ys.length, rfl, .inr ⟨ys, h, rfl⟩, by rw [← l.length]; exact q _ _ fresh_int⟩
  · match hx with
    | .cons ⟨f, hx⟩ .nil =>
      cases hg
      obtain ⟨a, ys, g, rfl, h, l⟩ := hx.lstR
      exact ⟨_, ys.length, rfl, .inl ⟨ys, h, rfl⟩, by rw [← l.length]; exact q _ _ fresh_int⟩
  · cases hg
def intG : List D → Option D
  | [.int i] => some (.int i)
  | [.bl k] => some (.int (if k then 1 else 0))
  | _ => none
theorem int_ok {K : PySem.W.Frag} : OpN K (fun xs H Q => (∃ i, xs = [.int i] ∧ Q (.int i) H) ∨ ∃ k, xs = [.bl k] ∧ Q (.int (if k then 1 else 0)) H) intG := by
  intro H xs ds Q dr hx hg q
  unfold intG at hg
  split at hg
  · match hx with
    | .cons ⟨f, hx⟩ .nil => cases hg; have := hx.intR; subst this; exact .inl ⟨_, rfl, q _ _ fresh_int⟩
  · match hx with
    | .cons ⟨f, hx⟩ .nil => cases hg; have := hx.blR; subst this; exact .inr ⟨_, rfl, q _ _ fresh_int⟩
  · cases hg
/-! ### isinstance -/
def D.typ : D → String
  | .non => "NoneType"
  | .bl _ => "bool"
  | .int _ => "int"
  | .str _ => "str"
  | .tup _ => "tuple"
  | .lst _ _ => "list"
  | .dic _ _ _ => "dict"
  | .dit _ _ _ => "?"
  | .opq _ => "?"
  | .fact _ => "?"
def isiG : List D → Option D
  | [d, .opq (.ty T)] => if d.isO = false then (kitB d.typ T).map .bl else none
  | _ => none
theorem Dv.tyx {K : PySem.W.Frag} {H : Hp} {d : D} {x : V} {f : List Addr} (h : Dv K H d x f) (n : d.isO = false) : TyX K H x (.type d.typ) := by
  cases h with
  | non => exact .base .non
  | bl b => exact .base (.bl b)
  | int i => exact .base (.int i)
  | str s => exact .base (.str s)
  | opq v => cases n
  | fact _ _ _ => cases n
  | tup h l =>
    rcases h with (h | ⟨o, h⟩) | ⟨o, its, k, h, hc, _⟩
    · exact .base (.tup h)
    · exact .fTuple h
    · exact .kTuple h hc
  | flst h l =>
    rcases h with ⟨o, h⟩ | ⟨o, its, k, h, hc, _⟩
    · exact .base (.frz h)
    · exact .kList h hc
  | olst h l => exact .base (.lst h)
  | fdic h _ l => exact .fDict h
  | odic h _ l => exact .base (.dK h)
  | fdit _ _ _ => cases n
  | odit _ _ _ => cases n
theorem isi_ok {K : PySem.W.Frag} : OpN K (rIsi K) isiG := by
  intro H xs ds Q dr hx hg q
  unfold isiG at hg
  split at hg
  · rename_i d T
    match hx with
    | .cons (b := x) ⟨f, hx⟩ (.cons (b := y) ⟨g, hy⟩ .nil) =>
      split at hg
      · rename_i n
        obtain ⟨b, e1, e2⟩ := Option.map_eq_some_iff.mp hg
        subst e2
        cases hy
        exact ⟨x, _, _, _, b, rfl, .ty T, hx.tyx n, kit_ty e1, q _ _ fresh_bl⟩
      · cases hg
  · cases hg
end
end DL

namespace DL
open PySem PySem.Spec PyProof.Rows L2

/-- what a statement comes to -/
inductive SR where
  | nx (ρ : En) | rt (d : D) (ρ : En) | bk (ρ : En) | ct (ρ : En) | exc (x : Xn) (ρ : En) | stk
abbrev FS := En → SR
def R.bindS {α : Type} (r : R α) (k : α → En → SR) : SR := match r with
  | .ok a ρ => k a ρ
  | .exc x ρ => .exc x ρ
  | .stk => .stk
@[simp] theorem R.bindS_ok {α : Type} (a : α) (ρ : En) (k : α → En → SR) : (R.ok a ρ).bindS k = k a ρ := rfl
@[simp] theorem R.bindS_exc {α : Type} (x : Xn) (ρ : En) (k : α → En → SR) : (R.exc x ρ : R α).bindS k = .exc x ρ := rfl
@[simp] theorem R.bindS_stk {α : Type} (k : α → En → SR) : (R.stk : R α).bindS k = .stk := rfl
def SR.sat (K : PySem.W.Frag) (c : Ct) (Ew : Xn → En → Prop) (P : List (D × V)) (Z : Ends) (r : SR) : Prop := match r with
  | .nx ρ => ∀ σ H, Rp K c σ H ρ P → Z.nx σ H
  | .rt d ρ => ∀ v σ H, Rp K c σ H ρ ((d, v) :: P) → Z.rt v H
  | .bk ρ => ∀ σ H, Rp K c σ H ρ P → Z.bk σ H
  | .ct ρ => ∀ σ H, Rp K c σ H ρ P → Z.ct σ H
  | .exc x ρ => Ew x ρ
  | .stk => False
theorem R.satS {K : PySem.W.Frag} {c : Ct} {Ew : Xn → En → Prop} {P : List (D × V)} {Z : Ends} {α : Type} {r : R α} {k : α → En → SR} (h : SR.sat K c Ew P Z (r.bindS k)) : r.sat (fun a ρ => SR.sat K c Ew P Z (k a ρ)) Ew := by
  cases r <;> exact h
def rdS (K : PySem.W.Frag) (c : Ct) (Ew : Xn → En → Prop) (f : FS) : TS := fun Z σ H => ∃ ρ P, Rp K c σ H ρ P ∧ SR.sat K c Ew P Z (f ρ)
abbrev DS (X : Cx) (c : Ct) (Ew : Xn → En → Prop) (st : Stmt) (f : FS) : Prop := PS X st (rdS X.K c Ew f)
abbrev DSs (X : Cx) (c : Ct) (Ew : Xn → En → Prop) (st : List Stmt) (f : FS) : Prop := PSs X st (rdS X.K c Ew f)
theorem _root_.L2.PS.dimp {X : Cx} {e : Stmt} {t u : TS} (h : PS X e t) (q : ∀ Z σ H, u Z σ H → t Z σ H) : PS X e u := ⟨fun pins s σ H Z I x => h.run pins s σ H Z I (q Z σ H x)⟩
theorem _root_.L2.PSs.dimp {X : Cx} {e : List Stmt} {t u : TS} (h : PSs X e t) (q : ∀ Z σ H, u Z σ H → t Z σ H) : PSs X e u := ⟨fun pins s σ H Z I x => h.run pins s σ H Z I (q Z σ H x)⟩
section
variable {X : Cx} {c : Ct} {Ew : Xn → En → Prop} {e a b : Expr} {pos : Pos} {es : List Expr} {st : Stmt} {sts : List Stmt} {f g : FS}
def fNx : FS := fun ρ => .nx ρ
def fSeq (f g : FS) : FS := fun ρ => match f ρ with
  | .nx ρ' => g ρ'
  | r => r
theorem ds_nil : DSs X c Ew [] fNx := pss_nil.dimp fun Z σ H ⟨ρ, P, r, q⟩ => q σ H r
theorem ds_cons (h : DS X c Ew st f) (h2 : DSs X c Ew sts g) : DSs X c Ew (st :: sts) (fSeq f g) := (pss_cons h h2).dimp fun Z σ H ⟨ρ, P, r, q⟩ => by
  refine ⟨ρ, P, r, ?_⟩
  unfold fSeq at q
  cases e : f ρ with
  | nx ρ' => rw [e] at q; exact fun σ' H' r' => ⟨ρ', P, r', q⟩
  | _ => rw [e] at q; exact q
theorem ds_one (h : DS X c Ew st f) : DSs X c Ew [st] f := (pss_one h).dimp fun _ _ _ q => q
theorem ds_pass : DS X c Ew (.Pass pos) fNx := ps_pass.dimp fun Z σ H ⟨ρ, P, r, q⟩ => q σ H r
theorem ds_break : DS X c Ew (.Break pos) (fun ρ => .bk ρ) := ps_break.dimp fun Z σ H ⟨ρ, P, r, q⟩ => q σ H r
theorem ds_continue : DS X c Ew (.Continue pos) (fun ρ => .ct ρ) := ps_continue.dimp fun Z σ H ⟨ρ, P, r, q⟩ => q σ H r
theorem ds_never : DS X c Ew st (fun _ => .stk) := ps_never.dimp fun Z σ H ⟨ρ, P, r, q⟩ => q
def fSet (i : Nat) (f : FE) : FS := fun ρ => (f ρ).bindS fun d ρ' => .nx (ρ'.set i (some d))
theorem ds_set {fe : FE} (i : Nat) {x : Str} {px : Pos} (hz : i ∉ c.Z) (hN : X.N.Nodup) (h : DE X c Ew e fe) (hi : X.N[i]? = some x := by rfl) (hx : Loc X.env.scope x := by first | exact Or.inl rfl | exact Or.inr rfl)
    (hs : swapsWith e (some (.Name x px)) pos.line X.env = pure false := by rfl) (hf : X.fn x = true ∨ X.env.scope.names.lookup x = some .local := by first | exact .inl rfl | exact .inr rfl | assumption) :
    DS X c Ew (.Assign [.Name x px] e pos) (fSet i fe) := (ps_set hN hi hx h hs hf).dimp fun Z σ H ⟨ρ, P, r, q⟩ => ⟨ρ, P, r, (R.satS q).imp fun d ρ' k v H' r' => k _ H' (r'.store hz)⟩
def fDrop (f : FE) : FS := fun ρ => (f ρ).bindS fun _ ρ' => .nx ρ'
theorem ds_expr {fe : FE} (h : DE X c Ew e fe) (hs : swapsWith e none pos.line X.env = pure false := by rfl) : DS X c Ew (.Expr e pos) (fDrop fe) := (ps_expr h hs).dimp fun Z σ H ⟨ρ, P, r, q⟩ =>
  ⟨ρ, P, r, (R.satS q).imp fun d ρ' k v H' r' => k σ H' r'.pop⟩
def fRet (f : FE) : FS := fun ρ => (f ρ).bindS fun d ρ' => .rt d ρ'
theorem ds_ret {fe : FE} (h : DE X c Ew e fe) : DS X c Ew (.Return (some e) pos) (fRet fe) := (ps_ret h).dimp fun Z σ H ⟨ρ, P, r, q⟩ =>
  ⟨ρ, P, r, (R.satS q).imp fun d ρ' k v H' r' => k v σ H' r'⟩
theorem ds_retN : DS X c Ew (.Return none pos) (fun ρ => .rt .non ρ) := ps_retN.dimp fun Z σ H ⟨ρ, P, r, q⟩ => q .non σ H (r.push0 .non)
def fIfS (t : FB) (f g : FS) : FS := fun ρ => (t ρ).bindS fun b ρ' => if b then f ρ' else g ρ'
theorem ds_if {t : Expr} {ft : FB} {s1 s2 : List Stmt} (ht : DT X c Ew t ft) (h1 : DSs X c Ew s1 f) (h2 : DSs X c Ew s2 g) : DS X c Ew (.If t s1 s2 pos) (fIfS ft f g) := (ps_if ht h1 h2).dimp fun Z σ H ⟨ρ, P, r, q⟩ => by
  refine ⟨ρ, P, r, (R.satS q).imp fun b ρ' k H' r' => ?_⟩
  cases b with
  | true => exact ⟨ρ', P, r', k⟩
  | false => exact ⟨ρ', P, r', k⟩

/-! ### targets -/
abbrev FG := D → En → Option En
abbrev FGs := List D → En → Option En
def rdG (K : PySem.W.Frag) (c : Ct) (g : FG) : TG := fun v σ H Q => ∃ d ρ P, Rp K c σ H ρ ((d, v) :: P) ∧ ∃ ρ', g d ρ = some ρ' ∧ ∀ σ' H', Rp K c σ' H' ρ' P → Q σ' H'
def rdGs (K : PySem.W.Frag) (c : Ct) (g : FGs) : TGs := fun vs σ H Q => ∃ ds ρ P, ds.length = vs.length ∧ Rp K c σ H ρ (ds.zip vs ++ P) ∧ ∃ ρ', g ds ρ = some ρ' ∧ ∀ σ' H', Rp K c σ' H' ρ' P → Q σ' H'
abbrev DG (X : Cx) (c : Ct) (e : Expr) (g : FG) : Prop := PG X e (rdG X.K c g)
abbrev DGs (X : Cx) (c : Ct) (es : List Expr) (g : FGs) : Prop := PGs X es (rdGs X.K c g)
theorem _root_.L2.PG.dimp {X : Cx} {e : Expr} {t u : TG} (h : PG X e t) (q : ∀ v σ H Q, u v σ H Q → t v σ H Q) : PG X e u := ⟨fun pins s σ H v w Q I r x => h.run pins s σ H v w Q I r (q v σ H Q x)⟩
theorem _root_.L2.PGs.dimp {X : Cx} {e : List Expr} {t u : TGs} (h : PGs X e t) (q : ∀ v σ H Q, u v σ H Q → t v σ H Q) : PGs X e u := ⟨fun pins s σ H v w Q I r x => h.run pins s σ H v w Q I r (q v σ H Q x)⟩
def gSet (i : Nat) : FG := fun d ρ => some (ρ.set i (some d))
theorem dg_name (i : Nat) {x : Str} {px : Pos} (hz : i ∉ c.Z) (hN : X.N.Nodup) (hi : X.N[i]? = some x := by rfl) (hx : Loc X.env.scope x := by first | exact Or.inl rfl | exact Or.inr rfl) (hf : X.fn x = true ∨ X.env.scope.names.lookup x = some .local := by first | exact .inl rfl | exact .inr rfl | assumption) :
    DG X c (.Name x px) (gSet i) := (pg_name hN hi hx hf).dimp fun v σ H Q ⟨d, ρ, P, r, ρ', e, q⟩ => by
  cases e
  exact q _ H (r.store hz)
def gsNil : FGs := fun ds ρ => match ds with
  | [] => some ρ
  | _ => none
def gsCons (g : FG) (gs : FGs) : FGs := fun ds ρ => match ds with
  | [] => none
  | d :: ds => (g d ρ).bind (gs ds)
theorem dgs_nil : DGs X c [] gsNil := pgs_nil.dimp fun vs σ H Q ⟨ds, ρ, P, hl, r, ρ', e, q⟩ => by
  cases ds with
  | nil =>
    cases e
    exact ⟨List.eq_nil_of_length_eq_zero hl.symm, q σ H r⟩
  | cons _ _ => cases e
theorem dgs_cons {g : FG} {gs : FGs} (h : DG X c e g) (h2 : DGs X c es gs) (hs : (assignEach (e :: es) X.env).map (·.2) = assign e X.env :: (assignEach es X.env).map (·.2) := by rfl) : DGs X c (e :: es) (gsCons g gs) := (pgs_cons h h2 hs).dimp fun vs σ H Q ⟨ds, ρ, P, hl, r, ρ', e, q⟩ => by
  cases ds with
  | nil => cases e
  | cons d ds =>
    cases vs with
    | nil => cases hl
    | cons v vs =>
      obtain ⟨ρ1, e1, e2⟩ := Option.bind_eq_some_iff.mp e
      exact ⟨v, vs, rfl, d, ρ, ds.zip vs ++ P, r, ρ1, e1, fun σ' H' r' => ⟨ds, ρ1, P, by simpa using hl, r', ρ', e2, q⟩⟩
def gTupF (n : Nat) (gs : FGs) : FG := fun d ρ => match d with
  | .tup ds => if ds.length = n then gs ds ρ else none
  | _ => none
theorem pend_of {K : PySem.W.Frag} {H : Hp} : ∀ {ds : List D} {vs : List V} {f : List Addr}, DvL K H ds vs f → (ds.zip vs).map (·.1) = ds ∧ (ds.zip vs).map (·.2) = vs
  | _, _, _, .nil => ⟨rfl, rfl⟩
  | _, _, _, .cons _ l => by
    obtain ⟨h1, h2⟩ := pend_of l
    exact ⟨by rw [List.zip_cons_cons, List.map_cons, h1], by rw [List.zip_cons_cons, List.map_cons, h2]⟩
/-- a tuple on the top is taken apart -/
theorem Rp.untup {K : PySem.W.Frag} {H : Hp} {σ : L2.St} {ρ : En} {P : List (D × V)} {ds : List D} {v : V} (r : Rp K c σ H ρ ((.tup ds, v) :: P)) : ∃ a xs, v = .ref a ∧ SqT K H a xs ∧ ds.length = xs.length ∧ Rp K c σ H ρ (ds.zip xs ++ P) := by
  obtain ⟨fs, fp, h1, h2, h3⟩ := r
  cases h2 with
  | cons x1 l1 =>
    obtain ⟨a, xs, e, h, l⟩ := x1.tupR
    obtain ⟨p1, p2⟩ := pend_of l
    refine ⟨a, xs, e, h, l.length, fs, _, h1, ?_, h3⟩
    rw [List.map_append, List.map_append, p1, p2]
    exact l.append l1
theorem dg_tup {gs : FGs} {k n : Nat} (hc : X.calm = true) (h : DGs X c es gs) (hn : (assignEach es X.env).length = n := by rfl) (hst : (assignEach es X.env).findIdx? (·.1) = none := by rfl) : DG X c (.Tuple es k pos) (gTupF n gs) := (pg_tup hc h hn hst).dimp fun v σ H Q ⟨d, ρ, P, r, ρ', e, q⟩ => by
  unfold gTupF at e
  split at e
  · rename_i ds
    split at e
    · rename_i hl
      obtain ⟨a, xs', e', h', hl', r'⟩ := r.untup
      exact ⟨a, xs', e', h', by omega, ds, ρ, P, hl', r', ρ', e, q⟩
    · cases e
  · cases e
end
section
variable {X : Cx} {c : Ct} {Ew : Xn → En → Prop} {e a b : Expr} {pos : Pos} {es : List Expr} {st : Stmt} {sts : List Stmt} {f g : FS}
def R.ofS (o : Option En) : SR := match o with
  | some ρ => .nx ρ
  | none => .stk
def fAsg (g : FG) (f : FE) : FS := fun ρ => (f ρ).bindS fun d ρ' => R.ofS (g d ρ')
theorem ofS_sat {K : PySem.W.Frag} {P : List (D × V)} {Z : Ends} {o : Option En} (h : SR.sat K c Ew P Z (R.ofS o)) : ∃ ρ, o = some ρ ∧ ∀ σ H, Rp K c σ H ρ P → Z.nx σ H := by
  cases o with
  | none => exact h.elim
  | some ρ => exact ⟨ρ, rfl, h⟩
theorem ds_asg {tg : Expr} {g : FG} {fe : FE} (h : DE X c Ew e fe) (hg : DG X c tg g) (hs : swapsWithSole [tg] e pos.line X.env = pure false := by rfl) (hw : swappedStores [tg] e X.env = pure none := by rfl)
    (h1 : (assignEach [tg] X.env).map (·.2) = [assign tg X.env] := by rfl) : DS X c Ew (.Assign [tg] e pos) (fAsg g fe) := (ps_asg h hg hs hw h1).dimp fun Z σ H ⟨ρ, P, r, q⟩ =>
  ⟨ρ, P, r, (R.satS q).imp fun d ρ' k v H' r' => by
    obtain ⟨ρ2, e2, q2⟩ := ofS_sat k
    exact ⟨d, ρ', P, r', ρ2, e2, q2⟩⟩
/-- a, b = x, y of plain names -/
def fPar (i j : Nat) (f g : FE) : FS := fun ρ => (f ρ).bindS fun d ρ1 => (g ρ1).bindS fun e ρ2 => .nx ((ρ2.set i (some d)).set j (some e))
theorem ds_par {x y : Str} {fa fb : FE} {px py pt : Pos} {kt k2 pt2} (i j : Nat) (hz : i ∉ c.Z) (hz2 : j ∉ c.Z) (hc : X.calm = true) (hN : X.N.Nodup) (ha : DE X c Ew a fa) (hb : DE X c Ew b fb)
    (hw : swappedStores [.Tuple [.Name x px, .Name y py] kt pt] (.Tuple [a, b] k2 pt2) X.env = pure (some [x, y]))
    (hi : X.N[i]? = some x := by rfl) (hj : X.N[j]? = some y := by rfl) (hij : i ≠ j := by decide)
    (hx : X.env.scope.names.lookup x = some .local := by rfl) (hy : X.env.scope.names.lookup y = some .local := by rfl)
    (hs : swapsWithSole [.Tuple [.Name x px, .Name y py] kt pt] (.Tuple [a, b] k2 pt2) pos.line X.env = pure false := by rfl)
    (h1 : starEach [a, b] X.env = (false, eval a X.env) :: starEach [b] X.env := by rfl) (h2 : starEach [b] X.env = (false, eval b X.env) :: starEach [] X.env := by rfl) :
    DS X c Ew (.Assign [.Tuple [.Name x px, .Name y py] kt pt] (.Tuple [a, b] k2 pt2) pos) (fPar i j fa fb) := (ps_par hc hN hi hj hij hx hy (pa_cons ha (pa_cons hb pa_nil h2) h1) hw hs).dimp fun Z σ H ⟨ρ, P, r, q⟩ =>
  ⟨ρ, P, r, (R.satS q).imp fun d ρ1 q v H1 r1 => ⟨ρ1, (d, v) :: P, r1, (R.satS q).imp fun e ρ2 k u H2 r2 => ⟨v, u, rfl, k _ H2 ((r2.swap.store hz).store hz2)⟩⟩⟩
/-- a, b, d = x, y, z of plain names -/
def fPar3 (i j l : Nat) (f g h : FE) : FS := fun ρ => (f ρ).bindS fun d ρ1 => (g ρ1).bindS fun e ρ2 => (h ρ2).bindS fun u ρ3 => .nx (((ρ3.set i (some d)).set j (some e)).set l (some u))
theorem ds_par3 {x y z : Str} {d : Expr} {fa fb fd : FE} {px py pz pt : Pos} {kt k2 pt2} (i j l : Nat) (hz : i ∉ c.Z) (hz2 : j ∉ c.Z) (hz3 : l ∉ c.Z) (hc : X.calm = true) (hN : X.N.Nodup) (ha : DE X c Ew a fa) (hb : DE X c Ew b fb) (hd : DE X c Ew d fd)
    (hw : swappedStores [.Tuple [.Name x px, .Name y py, .Name z pz] kt pt] (.Tuple [a, b, d] k2 pt2) X.env = pure (some [x, y, z]))
    (hi : X.N[i]? = some x := by rfl) (hj : X.N[j]? = some y := by rfl) (hl : X.N[l]? = some z := by rfl) (hij : i ≠ j := by decide) (hil : i ≠ l := by decide) (hjl : j ≠ l := by decide)
    (hx : X.env.scope.names.lookup x = some .local := by rfl) (hy : X.env.scope.names.lookup y = some .local := by rfl) (hzz : X.env.scope.names.lookup z = some .local := by rfl)
    (hs : swapsWithSole [.Tuple [.Name x px, .Name y py, .Name z pz] kt pt] (.Tuple [a, b, d] k2 pt2) pos.line X.env = pure false := by rfl)
    (h1 : starEach [a, b, d] X.env = (false, eval a X.env) :: starEach [b, d] X.env := by rfl) (h2 : starEach [b, d] X.env = (false, eval b X.env) :: starEach [d] X.env := by rfl) (h3 : starEach [d] X.env = (false, eval d X.env) :: starEach [] X.env := by rfl) :
    DS X c Ew (.Assign [.Tuple [.Name x px, .Name y py, .Name z pz] kt pt] (.Tuple [a, b, d] k2 pt2) pos) (fPar3 i j l fa fb fd) := (ps_par3 hc hN hi hj hl hij hil hjl hx hy hzz (pa_cons ha (pa_cons hb (pa_cons hd pa_nil h3) h2) h1) hw hs).dimp fun Z σ H ⟨ρ, P, r, q⟩ =>
  ⟨ρ, P, r, (R.satS q).imp fun d ρ1 q v H1 r1 => ⟨ρ1, (d, v) :: P, r1, (R.satS q).imp fun e ρ2 q u H2 r2 => ⟨ρ2, (e, u) :: (d, v) :: P, r2, (R.satS q).imp fun g ρ3 k w H3 r3 =>
    ⟨v, u, w, rfl, k _ H3 (((r3.perm (P' := (d, v) :: (e, u) :: (g, w) :: P) (by
      refine (List.Perm.swap _ _ _).trans ?_
      refine (List.Perm.cons _ (List.Perm.swap _ _ _)).trans ?_
      exact List.Perm.swap _ _ _)).store hz).store hz2 |>.store hz3)⟩⟩⟩⟩
/-- name op= e, of flat values -/
def fAug (i : Nat) (g : D → D → Option D) (f : FE) : FS := fun ρ => match slot ρ i with
  | some d0 => if d0.isF = true then (f ρ).bindS fun d ρ' => match g d0 d with
    | some r => .nx (ρ'.set i (some r))
    | none => .stk
    else .stk
  | none => .stk
theorem ds_aug {op : Operator} {r : R2} {g : D → D → Option D} {fe : FE} (i : Nat) {x : Str} {px : Pos} (hz : i ∉ c.Z) (hN : X.N.Nodup) (ho : OpR X (inplaceOp op) r) (hg : Op2 X.K r g) (h : DE X c Ew e fe) (hi : X.N[i]? = some x := by rfl) (hx : Loc X.env.scope x := by first | exact Or.inl rfl | exact Or.inr rfl)
    (hf : X.fn x = true ∨ X.env.scope.names.lookup x = some .local := by first | exact .inl rfl | exact .inr rfl | assumption) : DS X c Ew (.AugAssign (.Name x px) op e pos) (fAug i g fe) := (ps_aug hN hi hx h ho hf).dimp fun Z σ H ⟨ρ, P, rp, q⟩ => by
  unfold fAug at q
  cases es : slot ρ i with
  | none => rw [es] at q; exact q.elim
  | some d0 =>
    rw [es] at q
    have q : SR.sat X.K c Ew P Z (if d0.isF = true then (fe ρ).bindS fun d ρ' => match g d0 d with
      | some r => SR.nx (ρ'.set i (some r))
      | none => SR.stk
      else SR.stk) := q
    split at q
    · rename_i hF
      obtain ⟨v0, f0, e0, x0⟩ := rp.slot (slot_some es)
      have x00 := x0.f0 hF
      refine ⟨v0, e0, ρ, (d0, v0) :: P, rp.push0 x00, (R.satS q).imp fun d ρ' k v H' r' => ?_⟩
      split at k
      · rename_i dr eg
        obtain ⟨f1, x1⟩ := r'.head
        obtain ⟨f2, x2⟩ := r'.pop.head
        exact hg H' v0 v d0 d f2 f1 _ dr x2 x1 eg fun w H3 fr => k _ H3 ((Rp.fresh r'.pop.pop fr).store hz)
      · exact k.elim
    · exact q.elim
end
end DL

namespace DL
open PySem PySem.Spec PyProof.Rows L2

/-! ### a source that is drawn from: a list, a tuple, a text -/
/-- v begins an iterator; St: the iterator's own cell; T z: the heap holds the source as z; n z items told by Pd z -/
structure Src (P : Program) (w : World) (v : Value) (ex : List Addr) (St : Addr → Nat → Heap → Prop) {ζ : Type} (T : ζ → Heap → Prop) (n : ζ → Nat) (Pd : ζ → Nat → Value → Prop) : Prop where
  draws : ∀ (z : ζ) (A : Around) (it : Addr), A.handled = none → it ∉ ex → Draws P w A it (it :: ex) (n z) (Pd z) fun i h => St it i h ∧ T z h
  begins : ∃ o, (∀ z, Begins v o (T z)) ∧ ∀ it h, h.get? it = some o → St it 0 h
  obj : ∀ it i h, St it i h → ∃ o, h.get? it = some o ∧ ∀ u, o.data ≠ .cell u
  keep : ∀ it i h h', St it i h → (∀ o, h.get? it = some o → h'.get? it = some o) → St it i h'
  lt : ∀ z h, T z h → ∀ b ∈ ex, b < h.objs.size
section
variable {P : Program} {w : World}
theorem src_list (l : Addr) : Src P w (.ref l) [l] (fun it i h => h.IsListIter it l i) (fun (items : Array Value) h => h.IsList l items) (fun items => items.size) (fun items i v => items[i]? = some v) where
  draws := fun items A it hh hn => Draws.list hh it l (fun e => hn (by simp [e])) items
  begins := ⟨_, begins_list l, fun it h e => ⟨_, e, rfl, rfl⟩⟩
  obj := fun it i h ⟨o, e, _, d⟩ => ⟨o, e, fun u q => by rw [d] at q; cases q⟩
  keep := fun it i h h' st k => st.at k
  lt := fun z h ⟨o, e, _⟩ b hb => by rw [List.mem_singleton.mp hb]; exact Heap.lt_size e
theorem src_tuple (l : Addr) : Src P w (.ref l) [l] (fun it i h => h.IsTupleIter it l i) (fun (items : Array Value) h => h.IsTuple l items) (fun items => items.size) (fun items i v => items[i]? = some v) where
  draws := fun items A it hh hn => Draws.tuple hh it l (fun e => hn (by simp [e])) items
  begins := ⟨_, begins_tuple l, fun it h e => ⟨_, e, rfl, rfl⟩⟩
  obj := fun it i h ⟨o, e, _, d⟩ => ⟨o, e, fun u q => by rw [d] at q; cases q⟩
  keep := fun it i h h' st k => st.at k
  lt := fun z h ⟨o, e, _⟩ b hb => by rw [List.mem_singleton.mp hb]; exact Heap.lt_size e
theorem src_text (x : Str) (t : Tok) : Src P w (.str x t) [] (fun it i h => h.IsStrIter it (strIterType x) x t i) (fun (_ : Unit) _ => True) (fun _ => x.cps.size) (fun _ i v => ∃ c u, x.cps[i]? = some c ∧ v = .str ⟨#[c]⟩ u) where
  draws := fun _ A it hh _ => by
    have D := Draws.text (prog := P) (w := w) hh it x t
    exact { live := fun i h st => D.live i h st.1, frame := fun i h h' st hk => ⟨D.frame i h h' st.1 hk, trivial⟩,
            item := fun i s Q E hi st hQ => D.item i s Q E hi st.1 fun x h' tk p st' sb => hQ x h' tk p ⟨st', trivial⟩ sb,
            done := fun s Q E st hE => D.done s Q E st.1 hE }
  begins := ⟨_, fun _ => begins_text x t, fun it h e => ⟨_, e, rfl, rfl⟩⟩
  obj := fun it i h ⟨o, e, _, d⟩ => ⟨o, e, fun u q => by rw [d] at q; cases q⟩
  keep := fun it i h h' ⟨o, e, r⟩ k => ⟨o, k o e, r⟩
  lt := fun z h _ b hb => nomatch hb
end

/-! ### an iterator of pairs as a turn -/
/-- pairs: at turn i a new tuple of xs with Y i H xs, while G -/
def ItP (n : Nat) (G : Hp → Prop) (Y : Nat → Hp → List V → Prop) : It :=
  ⟨fun i H => i < n ∧ G H, fun i H v H' => ∃ T xs, v = .ref T ∧ H T = none ∧ H' = upd H T (.tup xs) ∧ Y i H xs, fun i H => i = n ∧ G H⟩
theorem turn_pairs {P : Program} {w : World} {K : PySem.W.Frag} {elts : List Expr} {kk : Nat} {tpos : Pos} {it : Addr} {fp fpW wr : List Addr} {n : Nat} {ζ : Type} {nz : ζ → Nat} {Pt : ζ → Nat → Array Value → Prop} {StW : ζ → Nat → Heap → Prop} {Mid : ζ → Nat → Addr → Heap → Prop}
    {tn : Nat → Heap → Prop} {G : Hp → Prop} {Y : Nat → Hp → List V → Prop} {T : ζ → Heap → Prop} (W : ∀ (z : ζ) (A : Around), A.handled = none → WalksT P w A it fpW wr (nz z) (Pt z) (StW z) (Mid z))
    (mem : it ∈ fp) (hwr : ∀ b ∈ wr, b ∈ fp) (into : ∀ z i h, tn i h → T z h → StW z i h) (outof : ∀ z i h, StW z i h → tn i h)
    (src : ∀ (X : Cx) (pins : List (Addr × Obj)) (σ : L2.St) (H : Hp) (s : Shared), X.prog = P → X.w = w → X.K = K → Inv X pins σ H s → G H → ∃ z, nz z = n ∧ T z s.heap ∧ ∀ i vals, Pt z i vals → ∃ xs, Vals xs vals.toList ∧ xs.length ≤ sizeLine ∧ Y i H xs)
    (obj : ∀ i h, tn i h → ∀ b ∈ fp, ∃ o, h.get? b = some o ∧ ∀ v, o.data ≠ .cell v)
    (keep : ∀ i h h', tn i h → (∀ b ∈ fp, ∀ o, h.get? b = some o → h'.get? b = some o) → tn i h')
    (self : ∀ (A : Around) (i : Nat) (s : Shared) (Q : Value → Shared → Prop) (E : Value → Shared → Prop), tn i s.heap → Q (.ref it) s → wpAny (model P w) A (pyIter (.ref it)) Q E s) : Turn P w K (.Tuple elts kk tpos) (ItP n G Y) fp it tn where
  mem := mem
  obj := obj
  keep := keep
  self := self
  item := by
    intro X hP hw hK hc i pins s σ H E I hf st ⟨hi, hg⟩
    obtain ⟨z, hz, hT, hval⟩ := src X pins σ H s hP hw hK I hg
    subst hP hw hK
    have wk := W z X.A (I.ok.hd hc)
    refine wk.item i s _ _ (by rw [hz]; exact hi) (into z i _ st hT) fun T' vals h' tk hp hle ht hm hk => ?_
    refine ⟨_, rfl, wk.go elts kk tpos i T' { s with heap := h', toks := tk } _ _ hm fun h2 st2 hk2 => ?_⟩
    obtain ⟨xs, rv, hxl, hy⟩ := hval i vals hp
    have hT2 : IsTup h2 T' vals := ht.at fun o e => hk2 T' o (wk.apart i T' h' hm) e
    have new : ObjOk X.prog X.w (upd H T' (.tup xs)) h2 T' (.tup xs) := ⟨hxl, vals.toList, rv, by simpa using hT2⟩
    have I1 : Inv X pins σ (upd H T' (.tup xs)) { s with heap := h2, toks := tk } :=
      I.turnedNew (ch := wr) (fun b ob hb q => hk2 b ob hb (hk b ob hb q)) (fun b hb => hf b (hwr b hb)) hle new
    refine ⟨.ref T', _, I1, rfl, ⟨T', xs, rfl, I.hok.fresh hle, rfl, hy⟩, outof _ _ _ st2, fun b hb => ?_⟩
    obtain ⟨o, e, _⟩ := obj i _ st b hb
    rw [upd_ne (Nat.ne_of_lt (Nat.lt_of_lt_of_le (Heap.lt_size e) hle))]
    exact (hf b hb).1
  done := by
    intro X hP hw hK hc i pins s σ H E I hf st ⟨hi, hg⟩
    obtain ⟨z, hz, hT, _⟩ := src X pins σ H s hP hw hK I hg
    subst hP hw hK hi
    have wk := W z X.A (I.ok.hd hc)
    exact wk.done s _ _ (by rw [hz]; exact into z i _ st hT) fun h' tk hk => ⟨rfl, I.turnedL (t' := tk) (ch := wr) (fun b o hb q => hk b o hb q) fun b hb => hf b (hwr b hb)⟩

/-! ### enumerate(v) -/
set_option maxHeartbeats 1000000 in
theorem meets_enum1 {v : Value} {o : Obj} {HH : Heap → Prop} (B : Begins v o HH) :
    Meets (Builtin.«enumerate.__new__» ⟨[.type "enumerate", v], []⟩) (fun _ R s => HH s.heap ∧
      R (.ok (.ret (.ref (s.heap.push o).objs.size))) { s with heap := (s.heap.push o).push { cls := .type "enumerate", data := .fields #[.none, .bool false, .ref s.heap.objs.size, rawInt 0, .none, .none] } }) :=
  .of_wp fun prog w A R s hh => by
    obtain ⟨hp, g, d, tk, os⟩ := s
    obtain ⟨h1, h⟩ := hh
    have hsub := sub_enumerate
    have q1 : ∀ {A' : Around} {E Q : Value → Shared → Prop}, Q (.ref hp.objs.size) ⟨hp.push o, g, d, tk, os⟩ → wpAny (model prog w) A' (pyIter v) Q E ⟨hp, g, d, tk, os⟩ := fun q => B.iter prog w _ _ ⟨hp, g, d, tk, os⟩ _ h1 q
    wp_walk using q1
    refine wpAny_stack_any fun st => wpAny_pure ?_
    split
    · rename_i c _ _ _ _ _
      cases (c == Value.type "enumerate")
      · wp_walk using q1
        exact ⟨_, rfl, h⟩
      · wp_walk using q1
        exact ⟨_, rfl, h⟩
    · wp_walk using q1
      exact ⟨_, rfl, h⟩
theorem enum1_begins {prog : Program} {w : World} {A : Around} {E : Value → Shared → Prop} {s : Shared} {v : Value} {o : Obj} {HH : Heap → Prop} {Q : Value → Shared → Prop} (B : Begins v o HH) (h1 : HH s.heap)
    (h : ∀ h', IsEnum h' (s.heap.objs.size + 1) s.heap.objs.size 0 .none → h'.get? s.heap.objs.size = some o → (∀ b o, s.heap.get? b = some o → h'.get? b = some o) → Q (.ref (s.heap.objs.size + 1)) { s with heap := h' }) :
    wpAny (model prog w) A (call (.type "enumerate") [v]) Q E s := by
  refine callType_new F.called_enumerate (by decide) (F.typeCall_enumerate_1 _) (F.newCall_enumerate_1 _) (fun ob => F.args_object_init_2 ob _) F.entry_enumerate_new (meets_enum1 B) ⟨h1, ?_⟩
  have hz : (s.heap.push o).objs.size = s.heap.objs.size + 1 := Heap.size_push ..
  show _ ∧ _
  rw [hz]
  have he : IsEnum ((s.heap.push o).push { cls := .type "enumerate", data := .fields #[.none, .bool false, .ref s.heap.objs.size, rawInt 0, .none, .none] }) (s.heap.objs.size + 1) s.heap.objs.size 0 .none := by
    have q := Heap.get?_push_size (s.heap.push o) (o := { cls := .type "enumerate", data := .fields #[.none, .bool false, .ref s.heap.objs.size, rawInt 0, .none, .none] }) rfl
    rw [hz] at q
    exact q
  exact ⟨⟨_, he, rfl⟩, h _ he (Heap.get?_push_of_some _ (Heap.get?_push_size _ B.free)) fun b ob x => Heap.get?_push_of_some _ (Heap.get?_push_of_some _ x)⟩
section
variable {X : Cx} {pins : List (Addr × Obj)} {σ : L2.St} {H : Hp} {s : Shared}
/-- enumerate of a source has come -/
theorem enum_come {v : Value} {ex : List Addr} {St : Addr → Nat → Heap → Prop} {ζ : Type} {T : ζ → Heap → Prop} {nz : ζ → Nat} {Pd : ζ → Nat → Value → Prop} {G : Hp → Prop} {Y : Nat → Hp → List V → Prop} {n : Nat} {R : It → Hp → Prop}
    {elts : List Expr} {kk : Nat} {tpos : Pos} (S : Src X.prog X.w v ex St T nz Pd) (I : Inv X pins σ H s) (g : G H)
    (src : ∀ (pins : List (Addr × Obj)) (X' : Cx) (σ : L2.St) (H : Hp) (s : Shared), X'.prog = X.prog → X'.w = X.w → X'.K = X.K → Inv X' pins σ H s → G H → ∃ z, nz z = n ∧ T z s.heap ∧ ∀ i u, Pd z i u → ∃ x, RelV x u ∧ Y i H [.int (i : Nat), x])
    (q : R (ItP n G Y) H) : wpAny (model X.prog X.w) X.A (call (.type "enumerate") [v]) (fun v s1 => wpAny (model X.prog X.w) X.A (pyIter v) (PIE X pins σ (.Tuple elts kk tpos) R) X.xe s1) X.xe s := by
  obtain ⟨z0, _, hT, _⟩ := src pins X σ H s rfl rfl rfl I g
  obtain ⟨o, B, st0⟩ := S.begins
  refine enum1_begins (B z0) hT fun h' he ho hk => wpAny_pyIter_enum he ?_
  have hne : s.heap.objs.size + 1 ≠ s.heap.objs.size := Nat.succ_ne_self _
  have hex : ∀ b ∈ ex, b < s.heap.objs.size := S.lt z0 _ hT
  have nin : ∀ k, s.heap.objs.size + k ∉ ex := fun k hb => absurd (hex _ hb) (Nat.not_lt.mpr (Nat.le_add_right _ _))
  have nin0 : s.heap.objs.size ∉ ex := nin 0
  refine ⟨s.heap.objs.size + 1, [s.heap.objs.size + 1, s.heap.objs.size], (fun i h => (∃ old, IsEnum h (s.heap.objs.size + 1) s.heap.objs.size ((0 : Int) + (i : Int)) old) ∧ St s.heap.objs.size i h), _, H, rfl, I.kept (t' := s.toks) hk,
    turn_pairs (fun z A hh => WalksT.enumFrom (0 : Int) (S.draws z A.in1 _ hh nin0) (s.heap.objs.size + 1) hne (fun hb => ?_) List.mem_cons_self) (by simp) (fun b hb => hb)
      (fun z i h st hT => ⟨st.1, st.2, hT⟩) (fun z i h st => ⟨st.1, st.2.1⟩) (fun X' pins σ H s hP hw hK I hg => ?_) (fun i h st b hb => ?_) (fun i h h' st k => ⟨?_, S.keep _ i _ _ st.2 fun o e => k _ (by simp) o e⟩) (fun A i s Q E st h => ?_), ⟨⟨.none, he⟩, st0 _ _ ho⟩, fun b hb => ?_, q⟩
  · rcases List.mem_cons.mp hb with e | hb
    · exact hne e
    · exact nin 1 hb
  · obtain ⟨z, hz, hT, hv⟩ := src pins X' σ H s hP hw hK I hg
    refine ⟨z, hz, hT, fun i vals hp => ?_⟩
    obtain ⟨t, u, hu, rfl⟩ := hp
    obtain ⟨x, rx, hy⟩ := hv i u hu
    have e0 : (0 : Int) + (i : Int) = ((i : Nat) : Int) := by omega
    exact ⟨[.int (i : Nat), x], .cons ⟨t, by rw [e0]⟩ (.cons rx .nil), by show 2 ≤ sizeLine; decide, hy⟩
  · obtain ⟨⟨old, he⟩, st⟩ := st
    have e' : b = s.heap.objs.size + 1 ∨ b = s.heap.objs.size := by simpa using hb
    rcases e' with e | e
    · rw [e]; exact ⟨_, he, fun v q => nomatch q⟩
    · rw [e]; exact S.obj _ _ _ st
  · obtain ⟨⟨old, he⟩, _⟩ := st
    exact ⟨old, k _ (by simp) _ he⟩
  · obtain ⟨⟨old, he⟩, _⟩ := st
    exact wpAny_pyIter_enum he h
  · have e' : b = s.heap.objs.size + 1 ∨ b = s.heap.objs.size := by simpa using hb
    have hle : s.heap.objs.size ≤ b := by
      rcases e' with z | z
      · rw [z]; exact Nat.le_add_right _ _
      · rw [z]; exact Nat.le_refl _
    exact I.fpOk hle (I.hok.fresh hle)
/-- zip of two sources has come -/
theorem zip_come {v v2 : Value} {ex ex2 : List Addr} {St St2 : Addr → Nat → Heap → Prop} {ζ ζ2 : Type} {T : ζ → Heap → Prop} {T2 : ζ2 → Heap → Prop} {nz : ζ → Nat} {nz2 : ζ2 → Nat} {Pd : ζ → Nat → Value → Prop} {Pd2 : ζ2 → Nat → Value → Prop} {G : Hp → Prop} {Y : Nat → Hp → List V → Prop} {n : Nat} {R : It → Hp → Prop}
    {elts : List Expr} {kk : Nat} {tpos : Pos} (S : Src X.prog X.w v ex St T nz Pd) (S2 : Src X.prog X.w v2 ex2 St2 T2 nz2 Pd2) (I : Inv X pins σ H s) (g : G H)
    (src : ∀ (pins : List (Addr × Obj)) (X' : Cx) (σ : L2.St) (H : Hp) (s : Shared), X'.prog = X.prog → X'.w = X.w → X'.K = X.K → Inv X' pins σ H s → G H → ∃ z z2, min (nz z) (nz2 z2) = n ∧ T z s.heap ∧ T2 z2 s.heap ∧ ∀ i u u2, Pd z i u → Pd2 z2 i u2 → ∃ x x2, RelV x u ∧ RelV x2 u2 ∧ Y i H [x, x2])
    (q : R (ItP n G Y) H) : wpAny (model X.prog X.w) X.A (call (.type "zip") [v, v2]) (fun v s1 => wpAny (model X.prog X.w) X.A (pyIter v) (PIE X pins σ (.Tuple elts kk tpos) R) X.xe s1) X.xe s := by
  obtain ⟨z0, z1, _, hT, hT2, _⟩ := src pins X σ H s rfl rfl rfl I g
  obtain ⟨o, B, st0⟩ := S.begins
  obtain ⟨o2, B2, st02⟩ := S2.begins
  refine zip_begins2 (B z0) (B2 z1) hT hT2 fun h' hz hTI hTO ho ho2 hsz hk => wpAny_pyIter_zip hz ?_
  have hex : ∀ b ∈ ex, b < s.heap.objs.size := S.lt z0 _ hT
  have hex2 : ∀ b ∈ ex2, b < s.heap.objs.size := S2.lt z1 _ hT2
  have nin : ∀ k, s.heap.objs.size + k ∉ ex := fun k hb => absurd (hex _ hb) (Nat.not_lt.mpr (Nat.le_add_right _ _))
  have nin2 : ∀ k, s.heap.objs.size + k ∉ ex2 := fun k hb => absurd (hex2 _ hb) (Nat.not_lt.mpr (Nat.le_add_right _ _))
  refine ⟨s.heap.objs.size + 4, [s.heap.objs.size + 4, s.heap.objs.size + 2, s.heap.objs.size + 3, s.heap.objs.size, s.heap.objs.size + 1],
    (fun i h => IsZip h (s.heap.objs.size + 4) (s.heap.objs.size + 2) (s.heap.objs.size + 3) .none ∧ IsTupOf2 h (s.heap.objs.size + 2) (.ref s.heap.objs.size) (.ref (s.heap.objs.size + 1)) ∧ (∃ a1 a2, IsTupOf2 h (s.heap.objs.size + 3) a1 a2) ∧ St s.heap.objs.size i h ∧ St2 (s.heap.objs.size + 1) i h), _, H, rfl, I.kept (t' := s.toks) hk,
    turn_pairs (ζ := ζ × ζ2) (nz := fun z => min (nz z.1) (nz2 z.2)) (T := fun z h => T z.1 h ∧ T2 z.2 h) (fun z A hh => WalksT.zipD2 (zip_sep2 hex hex2) (S.draws z.1 A.in1 _ hh (nin 0)) (S2.draws z.2 A.in1 _ hh (nin2 1))) (by simp) (fun b hb => ?_)
      (fun z i h st hT => ⟨st.1, st.2.1, st.2.2.1, ⟨st.2.2.2.1, hT.1⟩, ⟨st.2.2.2.2, hT.2⟩⟩) (fun z i h st => ⟨st.1, st.2.1, st.2.2.1, st.2.2.2.1.1, st.2.2.2.2.1⟩) (fun X' pins σ H s hP hw hK I hg => ?_) (fun i h st b hb => ?_) (fun i h h' st k => ⟨k _ (by simp) _ st.1, k _ (by simp) _ st.2.1, ?_, S.keep _ i _ _ st.2.2.2.1 fun o e => k _ (by simp) o e, S2.keep _ i _ _ st.2.2.2.2 fun o e => k _ (by simp) o e⟩) (fun A i s Q E st h => wpAny_pyIter_zip st.1 h), ⟨hz, hTI, ⟨_, _, hTO⟩, st0 _ _ ho, st02 _ _ ho2⟩, fun b hb => ?_, q⟩
  · simp only [List.mem_cons, List.not_mem_nil, or_false] at hb ⊢
    rcases hb with e | e | e | e
    · exact .inl e
    · exact .inr (.inr (.inl e))
    · exact .inr (.inr (.inr (.inl e)))
    · exact .inr (.inr (.inr (.inr e)))
  · obtain ⟨z, z2, hz, hT, hT2, hv⟩ := src pins X' σ H s hP hw hK I hg
    refine ⟨(z, z2), hz, ⟨hT, hT2⟩, fun i vals hp => ?_⟩
    obtain ⟨u, u2, hu, hu2, rfl⟩ := hp
    obtain ⟨x, x2, rx, rx2, hy⟩ := hv i u u2 hu hu2
    exact ⟨[x, x2], .cons rx (.cons rx2 .nil), by show 2 ≤ sizeLine; decide, hy⟩
  · obtain ⟨a1, a2, ⟨b1, b2, a3⟩, a4, a5⟩ := st
    simp only [List.mem_cons, List.not_mem_nil, or_false] at hb
    rcases hb with e | e | e | e | e
    · rw [e]; exact ⟨_, a1, fun v q => nomatch q⟩
    · rw [e]; exact ⟨_, a2, fun v q => nomatch q⟩
    · rw [e]; exact ⟨_, a3, fun v q => nomatch q⟩
    · rw [e]; exact S.obj _ _ _ a4
    · rw [e]; exact S2.obj _ _ _ a5
  · obtain ⟨b1, b2, a3⟩ := st.2.2.1
    exact ⟨b1, b2, k _ (by simp) _ a3⟩
  · have hle : s.heap.objs.size ≤ b := by
      simp only [List.mem_cons, List.not_mem_nil, or_false] at hb
      rcases hb with z | z | z | z | z
      · rw [z]; exact Nat.le_add_right _ _
      · rw [z]; exact Nat.le_add_right _ _
      · rw [z]; exact Nat.le_add_right _ _
      · rw [z]; exact Nat.le_refl _
      · rw [z]; exact Nat.le_add_right _ _
    exact I.fpOk hle (I.hok.fresh hle)
end

/-! ### what a for walks -/
def SrcOk (K : PySem.W.Frag) (H : Hp) (src : List (D × V)) : Prop := ∀ p ∈ src, ∃ f, Dv K H p.1 p.2 f
/-- the iterator gives ds, while the sources stand -/
def Wk (K : PySem.W.Frag) (J : It) (ds : List D) (src : List (D × V)) : Prop := ∀ H, SrcOk K H src → (∀ i, i < ds.length → J.go i H) ∧ J.stop ds.length H ∧ ∀ i x H', i < ds.length → J.yld i H x H' → ∃ d, ds[i]? = some d ∧ Fresh K H H' d x
abbrev FI := En → R (List D)
def rdI (K : PySem.W.Frag) (c : Ct) (Ew : Xn → En → Prop) (f : FI) : TI := fun σ H R => ∃ ρ P, Rp K c σ H ρ P ∧ (f ρ).sat (fun ds ρ' => ∀ J H' src, Rp K c σ H' ρ' (src ++ P) → Wk K J ds src → R J H') Ew
abbrev DI (X : Cx) (c : Ct) (Ew : Xn → En → Prop) (tg e : Expr) (f : FI) : Prop := PI X tg e (rdI X.K c Ew f)
theorem _root_.L2.PI.dimp {X : Cx} {tg e : Expr} {t u : TI} (h : PI X tg e t) (q : ∀ σ H Q, u σ H Q → t σ H Q) : PI X tg e u := ⟨fun pins s σ H R I x => h.run pins s σ H R I (q σ H R x)⟩
def keyD : Key → D
  | .inl i => .int i
  | .inr s => .str s
/-- the items of frozen data -/
def items (d : D) : Option (List D) := match d with
  | .lst m xs => if D.isF (.lst m xs) = true then some xs else none
  | .tup xs => if D.isFL xs = true then some xs else none
  | .str z => some (z.cps.toList.map fun k => .str ⟨#[k]⟩)
  | .dic m ks vs => if D.isF (.dic m ks vs) = true then some (ks.map keyD) else none
  | _ => none
def fIter (f : FE) : FI := fun ρ => (f ρ).bind fun d ρ' => R.of (items d) ρ'
section
variable {X : Cx} {c : Ct} {Ew : Xn → En → Prop} {e a b tg : Expr} {pos : Pos}
theorem wk_list {K : PySem.W.Frag} {a : Addr} {ds : List D} (hf : D.isFL ds = true) : Wk K (Itl K a) ds [(.lst false ds, .ref a)] := by
  intro H ok
  obtain ⟨f, x⟩ := ok _ (List.mem_singleton.mpr rfl)
  obtain ⟨a', xs, g, e, h, l⟩ := x.lstR
  cases e
  have hl := l.length
  refine ⟨fun i hi => ⟨xs, xs[i]'(by omega), h, by simp⟩, ⟨xs, h, by omega⟩, fun i y H' hi yl => ?_⟩
  obtain ⟨e1, e2⟩ := yl
  subst e1
  have e3 := e2 xs h
  obtain ⟨v, f, e4, dv, _⟩ := (l.f0 hf).at (i := i) (d := ds[i]) (by simp [hi])
  rw [e3] at e4; cases e4
  exact ⟨ds[i], by simp [hi], .same (dv.f0 (by rw [D.isFL_eq, List.all_eq_true] at hf; exact hf _ (List.getElem_mem hi)))⟩
theorem wk_tup {K : PySem.W.Frag} {a : Addr} {ds : List D} (hf : D.isFL ds = true) : Wk K (Itt K a) ds [(.tup ds, .ref a)] := by
  intro H ok
  obtain ⟨f, x⟩ := ok _ (List.mem_singleton.mpr rfl)
  obtain ⟨a', xs, e, h, l⟩ := x.tupR
  cases e
  have hl := l.length
  refine ⟨fun i hi => ⟨xs, xs[i]'(by omega), h, by simp⟩, ⟨xs, h, by omega⟩, fun i y H' hi yl => ?_⟩
  obtain ⟨e1, e2⟩ := yl
  subst e1
  have e3 := e2 xs h
  obtain ⟨v, f, e4, dv, _⟩ := (l.f0 hf).at (i := i) (d := ds[i]) (by simp [hi])
  rw [e3] at e4; cases e4
  exact ⟨ds[i], by simp [hi], .same (dv.f0 (by rw [D.isFL_eq, List.all_eq_true] at hf; exact hf _ (List.getElem_mem hi)))⟩
theorem wk_str {K : PySem.W.Frag} {z : Str} {src : List (D × V)} : Wk K (Its z) (z.cps.toList.map fun k => .str ⟨#[k]⟩) src := by
  intro H ok
  have hl : (z.cps.toList.map fun k => D.str ⟨#[k]⟩).length = z.cps.size := by simp
  rw [hl]
  refine ⟨fun i hi => hi, Nat.le_refl _, fun i y H' hi yl => ?_⟩
  obtain ⟨e1, k, e2, e3⟩ := yl
  subst e1 e3
  exact ⟨.str ⟨#[k]⟩, by simp [e2], fresh_str⟩
theorem wk_keys {K : PySem.W.Frag} {d : Addr} {o : Obj} {kvv : List (Key × V)} {ks : List Key} {src : List (D × V)} (hk : kvv.map (·.1) = ks) (hs : ∀ H, SrcOk K H src → H d = some (.frz o (.dK kvv))) : Wk K (Itk d o kvv) (ks.map keyD) src := by
  intro H ok
  have h := hs H ok
  have hl : (ks.map keyD).length = kvv.length := by rw [← hk]; simp
  rw [hl]
  refine ⟨fun i hi => ⟨h, hi⟩, ⟨h, Nat.le_refl _⟩, fun i y H' hi yl => ?_⟩
  obtain ⟨e1, k, v, e2, e3⟩ := yl
  subst e1 e3
  have e4 : ks[i]? = some k := by rw [← hk]; simp [e2]
  refine ⟨keyD k, by simp [e4], ?_⟩
  cases k with
  | inl i => exact fresh_int
  | inr s => exact fresh_str
/-- a list, a tuple, a text, a dict's keys: whichever it is -/
theorem di_val {f : FE} (h : DE X c Ew e f) : DI X c Ew tg e (fIter f) := by
  refine ⟨fun pins s σ H RR I ⟨ρ, P, rp, q⟩ => ?_⟩
  have wh : ∀ (t : TI) (hp : PI X tg e t), t σ H RR → wpAny (model X.prog X.w) X.A (eval e X.env) (fun v s1 => wpAny (model X.prog X.w) X.A (pyIter v) (PIE X pins σ tg RR) X.xe s1) X.xe s := fun t hp ht => hp.run pins s σ H RR I ht
  unfold fIter at q
  rw [R.sat_bind] at q
  cases ef : f ρ with
  | stk => rw [ef] at q; exact q.elim
  | exc x ρ' =>
    rw [ef] at q
    exact wh _ (pi_list h) ⟨ρ, P, rp, by rw [ef]; exact q⟩
  | ok d ρ' =>
    rw [ef] at q
    obtain ⟨ds, ei, q2⟩ := R.of_sat (show (R.of (items d) ρ').sat _ _ from q)
    clear q
    cases d with
    | lst m xs =>
      obtain ⟨hf, rfl⟩ := ite_some ei
      have hf2 : (!m && D.isFL xs) = true := hf
      simp at hf2
      obtain ⟨rfl, hf3⟩ := hf2
      refine wh _ (pi_list h) ⟨ρ, P, rp, ?_⟩
      rw [ef]
      intro v H' r'
      obtain ⟨f, x⟩ := r'.head
      obtain ⟨a, ys, g, rfl, h1, l⟩ := x.lstR
      exact ⟨a, rfl, ⟨ys, h1⟩, q2 _ H' [(.lst false xs, .ref a)] r' (wk_list hf3)⟩
    | tup xs =>
      obtain ⟨hf, rfl⟩ := ite_some ei
      refine wh _ (pi_tup h) ⟨ρ, P, rp, ?_⟩
      rw [ef]
      intro v H' r'
      obtain ⟨f, x⟩ := r'.head
      obtain ⟨a, ys, rfl, h1, l⟩ := x.tupR
      exact ⟨a, rfl, ⟨ys, h1⟩, q2 _ H' [(.tup xs, .ref a)] r' (wk_tup hf)⟩
    | str z =>
      cases ei
      refine wh _ (pi_str h) ⟨ρ, P, rp, ?_⟩
      rw [ef]
      intro v H' r'
      obtain ⟨f, x⟩ := r'.head
      exact ⟨z, x.strR, q2 _ H' [] r'.pop wk_str⟩
    | dic m ks vs =>
      obtain ⟨hf, rfl⟩ := ite_some ei
      have hf2 : (!m && D.isFL vs) = true := hf
      simp at hf2
      obtain ⟨rfl, hf3⟩ := hf2
      refine wh _ (pi_keys h) ⟨ρ, P, rp, ?_⟩
      rw [ef]
      intro v H' r'
      obtain ⟨f, x⟩ := r'.head
      cases x with
      | @fdic dd o kvv _ _ h1 h2 l =>
        have r2 : Rp X.K c σ H' ρ' ((.fact (fun H => H dd = some (.frz o (.dK kvv))), .ref dd) :: P) := r'.pop.push0 (.fact _ h1 fun H2 k => k _ _ _ h1)
        refine ⟨dd, o, rfl, .inl ⟨kvv, h1, q2 _ H' [(.fact (fun H => H dd = some (.frz o (.dK kvv))), .ref dd)] r2 (wk_keys h2 fun H2 ok => ?_)⟩⟩
        obtain ⟨f, x⟩ := ok _ (List.mem_singleton.mpr rfl)
        cases x with
        | fact _ h st => exact h
    | _ => cases ei
end
end DL

namespace DL
open PySem PySem.Spec PyProof.Rows L2

/-! ### a source by its data -/
theorem RelV.strE {z : Str} {u : Value} (r : RelV (.str z) u) : ∃ t, u = .str z t := r
/-- what a frozen sequence is as a source -/
theorem source_of {P : Program} {w : World} {K : PySem.W.Frag} {H : Hp} {d : D} {v : V} {u : Value} {f : List Addr} {ds : List D} (x : Dv K H d v f) (ru : RelV v u) (hi : items d = some ds) (hd : ∀ m ks vs, d ≠ .dic m ks vs) :
    ∃ (ex : List Addr) (St : Addr → Nat → Heap → Prop) (ζ : Type) (T : ζ → Heap → Prop) (nz : ζ → Nat) (Pd : ζ → Nat → Value → Prop), Src P w u ex St T nz Pd ∧
      ∀ (pins : List (Addr × Obj)) (X : Cx) (σ : L2.St) (H : Hp) (s : Shared), X.prog = P → X.w = w → X.K = K → Inv X pins σ H s → (∃ f, Dv K H d v f) → ∃ z, nz z = ds.length ∧ T z s.heap ∧ ∀ (i : Nat) (u' : Value), Pd z i u' → ∃ (x : V), RelV x u' ∧ ∃ (d' : D), ds[i]? = some d' ∧ Dv K H d' x [] := by
  have seq : ∀ {ds : List D} {xs : List V} {its : List Value} {g : List Addr} {H : Hp}, D.isFL ds = true → DvL K H ds xs g → Vals xs its → its.toArray.size = ds.length ∧ ∀ (i : Nat) (u' : Value), its.toArray[i]? = some u' → ∃ (x : V), RelV x u' ∧ ∃ (d' : D), ds[i]? = some d' ∧ Dv K H d' x [] := by
    intro ds xs its g H hf l r
    have l1 := l.length
    have l2 := r.length
    refine ⟨by simp; omega, fun i u' e => ?_⟩
    have e' : its[i]? = some u' := by simpa using e
    have hi : i < its.length := (List.getElem?_eq_some_iff.mp e').1
    obtain ⟨y, hy, ry⟩ := r.get (i := i) (x := xs[i]'(by omega)) (by simp)
    rw [e'] at hy; cases hy
    obtain ⟨v', f', e4, dv, _⟩ := (l.f0 hf).at (i := i) (d := ds[i]'(by omega)) (by simp)
    have e5 : xs[i]? = some (xs[i]'(by omega)) := by simp
    rw [e5] at e4; cases e4
    exact ⟨_, ry, ds[i]'(by omega), by simp, dv.f0 (by rw [D.isFL_eq, List.all_eq_true] at hf; exact hf _ (List.getElem_mem _))⟩
  cases d with
  | lst m xs =>
    obtain ⟨hf, rfl⟩ := ite_some hi
    have hf2 : (!m && D.isFL xs) = true := hf
    simp at hf2
    obtain ⟨a, ys, g, rfl, h1, l⟩ := x.lstR
    cases ru
    refine ⟨_, _, _, _, _, _, src_list a, fun pins X σ H s hP hw hK I ⟨f, x⟩ => ?_⟩
    obtain ⟨a', ys, g, e, h1, l⟩ := x.lstR
    cases e
    rw [← hK] at h1
    obtain ⟨its, r, p, hz⟩ := I.list h1
    obtain ⟨q1, q2⟩ := seq hf2.2 l r
    exact ⟨its.toArray, q1, p.isList, q2⟩
  | tup xs =>
    obtain ⟨hf, rfl⟩ := ite_some hi
    obtain ⟨a, ys, rfl, h1, l⟩ := x.tupR
    cases ru
    refine ⟨_, _, _, _, _, _, src_tuple a, fun pins X σ H s hP hw hK I ⟨f, x⟩ => ?_⟩
    obtain ⟨a', ys, e, h1, l⟩ := x.tupR
    cases e
    rw [← hK] at h1
    obtain ⟨its, r, p, hz⟩ := I.tuple h1
    obtain ⟨q1, q2⟩ := seq hf l r
    exact ⟨its.toArray, q1, p, q2⟩
  | str z =>
    cases hi
    have e := x.strR
    subst e
    obtain ⟨t, rfl⟩ := RelV.strE ru
    refine ⟨_, _, _, _, _, _, src_text z t, fun pins X σ H s hP hw hK I ⟨f, x⟩ => ⟨(), by simp, trivial, fun i u' ⟨k, t', e1, e2⟩ => ?_⟩⟩
    subst e2
    exact ⟨.str ⟨#[k]⟩, ⟨t', rfl⟩, .str ⟨#[k]⟩, by simp [e1], .str _⟩
  | dic m ks vs => exact absurd rfl (hd m ks vs)
  | _ => cases hi
def D.isDic : D → Bool
  | .dic _ _ _ => true
  | _ => false
/-- the items of a sequence, no dict -/
def itemsQ (d : D) : Option (List D) := if d.isDic = false then items d else none
theorem itemsQ_some {d : D} {ds : List D} (h : itemsQ d = some ds) : items d = some ds ∧ ∀ m ks vs, d ≠ .dic m ks vs := by
  unfold itemsQ at h
  split at h
  · rename_i e
    exact ⟨h, fun m ks vs z => by subst z; cases e⟩
  · cases h
theorem items_isF {d : D} {ds : List D} (h : items d = some ds) : d.isF = true := by
  cases d with
  | lst m xs => exact (ite_some h).1
  | tup xs => exact (ite_some h).1
  | dic m ks vs => exact (ite_some h).1
  | str z => rfl
  | _ => cases h
theorem wk_pairs {K : PySem.W.Frag} {ds : List D} {src : List (D × V)} {G : Hp → Prop} {Y : Nat → Hp → List V → Prop} (hG : ∀ H, SrcOk K H src → G H) (hY : ∀ i H ys, Y i H ys → ∃ es, ds[i]? = some (.tup es) ∧ DvL K H es ys []) : Wk K (ItP ds.length G Y) ds src := by
  intro H ok
  refine ⟨fun i hi => ⟨hi, hG H ok⟩, ⟨rfl, hG H ok⟩, fun i x H' hi yl => ?_⟩
  obtain ⟨T, xs, rfl, hT, rfl, hy⟩ := yl
  obtain ⟨es, e1, l⟩ := hY i H xs hy
  exact ⟨_, e1, fresh_tup l hT⟩
def enumFrom : Nat → List D → List D
  | _, [] => []
  | k, x :: xs => .tup [.int (k : Nat), x] :: enumFrom (k + 1) xs
theorem enumFrom_length : ∀ (xs : List D) (k : Nat), (enumFrom k xs).length = xs.length
  | [], _ => rfl
  | _ :: xs, k => congrArg (· + 1) (enumFrom_length xs (k + 1))
theorem enumFrom_get : ∀ (xs : List D) (k i : Nat) (d : D), xs[i]? = some d → (enumFrom k xs)[i]? = some (.tup [.int ((k + i : Nat) : Int), d])
  | [], _, _, _, h => by simp at h
  | x :: xs, k, 0, d, h => by simp at h; subst h; rfl
  | x :: xs, k, i + 1, d, h => by
    have := enumFrom_get xs (k + 1) i d (by simpa using h)
    show (enumFrom (k + 1) xs)[i]? = _
    rw [this]
    have e : k + 1 + i = k + (i + 1) := by omega
    rw [e]
def fEnum (f : FE) : FI := fun ρ => (f ρ).bind fun d ρ' => R.of ((itemsQ d).map (enumFrom 0)) ρ'
def fZip (f g : FE) : FI := fun ρ => (f ρ).bind fun d ρ1 => (g ρ1).bind fun e ρ2 => match itemsQ d, itemsQ e with
  | some xs, some ys => .ok (List.zipWith (fun x y => D.tup [x, y]) xs ys) ρ2
  | _, _ => .stk
section
variable {X : Cx} {c : Ct} {Ew : Xn → En → Prop} {e a b tg : Expr} {pos tpos p : Pos} {elts : List Expr} {kk : Nat}
theorem di_enum {f : FE} (hm : X.mg "enumerate" = none) (h : DE X c Ew e f) (hg : Gl X "enumerate" := by rfl) (hs : starEach [e] X.env = [(false, eval e X.env)] := by rfl) : DI X c Ew (.Tuple elts kk tpos) (.Call (.Name "enumerate" p) [e] [] pos) (fEnum f) := by
  refine ⟨fun pins s σ H RR I ⟨ρ, P, rp, q⟩ => ?_⟩
  unfold fEnum at q
  rw [R.sat_bind] at q
  refine Call_ (ld_blt I hg hm boot_enumerate (PyProof.Rows.callWith_type1 (thn ((pa_cons h pa_nil hs).run pos pins s σ H (fun vs H1 => ∃ v d ρ', vs = [v] ∧ Rp X.K c σ H1 ρ' ((d, v) :: P) ∧ (R.of ((itemsQ d).map (enumFrom 0)) ρ').sat (fun ds ρ' => ∀ J H' src, Rp X.K c σ H' ρ' (src ++ P) → Wk X.K J ds src → RR J H') Ew) I
    ⟨ρ, P, rp, q.imp fun d ρ' q v H1 r => ⟨v, d, ρ', rfl, r, q⟩⟩) fun us s1 ⟨vs, H1, I1, r1, q1⟩ => ?_) hs rfl))
  obtain ⟨v, d, ρ', rfl, r, q1⟩ := q1
  obtain ⟨ds, e1, q2⟩ := R.of_sat q1
  obtain ⟨xs, e2, e3⟩ := Option.map_eq_some_iff.mp e1
  subst e3
  obtain ⟨e4, nd⟩ := itemsQ_some e2
  cases r1 with
  | cons ru rr =>
    cases rr
    obtain ⟨f0, x0⟩ := r.head
    obtain ⟨ex, St, ζ, T, nz, Pd, S, src⟩ := source_of (P := X.prog) (w := X.w) x0 ru e4 nd
    have hl := enumFrom_length xs 0
    refine enum_come (G := fun H => ∃ f, Dv X.K H d v f) (Y := fun i H ys => ∃ x d', ys = [.int (i : Nat), x] ∧ xs[i]? = some d' ∧ Dv X.K H d' x []) (n := (enumFrom 0 xs).length) S I1 ⟨f0, x0⟩ (fun pins X' σ H s hP hw hK I g => ?_) (q2 _ H1 [(d, v)] r (wk_pairs (fun H ok => ok _ (List.mem_singleton.mpr rfl)) fun i H ys hy => ?_))
    · obtain ⟨z, h1, h2, h3⟩ := src pins X' σ H s hP hw hK I g
      refine ⟨z, by rw [h1, hl], h2, fun i u hu => ?_⟩
      obtain ⟨x, rx, d', h4, h5⟩ := h3 i u hu
      exact ⟨x, rx, x, d', rfl, h4, h5⟩
    · obtain ⟨x, d', rfl, h4, h5⟩ := hy
      have h6 := enumFrom_get xs 0 i d' h4
      rw [Nat.zero_add] at h6
      exact ⟨_, h6, .cons (f1 := []) (f2 := []) (.int _) (.cons (f1 := []) (f2 := []) h5 .nil)⟩
theorem di_zip {f g : FE} (hm : X.mg "zip" = none) (h : DE X c Ew a f) (h' : DE X c Ew b g) (hg : Gl X "zip" := by rfl) (hs : starEach [a, b] X.env = (false, eval a X.env) :: starEach [b] X.env := by rfl) (hs2 : starEach [b] X.env = (false, eval b X.env) :: starEach [] X.env := by rfl) (hpl : (backTo pos (starEach [b] X.env)).any (·.1) = false := by rfl) :
    DI X c Ew (.Tuple elts kk tpos) (.Call (.Name "zip" p) [a, b] [] pos) (fZip f g) := by
  refine ⟨fun pins s σ H RR I ⟨ρ, P, rp, q⟩ => ?_⟩
  unfold fZip at q
  rw [R.sat_bind] at q
  refine Call_ (ld_blt I hg hm PyProof.Rows.boot_zip (PyProof.Rows.callWith_type1 (thn ((pa_cons h (pa_cons h' pa_nil hs2) hs).run pos pins s σ H (fun vs H1 => ∃ v d v2 d2 ρ', vs = [v, v2] ∧ Rp X.K c σ H1 ρ' ((d2, v2) :: (d, v) :: P) ∧ (match itemsQ d, itemsQ d2 with
      | some xs, some ys => R.ok (List.zipWith (fun x y => D.tup [x, y]) xs ys) ρ'
      | _, _ => .stk).sat (fun ds ρ' => ∀ J H' src, Rp X.K c σ H' ρ' (src ++ P) → Wk X.K J ds src → RR J H') Ew) I
    ⟨ρ, P, rp, q.imp fun d ρ1 q v H1 r => ⟨ρ1, (d, v) :: P, r, (by rw [R.sat_bind] at q; exact q.imp fun d2 ρ2 q v2 H2 r2 => ⟨v, d, v2, d2, ρ2, rfl, r2, q⟩)⟩⟩) fun us s1 ⟨vs, H1, I1, r1, q1⟩ => ?_) hs hpl))
  obtain ⟨v, d, v2, d2, ρ', rfl, r, q1⟩ := q1
  cases e2 : itemsQ d with
  | none => rw [e2] at q1; exact q1.elim
  | some xs =>
    cases e3 : itemsQ d2 with
    | none => rw [e2, e3] at q1; exact q1.elim
    | some ys =>
      rw [e2, e3] at q1
      obtain ⟨e4, nd⟩ := itemsQ_some e2
      obtain ⟨e5, nd2⟩ := itemsQ_some e3
      cases r1 with
      | cons ru rr =>
        cases rr with
        | cons ru2 rr =>
          cases rr
          obtain ⟨f2, x2⟩ := r.head
          obtain ⟨f0, x0⟩ := r.pop.head
          obtain ⟨ex, St, ζ, T, nz, Pd, S, src⟩ := source_of (P := X.prog) (w := X.w) x0 ru e4 nd
          obtain ⟨ex2, St2, ζ2, T2, nz2, Pd2, S2, src2⟩ := source_of (P := X.prog) (w := X.w) x2 ru2 e5 nd2
          have hl : (List.zipWith (fun x y => D.tup [x, y]) xs ys).length = min xs.length ys.length := List.length_zipWith
          refine zip_come (G := fun H => (∃ f, Dv X.K H d v f) ∧ ∃ f, Dv X.K H d2 v2 f) (Y := fun i H zs => ∃ x y d' e', zs = [x, y] ∧ xs[i]? = some d' ∧ Dv X.K H d' x [] ∧ ys[i]? = some e' ∧ Dv X.K H e' y []) (n := (List.zipWith (fun x y => D.tup [x, y]) xs ys).length) S S2 I1 ⟨⟨f0, x0⟩, ⟨f2, x2⟩⟩
            (fun pins X' σ H s hP hw hK I g => ?_) (q1 _ H1 [(d2, v2), (d, v)] r (wk_pairs (fun H ok => ⟨ok (d, v) (by simp), ok (d2, v2) (by simp)⟩) fun i H zs hy => ?_))
          · obtain ⟨z, h1, h2, h3⟩ := src pins X' σ H s hP hw hK I g.1
            obtain ⟨z2, k1, k2, k3⟩ := src2 pins X' σ H s hP hw hK I g.2
            refine ⟨z, z2, by rw [h1, k1, hl], h2, k2, fun i u u2 hu hu2 => ?_⟩
            obtain ⟨x, rx, d', h4, h5⟩ := h3 i u hu
            obtain ⟨y, ry, e', k4, k5⟩ := k3 i u2 hu2
            exact ⟨x, y, rx, ry, x, y, d', e', rfl, h4, h5, k4, k5⟩
          · obtain ⟨x, y, d', e', rfl, h4, h5, k4, k5⟩ := hy
            refine ⟨[d', e'], ?_, .cons (f1 := []) (f2 := []) h5 (.cons (f1 := []) (f2 := []) k5 .nil)⟩
            rw [List.getElem?_zipWith, h4, k4]
/-! ### ranges -/
def rangeL (lo : Int) (n : Nat) : List D := (List.range n).map fun k => .int (lo + (k : Nat))
def big62 (i : Int) : Prop := -(2 ^ 62) ≤ i ∧ i < 2 ^ 62
instance : DecidablePred big62 := fun i => inferInstanceAs (Decidable (-(2 ^ 62) ≤ i ∧ i < 2 ^ 62))
theorem wk_range {K : PySem.W.Frag} {lo : Int} {n : Nat} : Wk K (Itr lo n) (rangeL lo n) [] := by
  intro H ok
  have hl : (rangeL lo n).length = n := by simp [rangeL]
  rw [hl]
  refine ⟨fun i hi => hi, Nat.le_refl _, fun i x H' hi yl => ?_⟩
  obtain ⟨rfl, rfl⟩ := yl
  exact ⟨.int (lo + (i : Nat)), by simp [rangeL, hi], fresh_int⟩
def fRange1 (f : FO) : FI := fun ρ => (f ρ).bind fun a ρ1 => match res a ρ1 with
  | some (.int j) => if big62 j then .ok (rangeL 0 j.toNat) ρ1 else .stk
  | _ => .stk
theorem di_range1 {f : FO} (hm : X.mg "range" = none) (h : DO X c Ew a f) (hg : Gl X "range" := by rfl) (hs : starEach [a] X.env = [(false, eval a X.env)] := by rfl) : DI X c Ew tg (.Call (.Name "range" p) [a] [] pos) (fRange1 f) := (pi_range1 hg hm (pa_cons h pa_nil hs) hs).dimp fun σ H RR ⟨ρ, P, rp, q⟩ => by
  unfold fRange1 at q
  rw [R.sat_bind] at q
  refine ⟨ρ, P, rp, q.imp fun x ρ1 q v H1 Pn r1 oka => ?_⟩
  split at q
  · rename_i j ej
    split at q
    · rename_i hb
      obtain ⟨f, dv⟩ := oka.dv r1 ej
      have e := dv.intR
      subst e
      exact ⟨j, rfl, hb.1, hb.2, q _ H1 [] r1.pops wk_range⟩
    · exact q.elim
  · exact q.elim
def fRange2 (f g : FO) : FI := fun ρ => (f ρ).bind fun a ρ1 => (g ρ1).bind fun b ρ2 => match res a ρ2, res b ρ2 with
  | some (.int i), some (.int j) => if big62 i ∧ big62 j then .ok (rangeL i (j - i).toNat) ρ2 else .stk
  | _, _ => .stk
theorem di_range2 {f g : FO} (hm : X.mg "range" = none) (h : DO X c Ew a f) (h' : DO X c Ew b g) (hg : Gl X "range" := by rfl) (hs : starEach [a, b] X.env = [(false, eval a X.env), (false, eval b X.env)] := by rfl) (hs2 : starEach [b] X.env = [(false, eval b X.env)] := by rfl) : DI X c Ew tg (.Call (.Name "range" p) [a, b] [] pos) (fRange2 f g) := (pi_range2 hg hm (pa_cons h (pa_cons h' pa_nil hs2) (hs.trans (by rw [hs2]))) hs hs2).dimp fun σ H RR ⟨ρ, P, rp, q⟩ => by
  unfold fRange2 at q
  rw [R.sat_bind] at q
  refine ⟨ρ, P, rp, q.imp fun x ρ1 q v H1 Pn r1 oka => ⟨ρ1, Pn ++ P, r1, ?_⟩⟩
  rw [R.sat_bind] at q
  refine q.imp fun y ρ2 q u H2 Pm r2 okb => ?_
  split at q
  · rename_i i j ei ej
    split at q
    · rename_i hb
      obtain ⟨f, dv⟩ := (oka.up Pm).dv r2 ei
      obtain ⟨f2, dv2⟩ := okb.dv r2 ej
      have e := dv.intR
      have e2 := dv2.intR
      subst e e2
      exact ⟨i, j, rfl, ⟨hb.1.1, hb.1.2, hb.2.1, hb.2.2⟩, q _ H2 [] r2.pops.pops wk_range⟩
    · exact q.elim
  · exact q.elim
def rangeLC (lo cc : Int) (n : Nat) : List D := (List.range n).map fun k => .int (lo + (k : Nat) * cc)
theorem wk_rangeC {K : PySem.W.Frag} {lo cc : Int} {n : Nat} : Wk K (Itc lo cc n) (rangeLC lo cc n) [] := by
  intro H ok
  have hl : (rangeLC lo cc n).length = n := by simp [rangeLC]
  rw [hl]
  refine ⟨fun i hi => hi, Nat.le_refl _, fun i x H' hi yl => ?_⟩
  obtain ⟨rfl, rfl⟩ := yl
  exact ⟨.int (lo + (i : Nat) * cc), by simp [rangeLC, hi], fresh_int⟩
/-- range(i, j, -1) -/
def fRange3 (f g k : FO) : FI := fun ρ => (f ρ).bind fun a ρ1 => (g ρ1).bind fun b ρ2 => (k ρ2).bind fun d ρ3 => match res a ρ3, res b ρ3, res d ρ3 with
  | some (.int i), some (.int j), some (.int cc) => if big62 i ∧ big62 j ∧ cc = -1 then .ok (rangeLC i (-1) (i - j).toNat) ρ3 else .stk
  | _, _, _ => .stk
theorem di_range3 {f g k : FO} {d : Expr} (hm : X.mg "range" = none) (h : DO X c Ew a f) (h' : DO X c Ew b g) (h'' : DO X c Ew d k) (hpi : ∀ {t : TA}, PA X [a, b, d] t → PI X tg (.Call (.Name "range" p) [a, b, d] [] pos) (iRng3 t)) (hs : starEach [a, b, d] X.env = (false, eval a X.env) :: starEach [b, d] X.env := by rfl) (hs2 : starEach [b, d] X.env = (false, eval b X.env) :: starEach [d] X.env := by rfl) (hs3 : starEach [d] X.env = (false, eval d X.env) :: starEach [] X.env := by rfl) :
    DI X c Ew tg (.Call (.Name "range" p) [a, b, d] [] pos) (fRange3 f g k) := (hpi (pa_cons h (pa_cons h' (pa_cons h'' pa_nil hs3) hs2) hs)).dimp fun σ H RR ⟨ρ, P, rp, q⟩ => by
  unfold fRange3 at q
  rw [R.sat_bind] at q
  refine ⟨ρ, P, rp, q.imp fun x ρ1 q v H1 Pn r1 oka => ⟨ρ1, Pn ++ P, r1, ?_⟩⟩
  rw [R.sat_bind] at q
  refine q.imp fun y ρ2 q u H2 Pm r2 okb => ⟨ρ2, Pm ++ (Pn ++ P), r2, ?_⟩
  rw [R.sat_bind] at q
  refine q.imp fun z ρ3 q w H3 Pk r3 okd => ?_
  split at q
  · rename_i i j cc ei ej ec
    split at q
    · rename_i hb
      obtain ⟨f, dv⟩ := ((oka.up Pm).up Pk).dv r3 ei
      obtain ⟨f2, dv2⟩ := (okb.up Pk).dv r3 ej
      obtain ⟨f3, dv3⟩ := okd.dv r3 ec
      have e := dv.intR
      have e2 := dv2.intR
      have e3 := dv3.intR
      subst e e2 e3
      obtain ⟨h1, h2, rfl⟩ := hb
      exact ⟨i, j, -1, _, rfl, RgC.neg h1.1 h1.2 h2.1 h2.2, q _ H3 [] r3.pops.pops.pops wk_rangeC⟩
    · exact q.elim
  · exact q.elim

/-! ### for, while -/
def forF (g : FG) (body : FS) : List D → FS
  | [], ρ => .nx ρ
  | d :: ds, ρ => match g d ρ with
    | none => .stk
    | some ρ1 => match body ρ1 with
      | .nx ρ2 => forF g body ds ρ2
      | .ct ρ2 => forF g body ds ρ2
      | .bk ρ2 => .nx ρ2
      | r => r
def fFor (fi : FI) (g : FG) (body : FS) : FS := fun ρ => (fi ρ).bindS fun ds ρ' => forF g body ds ρ'
theorem Rp.under {K : PySem.W.Frag} {σ : L2.St} {H : Hp} {ρ : En} {P src : List (D × V)} {x : D × V} (r : Rp K c σ H ρ (x :: (src ++ P))) : Rp K c σ H ρ (x :: P) := by
  have : Rp K c σ H ρ (src ++ (x :: P)) := r.perm (by
    have := perm3 [x] src P
    simpa using this)
  exact this.pops
theorem ds_for {iter : Expr} {body : List Stmt} {fi : FI} {g : FG} {fb : FS} (hp : PassesOwn (model X.prog X.w) X.A X.env X.xe) (hc : X.calm = true) (hi : DI X c Ew tg iter fi) (hg : DG X c tg g) (hb : DSs X c Ew body fb)
    (hs : ∀ x, foldedSetIterable iter X.env x = pure x := by intro _; rfl) : DS X c Ew (.For tg iter body [] pos) (fFor fi g fb) := (ps_for hp hc hi hg hb hs).dimp fun Z σ H ⟨ρ, P, r, q⟩ => by
  refine ⟨ρ, P, r, (R.satS q).imp fun ds ρ' q J H1 src r1 wk => ?_⟩
  refine ⟨fun i m σ H => m = ds.length - i ∧ i ≤ ds.length ∧ ∃ ρ, Rp X.K c σ H ρ (src ++ P) ∧ SR.sat X.K c Ew P Z (forF g fb (ds.drop i) ρ), ⟨_, rfl, Nat.zero_le _, ρ', r1, q⟩, ?_⟩
  rintro i m σ H ⟨rfl, hi, ρ, r, q⟩
  have ok : SrcOk X.K H src := fun p hp => Rp.mem (List.mem_append_left _ hp) r
  obtain ⟨w1, w2, w3⟩ := wk H ok
  by_cases hlt : i < ds.length
  · refine .inr ⟨w1 i hlt, fun σ' H' => ∃ ρ, Rp X.K c σ' H' ρ (src ++ P) ∧ SR.sat X.K c Ew P Z (forF g fb (ds.drop (i + 1)) ρ), fun σ' H' ⟨ρ2, r2, q2⟩ => ⟨ds.length - (i + 1), by omega, rfl, hlt, ρ2, r2, q2⟩, fun x H' yl => ?_⟩
    obtain ⟨d, e1, fr⟩ := w3 i x H' hlt yl
    have e2 : ds.drop i = d :: ds.drop (i + 1) := by
      rw [List.drop_eq_getElem_cons hlt]
      rw [List.getElem?_eq_getElem hlt] at e1
      cases e1; rfl
    rw [e2] at q
    unfold forF at q
    cases eg : g d ρ with
    | none => rw [eg] at q; exact q.elim
    | some ρ1 =>
      rw [eg] at q
      have q : SR.sat X.K c Ew P Z (match fb ρ1 with
        | .nx ρ2 => forF g fb (ds.drop (i + 1)) ρ2
        | .ct ρ2 => forF g fb (ds.drop (i + 1)) ρ2
        | .bk ρ2 => .nx ρ2
        | r => r) := q
      refine ⟨d, ρ, src ++ P, Rp.fresh r fr, ρ1, eg, fun σ2 H2 r2 => ⟨ρ1, src ++ P, r2, ?_⟩⟩
      cases eb : fb ρ1 with
      | nx ρ2 => rw [eb] at q; exact fun σ3 H3 r3 => ⟨ρ2, r3, q⟩
      | ct ρ2 => rw [eb] at q; exact fun σ3 H3 r3 => ⟨ρ2, r3, q⟩
      | bk ρ2 => rw [eb] at q; exact fun σ3 H3 r3 => q σ3 H3 r3.pops
      | rt d' ρ2 => rw [eb] at q; exact fun v σ3 H3 r3 => q v σ3 H3 r3.under
      | exc x ρ2 => rw [eb] at q; exact q
      | stk => rw [eb] at q; exact q
  · have e : i = ds.length := by omega
    subst e
    rw [List.drop_length] at q
    exact .inl ⟨w2, q σ H r.pops⟩
def whileF (t : FB) (body : FS) : Nat → FS
  | 0, _ => .stk
  | n + 1, ρ => (t ρ).bindS fun b ρ1 => if b then match body ρ1 with
      | .nx ρ2 => whileF t body n ρ2
      | .ct ρ2 => whileF t body n ρ2
      | .bk ρ2 => .nx ρ2
      | r => r
    else .nx ρ1
theorem ds_while {t : Expr} {body : List Stmt} {ft : FB} {fb : FS} (n : Nat) (hp : PassesOwn (model X.prog X.w) X.A X.env X.xe) (ht : DT X c Ew t ft) (hb : DSs X c Ew body fb) : DS X c Ew (.While t body [] pos) (whileF ft fb n) := (ps_while hp ht hb).dimp fun Z σ H ⟨ρ, P, r, q⟩ => by
  refine ⟨fun m σ H => ∃ ρ, Rp X.K c σ H ρ P ∧ SR.sat X.K c Ew P Z (whileF ft fb m ρ), ⟨n, ρ, r, q⟩, ?_⟩
  rintro m σ H ⟨ρ, r, q⟩
  cases m with
  | zero => exact q.elim
  | succ m =>
    unfold whileF at q
    refine ⟨ρ, P, r, (R.satS q).imp fun b ρ1 q H1 r1 => ?_⟩
    cases b with
    | false => exact q σ H1 r1
    | true =>
      refine ⟨fun σ' H' => ∃ ρ, Rp X.K c σ' H' ρ P ∧ SR.sat X.K c Ew P Z (whileF ft fb m ρ), fun σ' H' h => ⟨m, Nat.lt_succ_self m, h⟩, ρ1, P, r1, ?_⟩
      have q : SR.sat X.K c Ew P Z (match fb ρ1 with
        | .nx ρ2 => whileF ft fb m ρ2
        | .ct ρ2 => whileF ft fb m ρ2
        | .bk ρ2 => .nx ρ2
        | r => r) := q
      cases eb : fb ρ1 with
      | nx ρ2 => rw [eb] at q; exact fun σ3 H3 r3 => ⟨ρ2, r3, q⟩
      | ct ρ2 => rw [eb] at q; exact fun σ3 H3 r3 => ⟨ρ2, r3, q⟩
      | bk ρ2 => rw [eb] at q; exact fun σ3 H3 r3 => q σ3 H3 r3
      | rt d' ρ2 => rw [eb] at q; exact fun v σ3 H3 r3 => q v σ3 H3 r3
      | exc x ρ2 => rw [eb] at q; exact q
      | stk => rw [eb] at q; exact q
end
end DL

namespace DL
open PySem PySem.Spec PyProof.Rows L2

/-! ### comprehensions -/
def R.nox {α : Type} (r : R α) : R α := match r with
  | .exc _ _ => .stk
  | r => r
theorem R.nox_sat {α : Type} {r : R α} {ok : α → En → Prop} {ex ex' : Xn → En → Prop} (h : r.nox.sat ok ex) : r.sat ok ex' := by
  cases r with
  | ok a ρ => exact h
  | exc x ρ => exact h.elim
  | stk => exact h.elim
@[simp] theorem R.nox_ok {α : Type} (a : α) (ρ : En) : (R.ok a ρ).nox = .ok a ρ := rfl
def wipeD (ρ : En) : List Nat → En
  | [] => ρ
  | v :: vs => (wipeD ρ vs).set v none
def restD (ρ : En) : List Nat → En → En
  | [], ρ2 => ρ2
  | v :: vs, ρ2 => restD ρ vs (ρ2.set v (slot (wipeD ρ vs) v))
/-- the slots that are not vs -/
def zOf (n : Nat) (vs : List Nat) : List Nat := (List.range n).filter fun j => !vs.contains j
theorem wipe_get {σ : L2.St} {j : Nat} : ∀ {vs : List Nat}, (wipe σ vs)[j]? = if j ∈ vs then (if j < σ.length then some none else none) else σ[j]?
  | [] => by simp [wipe]
  | v :: vs => by
    unfold wipe
    by_cases e : v = j
    · subst e
      by_cases hj : v < σ.length
      · rw [List.getElem?_set_self (by rw [wipe_length]; exact hj)]; simp [hj]
      · rw [List.getElem?_eq_none (by rw [List.length_set, wipe_length]; omega)]; simp [hj]
    · rw [List.getElem?_set_ne e, wipe_get]
      have : (j ∈ v :: vs) ↔ (j ∈ vs) := by simp [Ne.symm e]
      by_cases h : j ∈ vs
      · rw [if_pos h, if_pos (this.mpr h)]
      · rw [if_neg h, if_neg (fun q => h (this.mp q))]
/-- the block's frame -/
def Ct.blk (c : Ct) (n : Nat) (vs : List Nat) (σ : L2.St) : Ct := ⟨c.Hk, zOf n vs, wipe σ vs⟩
theorem blk_back {c : Ct} {n : Nat} {vs : List Nat} {σ σ2 : L2.St} (hn : σ.length = n) (h : (c.blk n vs σ).zs σ2) : wipe σ2 vs = wipe σ vs := by
  obtain ⟨h1, h2⟩ := h
  have h1 : σ2.length = (wipe σ vs).length := h1
  rw [wipe_length] at h1
  apply List.ext_getElem?
  intro j
  rw [wipe_get, wipe_get, h1]
  by_cases hj : j ∈ vs
  · rw [if_pos hj, if_pos hj]
  · rw [if_neg hj, if_neg hj]
    by_cases hl : j < n
    · have := h2 j (by
        show j ∈ zOf n vs
        unfold zOf
        simp [hl, hj])
      have this : σ2[j]? = (wipe σ vs)[j]? := this
      rw [this, wipe_get, if_neg hj]
    · rw [List.getElem?_eq_none (by omega), List.getElem?_eq_none (by omega)]
section
variable {K : PySem.W.Frag} {c : Ct} {H H' : Hp} {σ : L2.St} {ρ : En} {P : List (D × V)} {d : D} {v : V} {i : Nat}
theorem Rp.recast {c' : Ct} (r : Rp K c σ H ρ P) (e : c'.Hk = c.Hk) (z : c'.zs σ) : Rp K c' σ H ρ P := by
  obtain ⟨fs, fp, h1, h2, h3, h4, hz⟩ := r
  exact ⟨fs, fp, h1, h2, by rw [e]; exact h3, by rw [e]; exact h4, z⟩
theorem Rp.zs (r : Rp K c σ H ρ P) : c.zs σ := by
  obtain ⟨fs, fp, h1, h2, h3, h4, hz⟩ := r
  exact hz
theorem Rp.wipe1 {Hk : Hp} {σ0 : L2.St} (v : Nat) (r : Rp K ⟨Hk, [], σ0⟩ σ H ρ P) : ∃ Ps, Rp K ⟨Hk, [], σ0⟩ (σ.set v none) H (ρ.set v none) (Ps ++ P) ∧
    ∀ ρ2 H2 P', Rp K ⟨Hk, [], σ0⟩ (σ.set v none) H2 ρ2 (Ps ++ P') → Rp K ⟨Hk, [], σ0⟩ σ H2 (ρ2.set v (DL.slot ρ v)) P' := by
  by_cases hv : v < σ.length
  · cases es : DL.slot ρ v with
    | none =>
      refine ⟨[], r.drop v none (by simp), fun ρ2 H2 P' r2 => ?_⟩
      have := r2.drop v σ[v] (by simp)
      rw [List.set_set, List.set_getElem_self hv] at this
      exact this
    | some d =>
      obtain ⟨x, e1, r1⟩ := r.take (slot_some es)
      have r2 := r1.drop v none (by simp)
      rw [List.set_set] at r2
      refine ⟨[(d, x)], r2, fun ρ2 H2 P' r2 => ?_⟩
      have r3 := r2.drop v σ[v] (by simp)
      rw [List.set_set, List.set_getElem_self hv] at r3
      have r4 := Rp.put (i := v) r3 e1
      rw [List.set_set] at r4
      exact r4
  · have e : ∀ o, σ.set v o = σ := fun o => List.set_eq_of_length_le (by omega)
    have e2 : ρ.set v none = ρ := List.set_eq_of_length_le (by have := r.len; omega)
    refine ⟨[], by rw [e, e2]; exact r, fun ρ2 H2 P' r2 => ?_⟩
    rw [e] at r2
    have r2 : Rp K ⟨Hk, [], σ0⟩ σ H2 ρ2 P' := r2
    have e3 : ρ2.set v (DL.slot ρ v) = ρ2 := List.set_eq_of_length_le (by have := r2.len; omega)
    rw [e3]; exact r2
theorem Rp.wipes {Hk : Hp} {σ0 : L2.St} : ∀ (vs : List Nat) {P : List (D × V)}, Rp K ⟨Hk, [], σ0⟩ σ H ρ P → ∃ Ps, Rp K ⟨Hk, [], σ0⟩ (wipe σ vs) H (wipeD ρ vs) (Ps ++ P) ∧
    ∀ ρ2 H2 P', Rp K ⟨Hk, [], σ0⟩ (wipe σ vs) H2 ρ2 (Ps ++ P') → Rp K ⟨Hk, [], σ0⟩ σ H2 (restD ρ vs ρ2) P'
  | [], P, r => ⟨[], r, fun _ _ _ r => r⟩
  | v :: vs, P, r => by
    obtain ⟨Ps, r1, back⟩ := Rp.wipes vs r
    obtain ⟨Pv, r2, back1⟩ := Rp.wipe1 v r1
    refine ⟨Pv ++ Ps, by rw [List.append_assoc]; exact r2, fun ρ2 H2 P' r3 => ?_⟩
    rw [List.append_assoc] at r3
    exact back _ _ _ (back1 _ _ _ r3)
theorem Rp.block (n : Nat) (vs : List Nat) (r : Rp K c σ H ρ P) : ∃ Ps, Rp K (c.blk n vs σ) (wipe σ vs) H (wipeD ρ vs) (Ps ++ P) ∧
    ∀ ρ2 H2 P', Rp K (c.blk n vs σ) (wipe σ vs) H2 ρ2 (Ps ++ P') → Rp K c σ H2 (restD ρ vs ρ2) P' := by
  have z0 : ∀ τ : L2.St, τ.length = σ.length → (⟨c.Hk, [], σ⟩ : Ct).zs τ := fun τ e => ⟨e, fun j hj => nomatch hj⟩
  obtain ⟨Ps, r1, back⟩ := Rp.wipes (σ0 := σ) vs (r.recast (c' := ⟨c.Hk, [], σ⟩) rfl (z0 _ rfl))
  refine ⟨Ps, r1.recast rfl ⟨rfl, fun _ _ => rfl⟩, fun ρ2 H2 P' r2 => ?_⟩
  exact (back ρ2 H2 P' (r2.recast rfl (z0 _ (wipe_length σ vs)))).recast rfl r.zs
theorem DvL.uncons {ds : List D} {vs : List V} {f : List Addr} (h : DvL K H (d :: ds) (v :: vs) f) : ∃ f1 f2, f = f1 ++ f2 ∧ Dv K H d v f1 ∧ DvL K H ds vs f2 := by
  cases h with
  | cons x l => exact ⟨_, _, rfl, x, l⟩
theorem DvL.unnil {f : List Addr} (h : DvL K H [] [] f) : f = [] := by cases h; rfl
theorem Dv.own {ds : List D} {f : List Addr} (h : Dv K H (.lst true ds) v f) : ∃ a xs g, v = .ref a ∧ f = a :: g ∧ H a = some (.lst xs) ∧ DvL K H ds xs g := by
  cases h with
  | olst h l => exact ⟨_, _, _, rfl, rfl, h, l⟩
theorem Dv.ownD {ks : List Key} {ds : List D} {f : List Addr} (h : Dv K H (.dic true ks ds) v f) : ∃ a kvv g, v = .ref a ∧ f = a :: g ∧ H a = some (.dK kvv) ∧ kvv.map (·.1) = ks ∧ DvL K H ds (kvv.map (·.2)) g := by
  cases h with
  | odic h e l => exact ⟨_, _, _, rfl, rfl, h, e, l⟩
/-- the top of P is worked on: what it owns may change, and what it comes to owns that or what is new -/
theorem Rp.step2 (Po : List (D × V)) (r : Rp K c σ H ρ (Po ++ P)) : ∃ fp, DvL K H (Po.map (·.1)) (Po.map (·.2)) fp ∧ fp.Nodup ∧ ∀ (H' : Hp) (Pn : List (D × V)) (fp' : List Addr),
    (∀ a o, a ∉ fp → H a = some o → H' a = some o) → DvL K H' (Pn.map (·.1)) (Pn.map (·.2)) fp' → fp'.Nodup → (∀ a ∈ fp', a ∈ fp ∨ H a = none) → Rp K c σ H' ρ (Pn ++ P) := by
  obtain ⟨fs, fp, h1, h2, h3, h4, hz⟩ := r
  obtain ⟨f1, f2, rfl, a, b⟩ := split_pend h2
  have s2 : Sep c.Hk (f1 ++ (fs ++ f2)) := h3.perm (perm3 _ _ _)
  refine ⟨f1, a, s2.left.1, fun H' Pn fp' w2 c1 nd w3 => ?_⟩
  have hW : ∀ a ∈ f1, Mut (H a) := a.mut
  have kn : ∀ x, H x = none → c.Hk x = none := fun x e => by
    cases e1 : c.Hk x with
    | none => rfl
    | some u => rw [h4 x u e1] at e; cases e
  refine ⟨fs, fp' ++ f2, h1.keep w2 hW fun x z z' => s2.apart z' (List.mem_append_left _ z), ?_, ?_, fun x o e => w2 x o (fun z => ?_) (h4 x o e), hz⟩
  · rw [List.map_append, List.map_append]
    exact c1.append (b.keep w2 hW fun x z z' => s2.apart z' (List.mem_append_right _ z))
  · have s3 : Sep c.Hk (fp' ++ (fs ++ f2)) := by
      refine ⟨List.nodup_append.mpr ⟨nd, s2.right.1, fun x zx y zy e => ?_⟩, fun x z => ?_⟩
      · subst e
        rcases w3 x zx with q | q
        · exact s2.apart q zy
        · rcases List.mem_append.mp zy with z | z
          · have := h1.mut x z; rw [q] at this; exact this
          · have := b.mut x z; rw [q] at this; exact this
      · rcases List.mem_append.mp z with z | z
        · rcases w3 x z with q | q
          · exact s2.2 x (List.mem_append_left _ q)
          · exact kn x q
        · exact s2.right.2 x z
    exact s3.perm (perm3 _ _ _)
  · have := s2.2 x (List.mem_append_left _ z)
    rw [this] at e; cases e
theorem Rp.step {Pn : List (D × V)} (Po : List (D × V)) (r : Rp K c σ H ρ (Po ++ P))
    (h : ∀ fp, DvL K H (Po.map (·.1)) (Po.map (·.2)) fp → fp.Nodup → (∀ a o, a ∉ fp → H a = some o → H' a = some o) ∧ ∃ fp', DvL K H' (Pn.map (·.1)) (Pn.map (·.2)) fp' ∧ fp'.Nodup ∧ ∀ a ∈ fp', a ∈ fp ∨ H a = none) : Rp K c σ H' ρ (Pn ++ P) := by
  obtain ⟨fp, h1, h2, k⟩ := r.step2 Po
  obtain ⟨w, fp', h3, h4, h5⟩ := h fp h1 h2
  exact k H' Pn fp' w h3 h4 h5
theorem Rp.wipe0 {Hk : Hp} {σ0 : L2.St} : ∀ (vs : List Nat), Rp K ⟨Hk, [], σ0⟩ σ H ρ P → Rp K ⟨Hk, [], σ0⟩ (wipe σ vs) H (wipeD ρ vs) P
  | [], r => r
  | v :: vs, r => (Rp.wipe0 vs r).drop v none (by simp)
theorem Rp.wiped {n : Nat} {vs : List Nat} {σ2 : L2.St} (r : Rp K (c.blk n vs σ) σ2 H ρ P) (e : wipe σ2 vs = wipe σ vs) : Rp K (c.blk n vs σ) (wipe σ vs) H (wipeD ρ vs) P := by
  have r1 := Rp.wipe0 vs (r.recast (c' := ⟨c.Hk, [], σ2⟩) rfl ⟨rfl, fun j hj => nomatch hj⟩)
  rw [e] at r1
  exact r1.recast rfl ⟨rfl, fun _ _ => rfl⟩
/-- an item is appended to the list at the top -/
theorem Rp.app1 {acc : List D} {a : Addr} {y : V} (r : Rp K c σ H ρ ((d, y) :: (.lst true acc, .ref a) :: P)) : ∃ xs, H a = some (.lst xs) ∧ xs.length = acc.length ∧ Rp K c σ (upd H a (.lst (xs ++ [y]))) ρ ((.lst true (acc ++ [d]), .ref a) :: P) := by
  obtain ⟨f0, x0⟩ := r.pop.head
  cases x0 with
  | @olst _ xs _ fp0 h1 l0 =>
    refine ⟨xs, h1, l0.length.symm, Rp.step (Pn := [(.lst true (acc ++ [d]), .ref a)]) [(d, y), (.lst true acc, .ref a)] r fun fp lp nd => ?_⟩
    have lp : DvL K H [d, .lst true acc] [y, .ref a] fp := lp
    obtain ⟨f1, f2, rfl, x1, lp⟩ := lp.uncons
    obtain ⟨f3, f4, rfl, x2, lp⟩ := lp.uncons
    have e4 := lp.unnil
    subst e4
    obtain ⟨a', xs', fp3, e, rfl, h2, l⟩ := x2.own
    cases e
    rw [h1] at h2
    cases h2
    have nd' := nd
    rw [List.append_nil] at nd
    obtain ⟨n1, n2, n3⟩ := List.nodup_append.mp nd
    have n4 := List.nodup_cons.mp n2
    have hk : ∀ b o, b ∉ [a] → H b = some o → upd H a (.lst (xs ++ [y])) b = some o := fun b o hb e => by
      rw [upd_ne (by simpa using hb)]; exact e
    have hW : ∀ b ∈ [a], Mut (H b) := fun b hb => by
      rw [List.mem_singleton.mp hb, h1]; trivial
    refine ⟨fun b o hb e => hk b o (fun z => hb (by rw [List.mem_singleton.mp z]; simp)) e, a :: (fp3 ++ (f1 ++ [])), ?_, ?_, ?_⟩
    · have l2 : DvL K (upd H a (.lst (xs ++ [y]))) (acc ++ [d]) (xs ++ [y]) (fp3 ++ (f1 ++ [])) := (l.keep hk hW fun b z z' => n4.1 (by rw [List.mem_singleton.mp z'] at z; exact z)).append (.cons (f2 := []) (x1.keep hk hW fun b z z' => n3 b z a (by simp) (List.mem_singleton.mp z')) .nil)
      have l3 : DvL K (upd H a (.lst (xs ++ [y]))) [.lst true (acc ++ [d])] [.ref a] ((a :: (fp3 ++ (f1 ++ []))) ++ []) := .cons (.olst (by simp [upd]) l2) .nil
      rw [List.append_nil] at l3
      exact l3
    · rw [List.append_nil]
      refine List.nodup_cons.mpr ⟨fun z => ?_, List.nodup_append.mpr ⟨n4.2, n1, fun b hb b' hb' e => n3 b' hb' b (List.mem_cons_of_mem _ hb) e.symm⟩⟩
      rcases List.mem_append.mp z with z | z
      · exact n4.1 z
      · exact n3 a z a (by simp) rfl
    · intro b hb
      simp at hb ⊢
      rcases hb with h | h | h
      · exact .inl (.inr (.inl h))
      · exact .inl (.inr (.inr h))
      · exact .inl (.inl h)
end
/-- the items made by a list comprehension -/
def lcF (vs : List Nat) (g : FG) (ft : FB) (fe : FE) : List D → Nat → En → R (List D)
  | [], _, ρ => .ok [] ρ
  | d :: ds, n, ρ => match g d ρ with
    | none => .stk
    | some ρ1 => (ft ρ1).bind fun b ρ2 => if b then (fe ρ2).bind fun y ρ3 => if n < sizeLine then (lcF vs g ft fe ds (n + 1) (wipeD ρ3 vs)).bind fun ys ρ4 => .ok (y :: ys) ρ4 else .stk
      else lcF vs g ft fe ds n (wipeD ρ2 vs)
def fLc (vs : List Nat) (fi : FI) (g : FG) (ft : FB) (fe : FE) : FE := fun ρ => (fi ρ).bind fun ds ρ1 => (lcF vs g ft fe ds 0 (wipeD ρ1 vs)).nox.bind fun ys ρ2 => .ok (.lst true ys) (restD ρ1 vs ρ2)
def NoX : Xn → En → Prop := fun _ _ => False
theorem rd_lc {K : PySem.W.Frag} {c : Ct} {Ew : Xn → En → Prop} {vs : List Nat} {fi : FI} {g : FG} {ft : FB} {fe : FE} {σ : L2.St} {H : Hp} {Q : VK} {n : Nat} (hn : σ.length = n) (h : rdE K c Ew (fLc vs fi g ft fe) σ H Q) :
    tLc (rdI K c Ew fi) (rdG K (c.blk n vs σ) g) (rdT K (c.blk n vs σ) NoX ft) (rdE K (c.blk n vs σ) NoX fe) vs σ H Q := by
  obtain ⟨ρ, P, rp, q⟩ := h
  unfold fLc at q
  rw [R.sat_bind] at q
  refine ⟨ρ, P, rp, q.imp fun ds ρ1 q J H1 src r1 wk A hA => ?_⟩
  rw [R.sat_bind] at q
  have q := R.nox_sat (ex' := NoX) q
  have r2 : Rp K c σ (upd H1 A (.lst [])) ρ1 ((.lst true [], .ref A) :: (src ++ P)) := Rp.fresh r1 ⟨upd_ext hA, [A], .olst (by simp [upd]) .nil, by simp, fun a z => by rw [List.mem_singleton.mp z]; exact hA⟩
  obtain ⟨Ps, r3, back⟩ := r2.block n vs
  refine ⟨fun i m H => m = ds.length - i ∧ i ≤ ds.length ∧ ∃ acc ρ, Rp K (c.blk n vs σ) (wipe σ vs) H ρ (Ps ++ ((.lst true acc, .ref A) :: (src ++ P))) ∧
      (lcF vs g ft fe (ds.drop i) acc.length ρ).sat (fun ys ρ2 => ∀ v H', Rp K c σ H' (restD ρ1 vs ρ2) ((.lst true (acc ++ ys), v) :: P) → Q v H') NoX, ⟨_, rfl, Nat.zero_le _, [], _, r3, q⟩, ?_⟩
  rintro i m H ⟨rfl, hi, acc, ρ, r, q⟩
  have ok : SrcOk K H src := fun p hp => Rp.mem (List.mem_append_right _ (List.mem_cons_of_mem _ (List.mem_append_left _ hp))) r
  obtain ⟨w1, w2, w3⟩ := wk H ok
  by_cases hlt : i < ds.length
  · refine .inr ⟨w1 i hlt, fun H' => ∃ acc ρ, Rp K (c.blk n vs σ) (wipe σ vs) H' ρ (Ps ++ ((.lst true acc, .ref A) :: (src ++ P))) ∧
      (lcF vs g ft fe (ds.drop (i + 1)) acc.length ρ).sat (fun ys ρ2 => ∀ v H', Rp K c σ H' (restD ρ1 vs ρ2) ((.lst true (acc ++ ys), v) :: P) → Q v H') NoX, fun H' h' => ⟨ds.length - (i + 1), by omega, rfl, hlt, h'⟩, fun x H' yl => ?_⟩
    obtain ⟨d, e1, fr⟩ := w3 i x H' hlt yl
    have e2 : ds.drop i = d :: ds.drop (i + 1) := by
      rw [List.drop_eq_getElem_cons hlt]
      rw [List.getElem?_eq_getElem hlt] at e1
      cases e1; rfl
    rw [e2] at q
    unfold lcF at q
    cases eg : g d ρ with
    | none => rw [eg] at q; exact q.elim
    | some ρ1' =>
      rw [eg] at q
      refine ⟨d, ρ, _, Rp.fresh r fr, ρ1', eg, fun σ2 H2 r2 => ?_⟩
      have ew := blk_back hn r2.zs
      refine ⟨ew, ρ1', _, r2, ?_⟩
      have q : ((ft ρ1').bind fun b ρ2 => if b then (fe ρ2).bind fun y ρ3 => if acc.length < sizeLine then (lcF vs g ft fe (ds.drop (i + 1)) (acc.length + 1) (wipeD ρ3 vs)).bind fun ys ρ4 => .ok (y :: ys) ρ4 else .stk
        else lcF vs g ft fe (ds.drop (i + 1)) acc.length (wipeD ρ2 vs)).sat _ NoX := q
      rw [R.sat_bind] at q
      refine q.imp fun b ρ2 q H3 r3 => ?_
      cases b with
      | false =>
        simp only [Bool.false_eq_true, if_false] at q ⊢
        exact ⟨acc, _, r3.wiped ew, q⟩
      | true =>
        simp only [if_true] at q ⊢
        rw [R.sat_bind] at q
        refine ⟨ρ2, _, r3, q.imp fun y ρ3 q yv H4 r4 => ?_⟩
        split at q
        · rename_i hz
          have r5 : Rp K (c.blk n vs σ) σ2 H4 ρ3 ((y, yv) :: (.lst true acc, .ref A) :: (Ps ++ (src ++ P))) := r4.perm (.cons _ List.perm_middle)
          obtain ⟨xs, h1, h2, r6⟩ := r5.app1
          refine ⟨xs, h1, by omega, acc ++ [y], _, (r6.perm List.perm_middle.symm).wiped ew, ?_⟩
          rw [R.sat_bind] at q
          rw [List.length_append]
          refine q.imp fun ys ρ4 q v H' r' => q v H' ?_
          simpa using r'
        · exact q.elim
  · have e : i = ds.length := by omega
    subst e
    rw [List.drop_length] at q
    refine .inl ⟨w2, q (.ref A) H ?_⟩
    have r4 := back _ _ _ r
    rw [List.append_nil]
    exact r4.under
section
variable {X : Cx} {c : Ct} {Ew : Xn → En → Prop} {elt tg iter : Expr} {ifs : List Expr} {scope : Scope} {own : List (Str × Nat)} {pos spos : Pos} {fi : FI} {g : FG} {ft : FB} {fe : FE}
abbrev DTs (X : Cx) (c : Ct) (Ew : Xn → En → Prop) (ifs : List Expr) (f : FB) : Prop := PTs X ifs (rdT X.K c Ew f)
def fYes : FB := fun ρ => .ok true ρ
theorem _root_.L2.PTs.dimp {X : Cx} {e : List Expr} {t u : TT} (h : PTs X e t) (q : ∀ σ H Q, u σ H Q → t σ H Q) : PTs X e u := ⟨fun pins s σ H Q I x => h.run pins s σ H Q I (q σ H Q x)⟩
theorem dts_nil : DTs X c Ew [] fYes := pts_nil.dimp fun σ H Q ⟨ρ, P, r, q⟩ => q H r
theorem dts_one {e : Expr} {f : FB} (h : DT X c Ew e f) : DTs X c Ew [e] f := pts_one h
/-- [e for target in iter if ..] as a value; the block's slots are own; in the block nothing may raise -/
theorem de_lc (n : Nat) (hc : X.calm = true) (hN : X.N.Nodup) (hn : X.N.length = n) (hi : DI X c Ew tg iter fi) (ok : BlkOk X.N X.env.scope scope own)
    (hg : ∀ c' : Ct, c'.Z = zOf n (own.map (·.2)) → ∀ (s : Shared) (H : Hp) (C : Addr) (cl : List (Str × Addr)) (fp : List Addr), DG (X.blk s H scope (compEnvC scope cl C X.env) fp) c' tg g)
    (ht : ∀ c' : Ct, c'.Z = zOf n (own.map (·.2)) → ∀ (s : Shared) (H : Hp) (C : Addr) (cl : List (Str × Addr)) (fp : List Addr), DTs (X.blk s H scope (compEnvC scope cl C X.env) fp) c' NoX ifs ft)
    (he : ∀ c' : Ct, c'.Z = zOf n (own.map (·.2)) → ∀ (s : Shared) (H : Hp) (C : Addr) (cl : List (Str × Addr)) (fp : List Addr), DE (X.blk s H scope (compEnvC scope cl C X.env) fp) c' NoX elt fe)
    (hs : ∀ x, foldedSetIterable iter X.env x = pure x := by intro _; rfl) :
    DE X c Ew (.ListComp elt [⟨tg, iter, ifs, 0⟩] scope pos) (fLc (own.map (·.2)) fi g ft fe) :=
  ⟨fun pins s σ H Q I h => (pe_lc hc hN hi ok (hg (c.blk n (own.map (·.2)) σ) rfl) (ht (c.blk n (own.map (·.2)) σ) rfl) (he (c.blk n (own.map (·.2)) σ) rfl) hs).run pins s σ H Q I (rd_lc (I.len.trans hn) h)⟩
/-- name = [..] on one line -/
theorem ds_setLc (n : Nat) (i : Nat) {y : Str} {py : Pos} (hz : i ∉ c.Z) (hc : X.calm = true) (hN : X.N.Nodup) (hn : X.N.length = n) (hi : DI X c Ew tg iter fi) (ok : BlkOk X.N X.env.scope scope own)
    (hg : ∀ c' : Ct, c'.Z = zOf n (own.map (·.2)) → ∀ (s : Shared) (H : Hp) (C : Addr) (cl : List (Str × Addr)) (fp : List Addr), DG (X.blk s H scope (compEnvC scope cl C X.env) fp) c' tg g)
    (ht : ∀ c' : Ct, c'.Z = zOf n (own.map (·.2)) → ∀ (s : Shared) (H : Hp) (C : Addr) (cl : List (Str × Addr)) (fp : List Addr), DTs (X.blk s H scope (compEnvC scope cl C X.env) fp) c' NoX ifs ft)
    (he : ∀ c' : Ct, c'.Z = zOf n (own.map (·.2)) → ∀ (s : Shared) (H : Hp) (C : Addr) (cl : List (Str × Addr)) (fp : List Addr), DE (X.blk s H scope (compEnvC scope cl C X.env) fp) c' NoX elt fe)
    (hsw : swapsWith (.ListComp elt [⟨tg, iter, ifs, 0⟩] scope pos) (some (.Name y py)) spos.line X.env = pure true)
    (hy : X.N[i]? = some y := by rfl) (hyl : X.env.scope.names.lookup y = some .local := by rfl)
    (hs : ∀ x, foldedSetIterable iter X.env x = pure x := by intro _; rfl) :
    DS X c Ew (.Assign [.Name y py] (.ListComp elt [⟨tg, iter, ifs, 0⟩] scope pos) spos) (fSet i (fLc (own.map (·.2)) fi g ft fe)) :=
  ⟨fun pins s σ H Z I h => (ps_setLc hc hN hy hyl hsw hi ok (hg (c.blk n (own.map (·.2)) σ) rfl) (ht (c.blk n (own.map (·.2)) σ) rfl) (he (c.blk n (own.map (·.2)) σ) rfl) hs).run pins s σ H Z I
    (by
      obtain ⟨ρ, P, r, q⟩ := h
      exact rd_lc (Ew := Ew) (I.len.trans hn) ⟨ρ, P, r, (R.satS q).imp fun d ρ' k v H' r' => k _ H' (r'.store hz)⟩)⟩
end
end DL

namespace DL
open PySem PySem.Spec PyProof.Rows L2

/-! ### defs -/
/-- what a call comes to: the value, and what the taken first argument has become -/
inductive GR where
  | ok (d : D) (m : List D) | exc (x : Xn) (m : List D) | stk
def GR.sat (r : GR) (ok : D → List D → Prop) : Prop := match r with
  | .ok d m => ok d m
  | _ => False
structure FnG (P : Program) (w : World) (K : PySem.W.Frag) (mg : Str → Option Value) (base : Heap) (k : Nat) (f : Addr) (fd : FuncData) (ps : List Str) (G : List D → GR) : Prop where
  len : ∀ ds, (G ds).sat (fun _ _ => True) → ds.length = ps.length
  run : ∀ (A : Around) (outer : List Env) (s : Shared) (H : Hp) (args : Args) (us : List Value) (vs : List V) (Q : VK) (ds : List D) (fp : List Addr), A.guards = some [] → Room k A → Env0 P w K mg base A outer s H → BindsTo s fd args (ps.zip us) → Vals vs us →
    DvL K H ds vs fp → fp.Nodup → (G ds).sat (fun d m => ∀ v H' fp', (∀ a o, a ∉ fp → H a = some o → H' a = some o) → DvL K H' (d :: m) (v :: vs.take m.length) fp' → fp'.Nodup → (∀ a ∈ fp', a ∈ fp ∨ H a = none) → Q v H') →
    codeAny (model P w) A (.call (.ref f) args) (CR CX0 outer P w H s Q fun _ _ _ => False) s
def endG (mi : Bool) (d : D) (ρ : En) : GR := if mi then (match slot ρ 0 with
  | some d0 => .ok d [d0]
  | none => .stk) else .ok d []
/-- a def by what its body does -/
def GF (np nN : Nat) (mi : Bool) (fb : FS) : List D → GR := fun ds => if ds.length = np then (match fb (ds.map some ++ List.replicate (nN - np) none) with
  | .rt d ρ => endG mi d ρ
  | .nx ρ => endG mi .non ρ
  | _ => .stk) else .stk
theorem dvs_start {K : PySem.W.Frag} {H : Hp} : ∀ {ds : List D} {vs : List V} {fp : List Addr} (n : Nat), DvL K H ds vs fp → DvS K H (ds.map some ++ List.replicate n none) (vs.map some ++ List.replicate n none) fp
  | _, _, _, 0, .nil => .nil
  | _, _, _, n + 1, .nil => by
    have := dvs_start (K := K) (H := H) n .nil
    exact .skip this
  | _, _, _, n, .cons x l => .cons x (dvs_start n l)
section
variable {P : Program} {w : World} {K : PySem.W.Frag} {mg : Str → Option Value} {base : Heap}
theorem fnG_of {x qual : Str} {st : Stmt} {f : Addr} {fd : FuncData} {N ps : List Str} {k : Nat} (F : L2.Fun K x qual st f fd) (S : FnScope N ps (defScope st)) (mi : Bool) (fb : FS)
    (hb : ∀ (cdv : Value) (A : Around) (outer : List Env) (s : Shared) (H : Hp) (E : XK) (c : Ct), (A.deeper (envOfC qual (defScope st) s.heap.objs.size f cdv)).guards = some [] → Room k (A.deeper (envOfC qual (defScope st) s.heap.objs.size f cdv)) → c.Z = (if mi then [0] else []) →
      DSs (cxOf CX0 P w K mg base N qual (defScope st) f cdv A outer s H E).nox c NoX (defBody st) fb) :
    FnG P w K mg base (k + 1) f fd ps (GF ps.length N.length mi fb) := by
  refine ⟨fun ds h => ?_, fun A outer s H args us vs Q ds fp hgu hr e0 hbi rv dl nd q => ?_⟩
  · unfold GF at h
    split at h
    · assumption
    · exact h.elim
  obtain ⟨oc, od, kV, doc, pm, an, cdv, ct, osl, rfl, lk, hcd⟩ := F.ex
  unfold GF at q
  split at q
  case isFalse => exact q.elim
  rename_i hds
  have hvl : vs.length = ps.length := by rw [← dl.length]; exact hds
  have KX : K.In s.heap := e0.mod.kin.keeps fun b o e => (e0.bs b o e).1
  have lim : s.heap.NoLimit := e0.mod.nolimit.keeps fun b o e => (e0.bs b o e).1
  have kinds : ∀ z ∈ ps.zip us, (defScope st).names.lookup z.1 = some .local ∨ ((defScope st).names.lookup z.1 = some .cell ∧ ((cellsFrom (s.heap.objs.size + 1) (defScope st).names []).lookup z.1).isSome = true) := fun z hz => by
    rcases S.par z.1 (List.of_mem_zip (a := z.1) (b := z.2) hz).1 with q | q
    · exact .inl q
    · exact .inr ⟨q, PySem.W.cellsFrom_some _ _ _ (.inl q)⟩
  refine codeAny_call_function hr.depth (KX _ _ lk) rfl S.co S.gen rfl (PySem.W.codeRec_of KX hcd) (hbi _ _ _ _ ?_)
  refine wpAny_newFunctionEnv_cells S.kind kinds fun env he s1 xx => ?_
  subst he
  refine ⟨lim.keeps xx.toInCall.keep, codeAny_func ?_⟩
  have I := inv_start (CX := CX0) (E := fun _ _ _ => False) S hr.hd e0 hvl rv xx
  let c : Ct := ⟨fun a => if a ∈ fp then none else H a, if mi then [0] else [], L2.start N vs⟩
  have hkH : ∀ a o, c.Hk a = some o → H a = some o := fun a o e => by
    by_cases ha : a ∈ fp
    · have e : (if a ∈ fp then none else H a) = some o := e
      rw [if_pos ha] at e; cases e
    · have e : (if a ∈ fp then none else H a) = some o := e
      rw [if_neg ha] at e; exact e
  have hkN : ∀ a, c.Hk a = none → a ∈ fp ∨ H a = none := fun a e => by
    by_cases ha : a ∈ fp
    · exact .inl ha
    · have e : (if a ∈ fp then none else H a) = none := e
      rw [if_neg ha] at e; exact .inr e
  have r0 : Rp K c (L2.start N vs) H (ds.map some ++ List.replicate (N.length - ps.length) none) [] := by
    refine ⟨fp, [], ?_, .nil, ⟨by rw [List.append_nil]; exact nd, fun a ha => ?_⟩, hkH, rfl, fun _ _ => rfl⟩
    · unfold L2.start
      rw [hvl]
      exact dvs_start _ dl
    · rw [List.append_nil] at ha
      show (if a ∈ fp then none else H a) = none
      rw [if_pos ha]
  -- the end of the body
  have fin : ∀ {σ' : L2.St} {H' : Hp} {ρ : En} {d : D} {v : V}, (endG mi d ρ).sat (fun d m => ∀ v H' fp', (∀ a o, a ∉ fp → H a = some o → H' a = some o) → DvL K H' (d :: m) (v :: vs.take m.length) fp' → fp'.Nodup → (∀ a ∈ fp', a ∈ fp ∨ H a = none) → Q v H') → Rp K c σ' H' ρ [(d, v)] → Q v H' := fun {σ' H' ρ d v} q r => by
    have kp : ∀ {σ' : L2.St} {ρ : En} {P : List (D × V)}, Rp K c σ' H' ρ P → ∃ fp', DvL K H' (P.map (·.1)) (P.map (·.2)) fp' ∧ fp'.Nodup ∧ (∀ a ∈ fp', a ∈ fp ∨ H a = none) ∧ ∀ a o, a ∉ fp → H a = some o → H' a = some o := fun {σ' ρ P} ⟨fs, fp', h1, h2, h3, h4, h5⟩ =>
      ⟨fp', h2, h3.right.1, fun a ha => hkN a (h3.right.2 a ha), fun a o ha e => h4 a o (by
        show (if a ∈ fp then none else H a) = some o
        rw [if_neg ha]; exact e)⟩
    unfold endG at q
    cases mi with
    | false =>
      obtain ⟨fp', h1, h2, h3, h4⟩ := kp r
      exact q v H' fp' h4 h1 h2 h3
    | true =>
      simp only [if_true] at q
      cases es : slot ρ 0 with
      | none => rw [es] at q; exact q.elim
      | some d0 =>
        rw [es] at q
        obtain ⟨v0, e1, r1⟩ := r.take (slot_some es)
        have z0 := r.zs.2 0 (by simp [c])
        have z1 : (L2.start N vs)[0]? = some (some v0) := by
          have z0 : σ'[0]? = (L2.start N vs)[0]? := z0
          rw [← z0]; exact e1
        have z2 : vs.take 1 = [v0] := by
          unfold L2.start at z1
          cases vs with
          | nil =>
            have z1 : (List.replicate N.length (none : Option V))[0]? = some (some v0) := z1
            rw [List.getElem?_replicate] at z1
            split at z1 <;> cases z1
          | cons y ys => simp at z1; subst z1; rfl
        obtain ⟨fp', h1, h2, h3, h4⟩ := kp r1.swap
        refine q v H' fp' h4 ?_ h2 h3
        show DvL K H' [d, d0] (v :: vs.take 1) fp'
        rw [z2]
        exact h1
  refine wpAny_mono ((hb cdv A outer s H (fun _ _ _ => False) c hgu (hr.deeper _) rfl).nox.run [] s1 (L2.start N vs) H { nx := fun _ H' => Q .non H', rt := Q } I ⟨_, [], r0, ?_⟩) (fun fl s' hs => ?_) fun e s' hs => hs
  · generalize hρ : ds.map some ++ List.replicate (N.length - ps.length) none = ρ0 at q
    cases e : fb ρ0 with
    | nx ρ => rw [e] at q; exact fun σ' H' r => fin (d := .non) (v := .non) q (r.push0 .non)
    | rt d ρ => rw [e] at q; exact fun v σ' H' r => fin q r
    | _ => rw [e] at q; exact q.elim
  · have close : ∀ {σ' : L2.St} {H' : Hp} {v : V} {u : Value}, Inv (cxOf CX0 P w K mg base N qual (defScope st) f cdv A outer s H fun _ _ _ => False) [] σ' H' s' → RelV v u → Q v H' → CE outer P w H s Q u s' :=
      fun {σ' H' v u} J ru q => ⟨v, H', J.os, J.bare, J.base, J.hok, ru, q⟩
    cases fl with
    | ret u =>
      obtain ⟨v, σ', H', J, ru, q⟩ := hs
      exact close J ru q
    | next =>
      obtain ⟨σ', H', J, q⟩ := hs
      exact close (v := V.non) (u := Value.none) J rfl q
    | brk =>
      obtain ⟨_, _, _, q⟩ := hs
      exact q.elim
    | cont =>
      obtain ⟨_, _, _, q⟩ := hs
      exact q.elim
end
/-- frozen arguments -/
def resF (ρ : En) : List Ar → Option (List D)
  | [] => some []
  | a :: as => match res a ρ, resF ρ as with
    | some d, some ds => if d.isF then some (d :: ds) else none
    | _, _ => none
theorem resF_dv {K : PySem.W.Frag} {c : Ct} {H : Hp} {σ : L2.St} {ρ : En} {P P' : List (D × V)} (hP : ∀ x ∈ P', x ∈ P) (r : Rp K c σ H ρ P) : ∀ {as : List Ar} {vs : List V} {ds : List D}, Paired (ArOk σ P') as vs → resF ρ as = some ds → DvL K H ds vs []
  | [], _, _, .nil, e => by cases e; exact .nil
  | a :: as, v :: _, _, .cons x l, e => by
    unfold resF at e
    split at e
    · rename_i d ds e1 e2
      split at e
      · rename_i hf
        cases e
        have x' : ArOk σ P a v := by
          cases a with
          | val d => exact hP _ x
          | loc i => exact x
        obtain ⟨f, x1⟩ := x'.dv r e1
        exact .cons (f1 := []) (f2 := []) (x1.f0 hf) (resF_dv hP r l e2)
      · cases e
    · cases e
/-- a call: the arguments frozen -/
def fCall (G : List D → GR) (fas : FLs) : FE := fun ρ => (fas ρ).bind fun as ρ1 => match resF ρ1 as with
  | some ds => (match G ds with
    | .ok d [] => .ok d ρ1
    | _ => .stk)
  | none => .stk
/-- a call: the first argument is a name whose content is taken, and given back as the call leaves it -/
def fCallM (G : List D → GR) (fas : FLs) : FE := fun ρ => (fas ρ).bind fun as ρ1 => match as with
  | .loc i :: as => (match slot ρ1 i, resF (ρ1.set i none) as with
    | some d0, some ds => (match G (d0 :: ds) with
      | .ok d [d1] => .ok d (ρ1.set i (some d1))
      | _ => .stk)
    | _, _ => .stk)
  | _ => .stk
section
variable {X : Cx} {c : Ct} {Ew : Xn → En → Prop} {e : Expr} {es : List Expr} {pos p : Pos} {k : Nat} {f : Addr} {fd : FuncData} {ps : List Str} {G : List D → GR} {x : Str} {dfl : List Value} {dvs : List V} {dd : List D} {fas : FLs}
/-- the callee runs, from any state -/
theorem run_g {pins : List (Addr × Obj)} {σ : L2.St} {H : Hp} {s : Shared} {Q : VK} {us : List Value} {vs : List V} {ds : List D} {fp : List Addr} (F : FnG X.prog X.w X.K X.mg X.base k f fd ps G) (hgu : X.A.guards = some []) (hr : Room k X.A) (hb : Binds X.K fd ps dfl) (hd : Vals dvs dfl) (hD : ∀ H, DvL X.K H dd dvs [])
    (I : Inv X pins σ H s) (rv : Vals vs us) (dl : DvL X.K H ds vs fp) (nd : fp.Nodup) (q : (G (ds ++ dd)).sat fun d m => ∀ v H' fp', (∀ a o, a ∉ fp → H a = some o → H' a = some o) → DvL X.K H' (d :: m) (v :: (vs ++ dvs).take m.length) fp' → fp'.Nodup → (∀ a ∈ fp', a ∈ fp ∨ H a = none) → Q v H') :
    wpAny (model X.prog X.w) X.A (call (.ref f) us) (EP X pins σ Q) X.xe s := by
  have dl2 : DvL X.K H (ds ++ dd) (vs ++ dvs) (fp ++ []) := dl.append (hD H)
  rw [List.append_nil] at dl2
  have hl : (us ++ dfl).length = ps.length := by
    have h1 := F.len (ds ++ dd) (by
      revert q
      cases G (ds ++ dd) <;> intro q <;> first | trivial | exact q)
    rw [← h1, dl2.length, (rv.append hd).length]
  refine wpAny_call (codeAny_mono (F.run X.A X.stack s H ⟨us, []⟩ (us ++ dfl) (vs ++ dvs) Q (ds ++ dd) fp hgu hr I.env0 (hb s us I.kIn hl) (rv.append hd) dl2 nd q) fun r s' hq => ?_)
  cases r with
  | error e => exact hq.elim
  | ok fl => cases fl with
    | ret u => exact I.after hq
    | _ => exact hq.elim
theorem de_call (F : FnG X.prog X.w X.K X.mg X.base k f fd ps G) (hgu : X.A.guards = some []) (hr : Room k X.A) (hg : Gl X x) (hm : X.mg x = some (.ref f)) (hk : PySem.W.keepIn X.K (.ref f) = true) (hb : Binds X.K fd ps dfl) (hd : Vals dvs dfl) (hD : ∀ H, DvL X.K H dd dvs [])
    (ha : DA X c Ew (e :: es) fas) (hdb : (x == ("__debug__" : Str)) = false := by decide) (he : starEach (e :: es) X.env = (false, eval e X.env) :: starEach es X.env := by rfl) (hpl : (backTo pos (starEach es X.env)).any (·.1) = false := by rfl) :
    DE X c Ew (.Call (.Name x p) (e :: es) [] pos) (fCall (fun ds => G (ds ++ dd)) fas) := by
  refine ⟨fun pins s σ H Q I ⟨ρ, P, rp, q⟩ => ?_⟩
  unfold fCall at q
  rw [R.sat_bind] at q
  refine wpAny_Call_Name_kw (ld_glob I hg hm ?_ hdb)
  refine PySem.W.callWith_K (h₀ := X.base) I.ok.mod.kin hk (thn (ha.run pos pins s σ H (fun vs H1 => ∃ as ρ1 Pn, Rp X.K c σ H1 ρ1 (Pn ++ P) ∧ Paired (ArOk σ (Pn ++ P)) as vs ∧
    R.sat (match resF ρ1 as with
      | some ds => (match G (ds ++ dd) with
        | .ok d [] => .ok d ρ1
        | _ => .stk)
      | none => .stk) (fun d ρ' => ∀ v H', Rp X.K c σ H' ρ' ((d, v) :: P) → Q v H') Ew) I ⟨ρ, P, rp, q.imp fun as ρ1 q vs H1 Pn r1 pa => ⟨as, ρ1, Pn, r1, pa, q⟩⟩) fun us s1 ⟨vs, H1, I1, rv, as, ρ1, Pn, r1, pa, q⟩ => ⟨I1.kIn, ?_⟩) he hpl
  cases e1 : resF ρ1 as with
  | none => rw [e1] at q; exact q.elim
  | some ds =>
    rw [e1] at q
    have dl := resF_dv (fun _ h => h) r1 pa e1
    refine run_g F hgu hr hb hd hD I1 rv dl List.nodup_nil ?_
    have q : R.sat (match G (ds ++ dd) with
        | .ok d [] => .ok d ρ1
        | _ => .stk) (fun d ρ' => ∀ v H', Rp X.K c σ H' ρ' ((d, v) :: P) → Q v H') Ew := q
    cases e2 : G (ds ++ dd) with
    | ok d m =>
      rw [e2] at q
      cases m with
      | nil => exact fun v H' fp' k1 l n1 n2 => q v H' (Rp.step (Pn := [(d, v)]) [] r1.pops fun fp l0 _ => by
          have e0 := DvL.unnil l0
          subst e0
          exact ⟨fun a o _ => k1 a o (by simp), fp', l, n1, n2⟩)
      | cons _ _ => exact q.elim
    | _ => rw [e2] at q; exact q.elim
theorem de_callM (F : FnG X.prog X.w X.K X.mg X.base k f fd ps G) (hgu : X.A.guards = some []) (hr : Room k X.A) (hg : Gl X x) (hm : X.mg x = some (.ref f)) (hk : PySem.W.keepIn X.K (.ref f) = true) (hb : Binds X.K fd ps dfl) (hd : Vals dvs dfl) (hD : ∀ H, DvL X.K H dd dvs [])
    (ha : DA X c Ew (e :: es) fas) (hdb : (x == ("__debug__" : Str)) = false := by decide) (he : starEach (e :: es) X.env = (false, eval e X.env) :: starEach es X.env := by rfl) (hpl : (backTo pos (starEach es X.env)).any (·.1) = false := by rfl) :
    DE X c Ew (.Call (.Name x p) (e :: es) [] pos) (fCallM (fun ds => G (ds ++ dd)) fas) := by
  refine ⟨fun pins s σ H Q I ⟨ρ, P, rp, q⟩ => ?_⟩
  unfold fCallM at q
  rw [R.sat_bind] at q
  refine wpAny_Call_Name_kw (ld_glob I hg hm ?_ hdb)
  refine PySem.W.callWith_K (h₀ := X.base) I.ok.mod.kin hk (thn (ha.run pos pins s σ H (fun vs H1 => ∃ as ρ1 Pn, Rp X.K c σ H1 ρ1 (Pn ++ P) ∧ Paired (ArOk σ (Pn ++ P)) as vs ∧
    R.sat (match as with
      | .loc i :: as => (match slot ρ1 i, resF (ρ1.set i none) as with
        | some d0, some ds => (match G (d0 :: ds ++ dd) with
          | .ok d [d1] => .ok d (ρ1.set i (some d1))
          | _ => .stk)
        | _, _ => .stk)
      | _ => .stk) (fun d ρ' => ∀ v H', Rp X.K c σ H' ρ' ((d, v) :: P) → Q v H') Ew) I ⟨ρ, P, rp, q.imp fun as ρ1 q vs H1 Pn r1 pa => ⟨as, ρ1, Pn, r1, pa, q⟩⟩) fun us s1 ⟨vs, H1, I1, rv, as, ρ1, Pn, r1, pa, q⟩ => ⟨I1.kIn, ?_⟩) he hpl
  cases pa with
  | nil => exact q.elim
  | @cons a v0 as vs a0 pa =>
    cases a with
    | val d => exact q.elim
    | loc i =>
      cases e0 : slot ρ1 i with
      | none =>
        simp only [e0] at q
        exact q.elim
      | some d0 =>
        cases e1 : resF (ρ1.set i none) as with
        | none =>
          simp only [e0, e1] at q
          exact q.elim
        | some ds =>
          simp only [e0, e1] at q
          obtain ⟨v1, e2, r2⟩ := r1.take (slot_some e0)
          have a0 : σ[i]? = some (some v0) := a0
          rw [a0] at e2
          cases e2
          have dl := resF_dv (P' := Pn ++ P) (fun _ h => List.mem_cons_of_mem _ h) r2 pa e1
          obtain ⟨f1, x1, nd1, st⟩ := r2.under.step2 [(d0, v0)]
          have dl2 : DvL X.K H1 (d0 :: ds) (v0 :: vs) f1 := by
            have x1 : DvL X.K H1 [d0] [v0] f1 := x1
            have := x1.append dl
            rw [List.append_nil] at this
            exact this
          refine run_g F hgu hr hb hd hD I1 rv dl2 nd1 ?_
          cases e3 : G (d0 :: ds ++ dd) with
          | ok d m =>
            rw [e3] at q
            cases m with
            | nil => exact q.elim
            | cons d1 m =>
              cases m with
              | nil =>
                refine fun v H' fp' k1 l n1 n2 => q v H' ?_
                have r4 := (st H' [(d, v), (d1, v0)] fp' k1 l n1 n2).swap.put (i := i) a0
                rw [List.set_set] at r4
                exact r4
              | cons _ _ => exact q.elim
          | _ => rw [e3] at q; exact q.elim
end
end DL

namespace DL
open PySem PySem.Spec PyProof.Rows L2

/-! ### owned lists and dicts are changed in place -/
section
variable {K : PySem.W.Frag} {c : Ct} {H H' : Hp} {σ : L2.St} {ρ : En} {P : List (D × V)} {d : D} {v : V} {i : Nat}
theorem DvL.put : ∀ {ds : List D} {vs : List V} {f : List Addr} {j : Nat} {d : D} {v : V} {f1 : List Addr}, DvL K H ds vs f → j < ds.length → Dv K H d v f1 → ∃ f0 f2 f', f.Perm (f0 ++ f2) ∧ DvL K H (ds.set j d) (vs.set j v) f' ∧ f'.Perm (f1 ++ f2)
  | [], _, _, _, _, _, _, _, hj, _ => by simp at hj
  | e :: ds, _, _, 0, d, v, f1, .cons (f1 := g) (f2 := gs) x l, _, y => ⟨g, gs, f1 ++ gs, List.Perm.refl _, .cons y l, List.Perm.refl _⟩
  | e :: ds, _, _, j + 1, d, v, f1, .cons (f1 := g) (f2 := gs) x l, hj, y => by
    obtain ⟨f0, f2, f', p1, h, p2⟩ := l.put (j := j) (by simpa using hj) y
    refine ⟨f0, g ++ f2, g ++ f', ?_, .cons x h, ?_⟩
    · exact (List.Perm.append_left g p1).trans (perm3 g f0 f2)
    · exact (List.Perm.append_left g p2).trans (perm3 g f1 f2)
/-- an item taken out, a mark of its value in its place -/
theorem DvL.hole : ∀ {ds : List D} {vs : List V} {f : List Addr} {j : Nat} {d : D}, DvL K H ds vs f → ds[j]? = some d → ∃ x f1 f2, vs[j]? = some x ∧ Dv K H d x f1 ∧ f.Perm (f1 ++ f2) ∧ DvL K H (ds.set j (.opq x)) vs f2
  | [], _, _, _, _, _, e => by simp at e
  | e :: ds, _, _, 0, d, .cons (v := v) (f1 := g) (f2 := gs) x l, h => by
    simp at h; subst h
    exact ⟨v, g, gs, rfl, x, List.Perm.refl _, .cons (f1 := []) (.opq v) l⟩
  | e :: ds, _, _, j + 1, d, .cons (v := v) (f1 := g) (f2 := gs) x l, h => by
    obtain ⟨y, f1, f2, h1, h2, h3, h4⟩ := l.hole (j := j) (by simpa using h)
    exact ⟨y, f1, g ++ f2, by simpa using h1, h2, (List.Perm.append_left g h3).trans (perm3 g f1 f2), .cons x h4⟩
theorem DvL.fillH : ∀ {ds : List D} {vs : List V} {f : List Addr} {j : Nat} {d : D} {x : V} {f1 : List Addr}, DvL K H ds vs f → ds[j]? = some (.opq x) → Dv K H d x f1 → ∃ f', DvL K H (ds.set j d) vs f' ∧ f'.Perm (f1 ++ f)
  | [], _, _, _, _, _, _, _, e, _ => by simp at e
  | e :: ds, _, _, 0, d, x, f1, .cons (v := v) (f1 := g) (f2 := gs) y l, h, z => by
    simp at h; subst h
    cases y
    exact ⟨f1 ++ gs, .cons z l, List.Perm.refl _⟩
  | e :: ds, _, _, j + 1, d, x, f1, .cons (v := v) (f1 := g) (f2 := gs) y l, h, z => by
    obtain ⟨f', h1, p⟩ := l.fillH (j := j) (by simpa using h) z
    exact ⟨g ++ f', .cons y h1, (List.Perm.append_left g p).trans (perm3 g f1 gs)⟩
theorem DvL.opqAt : ∀ {ds : List D} {vs : List V} {f : List Addr} {j : Nat} {x : V}, DvL K H ds vs f → ds[j]? = some (.opq x) → vs[j]? = some x
  | [], _, _, _, _, _, e => by simp at e
  | e :: ds, _, _, 0, x, .cons y l, h => by
    simp at h; subst h
    cases y; rfl
  | e :: ds, _, _, j + 1, x, .cons y l, h => by
    have := l.opqAt (j := j) (by simpa using h)
    simpa using this
theorem DvL.pair {x y : D × V} {fp : List Addr} (h : DvL K H ([x, y].map (·.1)) ([x, y].map (·.2)) fp) : ∃ f1 f2, fp = f1 ++ f2 ∧ Dv K H x.1 x.2 f1 ∧ Dv K H y.1 y.2 f2 := by
  have h : DvL K H [x.1, y.1] [x.2, y.2] fp := h
  obtain ⟨f1, f2, rfl, a, h⟩ := h.uncons
  obtain ⟨f3, f4, rfl, b, h⟩ := h.uncons
  have e := h.unnil
  subst e
  rw [List.append_nil]
  exact ⟨f1, f3, rfl, a, b⟩
theorem upd_keep {a : Addr} {o : HO} {b : Addr} {u : HO} (hb : b ∉ [a]) (e : H b = some u) : upd H a o b = some u := by
  rw [upd_ne (by simpa using hb)]; exact e
/-- xs[j] = v -/
theorem Rp.setL {xs : List D} {a : Addr} {j : Nat} (hj : j < xs.length) (r : Rp K c σ H ρ ((.lst true xs, .ref a) :: (d, v) :: P)) : ∃ vs, H a = some (.lst vs) ∧ vs.length = xs.length ∧ Rp K c σ (upd H a (.lst (vs.set j v))) ρ ((.lst true (xs.set j d), .ref a) :: P) := by
  obtain ⟨fp, hp, nd, k⟩ := Rp.step2 [(.lst true xs, .ref a), (d, v)] r
  obtain ⟨f1, f2, rfl, x, y⟩ := hp.pair
  obtain ⟨a', vs, g, e, rfl, h1, l⟩ := Dv.own x
  cases e
  refine ⟨vs, h1, l.length.symm, ?_⟩
  obtain ⟨n1, n2, n3⟩ := List.nodup_append.mp nd
  have n4 := List.nodup_cons.mp n1
  have hW : ∀ b ∈ [a], Mut (H b) := fun b hb => by rw [List.mem_singleton.mp hb, h1]; trivial
  have l2 := l.keep (H' := upd H a (.lst (vs.set j v))) (fun b o hb e => upd_keep hb e) hW fun b z z' => n4.1 (by rw [List.mem_singleton.mp z'] at z; exact z)
  have y2 := y.keep (H' := upd H a (.lst (vs.set j v))) (fun b o hb e => upd_keep hb e) hW fun b z z' => n3 a (by simp) b z (List.mem_singleton.mp z').symm
  obtain ⟨f0, f3, f', p1, l3, p2⟩ := l2.put hj y2
  have nd2 : (f2 ++ (f0 ++ f3)).Nodup := by
    refine (List.Perm.nodup_iff ?_).mp (List.nodup_append.mpr ⟨n2, n4.2, fun b hb b' hb' e => n3 b' (List.mem_cons_of_mem _ hb') b hb e.symm⟩)
    exact List.Perm.append_left f2 p1
  have na : a ∉ f' := fun z => by
    rcases List.mem_append.mp (p2.mem_iff.mp z) with z | z
    · exact n3 a (by simp) a z rfl
    · exact n4.1 (p1.mem_iff.mpr (List.mem_append_right _ z))
  refine k _ [(.lst true (xs.set j d), .ref a)] (a :: f') (fun b o hb e => upd_keep (fun z => hb (by rw [List.mem_singleton.mp z]; simp)) e) (.one (.olst (by simp [upd]) l3)) (List.nodup_cons.mpr ⟨na, p2.nodup_iff.mpr ?_⟩) fun b hb => ?_
  · have := List.nodup_append.mp nd2
    exact List.nodup_append.mpr ⟨n2, (List.nodup_append.mp this.2.1).2.1, fun b hb b' hb' e => this.2.2 b hb b' (List.mem_append_right _ hb') e⟩
  · left
    rcases List.mem_cons.mp hb with rfl | hb
    · simp
    · rcases List.mem_append.mp (p2.mem_iff.mp hb) with z | z
      · exact List.mem_append_right _ z
      · exact List.mem_append_left _ (List.mem_cons_of_mem _ (p1.mem_iff.mpr (List.mem_append_right _ z)))
end
/-- the first place of a key -/
def kIx : List Key → Key → Option Nat
  | [], _ => none
  | a :: ks, k => if a = k then some 0 else (kIx ks k).map (· + 1)
theorem kIx_some {k : Key} : ∀ {kvv : List (Key × V)} {j : Nat}, kIx (kvv.map (·.1)) k = some j → j < kvv.length ∧ valV kvv k = (kvv.map (·.2))[j]?
  | [], _, h => by cases h
  | p :: r, j, h => by
    unfold kIx at h
    rw [List.map_cons] at h
    by_cases e : p.1 = k
    · simp only [e, if_true] at h
      cases h
      exact ⟨by simp, by rw [valV_pos e]; rfl⟩
    · simp only [e, if_false] at h
      obtain ⟨j', h1, h2⟩ := Option.map_eq_some_iff.mp h
      obtain ⟨h3, h4⟩ := kIx_some h1
      subst h2
      exact ⟨by simpa using h3, by rw [valV_neg e, h4]; rfl⟩
theorem kIx_none {k : Key} : ∀ {kvv : List (Key × V)}, kIx (kvv.map (·.1)) k = none → valV kvv k = none
  | [], h => rfl
  | p :: r, h => by
    unfold kIx at h
    rw [List.map_cons] at h
    by_cases e : p.1 = k
    · simp only [e, if_true] at h; cases h
    · simp only [e, if_false] at h
      rw [valV_neg e]
      exact kIx_none (Option.map_eq_none_iff.mp h)
def putD (ks : List Key) (ds : List D) (k : Key) (d : D) : Option (List Key × List D) := if ks.Nodup ∧ ks.length < sizeLine then (match kIx ks k with
  | some j => some (ks, ds.set j d)
  | none => some (ks ++ [k], ds ++ [d])) else none
theorem map_put {k : Key} {v : V} : ∀ {kvv : List (Key × V)} {j : Nat}, (kvv.map (·.1)).Nodup → kIx (kvv.map (·.1)) k = some j → (kvv.map fun kv => if kv.1 = k then (kv.1, v) else kv).map (·.1) = kvv.map (·.1) ∧ (kvv.map fun kv => if kv.1 = k then (kv.1, v) else kv).map (·.2) = (kvv.map (·.2)).set j v
  | [], _, _, h => by cases h
  | p :: r, j, nd, h => by
    unfold kIx at h
    simp only [List.map_cons] at h nd ⊢
    obtain ⟨n1, n2⟩ := List.nodup_cons.mp nd
    by_cases e : p.1 = k
    · simp only [e, if_true] at h
      cases h
      have same : (r.map fun kv => if kv.1 = k then (kv.1, v) else kv) = r := by
        conv => rhs; rw [← List.map_id r]
        refine List.map_congr_left fun q hq => ?_
        rw [if_neg (fun z => n1 (by rw [e, ← z]; exact List.mem_map_of_mem hq))]; rfl
      rw [same]
      simp [e]
    · simp only [e, if_false] at h ⊢
      obtain ⟨j', h1, h2⟩ := Option.map_eq_some_iff.mp h
      subst h2
      obtain ⟨h3, h4⟩ := map_put (v := v) n2 h1
      exact ⟨by rw [h3], by rw [h4]; rfl⟩
theorem putD_some {ks ks' : List Key} {ds ds' : List D} {k : Key} {d : D} {v : V} {kvv : List (Key × V)} (h : putD ks ds k d = some (ks', ds')) (e : kvv.map (·.1) = ks) (hl : ds.length = kvv.length) :
    kvv.length < sizeLine ∧ (putK kvv k v).map (·.1) = ks' ∧ ((∃ j, j < ds.length ∧ ds' = ds.set j d ∧ (putK kvv k v).map (·.2) = (kvv.map (·.2)).set j v) ∨ (ds' = ds ++ [d] ∧ (putK kvv k v).map (·.2) = kvv.map (·.2) ++ [v])) := by
  subst e
  unfold putD at h
  split at h
  case isFalse => cases h
  rename_i hh
  refine ⟨by have := hh.2; rwa [List.length_map] at this, ?_⟩
  unfold putK
  rw [valV_any]
  cases e : kIx (kvv.map (·.1)) k with
  | some j =>
    rw [e] at h
    cases h
    obtain ⟨h1, h2⟩ := kIx_some e
    obtain ⟨h3, h4⟩ := map_put (v := v) hh.1 e
    have : (valV kvv k).isSome = true := by rw [h2]; simp [h1]
    rw [if_pos this]
    exact ⟨h3, .inl ⟨j, by omega, rfl, h4⟩⟩
  | none =>
    rw [e] at h
    cases h
    have : (valV kvv k).isSome = false := by rw [kIx_none e]; rfl
    rw [if_neg (by rw [this]; simp)]
    exact ⟨by simp, .inr ⟨rfl, by simp⟩⟩
section
variable {K : PySem.W.Frag} {c : Ct} {H H' : Hp} {σ : L2.St} {ρ : En} {P : List (D × V)} {d : D} {v : V} {i : Nat} {ks ks' : List Key} {ds ds' : List D} {a : Addr} {k : Key}
/-- d[k] = v -/
theorem Rp.setD (r : Rp K c σ H ρ ((.dic true ks ds, .ref a) :: (d, v) :: P)) (h : putD ks ds k d = some (ks', ds')) : ∃ kvv, H a = some (.dK kvv) ∧ kvv.length < sizeLine ∧ Rp K c σ (upd H a (.dK (putK kvv k v))) ρ ((.dic true ks' ds', .ref a) :: P) := by
  obtain ⟨fp, hp, nd, kk⟩ := Rp.step2 [(.dic true ks ds, .ref a), (d, v)] r
  obtain ⟨f1, f2, rfl, x, y⟩ := hp.pair
  obtain ⟨a', kvv, g, e, rfl, h1, h2, l⟩ := Dv.ownD x
  cases e
  have hl : ds.length = kvv.length := by rw [l.length, List.length_map]
  obtain ⟨hz, e1, e2⟩ := putD_some (v := v) h h2 hl
  refine ⟨kvv, h1, hz, ?_⟩
  obtain ⟨n1, n2, n3⟩ := List.nodup_append.mp nd
  have n4 := List.nodup_cons.mp n1
  have hW : ∀ b ∈ [a], Mut (H b) := fun b hb => by rw [List.mem_singleton.mp hb, h1]; trivial
  have l2 := l.keep (H' := upd H a (.dK (putK kvv k v))) (fun b o hb e => upd_keep hb e) hW fun b z z' => n4.1 (by rw [List.mem_singleton.mp z'] at z; exact z)
  have y2 := y.keep (H' := upd H a (.dK (putK kvv k v))) (fun b o hb e => upd_keep hb e) hW fun b z z' => n3 a (by simp) b z (List.mem_singleton.mp z').symm
  have key : ∃ f0 f3 f', g.Perm (f0 ++ f3) ∧ DvL K (upd H a (.dK (putK kvv k v))) ds' ((putK kvv k v).map (·.2)) f' ∧ f'.Perm (f2 ++ f3) := by
    rcases e2 with ⟨j, hj, rfl, e3⟩ | ⟨rfl, e3⟩
    · rw [e3]; exact l2.put hj y2
    · rw [e3]; exact ⟨[], g, g ++ f2, List.Perm.refl _, l2.append (.one y2), List.perm_append_comm⟩
  obtain ⟨f0, f3, f', p1, l3, p2⟩ := key
  have na : a ∉ f' := fun z => by
    rcases List.mem_append.mp (p2.mem_iff.mp z) with z | z
    · exact n3 a (by simp) a z rfl
    · exact n4.1 (p1.mem_iff.mpr (List.mem_append_right _ z))
  have n5 := (List.nodup_append.mp (p1.nodup_iff.mp n4.2)).2.1
  refine kk _ [(.dic true ks' ds', .ref a)] (a :: f') (fun b o hb e => upd_keep (fun z => hb (by rw [List.mem_singleton.mp z]; simp)) e) (.one (.odic (by simp [upd]) e1 l3)) (List.nodup_cons.mpr ⟨na, p2.nodup_iff.mpr (List.nodup_append.mpr ⟨n2, n5, fun b hb b' hb' e => n3 b' (List.mem_cons_of_mem _ (p1.mem_iff.mpr (List.mem_append_right _ hb'))) b hb e.symm⟩)⟩) fun b hb => ?_
  left
  rcases List.mem_cons.mp hb with rfl | hb
  · simp
  · rcases List.mem_append.mp (p2.mem_iff.mp hb) with z | z
    · exact List.mem_append_right _ z
    · exact List.mem_append_left _ (List.mem_cons_of_mem _ (p1.mem_iff.mpr (List.mem_append_right _ z)))
/-- the content of a key taken out -/
theorem Rp.hole {j : Nat} {u : V} (r : Rp K c σ H ρ ((.dic true ks ds, u) :: P)) (h : kIx ks k = some j) (hd : ds[j]? = some d) : ∃ a kvv x, u = .ref a ∧ H a = some (.dK kvv) ∧ valV kvv k = some x ∧ Rp K c σ H ρ ((.dic true ks (ds.set j (.opq x)), u) :: (d, x) :: P) := by
  obtain ⟨fp, hp, nd, kk⟩ := Rp.step2 [(.dic true ks ds, u)] r
  have hp : DvL K H [.dic true ks ds] [u] fp := hp
  obtain ⟨f1, f2, rfl, x, hp⟩ := hp.uncons
  have e0 := hp.unnil
  subst e0
  rw [List.append_nil] at nd kk
  obtain ⟨a, kvv, g, rfl, rfl, h1, h2, l⟩ := Dv.ownD x
  obtain ⟨y, f1, f2, h3, h4, p, l2⟩ := l.hole hd
  subst h2
  obtain ⟨h5, h6⟩ := kIx_some h
  obtain ⟨n1, n2⟩ := List.nodup_cons.mp nd
  refine ⟨a, kvv, y, rfl, h1, by rw [h6, h3], kk H [(.dic true _ (ds.set j (.opq y)), .ref a), (d, y)] ((a :: f2) ++ f1) (fun _ _ _ e => e) (.cons (.odic h1 rfl l2) (.one h4)) ?_ fun b hb => .inl ?_⟩
  · have n3 := p.nodup_iff.mp n2
    refine List.nodup_cons.mpr ⟨fun z => n1 (p.mem_iff.mpr ?_), (List.perm_append_comm.nodup_iff).mp n3⟩
    rcases List.mem_append.mp z with z | z
    · exact List.mem_append_right _ z
    · exact List.mem_append_left _ z
  · rcases List.mem_append.mp hb with z | z
    · rcases List.mem_cons.mp z with rfl | z
      · simp
      · exact List.mem_cons_of_mem _ (p.mem_iff.mpr (List.mem_append_right _ z))
    · exact List.mem_cons_of_mem _ (p.mem_iff.mpr (List.mem_append_left _ z))
/-- .. and put back -/
theorem Rp.fillH {j : Nat} {u x : V} (r : Rp K c σ H ρ ((.dic true ks ds, u) :: (d, x) :: P)) (hd : ds[j]? = some (.opq x)) : Rp K c σ H ρ ((.dic true ks (ds.set j d), u) :: P) := by
  obtain ⟨fp, hp, nd, kk⟩ := Rp.step2 [(.dic true ks ds, u), (d, x)] r
  obtain ⟨f1, f2, rfl, xa, y⟩ := hp.pair
  obtain ⟨a, kvv, g, e, rfl, h1, h2, l⟩ := Dv.ownD xa
  have e : u = .ref a := e
  subst e
  obtain ⟨f', l2, p⟩ := l.fillH hd y
  obtain ⟨n1, n2, n3⟩ := List.nodup_append.mp nd
  obtain ⟨n4, n5⟩ := List.nodup_cons.mp n1
  refine kk H [(.dic true ks (ds.set j d), .ref a)] (a :: f') (fun _ _ _ e => e) (.one (.odic h1 h2 l2)) (List.nodup_cons.mpr ⟨fun z => ?_, p.nodup_iff.mpr (List.nodup_append.mpr ⟨n2, n5, fun b hb b' hb' e => n3 b' (List.mem_cons_of_mem _ hb') b hb e.symm⟩)⟩) fun b hb => .inl ?_
  · rcases List.mem_append.mp (p.mem_iff.mp z) with z | z
    · exact n3 a (by simp) a z rfl
    · exact n4 z
  · rcases List.mem_cons.mp hb with rfl | hb
    · simp
    · rcases List.mem_append.mp (p.mem_iff.mp hb) with z | z
      · exact List.mem_append_right _ z
      · exact List.mem_append_left _ (List.mem_cons_of_mem _ z)
end
end DL

namespace DL
open PySem PySem.Spec PyProof.Rows L2

/-! ### a dict's items, and stores -/
def D.key : D → Option Key
  | .int i => some (.inl i)
  | .str s => some (.inr s)
  | _ => none
theorem Dv.keyV {K : PySem.W.Frag} {H : Hp} {d : D} {v : V} {f : List Addr} {k : Key} (x : Dv K H d v f) (e : d.key = some k) : v = kV k := by
  cases x <;> cases e <;> rfl
/-- d[k], the item frozen -/
def fDGet (i : Nat) (fk : FO) : FE := fun ρ => match slot ρ i with
  | none => .stk
  | some _ => (fk ρ).bind fun a ρ1 => match (res a ρ1).bind D.key, slot ρ1 i with
    | some k, some (.dic m ks ds) => (match kIx ks k with
      | some j => (match ds[j]? with
        | some d => if m then .ok d.frz (ρ1.set i (some (.dic true ks (ds.set j d.frz)))) else .ok d ρ1
        | none => .stk)
      | none => .stk)
    | _, _ => .stk
section
variable {X : Cx} {c : Ct} {Ew : Xn → En → Prop} {kx e b : Expr} {pos p : Pos} {x : Str} {i : Nat}
theorem de_dget {fk : FO} (i : Nat) (hu : X.A.units + 1 < cLine) (hm : PE X (.Name x p) (tVar i)) (hk : DO X c Ew kx fk) (hs : NoSl kx := by intro _ _; rfl) : DE X c Ew (.Subscript (.Name x p) kx pos) (fDGet i fk) := by
  refine ⟨fun pins s σ H Q I ⟨ρ, P, rp, q⟩ => ?_⟩
  unfold fDGet at q
  cases e0 : slot ρ i with
  | none => rw [e0] at q; exact q.elim
  | some d0 =>
    rw [e0] at q
    obtain ⟨v0, f0, e1, _⟩ := rp.slot (slot_some e0)
    have q : ((fk ρ).bind fun a ρ1 => match (res a ρ1).bind D.key, slot ρ1 i with
      | some k, some (.dic m ks ds) => (match kIx ks k with
        | some j => (match ds[j]? with
          | some d => if m then R.ok d.frz (ρ1.set i (some (.dic true ks (ds.set j d.frz)))) else .ok d ρ1
          | none => .stk)
        | none => .stk)
      | _, _ => .stk).sat _ Ew := q
    rw [R.sat_bind] at q
    refine thn ((pe_dget hu hm hk hs).run pins s σ H (fun v H1 => (∃ d ρ1, Rp X.K c σ H1 ρ1 ((d, v) :: P) ∧ ∀ v H', Rp X.K c σ H' ρ1 ((d, v) :: P) → Q v H') ∨
      ∃ ρ1 ks ds j d, ds[j]? = some (.opq v) ∧ Rp X.K c σ H1 ρ1 ((.dic true ks ds, v0) :: (d, v) :: P) ∧ ∀ v H', Rp X.K c σ H' (ρ1.set i (some (.dic true ks (ds.set j d.frz)))) ((d.frz, v) :: P) → Q v H')
      I ⟨v0, e1, ρ, P, rp, q.imp fun a ρ1 q y H2 Pn r1 oka => ?_⟩) fun u s1 ⟨v, H1, I1, rv, k⟩ => ?_
    · cases e2 : res a ρ1 with
      | none => rw [e2] at q; exact q.elim
      | some kd =>
        obtain ⟨f1, x1⟩ := oka.dv r1 e2
        cases e3 : kd.key with
        | none => simp only [e2, Option.bind_some, e3] at q; exact q.elim
        | some k =>
          obtain rfl := x1.keyV e3
          simp only [e2, Option.bind_some, e3] at q
          cases e4 : slot ρ1 i with
          | none => simp only [e4] at q; exact q.elim
          | some dd =>
          cases dd with
          | dic m ks ds =>
           simp only [e4] at q
           cases e5 : kIx ks k with
           | none => simp only [e5] at q; exact q.elim
           | some j =>
             cases e6 : ds[j]? with
             | none => simp only [e5, e6] at q; exact q.elim
             | some d =>
               simp only [e5, e6] at q
               obtain ⟨v1, e7, r2⟩ := r1.take (slot_some e4)
               rw [e1] at e7; cases e7
               cases m with
               | true =>
                 simp only [if_true] at q
                 obtain ⟨a, kvv, z, rfl, h1, h2, r3⟩ := r2.hole e5 e6
                 have hj : j < ds.length := (List.getElem?_eq_some_iff.mp e6).1
                 refine ⟨a, z, rfl, by rw [← h2]; exact DGet.k h1, .inr ⟨ρ1.set i none, ks, ds.set j (.opq z), j, d, by simp [hj], r3.perm ?_ |>.pops (Pn := Pn), fun v H' r => q v H' ?_⟩⟩
                 · exact perm3 [(D.dic true ks (ds.set j (.opq z)), V.ref a), (d, z)] Pn P
                 · rw [List.set_set, List.set_set] at r
                   exact r
               | false =>
                 obtain ⟨f2, x2⟩ := r2.head
                 cases x2 with
                 | @fdic a o kvv _ _ h1 h2 l =>
                   subst h2
                   obtain ⟨h3, h4⟩ := kIx_some e5
                   obtain ⟨z, f, e8, xd, hf⟩ := l.at e6
                   have f0 : f = [] := List.eq_nil_iff_forall_not_mem.mpr fun a ha => by have := hf a ha; cases this
                   subst f0
                   exact ⟨a, z, rfl, .inl ⟨kvv, k, .inr ⟨o, h1⟩, rfl, by rw [h4, e8]⟩, .inl ⟨d, ρ1, r1.pops.push0 xd, q⟩⟩
          | _ => simp only [e4] at q; exact q.elim
    · rcases k with ⟨d, ρ1, r, k⟩ | ⟨ρ1, ks, ds, j, d, hj, r, k⟩
      · exact ⟨v, H1, I1, rv, k v H1 r⟩
      · obtain ⟨H2, I2, r2⟩ := Rp.freeze I1 r.swap
        obtain ⟨f, x1⟩ := r2.head
        have x0 : Dv X.K H2 d.frz v [] := by have := x1.fz (D.frz_isF d); subst this; exact x1
        have r3 := r2.swap.fillH hj
        exact ⟨v, H2, I2, rv, k v H2 ((r3.put e1).push0 x0)⟩
end

/-! ### an item of an item, looked at without being frozen -/
/-- a reading that leaves what there is as it is -/
def QE (K : PySem.W.Frag) (te : TE) (g : En → Option D) : Prop := ∀ (c : Ct) (σ : L2.St) (H : Hp) (ρ : En) (P : List (D × V)) (d : D) (Q : VK), Rp K c σ H ρ P → g ρ = some d → (∀ v H', Fresh K H H' d v → Q v H') → te σ H Q
theorem q_c {K : PySem.W.Frag} {v : V} {d : D} (x : ∀ H, Dv K H d v []) : QE K (tC v) (fun _ => some d) := fun c σ H ρ P e Q r h q => by
  cases h
  exact q v H (Fresh.same (x H))
def slotF (i : Nat) (ρ : En) : Option D := match slot ρ i with
  | some d => if d.isF then some d else none
  | none => none
theorem q_name {K : PySem.W.Frag} (i : Nat) : QE K (tVar i) (slotF i) := fun c σ H ρ P e Q r h q => by
  unfold slotF at h
  cases es : slot ρ i with
  | none => rw [es] at h; cases h
  | some d =>
    rw [es] at h
    obtain ⟨hf, rfl⟩ := ite_some h
    obtain ⟨v, f, e1, x⟩ := r.slot (slot_some es)
    exact ⟨v, e1, q v H (Fresh.same (x.f0 hf))⟩
theorem q_nil {K : PySem.W.Frag} : QE K (tLst tNil) (fun _ => some (.lst true [])) := fun c σ H ρ P e Q r h q => by
  cases h
  refine ⟨Nat.zero_le _, fun p hp => q _ _ ⟨upd_ext hp, [p], .olst (by simp [upd]) .nil, by simp, fun a z => by rw [List.mem_singleton.mp z]; exact hp⟩⟩
/-- what stands at the key k of the dict in slot i -/
def pk (ρ : En) (i : Nat) (k : Key) : Option D := match slot ρ i with
  | some (.dic _ ks ds) => (kIx ks k).bind fun j => ds[j]?
  | _ => none
theorem pk_dv {K : PySem.W.Frag} {c : Ct} {σ : L2.St} {H : Hp} {ρ : En} {P : List (D × V)} {i : Nat} {k : Key} {d : D} (r : Rp K c σ H ρ P) (h : pk ρ i k = some d) : ∃ a x f, σ[i]? = some (some (.ref a)) ∧ DGet H a (kV k) (some x) ∧ Dv K H d x f := by
  unfold pk at h
  cases es : slot ρ i with
  | none => rw [es] at h; cases h
  | some dd =>
    rw [es] at h
    cases dd with
    | dic m ks ds =>
      obtain ⟨j, e1, e2⟩ := Option.bind_eq_some_iff.mp h
      obtain ⟨v, f, e3, x⟩ := r.slot (slot_some es)
      cases x with
      | @fdic a o kvv _ _ h1 h2 l =>
        subst h2
        obtain ⟨h3, h4⟩ := kIx_some e1
        obtain ⟨z, f, e8, xd, hf⟩ := l.at e2
        exact ⟨a, z, f, e3, .inl ⟨kvv, k, .inr ⟨o, h1⟩, rfl, by rw [h4, e8]⟩, xd⟩
      | @odic a kvv _ _ _ h1 h2 l =>
        subst h2
        obtain ⟨h3, h4⟩ := kIx_some e1
        obtain ⟨z, f, e8, xd, hf⟩ := l.at e2
        exact ⟨a, z, f, e3, .inl ⟨kvv, k, .inl h1, rfl, by rw [h4, e8]⟩, xd⟩
    | _ => cases h
def fPk (g : D → D → Option D) (i : Nat) (k : Key) (gb : En → Option D) : FE := fun ρ => match pk ρ i k, gb ρ with
  | some d, some e => R.of (g d e) ρ
  | _, _ => .stk
theorem rd_pk {K : PySem.W.Frag} {c : Ct} {Ew : Xn → En → Prop} {r : R2} {g : D → D → Option D} {i : Nat} {k : Key} {te : TE} {gb : En → Option D} (h : Op2 K r g) (qb : QE K te gb) (σ : L2.St) (H : Hp) (Q : VK) : rdE K c Ew (fPk g i k gb) σ H Q → tOp r (tDGet (tVar i) (tC (kV k))) te σ H Q := by
  rintro ⟨ρ, P, rp, q⟩
  unfold fPk at q
  cases e1 : pk ρ i k with
  | none => rw [e1] at q; exact q.elim
  | some d =>
    cases e2 : gb ρ with
    | none => rw [e1, e2] at q; exact q.elim
    | some e =>
      rw [e1, e2] at q
      obtain ⟨dr, e3, q⟩ := R.of_sat q
      obtain ⟨a, x, f, e4, dg, xd⟩ := pk_dv rp e1
      refine ⟨_, e4, a, x, rfl, dg, ?_⟩
      refine qb c σ H ρ P e _ rp e2 fun u H2 fr => ?_
      obtain ⟨hk, f2, xe, _, _⟩ := id fr
      exact h H2 x u d e f f2 Q dr (xd.ext hk) xe e3 fun w H3 fr3 => q w H3 (Rp.fresh (rp.ext hk) fr3)
section
variable {X : Cx} {c : Ct} {Ew : Xn → En → Prop} {b ix : Expr} {pos p p1 p2 p3 : Pos} {x ky : Str} {i : Nat} {te : TE} {gb : En → Option D} {g : D → D → Option D} {r : R2} {kn : Nat}
theorem pe_pk (hu : X.A.units + 1 < cLine) (hm : PE X (.Name x p) (tVar i)) (hs : NoSl (.Constant (.str ky) kn p1) := by intro _ _; rfl) : PE X (.Subscript (.Name x p) (.Constant (.str ky) kn p1) p2) (tDGet (tVar i) (tC (kV (.inr ky)))) := pe_dget hu hm pe_str hs
/-- m["k"] op b -/
theorem dt_pk {op : CmpOp} (hu : X.A.units + 1 < cLine) (hm : PE X (.Name x p) (tVar i)) (ho : OpR X (compareOp op) r) (h : Op2 X.K r g) (hb : PE X b te) (qb : QE X.K te gb) (hmk : behindInMarks op b = false) :
    DT X c Ew (.Compare (.Subscript (.Name x p) (.Constant (.str ky) kn p1) p2) [op] [b] pos) (fTst (fPk g i (.inr ky) gb)) := by
  refine (pt_cmpR ho (pe_pk hu hm) hb hmk).dimp fun σ H Q ⟨ρ, P, rp, q⟩ => ?_
  refine rd_pk (c := c) (Ew := Ew) h qb σ H _ ⟨ρ, P, rp, ?_⟩
  unfold fTst at q
  rw [R.sat_bind] at q
  refine q.imp fun d ρ' k v H' r' => ?_
  obtain ⟨b, rfl, k⟩ := asB_sat k
  exact ⟨b, r'.bl, k H' r'.pop⟩
/-- m["k"][b] -/
theorem de_pk (hu : X.A.units + 1 < cLine) (hm : PE X (.Name x p) (tVar i)) (ho : IxR X r) (h : Op2 X.K r g) (hb : PE X b te) (qb : QE X.K te gb) (hs : PlainIx b) :
    DE X c Ew (.Subscript (.Subscript (.Name x p) (.Constant (.str ky) kn p1) p2) b pos) (fPk g i (.inr ky) gb) := (pe_ix ho (pe_pk hu hm) hb hs).dimp (rd_pk h qb)
/-- m["k"][lo:hi], the bounds written -/
def fPkSl (i : Nat) (k : Key) (lo hi : Option Int) : FE := fun ρ => match pk ρ i k with
  | some d => R.of (slD d lo hi) ρ
  | none => .stk
def cPart (lo : Option Expr) (l : Option Int) (X : Cx) : Prop := PO X lo (fun _ H Q => Q l H)
theorem cp_none : cPart none none X := po_none.dimp fun _ _ _ q => q
theorem cp_int {j : Int} : cPart (some (.Constant (.int j) kn p)) (some j) X := (po_some pe_int).dimp fun _ _ _ q => ⟨j, rfl, q⟩
theorem de_pkSl {lo hi : Option Expr} {l u : Option Int} (hu : X.A.units + 1 < cLine) (hm : PE X (.Name x p) (tVar i)) (hl : cPart lo l X) (hh : cPart hi u X) :
    DE X c Ew (.Subscript (.Subscript (.Name x p) (.Constant (.str ky) kn p1) p2) (.Slice lo hi none p3) pos) (fPkSl i (.inr ky) l u) := by
  refine (pe_slice or_sl (pe_pk hu hm) hl hh).dimp fun σ H Q ⟨ρ, P, rp, q⟩ => ?_
  unfold fPkSl at q
  cases e1 : pk ρ i (.inr ky) with
  | none => rw [e1] at q; exact q.elim
  | some d =>
    rw [e1] at q
    obtain ⟨dr, e3, q⟩ := R.of_sat q
    obtain ⟨a, z, f, e4, dg, xd⟩ := pk_dv rp e1
    exact ⟨_, e4, a, z, rfl, dg, sl_ok xd e3 fun w H4 fr => q w H4 (Rp.fresh rp fr)⟩
end

/-! ### stores -/
def stL (d : D) (z : Int) (v : D) : Option D := match d with
  | .lst true xs => (ixN xs.length z).map fun j => .lst true (xs.set j v)
  | _ => none
theorem stL_some {d v r : D} {z : Int} (h : stL d z v = some r) : ∃ xs j, d = .lst true xs ∧ ixN xs.length z = some j ∧ j < xs.length ∧ r = .lst true (xs.set j v) := by
  unfold stL at h
  split at h
  · rename_i xs
    obtain ⟨j, e1, e2⟩ := Option.map_eq_some_iff.mp h
    exact ⟨xs, j, rfl, e1, (ixN_seq e1).2.1, e2.symm⟩
  · cases h
def stD (d : D) (k : Key) (v : D) : Option D := match d with
  | .dic true ks ds => (putD ks ds k v).map fun p => .dic true p.1 p.2
  | _ => none
theorem stD_some {d v r : D} {k : Key} (h : stD d k v = some r) : ∃ ks ds ks' ds', d = .dic true ks ds ∧ putD ks ds k v = some (ks', ds') ∧ r = .dic true ks' ds' := by
  unfold stD at h
  split at h
  · rename_i ks ds
    obtain ⟨⟨a, b⟩, e1, e2⟩ := Option.map_eq_some_iff.mp h
    exact ⟨ks, ds, a, b, rfl, e1, e2.symm⟩
  · cases h
/-- name[e] = v, a list -/
def gStL (i : Nat) (fi : FO) : FG := fun v ρ => match slot ρ i, fi ρ with
  | some _, .ok a ρ1 => (match res a ρ1, slot ρ1 i with
    | some (.int z), some d => (stL d z v).map fun r => ρ1.set i (some r)
    | _, _ => none)
  | _, _ => none
/-- name[e] = v, a dict -/
def gStD (i : Nat) (fi : FO) : FG := fun v ρ => match slot ρ i, fi ρ with
  | some _, .ok a ρ1 => (match (res a ρ1).bind D.key, slot ρ1 i with
    | some k, some d => (stD d k v).map fun r => ρ1.set i (some r)
    | _, _ => none)
  | _, _ => none
/-- name["k"][e] = v -/
def gNest (i : Nat) (k : Key) (gb : En → Option D) : FG := fun v ρ => match slot ρ i, gb ρ with
  | some (.dic true ks ds), some (.int z) => (kIx ks k).bind fun j => (ds[j]?).bind fun d => (stL d z v).map fun r => ρ.set i (some (.dic true ks (ds.set j r)))
  | _, _ => none
section
variable {X : Cx} {c : Ct} {Ew : Xn → En → Prop} {b ix : Expr} {pos p p1 p2 p3 : Pos} {x ky : Str} {te : TE} {gb : En → Option D} {kn : Nat} {fi : FO}
theorem dg_ix (i : Nat) (hm : PE X (.Name x p) (tVar i)) (hi : DO X c NoX ix fi)
    (ha : ∀ v, assign (.Subscript (.Name x p) ix pos) X.env v = (do
      let ov ← holding [v] (eval (.Name x p) X.env)
      let iv ← holding [v, ov] (eval ix X.env)
      standAt pos
      holding [v, ov, iv] (setItem ov iv v)
      release [v, ov, iv] []) := by intro _; rfl) : DG X c (.Subscript (.Name x p) ix pos) (gStL i fi) := (pg_sub hm hi set_list ha).dimp fun v σ H Q ⟨d, ρ, P, rp, ρ', e, q⟩ => by
  unfold gStL at e
  split at e
  case h_2 => cases e
  rename_i _ _ d0 a ρ1 es0 ef
  obtain ⟨v0, f0, e0, _⟩ := rp.slot (slot_some es0)
  split at e
  case h_2 => cases e
  rename_i _ _ z dd er es
  obtain ⟨r, e1, rfl⟩ := Option.map_eq_some_iff.mp e
  obtain ⟨xs, j, rfl, hj, hl, rfl⟩ := stL_some e1
  refine ⟨v0, e0, ρ, (d, v) :: P, rp, ?_⟩
  rw [ef]
  intro y H2 Pn r1 oka
  obtain ⟨f1, x1⟩ := oka.dv r1 er
  obtain rfl := x1.intR
  obtain ⟨v1, e2, r2⟩ := r1.take (slot_some es)
  rw [e0] at e2; cases e2
  obtain ⟨fa, xa⟩ := r2.head
  obtain ⟨a, vs, g, rfl, _, hH, l⟩ := Dv.own xa
  have r3 : Rp X.K c σ H2 (ρ1.set i none) ((.lst true xs, .ref a) :: (d, v) :: P) := (r2.perm (perm3 [(D.lst true xs, V.ref a)] Pn _)).pops
  obtain ⟨vs', h1, h2, r4⟩ := r3.setL hl
  refine ⟨a, vs', z, j, rfl, rfl, h1, by rw [h2]; exact hj, ?_⟩
  have r5 := r4.put e0
  rw [List.set_set] at r5
  exact q _ _ r5
theorem dg_dk (i : Nat) (hu : X.A.units + 1 < cLine) (hm : PE X (.Name x p) (tVar i)) (hi : DO X c NoX ix fi)
    (ha : ∀ v, assign (.Subscript (.Name x p) ix pos) X.env v = (do
      let ov ← holding [v] (eval (.Name x p) X.env)
      let iv ← holding [v, ov] (eval ix X.env)
      standAt pos
      holding [v, ov, iv] (setItem ov iv v)
      release [v, ov, iv] []) := by intro _; rfl) : DG X c (.Subscript (.Name x p) ix pos) (gStD i fi) := (pg_sub hm hi (set_dict hu) ha).dimp fun v σ H Q ⟨d, ρ, P, rp, ρ', e, q⟩ => by
  unfold gStD at e
  split at e
  case h_2 => cases e
  rename_i _ _ d0 a ρ1 es0 ef
  obtain ⟨v0, f0, e0, _⟩ := rp.slot (slot_some es0)
  split at e
  case h_2 => cases e
  rename_i _ _ k dd er es
  obtain ⟨r, e1, rfl⟩ := Option.map_eq_some_iff.mp e
  obtain ⟨ks, ds, ks', ds', rfl, hp, rfl⟩ := stD_some e1
  obtain ⟨kd, er1, er2⟩ := Option.bind_eq_some_iff.mp er
  refine ⟨v0, e0, ρ, (d, v) :: P, rp, ?_⟩
  rw [ef]
  intro y H2 Pn r1 oka
  obtain ⟨f1, x1⟩ := oka.dv r1 er1
  obtain rfl := x1.keyV er2
  obtain ⟨v1, e2, r2⟩ := r1.take (slot_some es)
  rw [e0] at e2; cases e2
  obtain ⟨fa, xa⟩ := r2.head
  obtain ⟨a, vs, g, rfl, _, hH, hk, l⟩ := Dv.ownD xa
  have r3 : Rp X.K c σ H2 (ρ1.set i none) ((.dic true ks ds, .ref a) :: (d, v) :: P) := (r2.perm (perm3 [(D.dic true ks ds, V.ref a)] Pn _)).pops
  obtain ⟨kvv, h1, h2, r4⟩ := r3.setD hp
  refine ⟨a, _, rfl, DPut.k h1 h2, ?_⟩
  have r5 := r4.put e0
  rw [List.set_set] at r5
  exact q _ _ r5
theorem dg_nest (i : Nat) (hu : X.A.units + 1 < cLine) (hm : PE X (.Name x p) (tVar i)) (hi : PE X ix te) (qb : QE X.K te gb)
    (ha : ∀ v, assign (.Subscript (.Subscript (.Name x p) (.Constant (.str ky) kn p1) p2) ix pos) X.env v = (do
      let ov ← holding [v] (eval (.Subscript (.Name x p) (.Constant (.str ky) kn p1) p2) X.env)
      let iv ← holding [v, ov] (eval ix X.env)
      standAt pos
      holding [v, ov, iv] (setItem ov iv v)
      release [v, ov, iv] []) := by intro _; rfl) : DG X c (.Subscript (.Subscript (.Name x p) (.Constant (.str ky) kn p1) p2) ix pos) (gNest i (.inr ky) gb) := (pg_sub (pe_pk hu hm) hi set_list ha).dimp fun v σ H Q ⟨d, ρ, P, rp, ρ', e, q⟩ => by
  unfold gNest at e
  split at e
  case h_2 => cases e
  rename_i _ _ ks ds z es eb
  obtain ⟨jk, ek, e⟩ := Option.bind_eq_some_iff.mp e
  obtain ⟨dk, edk, e⟩ := Option.bind_eq_some_iff.mp e
  obtain ⟨r, e1, rfl⟩ := Option.map_eq_some_iff.mp e
  obtain ⟨xs, j, rfl, hj, hl, rfl⟩ := stL_some e1
  obtain ⟨v0, e0, r1⟩ := rp.take (slot_some es)
  obtain ⟨a, kvv, y, rfl, h1, h2, r2⟩ := r1.hole ek edk
  refine ⟨_, e0, a, y, rfl, by rw [← h2]; exact DGet.k h1, ?_⟩
  refine qb c σ H ρ _ (.int z) _ rp eb fun iv H2 fr => ?_
  have r3 := (Rp.fresh r2 fr)
  obtain ⟨f1, x1⟩ := r3.head
  obtain rfl := x1.intR
  have r4 : Rp X.K c σ H2 (ρ.set i none) ((.lst true xs, y) :: (d, v) :: (.dic true ks (ds.set jk (.opq y)), .ref a) :: P) := r3.pop.perm (perm3 [(D.dic true ks (ds.set jk (.opq y)), V.ref a)] [(D.lst true xs, y), (d, v)] P)
  obtain ⟨fa, xa⟩ := r4.head
  obtain ⟨b, vs, g, rfl, _, hH, l⟩ := Dv.own xa
  obtain ⟨vs', h3, h4, r5⟩ := r4.setL hl
  refine ⟨b, vs', z, j, rfl, rfl, h3, by rw [h4]; exact hj, ?_⟩
  have hjk : jk < ds.length := (List.getElem?_eq_some_iff.mp edk).1
  have r6 := r5.swap.fillH (j := jk) (by simp [hjk])
  have r7 := r6.put e0
  rw [List.set_set, List.set_set] at r7
  exact q _ _ r7
end

/-! ### displays of dicts -/
def pairF : List (Key × FE) → En → R (List D)
  | [], ρ => .ok [] ρ
  | (_, f) :: fs, ρ => (f ρ).bind fun d ρ1 => (pairF fs ρ1).bind fun ds ρ2 => .ok (d :: ds) ρ2
def mergeD : List Key → List D → List Key → List D → Option (List Key × List D)
  | ks, ds, k :: ms, d :: es => (putD ks ds k d).bind fun p => mergeD p.1 p.2 ms es
  | ks, ds, _, _ => some (ks, ds)
def fDisp (fs : List (Key × FE)) : FE := fun ρ => (pairF fs ρ).bind fun ds ρ' => R.of ((mergeD [] [] (fs.map (·.1)) ds).map fun p => .dic true p.1 p.2) ρ'
def trsOf (K : PySem.W.Frag) (c : Ct) (Ew : Xn → En → Prop) (fs : List (Key × FE)) : List (TE × TE) := fs.map fun p => (tC (kV p.1), rdE K c Ew p.2)
theorem rd_pairs {K : PySem.W.Frag} {c : Ct} {Ew : Xn → En → Prop} : ∀ (fs : List (Key × FE)) (σ : L2.St) (H : Hp) (ρ : En) (P : List (D × V)) (Q : List (V × V) → Hp → Prop), Rp K c σ H ρ P →
    (pairF fs ρ).sat (fun ds ρ' => ∀ vs H', vs.length = ds.length → Rp K c σ H' ρ' (ds.zip vs ++ P) → Q ((fs.map (·.1)).zip vs |>.map fun p => (kV p.1, p.2)) H') Ew → tPairs (trsOf K c Ew fs) σ H Q
  | [], σ, H, ρ, P, Q, r, q => q [] H rfl r
  | (k, f) :: fs, σ, H, ρ, P, Q, r, q => by
    unfold pairF at q
    rw [R.sat_bind] at q
    refine ⟨ρ, P, r, q.imp fun d ρ1 q v H1 r1 => ?_⟩
    rw [R.sat_bind] at q
    refine rd_pairs fs σ H1 ρ1 ((d, v) :: P) _ r1 (q.imp fun ds ρ2 q vs H2 hl r2 => ?_)
    exact q (v :: vs) H2 (by simp [hl]) (r2.perm List.perm_middle)
theorem upd_upd {H : Hp} {a : Addr} {o o' : HO} : upd (upd H a o) a o' = upd H a o' := by
  funext b
  by_cases h : b = a
  · subst h; simp [upd]
  · rw [upd_ne h, upd_ne h, upd_ne h]
theorem upd_self {H : Hp} {a : Addr} {o : HO} (h : H a = some o) : upd H a o = H := by
  funext b
  by_cases hb : b = a
  · subst hb; simp [upd, h]
  · rw [upd_ne hb]
theorem Rp.merge {K : PySem.W.Frag} {c : Ct} {σ : L2.St} {ρ : En} {P : List (D × V)} {a : Addr} : ∀ {ms : List Key} {es : List D} {vs : List V} {ks : List Key} {ds : List D} {H : Hp} {kvv : List (Key × V)} {p : List Key × List D}, es.length = ms.length → vs.length = es.length → H a = some (.dK kvv) →
    Rp K c σ H ρ ((.dic true ks ds, .ref a) :: (es.zip vs ++ P)) → mergeD ks ds ms es = some p → Rp K c σ (upd H a (.dK (mergeK kvv (ms.zip vs)))) ρ ((.dic true p.1 p.2, .ref a) :: P)
  | [], [], [], ks, ds, H, kvv, p, _, _, h, r, e => by
    cases e
    show Rp K c σ (upd H a (.dK kvv)) ρ _
    rw [upd_self h]; exact r
  | k :: ms, d :: es, v :: vs, ks, ds, H, kvv, p, l1, l2, h, r, e => by
    unfold mergeD at e
    obtain ⟨⟨ks', ds'⟩, e1, e2⟩ := Option.bind_eq_some_iff.mp e
    obtain ⟨kvv', h1, _, r1⟩ := Rp.setD r e1
    rw [h] at h1; cases h1
    have r2 := Rp.merge (ms := ms) (es := es) (vs := vs) (kvv := putK kvv k v) (by simpa using l1) (by simpa using l2) (by simp [upd]) r1 e2
    rw [upd_upd] at r2
    exact r2
theorem pairF_len : ∀ {fs : List (Key × FE)} {ρ ρ' : En} {ds : List D}, pairF fs ρ = .ok ds ρ' → ds.length = fs.length
  | [], _, _, _, h => by cases h; rfl
  | (k, f) :: fs, ρ, ρ', ds, h => by
    unfold pairF at h
    cases e : f ρ with
    | ok d ρ1 =>
      rw [e] at h
      have h : (pairF fs ρ1).bind (fun ds ρ2 => R.ok (d :: ds) ρ2) = .ok ds ρ' := h
      cases e2 : pairF fs ρ1 with
      | ok es ρ2 => rw [e2] at h; cases h; simp [pairF_len e2]
      | exc _ _ => rw [e2] at h; cases h
      | stk => rw [e2] at h; cases h
    | exc _ _ => rw [e] at h; cases h
    | stk => rw [e] at h; cases h
section
variable {X : Cx} {c : Ct} {Ew : Xn → En → Prop} {pos : Pos} {keys : List (Option Expr)} {values : List Expr} {fs : List (Key × FE)}
theorem de_disp (h : PPs X pos keys values (trsOf X.K c Ew fs)) (hf : fs.length ≤ 15) (hall : keys.all (·.isSome) = true := by rfl) (hl : keys.length = values.length := by rfl) (h0 : keys ≠ [] := by exact List.cons_ne_nil _ _) (h15 : keys.length ≤ 15 := by decide) :
    DE X c Ew (.Dict keys values pos) (fDisp fs) := (pe_disp h hall hl h0 h15).dimp fun σ H Q ⟨ρ, P, rp, q⟩ p hp => by
  unfold fDisp at q
  rw [R.sat_bind] at q
  have r1 : Rp X.K c σ (upd H p (.dK [])) ρ ((.dic true [] [], .ref p) :: P) := Rp.fresh rp ⟨upd_ext hp, [p], .odic (kvv := []) (by simp [upd]) rfl .nil, by simp, fun a z => by rw [List.mem_singleton.mp z]; exact hp⟩
  refine rd_pairs fs σ _ ρ _ _ r1 ?_
  cases e : pairF fs ρ with
  | ok ds ρ' =>
    rw [e] at q
    obtain ⟨d, e1, q⟩ := R.of_sat q
    obtain ⟨pp, e2, rfl⟩ := Option.map_eq_some_iff.mp e1
    have hln := pairF_len e
    intro vs H2 hvl r2
    have r3 : Rp X.K c σ H2 ρ' ((.dic true [] [], .ref p) :: (ds.zip vs ++ P)) := r2.perm List.perm_middle
    obtain ⟨f1, x1⟩ := r3.head
    obtain ⟨a, kvv, g, e3, _, h1, h2, l⟩ := Dv.ownD x1
    cases e3
    have hk : kvv = [] := by cases kvv with | nil => rfl | cons _ _ => cases h2
    subst hk
    refine ⟨h1, (fs.map (·.1)).zip vs, rfl, by simp; omega, ?_⟩
    exact q _ _ (Rp.merge (by simp [hln]) hvl h1 r3 e2)
  | exc _ _ => rw [e] at q; exact q
  | stk => rw [e] at q; exact q
theorem dp_nil : PPs X pos [] [] (trsOf X.K c Ew []) := pps_nil
theorem dp_str {k : Str} {kn : Nat} {p1 : Pos} {v : Expr} {f : FE} (hv : DE X c Ew v f) (hr : PPs X pos keys values (trsOf X.K c Ew fs)) : PPs X pos (some (.Constant (.str k) kn p1) :: keys) (v :: values) (trsOf X.K c Ew ((.inr k, f) :: fs)) := pps_cons pe_str hv hr
theorem dp_int {k : Int} {kn : Nat} {p1 : Pos} {v : Expr} {f : FE} (hv : DE X c Ew v f) (hr : PPs X pos keys values (trsOf X.K c Ew fs)) : PPs X pos (some (.Constant (.int k) kn p1) :: keys) (v :: values) (trsOf X.K c Ew ((.inl k, f) :: fs)) := pps_cons pe_int hv hr
/-- {} -/
theorem de_dict0 : DE X c Ew (.Dict [] [] pos) (fC (.dic true [] [])) := pe_dnewK.dimp fun σ H Q ⟨ρ, P, rp, q⟩ p hp =>
  q _ _ (Rp.fresh rp ⟨upd_ext hp, [p], .odic (kvv := []) (by simp [upd]) rfl .nil, by simp, fun a z => by rw [List.mem_singleton.mp z]; exact hp⟩)
end
end DL

namespace DL
open PySem PySem.Spec PyProof.Rows L2

/-! ### repr -/
mutual
theorem hasDict_plain : ∀ d : PyData, d.plain = true → d.hasDict = false
  | .none, _ => by simp only [PyData.hasDict]
  | .bool _, _ => by simp only [PyData.hasDict]
  | .int _, _ => by simp only [PyData.hasDict]
  | .str _, _ => by simp only [PyData.hasDict]
  | .list xs, h => by
    simp only [PyData.plain] at h
    simp only [PyData.hasDict]
    exact hasDictAll_plain xs h
  | .tuple xs, h => by
    simp only [PyData.plain] at h
    simp only [PyData.hasDict]
    exact hasDictAll_plain xs h
  | .dict _, h => by simp [PyData.plain] at h
theorem hasDictAll_plain : ∀ xs : List PyData, PyData.plainAll xs = true → PyData.hasDictAll xs = false
  | [], _ => by simp only [PyData.hasDictAll]
  | x :: xs, h => by
    simp only [PyData.plainAll, Bool.and_eq_true] at h
    simp only [PyData.hasDictAll, hasDict_plain x h.1, hasDictAll_plain xs h.2, Bool.or_self]
end
def rRepr (K : PySem.W.Frag) : List V → Hp → VK → Prop := fun xs H Q => ∃ x p, xs = [x] ∧ Dp K H x p ∧ p.plain = true ∧ p.showable = true ∧ p.shown.length ≤ sizeLine ∧ p.depth ≤ 64 ∧ Q (.str p.shown) H
theorem call_reprD {X : Cx} (hg : X.A.guards = some []) (hu : X.A.units + 65 < cLine) : CallR X (.builtin "repr") (rRepr X.K) := by
  intro pins s σ H xs us Q I r h
  obtain ⟨x, p, rfl, dp, hp, hs, hz, hd, q⟩ := h
  match r with
  | .cons (b := u) ru .nil =>
    obtain ⟨as, rd⟩ := Dp.reads I p x u dp ru
    cases dp with
    | non => obtain rfl : u = .none := ru; exact PySem.P.repr_of_none ⟨.str _, H, I.tok _, ⟨_, rfl⟩, q⟩
    | bl b => obtain rfl : u = .bool b := ru; exact PySem.P.repr_of_bool ⟨.str _, H, I.tok _, ⟨_, rfl⟩, q⟩
    | int i =>
      obtain ⟨t, rfl⟩ := ru
      exact PySem.P.repr_of_int (by simpa [PyData.showable] using hs) ⟨.str _, H, I.tok _, ⟨_, rfl⟩, q⟩
    | str z =>
      obtain ⟨t, rfl⟩ := ru
      exact PySem.P.repr_of_str ⟨.str _, H, I.tok _, ⟨_, rfl⟩, q⟩ hz
    | lst h l =>
      obtain rfl : u = .ref _ := ru
      exact repr_of_reads' rd hs (fun z => by rw [hasDict_plain _ hp] at z; cases z) hg (by omega) (fun _ _ e => e) (fun h' t tk k => ⟨.str _, H, I.kept k, ⟨_, rfl⟩, q⟩) hz
    | tup h l =>
      obtain rfl : u = .ref _ := ru
      exact repr_of_reads' rd hs (fun z => by rw [hasDict_plain _ hp] at z; cases z) hg (by omega) (fun _ _ e => e) (fun h' t tk k => ⟨.str _, H, I.kept k, ⟨_, rfl⟩, q⟩) hz
def reprG : List D → Option D
  | [d] => (d.py).bind fun p => if p.showable && decide (p.shown.length ≤ sizeLine) && decide (p.depth ≤ 64) then some (.str p.shown) else none
  | _ => none
theorem repr_ok {K : PySem.W.Frag} : OpN K (rRepr K) reprG := by
  intro H xs ds Q dr hx hg q
  unfold reprG at hg
  split at hg
  · rename_i d
    match hx with
    | .cons (b := x) ⟨f, hx⟩ .nil =>
      obtain ⟨p, e1, e2⟩ := Option.bind_eq_some_iff.mp hg
      obtain ⟨h, rfl⟩ := ite_some e2
      simp only [Bool.and_eq_true, decide_eq_true_eq] at h
      exact ⟨x, p, rfl, Dv.dp d hx e1, D.py_plain d e1, h.1.1, h.1.2, h.2, q _ _ fresh_str⟩
  · cases hg

/-! ### min, max, sum, any, all, list, tuple, join -/
def min2G : List D → Option D
  | [.int i, .int j] => some (.int (if j < i then j else i))
  | _ => none
def max2G : List D → Option D
  | [.int i, .int j] => some (.int (if j > i then j else i))
  | _ => none
theorem min2_ok {K : PySem.W.Frag} : OpN K (fun xs H Q => ∃ i j, xs = [.int i, .int j] ∧ Q (.int (if j < i then j else i)) H) min2G := by
  intro H xs ds Q dr hx hg q
  unfold min2G at hg
  split at hg
  · match hx with
    | .cons ⟨f, hx⟩ (.cons ⟨g, hy⟩ .nil) =>
      cases hg
      have := hx.intR; subst this
      have := hy.intR; subst this
      exact ⟨_, _, rfl, q _ _ fresh_int⟩
  · cases hg
theorem max2_ok {K : PySem.W.Frag} : OpN K (fun xs H Q => ∃ i j, xs = [.int i, .int j] ∧ Q (.int (if j > i then j else i)) H) max2G := by
  intro H xs ds Q dr hx hg q
  unfold max2G at hg
  split at hg
  · match hx with
    | .cons ⟨f, hx⟩ (.cons ⟨g, hy⟩ .nil) =>
      cases hg
      have := hx.intR; subst this
      have := hy.intR; subst this
      exact ⟨_, _, rfl, q _ _ fresh_int⟩
  · cases hg
def intsD : List D → Option (List Int)
  | [] => some []
  | .int i :: ds => (intsD ds).map (i :: ·)
  | _ => none
def strsD : List D → Option (List Str)
  | [] => some []
  | .str i :: ds => (strsD ds).map (i :: ·)
  | _ => none
def blsD : List D → Option (List Bool)
  | [] => some []
  | .bl i :: ds => (blsD ds).map (i :: ·)
  | _ => none
section
variable {K : PySem.W.Frag} {H : Hp}
theorem intsD_v : ∀ {ds : List D} {vs : List V} {f : List Addr} {ns : List Int}, DvL K H ds vs f → intsD ds = some ns → vs = ns.map V.int
  | [], _, _, _, .nil, e => by cases e; rfl
  | d :: ds, _, _, _, .cons x l, e => by
    cases d with
    | int i =>
      obtain ⟨ns, e1, rfl⟩ := Option.map_eq_some_iff.mp e
      rw [x.intR, intsD_v l e1]; rfl
    | _ => cases e
theorem strsD_v : ∀ {ds : List D} {vs : List V} {f : List Addr} {ns : List Str}, DvL K H ds vs f → strsD ds = some ns → vs = ns.map V.str
  | [], _, _, _, .nil, e => by cases e; rfl
  | d :: ds, _, _, _, .cons x l, e => by
    cases d with
    | str i =>
      obtain ⟨ns, e1, rfl⟩ := Option.map_eq_some_iff.mp e
      rw [x.strR, strsD_v l e1]; rfl
    | _ => cases e
theorem blsD_v : ∀ {ds : List D} {vs : List V} {f : List Addr} {ns : List Bool}, DvL K H ds vs f → blsD ds = some ns → vs = ns.map V.bl
  | [], _, _, _, .nil, e => by cases e; rfl
  | d :: ds, _, _, _, .cons x l, e => by
    cases d with
    | bl i =>
      obtain ⟨ns, e1, rfl⟩ := Option.map_eq_some_iff.mp e
      rw [x.blR, blsD_v l e1]; rfl
    | _ => cases e
end
def sumG : List D → Option D
  | [.lst _ xs] => (intsD xs).map fun ns => .int ns.sum
  | _ => none
theorem sum_ok {K : PySem.W.Frag} : OpN K (rSum K) sumG := by
  intro H xs ds Q dr hx hg q
  unfold sumG at hg
  split at hg
  · match hx with
    | .cons ⟨f, hx⟩ .nil =>
      obtain ⟨ns, e1, rfl⟩ := Option.map_eq_some_iff.mp hg
      obtain ⟨a, ys, g, rfl, h, l⟩ := hx.lstR
      have e := intsD_v l e1
      subst e
      exact ⟨a, ns, rfl, h, q _ _ fresh_int⟩
  · cases hg
def anyG : List D → Option D
  | [.lst _ xs] => (blsD xs).map fun ns => .bl (ns.any id)
  | _ => none
def allG : List D → Option D
  | [.lst _ xs] => (blsD xs).map fun ns => .bl (ns.all id)
  | _ => none
theorem any_ok {K : PySem.W.Frag} : OpN K (rAny K) anyG := by
  intro H xs ds Q dr hx hg q
  unfold anyG at hg
  split at hg
  · match hx with
    | .cons ⟨f, hx⟩ .nil =>
      obtain ⟨ns, e1, rfl⟩ := Option.map_eq_some_iff.mp hg
      obtain ⟨a, ys, g, rfl, h, l⟩ := hx.lstR
      have e := blsD_v l e1
      subst e
      exact ⟨a, ns, rfl, h, q _ _ fresh_bl⟩
  · cases hg
theorem all_ok {K : PySem.W.Frag} : OpN K (rAll K) allG := by
  intro H xs ds Q dr hx hg q
  unfold allG at hg
  split at hg
  · match hx with
    | .cons ⟨f, hx⟩ .nil =>
      obtain ⟨ns, e1, rfl⟩ := Option.map_eq_some_iff.mp hg
      obtain ⟨a, ys, g, rfl, h, l⟩ := hx.lstR
      have e := blsD_v l e1
      subst e
      exact ⟨a, ns, rfl, h, q _ _ fresh_bl⟩
  · cases hg
def listG : List D → Option D
  | [.lst _ xs] => if D.isFL xs then some (.lst true xs) else none
  | [.tup xs] => if D.isFL xs then some (.lst true xs) else none
  | _ => none
theorem list_ok {K : PySem.W.Frag} : OpN K (fun xs H Q => ∃ p ys, xs = [.ref p] ∧ (SqL K H p ys ∨ SqT K H p ys) ∧ ∀ l, H l = none → Q (.ref l) (upd H l (.lst ys))) listG := by
  intro H xs ds Q dr hx hg q
  unfold listG at hg
  split at hg
  · match hx with
    | .cons ⟨f, hx⟩ .nil =>
      obtain ⟨hf, rfl⟩ := ite_some hg
      obtain ⟨a, ys, g, rfl, h, l⟩ := hx.lstR
      exact ⟨a, ys, rfl, .inl h, fun p hp => q _ _ (fresh_lst (l.f0 hf) hp)⟩
  · match hx with
    | .cons ⟨f, hx⟩ .nil =>
      obtain ⟨hf, rfl⟩ := ite_some hg
      obtain ⟨a, ys, rfl, h, l⟩ := hx.tupR
      exact ⟨a, ys, rfl, .inr h, fun p hp => q _ _ (fresh_lst (l.f0 hf) hp)⟩
  · cases hg
def tupleG : List D → Option D
  | [.lst _ xs] => if D.isFL xs then some (.tup xs) else none
  | [.tup xs] => if D.isFL xs then some (.tup xs) else none
  | _ => none
theorem tuple_ok {K : PySem.W.Frag} : OpN K (fun xs H Q => ∃ p ys, xs = [.ref p] ∧ ((SqL K H p ys ∧ ∀ l, H l = none → Q (.ref l) (upd H l (.tup ys))) ∨ (SqT K H p ys ∧ Q (.ref p) H))) tupleG := by
  intro H xs ds Q dr hx hg q
  unfold tupleG at hg
  split at hg
  · match hx with
    | .cons ⟨f, hx⟩ .nil =>
      obtain ⟨hf, rfl⟩ := ite_some hg
      obtain ⟨a, ys, g, rfl, h, l⟩ := hx.lstR
      exact ⟨a, ys, rfl, .inl ⟨h, fun p hp => q _ _ (fresh_tup (l.f0 hf) hp)⟩⟩
  · match hx with
    | .cons ⟨f, hx⟩ .nil =>
      obtain ⟨hf, rfl⟩ := ite_some hg
      obtain ⟨a, ys, rfl, h, l⟩ := hx.tupR
      exact ⟨a, ys, rfl, .inr ⟨h, q _ _ (Fresh.same (.tup h (l.f0 hf)))⟩⟩
  · cases hg
def joinD : D → D → Option D
  | .str a, .lst _ xs => (strsD xs).bind fun ys => if (ys.map (·.length)).sum + ys.length * a.length ≤ 16777216 then some (.str (Txt.join a ys)) else none
  | .str a, .tup xs => (strsD xs).bind fun ys => if (ys.map (·.length)).sum + ys.length * a.length ≤ 16777216 then some (.str (Txt.join a ys)) else none
  | _, _ => none
def rJoin (K : PySem.W.Frag) : V → List V → Hp → VK → Prop := fun x xs H Q => ∃ a p, ∃ ys : List Str, x = .str a ∧ xs = [.ref p] ∧ (SqL K H p (ys.map V.str) ∨ SqT K H p (ys.map V.str)) ∧ (ys.map (·.length)).sum + ys.length * a.length ≤ 16777216 ∧ Q (.str (Txt.join a ys)) H
theorem join_ok {K : PySem.W.Frag} : Op2 K (fun x y => rJoin K x [y]) joinD := by
  intro H x y d e f1 f2 Q dr hx hy hg q
  unfold joinD at hg
  split at hg
  · obtain ⟨ys, e1, e2⟩ := Option.bind_eq_some_iff.mp hg
    obtain ⟨h, rfl⟩ := ite_some e2
    obtain ⟨a, zs, g, rfl, h2, l⟩ := hy.lstR
    have e := strsD_v l e1
    subst e
    exact ⟨_, a, ys, hx.strR, rfl, .inl h2, h, q _ _ fresh_str⟩
  · obtain ⟨ys, e1, e2⟩ := Option.bind_eq_some_iff.mp hg
    obtain ⟨h, rfl⟩ := ite_some e2
    obtain ⟨a, zs, rfl, h2, l⟩ := hy.tupR
    have e := strsD_v l e1
    subst e
    exact ⟨_, a, ys, hx.strR, rfl, .inr h2, h, q _ _ fresh_str⟩
  · cases hg
section
variable {X : Cx} {c : Ct} {Ew : Xn → En → Prop} {o e : Expr} {pos apos : Pos} {fo fe : FO}
/-- methods of texts, one argument; the receiver a text -/
def isS : D → Bool
  | .str _ => true
  | _ => false
def fM1 (g : D → D → Option D) (fa fb : FO) : FE := fun ρ => (fa ρ).bind fun a ρ1 => match res a ρ1 with
  | some (.str z) => (fb ρ1).bind fun b ρ2 => match res b ρ2 with
    | some e => R.of (g (.str z) e) ρ2
    | none => .stk
  | _ => .stk
theorem de_m1 {id : String} {name : Str} {r : V → List V → Hp → VK → Prop} {g : D → D → Option D} (slot : Slot "str" name id) (ty : typeOf (.builtin id) = pure (.type "method_descriptor")) (rule : MtR X id r) (h : Op2 X.K (fun x y => r x [y]) g) (ho : DO X c Ew o fo) (he : DO X c Ew e fe)
    (hs : starEach [e] X.env = [(false, eval e X.env)] := by rfl) (hbase : attributeBase o name X.env (eval o X.env) = eval o X.env := by rfl) (hline : (apos.endLine == pos.line) = true := by rfl) :
    DE X c Ew (.Call (.Attribute o name apos) [e] [] pos) (fM1 g fo fe) := (pe_m1 slot ty rule ho he hs hbase hline).dimp fun σ H Q ⟨ρ, P, rp, q⟩ => by
  unfold fM1 at q
  rw [R.sat_bind] at q
  refine ⟨ρ, P, rp, q.imp fun a ρ1 q v H1 Pn r1 oka => ?_⟩
  split at q
  · rename_i z ea
    obtain ⟨f1, x⟩ := oka.dv r1 ea
    obtain rfl := x.strR
    refine ⟨⟨z, rfl⟩, ρ1, Pn ++ P, r1, ?_⟩
    rw [R.sat_bind] at q
    refine q.imp fun b ρ2 q u H2 Pm r2 okb => ?_
    split at q
    · rename_i e eb
      obtain ⟨f2, y⟩ := okb.dv r2 eb
      obtain ⟨dr, e1, q⟩ := R.of_sat q
      exact h H2 (.str z) u (.str z) e [] f2 Q dr (.str z) y e1 fun w H3 fr => q w H3 (Rp.fresh r2.pops.pops fr)
    · exact q.elim
  · exact q.elim
theorem de_join (ho : DO X c Ew o fo) (he : DO X c Ew e fe) (hs : starEach [e] X.env = [(false, eval e X.env)] := by rfl) (hbase : attributeBase o "join" X.env (eval o X.env) = eval o X.env := by rfl) (hline : (apos.endLine == pos.line) = true := by rfl) :
    DE X c Ew (.Call (.Attribute o "join" apos) [e] [] pos) (fM1 joinD fo fe) := de_m1 F.slot_str_join F.type_str_join (r := rJoin X.K) mt_join join_ok ho he hs hbase hline
end
end DL

namespace DL
open PySem PySem.Spec PyProof.Rows L2

/-! ### a def that may be called by its name -/
structure CalG (P : Program) (w : World) (K : PySem.W.Frag) (mg : Str → Option Value) (base : Heap) (k : Nat) (x : Str) (G : List D → GR) : Prop where
  ex : ∃ (f : Addr) (fd : FuncData) (ps : List Str), FnG P w K mg base k f fd ps G ∧ mg x = some (.ref f) ∧ PySem.W.keepIn K (.ref f) = true ∧ Binds K fd ps []
theorem FnG.mono {P : Program} {w : World} {K : PySem.W.Frag} {mg : Str → Option Value} {base : Heap} {j k : Nat} {f : Addr} {fd : FuncData} {ps : List Str} {G : List D → GR} (F : FnG P w K mg base j f fd ps G) (h : j ≤ k) : FnG P w K mg base k f fd ps G :=
  ⟨F.len, fun A outer s H args us vs Q ds fp hg hr => F.run A outer s H args us vs Q ds fp hg (hr.mono h)⟩
section
variable {X : Cx} {c : Ct} {Ew : Xn → En → Prop} {e : Expr} {es : List Expr} {pos p : Pos} {j k : Nat} {G : List D → GR} {x : Str} {fas : FLs}
theorem de_c1 (C : CalG X.prog X.w X.K X.mg X.base j x G) (hgu : X.A.guards = some []) (hr : Room k X.A) (hk : j ≤ k) (ha : DA X c Ew (e :: es) fas) (hg : Gl X x := by rfl) (hdb : (x == ("__debug__" : Str)) = false := by decide) (he : starEach (e :: es) X.env = (false, eval e X.env) :: starEach es X.env := by rfl) (hpl : (backTo pos (starEach es X.env)).any (·.1) = false := by rfl) :
    DE X c Ew (.Call (.Name x p) (e :: es) [] pos) (fCall G fas) := by
  obtain ⟨f, fd, ps, F, hm, kp, b⟩ := C.ex
  have := de_call (c := c) (Ew := Ew) (pos := pos) (p := p) (F.mono hk) hgu hr hg hm kp b .nil (fun _ => .nil) ha hdb he hpl
  have e0 : (fun ds => G (ds ++ [])) = G := by funext ds; rw [List.append_nil]
  rw [e0] at this
  exact this
theorem de_cM (C : CalG X.prog X.w X.K X.mg X.base j x G) (hgu : X.A.guards = some []) (hr : Room k X.A) (hk : j ≤ k) (ha : DA X c Ew (e :: es) fas) (hg : Gl X x := by rfl) (hdb : (x == ("__debug__" : Str)) = false := by decide) (he : starEach (e :: es) X.env = (false, eval e X.env) :: starEach es X.env := by rfl) (hpl : (backTo pos (starEach es X.env)).any (·.1) = false := by rfl) :
    DE X c Ew (.Call (.Name x p) (e :: es) [] pos) (fCallM G fas) := by
  obtain ⟨f, fd, ps, F, hm, kp, b⟩ := C.ex
  have := de_callM (c := c) (Ew := Ew) (pos := pos) (p := p) (F.mono hk) hgu hr hg hm kp b .nil (fun _ => .nil) ha hdb he hpl
  have e0 : (fun ds => G (ds ++ [])) = G := by funext ds; rw [List.append_nil]
  rw [e0] at this
  exact this
end
theorem calG_of {P : Program} {w : World} {K : PySem.W.Frag} {mg : Str → Option Value} {base : Heap} {st : Stmt} {fd : FuncData} {x : Str} {k : Nat} {f : Addr} {ps : List Str} {G : List D → GR} (F : L2.Fun K x x st f fd) (hm : mg x = some (.ref f)) (O : FnG P w K mg base k f fd ps G)
    (b : Binds K fd ps []) : CalG P w K mg base k x G := ⟨f, fd, ps, O, hm, F.kp, b⟩
/-! ### the law -/
theorem ints_dv {K : PySem.W.Frag} {H : Hp} : ∀ (ns : List Int), DvL K H (ns.map D.int) (ns.map V.int) []
  | [] => .nil
  | n :: ns => .cons (f1 := []) (f2 := []) (.int n) (ints_dv ns)
theorem script_dv {K : PySem.W.Frag} {H : Hp} {a : Addr} {ns : List Int} (ho : Only H) (h : SqL K H a (ns.map V.int)) : DvL K H [.lst false (ns.map D.int)] [.ref a] [] := by
  refine .cons (f1 := []) (f2 := []) (.flst ?_ (ints_dv ns)) .nil
  rcases h with (h | ⟨o, h⟩) | h
  · rcases ho a with z | ⟨o, xs, z⟩
    · rw [h] at z; cases z
    · rw [h] at z; cases z
  · exact .inl ⟨o, h⟩
  · exact .inr h
theorem end_law {P : Program} {w : World} {K : PySem.W.Frag} {mg mb : Str → Option Value} {k : Nat} {fa a : Addr} {fd : FuncData} {x : Str} {G : List D → GR} {s1 : Shared} {vs : List Value} {ns : List Int}
    (KX : K.In s1.heap) (hns : s1.heap.Ns mainGlobals mg) (hb : s1.heap.Ns builtinsNs mb) (hbb : ∀ x : Str, x ≠ "__name__" → mb x = bootBuiltins x) (hlim : s1.heap.NoLimit) (hg : s1.gens = #[])
    (ha : s1.heap.get? a = some { cls := .type "list", data := .seq vs.toArray }) (hi : IntsAre vs ns) (hl : ns.length ≤ sizeLine) (hr : Room k callerA)
    (F : ∀ base : Heap, FnG P w K mg base k fa fd [x] G) (bi : ∀ (s : Shared) (u : Value), BindsTo s fd ⟨[u], []⟩ [(x, u)]) (q : ∃ m, G [.lst false (ns.map D.int)] = .ok (.bl true) m) :
    codeAny (model P w) callerA (.call (.ref fa) ⟨[.ref a], []⟩) (fun r s' => r = .ok (.ret (.bool true)) ∧ OldK s1.heap s'.heap ∧ s'.os = s1.os ∧ AllBare s'.gens) s1 := by
  have rv := vals_ints hi
  have main : ∀ H : Hp, Only H → SqL K H a (ns.map V.int) → HOk P w H s1.heap → (∀ b, H b ≠ none → b = a) → (H a ≠ none → K.lookup a = none) →
      codeAny (model P w) callerA (.call (.ref fa) ⟨[.ref a], []⟩) (fun r s' => r = .ok (.ret (.bool true)) ∧ OldK s1.heap s'.heap ∧ s'.os = s1.os ∧ AllBare s'.gens) s1 := by
    intro H hO hS hok hA hK
    have at_ : ∀ {b : Addr} {o : Obj}, s1.heap.get? b = some o → H b = none → (hidT s1.heap H).get? b = some o := fun e n => hidT_get e n
    have dictN : ∀ {b : Addr} {o : Obj} {es : Array DictEntry} {ep : Nat}, s1.heap.get? b = some o → o.data = .dict es ep → H b = none := fun {b o es ep} e d => Classical.byContradiction fun z => by
      have e' : b = a := hA b z
      subst e'
      rw [ha] at e; cases e; cases d
    have spaces : ∀ {b : Addr} {m : Str → Option Value}, s1.heap.Ns b m → (hidT s1.heap H).Ns b m := fun {b m} ⟨o, es, ep, e, d, r⟩ => ⟨o, es, ep, at_ e (dictN e d), d, r⟩
    have KB : K.In (hidT s1.heap H) := fun b o e => at_ (KX b o e) (Classical.byContradiction fun z => by
      have e' : b = a := hA b z
      subst e'
      rw [hK z] at e; cases e)
    obtain ⟨mc, lm1, lm2⟩ := hlim
    have M : Mod K mg (hidT s1.heap H) := ⟨KB, spaces hns, ⟨mb, spaces hb, hbb⟩, mc, spaces lm1, lm2⟩
    have E : Env0 P w K mg (hidT s1.heap H) callerA [] s1 H := ⟨rfl, M, fun b o e => of_hidT e, Nat.le_of_eq (hidT_size _ _), trivial, fun b hb => (List.not_mem_nil hb).elim, hok, .of_eq hg⟩
    obtain ⟨m, q⟩ := q
    refine codeAny_mono ((F (hidT s1.heap H)).run callerA [] s1 H ⟨[.ref a], []⟩ [.ref a] [.ref a] (fun v _ => v = .bl true) _ [] rfl hr E (bi s1 (.ref a)) (.cons rfl .nil) (script_dv hO hS) List.nodup_nil (by
      rw [q]
      intro v H' fp' _ l _ _
      obtain ⟨f1, f2, _, y, _⟩ := l.uncons
      exact y.blR)) fun r s' h => ?_
    cases r with
    | error e => exact h.elim
    | ok fl =>
      cases fl with
      | ret u =>
        obtain ⟨v, H', os, bare, un, hok', ru, q⟩ := h
        have q' : v = .bl true := q
        subst q'
        obtain rfl : u = Value.bool true := ru
        refine ⟨rfl, OldK.of_keep fun b o e => ?_, os, bare⟩
        rcases hO b with z | ⟨ob, xs, z⟩
        · exact un.keep b o e z (fun y => (List.not_mem_nil (show b ∈ ([] : List Addr) from y)).elim) (by simp)
        · obtain ⟨e1, _⟩ := hok b _ z
          obtain ⟨e2, _⟩ := hok' b _ (un.frzs b ob _ z)
          rw [e] at e1; cases e1
          exact e2
      | _ => exact h.elim
  cases hk : K.lookup a with
  | some o =>
    have e := KX a o hk
    rw [ha] at e
    cases e
    exact main (fun _ => none) (fun _ => .inl rfl) (.inr ⟨_, vs.toArray, _, hk, rfl, rfl, rfl, by rw [List.size_toArray, hi.length]; exact hl, by simpa using rv⟩) (fun b u z => nomatch (show (none : Option HO) = some u from z)) (fun b z => absurd rfl z) fun z => absurd rfl z
  | none =>
    let H : Hp := fun b => if b = a then some (.frz { cls := .type "list", data := .seq vs.toArray } (.lst (ns.map V.int))) else none
    have h1 : H a = some (.frz { cls := .type "list", data := .seq vs.toArray } (.lst (ns.map V.int))) := if_pos rfl
    have h2 : ∀ b, b ≠ a → H b = none := fun b z => if_neg z
    refine main H (fun b => ?_) (.inl (.inr ⟨_, h1⟩)) (fun b u z => ?_) (fun b z => Classical.byContradiction fun y => z (h2 b y)) fun _ => hk
    · by_cases z : b = a
      · rw [z]; exact .inr ⟨_, _, h1⟩
      · exact .inl (h2 b z)
    · by_cases y : b = a
      · subst y
        rw [h1] at z; cases z
        exact ⟨ha, by rw [List.length_map]; exact hl, vs, _, rv, ha⟩
      · rw [h2 b y] at z; cases z
theorem walkG {l : PySem.W.OpenLaw} {n k : Nat} {q : Program} {loose : List Str} {XP : (Str → Option Value) → Heap → Prop} {YP : World → Heap → Prop} {d : DefRec} {K : Params → PySem.W.Frag} {x : Str} {G : List D → GR}
    (hn : l.most = some n) (hn2 : n ≤ sizeLine) (hdf : d.params.defaults = []) (hr : Room k callerA) (hY : ∀ (w : World) (h : Heap), YP w h → (K w.params).In h)
    (F : ∀ (w : World) (mg : Str → Option Value) (fa : Addr) (h : Heap), (K w.params).In h → h.Ns mainGlobals mg → mg d.name = some (.ref fa) →
      ∃ fd : FuncData, (∀ (s : Shared) (u : Value), BindsTo s fd ⟨[u], []⟩ [(x, u)]) ∧ ∀ base : Heap, FnG l.prog w (K w.params) mg base k fa fd [x] G)
    (law : ∀ ns : List Int, ns.length ≤ n → ∃ m, G [.lst false (ns.map D.int)] = .ok (.bl true) m) : PySem.W.WalkO q loose XP YP l.row.toRowW d [] (fun f vs => PySem.call f vs) := by
  refine Att.attach_call hn hdf fun w s₀ s1 mg mb fa o pm cd doc a vs ns G Y _ _ _ hmg hobj hints hlen hg => ?_
  obtain ⟨fd, b, O⟩ := F w mg fa _ (hY w _ Y) G.T.g hmg
  exact end_law (hY w _ Y) G.T.g G.T.b G.T.builtins G.T.nolimit hg hobj hints (Nat.le_trans hlen hn2) hr O b (law ns hlen)
end DL

namespace DL
open PySem PySem.Spec PyProof.Rows L2

/-! ### small things for printed derivations -/
theorem u1 {k : Nat} {A : PySem.Around} (h : Room k A) : A.units + 1 < cLine := by have := h.un; omega
theorem u64 {k : Nat} {A : PySem.Around} (h : Room k A) : A.units + 64 < cLine := by have := h.un; omega
theorem u65 {k : Nat} {A : PySem.Around} (h : Room k A) : A.units + 65 < cLine := by have := h.un; omega
theorem nz {c : Ct} {Z : List Nat} (h : c.Z = Z) {i : Nat} (hd : decide (i ∈ Z) = false) : i ∉ c.Z := by
  rw [h]; exact of_decide_eq_false hd
def GInt (mg : Str → Option Value) (x : Str) (i : Int) : Prop := ∃ t, mg x = some (.int i t)
def GStr (mg : Str → Option Value) (x : Str) (z : Str) : Prop := ∃ t, mg x = some (.str z t)
section
variable {X : Cx} {c : Ct} {Ew : Xn → En → Prop} {x : Str} {pos : Pos}
theorem de_gint {i : Int} (h : GInt X.mg x i) (hg : Gl X x := by rfl) (hd : (x == ("__debug__" : Str)) = false := by decide) : DE X c Ew (.Name x pos) (fC (.int i)) := by
  obtain ⟨t, h⟩ := h
  exact de_glob (v := .int i) h hg ⟨t, rfl⟩ (fun _ => .int i) hd
theorem de_gstr {i : Str} (h : GStr X.mg x i) (hg : Gl X x := by rfl) (hd : (x == ("__debug__" : Str)) = false := by decide) : DE X c Ew (.Name x pos) (fC (.str i)) := by
  obtain ⟨t, h⟩ := h
  exact de_glob (v := .str i) h hg ⟨t, rfl⟩ (fun _ => .str i) hd
/-- a built-in class as a value -/
theorem de_ty {T : String} (hm : X.mg x = none) (hv : bootBuiltins x = some (.type T)) (hg : Gl X x := by rfl) (hn : x ≠ "__name__" := by decide) (hd : (x == ("__debug__" : Str)) = false := by decide) : DE X c Ew (.Name x pos) (fC (.opq (.ty T))) :=
  de_c (pe_bltn (v := .ty T) hg hm hv rfl hn hd) fun _ => .opq _
end
theorem le_ok {K : PySem.W.Frag} : Op2 K (rI0 fun i j => .bl (decide (i ≤ j))) leD := cmpI_ok
theorem gt_ok {K : PySem.W.Frag} : Op2 K (rI0 fun i j => .bl (decide (j < i))) gtD := cmpI_ok
theorem ge_ok {K : PySem.W.Frag} : Op2 K (rI0 fun i j => .bl (decide (j ≤ i))) geD := cmpI_ok
/-- in place, of ints -/
def iaddD : D → D → Option D
  | .int i, .int j => some (.int (i + j))
  | _, _ => none
theorem iadd_ok {K : PySem.W.Frag} : Op2 K (rI0 fun i j => .int (i + j)) iaddD := by
  intro H x y d e f1 f2 Q dr hx hy hg q
  unfold iaddD at hg
  split at hg
  · cases hg
    exact ⟨_, _, hx.intR, hy.intR, q _ _ fresh_int⟩
  · cases hg
theorem bt_len : bootBuiltins "len" = some (.builtin "len") := by first | exact PySem.boot_len | exact PyProof.Rows.boot_len | rfl | decide +kernel
theorem bt_range : bootBuiltins "range" = some (.type "range") := by first | exact PySem.boot_range | exact PyProof.Rows.boot_range | rfl | decide +kernel
theorem bt_zip : bootBuiltins "zip" = some (.type "zip") := by first | exact PySem.boot_zip | exact PyProof.Rows.boot_zip | rfl | decide +kernel
theorem bt_enumerate : bootBuiltins "enumerate" = some (.type "enumerate") := by first | exact PySem.boot_enumerate | exact PyProof.Rows.boot_enumerate | rfl | decide +kernel
theorem bt_isinstance : bootBuiltins "isinstance" = some (.builtin "isinstance") := by first | exact PySem.boot_isinstance | exact PyProof.Rows.boot_isinstance | rfl | decide +kernel
theorem bt_int : bootBuiltins "int" = some (.type "int") := by first | exact PySem.boot_int | exact PyProof.Rows.boot_int | rfl | decide +kernel
theorem bt_str : bootBuiltins "str" = some (.type "str") := by first | exact PySem.boot_str | exact PyProof.Rows.boot_str | rfl | decide +kernel
theorem bt_bool : bootBuiltins "bool" = some (.type "bool") := by first | exact PySem.boot_bool | exact PyProof.Rows.boot_bool | rfl | decide +kernel
theorem bt_list : bootBuiltins "list" = some (.type "list") := by first | exact PySem.boot_list | exact PyProof.Rows.boot_list | rfl | decide +kernel
theorem bt_tuple : bootBuiltins "tuple" = some (.type "tuple") := by first | exact PySem.boot_tuple | exact PyProof.Rows.boot_tuple | rfl | decide +kernel
theorem bt_dict : bootBuiltins "dict" = some (.type "dict") := by first | exact PySem.boot_dict | exact PyProof.Rows.boot_dict | rfl | decide +kernel
theorem bt_set : bootBuiltins "set" = some (.type "set") := by first | exact PySem.boot_set | exact PyProof.Rows.boot_set | rfl | decide +kernel
theorem bt_sum : bootBuiltins "sum" = some (.builtin "sum") := by first | exact PySem.boot_sum | exact PyProof.Rows.boot_sum | rfl | decide +kernel
theorem bt_min : bootBuiltins "min" = some (.builtin "min") := by first | exact PySem.boot_min | exact PyProof.Rows.boot_min | rfl | decide +kernel
theorem bt_max : bootBuiltins "max" = some (.builtin "max") := by first | exact PySem.boot_max | exact PyProof.Rows.boot_max | rfl | decide +kernel
theorem bt_any : bootBuiltins "any" = some (.builtin "any") := by first | exact PySem.boot_any | exact PyProof.Rows.boot_any | rfl | decide +kernel
theorem bt_all : bootBuiltins "all" = some (.builtin "all") := by first | exact PySem.boot_all | exact PyProof.Rows.boot_all | rfl | decide +kernel
theorem bt_repr : bootBuiltins "repr" = some (.builtin "repr") := by first | exact PySem.boot_repr | exact PyProof.Rows.boot_repr | rfl | decide +kernel
theorem bt_sorted : bootBuiltins "sorted" = some (.builtin "sorted") := by first | exact PySem.boot_sorted | exact PyProof.Rows.boot_sorted | rfl | decide +kernel
theorem bt_abs : bootBuiltins "abs" = some (.builtin "abs") := by first | exact PySem.boot_abs | exact PyProof.Rows.boot_abs | rfl | decide +kernel
theorem bt_reversed : bootBuiltins "reversed" = some (.type "reversed") := by first | exact PySem.boot_reversed | exact PyProof.Rows.boot_reversed | rfl | decide +kernel
theorem bt_ord : bootBuiltins "ord" = some (.builtin "ord") := by first | exact PySem.boot_ord | exact PyProof.Rows.boot_ord | rfl | decide +kernel
theorem bt_chr : bootBuiltins "chr" = some (.builtin "chr") := by first | exact PySem.boot_chr | exact PyProof.Rows.boot_chr | rfl | decide +kernel
theorem bt_divmod : bootBuiltins "divmod" = some (.builtin "divmod") := by first | exact PySem.boot_divmod | exact PyProof.Rows.boot_divmod | rfl | decide +kernel
theorem bt_frozenset : bootBuiltins "frozenset" = some (.type "frozenset") := by first | exact PySem.boot_frozenset | exact PyProof.Rows.boot_frozenset | rfl | decide +kernel
theorem bt_iter : bootBuiltins "iter" = some (.builtin "iter") := by first | exact PySem.boot_iter | exact PyProof.Rows.boot_iter | rfl | decide +kernel
theorem bt_next : bootBuiltins "next" = some (.builtin "next") := by first | exact PySem.boot_next | exact PyProof.Rows.boot_next | rfl | decide +kernel
theorem bt_type : bootBuiltins "type" = some (.type "type") := by first | exact PySem.boot_type | exact PyProof.Rows.boot_type | rfl | decide +kernel
theorem bt_float : bootBuiltins "float" = some (.type "float") := by first | exact PySem.boot_float | exact PyProof.Rows.boot_float | rfl | decide +kernel
theorem bt_bytes : bootBuiltins "bytes" = some (.type "bytes") := by first | exact PySem.boot_bytes | exact PyProof.Rows.boot_bytes | rfl | decide +kernel
theorem bt_map : bootBuiltins "map" = some (.type "map") := by first | exact PySem.boot_map | exact PyProof.Rows.boot_map | rfl | decide +kernel
theorem bt_object : bootBuiltins "object" = some (.type "object") := by first | exact PySem.boot_object | exact PyProof.Rows.boot_object | rfl | decide +kernel
end DL

namespace DL
open PySem PySem.Spec PyProof.Rows L2

/-! ### the functions, evaluated step by step (by simp) -/
section
variable {α β : Type} {ρ ρ' : En} {d e : D} {a b : Ar} {xs : En} {o : Option D} {i : Nat}
theorem slot_0 : slot (some d :: xs) 0 = some d := rfl
theorem slot_n : slot (none :: xs) 0 = none := rfl
theorem slot_s : slot (o :: xs) (i + 1) = slot xs i := rfl
theorem res_v : res (.val d) ρ = some d := rfl
theorem res_l : res (.loc i) ρ = slot ρ i := rfl
theorem ev_C : fC d ρ = .ok d ρ := rfl
def kName (i : Nat) (ρ : En) : Option D → R D
  | some d => .ok d.frz (ρ.set i (some d.frz))
  | none => .stk
theorem ev_Name : fName i ρ = kName i ρ (slot ρ i) := by unfold fName kName; rfl
theorem ev_Name1 : kName i ρ (some d) = .ok d.frz (ρ.set i (some d.frz)) := rfl
def kMove (i : Nat) (ρ : En) : Option D → R D
  | some d => .ok d (ρ.set i none)
  | none => .stk
theorem ev_Move : fMove i ρ = kMove i ρ (slot ρ i) := by unfold fMove kMove; rfl
theorem ev_Move1 : kMove i ρ (some d) = .ok d (ρ.set i none) := rfl
def kLoc (i : Nat) (ρ : En) : Option D → R Ar
  | some _ => .ok (.loc i) ρ
  | none => .stk
theorem ev_Loc : fLoc i ρ = kLoc i ρ (slot ρ i) := by unfold fLoc kLoc; rfl
theorem ev_Loc1 : kLoc i ρ (some d) = .ok (.loc i) ρ := rfl
def kVal (d : D) (ρ : En) : R Ar := .ok (.val d) ρ
theorem ev_Val {f : FE} : fVal f ρ = (f ρ).bind kVal := rfl
theorem ev_Val1 : kVal d ρ = .ok (.val d) ρ := rfl
def kFz (d : D) (ρ : En) : R D := .ok d.frz ρ
theorem ev_Fz {f : FE} : fFz f ρ = (f ρ).bind kFz := rfl
theorem ev_Fz1 : kFz d ρ = .ok d.frz ρ := rfl
/-- operators -/
def kL2 (g : D → D → Option D) (ρ : En) : Option D → Option D → R D
  | some d, some e => R.of (g d e) ρ
  | _, _ => .stk
theorem ev_l2 {g : D → D → Option D} : lift2 g a b ρ = kL2 g ρ (res a ρ) (res b ρ) := by unfold lift2 kL2; rfl
theorem ev_l21 {g : D → D → Option D} : kL2 g ρ (some d) (some e) = R.of (g d e) ρ := rfl
def kL1 (g : D → Option D) (ρ : En) : Option D → R D
  | some d => R.of (g d) ρ
  | _ => .stk
theorem ev_l1 {g : D → Option D} : lift1 g a ρ = kL1 g ρ (res a ρ) := by unfold lift1 kL1; rfl
theorem ev_l11 {g : D → Option D} : kL1 g ρ (some d) = R.of (g d) ρ := rfl
def kBin (g : D → D → Option D) (fb : FO) (a : Ar) (ρ : En) : R D := (fb ρ).bind (lift2 g a)
theorem ev_Bin {g : D → D → Option D} {fa fb : FO} : fBin g fa fb ρ = (fa ρ).bind (kBin g fb) := rfl
theorem ev_Bin1 {g : D → D → Option D} {fb : FO} : kBin g fb a ρ = (fb ρ).bind (lift2 g a) := rfl
theorem ev_Un {g : D → Option D} {fa : FO} : fUn g fa ρ = (fa ρ).bind (lift1 g) := rfl
theorem ev_Tst {f : FE} : fTst f ρ = (f ρ).bind asB := rfl
theorem ev_asB {b : Bool} : asB (.bl b) ρ = .ok b ρ := rfl
def kNot (b : Bool) (ρ : En) : R Bool := .ok (!b) ρ
theorem ev_NotT {f : FB} : fNotT f ρ = (f ρ).bind kNot := rfl
theorem ev_NotT1 {b : Bool} : kNot b ρ = .ok (!b) ρ := rfl
def kAndT (g : FB) (b : Bool) (ρ : En) : R Bool := if b then g ρ else .ok false ρ
theorem ev_AndT {f g : FB} : fAndT f g ρ = (f ρ).bind (kAndT g) := rfl
theorem ev_AndT1 {g : FB} {b : Bool} : kAndT g b ρ = if b then g ρ else .ok false ρ := rfl
def kOrT (g : FB) (b : Bool) (ρ : En) : R Bool := if b then .ok true ρ else g ρ
theorem ev_OrT {f g : FB} : fOrT f g ρ = (f ρ).bind (kOrT g) := rfl
theorem ev_OrT1 {g : FB} {b : Bool} : kOrT g b ρ = if b then .ok true ρ else g ρ := rfl
def kAndV (g : FE) (b : Bool) (ρ : En) : R D := if b then g ρ else .ok (.bl false) ρ
theorem ev_AndV {f g : FE} : fAndV f g ρ = ((f ρ).bind asB).bind (kAndV g) := by
  unfold fAndV kAndV
  cases f ρ <;> rfl
theorem ev_AndV1 {g : FE} {b : Bool} : kAndV g b ρ = if b then g ρ else .ok (.bl false) ρ := rfl
def kOrV (g : FE) (b : Bool) (ρ : En) : R D := if b then .ok (.bl true) ρ else g ρ
theorem ev_OrV {f g : FE} : fOrV f g ρ = ((f ρ).bind asB).bind (kOrV g) := by
  unfold fOrV kOrV
  cases f ρ <;> rfl
theorem ev_OrV1 {g : FE} {b : Bool} : kOrV g b ρ = if b then .ok (.bl true) ρ else g ρ := rfl
def kNotV (b : Bool) (ρ : En) : R D := .ok (.bl (!b)) ρ
theorem ev_NotV {f : FE} : fNotV f ρ = ((f ρ).bind asB).bind kNotV := by
  unfold fNotV kNotV
  cases f ρ <;> rfl
theorem ev_NotV1 {b : Bool} : kNotV b ρ = .ok (.bl (!b)) ρ := rfl
def kIf (f g : FE) (b : Bool) (ρ : En) : R D := if b then f ρ else g ρ
theorem ev_If {t : FB} {f g : FE} : fIf t f g ρ = (t ρ).bind (kIf f g) := rfl
theorem ev_If1 {f g : FE} {b : Bool} : kIf f g b ρ = if b then f ρ else g ρ := rfl
def kCh1 (g g' : D → D → Option D) (fb fc : FO) (a : Ar) (ρ : En) : R D := (fb ρ).bind fun b ρ2 => (lift2 g a b ρ2).bind fun z ρ3 => (asB z ρ3).bind fun k ρ4 => if k then (fc ρ4).bind fun d ρ5 => lift2 g' b d ρ5 else .ok (.bl false) ρ4
def kCh2 (g g' : D → D → Option D) (fc : FO) (a b : Ar) (ρ : En) : R D := (lift2 g a b ρ).bind fun z ρ3 => (asB z ρ3).bind fun k ρ4 => if k then (fc ρ4).bind fun d ρ5 => lift2 g' b d ρ5 else .ok (.bl false) ρ4
def kCh3 (g' : D → D → Option D) (fc : FO) (b : Ar) (k : Bool) (ρ : En) : R D := if k then (fc ρ).bind (lift2 g' b) else .ok (.bl false) ρ
theorem ev_Ch {g g' : D → D → Option D} {fa fb fc : FO} : fChain g g' fa fb fc ρ = (fa ρ).bind (kCh1 g g' fb fc) := rfl
theorem ev_Ch1 {g g' : D → D → Option D} {fb fc : FO} : kCh1 g g' fb fc a ρ = (fb ρ).bind (kCh2 g g' fc a) := rfl
theorem ev_Ch2 {g g' : D → D → Option D} {fc : FO} : kCh2 g g' fc a b ρ = ((lift2 g a b ρ).bind asB).bind (kCh3 g' fc b) := by
  unfold kCh2 kCh3
  cases lift2 g a b ρ <;> rfl
theorem ev_Ch3 {g' : D → D → Option D} {fc : FO} {k : Bool} : kCh3 g' fc b k ρ = if k then (fc ρ).bind (lift2 g' b) else .ok (.bl false) ρ := rfl
/-- arguments, calls -/
theorem ev_Nil : fNil ρ = .ok [] ρ := rfl
def kCons1 (g : FLs) (a : Ar) (ρ : En) : R (List Ar) := (g ρ).bind fun as ρ2 => .ok (a :: as) ρ2
def kCons2 (a : Ar) (as : List Ar) (ρ : En) : R (List Ar) := .ok (a :: as) ρ
theorem ev_Cons {f : FO} {g : FLs} : fCons f g ρ = (f ρ).bind (kCons1 g) := rfl
theorem ev_Cons1 {g : FLs} : kCons1 g a ρ = (g ρ).bind (kCons2 a) := rfl
theorem ev_Cons2 {as : List Ar} : kCons2 a as ρ = .ok (a :: as) ρ := rfl
def oc : Option D → Option (List D) → Option (List D)
  | some d, some ds => some (d :: ds)
  | _, _ => none
theorem oc_s {ds : List D} : oc (some d) (some ds) = some (d :: ds) := rfl
theorem ress_0 : ress [] ρ = some [] := rfl
theorem ress_s {as : List Ar} : ress (a :: as) ρ = oc (res a ρ) (ress as ρ) := rfl
def ocF : Option D → Option (List D) → Option (List D)
  | some d, some ds => if d.isF then some (d :: ds) else none
  | _, _ => none
theorem ocF_s {ds : List D} : ocF (some d) (some ds) = if d.isF then some (d :: ds) else none := rfl
theorem resF_0 : resF ρ [] = some [] := rfl
theorem resF_s {as : List Ar} : resF ρ (a :: as) = ocF (res a ρ) (resF ρ as) := rfl
def kLN (g : List D → Option D) (ρ : En) : Option (List D) → R D
  | some ds => R.of (g ds) ρ
  | none => .stk
theorem ev_lN {g : List D → Option D} {as : List Ar} : liftN g as ρ = kLN g ρ (ress as ρ) := by unfold liftN kLN; rfl
theorem ev_lN1 {g : List D → Option D} {ds : List D} : kLN g ρ (some ds) = R.of (g ds) ρ := rfl
theorem ev_CallB {g : List D → Option D} {fs : FLs} : fCallB g fs ρ = (fs ρ).bind (liftN g) := rfl
/-- a def's end -/
def kRet (ρ : En) : GR → R D
  | .ok d [] => .ok d ρ
  | _ => .stk
theorem kRet_ok : kRet ρ (.ok d []) = .ok d ρ := rfl
def kCall1 (G : List D → GR) (ρ : En) : Option (List D) → R D
  | some ds => kRet ρ (G ds)
  | none => .stk
def kCall (G : List D → GR) (as : List Ar) (ρ : En) : R D := kCall1 G ρ (resF ρ as)
theorem ev_Call {G : List D → GR} {fas : FLs} : fCall G fas ρ = (fas ρ).bind (kCall G) := by
  unfold fCall kCall kCall1 kRet
  congr 1
theorem ev_Call1 {G : List D → GR} {as : List Ar} : kCall G as ρ = kCall1 G ρ (resF ρ as) := rfl
theorem ev_Call2 {G : List D → GR} {ds : List D} : kCall1 G ρ (some ds) = kRet ρ (G ds) := rfl
def kRetM (i : Nat) (ρ : En) : GR → R D
  | .ok d [d1] => .ok d (ρ.set i (some d1))
  | _ => .stk
theorem kRetM_ok : kRetM i ρ (.ok d [e]) = .ok d (ρ.set i (some e)) := rfl
def kCallM1 (G : List D → GR) (i : Nat) (ρ : En) : Option D → Option (List D) → R D
  | some d0, some ds => kRetM i ρ (G (d0 :: ds))
  | _, _ => .stk
def kCallM (G : List D → GR) : List Ar → En → R D
  | .loc i :: as, ρ => kCallM1 G i ρ (slot ρ i) (resF (ρ.set i none) as)
  | _, _ => .stk
theorem ev_CallM {G : List D → GR} {fas : FLs} : fCallM G fas ρ = (fas ρ).bind (kCallM G) := by
  unfold fCallM
  congr 1
  funext as ρ1
  cases as with
  | nil => rfl
  | cons a as =>
    cases a with
    | val d => rfl
    | loc i =>
      show (match slot ρ1 i, resF (ρ1.set i none) as with
        | some d0, some ds => (match G (d0 :: ds) with
          | .ok d [d1] => R.ok d (ρ1.set i (some d1))
          | _ => .stk)
        | _, _ => .stk) = kCallM1 G i ρ1 (slot ρ1 i) (resF (ρ1.set i none) as)
      cases slot ρ1 i with
      | none => rfl
      | some d0 => cases resF (ρ1.set i none) as with
        | none => rfl
        | some ds =>
          show (match G (d0 :: ds) with
            | .ok d [d1] => R.ok d (ρ1.set i (some d1))
            | _ => .stk) = kRetM i ρ1 (G (d0 :: ds))
          cases G (d0 :: ds) with
          | ok d m => cases m with
            | nil => rfl
            | cons d1 m => cases m <;> rfl
          | _ => rfl
theorem ev_CallM1 {G : List D → GR} {as : List Ar} : kCallM G (.loc i :: as) ρ = kCallM1 G i ρ (slot ρ i) (resF (ρ.set i none) as) := rfl
theorem ev_CallM2 {G : List D → GR} {ds : List D} : kCallM1 G i ρ (some d) (some ds) = kRetM i ρ (G (d :: ds)) := rfl
/-- methods of texts -/
def kM2 (g : D → D → Option D) (z : Str) (ρ : En) : Option D → R D
  | some e => R.of (g (.str z) e) ρ
  | none => .stk
def kM1b (g : D → D → Option D) (z : Str) (b : Ar) (ρ : En) : R D := kM2 g z ρ (res b ρ)
def kM1a (g : D → D → Option D) (fb : FO) (ρ : En) : Option D → R D
  | some (.str z) => (fb ρ).bind (kM1b g z)
  | _ => .stk
def kM1 (g : D → D → Option D) (fb : FO) (a : Ar) (ρ : En) : R D := kM1a g fb ρ (res a ρ)
theorem ev_M1 {g : D → D → Option D} {fa fb : FO} : fM1 g fa fb ρ = (fa ρ).bind (kM1 g fb) := by
  unfold fM1
  congr 1
theorem ev_M11 {g : D → D → Option D} {fb : FO} : kM1 g fb a ρ = kM1a g fb ρ (res a ρ) := rfl
theorem ev_M12 {g : D → D → Option D} {fb : FO} {z : Str} : kM1a g fb ρ (some (.str z)) = (fb ρ).bind (kM1b g z) := rfl
theorem ev_M13 {g : D → D → Option D} {z : Str} : kM1b g z b ρ = kM2 g z ρ (res b ρ) := rfl
theorem ev_M14 {g : D → D → Option D} {z : Str} : kM2 g z ρ (some e) = R.of (g (.str z) e) ρ := rfl
/-- parts of parts -/
def kPk (g : D → D → Option D) (ρ : En) : Option D → Option D → R D
  | some d, some e => R.of (g d e) ρ
  | _, _ => .stk
theorem ev_Pk {g : D → D → Option D} {k : Key} {gb : En → Option D} : fPk g i k gb ρ = kPk g ρ (pk ρ i k) (gb ρ) := rfl
theorem ev_Pk1 {g : D → D → Option D} : kPk g ρ (some d) (some e) = R.of (g d e) ρ := rfl
def kPkSl (lo hi : Option Int) (ρ : En) : Option D → R D
  | some d => R.of (slD d lo hi) ρ
  | none => .stk
theorem ev_PkSl {k : Key} {lo hi : Option Int} : fPkSl i k lo hi ρ = kPkSl lo hi ρ (pk ρ i k) := rfl
theorem ev_PkSl1 {lo hi : Option Int} : kPkSl lo hi ρ (some d) = R.of (slD d lo hi) ρ := rfl
def pk1 (k : Key) : Option D → Option D
  | some (.dic _ ks ds) => (kIx ks k).bind fun j => ds[j]?
  | _ => none
theorem ev_pk {k : Key} : pk ρ i k = pk1 k (slot ρ i) := rfl
theorem ev_pk1 {k : Key} {m : Bool} {ks : List Key} {ds : List D} : pk1 k (some (.dic m ks ds)) = (kIx ks k).bind fun j => ds[j]? := rfl
/-- slices -/
def kPrt (ρ : En) : Option D → R (Option Int)
  | some (.int i) => .ok (some i) ρ
  | _ => .stk
def kPrt0 (a : Ar) (ρ : En) : R (Option Int) := kPrt ρ (res a ρ)
theorem prt_n : prt none ρ = .ok none ρ := rfl
theorem prt_s {f : FO} : prt (some f) ρ = (f ρ).bind kPrt0 := by
  show (f ρ).bind _ = _
  congr 1
theorem prt_1 : kPrt0 a ρ = kPrt ρ (res a ρ) := rfl
theorem prt_2 {j : Int} : kPrt ρ (some (.int j)) = .ok (some j) ρ := rfl
def kSl3 (l u : Option Int) (ρ : En) : Option D → R D
  | some d => R.of (slD d l u) ρ
  | none => .stk
def kSl2 (a : Ar) (l : Option Int) (u : Option Int) (ρ : En) : R D := kSl3 l u ρ (res a ρ)
def kSl1 (hi : FP) (a : Ar) (l : Option Int) (ρ : En) : R D := (prt hi ρ).bind (kSl2 a l)
def kSl0 (lo hi : FP) (a : Ar) (ρ : En) : R D := (prt lo ρ).bind (kSl1 hi a)
theorem ev_Sl {fa : FO} {lo hi : FP} : fSl fa lo hi ρ = (fa ρ).bind (kSl0 lo hi) := by
  unfold fSl kSl0 kSl1 kSl2 kSl3
  rfl
theorem ev_Sl0 {lo hi : FP} : kSl0 lo hi a ρ = (prt lo ρ).bind (kSl1 hi a) := rfl
theorem ev_Sl1 {hi : FP} {l : Option Int} : kSl1 hi a l ρ = (prt hi ρ).bind (kSl2 a l) := rfl
theorem ev_Sl2 {l u : Option Int} : kSl2 a l u ρ = kSl3 l u ρ (res a ρ) := rfl
theorem ev_Sl3 {l u : Option Int} : kSl3 l u ρ (some d) = R.of (slD d l u) ρ := rfl
/-- an item of a dict -/
def kDG2 (i : Nat) (m : Bool) (ks : List Key) (ds : List D) (ρ : En) (j : Nat) : Option D → R D
  | some d => if m then .ok d.frz (ρ.set i (some (.dic true ks (ds.set j d.frz)))) else .ok d ρ
  | none => .stk
def kDG1 (i : Nat) (m : Bool) (ks : List Key) (ds : List D) (ρ : En) : Option Nat → R D
  | some j => kDG2 i m ks ds ρ j ds[j]?
  | none => .stk
def kDG0 (i : Nat) (ρ : En) : Option Key → Option D → R D
  | some k, some (.dic m ks ds) => kDG1 i m ks ds ρ (kIx ks k)
  | _, _ => .stk
def kDG (i : Nat) (a : Ar) (ρ : En) : R D := kDG0 i ρ ((res a ρ).bind D.key) (slot ρ i)
def kDGs (i : Nat) (fk : FO) (ρ : En) : Option D → R D
  | some _ => (fk ρ).bind (kDG i)
  | none => .stk
theorem ev_DG {fk : FO} : fDGet i fk ρ = kDGs i fk ρ (slot ρ i) := by
  unfold fDGet kDGs
  cases slot ρ i with
  | none => rfl
  | some d0 =>
    show (fk ρ).bind _ = (fk ρ).bind _
    congr 1
theorem ev_DGs {fk : FO} : kDGs i fk ρ (some d) = (fk ρ).bind (kDG i) := rfl
theorem ev_DG0 : kDG i a ρ = kDG0 i ρ ((res a ρ).bind D.key) (slot ρ i) := rfl
theorem ev_DG1 {k : Key} {m : Bool} {ks : List Key} {ds : List D} : kDG0 i ρ (some k) (some (.dic m ks ds)) = kDG1 i m ks ds ρ (kIx ks k) := rfl
theorem ev_DG2 {m : Bool} {ks : List Key} {ds : List D} {j : Nat} : kDG1 i m ks ds ρ (some j) = kDG2 i m ks ds ρ j ds[j]? := rfl
theorem ev_DG3 {ks : List Key} {ds : List D} {j : Nat} : kDG2 i true ks ds ρ j (some d) = .ok d.frz (ρ.set i (some (.dic true ks (ds.set j d.frz)))) := rfl
theorem ev_DG4 {ks : List Key} {ds : List D} {j : Nat} : kDG2 i false ks ds ρ j (some d) = .ok d ρ := rfl
/-- displays of dicts -/
def kPair2 (d : D) (ds : List D) (ρ : En) : R (List D) := .ok (d :: ds) ρ
def kPair1 (fs : List (Key × FE)) (d : D) (ρ : En) : R (List D) := (pairF fs ρ).bind (kPair2 d)
theorem ev_P0 : pairF [] ρ = .ok [] ρ := rfl
theorem ev_P1 {k : Key} {f : FE} {fs : List (Key × FE)} : pairF ((k, f) :: fs) ρ = (f ρ).bind (kPair1 fs) := rfl
theorem ev_P2 {fs : List (Key × FE)} : kPair1 fs d ρ = (pairF fs ρ).bind (kPair2 d) := rfl
theorem ev_P3 {ds : List D} : kPair2 d ds ρ = .ok (d :: ds) ρ := rfl
def kDisp (ks : List Key) (ds : List D) (ρ : En) : R D := R.of ((mergeD [] [] ks ds).map fun p => .dic true p.1 p.2) ρ
theorem ev_Disp {fs : List (Key × FE)} : fDisp fs ρ = (pairF fs ρ).bind (kDisp (fs.map (·.1))) := rfl
theorem ev_Disp1 {ks : List Key} {ds : List D} : kDisp ks ds ρ = R.of ((mergeD [] [] ks ds).map fun p => .dic true p.1 p.2) ρ := rfl
/-- comprehensions -/
def kLc2 (ρ1 : En) (vs : List Nat) (ys : List D) (ρ : En) : R D := .ok (.lst true ys) (restD ρ1 vs ρ)
def kLc1 (vs : List Nat) (g : FG) (ft : FB) (fe : FE) (ds : List D) (ρ : En) : R D := (lcF vs g ft fe ds 0 (wipeD ρ vs)).nox.bind (kLc2 ρ vs)
theorem ev_Lc {vs : List Nat} {fi : FI} {g : FG} {ft : FB} {fe : FE} : fLc vs fi g ft fe ρ = (fi ρ).bind (kLc1 vs g ft fe) := rfl
theorem ev_Lc1 {vs : List Nat} {g : FG} {ft : FB} {fe : FE} {ds : List D} : kLc1 vs g ft fe ds ρ = (lcF vs g ft fe ds 0 (wipeD ρ vs)).nox.bind (kLc2 ρ vs) := rfl
theorem ev_Lc2 {ρ1 : En} {vs : List Nat} {ys : List D} : kLc2 ρ1 vs ys ρ = .ok (.lst true ys) (restD ρ1 vs ρ) := rfl
theorem ev_Yes : fYes ρ = .ok true ρ := rfl
theorem wipe_0 : wipeD ρ [] = ρ := rfl
theorem wipe_s {v : Nat} {vs : List Nat} : wipeD ρ (v :: vs) = (wipeD ρ vs).set v none := rfl
theorem rest_0 : restD ρ [] ρ' = ρ' := rfl
theorem rest_s {v : Nat} {vs : List Nat} : restD ρ (v :: vs) ρ' = restD ρ vs (ρ'.set v (slot (wipeD ρ vs) v)) := rfl
/-- sources -/
def kIter (d : D) (ρ : En) : R (List D) := R.of (items d) ρ
theorem ev_Iter {f : FE} : fIter f ρ = (f ρ).bind kIter := rfl
theorem ev_Iter1 : kIter d ρ = R.of (items d) ρ := rfl
def kEnum (d : D) (ρ : En) : R (List D) := R.of ((itemsQ d).map (enumFrom 0)) ρ
theorem ev_Enum {f : FE} : fEnum f ρ = (f ρ).bind kEnum := rfl
theorem ev_Enum1 : kEnum d ρ = R.of ((itemsQ d).map (enumFrom 0)) ρ := rfl
def kZip2 (ρ : En) : Option (List D) → Option (List D) → R (List D)
  | some xs, some ys => .ok (List.zipWith (fun x y => D.tup [x, y]) xs ys) ρ
  | _, _ => .stk
def kZip1 (d e : D) (ρ : En) : R (List D) := kZip2 ρ (itemsQ d) (itemsQ e)
def kZip (g : FE) (d : D) (ρ : En) : R (List D) := (g ρ).bind (kZip1 d)
theorem ev_Zip {f g : FE} : fZip f g ρ = (f ρ).bind (kZip g) := by
  unfold fZip kZip kZip1 kZip2
  rfl
theorem ev_Zip1 {g : FE} : kZip g d ρ = (g ρ).bind (kZip1 d) := rfl
theorem ev_Zip2 : kZip1 d e ρ = kZip2 ρ (itemsQ d) (itemsQ e) := rfl
theorem ev_Zip3 {xs ys : List D} : kZip2 ρ (some xs) (some ys) = .ok (List.zipWith (fun x y => D.tup [x, y]) xs ys) ρ := rfl
def kRg1 (ρ : En) : Option D → R (List D)
  | some (.int j) => if big62 j then .ok (rangeL 0 j.toNat) ρ else .stk
  | _ => .stk
def kRg (a : Ar) (ρ : En) : R (List D) := kRg1 ρ (res a ρ)
theorem ev_Rg {f : FO} : fRange1 f ρ = (f ρ).bind kRg := by
  unfold fRange1
  congr 1
theorem ev_Rg0 : kRg a ρ = kRg1 ρ (res a ρ) := rfl
theorem ev_Rg1 {j : Int} : kRg1 ρ (some (.int j)) = if big62 j then .ok (rangeL 0 j.toNat) ρ else .stk := rfl
def kRh2 (ρ : En) : Option D → Option D → R (List D)
  | some (.int i), some (.int j) => if big62 i ∧ big62 j then .ok (rangeL i (j - i).toNat) ρ else .stk
  | _, _ => .stk
def kRh1 (a b : Ar) (ρ : En) : R (List D) := kRh2 ρ (res a ρ) (res b ρ)
def kRh (g : FO) (a : Ar) (ρ : En) : R (List D) := (g ρ).bind (kRh1 a)
theorem ev_Rh {f g : FO} : fRange2 f g ρ = (f ρ).bind (kRh g) := by
  unfold fRange2 kRh kRh1 kRh2
  rfl
theorem ev_Rh0 {g : FO} : kRh g a ρ = (g ρ).bind (kRh1 a) := rfl
theorem ev_Rh1 : kRh1 a b ρ = kRh2 ρ (res a ρ) (res b ρ) := rfl
theorem ev_Rh2 {i j : Int} : kRh2 ρ (some (.int i)) (some (.int j)) = if big62 i ∧ big62 j then .ok (rangeL i (j - i).toNat) ρ else .stk := rfl
/-- targets -/
theorem ev_gS : gSet i d ρ = some (ρ.set i (some d)) := rfl
theorem ev_gN : gsNil [] ρ = some ρ := rfl
theorem ev_gC {g : FG} {gs : FGs} {ds : List D} : gsCons g gs (d :: ds) ρ = (g d ρ).bind (gs ds) := rfl
theorem ev_gT {n : Nat} {gs : FGs} {ds : List D} : gTupF n gs (.tup ds) ρ = if ds.length = n then gs ds ρ else none := rfl
def kStL1 (i : Nat) (v : D) (ρ : En) : Option D → Option D → Option En
  | some (.int z), some d => (stL d z v).map fun r => ρ.set i (some r)
  | _, _ => none
def kStL (i : Nat) (v : D) : Option D → R Ar → Option En
  | some _, .ok a ρ1 => kStL1 i v ρ1 (res a ρ1) (slot ρ1 i)
  | _, _ => none
theorem ev_StL {fi : FO} {v : D} : gStL i fi v ρ = kStL i v (slot ρ i) (fi ρ) := by
  unfold gStL kStL kStL1
  rfl
theorem ev_StL1 {v : D} : kStL i v (some d) (.ok a ρ) = kStL1 i v ρ (res a ρ) (slot ρ i) := rfl
theorem ev_StL2 {v : D} {z : Int} : kStL1 i v ρ (some (.int z)) (some d) = (stL d z v).map fun r => ρ.set i (some r) := rfl
def kStD1 (i : Nat) (v : D) (ρ : En) : Option Key → Option D → Option En
  | some k, some d => (stD d k v).map fun r => ρ.set i (some r)
  | _, _ => none
def kStD (i : Nat) (v : D) : Option D → R Ar → Option En
  | some _, .ok a ρ1 => kStD1 i v ρ1 ((res a ρ1).bind D.key) (slot ρ1 i)
  | _, _ => none
theorem ev_StD {fi : FO} {v : D} : gStD i fi v ρ = kStD i v (slot ρ i) (fi ρ) := by
  unfold gStD kStD kStD1
  rfl
theorem ev_StD1 {v : D} : kStD i v (some d) (.ok a ρ) = kStD1 i v ρ ((res a ρ).bind D.key) (slot ρ i) := rfl
theorem ev_StD2 {v : D} {k : Key} : kStD1 i v ρ (some k) (some d) = (stD d k v).map fun r => ρ.set i (some r) := rfl
/-- statements -/
def SR.seq : SR → FS → SR
  | .nx ρ, g => g ρ
  | r, _ => r
theorem ev_Seq {f g : FS} : fSeq f g ρ = SR.seq (f ρ) g := by
  unfold fSeq SR.seq
  cases f ρ <;> rfl
theorem seq_nx {g : FS} : SR.seq (.nx ρ) g = g ρ := rfl
theorem seq_rt {g : FS} : SR.seq (.rt d ρ) g = .rt d ρ := rfl
theorem seq_bk {g : FS} : SR.seq (.bk ρ) g = .bk ρ := rfl
theorem seq_ct {g : FS} : SR.seq (.ct ρ) g = .ct ρ := rfl
theorem ev_Nx : fNx ρ = .nx ρ := rfl
def kSet (i : Nat) (d : D) (ρ : En) : SR := .nx (ρ.set i (some d))
theorem ev_Set {f : FE} : fSet i f ρ = (f ρ).bindS (kSet i) := rfl
theorem ev_Set1 : kSet i d ρ = .nx (ρ.set i (some d)) := rfl
def kDrop (_ : D) (ρ : En) : SR := .nx ρ
theorem ev_Drop {f : FE} : fDrop f ρ = (f ρ).bindS kDrop := rfl
theorem ev_Drop1 : kDrop d ρ = .nx ρ := rfl
theorem ev_Ret {f : FE} : fRet f ρ = (f ρ).bindS .rt := rfl
def kIfS (f g : FS) (b : Bool) (ρ : En) : SR := if b then f ρ else g ρ
theorem ev_IfS {t : FB} {f g : FS} : fIfS t f g ρ = (t ρ).bindS (kIfS f g) := rfl
theorem ev_IfS1 {f g : FS} {b : Bool} : kIfS f g b ρ = if b then f ρ else g ρ := rfl
def kAsg (g : FG) (d : D) (ρ : En) : SR := R.ofS (g d ρ)
theorem ev_Asg {g : FG} {f : FE} : fAsg g f ρ = (f ρ).bindS (kAsg g) := rfl
theorem ev_Asg1 {g : FG} : kAsg g d ρ = R.ofS (g d ρ) := rfl
theorem ofS_some : R.ofS (some ρ) = .nx ρ := rfl
def kPar2 (i j : Nat) (d e : D) (ρ : En) : SR := .nx ((ρ.set i (some d)).set j (some e))
def kPar1 (i j : Nat) (g : FE) (d : D) (ρ : En) : SR := (g ρ).bindS (kPar2 i j d)
theorem ev_Par {j : Nat} {f g : FE} : fPar i j f g ρ = (f ρ).bindS (kPar1 i j g) := rfl
theorem ev_Par1 {j : Nat} {g : FE} : kPar1 i j g d ρ = (g ρ).bindS (kPar2 i j d) := rfl
theorem ev_Par2 {j : Nat} : kPar2 i j d e ρ = .nx ((ρ.set i (some d)).set j (some e)) := rfl
def kTri3 (i j l : Nat) (d e u : D) (ρ : En) : SR := .nx (((ρ.set i (some d)).set j (some e)).set l (some u))
def kTri2 (i j l : Nat) (h : FE) (d e : D) (ρ : En) : SR := (h ρ).bindS (kTri3 i j l d e)
def kTri1 (i j l : Nat) (g h : FE) (d : D) (ρ : En) : SR := (g ρ).bindS (kTri2 i j l h d)
theorem ev_Tri {j l : Nat} {f g h : FE} : fPar3 i j l f g h ρ = (f ρ).bindS (kTri1 i j l g h) := rfl
theorem ev_Tri1 {j l : Nat} {g h : FE} : kTri1 i j l g h d ρ = (g ρ).bindS (kTri2 i j l h d) := rfl
theorem ev_Tri2 {j l : Nat} {h : FE} : kTri2 i j l h d e ρ = (h ρ).bindS (kTri3 i j l d e) := rfl
theorem ev_Tri3 {j l : Nat} {u : D} : kTri3 i j l d e u ρ = .nx (((ρ.set i (some d)).set j (some e)).set l (some u)) := rfl
def kAug2 (i : Nat) (ρ : En) : Option D → SR
  | some r => .nx (ρ.set i (some r))
  | none => .stk
def kAug1 (i : Nat) (g : D → D → Option D) (d0 d : D) (ρ : En) : SR := kAug2 i ρ (g d0 d)
def kAug (i : Nat) (g : D → D → Option D) (f : FE) (ρ : En) : Option D → SR
  | some d0 => if d0.isF = true then (f ρ).bindS (kAug1 i g d0) else .stk
  | none => .stk
theorem ev_Aug {g : D → D → Option D} {f : FE} : fAug i g f ρ = kAug i g f ρ (slot ρ i) := by
  unfold fAug kAug
  cases slot ρ i with
  | none => rfl
  | some d0 =>
    show (if d0.isF = true then (f ρ).bindS (fun d ρ' => match g d0 d with
      | some r => SR.nx (ρ'.set i (some r))
      | none => SR.stk) else SR.stk) = _
    congr 1
theorem ev_Aug1 {g : D → D → Option D} {f : FE} : kAug i g f ρ (some d) = if d.isF = true then (f ρ).bindS (kAug1 i g d) else .stk := rfl
theorem ev_Aug2 {g : D → D → Option D} : kAug1 i g d e ρ = kAug2 i ρ (g d e) := rfl
theorem ev_Aug3 : kAug2 i ρ (some d) = .nx (ρ.set i (some d)) := rfl
def kFor (g : FG) (body : FS) (ds : List D) (ρ : En) : SR := forF g body ds ρ
theorem ev_For {fi : FI} {g : FG} {body : FS} : fFor fi g body ρ = (fi ρ).bindS (kFor g body) := rfl
end
/-! ### loops by an invariant -/
section
variable {g : FG} {body : FS} {vs : List Nat} {ft : FB} {fe : FE}
theorem forF_0 {ρ : En} : forF g body [] ρ = .nx ρ := rfl
/-- every turn goes on -/
theorem forF_inv (I : Nat → En → Prop) {ds : List D} (h : ∀ i d ρ, ds[i]? = some d → I i ρ → ∃ ρ1 ρ2, g d ρ = some ρ1 ∧ (body ρ1 = .nx ρ2 ∨ body ρ1 = .ct ρ2) ∧ I (i + 1) ρ2) {ρ : En} (h0 : I 0 ρ) : ∃ ρ', forF g body ds ρ = .nx ρ' ∧ I ds.length ρ' := by
  have key : ∀ (ds0 : List D) (i : Nat) (ρ : En), (∀ k, ds0[k]? = ds[i + k]?) → i + ds0.length = ds.length → I i ρ → ∃ ρ', forF g body ds0 ρ = .nx ρ' ∧ I ds.length ρ' := by
    intro ds0
    induction ds0 with
    | nil => intro i ρ _ hl hi; exact ⟨ρ, rfl, by simpa [← hl] using hi⟩
    | cons d ds0 ih =>
      intro i ρ hk hl hi
      have e0 := hk 0
      rw [Nat.add_zero] at e0
      obtain ⟨ρ1, ρ2, e1, e2, i2⟩ := h i d ρ (by rw [← e0]; rfl) hi
      obtain ⟨ρ3, e3, i3⟩ := ih (i + 1) ρ2 (fun k => by have := hk (k + 1); rw [List.getElem?_cons_succ] at this; rw [this]; congr 1; omega) (by simp at hl; omega) i2
      refine ⟨ρ3, ?_, i3⟩
      unfold forF
      rw [e1]
      show (match body ρ1 with
        | .nx ρ2 => forF g body ds0 ρ2
        | .ct ρ2 => forF g body ds0 ρ2
        | .bk ρ2 => .nx ρ2
        | r => r) = _
      rcases e2 with e2 | e2 <;> rw [e2] <;> exact e3
  exact key ds 0 ρ (fun k => by rw [Nat.zero_add]) (by omega) h0
/-- a loop as a fold -/
theorem forF_fold {σ : Type} (enc : σ → En) (step : σ → D → σ) {ds : List D} (h : ∀ s d, d ∈ ds → ∃ ρ1, g d (enc s) = some ρ1 ∧ (body ρ1 = .nx (enc (step s d)) ∨ body ρ1 = .ct (enc (step s d)))) (s : σ) : forF g body ds (enc s) = .nx (enc (ds.foldl step s)) := by
  induction ds generalizing s with
  | nil => rfl
  | cons d ds ih =>
    obtain ⟨ρ1, e1, e2⟩ := h s d (List.mem_cons_self)
    unfold forF
    rw [e1]
    show (match body ρ1 with
      | .nx ρ2 => forF g body ds ρ2
      | .ct ρ2 => forF g body ds ρ2
      | .bk ρ2 => .nx ρ2
      | r => r) = _
    have := ih (fun s d hd => h s d (List.mem_cons_of_mem _ hd)) (step s d)
    rcases e2 with e2 | e2 <;> rw [e2] <;> exact this
/-- a comprehension whose turns leave the slots as they are -/
theorem lcF_map {ds : List D} (keep : D → Bool) (val : D → D) {ρ : En} (hz : ds.length ≤ sizeLine) (h : ∀ d ∈ ds, ∃ ρ1 ρ2, g d ρ = some ρ1 ∧ ft ρ1 = .ok (keep d) ρ2 ∧ (keep d = false → wipeD ρ2 vs = ρ) ∧ (keep d = true → ∃ ρ3, fe ρ2 = .ok (val d) ρ3 ∧ wipeD ρ3 vs = ρ)) : lcF vs g ft fe ds 0 ρ = .ok ((ds.filter keep).map val) ρ := by
  have key : ∀ (ds : List D) (n : Nat), n + ds.length ≤ sizeLine → (∀ d ∈ ds, ∃ ρ1 ρ2, g d ρ = some ρ1 ∧ ft ρ1 = .ok (keep d) ρ2 ∧ (keep d = false → wipeD ρ2 vs = ρ) ∧ (keep d = true → ∃ ρ3, fe ρ2 = .ok (val d) ρ3 ∧ wipeD ρ3 vs = ρ)) → lcF vs g ft fe ds n ρ = .ok ((ds.filter keep).map val) ρ := by
    intro ds
    induction ds with
    | nil => intro n _ _; rfl
    | cons d ds ih =>
      intro n hn h
      obtain ⟨ρ1, ρ2, e1, e2, k1, k2⟩ := h d List.mem_cons_self
      have hn' : n + ds.length < sizeLine := by simp at hn; omega
      unfold lcF
      rw [e1]
      show (ft ρ1).bind _ = _
      rw [e2]
      cases ek : keep d with
      | false =>
        show lcF vs g ft fe ds n (wipeD ρ2 vs) = _
        rw [k1 ek, ih n (by omega) fun d hd => h d (List.mem_cons_of_mem _ hd), List.filter_cons, ek]; rfl
      | true =>
        obtain ⟨ρ3, e3, e4⟩ := k2 ek
        show (fe ρ2).bind _ = _
        rw [e3]
        show (if n < sizeLine then (lcF vs g ft fe ds (n + 1) (wipeD ρ3 vs)).bind fun ys ρ4 => R.ok (val d :: ys) ρ4 else .stk) = _
        rw [if_pos (by omega), e4, ih (n + 1) (by omega) fun d hd => h d (List.mem_cons_of_mem _ hd), List.filter_cons, ek]; rfl
  exact key ds 0 (by omega) h
/-- .. by an invariant of the slots -/
theorem lcF_inv (I : Nat → List D → En → Prop) {ds : List D} (hz : ds.length ≤ sizeLine) (h : ∀ i d acc ρ, ds[i]? = some d → I i acc ρ → ∃ ρ1 b ρ2, g d ρ = some ρ1 ∧ ft ρ1 = .ok b ρ2 ∧ (b = false → I (i + 1) acc (wipeD ρ2 vs)) ∧ (b = true → ∃ y ρ3, fe ρ2 = .ok y ρ3 ∧ I (i + 1) (acc ++ [y]) (wipeD ρ3 vs))) {ρ : En} (h0 : I 0 [] ρ) :
    ∃ ys ρ', lcF vs g ft fe ds 0 ρ = .ok ys ρ' ∧ I ds.length ys ρ' := by
  have key : ∀ (ds0 : List D) (i n : Nat) (acc : List D) (ρ : En), (∀ k, ds0[k]? = ds[i + k]?) → i + ds0.length = ds.length → n ≤ i → I i acc ρ → ∃ ys ρ', lcF vs g ft fe ds0 n ρ = .ok ys ρ' ∧ I ds.length (acc ++ ys) ρ' := by
    intro ds0
    induction ds0 with
    | nil => intro i n acc ρ _ hl _ hi; exact ⟨[], ρ, rfl, by simpa [← hl] using hi⟩
    | cons d ds0 ih =>
      intro i n acc ρ hk hl hn hi
      have e0 := hk 0
      rw [Nat.add_zero] at e0
      obtain ⟨ρ1, b, ρ2, e1, e2, k1, k2⟩ := h i d acc ρ (by rw [← e0]; rfl) hi
      have hk' : ∀ k, ds0[k]? = ds[i + 1 + k]? := fun k => by have := hk (k + 1); rw [List.getElem?_cons_succ] at this; rw [this]; congr 1; omega
      have hl' : i + 1 + ds0.length = ds.length := by simp at hl; omega
      unfold lcF
      rw [e1]
      cases b with
      | false =>
        obtain ⟨ys, ρ', e3, i3⟩ := ih (i + 1) n acc _ hk' hl' (by omega) (k1 rfl)
        refine ⟨ys, ρ', ?_, i3⟩
        show (ft ρ1).bind _ = _
        rw [e2]
        exact e3
      | true =>
        obtain ⟨y, ρ3, e4, i4⟩ := k2 rfl
        obtain ⟨ys, ρ', e3, i3⟩ := ih (i + 1) (n + 1) (acc ++ [y]) _ hk' hl' (by omega) i4
        refine ⟨y :: ys, ρ', ?_, by simpa using i3⟩
        show (ft ρ1).bind _ = _
        rw [e2]
        show (fe ρ2).bind _ = _
        rw [e4]
        show (if n < sizeLine then (lcF vs g ft fe ds0 (n + 1) (wipeD ρ3 vs)).bind fun ys ρ4 => R.ok (y :: ys) ρ4 else .stk) = _
        rw [if_pos (by omega), e3]; rfl
  obtain ⟨ys, ρ', e, i⟩ := key ds 0 0 [] ρ (fun k => by rw [Nat.zero_add]) (by omega) (Nat.le_refl _) h0
  exact ⟨ys, ρ', e, i⟩
theorem nox_lc {α : Type} {a : α} {ρ : En} : (R.ok a ρ).nox = .ok a ρ := rfl
end
end DL

namespace DL
open PySem PySem.Spec PyProof.Rows L2

/-! ### plain facts on data -/
theorem isFL_cons {d : D} {ds : List D} : D.isFL (d :: ds) = (d.isF && D.isFL ds) := rfl
theorem isFL_nil : D.isFL [] = true := rfl
theorem frzL_cons {d : D} {ds : List D} : D.frzL (d :: ds) = d.frz :: D.frzL ds := rfl
theorem frzL_nil : D.frzL [] = [] := rfl
theorem frz_int {i : Int} : (D.int i).frz = .int i := rfl
theorem frz_str {i : Str} : (D.str i).frz = .str i := rfl
theorem frz_bl {i : Bool} : (D.bl i).frz = .bl i := rfl
theorem frz_non : D.non.frz = .non := rfl
theorem frz_tup {xs : List D} : (D.tup xs).frz = .tup (D.frzL xs) := rfl
theorem frz_lst {m : Bool} {xs : List D} : (D.lst m xs).frz = .lst false (D.frzL xs) := rfl
theorem isF_int {i : Int} : (D.int i).isF = true := rfl
theorem isF_str {i : Str} : (D.str i).isF = true := rfl
theorem isF_bl {i : Bool} : (D.bl i).isF = true := rfl
theorem isF_non : D.non.isF = true := rfl
theorem isF_opq {v : V} : (D.opq v).isF = true := rfl
theorem isF_tup {xs : List D} : (D.tup xs).isF = D.isFL xs := rfl
theorem isF_lst {xs : List D} : (D.lst false xs).isF = D.isFL xs := rfl
theorem isFL_map {α : Type} {f : α → D} (h : ∀ a, (f a).isF = true) : ∀ xs : List α, D.isFL (xs.map f) = true
  | [] => rfl
  | x :: xs => by rw [List.map_cons, isFL_cons, h, isFL_map h xs]; rfl
theorem frzL_of {xs : List D} (h : D.isFL xs = true) : D.frzL xs = xs := by
  induction xs with
  | nil => rfl
  | cons x xs ih =>
    rw [isFL_cons, Bool.and_eq_true] at h
    rw [frzL_cons, D.frz_of h.1, ih h.2]
theorem frzL_map {α : Type} {f : α → D} (h : ∀ a, (f a).isF = true) (xs : List α) : D.frzL (xs.map f) = xs.map f := frzL_of (isFL_map h xs)
theorem isFL_int (ns : List Int) : D.isFL (ns.map D.int) = true := isFL_map (fun _ => rfl) ns
theorem isFL_str (ns : List Str) : D.isFL (ns.map D.str) = true := isFL_map (fun _ => rfl) ns
theorem isFL_bl (ns : List Bool) : D.isFL (ns.map D.bl) = true := isFL_map (fun _ => rfl) ns
theorem frzL_int (ns : List Int) : D.frzL (ns.map D.int) = ns.map D.int := frzL_of (isFL_int ns)
theorem frzL_str (ns : List Str) : D.frzL (ns.map D.str) = ns.map D.str := frzL_of (isFL_str ns)
theorem intsD_map : ∀ ns : List Int, intsD (ns.map D.int) = some ns
  | [] => rfl
  | n :: ns => by show (intsD (ns.map D.int)).map (n :: ·) = _; rw [intsD_map ns]; rfl
theorem strsD_map : ∀ ns : List Str, strsD (ns.map D.str) = some ns
  | [] => rfl
  | n :: ns => by show (strsD (ns.map D.str)).map (n :: ·) = _; rw [strsD_map ns]; rfl
theorem blsD_map : ∀ ns : List Bool, blsD (ns.map D.bl) = some ns
  | [] => rfl
  | n :: ns => by show (blsD (ns.map D.bl)).map (n :: ·) = _; rw [blsD_map ns]; rfl
/-- == of ints, texts, bools -/
theorem eq_int {n : Bool} {i j : Int} : eqD n (.int i) (.int j) = some (.bl (if n then !decide (i = j) else decide (i = j))) := by
  show (if PyData.depth (.int i) ≤ 64 then some (D.bl (if n then !PyData.eqv (.int i) (.int j) else PyData.eqv (.int i) (.int j))) else none) = _
  have e : PyData.eqv (.int i) (.int j) = decide (i = j) := by
    show (i == j) = _
    exact Bool.eq_iff_iff.mpr (by simp)
  have e2 : PyData.depth (.int i) ≤ 64 := by show 0 ≤ 64; decide
  rw [if_pos e2, e]
theorem eq_str {n : Bool} {i j : Str} : eqD n (.str i) (.str j) = some (.bl (if n then !decide (i = j) else decide (i = j))) := by
  show (if PyData.depth (.str i) ≤ 64 then some (D.bl (if n then !PyData.eqv (.str i) (.str j) else PyData.eqv (.str i) (.str j))) else none) = _
  have e : PyData.eqv (.str i) (.str j) = decide (i = j) := by
    show (i == j) = _
    exact Bool.eq_iff_iff.mpr (by simp)
  have e2 : PyData.depth (.str i) ≤ 64 := by show 0 ≤ 64; decide
  rw [if_pos e2, e]
theorem py_ints : ∀ ns : List Int, D.pyL (ns.map D.int) = some (ns.map PyData.int)
  | [] => rfl
  | n :: ns => by
    show (match (D.int n).py, D.pyL (ns.map D.int) with
      | some p, some ps => some (p :: ps)
      | _, _ => none) = _
    rw [py_ints ns]; rfl
theorem py_strs : ∀ ns : List Str, D.pyL (ns.map D.str) = some (ns.map PyData.str)
  | [] => rfl
  | n :: ns => by
    show (match (D.str n).py, D.pyL (ns.map D.str) with
      | some p, some ps => some (p :: ps)
      | _, _ => none) = _
    rw [py_strs ns]; rfl
theorem depth_flat : ∀ ps : List PyData, (∀ p ∈ ps, p.depth = 0) → PyData.depthAll ps = 0
  | [], _ => rfl
  | p :: ps, h => by
    show max p.depth (PyData.depthAll ps) = 0
    rw [h p List.mem_cons_self, depth_flat ps fun q hq => h q (List.mem_cons_of_mem _ hq)]; rfl
theorem eq_nil_ints {n m m' : Bool} {ns : List Int} : eqD n (.lst m (ns.map D.int)) (.lst m' []) = some (.bl (if n then !ns.isEmpty else ns.isEmpty)) := by
  have e : (D.lst m (ns.map D.int)).py = some (.list (ns.map PyData.int)) := by
    show (D.pyL (ns.map D.int)).map PyData.list = _
    rw [py_ints]; rfl
  have e2 : PyData.depth (.list (ns.map PyData.int)) ≤ 64 := by
    show PyData.depthAll (ns.map PyData.int) + 1 ≤ 64
    rw [depth_flat _ (fun p hp => by obtain ⟨i, _, rfl⟩ := List.mem_map.mp hp; rfl)]; decide
  have e3 : PyData.eqv (.list (ns.map PyData.int)) (.list []) = ns.isEmpty := by
    cases ns <;> rfl
  unfold eqD
  rw [e]
  show (if PyData.depth (.list (ns.map PyData.int)) ≤ 64 then some (D.bl (if n then !PyData.eqv (.list (ns.map PyData.int)) (.list []) else PyData.eqv (.list (ns.map PyData.int)) (.list []))) else none) = _
  rw [if_pos e2, e3]
theorem lt_int {i j : Int} : ltD (.int i) (.int j) = some (.bl (decide (i < j))) := rfl
theorem le_int {i j : Int} : leD (.int i) (.int j) = some (.bl (decide (i ≤ j))) := rfl
theorem gt_int {i j : Int} : gtD (.int i) (.int j) = some (.bl (decide (j < i))) := rfl
theorem ge_int {i j : Int} : geD (.int i) (.int j) = some (.bl (decide (j ≤ i))) := rfl
theorem add_int {i j : Int} : addD (.int i) (.int j) = some (.int (i + j)) := rfl
theorem sub_int {i j : Int} : subD (.int i) (.int j) = some (.int (i - j)) := rfl
theorem mul_int {i j : Int} (h : i.natAbs.log2 + j.natAbs.log2 < 1000000) : mulD (.int i) (.int j) = some (.int (i * j)) := by
  show (if mulOk i j = true then some (D.int (i * j)) else none) = _
  have e : mulOk i j = true := decide_eq_true (.inl h)
  rw [if_pos e]
theorem mul_intR {i j : Int} (h : j.natAbs.log2 < 60) : mulD (.int i) (.int j) = some (.int (i * j)) := by
  show (if mulOk i j = true then some (D.int (i * j)) else none) = _
  have e : mulOk i j = true := decide_eq_true (.inr (.inr h))
  rw [if_pos e]
theorem mod_int {i j : Int} (h : 0 < j) : modD (.int i) (.int j) = some (.int (i % j)) := if_pos h
theorem fdiv_int {i j : Int} (h : 0 < j) (h2 : j.natAbs.log2 < 9000) : fdivD (.int i) (.int j) = some (.int (i / j)) := if_pos ⟨h, h2⟩
theorem pow_int {i j : Int} (h : 0 ≤ j ∧ j ≤ 1000000 ∧ i.natAbs < 2 ^ 64) : powD (.int i) (.int j) = some (.int (i ^ j.toNat)) := if_pos h
theorem neg_int {i : Int} : negD (.int i) = some (.int (-i)) := rfl
theorem iadd_int {i j : Int} : iaddD (.int i) (.int j) = some (.int (i + j)) := rfl
theorem intG_int {i : Int} : intG [.int i] = some (.int i) := rfl
theorem lenG_lst {m : Bool} {xs : List D} : lenG [.lst m xs] = some (.int xs.length) := rfl
theorem lenG_tup {xs : List D} : lenG [.tup xs] = some (.int xs.length) := rfl
theorem lenG_str {z : Str} (h : z.length ≤ sizeLine) : lenG [.str z] = some (.int z.length) := if_pos h
theorem lstG_of {xs : List D} (h : xs.length ≤ sizeLine) (hf : D.isFL xs = true) : lstG xs = some (.lst true xs) := if_pos ⟨h, hf⟩
theorem tupG_of {xs : List D} (h : xs.length ≤ sizeLine) (hf : D.isFL xs = true) : tupG xs = some (.tup xs) := if_pos ⟨h, hf⟩
theorem ixN_pos {n j : Nat} (h : j < n) : ixN n (j : Int) = some j := by
  unfold ixN
  rw [if_pos (by omega), if_pos (by omega)]; simp
theorem atI_nat {α : Type} {xs : List α} {j : Nat} : atI xs (j : Int) = xs[j]? := by
  unfold atI
  by_cases h : j < xs.length
  · rw [ixN_pos h]; rfl
  · unfold ixN
    rw [if_pos (by omega), if_neg (by omega), List.getElem?_eq_none (by omega)]; rfl
theorem ix_int {m : Bool} {ns : List Int} {j : Nat} {i : Int} (h : ns[j]? = some i) : ixD (.lst m (ns.map D.int)) (.int (j : Int)) = some (.int i) := by
  show (atI (ns.map D.int) (j : Int)).bind _ = _
  rw [atI_nat, List.getElem?_map, h]; rfl
theorem log2_lt_of {i : Int} {n : Nat} (h : i.natAbs < 2 ^ n) (hn : 0 < n) : i.natAbs.log2 < n := by
  by_cases e : i.natAbs = 0
  · rw [e]; show Nat.log2 0 < n; have : Nat.log2 0 = 0 := by decide
    omega
  · exact (Nat.log2_lt e).mpr h
/-- a while loop -/
theorem whileF_f {t : FB} {body : FS} {n : Nat} {ρ ρ1 : En} (h : t ρ = .ok false ρ1) : whileF t body (n + 1) ρ = .nx ρ1 := by
  unfold whileF; rw [h]; rfl
theorem whileF_t {t : FB} {body : FS} {n : Nat} {ρ ρ1 ρ2 : En} (h : t ρ = .ok true ρ1) (h2 : body ρ1 = .nx ρ2) : whileF t body (n + 1) ρ = whileF t body n ρ2 := by
  unfold whileF; rw [h]
  show (match body ρ1 with
      | .nx ρ2 => whileF t body n ρ2
      | .ct ρ2 => whileF t body n ρ2
      | .bk ρ2 => .nx ρ2
      | r => r) = _
  rw [h2]
  cases n <;> rfl
/-- a def at its arguments -/
def GR.fin (mi : Bool) : SR → GR
  | .rt d ρ => endG mi d ρ
  | .nx ρ => endG mi .non ρ
  | _ => .stk
theorem fin_rt {mi : Bool} {d : D} {ρ : En} : GR.fin mi (.rt d ρ) = endG mi d ρ := rfl
theorem fin_nx {mi : Bool} {ρ : En} : GR.fin mi (.nx ρ) = endG mi .non ρ := rfl
theorem endG_f {d : D} {ρ : En} : endG false d ρ = .ok d [] := rfl
theorem endG_t {d e : D} {ρ : En} : endG true d (some e :: ρ) = .ok d [e] := rfl
theorem GF_at {np nN : Nat} {mi : Bool} {fb : FS} {ds : List D} (h : ds.length = np) : GF np nN mi fb ds = GR.fin mi (fb (ds.map some ++ List.replicate (nN - np) none)) := by
  unfold GF
  rw [if_pos h]
  cases fb (ds.map some ++ List.replicate (nN - np) none) <;> rfl
/-- slices -/
theorem cutL_nn {α : Type} (xs : List α) (i j : Nat) : cutL xs (some (i : Int)) (some (j : Int)) = (xs.take j).drop i := by
  unfold cutL
  rw [HT.sIx_nat, HT.sIx_nat]
  apply List.ext_getElem?
  intro k
  rw [List.getElem?_drop, List.getElem?_take, List.getElem?_take, List.getElem?_drop]
  by_cases h : i < xs.length
  · rw [Nat.min_eq_left (Nat.le_of_lt h)]
    by_cases h2 : i + k < j
    · rw [if_pos h2]
      by_cases h3 : i + k < xs.length
      · rw [if_pos (by omega)]
      · rw [List.getElem?_eq_none (by omega)]; split <;> rfl
    · rw [if_neg h2, if_neg (by omega)]
  · rw [List.getElem?_eq_none (by omega : xs.length ≤ min i xs.length + k), List.getElem?_eq_none (by omega : xs.length ≤ i + k)]
    split <;> split <;> rfl
theorem cutL_n_ {α : Type} (xs : List α) (i : Nat) : cutL xs (some (i : Int)) none = xs.drop i := by
  unfold cutL
  rw [HT.sIx_nat, HT.sIx_none]
  apply List.ext_getElem?
  intro k
  rw [List.getElem?_drop, List.getElem?_take, List.getElem?_drop]
  by_cases h : i < xs.length
  · rw [Nat.min_eq_left (Nat.le_of_lt h)]
    by_cases h3 : i + k < xs.length
    · rw [if_pos (by omega)]
    · rw [List.getElem?_eq_none (by omega)]; split <;> rfl
  · rw [List.getElem?_eq_none (by omega : xs.length ≤ min i xs.length + k), List.getElem?_eq_none (by omega : xs.length ≤ i + k)]
    split <;> rfl
theorem cutL__n {α : Type} (xs : List α) (j : Nat) : cutL xs none (some (j : Int)) = xs.take j := by
  unfold cutL
  rw [HT.sIx_nat, HT.sIx_none]
  apply List.ext_getElem?
  intro k
  rw [List.getElem?_take, List.getElem?_take, List.getElem?_drop, Nat.zero_add]
  by_cases h3 : k < xs.length
  · by_cases h : k < j
    · rw [if_pos h, if_pos (by omega)]
    · rw [if_neg h, if_neg (by omega)]
  · rw [List.getElem?_eq_none (by omega)]; split <;> split <;> rfl
theorem GF_0 {nN : Nat} {mi : Bool} {fb : FS} : GF 0 nN mi fb [] = GR.fin mi (fb (List.replicate (nN - 0) none)) := GF_at (np := 0) (ds := []) rfl
theorem GF_1 {nN : Nat} {mi : Bool} {fb : FS} {a : D} : GF 1 nN mi fb [a] = GR.fin mi (fb (some a :: List.replicate (nN - 1) none)) := GF_at (np := 1) (ds := [a]) rfl
theorem GF_2 {nN : Nat} {mi : Bool} {fb : FS} {a b : D} : GF 2 nN mi fb [a, b] = GR.fin mi (fb (some a :: some b :: List.replicate (nN - 2) none)) := GF_at (np := 2) (ds := [a, b]) rfl
theorem GF_3 {nN : Nat} {mi : Bool} {fb : FS} {a b c : D} : GF 3 nN mi fb [a, b, c] = GR.fin mi (fb (some a :: some b :: some c :: List.replicate (nN - 3) none)) := GF_at (np := 3) (ds := [a, b, c]) rfl
theorem GF_4 {nN : Nat} {mi : Bool} {fb : FS} {a b c d : D} : GF 4 nN mi fb [a, b, c, d] = GR.fin mi (fb (some a :: some b :: some c :: some d :: List.replicate (nN - 4) none)) := GF_at (np := 4) (ds := [a, b, c, d]) rfl
theorem GF_5 {nN : Nat} {mi : Bool} {fb : FS} {a b c d e : D} : GF 5 nN mi fb [a, b, c, d, e] = GR.fin mi (fb (some a :: some b :: some c :: some d :: some e :: List.replicate (nN - 5) none)) := GF_at (np := 5) (ds := [a, b, c, d, e]) rfl
theorem GF_6 {nN : Nat} {mi : Bool} {fb : FS} {a b c d e f : D} : GF 6 nN mi fb [a, b, c, d, e, f] = GR.fin mi (fb (some a :: some b :: some c :: some d :: some e :: some f :: List.replicate (nN - 6) none)) := GF_at (np := 6) (ds := [a, b, c, d, e, f]) rfl
def kNe (i : Nat) (k : Key) (v : D) (ρ : En) : Option D → Option D → Option En
  | some (.dic true ks ds), some (.int z) => (kIx ks k).bind fun j => (ds[j]?).bind fun d => (stL d z v).map fun r => ρ.set i (some (.dic true ks (ds.set j r)))
  | _, _ => none
theorem ev_Nest {i : Nat} {k : Key} {gb : En → Option D} {v : D} {ρ : En} : gNest i k gb v ρ = kNe i k v ρ (slot ρ i) (gb ρ) := by
  unfold gNest kNe
  rfl
theorem ev_Nest1 {i : Nat} {k : Key} {v : D} {ρ : En} {ks : List Key} {ds : List D} {z : Int} : kNe i k v ρ (some (.dic true ks ds)) (some (.int z)) = (kIx ks k).bind fun j => (ds[j]?).bind fun d => (stL d z v).map fun r => ρ.set i (some (.dic true ks (ds.set j r))) := rfl
theorem stL_nat {xs : List D} {j : Nat} {v : D} (h : j < xs.length) : stL (.lst true xs) (j : Int) v = some (.lst true (xs.set j v)) := by
  show (ixN xs.length (j : Int)).map _ = _
  rw [ixN_pos h]; rfl
theorem lst_nil : lstG [] = some (.lst true []) := rfl
/-- sizes of ints -/
def Bd (n : Nat) (i : Int) : Prop := i.natAbs < 2 ^ n
theorem Bd.mono {n m : Nat} {i : Int} (h : Bd n i) (hm : n ≤ m) : Bd m i := Nat.lt_of_lt_of_le h (Nat.pow_le_pow_right (by decide) hm)
theorem Bd.add {n m : Nat} {i j : Int} (h : Bd n i) (h2 : Bd m j) : Bd (max n m + 1) (i + j) := by
  have h1 := h.mono (Nat.le_max_left n m)
  have h3 := h2.mono (Nat.le_max_right n m)
  have := Int.natAbs_add_le i j
  unfold Bd at *
  rw [Nat.pow_succ]
  omega
theorem Bd.sub {n m : Nat} {i j : Int} (h : Bd n i) (h2 : Bd m j) : Bd (max n m + 1) (i - j) := by
  have h3 : Bd m (-j) := by unfold Bd at *; rwa [Int.natAbs_neg]
  have := h.add h3
  rwa [← Int.sub_eq_add_neg] at this
theorem Bd.mul {n m : Nat} {i j : Int} (h : Bd n i) (h2 : Bd m j) : Bd (n + m) (i * j) := by
  unfold Bd at *
  rw [Int.natAbs_mul, Nat.pow_add]
  exact Nat.mul_lt_mul'' h h2
theorem Bd.mod {m : Nat} {i j : Int} (h : 0 < j) (h2 : Bd m j) : Bd m (i % j) := by
  have h3 := Int.emod_nonneg i (Int.ne_of_gt h)
  have h4 := Int.emod_lt_of_pos i h
  unfold Bd at *
  omega
theorem mul_bd {n m : Nat} {i j : Int} (h : Bd n i) (h2 : Bd m j) (hs : n + m < 1000000) : mulD (.int i) (.int j) = some (.int (i * j)) := by
  refine mul_int ?_
  have a : i.natAbs.log2 ≤ n := by
    by_cases e : i.natAbs = 0
    · rw [e]; have : Nat.log2 0 = 0 := by decide
      omega
    · exact Nat.le_of_lt ((Nat.log2_lt e).mpr h)
  have b : j.natAbs.log2 ≤ m := by
    by_cases e : j.natAbs = 0
    · rw [e]; have : Nat.log2 0 = 0 := by decide
      omega
    · exact Nat.le_of_lt ((Nat.log2_lt e).mpr h2)
  omega
theorem kIx_out {k : Key} : ∀ {ks : List Key}, k ∉ ks → kIx ks k = none
  | [], _ => rfl
  | a :: ks, h => by
    show (if a = k then some 0 else (kIx ks k).map (· + 1)) = none
    rw [if_neg (fun e => h (by rw [e]; exact List.mem_cons_self)), kIx_out fun q => h (List.mem_cons_of_mem _ q)]; rfl
theorem mergeD_new : ∀ (ms : List Key) (es : List D) (ks : List Key) (ds : List D), (ks ++ ms).Nodup → es.length = ms.length → (ks ++ ms).length ≤ 1000 → mergeD ks ds ms es = some (ks ++ ms, ds ++ es)
  | [], [], ks, ds, _, _, _ => by
    show some (ks, ds) = _
    rw [List.append_nil, List.append_nil]
  | k :: ms, d :: es, ks, ds, hn, hl, hz => by
    have h1 := List.nodup_append.mp hn
    have h2 : k ∉ ks := fun q => h1.2.2 k q k List.mem_cons_self rfl
    have h3 : ks.length < sizeLine := by
      rw [List.length_append] at hz
      have : (1000 : Nat) < sizeLine := by decide
      omega
    show (putD ks ds k d).bind _ = _
    have e : putD ks ds k d = some (ks ++ [k], ds ++ [d]) := by
      unfold putD
      rw [if_pos ⟨h1.1, h3⟩, kIx_out h2]
    rw [e]
    show mergeD (ks ++ [k]) (ds ++ [d]) ms es = _
    rw [mergeD_new ms es _ _ (by rw [List.append_assoc]; exact hn) (by simpa using hl) (by rw [List.append_assoc]; exact hz), List.append_assoc, List.append_assoc]
    rfl
theorem mergeD_at {ms : List Key} {es : List D} (hn : ms.Nodup) (hl : es.length = ms.length) (hz : ms.length ≤ 1000) : mergeD [] [] ms es = some (ms, es) := mergeD_new ms es [] [] hn hl hz
theorem listG_of {m : Bool} {xs : List D} (h : D.isFL xs = true) : listG [.lst m xs] = some (.lst true xs) := if_pos h
theorem items_lst {xs : List D} (h : D.isFL xs = true) : items (.lst false xs) = some xs := by
  show (if D.isF (.lst false xs) = true then some xs else none) = _
  rw [if_pos (by rw [isF_lst]; exact h)]
theorem items_str {z : Str} : items (.str z) = some (z.cps.toList.map fun k => .str ⟨#[k]⟩) := rfl
end DL

namespace DL
open PySem PySem.Spec PyProof.Rows L2

/-! ### texts as lists of code points -/
abbrev T (l : List Nat) : Str := ⟨l.toArray⟩
theorem T_of (z : Str) : T z.cps.toList = z := by cases z; rfl
theorem T_len (l : List Nat) : (T l).length = l.length := by simp [T, Str.length]
theorem T_cps (l : List Nat) : (T l).cps.toList = l := by simp [T]
theorem T_app (a b : List Nat) : T a ++ T b = T (a ++ b) := by
  show (⟨a.toArray ++ b.toArray⟩ : Str) = ⟨(a ++ b).toArray⟩
  simp
theorem T_inj {a b : List Nat} : (T a = T b) ↔ a = b := by
  constructor
  · intro h
    have := congrArg (fun z : Str => z.cps.toList) h
    simpa using this
  · rintro rfl; rfl
theorem items_T (l : List Nat) : items (.str (T l)) = some (l.map fun c => .str (T [c])) := by
  show some ((T l).cps.toList.map fun k => D.str ⟨#[k]⟩) = _
  rw [T_cps]
theorem ix_T {l : List Nat} {j c : Nat} (h : l[j]? = some c) (hl : l.length ≤ sizeLine) : ixD (.str (T l)) (.int (j : Int)) = some (.str (T [c])) := by
  show (if (T l).length ≤ sizeLine then (atI (T l).cps.toList (j : Int)).map fun c => D.str ⟨#[c]⟩ else none) = _
  rw [if_pos (by rw [T_len]; exact hl), T_cps, atI_nat, h]; rfl
theorem sl_T {l : List Nat} {lo hi : Option Int} (hl : l.length ≤ sizeLine) : slD (.str (T l)) lo hi = some (.str (T (cutL l lo hi))) := by
  show (if (T l).length ≤ sizeLine then some (D.str (cutS (T l) lo hi)) else none) = _
  rw [if_pos (by rw [T_len]; exact hl)]
  unfold cutS cutL
  rw [T_cps, T_len]
theorem eq_T {n : Bool} {a b : List Nat} : eqD n (.str (T a)) (.str (T b)) = some (.bl (if n then !decide (a = b) else decide (a = b))) := by
  rw [eq_str]
  have : decide (T a = T b) = decide (a = b) := by simp only [T_inj]
  rw [this]
theorem len_T {l : List Nat} (h : l.length ≤ sizeLine) : lenG [.str (T l)] = some (.int l.length) := by
  rw [lenG_str (by rw [T_len]; exact h), T_len]
theorem add_T {a b : List Nat} (h : a.length + b.length ≤ sizeLine) : addD (.str (T a)) (.str (T b)) = some (.str (T (a ++ b))) := by
  show (if (T a).length + (T b).length ≤ sizeLine then some (D.str (T a ++ T b)) else none) = _
  rw [if_pos (by rw [T_len, T_len]; exact h), T_app]
theorem in_T {c : Nat} {z : Str} : inD false (.str (T [c])) (.str z) = some (.bl (decide (c ∈ z.cps.toList))) := by
  show some (D.bl (inS (T [c]) z)) = _
  have : inS (T [c]) z = decide (c ∈ z.cps.toList) := PySem.StrLaws.found_one z c
  rw [this]
theorem strsD_T (f : List Nat → Str) (ys : List (List Nat)) : strsD (ys.map fun l => .str (f l)) = some (ys.map f) := by
  have := strsD_map (ys.map f)
  rw [List.map_map] at this
  exact this
theorem join_flat : ∀ ys : List (List Nat), Txt.join (T []) (ys.map T) = T ys.flatten := by
  have key : ∀ (ys : List (List Nat)) (a : List Nat), (ys.map T).foldl (fun acc p => acc ++ (T []).cps ++ p.cps) a.toArray = (a ++ ys.flatten).toArray := by
    intro ys
    induction ys with
    | nil => intro a; simp
    | cons y ys ih =>
      intro a
      rw [List.map_cons, List.foldl_cons]
      have : a.toArray ++ (T []).cps ++ (T y).cps = (a ++ y).toArray := by simp [T]
      rw [this, ih, List.flatten_cons, List.append_assoc]
  intro ys
  show (⟨((ys.map T).drop 1).foldl (fun acc p => acc ++ (T []).cps ++ p.cps) ((ys.map T).headD Str.empty).cps⟩ : Str) = _
  cases ys with
  | nil => rfl
  | cons y ys =>
    show (⟨(ys.map T).foldl (fun acc p => acc ++ (T []).cps ++ p.cps) y.toArray⟩ : Str) = _
    rw [key, List.flatten_cons]
theorem join_T {m : Bool} {ys : List (List Nat)} (h : ys.flatten.length ≤ 16777216) : joinD (.str (T [])) (.lst m (ys.map fun l => .str (T l))) = some (.str (T ys.flatten)) := by
  show (strsD (ys.map fun l => .str (T l))).bind _ = _
  rw [strsD_T]
  show (if ((ys.map T).map (·.length)).sum + (ys.map T).length * (T []).length ≤ 16777216 then some (D.str (Txt.join (T []) (ys.map T))) else none) = _
  have e : ((ys.map T).map (·.length)).sum = ys.flatten.length := by
    rw [List.map_map, List.length_flatten]
    congr 1
  rw [if_pos (by rw [e]; simpa [T, Str.length] using h), join_flat]
/-- signs one by one -/
theorem join_signs {m : Bool} {l : List Nat} (h : l.length ≤ 16777216) : joinD (.str (T [])) (.lst m (l.map fun c => .str (T [c]))) = some (.str (T l)) := by
  have e : (l.map fun c => [c]).flatten = l := by
    induction l with
    | nil => rfl
    | cons c l ih =>
      rw [List.map_cons, List.flatten_cons, ih (by simp at h; omega)]; rfl
  have := join_T (m := m) (ys := l.map fun c => [c]) (by rw [e]; exact h)
  rw [e, List.map_map] at this
  exact this
theorem isFL_T (l : List Nat) : D.isFL (l.map fun c => .str (T [c])) = true := isFL_map (fun _ => rfl) l
/-- repr of bools and small ints -/
theorem repr_at {d : D} {p : PyData} (h : d.py = some p) (h1 : p.showable = true) (h2 : p.shown.length ≤ sizeLine) (h3 : p.depth ≤ 64) : reprG [d] = some (.str p.shown) := by
  show (d.py).bind _ = _
  rw [h]
  show (if (p.showable && decide (p.shown.length ≤ sizeLine) && decide (p.depth ≤ 64)) = true then some (D.str p.shown) else none) = _
  rw [if_pos (by rw [h1, decide_eq_true h2, decide_eq_true h3]; rfl)]
theorem repr_bl {b : Bool} : reprG [.bl b] = some (.str (PyData.shown (.bool b))) := by
  refine repr_at rfl rfl ?_ (by show 0 ≤ 64; decide)
  cases b
  · show (Str.ofString "False").length ≤ sizeLine
    decide +kernel
  · show (Str.ofString "True").length ≤ sizeLine
    decide +kernel
theorem repr_int {i : Int} (h : i.natAbs.log2 < 1920) : reprG [.int i] = some (.str (PyData.shown (.int i))) := by
  refine repr_at rfl (decide_eq_true h) ?_ (by show 0 ≤ 64; decide)
  show (Str.ofString (toString i)).length ≤ sizeLine
  have h1 := PySem.int_text_length_le (k := 1920) (by decide) h
  have h2 : (Str.ofString (toString i)).length = (toString i).length := by
    rw [Str.ofString_eq_toList]
    show ((toString i).toList.map Char.toNat).toArray.size = _
    rw [List.size_toArray, List.length_map, String.length_toList]
  have h3 : (1921 : Nat) ≤ sizeLine := by decide
  rw [h2]
  omega
theorem log2_mono {a b : Nat} (h : a ≤ b) : a.log2 ≤ b.log2 := by
  by_cases ea : a = 0
  · subst ea
    have : Nat.log2 0 = 0 := by decide
    omega
  · have hb : b ≠ 0 := by omega
    exact (Nat.le_log2 hb).mpr (Nat.le_trans (Nat.log2_self_le ea) h)
/-- isinstance -/
theorem isi_at {d : D} {T : String} {b : Bool} (ho : d.isO = false) (hk : kitB d.typ T = some b) : isiG [d, .opq (.ty T)] = some (.bl b) := by
  show (if d.isO = false then (kitB d.typ T).map D.bl else none) = _
  rw [if_pos ho, hk]; rfl
theorem isi_str_str {z : Str} : isiG [.str z, .opq (.ty "str")] = some (.bl true) := isi_at rfl (show kitB "str" "str" = some true by decide +kernel)
theorem isi_int_int {z : Int} : isiG [.int z, .opq (.ty "int")] = some (.bl true) := isi_at rfl (show kitB "int" "int" = some true by decide +kernel)
theorem isi_int_bool {z : Int} : isiG [.int z, .opq (.ty "bool")] = some (.bl false) := isi_at rfl (show kitB "int" "bool" = some false by decide +kernel)
theorem isi_tup_tup {z : List D} : isiG [.tup z, .opq (.ty "tuple")] = some (.bl true) := isi_at rfl (show kitB "tuple" "tuple" = some true by decide +kernel)
theorem isi_lst_lst {m : Bool} {z : List D} : isiG [.lst m z, .opq (.ty "list")] = some (.bl true) := isi_at rfl (show kitB "list" "list" = some true by decide +kernel)
/-- the law's loop: every turn goes on -/
theorem law_for {g : FG} {body : FS} {ds : List D} {ρ : En} {k : FS} (I : Nat → En → Prop) (h0 : I 0 ρ) (h : ∀ i d ρ, ds[i]? = some d → I i ρ → ∃ ρ1 ρ2, g d ρ = some ρ1 ∧ (body ρ1 = .nx ρ2 ∨ body ρ1 = .ct ρ2) ∧ I (i + 1) ρ2) (fin : ∀ ρ', I ds.length ρ' → ∃ m, GR.fin false (k ρ') = .ok (.bl true) m) :
    ∃ m, GR.fin false (SR.seq (forF g body ds ρ) k) = .ok (.bl true) m := by
  obtain ⟨ρ', e, i⟩ := forF_inv I h h0
  rw [e, seq_nx]
  exact fin ρ' i
end DL

namespace DL
open PySem PySem.Spec PyProof.Rows L2

/-! ### a tuple times an int -/
set_option maxHeartbeats 4000000 in
theorem tuple_one (l : Addr) (items : Array Value) (n : Nat) (dd : Option Addr) (sl : Array (Option Value)) (u : Tok) :
    Meets (Builtin.«tuple.__mul__» ⟨[.ref l, .int 1 u], []⟩) (fun _ R s => s.heap.get? l = some { cls := .type "tuple", dict := dd, data := .seq items n, slots := sl } ∧ R (.ok (.ret (Value.ref l))) s) :=
  .of_wp fun prog w A R s h => by
    obtain ⟨hp, g, d, tk, os⟩ := s
    obtain ⟨ho, h⟩ := h
    have f1 := AutoSeq1.idx_int
    wp_walk using wpAny_loadPart' ho
    exact ⟨_, rfl, h⟩
def rRepT1 (K : PySem.W.Frag) : R2 := fun x y H Q => ∃ l xs, x = .ref l ∧ y = .int 1 ∧ SqT K H l xs ∧ Q (.ref l) H
theorem op_repT1 {X : Cx} : OpR X (binaryOp .Mult) (rRepT1 X.K) := by
  intro pins s σ H x y v u Q I rx ry h
  obtain ⟨l, xs, rfl, rfl, hT, q⟩ := h
  cases rx
  obtain ⟨t, rfl⟩ := ry
  obtain ⟨its, r, ⟨⟨cls, dd, data, sl⟩, ho, hc, n, hd⟩, hs⟩ := I.tuple hT
  simp only at hc hd
  subst hc hd
  refine wpAny_binaryOp_repeat_ref (T := "tuple") (U := "int") (by decide) ⟨_, ho, rfl⟩ (fun s' => typeIs_int s' 1 t) noFill_tuple_mul F.fills_int_mul F.slot_int_rmul repeat_tuple F.slot_int_index.lookup ?_
  refine call_meets F.slot_int_rmul (typeIs_int s 1 t) F.entry_int_rmul (F.args_int_rmul_2 _ _) (int_rmul_tuple 1 t l its.toArray n dd sl) ⟨ho, rfl, ⟨_, ho, rfl⟩, ?_⟩
  exact call_meets F.slot_tuple_mul ⟨_, ho, rfl⟩ F.entry_tuple_mul (F.args_tuple_mul_2 _ _) (tuple_one l its.toArray n dd sl t) ⟨ho, .ref l, H, I, rfl, q⟩
def tmulD : D → D → Option D
  | .tup xs, .int k => if xs ≠ [] ∧ 1 ≤ k ∧ k ≤ 1000 ∧ xs.length ≤ 1000 ∧ D.isFL xs = true then some (.tup (repL k.toNat xs)) else none
  | _, _ => none
def rTMul (K : PySem.W.Frag) : R2 := fun x y H Q => rRepT1 K x y H Q ∨ rRepT K x y H Q
theorem or_tmul {X : Cx} : OpR X (binaryOp .Mult) (rTMul X.K) := op_repT1.or op_repT
theorem tmul_ok {K : PySem.W.Frag} : Op2 K (rTMul K) tmulD := by
  intro H x y d e f1 f2 Q dr hx hy hg q
  unfold tmulD at hg
  split at hg
  · rename_i xs k
    obtain ⟨⟨h1, h2, h3, h4, h5⟩, rfl⟩ := ite_some hg
    obtain ⟨a, ys, rfl, h, l⟩ := hx.tupR
    have hl := l.length
    by_cases hk : k = 1
    · subst hk
      refine .inl ⟨a, ys, rfl, hy.intR, h, q _ _ (Fresh.same ?_)⟩
      have e : repL (1 : Int).toNat xs = xs := by
        show (List.replicate 1 xs).flatten = xs
        simp
      rw [e]
      exact .tup h (l.f0 h5)
    · exact .inr ⟨a, k, ys, rfl, hy.intR, h, (fun z => h1 (List.eq_nil_of_length_eq_zero (by rw [hl, z]; rfl))), by omega, h3, by omega, fun p hp => q _ _ (fresh_tup ((l.f0 h5).rep k.toNat) hp)⟩
  · cases hg
/-! ### max, min of three; of a list -/
def max3G : List D → Option D
  | [.int i, .int j, .int k] => some (.int (max (max i j) k))
  | _ => none
def min3G : List D → Option D
  | [.int i, .int j, .int k] => some (.int (min (min i j) k))
  | _ => none
theorem nuMax2_int {i j : Int} : nuMax2 (.int i) (.int j) = some (.int (max i j)) := by
  show some (if decide (i < j) = true then V.int j else V.int i) = _
  by_cases h : i < j
  · rw [if_pos (decide_eq_true h), Int.max_eq_right (by omega)]
  · rw [if_neg (by simpa using h), Int.max_eq_left (by omega)]
theorem nuMin2_int {i j : Int} : nuMin2 (.int i) (.int j) = some (.int (min i j)) := by
  show some (if decide (j < i) = true then V.int j else V.int i) = _
  by_cases h : j < i
  · rw [if_pos (decide_eq_true h), Int.min_eq_right (by omega)]
  · rw [if_neg (by simpa using h), Int.min_eq_left (by omega)]
theorem max3_ok {K : PySem.W.Frag} : OpN K (rNuC3 nuMax3) max3G := by
  intro H xs ds Q dr hx hg q
  unfold max3G at hg
  split at hg
  · rename_i i j k
    match hx with
    | .cons ⟨f, hx⟩ (.cons ⟨g, hy⟩ (.cons ⟨h, hz⟩ .nil)) =>
      cases hg
      have := hx.intR; subst this
      have := hy.intR; subst this
      have := hz.intR; subst this
      refine ⟨_, _, _, _, rfl, ?_, q _ _ fresh_int⟩
      show (nuMax2 (.int i) (.int j)).bind _ = _
      rw [nuMax2_int]
      exact nuMax2_int
  · cases hg
theorem min3_ok {K : PySem.W.Frag} : OpN K (rNuC3 nuMin3) min3G := by
  intro H xs ds Q dr hx hg q
  unfold min3G at hg
  split at hg
  · rename_i i j k
    match hx with
    | .cons ⟨f, hx⟩ (.cons ⟨g, hy⟩ (.cons ⟨h, hz⟩ .nil)) =>
      cases hg
      have := hx.intR; subst this
      have := hy.intR; subst this
      have := hz.intR; subst this
      refine ⟨_, _, _, _, rfl, ?_, q _ _ fresh_int⟩
      show (nuMin2 (.int i) (.int j)).bind _ = _
      rw [nuMin2_int]
      exact nuMin2_int
  · cases hg
def maxL : List Int → Int
  | [] => 0
  | x :: xs => xs.foldl max x
def minL : List Int → Int
  | [] => 0
  | x :: xs => xs.foldl min x
theorem maxL_fold : ∀ (xs : List Int) (x : Int), x ≤ xs.foldl max x ∧ (∀ y ∈ xs, y ≤ xs.foldl max x) ∧ (xs.foldl max x = x ∨ xs.foldl max x ∈ xs)
  | [], x => ⟨Int.le_refl _, (fun _ h => nomatch h), .inl rfl⟩
  | z :: xs, x => by
    obtain ⟨h1, h2, h3⟩ := maxL_fold xs (max x z)
    rw [List.foldl_cons]
    refine ⟨by omega, fun y hy => ?_, ?_⟩
    · rcases List.mem_cons.mp hy with rfl | hy
      · omega
      · exact h2 y hy
    · rcases h3 with h3 | h3
      · rw [h3]
        by_cases h : x ≤ z
        · right; rw [Int.max_eq_right h]; exact List.mem_cons_self
        · left; rw [Int.max_eq_left (by omega)]
      · right; exact List.mem_cons_of_mem _ h3
theorem minL_fold : ∀ (xs : List Int) (x : Int), xs.foldl min x ≤ x ∧ (∀ y ∈ xs, xs.foldl min x ≤ y) ∧ (xs.foldl min x = x ∨ xs.foldl min x ∈ xs)
  | [], x => ⟨Int.le_refl _, (fun _ h => nomatch h), .inl rfl⟩
  | z :: xs, x => by
    obtain ⟨h1, h2, h3⟩ := minL_fold xs (min x z)
    rw [List.foldl_cons]
    refine ⟨by omega, fun y hy => ?_, ?_⟩
    · rcases List.mem_cons.mp hy with rfl | hy
      · omega
      · exact h2 y hy
    · rcases h3 with h3 | h3
      · rw [h3]
        by_cases h : x ≤ z
        · left; rw [Int.min_eq_left h]
        · right; rw [Int.min_eq_right (by omega)]; exact List.mem_cons_self
      · right; exact List.mem_cons_of_mem _ h3
theorem maxL_is {ns : List Int} {m : Int} (h : m ∈ ns) (h2 : ∀ y ∈ ns, y ≤ m) : m = maxL ns := by
  cases ns with
  | nil => cases h
  | cons x xs =>
    obtain ⟨a, b, c⟩ := maxL_fold xs x
    have u : maxL (x :: xs) ≤ m := by
      show xs.foldl max x ≤ m
      rcases c with c | c
      · rw [c]; exact h2 x List.mem_cons_self
      · exact h2 _ (List.mem_cons_of_mem _ c)
    have l : m ≤ maxL (x :: xs) := by
      show m ≤ xs.foldl max x
      rcases List.mem_cons.mp h with rfl | h
      · exact a
      · exact b m h
    omega
theorem minL_is {ns : List Int} {m : Int} (h : m ∈ ns) (h2 : ∀ y ∈ ns, m ≤ y) : m = minL ns := by
  cases ns with
  | nil => cases h
  | cons x xs =>
    obtain ⟨a, b, c⟩ := minL_fold xs x
    have u : m ≤ minL (x :: xs) := by
      show m ≤ xs.foldl min x
      rcases c with c | c
      · rw [c]; exact h2 x List.mem_cons_self
      · exact h2 _ (List.mem_cons_of_mem _ c)
    have l : minL (x :: xs) ≤ m := by
      show xs.foldl min x ≤ m
      rcases List.mem_cons.mp h with rfl | h
      · exact a
      · exact b m h
    omega
def maxLG : List D → Option D
  | [.lst _ xs] => (intsD xs).bind fun ns => if 0 < ns.length then some (.int (maxL ns)) else none
  | _ => none
def minLG : List D → Option D
  | [.lst _ xs] => (intsD xs).bind fun ns => if 0 < ns.length then some (.int (minL ns)) else none
  | _ => none
theorem maxL_ok {K : PySem.W.Frag} : OpN K (rMax K) maxLG := by
  intro H xs ds Q dr hx hg q
  unfold maxLG at hg
  split at hg
  · match hx with
    | .cons ⟨f, hx⟩ .nil =>
      obtain ⟨ns, e1, e2⟩ := Option.bind_eq_some_iff.mp hg
      obtain ⟨h, rfl⟩ := ite_some e2
      obtain ⟨a, ys, g, rfl, hs, l⟩ := hx.lstR
      have e := intsD_v l e1
      subst e
      exact ⟨a, ns, rfl, hs, h, fun m h1 h2 => by rw [maxL_is h1 h2]; exact q _ _ fresh_int⟩
  · cases hg
theorem minL_ok {K : PySem.W.Frag} : OpN K (rMin K) minLG := by
  intro H xs ds Q dr hx hg q
  unfold minLG at hg
  split at hg
  · match hx with
    | .cons ⟨f, hx⟩ .nil =>
      obtain ⟨ns, e1, e2⟩ := Option.bind_eq_some_iff.mp hg
      obtain ⟨h, rfl⟩ := ite_some e2
      obtain ⟨a, ys, g, rfl, hs, l⟩ := hx.lstR
      have e := intsD_v l e1
      subst e
      exact ⟨a, ns, rfl, hs, h, fun m h1 h2 => by rw [minL_is h1 h2]; exact q _ _ fresh_int⟩
  · cases hg
/-! ### append -/
def kApp2 (i : Nat) (d : D) (ρ : En) : Option D → R D
  | some (.lst true xs) => if xs.length < sizeLine then .ok .non (ρ.set i (some (.lst true (xs ++ [d])))) else .stk
  | _ => .stk
def kApp1 (i : Nat) (d : D) (ρ : En) : R D := kApp2 i d ρ (slot ρ i)
def kApp (i : Nat) (f : FE) (ρ : En) : Option D → R D
  | some (.lst _ _) => (f ρ).bind (kApp1 i)
  | _ => .stk
def fApp (i : Nat) (f : FE) : FE := fun ρ => kApp i f ρ (slot ρ i)
theorem ev_App {i : Nat} {f : FE} {ρ : En} : fApp i f ρ = kApp i f ρ (slot ρ i) := rfl
theorem ev_App0 {i : Nat} {f : FE} {ρ : En} {m : Bool} {xs : List D} : kApp i f ρ (some (.lst m xs)) = (f ρ).bind (kApp1 i) := rfl
theorem ev_App1 {i : Nat} {d : D} {ρ : En} : kApp1 i d ρ = kApp2 i d ρ (slot ρ i) := rfl
theorem ev_App2 {i : Nat} {d : D} {ρ : En} {xs : List D} (h : xs.length < sizeLine) : kApp2 i d ρ (some (.lst true xs)) = .ok .non (ρ.set i (some (.lst true (xs ++ [d])))) := if_pos h
section
variable {X : Cx} {c : Ct} {Ew : Xn → En → Prop} {e : Expr} {pos apos p : Pos} {x : Str}
theorem de_append {f : FE} (i : Nat) (hm : PE X (.Name x p) (tVar i)) (h : DE X c Ew e f) (hbase : attributeBase (.Name x p) "append" X.env (eval (.Name x p) X.env) = eval (.Name x p) X.env := by rfl)
    (hfew : ((backTo pos (starEach [e] X.env)).all (fun x => !x.1) && (backToKw pos (keywordEach [] X.env)).all (fun x => x.1.isSome) && decide ([e].length + ([] : List Keyword).length + (if ([] : List Keyword).isEmpty then 0 else 1) < 30)) = true := by rfl)
    (hline : (apos.endLine == pos.line) = true := by rfl) (hs : starEach [e] X.env = (false, eval e X.env) :: starEach [] X.env := by rfl) (hplain : (backTo pos (starEach [] X.env)).any (·.1) = false := by rfl) :
    DE X c Ew (.Call (.Attribute (.Name x p) "append" apos) [e] [] pos) (fApp i f) := by
  refine (pe_bm PySem.F.plainAttrs_list PySem.F.slot_list_append PySem.F.type_list_append mt_append hm (pa_cons h pa_nil hs) hbase hfew hline hs hplain).dimp fun σ H Q ⟨ρ, P, rp, q⟩ => ?_
  unfold fApp at q
  cases es : slot ρ i with
  | none => rw [es] at q; exact q.elim
  | some d0 =>
    rw [es] at q
    cases d0 with
    | lst m0 xs0 =>
      rw [ev_App0, R.sat_bind] at q
      obtain ⟨v0, f0, e0, x0⟩ := rp.slot (slot_some es)
      obtain ⟨a, ys, g, rfl, hs, _⟩ := x0.lstR
      refine ⟨.ref a, e0, .inl ⟨rfl, ys, hs⟩, ρ, P, rp, q.imp fun d ρ1 q v H1 r1 => ?_⟩
      rw [ev_App1] at q
      cases e1 : slot ρ1 i with
      | none => rw [e1] at q; exact q.elim
      | some d1 =>
        rw [e1] at q
        cases d1 with
        | lst m xs =>
          cases m with
          | false => exact q.elim
          | true =>
            have q : (if xs.length < sizeLine then R.ok D.non (ρ1.set i (some (.lst true (xs ++ [d])))) else .stk).sat _ Ew := q
            split at q
            · rename_i hz
              obtain ⟨v1, e2, r2⟩ := r1.take (slot_some e1)
              rw [e0] at e2; cases e2
              obtain ⟨zs, h1, h2, r3⟩ := r2.swap.app1
              have r4 := r3.put e0
              rw [List.set_set] at r4
              exact ⟨a, zs, v, rfl, rfl, h1, by omega, q .non _ (r4.push0 .non)⟩
            · exact q.elim
        | _ => exact q.elim
    | _ => exact q.elim
end
end DL

namespace DL
open PySem PySem.Spec PyProof.Rows L2

/-! ### what is shown is short -/
theorem int_shown {i : Int} (h : Bd 1000 i) : (PyData.shown (.int i)).length ≤ 1200 ∧ PyData.showable (.int i) = true := by
  have hl : i.natAbs.log2 < 1000 := log2_lt_of h (by decide)
  constructor
  · show (Str.ofString (toString i)).length ≤ 1200
    have h1 := PySem.int_text_length_le (k := 1000) (by decide) hl
    have h2 : (Str.ofString (toString i)).length = (toString i).length := by
      rw [Str.ofString_eq_toList]
      show ((toString i).toList.map Char.toNat).toArray.size = _
      rw [List.size_toArray, List.length_map, String.length_toList]
    omega
  · exact decide_eq_true (Nat.lt_trans hl (by decide))
theorem repr_gen {d : D} {p : PyData} (h : d.py = some p) (h1 : p.showable = true) (h2 : p.leavesShort 1200 = true) (h3 : p.bulk ≤ 10000) (h4 : p.depth ≤ 64) : reprG [d] = some (.str p.shown) := by
  refine repr_at h h1 ?_ h4
  have := PyData.shown_le_bulk 1200 (by decide) p h2
  have hz : (1200 + 2) * 10000 + 1200 ≤ sizeLine := by decide
  have : (1200 + 2) * p.bulk ≤ (1200 + 2) * 10000 := Nat.mul_le_mul_left _ h3
  omega
theorem ints_parts : ∀ ns : List Int, (∀ n ∈ ns, Bd 1000 n) → PyData.showableAll (ns.map PyData.int) = true ∧ PyData.leavesShortAll 1200 (ns.map PyData.int) = true ∧ PyData.bulkAll (ns.map PyData.int) = ns.length
  | [], _ => ⟨rfl, rfl, rfl⟩
  | n :: ns, h => by
    obtain ⟨a, b, c⟩ := ints_parts ns fun x hx => h x (List.mem_cons_of_mem _ hx)
    obtain ⟨u, v⟩ := int_shown (h n List.mem_cons_self)
    refine ⟨?_, ?_, ?_⟩
    · simp only [List.map_cons, PyData.showableAll, v, a, Bool.and_self]
    · simp only [List.map_cons, PyData.leavesShortAll, PyData.leavesShort, decide_eq_true u, b, Bool.and_self]
    · simp only [List.map_cons, PyData.bulkAll, PyData.bulk, c, List.length_cons]
      omega
theorem repr_ints {m : Bool} {ns : List Int} (h : ∀ n ∈ ns, Bd 1000 n) (hl : ns.length ≤ 10000) : reprG [.lst m (ns.map D.int)] = some (.str (PyData.shown (.list (ns.map PyData.int)))) := by
  obtain ⟨a, b, c⟩ := ints_parts ns h
  refine repr_gen (p := .list (ns.map PyData.int)) ?_ (by simpa only [PyData.showable] using a) (by simpa only [PyData.leavesShort] using b) (by simpa only [PyData.bulk, c] using hl) ?_
  · show (D.pyL (ns.map D.int)).map PyData.list = _
    rw [py_ints]; rfl
  · show PyData.depthAll (ns.map PyData.int) + 1 ≤ 64
    rw [depth_flat _ (fun p hp => by obtain ⟨i, _, rfl⟩ := List.mem_map.mp hp; rfl)]; decide
theorem repr_tup_ints {ns : List Int} (h : ∀ n ∈ ns, Bd 1000 n) (hl : ns.length ≤ 10000) : reprG [.tup (ns.map D.int)] = some (.str (PyData.shown (.tuple (ns.map PyData.int)))) := by
  obtain ⟨a, b, c⟩ := ints_parts ns h
  refine repr_gen (p := .tuple (ns.map PyData.int)) ?_ (by simpa only [PyData.showable] using a) (by simpa only [PyData.leavesShort] using b) (by simpa only [PyData.bulk, c] using hl) ?_
  · show (D.pyL (ns.map D.int)).map PyData.tuple = _
    rw [py_ints]; rfl
  · show PyData.depthAll (ns.map PyData.int) + 1 ≤ 64
    rw [depth_flat _ (fun p hp => by obtain ⟨i, _, rfl⟩ := List.mem_map.mp hp; rfl)]; decide
/-! ### small lemmas on subscripts -/
theorem ix_lst {m : Bool} {xs : List D} {j : Nat} {d : D} (h : xs[j]? = some d) (hf : d.isF = true) : ixD (.lst m xs) (.int (j : Int)) = some d := by
  show (atI xs (j : Int)).bind _ = _
  rw [atI_nat, h]
  show (if d.isF = true then some d else none) = _
  rw [if_pos hf]
theorem ix_tup {xs : List D} {j : Nat} {d : D} (h : xs[j]? = some d) (hf : d.isF = true) : ixD (.tup xs) (.int (j : Int)) = some d := by
  show (atI xs (j : Int)).bind _ = _
  rw [atI_nat, h]
  show (if d.isF = true then some d else none) = _
  rw [if_pos hf]
theorem sl_tup {xs : List D} {lo hi : Option Int} (h : D.isFL xs = true) : slD (.tup xs) lo hi = some (.tup (cutL xs lo hi)) := if_pos h
theorem sl_lst {m : Bool} {xs : List D} {lo hi : Option Int} (h : D.isFL xs = true) : slD (.lst m xs) lo hi = some (.lst true (cutL xs lo hi)) := if_pos h
theorem items_tup {xs : List D} (h : D.isFL xs = true) : items (.tup xs) = some xs := if_pos h
theorem itemsQ_tup {xs : List D} (h : D.isFL xs = true) : itemsQ (.tup xs) = some xs := if_pos h
theorem itemsQ_lst {xs : List D} (h : D.isFL xs = true) : itemsQ (.lst false xs) = some xs := items_lst h
theorem isFL_rep {x : D} (h : x.isF = true) : ∀ n, D.isFL (List.replicate n x) = true
  | 0 => rfl
  | n + 1 => by rw [List.replicate_succ, isFL_cons, h, isFL_rep h n]; rfl
theorem max2_int {i j : Int} : max2G [.int i, .int j] = some (.int (max i j)) := by
  show some (D.int (if j > i then j else i)) = _
  by_cases h : j > i
  · rw [if_pos h, Int.max_eq_right (by omega)]
  · rw [if_neg h, Int.max_eq_left (by omega)]
theorem min2_int {i j : Int} : min2G [.int i, .int j] = some (.int (min i j)) := by
  show some (D.int (if j < i then j else i)) = _
  by_cases h : j < i
  · rw [if_pos h, Int.min_eq_right (by omega)]
  · rw [if_neg h, Int.min_eq_left (by omega)]
theorem max3_int {i j k : Int} : max3G [.int i, .int j, .int k] = some (.int (max (max i j) k)) := rfl
theorem maxLG_ints {m : Bool} {ns : List Int} (h : 0 < ns.length) : maxLG [.lst m (ns.map D.int)] = some (.int (maxL ns)) := by
  show (intsD (ns.map D.int)).bind _ = _
  rw [intsD_map]
  exact if_pos h
theorem minLG_ints {m : Bool} {ns : List Int} (h : 0 < ns.length) : minLG [.lst m (ns.map D.int)] = some (.int (minL ns)) := by
  show (intsD (ns.map D.int)).bind _ = _
  rw [intsD_map]
  exact if_pos h
theorem sumG_ints {m : Bool} {ns : List Int} : sumG [.lst m (ns.map D.int)] = some (.int ns.sum) := by
  show (intsD (ns.map D.int)).map _ = _
  rw [intsD_map]; rfl
theorem addD_lst {m m' : Bool} {xs ys : List D} (h : xs.length + ys.length ≤ sizeLine) (hx : D.isFL xs = true) (hy : D.isFL ys = true) : addD (.lst m xs) (.lst m' ys) = some (.lst true (xs ++ ys)) := if_pos ⟨h, hx, hy⟩
theorem addD_tup {xs ys : List D} (h : xs.length + ys.length ≤ sizeLine) (hx : D.isFL xs = true) (hy : D.isFL ys = true) : addD (.tup xs) (.tup ys) = some (.tup (xs ++ ys)) := if_pos ⟨h, hx, hy⟩
theorem tmul_of {xs : List D} {k : Int} (h : xs ≠ [] ∧ 1 ≤ k ∧ k ≤ 1000 ∧ xs.length ≤ 1000 ∧ D.isFL xs = true) : tmulD (.tup xs) (.int k) = some (.tup (repL k.toNat xs)) := if_pos h
theorem rep_one {x : D} : ∀ k : Nat, repL k [x] = List.replicate k x
  | 0 => rfl
  | k + 1 => by
    show (List.replicate (k + 1) [x]).flatten = _
    rw [List.replicate_succ, List.flatten_cons, List.replicate_succ]
    show x :: (List.replicate k [x]).flatten = _
    rw [show (List.replicate k [x]).flatten = List.replicate k x from rep_one k]
theorem ixN_last {n : Nat} : ixN (n + 1) (-1) = some n := by
  unfold ixN
  rw [if_neg (by decide), if_pos (by omega)]
  congr 1
  omega
theorem rangeL_n {lo : Int} {n : Nat} : (rangeL lo n).length = n := by simp [rangeL]
theorem rangeL_get {lo : Int} {n i : Nat} {d : D} (h : (rangeL lo n)[i]? = some d) : i < n ∧ d = .int (lo + (i : Nat)) := by
  have hi : i < n := by
    have := (List.getElem?_eq_some_iff.mp h).1
    rwa [rangeL_n] at this
  refine ⟨hi, ?_⟩
  simp [rangeL, hi] at h
  exact h.symm
theorem big62_at {i : Int} (h : 0 ≤ i) (h2 : i ≤ 1000000) : big62 i := ⟨by omega, by omega⟩
theorem sz1000 {n : Nat} (h : n ≤ 1000) : n ≤ sizeLine := Nat.le_trans h (by decide)
end DL

namespace DL
open PySem PySem.Spec PyProof.Rows L2

/-! ### a comprehension with two for -/
/-- the items made by one with two for -/
def lc2F (vs : List Nat) (g : FG) (ft : FB) (vs1 : List Nat) (fi1 : FI) (g1 : FG) (ft1 : FB) (fe : FE) : List D → Nat → En → R (List D)
  | [], _, ρ => .ok [] ρ
  | d :: ds, n, ρ => match g d ρ with
    | none => .stk
    | some ρ1 => (ft ρ1).bind fun b ρ2 => if b then (fi1 ρ2).bind fun ds1 ρ3 => (lcF vs1 g1 ft1 fe ds1 n (wipeD ρ3 vs1)).bind fun ys ρ4 => (lc2F vs g ft vs1 fi1 g1 ft1 fe ds (n + ys.length) (wipeD (restD ρ3 vs1 ρ4) vs)).bind fun zs ρ5 => .ok (ys ++ zs) ρ5
      else lc2F vs g ft vs1 fi1 g1 ft1 fe ds n (wipeD ρ2 vs)
def fLc2 (vs : List Nat) (fi : FI) (g : FG) (ft : FB) (vs1 : List Nat) (fi1 : FI) (g1 : FG) (ft1 : FB) (fe : FE) : FE := fun ρ => (fi ρ).bind fun ds ρ1 => (lc2F vs g ft vs1 fi1 g1 ft1 fe ds 0 (wipeD ρ1 vs)).nox.bind fun ys ρ2 => .ok (.lst true ys) (restD ρ1 vs ρ2)
theorem drop_at {α : Type} {ds : List α} {i : Nat} {d : α} (hlt : i < ds.length) (e1 : ds[i]? = some d) : ds.drop i = d :: ds.drop (i + 1) := by
  rw [List.drop_eq_getElem_cons hlt]
  rw [List.getElem?_eq_getElem hlt] at e1
  cases e1; rfl
section
variable (K : PySem.W.Frag) (Z : List Nat)
def aG (g : FG) : TG := fun v σ H Q => ∃ c' : Ct, c'.Z = Z ∧ rdG K c' g v σ H Q
def aT (f : FB) : TT := fun σ H Q => ∃ c' : Ct, c'.Z = Z ∧ rdT K c' NoX f σ H Q
def aE (f : FE) : TE := fun σ H Q => ∃ c' : Ct, c'.Z = Z ∧ rdE K c' NoX f σ H Q
end
theorem rd_lc2 {K : PySem.W.Frag} {c : Ct} {Ew : Xn → En → Prop} {vs vs1 : List Nat} {fi fi1 : FI} {g g1 : FG} {ft ft1 : FB} {fe : FE} {σ : L2.St} {H : Hp} {Q : VK} {n : Nat} (hn : σ.length = n) (h : rdE K c Ew (fLc2 vs fi g ft vs1 fi1 g1 ft1 fe) σ H Q) :
    tLc2 (rdI K c Ew fi) (rdG K (c.blk n vs σ) g) (rdT K (c.blk n vs σ) NoX ft) (rdI K (c.blk n vs σ) NoX fi1) (aG K (zOf n vs1) g1) (aT K (zOf n vs1) ft1) (aE K (zOf n vs1) fe) vs vs1 σ H Q := by
  obtain ⟨ρ, P, rp, q⟩ := h
  unfold fLc2 at q
  rw [R.sat_bind] at q
  refine ⟨ρ, P, rp, q.imp fun ds ρ1 q J H1 src r1 wk A hA => ?_⟩
  rw [R.sat_bind] at q
  have q := R.nox_sat (ex' := NoX) q
  have r2 : Rp K c σ (upd H1 A (.lst [])) ρ1 ((.lst true [], .ref A) :: (src ++ P)) := Rp.fresh r1 ⟨upd_ext hA, [A], .olst (by simp [upd]) .nil, by simp, fun a z => by rw [List.mem_singleton.mp z]; exact hA⟩
  obtain ⟨Ps, r3, back⟩ := r2.block n vs
  refine ⟨fun i m H => m = ds.length - i ∧ i ≤ ds.length ∧ ∃ acc ρ, Rp K (c.blk n vs σ) (wipe σ vs) H ρ (Ps ++ ((.lst true acc, .ref A) :: (src ++ P))) ∧
      (lc2F vs g ft vs1 fi1 g1 ft1 fe (ds.drop i) acc.length ρ).sat (fun ys ρ2 => ∀ v H', Rp K c σ H' (restD ρ1 vs ρ2) ((.lst true (acc ++ ys), v) :: P) → Q v H') NoX, ⟨_, rfl, Nat.zero_le _, [], _, r3, q⟩, ?_⟩
  rintro i m H ⟨rfl, hi, acc, ρ, r, q⟩
  have ok : SrcOk K H src := fun p hp => Rp.mem (List.mem_append_right _ (List.mem_cons_of_mem _ (List.mem_append_left _ hp))) r
  obtain ⟨w1, w2, w3⟩ := wk H ok
  by_cases hlt : i < ds.length
  · refine .inr ⟨w1 i hlt, fun H' => ∃ acc ρ, Rp K (c.blk n vs σ) (wipe σ vs) H' ρ (Ps ++ ((.lst true acc, .ref A) :: (src ++ P))) ∧
      (lc2F vs g ft vs1 fi1 g1 ft1 fe (ds.drop (i + 1)) acc.length ρ).sat (fun ys ρ2 => ∀ v H', Rp K c σ H' (restD ρ1 vs ρ2) ((.lst true (acc ++ ys), v) :: P) → Q v H') NoX, fun H' h' => ⟨ds.length - (i + 1), by omega, rfl, hlt, h'⟩, fun x H' yl => ?_⟩
    obtain ⟨d, e1, fr⟩ := w3 i x H' hlt yl
    rw [drop_at hlt e1] at q
    unfold lc2F at q
    cases eg : g d ρ with
    | none => rw [eg] at q; exact q.elim
    | some ρ1' =>
      rw [eg] at q
      refine ⟨d, ρ, _, Rp.fresh r fr, ρ1', eg, fun σ2 H2 r2 => ?_⟩
      have ew := blk_back hn r2.zs
      have hn2 : σ2.length = n := by
        have := r2.zs.1
        exact (this.trans (wipe_length σ vs)).trans hn
      refine ⟨ew, ρ1', _, r2, ?_⟩
      have q : ((ft ρ1').bind fun b ρ2 => if b then (fi1 ρ2).bind fun ds1 ρ3 => (lcF vs1 g1 ft1 fe ds1 acc.length (wipeD ρ3 vs1)).bind fun ys ρ4 => (lc2F vs g ft vs1 fi1 g1 ft1 fe (ds.drop (i + 1)) (acc.length + ys.length) (wipeD (restD ρ3 vs1 ρ4) vs)).bind fun zs ρ5 => .ok (ys ++ zs) ρ5
        else lc2F vs g ft vs1 fi1 g1 ft1 fe (ds.drop (i + 1)) acc.length (wipeD ρ2 vs)).sat _ NoX := q
      rw [R.sat_bind] at q
      refine q.imp fun b ρ2 q H3 r3 => ?_
      cases b with
      | false =>
        simp only [Bool.false_eq_true, if_false] at q ⊢
        exact ⟨acc, _, r3.wiped ew, q⟩
      | true =>
        simp only [if_true] at q ⊢
        rw [R.sat_bind] at q
        refine ⟨ρ2, _, r3, q.imp fun ds1 ρ3 q J1 H4 src1 r4 wk1 => ?_⟩
        rw [R.sat_bind] at q
        obtain ⟨Ps1, r5, back1⟩ := r4.block n vs1
        refine ⟨fun j k H => k = ds1.length - j ∧ j ≤ ds1.length ∧ ∃ ac ρ, Rp K ((c.blk n vs σ).blk n vs1 σ2) (wipe σ2 vs1) H ρ (Ps1 ++ (src1 ++ (Ps ++ ((.lst true ac, .ref A) :: (src ++ P))))) ∧
          (lcF vs1 g1 ft1 fe (ds1.drop j) ac.length ρ).sat (fun ys ρ4 => (lc2F vs g ft vs1 fi1 g1 ft1 fe (ds.drop (i + 1)) (ac.length + ys.length) (wipeD (restD ρ3 vs1 ρ4) vs)).sat (fun zs ρ5 => ∀ v H', Rp K c σ H' (restD ρ1 vs ρ5) ((.lst true (ac ++ ys ++ zs), v) :: P) → Q v H') NoX) NoX, ⟨_, rfl, Nat.zero_le _, acc, _, r5, ?_⟩, ?_⟩
        · refine q.imp fun ys ρ4 q => ?_
          rw [R.sat_bind] at q
          refine q.imp fun zs ρ5 q v H' r' => q v H' ?_
          rw [← List.append_assoc]; exact r'
        rintro j k H ⟨rfl, hj, ac, ρ, r, q⟩
        have ok1 : SrcOk K H src1 := fun p hp => Rp.mem (List.mem_append_right _ (List.mem_append_left _ hp)) r
        obtain ⟨v1, v2, v3⟩ := wk1 H ok1
        by_cases hjt : j < ds1.length
        · refine .inr ⟨v1 j hjt, fun H' => ∃ ac ρ, Rp K ((c.blk n vs σ).blk n vs1 σ2) (wipe σ2 vs1) H' ρ (Ps1 ++ (src1 ++ (Ps ++ ((.lst true ac, .ref A) :: (src ++ P))))) ∧
            (lcF vs1 g1 ft1 fe (ds1.drop (j + 1)) ac.length ρ).sat (fun ys ρ4 => (lc2F vs g ft vs1 fi1 g1 ft1 fe (ds.drop (i + 1)) (ac.length + ys.length) (wipeD (restD ρ3 vs1 ρ4) vs)).sat (fun zs ρ5 => ∀ v H', Rp K c σ H' (restD ρ1 vs ρ5) ((.lst true (ac ++ ys ++ zs), v) :: P) → Q v H') NoX) NoX, fun H' h' => ⟨ds1.length - (j + 1), by omega, rfl, hjt, h'⟩, fun x H' yl => ?_⟩
          obtain ⟨d1, f1, fr1⟩ := v3 j x H' hjt yl
          rw [drop_at hjt f1] at q
          unfold lcF at q
          cases eg1 : g1 d1 ρ with
          | none => rw [eg1] at q; exact q.elim
          | some ρ1'' =>
            rw [eg1] at q
            refine ⟨(c.blk n vs σ).blk n vs1 σ2, rfl, d1, ρ, _, Rp.fresh r fr1, ρ1'', eg1, fun σ3 H5 r6 => ?_⟩
            have ew1 := blk_back hn2 r6.zs
            refine ⟨ew1, (c.blk n vs σ).blk n vs1 σ2, rfl, ρ1'', _, r6, ?_⟩
            have q : ((ft1 ρ1'').bind fun b ρ2 => if b then (fe ρ2).bind fun y ρ3 => if ac.length < sizeLine then (lcF vs1 g1 ft1 fe (ds1.drop (j + 1)) (ac.length + 1) (wipeD ρ3 vs1)).bind fun ys ρ4 => .ok (y :: ys) ρ4 else .stk
              else lcF vs1 g1 ft1 fe (ds1.drop (j + 1)) ac.length (wipeD ρ2 vs1)).sat _ NoX := q
            rw [R.sat_bind] at q
            refine q.imp fun b ρ7 q H6 r7 => ?_
            cases b with
            | false =>
              simp only [Bool.false_eq_true, if_false] at q ⊢
              exact ⟨ac, _, r7.wiped ew1, q⟩
            | true =>
              simp only [if_true] at q ⊢
              rw [R.sat_bind] at q
              refine ⟨(c.blk n vs σ).blk n vs1 σ2, rfl, ρ7, _, r7, q.imp fun y ρ8 q yv H7 r8 => ?_⟩
              split at q
              · rename_i hz
                have r9 : Rp K ((c.blk n vs σ).blk n vs1 σ2) σ3 H7 ρ8 ((y, yv) :: (.lst true ac, .ref A) :: ((Ps1 ++ (src1 ++ Ps)) ++ (src ++ P))) := by
                  refine r8.perm (.cons _ ?_)
                  have := List.perm_middle (a := ((D.lst true ac, V.ref A) : D × V)) (l₁ := Ps1 ++ (src1 ++ Ps)) (l₂ := src ++ P)
                  simpa [List.append_assoc] using this
                obtain ⟨xs, h1, h2, r10⟩ := r9.app1
                refine ⟨xs, h1, by omega, ac ++ [y], _, (r10.perm ?_).wiped ew1, ?_⟩
                · have := (List.perm_middle (a := ((D.lst true (ac ++ [y]), V.ref A) : D × V)) (l₁ := Ps1 ++ (src1 ++ Ps)) (l₂ := src ++ P)).symm
                  simpa [List.append_assoc] using this
                · rw [R.sat_bind] at q
                  rw [List.length_append]
                  refine q.imp fun ys ρ4 q => ?_
                  have e : ac.length + (y :: ys).length = ac.length + [y].length + ys.length := by simp only [List.length_cons, List.length_nil]; omega
                  rw [← e]
                  refine R.sat.imp q fun zs ρ5 q v H' r' => q v H' ?_
                  simpa using r'
              · exact q.elim
        · have e : j = ds1.length := by omega
          subst e
          rw [List.drop_length] at q
          have q : (lc2F vs g ft vs1 fi1 g1 ft1 fe (ds.drop (i + 1)) (ac.length + 0) (wipeD (restD ρ3 vs1 ρ) vs)).sat (fun zs ρ5 => ∀ v H', Rp K c σ H' (restD ρ1 vs ρ5) ((.lst true (ac ++ [] ++ zs), v) :: P) → Q v H') NoX := q
          have r11 := back1 _ _ _ r
          refine .inl ⟨v2, ac, _, (Rp.pops r11).wiped ew, ?_⟩
          simpa using q
  · have e : i = ds.length := by omega
    subst e
    rw [List.drop_length] at q
    refine .inl ⟨w2, q (.ref A) H ?_⟩
    have r4 := back _ _ _ r
    rw [List.append_nil]
    exact r4.under
section
variable {X : Cx} {c : Ct} {Ew : Xn → En → Prop} {elt tg iter tg1 iter1 : Expr} {ifs ifs1 : List Expr} {scope : Scope} {own : List (Str × Nat)} {vs1 : List Nat} {pos : Pos} {fi fi1 : FI} {g g1 : FG} {ft ft1 : FB} {fe : FE}
/-- [e for target in iter if .. for target in iter if ..] as a value; in the block nothing may raise -/
theorem de_lc2 (n : Nat) (hc : X.calm = true) (hN : X.N.Nodup) (hn : X.N.length = n) (hi : DI X c Ew tg iter fi) (ok : BlkOk X.N X.env.scope scope own) (hv : ∀ i ∈ vs1, i ∈ own.map (·.2))
    (hg : ∀ c' : Ct, c'.Z = zOf n (own.map (·.2)) → ∀ (s : Shared) (H : Hp) (C : Addr) (cl : List (Str × Addr)) (fp : List Addr), DG (X.blk s H scope (compEnvC scope cl C X.env) fp) c' tg g)
    (ht : ∀ c' : Ct, c'.Z = zOf n (own.map (·.2)) → ∀ (s : Shared) (H : Hp) (C : Addr) (cl : List (Str × Addr)) (fp : List Addr), DTs (X.blk s H scope (compEnvC scope cl C X.env) fp) c' NoX ifs ft)
    (hi1 : ∀ c' : Ct, c'.Z = zOf n (own.map (·.2)) → ∀ (s : Shared) (H : Hp) (C : Addr) (cl : List (Str × Addr)) (fp : List Addr), DI (X.blk s H scope (compEnvC scope cl C X.env) fp) c' NoX tg1 iter1 fi1)
    (hg1 : ∀ c' : Ct, c'.Z = zOf n vs1 → ∀ (s : Shared) (H : Hp) (C : Addr) (cl : List (Str × Addr)) (fp : List Addr), DG (X.blk s H scope (compEnvC scope cl C X.env) fp) c' tg1 g1)
    (ht1 : ∀ c' : Ct, c'.Z = zOf n vs1 → ∀ (s : Shared) (H : Hp) (C : Addr) (cl : List (Str × Addr)) (fp : List Addr), DTs (X.blk s H scope (compEnvC scope cl C X.env) fp) c' NoX ifs1 ft1)
    (he : ∀ c' : Ct, c'.Z = zOf n vs1 → ∀ (s : Shared) (H : Hp) (C : Addr) (cl : List (Str × Addr)) (fp : List Addr), DE (X.blk s H scope (compEnvC scope cl C X.env) fp) c' NoX elt fe)
    (hs : ∀ x, foldedSetIterable iter X.env x = pure x := by intro _; rfl) (hs1 : ∀ env x, foldedSetIterable iter1 env x = pure x := by intro _ _; rfl) :
    DE X c Ew (.ListComp elt [⟨tg, iter, ifs, 0⟩, ⟨tg1, iter1, ifs1, 0⟩] scope pos) (fLc2 (own.map (·.2)) fi g ft vs1 fi1 g1 ft1 fe) :=
  ⟨fun pins s σ H Q I h => (pe_lc2 (vs1 := vs1) hc hN hi ok hv (hg (c.blk n (own.map (·.2)) σ) rfl) (ht (c.blk n (own.map (·.2)) σ) rfl) (hi1 (c.blk n (own.map (·.2)) σ) rfl)
    (fun s H C cl fp => ⟨fun pins s' σ' H' v u D I' rv ⟨c', hz, h⟩ => (hg1 c' hz s H C cl fp).run pins s' σ' H' v u D I' rv h⟩)
    (fun s H C cl fp => ⟨fun pins s' σ' H' Q' I' ⟨c', hz, h⟩ => (ht1 c' hz s H C cl fp).run pins s' σ' H' Q' I' h⟩)
    (fun s H C cl fp => ⟨fun pins s' σ' H' Q' I' ⟨c', hz, h⟩ => (he c' hz s H C cl fp).run pins s' σ' H' Q' I' h⟩) hs hs1).run pins s σ H Q I (rd_lc2 (I.len.trans hn) h)⟩
end
end DL

namespace DL
open PySem PySem.Spec PyProof.Rows L2

section
variable {X : Cx} {c : Ct} {Ew : Xn → En → Prop} {st : Stmt}
/-- what is stored is frozen at once -/
theorem ds_fzs {f : FE} (i : Nat) (h : DS X c Ew st (fSet i f)) : DS X c Ew st (fSet i (fFz f)) := by
  refine ⟨fun pins s σ H Z I ⟨ρ, P, r, q⟩ => ?_⟩
  refine thn (h.run pins s σ H ⟨fun σ' H' => ∃ (ρ' : En) (d : D), Rp X.K c σ' H' (ρ'.set i (some d)) P ∧ ∀ σ H, Rp X.K c σ H (ρ'.set i (some d.frz)) P → Z.nx σ H, Z.rt, Z.bk, Z.ct⟩ I ⟨ρ, P, r, ?_⟩) fun fl s' hs => ?_
  · unfold fSet fFz at q
    unfold fSet
    cases e : f ρ with
    | ok d ρ' =>
      rw [e] at q
      exact fun σ' H' r' => ⟨ρ', d, r', q⟩
    | exc x ρ' => rw [e] at q; exact q
    | stk => rw [e] at q; exact q.elim
  · cases fl with
    | next =>
      obtain ⟨σ', H', J, ρ', d, r', q'⟩ := hs
      by_cases hi : i < ρ'.length
      · have e : (ρ'.set i (some d))[i]? = some (some d) := by simp [hi]
        obtain ⟨v, H2, e1, J2, r2⟩ := Rp.load J r' e
        rw [List.set_set] at r2
        exact ⟨σ', H2, J2, q' σ' H2 r2.pop⟩
      · have e : ∀ x : Option D, ρ'.set i x = ρ' := fun x => List.set_eq_of_length_le (by omega)
        rw [e] at r'
        exact ⟨σ', H', J, q' σ' H' (by rw [e]; exact r')⟩
    | ret u => exact hs
    | brk => exact hs
    | cont => exact hs
end
/-- += of ints and texts -/
def iaddA : D → D → Option D
  | .int i, .int j => some (.int (i + j))
  | .str i, .str j => if i.length + j.length ≤ sizeLine then some (.str (i ++ j)) else none
  | _, _ => none
def rIaddA : R2 := fun x y H Q => rI0 (fun i j => .int (i + j)) x y H Q ∨ (∃ i j, x = .str i ∧ y = .str j ∧ i.length + j.length ≤ sizeLine ∧ Q (.str (i ++ j)) H)
theorem ior_add {X : Cx} : OpR X (inplaceOp .Add) rIaddA := iop_add.or iop_add_str
theorem iaddA_ok {K : PySem.W.Frag} : Op2 K rIaddA iaddA := by
  intro H x y d e f1 f2 Q dr hx hy hg q
  cases d with
  | int i =>
    cases e with
    | int j => cases hg; exact .inl ⟨i, j, hx.intR, hy.intR, q _ _ fresh_int⟩
    | _ => cases hg
  | str i =>
    cases e with
    | str j =>
      obtain ⟨h, rfl⟩ := ite_some hg
      exact .inr ⟨i, j, hx.strR, hy.strR, h, q _ _ fresh_str⟩
    | _ => cases hg
  | _ => cases hg
theorem isub_ok {K : PySem.W.Frag} : Op2 K (rI0 fun i j => .int (i - j)) subD := sub_ok
/-! ### a text times an int -/
def repS (z : Str) (n : Int) : Str := if n < 1 then Str.empty else if (n == 1 || z.length == 0) = true then z else ⟨(List.replicate n.toNat z.cps).foldl (· ++ ·) #[]⟩
def smulD : D → D → Option D
  | .str z, .int n => if -(2 ^ 63) ≤ n ∧ n < 2 ^ 63 ∧ z.length * n.toNat ≤ 16777216 then some (.str (repS z n)) else none
  | _, _ => none
def rSmul : R2 := fun x y H Q => ∃ z n, x = .str z ∧ y = .int n ∧ -(2 ^ 63) ≤ n ∧ n < 2 ^ 63 ∧ z.length * n.toNat ≤ 16777216 ∧ Q (.str (repS z n)) H
theorem rep_size (a : Array Nat) (k : Nat) : ((List.replicate k a).foldl (· ++ ·) #[]).size = a.size * k := by
  have key : ∀ (k : Nat) (b : Array Nat), ((List.replicate k a).foldl (· ++ ·) b).size = b.size + a.size * k := fun k => by
    induction k with
    | zero => intro b; simp
    | succ k ih =>
      intro b
      rw [List.replicate_succ, List.foldl_cons, ih, Array.size_append, Nat.mul_succ]
      omega
  rw [key]; simp
theorem op_smul {X : Cx} : OpR X (binaryOp .Mult) rSmul := by
  intro pins s σ H x y v u Q I rx ry h
  obtain ⟨z, n, rfl, rfl, h1, h2, hz, q⟩ := h
  obtain ⟨t, rfl⟩ := rx
  obtain ⟨t', rfl⟩ := ry
  refine PySem.P.mul_str ?_ ?_ ?_ ?_
  · rw [decide_eq_false (by omega), decide_eq_false (by omega)]; rfl
  · intro n1 _ hb
    have hn : (n.toNat : Int) = n := Int.toNat_of_nonneg (by omega)
    have h3 : (z.length : Int) * n ≤ 16777216 := by
      have h0 : ((z.length * n.toNat : Nat) : Int) ≤ 16777216 := by omega
      rw [Int.natCast_mul, hn] at h0; exact h0
    have h4 : (2 ^ 63 - 1) / n * n ≤ 2 ^ 63 - 1 := Int.ediv_mul_le _ (by omega)
    have h5 : ((2 ^ 63 - 1) / n + 1) * n ≤ (z.length : Int) * n := Int.mul_le_mul_of_nonneg_right (by omega) (by omega)
    have h6 := Int.lt_ediv_add_one_mul_self (2 ^ 63 - 1) (show 0 < n by omega)
    omega
  · intro _ _
    unfold Builtin.Str.tooLong
    have hsz : sizeLine = 16777216 := rfl
    exact decide_eq_false (by omega)
  · unfold repS at q
    by_cases n1 : n < 1
    · rw [if_pos n1] at q ⊢
      exact ⟨by decide, .str Str.empty, H, I.tok _, ⟨_, rfl⟩, q⟩
    · rw [if_neg n1] at q ⊢
      by_cases n2 : (n == 1 || z.length == 0) = true
      · rw [if_pos n2] at q ⊢
        exact ⟨.str z, H, I, ⟨_, rfl⟩, q⟩
      · rw [if_neg n2] at q ⊢
        exact ⟨by show Array.size _ ≤ sizeLine; rw [rep_size]; exact hz, .str _, H, I.tok _, ⟨_, rfl⟩, q⟩
theorem smul_ok {K : PySem.W.Frag} : Op2 K rSmul smulD := by
  intro H x y d e f1 f2 Q dr hx hy hg q
  cases d with
  | str i =>
    cases e with
    | int j =>
      obtain ⟨h, rfl⟩ := ite_some hg
      exact ⟨i, j, hx.strR, hy.intR, h.1, h.2.1, h.2.2, q _ _ fresh_str⟩
    | _ => cases hg
  | _ => cases hg
end DL
namespace DL
open PySem PySem.Spec PyProof.Rows L2
/-- * of any kinds -/
def mulA (d e : D) : Option D := match d with
  | .tup _ => tmulD d e
  | .str _ => smulD d e
  | _ => mulD d e
def rMulA (K : PySem.W.Frag) : R2 := fun x y H Q => rMul K x y H Q ∨ rTMul K x y H Q ∨ rSmul x y H Q
theorem or_mulA {X : Cx} : OpR X (binaryOp .Mult) (rMulA X.K) := or_mul.or (or_tmul.or op_smul)
theorem mulA_ok {K : PySem.W.Frag} : Op2 K (rMulA K) mulA := by
  intro H x y d e f1 f2 Q dr hx hy hg q
  cases d with
  | tup xs => exact .inr (.inl (tmul_ok H x y _ e f1 f2 Q dr hx hy hg q))
  | str z => exact .inr (.inr (smul_ok H x y _ e f1 f2 Q dr hx hy hg q))
  | _ => exact .inl (mul_ok H x y _ e f1 f2 Q dr hx hy hg q)
end DL

/-! sorted: of ints and of texts, of any length -/
namespace DL
open PySem PySem.Spec PyProof.Rows L2

section
variable {α : Type}
def insL (le : α → α → Bool) (a : α) : List α → List α
  | [] => [a]
  | b :: l => if le a b then a :: b :: l else b :: insL le a l
def isort (le : α → α → Bool) : List α → List α
  | [] => []
  | a :: l => insL le a (isort le l)
theorem insL_perm {le : α → α → Bool} {a : α} : ∀ l : List α, (insL le a l).Perm (a :: l)
  | [] => List.Perm.refl _
  | b :: l => by
    unfold insL
    split
    · exact List.Perm.refl _
    · exact (List.Perm.cons b (insL_perm l)).trans (List.Perm.swap a b l)
theorem isort_perm {le : α → α → Bool} : ∀ l : List α, (isort le l).Perm l
  | [] => List.Perm.refl _
  | a :: l => (insL_perm _).trans (List.Perm.cons a (isort_perm l))
structure LeOk (le : α → α → Bool) : Prop where
  tot : ∀ a b, le a b = true ∨ le b a = true
  tr : ∀ a b c, le a b = true → le b c = true → le a c = true
  anti : ∀ a b, le a b = true → le b a = true → a = b
theorem insL_sorted {le : α → α → Bool} (O : LeOk le) {a : α} : ∀ {l : List α}, l.Pairwise (fun x y => le x y = true) → (insL le a l).Pairwise fun x y => le x y = true
  | [], _ => by simp [insL]
  | b :: l, h => by
    unfold insL
    obtain ⟨h1, h2⟩ := List.pairwise_cons.mp h
    split
    · rename_i c
      refine List.pairwise_cons.mpr ⟨fun x hx => ?_, h⟩
      rcases List.mem_cons.mp hx with rfl | hx
      · exact c
      · exact O.tr _ _ _ c (h1 x hx)
    · rename_i c
      refine List.pairwise_cons.mpr ⟨fun x hx => ?_, insL_sorted O h2⟩
      rcases List.mem_cons.mp ((insL_perm l).mem_iff.mp hx) with rfl | hx
      · rcases O.tot x b with q | q
        · exact absurd q c
        · exact q
      · exact h1 x hx
theorem isort_sorted {le : α → α → Bool} (O : LeOk le) : ∀ l : List α, (isort le l).Pairwise fun x y => le x y = true
  | [] => .nil
  | _ :: l => insL_sorted O (isort_sorted O l)
theorem isort_uniq {le : α → α → Bool} (O : LeOk le) {ys xs : List α} (p : ys.Perm xs) (h : ys.Pairwise fun x y => le x y = true) : ys = isort le xs :=
  List.Perm.eq_of_pairwise (le := fun x y => le x y = true) (fun a b _ _ h1 h2 => O.anti a b h1 h2) h (isort_sorted O xs) (p.trans (isort_perm xs).symm)
end
def leI (a b : Int) : Bool := decide (a ≤ b)
def leN (a b : List Nat) : Bool := decide (a ≤ b)
def leS (a b : Str) : Bool := leN a.cps.toList b.cps.toList
theorem leI_ok : LeOk leI := ⟨fun a b => by unfold leI; rw [decide_eq_true_iff, decide_eq_true_iff]; omega, fun a b c => by unfold leI; rw [decide_eq_true_iff, decide_eq_true_iff, decide_eq_true_iff]; omega, fun a b => by unfold leI; rw [decide_eq_true_iff, decide_eq_true_iff]; omega⟩
theorem leN_ok : LeOk leN := ⟨fun a b => by unfold leN; rw [decide_eq_true_iff, decide_eq_true_iff]; exact List.le_total a b, fun a b c => by unfold leN; rw [decide_eq_true_iff, decide_eq_true_iff, decide_eq_true_iff]; exact List.le_trans, fun a b => by unfold leN; rw [decide_eq_true_iff, decide_eq_true_iff]; exact List.le_antisymm⟩
theorem str_ext {a b : Str} (h : a.cps.toList = b.cps.toList) : a = b := by
  obtain ⟨a⟩ := a
  obtain ⟨b⟩ := b
  have : a = b := Array.toList_inj.mp h
  rw [this]
theorem leS_ok : LeOk leS := ⟨fun a b => leN_ok.tot _ _, fun a b c => leN_ok.tr _ _ _, fun a b h1 h2 => str_ext (leN_ok.anti _ _ h1 h2)⟩

def sv : Value → List Nat
  | .str z _ => z.cps.toList
  | _ => []
def ss : Value → Str
  | .str z _ => z
  | _ => Str.empty
def ltSv (v u : Value) : Bool := decide (sv v < sv u)
theorem ltSv_f {v u : Value} : ltSv v u = false ↔ sv u ≤ sv v := by
  unfold ltSv
  rw [decide_eq_false_iff_not, List.not_lt]
theorem swo_str : SrtO.Swo ltSv := by
  refine ⟨fun x y h => ?_, fun x y z h1 h2 => ?_⟩
  · exact decide_eq_false (List.lt_asymm (of_decide_eq_true h))
  · rw [ltSv_f] at *
    exact List.le_trans h1 h2
theorem strs_mem : ∀ {vs : List Value} {ns : List Str}, StrsAre vs ns → ∀ v ∈ vs, ∃ i t, v = Value.str i t
  | _, _, .nil, v, h => absurd h (by simp)
  | _, _, .cons n t r, v, h => by
    rcases List.mem_cons.mp h with e | h
    · exact ⟨n, t, e⟩
    · exact strs_mem r v h
theorem strs_ss : ∀ {vs : List Value}, (∀ v ∈ vs, ∃ i t, v = Value.str i t) → StrsAre vs (vs.map ss)
  | [], _ => .nil
  | v :: vs, h => by
    obtain ⟨i, t, e⟩ := h v List.mem_cons_self
    subst e
    exact .cons i t (strs_ss fun u hu => h u (List.mem_cons_of_mem _ hu))
theorem ss_strs : ∀ {vs : List Value} {ns : List Str}, StrsAre vs ns → vs.map ss = ns
  | _, _, .nil => rfl
  | _, _, .cons n t r => congrArg (n :: ·) (ss_strs r)
section
open SrtO Srt
variable {prog : Program} {w : World} {A : Around} {s : Shared}
theorem str_cmp {vs : List Value} {ns : List Str} (hI : StrsAre vs ns) : SrtO.Cmp prog w A s oneType' (fun p => p.1 ∈ vs) (lt2 ltSv) := by
  intro p q hm hm'
  obtain ⟨a, t, e⟩ := strs_mem hI _ hm
  obtain ⟨b, u, e'⟩ := strs_mem hI _ hm'
  show wpAny (model prog w) A (keyLt' oneType' p.1 q.1) (fun r s' => s' = s ∧ r = ltSv p.1 q.1) (fun _ _ => False) s
  rw [e, e', keyLt'_oneType]
  exact oneLt_str ⟨rfl, rfl⟩
theorem strs_sortable {a : Addr} {vs : List Value} {ns : List Str} (hI : StrsAre vs ns) (h2 : 2 ≤ vs.length) : SrtO.SortableO prog w A s a vs ltSv := by
  intro h' _
  refine ⟨oneType', fun Q E hq => ?_, str_cmp hI⟩
  match vs, hI, h2 with
  | v1 :: v2 :: rest, hI, _ =>
    rw [keyKind_strs hI]
    exact wpAny_pure hq
  | [], _, h => exact absurd h (by decide)
  | [v], _, h => exact absurd h (by simp)
theorem strs_out {vs out : List Value} {ns : List Str} (hI : StrsAre vs ns) (hs : SrtO.Srtd ltSv out) (hb : SrtO.Stb ltSv out vs) : StrsAre out (out.map ss) ∧ out.map ss = isort leS ns := by
  have hm : ∀ v ∈ out, ∃ i t, v = Value.str i t := fun v hv => strs_mem hI v (hb.perm.mem_iff.mp hv)
  refine ⟨strs_ss hm, isort_uniq leS_ok ?_ ?_⟩
  · have q := hb.perm.map ss
    rw [ss_strs hI] at q
    exact q
  · refine List.pairwise_map.mpr ((List.Pairwise.and_mem.mp hs).imp fun {x y} h => ?_)
    obtain ⟨hx, hy, h⟩ := h
    obtain ⟨i, t, rfl⟩ := hm x hx
    obtain ⟨j, u, rfl⟩ := hm y hy
    exact decide_eq_true (ltSv_f.mp h)
end
/-- sorted(xs): ints or texts -/
def sortedG : List D → Option D
  | [.lst _ xs] => match intsD xs with
    | some ns => some (.lst true ((isort leI ns).map .int))
    | none => (strsD xs).map fun ns => .lst true ((isort leS ns).map .str)
  | _ => none
def rSortedStr (K : PySem.W.Frag) : List V → Hp → VK → Prop := fun vs H Q => ∃ (a : Addr) (ns : List Str), vs = [V.ref a] ∧ SqL K H a (ns.map V.str) ∧ ∀ p : Addr, H p = none → Q (.ref p) (upd H p (.lst ((isort leS ns).map V.str)))
theorem cr_sortedStr {X : Cx} : CallR X (.builtin "sorted") (rSortedStr X.K) := by
  intro pins s σ H vs us Q I r h
  obtain ⟨a, ns, rfl, hs, q⟩ := h
  obtain ⟨its, rv, hl, hz⟩ := I.list hs
  rw [Vals.ref1 r]
  have hi := rv.strs
  refine SrtO.sorted_ord swo_str hl.isList (by rw [← rv.length]; exact hz) (fun h2 h₁ a' _ _ => strs_sortable hi h2) fun out h1 h2 => ?_
  obtain ⟨k1, k2⟩ := strs_out hi h1 h2
  obtain ⟨ep, he'⟩ := PyProof.Rows.sortedAll_at s.heap its out.toArray
  have hlen : ((isort leS ns).map V.str).length ≤ sizeLine := by
    rw [List.length_map, (isort_perm ns).length_eq]
    rw [List.length_map] at hz
    exact hz
  exact ⟨.ref _, upd H (s.heap.objs.size + 1) (.lst ((isort leS ns).map V.str)), I.laid (t' := s.toks) (fun _ _ => PyProof.Rows.sortedAll_old) (Nat.le_succ _) ⟨hlen, out, ep, by rw [← k2]; exact vals_of_strs k1, he'⟩, rfl, q _ (I.hok.fresh (Nat.le_succ _))⟩
def rSortedA (K : PySem.W.Frag) : List V → Hp → VK → Prop := fun vs H Q => rSortedI K vs H Q ∨ rSortedStr K vs H Q
theorem cr_sortedA {X : Cx} : CallR X (.builtin "sorted") (rSortedA X.K) := by
  intro pins s σ H vs us Q I r h
  rcases h with h | h
  · exact cr_sortedI pins s σ H vs us Q I r h
  · exact cr_sortedStr pins s σ H vs us Q I r h
theorem intsD_map' : ∀ {xs : List D} {ns : List Int}, intsD xs = some ns → xs = ns.map D.int
  | [], ns, h => by cases h; rfl
  | d :: ds, ns, h => by
    cases d with
    | int i =>
      obtain ⟨ms, h1, h2⟩ := Option.map_eq_some_iff.mp (show (intsD ds).map (i :: ·) = some ns from h)
      subst h2
      rw [intsD_map' h1]; rfl
    | _ => cases h
theorem strsD_map' : ∀ {xs : List D} {ns : List Str}, strsD xs = some ns → xs = ns.map D.str
  | [], ns, h => by cases h; rfl
  | d :: ds, ns, h => by
    cases d with
    | str i =>
      obtain ⟨ms, h1, h2⟩ := Option.map_eq_some_iff.mp (show (strsD ds).map (i :: ·) = some ns from h)
      subst h2
      rw [strsD_map' h1]; rfl
    | _ => cases h
section
variable {K : PySem.W.Frag} {H : Hp}
theorem dv_ints : ∀ {ns : List Int} {vs : List V} {f : List Addr}, DvL K H (ns.map D.int) vs f → vs = ns.map V.int ∧ f = []
  | [], _, _, .nil => ⟨rfl, rfl⟩
  | _ :: ns, _, _, .cons x l => by
    obtain ⟨h1, h2⟩ := dv_ints (ns := ns) l
    cases x
    subst h1 h2
    exact ⟨rfl, rfl⟩
theorem dv_strs : ∀ {ns : List Str} {vs : List V} {f : List Addr}, DvL K H (ns.map D.str) vs f → vs = ns.map V.str ∧ f = []
  | [], _, _, .nil => ⟨rfl, rfl⟩
  | _ :: ns, _, _, .cons x l => by
    obtain ⟨h1, h2⟩ := dv_strs (ns := ns) l
    cases x
    subst h1 h2
    exact ⟨rfl, rfl⟩
theorem ints_dv0 : ∀ ns : List Int, DvL K H (ns.map D.int) (ns.map V.int) []
  | [] => .nil
  | n :: ns => .cons (f1 := []) (f2 := []) (.int n) (ints_dv0 ns)
theorem strs_dv : ∀ ns : List Str, DvL K H (ns.map D.str) (ns.map V.str) []
  | [] => .nil
  | n :: ns => .cons (f1 := []) (f2 := []) (.str n) (strs_dv ns)
end
theorem sorted_ok {K : PySem.W.Frag} : OpN K (rSortedA K) sortedG := by
  intro H xs ds Q dr hx hg q
  match ds, hg with
  | [.lst m es], hg =>
    match hx with
    | .cons ⟨f, x⟩ .nil =>
      obtain ⟨a, vs, g, rfl, h, l⟩ := x.lstR
      have hg : (match intsD es with
        | some ns => some (D.lst true ((isort leI ns).map .int))
        | none => (strsD es).map fun ns => D.lst true ((isort leS ns).map .str)) = some dr := hg
      cases e : intsD es with
      | some ns =>
        rw [e] at hg
        cases hg
        have := intsD_map' e
        subst this
        obtain ⟨rfl, rfl⟩ := dv_ints l
        refine .inl ⟨a, ns, rfl, h, fun ns' p h1 h2 hp => ?_⟩
        have e2 : ns' = isort leI ns := isort_uniq leI_ok h1 (h2.imp fun {a b} h => decide_eq_true h)
        subst e2
        exact q _ _ (fresh_lst (ints_dv0 _) hp)
      | none =>
        rw [e] at hg
        obtain ⟨ns, e2, rfl⟩ := Option.map_eq_some_iff.mp hg
        have := strsD_map' e2
        subst this
        obtain ⟨rfl, rfl⟩ := dv_strs l
        exact .inr ⟨a, ns, rfl, h, fun p hp => q _ _ (fresh_lst (strs_dv _) hp)⟩
end DL

/-! list.index, list.pop, {name: e}, list(dict), split, str(int), int(text) -/
namespace DL
open PySem PySem.Spec PyProof.Rows L2

def keysD : List D → Option (List Key)
  | [] => some []
  | d :: ds => match d.key, keysD ds with
    | some k, some ks => some (k :: ks)
    | _, _ => none
def indexD : D → D → Option D
  | .lst _ xs, e => match keysD xs, e.key with
    | some ks, some k => (kIx ks k).map fun j => .int (j : Nat)
    | _, _ => none
  | _, _ => none
/-- a list's method, one argument -/
def fLM1 (g : D → D → Option D) (fa fb : FO) : FE := fun ρ => (fa ρ).bind fun a ρ1 => match res a ρ1 with
  | some (.lst _ _) => (fb ρ1).bind fun b ρ2 => match res a ρ2, res b ρ2 with
    | some d, some e => R.of (g d e) ρ2
    | _, _ => .stk
  | _ => .stk
theorem keys_v {K : PySem.W.Frag} {H : Hp} : ∀ {xs : List D} {ks : List Key} {vs : List V} {f : List Addr}, DvL K H xs vs f → keysD xs = some ks → vs = ks.map kV
  | [], ks, _, _, .nil, h => by cases h; rfl
  | d :: ds, ks, _, _, .cons x l, h => by
    unfold keysD at h
    split at h
    · rename_i k ks' e1 e2
      cases h
      rw [x.keyV e1, keys_v l e2]; rfl
    · cases h
theorem flat_k : ∀ k : Key, flatV (kV k) = true
  | .inl _ => rfl
  | .inr _ => rfl
theorem eq_k : ∀ a b : Key, eqV (kV a) (kV b) = decide (a = b)
  | .inl a, .inl b => by show (a == b) = _; rw [Bool.eq_iff_iff, beq_iff_eq, decide_eq_true_iff]; exact ⟨fun h => by rw [h], fun h => by cases h; rfl⟩
  | .inr a, .inr b => by show (a == b) = _; rw [Bool.eq_iff_iff, beq_iff_eq, decide_eq_true_iff]; exact ⟨fun h => by rw [h], fun h => by cases h; rfl⟩
  | .inl a, .inr b => by show false = _; simp
  | .inr a, .inl b => by show false = _; simp
theorem kIx_at {k : Key} : ∀ {ks : List Key} {j : Nat}, kIx ks k = some j → ks[j]? = some k ∧ ∀ m, m < j → ks[m]? ≠ some k
  | [], _, h => by cases h
  | a :: r, j, h => by
    unfold kIx at h
    by_cases e : a = k
    · simp only [e, if_true] at h
      cases h
      exact ⟨by simp [e], fun m hm => absurd hm (Nat.not_lt_zero _)⟩
    · simp only [e, if_false] at h
      obtain ⟨j', h1, h2⟩ := Option.map_eq_some_iff.mp h
      subst h2
      obtain ⟨h3, h4⟩ := kIx_at h1
      refine ⟨by simpa using h3, fun m hm => ?_⟩
      cases m with
      | zero => simpa using e
      | succ m => simpa using h4 m (by omega)
theorem index_ok {K : PySem.W.Frag} : Op2 K (fun x y => rIndex K x [y]) indexD := by
  intro H x y d e f1 f2 Q dr hx hy hg q
  cases d with
  | lst m xs =>
    have hg : (match keysD xs, e.key with
      | some ks, some k => (kIx ks k).map fun j => D.int (j : Nat)
      | _, _ => none) = some dr := hg
    · split at hg
      · rename_i ks k e1 e2
        obtain ⟨j, e3, rfl⟩ := Option.map_eq_some_iff.mp hg
        obtain ⟨a, ys, g, rfl, h, l⟩ := hx.lstR
        obtain rfl := keys_v l e1
        obtain rfl := hy.keyV e2
        obtain ⟨h1, h2⟩ := kIx_at e3
        refine ⟨a, _, _, j, kV k, rfl, rfl, h, flat_k k, ?_, by rw [List.getElem?_map, h1]; rfl, by rw [eq_k]; exact decide_eq_true rfl, fun m' z' hm hz => ?_, q _ _ fresh_int⟩
        · rw [List.all_eq_true]
          intro z hz
          obtain ⟨k', _, rfl⟩ := List.mem_map.mp hz
          exact flat_k k'
        · rw [List.getElem?_map] at hz
          obtain ⟨k', hk, rfl⟩ := Option.map_eq_some_iff.mp hz
          rw [eq_k]
          exact decide_eq_false fun e => h2 m' hm (by rw [hk, e])
      · cases hg
  | _ => cases hg
section
variable {X : Cx} {c : Ct} {Ew : Xn → En → Prop} {o e : Expr} {pos apos p : Pos} {x : Str} {fo fe : FO}
theorem de_lm1 {id : String} {name : Str} {r : V → List V → Hp → VK → Prop} {g : D → D → Option D} (slot : Slot "list" name id) (ty : typeOf (.builtin id) = pure (.type "method_descriptor")) (rule : MtR X id r) (h : Op2 X.K (fun x y => r x [y]) g) (ho : DO X c Ew o fo) (he : DO X c Ew e fe)
    (hbase : attributeBase o name X.env (eval o X.env) = eval o X.env := by rfl)
    (hfew : ((backTo pos (starEach [e] X.env)).all (fun x => !x.1) && (backToKw pos (keywordEach [] X.env)).all (fun x => x.1.isSome) && decide ([e].length + ([] : List Keyword).length + (if ([] : List Keyword).isEmpty then 0 else 1) < 30)) = true := by rfl)
    (hline : (apos.endLine == pos.line) = true := by rfl) (hs : starEach [e] X.env = (false, eval e X.env) :: starEach [] X.env := by rfl) (hplain : (backTo pos (starEach [] X.env)).any (·.1) = false := by rfl) :
    DE X c Ew (.Call (.Attribute o name apos) [e] [] pos) (fLM1 g fo fe) := by
  refine (pe_bm PySem.F.plainAttrs_list slot ty rule ho (pa_cons he pa_nil hs) hbase hfew hline hs hplain).dimp fun σ H Q ⟨ρ, P, rp, q⟩ => ?_
  unfold fLM1 at q
  rw [R.sat_bind] at q
  refine ⟨ρ, P, rp, q.imp fun a ρ1 q v H1 Pn r1 oka => ?_⟩
  split at q
  · rename_i m xs ea
    obtain ⟨f1, xd⟩ := oka.dv r1 ea
    obtain ⟨a', ys, g', rfl, hs', _⟩ := xd.lstR
    refine ⟨.inl ⟨rfl, ys, hs'⟩, ρ1, Pn ++ P, r1, ?_⟩
    rw [R.sat_bind] at q
    refine q.imp fun b ρ2 q u H2 Pm r2 okb => ?_
    split at q
    · rename_i d e' ea' eb
      obtain ⟨f1, x1⟩ := (oka.up Pm).dv r2 ea'
      obtain ⟨f2, y⟩ := okb.dv r2 eb
      obtain ⟨dr, e1, q⟩ := R.of_sat q
      exact h H2 _ u d e' f1 f2 Q dr x1 y e1 fun w H3 fr => q w H3 (Rp.fresh r2.pops.pops fr)
    · exact q.elim
  · exact q.elim
/-- name.pop() -/
def fPop (i : Nat) : FE := fun ρ => match slot ρ i with
  | some (.lst true xs) => (match xs.getLast? with
    | some y => if y.isF = true then .ok y (ρ.set i (some (.lst true xs.dropLast))) else .stk
    | none => .stk)
  | _ => .stk
theorem Rp.pop1 {K : PySem.W.Frag} {c : Ct} {σ : L2.St} {H : Hp} {ρ : En} {P : List (D × V)} {xs : List D} {y : D} {a : Addr} (r : Rp K c σ H ρ ((.lst true (xs ++ [y]), .ref a) :: P)) (hy : y.isF = true) :
    ∃ vs vy, H a = some (.lst (vs ++ [vy])) ∧ Rp K c σ (upd H a (.lst vs)) ρ ((.lst true xs, .ref a) :: (y, vy) :: P) := by
  obtain ⟨f0, x0⟩ := r.head
  cases x0 with
  | @olst _ ws _ fp0 h1 l0 =>
    obtain ⟨vs, us, g1, g2, e1, e2, l1, l2⟩ := l0.split
    cases l2 with
    | @cons _ vy _ _ k1 k2 xy ln =>
      cases ln
      subst e1
      refine ⟨vs, vy, h1, Rp.step (Pn := [(.lst true xs, .ref a), (y, vy)]) [(.lst true (xs ++ [y]), .ref a)] r fun fp lp nd => ?_⟩
      have lp : DvL K H [.lst true (xs ++ [y])] [.ref a] fp := lp
      obtain ⟨f1, f2, rfl, x1, lp⟩ := lp.uncons
      have e4 := lp.unnil
      subst e4
      obtain ⟨a', xs', fp3, e, rfl, h2, l⟩ := x1.own
      cases e
      rw [h1] at h2
      cases h2
      obtain ⟨vs', us', g1', g2', e1', e2', l1', l2'⟩ := l.split
      have hlen : vs.length = vs'.length := by rw [← l1.length, ← l1'.length]
      obtain ⟨rfl, _⟩ := List.append_inj e1' hlen
      rw [List.append_nil] at nd ⊢
      have n4 := List.nodup_cons.mp nd
      rw [e2'] at n4
      have hk : ∀ b o, b ∉ [a] → H b = some o → upd H a (.lst vs) b = some o := fun b o hb e => by
        rw [upd_ne (by simpa using hb)]; exact e
      have hW : ∀ b ∈ [a], Mut (H b) := fun b hb => by rw [List.mem_singleton.mp hb, h1]; trivial
      have l3 := l1'.keep hk hW fun b z z' => n4.1 (by rw [List.mem_singleton.mp z'] at z; exact List.mem_append_left _ z)
      have y3 := (xy.f0 hy).keep (W := [a]) hk hW fun b z => nomatch z
      refine ⟨fun b o hb e => hk b o (fun z => hb (by rw [List.mem_singleton.mp z]; simp)) e, a :: g1', ?_, ?_, fun b hb => .inl ?_⟩
      · have hu : upd H a (.lst vs) a = some (.lst vs) := by simp [upd]
        have := DvL.cons (.olst hu l3) (DvL.cons y3 .nil)
        simpa using this
      · exact List.nodup_cons.mpr ⟨fun z => n4.1 (List.mem_append_left _ z), (List.nodup_append.mp n4.2).1⟩
      · rcases List.mem_cons.mp hb with rfl | hb
        · exact List.mem_cons_self
        · rw [e2']; exact List.mem_cons_of_mem _ (List.mem_append_left _ hb)
theorem de_pop (i : Nat) (hm : PE X (.Name x p) (tVar i)) (hbase : attributeBase (.Name x p) "pop" X.env (eval (.Name x p) X.env) = eval (.Name x p) X.env := by rfl) (hline : (apos.endLine == pos.line) = true := by rfl) :
    DE X c Ew (.Call (.Attribute (.Name x p) "pop" apos) [] [] pos) (fPop i) := by
  refine (pe_bm0 PySem.F.plainAttrs_list PySem.F.slot_list_pop PySem.F.type_list_pop mt_pop hm hbase hline).dimp fun σ H Q ⟨ρ, P, rp, q⟩ => ?_
  unfold fPop at q
  cases es : slot ρ i with
  | none => rw [es] at q; exact q.elim
  | some d0 =>
    rw [es] at q
    match d0, es, q with
    | .lst true xs, es, q =>
      cases el : xs.getLast? with
      | none => simp only [el] at q; exact q.elim
      | some y =>
        simp only [el] at q
        split at q
        · rename_i hy
          obtain ⟨zs, rfl⟩ := List.getLast?_eq_some_iff.mp el
          obtain ⟨v0, e0, r1⟩ := rp.take (slot_some es)
          obtain ⟨f, x0⟩ := r1.head
          obtain ⟨a, ys, g, rfl, hs, _⟩ := x0.lstR
          obtain ⟨vs, vy, h1, r2⟩ := r1.pop1 hy
          have r3 := r2.put e0
          rw [List.set_set, List.dropLast_concat] at *
          refine ⟨.ref a, e0, .inl ⟨rfl, ys, hs⟩, a, vs ++ [vy], vy, rfl, rfl, h1, by simp, ?_⟩
          rw [List.dropLast_concat]
          exact q vy _ r3
        · exact q.elim
    | .lst false xs, es, q => exact q.elim
    | .non, _, q => exact q.elim
    | .bl _, _, q => exact q.elim
    | .int _, _, q => exact q.elim
    | .str _, _, q => exact q.elim
    | .tup _, _, q => exact q.elim
    | .dic _ _ _, _, q => exact q.elim
    | .dit _ _ _, _, q => exact q.elim
    | .opq _, _, q => exact q.elim
    | .fact _, _, q => exact q.elim
theorem de_lindex (hu : X.A.units + 1 < cLine) (ho : DO X c Ew o fo) (he : DO X c Ew e fe)
    (hbase : attributeBase o "index" X.env (eval o X.env) = eval o X.env := by rfl)
    (hfew : ((backTo pos (starEach [e] X.env)).all (fun x => !x.1) && (backToKw pos (keywordEach [] X.env)).all (fun x => x.1.isSome) && decide ([e].length + ([] : List Keyword).length + (if ([] : List Keyword).isEmpty then 0 else 1) < 30)) = true := by rfl)
    (hline : (apos.endLine == pos.line) = true := by rfl) (hs : starEach [e] X.env = (false, eval e X.env) :: starEach [] X.env := by rfl) (hplain : (backTo pos (starEach [] X.env)).any (·.1) = false := by rfl) :
    DE X c Ew (.Call (.Attribute o "index" apos) [e] [] pos) (fLM1 indexD fo fe) := de_lm1 PySem.F.slot_list_index PySem.F.type_list_index mt_index index_ok ho he hbase hfew hline hs hplain
end
end DL

/-! {name: e}, list(dict) -/
namespace DL
open PySem PySem.Spec PyProof.Rows L2
/-- {name: e} -/
def fDisp1 (i : Nat) (f : FE) : FE := fun ρ => match (slot ρ i).bind D.key with
  | some k => (f ρ).bind fun d ρ' => .ok (.dic true [k] [d]) ρ'
  | none => .stk
section
variable {X : Cx} {c : Ct} {Ew : Xn → En → Prop} {e : Expr} {pos p : Pos} {x : Str}
theorem de_disp1 {f : FE} (i : Nat) (hm : PE X (.Name x p) (tVar i)) (h : DE X c Ew e f) : DE X c Ew (.Dict [some (.Name x p)] [e] pos) (fDisp1 i f) :=
  (pe_disp (pps_cons hm h pps_nil) rfl rfl (List.cons_ne_nil _ _) (by show 1 ≤ 15; decide)).dimp fun σ H Q ⟨ρ, P, rp, q⟩ p hp => by
  unfold fDisp1 at q
  cases e0 : slot ρ i with
  | none => rw [e0] at q; exact q.elim
  | some kd =>
    rw [e0] at q
    obtain ⟨kv, f0, e1, x0⟩ := rp.slot (slot_some e0)
    cases e2 : kd.key with
    | none => simp only [Option.bind_some, e2] at q; exact q.elim
    | some k =>
      simp only [Option.bind_some, e2] at q
      rw [R.sat_bind] at q
      obtain rfl := x0.keyV e2
      have r1 : Rp X.K c σ (upd H p (.dK [])) ρ ((.dic true [] [], .ref p) :: P) := Rp.fresh rp ⟨upd_ext hp, [p], .odic (kvv := []) (by simp [upd]) rfl .nil, by simp, fun a z => by rw [List.mem_singleton.mp z]; exact hp⟩
      refine ⟨kV k, e1, ρ, _, r1, q.imp fun d ρ' q v H2 r2 => ?_⟩
      have r3 : Rp X.K c σ H2 ρ' ((.dic true [] [], .ref p) :: ([d].zip [v] ++ P)) := r2.swap
      obtain ⟨f1, x1⟩ := r3.head
      obtain ⟨a, kvv, g, e3, _, h1, h2, l⟩ := Dv.ownD x1
      cases e3
      have hk : kvv = [] := by cases kvv with | nil => rfl | cons _ _ => cases h2
      subst hk
      have hm1 : mergeD [] [] [k] [d] = some ([k], [d]) := by
        show (putD [] [] k d).bind (fun p => mergeD p.1 p.2 [] []) = _
        have : putD [] [] k d = some ([k], [d]) := if_pos ⟨List.nodup_nil, by show 0 < sizeLine; decide⟩
        rw [this]; rfl
      exact ⟨h1, [(k, v)], rfl, by show 1 ≤ 15; decide, q _ _ (Rp.merge (ms := [k]) (es := [d]) (vs := [v]) rfl rfl h1 r3 hm1)⟩
end
/-- list(..), of a dict its keys -/
def listAG : List D → Option D
  | [.dic _ ks _] => some (.lst true (ks.map keyD))
  | ds => listG ds
theorem keys_dv {K : PySem.W.Frag} {H : Hp} : ∀ ks : List Key, DvL K H (ks.map keyD) (ks.map kV) []
  | [] => .nil
  | .inl i :: ks => .cons (f1 := []) (f2 := []) (.int i) (keys_dv ks)
  | .inr s :: ks => .cons (f1 := []) (f2 := []) (.str s) (keys_dv ks)
def rListA (K : PySem.W.Frag) : List V → Hp → VK → Prop := fun xs H Q => (∃ p ys, xs = [.ref p] ∧ (SqL K H p ys ∨ SqT K H p ys) ∧ ∀ l, H l = none → Q (.ref l) (upd H l (.lst ys))) ∨
  ∃ (a : Addr) (kvs : List (Key × V)), xs = [.ref a] ∧ Rd H a (.dK kvs) ∧ ∀ p, H p = none → Q (.ref p) (upd H p (.lst (kvs.map fun kv => kV kv.1)))
theorem cr_listA {X : Cx} (hc : X.calm = true) : CallR X (.type "list") (rListA X.K) := by
  intro pins s σ H vs us Q I r h
  rcases h with h | h
  · exact call_list_of pins s σ H vs us Q I r h
  · exact call_listD hc pins s σ H vs us Q I r h
theorem listA_ok {K : PySem.W.Frag} : OpN K (rListA K) listAG := by
  intro H xs ds Q dr hx hg q
  match ds, hg with
  | [.dic m ks es], hg =>
    match hx with
    | .cons ⟨f, x⟩ .nil =>
      have hg : some (D.lst true (ks.map keyD)) = some dr := hg
      cases hg
      have fin : ∀ {a : Addr} {kvs : List (Key × V)}, Rd H a (.dK kvs) → kvs.map (·.1) = ks → rListA K [.ref a] H Q := fun {a kvs} h e => by
        refine .inr ⟨a, kvs, rfl, h, fun p hp => q _ _ ?_⟩
        have : (kvs.map fun kv => kV kv.1) = ks.map kV := by rw [← e, List.map_map]; rfl
        rw [this]
        exact fresh_lst (keys_dv ks) hp
      cases x with
      | fdic e z l => exact fin (.inr ⟨_, e⟩) z
      | odic e z l => exact fin (.inl e) z
  | [.lst m es], hg => exact .inl (list_ok H xs _ Q dr hx hg q)
  | [.tup es], hg => exact .inl (list_ok H xs _ Q dr hx hg q)
  | [], hg => exact .inl (list_ok H xs _ Q dr hx hg q)
  | [.non], hg => exact .inl (list_ok H xs _ Q dr hx hg q)
  | [.bl _], hg => exact .inl (list_ok H xs _ Q dr hx hg q)
  | [.int _], hg => exact .inl (list_ok H xs _ Q dr hx hg q)
  | [.str _], hg => exact .inl (list_ok H xs _ Q dr hx hg q)
  | [.dit _ _ _], hg => exact .inl (list_ok H xs _ Q dr hx hg q)
  | [.opq _], hg => exact .inl (list_ok H xs _ Q dr hx hg q)
  | [.fact _], hg => exact .inl (list_ok H xs _ Q dr hx hg q)
  | d :: d2 :: l, hg =>
    have : listAG (d :: d2 :: l) = none := by cases d <;> rfl
    rw [this] at hg; cases hg
end DL

/-! dicts with keys that are tuples, the keys displayed -/
namespace DL
open PySem PySem.Spec PyProof.Rows L2
theorem Dv.ownT {K : PySem.W.Frag} {H : Hp} {v : V} {ks : List (List Key)} {ds : List D} {f : List Addr} (h : Dv K H (.dit true ks ds) v f) : ∃ a kvv g, v = .ref a ∧ f = a :: g ∧ H a = some (.dT kvv) ∧ kvv.map (·.1) = ks ∧ DvL K H ds (kvv.map (·.2)) g := by
  cases h with
  | odit h e l => exact ⟨_, _, _, rfl, rfl, h, e, l⟩
/-- the first place of a key -/
def kIxT : List (List Key) → (List Key) → Option Nat
  | [], _ => none
  | a :: ks, k => if a = k then some 0 else (kIxT ks k).map (· + 1)
theorem kIxT_some {k : (List Key)} : ∀ {kvv : List ((List Key) × V)} {j : Nat}, kIxT (kvv.map (·.1)) k = some j → j < kvv.length ∧ valV kvv k = (kvv.map (·.2))[j]?
  | [], _, h => by cases h
  | p :: r, j, h => by
    unfold kIxT at h
    rw [List.map_cons] at h
    by_cases e : p.1 = k
    · simp only [e, if_true] at h
      cases h
      exact ⟨by simp, by rw [valV_pos e]; rfl⟩
    · simp only [e, if_false] at h
      obtain ⟨j', h1, h2⟩ := Option.map_eq_some_iff.mp h
      obtain ⟨h3, h4⟩ := kIxT_some h1
      subst h2
      exact ⟨by simpa using h3, by rw [valV_neg e, h4]; rfl⟩
theorem kIxT_none {k : (List Key)} : ∀ {kvv : List ((List Key) × V)}, kIxT (kvv.map (·.1)) k = none → valV kvv k = none
  | [], h => rfl
  | p :: r, h => by
    unfold kIxT at h
    rw [List.map_cons] at h
    by_cases e : p.1 = k
    · simp only [e, if_true] at h; cases h
    · simp only [e, if_false] at h
      rw [valV_neg e]
      exact kIxT_none (Option.map_eq_none_iff.mp h)
def putDT (ks : List (List Key)) (ds : List D) (k : (List Key)) (d : D) : Option (List (List Key) × List D) := if ks.Nodup ∧ ks.length < sizeLine then (match kIxT ks k with
  | some j => some (ks, ds.set j d)
  | none => some (ks ++ [k], ds ++ [d])) else none
theorem map_putT {k : (List Key)} {v : V} : ∀ {kvv : List ((List Key) × V)} {j : Nat}, (kvv.map (·.1)).Nodup → kIxT (kvv.map (·.1)) k = some j → (kvv.map fun kv => if kv.1 = k then (kv.1, v) else kv).map (·.1) = kvv.map (·.1) ∧ (kvv.map fun kv => if kv.1 = k then (kv.1, v) else kv).map (·.2) = (kvv.map (·.2)).set j v
  | [], _, _, h => by cases h
  | p :: r, j, nd, h => by
    unfold kIxT at h
    simp only [List.map_cons] at h nd ⊢
    obtain ⟨n1, n2⟩ := List.nodup_cons.mp nd
    by_cases e : p.1 = k
    · simp only [e, if_true] at h
      cases h
      have same : (r.map fun kv => if kv.1 = k then (kv.1, v) else kv) = r := by
        conv => rhs; rw [← List.map_id r]
        refine List.map_congr_left fun q hq => ?_
        rw [if_neg (fun z => n1 (by rw [e, ← z]; exact List.mem_map_of_mem hq))]; rfl
      rw [same]
      simp [e]
    · simp only [e, if_false] at h ⊢
      obtain ⟨j', h1, h2⟩ := Option.map_eq_some_iff.mp h
      subst h2
      obtain ⟨h3, h4⟩ := map_putT (v := v) n2 h1
      exact ⟨by rw [h3], by rw [h4]; rfl⟩
theorem putDT_some {ks ks' : List (List Key)} {ds ds' : List D} {k : (List Key)} {d : D} {v : V} {kvv : List ((List Key) × V)} (h : putDT ks ds k d = some (ks', ds')) (e : kvv.map (·.1) = ks) (hl : ds.length = kvv.length) :
    kvv.length < sizeLine ∧ (putK kvv k v).map (·.1) = ks' ∧ ((∃ j, j < ds.length ∧ ds' = ds.set j d ∧ (putK kvv k v).map (·.2) = (kvv.map (·.2)).set j v) ∨ (ds' = ds ++ [d] ∧ (putK kvv k v).map (·.2) = kvv.map (·.2) ++ [v])) := by
  subst e
  unfold putDT at h
  split at h
  case isFalse => cases h
  rename_i hh
  refine ⟨by have := hh.2; rwa [List.length_map] at this, ?_⟩
  unfold putK
  rw [valV_any]
  cases e : kIxT (kvv.map (·.1)) k with
  | some j =>
    rw [e] at h
    cases h
    obtain ⟨h1, h2⟩ := kIxT_some e
    obtain ⟨h3, h4⟩ := map_putT (v := v) hh.1 e
    have : (valV kvv k).isSome = true := by rw [h2]; simp [h1]
    rw [if_pos this]
    exact ⟨h3, .inl ⟨j, by omega, rfl, h4⟩⟩
  | none =>
    rw [e] at h
    cases h
    have : (valV kvv k).isSome = false := by rw [kIxT_none e]; rfl
    rw [if_neg (by rw [this]; simp)]
    exact ⟨by simp, .inr ⟨rfl, by simp⟩⟩
section
variable {K : PySem.W.Frag} {c : Ct} {H H' : Hp} {σ : L2.St} {ρ : En} {P : List (D × V)} {d : D} {v : V} {i : Nat} {ks ks' : List (List Key)} {ds ds' : List D} {a : Addr} {k : (List Key)}
/-- d[k] = v -/
theorem Rp.setT (r : Rp K c σ H ρ ((.dit true ks ds, .ref a) :: (d, v) :: P)) (h : putDT ks ds k d = some (ks', ds')) : ∃ kvv, H a = some (.dT kvv) ∧ kvv.length < sizeLine ∧ Rp K c σ (upd H a (.dT (putK kvv k v))) ρ ((.dit true ks' ds', .ref a) :: P) := by
  obtain ⟨fp, hp, nd, kk⟩ := Rp.step2 [(.dit true ks ds, .ref a), (d, v)] r
  obtain ⟨f1, f2, rfl, x, y⟩ := hp.pair
  obtain ⟨a', kvv, g, e, rfl, h1, h2, l⟩ := Dv.ownT x
  cases e
  have hl : ds.length = kvv.length := by rw [l.length, List.length_map]
  obtain ⟨hz, e1, e2⟩ := putDT_some (v := v) h h2 hl
  refine ⟨kvv, h1, hz, ?_⟩
  obtain ⟨n1, n2, n3⟩ := List.nodup_append.mp nd
  have n4 := List.nodup_cons.mp n1
  have hW : ∀ b ∈ [a], Mut (H b) := fun b hb => by rw [List.mem_singleton.mp hb, h1]; trivial
  have l2 := l.keep (H' := upd H a (.dT (putK kvv k v))) (fun b o hb e => upd_keep hb e) hW fun b z z' => n4.1 (by rw [List.mem_singleton.mp z'] at z; exact z)
  have y2 := y.keep (H' := upd H a (.dT (putK kvv k v))) (fun b o hb e => upd_keep hb e) hW fun b z z' => n3 a (by simp) b z (List.mem_singleton.mp z').symm
  have key : ∃ f0 f3 f', g.Perm (f0 ++ f3) ∧ DvL K (upd H a (.dT (putK kvv k v))) ds' ((putK kvv k v).map (·.2)) f' ∧ f'.Perm (f2 ++ f3) := by
    rcases e2 with ⟨j, hj, rfl, e3⟩ | ⟨rfl, e3⟩
    · rw [e3]; exact l2.put hj y2
    · rw [e3]; exact ⟨[], g, g ++ f2, List.Perm.refl _, l2.append (.one y2), List.perm_append_comm⟩
  obtain ⟨f0, f3, f', p1, l3, p2⟩ := key
  have na : a ∉ f' := fun z => by
    rcases List.mem_append.mp (p2.mem_iff.mp z) with z | z
    · exact n3 a (by simp) a z rfl
    · exact n4.1 (p1.mem_iff.mpr (List.mem_append_right _ z))
  have n5 := (List.nodup_append.mp (p1.nodup_iff.mp n4.2)).2.1
  refine kk _ [(.dit true ks' ds', .ref a)] (a :: f') (fun b o hb e => upd_keep (fun z => hb (by rw [List.mem_singleton.mp z]; simp)) e) (.one (.odit (by simp [upd]) e1 l3)) (List.nodup_cons.mpr ⟨na, p2.nodup_iff.mpr (List.nodup_append.mpr ⟨n2, n5, fun b hb b' hb' e => n3 b' (List.mem_cons_of_mem _ (p1.mem_iff.mpr (List.mem_append_right _ hb'))) b hb e.symm⟩)⟩) fun b hb => ?_
  left
  rcases List.mem_cons.mp hb with rfl | hb
  · simp
  · rcases List.mem_append.mp (p2.mem_iff.mp hb) with z | z
    · exact List.mem_append_right _ z
    · exact List.mem_append_left _ (List.mem_cons_of_mem _ (p1.mem_iff.mpr (List.mem_append_right _ z)))
end
theorem ite_some2 {p : Prop} [Decidable p] {α : Type} {a : Option α} {b : α} (h : (if p then a else none) = some b) : p ∧ a = some b := by
  by_cases q : p
  · rw [if_pos q] at h; exact ⟨q, h⟩
  · rw [if_neg q] at h; cases h
def keysL : List D → Option (List Key)
  | [] => some []
  | d :: ds => match d.key, keysL ds with
    | some k, some ks => some (k :: ks)
    | _, _ => none
theorem keysL_v {K : PySem.W.Frag} {H : Hp} : ∀ {ds : List D} {vs : List V} {ks : List Key}, DvA K H ds vs → keysL ds = some ks → vs = ks.map kV
  | _, _, _, .nil, h => by cases h; rfl
  | d :: ds, v :: vs, ks, .cons ⟨f, x⟩ t, h => by
    unfold keysL at h
    cases e1 : d.key with
    | none => rw [e1] at h; cases h
    | some k =>
      cases e2 : keysL ds with
      | none => rw [e1, e2] at h; cases h
      | some ks' =>
        rw [e1, e2] at h
        cases h
        rw [x.keyV e1, keysL_v t e2]; rfl
/-- the item of a key -/
def itT (d : D) (k : List Key) : Option D := match d with
  | .dit _ ks ds => (kIxT ks k).bind fun j => ds[j]?
  | _ => none
theorem itT_some {K : PySem.W.Frag} {H : Hp} {d r : D} {k : List Key} {v : V} {f : List Addr} (x : Dv K H d v f) (h : itT d k = some r) (hr : r.isF = true) : ∃ a kvv z, v = .ref a ∧ Rd H a (.dT kvv) ∧ valV kvv k = some z ∧ Dv K H r z [] := by
  unfold itT at h
  split at h
  case h_2 => cases h
  rename_i m ks ds
  obtain ⟨j, e1, e2⟩ := Option.bind_eq_some_iff.mp h
  cases x with
  | @odit a kvv _ _ _ h1 h2 l =>
    subst h2
    obtain ⟨h3, h4⟩ := kIxT_some e1
    obtain ⟨z, f, e8, xd, hf⟩ := l.at e2
    exact ⟨a, kvv, z, rfl, .inl h1, by rw [h4, e8], by have := xd.fz hr; subst this; exact xd⟩
  | @fdit a o kvv _ _ h1 h2 l =>
    subst h2
    obtain ⟨h3, h4⟩ := kIxT_some e1
    obtain ⟨z, f, e8, xd, hf⟩ := l.at e2
    exact ⟨a, kvv, z, rfl, .inr ⟨o, h1⟩, by rw [h4, e8], by have := xd.fz hr; subst this; exact xd⟩
theorem fresh_any {K : PySem.W.Frag} {H : Hp} {p : Addr} {o : HO} (hp : H p = none) : Fresh K H (upd H p o) (.opq (.ref p)) (.ref p) := ⟨upd_ext hp, [], .opq _, by simp, fun a z => nomatch z⟩
/-- d[e, ..] -/
def fDGetT (fo : FO) (fs : FLs) : FE := fun ρ => (fo ρ).bind fun a ρ1 => (fs ρ1).bind fun as ρ2 => match res a ρ2, (ress as ρ2).bind keysL with
  | some d, some k => if k.length ≤ sizeLine then (match itT d k with
    | some r => if r.isF = true then .ok r ρ2 else .stk
    | none => .stk) else .stk
  | _, _ => .stk
/-- name[e, ..] = v -/
def stT (d : D) (k : List Key) (v : D) : Option D := match d with
  | .dit true ks ds => (putDT ks ds k v).map fun p => .dit true p.1 p.2
  | _ => none
theorem stT_some {d v r : D} {k : List Key} (h : stT d k v = some r) : ∃ ks ds ks' ds', d = .dit true ks ds ∧ putDT ks ds k v = some (ks', ds') ∧ r = .dit true ks' ds' := by
  unfold stT at h
  split at h
  · rename_i ks ds
    obtain ⟨⟨a, b⟩, e1, e2⟩ := Option.map_eq_some_iff.mp h
    exact ⟨ks, ds, a, b, rfl, e1, e2.symm⟩
  · cases h
def gStT (i : Nat) (fs : FLs) : FG := fun v ρ => match slot ρ i, fs ρ with
  | some _, .ok as ρ1 => (match (ress as ρ1).bind keysL, slot ρ1 i with
    | some k, some d => if k.length ≤ sizeLine then (stT d k v).map fun r => ρ1.set i (some r) else none
    | _, _ => none)
  | _, _ => none
section
variable {X : Cx} {c : Ct} {Ew : Xn → En → Prop} {o : Expr} {es : List Expr} {pos p q : Pos} {x : Str} {k : Nat} {fo : FO} {fs : FLs}
theorem de_dgetT (hu : X.A.units + 1 < cLine) (ho : DO X c Ew o fo) (hk : DA X c Ew es fs) (hs : NoSl (.Tuple es k q) := by intro _ _; rfl) : DE X c Ew (.Subscript o (.Tuple es k q) pos) (fDGetT fo fs) := (pe_dget hu ho (pe_tup hk) hs).dimp fun σ H Q ⟨ρ, P, rp, h⟩ => by
  unfold fDGetT at h
  rw [R.sat_bind] at h
  refine ⟨ρ, P, rp, h.imp fun a ρ1 h v H1 Pn r1 oka => ?_⟩
  rw [R.sat_bind] at h
  refine ⟨ρ1, Pn ++ P, r1, h.imp fun as ρ2 h vs H2 Pm r2 okas => ?_⟩
  cases e1 : res a ρ2 with
  | none => simp only [e1] at h; exact h.elim
  | some d =>
    cases e2 : (ress as ρ2).bind keysL with
    | none => simp only [e1, e2] at h; exact h.elim
    | some kk =>
      simp only [e1, e2] at h
      obtain ⟨ds, e3, e4⟩ := Option.bind_eq_some_iff.mp e2
      have l := ArOk.dvs r2 okas e3
      obtain rfl := keysL_v l e4
      by_cases hz : kk.length ≤ sizeLine
      · rw [if_pos hz] at h
        refine ⟨by rw [List.length_map]; exact hz, fun b hb => ?_⟩
        have r3 := Rp.fresh r2 (fresh_any (o := .tup (kk.map kV)) hb)
        obtain ⟨f, xd⟩ := ((oka.up Pm).up [_]).dv r3 e1
        cases e5 : itT d kk with
        | none => rw [e5] at h; exact h.elim
        | some r =>
          rw [e5] at h
          by_cases hr : r.isF = true
          · simp only [hr, if_true] at h
            obtain ⟨a2, kvv, z, rfl, h1, h2, x0⟩ := itT_some xd e5 hr
            exact ⟨a2, z, rfl, .inr ⟨kvv, kk, b, h1, rfl, by simp [upd], h2.symm⟩, h z _ (r3.pop.pops.pops.push0 x0)⟩
          · simp only [hr] at h; exact h.elim
      · rw [if_neg hz] at h; exact h.elim
theorem dg_dkT (i : Nat) (hu : X.A.units + 1 < cLine) (hm : PE X (.Name x p) (tVar i)) (hi : DA X c NoX es fs)
    (ha : ∀ v, assign (.Subscript (.Name x p) (.Tuple es k q) pos) X.env v = (do
      let ov ← holding [v] (eval (.Name x p) X.env)
      let iv ← holding [v, ov] (eval (.Tuple es k q) X.env)
      standAt pos
      holding [v, ov, iv] (setItem ov iv v)
      release [v, ov, iv] []) := by intro _; rfl) : DG X c (.Subscript (.Name x p) (.Tuple es k q) pos) (gStT i fs) := (pg_sub hm (pe_tup hi) (set_dict hu) ha).dimp fun v σ H Q ⟨d, ρ, P, rp, ρ', e, qq⟩ => by
  unfold gStT at e
  split at e
  case h_2 => cases e
  rename_i _ _ d0 as ρ1 es0 ef
  obtain ⟨v0, f0, e0, _⟩ := rp.slot (slot_some es0)
  split at e
  case h_2 => cases e
  rename_i _ _ kk dd er es
  obtain ⟨hz, e⟩ := ite_some2 e
  obtain ⟨r, e1, rfl⟩ := Option.map_eq_some_iff.mp e
  obtain ⟨ks, ds, ks', ds', rfl, hp, rfl⟩ := stT_some e1
  obtain ⟨kd, er1, er2⟩ := Option.bind_eq_some_iff.mp er
  refine ⟨v0, e0, ρ, (d, v) :: P, rp, ?_⟩
  rw [ef]
  intro vs H2 Pn r1 oka
  have l := ArOk.dvs r1 oka er1
  obtain rfl := keysL_v l er2
  refine ⟨by rw [List.length_map]; exact hz, fun b hb => ?_⟩
  have r1' := Rp.fresh r1 (fresh_any (o := .tup (kk.map kV)) hb)
  obtain ⟨v1, e2, r2⟩ := r1'.pop.take (slot_some es)
  rw [e0] at e2; cases e2
  obtain ⟨fa, xa⟩ := r2.head
  obtain ⟨a, vs, g, rfl, _, hH, hk, l⟩ := Dv.ownT xa
  have r3 := (r2.perm (perm3 [(D.dit true ks ds, V.ref a)] Pn _)).pops
  obtain ⟨kvv, h1, h2, r4⟩ := r3.setT hp
  refine ⟨a, _, rfl, DPut.t (k := kk) h1 (by simp [upd]) h2, ?_⟩
  have r5 := r4.put e0
  rw [List.set_set] at r5
  exact qq _ _ r5
theorem de_dict0T : DE X c Ew (.Dict [] [] pos) (fC (.dit true [] [])) := pe_dnewT.dimp fun σ H Q ⟨ρ, P, rp, q⟩ p hp =>
  q _ _ (Rp.fresh rp ⟨upd_ext hp, [p], .odit (kvv := []) (by simp [upd]) rfl .nil, by simp, fun a z => by rw [List.mem_singleton.mp z]; exact hp⟩)
end
end DL

/-! sets of texts -/
namespace DL
open PySem PySem.Spec PyProof.Rows L2
def txtOf (e : Int × Value) : Str := match e.2 with
  | .str x _ => x
  | _ => Str.empty
def IsTxt (P : Program) (w : World) (e : Int × Value) : Prop := ∃ x tk, e.2 = Value.str x tk ∧ e.1 = (strKind P w).hash x
/-- the set at a holds the texts xs -/
def SetX (P : Program) (w : World) (h : Heap) (a : Addr) (xs : List Str) : Prop :=
  ∃ o es ep t, (h.get? a = some o ∧ o.ExactSet ∧ o.data = .set es ep t) ∧ ((∀ e ∈ es.toList, IsTxt P w e) ∧ (es.toList.map txtOf).Perm xs ∧ xs.Nodup) ∧ (es.size < scanBound ∧ t.fits es.size = true) ∧ Ris t.place.toList ∧ (w.params.followText "set-order" = true ∨ t.led = true)
section
variable {P : Program} {w : World} {A : Around} {E : Value → Shared → Prop} {s : Shared} {a : Addr} {xs : List Str}
theorem txt_elems {l : List (Int × Value)} (g : ∀ e ∈ l, IsTxt P w e) : ElemsOf (strKind P w) l := fun e he => by
  obtain ⟨x, t, e1, e2⟩ := g e he
  refine ⟨⟨x, ?_, e2⟩, ?_⟩
  · rw [e1]; exact strKind_is _ _ _ _
  · rw [e1]; rfl
theorem txt_is {e : Int × Value} (g : IsTxt P w e) (x : Str) : (strKind P w).is x e.2 = true ↔ txtOf e = x := by
  obtain ⟨y, t, e1, _⟩ := g
  unfold txtOf
  rw [e1]
  show ((y == x) = true) ↔ y = x
  exact beq_iff_eq
theorem txt_mem {l : List (Int × Value)} (g : ∀ e ∈ l, IsTxt P w e) (x : Str) : x ∈ l.map txtOf ↔ ∃ e ∈ l, (strKind P w).is x e.2 = true :=
  ⟨fun h => by
    obtain ⟨e, he, q⟩ := List.mem_map.mp h
    exact ⟨e, he, (txt_is (g e he) x).mpr q⟩, fun ⟨e, he, q⟩ => List.mem_map.mpr ⟨e, he, (txt_is (g e he) x).mp q⟩⟩
theorem SetX.lay {o : Obj} {es eb : Array (Int × Value)} {ep : Nat} {t tb : SetTable} {ys : List Str} {gg : Bool → Sem Unit} (hg : ∀ (b : Bool) (s1 : Shared) (Q1 : Unit → Shared → Prop), Q1 () s1 → wpAny (model P w) A (gg b) Q1 E s1)
    (q1 : s.heap.get? a = some o ∧ o.ExactSet ∧ o.data = .set es ep t) (q2 : (∀ e ∈ eb.toList, IsTxt P w e) ∧ (eb.toList.map txtOf).Perm ys ∧ ys.Nodup) (q3 : eb.size < scanBound ∧ tb.fits eb.size = true) (q4 : Ris tb.place.toList) (q5 : w.params.followText "set-order" = true ∨ tb.led = true) {dm : Bool} {R : Option Bool → Shared → Prop}
    (hR : ∀ h', Heap.SameBut a s.heap h' → SetX P w h' a ys → R (some true) { s with heap := h' }) :
    wpAny (model P w) A (do
        storeSet a eb tb
        if (!dm && tb.tooFull) = true then do
            gg (relayAll tb eb (SetTable.grown eb.size)).2.2
            storeSet a (relayAll tb eb (SetTable.grown eb.size)).1 (relayAll tb eb (SetTable.grown eb.size)).2.1
            pure (some true)
          else pure (some true)) R E s := by
  obtain ⟨ho, hx, hd⟩ := q1
  obtain ⟨hb, hf⟩ := q3
  refine wpAny_bind (wpAny_storeSet_of ho hd ?_ (fits_of_scanBound hb))
  have n1 := store_at (es' := eb) (t' := tb) ho hd
  have b1 := Heap.SameBut.update s.heap a (Obj.putSet eb tb)
  by_cases c : (!dm && tb.tooFull) = true
  · rw [if_pos c]
    have p2 := relayAll_perm tb eb (SetTable.grown eb.size)
    have f2 := relayAll_fits tb eb (SetTable.grown eb.size)
    have r2 := relayAll_ris tb eb (SetTable.grown eb.size)
    have l2 := relayAll_led tb eb (SetTable.grown eb.size)
    revert p2 f2 r2 l2
    generalize relayAll tb eb (SetTable.grown eb.size) = Z
    obtain ⟨ec, tc, gave⟩ := Z
    intro p2 f2 r2 l2
    have p2 : ec.toList.Perm eb.toList := p2
    have f2 : tc.fits ec.size = true := f2
    have r2 : Ris tc.place.toList := r2
    have l2 : tc.led = tb.led := l2
    have z2 : ec.size = eb.size := by rw [← Array.length_toList, p2.length_eq, Array.length_toList]
    have hc : ec.size < scanBound := by omega
    refine wpAny_bind (hg _ _ _ ?_)
    refine wpAny_bind (wpAny_storeSet_of n1 rfl ?_ (fits_of_scanBound hc))
    have n2 := store_at (es' := ec) (t' := tc) n1 rfl
    refine wpAny_pure (hR _ (b1.trans (Heap.SameBut.update _ a _)) ?_)
    exact ⟨_, ec, _, tc, ⟨n2, hx, rfl⟩, ⟨fun e he => q2.1 e (p2.mem_iff.mp he), (p2.map txtOf).trans q2.2.1, q2.2.2⟩, ⟨hc, f2⟩, r2, q5.imp id fun z => by rw [l2]; exact z⟩
  · rw [if_neg c]
    exact wpAny_pure (hR _ b1 ⟨_, eb, _, tb, ⟨n1, hx, rfl⟩, q2, ⟨hb, hf⟩, q4, q5⟩)
/-- one text put in -/
def putX (xs : List Str) (x : Str) : List Str := if x ∈ xs then xs else x :: xs
theorem SetX.put {x : Str} {tk : Tok} {Q : Bool → Shared → Prop} (R : SetX P w s.heap a xs) (room : xs.length + 1 < scanBound)
    (hQ : ∀ h', Heap.SameBut a s.heap h' → SetX P w h' a (putX xs x) → Q (!decide (x ∈ xs)) { s with heap := h' }) :
    wpAny (model P w) A (setAddHashed a (.str x tk) ((strKind P w).hash x)) Q E s := by
  obtain ⟨o, es, ep, t, ⟨ho, hx, hd⟩, ⟨g, pm0, nd⟩, ⟨hb, hf⟩, hr, hl⟩ := R
  have hk : (strKind P w).is x (.str x tk) = true := strKind_is _ _ _ _
  have hs : (Value.str x tk).scannable = true := rfl
  have he := txt_elems g
  have hm : ∀ y, y ∈ xs ↔ ∃ e ∈ es.toList, (strKind P w).is y e.2 = true := fun y => (pm0.mem_iff.symm).trans (txt_mem g y)
  unfold setAddHashed setAddHashedIn
  refine wpAny_holding (wpAny_bind (wpAny_setState_of ho hd hf ?_))
  dsimp only
  rw [byScan_of hs hb he]
  simp only [↓reduceIte]
  unfold setAddByScan
  refine wpAny_bind ?_
  refine wpAny_bind (wpAny_rule ?_)
  refine wpAny_bind (wpAny_setScan_of hk ho hd hf he ?_)
  cases fi : List.findIdx? (fun e => (strKind P w).is x e.2) es.toList with
  | some j =>
    dsimp only
    obtain ⟨j1, j2, _⟩ := List.findIdx?_eq_some_iff_getElem.mp fi
    have hin : x ∈ xs := (hm x).mpr ⟨_, List.getElem_mem j1, j2⟩
    have q := hQ s.heap (Heap.SameBut.refl a s.heap) ⟨o, es, ep, t, ⟨ho, hx, hd⟩, ⟨g, by unfold putX; rw [if_pos hin]; exact pm0, by unfold putX; rw [if_pos hin]; exact nd⟩, ⟨hb, hf⟩, hr, hl⟩
    rw [decide_eq_true hin] at q
    exact wpAny_pure (wpAny_pure q)
  | none =>
    dsimp only
    have hno : x ∉ xs := fun z => by
      obtain ⟨e, h1, h2⟩ := (hm x).mp z
      have := List.findIdx?_eq_none_iff.mp fi e h1
      rw [h2] at this
      cases this
    have gw : ∀ (b : Bool) {s1 : Shared} {Q1 : Unit → Shared → Prop}, Q1 () s1 → wpAny (model P w) A (match b with | true => rule "set.scan.the-table-gave-way" | false => pure ()) Q1 E s1 := fun b s1 Q1 q => by
      cases b
      · exact wpAny_pure q
      · exact wpAny_rule q
    have pm := layNew_perm t es ((strKind P w).hash x) (.str x tk)
    have f1 := layNew_fits t es ((strKind P w).hash x) (.str x tk)
    have r1 := layNew_ris t es ((strKind P w).hash x) (.str x tk) hr
    have l1 := layNew_led t es ((strKind P w).hash x) (.str x tk)
    revert pm f1 r1 l1
    generalize layNew t es ((strKind P w).hash x) (.str x tk) = Z
    obtain ⟨eb, tb, dm, gave⟩ := Z
    intro pm f1 r1 l1
    dsimp only at pm f1 r1 l1 ⊢
    rw [Array.toList_push] at pm
    have pc := pm.trans (List.perm_append_singleton _ _)
    have q2 : (∀ e ∈ eb.toList, IsTxt P w e) ∧ (eb.toList.map txtOf).Perm (putX xs x) ∧ (putX xs x).Nodup := by
      unfold putX
      rw [if_neg hno]
      refine ⟨fun e h => ?_, (pc.map txtOf).trans (List.Perm.cons x pm0), List.nodup_cons.mpr ⟨hno, nd⟩⟩
      rcases List.mem_cons.mp (pc.mem_iff.mp h) with z | z
      · rw [z]; exact ⟨x, tk, rfl, rfl⟩
      · exact g e z
    have z1 : eb.size = xs.length + 1 := by
      have := q2.2.1.length_eq
      unfold putX at this
      rw [if_neg hno, List.length_map, Array.length_toList] at this
      simpa using this
    have hb1 : eb.size < scanBound := by omega
    have hled : w.params.followText "set-order" = true ∨ tb.led = true := hl.imp id fun z => l1.trans z
    have fin : ∀ h', Heap.SameBut a s.heap h' → SetX P w h' a (putX xs x) → Q true { s with heap := h' } := fun h' sb r => by
      have q := hQ h' sb r
      rw [decide_eq_false hno] at q
      exact q
    have hgg : ∀ (b : Bool) (s1 : Shared) (Q1 : Unit → Shared → Prop), Q1 () s1 → wpAny (model P w) A (match b with | true => rule "set.scan.the-table-gave-way" | false => pure ()) Q1 E s1 := fun b s1 Q1 q => gw b q
    refine wpAny_bind (gw _ ?_)
    split
    · refine wpAny_bind ?_
      rw [hashByValue_scannable 8 hs]
      refine wpAny_pure ?_
      refine SetX.lay ?_ ⟨ho, hx, hd⟩ q2 ⟨hb1, ?_⟩ ?_ ?_ fun h' sb r => ?_
      · intro b s1 Q1 q; cases b <;> first | exact wpAny_pure q | exact wpAny_rule q
      · first | (split <;> first | exact f1 | exact SetTable.fits_plain_off f1) | exact f1
      · first | (split <;> exact r1) | exact r1
      · first | (split <;> exact hled) | exact hled
      · dsimp only; exact wpAny_pure (fin h' sb r)
    · refine wpAny_bind (wpAny_pure ?_)
      simp only [↓reduceIte]
      refine SetX.lay ?_ ⟨ho, hx, hd⟩ q2 ⟨hb1, f1⟩ r1 hled fun h' sb r => ?_
      · intro b s1 Q1 q; cases b <;> first | exact wpAny_pure q | exact wpAny_rule q
      · dsimp only; exact wpAny_pure (fin h' sb r)
end
end DL

/-! set(a list of texts) -/
namespace DL
open PySem PySem.Spec PyProof.Rows L2
abbrev emptyX (w : World) : Obj := { cls := .type "set", dict := none, data := .set #[] 0 (.fresh 0 0 (!w.params.followText "set-order")) }
abbrev allX (xs : List Str) : List Str := xs.foldl putX []
theorem putX_len {xs : List Str} {x : Str} : (putX xs x).length ≤ xs.length + 1 := by
  unfold putX
  by_cases c : x ∈ xs
  · rw [if_pos c]; omega
  · rw [if_neg c]; simp
theorem foldX_len : ∀ (ys xs : List Str), (ys.foldl putX xs).length ≤ xs.length + ys.length
  | [], xs => by simp
  | y :: ys, xs => by
    have h1 := foldX_len ys (putX xs y)
    have h2 := putX_len (xs := xs) (x := y)
    simp only [List.foldl_cons, List.length_cons]
    omega
theorem mem_putX {xs : List Str} {x y : Str} : y ∈ putX xs x ↔ y = x ∨ y ∈ xs := by
  unfold putX
  by_cases c : x ∈ xs
  · rw [if_pos c]
    exact ⟨.inr, fun h => h.elim (fun e => e ▸ c) id⟩
  · rw [if_neg c, List.mem_cons]
theorem mem_foldX {y : Str} : ∀ (ys xs : List Str), y ∈ ys.foldl putX xs ↔ y ∈ ys ∨ y ∈ xs
  | [], xs => by simp
  | z :: ys, xs => by
    rw [List.foldl_cons, mem_foldX ys, mem_putX, List.mem_cons]
    exact ⟨fun h => by rcases h with h | h | h <;> simp [h], fun h => by rcases h with (h | h) | h <;> simp [h]⟩
theorem SetX.keep {P : Program} {w : World} {h h' : Heap} {a : Addr} {xs : List Str} (R : SetX P w h a xs) (k : ∀ o, h.get? a = some o → h'.get? a = some o) : SetX P w h' a xs := by
  obtain ⟨o, es, ep, t, ⟨ho, r⟩, r2⟩ := R
  exact ⟨o, es, ep, t, ⟨k o ho, r⟩, r2⟩
theorem SetX.new {P : Program} {w : World} {h : Heap} {a : Addr} (ho : h.get? a = some (emptyX w)) : SetX P w h a [] := by
  refine ⟨_, #[], 0, _, ⟨ho, ⟨rfl, rfl, rfl⟩, rfl⟩, ⟨fun e he => by simp at he, by simp, by simp⟩, ⟨by decide, by rfl⟩, ?_, ?_⟩
  · unfold Ris
    exact List.Pairwise.nil
  · cases h : w.params.followText "set-order" with
    | true => exact .inl rfl
    | false => exact .inr rfl
section
variable {P : Program} {w : World} {A : Around} {R : Result → Shared → Prop} {I : Addr} {fp wr : List Addr} {G : Array GenState → Array GenState → Prop} {n : Nat} {Pv : Nat → Value → Prop} {St : Nat → Shared → Prop}
theorem loopX (W : WalksS P w A.in1 I fp wr G n Pv St) (S : Addr) (hSf : S ∉ fp) (xs : List Str) (hz : xs.length = n) (hr : n + 1 < scanBound) (hv : ∀ i v, Pv i v → ∃ t, v = .str (xs.getD i Str.empty) t) :
    ∀ (k i : Nat) (s : Shared), n - i = k → i ≤ n → St i s → SetX P w s.heap S (allX (xs.take i)) → (∀ s', Moved (S :: wr) G s s' → SetX P w s'.heap S (allX xs) → R (.ok (.ret .none)) s') → codeAny (model P w) A (.builtin "set.update.loop" ⟨[.ref S, .ref I], []⟩) R s := by
  have hw : S ∉ wr := fun h => hSf (W.sub _ h)
  have up : ∀ b ∈ wr, b ∈ S :: wr := fun b hb => List.mem_cons_of_mem _ hb
  intro k
  induction k with
  | zero =>
    intro i s hk hi st hS fin
    have e : i = n := by omega
    subst e
    refine codeAny_builtin PyProof.Rows.F.entry_set_update_loop ?_
    rw [Around.under_plainId PyProof.Rows.F.plain_set_update_loop _]
    show wpAny _ A.in1 (pyNext (.ref I) >>= _) _ _ s
    refine wpAny_bind (W.done s _ _ st fun s1 hm => ?_)
    show wpAny _ A.in1 (ret Value.none) _ _ s1
    have hS1 := hS.keep fun o ho => hm.heap S o hw ho
    rw [List.take_of_length_le (by omega)] at hS1
    exact wpAny_pure (fin s1 (hm.mono up) hS1)
  | succ k ih =>
    intro i s hk hi st hS fin
    have hlt : i < n := by omega
    refine codeAny_builtin PyProof.Rows.F.entry_set_update_loop ?_
    rw [Around.under_plainId PyProof.Rows.F.plain_set_update_loop _]
    show wpAny _ A.in1 (pyNext (.ref I) >>= _) _ _ s
    refine wpAny_bind (W.item i s _ _ hlt st fun v s1 hP st1 hm => ?_)
    obtain ⟨t, rfl⟩ := hv i v hP
    have hS1 := hS.keep fun o ho => hm.heap S o hw ho
    show wpAny _ A.in1 (holding [Value.str (xs.getD i Str.empty) t] (setAdd S (.str (xs.getD i Str.empty) t)) >>= _) _ _ s1
    refine wpAny_bind (wpAny_holding ?_)
    unfold setAdd
    refine wpAny_holding (wpAny_bind ((PySem.strKind P w).pyHash (k := xs.getD i Str.empty) (strKind_is _ _ _ _) ?_))
    have hln := foldX_len (xs.take i) []
    have hlt2 : (xs.take i).length ≤ n := by rw [List.length_take]; omega
    have hroom : (allX (xs.take i)).length + 1 < scanBound := by
      have e0 : ([] : List Str).length = 0 := rfl
      show ((xs.take i).foldl putX []).length + 1 < scanBound
      omega
    refine SetX.put (s := { s1 with toks := s1.toks + 1 }) hS1 hroom fun h2 hsb hS2 => ?_
    have e3 : putX (allX (xs.take i)) (xs.getD i Str.empty) = allX (xs.take (i + 1)) := by
      have hx : xs[i]? = some (xs.getD i Str.empty) := by rw [List.getD_eq_getElem?_getD, List.getElem?_eq_getElem (by omega)]; rfl
      unfold allX
      rw [List.take_add_one, hx, List.foldl_append]; rfl
    rw [e3] at hS2
    refine wpAny_pure ⟨plainId_quiet PyProof.Rows.F.plain_set_update_loop _, ih (i + 1) _ (by omega) hlt (W.frame _ s1 _ _ st1 (Nat.le_succ _) fun b hb o e => ?_) hS2 fun s2 hm2 hS3 => ?_⟩
    · have hbS : b ≠ S := fun z => hSf (z ▸ hb)
      rw [hsb.2 b hbS]; exact e
    · refine fin s2 (Moved.trans W.gtrans ((hm.mono up).then_heap (Nat.le_succ _) fun b o hb e => ?_) hm2) hS3
      have hbS : b ≠ S := fun z => hb (z ▸ List.mem_cons_self)
      rw [hsb.2 b hbS]; exact e
end
section
variable {P : Program} {w : World} {A : Around} {E : Value → Shared → Prop} {s : Shared}
set_option maxHeartbeats 3200000 in
theorem call_setX {l : Addr} {items : Array Value} {xs : List Str} {Q : Value → Shared → Prop} (hh : A.handled = none) (hl : s.heap.IsList l items) (hi : PyProof.Rows.StrsAre items.toList xs) (hn : xs.length + 1 < scanBound)
    (h : ∀ (h2 : Heap) (tk : Nat), SetX P w h2 s.heap.objs.size (allX xs) → (∀ b o, b < s.heap.objs.size → s.heap.get? b = some o → h2.get? b = some o) → Q (.ref s.heap.objs.size) { s with heap := h2, toks := tk }) :
    wpAny (model P w) A (call (.type "set") [.ref l]) Q E s := by
  obtain ⟨c, tl, hmro⟩ := PySem.F.called_set.mro
  have hmade := PySem.F.called_set.made
  have hsub := PySem.F.called_set.sub
  refine wpAny_call (codeAny_of_tree ?_)
  show wpAny _ _ (callAny (.type "set") _) _ _ _
  refine wpAny_pure ⟨Code.quiet_builtin _ (by decide +kernel), codeAny_builtin PySem.F.entry_type_call ?_⟩
  rw [Around.under_plain (weight_type_call_type "set" [.ref l] []) rfl]
  have k1 := PySem.F.called_set.notType
  have k2 := PySem.F.called_set.canCreate
  have k3 := PySem.F.typeCall_set_1 (.ref l)
  repeat (any_goals (first | assumption | wp_step))
  refine codeAny_mono (code_set_led1 (.ref l) (E := E) (Q₁ := fun obj s1 => obj = .ref s.heap.objs.size ∧ s1 = { s with heap := s.heap.push (emptyX w) }) ⟨rfl, rfl⟩) fun r s1 hr => ?_
  cases r with
  | error e => exact hr
  | ok fl =>
    cases fl with
    | ret obj =>
      obtain ⟨rfl, rfl⟩ := hr
      have hS : (s.heap.push (emptyX w)).get? s.heap.objs.size = some (emptyX w) := Heap.get?_push_size _ rfl
      have hT : Shared.TypeIs { s with heap := s.heap.push (emptyX w) } (.ref s.heap.objs.size) "set" := ⟨_, hS, rfl⟩
      have hli := PySem.F.called_set.init.lookup
      have hbi := PySem.F.called_set.init.bind (.ref s.heap.objs.size)
      repeat (any_goals (first | assumption | wp_step))
      refine codeAny_mono (codeAny_call_builtin (R := wants (fun r s2 => r = .none ∧ ∃ h2 tk, s2 = { s with heap := h2, toks := tk } ∧ SetX P w h2 s.heap.objs.size (allX xs) ∧ (∀ b o, b < s.heap.objs.size → s.heap.get? b = some o → h2.get? b = some o)) E) PySem.F.called_set.init.plain PySem.F.entry_set_init (check_set_init_1 hT ?_)) fun r2 s2 hr2 => ?_
      · obtain ⟨ol, hol, hcl, nl, hdl⟩ := hl
        obtain ⟨ocls, odict, odata, oslots⟩ := ol
        simp only at hcl hdl
        subst hcl; subst hdl
        have hol2 := Heap.get?_push_of_some (emptyX w) hol
        have t1 := PySem.F.sub_list_set
        have t2 := PySem.F.sub_list_frozenset
        have t3 : (Value.type "list" == Value.type "dict") = false := by decide
        have hl1 : (s.heap.push (emptyX w)).IsList l items := ⟨_, hol2, rfl, nl, rfl⟩
        unfold Builtin.«set.__init__» noKeywords Builtin.Frozenset.updateFrom
        generalize hPI : pyIter = PI
        wp_walk
        subst hPI
        refine wpAny_pyIter_list hl1 ?_
        refine wpAny_bind (wpAny_runValue ?_)
        have hlS : l < s.heap.objs.size := Heap.lt_size hol
        have h3 : A.in1.in1.in1.handled = none := by simp [hh]
        have z1 : (s.heap.push (emptyX w)).objs.size = s.heap.objs.size + 1 := Heap.size_push ..
        have nI : l ≠ (s.heap.push (emptyX w)).objs.size := fun z => by
          rw [z1] at z; exact absurd z (Nat.ne_of_lt (Nat.lt_succ_of_lt hlS))
        have nS : s.heap.objs.size ∉ [(s.heap.push (emptyX w)).objs.size, l] := by
          rw [z1]
          intro z
          rcases List.mem_cons.mp z with z | z
          · exact absurd z (Nat.ne_of_lt (Nat.lt_succ_self _))
          · exact absurd (List.mem_singleton.mp z) (Nat.ne_of_gt hlS)
        have hsz : xs.length = items.size := by rw [← StrsAre.len_eq hi, Array.length_toList]
        have hval : ∀ (i : Nat) (v : Value), items[i]? = some v → ∃ t, v = .str (xs.getD i Str.empty) t := fun i v hv => SS.strs_at hi i v (by rw [Array.getElem?_toList]; exact hv)
        refine loopX ((Walks.list h3 _ l nI items).toS) s.heap.objs.size nS xs hsz (by omega) hval (items.size - 0) 0 _ (by omega) (Nat.zero_le _) ⟨⟨_, Heap.get?_push_size _ rfl, rfl, rfl⟩, (hl1.push _)⟩ ?hS0 ?hR
        case hS0 => exact SetX.new (Heap.get?_push_of_some _ hS)
        case hR =>
          intro s2 hm hS2
          obtain ⟨h2, g2, d2, tk2, o2⟩ := s2
          have eg : g2 = s.gens := hm.gens
          have ed : d2 = s.drawn := hm.drawn
          have eo : o2 = s.os := hm.os
          subst eg; subst ed; subst eo
          show wpAny _ _ _ _ _ _
          refine wpAny_pure ?_
          show wpAny _ _ (ret Value.none) _ _ _
          refine wpAny_pure ⟨rfl, h2, tk2, rfl, hS2, fun b o hb e => ?_⟩
          refine hm.heap b o ?_ (Heap.get?_push_of_some _ (Heap.get?_push_of_some _ e))
          rw [z1]
          intro z
          rcases List.mem_cons.mp z with z | z
          · exact absurd z (Nat.ne_of_lt hb)
          · exact absurd (List.mem_singleton.mp z) (Nat.ne_of_lt (Nat.lt_succ_of_lt hb))
      · cases r2 with
        | error e => exact hr2
        | ok fl2 =>
          cases fl2 with
          | ret r =>
            obtain ⟨rfl, h2, tk, rfl, hS2, hk2⟩ := hr2
            repeat (any_goals (first | assumption | wp_step))
            exact h _ _ hS2 hk2
          | _ => exact hr2.elim
    | _ => exact hr.elim
end
end DL

/-! sorted(set(a list of texts)) -/
namespace DL
open PySem PySem.Spec PyProof.Rows L2
section
variable {P : Program} {w : World} {A : Around} {E : Value → Shared → Prop} {s : Shared} {a : Addr} {xs : List Str}
theorem sorted_setX {Q : Value → Shared → Prop} (R : SetX P w s.heap a xs) (hh : A.handled = none)
    (hQ : ∀ s1 p (out : Array Value) (c : Nat), (∀ b o, s.heap.get? b = some o → s1.heap.get? b = some o) → s1.gens = s.gens → s1.os = s.os → s.heap.objs.size ≤ p → s1.heap.get? p = some (seqObj "list" out c) → StrsAre out.toList (isort leS xs) → Q (.ref p) s1) :
    wpAny (model P w) A (call (.builtin "sorted") [.ref a]) Q E s := by
  obtain ⟨o, es, ep, t, ⟨ho, hx, hd⟩, ⟨g, pm, nd⟩, ⟨hb, hf⟩, hr, hl⟩ := R
  refine Calls.call_function_entry kind_sorted plain_sorted entry_sorted (args_sorted1 _) ?_
  unfold Builtin.«sorted»
  refine wpAny_bind (m := checkCount "sorted" 1 1 _) (wpAny_pure ?_)
  refine wpAny_bind (collect_set (A := A.in1) hh ⟨o, ho, hx.1, hd⟩ hf hb hr hl fun s1 vs k1 hz g1 o1 pv => ?_)
  have hst : ∀ v ∈ vs, ∃ i t, v = Value.str i t := fun v hv => by
    obtain ⟨e, he, q⟩ := List.mem_map.mp (pv.mem_iff.mp hv)
    obtain ⟨x, tk, e1, _⟩ := g e he
    exact ⟨x, tk, by rw [← q]; exact e1⟩
  have hI : StrsAre vs (vs.map ss) := strs_ss hst
  have et : es.toList.map txtOf = (es.toList.map (·.2)).map ss := by
    rw [List.map_map]
    rfl
  have px : (vs.map ss).Perm xs := (pv.map ss).trans (by rw [← et]; exact pm)
  have hvl : vs.length ≤ sizeLine := by
    rw [pv.length_eq, List.length_map, Array.length_toList]
    exact fits_of_scanBound hb
  refine wpAny_bind (wpAny_newList ?_ hvl)
  have hoL : (s1.heap.push (seqObj "list" vs.toArray 0)).get? s1.heap.objs.size = some (seqObj "list" vs.toArray 0) := Heap.get?_push_size _ rfl
  refine wpAny_bind (wpAny_holding (wpAny_call_entry slot_list_sort ⟨_, hoL, rfl⟩ entry_list_sort (SrtO.list_sort_ord swo_str hoL hvl (fun h2 => strs_sortable hI h2) fun out q1 q2 => ⟨_, rfl, ?_⟩) (args_list_sort _)))
  obtain ⟨c, hc⟩ := sortedHeap_at (vs := vs) (out := out.toArray) hoL
  obtain ⟨r1, r2⟩ := strs_out hI q1 q2
  have r3 : isort leS (vs.map ss) = isort leS xs := isort_uniq leS_ok ((isort_perm _).trans px) (isort_sorted leS_ok _)
  refine wpAny_pure ⟨_, rfl, hQ _ s1.heap.objs.size out.toArray c (fun b u e => ?_) g1 o1 hz hc (by rw [← r3, ← r2]; exact r1)⟩
  have q := k1 b u e
  have hlt := Heap.lt_size q
  show (sortedHeap (s1.heap.push (seqObj "list" vs.toArray 0)) s1.heap.objs.size vs out.toArray).get? b = some u
  rw [sortedHeap_old (Nat.ne_of_lt hlt) (by rw [size_push']; exact Nat.lt_succ_of_lt hlt)]
  exact Heap.get?_push_of_some _ q
end
/-- as a thing of the heap -/
def SetXO (P : Program) (w : World) (a : Addr) (xs : List Str) : HO := .ext fun h => SetX P w h a xs
section
variable {X : Cx}
theorem setXO_new {P : Program} {w : World} {H : Hp} {h : Heap} {a : Addr} {xs : List Str} (R : SetX P w h a xs) : ObjOk P w H h a (SetXO P w a xs) := by
  have ⟨o, _, _, _, ⟨ho, _⟩, _⟩ := R
  exact ⟨R, ⟨o, ho⟩, fun h1 h2 p k => SetX.keep p k⟩
def rSetX (K : PySem.W.Frag) (P : Program) (w : World) : List V → Hp → VK → Prop := fun vs H Q => ∃ (l : Addr) (ns : List Str), vs = [V.ref l] ∧ SqL K H l (ns.map V.str) ∧ ns.length + 1 < scanBound ∧ ∀ p : Addr, H p = none → Q (.ref p) (upd H p (SetXO P w p (allX ns)))
theorem cr_setX (hc : X.calm = true) : CallR X (.type "set") (rSetX X.K X.prog X.w) := by
  intro pins s σ H vs us Q I r h
  obtain ⟨l, ns, rfl, hs, hn, q⟩ := h
  obtain ⟨its, rv, hl, hz⟩ := I.list hs
  rw [Vals.ref1 r]
  have hi : StrsAre its.toArray.toList ns := rv.strs
  refine call_setX (I.ok.hd hc) hl.isList hi hn fun h2 tk hS hk => ?_
  exact ⟨.ref _, upd H s.heap.objs.size (SetXO X.prog X.w s.heap.objs.size (allX ns)), I.laid (t' := tk) (fun b u e => hk b u (Heap.lt_size e) e) (Nat.le_refl _) (setXO_new hS), rfl, q _ (I.hok.fresh (Nat.le_refl _))⟩
def rSortedX (P : Program) (w : World) : List V → Hp → VK → Prop := fun vs H Q => ∃ (a : Addr) (xs : List Str), vs = [V.ref a] ∧ H a = some (SetXO P w a xs) ∧ xs.length ≤ sizeLine ∧ ∀ p : Addr, H p = none → Q (.ref p) (upd H p (.lst ((isort leS xs).map V.str)))
theorem cr_sortedX (hc : X.calm = true) : CallR X (.builtin "sorted") (rSortedX X.prog X.w) := by
  intro pins s σ H vs us Q I r h
  obtain ⟨a, xs, rfl, ha, hz, q⟩ := h
  have R : SetX X.prog X.w s.heap a xs := (I.hok a _ ha).1
  rw [Vals.ref1 r]
  refine sorted_setX R (I.ok.hd hc) fun s1 p out c k g o hp hg hi => ?_
  have hlen : ((isort leS xs).map V.str).length ≤ sizeLine := by rw [List.length_map, (isort_perm xs).length_eq]; exact hz
  have hn : H p = none := I.hok.fresh hp
  have J : Inv X pins σ (upd H p (.lst ((isort leS xs).map V.str))) { s with heap := s1.heap, gens := s1.gens, drawn := s1.drawn, toks := s1.toks } :=
    I.call (ch := []) (Un.laid k hp hn) (I.hok.laid k hp ⟨hlen, out.toList, c, vals_of_strs hi, hg⟩) (by rw [g]; exact I.bare) (fun _ z => nomatch z)
  have e : s1 = { s with heap := s1.heap, gens := s1.gens, drawn := s1.drawn, toks := s1.toks } := by
    cases s1
    cases s
    cases o
    rfl
  rw [e]
  exact ⟨.ref p, _, J, rfl, q p hn⟩
end
end DL

/-! sorted(set(xs)) as one reading -/
namespace DL
open PySem PySem.Spec PyProof.Rows L2
def sortedSetG : List D → Option D
  | [.lst _ xs] => (strsD xs).bind fun ns => if ns.length + 1 < scanBound then some (.lst true ((isort leS (allX ns)).map .str)) else none
  | _ => none
def rSortSet (K : PySem.W.Frag) (P : Program) (w : World) : List V → Hp → VK → Prop := fun vs H Q => rSetX K P w vs H fun v H1 => rSortedX P w [v] H1 Q
theorem sortSet_ok {K : PySem.W.Frag} {P : Program} {w : World} : OpN K (rSortSet K P w) sortedSetG := by
  intro H xs ds Q dr hx hg q
  match ds, hg with
  | [.lst m es], hg =>
    match hx with
    | .cons ⟨f, x⟩ .nil =>
      obtain ⟨a, vs, g, rfl, h, l⟩ := x.lstR
      obtain ⟨ns, e2, hg⟩ := Option.bind_eq_some_iff.mp hg
      obtain ⟨hn, rfl⟩ := ite_some hg
      have := strsD_map' e2
      subst this
      obtain ⟨rfl, rfl⟩ := dv_strs l
      have hl := foldX_len ns []
      have hz : (allX ns).length ≤ sizeLine := by
        have h1 : ns.length ≤ sizeLine := fits_of_scanBound (by omega)
        have e0 : ([] : List Str).length = 0 := rfl
        show (ns.foldl putX []).length ≤ sizeLine
        omega
      refine ⟨a, ns, rfl, h, hn, fun p hp => ⟨p, allX ns, rfl, by simp [upd], hz, fun p2 hp2 => ?_⟩⟩
      refine q _ _ ?_
      have f2 := fresh_lst (K := K) (strs_dv (K := K) (H := upd H p (SetXO P w p (allX ns))) (isort leS (allX ns))) hp2
      obtain ⟨k1, f, x, nd, nw⟩ := f2
      refine ⟨fun b o e => k1 b o (upd_ext hp b o e), f, x, nd, fun b hb => ?_⟩
      have := nw b hb
      unfold upd at this
      by_cases c : b = p
      · subst c
        exact hp
      · simpa [c] using this
section
variable {X : Cx} {c : Ct} {Ew : Xn → En → Prop} {e : Expr} {p p2 pos pos2 : Pos} {fs : FLs}
theorem de_sortSet (hm : X.mg "sorted" = none) (hm2 : X.mg "set" = none) (hc : X.calm = true) (hv : bootBuiltins "sorted" = some (.builtin "sorted")) (hv2 : bootBuiltins "set" = some (.type "set")) (ha : DA X c Ew [e] fs) (hg : Gl X "sorted" := by rfl) (hg2 : Gl X "set" := by rfl)
    (h1 : starEach [.Call (.Name "set" p2) [e] [] pos2] X.env = (false, eval (.Call (.Name "set" p2) [e] [] pos2) X.env) :: starEach [] X.env := by rfl) (h2 : (backTo pos (starEach [] X.env)).any (·.1) = false := by rfl)
    (h3 : starEach [e] X.env = (false, eval e X.env) :: starEach [] X.env := by rfl) (h4 : (backTo pos2 (starEach [] X.env)).any (·.1) = false := by rfl) :
    DE X c Ew (.Call (.Name "sorted" p) [.Call (.Name "set" p2) [e] [] pos2] [] pos) (fCallB sortedSetG fs) :=
  (pe_callB (cr_sortedX hc) hg hm hv (pa_cons (pe_callTy (cr_setX hc) hg2 hm2 hv2 ha (by decide) (by decide) h3 h4) pa_nil h1) (by decide) (by decide) h1 h2).dimp fun σ H Q h => by
    have := rd_opN (Ew := Ew) (c := c) (sortSet_ok (K := X.K) (P := X.prog) (w := X.w)) fs σ H Q h
    exact this
end
end DL

/-! methods of texts: strip, startswith, split -/
namespace DL
open PySem PySem.Spec PyProof.Rows L2
def stripD : D → D → Option D
  | .str x, .str y => if x.length ≤ sizeLine then some (.str (Txt.stripChars x y)) else none
  | _, _ => none
def startsD : D → D → Option D
  | .str x, .str y => some (.bl (Txt.startswith x y))
  | _, _ => none
def splitD : D → D → Option D
  | .str x, .str y => if (y.length == 0) = false ∧ x.length + 2 ≤ sizeLine then some (.lst true ((Txt.split x y).map .str)) else none
  | _, _ => none
def rStripX : V → List V → Hp → VK → Prop := fun x xs H Q => ∃ a b, x = .str a ∧ xs = [.str b] ∧ a.length ≤ sizeLine ∧ Q (.str (Txt.stripChars a b)) H
def rStartsX : V → List V → Hp → VK → Prop := fun x xs H Q => ∃ a b, x = .str a ∧ xs = [.str b] ∧ Q (.bl (Txt.startswith a b)) H
def rSplitX : V → List V → Hp → VK → Prop := fun x xs H Q => ∃ a b, x = .str a ∧ xs = [.str b] ∧ (b.length == 0) = false ∧ a.length + 2 ≤ sizeLine ∧ ∀ p, H p = none → Q (.ref p) (upd H p (.lst ((Txt.split a b).map V.str)))
theorem strip_ok {K : PySem.W.Frag} : Op2 K (fun x y => rStripX x [y]) stripD := by
  intro H x y d e f1 f2 Q dr hx hy hg q
  unfold stripD at hg
  split at hg
  · obtain ⟨h, rfl⟩ := ite_some hg
    exact ⟨_, _, hx.strR, by rw [hy.strR], h, q _ _ fresh_str⟩
  · cases hg
theorem starts_ok {K : PySem.W.Frag} : Op2 K (fun x y => rStartsX x [y]) startsD := by
  intro H x y d e f1 f2 Q dr hx hy hg q
  unfold startsD at hg
  split at hg
  · cases hg
    exact ⟨_, _, hx.strR, by rw [hy.strR], q _ _ (Fresh.same (.bl _))⟩
  · cases hg
theorem split_ok {K : PySem.W.Frag} : Op2 K (fun x y => rSplitX x [y]) splitD := by
  intro H x y d e f1 f2 Q dr hx hy hg q
  unfold splitD at hg
  split at hg
  · obtain ⟨h, rfl⟩ := ite_some hg
    exact ⟨_, _, hx.strR, by rw [hy.strR], h.1, h.2, fun p hp => q _ _ (fresh_lst (strs_dv _) hp)⟩
  · cases hg
section
variable {X : Cx} {c : Ct} {Ew : Xn → En → Prop} {o e : Expr} {pos apos : Pos} {fo fe : FO}
theorem de_strip (ho : DO X c Ew o fo) (he : DO X c Ew e fe) (hs : starEach [e] X.env = [(false, eval e X.env)] := by rfl) (hbase : attributeBase o "strip" X.env (eval o X.env) = eval o X.env := by rfl) (hline : (apos.endLine == pos.line) = true := by rfl) :
    DE X c Ew (.Call (.Attribute o "strip" apos) [e] [] pos) (fM1 stripD fo fe) := de_m1 F.slot_str_strip F.type_str_strip (r := rStripX) mt_stripChars strip_ok ho he hs hbase hline
theorem de_starts (ho : DO X c Ew o fo) (he : DO X c Ew e fe) (hs : starEach [e] X.env = [(false, eval e X.env)] := by rfl) (hbase : attributeBase o "startswith" X.env (eval o X.env) = eval o X.env := by rfl) (hline : (apos.endLine == pos.line) = true := by rfl) :
    DE X c Ew (.Call (.Attribute o "startswith" apos) [e] [] pos) (fM1 startsD fo fe) := de_m1 F.slot_str_startswith F.type_str_startswith (r := rStartsX) mt_startswith starts_ok ho he hs hbase hline
theorem de_split (ho : DO X c Ew o fo) (he : DO X c Ew e fe) (hs : starEach [e] X.env = [(false, eval e X.env)] := by rfl) (hbase : attributeBase o "split" X.env (eval o X.env) = eval o X.env := by rfl) (hline : (apos.endLine == pos.line) = true := by rfl) :
    DE X c Ew (.Call (.Attribute o "split" apos) [e] [] pos) (fM1 splitD fo fe) := de_m1 F.slot_str_split F.type_str_split (r := rSplitX) mt_split split_ok ho he hs hbase hline
end
end DL

/-! str(an int), int(a text) -/
namespace DL
open PySem PySem.Spec PyProof.Rows L2
def strG : List D → Option D
  | [.int i] => if i.natAbs.log2 < 1920 then some (.str (toString i)) else none
  | _ => none
def intSG : List D → Option D
  | [.str a] => (PySem.intText? a).bind fun n => if a.length ≤ 640 then some (.int n) else none
  | _ => none
def rStrI : List V → Hp → VK → Prop := fun xs H Q => ∃ i, xs = [.int i] ∧ i.natAbs.log2 < 1920 ∧ Q (.str (toString i)) H
def rIntS : List V → Hp → VK → Prop := fun xs H Q => ∃ a n, xs = [.str a] ∧ PySem.intText? a = some n ∧ a.length ≤ 640 ∧ Q (.int n) H
theorem strI_ok {K : PySem.W.Frag} : OpN K rStrI strG := by
  intro H xs ds Q dr hx hg q
  match ds, hg with
  | [.int i], hg =>
    match hx with
    | .cons ⟨f, x⟩ .nil =>
      obtain ⟨h, rfl⟩ := ite_some hg
      cases x
      exact ⟨i, rfl, h, q _ _ fresh_str⟩
theorem intS_ok {K : PySem.W.Frag} : OpN K rIntS intSG := by
  intro H xs ds Q dr hx hg q
  match ds, hg with
  | [.str a], hg =>
    match hx with
    | .cons ⟨f, x⟩ .nil =>
      obtain ⟨n, e, hg⟩ := Option.bind_eq_some_iff.mp hg
      obtain ⟨h, rfl⟩ := ite_some hg
      cases x
      exact ⟨a, n, rfl, e, h, q _ _ (Fresh.same (.int _))⟩
section
variable {X : Cx}
theorem cr_strI : CallR X (.type "str") rStrI := call_str_int
theorem cr_intS : CallR X (.type "int") rIntS := call_int_str
end
end DL

/-! sorted(set(a tuple of ints)) -/
namespace DL
open PySem PySem.Spec PyProof.Rows L2
def putI (xs : List Int) (x : Int) : List Int := if x ∈ xs then xs else x :: xs
def setI (xs : List Int) : List Int := isort leI (xs.foldl putI [])
theorem mem_putI {xs : List Int} {x y : Int} : y ∈ putI xs x ↔ y = x ∨ y ∈ xs := by
  unfold putI
  by_cases c : x ∈ xs
  · rw [if_pos c]
    exact ⟨.inr, fun h => h.elim (fun e => e ▸ c) id⟩
  · rw [if_neg c, List.mem_cons]
theorem mem_foldI {y : Int} : ∀ (ys xs : List Int), y ∈ ys.foldl putI xs ↔ y ∈ ys ∨ y ∈ xs
  | [], xs => by simp
  | z :: ys, xs => by
    rw [List.foldl_cons, mem_foldI ys, mem_putI, List.mem_cons]
    exact ⟨fun h => by rcases h with h | h | h <;> simp [h], fun h => by rcases h with (h | h) | h <;> simp [h]⟩
theorem nd_foldI : ∀ (ys xs : List Int), xs.Nodup → (ys.foldl putI xs).Nodup
  | [], _, h => h
  | z :: ys, xs, h => by
    rw [List.foldl_cons]
    refine nd_foldI ys _ ?_
    unfold putI
    by_cases c : z ∈ xs
    · rw [if_pos c]; exact h
    · rw [if_neg c]; exact List.nodup_cons.mpr ⟨c, h⟩
theorem mem_setI {xs : List Int} {x : Int} : x ∈ setI xs ↔ x ∈ xs := by
  unfold setI
  rw [(isort_perm _).mem_iff, mem_foldI]
  simp
theorem setI_asc (xs : List Int) : (setI xs).Pairwise (· < ·) := by
  unfold setI
  have h1 := isort_sorted leI_ok (xs.foldl putI [])
  have h2 : (isort leI (xs.foldl putI [])).Nodup := (isort_perm _).nodup_iff.mpr (nd_foldI xs [] List.nodup_nil)
  refine (h1.and h2).imp fun {a b} ⟨h3, h4⟩ => ?_
  have h3 : a ≤ b := of_decide_eq_true h3
  have h4 : a ≠ b := h4
  omega
theorem setI_uniq {xs ys : List Int} (h1 : ys.Pairwise (· < ·)) (h2 : ∀ k, k ∈ ys ↔ k ∈ xs) : ys = setI xs := by
  have n1 : ys.Nodup := h1.imp fun {a b} h => by omega
  have n2 : (setI xs).Nodup := (setI_asc xs).imp fun {a b} h => by omega
  have p : ys.Perm (setI xs) := (List.perm_ext_iff_of_nodup n1 n2).mpr fun k => (h2 k).trans mem_setI.symm
  have e1 := isort_uniq leI_ok p (h1.imp fun {a b} h => decide_eq_true (Int.le_of_lt h))
  have e2 := isort_uniq leI_ok (List.Perm.refl (setI xs)) ((setI_asc xs).imp fun {a b} h => decide_eq_true (Int.le_of_lt h))
  rw [e1]; exact e2.symm
def sortedSetIG : List D → Option D
  | [.tup xs] => (intsD xs).bind fun ns => if ns.length < 64 then some (.lst true ((setI ns).map .int)) else none
  | _ => none
section
variable {X : Cx}
def rSetTI (K : PySem.W.Frag) (w : World) : List V → Hp → VK → Prop := fun vs H Q => ∃ (l : Addr) (ns : List Int), vs = [V.ref l] ∧ SqT K H l (ns.map V.int) ∧ ns.length + 1 < scanBound ∧ ∀ (p : Addr) (c : Nat), c ≤ ns.length → H p = none → Q (.ref p) (upd H p (SetO w p (fun j => decide (j ∈ ns)) c))
theorem cr_setTI (hc : X.calm = true) : CallR X (.type "set") (rSetTI X.K X.w) := by
  intro pins s σ H vs us Q I r h
  obtain ⟨l, ns, rfl, hs, hn, q⟩ := h
  obtain ⟨its, rv, hl, hz⟩ := I.tuple hs
  rw [Vals.ref1 r]
  have hi : IntsAre its.toArray.toList ns := rv.ints
  refine call_set_tupI ns (I.ok.hd hc) hl hi hn fun h2 tk cc hS hcc hk => ?_
  exact ⟨.ref _, upd H s.heap.objs.size (SetO X.w s.heap.objs.size (fun j => decide (j ∈ ns)) cc), I.laid (t' := tk) (fun b u e => hk b u e) (Nat.le_refl _) (setO_new hS), rfl, q _ _ hcc (I.hok.fresh (Nat.le_refl _))⟩
end
def rSortSetI (K : PySem.W.Frag) (w : World) : List V → Hp → VK → Prop := fun vs H Q => rSetTI K w vs H fun v H1 => rSortedSet w [v] H1 Q
theorem sortSetI_ok {K : PySem.W.Frag} {w : World} : OpN K (rSortSetI K w) sortedSetIG := by
  intro H xs ds Q dr hx hg q
  match ds, hg with
  | [.tup es], hg =>
    match hx with
    | .cons ⟨f, x⟩ .nil =>
      obtain ⟨a, vs, rfl, h, l⟩ := x.tupR
      obtain ⟨ns, e2, hg⟩ := Option.bind_eq_some_iff.mp hg
      obtain ⟨hn, rfl⟩ := ite_some hg
      have := intsD_map' e2
      subst this
      obtain ⟨rfl, rfl⟩ := dv_ints l
      refine ⟨a, ns, rfl, h, by unfold scanBound; omega, fun p cc hcc hp => ⟨p, fun j => decide (j ∈ ns), cc, rfl, by simp [upd], by omega, fun ys p2 h1 h2 h3 hp2 => ?_⟩⟩
      have ey : ys = setI ns := setI_uniq h1 fun k => by rw [h2 k]; simp
      subst ey
      refine q _ _ ?_
      have f2 := fresh_lst (K := K) (ints_dv0 (K := K) (H := upd H p (SetO w p (fun j => decide (j ∈ ns)) cc)) (setI ns)) hp2
      obtain ⟨k1, f, x, nd, nw⟩ := f2
      refine ⟨fun b o e => k1 b o (upd_ext hp b o e), f, x, nd, fun b hb => ?_⟩
      have := nw b hb
      unfold upd at this
      by_cases c : b = p
      · subst c
        exact hp
      · simpa [c] using this
section
variable {X : Cx} {c : Ct} {Ew : Xn → En → Prop} {e : Expr} {p p2 pos pos2 : Pos} {fs : FLs}
theorem de_sortSetI (hm : X.mg "sorted" = none) (hm2 : X.mg "set" = none) (hc : X.calm = true) (hv : bootBuiltins "sorted" = some (.builtin "sorted")) (hv2 : bootBuiltins "set" = some (.type "set")) (ha : DA X c Ew [e] fs) (hg : Gl X "sorted" := by rfl) (hg2 : Gl X "set" := by rfl)
    (h1 : starEach [.Call (.Name "set" p2) [e] [] pos2] X.env = (false, eval (.Call (.Name "set" p2) [e] [] pos2) X.env) :: starEach [] X.env := by rfl) (h2 : (backTo pos (starEach [] X.env)).any (·.1) = false := by rfl)
    (h3 : starEach [e] X.env = (false, eval e X.env) :: starEach [] X.env := by rfl) (h4 : (backTo pos2 (starEach [] X.env)).any (·.1) = false := by rfl) :
    DE X c Ew (.Call (.Name "sorted" p) [.Call (.Name "set" p2) [e] [] pos2] [] pos) (fCallB sortedSetIG fs) :=
  (pe_callB (cr_sortedSet hc) hg hm hv (pa_cons (pe_callTy (cr_setTI hc) hg2 hm2 hv2 ha (by decide) (by decide) h3 h4) pa_nil h1) (by decide) (by decide) h1 h2).dimp fun σ H Q h => by
    have := rd_opN (Ew := Ew) (c := c) (sortSetI_ok (K := X.K) (w := X.w)) fs σ H Q h
    exact this
end
end DL

/-! methods of texts, several arguments; startswith(x, place) -/
namespace DL
open PySem PySem.Spec PyProof.Rows L2
def fMA (g : List D → Option D) (fo : FO) (fs : FLs) : FE := fun ρ => (fo ρ).bind fun a ρ1 => match res a ρ1 with
  | some (.str z) => (fs ρ1).bind fun as ρ2 => match ress as ρ2 with
    | some ds => R.of (g (.str z :: ds)) ρ2
    | none => .stk
  | _ => .stk
def starts3G : List D → Option D
  | [.str a, .str b, .int i] => some (.bl (Txt.startswith3 a b i))
  | _ => none
def rStarts3 : V → List V → Hp → VK → Prop := fun x xs H Q => ∃ (a b : Str) (i : Int), x = .str a ∧ xs = [.str b, .int i] ∧ Q (.bl (Txt.startswith3 a b i)) H
theorem starts3_ok {K : PySem.W.Frag} : OpN K (fun vs H Q => ∃ x xs, vs = x :: xs ∧ rStarts3 x xs H Q) starts3G := by
  intro H vs ds Q dr hx hg q
  match ds, hg with
  | [.str a, .str b, .int i], hg =>
    match hx with
    | .cons ⟨_, x⟩ (.cons ⟨_, y⟩ (.cons ⟨_, z⟩ .nil)) =>
      cases hg
      cases x
      cases y
      cases z
      exact ⟨_, _, rfl, a, b, i, rfl, rfl, q _ _ (Fresh.same (.bl _))⟩
section
variable {X : Cx} {c : Ct} {Ew : Xn → En → Prop} {o e : Expr} {es : List Expr} {pos apos : Pos} {fo : FO} {fs : FLs}
theorem de_mA {id : String} {name : Str} {r : V → List V → Hp → VK → Prop} {g : List D → Option D} (slot : Slot "str" name id) (ty : typeOf (.builtin id) = pure (.type "method_descriptor")) (rule : MtR X id r) (h : OpN X.K (fun vs H Q => ∃ x xs, vs = x :: xs ∧ r x xs H Q) g) (ho : DO X c Ew o fo) (ha : DA X c Ew (e :: es) fs)
    (hpe : PE X (.Call (.Attribute o name apos) (e :: es) [] pos) (tBM X.K "str" r (rdO X.K c Ew fo) (rdA X.K c Ew fs))) :
    DE X c Ew (.Call (.Attribute o name apos) (e :: es) [] pos) (fMA g fo fs) := hpe.dimp fun σ H Q ⟨ρ, P, rp, q⟩ => by
  unfold fMA at q
  rw [R.sat_bind] at q
  refine ⟨ρ, P, rp, q.imp fun a ρ1 q v H1 Pn r1 oka => ?_⟩
  split at q
  · rename_i z ea
    obtain ⟨f1, x⟩ := oka.dv r1 ea
    obtain rfl := x.strR
    refine ⟨rfl, ρ1, Pn ++ P, r1, ?_⟩
    rw [R.sat_bind] at q
    refine q.imp fun as ρ2 q us H2 Pm r2 oks => ?_
    split at q
    · rename_i ds eb
      have l := ArOk.dvs r2 oks eb
      obtain ⟨dr, e1, q⟩ := R.of_sat q
      obtain ⟨x2, xs2, e3, hr⟩ := h H2 (.str z :: us) (.str z :: ds) Q dr (.cons ⟨[], .str z⟩ l) e1 fun w H3 fr => q w H3 (Rp.fresh r2.pops.pops fr)
      cases e3
      exact hr
    · exact q.elim
  · exact q.elim
theorem de_starts3 (ho : DO X c Ew o fo) (ha : DA X c Ew (e :: es) fs) (hbase : attributeBase o "startswith" X.env (eval o X.env) = eval o X.env := by rfl)
    (hfew : ((backTo pos (starEach (e :: es) X.env)).all (fun x => !x.1) && (backToKw pos (keywordEach [] X.env)).all (fun x => x.1.isSome) && decide ((e :: es).length + ([] : List Keyword).length + (if ([] : List Keyword).isEmpty then 0 else 1) < 30)) = true := by rfl)
    (hline : (apos.endLine == pos.line) = true := by rfl) (h1 : starEach (e :: es) X.env = (false, eval e X.env) :: starEach es X.env := by rfl) (h2 : (backTo pos (starEach es X.env)).any (·.1) = false := by rfl) :
    DE X c Ew (.Call (.Attribute o "startswith" apos) (e :: es) [] pos) (fMA starts3G fo fs) :=
  de_mA F.slot_str_startswith F.type_str_startswith (r := rStarts3) mt_startswith3 starts3_ok ho ha (pe_bm F.plainAttrs_str F.slot_str_startswith F.type_str_startswith mt_startswith3 ho ha hbase hfew hline h1 h2)
end
end DL

/-! sorted: of tuples of ints and texts -/
namespace DL
open PySem PySem.Spec PyProof.Rows L2
abbrev It := Int ⊕ Str
def encIt : It → D
  | .inl n => .int n
  | .inr s => .str s
def encRow (r : List It) : D := .tup (r.map encIt)
def keyIt : It → Int ⊕ List Nat
  | .inl n => .inl n
  | .inr s => .inr s.cps.toList
def keyR (r : List It) : List (Int ⊕ List Nat) := r.map keyIt
def ltK (a b : List (Int ⊕ List Nat)) : Bool := lexLt itemOrd a b
def leT (a b : List It) : Bool := !ltK (keyR b) (keyR a)
def itsOf : List D → Option (List It)
  | [] => some []
  | .int n :: r => (itsOf r).map (.inl n :: ·)
  | .str s :: r => (itsOf r).map (.inr s :: ·)
  | _ :: _ => none
def shOk (sh : Nat → Bool) : Nat → List It → Bool
  | _, [] => true
  | i, .inl _ :: r => !sh i && shOk sh (i + 1) r
  | i, .inr _ :: r => sh i && shOk sh (i + 1) r
def rowOk (sh : Nat → Bool) (r : List It) : Bool := !r.isEmpty && shOk sh 0 r
def rowsOf (sh : Nat → Bool) : List D → Option (List (List It))
  | [] => some []
  | .tup xs :: ds => match itsOf xs with
    | some r => if rowOk sh r = true then (rowsOf sh ds).map (r :: ·) else none
    | none => none
  | _ :: _ => none
/-- sorted(xs): tuples of ints and texts, of one shape -/
def sortedTG (sh : Nat → Bool) : List D → Option D
  | [.lst _ ds] => (rowsOf sh ds).map fun rs => .lst true ((isort leT rs).map encRow)
  | _ => none
theorem keyIt_inj {a b : It} (h : keyIt a = keyIt b) : a = b := by
  cases a <;> cases b <;> simp only [keyIt, Sum.inl.injEq, Sum.inr.injEq, reduceCtorEq] at h
  · rw [h]
  · rw [str_ext h]
theorem keyR_inj : ∀ {a b : List It}, keyR a = keyR b → a = b
  | [], [], _ => rfl
  | [], _ :: _, h => by simp [keyR] at h
  | _ :: _, [], h => by simp [keyR] at h
  | x :: a, y :: b, h => by
    simp only [keyR, List.map_cons, List.cons.injEq] at h
    rw [keyIt_inj h.1, keyR_inj (a := a) (b := b) h.2]
theorem ltK_asym {a b : List (Int ⊕ List Nat)} (h : ltK a b = true) : ltK b a = false := by
  cases e : ltK b a with
  | false => rfl
  | true =>
    have := (listOrd itemOrd).trans a b a h e
    rw [(listOrd itemOrd).irrefl a] at this
    cases this
theorem ltK_neg {a b c : List (Int ⊕ List Nat)} (h1 : ltK b a = false) (h2 : ltK c b = false) : ltK c a = false := by
  cases e : ltK c a with
  | false => rfl
  | true =>
    rcases (listOrd itemOrd).negTrans c b a e with h | h
    · exact absurd (h2.symm.trans h) (by decide)
    · exact absurd (h1.symm.trans h) (by decide)
theorem leT_ok : LeOk leT := by
  refine ⟨fun a b => ?_, fun a b c h1 h2 => ?_, fun a b h1 h2 => ?_⟩
  · unfold leT
    cases e : ltK (keyR b) (keyR a) with
    | false => exact .inl rfl
    | true => right; rw [ltK_asym e]; rfl
  · unfold leT at *
    simp only [Bool.not_eq_true'] at *
    exact ltK_neg h1 h2
  · unfold leT at *
    simp only [Bool.not_eq_true'] at *
    exact keyR_inj ((listOrd itemOrd).total _ _ h2 h1)
theorem itsOf_map : ∀ {xs : List D} {r : List It}, itsOf xs = some r → xs = r.map encIt
  | [], r, h => by cases h; rfl
  | d :: ds, r, h => by
    cases d with
    | int i =>
      obtain ⟨ms, h1, h2⟩ := Option.map_eq_some_iff.mp (show (itsOf ds).map (.inl i :: ·) = some r from h)
      subst h2
      rw [itsOf_map h1]; rfl
    | str i =>
      obtain ⟨ms, h1, h2⟩ := Option.map_eq_some_iff.mp (show (itsOf ds).map (.inr i :: ·) = some r from h)
      subst h2
      rw [itsOf_map h1]; rfl
    | _ => cases h
theorem its_of : ∀ r : List It, itsOf (r.map encIt) = some r
  | [] => rfl
  | .inl n :: r => by show (itsOf (r.map encIt)).map _ = _; rw [its_of r]; rfl
  | .inr n :: r => by show (itsOf (r.map encIt)).map _ = _; rw [its_of r]; rfl
theorem rowsOf_map {sh : Nat → Bool} : ∀ {ds : List D} {rs : List (List It)}, rowsOf sh ds = some rs → ds = rs.map encRow ∧ ∀ r ∈ rs, rowOk sh r = true
  | [], rs, h => by cases h; exact ⟨rfl, fun r hr => nomatch hr⟩
  | d :: ds, rs, h => by
    cases d with
    | tup xs =>
      have h : (match itsOf xs with
        | some r => if rowOk sh r = true then (rowsOf sh ds).map (r :: ·) else none
        | none => none) = some rs := h
      cases e : itsOf xs with
      | none => rw [e] at h; cases h
      | some r =>
        rw [e] at h
        obtain ⟨c, h⟩ : rowOk sh r = true ∧ (rowsOf sh ds).map (r :: ·) = some rs := by
          by_cases c : rowOk sh r = true
          · exact ⟨c, by simpa [c] using h⟩
          · simp [c] at h
        obtain ⟨ms, h1, h2⟩ := Option.map_eq_some_iff.mp h
        subst h2
        obtain ⟨e1, e2⟩ := rowsOf_map h1
        refine ⟨by rw [e1, itsOf_map e]; rfl, fun q hq => ?_⟩
        rcases List.mem_cons.mp hq with rfl | hq
        · exact c
        · exact e2 q hq
    | _ => cases h
theorem rows_of {sh : Nat → Bool} : ∀ {rs : List (List It)}, (∀ r ∈ rs, rowOk sh r = true) → rowsOf sh (rs.map encRow) = some rs
  | [], _ => rfl
  | r :: rs, h => by
    show (match itsOf (r.map encIt) with
        | some r => if rowOk sh r = true then (rowsOf sh (rs.map encRow)).map (r :: ·) else none
        | none => none) = some (r :: rs)
    rw [its_of, rows_of fun q hq => h q (List.mem_cons_of_mem _ hq)]
    show (if rowOk sh r = true then _ else _) = _
    rw [if_pos (h r List.mem_cons_self)]; rfl
/-! values -/
def keyC (h : Heap) (sh : Nat → Bool) (v : Value) : List (Int ⊕ List Nat) := (tupKey h sh v).getD []
def ltC (h : Heap) (sh : Nat → Bool) (u v : Value) : Bool := ltK (keyC h sh u) (keyC h sh v)
theorem swoC (h : Heap) (sh : Nat → Bool) : SrtO.Swo (ltC h sh) := ⟨fun x y e => ltK_asym e, fun x y z h1 h2 => ltK_neg h1 h2⟩
/-- v is the tuple of a row -/
def RowV (h : Heap) (sh : Nat → Bool) (v : Value) (r : List It) : Prop := ∃ a o xs n, v = .ref a ∧ h.get? a = some o ∧ o.cls = .type "tuple" ∧ o.data = .seq xs n ∧ tupItems sh 0 xs.toList = some (keyR r) ∧ r ≠ []
theorem RowV.key {h : Heap} {sh : Nat → Bool} {v : Value} {r : List It} (x : RowV h sh v r) : tupKey h sh v = some (keyR r) := by
  obtain ⟨a, o, xs, n, rfl, ho, hc, hd, hi, _⟩ := x
  simp only [tupKey, ho, hd]; exact hi
theorem RowV.keyC {h : Heap} {sh : Nat → Bool} {v : Value} {r : List It} (x : RowV h sh v r) : keyC h sh v = keyR r := by
  unfold DL.keyC; rw [x.key]; rfl
theorem RowV.keep {h h' : Heap} {sh : Nat → Bool} {v : Value} {r : List It} (x : RowV h sh v r) (k : ∀ b o, h.get? b = some o → o.cls = .type "tuple" → h'.get? b = some o) : RowV h' sh v r := by
  obtain ⟨a, o, xs, n, e, ho, hc, hd, hi⟩ := x
  exact ⟨a, o, xs, n, e, k a o ho hc, hc, hd, hi⟩
theorem RowV.tupOf {h : Heap} {sh : Nat → Bool} {v : Value} {r : List It} (x : RowV h sh v r) : ∃ f, TupOf h sh v f := by
  obtain ⟨a, o, xs, n, e, ho, hc, hd, hi, hr⟩ := x
  cases hx : xs.toList with
  | nil =>
    rw [hx] at hi
    have hi : some ([] : List (Int ⊕ List Nat)) = some (keyR r) := by simpa [tupItems] using hi
    cases r with
    | nil => exact absurd rfl hr
    | cons y r => simp [keyR] at hi
  | cons y ys =>
    refine ⟨y, a, o, xs, n, e, ho, hc, hd, ?_, ?_, ?_⟩
    · rw [← Array.getElem?_toList, hx]; rfl
    · intro hs
      rw [hx] at hi
      cases y with
      | int k t => exact ⟨k, t, rfl⟩
      | str z t => simp [tupItems, hs] at hi
      | _ => simp [tupItems] at hi
    · intro hs
      rw [hx] at hi
      cases y with
      | str k t => exact ⟨k, t, rfl⟩
      | int z t => simp [tupItems, hs] at hi
      | _ => simp [tupItems] at hi
theorem tupsOf_rows {h : Heap} {sh : Nat → Bool} : ∀ {vs : List Value}, (∀ v ∈ vs, ∃ r, RowV h sh v r) → ∃ fs, TupsOf h sh vs fs
  | [], _ => ⟨[], .nil⟩
  | v :: vs, k => by
    obtain ⟨r, hr⟩ := k v List.mem_cons_self
    obtain ⟨f, hf⟩ := hr.tupOf
    obtain ⟨fs, hfs⟩ := tupsOf_rows fun u hu => k u (List.mem_cons_of_mem _ hu)
    exact ⟨f :: fs, .cons hf hfs⟩
theorem tupsOf_len {h : Heap} {sh : Nat → Bool} : ∀ {vs fs : List Value}, TupsOf h sh vs fs → fs.length = vs.length
  | _, _, .nil => rfl
  | _, _, .cons _ r => congrArg (· + 1) (tupsOf_len r)
section
variable {prog : Program} {w : World} {A : Around} {s : Shared}
theorem rows_sortable {a : Addr} {vs : List Value} {h0 : Heap} {sh : Nat → Bool} (h2 : 0 < vs.length) (hp : ∀ v ∈ vs, ∃ r, RowV h0 sh v r) (hk : ∀ b o, h0.get? b = some o → b ≠ a ∧ s.heap.get? b = some o) : SrtO.SortableO prog w A s a vs (ltC h0 sh) := by
  intro h' keep
  have kp : ∀ b o, h0.get? b = some o → o.cls = .type "tuple" → h'.get? b = some o := fun b o e c => keep b o (hk b o e).1 (hk b o e).2
  have hp' : ∀ v ∈ vs, ∃ r, RowV h' sh v r := fun v hm => by
    obtain ⟨r, hr⟩ := hp v hm
    exact ⟨r, hr.keep kp⟩
  obtain ⟨fs, hf⟩ := tupsOf_rows hp'
  refine ⟨tuples' true, fun Q E hq => ?_, fun p q h1 h3 => ?_⟩
  · exact tup_kind (s := { s with heap := h' }) (by rw [tupsOf_len hf]; exact h2) hf hq
  · obtain ⟨r1, x1⟩ := hp _ h1
    obtain ⟨r2, x2⟩ := hp _ h3
    have e : SrtO.lt2 (ltC h0 sh) p q = ltK (keyR r1) (keyR r2) := by
      show ltK (keyC h0 sh p.1) (keyC h0 sh q.1) = _
      rw [x1.keyC, x2.keyC]
    obtain ⟨a1, o1, xs1, n1, e1, ho1, hc1, hd1, hi1, _⟩ := x1.keep kp
    obtain ⟨a2, o2, xs2, n2, e2, ho2, hc2, hd2, hi2, _⟩ := x2.keep kp
    rw [e, e1, e2]
    exact PySem.W.kat_lt (s := { s with heap := h' }) ho1 hd1 ho2 hd2 (tup_lex xs1.toList xs2.toList 0 _ _ hi1 hi2 (by rw [Array.length_toList, Array.length_toList]) ⟨rfl, rfl⟩)
end
theorem dvl_cons {K : PySem.W.Frag} {H : Hp} {d : D} {ds : List D} {y : V} {ys : List V} {fp : List Addr} (l : DvL K H (d :: ds) (y :: ys) fp) : ∃ f1 f2, fp = f1 ++ f2 ∧ Dv K H d y f1 ∧ DvL K H ds ys f2 := by
  cases l with
  | cons x l => exact ⟨_, _, rfl, x, l⟩
def unK : Int ⊕ List Nat → It
  | .inl n => .inl n
  | .inr l => .inr (T l)
theorem unK_key (x : It) : unK (keyIt x) = x := by
  cases x with
  | inl n => rfl
  | inr s => exact congrArg Sum.inr (str_ext (T_cps _))
theorem unR_key (r : List It) : (keyR r).map unK = r := by
  unfold keyR
  rw [List.map_map]
  exact (List.map_congr_left fun x _ => unK_key x).trans (List.map_id _)
section
variable {X : Cx} {pins : List (Addr × Obj)} {σ : L2.St} {H : Hp} {s : Shared} {sh : Nat → Bool}
theorem items_row : ∀ {r : List It} {xs : List V} {us : List Value} {f : List Addr} {i : Nat}, DvL X.K H (r.map encIt) xs f → Vals xs us → shOk sh i r = true → tupItems sh i us = some (keyR r)
  | [], _, _, _, _, .nil, .nil, _ => rfl
  | .inl n :: r, _, _, _, i, .cons x l, .cons rx rl, h => by
    have h : (!sh i && shOk sh (i + 1) r) = true := h
    simp only [Bool.and_eq_true, Bool.not_eq_true'] at h
    have e := x.intR
    subst e
    obtain ⟨t, rfl⟩ := rx
    show (if sh i = true then none else _) = _
    rw [if_neg (by rw [h.1]; decide), items_row l rl h.2]; rfl
  | .inr n :: r, _, _, _, i, .cons x l, .cons rx rl, h => by
    have h : (sh i && shOk sh (i + 1) r) = true := h
    simp only [Bool.and_eq_true] at h
    have e := x.strR
    subst e
    obtain ⟨t, rfl⟩ := rx
    show (if sh i = true then _ else none) = _
    rw [if_pos h.1, items_row l rl h.2]; rfl
def unV (h : Heap) (sh : Nat → Bool) (v : Value) : List It := (keyC h sh v).map unK
theorem RowV.un {h : Heap} {v : Value} {r : List It} (x : RowV h sh v r) : unV h sh v = r := by
  unfold unV; rw [x.keyC, unR_key]
theorem row_v (I : Inv X pins σ H s) {r : List It} {y : V} {f : List Addr} {u : Value} (x : Dv X.K H (encRow r) y f) (hr : rowOk sh r = true) (ru : RelV y u) : RowV s.heap sh u r ∧ ∃ a, u = .ref a ∧ y = .ref a := by
  obtain ⟨a, xs, rfl, h, l⟩ := Dv.tupR x
  obtain ⟨its, rv, ⟨o, ho, hc, n, hd⟩, hz⟩ := I.tuple h
  obtain rfl : u = .ref a := ru
  unfold rowOk at hr
  simp only [Bool.and_eq_true, Bool.not_eq_true', List.isEmpty_eq_false_iff] at hr
  exact ⟨⟨a, o, its.toArray, n, rfl, ho, hc, hd, items_row l rv hr.2, hr.1⟩, a, rfl, rfl⟩
theorem rows_v (I : Inv X pins σ H s) : ∀ {rs : List (List It)} {ys : List V} {us : List Value}, DvL X.K H (rs.map encRow) ys [] → Vals ys us → (∀ r ∈ rs, rowOk sh r = true) → us.map (unV s.heap sh) = rs ∧ ∀ v ∈ us, (∃ r, RowV s.heap sh v r) ∧ Dv X.K H (encRow (unV s.heap sh v)) (backV v) [] ∧ ∃ a, v = .ref a
  | [], _, _, .nil, .nil, _ => ⟨rfl, fun v hv => nomatch hv⟩
  | r :: rs, ys, us, l, rv, h => by
    cases rv with
    | nil => cases l
    | @cons y u ys us ru rl =>
      have key := dvl_cons l
      obtain ⟨f1, f2, hf, x, l⟩ := key
      obtain ⟨rfl, rfl⟩ := List.append_eq_nil_iff.mp hf.symm
      obtain ⟨e1, e2⟩ := rows_v I l rl fun q hq => h q (List.mem_cons_of_mem _ hq)
      obtain ⟨x1, a, rfl, rfl⟩ := row_v I x (h r List.mem_cons_self) ru
      refine ⟨by rw [List.map_cons, e1, x1.un], fun v hv => ?_⟩
      rcases List.mem_cons.mp hv with rfl | hv
      · exact ⟨⟨r, x1⟩, by rw [x1.un]; exact x, a, rfl⟩
      · exact e2 v hv
theorem dvl_all {g : Value → List It} : ∀ {us : List Value}, (∀ v ∈ us, Dv X.K H (encRow (g v)) (backV v) []) → DvL X.K H ((us.map g).map encRow) (us.map backV) []
  | [], _ => .nil
  | v :: us, h => .cons (f1 := []) (f2 := []) (h v List.mem_cons_self) (dvl_all fun u hu => h u (List.mem_cons_of_mem _ hu))
end
def rSortT (K : PySem.W.Frag) (sh : Nat → Bool) : List V → Hp → VK → Prop := fun vs H Q => ∃ (a : Addr) (ys : List V) (rs : List (List It)), vs = [V.ref a] ∧ SqL K H a ys ∧ DvL K H (rs.map encRow) ys [] ∧ (∀ r ∈ rs, rowOk sh r = true) ∧ ∀ (p : Addr) (zs : List V), H p = none → DvL K H ((isort leT rs).map encRow) zs [] → Q (.ref p) (upd H p (.lst zs))
theorem cr_sortT {X : Cx} {sh : Nat → Bool} : CallR X (.builtin "sorted") (rSortT X.K sh) := by
  intro pins s σ H vs us Q I r h
  obtain ⟨a, ys, rs, rfl, hs, hl0, hok, q⟩ := h
  obtain ⟨its, rv, hl, hz⟩ := I.list hs
  rw [Vals.ref1 r]
  obtain ⟨e1, e2⟩ := rows_v I hl0 rv hok
  refine SrtO.sorted_ord (swoC s.heap sh) hl.isList (by rw [← rv.length]; exact hz) (fun h2 h₁ a' _ kk => rows_sortable (s := { s with heap := h₁ }) (by omega) (fun v hv => (e2 v hv).1) kk) fun out h1 h2 => ?_
  have hm : ∀ v ∈ out, v ∈ its := fun v hv => h2.perm.mem_iff.mp hv
  have es : out.map (unV s.heap sh) = isort leT rs := by
    refine isort_uniq leT_ok ?_ ?_
    · rw [← e1]; exact h2.perm.map _
    · refine List.pairwise_map.mpr ((List.Pairwise.and_mem.mp h1).imp fun {x y} h => ?_)
      obtain ⟨hx, hy, h⟩ := h
      obtain ⟨r1, x1⟩ := (e2 x (hm x hx)).1
      obtain ⟨r2, x2⟩ := (e2 y (hm y hy)).1
      rw [x1.un, x2.un]
      have h : ltK (keyC s.heap sh y) (keyC s.heap sh x) = false := h
      rw [x1.keyC, x2.keyC] at h
      unfold leT
      rw [h]; rfl
  obtain ⟨ep, he'⟩ := PyProof.Rows.sortedAll_at s.heap its out.toArray
  have hlen : (out.map backV).length ≤ sizeLine := by
    rw [List.length_map, h2.len, ← rv.length]
    exact hz
  have hd : DvL X.K H ((isort leT rs).map encRow) (out.map backV) [] := by
    rw [← es]
    exact dvl_all fun v hv => (e2 v (hm v hv)).2.1
  exact ⟨.ref _, upd H (s.heap.objs.size + 1) (.lst (out.map backV)), I.laid (t' := s.toks) (fun _ _ => PyProof.Rows.sortedAll_old) (Nat.le_succ _) ⟨hlen, out, ep, vals_back fun u hu => (e2 u (hm u hu)).2.2, he'⟩, rfl, q _ _ (I.hok.fresh (Nat.le_succ _)) hd⟩
theorem frows : ∀ rs : List (List It), D.isFL (rs.map encRow) = true
  | [] => rfl
  | r :: rs => by
    have h1 : ∀ l : List It, D.isFL (l.map encIt) = true := fun l => by
      induction l with
      | nil => rfl
      | cons x l ih => cases x <;> exact ih
    show (D.isFL (r.map encIt) && D.isFL (rs.map encRow)) = true
    rw [h1 r, frows rs]; rfl
theorem sortT_ok {K : PySem.W.Frag} {sh : Nat → Bool} : OpN K (rSortT K sh) (sortedTG sh) := by
  intro H xs ds Q dr hx hg q
  match ds, hg with
  | [.lst m es], hg =>
    match hx with
    | .cons ⟨f, x⟩ .nil =>
      obtain ⟨a, vs, g, rfl, h, l⟩ := x.lstR
      obtain ⟨rs, e, rfl⟩ := Option.map_eq_some_iff.mp (show (rowsOf sh es).map _ = some dr from hg)
      obtain ⟨rfl, hok⟩ := rowsOf_map e
      have hf := l.fz (frows rs)
      subst hf
      exact ⟨a, vs, rs, rfl, h, l, hok, fun p zs hp hd => q _ _ (fresh_lst hd hp)⟩
def shIS (i : Nat) : Bool := i == 1
def shSI (i : Nat) : Bool := i == 0
def shI (_ : Nat) : Bool := false
def shS (_ : Nat) : Bool := true
end DL

/-! zip whose pairs are held: drawn to the end -/
namespace ZC
open PySem PySem.Spec PyProof.Rows
abbrev IsZipB (h : Heap) (z TI TO : Addr) (f0 : Value) (b : Bool) : Prop := h.get? z = some { cls := .type "zip", dict := none, data := .fields #[f0, .bool b, .bool false, .ref TI, .ref TO], slots := #[] }
section
variable {prog : Program} {w : World} {A : Around} {E : Value → Shared → Prop} {s : Shared} {z TI TO i1 i2 : Addr} {fp1 fp2 : List Addr} {n1 n2 i : Nat} {P1 P2 : Nat → Value → Prop} {St1 St2 : Nat → Heap → Prop} {a1 a2 : Value}
theorem wpAny_alive {a : Addr} {o : Obj} {Q : Option Obj → Shared → Prop} (h : s.heap.get? a = some o) (q : Q (some o) s) : wpAny (model prog w) A (loadIfAlive a) Q E s := by
  intro Γ p _
  rw [← h] at q
  exact q
theorem owned_not {T : Addr} {b : Bool} {o : Obj} {Q : Bool → Shared → Prop} (hz : IsZipB s.heap z TI TO (rawInt T) b) (hT : s.heap.get? T = some o)
    (hQ : ∀ h', IsZipB h' z TI TO (rawInt T) true → Heap.SameBut z s.heap h' → Q false { s with heap := h' }) : wpAny (model prog w) A (Builtin.SmallTypes.ownedTupleIsFree (.ref z)) Q E s := by
  unfold Builtin.SmallTypes.ownedTupleIsFree
  refine wpAny_bind (wpAny_field hz rfl (x := rawInt T) rfl ?_)
  show wpAny _ _ (loadIfAlive T >>= _) _ _ s
  refine wpAny_bind (wpAny_alive hT ?_)
  simp only [Option.isNone_some, Bool.false_eq_true, if_false]
  refine wpAny_bind (wpAny_field hz rfl (x := .bool b) rfl ?_)
  cases b with
  | true =>
    show wpAny _ _ (if ((Value.bool true != Value.bool true) = true) then _ else _) _ _ s
    rw [if_neg (by decide)]
    exact wpAny_pure (hQ s.heap hz ⟨rfl, fun b _ => rfl⟩)
  | false =>
    show wpAny _ _ (if ((Value.bool false != Value.bool true) = true) then _ else _) _ _ s
    rw [if_pos (by decide)]
    refine wpAny_bind (wpAny_setField_rec hz (by simp) fun h1 hz1 hs1 => ?_)
    exact wpAny_pure (hQ h1 hz1 hs1)
theorem next_item {T : Addr} {b : Bool} {o : Obj} {Q : Value → Shared → Prop} (S : ZipSep2 z TI TO i1 i2 fp1 fp2) (D1 : Draws prog w A i1 fp1 n1 P1 St1) (D2 : Draws prog w A i2 fp2 n2 P2 St2)
    (hz : IsZipB s.heap z TI TO (rawInt T) b) (hT : s.heap.get? T = some o) (hTI : IsTupOf2 s.heap TI (.ref i1) (.ref i2)) (st1 : St1 i s.heap) (st2 : St2 i s.heap) (hlt1 : i < n1) (hlt2 : i < n2)
    (hQ : ∀ x1 x2 h' tk, P1 i x1 → P2 i x2 → IsZipB h' z TI TO (rawInt T) true → St1 (i + 1) h' → St2 (i + 1) h' → IsTupOf2 h' s.heap.objs.size x1 x2 → h'.objs.size = s.heap.objs.size + 1 →
      (∀ c o, c ≠ z → c ≠ i1 → c ≠ i2 → s.heap.get? c = some o → h'.get? c = some o) → Q (.ref s.heap.objs.size) { s with heap := h', toks := tk }) :
    wpAny (model prog w) A (Builtin.«zip.__next__» ⟨[.ref z], []⟩) (fun fin s' => ∃ v, fin = .done (.ret v) ∧ Q v s') E s := by
  obtain ⟨hp, g, d, tk0, os⟩ := s
  show wpAny _ _ (field (.ref z) 2 >>= _) _ _ _
  refine wpAny_bind (wpAny_field hz rfl (x := .bool false) rfl ?_)
  show wpAny _ _ (field (.ref z) 3 >>= _) _ _ _
  refine wpAny_bind (wpAny_field hz rfl (x := .ref TI) rfl ?_)
  refine wpAny_bind (wpAny_seqItems hTI rfl ?_)
  show wpAny _ _ (Builtin.SmallTypes.ownedTupleIsFree (.ref z) >>= _) _ _ _
  refine wpAny_bind (owned_not hz hT fun g0 hz0 hs0 => ?_)
  simp only [Bool.false_eq_true, if_false]
  refine wpAny_bind ?_
  rw [← Array.forIn_toList]
  simp only [List.forIn_cons, List.forIn_nil]
  refine wpAny_bind (wpAny_bind (wpAny_holding ?_))
  show wpAny _ _ (Builtin.SmallTypes.nextOf (.ref i1) >>= _) _ _ ⟨g0, g, d, tk0, os⟩
  refine wpAny_bind (D1.item i _ _ _ hlt1 (D1.over st1 hs0 S.zf1) fun x1 p1 tk1 hx1 sn1 hp1 => wpAny_pure ?_)
  replace hp1 : Heap.SameBut i1 g0 p1 := hp1
  refine wpAny_pure ?_
  refine wpAny_bind (wpAny_bind (wpAny_holding ?_))
  show wpAny _ _ (Builtin.SmallTypes.nextOf (.ref i2) >>= _) _ _ ⟨p1, g, d, tk1, os⟩
  refine wpAny_bind (D2.item i _ _ _ hlt2 (D2.over (D2.over st2 hs0 S.zf2) hp1 S.sep1_2) fun x2 p2 tk2 hx2 sn2 hp2 => wpAny_pure ?_)
  replace hp2 : Heap.SameBut i2 p1 p2 := hp2
  refine wpAny_pure ?_
  refine wpAny_pure ?_
  show wpAny _ _ (newTuple [x1, x2] >>= _) _ _ ⟨p2, g, d, tk2, os⟩
  refine wpAny_bind (wpAny_newTuple ?_)
  have hsz : p2.objs.size = hp.objs.size := by rw [hp2.1, hp1.1, hs0.1]
  have hzz : IsZipB p2 z TI TO (rawInt T) true := hp2.extBut _ _ S.zi2 (hp1.extBut _ _ S.zi1 hz0)
  have hj1 : St1 (i + 1) p2 := D1.over sn1 hp2 S.sep2_1
  have up : ∀ c o, p2.get? c = some o → (p2.push { cls := .type "tuple", data := .seq #[x1, x2] }).get? c = some o := fun c o e => Heap.get?_push_of_some _ e
  refine wpAny_pure ⟨_, rfl, ?_⟩
  have hnew : (p2.push { cls := .type "tuple", data := .seq #[x1, x2] }).get? p2.objs.size = some { cls := .type "tuple", data := .seq #[x1, x2] } := Heap.get?_push_size _ rfl
  rw [hsz] at hnew
  show Q (.ref p2.objs.size) ⟨p2.push { cls := .type "tuple", data := .seq #[x1, x2] }, g, d, tk2, os⟩
  rw [hsz]
  exact hQ x1 x2 _ tk2 hx1 hx2 (up _ _ hzz) (D1.frame _ _ _ hj1 fun b _ o e => up b o e) (D2.frame _ _ _ sn2 fun b _ o e => up b o e) hnew (by rw [Heap.size_push, hsz]) fun c o cz c1 c2 e => up c o (hp2.extBut _ _ c2 (hp1.extBut _ _ c1 (hs0.extBut _ _ cz e)))
theorem next_end {T : Addr} {b : Bool} {o : Obj} {Q : PySem.Fin → Shared → Prop} (S : ZipSep2 z TI TO i1 i2 fp1 fp2) (D1 : Draws prog w A i1 fp1 n1 P1 St1) (D2 : Draws prog w A i2 fp2 n2 P2 St2)
    (hz : IsZipB s.heap z TI TO (rawInt T) b) (hT : s.heap.get? T = some o) (hTI : IsTupOf2 s.heap TI (.ref i1) (.ref i2)) (st1 : St1 i s.heap) (st2 : St2 i s.heap) (hle1 : i ≤ n1) (hle2 : i ≤ n2) (hend : i = n1 ∨ i = n2)
    (hE : ∀ h' tk e, (∀ c o, c ≠ z → c ≠ i1 → c ≠ i2 → s.heap.get? c = some o → h'.get? c = some o) → (∃ o, h'.get? e = some o ∧ o.cls = .type "StopIteration") → E (.ref e) { s with heap := h', toks := tk }) :
    wpAny (model prog w) A (Builtin.«zip.__next__» ⟨[.ref z], []⟩) Q E s := by
  obtain ⟨hp, g, d, tk0, os⟩ := s
  show wpAny _ _ (field (.ref z) 2 >>= _) _ _ _
  refine wpAny_bind (wpAny_field hz rfl (x := .bool false) rfl ?_)
  show wpAny _ _ (field (.ref z) 3 >>= _) _ _ _
  refine wpAny_bind (wpAny_field hz rfl (x := .ref TI) rfl ?_)
  refine wpAny_bind (wpAny_seqItems hTI rfl ?_)
  show wpAny _ _ (Builtin.SmallTypes.ownedTupleIsFree (.ref z) >>= _) _ _ _
  refine wpAny_bind (owned_not hz hT fun g0 hz0 hs0 => ?_)
  simp only [Bool.false_eq_true, if_false]
  refine wpAny_bind ?_
  rw [← Array.forIn_toList]
  simp only [List.forIn_cons, List.forIn_nil]
  refine wpAny_bind (wpAny_bind (wpAny_holding ?_))
  show wpAny _ _ (Builtin.SmallTypes.nextOf (.ref i1) >>= _) _ _ ⟨g0, g, d, tk0, os⟩
  by_cases hlt1 : i < n1
  · refine wpAny_bind (D1.item i _ _ _ hlt1 (D1.over st1 hs0 S.zf1) fun x1 p1 tk1 hx1 sn1 hp1 => wpAny_pure ?_)
    replace hp1 : Heap.SameBut i1 g0 p1 := hp1
    refine wpAny_pure ?_
    refine wpAny_bind (wpAny_bind (wpAny_holding ?_))
    show wpAny _ _ (Builtin.SmallTypes.nextOf (.ref i2) >>= _) _ _ ⟨p1, g, d, tk1, os⟩
    have hi2 : i = n2 := by omega
    refine wpAny_bind (D2.done ⟨p1, g, d, tk1, os⟩ _ _ (by rw [← hi2]; exact D2.over (D2.over st2 hs0 S.zf2) hp1 S.sep1_2) fun q e hq he => ?_)
    replace hq : Heap.ExtBut i2 p1 q := hq
    exact hE q tk1 e (fun c o cz c1 c2 x => hq _ _ c2 (hp1.extBut _ _ c1 (hs0.extBut _ _ cz x))) he
  · have hi1 : i = n1 := by omega
    refine wpAny_bind (D1.done ⟨g0, g, d, tk0, os⟩ _ _ (by rw [← hi1]; exact D1.over st1 hs0 S.zf1) fun q e hq he => ?_)
    replace hq : Heap.ExtBut i1 g0 q := hq
    exact hE q tk0 e (fun c o cz c1 c2 x => hq _ _ c1 (hs0.extBut _ _ cz x)) he
theorem pyNext_item {T : Addr} {b : Bool} {o : Obj} {Q : Option Value → Shared → Prop} (S : ZipSep2 z TI TO i1 i2 fp1 fp2) (D1 : Draws prog w A.in1 i1 fp1 n1 P1 St1) (D2 : Draws prog w A.in1 i2 fp2 n2 P2 St2)
    (hz : IsZipB s.heap z TI TO (rawInt T) b) (hT : s.heap.get? T = some o) (hTI : IsTupOf2 s.heap TI (.ref i1) (.ref i2)) (st1 : St1 i s.heap) (st2 : St2 i s.heap) (hlt1 : i < n1) (hlt2 : i < n2)
    (hQ : ∀ x1 x2 h' tk, P1 i x1 → P2 i x2 → IsZipB h' z TI TO (rawInt T) true → St1 (i + 1) h' → St2 (i + 1) h' → IsTupOf2 h' s.heap.objs.size x1 x2 → h'.objs.size = s.heap.objs.size + 1 →
      (∀ c o, c ≠ z → c ≠ i1 → c ≠ i2 → s.heap.get? c = some o → h'.get? c = some o) → Q (some (.ref s.heap.objs.size)) { s with heap := h', toks := tk }) :
    wpAny (model prog w) A (pyNext (.ref z)) Q E s := by
  have hT' : s.TypeIs (.ref z) "zip" := ⟨_, hz, rfl⟩
  unfold pyNext
  exact wpAny_bind (wpAny_attempt (wpAny_callSpecial?_slot (name := Str.ofString "__next__") hT' PySem.F.slot_zip_next
    (wpAny_call_entry PySem.F.slot_zip_next hT' PySem.F.entry_zip_next
      (next_item S D1 D2 hz hT hTI st1 st2 hlt1 hlt2 fun x1 x2 h' tk y1 y2 b1 d1 d2 b5 b6 b7 => wpAny_pure (hQ x1 x2 h' tk y1 y2 b1 d1 d2 b5 b6 b7)) (PySem.F.args_zip_next_1 _))))
theorem pyNext_end {T : Addr} {b : Bool} {o : Obj} {Q : Option Value → Shared → Prop} (S : ZipSep2 z TI TO i1 i2 fp1 fp2) (D1 : Draws prog w A.in1 i1 fp1 n1 P1 St1) (D2 : Draws prog w A.in1 i2 fp2 n2 P2 St2)
    (hz : IsZipB s.heap z TI TO (rawInt T) b) (hT : s.heap.get? T = some o) (hTI : IsTupOf2 s.heap TI (.ref i1) (.ref i2)) (st1 : St1 i s.heap) (st2 : St2 i s.heap) (hle1 : i ≤ n1) (hle2 : i ≤ n2) (hend : i = n1 ∨ i = n2)
    (hQ : ∀ h' tk, (∀ c o, c ≠ z → c ≠ i1 → c ≠ i2 → s.heap.get? c = some o → h'.get? c = some o) → Q none { s with heap := h', toks := tk }) : wpAny (model prog w) A (pyNext (.ref z)) Q E s := by
  have hT' : s.TypeIs (.ref z) "zip" := ⟨_, hz, rfl⟩
  unfold pyNext
  refine wpAny_bind (wpAny_attempt (wpAny_callSpecial?_slot (name := Str.ofString "__next__") hT' PySem.F.slot_zip_next
    (wpAny_call_entry PySem.F.slot_zip_next hT' PySem.F.entry_zip_next (next_end S D1 D2 hz hT hTI st1 st2 hle1 hle2 hend fun h' tk e hk he => ?_) (PySem.F.args_zip_next_1 _))))
  obtain ⟨o, ho, hc⟩ := he
  refine wpAny_bind (wpAny_isInstance (T := "StopIteration") (b := true) ⟨o, ho, hc⟩ isSubtype_stop ?_)
  exact wpAny_pure (hQ _ _ hk)
end
end ZC

namespace ZC
open PySem PySem.Spec PyProof.Rows
theorem nolen_zip : typeLookup (.type "zip") "__len__" = pure none := by rw [typeLookup_type, builtinLookup_eq_fast]; kernel_rfl
theorem nohint_zip : typeLookup (.type "zip") "__length_hint__" = pure none := by rw [typeLookup_type, builtinLookup_eq_fast]; kernel_rfl
section
variable {prog : Program} {w : World} {A : Around} {E : Value → Shared → Prop} {s : Shared} {z TI TO i1 i2 : Addr} {fp1 fp2 : List Addr} {n1 n2 i : Nat} {P1 P2 : Nat → Value → Prop} {St1 St2 : Nat → Heap → Prop}
theorem ne_lt {a c : Addr} {B : Nat} (h1 : a < B) (h2 : B ≤ c) : c ≠ a := fun e => absurd h1 (Nat.not_lt.mpr (e ▸ h2))
/-- the pairs made so far -/
def Prs (P1 P2 : Nat → Value → Prop) (B : Nat) (h : Heap) (acc : Array Value) (i : Nat) : Prop := acc.size = i ∧ ∀ j v, acc[j]? = some v → (∃ T x1 x2, v = .ref T ∧ B ≤ T ∧ IsTupOf2 h T x1 x2 ∧ P1 j x1 ∧ P2 j x2) ∧ ∀ k : Nat, k < j → acc[k]? ≠ some v
theorem Prs.keep {B : Nat} {h h' : Heap} {acc : Array Value} {i : Nat} (p : Prs P1 P2 B h acc i) (k : ∀ c o, B ≤ c → h.get? c = some o → h'.get? c = some o) : Prs P1 P2 B h' acc i :=
  ⟨p.1, fun j v e => by obtain ⟨⟨T, x1, x2, e1, e2, e3, e4⟩, nd⟩ := p.2 j v e; exact ⟨⟨T, x1, x2, e1, e2, k _ _ e2 e3, e4⟩, nd⟩⟩
theorem Prs.push {B : Nat} {h : Heap} {acc : Array Value} {i : Nat} {T : Addr} {x1 x2 : Value} (p : Prs P1 P2 B h acc i) (hn : ∀ k : Nat, acc[k]? ≠ some (Value.ref T)) (hB : B ≤ T) (ht : IsTupOf2 h T x1 x2) (h1 : P1 i x1) (h2 : P2 i x2) : Prs P1 P2 B h (acc.push (.ref T)) (i + 1) := by
  refine ⟨by rw [Array.size_push, p.1], fun j v hj => ?_⟩
  rw [Array.getElem?_push] at hj
  split at hj
  · rename_i e
    rw [p.1] at e
    cases hj
    subst e
    refine ⟨⟨T, x1, x2, rfl, hB, ht, h1, h2⟩, fun k hk => ?_⟩
    rw [Array.getElem?_push, if_neg (by rw [p.1]; omega)]
    exact hn k
  · rename_i e
    have hjs : j < acc.size := (Array.getElem?_eq_some_iff.mp hj).1
    obtain ⟨h3, h4⟩ := p.2 j v hj
    refine ⟨h3, fun k hk => ?_⟩
    rw [Array.getElem?_push, if_neg (by omega)]
    exact h4 k hk
theorem Prs.fresh {B : Nat} {h : Heap} {acc : Array Value} {i : Nat} (p : Prs P1 P2 B h acc i) : ∀ k : Nat, acc[k]? ≠ some (Value.ref h.objs.size) := fun k e => by
  obtain ⟨⟨T, x1, x2, e1, e2, e3, e4⟩, _⟩ := p.2 k _ e
  cases e1
  exact Nat.lt_irrefl _ (Heap.lt_size e3)
/-- the zip's state at turn i; the pairs handed out are held -/
def ZS (z TI TO i1 i2 : Addr) (St1 St2 : Nat → Heap → Prop) (B : Nat) (i : Nat) (h : Heap) : Prop :=
  (IsZip h z TI TO .none ∨ ∃ T b o, B ≤ T ∧ IsZipB h z TI TO (rawInt T) b ∧ h.get? T = some o) ∧ IsTupOf2 h TI (.ref i1) (.ref i2) ∧ (∃ a1 a2, IsTupOf2 h TO a1 a2) ∧ St1 i h ∧ St2 i h
structure Low (B : Nat) (z TI TO i1 i2 : Addr) (fp1 fp2 : List Addr) : Prop where
  z : z < B
  TI : TI < B
  TO : TO < B
  i1 : i1 < B
  i2 : i2 < B
  f1 : ∀ b ∈ fp1, b < B
  f2 : ∀ b ∈ fp2, b < B
theorem ZS.keep {B i : Nat} {h h' : Heap} (D1 : Draws prog w A i1 fp1 n1 P1 St1) (D2 : Draws prog w A i2 fp2 n2 P2 St2) (st : ZS z TI TO i1 i2 St1 St2 B i h) (k : ∀ c o, c ≠ L → h.get? c = some o → h'.get? c = some o) (hz : z ≠ L) (h1 : TI ≠ L) (h2 : TO ≠ L) (f1 : L ∉ fp1) (f2 : L ∉ fp2) (hL : L < B) : ZS z TI TO i1 i2 St1 St2 B i h' := by
  obtain ⟨a, b, ⟨a1, a2, c⟩, d, e⟩ := st
  refine ⟨?_, k _ _ h1 b, ⟨a1, a2, k _ _ h2 c⟩, D1.frame _ _ _ d fun b hb o x => k b o (fun q => f1 (q ▸ hb)) x, D2.frame _ _ _ e fun b hb o x => k b o (fun q => f2 (q ▸ hb)) x⟩
  rcases a with a | ⟨T, b, o, hT, a, a'⟩
  · exact .inl (k _ _ hz a)
  · exact .inr ⟨T, b, o, hT, k _ _ hz a, k _ _ (ne_lt hL hT) a'⟩
theorem loop_zip {R : Result → Shared → Prop} (S : ZipSep2 z TI TO i1 i2 fp1 fp2) (D1 : ∀ A : Around, A.handled = none → Draws prog w A i1 fp1 n1 P1 St1) (D2 : ∀ A : Around, A.handled = none → Draws prog w A i2 fp2 n2 P2 St2) (hh : A.handled = none)
    {B : Nat} (lo : Low B z TI TO i1 i2 fp1 fp2) {L : Addr} (hL : L < B) (hz : z ≠ L) (h1 : TI ≠ L) (h2 : TO ≠ L) (f1 : L ∉ fp1) (f2 : L ∉ fp2) (n : Nat) (hn : n = min n1 n2) (hsz : n ≤ sizeLine) (res : Value) :
    ∀ (k i : Nat) (s : Shared) (acc : Array Value) (c : Nat), n - i = k → i ≤ n → ZS z TI TO i1 i2 St1 St2 B i s.heap → B ≤ s.heap.objs.size → s.heap.get? L = some { cls := .type "list", dict := none, data := .seq acc c, slots := #[] } → Prs P1 P2 B s.heap acc i →
    (∀ h' tk acc' c', (∀ b o, b ≠ L → b ≠ z → b ≠ TO → b ≠ i1 → b ≠ i2 → s.heap.get? b = some o → h'.get? b = some o) → h'.get? L = some { cls := .type "list", dict := none, data := .seq acc' c', slots := #[] } → Prs P1 P2 B h' acc' n → R (.ok (.ret res)) { s with heap := h', toks := tk }) →
    codeAny (model prog w) A (.builtin "list.extend.loop" ⟨[.ref L, .ref z, res], []⟩) R s := by
  have ne : ∀ {c : Addr}, B ≤ c → c ≠ z ∧ c ≠ TO ∧ c ≠ i1 ∧ c ≠ i2 ∧ c ≠ L := fun {c} hc => by
    exact ⟨ne_lt lo.z hc, ne_lt lo.TO hc, ne_lt lo.i1 hc, ne_lt lo.i2 hc, ne_lt hL hc⟩
  have Li1 : i1 ≠ L := fun e => f1 (e ▸ S.mem1)
  have Li2 : i2 ≠ L := fun e => f2 (e ▸ S.mem2)
  have dr1 := D1 A.in1.in1 hh
  have dr2 := D2 A.in1.in1 hh
  intro k
  induction k with
  | zero =>
    intro i s acc c hk hi hst hB hS hacc hR
    have hin : i = n := by omega
    subst hin
    refine codeAny_builtin F.entry_extend_loop ?_
    rw [Around.under_plainId F.plain_extend_loop _]
    show wpAny _ A.in1 (pyNext (.ref z) >>= _) _ _ s
    obtain ⟨a, b, ⟨a1, a2, tO⟩, d, e⟩ := hst
    rcases a with a | ⟨T, bb, o, hT, a, a'⟩
    · refine wpAny_bind (wpAny_pyNext_zipD2_end S dr1 dr2 a b tO d e (by omega) (by omega) (by omega) fun h' tk hk2 => ?_)
      exact wpAny_pure (hR h' tk acc c (fun b o q1 q2 q3 q4 q5 e => hk2 b o q2 q3 q4 q5 e) (hk2 _ _ (Ne.symm hz) (Ne.symm h2) (Ne.symm Li1) (Ne.symm Li2) hS) (hacc.keep fun c o hc e => hk2 c o (ne hc).1 (ne hc).2.1 (ne hc).2.2.1 (ne hc).2.2.2.1 e))
    · refine wpAny_bind (pyNext_end S dr1 dr2 a a' b d e (by omega) (by omega) (by omega) fun h' tk hk2 => ?_)
      exact wpAny_pure (hR h' tk acc c (fun b o q1 q2 q3 q4 q5 e => hk2 b o q2 q4 q5 e) (hk2 _ _ (Ne.symm hz) (Ne.symm Li1) (Ne.symm Li2) hS) (hacc.keep fun c o hc e => hk2 c o (ne hc).1 (ne hc).2.2.1 (ne hc).2.2.2.1 e))
  | succ k ih =>
    intro i s acc c hk hi hst hB hS hacc hR
    have hlt : i < n := by omega
    refine codeAny_builtin F.entry_extend_loop ?_
    rw [Around.under_plainId F.plain_extend_loop _]
    show wpAny _ A.in1 (pyNext (.ref z) >>= _) _ _ s
    obtain ⟨a, b, ⟨a1, a2, tO⟩, d, e⟩ := hst
    rcases a with a | ⟨T, bb, o, hT, a, a'⟩
    · refine wpAny_bind (wpAny_pyNext_zipD2_item S dr1 dr2 a b tO d e (by omega) (by omega) fun x1 x2 h' tk y1 y2 b1 b2 e1 e2 b5 b6 hk2 => ?_)
      have kk : ∀ c o, c ≠ z → c ≠ TO → c ≠ i1 → c ≠ i2 → s.heap.get? c = some o → h'.get? c = some o := hk2
      have LK := kk _ _ (Ne.symm hz) (Ne.symm h2) (Ne.symm Li1) (Ne.symm Li2) hS
      have hst' : ZS z TI TO i1 i2 St1 St2 B (i + 1) h' := ⟨.inr ⟨_, false, _, hB, b1, b5⟩, kk _ _ S.TIz S.TITO S.TIi1 S.TIi2 b, ⟨_, _, b2⟩, e1, e2⟩
      have hacc' : Prs P1 P2 B h' (acc.push (.ref s.heap.objs.size)) (i + 1) := (hacc.keep fun c o hc e => kk c o (ne hc).1 (ne hc).2.1 (ne hc).2.2.1 (ne hc).2.2.2.1 e).push hacc.fresh hB b5 y1 y2
      have nB : B ≤ h'.objs.size := by rw [b6]; exact Nat.le_succ_of_le hB
      have hS' := LK
      refine wpAny_bind ?_
      refine wpAny_updateSeq hS' rfl (wpAny_pure ⟨plainId_quiet F.plain_extend_loop _, ih (i + 1) _ (acc.push (.ref s.heap.objs.size)) _ (by omega) hlt (ZS.keep (L := L) dr1 dr2 hst' (fun c o hc e => (Heap.get?_update_other _ _ (fun h : L = c => hc h.symm)).trans e) hz h1 h2 f1 f2 hL) (by rw [Heap.size_update]; exact nB) (Heap.get?_update_self _ hS' rfl) (hacc'.keep fun c o hc e => (Heap.get?_update_other _ _ (fun h : L = c => (ne hc).2.2.2.2 h.symm)).trans e) fun h2' tk2 acc2 c2 k2 l2 p2 => ?_⟩)
        (by rw [hacc.1]; omega) (by show (acc.push _).size ≤ sizeLine + 1; rw [Array.size_push, hacc.1]; omega)
      exact hR h2' tk2 acc2 c2 (fun b o q1 q2 q3 q4 q5 e => k2 b o q1 q2 q3 q4 q5 ((Heap.get?_update_other _ _ (fun h : L = b => q1 h.symm)).trans (kk b o q2 q3 q4 q5 e))) l2 p2
    · refine wpAny_bind (pyNext_item S dr1 dr2 a a' b d e (by omega) (by omega) fun x1 x2 h' tk y1 y2 b1 e1 e2 b5 b6 hk2 => ?_)
      have kk : ∀ c o, c ≠ z → c ≠ TO → c ≠ i1 → c ≠ i2 → s.heap.get? c = some o → h'.get? c = some o := fun c o q1 _ q3 q4 e => hk2 c o q1 q3 q4 e
      have LK := kk _ _ (Ne.symm hz) (Ne.symm h2) (Ne.symm Li1) (Ne.symm Li2) hS
      have hst' : ZS z TI TO i1 i2 St1 St2 B (i + 1) h' := ⟨.inr ⟨T, true, o, hT, b1, kk _ _ (ne hT).1 (ne hT).2.1 (ne hT).2.2.1 (ne hT).2.2.2.1 a'⟩, kk _ _ S.TIz S.TITO S.TIi1 S.TIi2 b, ⟨_, _, hk2 _ _ S.TOz (fun q => S.Tf1 (q ▸ S.mem1)) (fun q => S.Tf2 (q ▸ S.mem2)) tO⟩, e1, e2⟩
      have hacc' : Prs P1 P2 B h' (acc.push (.ref s.heap.objs.size)) (i + 1) := (hacc.keep fun c o hc e => kk c o (ne hc).1 (ne hc).2.1 (ne hc).2.2.1 (ne hc).2.2.2.1 e).push hacc.fresh hB b5 y1 y2
      have nB : B ≤ h'.objs.size := by rw [b6]; exact Nat.le_succ_of_le hB
      have hS' := LK
      refine wpAny_bind ?_
      refine wpAny_updateSeq hS' rfl (wpAny_pure ⟨plainId_quiet F.plain_extend_loop _, ih (i + 1) _ (acc.push (.ref s.heap.objs.size)) _ (by omega) hlt (ZS.keep (L := L) dr1 dr2 hst' (fun c o hc e => (Heap.get?_update_other _ _ (fun h : L = c => hc h.symm)).trans e) hz h1 h2 f1 f2 hL) (by rw [Heap.size_update]; exact nB) (Heap.get?_update_self _ hS' rfl) (hacc'.keep fun c o hc e => (Heap.get?_update_other _ _ (fun h : L = c => (ne hc).2.2.2.2 h.symm)).trans e) fun h2' tk2 acc2 c2 k2 l2 p2 => ?_⟩)
        (by rw [hacc.1]; omega) (by show (acc.push _).size ≤ sizeLine + 1; rw [Array.size_push, hacc.1]; omega)
      exact hR h2' tk2 acc2 c2 (fun b o q1 q2 q3 q4 q5 e => k2 b o q1 q2 q3 q4 q5 ((Heap.get?_update_other _ _ (fun h : L = b => q1 h.symm)).trans (kk b o q2 q3 q4 q5 e))) l2 p2
end
end ZC

set_option maxHeartbeats 1000000
namespace ZC
open PySem PySem.Spec PyProof.Rows
section
variable {prog : Program} {w : World} {A : Around} {E : Value → Shared → Prop} {s : Shared} {z TI TO i1 i2 : Addr} {fp1 fp2 : List Addr} {n1 n2 i : Nat} {P1 P2 : Nat → Value → Prop} {St1 St2 : Nat → Heap → Prop}
theorem lo_ne {a c : Addr} (h : a < c) : a ≠ c := fun e => absurd h (e ▸ Nat.lt_irrefl _)
/-- what stands of a zip in the heap -/
structure Zip (prog : Program) (w : World) (h : Heap) (z TI TO i1 i2 : Addr) (fp1 fp2 : List Addr) (n1 n2 : Nat) (P1 P2 : Nat → Value → Prop) (St1 St2 : Nat → Heap → Prop) : Prop where
  S : ZipSep2 z TI TO i1 i2 fp1 fp2
  d1 : ∀ A : Around, A.handled = none → Draws prog w A i1 fp1 n1 P1 St1
  d2 : ∀ A : Around, A.handled = none → Draws prog w A i2 fp2 n2 P2 St2
  lo : Low h.objs.size z TI TO i1 i2 fp1 fp2
  hz : IsZip h z TI TO .none
  hTI : IsTupOf2 h TI (.ref i1) (.ref i2)
  hTO : ∃ a1 a2, IsTupOf2 h TO a1 a2
  s1 : St1 0 h
  s2 : St2 0 h
theorem collect_zip {Q : List Value → Shared → Prop} (hh : A.handled = none) (Z : Zip prog w s.heap z TI TO i1 i2 fp1 fp2 n1 n2 P1 P2 St1 St2) (hn : min n1 n2 ≤ sizeLine)
    (hQ : ∀ (h' : Heap) (tk : Nat) (acc : Array Value), (∀ b o, b ≠ z → b ≠ TO → b ≠ i1 → b ≠ i2 → s.heap.get? b = some o → h'.get? b = some o) → Prs P1 P2 s.heap.objs.size h' acc (min n1 n2) → Q acc.toList { s with heap := h', toks := tk }) :
    wpAny (model prog w) A (collect (.ref z)) Q E s := by
  have hzL := lo_ne Z.lo.z
  have hSI : s.heap.objs.size ≠ z := Ne.symm hzL
  have hT : s.TypeIs (.ref z) "zip" := ⟨_, Z.hz, rfl⟩
  unfold collect
  refine wpAny_bind (wpAny_runValue (codeAny_builtin F.entry_proto_collect ?_))
  rw [Around.under_plainId F.plain_proto_collect _]
  show wpAny _ A.in1 (newList [] >>= fun l => again (.builtin "list.__iadd__" ⟨[l, .ref z], []⟩)) _ _ s
  refine wpAny_bind (wpAny_newObj_type ?_)
  refine wpAny_pure ⟨plainId_quiet F.plain_list_iadd _, codeAny_builtin F.entry_list_iadd ?_⟩
  rw [Around.under_plainId F.plain_list_iadd _]
  have up1 : ∀ b o, s.heap.get? b = some o → (s.heap.push { cls := .type "list", data := .seq ([] : List Value).toArray }).get? b = some o := fun b o e => Heap.get?_push_of_some _ e
  have hT1 : ({ s with heap := s.heap.push { cls := .type "list", data := .seq ([] : List Value).toArray } } : Shared).TypeIs (.ref z) "zip" := ⟨_, up1 _ _ Z.hz, rfl⟩
  show wpAny _ A.in1 (Builtin.List.listExtendWith (.ref s.heap.objs.size) (.ref z) (.ref s.heap.objs.size)) _ _ _
  unfold Builtin.List.listExtendWith
  refine wpAny_bind (wpAny_typeOf hT1 ?_)
  have h1 : Builtin.List.listSameRef (.ref s.heap.objs.size) (.ref z) = false := by simp [Builtin.List.listSameRef, hSI]
  have h2 : (Value.type "zip" == Value.type "list") = false := by decide
  have h3 : (Value.type "zip" == Value.type "tuple") = false := by decide
  simp only [h1, h2, h3, Bool.or_false, Bool.false_eq_true, if_false]
  refine wpAny_bind (wpAny_pyIter_zip (up1 _ _ Z.hz) ?_)
  refine wpAny_bind (wpAny_holding ?_)
  unfold Builtin.List.listLengthHint
  refine wpAny_bind (wpAny_specialOf hT1 nolen_zip ?_)
  show wpAny _ A.in1 (specialOf (Value.ref z) (Str.ofString "__length_hint__") >>= _) _ _ _
  refine wpAny_bind (wpAny_specialOf hT1 nohint_zip ?_)
  refine wpAny_pure ?_
  show wpAny _ A.in1 (rule "list.extend.makes-room" >>= fun _ => Builtin.List.listTouch (.ref s.heap.objs.size) >>= fun _ =>
    again (.builtin "list.extend.loop" ⟨[.ref s.heap.objs.size, .ref z, .ref s.heap.objs.size], []⟩)) _ _ _
  refine wpAny_bind (wpAny_rule ?_)
  have hS₁ : (s.heap.push { cls := .type "list", data := .seq ([] : List Value).toArray }).get? s.heap.objs.size = some { cls := .type "list", data := .seq ([] : List Value).toArray } := Heap.get?_push_size _ rfl
  refine wpAny_bind ?_
  show wpAny _ A.in1 (updateSeq s.heap.objs.size (·.push .none) >>= fun _ => updateSeq s.heap.objs.size (·.pop)) _ _ _
  refine wpAny_bind (wpAny_updateSeq hS₁ rfl ?_)
  have hS₂ := Heap.get?_update_self (Obj.mapSeq (·.push Value.none)) hS₁ rfl
  refine wpAny_updateSeq hS₂ rfl ?_
  have hS₃ := Heap.get?_update_self (Obj.mapSeq (·.pop)) hS₂ rfl
  have oth : ∀ b o, b ≠ s.heap.objs.size → (s.heap.push { cls := .type "list", data := .seq ([] : List Value).toArray }).get? b = some o →
      (((s.heap.push { cls := .type "list", data := .seq ([] : List Value).toArray }).update s.heap.objs.size (Obj.mapSeq (·.push Value.none))).update s.heap.objs.size (Obj.mapSeq (·.pop))).get? b = some o :=
    fun b o hb e => (Heap.get?_update_other _ _ (Ne.symm hb)).trans ((Heap.get?_update_other _ _ (Ne.symm hb)).trans e)
  have up : ∀ b o, s.heap.get? b = some o → (((s.heap.push { cls := .type "list", data := .seq ([] : List Value).toArray }).update s.heap.objs.size (Obj.mapSeq (·.push Value.none))).update s.heap.objs.size (Obj.mapSeq (·.pop))).get? b = some o :=
    fun b o e => oth b o (lo_ne (Heap.lt_size e)) (up1 b o e)
  have fn : ∀ {fp : List Addr}, (∀ b ∈ fp, b < s.heap.objs.size) → s.heap.objs.size ∉ fp := fun h hm => Nat.lt_irrefl _ (h _ hm)
  have lo := Z.lo
  have lo' : Low (s.heap.objs.size + 1) z TI TO i1 i2 fp1 fp2 := ⟨Nat.lt_succ_of_lt lo.z, Nat.lt_succ_of_lt lo.TI, Nat.lt_succ_of_lt lo.TO, Nat.lt_succ_of_lt lo.i1, Nat.lt_succ_of_lt lo.i2, fun b hb => Nat.lt_succ_of_lt (lo.f1 b hb), fun b hb => Nat.lt_succ_of_lt (lo.f2 b hb)⟩
  obtain ⟨a1, a2, tO⟩ := Z.hTO
  refine wpAny_pure ⟨plainId_quiet F.plain_extend_loop _, loop_zip Z.S Z.d1 Z.d2 (by exact hh) (B := s.heap.objs.size + 1) lo' (Nat.lt_succ_self _) hzL (lo_ne lo.TI) (lo_ne lo.TO) (fn lo.f1) (fn lo.f2) (min n1 n2) rfl hn _ (min n1 n2) 0 _ _ _ rfl (Nat.zero_le _)
    ⟨.inl (up _ _ Z.hz), up _ _ Z.hTI, ⟨_, _, up _ _ tO⟩, (Z.d1 _ hh).frame _ _ _ Z.s1 fun b _ o e => up b o e, (Z.d2 _ hh).frame _ _ _ Z.s2 fun b _ o e => up b o e⟩ (by show _ ≤ (Heap.update _ _ _).objs.size; rw [Heap.size_update, Heap.size_update, Heap.size_push]; exact Nat.le_refl _) hS₃ ⟨rfl, fun j v e => by simp at e⟩ fun h' tk acc' c' k' l' p' => ?_⟩
  show wpAny _ A (load s.heap.objs.size >>= _) _ _ _
  refine wpAny_bind (wpAny_load l' ?_)
  refine wpAny_pure (hQ h' tk acc' (fun b o q2 q3 q4 q5 e => k' b o (lo_ne (Heap.lt_size e)) q2 q3 q4 q5 (up b o e)) ⟨p'.1, fun j v e => ?_⟩)
  obtain ⟨⟨T, x1, x2, e1, e2, e3⟩, nd⟩ := p'.2 j v e
  exact ⟨⟨T, x1, x2, e1, Nat.le_of_succ_le e2, e3⟩, nd⟩
theorem code_tuple_new_zip {Q₁ : Value → Shared → Prop} (hh : A.handled = none) (Z : Zip prog w s.heap z TI TO i1 i2 fp1 fp2 n1 n2 P1 P2 St1 St2) (hn : min n1 n2 ≤ sizeLine)
    (h : ∀ (h' : Heap) (tk : Nat) (acc : Array Value), (∀ b o, b ≠ z → b ≠ TO → b ≠ i1 → b ≠ i2 → s.heap.get? b = some o → h'.get? b = some o) → Prs P1 P2 s.heap.objs.size h' acc (min n1 n2) →
      Q₁ (.ref h'.objs.size) { s with heap := h'.push { cls := .type "tuple", data := .seq acc }, toks := tk }) :
    codeAny (model prog w) A (.call (.builtin "tuple.__new__") ⟨[.type "tuple", .ref z], []⟩) (wants Q₁ E) s := by
  refine codeAny_of_tree ?_
  show wpAny _ A.in1 (do checkBuiltinCall "tuple.__new__" ⟨[.type "tuple", .ref z], []⟩; again (.builtin "tuple.__new__" ⟨[.type "tuple", .ref z], []⟩)) _ _ s
  refine wpAny_bind (wpAny_of_eq (F.newCall_tuple_1 _) (wpAny_pure ⟨plainId_quiet F.plain_tuple_new _, codeAny_builtin F.entry_tuple_new ?_⟩))
  rw [Around.under_plainId F.plain_tuple_new _]
  have hsub := sub_tuple_self
  have hinit := init_tuple_lookup
  have hmh := madeHere_tuple
  have hTI : s.TypeIs (.ref z) "zip" := ⟨_, Z.hz, rfl⟩
  have hh1 : A.in1.handled = none := hh
  wp_walk using wpAny_typeOf hTI, collect_zip (A := A.in1) hh1 Z hn
  intro h' tk acc hk hacc
  show wpAny _ _ (Builtin.Tuple.tupleExact acc.toList.toArray >>= fun v => ret v) _ _ _
  unfold Builtin.Tuple.tupleExact
  refine wpAny_bind (wpAny_newObj_type ?_ (by show acc.toList.toArray.size ≤ sizeLine; simp only [Array.toArray_toList]; rw [hacc.1]; exact hn))
  refine wpAny_pure ?_
  have e : acc.toList.toArray = acc := by simp
  rw [e]
  exact h h' tk acc hk hacc
theorem call_tuple_zip {Q : Value → Shared → Prop} (hh : A.handled = none) (Z : Zip prog w s.heap z TI TO i1 i2 fp1 fp2 n1 n2 P1 P2 St1 St2) (hn : min n1 n2 ≤ sizeLine)
    (hQ : ∀ (h' : Heap) (tk : Nat) (acc : Array Value), (∀ b o, b ≠ z → b ≠ TO → b ≠ i1 → b ≠ i2 → s.heap.get? b = some o → h'.get? b = some o) → Prs P1 P2 s.heap.objs.size h' acc (min n1 n2) →
      Q (.ref h'.objs.size) { s with heap := h'.push { cls := .type "tuple", data := .seq acc }, toks := tk }) :
    wpAny (model prog w) A (call (.type "tuple") [.ref z]) Q E s := by
  refine callType_codes (Q₁ := fun obj s₁ => s₁.TypeIs obj "tuple" ∧ Q obj s₁) F.called_tuple (F.typeCall_tuple_1 _) F.entry_object_init
    (code_tuple_new_zip (A := A.in1) hh Z hn fun h' tk acc hk hacc => ⟨⟨_, Heap.get?_push_size _ rfl, rfl⟩, hQ h' tk acc hk hacc⟩) fun obj s₁ h₁ => ?_
  exact ⟨h₁.1, F.args_object_init_2 obj _, object_init_meets F.called_tuple.init.lookup F.called_tuple.made (by decide) prog w A.in1 _ s₁ ⟨h₁.1, rfl, h₁.2⟩⟩
end
end ZC

/-! tuple(zip(a, b)) -/
namespace DL
open PySem PySem.Spec PyProof.Rows L2
/-- new objects laid -/
def updL (H : Hp) : List (Addr × HO) → Hp
  | [] => H
  | p :: N => upd (updL H N) p.1 p.2
theorem updL_at {H : Hp} {p : Addr × HO} : ∀ {N : List (Addr × HO)}, (N.map (·.1)).Nodup → p ∈ N → updL H N p.1 = some p.2
  | [], _, h => nomatch h
  | q :: N, nd, h => by
    rw [List.map_cons, List.nodup_cons] at nd
    unfold updL
    rcases List.mem_cons.mp h with rfl | h
    · exact upd_same
    · rw [upd_ne (fun e : p.1 = q.1 => nd.1 (by rw [← e]; exact List.mem_map_of_mem h))]
      exact updL_at nd.2 h
theorem updL_ne {H : Hp} {b : Addr} : ∀ {N : List (Addr × HO)}, b ∉ N.map (·.1) → updL H N b = H b
  | [], _ => rfl
  | q :: N, h => by
    rw [List.map_cons, List.mem_cons, not_or] at h
    unfold updL
    rw [upd_ne h.1]
    exact updL_ne h.2
section
variable {X : Cx} {pins : List (Addr × Obj)} {σ : L2.St} {H : Hp} {s : Shared}
/-- many new objects laid and tracked -/
theorem _root_.L2.Inv.laids {N : List (Addr × HO)} {h' : Heap} {t' : Nat} (I : Inv X pins σ H s) (k : ∀ b u, s.heap.get? b = some u → h'.get? b = some u) (nd : (N.map (·.1)).Nodup) (hp : ∀ p ∈ N, s.heap.objs.size ≤ p.1) (new : ∀ p ∈ N, ObjOk X.prog X.w (updL H N) h' p.1 p.2) :
    Inv X pins σ (updL H N) { s with heap := h', toks := t' } := by
  have nN : ∀ b o, H b = some o → b ∉ N.map (·.1) := fun b o e hb => by
    obtain ⟨p, hp1, rfl⟩ := List.mem_map.mp hb
    rw [I.hok.fresh (hp p hp1)] at e
    cases e
  have old : ∀ b o, H b = some o → updL H N b = some o := fun b o e => (updL_ne (nN b o e)).trans e
  have un : Un (frs X.stack) [] H (updL H N) s.heap h' := by
    refine ⟨fun b u q _ _ _ => k b u q, fun b u q _ _ _ => ⟨u.slots, k b u q⟩, fun b u q n _ => ?_, fun b u q _ => ⟨u, k b u q⟩, fun b xs q => old b _ q, fun b u xs q => old b _ q, fun b ps q => ⟨#[], by rw [old b _ q]; simp⟩⟩
    rw [updL_ne fun hb => ?_]; exact n
    obtain ⟨p, hp1, rfl⟩ := List.mem_map.mp hb
    exact absurd (Heap.lt_size q) (Nat.not_lt.mpr (hp p hp1))
  refine I.un (by first | exact un | exact ⟨un.keep, un.slot, un.free, un.there, un.tups, un.frzs, un.tbls⟩ | exact ⟨fun b u q a1 a2 a3 => k b u q, fun b u q _ _ _ => ⟨u.slots, k b u q⟩, fun b u q n _ => un.free b u q n (by simp), fun b u q _ => ⟨u, k b u q⟩, un.tups, un.frzs, un.tbls⟩) fun b u e => ?_
  by_cases hb : b ∈ N.map (·.1)
  · obtain ⟨p, hp1, rfl⟩ := List.mem_map.mp hb
    rw [updL_at nd hp1] at e
    cases e
    exact new p hp1
  · rw [updL_ne hb] at e
    exact (I.hok b u e).stay (fun c v _ q => k c v q) (fun c q => old c _ q) fun c xs q => old c _ q
end
theorem dvl_ix {K : PySem.W.Frag} {H : Hp} : ∀ {ds : List D} {vs : List V}, ds.length = vs.length → (∀ (j : Nat) d v, ds[j]? = some d → vs[j]? = some v → Dv K H d v []) → DvL K H ds vs []
  | [], [], _, _ => .nil
  | d :: ds, v :: vs, h, k => .cons (f1 := []) (f2 := []) (k 0 d v rfl rfl) (dvl_ix (by simpa using h) fun j d' v' e1 e2 => k (j + 1) d' v' (by simpa using e1) (by simpa using e2))
  | [], _ :: _, h, _ => by simp at h
  | _ :: _, [], h, _ => by simp at h
def fTupZip (f g : FE) : FE := fun ρ => (f ρ).bind fun d ρ1 => (g ρ1).bind fun e ρ2 => match itemsQ d, itemsQ e with
  | some xs, some ys => if min xs.length ys.length ≤ sizeLine then .ok (.tup (List.zipWith (fun x y => D.tup [x, y]) xs ys)) ρ2 else .stk
  | _, _ => .stk
section
variable {X : Cx} {c : Ct} {Ew : Xn → En → Prop} {a b : Expr} {pos pos2 p p2 : Pos}
set_option maxHeartbeats 1000000 in
theorem de_tupzip {f g : FE} (hm : X.mg "tuple" = none) (hm2 : X.mg "zip" = none) (hc : X.calm = true) (h : DE X c Ew a f) (h' : DE X c Ew b g) (hg : Gl X "tuple" := by rfl) (hg2 : Gl X "zip" := by rfl)
    (hs : starEach [a, b] X.env = (false, eval a X.env) :: starEach [b] X.env := by rfl) (hs2 : starEach [b] X.env = (false, eval b X.env) :: starEach [] X.env := by rfl) (hpl : (backTo pos2 (starEach [b] X.env)).any (·.1) = false := by rfl)
    (hs3 : starEach [.Call (.Name "zip" p2) [a, b] [] pos2] X.env = (false, eval (.Call (.Name "zip" p2) [a, b] [] pos2) X.env) :: starEach [] X.env := by rfl) (hpl3 : (backTo pos (starEach [] X.env)).any (·.1) = false := by rfl) :
    DE X c Ew (.Call (.Name "tuple" p) [.Call (.Name "zip" p2) [a, b] [] pos2] [] pos) (fTupZip f g) := by
  refine ⟨fun pins s σ H Q I ⟨ρ, P, rp, q⟩ => ?_⟩
  unfold fTupZip at q
  rw [R.sat_bind] at q
  refine Call_ (ld_blt I hg hm PyProof.Rows.boot_tuple (PyProof.Rows.callWith_type1 ?_ hs3 hpl3))
  rw [hs3]
  show wpAny _ _ (spliced ((false, eval (.Call (.Name "zip" p2) [a, b] [] pos2) X.env) :: backTo pos (starEach [] X.env))) _ _ s
  refine Calls.spliced_cons ?_
  refine Call_ (ld_blt I hg2 hm2 PyProof.Rows.boot_zip (PyProof.Rows.callWith_type1 (thn ((pa_cons h (pa_cons h' pa_nil hs2) hs).run pos2 pins s σ H (fun vs H1 => ∃ v d v2 d2 ρ', vs = [v, v2] ∧ Rp X.K c σ H1 ρ' ((d2, v2) :: (d, v) :: P) ∧ (match itemsQ d, itemsQ d2 with
      | some xs, some ys => if min xs.length ys.length ≤ sizeLine then R.ok (D.tup (List.zipWith (fun x y => D.tup [x, y]) xs ys)) ρ' else .stk
      | _, _ => .stk).sat (fun dr ρ' => ∀ v H', Rp X.K c σ H' ρ' ((dr, v) :: P) → Q v H') Ew) I
    ⟨ρ, P, rp, q.imp fun d ρ1 q v H1 r => ⟨ρ1, (d, v) :: P, r, (by rw [R.sat_bind] at q; exact q.imp fun d2 ρ2 q v2 H2 r2 => ⟨v, d, v2, d2, ρ2, rfl, r2, q⟩)⟩⟩) fun us s1 ⟨vs, H1, I1, r1, q1⟩ => ?_) hs hpl))
  obtain ⟨v, d, v2, d2, ρ', rfl, r, q1⟩ := q1
  cases e2 : itemsQ d with
  | none => rw [e2] at q1; exact q1.elim
  | some xs =>
    cases e3 : itemsQ d2 with
    | none => rw [e2, e3] at q1; exact q1.elim
    | some ys =>
      rw [e2, e3] at q1
      simp only at q1
      by_cases hsz : min xs.length ys.length ≤ sizeLine
      case neg => rw [if_neg hsz] at q1; exact q1.elim
      rw [if_pos hsz] at q1
      obtain ⟨e4, nd⟩ := itemsQ_some e2
      obtain ⟨e5, nd2⟩ := itemsQ_some e3
      cases r1 with
      | cons ru rr =>
        cases rr with
        | cons ru2 rr =>
          cases rr
          obtain ⟨f2, x2⟩ := r.head
          obtain ⟨f0, x0⟩ := r.pop.head
          obtain ⟨ex, St, ζ, T, nz, Pd, S, src⟩ := source_of (P := X.prog) (w := X.w) x0 ru e4 nd
          obtain ⟨ex2, St2, ζ2, T2, nz2, Pd2, S2, src2⟩ := source_of (P := X.prog) (w := X.w) x2 ru2 e5 nd2
          obtain ⟨z0, _, hT, _⟩ := src pins X σ H1 s1 rfl rfl rfl I1 ⟨f0, x0⟩
          obtain ⟨z1, _, hT2, _⟩ := src2 pins X σ H1 s1 rfl rfl rfl I1 ⟨f2, x2⟩
          obtain ⟨o, B, st0⟩ := S.begins
          obtain ⟨o2, B2, st02⟩ := S2.begins
          refine zip_begins2 (B z0) (B2 z1) hT hT2 fun h' hz hTI hTO ho ho2 hsz' hk => ?_
          have hex : ∀ b ∈ ex, b < s1.heap.objs.size := S.lt z0 _ hT
          have hex2 : ∀ b ∈ ex2, b < s1.heap.objs.size := S2.lt z1 _ hT2
          have nin : ∀ k, s1.heap.objs.size + k ∉ ex := fun k hb => absurd (hex _ hb) (Nat.not_lt.mpr (Nat.le_add_right _ _))
          have nin2 : ∀ k, s1.heap.objs.size + k ∉ ex2 := fun k hb => absurd (hex2 _ hb) (Nat.not_lt.mpr (Nat.le_add_right _ _))
          have I2 : Inv X pins σ H1 { s1 with heap := h' } := I1.kept (t' := s1.toks) hk
          obtain ⟨y0, n0, t0, v0⟩ := src pins X σ H1 { s1 with heap := h' } rfl rfl rfl I2 ⟨f0, x0⟩
          obtain ⟨y1, n1, t1, v1⟩ := src2 pins X σ H1 { s1 with heap := h' } rfl rfl rfl I2 ⟨f2, x2⟩
          refine Calls.spliced_nil ?_
          have hd := I1.ok.hd hc
          have Z : ZC.Zip X.prog X.w h' (s1.heap.objs.size + 4) (s1.heap.objs.size + 2) (s1.heap.objs.size + 3) s1.heap.objs.size (s1.heap.objs.size + 1) (s1.heap.objs.size :: ex) ((s1.heap.objs.size + 1) :: ex2) (nz y0) (nz2 y1) (Pd y0) (Pd2 y1) (fun i h => St s1.heap.objs.size i h ∧ T y0 h) (fun i h => St2 (s1.heap.objs.size + 1) i h ∧ T2 y1 h) :=
            ⟨zip_sep2 hex hex2, fun A hh => S.draws y0 A _ hh (nin 0), fun A hh => S2.draws y1 A _ hh (nin2 1),
              ⟨by rw [hsz']; exact Nat.lt_succ_self _, by rw [hsz']; exact Nat.add_lt_add_left (by decide) _, by rw [hsz']; exact Nat.add_lt_add_left (by decide) _, by rw [hsz']; exact Nat.lt_add_of_pos_right (by decide), by rw [hsz']; exact Nat.add_lt_add_left (by decide) _,
                fun b hb => by
                  rw [hsz']
                  rcases List.mem_cons.mp hb with rfl | hb
                  · exact Nat.lt_add_of_pos_right (by decide)
                  · exact Nat.lt_of_lt_of_le (hex b hb) (Nat.le_add_right _ _),
                fun b hb => by
                  rw [hsz']
                  rcases List.mem_cons.mp hb with rfl | hb
                  · exact Nat.add_lt_add_left (by decide) _
                  · exact Nat.lt_of_lt_of_le (hex2 b hb) (Nat.le_add_right _ _)⟩,
              hz, hTI, ⟨_, _, hTO⟩, ⟨st0 _ _ ho, t0⟩, ⟨st02 _ _ ho2, t1⟩⟩
          refine ZC.call_tuple_zip (s := { s1 with heap := h' }) hd Z (by rw [n0, n1]; exact hsz) fun h'' tk acc hk'' prs => ?_
          have hacc : acc.size = min xs.length ys.length := by rw [prs.1, n0, n1]
          have top1 : s1.heap.objs.size < h''.objs.size := by
            have e := hk'' (s1.heap.objs.size + 2) _ (Nat.ne_of_lt (Nat.add_lt_add_left (by decide) _)) (Nat.ne_of_lt (Nat.add_lt_add_left (by decide) _)) (Nat.ne_of_gt (Nat.lt_add_of_pos_right (by decide))) (Nat.ne_of_gt (Nat.add_lt_add_left (by decide) _)) hTI
            exact Nat.lt_of_le_of_lt (Nat.le_add_right _ 2) (Heap.lt_size e)
          have ch : ∀ j : Nat, ∃ f : Addr × V × V, j < acc.size → acc[j]? = some (Value.ref f.1) ∧ s1.heap.objs.size ≤ f.1 ∧ ∃ u1 u2 d' e', IsTupOf2 h'' f.1 u1 u2 ∧ RelV f.2.1 u1 ∧ RelV f.2.2 u2 ∧ xs[j]? = some d' ∧ Dv X.K H1 d' f.2.1 [] ∧ ys[j]? = some e' ∧ Dv X.K H1 e' f.2.2 [] := fun j => by
            by_cases hj : j < acc.size
            · obtain ⟨⟨Tj, u1, u2, k1, k2, k3, k4, k5⟩, _⟩ := prs.2 j _ (Array.getElem?_eq_getElem hj)
              obtain ⟨x, rx, d', g1, g2⟩ := v0 j u1 k4
              obtain ⟨y, ry, e', g3, g4⟩ := v1 j u2 k5
              exact ⟨(Tj, x, y), fun _ => ⟨by rw [Array.getElem?_eq_getElem hj, k1], Nat.le_trans (by show _ ≤ h'.objs.size; rw [hsz']; exact Nat.le_add_right _ _) k2, u1, u2, d', e', k3, rx, ry, g1, g2, g3, g4⟩⟩
            · exact ⟨(0, .non, .non), fun h => absurd h hj⟩
          obtain ⟨fT, hf⟩ := Classical.axiomOfChoice ch
          let N0 : List (Addr × HO) := (List.range acc.size).map fun j => ((fT j).1, HO.tup [(fT j).2.1, (fT j).2.2])
          let refs : List V := (List.range acc.size).map fun j => V.ref (fT j).1
          let N : List (Addr × HO) := (h''.objs.size, HO.tup refs) :: N0
          have mN0 : ∀ p ∈ N0, ∃ j, j < acc.size ∧ p = ((fT j).1, HO.tup [(fT j).2.1, (fT j).2.2]) := fun p hp => by
            obtain ⟨j, hj, rfl⟩ := List.mem_map.mp hp
            exact ⟨j, List.mem_range.mp hj, rfl⟩
          have low : ∀ j, j < acc.size → (fT j).1 < h''.objs.size := fun j hj => by
            obtain ⟨_, _, u1, u2, d', e', k3, _⟩ := hf j hj
            exact Heap.lt_size k3
          have ndN : (N.map (·.1)).Nodup := by
            show (h''.objs.size :: N0.map (·.1)).Nodup
            refine List.nodup_cons.mpr ⟨fun hb => ?_, ?_⟩
            · obtain ⟨p, hp, e⟩ := List.mem_map.mp hb
              obtain ⟨j, hj, rfl⟩ := mN0 p hp
              exact absurd (low j hj) (by rw [show (fT j).1 = h''.objs.size from e]; exact Nat.lt_irrefl _)
            · show (((List.range acc.size).map fun j => ((fT j).1, HO.tup [(fT j).2.1, (fT j).2.2])).map (·.1)).Nodup
              rw [List.map_map]
              refine List.pairwise_map.mpr ((List.Pairwise.and_mem.mp (List.pairwise_lt_range (n := acc.size))).imp fun {i j} ⟨hi, hj, hij⟩ e => ?_)
              have hi := List.mem_range.mp hi
              have hj := List.mem_range.mp hj
              have e : (fT i).1 = (fT j).1 := e
              refine (prs.2 j _ (hf j hj).1).2 i hij ?_
              rw [(hf i hi).1, e]
          have hpN : ∀ p ∈ N, s1.heap.objs.size ≤ p.1 := fun p hp => by
            rcases List.mem_cons.mp hp with rfl | hp
            · exact Nat.le_of_lt top1
            · obtain ⟨j, hj, rfl⟩ := mN0 p hp
              exact (hf j hj).2.1
          have rl : refs.length = acc.size := by simp [refs]
          have vls : Vals refs acc.toList := by
            have key : ∀ (vs : List V) (us : List Value), vs.length = us.length → (∀ (j : Nat) v u, vs[j]? = some v → us[j]? = some u → RelV v u) → Vals vs us := by
              intro vs
              induction vs with
              | nil => intro us h _; cases us with
                | nil => exact .nil
                | cons _ _ => simp at h
              | cons v vs ih => intro us h k; cases us with
                | nil => simp at h
                | cons u us => exact .cons (k 0 v u rfl rfl) (ih us (by simpa using h) fun j v' u' e1 e2 => k (j + 1) v' u' (by simpa using e1) (by simpa using e2))
            refine key _ _ (by rw [rl, Array.length_toList]) fun j v u e1 e2 => ?_
            have hj : j < acc.size := by
              have := (List.getElem?_eq_some_iff.mp e1).1
              rwa [rl] at this
            rw [show refs[j]? = some (V.ref (fT j).1) by simp [refs, hj]] at e1
            rw [Array.getElem?_toList, (hf j hj).1] at e2
            cases e1
            cases e2
            rfl
          have up : ∀ b u, h''.get? b = some u → (h''.push { cls := .type "tuple", data := .seq acc }).get? b = some u := fun b u e => Heap.get?_push_of_some _ e
          have newN : ∀ p ∈ N, ObjOk X.prog X.w (updL H1 N) (h''.push { cls := .type "tuple", data := .seq acc }) p.1 p.2 := fun p hp => by
            rcases List.mem_cons.mp hp with rfl | hp
            · exact ⟨by rw [rl, hacc]; exact hsz, acc.toList, vls, ⟨_, Heap.get?_push_size _ rfl, rfl, 0, by simp⟩⟩
            · obtain ⟨j, hj, rfl⟩ := mN0 p hp
              obtain ⟨_, _, u1, u2, d', e', k3, k4, k5, _⟩ := hf j hj
              exact ⟨by show 2 ≤ sizeLine; decide, [u1, u2], .cons k4 (.cons k5 .nil), ⟨_, up _ _ k3, rfl, 0, by simp⟩⟩
          have keep : ∀ b u, s1.heap.get? b = some u → (h''.push { cls := .type "tuple", data := .seq acc }).get? b = some u := fun b u e => by
            have hlt := Heap.lt_size e
            have l : ∀ k, b ≠ s1.heap.objs.size + k := fun k => Nat.ne_of_lt (Nat.lt_of_lt_of_le hlt (Nat.le_add_right _ _))
            exact up _ _ (hk'' b u (l 4) (l 3) (l 0) (l 1) (hk b u e))
          have IF := I1.laids (t' := tk) keep ndN hpN newN
          refine ⟨.ref h''.objs.size, updL H1 N, IF, rfl, ?_⟩
          have ext : ∀ b u, H1 b = some u → updL H1 N b = some u := fun b u e => by
            rw [updL_ne fun hb => ?_]
            · exact e
            · obtain ⟨p, hp, rfl⟩ := List.mem_map.mp hb
              rw [I1.hok.fresh (hpN p hp)] at e
              cases e
          refine q1 (.ref h''.objs.size) _ ((r.pop.pop.ext ext).push0 (.tup (.of (updL_at (p := (h''.objs.size, HO.tup refs)) ndN List.mem_cons_self)) ?_))
          refine dvl_ix (by rw [List.length_zipWith, rl, hacc]) fun j dd vv g1 g2 => ?_
          have hj : j < acc.size := by
            have := (List.getElem?_eq_some_iff.mp g2).1
            rwa [rl] at this
          obtain ⟨k1, k2, u1, u2, d', e', k3, k4, k5, k6, k7, k8, k9⟩ := hf j hj
          rw [show refs[j]? = some (V.ref (fT j).1) by simp [refs, hj]] at g2
          rw [List.getElem?_zipWith, k6, k8] at g1
          cases g1
          cases g2
          exact .tup (.of (updL_at (p := ((fT j).1, HO.tup [(fT j).2.1, (fT j).2.2])) ndN (List.mem_cons_of_mem _ (List.mem_map.mpr ⟨j, List.mem_range.mpr hj, rfl⟩)))) (.cons (f1 := []) (f2 := []) (k7.ext ext) (.cons (f1 := []) (f2 := []) (k9.ext ext) .nil))
end
end DL

/-! typed mirrors: what the functions of DL compute, over plain Lean types -/
namespace DL
open PySem PySem.Spec PyProof.Rows L2

/-- a mirror's result; stk: not told -/
inductive M (α : Type) where
  | ok (a : α) | err (x : Xn) | stk
namespace M
variable {α β γ : Type}
def bind (t : M α) (k : α → M β) : M β := match t with
  | .ok a => k a
  | .err x => .err x
  | .stk => .stk
@[simp] theorem ok_bind (a : α) (k : α → M β) : (M.ok a).bind k = k a := rfl
@[simp] theorem err_bind (x : Xn) (k : α → M β) : (M.err x).bind k = .err x := rfl
@[simp] theorem stk_bind (k : α → M β) : (M.stk).bind k = .stk := rfl
theorem bind_assoc (t : M α) (k : α → M β) (l : β → M γ) : (t.bind k).bind l = t.bind fun a => (k a).bind l := by cases t <;> rfl
theorem bind_ok (t : M α) : t.bind M.ok = t := by cases t <;> rfl
@[irreducible] def grd (p : Prop) [Decidable p] (t : M α) : M α := if p then t else .stk
theorem grd_pos {p : Prop} [Decidable p] {t : M α} (h : p) : grd p t = t := by unfold grd; exact if_pos h
def ofO : Option α → M α
  | some a => .ok a
  | none => .stk
@[simp] theorem ofO_some (a : α) : ofO (some a) = .ok a := rfl
@[simp] theorem ofO_none : ofO (none : Option α) = .stk := rfl
def sim (t : M α) (Q : α → Prop) (Ex : Xn → Prop) : Prop := match t with
  | .ok a => Q a
  | .err x => Ex x
  | .stk => True
theorem sim_bind {t : M α} {k : α → M β} {Q : β → Prop} {Ex : Xn → Prop} : (t.bind k).sim Q Ex = t.sim (fun a => (k a).sim Q Ex) Ex := by cases t <;> rfl
theorem sim.imp {t : M α} {Q Q' : α → Prop} {Ex Ex' : Xn → Prop} (h : t.sim Q Ex) (h1 : ∀ a, Q a → Q' a) (h2 : ∀ x, Ex x → Ex' x) : t.sim Q' Ex' := by
  cases t with
  | ok a => exact h1 a h
  | err x => exact h2 x h
  | stk => trivial
theorem sim_grd {p : Prop} [Decidable p] {t : M α} {Q : α → Prop} {Ex : Xn → Prop} (h : p → t.sim Q Ex) : (grd p t).sim Q Ex := by
  unfold grd
  by_cases c : p
  · rw [if_pos c]; exact h c
  · rw [if_neg c]; trivial
theorem sim_ofO {o : Option α} {Q : α → Prop} {Ex : Xn → Prop} (h : ∀ a, o = some a → Q a) : (ofO o).sim Q Ex := by
  cases o with
  | none => trivial
  | some a => exact h a rfl
end M
/-- how a block ends -/
inductive C (S L R : Type) where
  | nx (s : S) | rt (r : R) | bk (l : L) | ct (l : L)
def M.seq {S S' L R : Type} (t : M (C S L R)) (k : S → M (C S' L R)) : M (C S' L R) := t.bind fun c => match c with
  | .nx s => k s
  | .rt r => .ok (.rt r)
  | .bk l => .ok (.bk l)
  | .ct l => .ok (.ct l)
section
variable {S S' L R : Type} {k : S → M (C S' L R)}
@[simp] theorem seq_ok_nx (s : S) : (M.ok (.nx s)).seq k = k s := rfl
@[simp] theorem seq_ok_rt (r : R) : (M.ok (.rt r)).seq k = .ok (.rt r) := rfl
@[simp] theorem seq_ok_bk (r : L) : (M.ok (.bk r)).seq k = .ok (.bk r) := rfl
@[simp] theorem seq_ok_ct (r : L) : (M.ok (.ct r)).seq k = .ok (.ct r) := rfl
@[simp] theorem seq_stk : (M.stk : M (C S L R)).seq k = .stk := rfl
@[simp] theorem seq_err (x : Xn) : (M.err x : M (C S L R)).seq k = .err x := rfl
theorem seq_bind {α : Type} (t : M α) (l : α → M (C S L R)) : (t.bind l).seq k = t.bind fun a => (l a).seq k := by cases t <;> rfl
end

/-! ### patterns of slots -/
abbrev Pat := List (Option D)
def pfit : Option D → Option D → Prop
  | none, _ => True
  | some d, o => o = some d
def Fits : Pat → En → Prop
  | [], [] => True
  | p :: ps, o :: os => pfit p o ∧ Fits ps os
  | _, _ => False
def pget : Pat → Nat → Option D
  | [], _ => none
  | o :: _, 0 => o
  | _ :: l, i + 1 => pget l i
def pset : Pat → Nat → Option D → Pat
  | [], _, _ => []
  | _ :: l, 0, d => d :: l
  | o :: l, i + 1, d => o :: pset l i d
theorem Fits.get : ∀ {p : Pat} {ρ : En} {i : Nat} {d : D}, Fits p ρ → pget p i = some d → slot ρ i = some d
  | [], [], _, _, _, h => by cases h
  | p :: ps, o :: os, 0, d, f, h => by
    have h : p = some d := h
    subst h
    have e : o = some d := f.1
    subst e; rfl
  | p :: ps, o :: os, i + 1, d, f, h => by
    have := Fits.get (i := i) f.2 h
    exact this
theorem Fits.set : ∀ {p : Pat} {ρ : En} (i : Nat) {x o : Option D}, Fits p ρ → pfit x o → Fits (pset p i x) (ρ.set i o)
  | [], [], _, _, _, _, _ => trivial
  | p :: ps, o :: os, 0, _, _, f, h => ⟨h, f.2⟩
  | p :: ps, o :: os, i + 1, _, _, f, h => ⟨f.1, Fits.set i f.2 h⟩
theorem Fits.put {p : Pat} {ρ : En} (i : Nat) {d : D} (f : Fits p ρ) : Fits (pset p i (some d)) (ρ.set i (some d)) := f.set i rfl
theorem Fits.forget : ∀ {p : Pat} {ρ : En} (i : Nat), Fits p ρ → Fits (pset p i none) ρ
  | [], [], _, _ => trivial
  | p :: ps, o :: os, 0, f => ⟨trivial, f.2⟩
  | p :: ps, o :: os, i + 1, f => ⟨f.1, Fits.forget i f.2⟩
theorem Fits.fput {p : Pat} {ρ : En} (i : Nat) (o : Option D) (f : Fits p ρ) : Fits (pset p i none) (ρ.set i o) := f.set i trivial
theorem pget_ne : ∀ {p : Pat} {i j : Nat} {x : Option D}, i ≠ j → pget (pset p j x) i = pget p i
  | [], _, _, _, _ => rfl
  | _ :: _, 0, 0, _, h => absurd rfl h
  | _ :: _, 0, j + 1, _, _ => rfl
  | _ :: _, i + 1, 0, _, _ => rfl
  | _ :: l, i + 1, j + 1, _, h => pget_ne (p := l) (i := i) (j := j) fun e => h (congrArg (· + 1) e)
theorem pset_get : ∀ {p : Pat} {i : Nat} {d : D}, pget p i = some d → pset p i (some d) = p
  | [], _, _, h => by cases h
  | o :: l, 0, d, h => by
    have h : o = some d := h
    subst h; rfl
  | o :: l, i + 1, d, h => congrArg (o :: ·) (pset_get (p := l) (i := i) h)
theorem pset_pset : ∀ {p : Pat} {i : Nat} {x y : Option D}, pset (pset p i x) i y = pset p i y
  | [], _, _, _ => rfl
  | _ :: _, 0, _, _ => rfl
  | o :: l, i + 1, x, y => congrArg (o :: ·) (pset_pset (p := l))
theorem slot_set_none {p : Pat} {ρ : En} {i j : Nat} {d : D} (f : Fits p ρ) (h : i ≠ j) (g : pget p i = some d) : slot (ρ.set j none) i = some d :=
  (f.fput j none).get (by rw [pget_ne h]; exact g)
/-- less is known -/
inductive Weak : Pat → Pat → Prop
  | w0 : Weak [] []
  | wn {p q : Pat} {o : Option D} : Weak p q → Weak (none :: p) (o :: q)
  | ws {p q : Pat} {d : D} : Weak p q → Weak (some d :: p) (some d :: q)
theorem Weak.fits : ∀ {p q : Pat} {ρ : En}, Weak p q → Fits q ρ → Fits p ρ
  | _, _, [], .w0, _ => trivial
  | _, _, _ :: _, .w0, f => f.elim
  | _, _, [], .wn _, f => f.elim
  | _, _, _ :: _, .wn w, f => ⟨trivial, w.fits f.2⟩
  | _, _, [], .ws _, f => f.elim
  | _, _, _ :: _, .ws w, f => ⟨f.1, w.fits f.2⟩
theorem Weak.refl : ∀ {p : Pat}, Weak p p
  | [] => .w0
  | none :: _ => .wn Weak.refl
  | some _ :: _ => .ws Weak.refl
theorem w0 : Weak [] [] := .w0
theorem wn {p q : Pat} {o : Option D} (h : Weak p q) : Weak (none :: p) (o :: q) := .wn h
theorem ws {p q : Pat} {d : D} (h : Weak p q) : Weak (some d :: p) (some d :: q) := .ws h

/-! ### encoders -/
section
variable {α β γ δ ε ζ : Type}
def eI : Int → D := .int
def eB : Bool → D := .bl
def eS (l : List Nat) : D := .str (T l)
def eN (_ : Unit) : D := .non
def eO (e : α → D) : Option α → D
  | none => .non
  | some a => e a
def eT2 (a : α → D) (b : β → D) (x : α × β) : D := .tup [a x.1, b x.2]
def eT3 (a : α → D) (b : β → D) (c : γ → D) (x : α × β × γ) : D := .tup [a x.1, b x.2.1, c x.2.2]
def eT4 (a : α → D) (b : β → D) (c : γ → D) (d : δ → D) (x : α × β × γ × δ) : D := .tup [a x.1, b x.2.1, c x.2.2.1, d x.2.2.2]
def eT5 (a : α → D) (b : β → D) (c : γ → D) (d : δ → D) (e : ε → D) (x : α × β × γ × δ × ε) : D := .tup [a x.1, b x.2.1, c x.2.2.1, d x.2.2.2.1, e x.2.2.2.2]
/-- a tuple of like things -/
def eTL (e : α → D) (xs : List α) : D := .tup (xs.map e)
/-- a list, read only -/
def eL (e : α → D) (xs : List α) : D := .lst false (xs.map e)
/-- a list that may be changed -/
def eW (e : α → D) (xs : List α) : D := .lst true (xs.map e)
/-- any thing, frozen -/
def eA (d : D) : D := d.frz
/-- as it stands -/
def eR (d : D) : D := d
class Frz (e : α → D) : Prop where
  f : ∀ a, (e a).isF = true
theorem Frz.frz {e : α → D} [h : Frz e] (a : α) : (e a).frz = e a := D.frz_of (h.f a)
theorem Frz.l {e : α → D} [h : Frz e] (xs : List α) : D.isFL (xs.map e) = true := isFL_map h.f xs
instance : Frz eI := ⟨fun _ => rfl⟩
instance : Frz eB := ⟨fun _ => rfl⟩
instance : Frz eS := ⟨fun _ => rfl⟩
instance : Frz eN := ⟨fun _ => rfl⟩
instance : Frz eA := ⟨fun d => D.frz_isF d⟩
instance {e : α → D} [h : Frz e] : Frz (eO e) := ⟨fun a => by cases a; rfl; exact h.f _⟩
instance {e : α → D} [h : Frz e] : Frz (eTL e) := ⟨fun a => h.l a⟩
instance {e : α → D} [h : Frz e] : Frz (eL e) := ⟨fun a => by show (!false && D.isFL (a.map e)) = true; rw [h.l a]; rfl⟩
instance {a : α → D} {b : β → D} [h : Frz a] [h' : Frz b] : Frz (eT2 a b) := ⟨fun x => by show (_ && (_ && true)) = true; rw [h.f, h'.f]; rfl⟩
instance {a : α → D} {b : β → D} {c : γ → D} [h : Frz a] [h' : Frz b] [h2 : Frz c] : Frz (eT3 a b c) := ⟨fun x => by show (_ && (_ && (_ && true))) = true; rw [h.f, h'.f, h2.f]; rfl⟩
instance {a : α → D} {b : β → D} {c : γ → D} {d : δ → D} [h : Frz a] [h' : Frz b] [h2 : Frz c] [h3 : Frz d] : Frz (eT4 a b c d) := ⟨fun x => by show (_ && (_ && (_ && (_ && true)))) = true; rw [h.f, h'.f, h2.f, h3.f]; rfl⟩
instance {a : α → D} {b : β → D} {c : γ → D} {d : δ → D} {e : ε → D} [h : Frz a] [h' : Frz b] [h2 : Frz c] [h3 : Frz d] [h4 : Frz e] : Frz (eT5 a b c d e) := ⟨fun x => by show (_ && (_ && (_ && (_ && (_ && true))))) = true; rw [h.f, h'.f, h2.f, h3.f, h4.f]; rfl⟩
end

/-! ### judgements -/
section
variable {α β γ χ A : Type}
/-- an expression that changes nothing that is known -/
def XP (p : Pat) (f : FE) (e : α → D) (t : M α) : Prop := ∀ ρ, Fits p ρ → t.sim (fun a => ∃ ρ', f ρ = .ok (e a) ρ' ∧ Fits p ρ') fun x => ∃ ρ', f ρ = .exc x ρ' ∧ Fits p ρ'
/-- one that changes slot j alone -/
def XE (p : Pat) (f : FE) (e : α → D) (j : Nat) (ej : χ → D) (t : M (α × χ)) : Prop := ∀ ρ, Fits p ρ → t.sim (fun a => ∃ ρ', f ρ = .ok (e a.1) ρ' ∧ Fits (pset p j (some (ej a.2))) ρ') fun x => ∃ ρ', f ρ = .exc x ρ'
/-- tests -/
def XT (p : Pat) (f : FB) (t : M Bool) : Prop := ∀ ρ, Fits p ρ → t.sim (fun b => ∃ ρ', f ρ = .ok b ρ' ∧ Fits p ρ') fun x => ∃ ρ', f ρ = .exc x ρ' ∧ Fits p ρ'
def XTE (p : Pat) (f : FB) (j : Nat) (ej : χ → D) (t : M (Bool × χ)) : Prop := ∀ ρ, Fits p ρ → t.sim (fun b => ∃ ρ', f ρ = .ok b.1 ρ' ∧ Fits (pset p j (some (ej b.2))) ρ') fun x => ∃ ρ', f ρ = .exc x ρ'
/-- what an operand holds, where only slot n may be looked at -/
def Opn (n : Option Nat) (p : Pat) (a : Ar) (d : D) : Prop := match n with
  | none => a = .val d
  | some i => a = .loc i ∧ pget p i = some d
theorem Opn.res {n : Option Nat} {p : Pat} {a : Ar} {d : D} {ρ : En} (h : Opn n p a d) (f : Fits p ρ) : res a ρ = some d := by
  cases n with
  | none => obtain rfl : a = .val d := h; rfl
  | some i =>
    obtain ⟨rfl, e⟩ := h
    exact f.get e
def apart (n : Option Nat) (j : Nat) : Bool := match n with
  | none => true
  | some i => i != j
theorem Opn.over {n : Option Nat} {p : Pat} {a : Ar} {d : D} {j : Nat} {x : Option D} (h : Opn n p a d) (k : apart n j = true) : Opn n (pset p j x) a d := by
  cases n with
  | none => exact h
  | some i =>
    obtain ⟨rfl, e⟩ := h
    refine ⟨rfl, ?_⟩
    rw [pget_ne (by simpa [apart] using k)]; exact e
def XO (p : Pat) (f : FO) (n : Option Nat) (e : α → D) (t : M α) : Prop := ∀ ρ, Fits p ρ → t.sim (fun v => ∃ a ρ', f ρ = .ok a ρ' ∧ Fits p ρ' ∧ Opn n p a (e v)) fun x => ∃ ρ', f ρ = .exc x ρ' ∧ Fits p ρ'
def XOE (p : Pat) (f : FO) (e : α → D) (j : Nat) (ej : χ → D) (t : M (α × χ)) : Prop := ∀ ρ, Fits p ρ → t.sim (fun v => ∃ ρ', f ρ = .ok (.val (e v.1)) ρ' ∧ Fits (pset p j (some (ej v.2))) ρ') fun x => ∃ ρ', f ρ = .exc x ρ'
inductive Opns : List (Option Nat) → Pat → List Ar → List D → Prop
  | nil {p : Pat} : Opns [] p [] []
  | cons {n : Option Nat} {ns : List (Option Nat)} {p : Pat} {a : Ar} {as : List Ar} {d : D} {ds : List D} : Opn n p a d → Opns ns p as ds → Opns (n :: ns) p (a :: as) (d :: ds)
theorem Opns.over {p : Pat} {j : Nat} {x : Option D} : ∀ {ns : List (Option Nat)} {as : List Ar} {ds : List D}, Opns ns p as ds → ns.all (apart · j) = true → Opns ns (pset p j x) as ds
  | _, _, _, .nil, _ => .nil
  | _, _, _, .cons h l, k => by
    simp only [List.all_cons, Bool.and_eq_true] at k
    exact .cons (h.over k.1) (l.over k.2)
theorem Opns.ress {p : Pat} {ρ : En} (f : Fits p ρ) : ∀ {ns : List (Option Nat)} {as : List Ar} {ds : List D}, Opns ns p as ds → DL.ress as ρ = some ds
  | _, _, _, .nil => rfl
  | _, _, _, .cons h l => by
    unfold DL.ress
    rw [h.res f, l.ress f]
theorem Opns.resF {p : Pat} {ρ : En} (f : Fits p ρ) : ∀ {ns : List (Option Nat)} {as : List Ar} {ds : List D}, Opns ns p as ds → D.isFL ds = true → DL.resF ρ as = some ds
  | _, _, _, .nil, _ => rfl
  | _, _, _, .cons (d := d) (ds := ds) h l, k => by
    have k : (d.isF && D.isFL ds) = true := k
    simp only [Bool.and_eq_true] at k
    unfold DL.resF
    rw [h.res f, l.resF f k.2]
    simp only [k.1, if_true]
def XA (p : Pat) (f : FLs) (ns : List (Option Nat)) (es : A → List D) (t : M A) : Prop := ∀ ρ, Fits p ρ → t.sim (fun v => ∃ as ρ', f ρ = .ok as ρ' ∧ Fits p ρ' ∧ Opns ns p as (es v)) fun x => ∃ ρ', f ρ = .exc x ρ' ∧ Fits p ρ'
def XAE (p : Pat) (f : FLs) (ns : List (Option Nat)) (es : A → List D) (j : Nat) (ej : χ → D) (t : M (A × χ)) : Prop := ∀ ρ, Fits p ρ → t.sim (fun v => ∃ as ρ', f ρ = .ok as ρ' ∧ Fits (pset p j (some (ej v.2))) ρ' ∧ Opns ns (pset p j (some (ej v.2))) as (es v.1)) fun x => ∃ ρ', f ρ = .exc x ρ'
/-- what a block leaves: how it is read -/
structure Out (S L R : Type) where
  o : S → Pat
  l : L → Pat
  r : R → D → En → Prop
def XS {S L R : Type} (p : Pat) (f : FS) (o : Out S L R) (t : M (C S L R)) : Prop := ∀ ρ, Fits p ρ → t.sim (fun c => match c with
  | .nx s => ∃ ρ', f ρ = .nx ρ' ∧ Fits (o.o s) ρ'
  | .rt r => ∃ d ρ', f ρ = .rt d ρ' ∧ o.r r d ρ'
  | .bk s => ∃ ρ', f ρ = .bk ρ' ∧ Fits (o.l s) ρ'
  | .ct s => ∃ ρ', f ρ = .ct ρ' ∧ Fits (o.l s) ρ') fun x => ∃ ρ', f ρ = .exc x ρ'
def XI (p : Pat) (f : FI) (e : α → D) (t : M (List α)) : Prop := ∀ ρ, Fits p ρ → t.sim (fun xs => ∃ ρ', f ρ = .ok (xs.map e) ρ' ∧ Fits p ρ') fun x => ∃ ρ', f ρ = .exc x ρ' ∧ Fits p ρ'
def XIE (p : Pat) (f : FI) (e : α → D) (j : Nat) (ej : χ → D) (t : M (List α × χ)) : Prop := ∀ ρ, Fits p ρ → t.sim (fun xs => ∃ ρ', f ρ = .ok (xs.1.map e) ρ' ∧ Fits (pset p j (some (ej xs.2))) ρ') fun x => ∃ ρ', f ρ = .exc x ρ'
def XG (e : α → D) (g : FG) (p : Pat) (q : α → Pat) : Prop := ∀ a ρ, Fits p ρ → ∃ ρ', g (e a) ρ = some ρ' ∧ Fits (q a) ρ'
end
end DL

namespace DL
open PySem PySem.Spec PyProof.Rows L2

section
variable {α β γ δ χ A B : Type} {p : Pat} {i j : Nat} {ej : χ → D} {s : χ}
/-! ### from plain to changing -/
theorem xe_up {f : FE} {e : α → D} {t : M α} (g : pget p j = some (ej s)) (h : XP p f e t) : XE p f e j ej (t.bind fun a => .ok (a, s)) := by
  intro ρ hf
  rw [M.sim_bind]
  refine (h ρ hf).imp (fun a ⟨ρ', e1, f1⟩ => ⟨ρ', e1, ?_⟩) (fun x ⟨ρ', e1, _⟩ => ⟨ρ', e1⟩)
  rw [pset_get g]; exact f1
theorem xte_up {f : FB} {t : M Bool} (g : pget p j = some (ej s)) (h : XT p f t) : XTE p f j ej (t.bind fun a => .ok (a, s)) := by
  intro ρ hf
  rw [M.sim_bind]
  refine (h ρ hf).imp (fun a ⟨ρ', e1, f1⟩ => ⟨ρ', e1, ?_⟩) (fun x ⟨ρ', e1, _⟩ => ⟨ρ', e1⟩)
  rw [pset_get g]; exact f1
/-- an operand that may change slot j -/
def XOE' (p : Pat) (f : FO) (n : Option Nat) (e : α → D) (j : Nat) (ej : χ → D) (t : M (α × χ)) : Prop := ∀ ρ, Fits p ρ → t.sim (fun v => ∃ a ρ', f ρ = .ok a ρ' ∧ Fits (pset p j (some (ej v.2))) ρ' ∧ Opn n (pset p j (some (ej v.2))) a (e v.1)) fun x => ∃ ρ', f ρ = .exc x ρ'
theorem xo_up {f : FO} {n : Option Nat} {e : α → D} {t : M α} (g : pget p j = some (ej s)) (h : XO p f n e t) : XOE' p f n e j ej (t.bind fun a => .ok (a, s)) := by
  intro ρ hf
  rw [M.sim_bind]
  refine (h ρ hf).imp (fun v ⟨a, ρ', e1, f1, o1⟩ => ⟨a, ρ', e1, ?_⟩) (fun x ⟨ρ', e1, _⟩ => ⟨ρ', e1⟩)
  rw [pset_get g]; exact ⟨f1, o1⟩
theorem xoe_val {f : FE} {e : α → D} {t : M (α × χ)} (h : XE p f e j ej t) : XOE' p (fVal f) none e j ej t := fun ρ hf =>
  (h ρ hf).imp (fun a ⟨ρ', e1, f1⟩ => ⟨.val (e a.1), ρ', by unfold fVal; rw [e1]; rfl, f1, rfl⟩) fun x ⟨ρ', e1⟩ => ⟨ρ', by unfold fVal; rw [e1]; rfl⟩
def consE (e : α → D) (es : A → List D) (a : α × A) : List D := e a.1 :: es a.2
def nilE (_ : Unit) : List D := []
class FrzE (es : A → List D) : Prop where
  f : ∀ a, D.isFL (es a) = true
instance : FrzE nilE := ⟨fun _ => rfl⟩
instance {e : α → D} {es : A → List D} [h : Frz e] [h' : FrzE es] : FrzE (consE e es) := ⟨fun a => by show (_ && _) = true; rw [h.f, h'.f]; rfl⟩
theorem xae_up {f : FLs} {ns : List (Option Nat)} {es : A → List D} {t : M A} (g : pget p j = some (ej s)) (h : XA p f ns es t) : XAE p f ns es j ej (t.bind fun a => .ok (a, s)) := by
  intro ρ hf
  rw [M.sim_bind]
  refine (h ρ hf).imp (fun v ⟨a, ρ', e1, f1, o1⟩ => ⟨a, ρ', e1, ?_⟩) (fun x ⟨ρ', e1, _⟩ => ⟨ρ', e1⟩)
  rw [pset_get g]; exact ⟨f1, o1⟩

/-! ### names, constants -/
theorem xp_name (i : Nat) {e : α → D} {v : α} [Frz e] (h : pget p i = some (e v)) : XP p (fName i) e (.ok v) := fun ρ hf => by
  have e1 := hf.get h
  refine ⟨ρ.set i (some (e v).frz), ?_, ?_⟩
  · unfold fName; rw [e1]
    show R.ok (e v).frz _ = _
    rw [Frz.frz]
  · rw [Frz.frz]
    have := hf.put i (d := e v)
    rw [pset_get h] at this; exact this
/-- an owned list read by its name: it is frozen from then on -/
theorem xe_nameW (i : Nat) {e : α → D} {v : List α} [Frz e] (h : pget p i = some (eW e v)) : XE p (fName i) (eL e) i (eL e) (.ok (v, v)) := fun ρ hf => by
  have e1 := hf.get h
  have e2 : (eW e v).frz = eL e v := by show D.lst false _ = _; unfold eL; rw [frzL_map Frz.f]
  refine ⟨ρ.set i (some (eW e v).frz), ?_, ?_⟩
  · unfold fName; rw [e1]
    show R.ok (eW e v).frz _ = _
    rw [e2]
  · rw [e2]; exact hf.put i
theorem xp_c {d : D} {e : α → D} {v : α} (h : d = e v) : XP p (fC d) e (.ok v) := fun ρ hf => ⟨ρ, by unfold fC; rw [h], hf⟩
theorem xp_int {z : Int} : XP p (fC (.int z)) eI (.ok z) := xp_c rfl
theorem xp_bl {z : Bool} : XP p (fC (.bl z)) eB (.ok z) := xp_c rfl
theorem xp_non : XP p (fC .non) eN (.ok ()) := xp_c rfl
theorem xp_str {z : Str} (l : List Nat) (h : z = T l) : XP p (fC (.str z)) eS (.ok l) := xp_c (by rw [h]; rfl)
theorem xp_none {e : α → D} : XP p (fC .non) (eO e) (.ok none) := xp_c rfl
theorem xp_raw (d : D) : XP p (fC d) eR (.ok d) := xp_c rfl
/-- read as another encoding of the same -/
theorem xp_as {f : FE} {e : α → D} {e' : β → D} {t : M α} (k : α → β) (hk : ∀ a, e a = e' (k a)) (h : XP p f e t) : XP p f e' (t.bind fun a => .ok (k a)) := by
  intro ρ hf
  rw [M.sim_bind]
  exact (h ρ hf).imp (fun a ⟨ρ', e1, f1⟩ => ⟨ρ', by rw [e1, hk], f1⟩) fun _ h => h
theorem xe_as {f : FE} {e : α → D} {e' : β → D} {t : M (α × χ)} (k : α → β) (hk : ∀ a, e a = e' (k a)) (h : XE p f e j ej t) : XE p f e' j ej (t.bind fun a => .ok (k a.1, a.2)) := by
  intro ρ hf
  rw [M.sim_bind]
  exact (h ρ hf).imp (fun a ⟨ρ', e1, f1⟩ => ⟨ρ', by rw [e1, hk], f1⟩) fun _ h => h
theorem xp_some {f : FE} {e : α → D} {t : M α} (h : XP p f e t) : XP p f (eO e) (t.bind fun a => .ok (some a)) := xp_as some (fun _ => rfl) h
/-- read as what it must be -/
theorem xp_at {f : FE} {e : α → D} {e' : β → D} {t : M α} (k : α → M β) (hk : ∀ a, (k a).sim (fun b => e a = e' b) fun _ => False) (h : XP p f e t) : XP p f e' (t.bind k) := by
  intro ρ hf
  rw [M.sim_bind]
  refine (h ρ hf).imp (fun a ⟨ρ', e1, f1⟩ => (hk a).imp (fun b eb => ⟨ρ', by rw [e1, eb], f1⟩) fun _ h => h.elim) fun _ h => h
def unO : Option α → M α
  | some a => .ok a
  | none => .stk
@[simp] theorem unO_some (a : α) : unO (some a) = .ok a := rfl
@[simp] theorem unO_none : unO (none : Option α) = .stk := rfl
theorem xp_unO {f : FE} {e : α → D} {t : M (Option α)} (h : XP p f (eO e) t) : XP p f e (t.bind unO) := xp_at unO (fun a => by cases a <;> first | trivial | rfl) h
theorem xp_fz {f : FE} {e : α → D} {t : M α} [Frz e] (h : XP p f e t) : XP p (fFz f) e t := fun ρ hf =>
  (h ρ hf).imp (fun a ⟨ρ', e1, f1⟩ => ⟨ρ', by unfold fFz; rw [e1]; show R.ok _ _ = _; rw [Frz.frz], f1⟩) fun x ⟨ρ', e1, f1⟩ => ⟨ρ', by unfold fFz; rw [e1]; rfl, f1⟩
theorem eW_frz {e : α → D} [Frz e] {v : List α} : (eW e v).frz = eL e v := by show D.lst false _ = _; unfold eL; rw [frzL_map Frz.f]
theorem xp_fzW {f : FE} {e : α → D} {t : M (List α)} [Frz e] (h : XP p f (eW e) t) : XP p (fFz f) (eL e) t := fun ρ hf =>
  (h ρ hf).imp (fun a ⟨ρ', e1, f1⟩ => ⟨ρ', by unfold fFz; rw [e1]; show R.ok _ _ = _; rw [eW_frz], f1⟩) fun x ⟨ρ', e1, f1⟩ => ⟨ρ', by unfold fFz; rw [e1]; rfl, f1⟩
theorem xe_fz {f : FE} {e : α → D} {t : M (α × χ)} [Frz e] (h : XE p f e j ej t) : XE p (fFz f) e j ej t := fun ρ hf =>
  (h ρ hf).imp (fun a ⟨ρ', e1, f1⟩ => ⟨ρ', by unfold fFz; rw [e1]; show R.ok _ _ = _; rw [Frz.frz], f1⟩) fun x ⟨ρ', e1⟩ => ⟨ρ', by unfold fFz; rw [e1]; rfl⟩
theorem xe_fzW {f : FE} {e : α → D} {t : M (List α × χ)} [Frz e] (h : XE p f (eW e) j ej t) : XE p (fFz f) (eL e) j ej t := fun ρ hf =>
  (h ρ hf).imp (fun a ⟨ρ', e1, f1⟩ => ⟨ρ', by unfold fFz; rw [e1]; show R.ok _ _ = _; rw [eW_frz], f1⟩) fun x ⟨ρ', e1⟩ => ⟨ρ', by unfold fFz; rw [e1]; rfl⟩
theorem xo_loc (i : Nat) {e : α → D} {v : α} (h : pget p i = some (e v)) : XO p (fLoc i) (some i) e (.ok v) := fun ρ hf =>
  ⟨.loc i, ρ, by unfold fLoc; rw [hf.get h], hf, rfl, h⟩
theorem xo_val {f : FE} {e : α → D} {t : M α} (h : XP p f e t) : XO p (fVal f) none e t := fun ρ hf =>
  (h ρ hf).imp (fun a ⟨ρ', e1, f1⟩ => ⟨.val (e a), ρ', by unfold fVal; rw [e1]; rfl, f1, rfl⟩) fun x ⟨ρ', e1, f1⟩ => ⟨ρ', by unfold fVal; rw [e1]; rfl, f1⟩
theorem xo_as {f : FO} {n : Option Nat} {e : α → D} {e' : β → D} {t : M α} (k : α → β) (hk : ∀ a, e a = e' (k a)) (h : XO p f n e t) : XO p f n e' (t.bind fun a => .ok (k a)) := by
  intro ρ hf
  rw [M.sim_bind]
  exact (h ρ hf).imp (fun v ⟨a, ρ', e1, f1, o1⟩ => ⟨a, ρ', e1, f1, by rw [← hk]; exact o1⟩) fun _ h => h
theorem xo_at {f : FO} {n : Option Nat} {e : α → D} {e' : β → D} {t : M α} (k : α → M β) (hk : ∀ a, (k a).sim (fun b => e a = e' b) fun _ => False) (h : XO p f n e t) : XO p f n e' (t.bind k) := by
  intro ρ hf
  rw [M.sim_bind]
  refine (h ρ hf).imp (fun v ⟨a, ρ', e1, f1, o1⟩ => (hk v).imp (fun b eb => ⟨a, ρ', e1, f1, by rw [← eb]; exact o1⟩) fun _ h => h.elim) fun _ h => h
theorem xo_unO {f : FO} {n : Option Nat} {e : α → D} {t : M (Option α)} (h : XO p f n (eO e) t) : XO p f n e (t.bind unO) := xo_at unO (fun a => by cases a <;> first | trivial | rfl) h

/-! ### operators -/
class Op2T {γ : outParam Type} (g : D → D → Option D) (ea : α → D) (eb : β → D) (eg : outParam (γ → D)) (op : outParam (α → β → M γ)) : Prop where
  run : ∀ a b, (op a b).sim (fun c => g (ea a) (eb b) = some (eg c)) fun _ => False
theorem lift2_of {g : D → D → Option D} {a b : Ar} {x y z : D} {ρ : En} (h1 : res a ρ = some x) (h2 : res b ρ = some y) (h3 : g x y = some z) : lift2 g a b ρ = .ok z ρ := by
  unfold lift2; rw [h1, h2]; show R.of (g x y) ρ = _; rw [h3]; rfl
theorem xp_bin {g : D → D → Option D} {ea : α → D} {eb : β → D} {eg : γ → D} {op : α → β → M γ} [o : Op2T g ea eb eg op] {fa fb : FO} {na nb : Option Nat} {ta : M α} {tb : M β}
    (ha : XO p fa na ea ta) (hb : XO p fb nb eb tb) : XP p (fBin g fa fb) eg (ta.bind fun x => tb.bind fun y => op x y) := by
  intro ρ hf
  rw [M.sim_bind]
  refine (ha ρ hf).imp (fun x ⟨a, ρ1, e1, f1, o1⟩ => ?_) fun x ⟨ρ1, e1, f1⟩ => ⟨ρ1, by unfold fBin; rw [e1]; rfl, f1⟩
  rw [M.sim_bind]
  refine (hb ρ1 f1).imp (fun y ⟨b, ρ2, e2, f2, o2⟩ => ?_) fun x ⟨ρ2, e2, f2⟩ => ⟨ρ2, by unfold fBin; rw [e1]; show (fb ρ1).bind _ = _; rw [e2]; rfl, f2⟩
  refine (o.run x y).imp (fun z hz => ⟨ρ2, ?_, f2⟩) fun _ h => h.elim
  unfold fBin; rw [e1]; show (fb ρ1).bind _ = _; rw [e2]
  exact lift2_of (o1.res f2) (o2.res f2) hz
theorem xe_bin {g : D → D → Option D} {ea : α → D} {eb : β → D} {eg : γ → D} {op : α → β → M γ} [o : Op2T g ea eb eg op] {fa fb : FO} {na nb : Option Nat} {ta : M (α × χ)} {tb : χ → M (β × χ)}
    (ha : XOE' p fa na ea j ej ta) (hb : ∀ s, XOE' (pset p j (some (ej s))) fb nb eb j ej (tb s)) (hn : apart na j = true := by rfl) : XE p (fBin g fa fb) eg j ej (ta.bind fun x => (tb x.2).bind fun y => (op x.1 y.1).bind fun z => .ok (z, y.2)) := by
  intro ρ hf
  rw [M.sim_bind]
  refine (ha ρ hf).imp (fun x ⟨a, ρ1, e1, f1, o1⟩ => ?_) fun x ⟨ρ1, e1⟩ => ⟨ρ1, by unfold fBin; rw [e1]; rfl⟩
  rw [M.sim_bind]
  refine (hb x.2 ρ1 f1).imp (fun y ⟨b, ρ2, e2, f2, o2⟩ => ?_) fun x ⟨ρ2, e2⟩ => ⟨ρ2, by unfold fBin; rw [e1]; show (fb ρ1).bind _ = _; rw [e2]; rfl⟩
  rw [M.sim_bind]
  refine (o.run x.1 y.1).imp (fun z hz => ⟨ρ2, ?_, by rw [← pset_pset]; exact f2⟩) fun _ h => h.elim
  unfold fBin; rw [e1]; show (fb ρ1).bind _ = _; rw [e2]
  exact lift2_of ((o1.over hn).res f2) (o2.res f2) hz
class Op1T {γ : outParam Type} (g : D → Option D) (ea : α → D) (eg : outParam (γ → D)) (op : outParam (α → M γ)) : Prop where
  run : ∀ a, (op a).sim (fun c => g (ea a) = some (eg c)) fun _ => False
theorem lift1_of {g : D → Option D} {a : Ar} {x z : D} {ρ : En} (h1 : res a ρ = some x) (h3 : g x = some z) : lift1 g a ρ = .ok z ρ := by
  unfold lift1; rw [h1]; show R.of (g x) ρ = _; rw [h3]; rfl
theorem xp_un {g : D → Option D} {ea : α → D} {eg : γ → D} {op : α → M γ} [o : Op1T g ea eg op] {fa : FO} {na : Option Nat} {ta : M α}
    (ha : XO p fa na ea ta) : XP p (fUn g fa) eg (ta.bind fun x => op x) := by
  intro ρ hf
  rw [M.sim_bind]
  refine (ha ρ hf).imp (fun x ⟨a, ρ1, e1, f1, o1⟩ => ?_) fun x ⟨ρ1, e1, f1⟩ => ⟨ρ1, by unfold fUn; rw [e1]; rfl, f1⟩
  refine (o.run x).imp (fun z hz => ⟨ρ1, ?_, f1⟩) fun _ h => h.elim
  unfold fUn; rw [e1]
  exact lift1_of (o1.res f1) hz
/-! ### tests -/
theorem xt_tst {f : FE} {t : M Bool} (h : XP p f eB t) : XT p (fTst f) t := fun ρ hf =>
  (h ρ hf).imp (fun a ⟨ρ', e1, f1⟩ => ⟨ρ', by unfold fTst; rw [e1]; rfl, f1⟩) fun x ⟨ρ', e1, f1⟩ => ⟨ρ', by unfold fTst; rw [e1]; rfl, f1⟩
theorem xte_tst {f : FE} {t : M (Bool × χ)} (h : XE p f eB j ej t) : XTE p (fTst f) j ej t := fun ρ hf =>
  (h ρ hf).imp (fun a ⟨ρ', e1, f1⟩ => ⟨ρ', by unfold fTst; rw [e1]; rfl, f1⟩) fun x ⟨ρ', e1⟩ => ⟨ρ', by unfold fTst; rw [e1]; rfl⟩
theorem xt_yes : XT p fYes (.ok true) := fun ρ hf => ⟨ρ, rfl, hf⟩
theorem xt_not {f : FB} {t : M Bool} (h : XT p f t) : XT p (fNotT f) (t.bind fun b => .ok (!b)) := by
  intro ρ hf
  rw [M.sim_bind]
  exact (h ρ hf).imp (fun a ⟨ρ', e1, f1⟩ => ⟨ρ', by unfold fNotT; rw [e1]; rfl, f1⟩) fun x ⟨ρ', e1, f1⟩ => ⟨ρ', by unfold fNotT; rw [e1]; rfl, f1⟩
theorem xte_not {f : FB} {t : M (Bool × χ)} (h : XTE p f j ej t) : XTE p (fNotT f) j ej (t.bind fun b => .ok (!b.1, b.2)) := by
  intro ρ hf
  rw [M.sim_bind]
  exact (h ρ hf).imp (fun a ⟨ρ', e1, f1⟩ => ⟨ρ', by unfold fNotT; rw [e1]; rfl, f1⟩) fun x ⟨ρ', e1⟩ => ⟨ρ', by unfold fNotT; rw [e1]; rfl⟩
theorem xt_and {f g : FB} {t u : M Bool} (h : XT p f t) (h2 : XT p g u) : XT p (fAndT f g) (t.bind fun b => if b then u else .ok false) := by
  intro ρ hf
  rw [M.sim_bind]
  refine (h ρ hf).imp (fun a ⟨ρ', e1, f1⟩ => ?_) fun x ⟨ρ', e1, f1⟩ => ⟨ρ', by unfold fAndT; rw [e1]; rfl, f1⟩
  cases a with
  | true => exact (h2 ρ' f1).imp (fun b ⟨ρ2, e2, f2⟩ => ⟨ρ2, by unfold fAndT; rw [e1]; exact e2, f2⟩) fun x ⟨ρ2, e2, f2⟩ => ⟨ρ2, by unfold fAndT; rw [e1]; exact e2, f2⟩
  | false => exact ⟨ρ', by unfold fAndT; rw [e1]; rfl, f1⟩
theorem xt_or {f g : FB} {t u : M Bool} (h : XT p f t) (h2 : XT p g u) : XT p (fOrT f g) (t.bind fun b => if b then .ok true else u) := by
  intro ρ hf
  rw [M.sim_bind]
  refine (h ρ hf).imp (fun a ⟨ρ', e1, f1⟩ => ?_) fun x ⟨ρ', e1, f1⟩ => ⟨ρ', by unfold fOrT; rw [e1]; rfl, f1⟩
  cases a with
  | false => exact (h2 ρ' f1).imp (fun b ⟨ρ2, e2, f2⟩ => ⟨ρ2, by unfold fOrT; rw [e1]; exact e2, f2⟩) fun x ⟨ρ2, e2, f2⟩ => ⟨ρ2, by unfold fOrT; rw [e1]; exact e2, f2⟩
  | true => exact ⟨ρ', by unfold fOrT; rw [e1]; rfl, f1⟩
theorem xte_or {f g : FB} {t : M (Bool × χ)} {u : χ → M (Bool × χ)} (h : XTE p f j ej t) (h2 : ∀ s, XTE (pset p j (some (ej s))) g j ej (u s)) : XTE p (fOrT f g) j ej (t.bind fun b => if b.1 then .ok (true, b.2) else u b.2) := by
  intro ρ hf
  rw [M.sim_bind]
  refine (h ρ hf).imp (fun a ⟨ρ', e1, f1⟩ => ?_) fun x ⟨ρ', e1⟩ => ⟨ρ', by unfold fOrT; rw [e1]; rfl⟩
  obtain ⟨a, s⟩ := a
  cases a with
  | false => exact (h2 s ρ' f1).imp (fun b ⟨ρ2, e2, f2⟩ => ⟨ρ2, by unfold fOrT; rw [e1]; exact e2, by rw [← pset_pset]; exact f2⟩) fun x ⟨ρ2, e2⟩ => ⟨ρ2, by unfold fOrT; rw [e1]; exact e2⟩
  | true => exact ⟨ρ', by unfold fOrT; rw [e1]; rfl, f1⟩
theorem xte_and {f g : FB} {t : M (Bool × χ)} {u : χ → M (Bool × χ)} (h : XTE p f j ej t) (h2 : ∀ s, XTE (pset p j (some (ej s))) g j ej (u s)) : XTE p (fAndT f g) j ej (t.bind fun b => if b.1 then u b.2 else .ok (false, b.2)) := by
  intro ρ hf
  rw [M.sim_bind]
  refine (h ρ hf).imp (fun a ⟨ρ', e1, f1⟩ => ?_) fun x ⟨ρ', e1⟩ => ⟨ρ', by unfold fAndT; rw [e1]; rfl⟩
  obtain ⟨a, s⟩ := a
  cases a with
  | true => exact (h2 s ρ' f1).imp (fun b ⟨ρ2, e2, f2⟩ => ⟨ρ2, by unfold fAndT; rw [e1]; exact e2, by rw [← pset_pset]; exact f2⟩) fun x ⟨ρ2, e2⟩ => ⟨ρ2, by unfold fAndT; rw [e1]; exact e2⟩
  | false => exact ⟨ρ', by unfold fAndT; rw [e1]; rfl, f1⟩
/-! ### values of and, or, not, if else -/
theorem xp_and {f g : FE} {t u : M Bool} (h : XP p f eB t) (h2 : XP p g eB u) : XP p (fAndV f g) eB (t.bind fun b => if b then u else .ok false) := by
  intro ρ hf
  rw [M.sim_bind]
  refine (h ρ hf).imp (fun a ⟨ρ', e1, f1⟩ => ?_) fun x ⟨ρ', e1, f1⟩ => ⟨ρ', by unfold fAndV; rw [e1]; rfl, f1⟩
  cases a with
  | true => exact (h2 ρ' f1).imp (fun b ⟨ρ2, e2, f2⟩ => ⟨ρ2, by unfold fAndV; rw [e1]; exact e2, f2⟩) fun x ⟨ρ2, e2, f2⟩ => ⟨ρ2, by unfold fAndV; rw [e1]; exact e2, f2⟩
  | false => exact ⟨ρ', by unfold fAndV; rw [e1]; rfl, f1⟩
theorem xp_or {f g : FE} {t u : M Bool} (h : XP p f eB t) (h2 : XP p g eB u) : XP p (fOrV f g) eB (t.bind fun b => if b then .ok true else u) := by
  intro ρ hf
  rw [M.sim_bind]
  refine (h ρ hf).imp (fun a ⟨ρ', e1, f1⟩ => ?_) fun x ⟨ρ', e1, f1⟩ => ⟨ρ', by unfold fOrV; rw [e1]; rfl, f1⟩
  cases a with
  | false => exact (h2 ρ' f1).imp (fun b ⟨ρ2, e2, f2⟩ => ⟨ρ2, by unfold fOrV; rw [e1]; exact e2, f2⟩) fun x ⟨ρ2, e2, f2⟩ => ⟨ρ2, by unfold fOrV; rw [e1]; exact e2, f2⟩
  | true => exact ⟨ρ', by unfold fOrV; rw [e1]; rfl, f1⟩
theorem xp_not {f : FE} {t : M Bool} (h : XP p f eB t) : XP p (fNotV f) eB (t.bind fun b => .ok (!b)) := by
  intro ρ hf
  rw [M.sim_bind]
  exact (h ρ hf).imp (fun a ⟨ρ', e1, f1⟩ => ⟨ρ', by unfold fNotV; rw [e1]; rfl, f1⟩) fun x ⟨ρ', e1, f1⟩ => ⟨ρ', by unfold fNotV; rw [e1]; rfl, f1⟩
theorem xp_if {ft : FB} {f g : FE} {e : α → D} {t : M Bool} {u v : M α} (h : XT p ft t) (h1 : XP p f e u) (h2 : XP p g e v) : XP p (fIf ft f g) e (t.bind fun b => if b then u else v) := by
  intro ρ hf
  rw [M.sim_bind]
  refine (h ρ hf).imp (fun a ⟨ρ', e1, f1⟩ => ?_) fun x ⟨ρ', e1, f1⟩ => ⟨ρ', by unfold fIf; rw [e1]; rfl, f1⟩
  cases a with
  | true => exact (h1 ρ' f1).imp (fun b ⟨ρ2, e2, f2⟩ => ⟨ρ2, by unfold fIf; rw [e1]; exact e2, f2⟩) fun x ⟨ρ2, e2, f2⟩ => ⟨ρ2, by unfold fIf; rw [e1]; exact e2, f2⟩
  | false => exact (h2 ρ' f1).imp (fun b ⟨ρ2, e2, f2⟩ => ⟨ρ2, by unfold fIf; rw [e1]; exact e2, f2⟩) fun x ⟨ρ2, e2, f2⟩ => ⟨ρ2, by unfold fIf; rw [e1]; exact e2, f2⟩
theorem xe_if {ft : FB} {f g : FE} {e : α → D} {t : M (Bool × χ)} {u v : χ → M (α × χ)} (h : XTE p ft j ej t) (h1 : ∀ s, XE (pset p j (some (ej s))) f e j ej (u s)) (h2 : ∀ s, XE (pset p j (some (ej s))) g e j ej (v s)) : XE p (fIf ft f g) e j ej (t.bind fun b => if b.1 then u b.2 else v b.2) := by
  intro ρ hf
  rw [M.sim_bind]
  refine (h ρ hf).imp (fun a ⟨ρ', e1, f1⟩ => ?_) fun x ⟨ρ', e1⟩ => ⟨ρ', by unfold fIf; rw [e1]; rfl⟩
  obtain ⟨a, s⟩ := a
  cases a with
  | true => exact (h1 s ρ' f1).imp (fun b ⟨ρ2, e2, f2⟩ => ⟨ρ2, by unfold fIf; rw [e1]; exact e2, by rw [← pset_pset]; exact f2⟩) fun x ⟨ρ2, e2⟩ => ⟨ρ2, by unfold fIf; rw [e1]; exact e2⟩
  | false => exact (h2 s ρ' f1).imp (fun b ⟨ρ2, e2, f2⟩ => ⟨ρ2, by unfold fIf; rw [e1]; exact e2, by rw [← pset_pset]; exact f2⟩) fun x ⟨ρ2, e2⟩ => ⟨ρ2, by unfold fIf; rw [e1]; exact e2⟩
/-- a chain of two comparisons of plain operands -/
theorem xp_chain {g g' : D → D → Option D} {ea : α → D} {eb : β → D} {ec : γ → D} {op : α → β → M Bool} {op' : β → γ → M Bool} [o : Op2T g ea eb eB op] [o' : Op2T g' eb ec eB op'] {fa fb fc : FO} {na nb nc : Option Nat} {ta : M α} {tb : M β} {tc : M γ}
    (ha : XO p fa na ea ta) (hb : XO p fb nb eb tb) (hc : XO p fc nc ec tc) : XP p (fChain g g' fa fb fc) eB (ta.bind fun x => tb.bind fun y => (op x y).bind fun k => if k then tc.bind fun z => op' y z else .ok false) := by
  intro ρ hf
  rw [M.sim_bind]
  refine (ha ρ hf).imp (fun x ⟨a, ρ1, e1, f1, o1⟩ => ?_) fun x ⟨ρ1, e1, f1⟩ => ⟨ρ1, by unfold fChain; rw [e1]; rfl, f1⟩
  rw [M.sim_bind]
  refine (hb ρ1 f1).imp (fun y ⟨b, ρ2, e2, f2, o2⟩ => ?_) fun x ⟨ρ2, e2, f2⟩ => ⟨ρ2, by unfold fChain; rw [e1]; show (fb ρ1).bind _ = _; rw [e2]; rfl, f2⟩
  rw [M.sim_bind]
  refine (o.run x y).imp (fun k hk => ?_) fun _ h => h.elim
  have e3 := lift2_of (o1.res f2) (o2.res f2) hk
  cases k with
  | false => exact ⟨ρ2, by unfold fChain; rw [e1]; show (fb ρ1).bind _ = _; rw [e2]; show (lift2 g a b ρ2).bind _ = _; rw [e3]; rfl, f2⟩
  | true =>
    show M.sim (tc.bind _) _ _
    rw [M.sim_bind]
    refine (hc ρ2 f2).imp (fun z ⟨d, ρ3, e4, f3, o3⟩ => ?_) fun x ⟨ρ3, e4, f3⟩ => ⟨ρ3, by unfold fChain; rw [e1]; show (fb ρ1).bind _ = _; rw [e2]; show (lift2 g a b ρ2).bind _ = _; rw [e3]; show (fc ρ2).bind _ = _; rw [e4]; rfl, f3⟩
    refine (o'.run y z).imp (fun k2 hk2 => ?_) fun _ h => h.elim
    exact ⟨ρ3, by unfold fChain; rw [e1]; show (fb ρ1).bind _ = _; rw [e2]; show (lift2 g a b ρ2).bind _ = _; rw [e3]; show (fc ρ2).bind _ = _; rw [e4]; exact lift2_of (o2.res f3) (o3.res f3) hk2, f3⟩
/-! ### arguments -/
theorem xa_nil : XA p fNil [] nilE (.ok ()) := fun ρ hf => ⟨[], ρ, rfl, hf, .nil⟩
theorem xa_cons {fa : FO} {fs : FLs} {n : Option Nat} {ns : List (Option Nat)} {e : α → D} {es : A → List D} {t : M α} {ts : M A} (h : XO p fa n e t) (h2 : XA p fs ns es ts) : XA p (fCons fa fs) (n :: ns) (consE e es) (t.bind fun x => ts.bind fun y => .ok (x, y)) := by
  intro ρ hf
  rw [M.sim_bind]
  refine (h ρ hf).imp (fun x ⟨a, ρ1, e1, f1, o1⟩ => ?_) fun x ⟨ρ1, e1, f1⟩ => ⟨ρ1, by unfold fCons; rw [e1]; rfl, f1⟩
  rw [M.sim_bind]
  exact (h2 ρ1 f1).imp (fun y ⟨b, ρ2, e2, f2, o2⟩ => ⟨a :: b, ρ2, by unfold fCons; rw [e1]; show (fs ρ1).bind _ = _; rw [e2]; rfl, f2, .cons o1 o2⟩) fun x ⟨ρ2, e2, f2⟩ => ⟨ρ2, by unfold fCons; rw [e1]; show (fs ρ1).bind _ = _; rw [e2]; rfl, f2⟩
theorem xae_cons {fa : FO} {fs : FLs} {n : Option Nat} {ns : List (Option Nat)} {e : α → D} {es : A → List D} {t : M (α × χ)} {ts : χ → M (A × χ)} (h : XOE' p fa n e j ej t) (h2 : ∀ s, XAE (pset p j (some (ej s))) fs ns es j ej (ts s)) (hn : apart n j = true := by rfl) :
    XAE p (fCons fa fs) (n :: ns) (consE e es) j ej (t.bind fun x => (ts x.2).bind fun y => .ok ((x.1, y.1), y.2)) := by
  intro ρ hf
  rw [M.sim_bind]
  refine (h ρ hf).imp (fun x ⟨a, ρ1, e1, f1, o1⟩ => ?_) fun x ⟨ρ1, e1⟩ => ⟨ρ1, by unfold fCons; rw [e1]; rfl⟩
  rw [M.sim_bind]
  refine (h2 x.2 ρ1 f1).imp (fun y ⟨b, ρ2, e2, f2, o2⟩ => ⟨a :: b, ρ2, by unfold fCons; rw [e1]; show (fs ρ1).bind _ = _; rw [e2]; rfl, ?_⟩) fun x ⟨ρ2, e2⟩ => ⟨ρ2, by unfold fCons; rw [e1]; show (fs ρ1).bind _ = _; rw [e2]; rfl⟩
  rw [← pset_pset (y := some (ej y.2))]
  exact ⟨f2, .cons (o1.over hn) o2⟩
/-! ### calls of built-ins -/
class OpNT {γ : outParam Type} (g : List D → Option D) (es : A → List D) (eg : outParam (γ → D)) (op : outParam (A → M γ)) : Prop where
  run : ∀ a, (op a).sim (fun c => g (es a) = some (eg c)) fun _ => False
theorem xp_callB {g : List D → Option D} {es : A → List D} {eg : γ → D} {op : A → M γ} [o : OpNT g es eg op] {fs : FLs} {ns : List (Option Nat)} {t : M A} (h : XA p fs ns es t) : XP p (fCallB g fs) eg (t.bind op) := by
  intro ρ hf
  rw [M.sim_bind]
  refine (h ρ hf).imp (fun x ⟨a, ρ1, e1, f1, o1⟩ => ?_) fun x ⟨ρ1, e1, f1⟩ => ⟨ρ1, by unfold fCallB; rw [e1]; rfl, f1⟩
  refine (o.run x).imp (fun z hz => ⟨ρ1, ?_, f1⟩) fun _ h => h.elim
  unfold fCallB; rw [e1]
  show liftN g a ρ1 = _
  unfold liftN; rw [o1.ress f1]
  show R.of (g _) _ = _
  rw [hz]; rfl
theorem xe_callB {g : List D → Option D} {es : A → List D} {eg : γ → D} {op : A → M γ} [o : OpNT g es eg op] {fs : FLs} {ns : List (Option Nat)} {t : M (A × χ)} (h : XAE p fs ns es j ej t) : XE p (fCallB g fs) eg j ej (t.bind fun a => (op a.1).bind fun z => .ok (z, a.2)) := by
  intro ρ hf
  rw [M.sim_bind]
  refine (h ρ hf).imp (fun x ⟨a, ρ1, e1, f1, o1⟩ => ?_) fun x ⟨ρ1, e1⟩ => ⟨ρ1, by unfold fCallB; rw [e1]; rfl⟩
  rw [M.sim_bind]
  refine (o.run x.1).imp (fun z hz => ⟨ρ1, ?_, f1⟩) fun _ h => h.elim
  unfold fCallB; rw [e1]
  show liftN g a ρ1 = _
  unfold liftN; rw [o1.ress f1]
  show R.of (g _) _ = _
  rw [hz]; rfl
/-! ### calls of defs -/
class FnT {γ : outParam Type} (G : List D → GR) (es : A → List D) (eg : outParam (γ → D)) (op : outParam (A → M γ)) : Prop where
  run : ∀ a, (op a).sim (fun c => G (es a) = .ok (eg c) []) fun x => ∃ l, G (es a) = .exc x l
/-- a def that changes what its first argument names -/
class FnMT {γ : outParam Type} (G : List D → GR) (es : A → List D) (eg : outParam (γ → D)) (op : outParam (D → A → M (γ × D))) : Prop where
  run : ∀ m a, (op m a).sim (fun c => G (m :: es a) = .ok (eg c.1) [c.2]) fun x => ∃ l, G (m :: es a) = .exc x l
/-- (calls raise nothing here) -/
def M.nox {α : Type} (t : M α) : M α := match t with
  | .err _ => .stk
  | t => t
theorem M.nox_sim {t : M α} {Q : α → Prop} {Ex Ex' : Xn → Prop} (h : t.sim Q Ex) : t.nox.sim Q Ex' := by cases t <;> first | exact h | trivial
@[simp] theorem M.nox_ok (a : α) : (M.ok a).nox = .ok a := rfl
theorem xp_call {G : List D → GR} {es : A → List D} {eg : γ → D} {op : A → M γ} [o : FnT G es eg op] [z : FrzE es] {fs : FLs} {ns : List (Option Nat)} {t : M A} (h : XA p fs ns es t) : XP p (fCall G fs) eg (t.bind fun a => (op a).nox) := by
  intro ρ hf
  rw [M.sim_bind]
  refine (h ρ hf).imp (fun x ⟨a, ρ1, e1, f1, o1⟩ => ?_) fun x ⟨ρ1, e1, f1⟩ => ⟨ρ1, by unfold fCall; rw [e1]; rfl, f1⟩
  refine M.nox_sim ((o.run x).imp (fun c hc => ⟨ρ1, ?_, f1⟩) fun _ h => h)
  unfold fCall; rw [e1]
  simp only [R.bind_ok, o1.resF f1 (z.f x), hc]
theorem xe_call {G : List D → GR} {es : A → List D} {eg : γ → D} {op : A → M γ} [o : FnT G es eg op] [z : FrzE es] {fs : FLs} {ns : List (Option Nat)} {t : M (A × χ)} (h : XAE p fs ns es j ej t) : XE p (fCall G fs) eg j ej (t.bind fun a => (op a.1).nox.bind fun z => .ok (z, a.2)) := by
  intro ρ hf
  rw [M.sim_bind]
  refine (h ρ hf).imp (fun x ⟨a, ρ1, e1, f1, o1⟩ => ?_) fun x ⟨ρ1, e1⟩ => ⟨ρ1, by unfold fCall; rw [e1]; rfl⟩
  rw [M.sim_bind]
  refine M.nox_sim ((o.run x.1).imp (fun c hc => ⟨ρ1, ?_, f1⟩) fun _ h => h)
  unfold fCall; rw [e1]
  simp only [R.bind_ok, o1.resF f1 (z.f x.1), hc]
theorem xe_callM (i : Nat) {m : D} {G : List D → GR} {es : A → List D} {eg : γ → D} {op : D → A → M (γ × D)} [o : FnMT G es eg op] [z : FrzE es] {fs : FLs} {ns : List (Option Nat)} {t : M (A × D)} (h : XAE p fs ns es i eR t) (g0 : pget p i = some (eR m) := by rfl) (hn : ns.all (apart · i) = true := by rfl) :
    XE p (fCallM G (fCons (fLoc i) fs)) eg i eR (t.bind fun a => (op a.2 a.1).nox) := by
  intro ρ hf
  rw [M.sim_bind]
  have e0 : fLoc i ρ = .ok (.loc i) ρ := by unfold fLoc; rw [hf.get g0]
  refine (h ρ hf).imp (fun x ⟨a, ρ1, e1, f1, o1⟩ => ?_) fun x ⟨ρ1, e1⟩ => ⟨ρ1, by unfold fCallM fCons; simp only [e0, R.bind_ok, e1]; rfl⟩
  refine M.nox_sim ((o.run x.2 x.1).imp (fun c hc => ⟨ρ1.set i (some c.2), ?_, ?_⟩) fun _ h => h)
  · have e2 : slot ρ1 i = some x.2 := by
      have hl : pget (pset p i (some (eR x.2))) i = some x.2 := by
        have : ∀ {q : Pat} {k : Nat} {d y : D}, pget q k = some d → pget (pset q k (some y)) k = some y := fun {q k d y} => by
          induction q generalizing k with
          | nil => intro h; cases h
          | cons a l ih => cases k with
            | zero => intro _; rfl
            | succ k => intro h; exact ih h
        exact this g0
      exact f1.get hl
    have o2 := o1.over (x := none) (j := i) hn
    have e3 := o2.resF (f1.fput i none) (z.f x.1)
    unfold fCallM fCons
    simp only [e0, R.bind_ok, e1, e2, e3, hc]
  · have := f1.put i (d := eR c.2)
    rw [pset_pset] at this; exact this
end
end DL

namespace DL
open PySem PySem.Spec PyProof.Rows L2

section
variable {α β γ δ χ A B : Type} {p : Pat} {i j : Nat} {ej : χ → D} {s : χ}
/-! ### slices -/
def XPt (p : Pat) (f : FP) (t : M (Option Int)) : Prop := ∀ ρ, Fits p ρ → t.sim (fun v => ∃ ρ', prt f ρ = .ok v ρ' ∧ Fits p ρ') fun x => ∃ ρ', prt f ρ = .exc x ρ' ∧ Fits p ρ'
def XPtE (p : Pat) (f : FP) (j : Nat) (ej : χ → D) (t : M (Option Int × χ)) : Prop := ∀ ρ, Fits p ρ → t.sim (fun v => ∃ ρ', prt f ρ = .ok v.1 ρ' ∧ Fits (pset p j (some (ej v.2))) ρ') fun x => ∃ ρ', prt f ρ = .exc x ρ'
theorem xpt_none : XPt p none (.ok none) := fun ρ hf => ⟨ρ, rfl, hf⟩
theorem xpt_some {f : FO} {n : Option Nat} {t : M Int} (h : XO p f n eI t) : XPt p (some f) (t.bind fun z => .ok (some z)) := by
  intro ρ hf
  rw [M.sim_bind]
  refine (h ρ hf).imp (fun v ⟨a, ρ', e1, f1, o1⟩ => ⟨ρ', ?_, f1⟩) fun x ⟨ρ', e1, f1⟩ => ⟨ρ', ?_, f1⟩
  · show (f ρ).bind _ = _
    have e2 : res a ρ' = some (.int v) := o1.res f1
    rw [e1]; simp only [R.bind_ok, e2]
  · show (f ρ).bind _ = _
    rw [e1]; rfl
theorem xpte_some {f : FO} {n : Option Nat} {t : M (Int × χ)} (h : XOE' p f n eI j ej t) : XPtE p (some f) j ej (t.bind fun z => .ok (some z.1, z.2)) := by
  intro ρ hf
  rw [M.sim_bind]
  refine (h ρ hf).imp (fun v ⟨a, ρ', e1, f1, o1⟩ => ⟨ρ', ?_, f1⟩) fun x ⟨ρ', e1⟩ => ⟨ρ', ?_⟩
  · show (f ρ).bind _ = _
    have e2 : res a ρ' = some (.int v.1) := o1.res f1
    rw [e1]; simp only [R.bind_ok, e2]
  · show (f ρ).bind _ = _
    rw [e1]; rfl
theorem xpt_up {f : FP} {t : M (Option Int)} (g : pget p j = some (ej s)) (h : XPt p f t) : XPtE p f j ej (t.bind fun a => .ok (a, s)) := by
  intro ρ hf
  rw [M.sim_bind]
  refine (h ρ hf).imp (fun a ⟨ρ', e1, f1⟩ => ⟨ρ', e1, ?_⟩) (fun x ⟨ρ', e1, _⟩ => ⟨ρ', e1⟩)
  rw [pset_get g]; exact f1
class SlT {γ : outParam Type} (ea : α → D) (eg : outParam (γ → D)) (op : outParam (α → Option Int → Option Int → M γ)) : Prop where
  run : ∀ a l u, (op a l u).sim (fun c => slD (ea a) l u = some (eg c)) fun _ => False
theorem xp_sl {ea : α → D} {eg : γ → D} {op : α → Option Int → Option Int → M γ} [o : SlT ea eg op] {fa : FO} {n : Option Nat} {lo hi : FP} {ta : M α} {tl th : M (Option Int)} (ha : XO p fa n ea ta) (hl : XPt p lo tl) (hh : XPt p hi th) :
    XP p (fSl fa lo hi) eg (ta.bind fun x => tl.bind fun l => th.bind fun u => op x l u) := by
  intro ρ hf
  rw [M.sim_bind]
  refine (ha ρ hf).imp (fun x ⟨a, ρ1, e1, f1, o1⟩ => ?_) fun x ⟨ρ1, e1, f1⟩ => ⟨ρ1, by unfold fSl; rw [e1]; rfl, f1⟩
  rw [M.sim_bind]
  refine (hl ρ1 f1).imp (fun l ⟨ρ2, e2, f2⟩ => ?_) fun x ⟨ρ2, e2, f2⟩ => ⟨ρ2, by unfold fSl; rw [e1]; simp only [R.bind_ok, e2, R.bind_exc], f2⟩
  rw [M.sim_bind]
  refine (hh ρ2 f2).imp (fun u ⟨ρ3, e3, f3⟩ => ?_) fun x ⟨ρ3, e3, f3⟩ => ⟨ρ3, by unfold fSl; rw [e1]; simp only [R.bind_ok, e2, e3, R.bind_exc], f3⟩
  refine (o.run x l u).imp (fun c hc => ⟨ρ3, ?_, f3⟩) fun _ h => h.elim
  unfold fSl; rw [e1]
  simp only [R.bind_ok, e2, e3, o1.res f3, hc, R.of_some]
theorem xe_sl {ea : α → D} {eg : γ → D} {op : α → Option Int → Option Int → M γ} [o : SlT ea eg op] {fa : FO} {n : Option Nat} {lo hi : FP} {ta : M (α × χ)} {tl th : χ → M (Option Int × χ)} (ha : XOE' p fa n ea j ej ta) (hl : ∀ s, XPtE (pset p j (some (ej s))) lo j ej (tl s)) (hh : ∀ s, XPtE (pset p j (some (ej s))) hi j ej (th s)) (hn : apart n j = true := by rfl) :
    XE p (fSl fa lo hi) eg j ej (ta.bind fun x => (tl x.2).bind fun l => (th l.2).bind fun u => (op x.1 l.1 u.1).bind fun c => .ok (c, u.2)) := by
  intro ρ hf
  rw [M.sim_bind]
  refine (ha ρ hf).imp (fun x ⟨a, ρ1, e1, f1, o1⟩ => ?_) fun x ⟨ρ1, e1⟩ => ⟨ρ1, by unfold fSl; rw [e1]; rfl⟩
  rw [M.sim_bind]
  refine (hl _ ρ1 f1).imp (fun l ⟨ρ2, e2, f2⟩ => ?_) fun x ⟨ρ2, e2⟩ => ⟨ρ2, by unfold fSl; rw [e1]; simp only [R.bind_ok, e2, R.bind_exc]⟩
  rw [M.sim_bind]
  rw [pset_pset] at f2
  refine (hh _ ρ2 f2).imp (fun u ⟨ρ3, e3, f3⟩ => ?_) fun x ⟨ρ3, e3⟩ => ⟨ρ3, by unfold fSl; rw [e1]; simp only [R.bind_ok, e2, e3, R.bind_exc]⟩
  rw [M.sim_bind]
  rw [pset_pset] at f3
  have o3 := o1.over (x := some (ej u.2)) hn
  rw [pset_pset] at o3
  refine (o.run x.1 l.1 u.1).imp (fun c hc => ⟨ρ3, ?_, f3⟩) fun _ h => h.elim
  unfold fSl; rw [e1]
  simp only [R.bind_ok, e2, e3, o3.res f3, hc, R.of_some]
/-! ### what is walked -/
class ItT {β : outParam Type} (e : α → D) (ex : outParam (β → D)) (op : outParam (α → List β)) : Prop where
  run : ∀ a, items (e a) = some ((op a).map ex)
class ItQ {β : outParam Type} (e : α → D) (ex : outParam (β → D)) (op : outParam (α → List β)) : Prop where
  run : ∀ a, itemsQ (e a) = some ((op a).map ex)
def chars (l : List Nat) : List (List Nat) := l.map fun c => [c]
instance {e : α → D} [Frz e] : ItQ (eL e) e id := ⟨fun a => itemsQ_lst (Frz.l a)⟩
instance {e : α → D} [Frz e] : ItQ (eTL e) e id := ⟨fun a => itemsQ_tup (Frz.l a)⟩
instance : ItQ eS eS chars := ⟨fun a => by show itemsQ (.str (T a)) = _; show items (.str (T a)) = _; rw [items_T]; unfold chars; rw [List.map_map]; rfl⟩
instance {e : α → D} {ex : β → D} {op : α → List β} [h : ItQ e ex op] : ItT e ex op := ⟨fun a => (itemsQ_some (h.run a)).1⟩
theorem xi_val {f : FE} {e : α → D} {ex : β → D} {op : α → List β} [o : ItT e ex op] {t : M α} (h : XP p f e t) : XI p (fIter f) ex (t.bind fun a => .ok (op a)) := by
  intro ρ hf
  rw [M.sim_bind]
  refine (h ρ hf).imp (fun a ⟨ρ', e1, f1⟩ => ⟨ρ', ?_, f1⟩) fun x ⟨ρ', e1, f1⟩ => ⟨ρ', by unfold fIter; rw [e1]; rfl, f1⟩
  unfold fIter; rw [e1]
  simp only [R.bind_ok, o.run a, R.of_some]
theorem xie_val {f : FE} {e : α → D} {ex : β → D} {op : α → List β} [o : ItT e ex op] {t : M (α × χ)} (h : XE p f e j ej t) : XIE p (fIter f) ex j ej (t.bind fun a => .ok (op a.1, a.2)) := by
  intro ρ hf
  rw [M.sim_bind]
  refine (h ρ hf).imp (fun a ⟨ρ', e1, f1⟩ => ⟨ρ', ?_, f1⟩) fun x ⟨ρ', e1⟩ => ⟨ρ', by unfold fIter; rw [e1]; rfl⟩
  unfold fIter; rw [e1]
  simp only [R.bind_ok, o.run a.1, R.of_some]
def enumL : Nat → List α → List (Int × α)
  | _, [] => []
  | k, x :: xs => ((k : Int), x) :: enumL (k + 1) xs
theorem enumL_enc {e : α → D} : ∀ (xs : List α) (k : Nat), enumFrom k (xs.map e) = (enumL k xs).map (eT2 eI e)
  | [], _ => rfl
  | x :: xs, k => congrArg (D.tup [.int (k : Nat), e x] :: ·) (enumL_enc xs (k + 1))
theorem xi_enum {f : FE} {e : α → D} {ex : β → D} {op : α → List β} [o : ItQ e ex op] {t : M α} (h : XP p f e t) : XI p (fEnum f) (eT2 eI ex) (t.bind fun a => .ok (enumL 0 (op a))) := by
  intro ρ hf
  rw [M.sim_bind]
  refine (h ρ hf).imp (fun a ⟨ρ', e1, f1⟩ => ⟨ρ', ?_, f1⟩) fun x ⟨ρ', e1, f1⟩ => ⟨ρ', by unfold fEnum; rw [e1]; rfl, f1⟩
  unfold fEnum; rw [e1]
  simp only [R.bind_ok, o.run a, Option.map_some, enumL_enc, R.of_some]
theorem zip_enc {e : α → D} {e' : β → D} : ∀ (xs : List α) (ys : List β), List.zipWith (fun x y => D.tup [x, y]) (xs.map e) (ys.map e') = (xs.zip ys).map (eT2 e e')
  | [], _ => rfl
  | _ :: _, [] => rfl
  | x :: xs, y :: ys => congrArg (D.tup [e x, e' y] :: ·) (zip_enc xs ys)
theorem xi_zip {δ' : Type} {f g : FE} {e : α → D} {ex : β → D} {op : α → List β} [o : ItQ e ex op] {e' : γ → D} {ex' : δ' → D} {op' : γ → List δ'} [o' : ItQ e' ex' op'] {t : M α} {u : M γ} (h : XP p f e t) (h2 : XP p g e' u) :
    XI p (fZip f g) (eT2 ex ex') (t.bind fun a => u.bind fun b => .ok ((op a).zip (op' b))) := by
  intro ρ hf
  rw [M.sim_bind]
  refine (h ρ hf).imp (fun a ⟨ρ1, e1, f1⟩ => ?_) fun x ⟨ρ', e1, f1⟩ => ⟨ρ', by unfold fZip; rw [e1]; rfl, f1⟩
  rw [M.sim_bind]
  refine (h2 ρ1 f1).imp (fun b ⟨ρ2, e2, f2⟩ => ⟨ρ2, ?_, f2⟩) fun x ⟨ρ', e2, f2⟩ => ⟨ρ', by unfold fZip; rw [e1]; simp only [R.bind_ok, e2, R.bind_exc], f2⟩
  unfold fZip; rw [e1]
  simp only [R.bind_ok, e2, o.run a, o'.run b, zip_enc]
def rangeI (lo : Int) (n : Nat) : List Int := (List.range n).map fun k => lo + (k : Nat)
theorem range_enc {lo : Int} {n : Nat} : rangeL lo n = (rangeI lo n).map eI := by unfold rangeL rangeI; rw [List.map_map]; rfl
def rangeD (hi : Int) (n : Nat) : List Int := (List.range n).map fun k => hi + (k : Nat) * -1
theorem rangeD_enc {lo : Int} {n : Nat} : rangeLC lo (-1) n = (rangeD lo n).map eI := by unfold rangeLC rangeD; rw [List.map_map]; rfl
def range1 (z : Int) : M (List Int) := M.grd (big62 z) (.ok (rangeI 0 z.toNat))
def range2 (y z : Int) : M (List Int) := M.grd (big62 y ∧ big62 z) (.ok (rangeI y (z - y).toNat))
def range3 (y z c : Int) : M (List Int) := M.grd (big62 y ∧ big62 z ∧ c = -1) (.ok (rangeD y (y - z).toNat))
theorem xi_range1 {f : FO} {n : Option Nat} {t : M Int} (h : XO p f n eI t) : XI p (fRange1 f) eI (t.bind range1) := by
  intro ρ hf
  rw [M.sim_bind]
  refine (h ρ hf).imp (fun z ⟨a, ρ', e1, f1, o1⟩ => M.sim_grd fun c => ⟨ρ', ?_, f1⟩) fun x ⟨ρ', e1, f1⟩ => ⟨ρ', by unfold fRange1; rw [e1]; rfl, f1⟩
  unfold fRange1; rw [e1]
  have e2 : res a ρ' = some (.int z) := o1.res f1
  simp only [R.bind_ok, e2, if_pos c, range_enc]
theorem xie_range1 {f : FO} {n : Option Nat} {t : M (Int × χ)} (h : XOE' p f n eI j ej t) : XIE p (fRange1 f) eI j ej (t.bind fun z => (range1 z.1).bind fun l => .ok (l, z.2)) := by
  intro ρ hf
  rw [M.sim_bind]
  refine (h ρ hf).imp (fun z ⟨a, ρ', e1, f1, o1⟩ => ?_) fun x ⟨ρ', e1⟩ => ⟨ρ', by unfold fRange1; rw [e1]; rfl⟩
  rw [M.sim_bind]
  refine M.sim_grd fun c => ⟨ρ', ?_, f1⟩
  unfold fRange1; rw [e1]
  have e2 : res a ρ' = some (.int z.1) := o1.res f1
  simp only [R.bind_ok, e2, if_pos c, range_enc]
theorem xi_range2 {f g : FO} {n n' : Option Nat} {t u : M Int} (h : XO p f n eI t) (h2 : XO p g n' eI u) : XI p (fRange2 f g) eI (t.bind fun y => u.bind fun z => range2 y z) := by
  intro ρ hf
  rw [M.sim_bind]
  refine (h ρ hf).imp (fun y ⟨a, ρ1, e1, f1, o1⟩ => ?_) fun x ⟨ρ', e1, f1⟩ => ⟨ρ', by unfold fRange2; rw [e1]; rfl, f1⟩
  rw [M.sim_bind]
  refine (h2 ρ1 f1).imp (fun z ⟨b, ρ2, e2, f2, o2⟩ => M.sim_grd fun c => ⟨ρ2, ?_, f2⟩) fun x ⟨ρ', e2, f2⟩ => ⟨ρ', by unfold fRange2; rw [e1]; simp only [R.bind_ok, e2, R.bind_exc], f2⟩
  unfold fRange2; rw [e1]
  have e3 : res a ρ2 = some (.int y) := o1.res f2
  have e4 : res b ρ2 = some (.int z) := o2.res f2
  simp only [R.bind_ok, e2, e3, e4, if_pos c, range_enc]
theorem xi_range3 {f g k : FO} {n n' n2 : Option Nat} {t u v : M Int} (h : XO p f n eI t) (h2 : XO p g n' eI u) (h3 : XO p k n2 eI v) : XI p (fRange3 f g k) eI (t.bind fun y => u.bind fun z => v.bind fun c => range3 y z c) := by
  intro ρ hf
  rw [M.sim_bind]
  refine (h ρ hf).imp (fun y ⟨a, ρ1, e1, f1, o1⟩ => ?_) fun x ⟨ρ', e1, f1⟩ => ⟨ρ', by unfold fRange3; rw [e1]; rfl, f1⟩
  rw [M.sim_bind]
  refine (h2 ρ1 f1).imp (fun z ⟨b, ρ2, e2, f2, o2⟩ => ?_) fun x ⟨ρ', e2, f2⟩ => ⟨ρ', by unfold fRange3; rw [e1]; simp only [R.bind_ok, e2, R.bind_exc], f2⟩
  rw [M.sim_bind]
  refine (h3 ρ2 f2).imp (fun w ⟨d, ρ3, e3, f3, o3⟩ => M.sim_grd fun c => ⟨ρ3, ?_, f3⟩) fun x ⟨ρ', e3, f3⟩ => ⟨ρ', by unfold fRange3; rw [e1]; simp only [R.bind_ok, e2, e3, R.bind_exc], f3⟩
  unfold fRange3; rw [e1]
  have e4 : res a ρ3 = some (.int y) := o1.res f3
  have e5 : res b ρ3 = some (.int z) := o2.res f3
  have e6 : res d ρ3 = some (.int w) := o3.res f3
  simp only [R.bind_ok, e2, e3, e4, e5, e6, if_pos c, rangeD_enc]
/-! ### targets -/
theorem xg_set (i : Nat) {e : α → D} : XG e (gSet i) p fun a => pset p i (some (e a)) := fun a ρ hf => ⟨_, rfl, hf.put i⟩
theorem xg_tup2 {e : α → D} {e' : β → D} {g g' : FG} {q : α → Pat} {r : α → β → Pat} (h : XG e g p q) (h2 : ∀ a, XG e' g' (q a) (r a)) : XG (eT2 e e') (gTupF 2 (gsCons g (gsCons g' gsNil))) p fun x => r x.1 x.2 := fun a ρ hf => by
  obtain ⟨ρ1, e1, f1⟩ := h a.1 ρ hf
  obtain ⟨ρ2, e2, f2⟩ := h2 a.1 a.2 ρ1 f1
  refine ⟨ρ2, ?_, f2⟩
  show (g (e a.1) ρ).bind (fun ρ => (g' (e' a.2) ρ).bind (gsNil [])) = _
  rw [e1]; show (g' (e' a.2) ρ1).bind (gsNil []) = _
  rw [e2]; rfl
theorem xg_tup3 {e : α → D} {e' : β → D} {e2 : γ → D} {g g' g2 : FG} {q : α → Pat} {r : α → β → Pat} {r2 : α → β → γ → Pat} (h : XG e g p q) (h2 : ∀ a, XG e' g' (q a) (r a)) (h3 : ∀ a b, XG e2 g2 (r a b) (r2 a b)) : XG (eT3 e e' e2) (gTupF 3 (gsCons g (gsCons g' (gsCons g2 gsNil)))) p fun x => r2 x.1 x.2.1 x.2.2 := fun a ρ hf => by
  obtain ⟨ρ1, e1, f1⟩ := h a.1 ρ hf
  obtain ⟨ρ2, e2, f2⟩ := h2 a.1 a.2.1 ρ1 f1
  obtain ⟨ρ3, e3, f3⟩ := h3 a.1 a.2.1 a.2.2 ρ2 f2
  refine ⟨ρ3, ?_, f3⟩
  show (g (e a.1) ρ).bind (fun ρ => (g' (e' a.2.1) ρ).bind fun ρ => (g2 _ ρ).bind (gsNil [])) = _
  rw [e1]; show (g' (e' a.2.1) ρ1).bind _ = _
  rw [e2]; show (g2 _ ρ2).bind _ = _
  rw [e3]; rfl
theorem xg_tup4 {e : α → D} {e' : β → D} {e2 : γ → D} {e3 : δ → D} {g g' g2 g3 : FG} {q : α → Pat} {r : α → β → Pat} {r2 : α → β → γ → Pat} {r3 : α → β → γ → δ → Pat} (h : XG e g p q) (h2 : ∀ a, XG e' g' (q a) (r a)) (h3 : ∀ a b, XG e2 g2 (r a b) (r2 a b)) (h4 : ∀ a b c, XG e3 g3 (r2 a b c) (r3 a b c)) : XG (eT4 e e' e2 e3) (gTupF 4 (gsCons g (gsCons g' (gsCons g2 (gsCons g3 gsNil))))) p fun x => r3 x.1 x.2.1 x.2.2.1 x.2.2.2 := fun a ρ hf => by
  obtain ⟨ρ1, e1, f1⟩ := h a.1 ρ hf
  obtain ⟨ρ2, e2, f2⟩ := h2 a.1 a.2.1 ρ1 f1
  obtain ⟨ρ3, e3, f3⟩ := h3 a.1 a.2.1 a.2.2.1 ρ2 f2
  obtain ⟨ρ4, e4, f4⟩ := h4 a.1 a.2.1 a.2.2.1 a.2.2.2 ρ3 f3
  refine ⟨ρ4, ?_, f4⟩
  show (g (e a.1) ρ).bind (fun ρ => (g' (e' a.2.1) ρ).bind fun ρ => (g2 _ ρ).bind fun ρ => (g3 _ ρ).bind (gsNil [])) = _
  rw [e1]; show (g' (e' a.2.1) ρ1).bind _ = _
  rw [e2]; show (g2 _ ρ2).bind _ = _
  rw [e3]; show (g3 _ ρ3).bind _ = _
  rw [e4]; rfl
theorem xg_tup5 {ε : Type} {e : α → D} {e' : β → D} {e2 : γ → D} {e3 : δ → D} {e4 : ε → D} {g g' g2 g3 g4 : FG} {q : α → Pat} {r : α → β → Pat} {r2 : α → β → γ → Pat} {r3 : α → β → γ → δ → Pat} {r4 : α → β → γ → δ → ε → Pat} (h : XG e g p q) (h2 : ∀ a, XG e' g' (q a) (r a)) (h3 : ∀ a b, XG e2 g2 (r a b) (r2 a b)) (h4 : ∀ a b c, XG e3 g3 (r2 a b c) (r3 a b c)) (h5 : ∀ a b c d, XG e4 g4 (r3 a b c d) (r4 a b c d)) : XG (eT5 e e' e2 e3 e4) (gTupF 5 (gsCons g (gsCons g' (gsCons g2 (gsCons g3 (gsCons g4 gsNil)))))) p fun x => r4 x.1 x.2.1 x.2.2.1 x.2.2.2.1 x.2.2.2.2 := fun a ρ hf => by
  obtain ⟨ρ1, e1, f1⟩ := h a.1 ρ hf
  obtain ⟨ρ2, e2, f2⟩ := h2 a.1 a.2.1 ρ1 f1
  obtain ⟨ρ3, e3, f3⟩ := h3 a.1 a.2.1 a.2.2.1 ρ2 f2
  obtain ⟨ρ4, e4, f4⟩ := h4 a.1 a.2.1 a.2.2.1 a.2.2.2.1 ρ3 f3
  obtain ⟨ρ5, e5, f5⟩ := h5 a.1 a.2.1 a.2.2.1 a.2.2.2.1 a.2.2.2.2 ρ4 f4
  refine ⟨ρ5, ?_, f5⟩
  show (g (e a.1) ρ).bind (fun ρ => (g' (e' a.2.1) ρ).bind fun ρ => (g2 _ ρ).bind fun ρ => (g3 _ ρ).bind fun ρ => (g4 _ ρ).bind (gsNil [])) = _
  rw [e1]; show (g' (e' a.2.1) ρ1).bind _ = _
  rw [e2]; show (g2 _ ρ2).bind _ = _
  rw [e3]; show (g3 _ ρ3).bind _ = _
  rw [e4]; show (g4 _ ρ4).bind _ = _
  rw [e5]; rfl
/-- a tuple of like things taken apart into two -/
theorem xg_tl2 {e : α → D} {g g' : FG} {q : α → Pat} {r : α → α → Pat} (h : XG e g p q) (h2 : ∀ a, XG e g' (q a) (r a)) {x y : α} {ρ : En} (hf : Fits p ρ) : ∃ ρ', gTupF 2 (gsCons g (gsCons g' gsNil)) (eTL e [x, y]) ρ = some ρ' ∧ Fits (r x y) ρ' :=
  xg_tup2 h h2 (x, y) ρ hf
/-! ### comprehensions -/
def wipeP (p : Pat) : List Nat → Pat
  | [] => p
  | v :: vs => pset (wipeP p vs) v none
theorem Fits.wipe {p : Pat} {ρ : En} (h : Fits p ρ) : ∀ vs, Fits (wipeP p vs) (wipeD ρ vs)
  | [] => h
  | v :: vs => (h.wipe vs).set v trivial
theorem Fits.wipes {p : Pat} {ρ : En} (h : Fits p ρ) : ∀ vs, Fits (wipeP p vs) ρ
  | [] => h
  | v :: vs => (h.wipes vs).forget v
theorem wipe_slot : ∀ {q : Pat} {ρ : En} {v : Nat}, Fits q ρ → pfit (pget q v) (slot ρ v)
  | [], [], _, _ => trivial
  | [], _ :: _, _, h => h.elim
  | _ :: _, [], _, h => h.elim
  | none :: _, _ :: _, 0, _ => trivial
  | some d :: _, o :: _, 0, h => by
    have e : o = some d := h.1
    subst e; rfl
  | _ :: l, _ :: os, v + 1, h => wipe_slot (q := l) (ρ := os) (v := v) h.2
theorem pset_back : ∀ {q : Pat} {v : Nat}, pset (pset q v none) v (pget q v) = q
  | [], _ => rfl
  | _ :: _, 0 => rfl
  | o :: l, v + 1 => congrArg (o :: ·) (pset_back (q := l))
theorem Fits.rest {p : Pat} {ρ1 : En} (h1 : Fits p ρ1) : ∀ {vs : List Nat} {ρ2 : En}, Fits (wipeP p vs) ρ2 → Fits p (restD ρ1 vs ρ2)
  | [], _, h => h
  | v :: vs, ρ2, h => by
    have h : Fits (pset (wipeP p vs) v none) ρ2 := h
    have h3 := h.set v (x := pget (wipeP p vs) v) (o := slot (wipeD ρ1 vs) v) (wipe_slot (h1.wipe vs))
    rw [pset_back] at h3
    exact Fits.rest h1 (vs := vs) h3
theorem pset_comm : ∀ {q : Pat} {v w : Nat} {x y : Option D}, v ≠ w → pset (pset q v x) w y = pset (pset q w y) v x
  | [], _, _, _, _, _ => rfl
  | _ :: _, 0, 0, _, _, h => absurd rfl h
  | _ :: _, 0, _ + 1, _, _, _ => rfl
  | _ :: _, _ + 1, 0, _, _, _ => rfl
  | o :: l, v + 1, w + 1, _, _, h => congrArg (o :: ·) (pset_comm (q := l) fun e => h (congrArg (· + 1) e))
theorem wipe_pset {q : Pat} {j : Nat} {x : Option D} : ∀ {vs : List Nat}, vs.all (fun v => v != j) = true → wipeP (pset q j x) vs = pset (wipeP q vs) j x
  | [], _ => rfl
  | v :: vs, h => by
    simp only [List.all_cons, Bool.and_eq_true] at h
    show pset (wipeP (pset q j x) vs) v none = pset (pset (wipeP q vs) v none) j x
    have hv : v ≠ j := by simpa using h.1
    rw [wipe_pset h.2, pset_comm (Ne.symm hv)]
def lcM (ft : α → M Bool) (f : α → M β) : List α → Nat → M (List β)
  | [], _ => .ok []
  | x :: xs, n => (ft x).bind fun b => if b then (f x).bind fun y => M.grd (n < sizeLine) ((lcM ft f xs (n + 1)).bind fun ys => .ok (y :: ys)) else lcM ft f xs n
theorem lc_sim {vs : List Nat} {g : FG} {ft : FB} {fe : FE} {ex : α → D} {e : β → D} {q : α → Pat} {tt : α → M Bool} {te : α → M β}
    (hg : XG ex g (wipeP p vs) q) (ht : ∀ a, XT (q a) ft (tt a)) (he : ∀ a, XP (q a) fe e (te a)) (hq : ∀ a, wipeP (q a) vs = wipeP p vs) :
    ∀ (xs : List α) (n : Nat) (ρ : En), Fits (wipeP p vs) ρ → (lcM tt te xs n).sim (fun ys => ∃ ρ', lcF vs g ft fe (xs.map ex) n ρ = .ok (ys.map e) ρ' ∧ Fits (wipeP p vs) ρ') fun x => ∃ ρ', lcF vs g ft fe (xs.map ex) n ρ = .exc x ρ'
  | [], n, ρ, hf => ⟨ρ, rfl, hf⟩
  | x :: xs, n, ρ, hf => by
    obtain ⟨ρ1, e1, f1⟩ := hg x ρ hf
    unfold lcM
    rw [List.map_cons]
    unfold lcF
    rw [e1, M.sim_bind]
    refine (ht x ρ1 f1).imp (fun b ⟨ρ2, e2, f2⟩ => ?_) fun x ⟨ρ2, e2, _⟩ => ⟨ρ2, by simp only [e2, R.bind_exc]⟩
    have back : ∀ {ρ3 : En}, Fits (q x) ρ3 → Fits (wipeP p vs) (wipeD ρ3 vs) := fun f3 => by have := f3.wipe vs; rw [hq] at this; exact this
    cases b with
    | false =>
      simp only [e2, R.bind_ok, Bool.false_eq_true, if_false]
      exact lc_sim hg ht he hq xs n _ (back f2)
    | true =>
      simp only [e2, R.bind_ok, if_true]
      rw [M.sim_bind]
      refine (he x ρ2 f2).imp (fun y ⟨ρ3, e3, f3⟩ => M.sim_grd fun c => ?_) fun x ⟨ρ3, e3, _⟩ => ⟨ρ3, by simp only [e3, R.bind_exc]⟩
      rw [M.sim_bind]
      simp only [e3, R.bind_ok, if_pos c]
      exact (lc_sim hg ht he hq xs (n + 1) _ (back f3)).imp (fun ys ⟨ρ4, e4, f4⟩ => ⟨ρ4, by rw [e4]; rfl, f4⟩) fun x ⟨ρ4, e4⟩ => ⟨ρ4, by rw [e4]; rfl⟩
theorem xp_lc {vs : List Nat} {fi : FI} {g : FG} {ft : FB} {fe : FE} {ex : α → D} {e : β → D} {q : α → Pat} {ti : M (List α)} {tt : α → M Bool} {te : α → M β}
    (hi : XI p fi ex ti) (hg : XG ex g (wipeP p vs) q) (ht : ∀ a, XT (q a) ft (tt a)) (he : ∀ a, XP (q a) fe e (te a)) (hq : ∀ a, wipeP (q a) vs = wipeP p vs := by intro _; rfl) :
    XP p (fLc vs fi g ft fe) (eW e) (ti.bind fun xs => (lcM tt te xs 0).nox) := by
  intro ρ hf
  rw [M.sim_bind]
  refine (hi ρ hf).imp (fun xs ⟨ρ1, e1, f1⟩ => ?_) fun x ⟨ρ1, e1, f1⟩ => ⟨ρ1, by unfold fLc; rw [e1]; rfl, f1⟩
  refine M.nox_sim (Ex := fun x => ∃ ρ', lcF vs g ft fe (xs.map ex) 0 (wipeD ρ1 vs) = .exc x ρ') ((lc_sim hg ht he hq xs 0 _ (f1.wipe vs)).imp (fun ys ⟨ρ2, e2, f2⟩ => ⟨restD ρ1 vs ρ2, ?_, f1.rest f2⟩) fun x h => h)
  unfold fLc; rw [e1]
  simp only [R.bind_ok, e2, R.nox_ok]; rfl
/-- with what is carried from turn to turn -/
def lcS (ft : χ → α → M (Bool × χ)) (f : χ → α → M (β × χ)) : List α → Nat → χ → M (List β × χ)
  | [], _, s => .ok ([], s)
  | x :: xs, n, s => (ft s x).bind fun b => if b.1 then (f b.2 x).bind fun y => M.grd (n < sizeLine) ((lcS ft f xs (n + 1) y.2).bind fun ys => .ok (y.1 :: ys.1, ys.2)) else lcS ft f xs n b.2
theorem lcS_sim {vs : List Nat} {g : FG} {ft : FB} {fe : FE} {ex : α → D} {e : β → D} {q : χ → α → Pat} {tt : χ → α → M (Bool × χ)} {te : χ → α → M (β × χ)}
    (hg : ∀ s, XG ex g (wipeP (pset p j (some (ej s))) vs) (q s)) (ht : ∀ s a, XTE (q s a) ft j ej (tt s a)) (he : ∀ s a, XE (q s a) fe e j ej (te s a)) (hq : ∀ s a s', pset (q s a) j (some (ej s')) = q s' a) (hq2 : ∀ s a, wipeP (q s a) vs = wipeP (pset p j (some (ej s))) vs) :
    ∀ (xs : List α) (n : Nat) (s : χ) (ρ : En), Fits (wipeP (pset p j (some (ej s))) vs) ρ → (lcS tt te xs n s).sim (fun ys => ∃ ρ', lcF vs g ft fe (xs.map ex) n ρ = .ok (ys.1.map e) ρ' ∧ Fits (wipeP (pset p j (some (ej ys.2))) vs) ρ') fun x => ∃ ρ', lcF vs g ft fe (xs.map ex) n ρ = .exc x ρ'
  | [], n, s, ρ, hf => ⟨ρ, rfl, hf⟩
  | x :: xs, n, s, ρ, hf => by
    obtain ⟨ρ1, e1, f1⟩ := hg s x ρ hf
    unfold lcS
    rw [List.map_cons]
    unfold lcF
    rw [e1, M.sim_bind]
    refine (ht s x ρ1 f1).imp (fun b ⟨ρ2, e2, f2⟩ => ?_) fun x ⟨ρ2, e2⟩ => ⟨ρ2, by simp only [e2, R.bind_exc]⟩
    obtain ⟨b, s2⟩ := b
    rw [hq] at f2
    have back : ∀ {s3 : χ} {ρ3 : En}, Fits (q s3 x) ρ3 → Fits (wipeP (pset p j (some (ej s3))) vs) (wipeD ρ3 vs) := fun f3 => by have := f3.wipe vs; rw [hq2] at this; exact this
    cases b with
    | false =>
      simp only [e2, R.bind_ok, Bool.false_eq_true, if_false]
      exact lcS_sim hg ht he hq hq2 xs n s2 _ (back f2)
    | true =>
      simp only [e2, R.bind_ok, if_true]
      rw [M.sim_bind]
      refine (he s2 x ρ2 f2).imp (fun y ⟨ρ3, e3, f3⟩ => M.sim_grd fun c => ?_) fun x ⟨ρ3, e3⟩ => ⟨ρ3, by simp only [e3, R.bind_exc]⟩
      rw [M.sim_bind]
      rw [hq] at f3
      simp only [e3, R.bind_ok, if_pos c]
      exact (lcS_sim hg ht he hq hq2 xs (n + 1) y.2 _ (back f3)).imp (fun ys ⟨ρ4, e4, f4⟩ => ⟨ρ4, by rw [e4]; rfl, f4⟩) fun x ⟨ρ4, e4⟩ => ⟨ρ4, by rw [e4]; rfl⟩
theorem xie_up {fi : FI} {ex : α → D} {ti : M (List α)} (g : pget p j = some (ej s)) (h : XI p fi ex ti) : XIE p fi ex j ej (ti.bind fun a => .ok (a, s)) := by
  intro ρ hf
  rw [M.sim_bind]
  refine (h ρ hf).imp (fun a ⟨ρ', e1, f1⟩ => ⟨ρ', e1, ?_⟩) (fun x ⟨ρ', e1, _⟩ => ⟨ρ', e1⟩)
  rw [pset_get g]; exact f1
theorem xe_lc {vs : List Nat} {fi : FI} {g : FG} {ft : FB} {fe : FE} {ex : α → D} {e : β → D} {q : χ → α → Pat} {ti : M (List α × χ)} {tt : χ → α → M (Bool × χ)} {te : χ → α → M (β × χ)}
    (hi : XIE p fi ex j ej ti) (hg : ∀ s, XG ex g (wipeP (pset p j (some (ej s))) vs) (q s)) (ht : ∀ s a, XTE (q s a) ft j ej (tt s a)) (he : ∀ s a, XE (q s a) fe e j ej (te s a)) (hj : vs.all (fun v => v != j) = true := by rfl) (hq : ∀ s a s', pset (q s a) j (some (ej s')) = q s' a := by intro _ _ _; rfl) (hq2 : ∀ s a, wipeP (q s a) vs = wipeP (pset p j (some (ej s))) vs := by intro _ _; rfl) :
    XE p (fLc vs fi g ft fe) (eW e) j ej (ti.bind fun xs => (lcS tt te xs.1 0 xs.2).nox) := by
  intro ρ hf
  rw [M.sim_bind]
  refine (hi ρ hf).imp (fun xs ⟨ρ1, e1, f1⟩ => ?_) fun x ⟨ρ1, e1⟩ => ⟨ρ1, by unfold fLc; rw [e1]; rfl⟩
  refine M.nox_sim (Ex := fun x => ∃ ρ', lcF vs g ft fe (xs.1.map ex) 0 (wipeD ρ1 vs) = .exc x ρ') ((lcS_sim hg ht he hq hq2 xs.1 0 xs.2 _ (f1.wipe vs)).imp (fun ys ⟨ρ2, e2, f2⟩ => ⟨restD ρ1 vs ρ2, ?_, ?_⟩) fun x h => h)
  · unfold fLc; rw [e1]
    simp only [R.bind_ok, e2, R.nox_ok]; rfl
  · have f1' : Fits (pset p j none) ρ1 := by have := f1.forget j; rw [pset_pset] at this; exact this
    -- the slots vs come back, slot j stays
    have key : ∀ {us : List Nat} {ρ2 : En}, us.all (fun v => v != j) = true → Fits (wipeP (pset p j (some (ej ys.2))) us) ρ2 → Fits (pset p j (some (ej ys.2))) (restD ρ1 us ρ2) := by
      intro us
      induction us with
      | nil => intro ρ2 _ h; exact h
      | cons v us ih =>
        intro ρ2 hu h
        simp only [List.all_cons, Bool.and_eq_true] at hu
        have h : Fits (pset (wipeP (pset p j (some (ej ys.2))) us) v none) ρ2 := h
        have hv : v ≠ j := by simpa using hu.1
        have h4 : pget (wipeP (pset p j (some (ej ys.2))) us) v = pget (wipeP (pset p j (some (ej xs.2))) us) v := by
          rw [wipe_pset hu.2, wipe_pset hu.2, pget_ne hv, pget_ne hv]
        have h3 := h.set v (x := pget (wipeP (pset p j (some (ej ys.2))) us) v) (o := slot (wipeD ρ1 us) v) (by rw [h4]; exact wipe_slot (f1.wipe us))
        rw [pset_back] at h3
        exact ih hu.2 h3
    exact key hj f2
end
end DL

namespace DL
open PySem PySem.Spec PyProof.Rows L2

section
variable {α β γ δ χ A B S S' L R : Type} {p : Pat} {i j : Nat} {ej : χ → D} {s : χ} {o : Out S L R} {g h : FS}
/-! ### statements -/
theorem xs_nx (s : S) (w : Weak (o.o s) p) : XS p fNx o (.ok (.nx s)) := fun ρ hf => ⟨ρ, rfl, w.fits hf⟩
theorem xs_last {f : FS} {t : M (C S L R)} (h : XS p (fSeq f fNx) o t) : XS p f o t := by
  have e : fSeq f fNx = f := by
    funext ρ
    unfold fSeq fNx
    cases f ρ <;> rfl
  rw [← e]; exact h
theorem xs_never {t : FS} : XS p t o .stk := fun ρ hf => trivial
/-- the head of a block -/
theorem xs_head {f g : FS} {e : α → Pat} {t : M α} {k : α → M (C S L R)} (h : ∀ ρ, Fits p ρ → t.sim (fun a => ∃ ρ', f ρ = .nx ρ' ∧ Fits (e a) ρ') fun x => ∃ ρ', f ρ = .exc x ρ') (h2 : ∀ a, XS (e a) g o (k a)) : XS p (fSeq f g) o (t.bind k) := by
  intro ρ hf
  rw [M.sim_bind]
  refine (h ρ hf).imp (fun a ⟨ρ1, e1, f1⟩ => ?_) fun x ⟨ρ1, e1⟩ => ⟨ρ1, by unfold fSeq; rw [e1]⟩
  have e2 : fSeq f g ρ = g ρ1 := by unfold fSeq; rw [e1]
  rw [e2]
  exact h2 a ρ1 f1
theorem xs_set (i : Nat) {fe : FE} {e : α → D} {t : M α} {k : α → M (C S L R)} (h : XP p fe e t) (h2 : ∀ v, XS (pset p i (some (e v))) g o (k v)) : XS p (fSeq (fSet i fe) g) o (t.bind k) :=
  xs_head (fun ρ hf => (h ρ hf).imp (fun a ⟨ρ1, e1, f1⟩ => ⟨_, by unfold fSet; rw [e1]; rfl, f1.put i⟩) fun x ⟨ρ1, e1, _⟩ => ⟨ρ1, by unfold fSet; rw [e1]; rfl⟩) h2
theorem xs_setE (i : Nat) {fe : FE} {e : α → D} {t : M (α × χ)} {k : α → χ → M (C S L R)} (h : XE p fe e j ej t) (h2 : ∀ v s, XS (pset (pset p j (some (ej s))) i (some (e v))) g o (k v s)) : XS p (fSeq (fSet i fe) g) o (t.bind fun a => k a.1 a.2) :=
  xs_head (fun ρ hf => (h ρ hf).imp (fun a ⟨ρ1, e1, f1⟩ => ⟨_, by unfold fSet; rw [e1]; rfl, f1.put i⟩) fun x ⟨ρ1, e1⟩ => ⟨ρ1, by unfold fSet; rw [e1]; rfl⟩) fun a => h2 a.1 a.2
theorem xs_drop {fe : FE} {e : α → D} {t : M α} {k : M (C S L R)} (h : XP p fe e t) (h2 : XS p g o k) : XS p (fSeq (fDrop fe) g) o (t.bind fun _ => k) :=
  xs_head (e := fun _ => p) (fun ρ hf => (h ρ hf).imp (fun a ⟨ρ1, e1, f1⟩ => ⟨_, by unfold fDrop; rw [e1]; rfl, f1⟩) fun x ⟨ρ1, e1, _⟩ => ⟨ρ1, by unfold fDrop; rw [e1]; rfl⟩) fun _ => h2
theorem xs_dropE {fe : FE} {e : α → D} {t : M (α × χ)} {k : χ → M (C S L R)} (h : XE p fe e j ej t) (h2 : ∀ s, XS (pset p j (some (ej s))) g o (k s)) : XS p (fSeq (fDrop fe) g) o (t.bind fun a => k a.2) :=
  xs_head (e := fun a => pset p j (some (ej a.2))) (fun ρ hf => (h ρ hf).imp (fun a ⟨ρ1, e1, f1⟩ => ⟨_, by unfold fDrop; rw [e1]; rfl, f1⟩) fun x ⟨ρ1, e1⟩ => ⟨ρ1, by unfold fDrop; rw [e1]; rfl⟩) fun a => h2 a.2
theorem pget_pset : ∀ {q : Pat} {k : Nat} {d : D} {y : Option D}, pget q k = some d → pget (pset q k y) k = y
  | [], _, _, _, h => by cases h
  | _ :: _, 0, _, _, _ => rfl
  | _ :: l, k + 1, _, _, h => pget_pset (q := l) (k := k) h
theorem fApp_ok {fe : FE} {ρ ρ1 : En} {xs : List D} {d : D} (h0 : ∃ m ys, slot ρ i = some (.lst m ys)) (h1 : fe ρ = .ok d ρ1) (h2 : slot ρ1 i = some (.lst true xs)) (h3 : xs.length < sizeLine) : fApp i fe ρ = .ok .non (ρ1.set i (some (.lst true (xs ++ [d])))) := by
  obtain ⟨m, ys, h0⟩ := h0
  rw [ev_App, h0, ev_App0, h1, DL.R.bind_ok, ev_App1, h2, ev_App2 h3]
theorem fApp_exc {fe : FE} {ρ ρ1 : En} {x : Xn} (h0 : ∃ m ys, slot ρ i = some (.lst m ys)) (h1 : fe ρ = .exc x ρ1) : fApp i fe ρ = .exc x ρ1 := by
  obtain ⟨m, ys, h0⟩ := h0
  rw [ev_App, h0, ev_App0, h1, DL.R.bind_exc]
theorem map_snoc {e : α → D} (xs : List α) (v : α) : xs.map e ++ [e v] = (xs ++ [v]).map e := by simp
theorem xs_app (i : Nat) {fe : FE} {e : α → D} {xs : List α} {t : M α} {k : α → M (C S L R)} (g0 : pget p i = some (eW e xs)) (h : XP p fe e t) (h2 : ∀ v, XS (pset p i (some (eW e (xs ++ [v])))) g o (k v)) :
    XS p (fSeq (fDrop (fApp i fe)) g) o (t.bind fun v => M.grd (xs.length < sizeLine) (k v)) := by
  have := xs_head (o := o) (f := fDrop (fApp i fe)) (g := g) (p := p) (t := t.bind fun v => M.grd (xs.length < sizeLine) (.ok v)) (e := fun v => pset p i (some (eW e (xs ++ [v])))) (k := k) (fun ρ hf => by
    rw [M.sim_bind]
    refine (h ρ hf).imp (fun v ⟨ρ1, e1, f1⟩ => M.sim_grd fun c => ⟨_, ?_, f1.put i⟩) fun x ⟨ρ1, e1, _⟩ => ⟨ρ1, ?_⟩
    · have := fApp_ok (i := i) ⟨_, _, hf.get g0⟩ e1 (f1.get g0) (by rw [List.length_map]; exact c)
      unfold fDrop; rw [this, map_snoc]; rfl
    · unfold fDrop; rw [fApp_exc (i := i) ⟨_, _, hf.get g0⟩ e1]; rfl) h2
  rw [M.bind_assoc] at this
  have e : (fun v => (M.grd (xs.length < sizeLine) (M.ok v)).bind k) = fun v => M.grd (xs.length < sizeLine) (k v) := by
    funext v; unfold M.grd; split <;> rfl
  rw [e] at this; exact this
theorem xs_appE (i : Nat) {fe : FE} {e : α → D} {xs : List α} {t : M (α × χ)} {k : α → χ → M (C S L R)} (g0 : pget p i = some (eW e xs)) (h : XE p fe e j ej t) (h2 : ∀ v s, XS (pset (pset p j (some (ej s))) i (some (eW e (xs ++ [v])))) g o (k v s)) (hn : (i != j) = true := by rfl) :
    XS p (fSeq (fDrop (fApp i fe)) g) o (t.bind fun a => M.grd (xs.length < sizeLine) (k a.1 a.2)) := by
  have hij : i ≠ j := by simpa using hn
  have := xs_head (o := o) (f := fDrop (fApp i fe)) (g := g) (p := p) (t := t.bind fun v => M.grd (xs.length < sizeLine) (.ok v)) (e := fun v => pset (pset p j (some (ej v.2))) i (some (eW e (xs ++ [v.1])))) (k := fun a => k a.1 a.2) (fun ρ hf => by
    rw [M.sim_bind]
    refine (h ρ hf).imp (fun v ⟨ρ1, e1, f1⟩ => M.sim_grd fun c => ⟨_, ?_, f1.put i⟩) fun x ⟨ρ1, e1⟩ => ⟨ρ1, ?_⟩
    · have := fApp_ok (i := i) ⟨_, _, hf.get g0⟩ e1 (f1.get (by rw [pget_ne hij]; exact g0)) (by rw [List.length_map]; exact c)
      unfold fDrop; rw [this, map_snoc]; rfl
    · unfold fDrop; rw [fApp_exc (i := i) ⟨_, _, hf.get g0⟩ e1]; rfl) (fun a => h2 a.1 a.2)
  rw [M.bind_assoc] at this
  have e : (fun v : α × χ => (M.grd (xs.length < sizeLine) (M.ok v)).bind fun a => k a.1 a.2) = fun v => M.grd (xs.length < sizeLine) (k v.1 v.2) := by
    funext v; unfold M.grd; split <;> rfl
  rw [e] at this; exact this
/-- a block that need not run to its end -/
theorem xs_seq {f : FS} {o' : S' → Pat} {t : M (C S' L R)} {k : S' → M (C S L R)} (h : XS p f ⟨o', o.l, o.r⟩ t) (h2 : ∀ s, XS (o' s) g o (k s)) : XS p (fSeq f g) o (t.seq k) := by
  intro ρ hf
  unfold M.seq
  rw [M.sim_bind]
  refine (h ρ hf).imp (fun c hc => ?_) fun x ⟨ρ1, e1⟩ => ⟨ρ1, by unfold fSeq; rw [e1]⟩
  cases c with
  | nx s =>
    obtain ⟨ρ1, e1, f1⟩ := hc
    have e2 : fSeq f g ρ = g ρ1 := by unfold fSeq; rw [e1]
    rw [e2]
    exact h2 s ρ1 f1
  | rt r =>
    obtain ⟨d, ρ1, e1, f1⟩ := hc
    exact ⟨d, ρ1, by unfold fSeq; rw [e1], f1⟩
  | bk l =>
    obtain ⟨ρ1, e1, f1⟩ := hc
    exact ⟨ρ1, by unfold fSeq; rw [e1], f1⟩
  | ct l =>
    obtain ⟨ρ1, e1, f1⟩ := hc
    exact ⟨ρ1, by unfold fSeq; rw [e1], f1⟩
theorem xs_ifp {ft : FB} {f g : FS} {t : M Bool} {u v : M (C S L R)} (h : XT p ft t) (h1 : XS p f o u) (h2 : XS p g o v) : XS p (fIfS ft f g) o (t.bind fun b => if b then u else v) := by
  intro ρ hf
  rw [M.sim_bind]
  refine (h ρ hf).imp (fun b ⟨ρ1, e1, f1⟩ => ?_) fun x ⟨ρ1, e1, _⟩ => ⟨ρ1, by unfold fIfS; rw [e1]; rfl⟩
  cases b with
  | true =>
    have e2 : fIfS ft f g ρ = f ρ1 := by unfold fIfS; rw [e1]; rfl
    rw [e2]; exact h1 ρ1 f1
  | false =>
    have e2 : fIfS ft f g ρ = g ρ1 := by unfold fIfS; rw [e1]; rfl
    rw [e2]; exact h2 ρ1 f1
theorem xs_ifpE {ft : FB} {f g : FS} {t : M (Bool × χ)} {u v : χ → M (C S L R)} (h : XTE p ft j ej t) (h1 : ∀ s, XS (pset p j (some (ej s))) f o (u s)) (h2 : ∀ s, XS (pset p j (some (ej s))) g o (v s)) : XS p (fIfS ft f g) o (t.bind fun b => if b.1 then u b.2 else v b.2) := by
  intro ρ hf
  rw [M.sim_bind]
  refine (h ρ hf).imp (fun b ⟨ρ1, e1, f1⟩ => ?_) fun x ⟨ρ1, e1⟩ => ⟨ρ1, by unfold fIfS; rw [e1]; rfl⟩
  obtain ⟨b, s⟩ := b
  cases b with
  | true =>
    have e2 : fIfS ft f g ρ = f ρ1 := by unfold fIfS; rw [e1]; rfl
    rw [e2]; exact h1 s ρ1 f1
  | false =>
    have e2 : fIfS ft f g ρ = g ρ1 := by unfold fIfS; rw [e1]; rfl
    rw [e2]; exact h2 s ρ1 f1
/-- if .., both ways joined again -/
theorem xs_if {ft : FB} {f f2 : FS} (o' : S' → Pat) {t : M Bool} {u v : M (C S' L R)} {k : S' → M (C S L R)} (h : XT p ft t) (h1 : XS p f ⟨o', o.l, o.r⟩ u) (h2 : XS p f2 ⟨o', o.l, o.r⟩ v) (h3 : ∀ s, XS (o' s) g o (k s)) : XS p (fSeq (fIfS ft f f2) g) o ((t.bind fun b => if b then u else v).seq k) :=
  xs_seq (xs_ifp h h1 h2) h3
theorem xs_ifE {ft : FB} {f f2 : FS} (o' : S' → Pat) {t : M (Bool × χ)} {u v : χ → M (C S' L R)} {k : S' → M (C S L R)} (h : XTE p ft j ej t) (h1 : ∀ s, XS (pset p j (some (ej s))) f ⟨o', o.l, o.r⟩ (u s)) (h2 : ∀ s, XS (pset p j (some (ej s))) f2 ⟨o', o.l, o.r⟩ (v s)) (h3 : ∀ s, XS (o' s) g o (k s)) :
    XS p (fSeq (fIfS ft f f2) g) o ((t.bind fun b => if b.1 then u b.2 else v b.2).seq k) := xs_seq (xs_ifpE h h1 h2) h3
def noO : Empty → Pat := fun e => e.elim
theorem xs_end {f g : FS} {t : M (C Empty L R)} (h : XS p f ⟨noO, o.l, o.r⟩ t) : XS p (fSeq f g) o (t.seq fun e => e.elim) := xs_seq h fun e => e.elim
/-- if t: (ends); the rest -/
theorem xs_ifr {ft : FB} {f : FS} {t : M Bool} {u : M (C Empty L R)} {v : M (C S L R)} (h : XT p ft t) (h1 : XS p f ⟨noO, o.l, o.r⟩ u) (h2 : XS p g o v) : XS p (fSeq (fIfS ft f fNx) g) o (t.bind fun b => if b then u.seq (fun e => e.elim) else v) := by
  intro ρ hf
  rw [M.sim_bind]
  refine (h ρ hf).imp (fun b ⟨ρ1, e1, f1⟩ => ?_) fun x ⟨ρ1, e1, _⟩ => ⟨ρ1, by unfold fSeq fIfS; rw [e1]; rfl⟩
  cases b with
  | true =>
    have e2 : fSeq (fIfS ft f fNx) g ρ = fSeq f g ρ1 := by unfold fSeq fIfS; rw [e1]; rfl
    rw [e2]; exact xs_end h1 ρ1 f1
  | false =>
    have e2 : fSeq (fIfS ft f fNx) g ρ = g ρ1 := by unfold fSeq fIfS fNx; rw [e1]; rfl
    rw [e2]; exact h2 ρ1 f1
theorem xs_ifrE {ft : FB} {f : FS} {t : M (Bool × χ)} {u : χ → M (C Empty L R)} {v : χ → M (C S L R)} (h : XTE p ft j ej t) (h1 : ∀ s, XS (pset p j (some (ej s))) f ⟨noO, o.l, o.r⟩ (u s)) (h2 : ∀ s, XS (pset p j (some (ej s))) g o (v s)) : XS p (fSeq (fIfS ft f fNx) g) o (t.bind fun b => if b.1 then (u b.2).seq (fun e => e.elim) else v b.2) := by
  intro ρ hf
  rw [M.sim_bind]
  refine (h ρ hf).imp (fun b ⟨ρ1, e1, f1⟩ => ?_) fun x ⟨ρ1, e1⟩ => ⟨ρ1, by unfold fSeq fIfS; rw [e1]; rfl⟩
  obtain ⟨b, s⟩ := b
  cases b with
  | true =>
    have e2 : fSeq (fIfS ft f fNx) g ρ = fSeq f g ρ1 := by unfold fSeq fIfS; rw [e1]; rfl
    rw [e2]; exact xs_end (h1 s) ρ1 f1
  | false =>
    have e2 : fSeq (fIfS ft f fNx) g ρ = g ρ1 := by unfold fSeq fIfS fNx; rw [e1]; rfl
    rw [e2]; exact h2 s ρ1 f1
/-! ### return -/
def XR (p : Pat) (f : FE) (rr : R → D → En → Prop) (t : M R) : Prop := ∀ ρ, Fits p ρ → t.sim (fun r => ∃ d ρ', f ρ = .ok d ρ' ∧ rr r d ρ') fun x => ∃ ρ', f ρ = .exc x ρ'
def rP (e : R → D) : R → D → En → Prop := fun r d _ => d = e r
def rM (e : R → D) : R × D → D → En → Prop := fun r d ρ => d = e r.1 ∧ slot ρ 0 = some r.2
theorem xr_p {f : FE} {e : α → D} {t : M α} (h : XP p f e t) : XR p f (rP e) t := fun ρ hf => (h ρ hf).imp (fun a ⟨ρ1, e1, _⟩ => ⟨_, ρ1, e1, rfl⟩) fun x ⟨ρ1, e1, _⟩ => ⟨ρ1, e1⟩
theorem xr_e {f : FE} {e : α → D} {t : M (α × χ)} (h : XE p f e j ej t) : XR p f (rP e) (t.bind fun a => .ok a.1) := fun ρ hf => by
  rw [M.sim_bind]
  exact (h ρ hf).imp (fun a ⟨ρ1, e1, _⟩ => ⟨_, ρ1, e1, rfl⟩) fun x ⟨ρ1, e1⟩ => ⟨ρ1, e1⟩
theorem xr_mp {m : D} {f : FE} {e : α → D} {t : M α} (g0 : pget p 0 = some (eR m)) (h : XP p f e t) : XR p f (rM e) (t.bind fun a => .ok (a, m)) := fun ρ hf => by
  rw [M.sim_bind]
  exact (h ρ hf).imp (fun a ⟨ρ1, e1, f1⟩ => ⟨_, ρ1, e1, rfl, f1.get g0⟩) fun x ⟨ρ1, e1, _⟩ => ⟨ρ1, e1⟩
theorem xr_me {m : D} {f : FE} {e : α → D} {t : M (α × D)} (g0 : pget p 0 = some (eR m)) (h : XE p f e 0 eR t) : XR p f (rM e) t := fun ρ hf =>
  (h ρ hf).imp (fun a ⟨ρ1, e1, f1⟩ => ⟨_, ρ1, e1, rfl, f1.get (pget_pset g0)⟩) fun x ⟨ρ1, e1⟩ => ⟨ρ1, e1⟩
theorem xr_move (i : Nat) {e : α → D} {v : α} (h : pget p i = some (e v)) : XR p (fMove i) (rP e) (.ok v) := fun ρ hf => ⟨e v, _, by unfold fMove; rw [hf.get h], rfl⟩
theorem xr_mmove (i : Nat) {m : D} {e : α → D} {v : α} (h : pget p (i + 1) = some (e v)) (g0 : pget p 0 = some (eR m)) : XR p (fMove (i + 1)) (rM e) (.ok (v, m)) := fun ρ hf =>
  ⟨e v, _, by unfold fMove; rw [hf.get h], rfl, (hf.fput (i + 1) none).get (by rw [pget_ne (by omega)]; exact g0)⟩
theorem xs_ret {fe : FE} {t : M R} (h : XR p fe o.r t) : XS p (fRet fe) o (t.bind fun r => .ok (.rt r)) := by
  intro ρ hf
  rw [M.sim_bind]
  exact (h ρ hf).imp (fun a ⟨d, ρ1, e1, q⟩ => ⟨d, ρ1, by unfold fRet; rw [e1]; rfl, q⟩) fun x ⟨ρ1, e1⟩ => ⟨ρ1, by unfold fRet; rw [e1]; rfl⟩
theorem xs_retN {r : R} (h : ∀ ρ, Fits p ρ → o.r r .non ρ) : XS p (fun ρ => .rt .non ρ) o (.ok (.rt r)) := fun ρ hf => ⟨.non, ρ, rfl, h ρ hf⟩
theorem xs_bk (s : L) (w : Weak (o.l s) p) : XS p (fun ρ => .bk ρ) o (.ok (.bk s)) := fun ρ hf => ⟨ρ, rfl, w.fits hf⟩
theorem xs_ct (s : L) (w : Weak (o.l s) p) : XS p (fun ρ => .ct ρ) o (.ok (.ct s)) := fun ρ hf => ⟨ρ, rfl, w.fits hf⟩
/-! ### targets -/
theorem xs_asg {tg : FG} {fe : FE} {e : α → D} {q : α → Pat} {t : M α} {k : α → M (C S L R)} (h : XP p fe e t) (hg : XG e tg p q) (h2 : ∀ v, XS (q v) g o (k v)) : XS p (fSeq (fAsg tg fe) g) o (t.bind k) :=
  xs_head (fun ρ hf => (h ρ hf).imp (fun a ⟨ρ1, e1, f1⟩ => by
    obtain ⟨ρ2, e2, f2⟩ := hg a ρ1 f1
    exact ⟨ρ2, by unfold fAsg; rw [e1]; show DL.R.ofS _ = _; rw [e2]; rfl, f2⟩) fun x ⟨ρ1, e1, _⟩ => ⟨ρ1, by unfold fAsg; rw [e1]; rfl⟩) h2
theorem xs_asgE {tg : FG} {fe : FE} {e : α → D} {q : χ → α → Pat} {t : M (α × χ)} {k : α → χ → M (C S L R)} (h : XE p fe e j ej t) (hg : ∀ s, XG e tg (pset p j (some (ej s))) (q s)) (h2 : ∀ v s, XS (q s v) g o (k v s)) : XS p (fSeq (fAsg tg fe) g) o (t.bind fun a => k a.1 a.2) :=
  xs_head (e := fun a => q a.2 a.1) (fun ρ hf => (h ρ hf).imp (fun a ⟨ρ1, e1, f1⟩ => by
    obtain ⟨ρ2, e2, f2⟩ := hg a.2 a.1 ρ1 f1
    exact ⟨ρ2, by unfold fAsg; rw [e1]; show DL.R.ofS _ = _; rw [e2]; rfl, f2⟩) fun x ⟨ρ1, e1⟩ => ⟨ρ1, by unfold fAsg; rw [e1]; rfl⟩) fun a => h2 a.1 a.2
theorem xs_par (i j : Nat) {fa fb : FE} {e : α → D} {e' : β → D} {t : M α} {u : M β} {k : α → β → M (C S L R)} (h : XP p fa e t) (h' : XP p fb e' u) (h2 : ∀ v w, XS (pset (pset p i (some (e v))) j (some (e' w))) g o (k v w)) : XS p (fSeq (fPar i j fa fb) g) o (t.bind fun v => u.bind fun w => k v w) := by
  have := xs_head (o := o) (f := fPar i j fa fb) (g := g) (p := p) (t := t.bind fun v => u.bind fun w => .ok (v, w)) (e := fun a => pset (pset p i (some (e a.1))) j (some (e' a.2))) (k := fun a => k a.1 a.2) (fun ρ hf => by
    rw [M.sim_bind]
    refine (h ρ hf).imp (fun v ⟨ρ1, e1, f1⟩ => ?_) fun x ⟨ρ1, e1, _⟩ => ⟨ρ1, by unfold fPar; rw [e1]; rfl⟩
    rw [M.sim_bind]
    exact (h' ρ1 f1).imp (fun w ⟨ρ2, e2, f2⟩ => ⟨_, by unfold fPar; rw [e1]; show (fb ρ1).bindS _ = _; rw [e2]; rfl, (f2.put i).put j⟩) fun x ⟨ρ2, e2, _⟩ => ⟨ρ2, by unfold fPar; rw [e1]; show (fb ρ1).bindS _ = _; rw [e2]; rfl⟩) fun a => h2 a.1 a.2
  rw [M.bind_assoc] at this
  simpa only [M.bind_assoc, M.ok_bind] using this
theorem xs_parE (i i' : Nat) {fa fb : FE} {e : α → D} {e' : β → D} {t : M (α × χ)} {u : χ → M (β × χ)} {k : α → β → χ → M (C S L R)} (h : XE p fa e j ej t) (h' : ∀ s, XE (pset p j (some (ej s))) fb e' j ej (u s)) (h2 : ∀ v w s, XS (pset (pset (pset p j (some (ej s))) i (some (e v))) i' (some (e' w))) g o (k v w s)) :
    XS p (fSeq (fPar i i' fa fb) g) o (t.bind fun v => (u v.2).bind fun w => k v.1 w.1 w.2) := by
  have := xs_head (o := o) (f := fPar i i' fa fb) (g := g) (p := p) (t := t.bind fun v => (u v.2).bind fun w => .ok (v.1, w)) (e := fun a => pset (pset (pset p j (some (ej a.2.2))) i (some (e a.1))) i' (some (e' a.2.1))) (k := fun a => k a.1 a.2.1 a.2.2) (fun ρ hf => by
    rw [M.sim_bind]
    refine (h ρ hf).imp (fun v ⟨ρ1, e1, f1⟩ => ?_) fun x ⟨ρ1, e1⟩ => ⟨ρ1, by unfold fPar; rw [e1]; rfl⟩
    rw [M.sim_bind]
    exact (h' _ ρ1 f1).imp (fun w ⟨ρ2, e2, f2⟩ => ⟨_, by unfold fPar; rw [e1]; show (fb ρ1).bindS _ = _; rw [e2]; rfl, by rw [pset_pset] at f2; exact (f2.put i).put i'⟩) fun x ⟨ρ2, e2⟩ => ⟨ρ2, by unfold fPar; rw [e1]; show (fb ρ1).bindS _ = _; rw [e2]; rfl⟩) fun a => h2 a.1 a.2.1 a.2.2
  simpa only [M.bind_assoc, M.ok_bind] using this
theorem xs_par3 (i j l : Nat) {fa fb fc : FE} {e : α → D} {e' : β → D} {e2 : γ → D} {t : M α} {u : M β} {v : M γ} {k : α → β → γ → M (C S L R)} (h : XP p fa e t) (h' : XP p fb e' u) (h3 : XP p fc e2 v) (h2 : ∀ x y z, XS (pset (pset (pset p i (some (e x))) j (some (e' y))) l (some (e2 z))) g o (k x y z)) : XS p (fSeq (fPar3 i j l fa fb fc) g) o (t.bind fun x => u.bind fun y => v.bind fun z => k x y z) := by
  have := xs_head (o := o) (f := fPar3 i j l fa fb fc) (g := g) (p := p) (t := t.bind fun x => u.bind fun y => v.bind fun z => .ok (x, y, z)) (e := fun a => pset (pset (pset p i (some (e a.1))) j (some (e' a.2.1))) l (some (e2 a.2.2))) (k := fun a => k a.1 a.2.1 a.2.2) (fun ρ hf => by
    rw [M.sim_bind]
    refine (h ρ hf).imp (fun x ⟨ρ1, e1, f1⟩ => ?_) fun x ⟨ρ1, e1, _⟩ => ⟨ρ1, by unfold fPar3; rw [e1]; rfl⟩
    rw [M.sim_bind]
    refine (h' ρ1 f1).imp (fun y ⟨ρ2, e2, f2⟩ => ?_) fun x ⟨ρ2, e2, _⟩ => ⟨ρ2, by unfold fPar3; rw [e1]; show (fb ρ1).bindS _ = _; rw [e2]; rfl⟩
    rw [M.sim_bind]
    exact (h3 ρ2 f2).imp (fun z ⟨ρ3, e3, f3⟩ => ⟨_, by unfold fPar3; rw [e1]; show (fb ρ1).bindS _ = _; rw [e2]; show (fc ρ2).bindS _ = _; rw [e3]; rfl, ((f3.put i).put j).put l⟩) fun x ⟨ρ3, e3, _⟩ => ⟨ρ3, by unfold fPar3; rw [e1]; show (fb ρ1).bindS _ = _; rw [e2]; show (fc ρ2).bindS _ = _; rw [e3]; rfl⟩) fun a => h2 a.1 a.2.1 a.2.2
  simpa only [M.bind_assoc, M.ok_bind] using this
theorem xs_aug (i : Nat) {gg : D → D → Option D} {fe : FE} {e0 : α → D} {e : β → D} {eg : γ → D} {op : α → β → M γ} [oo : Op2T gg e0 e eg op] [Frz e0] {v0 : α} {t : M β} {k : γ → M (C S L R)} (g0 : pget p i = some (e0 v0)) (h : XP p fe e t) (h2 : ∀ v, XS (pset p i (some (eg v))) g o (k v)) :
    XS p (fSeq (fAug i gg fe) g) o (t.bind fun w => (op v0 w).bind k) := by
  have := xs_head (o := o) (f := fAug i gg fe) (g := g) (p := p) (t := t.bind fun w => op v0 w) (e := fun v => pset p i (some (eg v))) (k := k) (fun ρ hf => by
    rw [M.sim_bind]
    have e0' := hf.get g0
    refine (h ρ hf).imp (fun w ⟨ρ1, e1, f1⟩ => (oo.run v0 w).imp (fun c hc => ⟨_, ?_, f1.put i⟩) fun _ z => z.elim) fun x ⟨ρ1, e1, _⟩ => ⟨ρ1, ?_⟩
    · unfold fAug; rw [e0']; simp only [Frz.f, if_true, e1, DL.R.bindS_ok, hc]
    · unfold fAug; rw [e0']; simp only [Frz.f, if_true, e1, DL.R.bindS_exc]) h2
  rw [M.bind_assoc] at this; exact this
theorem xs_augE (i : Nat) {gg : D → D → Option D} {fe : FE} {e0 : α → D} {e : β → D} {eg : γ → D} {op : α → β → M γ} [oo : Op2T gg e0 e eg op] [Frz e0] {v0 : α} {t : M (β × χ)} {k : γ → χ → M (C S L R)} (g0 : pget p i = some (e0 v0)) (h : XE p fe e j ej t) (h2 : ∀ v s, XS (pset (pset p j (some (ej s))) i (some (eg v))) g o (k v s)) :
    XS p (fSeq (fAug i gg fe) g) o (t.bind fun w => (op v0 w.1).bind fun c => k c w.2) := by
  have := xs_head (o := o) (f := fAug i gg fe) (g := g) (p := p) (t := t.bind fun w => (op v0 w.1).bind fun c => .ok (c, w.2)) (e := fun v => pset (pset p j (some (ej v.2))) i (some (eg v.1))) (k := fun a => k a.1 a.2) (fun ρ hf => by
    rw [M.sim_bind]
    have e0' := hf.get g0
    refine (h ρ hf).imp (fun w ⟨ρ1, e1, f1⟩ => ?_) fun x ⟨ρ1, e1⟩ => ⟨ρ1, ?_⟩
    · rw [M.sim_bind]
      refine (oo.run v0 w.1).imp (fun c hc => ⟨_, ?_, f1.put i⟩) fun _ z => z.elim
      unfold fAug; rw [e0']; simp only [Frz.f, if_true, e1, DL.R.bindS_ok, hc]
    · unfold fAug; rw [e0']; simp only [Frz.f, if_true, e1, DL.R.bindS_exc]) fun a => h2 a.1 a.2
  simpa only [M.bind_assoc, M.ok_bind] using this
/-- a list's item stored -/
theorem xs_stL (i : Nat) {fi : FO} {fe : FE} {n : Option Nat} {e : α → D} {xs : List α} {t : M α} {tz : M Int} {k : List α → M (C S L R)} (g0 : pget p i = some (eW e xs)) (h : XP p fe e t) (hz : XO p fi n eI tz) (h2 : ∀ ys, XS (pset p i (some (eW e ys))) g o (k ys)) (hx : ∀ ρ x ρ', fi ρ = .exc x ρ' → False := by intro _ _ _ z; cases z) :
    XS p (fSeq (fAsg (gStL i fi) fe) g) o (t.bind fun v => tz.bind fun z => (M.ofO (ixN xs.length z)).bind fun q => k (xs.set q v)) := by
  have := xs_head (o := o) (f := fAsg (gStL i fi) fe) (g := g) (p := p) (t := t.bind fun v => tz.bind fun z => (M.ofO (ixN xs.length z)).bind fun q => .ok (xs.set q v)) (e := fun ys => pset p i (some (eW e ys))) (k := k) (fun ρ hf => by
    rw [M.sim_bind]
    refine (h ρ hf).imp (fun v ⟨ρ1, e1, f1⟩ => ?_) fun x ⟨ρ1, e1, _⟩ => ⟨ρ1, by unfold fAsg; rw [e1]; rfl⟩
    rw [M.sim_bind]
    refine (hz ρ1 f1).imp (fun z ⟨a, ρ2, e2, f2, o2⟩ => ?_) fun x ⟨ρ2, e2, _⟩ => (hx _ _ _ e2).elim
    rw [M.sim_bind]
    refine M.sim_ofO fun q hq => ⟨_, ?_, f2.put i⟩
    unfold fAsg; rw [e1]
    have e3 : res a ρ2 = some (.int z) := o2.res f2
    show DL.R.ofS (gStL i fi (e v) ρ1) = _
    have e4 : stL (eW e xs) z (e v) = some (.lst true ((xs.set q v).map e)) := by
      show (ixN (xs.map e).length z).map _ = _
      rw [List.length_map, hq, List.map_set]; rfl
    unfold gStL
    simp only [f1.get g0, e2, e3, f2.get g0, e4, Option.map_some]; rfl) h2
  simpa only [M.bind_assoc, M.ok_bind] using this
/-! ### loops -/
def M.for {S L R α : Type} (f : S → α → M (C S S R)) : List α → S → M (C S L R)
  | [], s => .ok (.nx s)
  | x :: xs, s => (f s x).bind fun c => match c with
    | .nx s => M.for f xs s
    | .ct s => M.for f xs s
    | .bk s => .ok (.nx s)
    | .rt r => .ok (.rt r)
def M.while {S L R : Type} (t : S → M Bool) (f : S → M (C S S R)) : Nat → S → M (C S L R)
  | 0, _ => .stk
  | n + 1, s => (t s).bind fun b => if b then (f s).bind fun c => match c with
    | .nx s => M.while t f n s
    | .ct s => M.while t f n s
    | .bk s => .ok (.nx s)
    | .rt r => .ok (.rt r)
    else .ok (.nx s)
theorem for_sim {tg : FG} {body : FS} {ex : α → D} {hd : S → Pat} {q : S → α → Pat} {rr : R → D → En → Prop} {f : S → α → M (C S S R)} {l : L → Pat} (hg : ∀ s, XG ex tg (hd s) (q s)) (hb : ∀ s a, XS (q s a) body ⟨hd, hd, rr⟩ (f s a)) : ∀ (xs : List α) (s : S), XS (hd s) (forF tg body (xs.map ex)) ⟨hd, l, rr⟩ (M.for f xs s)
  | [], s => fun ρ hf => ⟨ρ, rfl, hf⟩
  | x :: xs, s => fun ρ hf => by
    obtain ⟨ρ1, e1, f1⟩ := hg s x ρ hf
    unfold M.for
    rw [M.sim_bind]
    refine (hb s x ρ1 f1).imp (fun c hc => ?_) fun x ⟨ρ2, e2⟩ => ⟨ρ2, by rw [List.map_cons]; unfold forF; simp only [e1, e2]⟩
    rw [List.map_cons]
    unfold forF
    cases c with
    | nx s2 =>
      obtain ⟨ρ2, e2, f2⟩ := hc
      simp only [e1, e2]
      exact for_sim hg hb xs s2 ρ2 f2
    | ct s2 =>
      obtain ⟨ρ2, e2, f2⟩ := hc
      simp only [e1, e2]
      exact for_sim hg hb xs s2 ρ2 f2
    | bk s2 =>
      obtain ⟨ρ2, e2, f2⟩ := hc
      simp only [e1, e2]
      exact ⟨ρ2, rfl, f2⟩
    | rt r =>
      obtain ⟨d, ρ2, e2, f2⟩ := hc
      simp only [e1, e2]
      exact ⟨d, ρ2, rfl, f2⟩
theorem while_sim {ft : FB} {body : FS} {hd : S → Pat} {rr : R → D → En → Prop} {t : S → M Bool} {f : S → M (C S S R)} {l : L → Pat} (ht : ∀ s, XT (hd s) ft (t s)) (hb : ∀ s, XS (hd s) body ⟨hd, hd, rr⟩ (f s)) : ∀ (n : Nat) (s : S), XS (hd s) (whileF ft body n) ⟨hd, l, rr⟩ (M.while t f n s)
  | 0, s => fun ρ hf => trivial
  | n + 1, s => fun ρ hf => by
    unfold M.while whileF
    rw [M.sim_bind]
    refine (ht s ρ hf).imp (fun b ⟨ρ1, e1, f1⟩ => ?_) fun x ⟨ρ1, e1, _⟩ => ⟨ρ1, by rw [e1]; rfl⟩
    simp only [e1, DL.R.bindS_ok]
    cases b with
    | false => exact ⟨ρ1, rfl, f1⟩
    | true =>
      simp only [if_true]
      rw [M.sim_bind]
      refine (hb s ρ1 f1).imp (fun c hc => ?_) fun x ⟨ρ2, e2⟩ => ⟨ρ2, by simp only [e2]⟩
      cases c with
      | nx s2 =>
        obtain ⟨ρ2, e2, f2⟩ := hc
        simp only [e2]
        exact while_sim ht hb n s2 ρ2 f2
      | ct s2 =>
        obtain ⟨ρ2, e2, f2⟩ := hc
        simp only [e2]
        exact while_sim ht hb n s2 ρ2 f2
      | bk s2 =>
        obtain ⟨ρ2, e2, f2⟩ := hc
        simp only [e2]
        exact ⟨ρ2, rfl, f2⟩
      | rt r =>
        obtain ⟨d, ρ2, e2, f2⟩ := hc
        simp only [e2]
        exact ⟨d, ρ2, rfl, f2⟩
theorem XS.weak {q : Pat} {f : FS} {t : M (C S L R)} (h : XS q f o t) (w : Weak q p) : XS p f o t := fun ρ hf => h ρ (w.fits hf)
theorem xs_for (hd : S' → Pat) (s0 : S') {fi : FI} {tg : FG} {body : FS} {ex : α → D} {q : S' → α → Pat} {ti : M (List α)} {f : S' → α → M (C S' S' R)} {k : S' → M (C S L R)} (w : Weak (hd s0) p) (hi : XI p fi ex ti) (hg : ∀ s, XG ex tg (hd s) (q s)) (hb : ∀ s a, XS (q s a) body ⟨hd, hd, o.r⟩ (f s a)) (h2 : ∀ s, XS (hd s) g o (k s)) :
    XS p (fSeq (fFor fi tg body) g) o ((ti.bind fun xs => M.for f xs s0).seq k) := by
  refine xs_seq (fun ρ hf => ?_) h2
  rw [M.sim_bind]
  refine (hi ρ hf).imp (fun xs ⟨ρ1, e1, f1⟩ => ?_) fun x ⟨ρ1, e1, _⟩ => ⟨ρ1, by unfold fFor; rw [e1]; rfl⟩
  have e2 : fFor fi tg body ρ = forF tg body (xs.map ex) ρ1 := by unfold fFor; rw [e1]; rfl
  rw [e2]
  exact (for_sim hg hb xs s0).weak w ρ1 f1
theorem xs_forE (hd : S' → Pat) (s0 : χ → S') {fi : FI} {tg : FG} {body : FS} {ex : α → D} {q : S' → α → Pat} {ti : M (List α × χ)} {f : S' → α → M (C S' S' R)} {k : S' → M (C S L R)} (w : ∀ s, Weak (hd (s0 s)) (pset p j (some (ej s)))) (hi : XIE p fi ex j ej ti) (hg : ∀ s, XG ex tg (hd s) (q s)) (hb : ∀ s a, XS (q s a) body ⟨hd, hd, o.r⟩ (f s a)) (h2 : ∀ s, XS (hd s) g o (k s)) :
    XS p (fSeq (fFor fi tg body) g) o ((ti.bind fun xs => M.for f xs.1 (s0 xs.2)).seq k) := by
  refine xs_seq (fun ρ hf => ?_) h2
  rw [M.sim_bind]
  refine (hi ρ hf).imp (fun xs ⟨ρ1, e1, f1⟩ => ?_) fun x ⟨ρ1, e1⟩ => ⟨ρ1, by unfold fFor; rw [e1]; rfl⟩
  have e2 : fFor fi tg body ρ = forF tg body (xs.1.map ex) ρ1 := by unfold fFor; rw [e1]; rfl
  rw [e2]
  exact (for_sim hg hb xs.1 (s0 xs.2)).weak (w _) ρ1 f1
theorem xs_while (hd : S' → Pat) (s0 : S') {n : Nat} {ft : FB} {body : FS} {t : S' → M Bool} {f : S' → M (C S' S' R)} {k : S' → M (C S L R)} (w : Weak (hd s0) p) (ht : ∀ s, XT (hd s) ft (t s)) (hb : ∀ s, XS (hd s) body ⟨hd, hd, o.r⟩ (f s)) (h2 : ∀ s, XS (hd s) g o (k s)) :
    XS p (fSeq (whileF ft body n) g) o ((M.while t f n s0).seq k) := xs_seq ((while_sim ht hb n s0).weak w) h2
end
/-! ### defs -/
section
variable {α β γ A S R : Type}
def M.fin {S R : Type} (d : S → M R) (t : M (C S Empty R)) : M R := t.nox.bind fun c => match c with
  | .rt r => .ok r
  | .nx s => d s
  | .bk l => l.elim
  | .ct l => l.elim
@[simp] theorem fin_ok_rt {d : S → M R} (r : R) : M.fin d (.ok (.rt r)) = .ok r := rfl
@[simp] theorem fin_ok_nx {d : S → M R} (s : S) : M.fin d (.ok (.nx s)) = d s := rfl
@[simp] theorem fin_stk {d : S → M R} : M.fin d .stk = .stk := rfl
/-- a def's mirror -/
structure FnS (G : List D → GR) (es : A → List D) (eg : γ → D) where
  op : A → M γ
  run : FnT G es eg op
structure FnMS (G : List D → GR) (es : A → List D) (eg : γ → D) where
  op : D → A → M (γ × D)
  run : FnMT G es eg op
theorem fn_run {np nN : Nat} {fb : FS} {es : A → List D} {eg : γ → D} {p : A → Pat} {o : S → Pat} {l : Empty → Pat} {t : A → M (C S Empty γ)} (d : S → M γ) (hd : ∀ s, (d s).sim (fun r => eg r = .non) fun _ => False)
    (h : ∀ a, XS (p a) fb ⟨o, l, rP eg⟩ (t a)) (hp : ∀ a, Fits (p a) ((es a).map some ++ List.replicate (nN - np) none)) (hl : ∀ a, (es a).length = np) : FnT (GF np nN false fb) es eg fun a => M.fin d (t a) := ⟨fun a => by
  unfold M.fin
  rw [M.sim_bind]
  refine M.nox_sim ((h a _ (hp a)).imp (fun c hc => ?_) fun _ h => h)
  have e0 : ∀ r, fb ((es a).map some ++ List.replicate (nN - np) none) = r → GF np nN false fb (es a) = (match r with
    | .rt d ρ => endG false d ρ
    | .nx ρ => endG false .non ρ
    | _ => .stk) := fun r hr => by unfold GF; rw [if_pos (hl a), hr]; try (cases r <;> rfl)
  cases c with
  | nx s =>
    obtain ⟨ρ', e1, f1⟩ := hc
    refine (hd s).imp (fun r hr => ?_) fun _ h => h.elim
    rw [e0 _ e1, hr]; rfl
  | rt r =>
    obtain ⟨d, ρ', e1, q⟩ := hc
    have q : d = eg r := q
    show GF np nN false fb (es a) = _
    rw [e0 _ e1, q]; rfl
  | bk l => exact l.elim
  | ct l => exact l.elim⟩
theorem fnM_run {np nN : Nat} {fb : FS} {es : A → List D} {eg : γ → D} {p : D → A → Pat} {o : Empty → Pat} {l : Empty → Pat} {t : D → A → M (C Empty Empty (γ × D))}
    (h : ∀ m a, XS (p m a) fb ⟨o, l, rM eg⟩ (t m a)) (hp : ∀ m a, Fits (p m a) ((m :: es a).map some ++ List.replicate (nN - np) none)) (hl : ∀ a, (es a).length + 1 = np) : FnMT (GF np nN true fb) es eg fun m a => M.fin (fun e => e.elim) (t m a) := ⟨fun m a => by
  unfold M.fin
  rw [M.sim_bind]
  refine M.nox_sim ((h m a _ (hp m a)).imp (fun c hc => ?_) fun _ h => h)
  have e0 : ∀ r, fb ((m :: es a).map some ++ List.replicate (nN - np) none) = r → GF np nN true fb (m :: es a) = (match r with
    | .rt d ρ => endG true d ρ
    | .nx ρ => endG true .non ρ
    | _ => .stk) := fun r hr => by unfold GF; rw [if_pos (by simpa using hl a), hr]; try (cases r <;> rfl)
  cases c with
  | nx s => exact s.elim
  | rt r =>
    obtain ⟨d, ρ', e1, q1, q2⟩ := hc
    show GF np nN true fb (m :: es a) = _
    rw [e0 _ e1, q1]
    show endG true _ _ = _
    unfold endG
    simp only [if_true, q2]
  | bk l => exact l.elim
  | ct l => exact l.elim⟩
def noD {R : Type} : Empty → M R := fun e => e.elim
theorem noD_ok {R : Type} {eg : R → D} : ∀ s, (noD s : M R).sim (fun r => eg r = .non) fun _ => False := fun s => s.elim
/-- an opaque def, by what it gives -/
def ofG (G : List D → GR) (es : A → List D) (dec : D → Option γ) (m : D) (a : A) : M (γ × D) := match G (m :: es a) with
  | .ok d [m'] => (match dec d with
    | some v => .ok (v, m')
    | none => .stk)
  | _ => .stk
def asI : D → Option Int
  | .int i => some i
  | _ => none
theorem ofG_run {G : List D → GR} {es : A → List D} {dec : D → Option γ} {eg : γ → D} (hd : ∀ d v, dec d = some v → d = eg v) : FnMT G es eg (ofG G es dec) := ⟨fun m a => by
  unfold ofG
  cases e : G (m :: es a) with
  | ok d l =>
    match l, e with
    | [], _ => trivial
    | [m'], e =>
      cases e2 : dec d with
      | none => simp only [e2]; trivial
      | some v =>
        simp only [e2]
        show GR.ok d [m'] = _
        rw [hd d v e2]
    | _ :: _ :: _, _ => trivial
  | exc x l => trivial
  | stk => trivial⟩
theorem asI_ok : ∀ d v, asI d = some v → d = eI v := fun d v h => by cases d <;> cases h; rfl
end
end DL

namespace DL
open PySem PySem.Spec PyProof.Rows L2

/-! ### operators, typed -/
section
variable {α β γ δ ε A : Type}
instance : Op2T addD eI eI eI fun x y => .ok (x + y) := ⟨fun _ _ => rfl⟩
instance : Op2T iaddD eI eI eI fun x y => .ok (x + y) := ⟨fun _ _ => rfl⟩
instance : Op2T subD eI eI eI fun x y => .ok (x - y) := ⟨fun _ _ => rfl⟩
def catM (x y : List α) : M (List α) := M.grd (x.length + y.length ≤ sizeLine) (.ok (x ++ y))
instance : Op2T addD eS eS eS catM := ⟨fun x y => M.sim_grd fun c => add_T c⟩
theorem cat_lst {m m' : Bool} {e : α → D} [h : Frz e] {x y : List α} (c : x.length + y.length ≤ sizeLine) : addD (.lst m (x.map e)) (.lst m' (y.map e)) = some (eW e (x ++ y)) := by
  rw [addD_lst (by simpa using c) (h.l x) (h.l y), ← List.map_append]; rfl
instance {e : α → D} [h : Frz e] : Op2T addD (eL e) (eL e) (eW e) catM := ⟨fun x y => M.sim_grd fun c => cat_lst c⟩
instance {e : α → D} [h : Frz e] : Op2T addD (eW e) (eL e) (eW e) catM := ⟨fun x y => M.sim_grd fun c => cat_lst c⟩
instance {e : α → D} [h : Frz e] : Op2T addD (eL e) (eW e) (eW e) catM := ⟨fun x y => M.sim_grd fun c => cat_lst c⟩
instance {e : α → D} [h : Frz e] : Op2T addD (eW e) (eW e) (eW e) catM := ⟨fun x y => M.sim_grd fun c => cat_lst c⟩
instance {e : α → D} [h : Frz e] : Op2T addD (eTL e) (eTL e) (eTL e) catM := ⟨fun x y => M.sim_grd fun c => by
  show addD (.tup (x.map e)) (.tup (y.map e)) = _
  rw [addD_tup (by simpa using c) (h.l x) (h.l y), ← List.map_append]; rfl⟩
def mulI (x y : Int) : M Int := M.grd (mulOk x y = true) (.ok (x * y))
instance : Op2T mulD eI eI eI mulI := ⟨fun x y => M.sim_grd fun c => if_pos c⟩
def repM (x : List α) (k : Int) : M (List α) := M.grd (x.length * k.toNat ≤ sizeLine ∧ -(2 ^ 63) ≤ k ∧ k < 2 ^ 63) (.ok (repL k.toNat x))
theorem rep_map {e : α → D} (x : List α) (k : Nat) : repL k (x.map e) = (repL k x).map e := by
  unfold repL
  rw [List.map_flatten, List.map_replicate]
instance {e : α → D} [h : Frz e] : Op2T mulD (eW e) eI (eW e) repM := ⟨fun x k => M.sim_grd fun c => by
  show (if (x.map e).length * k.toNat ≤ sizeLine ∧ -(2 ^ 63) ≤ k ∧ k < 2 ^ 63 ∧ D.isFL (x.map e) = true then some (D.lst true (repL k.toNat (x.map e))) else none) = _
  rw [if_pos ⟨by rw [List.length_map]; exact c.1, c.2.1, c.2.2, h.l x⟩, rep_map]; rfl⟩
def tmulM (x : List α) (k : Int) : M (List α) := M.grd (x ≠ [] ∧ 1 ≤ k ∧ k ≤ 1000 ∧ x.length ≤ 1000) (.ok (repL k.toNat x))
end
instance {α : Type} (x : List α) : Decidable (x ≠ []) := match x with
  | [] => .isFalse fun h => h rfl
  | _ :: _ => .isTrue fun h => by cases h
section
variable {α β γ δ ε A : Type}
def tmulM' (x : List α) (k : Int) : M (List α) := M.grd (x.isEmpty = false ∧ 1 ≤ k ∧ k ≤ 1000 ∧ x.length ≤ 1000) (.ok (repL k.toNat x))
instance {e : α → D} [h : Frz e] : Op2T tmulD (eTL e) eI (eTL e) tmulM' := ⟨fun x k => M.sim_grd fun c => by
  show tmulD (.tup (x.map e)) (.int k) = _
  have c1 := c.1
  rw [tmul_of ⟨by cases x with
    | nil => simp at c1
    | cons a l => simp, c.2.1, c.2.2.1, by rw [List.length_map]; exact c.2.2.2, h.l x⟩, rep_map]; rfl⟩
def fdivI (x y : Int) : M Int := M.grd (0 < y ∧ y.natAbs.log2 < 9000) (.ok (x / y))
instance : Op2T fdivD eI eI eI fdivI := ⟨fun x y => M.sim_grd fun c => if_pos c⟩
def modI (x y : Int) : M Int := M.grd (0 < y) (.ok (x % y))
instance : Op2T modD eI eI eI modI := ⟨fun x y => M.sim_grd fun c => if_pos c⟩
def powI (x y : Int) : M Int := M.grd (0 ≤ y ∧ y ≤ 1000000 ∧ x.natAbs < 2 ^ 64) (.ok (x ^ y.toNat))
instance : Op2T powD eI eI eI powI := ⟨fun x y => M.sim_grd fun c => if_pos c⟩
instance : Op1T negD eI eI fun x => .ok (-x) := ⟨fun _ => rfl⟩
instance : Op2T ltD eI eI eB fun x y => .ok (decide (x < y)) := ⟨fun _ _ => rfl⟩
instance : Op2T leD eI eI eB fun x y => .ok (decide (x ≤ y)) := ⟨fun _ _ => rfl⟩
instance : Op2T gtD eI eI eB fun x y => .ok (decide (y < x)) := ⟨fun _ _ => rfl⟩
instance : Op2T geD eI eI eB fun x y => .ok (decide (y ≤ x)) := ⟨fun _ _ => rfl⟩
instance : Op2T ltD eS eS eB fun x y => .ok (decide (x < y)) := ⟨fun x y => by
  show ltD (.str (T x)) (.str (T y)) = _
  show some (D.bl (decide ((T x).cps.toList < (T y).cps.toList))) = _
  rw [T_cps, T_cps]; rfl⟩
/-! ### equality -/
class PyE (e : α → D) (q : outParam (α → PyData)) (k : outParam Nat) : Prop where
  py : ∀ a, (e a).py = some (q a)
  dep : ∀ a, (q a).depth ≤ k
class PyQ [DecidableEq α] (q : α → PyData) : Prop where
  eqv : ∀ a b, PyData.eqv (q a) (q b) = decide (a = b)
class NotN (e : α → D) : Prop where
  n : ∀ a, (e a).isN = false ∧ (e a).isO = false
def qL (q : α → PyData) (xs : List α) : PyData := .list (xs.map q)
def qTL (q : α → PyData) (xs : List α) : PyData := .tuple (xs.map q)
def qS (l : List Nat) : PyData := .str (T l)
def qN (_ : Unit) : PyData := .none
def qO (q : α → PyData) : Option α → PyData
  | none => .none
  | some a => q a
def qT2 (q : α → PyData) (q' : β → PyData) (x : α × β) : PyData := .tuple [q x.1, q' x.2]
def qT3 (q : α → PyData) (q' : β → PyData) (q2 : γ → PyData) (x : α × β × γ) : PyData := .tuple [q x.1, q' x.2.1, q2 x.2.2]
def qT4 (q : α → PyData) (q' : β → PyData) (q2 : γ → PyData) (q3 : δ → PyData) (x : α × β × γ × δ) : PyData := .tuple [q x.1, q' x.2.1, q2 x.2.2.1, q3 x.2.2.2]
def qT5 (q : α → PyData) (q' : β → PyData) (q2 : γ → PyData) (q3 : δ → PyData) (q4 : ε → PyData) (x : α × β × γ × δ × ε) : PyData := .tuple [q x.1, q' x.2.1, q2 x.2.2.1, q3 x.2.2.2.1, q4 x.2.2.2.2]
instance : PyE eI PyData.int 0 := ⟨fun _ => rfl, fun _ => Nat.le_refl _⟩
instance : PyE eB PyData.bool 0 := ⟨fun _ => rfl, fun _ => Nat.le_refl _⟩
instance : PyE eS qS 0 := ⟨fun _ => rfl, fun _ => Nat.le_refl _⟩
instance : PyE eN qN 0 := ⟨fun _ => rfl, fun _ => Nat.le_refl _⟩
instance {e : α → D} {q : α → PyData} {k : Nat} [h : PyE e q k] : PyE (eO e) (qO q) k := ⟨fun a => by cases a; rfl; exact h.py _, fun a => by cases a; exact Nat.zero_le _; exact h.dep _⟩
theorem pyL_map {e : α → D} {q : α → PyData} {k : Nat} [h : PyE e q k] : ∀ xs : List α, D.pyL (xs.map e) = some (xs.map q)
  | [] => rfl
  | x :: xs => by
    rw [List.map_cons]
    unfold D.pyL
    rw [h.py, pyL_map xs]; rfl
theorem dep_map {q : α → PyData} {k : Nat} (h : ∀ a, (q a).depth ≤ k) : ∀ xs : List α, PyData.depthAll (xs.map q) ≤ k
  | [] => Nat.zero_le _
  | x :: xs => by
    rw [List.map_cons]
    simp only [PyData.depthAll]
    have := h x
    have := dep_map h xs
    omega
instance {e : α → D} {q : α → PyData} {k : Nat} [h : PyE e q k] : PyE (eL e) (qL q) (k + 1) := ⟨fun a => by show (D.pyL (a.map e)).map PyData.list = _; rw [pyL_map]; rfl, fun a => by
  have := dep_map h.dep a
  unfold qL; simp only [PyData.depth]; omega⟩
instance {e : α → D} {q : α → PyData} {k : Nat} [h : PyE e q k] : PyE (eW e) (qL q) (k + 1) := ⟨fun a => by show (D.pyL (a.map e)).map PyData.list = _; rw [pyL_map]; rfl, fun a => by
  have := dep_map h.dep a
  unfold qL; simp only [PyData.depth]; omega⟩
instance {e : α → D} {q : α → PyData} {k : Nat} [h : PyE e q k] : PyE (eTL e) (qTL q) (k + 1) := ⟨fun a => by show (D.pyL (a.map e)).map PyData.tuple = _; rw [pyL_map]; rfl, fun a => by
  have := dep_map h.dep a
  unfold qTL; simp only [PyData.depth]; omega⟩
instance {e : α → D} {q : α → PyData} {k : Nat} {e' : β → D} {q' : β → PyData} {k' : Nat} [h : PyE e q k] [h' : PyE e' q' k'] : PyE (eT2 e e') (qT2 q q') (max k k' + 1) :=
  ⟨fun a => by show (D.pyL [e a.1, e' a.2]).map PyData.tuple = _; simp only [D.pyL, h.py, h'.py]; rfl, fun a => by
    have := h.dep a.1; have := h'.dep a.2
    unfold qT2; simp only [PyData.depth, PyData.depthAll]; omega⟩
instance {e : α → D} {q : α → PyData} {k : Nat} {e' : β → D} {q' : β → PyData} {k' : Nat} {e2 : γ → D} {q2 : γ → PyData} {k2 : Nat} [h : PyE e q k] [h' : PyE e' q' k'] [h2 : PyE e2 q2 k2] : PyE (eT3 e e' e2) (qT3 q q' q2) (max k (max k' k2) + 1) :=
  ⟨fun a => by show (D.pyL [e a.1, e' a.2.1, e2 a.2.2]).map PyData.tuple = _; simp only [D.pyL, h.py, h'.py, h2.py]; rfl, fun a => by
    have := h.dep a.1; have := h'.dep a.2.1; have := h2.dep a.2.2
    unfold qT3; simp only [PyData.depth, PyData.depthAll]; omega⟩
instance {e : α → D} {q : α → PyData} {k : Nat} {e' : β → D} {q' : β → PyData} {k' : Nat} {e2 : γ → D} {q2 : γ → PyData} {k2 : Nat} {e3 : δ → D} {q3 : δ → PyData} {k3 : Nat} [h : PyE e q k] [h' : PyE e' q' k'] [h2 : PyE e2 q2 k2] [h3 : PyE e3 q3 k3] : PyE (eT4 e e' e2 e3) (qT4 q q' q2 q3) (max k (max k' (max k2 k3)) + 1) :=
  ⟨fun a => by show (D.pyL [e a.1, e' a.2.1, e2 a.2.2.1, e3 a.2.2.2]).map PyData.tuple = _; simp only [D.pyL, h.py, h'.py, h2.py, h3.py]; rfl, fun a => by
    have := h.dep a.1; have := h'.dep a.2.1; have := h2.dep a.2.2.1; have := h3.dep a.2.2.2
    unfold qT4; simp only [PyData.depth, PyData.depthAll]; omega⟩
instance {e : α → D} {q : α → PyData} {k : Nat} {e' : β → D} {q' : β → PyData} {k' : Nat} {e2 : γ → D} {q2 : γ → PyData} {k2 : Nat} {e3 : δ → D} {q3 : δ → PyData} {k3 : Nat} {e4 : ε → D} {q4 : ε → PyData} {k4 : Nat} [h : PyE e q k] [h' : PyE e' q' k'] [h2 : PyE e2 q2 k2] [h3 : PyE e3 q3 k3] [h4 : PyE e4 q4 k4] : PyE (eT5 e e' e2 e3 e4) (qT5 q q' q2 q3 q4) (max k (max k' (max k2 (max k3 k4))) + 1) :=
  ⟨fun a => by show (D.pyL [e a.1, e' a.2.1, e2 a.2.2.1, e3 a.2.2.2.1, e4 a.2.2.2.2]).map PyData.tuple = _; simp only [D.pyL, h.py, h'.py, h2.py, h3.py, h4.py]; rfl, fun a => by
    have := h.dep a.1; have := h'.dep a.2.1; have := h2.dep a.2.2.1; have := h3.dep a.2.2.2.1; have := h4.dep a.2.2.2.2
    unfold qT5; simp only [PyData.depth, PyData.depthAll]; omega⟩
instance : PyQ PyData.int := ⟨fun a b => by simp only [PyData.eqv]; rfl⟩
instance : PyQ PyData.bool := ⟨fun a b => by simp only [PyData.eqv]; cases a <;> cases b <;> rfl⟩
instance : PyQ qS := ⟨fun a b => by
  unfold qS; simp only [PyData.eqv]
  rw [Bool.eq_iff_iff, beq_iff_eq, decide_eq_true_iff, T_inj]⟩
instance : PyQ qN := ⟨fun a b => by unfold qN; simp only [PyData.eqv]; rfl⟩
theorem eqvAll_map [DecidableEq α] {q : α → PyData} [h : PyQ q] : ∀ xs ys : List α, PyData.eqvAll (xs.map q) (ys.map q) = decide (xs = ys)
  | [], [] => by simp [PyData.eqvAll]
  | [], _ :: _ => by simp [PyData.eqvAll]
  | _ :: _, [] => by simp [PyData.eqvAll]
  | x :: xs, y :: ys => by
    simp only [List.map_cons, PyData.eqvAll, h.eqv, eqvAll_map xs ys, List.cons.injEq, Bool.decide_and]
instance [DecidableEq α] {q : α → PyData} [h : PyQ q] : PyQ (qL q) := ⟨fun a b => by unfold qL; simp only [PyData.eqv]; exact eqvAll_map a b⟩
instance [DecidableEq α] {q : α → PyData} [h : PyQ q] : PyQ (qTL q) := ⟨fun a b => by unfold qTL; simp only [PyData.eqv]; exact eqvAll_map a b⟩
instance [DecidableEq α] [DecidableEq β] {q : α → PyData} {q' : β → PyData} [h : PyQ q] [h' : PyQ q'] : PyQ (qT2 q q') := ⟨fun a b => by
  unfold qT2; simp only [PyData.eqv, PyData.eqvAll, h.eqv, h'.eqv, Bool.and_true]
  obtain ⟨a1, a2⟩ := a; obtain ⟨b1, b2⟩ := b
  simp only [Prod.mk.injEq, Bool.decide_and]⟩
instance [DecidableEq α] [DecidableEq β] [DecidableEq γ] {q : α → PyData} {q' : β → PyData} {q2 : γ → PyData} [h : PyQ q] [h' : PyQ q'] [h2 : PyQ q2] : PyQ (qT3 q q' q2) := ⟨fun a b => by
  unfold qT3; simp only [PyData.eqv, PyData.eqvAll, h.eqv, h'.eqv, h2.eqv, Bool.and_true]
  obtain ⟨a1, a2, a3⟩ := a; obtain ⟨b1, b2, b3⟩ := b
  simp only [Prod.mk.injEq, Bool.decide_and]⟩
instance [DecidableEq α] [DecidableEq β] [DecidableEq γ] [DecidableEq δ] {q : α → PyData} {q' : β → PyData} {q2 : γ → PyData} {q3 : δ → PyData} [h : PyQ q] [h' : PyQ q'] [h2 : PyQ q2] [h3 : PyQ q3] : PyQ (qT4 q q' q2 q3) := ⟨fun a b => by
  unfold qT4; simp only [PyData.eqv, PyData.eqvAll, h.eqv, h'.eqv, h2.eqv, h3.eqv, Bool.and_true]
  obtain ⟨a1, a2, a3, a4⟩ := a; obtain ⟨b1, b2, b3, b4⟩ := b
  simp only [Prod.mk.injEq, Bool.decide_and]⟩
instance [DecidableEq α] [DecidableEq β] [DecidableEq γ] [DecidableEq δ] [DecidableEq ε] {q : α → PyData} {q' : β → PyData} {q2 : γ → PyData} {q3 : δ → PyData} {q4 : ε → PyData} [h : PyQ q] [h' : PyQ q'] [h2 : PyQ q2] [h3 : PyQ q3] [h4 : PyQ q4] : PyQ (qT5 q q' q2 q3 q4) := ⟨fun a b => by
  unfold qT5; simp only [PyData.eqv, PyData.eqvAll, h.eqv, h'.eqv, h2.eqv, h3.eqv, h4.eqv, Bool.and_true]
  obtain ⟨a1, a2, a3, a4, a5⟩ := a; obtain ⟨b1, b2, b3, b4, b5⟩ := b
  simp only [Prod.mk.injEq, Bool.decide_and]⟩
class QNN (q : α → PyData) : Prop where
  n : ∀ a, PyData.eqv .none (q a) = false ∧ PyData.eqv (q a) .none = false
instance : QNN PyData.int := ⟨fun _ => by simp only [PyData.eqv, and_self]⟩
instance : QNN PyData.bool := ⟨fun _ => by simp only [PyData.eqv, and_self]⟩
instance : QNN qS := ⟨fun _ => by unfold qS; simp only [PyData.eqv, and_self]⟩
instance {q : α → PyData} : QNN (qL q) := ⟨fun _ => by unfold qL; simp only [PyData.eqv, and_self]⟩
instance {q : α → PyData} : QNN (qTL q) := ⟨fun _ => by unfold qTL; simp only [PyData.eqv, and_self]⟩
instance {q : α → PyData} {q' : β → PyData} : QNN (qT2 q q') := ⟨fun _ => by unfold qT2; simp only [PyData.eqv, and_self]⟩
instance {q : α → PyData} {q' : β → PyData} {q2 : γ → PyData} : QNN (qT3 q q' q2) := ⟨fun _ => by unfold qT3; simp only [PyData.eqv, and_self]⟩
instance [DecidableEq α] {q : α → PyData} [h : PyQ q] [h' : QNN q] : PyQ (qO q) := ⟨fun a b => by
  cases a with
  | none =>
    cases b with
    | none => show PyData.eqv .none .none = _; simp only [PyData.eqv, decide_true]
    | some b => show PyData.eqv .none (q b) = _; rw [(h'.n b).1]; simp
  | some a =>
    cases b with
    | none => show PyData.eqv (q a) .none = _; rw [(h'.n a).2]; simp
    | some b => show PyData.eqv (q a) (q b) = _; rw [h.eqv]; simp⟩
instance {n : Bool} [DecidableEq α] {e e' : α → D} {q : α → PyData} {k k' : Nat} [h : PyE e q k] [h' : PyE e' q k'] [h2 : PyQ q] : Op2T (eqD n) e e' eB fun a b => M.grd (k ≤ 64) (.ok (if n then !decide (a = b) else decide (a = b))) := ⟨fun a b => M.sim_grd fun c => by
  unfold eqD
  rw [h.py, h'.py]
  have := h.dep a
  simp only [if_pos (show (q a).depth ≤ 64 by omega), h2.eqv]; rfl⟩
/-! ### is None -/
instance : NotN eI := ⟨fun _ => ⟨rfl, rfl⟩⟩
instance : NotN eB := ⟨fun _ => ⟨rfl, rfl⟩⟩
instance : NotN eS := ⟨fun _ => ⟨rfl, rfl⟩⟩
instance {e : α → D} : NotN (eL e) := ⟨fun _ => ⟨rfl, rfl⟩⟩
instance {e : α → D} : NotN (eW e) := ⟨fun _ => ⟨rfl, rfl⟩⟩
instance {e : α → D} : NotN (eTL e) := ⟨fun _ => ⟨rfl, rfl⟩⟩
instance {e : α → D} {e' : β → D} : NotN (eT2 e e') := ⟨fun _ => ⟨rfl, rfl⟩⟩
instance {e : α → D} {e' : β → D} {e2 : γ → D} : NotN (eT3 e e' e2) := ⟨fun _ => ⟨rfl, rfl⟩⟩
instance {e : α → D} {e' : β → D} {e2 : γ → D} {e3 : δ → D} : NotN (eT4 e e' e2 e3) := ⟨fun _ => ⟨rfl, rfl⟩⟩
theorem isD_non {n : Bool} {d : D} (h : d.isO = false) : isD n d .non = some (.bl (if n then !d.isN else d.isN)) := by
  have e : isD n d .non = isND n d := by cases d <;> rfl
  rw [e]; unfold isND; rw [if_pos h]
instance {n : Bool} {e : α → D} [h : NotN e] : Op2T (isD n) (eO e) eN eB fun a _ => .ok (if n then a.isSome else a.isNone) := ⟨fun a b => by
  show isD n (eO e a) .non = _
  cases a with
  | none => rw [isD_non rfl]; cases n <;> rfl
  | some a =>
    show isD n (e a) .non = _
    rw [isD_non (h.n a).2, (h.n a).1]; cases n <;> rfl⟩
instance (priority := low) {n : Bool} {e : α → D} [h : NotN e] : Op2T (isD n) e eN eB fun a _ => .ok n := ⟨fun a b => by
  show isD n (e a) .non = _
  rw [isD_non (h.n a).2, (h.n a).1]; cases n <;> rfl⟩
instance {n : Bool} : Op2T (isD n) eN eN eB fun a _ => .ok (!n) := ⟨fun a b => by
  show isD n .non .non = _
  rw [isD_non rfl]; cases n <;> rfl⟩
/-! ### items -/
def ixM (xs : List α) (i : Int) : M α := M.ofO (atI xs i)
theorem atI_enc {e : α → D} [h : Frz e] {xs : List α} {i : Int} {a : α} (ha : atI xs i = some a) : ((atI (xs.map e) i).bind fun d => if d.isF = true then some d else none) = some (e a) := by
  unfold atI at ha ⊢
  rw [List.length_map]
  cases hi : ixN xs.length i with
  | none => rw [hi] at ha; cases ha
  | some j =>
    rw [hi] at ha
    have ha : xs[j]? = some a := ha
    show ((xs.map e)[j]?).bind _ = _
    rw [List.getElem?_map, ha]
    show (if (e a).isF = true then some (e a) else none) = _
    rw [if_pos (h.f a)]
instance {e : α → D} [h : Frz e] : Op2T ixD (eL e) eI e ixM := ⟨fun xs i => M.sim_ofO fun a ha => atI_enc ha⟩
instance {e : α → D} [h : Frz e] : Op2T ixD (eW e) eI e ixM := ⟨fun xs i => M.sim_ofO fun a ha => atI_enc ha⟩
instance {e : α → D} [h : Frz e] : Op2T ixD (eTL e) eI e ixM := ⟨fun xs i => M.sim_ofO fun a ha => atI_enc ha⟩
def ixSM (l : List Nat) (i : Int) : M (List Nat) := M.grd (l.length ≤ sizeLine) ((ixM l i).bind fun c => .ok [c])
instance : Op2T ixD eS eI eS ixSM := ⟨fun l i => M.sim_grd fun c => by
  unfold ixM
  rw [M.sim_bind]
  refine M.sim_ofO fun a ha => ?_
  show (if (T l).length ≤ sizeLine then (atI (T l).cps.toList i).map (fun c => D.str ⟨#[c]⟩) else none) = _
  rw [if_pos (by rw [T_len]; exact c), T_cps, ha]; rfl⟩
/-- parts of a tuple, by a written number -/
class IxK {γ : outParam Type} (e : α → D) (i : Int) (eg : outParam (γ → D)) (op : outParam (α → γ)) : Prop where
  run : ∀ a, ixD (e a) (.int i) = some (eg (op a))
theorem ixk {xs : List D} {i : Int} {j : Nat} {d : D} (h1 : ixN xs.length i = some j) (h2 : xs[j]? = some d) (h3 : d.isF = true) : ixD (.tup xs) (.int i) = some d := by
  show (atI xs i).bind _ = _
  unfold atI
  rw [h1]
  show (xs[j]?).bind _ = _
  rw [h2]
  show (if d.isF = true then some d else none) = _
  rw [if_pos h3]
instance {e : α → D} {e' : β → D} [h : Frz e] : IxK (eT2 e e') 0 e (·.1) := ⟨fun a => ixk (j := 0) rfl rfl (h.f _)⟩
instance {e : α → D} {e' : β → D} [h : Frz e'] : IxK (eT2 e e') 1 e' (·.2) := ⟨fun a => ixk (j := 1) rfl rfl (h.f _)⟩
instance {e : α → D} {e' : β → D} [h : Frz e'] : IxK (eT2 e e') (-1) e' (·.2) := ⟨fun a => ixk (j := 1) rfl rfl (h.f _)⟩
instance {e : α → D} {e' : β → D} {e2 : γ → D} [h : Frz e] : IxK (eT3 e e' e2) 0 e (·.1) := ⟨fun a => ixk (j := 0) rfl rfl (h.f _)⟩
instance {e : α → D} {e' : β → D} {e2 : γ → D} [h : Frz e'] : IxK (eT3 e e' e2) 1 e' (·.2.1) := ⟨fun a => ixk (j := 1) rfl rfl (h.f _)⟩
instance {e : α → D} {e' : β → D} {e2 : γ → D} [h : Frz e2] : IxK (eT3 e e' e2) 2 e2 (·.2.2) := ⟨fun a => ixk (j := 2) rfl rfl (h.f _)⟩
instance {e : α → D} {e' : β → D} {e2 : γ → D} {e3 : δ → D} [h : Frz e] : IxK (eT4 e e' e2 e3) 0 e (·.1) := ⟨fun a => ixk (j := 0) rfl rfl (h.f _)⟩
instance {e : α → D} {e' : β → D} {e2 : γ → D} {e3 : δ → D} [h : Frz e'] : IxK (eT4 e e' e2 e3) 1 e' (·.2.1) := ⟨fun a => ixk (j := 1) rfl rfl (h.f _)⟩
instance {e : α → D} {e' : β → D} {e2 : γ → D} {e3 : δ → D} [h : Frz e2] : IxK (eT4 e e' e2 e3) 2 e2 (·.2.2.1) := ⟨fun a => ixk (j := 2) rfl rfl (h.f _)⟩
instance {e : α → D} {e' : β → D} {e2 : γ → D} {e3 : δ → D} [h : Frz e3] : IxK (eT4 e e' e2 e3) 3 e3 (·.2.2.2) := ⟨fun a => ixk (j := 3) rfl rfl (h.f _)⟩
instance {e : α → D} {e' : β → D} {e2 : γ → D} {e3 : δ → D} {e4 : ε → D} [h : Frz e] : IxK (eT5 e e' e2 e3 e4) 0 e (·.1) := ⟨fun a => ixk (j := 0) rfl rfl (h.f _)⟩
instance {e : α → D} {e' : β → D} {e2 : γ → D} {e3 : δ → D} {e4 : ε → D} [h : Frz e'] : IxK (eT5 e e' e2 e3 e4) 1 e' (·.2.1) := ⟨fun a => ixk (j := 1) rfl rfl (h.f _)⟩
instance {e : α → D} {e' : β → D} {e2 : γ → D} {e3 : δ → D} {e4 : ε → D} [h : Frz e2] : IxK (eT5 e e' e2 e3 e4) 2 e2 (·.2.2.1) := ⟨fun a => ixk (j := 2) rfl rfl (h.f _)⟩
instance {e : α → D} {e' : β → D} {e2 : γ → D} {e3 : δ → D} {e4 : ε → D} [h : Frz e3] : IxK (eT5 e e' e2 e3 e4) 3 e3 (·.2.2.2.1) := ⟨fun a => ixk (j := 3) rfl rfl (h.f _)⟩
instance {e : α → D} {e' : β → D} {e2 : γ → D} {e3 : δ → D} {e4 : ε → D} [h : Frz e4] : IxK (eT5 e e' e2 e3 e4) 4 e4 (·.2.2.2.2) := ⟨fun a => ixk (j := 4) rfl rfl (h.f _)⟩
theorem xp_ixk {p : Pat} {i : Int} {e : α → D} {eg : γ → D} {op : α → γ} [o : IxK e i eg op] {fa : FO} {n : Option Nat} {t : M α} (h : XO p fa n e t) : XP p (fBin ixD fa (fVal (fC (.int i)))) eg (t.bind fun a => .ok (op a)) := by
  intro ρ hf
  rw [M.sim_bind]
  refine (h ρ hf).imp (fun v ⟨a, ρ1, e1, f1, o1⟩ => ⟨ρ1, ?_, f1⟩) fun x ⟨ρ1, e1, f1⟩ => ⟨ρ1, by unfold fBin; rw [e1]; rfl, f1⟩
  unfold fBin; rw [e1]
  exact lift2_of (o1.res f1) rfl (o.run v)
/-! ### slices -/
theorem cut_map {e : α → D} (xs : List α) (l u : Option Int) : cutL (xs.map e) l u = (cutL xs l u).map e := by
  unfold cutL
  rw [List.length_map, List.map_take, List.map_drop]
instance {e : α → D} [h : Frz e] : SlT (eTL e) (eTL e) fun a l u => .ok (cutL a l u) := ⟨fun a l u => by
  show slD (.tup (a.map e)) l u = _
  rw [sl_tup (h.l a), cut_map]; rfl⟩
instance {e : α → D} [h : Frz e] : SlT (eL e) (eW e) fun a l u => .ok (cutL a l u) := ⟨fun a l u => by
  show slD (.lst false (a.map e)) l u = _
  rw [sl_lst (h.l a), cut_map]; rfl⟩
instance {e : α → D} [h : Frz e] : SlT (eW e) (eW e) fun a l u => .ok (cutL a l u) := ⟨fun a l u => by
  show slD (.lst true (a.map e)) l u = _
  rw [sl_lst (h.l a), cut_map]; rfl⟩
instance : SlT eS eS fun a l u => M.grd (a.length ≤ sizeLine) (.ok (cutL a l u)) := ⟨fun a l u => M.sim_grd fun c => sl_T c⟩
/-! ### in -/
instance {n : Bool} : Op2T (inD n) eS eS eB fun a b => .ok (if n then !inS (T a) (T b) else inS (T a) (T b)) := ⟨fun a b => rfl⟩
theorem any_map [DecidableEq α] {q : α → PyData} [h : PyQ q] (a : α) : ∀ xs : List α, ((xs.map q).any fun z => PyData.eqv z (q a)) = decide (a ∈ xs)
  | [] => by simp
  | x :: xs => by
    simp only [List.map_cons, List.any_cons, h.eqv, any_map a xs, List.mem_cons, Bool.decide_or]
    congr 1
    rw [Bool.eq_iff_iff, decide_eq_true_iff, decide_eq_true_iff]; exact eq_comm
theorem in_lst {n m : Bool} [DecidableEq α] {e : α → D} {q : α → PyData} {k : Nat} [h : PyE e q k] [h2 : PyQ q] {a : α} {xs : List α} (c : k ≤ 64) : inD n (e a) (.lst m (xs.map e)) = some (.bl (if n then !decide (a ∈ xs) else decide (a ∈ xs))) := by
  have e1 : inD n (e a) (.lst m (xs.map e)) = (match (e a).py, D.pyL (xs.map e) with
    | some p, some ps => if p.depth ≤ 64 then some (.bl (if n then !ps.any fun z => PyData.eqv z p else ps.any fun z => PyData.eqv z p)) else none
    | _, _ => none) := by
    cases e a <;> rfl
  rw [e1, h.py, pyL_map]
  have := h.dep a
  simp only [if_pos (show (q a).depth ≤ 64 by omega), any_map]
theorem in_tup {n : Bool} [DecidableEq α] {e : α → D} {q : α → PyData} {k : Nat} [h : PyE e q k] [h2 : PyQ q] {a : α} {xs : List α} (c : k ≤ 64) : inD n (e a) (.tup (xs.map e)) = some (.bl (if n then !decide (a ∈ xs) else decide (a ∈ xs))) := by
  have e1 : inD n (e a) (.tup (xs.map e)) = (match (e a).py, D.pyL (xs.map e) with
    | some p, some ps => if p.depth ≤ 64 then some (.bl (if n then !ps.any fun z => PyData.eqv z p else ps.any fun z => PyData.eqv z p)) else none
    | _, _ => none) := by
    cases e a <;> rfl
  rw [e1, h.py, pyL_map]
  have := h.dep a
  simp only [if_pos (show (q a).depth ≤ 64 by omega), any_map]
instance {n : Bool} [DecidableEq α] {e : α → D} {q : α → PyData} {k : Nat} [h : PyE e q k] [h2 : PyQ q] : Op2T (inD n) e (eL e) eB fun a xs => M.grd (k ≤ 64) (.ok (if n then !decide (a ∈ xs) else decide (a ∈ xs))) := ⟨fun a xs => M.sim_grd fun c => in_lst c⟩
instance {n : Bool} [DecidableEq α] {e : α → D} {q : α → PyData} {k : Nat} [h : PyE e q k] [h2 : PyQ q] : Op2T (inD n) e (eW e) eB fun a xs => M.grd (k ≤ 64) (.ok (if n then !decide (a ∈ xs) else decide (a ∈ xs))) := ⟨fun a xs => M.sim_grd fun c => in_lst c⟩
instance {n : Bool} [DecidableEq α] {e : α → D} {q : α → PyData} {k : Nat} [h : PyE e q k] [h2 : PyQ q] : Op2T (inD n) e (eTL e) eB fun a xs => M.grd (k ≤ 64) (.ok (if n then !decide (a ∈ xs) else decide (a ∈ xs))) := ⟨fun a xs => M.sim_grd fun c => in_tup c⟩
/-! ### built-ins -/
def n1 (e : α → D) : α × Unit → List D := consE e nilE
instance {e : α → D} : OpNT lenG (consE (eL e) nilE) eI fun a => .ok (a.1.length : Int) := ⟨fun a => by show some (D.int _) = _; rw [List.length_map]; rfl⟩
instance {e : α → D} : OpNT lenG (consE (eW e) nilE) eI fun a => .ok (a.1.length : Int) := ⟨fun a => by show some (D.int _) = _; rw [List.length_map]; rfl⟩
instance {e : α → D} : OpNT lenG (consE (eTL e) nilE) eI fun a => .ok (a.1.length : Int) := ⟨fun a => by show some (D.int _) = _; rw [List.length_map]; rfl⟩
instance {e : α → D} {e' : β → D} : OpNT lenG (consE (eT2 e e') nilE) eI fun a => .ok 2 := ⟨fun a => rfl⟩
instance {e : α → D} {e' : β → D} {e2 : γ → D} : OpNT lenG (consE (eT3 e e' e2) nilE) eI fun a => .ok 3 := ⟨fun a => rfl⟩
instance {e : α → D} {e' : β → D} {e2 : γ → D} {e3 : δ → D} : OpNT lenG (consE (eT4 e e' e2 e3) nilE) eI fun a => .ok 4 := ⟨fun a => rfl⟩
instance {e : α → D} {e' : β → D} {e2 : γ → D} {e3 : δ → D} {e4 : ε → D} : OpNT lenG (consE (eT5 e e' e2 e3 e4) nilE) eI fun a => .ok 5 := ⟨fun a => rfl⟩
instance : OpNT lenG (consE eS nilE) eI fun a => M.grd (a.1.length ≤ sizeLine) (.ok (a.1.length : Int)) := ⟨fun a => M.sim_grd fun c => len_T c⟩
instance : OpNT intG (consE eI nilE) eI fun a => .ok a.1 := ⟨fun a => rfl⟩
instance : OpNT intG (consE eB nilE) eI fun a => .ok (if a.1 then 1 else 0) := ⟨fun a => rfl⟩
theorem tup_of {xs : List D} (h : xs.length ≤ 20) (hf : D.isFL xs = true) : tupG xs = some (.tup xs) := tupG_of (Nat.le_trans h (by decide)) hf
instance {e : α → D} [h : Frz e] : OpNT tupG (consE e nilE) (eTL e) fun a => .ok [a.1] := ⟨fun a => tup_of (by show 1 ≤ 20; decide) (FrzE.f (es := consE e nilE) a)⟩
instance {e : α → D} {e' : β → D} [h : Frz e] [h' : Frz e'] : OpNT tupG (consE e (consE e' nilE)) (eT2 e e') fun a => .ok (a.1, a.2.1) := ⟨fun a => tup_of (by show 2 ≤ 20; decide) (FrzE.f (es := consE e (consE e' nilE)) a)⟩
instance {e : α → D} {e' : β → D} {e2 : γ → D} [h : Frz e] [h' : Frz e'] [h2 : Frz e2] : OpNT tupG (consE e (consE e' (consE e2 nilE))) (eT3 e e' e2) fun a => .ok (a.1, a.2.1, a.2.2.1) := ⟨fun a => tup_of (by show 3 ≤ 20; decide) (FrzE.f (es := consE e (consE e' (consE e2 nilE))) a)⟩
instance {e : α → D} {e' : β → D} {e2 : γ → D} {e3 : δ → D} [h : Frz e] [h' : Frz e'] [h2 : Frz e2] [h3 : Frz e3] : OpNT tupG (consE e (consE e' (consE e2 (consE e3 nilE)))) (eT4 e e' e2 e3) fun a => .ok (a.1, a.2.1, a.2.2.1, a.2.2.2.1) := ⟨fun a => tup_of (by show 4 ≤ 20; decide) (FrzE.f (es := consE e (consE e' (consE e2 (consE e3 nilE)))) a)⟩
instance {e : α → D} {e' : β → D} {e2 : γ → D} {e3 : δ → D} {e4 : ε → D} [h : Frz e] [h' : Frz e'] [h2 : Frz e2] [h3 : Frz e3] [h4 : Frz e4] : OpNT tupG (consE e (consE e' (consE e2 (consE e3 (consE e4 nilE))))) (eT5 e e' e2 e3 e4) fun a => .ok (a.1, a.2.1, a.2.2.1, a.2.2.2.1, a.2.2.2.2.1) := ⟨fun a => tup_of (by show 5 ≤ 20; decide) (FrzE.f (es := consE e (consE e' (consE e2 (consE e3 (consE e4 nilE))))) a)⟩
theorem xp_tup0 {p : Pat} (e : α → D) : XP p (fCallB tupG fNil) (eTL e) (.ok []) := fun ρ hf => ⟨ρ, rfl, hf⟩
theorem xp_lst0 {p : Pat} (e : α → D) : XP p (fCallB lstG fNil) (eW e) (.ok []) := fun ρ hf => ⟨ρ, rfl, hf⟩
/-- many like arguments -/
class Many {α : outParam Type} (es : A → List D) (e : outParam (α → D)) (n : outParam Nat) (f : outParam (A → List α)) : Prop where
  run : ∀ a, es a = (f a).map e ∧ (f a).length = n
instance {e : α → D} : Many (consE e nilE) e 1 fun a => [a.1] := ⟨fun a => ⟨rfl, rfl⟩⟩
instance {e : α → D} {es : A → List D} {n : Nat} {f : A → List α} [h : Many es e n f] : Many (consE e es) e (n + 1) fun a => a.1 :: f a.2 := ⟨fun a => ⟨congrArg (e a.1 :: ·) (h.run a.2).1, congrArg (· + 1) (h.run a.2).2⟩⟩
instance {e : α → D} {es : A → List D} {n : Nat} {f : A → List α} [h : Many es e n f] [z : Frz e] : OpNT lstG es (eW e) fun a => M.grd (n ≤ sizeLine) (.ok (f a)) := ⟨fun a => M.sim_grd fun c => by
  rw [(h.run a).1, lstG_of (by rw [List.length_map, (h.run a).2]; exact c) (z.l _)]; rfl⟩
/-- a written tuple as one of like things -/
theorem xp_tupL {p : Pat} {e : α → D} {es : A → List D} {n : Nat} {f : A → List α} [h : Many es e n f] [z : Frz e] {fs : FLs} {ns : List (Option Nat)} {t : M A} (hh : XA p fs ns es t) : XP p (fCallB tupG fs) (eTL e) (t.bind fun a => M.grd (n ≤ sizeLine) (.ok (f a))) := by
  have o : OpNT tupG es (eTL e) fun a => M.grd (n ≤ sizeLine) (.ok (f a)) := ⟨fun a => M.sim_grd fun c => by
    rw [(h.run a).1, tupG_of (by rw [List.length_map, (h.run a).2]; exact c) (z.l _)]; rfl⟩
  exact xp_callB (o := o) hh
theorem xe_tupL {χ : Type} {p : Pat} {j : Nat} {ej : χ → D} {e : α → D} {es : A → List D} {n : Nat} {f : A → List α} [h : Many es e n f] [z : Frz e] {fs : FLs} {ns : List (Option Nat)} {t : M (A × χ)} (hh : XAE p fs ns es j ej t) : XE p (fCallB tupG fs) (eTL e) j ej (t.bind fun a => (M.grd (n ≤ sizeLine) (.ok (f a.1))).bind fun z => .ok (z, a.2)) := by
  have o : OpNT tupG es (eTL e) fun a => M.grd (n ≤ sizeLine) (.ok (f a)) := ⟨fun a => M.sim_grd fun c => by
    rw [(h.run a).1, tupG_of (by rw [List.length_map, (h.run a).2]; exact c) (z.l _)]; rfl⟩
  exact xe_callB (o := o) hh
instance {e : α → D} [h : Frz e] : OpNT listG (consE (eL e) nilE) (eW e) fun a => .ok a.1 := ⟨fun a => if_pos (h.l a.1)⟩
instance {e : α → D} [h : Frz e] : OpNT listG (consE (eW e) nilE) (eW e) fun a => .ok a.1 := ⟨fun a => if_pos (h.l a.1)⟩
instance {e : α → D} [h : Frz e] : OpNT listG (consE (eTL e) nilE) (eW e) fun a => .ok a.1 := ⟨fun a => if_pos (h.l a.1)⟩
instance {e : α → D} [h : Frz e] : OpNT tupleG (consE (eL e) nilE) (eTL e) fun a => .ok a.1 := ⟨fun a => if_pos (h.l a.1)⟩
instance {e : α → D} [h : Frz e] : OpNT tupleG (consE (eW e) nilE) (eTL e) fun a => .ok a.1 := ⟨fun a => if_pos (h.l a.1)⟩
instance {e : α → D} [h : Frz e] : OpNT tupleG (consE (eTL e) nilE) (eTL e) fun a => .ok a.1 := ⟨fun a => if_pos (h.l a.1)⟩
instance : OpNT sumG (consE (eL eI) nilE) eI fun a => .ok a.1.sum := ⟨fun a => sumG_ints⟩
instance : OpNT sumG (consE (eW eI) nilE) eI fun a => .ok a.1.sum := ⟨fun a => sumG_ints⟩
theorem bls_map : ∀ ns : List Bool, blsD (ns.map eB) = some ns := blsD_map
instance : OpNT allG (consE (eW eB) nilE) eB fun a => .ok (a.1.all id) := ⟨fun a => by show (blsD (a.1.map eB)).map _ = _; rw [bls_map]; rfl⟩
instance : OpNT allG (consE (eL eB) nilE) eB fun a => .ok (a.1.all id) := ⟨fun a => by show (blsD (a.1.map eB)).map _ = _; rw [bls_map]; rfl⟩
instance : OpNT anyG (consE (eW eB) nilE) eB fun a => .ok (a.1.any id) := ⟨fun a => by show (blsD (a.1.map eB)).map _ = _; rw [bls_map]; rfl⟩
instance : OpNT anyG (consE (eL eB) nilE) eB fun a => .ok (a.1.any id) := ⟨fun a => by show (blsD (a.1.map eB)).map _ = _; rw [bls_map]; rfl⟩
instance : OpNT max2G (consE eI (consE eI nilE)) eI fun a => .ok (max a.1 a.2.1) := ⟨fun a => max2_int⟩
instance : OpNT min2G (consE eI (consE eI nilE)) eI fun a => .ok (min a.1 a.2.1) := ⟨fun a => min2_int⟩
instance : OpNT max3G (consE eI (consE eI (consE eI nilE))) eI fun a => .ok (max (max a.1 a.2.1) a.2.2.1) := ⟨fun a => rfl⟩
instance : OpNT min3G (consE eI (consE eI (consE eI nilE))) eI fun a => .ok (min (min a.1 a.2.1) a.2.2.1) := ⟨fun a => rfl⟩
instance : OpNT maxLG (consE (eW eI) nilE) eI fun a => M.grd (0 < a.1.length) (.ok (maxL a.1)) := ⟨fun a => M.sim_grd fun c => maxLG_ints c⟩
instance : OpNT maxLG (consE (eL eI) nilE) eI fun a => M.grd (0 < a.1.length) (.ok (maxL a.1)) := ⟨fun a => M.sim_grd fun c => maxLG_ints c⟩
instance : OpNT minLG (consE (eW eI) nilE) eI fun a => M.grd (0 < a.1.length) (.ok (minL a.1)) := ⟨fun a => M.sim_grd fun c => minLG_ints c⟩
instance : OpNT minLG (consE (eL eI) nilE) eI fun a => M.grd (0 < a.1.length) (.ok (minL a.1)) := ⟨fun a => M.sim_grd fun c => minLG_ints c⟩
def rp (d : D) : M (List Nat) := match reprG [d] with
  | some (.str z) => .ok z.cps.toList
  | _ => .stk
instance {e : α → D} : OpNT reprG (consE e nilE) eS fun a => rp (e a.1) := ⟨fun a => by
  unfold rp
  show M.sim (match reprG [e a.1] with
    | some (.str z) => .ok z.cps.toList
    | _ => .stk) _ _
  cases h : reprG [e a.1] with
  | none => trivial
  | some d =>
    cases d with
    | str z => show reprG [e a.1] = _; rw [h]; unfold eS; rw [T_of]
    | _ => trivial⟩
/-! ### isinstance -/
class IsiT (e : α → D) (t : String) (op : outParam (α → M Bool)) : Prop where
  run : ∀ a, (op a).sim (fun b => isiG [e a, .opq (.ty t)] = some (.bl b)) fun _ => False
theorem xp_isi {p : Pat} {e : α → D} {t : String} {op : α → M Bool} [o : IsiT e t op] {fa : FO} {n : Option Nat} {ta : M α} (h : XO p fa n e ta) : XP p (fCallB isiG (fCons fa (fCons (fVal (fC (.opq (.ty t)))) fNil))) eB (ta.bind op) := by
  intro ρ hf
  rw [M.sim_bind]
  refine (h ρ hf).imp (fun v ⟨a, ρ1, e1, f1, o1⟩ => ?_) fun x ⟨ρ1, e1, f1⟩ => ⟨ρ1, by unfold fCallB fCons; rw [e1]; rfl, f1⟩
  refine (o.run v).imp (fun b hb => ⟨ρ1, ?_, f1⟩) fun _ h => h.elim
  unfold fCallB fCons; rw [e1]
  show liftN isiG [a, .val (.opq (.ty t))] ρ1 = _
  unfold liftN DL.ress DL.ress DL.ress
  rw [o1.res f1]
  show R.of (isiG _) _ = _
  rw [hb]; rfl
theorem isi_yes {d : D} {t : String} {b : Bool} (ho : d.isO = false) (hk : kitB d.typ t = some b) : isiG [d, .opq (.ty t)] = some (.bl b) := isi_at ho hk
instance : IsiT eI "int" fun _ => .ok true := ⟨fun a => isi_yes rfl (show kitB "int" "int" = some true by decide +kernel)⟩
instance : IsiT eI "bool" fun _ => .ok false := ⟨fun a => isi_yes rfl (show kitB "int" "bool" = some false by decide +kernel)⟩
instance : IsiT eI "str" fun _ => .ok false := ⟨fun a => isi_yes rfl (show kitB "int" "str" = some false by decide +kernel)⟩
instance : IsiT eS "str" fun _ => .ok true := ⟨fun a => isi_yes rfl (show kitB "str" "str" = some true by decide +kernel)⟩
instance : IsiT eS "tuple" fun _ => .ok false := ⟨fun a => isi_yes rfl (show kitB "str" "tuple" = some false by decide +kernel)⟩
instance {e : α → D} : IsiT (eTL e) "tuple" fun _ => .ok true := ⟨fun a => isi_yes rfl (show kitB "tuple" "tuple" = some true by decide +kernel)⟩
instance {e : α → D} {e' : β → D} : IsiT (eT2 e e') "tuple" fun _ => .ok true := ⟨fun a => isi_yes rfl (show kitB "tuple" "tuple" = some true by decide +kernel)⟩
instance {e : α → D} {e' : β → D} {e2 : γ → D} : IsiT (eT3 e e' e2) "tuple" fun _ => .ok true := ⟨fun a => isi_yes rfl (show kitB "tuple" "tuple" = some true by decide +kernel)⟩
instance {e : α → D} {e' : β → D} {e2 : γ → D} {e3 : δ → D} : IsiT (eT4 e e' e2 e3) "tuple" fun _ => .ok true := ⟨fun a => isi_yes rfl (show kitB "tuple" "tuple" = some true by decide +kernel)⟩
instance {e : α → D} {e' : β → D} {e2 : γ → D} {e3 : δ → D} {e4 : ε → D} : IsiT (eT5 e e' e2 e3 e4) "tuple" fun _ => .ok true := ⟨fun a => isi_yes rfl (show kitB "tuple" "tuple" = some true by decide +kernel)⟩
/-! ### join -/
theorem strs_map : ∀ ys : List (List Nat), strsD (ys.map eS) = some (ys.map T)
  | [] => rfl
  | y :: ys => by
    rw [List.map_cons]
    show (strsD (ys.map eS)).map _ = _
    rw [strs_map ys]; rfl
def joinL (s : List Nat) (ys : List (List Nat)) : List Nat := (Txt.join (T s) (ys.map T)).cps.toList
def joinM (s : List Nat) (ys : List (List Nat)) : M (List Nat) := M.grd ((ys.map (·.length)).sum + ys.length * s.length ≤ 16777216) (.ok (joinL s ys))
theorem join_of {m : Bool} {s : List Nat} {ys : List (List Nat)} (c : (ys.map (·.length)).sum + ys.length * s.length ≤ 16777216) : joinD (.str (T s)) (.lst m (ys.map eS)) = some (eS (joinL s ys)) ∧ joinD (.str (T s)) (.tup (ys.map eS)) = some (eS (joinL s ys)) := by
  have e : ((ys.map T).map (·.length)).sum + (ys.map T).length * (T s).length ≤ 16777216 := by
    rw [List.map_map, List.length_map, T_len]
    have : (ys.map ((fun x : Str => x.length) ∘ T)) = ys.map (·.length) := List.map_congr_left fun x _ => T_len x
    rw [this]; exact c
  constructor
  · show (strsD (ys.map eS)).bind _ = _
    rw [strs_map]
    show (if _ then _ else _) = _
    rw [if_pos e]; unfold eS joinL; rw [T_of]
  · show (strsD (ys.map eS)).bind _ = _
    rw [strs_map]
    show (if _ then _ else _) = _
    rw [if_pos e]; unfold eS joinL; rw [T_of]
theorem joinL_nil (ys : List (List Nat)) : joinL [] ys = ys.flatten := by unfold joinL; rw [join_flat, T_cps]
end
section
variable {α β γ χ : Type} {p : Pat} {j : Nat} {ej : χ → D}
theorem xp_m1 {g : D → D → Option D} {eb : β → D} {eg : γ → D} {op : List Nat → β → M γ} [o : Op2T g eS eb eg op] {fa fb : FO} {na nb : Option Nat} {ta : M (List Nat)} {tb : M β}
    (ha : XO p fa na eS ta) (hb : XO p fb nb eb tb) : XP p (fM1 g fa fb) eg (ta.bind fun x => tb.bind fun y => op x y) := by
  intro ρ hf
  rw [M.sim_bind]
  refine (ha ρ hf).imp (fun x ⟨a, ρ1, e1, f1, o1⟩ => ?_) fun x ⟨ρ1, e1, f1⟩ => ⟨ρ1, by unfold fM1; rw [e1]; rfl, f1⟩
  rw [M.sim_bind]
  have ea : res a ρ1 = some (.str (T x)) := o1.res f1
  refine (hb ρ1 f1).imp (fun y ⟨b, ρ2, e2, f2, o2⟩ => ?_) fun x ⟨ρ2, e2, f2⟩ => ⟨ρ2, ?_, f2⟩
  · refine (o.run x y).imp (fun z hz => ⟨ρ2, ?_, f2⟩) fun _ h => h.elim
    rw [ev_M1, e1, R.bind_ok]
    simp only [ev_M11, ea, ev_M12, e2, R.bind_ok, ev_M13, o2.res f2, ev_M14]
    rw [show g (.str (T x)) (eb y) = some (eg z) from hz]; rfl
  · rw [ev_M1, e1, R.bind_ok]
    simp only [ev_M11, ea, ev_M12, e2, R.bind_exc]
instance : Op2T joinD eS (eL eS) eS joinM := ⟨fun s ys => M.sim_grd fun c => (join_of c).1⟩
instance : Op2T joinD eS (eW eS) eS joinM := ⟨fun s ys => M.sim_grd fun c => (join_of c).1⟩
instance : Op2T joinD eS (eTL eS) eS joinM := ⟨fun s ys => M.sim_grd fun c => (join_of (m := true) c).2⟩
theorem xe_m1 {g : D → D → Option D} {eb : β → D} {eg : γ → D} {op : List Nat → β → M γ} [o : Op2T g eS eb eg op] {fa fb : FO} {na nb : Option Nat} {ta : M (List Nat × χ)} {tb : χ → M (β × χ)}
    (ha : XOE' p fa na eS j ej ta) (hb : ∀ s, XOE' (pset p j (some (ej s))) fb nb eb j ej (tb s)) : XE p (fM1 g fa fb) eg j ej (ta.bind fun x => (tb x.2).bind fun y => (op x.1 y.1).bind fun z => .ok (z, y.2)) := by
  intro ρ hf
  rw [M.sim_bind]
  refine (ha ρ hf).imp (fun x ⟨a, ρ1, e1, f1, o1⟩ => ?_) fun x ⟨ρ1, e1⟩ => ⟨ρ1, by unfold fM1; rw [e1]; rfl⟩
  rw [M.sim_bind]
  have ea : res a ρ1 = some (.str (T x.1)) := o1.res f1
  refine (hb _ ρ1 f1).imp (fun y ⟨b, ρ2, e2, f2, o2⟩ => ?_) fun x ⟨ρ2, e2⟩ => ⟨ρ2, ?_⟩
  · rw [M.sim_bind]
    refine (o.run x.1 y.1).imp (fun z hz => ⟨ρ2, ?_, by rw [← pset_pset]; exact f2⟩) fun _ h => h.elim
    rw [ev_M1, e1, R.bind_ok]
    simp only [ev_M11, ea, ev_M12, e2, R.bind_ok, ev_M13, o2.res f2, ev_M14]
    rw [show g (.str (T x.1)) (eb y.1) = some (eg z) from hz]; rfl
  · rw [ev_M1, e1, R.bind_ok]
    simp only [ev_M11, ea, ev_M12, e2, R.bind_exc]
end
end DL

namespace DL
open PySem PySem.Spec PyProof.Rows L2
section
variable {α β γ χ R R' : Type} {p : Pat} {j : Nat} {ej : χ → D}
instance : Op2T iaddA eI eI eI fun x y => .ok (x + y) := ⟨fun _ _ => rfl⟩
instance : Op2T iaddA eS eS eS catM := ⟨fun x y => M.sim_grd fun c => by
  show (if (T x).length + (T y).length ≤ sizeLine then some (D.str (T x ++ T y)) else none) = _
  rw [if_pos (by rw [T_len, T_len]; exact c), T_app]; rfl⟩
instance : Op2T mulA eI eI eI mulI := ⟨fun x y => M.sim_grd fun c => if_pos c⟩
instance {e : α → D} [h : Frz e] : Op2T mulA (eW e) eI (eW e) repM := ⟨fun x k => Op2T.run (g := mulD) (ea := eW e) (eb := eI) x k⟩
instance {e : α → D} [h : Frz e] : Op2T mulA (eTL e) eI (eTL e) tmulM' := ⟨fun x k => Op2T.run (g := tmulD) (ea := eTL e) (eb := eI) x k⟩
def smulM (z : List Nat) (n : Int) : M (List Nat) := M.grd (-(2 ^ 63) ≤ n ∧ n < 2 ^ 63 ∧ z.length * n.toNat ≤ 16777216) (.ok (repL n.toNat z))
theorem repS_T (z : List Nat) (n : Int) : repS (T z) n = T (repL n.toNat z) := by
  have key : ∀ (k : Nat) (b : List Nat), (List.replicate k z.toArray).foldl (· ++ ·) b.toArray = (b ++ (List.replicate k z).flatten).toArray := fun k => by
    induction k with
    | zero => intro b; simp
    | succ k ih =>
      intro b
      rw [List.replicate_succ, List.foldl_cons, show b.toArray ++ z.toArray = (b ++ z).toArray by simp, ih, List.replicate_succ, List.flatten_cons, List.append_assoc]
  unfold repS
  by_cases h : n < 1
  · rw [if_pos h, show n.toNat = 0 by omega]; rfl
  · rw [if_neg h]
    by_cases h2 : (n == 1 || (T z).length == 0) = true
    · rw [if_pos h2]
      rw [Bool.or_eq_true, beq_iff_eq, beq_iff_eq, T_len] at h2
      rcases h2 with rfl | h2
      · show T z = T (z ++ [])
        rw [List.append_nil]
      · have := List.eq_nil_of_length_eq_zero h2
        subst this
        have : ∀ k : Nat, (List.replicate k ([] : List Nat)).flatten = [] := fun k => by induction k with
          | zero => rfl
          | succ k ih => rw [List.replicate_succ, List.flatten_cons, ih]; rfl
        show T [] = T (repL _ [])
        unfold repL; rw [this]
    · rw [if_neg h2]
      show (⟨(List.replicate n.toNat z.toArray).foldl (· ++ ·) #[]⟩ : Str) = _
      have := key n.toNat []
      rw [List.nil_append] at this
      rw [this]; rfl
instance : Op2T mulA eS eI eS smulM := ⟨fun z n => M.sim_grd fun c => by
  show (if -(2 ^ 63) ≤ n ∧ n < 2 ^ 63 ∧ (T z).length * n.toNat ≤ 16777216 then some (D.str (repS (T z) n)) else none) = _
  rw [if_pos (by rw [T_len]; exact c), repS_T]; rfl⟩
/-- any two things -/
def eqA (n : Bool) (a b : D) : M Bool := match eqD n a.frz b.frz with
  | some (.bl b) => .ok b
  | _ => .stk
instance {n : Bool} : Op2T (eqD n) eA eA eB (eqA n) := ⟨fun a b => by
  unfold eqA
  cases h : eqD n a.frz b.frz with
  | none => trivial
  | some d => cases d with
    | bl k => exact h
    | _ => trivial⟩
theorem xe_at {f : FE} {e : α → D} {e' : β → D} {t : M (α × χ)} (k : α → M β) (hk : ∀ a, (k a).sim (fun b => e a = e' b) fun _ => False) (h : XE p f e j ej t) : XE p f e' j ej (t.bind fun a => (k a.1).bind fun b => .ok (b, a.2)) := by
  intro ρ hf
  rw [M.sim_bind]
  refine (h ρ hf).imp (fun a ⟨ρ', e1, f1⟩ => ?_) fun _ h => h
  rw [M.sim_bind]
  exact (hk a.1).imp (fun b eb => ⟨ρ', by rw [e1, eb], f1⟩) fun _ h => h.elim
theorem unO_sim {e : α → D} (a : Option α) : (unO a).sim (fun b => eO e a = e b) fun _ => False := by cases a <;> first | trivial | rfl
theorem xe_unO {f : FE} {e : α → D} {t : M (Option α × χ)} (h : XE p f (eO e) j ej t) : XE p f e j ej (t.bind fun a => (unO a.1).bind fun b => .ok (b, a.2)) := xe_at unO unO_sim h
theorem xr_as {f : FE} {e : R → D} {e' : R' → D} {t : M R} (k : R → R') (hk : ∀ a, e a = e' (k a)) (h : XR p f (rP e) t) : XR p f (rP e') (t.bind fun a => .ok (k a)) := fun ρ hf => by
  rw [M.sim_bind]
  exact (h ρ hf).imp (fun a ⟨d, ρ1, e1, q⟩ => ⟨d, ρ1, e1, by show d = _; rw [← hk]; exact q⟩) fun x h => h
theorem xr_mas {f : FE} {e : R → D} {e' : R' → D} {t : M (R × D)} (k : R → R') (hk : ∀ a, e a = e' (k a)) (h : XR p f (rM e) t) : XR p f (rM e') (t.bind fun a => .ok (k a.1, a.2)) := fun ρ hf => by
  rw [M.sim_bind]
  exact (h ρ hf).imp (fun a ⟨d, ρ1, e1, q, q2⟩ => ⟨d, ρ1, e1, by show d = _; rw [← hk]; exact q, q2⟩) fun x h => h
theorem fit_0 : Fits [] [] := trivial
theorem fit_s {q : Pat} {ρ : En} {d : D} (h : Fits q ρ) : Fits (some d :: q) (some d :: ρ) := ⟨rfl, h⟩
theorem fit_n {q : Pat} {ρ : En} {o : Option D} (h : Fits q ρ) : Fits (none :: q) (o :: ρ) := ⟨trivial, h⟩
/-- a def by what it gives -/
def ofG0 {A : Type} (G : List D → GR) (es : A → List D) (a : A) : M D := match G (es a) with
  | .ok d [] => .ok d
  | _ => .stk
theorem ofG0_run {A : Type} {G : List D → GR} {es : A → List D} : FnT G es eR (ofG0 G es) := ⟨fun a => by
  unfold ofG0
  cases e : G (es a) with
  | ok d l =>
    match l, e with
    | [], _ => exact rfl
    | _ :: _, _ => trivial
  | exc x l => trivial
  | stk => trivial⟩
theorem M.nox_bind (t : M α) (k : α → M β) : (t.bind k).nox = t.nox.bind fun a => (k a).nox := by cases t <;> rfl
@[simp] theorem M.nox_stk : (M.stk : M α).nox = .stk := rfl
@[simp] theorem M.nox_err (x : Xn) : (M.err x : M α).nox = .stk := rfl
theorem M.nox_nox (t : M α) : t.nox.nox = t.nox := by cases t <;> rfl
theorem M.nox_grd {q : Prop} [Decidable q] (t : M α) : (M.grd q t).nox = M.grd q t.nox := by unfold M.grd; split <;> rfl
/-- the law from its mirror -/
theorem law_of {G : List D → GR} {op : List Int × Unit → M Bool} (h : FnT G (consE (eL eI) nilE) eB op) {ns : List Int} (e : op (ns, ()) = .ok true) : ∃ m, G [.lst false (ns.map D.int)] = .ok (.bl true) m := by
  have := h.run (ns, ())
  rw [e] at this
  exact ⟨[], this⟩
end
end DL

/-! typed: sorted, index, pop, dicts -/
namespace DL
open PySem PySem.Spec PyProof.Rows L2
section
variable {α β γ κ χ S L R : Type} {p : Pat} {i j : Nat} {ej : χ → D} {o : Out S L R} {g : FS}
theorem intsD_e (ns : List Int) : intsD (ns.map eI) = some ns := intsD_map ns
instance : OpNT sortedG (consE (eL eI) nilE) (eW eI) fun a => .ok (isort leI a.1) := ⟨fun a => by
  show (match intsD (a.1.map eI) with
    | some ns => some (D.lst true ((isort leI ns).map .int))
    | none => (strsD (a.1.map eI)).map fun ns => D.lst true ((isort leS ns).map .str)) = _
  rw [intsD_e]; rfl⟩
instance : OpNT sortedG (consE (eW eI) nilE) (eW eI) fun a => .ok (isort leI a.1) := ⟨fun a => by
  show (match intsD (a.1.map eI) with
    | some ns => some (D.lst true ((isort leI ns).map .int))
    | none => (strsD (a.1.map eI)).map fun ns => D.lst true ((isort leS ns).map .str)) = _
  rw [intsD_e]; rfl⟩
theorem insL_T (a : List Nat) : ∀ l : List (List Nat), insL leS (T a) (l.map T) = (insL leN a l).map T
  | [] => rfl
  | b :: l => by
    rw [List.map_cons]
    unfold insL
    have e : leS (T a) (T b) = leN a b := by unfold leS; rw [T_cps, T_cps]
    rw [e]
    split
    · rfl
    · rw [insL_T a l]; rfl
theorem isort_T : ∀ l : List (List Nat), isort leS (l.map T) = (isort leN l).map T
  | [] => rfl
  | a :: l => by
    rw [List.map_cons]
    unfold isort
    rw [isort_T l, insL_T]
theorem sorted_strs {m : Bool} (l : List (List Nat)) : sortedG [.lst m (l.map eS)] = some (eW eS (isort leN l)) := by
  show (match intsD (l.map eS) with
    | some ns => some (D.lst true ((isort leI ns).map .int))
    | none => (strsD (l.map eS)).map fun ns => D.lst true ((isort leS ns).map .str)) = _
  cases l with
  | nil => rfl
  | cons x l =>
    have e1 : intsD ((x :: l).map eS) = none := rfl
    rw [e1, strs_map]
    show some (D.lst true ((isort leS ((x :: l).map T)).map .str)) = _
    rw [isort_T, List.map_map]; rfl
instance : OpNT sortedG (consE (eL eS) nilE) (eW eS) fun a => .ok (isort leN a.1) := ⟨fun a => sorted_strs a.1⟩
instance : OpNT sortedG (consE (eW eS) nilE) (eW eS) fun a => .ok (isort leN a.1) := ⟨fun a => sorted_strs a.1⟩
/-! ### keys -/
class KeyE (e : κ → D) (k : outParam (κ → Key)) : Prop where
  key : ∀ a, (e a).key = some (k a)
  back : ∀ a, keyD (k a) = e a
  inj : ∀ a b, k a = k b → a = b
def kI : Int → Key := .inl
def kS (l : List Nat) : Key := .inr (T l)
instance : KeyE eI kI := ⟨fun _ => rfl, fun _ => rfl, fun _ _ h => by cases h; rfl⟩
instance : KeyE eS kS := ⟨fun _ => rfl, fun _ => rfl, fun a b h => by
  have : T a = T b := Sum.inr.inj h
  exact T_inj.mp this⟩
theorem keys_map {e : κ → D} {k : κ → Key} [h : KeyE e k] : ∀ xs : List κ, keysD (xs.map e) = some (xs.map k)
  | [] => rfl
  | x :: xs => by
    rw [List.map_cons]
    unfold keysD
    rw [h.key, keys_map xs]; rfl
def ixOf [DecidableEq κ] : List κ → κ → Option Nat
  | [], _ => none
  | a :: l, k => if a = k then some 0 else (ixOf l k).map (· + 1)
theorem kIx_map [DecidableEq κ] {e : κ → D} {k : κ → Key} [h : KeyE e k] (a : κ) : ∀ xs : List κ, kIx (xs.map k) (k a) = ixOf xs a
  | [] => rfl
  | x :: xs => by
    rw [List.map_cons]
    unfold kIx ixOf
    by_cases c : x = a
    · rw [if_pos c, if_pos (by rw [c])]
    · rw [if_neg c, if_neg (fun z => c (h.inj _ _ z)), kIx_map (e := e) a xs]
def indexM [DecidableEq κ] (xs : List κ) (a : κ) : M Int := (M.ofO (ixOf xs a)).bind fun j => .ok (j : Int)
theorem index_enc [DecidableEq κ] {m : Bool} {e : κ → D} {k : κ → Key} [h : KeyE e k] (xs : List κ) (a : κ) : (indexM xs a).sim (fun c => indexD (.lst m (xs.map e)) (e a) = some (eI c)) fun _ => False := by
  unfold indexM
  rw [M.sim_bind]
  refine M.sim_ofO fun j hj => ?_
  show (match keysD (xs.map e), (e a).key with
    | some ks, some k => (kIx ks k).map fun j => D.int (j : Nat)
    | _, _ => none) = _
  rw [keys_map, h.key]
  show (kIx (xs.map k) (k a)).map _ = _
  rw [kIx_map (e := e), hj]; rfl
instance [DecidableEq κ] {e : κ → D} {k : κ → Key} [h : KeyE e k] : Op2T indexD (eL e) e eI indexM := ⟨fun xs a => index_enc xs a⟩
instance [DecidableEq κ] {e : κ → D} {k : κ → Key} [h : KeyE e k] : Op2T indexD (eW e) e eI indexM := ⟨fun xs a => index_enc xs a⟩
class IsLst (e : α → D) : Prop where
  l : ∀ a, ∃ m xs, e a = .lst m xs
instance {e : α → D} : IsLst (eL e) := ⟨fun _ => ⟨_, _, rfl⟩⟩
instance {e : α → D} : IsLst (eW e) := ⟨fun _ => ⟨_, _, rfl⟩⟩
theorem xp_lm1 {gg : D → D → Option D} {ea : α → D} {eb : β → D} {eg : γ → D} {op : α → β → M γ} [oo : Op2T gg ea eb eg op] [il : IsLst ea] {fa fb : FO} {na nb : Option Nat} {ta : M α} {tb : M β}
    (ha : XO p fa na ea ta) (hb : XO p fb nb eb tb) : XP p (fLM1 gg fa fb) eg (ta.bind fun x => tb.bind fun y => op x y) := by
  intro ρ hf
  rw [M.sim_bind]
  refine (ha ρ hf).imp (fun x ⟨a, ρ1, e1, f1, o1⟩ => ?_) fun x ⟨ρ1, e1, f1⟩ => ⟨ρ1, by unfold fLM1; rw [e1]; rfl, f1⟩
  rw [M.sim_bind]
  obtain ⟨m, xs, el⟩ := il.l x
  have ea1 := o1.res f1
  rw [el] at ea1
  refine (hb ρ1 f1).imp (fun y ⟨b, ρ2, e2, f2, o2⟩ => ?_) fun x ⟨ρ2, e2, f2⟩ => ⟨ρ2, by unfold fLM1; rw [e1]; simp only [R.bind_ok, ea1, e2, R.bind_exc], f2⟩
  refine (oo.run x y).imp (fun z hz => ⟨ρ2, ?_, f2⟩) fun _ h => h.elim
  unfold fLM1; rw [e1]
  simp only [DL.R.bind_ok, ea1, e2, o1.res f2, o2.res f2, hz, DL.R.of_some]
/-- name.pop() -/
theorem xe_pop (i : Nat) {e : α → D} {xs : List α} [h : Frz e] (g0 : pget p i = some (eW e xs)) : XE p (fPop i) e i (eW e) ((M.ofO xs.getLast?).bind fun y => .ok (y, xs.dropLast)) := fun ρ hf => by
  rw [M.sim_bind]
  refine M.sim_ofO fun y hy => ⟨ρ.set i (some (eW e xs.dropLast)), ?_, hf.put i⟩
  have e1 := hf.get g0
  have e2 : (xs.map e).getLast? = some (e y) := by rw [List.getLast?_map, hy]; rfl
  have e3 : (xs.map e).dropLast = xs.dropLast.map e := by rw [List.map_dropLast]
  unfold fPop
  rw [e1]
  show (match (xs.map e).getLast? with
    | some y => if y.isF = true then R.ok y (ρ.set i (some (.lst true (xs.map e).dropLast))) else .stk
    | none => .stk) = _
  rw [e2]
  show (if (e y).isF = true then R.ok (e y) _ else R.stk) = _
  rw [if_pos (h.f y), e3]; rfl
/-! ### dicts -/
def eDf (m : Bool) (k : κ → Key) (e : α → D) (xs : List (κ × α)) : D := .dic m (xs.map fun q => k q.1) (xs.map fun q => e q.2)
def eD (k : κ → Key) (e : α → D) : List (κ × α) → D := eDf false k e
def eDW (k : κ → Key) (e : α → D) : List (κ × α) → D := eDf true k e
theorem snd_F {e : α → D} [h : Frz e] (xs : List (κ × α)) : D.isFL (xs.map fun q => e q.2) = true := isFL_map (fun q => h.f q.2) xs
instance {k : κ → Key} {e : α → D} [h : Frz e] : Frz (eD k e) := ⟨fun a => by show (!false && D.isFL (a.map fun q => e q.2)) = true; rw [snd_F]; rfl⟩
theorem eDW_frz {k : κ → Key} {e : α → D} [h : Frz e] (xs : List (κ × α)) : (eDW k e xs).frz = eD k e xs := by
  show D.dic false _ (D.frzL _) = _
  rw [frzL_of (snd_F xs)]; rfl
instance {k : κ → Key} {e : α → D} : NotN (eD k e) := ⟨fun _ => ⟨rfl, rfl⟩⟩
def dget [DecidableEq κ] : List (κ × α) → κ → Option α
  | [], _ => none
  | q :: r, k => if q.1 = k then some q.2 else dget r k
def dput [DecidableEq κ] : List (κ × α) → κ → α → List (κ × α)
  | [], k, v => [(k, v)]
  | q :: r, k, v => if q.1 = k then (k, v) :: r else q :: dput r k v
def dputM [DecidableEq κ] (xs : List (κ × α)) (k : κ) (v : α) : M (List (κ × α)) := M.grd ((xs.map (·.1)).Nodup ∧ xs.length < sizeLine) (.ok (dput xs k v))
theorem xp_dict0 (k : κ → Key) (e : α → D) : XP p (fC (.dic true [] [])) (eDW k e) (.ok []) := xp_c rfl
theorem xp_disp1 (i : Nat) {ek : κ → D} {k : κ → Key} [h : KeyE ek k] {a : κ} {f : FE} {e : α → D} {t : M α} (g0 : pget p i = some (ek a)) (hf : XP p f e t) : XP p (fDisp1 i f) (eDW k e) (t.bind fun v => .ok [(a, v)]) := by
  intro ρ hρ
  rw [M.sim_bind]
  have e0 : (slot ρ i).bind D.key = some (k a) := by rw [hρ.get g0]; exact h.key a
  exact (hf ρ hρ).imp (fun v ⟨ρ', e1, f1⟩ => ⟨ρ', by unfold fDisp1; rw [e0]; simp only [e1, R.bind_ok]; rfl, f1⟩) fun x ⟨ρ', e1, f1⟩ => ⟨ρ', by unfold fDisp1; rw [e0]; simp only [e1, R.bind_exc], f1⟩
theorem dget_enc [DecidableEq κ] {ek : κ → D} {k : κ → Key} [h : KeyE ek k] {e : α → D} (a : κ) : ∀ {xs : List (κ × α)} {v : α}, dget xs a = some v → ∃ n, kIx (xs.map fun q => k q.1) (k a) = some n ∧ (xs.map fun q => e q.2)[n]? = some (e v)
  | [], _, q => by cases q
  | x :: xs, v, q => by
    unfold dget at q
    rw [List.map_cons, List.map_cons]
    unfold kIx
    by_cases c : x.1 = a
    · rw [if_pos c] at q
      cases q
      exact ⟨0, by rw [if_pos (by rw [c])], rfl⟩
    · rw [if_neg c] at q
      obtain ⟨n, h1, h2⟩ := dget_enc (ek := ek) a q
      exact ⟨n + 1, by rw [if_neg (fun z => c (h.inj _ _ z)), h1]; rfl, by simpa using h2⟩
theorem set_same {xs : List D} {n : Nat} {d : D} (h : xs[n]? = some d) : xs.set n d = xs := by
  obtain ⟨hn, he⟩ := List.getElem?_eq_some_iff.mp h
  rw [← he]; exact List.set_getElem_self hn
theorem fDGet_ok {m : Bool} {ks : List Key} {ds : List D} {fk : FO} {a : Ar} {ρ ρ1 : En} {kd d : D} {k : Key} {n : Nat} (h0 : ∃ d0, slot ρ i = some d0) (h1 : fk ρ = .ok a ρ1) (h2 : res a ρ1 = some kd) (h3 : kd.key = some k) (h4 : slot ρ1 i = some (.dic m ks ds)) (h5 : kIx ks k = some n) (h6 : ds[n]? = some d) (h7 : d.isF = true) :
    ∃ ρ2, fDGet i fk ρ = .ok d ρ2 ∧ (ρ2 = ρ1 ∨ ρ2 = ρ1.set i (some (.dic m ks ds))) := by
  obtain ⟨d0, h0⟩ := h0
  have hz : d.frz = d := D.frz_of h7
  cases m with
  | false =>
    refine ⟨ρ1, ?_, .inl rfl⟩
    unfold fDGet; rw [h0]
    simp only [h1, DL.R.bind_ok, h2, Option.bind_some, h3, h4, h5, h6, Bool.false_eq_true, if_false]
  | true =>
    refine ⟨ρ1.set i (some (.dic true ks ds)), ?_, .inr rfl⟩
    unfold fDGet; rw [h0]
    simp only [h1, DL.R.bind_ok, h2, Option.bind_some, h3, h4, h5, h6, if_true, hz, set_same h6]
theorem fDGet_exc {fk : FO} {ρ ρ1 : En} {x : Xn} (h0 : ∃ d0, slot ρ i = some d0) (h1 : fk ρ = .exc x ρ1) : fDGet i fk ρ = .exc x ρ1 := by
  obtain ⟨d0, h0⟩ := h0
  unfold fDGet; rw [h0]; simp only [h1, DL.R.bind_exc]
theorem xp_dget (i : Nat) {m : Bool} [DecidableEq κ] {ek : κ → D} {k : κ → Key} [h : KeyE ek k] {e : α → D} [he : Frz e] {xs : List (κ × α)} {fk : FO} {n : Option Nat} {t : M κ} (g0 : pget p i = some (eDf m k e xs)) (hk : XO p fk n ek t) : XP p (fDGet i fk) e (t.bind fun a => M.ofO (dget xs a)) := by
  intro ρ hf
  rw [M.sim_bind]
  refine (hk ρ hf).imp (fun a ⟨ar, ρ1, e1, f1, o1⟩ => M.sim_ofO fun v hv => ?_) fun x ⟨ρ1, e1, f1⟩ => ⟨ρ1, fDGet_exc ⟨_, hf.get g0⟩ e1, f1⟩
  obtain ⟨n, h1, h2⟩ := dget_enc (ek := ek) (e := e) a hv
  obtain ⟨ρ2, e2, e3⟩ := fDGet_ok (i := i) ⟨_, hf.get g0⟩ e1 (o1.res f1) (h.key a) (f1.get g0) h1 h2 (he.f v)
  refine ⟨ρ2, e2, ?_⟩
  rcases e3 with rfl | rfl
  · exact f1
  · have := f1.put i (d := eDf m k e xs)
    rw [pset_get g0] at this; exact this
theorem dput_enc [DecidableEq κ] {ek : κ → D} {k : κ → Key} [h : KeyE ek k] {e : α → D} (a : κ) (v : α) : ∀ xs : List (κ × α), (match kIx (xs.map fun q => k q.1) (k a) with
    | some j => ((xs.map fun q => k q.1), (xs.map fun q => e q.2).set j (e v))
    | none => ((xs.map fun q => k q.1) ++ [k a], (xs.map fun q => e q.2) ++ [e v])) = ((dput xs a v).map (fun q => k q.1), (dput xs a v).map fun q => e q.2)
  | [] => rfl
  | x :: xs => by
    have ih := dput_enc (ek := ek) (e := e) a v xs
    rw [List.map_cons, List.map_cons]
    unfold kIx dput
    by_cases c : x.1 = a
    · rw [if_pos (by rw [c]), if_pos c]
      show (k x.1 :: _, _) = _
      rw [c]; rfl
    · rw [if_neg (fun z => c (h.inj _ _ z)), if_neg c]
      cases e1 : kIx (xs.map fun q => k q.1) (k a) with
      | none =>
        rw [e1] at ih
        have i1 := congrArg Prod.fst ih
        have i2 := congrArg Prod.snd ih
        simp only at i1 i2
        show (k x.1 :: xs.map _ ++ [k a], e x.2 :: xs.map _ ++ [e v]) = _
        rw [List.map_cons, List.map_cons, ← i1, ← i2]; rfl
      | some j =>
        rw [e1] at ih
        have i1 := congrArg Prod.fst ih
        have i2 := congrArg Prod.snd ih
        simp only at i1 i2
        show (k x.1 :: xs.map _, (e x.2 :: xs.map _).set (j + 1) (e v)) = _
        rw [List.map_cons, List.map_cons, ← i1, ← i2]; rfl
theorem stD_enc [DecidableEq κ] {ek : κ → D} {k : κ → Key} [h : KeyE ek k] {e : α → D} {xs : List (κ × α)} {a : κ} {v : α} (hn : (xs.map (·.1)).Nodup ∧ xs.length < sizeLine) : stD (eDW k e xs) (k a) (e v) = some (eDW k e (dput xs a v)) := by
  have nd : (xs.map fun q => k q.1).Nodup := by
    have : (xs.map fun q => k q.1) = (xs.map (·.1)).map k := by rw [List.map_map]; rfl
    rw [this]
    exact List.Pairwise.map _ (fun x y hxy z => hxy (h.inj _ _ z)) hn.1
  show (putD (xs.map fun q => k q.1) (xs.map fun q => e q.2) (k a) (e v)).map _ = _
  unfold putD
  rw [if_pos ⟨nd, by rw [List.length_map]; exact hn.2⟩]
  have := dput_enc (ek := ek) (e := e) a v xs
  cases e1 : kIx (xs.map fun q => k q.1) (k a) with
  | none => rw [e1] at this; simp only at this ⊢; rw [this]; rfl
  | some j => rw [e1] at this; simp only at this ⊢; rw [this]; rfl
theorem gStD_ok {fi : FO} {a : Ar} {v kd r d0 d1 : D} {ρ ρ1 : En} {k : Key} (h0 : slot ρ i = some d0) (h1 : fi ρ = .ok a ρ1) (h2 : res a ρ1 = some kd) (h3 : kd.key = some k) (h4 : slot ρ1 i = some d1) (h5 : stD d1 k v = some r) : gStD i fi v ρ = some (ρ1.set i (some r)) := by
  unfold gStD
  simp only [h0, h1, h2, Option.bind_some, h3, h4, h5, Option.map_some]
theorem xs_stD (i : Nat) [DecidableEq κ] {ek : κ → D} {k : κ → Key} [h : KeyE ek k] {fi : FO} {fe : FE} {n : Option Nat} {e : α → D} {xs : List (κ × α)} {t : M α} {tk : M κ} {kk : List (κ × α) → M (C S L R)} (g0 : pget p i = some (eDW k e xs)) (he : XP p fe e t) (hk : XO p fi n ek tk) (h2 : ∀ ys, XS (pset p i (some (eDW k e ys))) g o (kk ys)) :
    XS p (fSeq (fAsg (gStD i fi) fe) g) o (t.bind fun v => tk.nox.bind fun a => (dputM xs a v).bind kk) := by
  have := xs_head (o := o) (f := fAsg (gStD i fi) fe) (g := g) (p := p) (t := t.bind fun v => tk.nox.bind fun a => dputM xs a v) (e := fun ys => pset p i (some (eDW k e ys))) (k := kk) (fun ρ hf => by
    rw [M.sim_bind]
    refine (he ρ hf).imp (fun v ⟨ρ1, e1, f1⟩ => ?_) fun x ⟨ρ1, e1, _⟩ => ⟨ρ1, by unfold fAsg; rw [e1]; rfl⟩
    rw [M.sim_bind]
    refine M.nox_sim ((hk ρ1 f1).imp (fun a ⟨ar, ρ2, e2, f2, o2⟩ => M.sim_grd fun c => ⟨_, ?_, f2.put i⟩) fun x h => h)
    unfold fAsg; rw [e1]
    show DL.R.ofS (gStD i fi (e v) ρ1) = _
    rw [gStD_ok (f1.get g0) e2 (o2.res f2) (h.key a) (f2.get g0) (stD_enc (ek := ek) c)]; rfl) h2
  simpa only [M.bind_assoc] using this
theorem xs_stDE (i : Nat) [DecidableEq κ] {ek : κ → D} {k : κ → Key} [h : KeyE ek k] {fi : FO} {fe : FE} {n : Option Nat} {e : α → D} {xs : List (κ × α)} {t : M (α × χ)} {tk : χ → M (κ × χ)} {kk : List (κ × α) → χ → M (C S L R)} (g0 : pget p i = some (eDW k e xs)) (he : XE p fe e j ej t) (hk : ∀ s, XOE' (pset p j (some (ej s))) fi n ek j ej (tk s)) (h2 : ∀ ys s, XS (pset (pset p j (some (ej s))) i (some (eDW k e ys))) g o (kk ys s)) (hij : (i != j) = true := by rfl) :
    XS p (fSeq (fAsg (gStD i fi) fe) g) o (t.bind fun v => (tk v.2).nox.bind fun a => (dputM xs a.1 v.1).bind fun ys => kk ys a.2) := by
  have hij : i ≠ j := by simpa using hij
  have := xs_head (o := o) (f := fAsg (gStD i fi) fe) (g := g) (p := p) (t := t.bind fun v => (tk v.2).nox.bind fun a => (dputM xs a.1 v.1).bind fun ys => .ok (ys, a.2)) (e := fun ys => pset (pset p j (some (ej ys.2))) i (some (eDW k e ys.1))) (k := fun a => kk a.1 a.2) (fun ρ hf => by
    rw [M.sim_bind]
    refine (he ρ hf).imp (fun v ⟨ρ1, e1, f1⟩ => ?_) fun x ⟨ρ1, e1⟩ => ⟨ρ1, by unfold fAsg; rw [e1]; rfl⟩
    rw [M.sim_bind]
    refine M.nox_sim ((hk _ ρ1 f1).imp (fun a ⟨ar, ρ2, e2, f2, o2⟩ => ?_) fun x h => h)
    rw [M.sim_bind]
    rw [pset_pset] at f2 o2
    refine M.sim_grd fun c => ⟨_, ?_, f2.put i⟩
    unfold fAsg; rw [e1]
    show DL.R.ofS (gStD i fi (e v.1) ρ1) = _
    rw [gStD_ok (f1.get (by rw [pget_ne hij]; exact g0)) e2 (o2.res f2) (h.key a.1) (f2.get (by rw [pget_ne hij]; exact g0)) (stD_enc (ek := ek) c)]; rfl) fun a => h2 a.1 a.2
  simpa only [M.bind_assoc, M.ok_bind] using this
theorem any_keys [DecidableEq κ] {ek : κ → D} {k : κ → Key} [h : KeyE ek k] (a : κ) : ∀ xs : List (κ × α), ((xs.map fun q => k q.1).any fun z => decide (z = k a)) = decide (a ∈ xs.map (·.1))
  | [] => by simp
  | x :: xs => by
    simp only [List.map_cons, List.any_cons, any_keys (ek := ek) a xs, List.mem_cons, Bool.decide_or]
    congr 1
    rw [Bool.eq_iff_iff, decide_eq_true_iff, decide_eq_true_iff]
    exact ⟨fun z => (h.inj _ _ z).symm, fun z => by rw [z]⟩
theorem in_dic [DecidableEq κ] {m n : Bool} {ek : κ → D} {k : κ → Key} [h : KeyE ek k] {e : α → D} (a : κ) (xs : List (κ × α)) : inD n (ek a) (eDf m k e xs) = some (.bl (if n then !decide (a ∈ xs.map (·.1)) else decide (a ∈ xs.map (·.1)))) := by
  rw [← any_keys (ek := ek)]
  have h1 := h.back a
  cases hk : k a with
  | inl i => rw [hk] at h1; rw [← h1]; rfl
  | inr i => rw [hk] at h1; rw [← h1]; rfl
instance [DecidableEq κ] {n : Bool} {ek : κ → D} {k : κ → Key} [h : KeyE ek k] {e : α → D} : Op2T (inD n) ek (eD k e) eB fun a xs => .ok (if n then !decide (a ∈ xs.map (·.1)) else decide (a ∈ xs.map (·.1))) := ⟨fun a xs => in_dic a xs⟩
instance [DecidableEq κ] {n : Bool} {ek : κ → D} {k : κ → Key} [h : KeyE ek k] {e : α → D} : Op2T (inD n) ek (eDW k e) eB fun a xs => .ok (if n then !decide (a ∈ xs.map (·.1)) else decide (a ∈ xs.map (·.1))) := ⟨fun a xs => in_dic a xs⟩
/-- the encoder of keys -/
class KeyB (k : κ → Key) (e : outParam (κ → D)) : Prop where
  back : ∀ a, keyD (k a) = e a
instance : KeyB kI eI := ⟨fun _ => rfl⟩
instance : KeyB kS eS := ⟨fun _ => rfl⟩
theorem keyB_map {k : κ → Key} {e : κ → D} [h : KeyB k e] (xs : List (κ × α)) : (xs.map fun q => k q.1).map keyD = (xs.map (·.1)).map e := by
  rw [List.map_map, List.map_map]
  exact List.map_congr_left fun q _ => h.back q.1
instance {k : κ → Key} {ek : κ → D} [h : KeyB k ek] {e : α → D} : OpNT listAG (consE (eD k e) nilE) (eW ek) fun a => .ok (a.1.map (·.1)) := ⟨fun a => by
  show some (D.lst true ((a.1.map fun q => k q.1).map keyD)) = _
  rw [keyB_map]; rfl⟩
instance {k : κ → Key} {ek : κ → D} [h : KeyB k ek] {e : α → D} : OpNT listAG (consE (eDW k e) nilE) (eW ek) fun a => .ok (a.1.map (·.1)) := ⟨fun a => by
  show some (D.lst true ((a.1.map fun q => k q.1).map keyD)) = _
  rw [keyB_map]; rfl⟩
instance {e : α → D} [h : Frz e] : OpNT listAG (consE (eL e) nilE) (eW e) fun a => .ok a.1 := ⟨fun a => if_pos (h.l a.1)⟩
instance {e : α → D} [h : Frz e] : OpNT listAG (consE (eW e) nilE) (eW e) fun a => .ok a.1 := ⟨fun a => if_pos (h.l a.1)⟩
instance {e : α → D} [h : Frz e] : OpNT listAG (consE (eTL e) nilE) (eW e) fun a => .ok a.1 := ⟨fun a => if_pos (h.l a.1)⟩
instance {k : κ → Key} {ek : κ → D} [h : KeyB k ek] {e : α → D} [he : Frz e] : ItT (eD k e) ek fun a => a.map (·.1) := ⟨fun a => by
  show (if (eD k e a).isF = true then some ((a.map fun q => k q.1).map keyD) else none) = _
  rw [if_pos (Frz.f a), keyB_map]⟩
end
end DL

/-! what a mirror comes to -/
namespace DL
open PySem L2
section
variable {α β γ S L R : Type}
/-- it ends, in an a such that Q -/
def M.sat (t : M α) (Q : α → Prop) : Prop := ∃ a, t = .ok a ∧ Q a
theorem sat_ok {a : α} {Q : α → Prop} (h : Q a) : (M.ok a).sat Q := ⟨a, rfl, h⟩
theorem sat_eq {t : M α} {a : α} (h : t = .ok a) : t.sat (· = a) := ⟨a, h, rfl⟩
theorem M.sat.eq {t : M α} {a : α} (h : t.sat (· = a)) : t = .ok a := by obtain ⟨b, e, rfl⟩ := h; exact e
theorem sat_step {t : M α} {k : α → M β} {a : α} {Q : β → Prop} (h : t = .ok a) (h2 : (k a).sat Q) : (t.bind k).sat Q := by rw [h]; exact h2
theorem M.sat.imp {t : M α} {Q Q' : α → Prop} (h : t.sat Q) (k : ∀ a, Q a → Q' a) : t.sat Q' := let ⟨a, e, q⟩ := h; ⟨a, e, k a q⟩
theorem sat_bind {t : M α} {k : α → M β} {Q : α → Prop} {Q' : β → Prop} (h : t.sat Q) (h2 : ∀ a, Q a → (k a).sat Q') : (t.bind k).sat Q' := by
  obtain ⟨a, rfl, q⟩ := h
  exact h2 a q
theorem sat_nox {t : M α} {Q : α → Prop} (h : t.sat Q) : t.nox.sat Q := by
  obtain ⟨a, rfl, q⟩ := h
  exact ⟨a, rfl, q⟩
theorem sat_grd {p : Prop} [Decidable p] {t : M α} {Q : α → Prop} (hp : p) (h : t.sat Q) : (M.grd p t).sat Q := by rw [M.grd_pos hp]; exact h
theorem sat_seq {S' : Type} {t : M (C S L R)} {k : S → M (C S' L R)} {Q : S → Prop} {Q' : C S' L R → Prop} (h : t.sat fun c => ∃ s, c = .nx s ∧ Q s) (h2 : ∀ s, Q s → (k s).sat Q') : (t.seq k).sat Q' := by
  obtain ⟨_, rfl, s, rfl, q⟩ := h
  exact h2 s q
theorem sat_seq_rt {S' : Type} {t : M (C S L R)} {k : S → M (C S' L R)} {Q : S → Prop} {P : R → Prop} {Q' : C S' L R → Prop} (h : t.sat fun c => (∃ s, c = .nx s ∧ Q s) ∨ ∃ r, c = .rt r ∧ P r) (h2 : ∀ s, Q s → (k s).sat Q') (h3 : ∀ r, P r → Q' (.rt r)) : (t.seq k).sat Q' := by
  obtain ⟨_, rfl, h⟩ := h
  rcases h with ⟨s, rfl, q⟩ | ⟨r, rfl, q⟩
  · exact h2 s q
  · exact ⟨_, rfl, h3 r q⟩
theorem sat_fin {d : S → M R} {t : M (C S Empty R)} {Q : R → Prop} (h : t.sat fun c => ∃ r, c = .rt r ∧ Q r) : (M.fin d t).sat Q := by
  obtain ⟨_, rfl, r, rfl, q⟩ := h
  exact ⟨r, rfl, q⟩
theorem sat_finN {d : S → M R} {t : M (C S Empty R)} {Q : R → Prop} (h : t.sat fun c => ∃ s, c = .nx s ∧ (d s).sat Q) : (M.fin d t).sat Q := by
  obtain ⟨_, rfl, s, rfl, q⟩ := h
  exact q
theorem sat_if {b : Bool} {t u : M α} {Q : α → Prop} (h1 : b = true → t.sat Q) (h2 : b = false → u.sat Q) : (if b = true then t else u).sat Q := by
  cases b
  · exact h2 rfl
  · exact h1 rfl
theorem dec_t {p : Prop} {i : Decidable p} (h : @decide p i = true) : p := @of_decide_eq_true p i h
theorem dec_f {p : Prop} {i : Decidable p} (h : @decide p i = false) : ¬ p := @of_decide_eq_false p i h
theorem sat_ofO {o : Option α} {a : α} {Q : α → Prop} (h : o = some a) (q : Q a) : (M.ofO o).sat Q := ⟨a, by rw [h]; rfl, q⟩
/-! ### loops -/
/-- every turn goes on -/
theorem for_sat {f : S → α → M (C S S R)} (I : Nat → S → Prop) : ∀ (xs : List α) (i : Nat) (s : S), I i s → (∀ j x s, xs[j]? = some x → I (i + j) s → (f s x).sat fun c => ∃ s', (c = .nx s' ∨ c = .ct s') ∧ I (i + j + 1) s') →
    (M.for (L := L) f xs s).sat fun c => ∃ s', c = .nx s' ∧ I (i + xs.length) s'
  | [], i, s, h, _ => ⟨_, rfl, s, rfl, h⟩
  | x :: xs, i, s, h, hf => by
    obtain ⟨c, e, s', hc, h'⟩ := hf 0 x s rfl h
    have ih := for_sat I xs (i + 1) s' h' fun j y s hy hs => by
      have := hf (j + 1) y s (by simpa using hy) (by rw [show i + (j + 1) = i + 1 + j by omega]; exact hs)
      rw [show i + (j + 1) + 1 = i + 1 + j + 1 by omega] at this
      exact this
    unfold M.for
    rw [e]
    have e2 : i + (x :: xs).length = i + 1 + xs.length := by simp; omega
    rw [e2]
    rcases hc with rfl | rfl <;> exact ih
theorem for_ok {f : S → α → M (C S S R)} (I : Nat → S → Prop) {xs : List α} {s : S} (h0 : I 0 s) (hf : ∀ j x s, xs[j]? = some x → I j s → (f s x).sat fun c => ∃ s', (c = .nx s' ∨ c = .ct s') ∧ I (j + 1) s') :
    (M.for (L := L) f xs s).sat fun c => ∃ s', c = .nx s' ∧ I xs.length s' := by
  have := for_sat (L := L) (f := f) I xs 0 s h0 fun j x s hj hs => by
    rw [Nat.zero_add] at hs ⊢
    exact hf j x s hj hs
  rwa [Nat.zero_add] at this
/-- .. with an early return -/
theorem for_rt {f : S → α → M (C S S R)} (I : Nat → S → Prop) (Q : R → Prop) : ∀ (xs : List α) (i : Nat) (s : S), I i s → (∀ j x s, xs[j]? = some x → I (i + j) s → (f s x).sat fun c => (∃ s', (c = .nx s' ∨ c = .ct s') ∧ I (i + j + 1) s') ∨ ∃ r, c = .rt r ∧ Q r) →
    (M.for (L := L) f xs s).sat fun c => (∃ s', c = .nx s' ∧ I (i + xs.length) s') ∨ ∃ r, c = .rt r ∧ Q r
  | [], i, s, h, _ => ⟨_, rfl, .inl ⟨s, rfl, h⟩⟩
  | x :: xs, i, s, h, hf => by
    obtain ⟨c, e, hc⟩ := hf 0 x s rfl h
    unfold M.for
    rw [e]
    have e2 : i + (x :: xs).length = i + 1 + xs.length := by simp; omega
    rw [e2]
    rcases hc with ⟨s', hc, h'⟩ | ⟨r, rfl, q⟩
    · have ih := for_rt I Q xs (i + 1) s' h' fun j y s hy hs => by
        have := hf (j + 1) y s (by simpa using hy) (by rw [show i + (j + 1) = i + 1 + j by omega]; exact hs)
        rw [show i + (j + 1) + 1 = i + 1 + j + 1 by omega] at this
        exact this
      rcases hc with rfl | rfl <;> exact ih
    · exact ⟨_, rfl, .inr ⟨r, rfl, q⟩⟩
/-- a loop as a fold -/
theorem for_fold {f : S → α → M (C S S R)} (g : S → α → S) : ∀ (xs : List α) (s : S), (∀ x s, x ∈ xs → f s x = .ok (.nx (g s x)) ∨ f s x = .ok (.ct (g s x))) → M.for (L := L) f xs s = .ok (.nx (xs.foldl g s))
  | [], s, _ => rfl
  | x :: xs, s, h => by
    unfold M.for
    rcases h x s List.mem_cons_self with e | e <;> (rw [e]; exact for_fold g xs _ fun y s hy => h y s (List.mem_cons_of_mem _ hy))
theorem while_sat {t : S → M Bool} {f : S → M (C S S R)} (I : S → Prop) (μ : S → Nat) (B : S → Prop) (Q : R → Prop) (h : ∀ s, I s → (t s).sat fun b => if b then (f s).sat fun c => (∃ s', (c = .nx s' ∨ c = .ct s') ∧ I s' ∧ μ s' < μ s) ∨ (∃ s', c = .bk s' ∧ B s') ∨ ∃ r, c = .rt r ∧ Q r else B s) :
    ∀ (n : Nat) (s : S), I s → μ s < n → (M.while (L := L) t f n s).sat fun c => (∃ s', c = .nx s' ∧ B s') ∨ ∃ r, c = .rt r ∧ Q r
  | 0, s, _, hn => absurd hn (Nat.not_lt_zero _)
  | n + 1, s, hs, hn => by
    obtain ⟨b, e, hb⟩ := h s hs
    unfold M.while
    rw [e]
    cases b with
    | false => exact ⟨_, rfl, .inl ⟨s, rfl, hb⟩⟩
    | true =>
      obtain ⟨c, e2, hc⟩ := hb
      show M.sat ((f s).bind _) _
      rw [e2]
      rcases hc with ⟨s', hc, h1, h2⟩ | ⟨s', rfl, h1⟩ | ⟨r, rfl, h1⟩
      · have ih := while_sat I μ B Q h n s' h1 (by omega)
        rcases hc with rfl | rfl <;> exact ih
      · exact ⟨_, rfl, .inl ⟨s', rfl, h1⟩⟩
      · exact ⟨_, rfl, .inr ⟨r, rfl, h1⟩⟩
/-! ### comprehensions -/
theorem lcM_at {ft : α → M Bool} {f : α → M β} (p : α → Bool) (g : α → β) : ∀ (xs : List α) (n : Nat), n + xs.length ≤ sizeLine → (∀ x ∈ xs, ft x = .ok (p x) ∧ (p x = true → f x = .ok (g x))) → lcM ft f xs n = .ok ((xs.filter p).map g)
  | [], n, _, _ => rfl
  | x :: xs, n, hn, h => by
    obtain ⟨h1, h2⟩ := h x List.mem_cons_self
    have hn : n + 1 + xs.length ≤ sizeLine := by simp at hn; omega
    unfold lcM
    rw [h1]
    cases hp : p x with
    | false =>
      rw [List.filter_cons_of_neg (by simp [hp])]
      show lcM ft f xs n = _
      exact lcM_at p g xs n (by omega) fun y hy => h y (List.mem_cons_of_mem _ hy)
    | true =>
      rw [List.filter_cons_of_pos hp]
      show (f x).bind _ = _
      rw [h2 hp]
      show M.grd (n < sizeLine) _ = _
      rw [M.grd_pos (by omega), lcM_at p g xs (n + 1) hn fun y hy => h y (List.mem_cons_of_mem _ hy)]; rfl
theorem lcM_ok {ft : α → M Bool} {f : α → M β} (p : α → Bool) (g : α → β) {xs : List α} (hn : xs.length ≤ sizeLine) (h : ∀ x ∈ xs, ft x = .ok (p x) ∧ (p x = true → f x = .ok (g x))) : lcM ft f xs 0 = .ok ((xs.filter p).map g) :=
  lcM_at p g xs 0 (by omega) h
theorem lcM_map {f : α → M β} (g : α → β) {xs : List α} (hn : xs.length ≤ sizeLine) (h : ∀ x ∈ xs, f x = .ok (g x)) : lcM (fun _ => .ok true) f xs 0 = .ok (xs.map g) := by
  rw [lcM_ok (fun _ => true) g hn fun x hx => ⟨rfl, fun _ => h x hx⟩, List.filter_eq_self.mpr fun _ _ => rfl]
/-- with what is carried: an invariant of what is made and of what is carried -/
theorem lcS_sat {ft : S → α → M (Bool × S)} {f : S → α → M (β × S)} (I : Nat → List β → S → Prop) : ∀ (xs : List α) (i n : Nat) (s : S) (acc : List β), n + xs.length ≤ sizeLine → I i acc s →
    (∀ j x s acc, xs[j]? = some x → I (i + j) acc s → (ft s x).sat fun b => if b.1 then (f b.2 x).sat fun y => I (i + j + 1) (acc ++ [y.1]) y.2 else I (i + j + 1) acc b.2) →
    (lcS ft f xs n s).sat fun r => I (i + xs.length) (acc ++ r.1) r.2
  | [], i, n, s, acc, _, h, _ => ⟨_, rfl, by simpa using h⟩
  | x :: xs, i, n, s, acc, hn, h, hf => by
    have hn : n + 1 + xs.length ≤ sizeLine := by simp at hn; omega
    obtain ⟨⟨b, s2⟩, e, hb⟩ := hf 0 x s acc rfl h
    unfold lcS
    rw [e]
    have e2 : i + (x :: xs).length = i + 1 + xs.length := by simp; omega
    rw [e2]
    have next : ∀ j y s acc, xs[j]? = some y → I (i + 1 + j) acc s → (ft s y).sat fun b => if b.1 then (f b.2 y).sat fun z => I (i + 1 + j + 1) (acc ++ [z.1]) z.2 else I (i + 1 + j + 1) acc b.2 := fun j y s acc hy hs => by
      have := hf (j + 1) y s acc (by simpa using hy) (by rw [show i + (j + 1) = i + 1 + j by omega]; exact hs)
      rw [show i + (j + 1) + 1 = i + 1 + j + 1 by omega] at this
      exact this
    cases b with
    | false => exact lcS_sat I xs (i + 1) n s2 acc (by omega) hb next
    | true =>
      obtain ⟨⟨y, s3⟩, e3, hy⟩ := hb
      show M.sat ((f s2 x).bind _) _
      rw [e3]
      show M.sat (M.grd (n < sizeLine) _) _
      rw [M.grd_pos (by omega)]
      obtain ⟨r, e4, hr⟩ := lcS_sat I xs (i + 1) (n + 1) s3 (acc ++ [y]) hn hy next
      show M.sat ((lcS ft f xs (n + 1) s3).bind _) _
      rw [e4]
      exact ⟨_, rfl, by simpa using hr⟩
theorem lcS_ok {ft : S → α → M (Bool × S)} {f : S → α → M (β × S)} (I : Nat → List β → S → Prop) {xs : List α} {s : S} (hn : xs.length ≤ sizeLine) (h0 : I 0 [] s)
    (h : ∀ j x s acc, xs[j]? = some x → I j acc s → (ft s x).sat fun b => if b.1 then (f b.2 x).sat fun y => I (j + 1) (acc ++ [y.1]) y.2 else I (j + 1) acc b.2) : (lcS ft f xs 0 s).sat fun r => I xs.length r.1 r.2 := by
  have := lcS_sat I xs 0 0 s [] (by omega) h0 fun j x s acc hj hs => by
    rw [Nat.zero_add] at hs ⊢
    exact h j x s acc hj hs
  simpa using this
@[simp] theorem grd_true {t : M α} : M.grd True t = t := M.grd_pos trivial
theorem lcM_yes {f : α → M Bool} {xs : List α} (hn : xs.length ≤ sizeLine) (h : ∀ x ∈ xs, f x = .ok true) : lcM (fun _ => .ok true) f xs 0 = .ok (List.replicate xs.length true) := by
  rw [lcM_map (fun _ => true) hn h, List.map_const']
theorem cut_tail (xs : List α) : cutL xs (some 1) none = xs.tail := by rw [show cutL xs (some 1) none = xs.drop 1 from cutL_n_ xs 1, List.drop_one]
theorem inS_1 (c : Nat) (s : List Nat) : inS (T [c]) (T s) = decide (c ∈ s) := by
  have h : inD false (.str (T [c])) (.str (T s)) = some (.bl (inS (T [c]) (T s))) := rfl
  rw [in_T, T_cps] at h
  exact (D.bl.inj (Option.some.inj h)).symm
theorem zip_tail {r : α → α → Prop} : ∀ {xs : List α}, xs.Pairwise r → ∀ p ∈ xs.zip xs.tail, r p.1 p.2
  | [], _, p, hp => by simp at hp
  | [x], _, p, hp => by simp at hp
  | x :: y :: l, h, p, hp => by
    obtain ⟨h1, h2⟩ := List.pairwise_cons.mp h
    rw [List.tail_cons, List.zip_cons_cons] at hp
    rcases List.mem_cons.mp hp with rfl | hp
    · exact h1 y List.mem_cons_self
    · exact zip_tail (xs := y :: l) h2 p hp
theorem chars_tail (s : List Nat) : chars s.tail = (chars s).tail := by unfold chars; rw [List.map_tail]
theorem chars_asc {s : List Nat} (h : s.Pairwise (· < ·)) : (chars s).Pairwise (· < ·) := by
  unfold chars
  exact List.Pairwise.map _ (fun a b h => by rw [List.cons_lt_cons_iff]; exact .inl h) h
theorem mem_chars {s : List Nat} {x : List Nat} (h : x ∈ chars s) : ∃ c ∈ s, x = [c] := by
  unfold chars at h
  obtain ⟨c, hc, rfl⟩ := List.mem_map.mp h
  exact ⟨c, hc, rfl⟩
theorem chars_len (s : List Nat) : (chars s).length = s.length := List.length_map ..
theorem ixSM_at {s : List Nat} {i c : Nat} (hs : s.length ≤ sizeLine) (h : s[i]? = some c) : ixSM s (i : Int) = .ok [c] := by
  unfold ixSM ixM
  rw [M.grd_pos hs, atI_nat, h]; rfl
theorem ixM_at {xs : List α} {i : Nat} {a : α} (h : xs[i]? = some a) : ixM xs (i : Int) = .ok a := by
  unfold ixM
  rw [atI_nat, h]; rfl
theorem ixM_last {xs : List α} {a : α} : ixM (xs ++ [a]) (-1) = .ok a := by
  unfold ixM atI
  rw [show (xs ++ [a]).length = xs.length + 1 by simp, ixN_last]
  simp
theorem dput_keys {κ : Type} [DecidableEq κ] (k : κ) (v : α) : ∀ xs : List (κ × α), (dput xs k v).map (·.1) = if k ∈ xs.map (·.1) then xs.map (·.1) else xs.map (·.1) ++ [k]
  | [] => rfl
  | q :: r => by
    unfold dput
    by_cases c : q.1 = k
    · rw [if_pos c, if_pos (by rw [List.map_cons, c]; exact List.mem_cons_self)]
      rw [List.map_cons, List.map_cons, c]
    · rw [if_neg c, List.map_cons, dput_keys k v r, List.map_cons]
      by_cases h : k ∈ r.map (·.1)
      · rw [if_pos h, if_pos (List.mem_cons_of_mem _ h)]
      · rw [if_neg h, if_neg (fun z => by rcases List.mem_cons.mp z with z | z; exact c z.symm; exact h z)]; rfl
theorem dput_nd {κ : Type} [DecidableEq κ] {k : κ} {v : α} {xs : List (κ × α)} (h : (xs.map (·.1)).Nodup) : ((dput xs k v).map (·.1)).Nodup ∧ (dput xs k v).length ≤ xs.length + 1 ∧ ∀ q ∈ (dput xs k v).map (·.1), q = k ∨ q ∈ xs.map (·.1) := by
  have e := dput_keys k v xs
  have hl : (dput xs k v).length = ((dput xs k v).map (·.1)).length := by rw [List.length_map]
  by_cases c : k ∈ xs.map (·.1)
  · rw [if_pos c] at e
    exact ⟨by rw [e]; exact h, by rw [hl, e, List.length_map]; omega, fun q hq => by rw [e] at hq; exact .inr hq⟩
  · rw [if_neg c] at e
    refine ⟨?_, by rw [hl, e]; simp, fun q hq => ?_⟩
    · rw [e, List.nodup_append]
      refine ⟨h, by simp, fun a ha b hb z => c (by rw [List.mem_singleton.mp hb] at z; rw [← z]; exact ha)⟩
    · rw [e] at hq
      rcases List.mem_append.mp hq with hq | hq
      · exact .inr hq
      · exact .inl (List.mem_singleton.mp hq)
theorem dputM_ok {κ : Type} [DecidableEq κ] {k : κ} {v : α} {xs : List (κ × α)} (h : (xs.map (·.1)).Nodup) (hl : xs.length < sizeLine) : dputM xs k v = .ok (dput xs k v) := M.grd_pos ⟨h, hl⟩
theorem catM_ok {x y : List α} (h : x.length + y.length ≤ sizeLine) : catM x y = .ok (x ++ y) := M.grd_pos h
theorem modI_ok {x y : Int} (h : 0 < y) : modI x y = .ok (x % y) := M.grd_pos h
theorem range1_ok {z : Int} (h : 0 ≤ z) (h2 : z ≤ 1000000) : range1 z = .ok (rangeI 0 z.toNat) := M.grd_pos (big62_at h h2)
theorem take_snoc {α : Type} {l : List α} {j : Nat} {x : α} (h : l[j]? = some x) : l.take (j + 1) = l.take j ++ [x] := by
  rw [List.take_add_one, h]; rfl
theorem chars_get {l : List Nat} {j : Nat} {x : List Nat} (h : (chars l)[j]? = some x) : ∃ c, l[j]? = some c ∧ x = [c] := by
  unfold chars at h
  rw [List.getElem?_map] at h
  obtain ⟨c, h1, h2⟩ := Option.map_eq_some_iff.mp h
  exact ⟨c, h1, h2.symm⟩
theorem rangeI_len {lo : Int} {n : Nat} : (rangeI lo n).length = n := by simp [rangeI]
theorem rangeI_get {lo : Int} {n j : Nat} {x : Int} (h : (rangeI lo n)[j]? = some x) : j < n ∧ x = lo + (j : Nat) := by
  unfold rangeI at h
  rw [List.getElem?_map] at h
  obtain ⟨k, h1, h2⟩ := Option.map_eq_some_iff.mp h
  obtain ⟨h3, h4⟩ := List.getElem?_eq_some_iff.mp h1
  simp at h3 h4
  subst h4
  exact ⟨h3, h2.symm⟩
theorem sz_le {n : Nat} (h : n ≤ 16777216) : n ≤ sizeLine := h
theorem sz_lt {n : Nat} (h : n < 16777216) : n < sizeLine := h
theorem small_log {i : Int} (h1 : 0 ≤ i) (h2 : i ≤ 1000000) : i.natAbs.log2 < 9000 := by
  have := log2_lt_of (i := i) (n := 20) (by have : (1000000 : Nat) < 2 ^ 20 := by decide
                                            omega) (by decide)
  omega
end
end DL

/-! what has a repr -/
namespace DL
open PySem
/-- data with at most b parts, k deep, whose ends are short -/
def Sh (d : D) (b k : Nat) : Prop := ∃ p, d.py = some p ∧ p.showable = true ∧ p.leavesShort 1200 = true ∧ p.bulk ≤ b ∧ p.depth ≤ k
theorem rp_sh {d : D} {b k : Nat} (h : Sh d b k) (hb : b ≤ 10000) (hk : k ≤ 64) : ∃ s, rp d = .ok s := by
  obtain ⟨p, h1, h2, h3, h4, h5⟩ := h
  unfold rp
  rw [repr_gen h1 h2 h3 (Nat.le_trans h4 hb) (Nat.le_trans h5 hk)]
  exact ⟨_, rfl⟩
theorem Sh.int {i : Int} (h : i.natAbs < 2 ^ 1000) : Sh (.int i) 0 0 := ⟨.int i, rfl, (int_shown h).2, decide_eq_true (int_shown h).1, Nat.le_refl _, Nat.le_refl _⟩
theorem Sh.bl {c : Bool} : Sh (.bl c) 0 0 := ⟨.bool c, rfl, rfl, rfl, Nat.le_refl _, Nat.le_refl _⟩
theorem Sh.non : Sh .non 0 0 := ⟨.none, rfl, rfl, rfl, Nat.le_refl _, Nat.le_refl _⟩
theorem Sh.all {b k : Nat} : ∀ {xs : List D}, (∀ d ∈ xs, Sh d b k) → ∃ ps, D.pyL xs = some ps ∧ PyData.showableAll ps = true ∧ PyData.leavesShortAll 1200 ps = true ∧ PyData.bulkAll ps ≤ xs.length * (b + 1) ∧ PyData.depthAll ps ≤ k
  | [], _ => ⟨[], rfl, rfl, rfl, Nat.zero_le _, Nat.zero_le _⟩
  | d :: ds, h => by
    obtain ⟨p, h1, h2, h3, h4, h5⟩ := h d List.mem_cons_self
    obtain ⟨ps, g1, g2, g3, g4, g5⟩ := Sh.all fun x hx => h x (List.mem_cons_of_mem _ hx)
    refine ⟨p :: ps, ?_, ?_, ?_, ?_, ?_⟩
    · unfold D.pyL; rw [h1, g1]
    · simp only [PyData.showableAll, h2, g2, Bool.and_self]
    · simp only [PyData.leavesShortAll, h3, g3, Bool.and_self]
    · simp only [PyData.bulkAll, List.length_cons, Nat.add_mul]
      omega
    · simp only [PyData.depthAll]
      omega
theorem Sh.tup {b k : Nat} {xs : List D} (h : ∀ d ∈ xs, Sh d b k) : Sh (.tup xs) (xs.length * (b + 1)) (k + 1) := by
  obtain ⟨ps, g1, g2, g3, g4, g5⟩ := Sh.all h
  refine ⟨.tuple ps, ?_, ?_, ?_, ?_, ?_⟩
  · show (D.pyL xs).map _ = _; rw [g1]; rfl
  · simpa only [PyData.showable] using g2
  · simpa only [PyData.leavesShort] using g3
  · simpa only [PyData.bulk] using g4
  · simp only [PyData.depth]; omega
theorem Sh.lst {m : Bool} {b k : Nat} {xs : List D} (h : ∀ d ∈ xs, Sh d b k) : Sh (.lst m xs) (xs.length * (b + 1)) (k + 1) := by
  obtain ⟨ps, g1, g2, g3, g4, g5⟩ := Sh.all h
  refine ⟨.list ps, ?_, ?_, ?_, ?_, ?_⟩
  · show (D.pyL xs).map _ = _; rw [g1]; rfl
  · simpa only [PyData.showable] using g2
  · simpa only [PyData.leavesShort] using g3
  · simpa only [PyData.bulk] using g4
  · simp only [PyData.depth]; omega
theorem Sh.up {d : D} {b k b' k' : Nat} (h : Sh d b k) (hb : b ≤ b') (hk : k ≤ k') : Sh d b' k' := by
  obtain ⟨p, h1, h2, h3, h4, h5⟩ := h
  exact ⟨p, h1, h2, h3, Nat.le_trans h4 hb, Nat.le_trans h5 hk⟩
theorem two_in {x y d : D} {P : D → Prop} (hx : P x) (hy : P y) (h : d ∈ [x, y]) : P d := by
  rcases List.mem_cons.mp h with rfl | h
  · exact hx
  · rw [List.mem_singleton.mp h]; exact hy
theorem Sh.pair {a b : Int} (ha : a.natAbs < 2 ^ 1000) (hb : b.natAbs < 2 ^ 1000) : Sh (eT2 eI eI (a, b)) 2 1 := (Sh.tup (xs := [.int a, .int b]) (b := 0) (k := 0) fun d hd => two_in (P := fun d => Sh d 0 0) (Sh.int ha) (Sh.int hb) hd)
theorem small_big {z : Int} (h : z.natAbs < 2 ^ 64) : z.natAbs < 2 ^ 1000 := Nat.lt_of_lt_of_le h (Nat.pow_le_pow_right (by decide) (by decide))
theorem Sh.eTL {α : Type} {e : α → D} {xs : List α} {b k : Nat} (h : ∀ a ∈ xs, Sh (e a) b k) : Sh (DL.eTL e xs) (xs.length * (b + 1)) (k + 1) := by
  have := Sh.tup (xs := xs.map e) (b := b) (k := k) fun d hd => by
    obtain ⟨a, ha, rfl⟩ := List.mem_map.mp hd
    exact h a ha
  rw [List.length_map] at this; exact this
theorem Sh.eL {α : Type} {e : α → D} {xs : List α} {b k : Nat} (h : ∀ a ∈ xs, Sh (e a) b k) : Sh (DL.eL e xs) (xs.length * (b + 1)) (k + 1) := by
  have := Sh.lst (m := false) (xs := xs.map e) (b := b) (k := k) fun d hd => by
    obtain ⟨a, ha, rfl⟩ := List.mem_map.mp hd
    exact h a ha
  rw [List.length_map] at this; exact this
/-- equal things have equal reprs -/
theorem rp_same {d : D} {b k : Nat} {α : Type} {K : List Nat → List Nat → M α} {Q : α → Prop} (h : Sh d b k) (hb : b ≤ 10000) (hk : k ≤ 64) (h2 : ∀ s, (K s s).sat Q) : ((rp d).bind fun x => (rp d).bind fun y => K x y).sat Q := by
  obtain ⟨s, e⟩ := rp_sh h hb hk
  rw [e]
  exact h2 s
/-! ### loops that append -/
section
variable {S L R α β : Type}
theorem for_app {f : List β → α → M (C (List β) (List β) R)} (p : α → Bool) (g : α → β) : ∀ (xs : List α) (s : List β), s.length + xs.length ≤ sizeLine → (∀ x ∈ xs, ∀ s : List β, s.length < sizeLine → f s x = if p x = true then .ok (.nx (s ++ [g x])) else .ok (.nx s)) → M.for (L := L) f xs s = .ok (.nx (s ++ (xs.filter p).map g))
  | [], s, _, _ => by simp [M.for]
  | x :: xs, s, hn, h => by
    have hn : s.length + (xs.length + 1) ≤ sizeLine := by simpa using hn
    unfold M.for
    rw [h x List.mem_cons_self s (by omega)]
    cases hp : p x with
    | true =>
      rw [if_pos rfl, List.filter_cons_of_pos hp]
      show M.for f xs (s ++ [g x]) = _
      rw [for_app p g xs _ (by simp; omega) fun y hy => h y (List.mem_cons_of_mem _ hy)]; simp
    | false =>
      rw [if_neg (by simp), List.filter_cons_of_neg (by simp [hp])]
      show M.for f xs s = _
      rw [for_app p g xs _ (by omega) fun y hy => h y (List.mem_cons_of_mem _ hy)]
theorem for_flat {f : List β → α → M (C (List β) (List β) R)} (H : Nat → List β) (B : Nat) {xs : List α} (hn : xs.length * B ≤ sizeLine) (hB : ∀ k, k < xs.length → (H k).length ≤ B) (h : ∀ k x s, xs[k]? = some x → s.length + B ≤ sizeLine → f s x = .ok (.nx (s ++ H k))) :
    M.for (L := L) f xs [] = .ok (.nx (((List.range xs.length).map H).flatten)) := by
  have := for_ok (L := L) (f := f) (xs := xs) (s := []) (fun k s => s = ((List.range k).map H).flatten ∧ s.length ≤ k * B) ⟨rfl, Nat.zero_le _⟩ fun k x s hx ⟨e, hl⟩ => by
    have hk : k < xs.length := (List.getElem?_eq_some_iff.mp hx).1
    have h2 : (k + 1) * B ≤ xs.length * B := Nat.mul_le_mul_right _ hk
    rw [Nat.add_mul] at h2
    have hb := hB k hk
    refine ⟨_, h k x s hx (by omega), _, .inl rfl, ?_, ?_⟩
    · rw [List.range_succ, List.map_append, List.flatten_append, ← e]; simp
    · rw [List.length_append, Nat.add_mul]; omega
  obtain ⟨c, e, s, rfl, e2, _⟩ := this
  rw [e, e2]
theorem lcM_filter {ft : α → M Bool} (p : α → Bool) {xs : List α} (hn : xs.length ≤ sizeLine) (h : ∀ x ∈ xs, ft x = .ok (p x)) : lcM ft (fun x => .ok x) xs 0 = .ok (xs.filter p) := by
  have := lcM_ok (ft := ft) (f := fun x => M.ok x) p (fun x => x) hn fun x hx => ⟨h x hx, fun _ => rfl⟩
  rw [this, show (fun x : α => x) = id from rfl, List.map_id]
/-- the steps of a loop that goes to its end -/
def ForN (f : S → α → M (C S S R)) : List α → S → S → Prop
  | [], s, s' => s = s'
  | x :: xs, s, s' => ∃ t, f s x = .ok (.nx t) ∧ ForN f xs t s'
theorem ForN.run {f : S → α → M (C S S R)} : ∀ {xs : List α} {s s' : S}, ForN f xs s s' → M.for (L := L) f xs s = .ok (.nx s')
  | [], s, s', h => by cases h; rfl
  | x :: xs, s, s', h => by
    obtain ⟨t, e, h⟩ := h
    unfold M.for
    rw [e]
    exact h.run
theorem ForN.snoc {f : S → α → M (C S S R)} {x : α} {s' t : S} (e : f s' x = .ok (.nx t)) : ∀ {xs : List α} {s : S}, ForN f xs s s' → ForN f (xs ++ [x]) s t
  | [], s, h => by cases h; exact ⟨t, e, rfl⟩
  | y :: xs, s, h => by
    obtain ⟨u, e2, h⟩ := h
    exact ⟨u, e2, ForN.snoc e h⟩
end
end DL

/-! dicts with keys that are tuples -/
namespace DL
open PySem PySem.Spec PyProof.Rows L2
section
variable {S L R α β γ κ A : Type} {p : Pat} {i : Nat} {g : FS} {o : Out S L R}
/-- keys displayed -/
class KeyLE (es : κ → List D) (k : outParam (κ → List Key)) : Prop where
  run : ∀ a, keysL (es a) = some (k a)
  inj : ∀ a b, k a = k b → a = b
  len : ∀ a, (k a).length ≤ sizeLine
instance : KeyLE (consE eI (consE eI nilE)) fun q : Int × Int × Unit => [.inl q.1, .inl q.2.1] := ⟨fun a => rfl, fun a b h => by
  obtain ⟨a1, a2, _⟩ := a
  obtain ⟨b1, b2, _⟩ := b
  simp at h
  rw [h.1, h.2], fun a => by show 2 ≤ sizeLine; decide⟩
def eDTf (m : Bool) (k : κ → List Key) (e : α → D) (xs : List (κ × α)) : D := .dit m (xs.map fun q => k q.1) (xs.map fun q => e q.2)
def eDT (k : κ → List Key) (e : α → D) : List (κ × α) → D := eDTf false k e
def eDTW (k : κ → List Key) (e : α → D) : List (κ × α) → D := eDTf true k e
instance {k : κ → List Key} {e : α → D} [h : Frz e] : Frz (eDT k e) := ⟨fun a => by show (!false && D.isFL (a.map fun q => e q.2)) = true; rw [snd_F]; rfl⟩
theorem eDTW_frz {k : κ → List Key} {e : α → D} [h : Frz e] (xs : List (κ × α)) : (eDTW k e xs).frz = eDT k e xs := by
  show D.dit false _ (D.frzL _) = _
  rw [frzL_of (snd_F xs)]; rfl
theorem xp_dictT0 (k : κ → List Key) (e : α → D) : XP p (fC (.dit true [] [])) (eDTW k e) (.ok []) := xp_c rfl
theorem itT_enc {m : Bool} [DecidableEq κ] {es : κ → List D} {k : κ → List Key} [h : KeyLE es k] {e : α → D} (a : κ) : ∀ {xs : List (κ × α)} {v : α}, dget xs a = some v → itT (eDTf m k e xs) (k a) = some (e v)
  | [], _, q => by cases q
  | x :: xs, v, q => by
    have ih := fun v => itT_enc (m := m) (es := es) (e := e) a (xs := xs) (v := v)
    unfold dget at q
    unfold eDTf itT at ih ⊢
    rw [List.map_cons, List.map_cons]
    simp only at ih ⊢
    unfold kIxT
    by_cases c : x.1 = a
    · rw [if_pos c] at q
      cases q
      rw [if_pos (by rw [c])]; rfl
    · rw [if_neg c] at q
      rw [if_neg (fun z => c (h.inj _ _ z))]
      have := ih v q
      obtain ⟨n, h1, h2⟩ := Option.bind_eq_some_iff.mp this
      rw [h1]
      show ((e x.2 :: xs.map fun q => e q.2)[n + 1]?) = _
      simpa using h2
theorem xp_dgetT {m : Bool} [DecidableEq κ] {es : κ → List D} {k : κ → List Key} [h : KeyLE es k] {e : α → D} [he : Frz e] {fo : FO} {fs : FLs} {n : Option Nat} {ns : List (Option Nat)} {t : M (List (κ × α))} {tk : M κ} (ho : XO p fo n (eDTf m k e) t) (hk : XA p fs ns es tk) : XP p (fDGetT fo fs) e (t.bind fun xs => tk.bind fun a => M.ofO (dget xs a)) := by
  intro ρ hf
  rw [M.sim_bind]
  refine (ho ρ hf).imp (fun xs ⟨ar, ρ1, e1, f1, o1⟩ => ?_) fun x ⟨ρ1, e1, f1⟩ => ⟨ρ1, by unfold fDGetT; rw [e1]; rfl, f1⟩
  rw [M.sim_bind]
  refine (hk ρ1 f1).imp (fun a ⟨as, ρ2, e2, f2, o2⟩ => M.sim_ofO fun v hv => ⟨ρ2, ?_, f2⟩) fun x ⟨ρ2, e2, f2⟩ => ⟨ρ2, by unfold fDGetT; rw [e1]; show (fs ρ1).bind _ = _; rw [e2]; rfl, f2⟩
  unfold fDGetT; rw [e1]
  show (fs ρ1).bind _ = _
  rw [e2]
  simp only [DL.R.bind_ok, o1.res f2, o2.ress f2, Option.bind_some, h.run a]
  rw [if_pos (h.len a), itT_enc (es := es) a hv]
  show (if (e v).isF = true then _ else _) = _
  rw [if_pos (he.f v)]
theorem dput_encT [DecidableEq κ] {es : κ → List D} {k : κ → List Key} [h : KeyLE es k] {e : α → D} (a : κ) (v : α) : ∀ xs : List (κ × α), (match kIxT (xs.map fun q => k q.1) (k a) with
    | some j => ((xs.map fun q => k q.1), (xs.map fun q => e q.2).set j (e v))
    | none => ((xs.map fun q => k q.1) ++ [k a], (xs.map fun q => e q.2) ++ [e v])) = ((dput xs a v).map (fun q => k q.1), (dput xs a v).map fun q => e q.2)
  | [] => rfl
  | x :: xs => by
    have ih := dput_encT (es := es) (e := e) a v xs
    rw [List.map_cons, List.map_cons]
    unfold kIxT dput
    by_cases c : x.1 = a
    · rw [if_pos (by rw [c]), if_pos c]
      show (k x.1 :: _, _) = _
      rw [c]; rfl
    · rw [if_neg (fun z => c (h.inj _ _ z)), if_neg c]
      cases e1 : kIxT (xs.map fun q => k q.1) (k a) with
      | none =>
        rw [e1] at ih
        have i1 := congrArg Prod.fst ih
        have i2 := congrArg Prod.snd ih
        simp only at i1 i2
        show (k x.1 :: xs.map _ ++ [k a], e x.2 :: xs.map _ ++ [e v]) = _
        rw [List.map_cons, List.map_cons, ← i1, ← i2]; rfl
      | some j =>
        rw [e1] at ih
        have i1 := congrArg Prod.fst ih
        have i2 := congrArg Prod.snd ih
        simp only at i1 i2
        show (k x.1 :: xs.map _, (e x.2 :: xs.map _).set (j + 1) (e v)) = _
        rw [List.map_cons, List.map_cons, ← i1, ← i2]; rfl
theorem stT_enc [DecidableEq κ] {es : κ → List D} {k : κ → List Key} [h : KeyLE es k] {e : α → D} {xs : List (κ × α)} {a : κ} {v : α} (hn : (xs.map (·.1)).Nodup ∧ xs.length < sizeLine) : stT (eDTW k e xs) (k a) (e v) = some (eDTW k e (dput xs a v)) := by
  have nd : (xs.map fun q => k q.1).Nodup := by
    have : (xs.map fun q => k q.1) = (xs.map (·.1)).map k := by rw [List.map_map]; rfl
    rw [this]
    exact List.Pairwise.map _ (fun x y hxy z => hxy (h.inj _ _ z)) hn.1
  show (putDT (xs.map fun q => k q.1) (xs.map fun q => e q.2) (k a) (e v)).map _ = _
  unfold putDT
  rw [if_pos ⟨nd, by rw [List.length_map]; exact hn.2⟩]
  have := dput_encT (es := es) (e := e) a v xs
  cases e1 : kIxT (xs.map fun q => k q.1) (k a) with
  | none => rw [e1] at this; simp only at this ⊢; rw [this]; rfl
  | some j => rw [e1] at this; simp only at this ⊢; rw [this]; rfl
theorem xs_stT (i : Nat) [DecidableEq κ] {es : κ → List D} {k : κ → List Key} [h : KeyLE es k] {fs : FLs} {fe : FE} {ns : List (Option Nat)} {e : α → D} {xs : List (κ × α)} {t : M α} {tk : M κ} {kk : List (κ × α) → M (C S L R)} (g0 : pget p i = some (eDTW k e xs)) (he : XP p fe e t) (hk : XA p fs ns es tk) (h2 : ∀ ys, XS (pset p i (some (eDTW k e ys))) g o (kk ys)) :
    XS p (fSeq (fAsg (gStT i fs) fe) g) o (t.bind fun v => tk.nox.bind fun a => (dputM xs a v).bind kk) := by
  have := xs_head (o := o) (f := fAsg (gStT i fs) fe) (g := g) (p := p) (t := t.bind fun v => tk.nox.bind fun a => dputM xs a v) (e := fun ys => pset p i (some (eDTW k e ys))) (k := kk) (fun ρ hf => by
    rw [M.sim_bind]
    refine (he ρ hf).imp (fun v ⟨ρ1, e1, f1⟩ => ?_) fun x ⟨ρ1, e1, _⟩ => ⟨ρ1, by unfold fAsg; rw [e1]; rfl⟩
    rw [M.sim_bind]
    refine M.nox_sim ((hk ρ1 f1).imp (fun a ⟨as, ρ2, e2, f2, o2⟩ => M.sim_grd fun c => ⟨_, ?_, f2.put i⟩) fun x h => h)
    unfold fAsg; rw [e1]
    show DL.R.ofS (gStT i fs (e v) ρ1) = _
    have e3 : slot ρ1 i = _ := f1.get g0
    have e4 : slot ρ2 i = _ := f2.get g0
    have e5 : gStT i fs (e v) ρ1 = some (ρ2.set i (some (eDTW k e (dput xs a v)))) := by
      unfold gStT
      simp only [e3, e2, e4, o2.ress f2, Option.bind_some, h.run a]
      rw [if_pos (h.len a), stT_enc (es := es) c]; rfl
    rw [e5]; rfl) h2
  simpa only [M.bind_assoc] using this
/-! ### two for -/
def lc2M {α β γ : Type} (tt : α → M Bool) (ti1 : α → M (List β)) (tt1 : α → β → M Bool) (te : α → β → M γ) : List α → Nat → M (List γ)
  | [], _ => .ok []
  | x :: xs, n => (tt x).bind fun b => if b then (ti1 x).bind fun ys => (lcM (tt1 x) (te x) ys n).bind fun zs => (lc2M tt ti1 tt1 te xs (n + zs.length)).bind fun ws => .ok (zs ++ ws) else lc2M tt ti1 tt1 te xs n
theorem lc2_sim {vs vs1 : List Nat} {g g1 : FG} {ft ft1 : FB} {fi1 : FI} {fe : FE} {ex : α → D} {ex1 : β → D} {e : γ → D} {q : α → Pat} {q1 : α → β → Pat} {tt : α → M Bool} {ti1 : α → M (List β)} {tt1 : α → β → M Bool} {te : α → β → M γ}
    (hg : XG ex g (wipeP p vs) q) (ht : ∀ a, XT (q a) ft (tt a)) (hi1 : ∀ a, XI (q a) fi1 ex1 (ti1 a)) (hg1 : ∀ a, XG ex1 g1 (wipeP (q a) vs1) (q1 a)) (ht1 : ∀ a b, XT (q1 a b) ft1 (tt1 a b)) (he : ∀ a b, XP (q1 a b) fe e (te a b)) (hq : ∀ a, wipeP (q a) vs = wipeP p vs) (hq1 : ∀ a b, wipeP (q1 a b) vs1 = wipeP (q a) vs1) :
    ∀ (xs : List α) (n : Nat) (ρ : En), Fits (wipeP p vs) ρ → (lc2M tt ti1 tt1 te xs n).sim (fun ys => ∃ ρ', lc2F vs g ft vs1 fi1 g1 ft1 fe (xs.map ex) n ρ = .ok (ys.map e) ρ' ∧ Fits (wipeP p vs) ρ') fun x => ∃ ρ', lc2F vs g ft vs1 fi1 g1 ft1 fe (xs.map ex) n ρ = .exc x ρ'
  | [], n, ρ, hf => ⟨ρ, rfl, hf⟩
  | x :: xs, n, ρ, hf => by
    obtain ⟨ρ1, e1, f1⟩ := hg x ρ hf
    unfold lc2M
    rw [List.map_cons]
    unfold lc2F
    rw [e1, M.sim_bind]
    refine (ht x ρ1 f1).imp (fun b ⟨ρ2, e2, f2⟩ => ?_) fun x ⟨ρ2, e2, _⟩ => ⟨ρ2, by simp only [e2, R.bind_exc]⟩
    have back : ∀ {ρ3 : En}, Fits (q x) ρ3 → Fits (wipeP p vs) (wipeD ρ3 vs) := fun f3 => by have := f3.wipe vs; rw [hq] at this; exact this
    cases b with
    | false =>
      simp only [e2, R.bind_ok, Bool.false_eq_true, if_false]
      exact lc2_sim hg ht hi1 hg1 ht1 he hq hq1 xs n _ (back f2)
    | true =>
      simp only [e2, R.bind_ok, if_true]
      rw [M.sim_bind]
      refine (hi1 x ρ2 f2).imp (fun ys ⟨ρ3, e3, f3⟩ => ?_) fun x ⟨ρ3, e3, _⟩ => ⟨ρ3, by simp only [e3, R.bind_exc]⟩
      rw [M.sim_bind]
      refine (lc_sim (hg1 x) (ht1 x) (he x) (hq1 x) ys n _ (f3.wipe vs1)).imp (fun zs ⟨ρ4, e4, f4⟩ => ?_) fun x ⟨ρ4, e4⟩ => ⟨ρ4, by simp only [e3, R.bind_ok, e4, R.bind_exc]⟩
      rw [M.sim_bind]
      simp only [e3, R.bind_ok, e4, List.length_map]
      exact (lc2_sim hg ht hi1 hg1 ht1 he hq hq1 xs (n + zs.length) _ (back (f3.rest f4))).imp (fun ws ⟨ρ5, e5, f5⟩ => ⟨ρ5, by rw [e5, List.map_append]; rfl, f5⟩) fun x ⟨ρ5, e5⟩ => ⟨ρ5, by rw [e5]; rfl⟩
theorem xp_lc2 {vs vs1 : List Nat} {fi fi1 : FI} {g g1 : FG} {ft ft1 : FB} {fe : FE} {ex : α → D} {ex1 : β → D} {e : γ → D} {q : α → Pat} {q1 : α → β → Pat} {ti : M (List α)} {tt : α → M Bool} {ti1 : α → M (List β)} {tt1 : α → β → M Bool} {te : α → β → M γ}
    (hi : XI p fi ex ti) (hg : XG ex g (wipeP p vs) q) (ht : ∀ a, XT (q a) ft (tt a)) (hi1 : ∀ a, XI (q a) fi1 ex1 (ti1 a)) (hg1 : ∀ a, XG ex1 g1 (wipeP (q a) vs1) (q1 a)) (ht1 : ∀ a b, XT (q1 a b) ft1 (tt1 a b)) (he : ∀ a b, XP (q1 a b) fe e (te a b)) (hq : ∀ a, wipeP (q a) vs = wipeP p vs := by intro _; rfl) (hq1 : ∀ a b, wipeP (q1 a b) vs1 = wipeP (q a) vs1 := by intro _ _; rfl) :
    XP p (fLc2 vs fi g ft vs1 fi1 g1 ft1 fe) (eW e) (ti.bind fun xs => (lc2M tt ti1 tt1 te xs 0).nox) := by
  intro ρ hf
  rw [M.sim_bind]
  refine (hi ρ hf).imp (fun xs ⟨ρ1, e1, f1⟩ => ?_) fun x ⟨ρ1, e1, f1⟩ => ⟨ρ1, by unfold fLc2; rw [e1]; rfl, f1⟩
  refine M.nox_sim (Ex := fun x => ∃ ρ', lc2F vs g ft vs1 fi1 g1 ft1 fe (xs.map ex) 0 (wipeD ρ1 vs) = .exc x ρ') ((lc2_sim hg ht hi1 hg1 ht1 he hq hq1 xs 0 _ (f1.wipe vs)).imp (fun ys ⟨ρ2, e2, f2⟩ => ⟨restD ρ1 vs ρ2, ?_, f1.rest f2⟩) fun x h => h)
  unfold fLc2; rw [e1]
  simp only [R.bind_ok, e2, R.nox_ok]; rfl
end
end DL

/-! sorted(set(texts)) -/
namespace DL
open PySem PySem.Spec PyProof.Rows L2
def putN (xs : List (List Nat)) (x : List Nat) : List (List Nat) := if x ∈ xs then xs else x :: xs
def setN (xs : List (List Nat)) : List (List Nat) := isort leN (xs.foldl putN [])
theorem putN_T (xs : List (List Nat)) (x : List Nat) : putX (xs.map T) (T x) = (putN xs x).map T := by
  unfold putX putN
  have e : (T x ∈ xs.map T) ↔ x ∈ xs := ⟨fun h => by
    obtain ⟨y, hy, e⟩ := List.mem_map.mp h
    exact T_inj.mp e ▸ hy, fun h => List.mem_map_of_mem h⟩
  by_cases c : x ∈ xs
  · rw [if_pos c, if_pos (e.mpr c)]
  · rw [if_neg c, if_neg (fun z => c (e.mp z))]; rfl
theorem foldN_T : ∀ (ys xs : List (List Nat)), (ys.map T).foldl putX (xs.map T) = (ys.foldl putN xs).map T
  | [], _ => rfl
  | y :: ys, xs => by rw [List.map_cons, List.foldl_cons, List.foldl_cons, putN_T, foldN_T]
theorem sortedSet_strs {m : Bool} (l : List (List Nat)) (h : l.length + 1 < scanBound) : sortedSetG [.lst m (l.map eS)] = some (eW eS (setN l)) := by
  show ((strsD (l.map eS)).bind fun ns => if ns.length + 1 < scanBound then some (D.lst true ((isort leS (allX ns)).map .str)) else none) = _
  rw [strs_map, Option.bind_some, if_pos (by rw [List.length_map]; exact h)]
  have e2 : allX (l.map T) = (l.foldl putN []).map T := foldN_T l []
  rw [e2, isort_T, List.map_map]; rfl
instance : OpNT sortedSetG (consE (eL eS) nilE) (eW eS) fun a => M.grd (a.1.length + 1 < scanBound) (.ok (setN a.1)) := ⟨fun a => M.sim_grd fun c => sortedSet_strs a.1 c⟩
instance : OpNT sortedSetG (consE (eW eS) nilE) (eW eS) fun a => M.grd (a.1.length + 1 < scanBound) (.ok (setN a.1)) := ⟨fun a => M.sim_grd fun c => sortedSet_strs a.1 c⟩
/-! ### what it is -/
theorem mem_putN {xs : List (List Nat)} {x y : List Nat} : y ∈ putN xs x ↔ y = x ∨ y ∈ xs := by
  unfold putN
  by_cases c : x ∈ xs
  · rw [if_pos c]
    exact ⟨.inr, fun h => h.elim (fun e => e ▸ c) id⟩
  · rw [if_neg c, List.mem_cons]
theorem mem_foldN {y : List Nat} : ∀ (ys xs : List (List Nat)), y ∈ ys.foldl putN xs ↔ y ∈ ys ∨ y ∈ xs
  | [], xs => by simp
  | z :: ys, xs => by
    rw [List.foldl_cons, mem_foldN ys, mem_putN, List.mem_cons]
    exact ⟨fun h => by rcases h with h | h | h <;> simp [h], fun h => by rcases h with (h | h) | h <;> simp [h]⟩
theorem nd_foldN : ∀ (ys xs : List (List Nat)), xs.Nodup → (ys.foldl putN xs).Nodup
  | [], _, h => h
  | z :: ys, xs, h => by
    rw [List.foldl_cons]
    refine nd_foldN ys _ ?_
    unfold putN
    by_cases c : z ∈ xs
    · rw [if_pos c]; exact h
    · rw [if_neg c]; exact List.nodup_cons.mpr ⟨c, h⟩
theorem mem_setN {xs : List (List Nat)} {x : List Nat} : x ∈ setN xs ↔ x ∈ xs := by
  unfold setN
  rw [(isort_perm _).mem_iff, mem_foldN]
  simp
theorem setN_asc (xs : List (List Nat)) : (setN xs).Pairwise (· < ·) := by
  unfold setN
  have h1 := isort_sorted leN_ok (xs.foldl putN [])
  have h2 : (isort leN (xs.foldl putN [])).Nodup := (isort_perm _).nodup_iff.mpr (nd_foldN xs [] List.nodup_nil)
  exact (h1.and h2).imp fun {a b} ⟨h3, h4⟩ => Decidable.byContradiction fun h => h4 (List.le_antisymm (of_decide_eq_true h3) (List.not_lt.mp h))
theorem setN_len {xs : List (List Nat)} : (setN xs).length ≤ xs.length := by
  unfold setN
  rw [(isort_perm _).length_eq]
  have : ∀ (ys zs : List (List Nat)), (ys.foldl putN zs).length ≤ zs.length + ys.length := fun ys => by
    induction ys with
    | nil => intro zs; simp
    | cons y ys ih =>
      intro zs
      have h1 := ih (putN zs y)
      have h2 : (putN zs y).length ≤ zs.length + 1 := by
        unfold putN
        by_cases c : y ∈ zs
        · rw [if_pos c]; omega
        · rw [if_neg c]; simp
      simp only [List.foldl_cons, List.length_cons]
      omega
  simpa using this xs []
end DL

/-! methods of texts, typed -/
namespace DL
open PySem PySem.Spec PyProof.Rows L2
def stripM (x y : List Nat) : M (List Nat) := M.grd (x.length ≤ sizeLine) (.ok (Txt.stripChars (T x) (T y)).cps.toList)
def startsM (x y : List Nat) : M Bool := .ok (Txt.startswith (T x) (T y))
def splitM (x y : List Nat) : M (List (List Nat)) := M.grd ((y.length == 0) = false ∧ x.length + 2 ≤ sizeLine) (.ok ((Txt.split (T x) (T y)).map fun z => z.cps.toList))
instance : Op2T stripD eS eS eS stripM := ⟨fun x y => M.sim_grd fun c => by
  show (if (T x).length ≤ sizeLine then some (D.str (Txt.stripChars (T x) (T y))) else none) = _
  rw [if_pos (by rw [T_len]; exact c)]
  show _ = some (D.str (T _))
  rw [T_of]⟩
instance : Op2T startsD eS eS eB startsM := ⟨fun x y => rfl⟩
instance : Op2T splitD eS eS (eW eS) splitM := ⟨fun x y => M.sim_grd fun c => by
  show (if ((T y).length == 0) = false ∧ (T x).length + 2 ≤ sizeLine then some (D.lst true ((Txt.split (T x) (T y)).map .str)) else none) = _
  rw [if_pos (by rw [T_len, T_len]; exact c)]
  show _ = some (D.lst true (((Txt.split (T x) (T y)).map fun z => z.cps.toList).map eS))
  rw [List.map_map]
  rfl⟩
end DL

/-! str(an int), int(a text), typed -/
namespace DL
open PySem PySem.Spec PyProof.Rows L2
def strM (i : Int) : M (List Nat) := M.grd (i.natAbs.log2 < 1920) (.ok (Str.ofString (toString i)).cps.toList)
def intM (x : List Nat) : M Int := (M.ofO (PySem.intText? (T x))).bind fun n => M.grd (x.length ≤ 640) (.ok n)
instance : OpNT strG (consE eI nilE) eS fun a => strM a.1 := ⟨fun a => M.sim_grd fun c => by
  show (if a.1.natAbs.log2 < 1920 then some (D.str (toString a.1)) else none) = some (D.str (T _))
  rw [if_pos c, T_of]⟩
instance : OpNT intSG (consE eS nilE) eI fun a => intM a.1 := ⟨fun a => by
  unfold intM
  rw [M.sim_bind]
  refine M.sim_ofO fun n hn => M.sim_grd fun c => ?_
  show ((PySem.intText? (T a.1)).bind fun n => if (T a.1).length ≤ 640 then some (D.int n) else none) = _
  rw [hn, Option.bind_some, if_pos (by rw [T_len]; exact c)]; rfl⟩
end DL

/-! sorted(set(a tuple of ints)), typed -/
namespace DL
open PySem PySem.Spec PyProof.Rows L2
instance : OpNT sortedSetIG (consE (eTL eI) nilE) (eW eI) fun a => M.grd (a.1.length < 64) (.ok (setI a.1)) := ⟨fun a => M.sim_grd fun c => by
  show ((intsD (a.1.map eI)).bind fun ns => if ns.length < 64 then some (D.lst true ((setI ns).map .int)) else none) = _
  rw [intsD_e, Option.bind_some, if_pos c]; rfl⟩
end DL

/-! methods of texts with several arguments, typed -/
namespace DL
open PySem PySem.Spec PyProof.Rows L2
section
variable {A γ : Type} {p : Pat}
theorem xp_mA {g : List D → Option D} {es : A → List D} {eg : γ → D} {op : List Nat × A → M γ} [o : OpNT g (consE eS es) eg op] {fo : FO} {fs : FLs} {n : Option Nat} {ns : List (Option Nat)} {t : M (List Nat)} {ta : M A} (ho : XO p fo n eS t) (ha : XA p fs ns es ta) : XP p (fMA g fo fs) eg (t.bind fun z => ta.bind fun a => op (z, a)) := by
  intro ρ hf
  rw [M.sim_bind]
  refine (ho ρ hf).imp (fun z ⟨ar, ρ1, e1, f1, o1⟩ => ?_) fun x ⟨ρ1, e1, f1⟩ => ⟨ρ1, by unfold fMA; rw [e1]; rfl, f1⟩
  have r1 : res ar ρ1 = some (.str (T z)) := o1.res f1
  rw [M.sim_bind]
  refine (ha ρ1 f1).imp (fun a ⟨as, ρ2, e2, f2, o2⟩ => ?_) fun x ⟨ρ2, e2, f2⟩ => ⟨ρ2, by unfold fMA; rw [e1]; simp only [DL.R.bind_ok, r1, e2, DL.R.bind_exc], f2⟩
  refine (o.run (z, a)).imp (fun c hc => ⟨ρ2, ?_, f2⟩) fun _ h => h.elim
  have hc : g (.str (T z) :: es a) = some (eg c) := hc
  unfold fMA; rw [e1]
  simp only [DL.R.bind_ok, r1, e2, o2.ress f2, hc, DL.R.of_some]
end
instance : OpNT starts3G (consE eS (consE eS (consE eI nilE))) eB fun a => .ok (Txt.startswith3 (T a.1) (T a.2.1) a.2.2.1) := ⟨fun a => rfl⟩
end DL

/-! typed: sorted of rows, tuples of unlike things cut -/
namespace DL
open PySem PySem.Spec PyProof.Rows L2
section
variable {α β γ δ κ χ : Type} {p : Pat} {i j : Nat} {ej : χ → D} {s : χ}
theorem xe_and {f g : FE} {t : M (Bool × χ)} {u : χ → M (Bool × χ)} (h : XE p f eB j ej t) (h2 : ∀ s, XE (pset p j (some (ej s))) g eB j ej (u s)) : XE p (fAndV f g) eB j ej (t.bind fun b => if b.1 then u b.2 else .ok (false, b.2)) := by
  intro ρ hf
  rw [M.sim_bind]
  refine (h ρ hf).imp (fun a ⟨ρ', e1, f1⟩ => ?_) fun x ⟨ρ', e1⟩ => ⟨ρ', by unfold fAndV; rw [e1]; rfl⟩
  obtain ⟨a, s⟩ := a
  cases a with
  | true => exact (h2 s ρ' f1).imp (fun b ⟨ρ2, e2, f2⟩ => ⟨ρ2, by unfold fAndV; rw [e1]; exact e2, by rw [← pset_pset]; exact f2⟩) fun x ⟨ρ2, e2⟩ => ⟨ρ2, by unfold fAndV; rw [e1]; exact e2⟩
  | false => exact ⟨ρ', by unfold fAndV; rw [e1]; rfl, f1⟩
theorem xe_or {f g : FE} {t : M (Bool × χ)} {u : χ → M (Bool × χ)} (h : XE p f eB j ej t) (h2 : ∀ s, XE (pset p j (some (ej s))) g eB j ej (u s)) : XE p (fOrV f g) eB j ej (t.bind fun b => if b.1 then .ok (true, b.2) else u b.2) := by
  intro ρ hf
  rw [M.sim_bind]
  refine (h ρ hf).imp (fun a ⟨ρ', e1, f1⟩ => ?_) fun x ⟨ρ', e1⟩ => ⟨ρ', by unfold fOrV; rw [e1]; rfl⟩
  obtain ⟨a, s⟩ := a
  cases a with
  | false => exact (h2 s ρ' f1).imp (fun b ⟨ρ2, e2, f2⟩ => ⟨ρ2, by unfold fOrV; rw [e1]; exact e2, by rw [← pset_pset]; exact f2⟩) fun x ⟨ρ2, e2⟩ => ⟨ρ2, by unfold fOrV; rw [e1]; exact e2⟩
  | true => exact ⟨ρ', by unfold fOrV; rw [e1]; rfl, f1⟩
/-- a thing that is a row of ints and texts, of a shape -/
class RowE (sh : Nat → Bool) (e : α → D) (k : outParam (α → List It)) (ok : outParam (α → Bool)) : Prop where
  enc : ∀ a, e a = encRow (k a)
  okr : ∀ a, ok a = rowOk sh (k a)
theorem insL_by {le : β → β → Bool} {k : α → β} (a : α) : ∀ l : List α, insL le (k a) (l.map k) = (insL (fun x y => le (k x) (k y)) a l).map k
  | [] => rfl
  | b :: l => by
    rw [List.map_cons]
    unfold insL
    by_cases c : le (k a) (k b) = true
    · rw [if_pos c, if_pos c]; rfl
    · rw [if_neg c, if_neg c, insL_by a l]; rfl
theorem isort_by {le : β → β → Bool} {k : α → β} : ∀ l : List α, isort le (l.map k) = (isort (fun x y => le (k x) (k y)) l).map k
  | [] => rfl
  | a :: l => by
    rw [List.map_cons]
    unfold isort
    rw [isort_by l, insL_by]
def leBy (k : α → List It) (a b : α) : Bool := leT (k a) (k b)
theorem sortedT_rows {sh : Nat → Bool} {e : α → D} {k : α → List It} {ok : α → Bool} [h : RowE sh e k ok] {m : Bool} (l : List α) (hl : l.all ok = true) : sortedTG sh [.lst m (l.map e)] = some (eW e (isort (leBy k) l)) := by
  have e1 : l.map e = (l.map k).map encRow := by
    rw [List.map_map]; exact List.map_congr_left fun a _ => h.enc a
  show (rowsOf sh (l.map e)).map _ = _
  rw [e1, rows_of (fun r hr => ?_)]
  · show some (D.lst true ((isort leT (l.map k)).map encRow)) = some (.lst true ((isort (leBy k) l).map e))
    rw [isort_by, List.map_map]
    congr 2
    exact List.map_congr_left fun a _ => (h.enc a).symm
  · obtain ⟨a, ha, rfl⟩ := List.mem_map.mp hr
    rw [← h.okr]
    exact List.all_eq_true.mp hl a ha
instance (priority := low) {sh : Nat → Bool} {e : α → D} {k : α → List It} {ok : α → Bool} [h : RowE sh e k ok] : OpNT (sortedTG sh) (consE (eW e) nilE) (eW e) fun a => .grd (a.1.all ok = true) (.ok (isort (leBy k) a.1)) := ⟨fun a => M.sim_grd fun c => sortedT_rows a.1 c⟩
instance (priority := low) {sh : Nat → Bool} {e : α → D} {k : α → List It} {ok : α → Bool} [h : RowE sh e k ok] : OpNT (sortedTG sh) (consE (eL e) nilE) (eW e) fun a => .grd (a.1.all ok = true) (.ok (isort (leBy k) a.1)) := ⟨fun a => M.sim_grd fun c => sortedT_rows a.1 c⟩
def kIS (a : Int × List Nat) : List It := [.inl a.1, .inr (T a.2)]
def kSS (a : List Nat × List Nat) : List It := [.inr (T a.1), .inr (T a.2)]
def kIs (a : List Int) : List It := a.map .inl
def kSs (a : List (List Nat)) : List It := a.map fun s => .inr (T s)
instance : RowE shIS (eT2 eI eS) kIS fun _ => true := ⟨fun _ => rfl, fun _ => rfl⟩
instance : RowE shS (eT2 eS eS) kSS fun _ => true := ⟨fun _ => rfl, fun _ => rfl⟩
theorem shOk_ints : ∀ (l : List Int) (i : Nat), shOk shI i (l.map .inl) = true
  | [], _ => rfl
  | _ :: l, i => by show (!false && shOk shI (i + 1) (l.map .inl)) = true; rw [shOk_ints l]; rfl
instance : RowE shI (eTL eI) kIs fun a => !a.isEmpty := ⟨fun a => by
    show D.tup (a.map eI) = .tup ((a.map Sum.inl).map encIt)
    rw [List.map_map]; rfl, fun a => by
    unfold rowOk kIs
    rw [shOk_ints, Bool.and_true]
    cases a <;> rfl⟩
class LenE (e : α → D) (op : outParam (α → Int)) : Prop where
  run : ∀ a, lenG [e a] = some (.int (op a))
instance {e : α → D} : LenE (eL e) fun a => (a.length : Int) := ⟨fun a => by show some (D.int _) = _; rw [List.length_map]⟩
instance {e : α → D} : LenE (eW e) fun a => (a.length : Int) := ⟨fun a => by show some (D.int _) = _; rw [List.length_map]⟩
instance {e : α → D} : LenE (eTL e) fun a => (a.length : Int) := ⟨fun a => by show some (D.int _) = _; rw [List.length_map]⟩
/-- range(len(e)) -/
theorem xi_rangeL {e : α → D} {op : α → Int} [o : LenE e op] {fa : FO} {n : Option Nat} {t : M α} (h : XO p fa n e t) : XI p (fRange1 (fVal (fCallB lenG (fCons fa fNil)))) eI (t.bind fun a => range1 (op a)) := by
  intro ρ hf
  rw [M.sim_bind]
  refine (h ρ hf).imp (fun x ⟨a, ρ1, e1, f1, o1⟩ => M.sim_grd fun c => ⟨ρ1, ?_, f1⟩) fun x ⟨ρ1, e1, f1⟩ => ⟨ρ1, by unfold fRange1 fVal fCallB fCons; rw [e1]; rfl, f1⟩
  have e2 : fCallB lenG (fCons fa fNil) ρ = .ok (.int (op x)) ρ1 := by
    unfold fCallB fCons
    rw [e1]
    show liftN lenG [a] ρ1 = _
    unfold liftN
    rw [show ress [a] ρ1 = some [e x] by unfold ress; rw [o1.res f1]; rfl]
    show R.of (lenG [e x]) ρ1 = _
    rw [o.run x]; rfl
  unfold fRange1 fVal
  rw [e2]
  simp only [R.bind_ok, res, if_pos c, range_enc]
/-- e[1:] of a tuple of unlike things -/
class Sl1K {γ : outParam Type} (e : α → D) (eg : outParam (γ → D)) (op : outParam (α → γ)) : Prop where
  run : ∀ a, slD (e a) (some 1) none = some (eg (op a))
theorem slT_1 {x : D} {xs : List D} (h : D.isFL (x :: xs) = true) : slD (.tup (x :: xs)) (some 1) none = some (.tup xs) := by
  rw [sl_tup h, show cutL (x :: xs) (some 1) none = (x :: xs).drop 1 from cutL_n_ _ 1]; rfl
instance {a : α → D} {b : β → D} {c : γ → D} [h : Frz a] [h' : Frz b] [h2 : Frz c] : Sl1K (eT3 a b c) (eT2 b c) fun x => (x.2.1, x.2.2) := ⟨fun x => slT_1 (Frz.f (e := eT3 a b c) x)⟩
instance {a : α → D} {b : β → D} {c : γ → D} {d : δ → D} [h : Frz a] [h' : Frz b] [h2 : Frz c] [h3 : Frz d] : Sl1K (eT4 a b c d) (eT3 b c d) fun x => (x.2.1, x.2.2.1, x.2.2.2) := ⟨fun x => slT_1 (Frz.f (e := eT4 a b c d) x)⟩
theorem xp_sl1K {e : α → D} {eg : γ → D} {op : α → γ} [o : Sl1K e eg op] {fa : FO} {n : Option Nat} {ta : M α} (ha : XO p fa n e ta) : XP p (fSl fa (some (fVal (fC (.int 1)))) none) eg (ta.bind fun x => .ok (op x)) := by
  intro ρ hf
  rw [M.sim_bind]
  refine (ha ρ hf).imp (fun x ⟨a, ρ1, e1, f1, o1⟩ => ⟨ρ1, ?_, f1⟩) fun x ⟨ρ1, e1, f1⟩ => ⟨ρ1, by unfold fSl; rw [e1]; rfl, f1⟩
  unfold fSl; rw [e1]
  simp only [R.bind_ok, show prt (some (fVal (fC (.int 1)))) ρ1 = .ok (some 1) ρ1 from rfl, show prt none ρ1 = .ok none ρ1 from rfl, o1.res f1, o.run x, R.of_some]
end
end DL

/-! more of what has a repr -/
namespace DL
open PySem
theorem Sh.str {l : List Nat} (h : ∀ c ∈ l, c < 16 ^ 8) : Sh (eS l) l.length 0 := by
  refine ⟨.str (T l), rfl, rfl, ?_, ?_, Nat.le_refl _⟩
  · show ((T l).cps.toList.all fun c => decide (c < 16 ^ 8)) = true
    rw [T_cps]
    exact List.all_eq_true.mpr fun c hc => decide_eq_true (h c hc)
  · show (T l).length ≤ _
    rw [T_len]
    exact Nat.le_refl _
/-- a list of unlike things -/
theorem Sh.mixed {b k : Nat} {xs : List D} (h : ∀ d ∈ xs, d.isF = true ∧ Sh d b k) : Sh (DL.eL eA xs) (xs.length * (b + 1)) (k + 1) := by
  refine Sh.eL fun d hd => ?_
  show Sh d.frz b k
  rw [D.frz_of (h d hd).1]
  exact (h d hd).2
end DL

/-! typed: tuple(zip(a, b)) of two owned lists -/
namespace DL
open PySem PySem.Spec PyProof.Rows L2
section
variable {α β : Type} {p : Pat}
theorem zw_enc {e : α → D} {e' : β → D} : ∀ (xs : List α) (ys : List β), List.zipWith (fun x y => D.tup [x, y]) (xs.map e) (ys.map e') = (xs.zip ys).map (eT2 e e')
  | [], _ => rfl
  | _ :: _, [] => rfl
  | x :: xs, y :: ys => by
    show D.tup [e x, e' y] :: List.zipWith _ (xs.map e) (ys.map e') = _
    rw [zw_enc xs ys]; rfl
theorem xr_mtz (i j : Nat) {m : D} {e : α → D} {e' : β → D} {xs : List α} {ys : List β} [h1 : Frz e] [h2 : Frz e'] (hi : pget p (i + 1) = some (eW e xs)) (hj : pget p (j + 1) = some (eW e' ys)) (g0 : pget p 0 = some (eR m)) (hij : i ≠ j) :
    XR p (fTupZip (fName (i + 1)) (fName (j + 1))) (rM (eTL (eT2 e e'))) (M.grd (min xs.length ys.length ≤ sizeLine) (.ok (xs.zip ys, m))) := fun ρ hf => M.sim_grd fun c => by
  have e1 : fName (i + 1) ρ = .ok (eL e xs) (ρ.set (i + 1) (some (eL e xs))) := by
    unfold fName
    rw [hf.get hi]
    show R.ok (eW e xs).frz (ρ.set (i + 1) (some (eW e xs).frz)) = _
    rw [eW_frz]
  have f1 := hf.put (i + 1) (d := eL e xs)
  have e2 : fName (j + 1) (ρ.set (i + 1) (some (eL e xs))) = .ok (eL e' ys) ((ρ.set (i + 1) (some (eL e xs))).set (j + 1) (some (eL e' ys))) := by
    unfold fName
    rw [f1.get (show pget (pset p (i + 1) (some (eL e xs))) (j + 1) = _ by rw [pget_ne (by omega)]; exact hj)]
    show R.ok (eW e' ys).frz (List.set _ (j + 1) (some (eW e' ys).frz)) = _
    rw [eW_frz]
  have f2 := f1.put (j + 1) (d := eL e' ys)
  refine ⟨eTL (eT2 e e') (xs.zip ys), _, ?_, rfl, f2.get (by rw [pget_ne (by omega), pget_ne (by omega)]; exact g0)⟩
  unfold fTupZip
  rw [e1]
  simp only [R.bind_ok, e2]
  have i1 : itemsQ (eL e xs) = some (xs.map e) := itemsQ_lst (h1.l xs)
  have i2 : itemsQ (eL e' ys) = some (ys.map e') := itemsQ_lst (h2.l ys)
  rw [i1, i2]
  simp only [List.length_map]
  rw [if_pos c, zw_enc]; rfl
end
end DL

/-! ### the draws of the laws 87 to 94 -/
namespace DrD
open DL
open PySem L2
abbrev fuelB : Nat := 1000000
theorem mulA_i {i j : Int} : mulA (.int i) (.int j) = mulD (.int i) (.int j) := rfl
theorem listAG_l {m : Bool} {xs : List D} : listAG [.lst m xs] = listG [.lst m xs] := rfl
def bB_begun : FS := fSeq (fSet 1 (fFz (fBin addD (fVal (fCallB listAG (fCons (fLoc 0) (fNil)))) (fVal (fCallB lstG (fCons (fVal (fC (.int 29))) (fNil))))))) (fRet (fDisp [(.inr "cells", fName 1), (.inr "great", fLc [2] (fIter (fName 0)) (gSet 2) (fTst (fBin (geD) (fLoc 2) (fVal (fBin powD (fVal (fC (.int 10))) (fVal (fC (.int 18))))))) (fName 2)), (.inr "turn", fC (.int 0)), (.inr "sum", fCallB lenG (fCons (fLoc 1) (fNil)))]))
def gB_begun : List D → GR := GF 1 3 false bB_begun
def bB_next : FS := fSeq (fAsg (gStD 0 (fVal (fC (.str "turn")))) (fBin addD (fVal (fDGet 0 (fVal (fC (.str "turn"))))) (fVal (fC (.int 1))))) (fSeq (whileF (fAndT (fTst (fPk (eqD true) 0 (.inr "great") (fun _ => some (.lst true [])))) (fTst (fBin (eqD false) (fVal (fPk ixD 0 (.inr "great") (fun _ => some (.int 0)))) (fVal (fC (.int 0)))))) (fAsg (gStD 0 (fVal (fC (.str "great")))) (fPkSl 0 (.inr "great") (some 1) none)) fuelB) (fSeq (fIfS (fTst (fPk (eqD true) 0 (.inr "great") (fun _ => some (.lst true [])))) (fSeq (fAsg (gTupF 2 (gsCons (gSet 2) (gsCons (gNest 0 (.inr "great") (fun _ => some (.int 0))) (gsNil)))) (fCallB tupG (fCons (fVal (fFz (fBin modD (fVal (fCallB intG (fCons (fVal (fPk ixD 0 (.inr "great") (fun _ => some (.int 0)))) (fNil)))) (fLoc 1)))) (fCons (fVal (fFz (fBin fdivD (fVal (fCallB intG (fCons (fVal (fPk ixD 0 (.inr "great") (fun _ => some (.int 0)))) (fNil)))) (fLoc 1)))) (fNil))))) (fRet (fMove 2))) (fNx)) (fSeq (fSet 3 (fFz (fBin ixD (fVal (fDGet 0 (fVal (fC (.str "cells"))))) (fVal (fBin modD (fVal (fCallB intG (fCons (fVal (fDGet 0 (fVal (fC (.str "turn"))))) (fNil)))) (fVal (fCallB lenG (fCons (fVal (fDGet 0 (fVal (fC (.str "cells"))))) (fNil))))))))) (fSeq (fAsg (gStD 0 (fVal (fC (.str "sum")))) (fBin modD (fVal (fCallB intG (fCons (fVal (fBin addD (fVal (fBin addD (fVal (fBin mulA (fVal (fDGet 0 (fVal (fC (.str "sum"))))) (fVal (fC (.int 75364))))) (fVal (fBin modD (fVal (fCallB intG (fCons (fLoc 3) (fNil)))) (fVal (fC (.int 2147483587))))))) (fVal (fBin mulA (fVal (fC (.int 977))) (fVal (fDGet 0 (fVal (fC (.str "turn"))))))))) (fNil)))) (fVal (fC (.int 4294967291))))) (fRet (fBin modD (fVal (fBin fdivD (fVal (fBin modD (fVal (fCallB intG (fCons (fVal (fBin addD (fVal (fBin mulA (fVal (fDGet 0 (fVal (fC (.str "sum"))))) (fVal (fC (.int 40692))))) (fVal (fDGet 0 (fVal (fC (.str "turn"))))))) (fNil)))) (fVal (fC (.int 4294967279))))) (fVal (fC (.int 128))))) (fLoc 1)))))))
def gB_next : List D → GR := GF 2 4 true bB_next
def kB : List Key := [.inr "cells", .inr "great", .inr "turn", .inr "sum"]
theorem kB_c : kIx kB (.inr "cells") = some 0 := by decide +kernel
theorem kB_g : kIx kB (.inr "great") = some 1 := by decide +kernel
theorem kB_t : kIx kB (.inr "turn") = some 2 := by decide +kernel
theorem kB_s : kIx kB (.inr "sum") = some 3 := by decide +kernel
theorem kB_nd : kB.Nodup ∧ kB.length < sizeLine := by decide +kernel
theorem putB_g {a b c d x : D} : putD kB [a, b, c, x] (.inr "great") d = some (kB, [a, d, c, x]) := by
  unfold putD; rw [if_pos kB_nd, kB_g]; rfl
theorem putB_t {a b c d x : D} : putD kB [a, b, c, x] (.inr "turn") d = some (kB, [a, b, d, x]) := by
  unfold putD; rw [if_pos kB_nd, kB_t]; rfl
theorem putB_s {a b c d x : D} : putD kB [a, b, c, x] (.inr "sum") d = some (kB, [a, b, c, d]) := by
  unfold putD; rw [if_pos kB_nd, kB_s]; rfl
def mB (cm : Bool) (cs gs : List Int) (k u : Int) : D := .dic true kB [.lst cm (cs.map .int), .lst true (gs.map .int), .int k, .int u]
def DrB (n : Nat) (m : D) : Prop := ∃ cm cs gs k u, m = mB cm cs gs k u ∧ 0 ≤ k ∧ k ≤ n ∧ gs.length ≤ 63 ∧ 0 < cs.length
theorem cut1 (gs : List Int) : slD (.lst true (gs.map D.int)) (some 1) none = some (.lst true (gs.tail.map D.int)) := by
  show (if D.isFL (gs.map D.int) = true then some (D.lst true (cutL (gs.map D.int) (some 1) none)) else none) = _
  rw [if_pos (isFL_int gs), show cutL (gs.map D.int) (some 1) none = (gs.map D.int).drop 1 from cutL_n_ _ 1, ← List.map_drop, List.drop_one]
section
variable {t : Int} {a b c : Option D}
theorem whileB (cm : Bool) (cs : List Int) (k u : Int) : ∀ (gs : List Int) (n : Nat), gs.length < n → whileF (fAndT (fTst (fPk (eqD true) 0 (.inr "great") (fun _ => some (.lst true [])))) (fTst (fBin (eqD false) (fVal (fPk ixD 0 (.inr "great") (fun _ => some (.int 0)))) (fVal (fC (.int 0)))))) (fAsg (gStD 0 (fVal (fC (.str "great")))) (fPkSl 0 (.inr "great") (some 1) none)) n [some (mB cm cs gs k u), a, b, c] = .nx [some (mB cm cs (gs.dropWhile (· = 0)) k u), a, b, c] := by
  intro gs
  induction gs with
  | nil =>
    intro n hn
    obtain ⟨n, rfl⟩ : ∃ n', n = n' + 1 := ⟨n - 1, by simp at hn; omega⟩
    refine whileF_f ?_
    have e := @eq_nil_ints true true true []
    simp only [List.map_nil, if_true, List.isEmpty_nil, Bool.not_true] at e
    simp -implicitDefEqProofs only [slot_0, slot_n, slot_s, res_v, res_l, ev_C, ev_Name, ev_Name1, ev_Move, ev_Move1, ev_Loc, ev_Loc1, ev_Val, ev_Val1, ev_Fz, ev_Fz1, ev_l2, ev_l21, ev_l1, ev_l11, ev_Bin, ev_Bin1, ev_Un, ev_Tst, ev_asB, ev_NotT, ev_NotT1, ev_AndT, ev_AndT1, ev_OrT, ev_OrT1, ev_AndV, ev_AndV1, ev_OrV, ev_OrV1, ev_NotV, ev_NotV1, ev_If, ev_If1, ev_Ch, ev_Ch1, ev_Ch2, ev_Ch3, ev_Nil, ev_Cons, ev_Cons1, ev_Cons2, oc_s, ress_0, ress_s, ocF_s, resF_0, resF_s, ev_lN, ev_lN1, ev_CallB, kRet_ok, ev_Call, ev_Call1, ev_Call2, kRetM_ok, ev_CallM, ev_CallM1, ev_CallM2, ev_M1, ev_M11, ev_M12, ev_M13, ev_M14, ev_Pk, ev_Pk1, ev_PkSl, ev_PkSl1, ev_pk, ev_pk1, prt_n, prt_s, prt_1, prt_2, ev_Sl, ev_Sl0, ev_Sl1, ev_Sl2, ev_Sl3, ev_DG, ev_DGs, ev_DG0, ev_DG1, ev_DG2, ev_DG3, ev_DG4, ev_P0, ev_P1, ev_P2, ev_P3, ev_Disp, ev_Disp1, ev_Lc, ev_Lc1, ev_Lc2, ev_Yes, wipe_0, wipe_s, rest_0, rest_s, ev_Iter, ev_Iter1, ev_Enum, ev_Enum1, ev_Zip, ev_Zip1, ev_Zip2, ev_Zip3, ev_Rg, ev_Rg0, ev_Rg1, ev_Rh, ev_Rh0, ev_Rh1, ev_Rh2, ev_gS, ev_gN, ev_gC, ev_gT, ev_StL, ev_StL1, ev_StL2, ev_StD, ev_StD1, ev_StD2, ev_Seq, seq_nx, seq_rt, seq_bk, seq_ct, ev_Nx, ev_Set, ev_Set1, ev_Drop, ev_Drop1, ev_Ret, ev_IfS, ev_IfS1, ev_Asg, ev_Asg1, ofS_some, ev_Par, ev_Par1, ev_Par2, ev_Tri, ev_Tri1, ev_Tri2, ev_Tri3, ev_Aug, ev_Aug1, ev_Aug2, ev_Aug3, ev_For, nox_lc, R.bind_ok, R.bindS_ok, R.of_some, List.set_cons_zero, List.set_cons_succ, if_true, Bool.false_eq_true, if_false, Bool.not_true, Bool.not_false, Option.bind_some, Option.map_some, ev_Nest, ev_Nest1, lst_nil, frz_int, frz_str, frz_bl, frz_lst, frzL_int, frzL_str, frz_non, frz_tup, frzL_cons, frzL_nil, isF_tup, isFL_cons, isFL_nil, Bool.and_true, Bool.true_and, Bool.and_self, ev_App, ev_App0, ev_App1, isF_int, isF_str, isF_bl, isF_lst, isFL_int, isFL_str, isF_non, isF_opq, fin_rt, fin_nx, endG_f, endG_t, D.key, mB, kB_g, List.getElem?_cons_zero, List.getElem?_cons_succ, List.map_nil, e, List.dropWhile_nil]
  | cons g gs ih =>
    intro n hn
    obtain ⟨n, rfl⟩ : ∃ n', n = n' + 1 := ⟨n - 1, by simp at hn; omega⟩
    have e := @eq_nil_ints true true true (g :: gs)
    simp only [if_true, List.isEmpty_cons, Bool.not_false] at e
    have e1 : ixD (.lst true ((g :: gs).map D.int)) (.int 0) = some (.int g) := ix_int (j := 0) rfl
    by_cases hg : g = 0
    · subst hg
      rw [List.dropWhile_cons, if_pos (by decide)]
      refine (whileF_t (ρ1 := [some (mB cm cs (0 :: gs) k u), a, b, c]) (ρ2 := [some (mB cm cs gs k u), a, b, c]) ?_ ?_).trans (ih n (by simp at hn; omega))
      · simp -implicitDefEqProofs only [slot_0, slot_n, slot_s, res_v, res_l, ev_C, ev_Name, ev_Name1, ev_Move, ev_Move1, ev_Loc, ev_Loc1, ev_Val, ev_Val1, ev_Fz, ev_Fz1, ev_l2, ev_l21, ev_l1, ev_l11, ev_Bin, ev_Bin1, ev_Un, ev_Tst, ev_asB, ev_NotT, ev_NotT1, ev_AndT, ev_AndT1, ev_OrT, ev_OrT1, ev_AndV, ev_AndV1, ev_OrV, ev_OrV1, ev_NotV, ev_NotV1, ev_If, ev_If1, ev_Ch, ev_Ch1, ev_Ch2, ev_Ch3, ev_Nil, ev_Cons, ev_Cons1, ev_Cons2, oc_s, ress_0, ress_s, ocF_s, resF_0, resF_s, ev_lN, ev_lN1, ev_CallB, kRet_ok, ev_Call, ev_Call1, ev_Call2, kRetM_ok, ev_CallM, ev_CallM1, ev_CallM2, ev_M1, ev_M11, ev_M12, ev_M13, ev_M14, ev_Pk, ev_Pk1, ev_PkSl, ev_PkSl1, ev_pk, ev_pk1, prt_n, prt_s, prt_1, prt_2, ev_Sl, ev_Sl0, ev_Sl1, ev_Sl2, ev_Sl3, ev_DG, ev_DGs, ev_DG0, ev_DG1, ev_DG2, ev_DG3, ev_DG4, ev_P0, ev_P1, ev_P2, ev_P3, ev_Disp, ev_Disp1, ev_Lc, ev_Lc1, ev_Lc2, ev_Yes, wipe_0, wipe_s, rest_0, rest_s, ev_Iter, ev_Iter1, ev_Enum, ev_Enum1, ev_Zip, ev_Zip1, ev_Zip2, ev_Zip3, ev_Rg, ev_Rg0, ev_Rg1, ev_Rh, ev_Rh0, ev_Rh1, ev_Rh2, ev_gS, ev_gN, ev_gC, ev_gT, ev_StL, ev_StL1, ev_StL2, ev_StD, ev_StD1, ev_StD2, ev_Seq, seq_nx, seq_rt, seq_bk, seq_ct, ev_Nx, ev_Set, ev_Set1, ev_Drop, ev_Drop1, ev_Ret, ev_IfS, ev_IfS1, ev_Asg, ev_Asg1, ofS_some, ev_Par, ev_Par1, ev_Par2, ev_Tri, ev_Tri1, ev_Tri2, ev_Tri3, ev_Aug, ev_Aug1, ev_Aug2, ev_Aug3, ev_For, nox_lc, R.bind_ok, R.bindS_ok, R.of_some, List.set_cons_zero, List.set_cons_succ, if_true, Bool.false_eq_true, if_false, Bool.not_true, Bool.not_false, Option.bind_some, Option.map_some, ev_Nest, ev_Nest1, lst_nil, frz_int, frz_str, frz_bl, frz_lst, frzL_int, frzL_str, frz_non, frz_tup, frzL_cons, frzL_nil, isF_tup, isFL_cons, isFL_nil, Bool.and_true, Bool.true_and, Bool.and_self, ev_App, ev_App0, ev_App1, isF_int, isF_str, isF_bl, isF_lst, isFL_int, isFL_str, isF_non, isF_opq, fin_rt, fin_nx, endG_f, endG_t, D.key, mB, kB_g, List.getElem?_cons_zero, List.getElem?_cons_succ, e, e1, eq_int, decide_true]
      · have e2 := cut1 (0 :: gs)
        simp -implicitDefEqProofs only [slot_0, slot_n, slot_s, res_v, res_l, ev_C, ev_Name, ev_Name1, ev_Move, ev_Move1, ev_Loc, ev_Loc1, ev_Val, ev_Val1, ev_Fz, ev_Fz1, ev_l2, ev_l21, ev_l1, ev_l11, ev_Bin, ev_Bin1, ev_Un, ev_Tst, ev_asB, ev_NotT, ev_NotT1, ev_AndT, ev_AndT1, ev_OrT, ev_OrT1, ev_AndV, ev_AndV1, ev_OrV, ev_OrV1, ev_NotV, ev_NotV1, ev_If, ev_If1, ev_Ch, ev_Ch1, ev_Ch2, ev_Ch3, ev_Nil, ev_Cons, ev_Cons1, ev_Cons2, oc_s, ress_0, ress_s, ocF_s, resF_0, resF_s, ev_lN, ev_lN1, ev_CallB, kRet_ok, ev_Call, ev_Call1, ev_Call2, kRetM_ok, ev_CallM, ev_CallM1, ev_CallM2, ev_M1, ev_M11, ev_M12, ev_M13, ev_M14, ev_Pk, ev_Pk1, ev_PkSl, ev_PkSl1, ev_pk, ev_pk1, prt_n, prt_s, prt_1, prt_2, ev_Sl, ev_Sl0, ev_Sl1, ev_Sl2, ev_Sl3, ev_DG, ev_DGs, ev_DG0, ev_DG1, ev_DG2, ev_DG3, ev_DG4, ev_P0, ev_P1, ev_P2, ev_P3, ev_Disp, ev_Disp1, ev_Lc, ev_Lc1, ev_Lc2, ev_Yes, wipe_0, wipe_s, rest_0, rest_s, ev_Iter, ev_Iter1, ev_Enum, ev_Enum1, ev_Zip, ev_Zip1, ev_Zip2, ev_Zip3, ev_Rg, ev_Rg0, ev_Rg1, ev_Rh, ev_Rh0, ev_Rh1, ev_Rh2, ev_gS, ev_gN, ev_gC, ev_gT, ev_StL, ev_StL1, ev_StL2, ev_StD, ev_StD1, ev_StD2, ev_Seq, seq_nx, seq_rt, seq_bk, seq_ct, ev_Nx, ev_Set, ev_Set1, ev_Drop, ev_Drop1, ev_Ret, ev_IfS, ev_IfS1, ev_Asg, ev_Asg1, ofS_some, ev_Par, ev_Par1, ev_Par2, ev_Tri, ev_Tri1, ev_Tri2, ev_Tri3, ev_Aug, ev_Aug1, ev_Aug2, ev_Aug3, ev_For, nox_lc, R.bind_ok, R.bindS_ok, R.of_some, List.set_cons_zero, List.set_cons_succ, if_true, Bool.false_eq_true, if_false, Bool.not_true, Bool.not_false, Option.bind_some, Option.map_some, ev_Nest, ev_Nest1, lst_nil, frz_int, frz_str, frz_bl, frz_lst, frzL_int, frzL_str, frz_non, frz_tup, frzL_cons, frzL_nil, isF_tup, isFL_cons, isFL_nil, Bool.and_true, Bool.true_and, Bool.and_self, ev_App, ev_App0, ev_App1, isF_int, isF_str, isF_bl, isF_lst, isFL_int, isFL_str, isF_non, isF_opq, fin_rt, fin_nx, endG_f, endG_t, D.key, mB, kB_g, List.getElem?_cons_zero, List.getElem?_cons_succ, e2, D.key, stD, putB_g, List.tail_cons]
    · rw [List.dropWhile_cons, if_neg (by simpa using hg)]
      refine whileF_f ?_
      simp -implicitDefEqProofs only [slot_0, slot_n, slot_s, res_v, res_l, ev_C, ev_Name, ev_Name1, ev_Move, ev_Move1, ev_Loc, ev_Loc1, ev_Val, ev_Val1, ev_Fz, ev_Fz1, ev_l2, ev_l21, ev_l1, ev_l11, ev_Bin, ev_Bin1, ev_Un, ev_Tst, ev_asB, ev_NotT, ev_NotT1, ev_AndT, ev_AndT1, ev_OrT, ev_OrT1, ev_AndV, ev_AndV1, ev_OrV, ev_OrV1, ev_NotV, ev_NotV1, ev_If, ev_If1, ev_Ch, ev_Ch1, ev_Ch2, ev_Ch3, ev_Nil, ev_Cons, ev_Cons1, ev_Cons2, oc_s, ress_0, ress_s, ocF_s, resF_0, resF_s, ev_lN, ev_lN1, ev_CallB, kRet_ok, ev_Call, ev_Call1, ev_Call2, kRetM_ok, ev_CallM, ev_CallM1, ev_CallM2, ev_M1, ev_M11, ev_M12, ev_M13, ev_M14, ev_Pk, ev_Pk1, ev_PkSl, ev_PkSl1, ev_pk, ev_pk1, prt_n, prt_s, prt_1, prt_2, ev_Sl, ev_Sl0, ev_Sl1, ev_Sl2, ev_Sl3, ev_DG, ev_DGs, ev_DG0, ev_DG1, ev_DG2, ev_DG3, ev_DG4, ev_P0, ev_P1, ev_P2, ev_P3, ev_Disp, ev_Disp1, ev_Lc, ev_Lc1, ev_Lc2, ev_Yes, wipe_0, wipe_s, rest_0, rest_s, ev_Iter, ev_Iter1, ev_Enum, ev_Enum1, ev_Zip, ev_Zip1, ev_Zip2, ev_Zip3, ev_Rg, ev_Rg0, ev_Rg1, ev_Rh, ev_Rh0, ev_Rh1, ev_Rh2, ev_gS, ev_gN, ev_gC, ev_gT, ev_StL, ev_StL1, ev_StL2, ev_StD, ev_StD1, ev_StD2, ev_Seq, seq_nx, seq_rt, seq_bk, seq_ct, ev_Nx, ev_Set, ev_Set1, ev_Drop, ev_Drop1, ev_Ret, ev_IfS, ev_IfS1, ev_Asg, ev_Asg1, ofS_some, ev_Par, ev_Par1, ev_Par2, ev_Tri, ev_Tri1, ev_Tri2, ev_Tri3, ev_Aug, ev_Aug1, ev_Aug2, ev_Aug3, ev_For, nox_lc, R.bind_ok, R.bindS_ok, R.of_some, List.set_cons_zero, List.set_cons_succ, if_true, Bool.false_eq_true, if_false, Bool.not_true, Bool.not_false, Option.bind_some, Option.map_some, ev_Nest, ev_Nest1, lst_nil, frz_int, frz_str, frz_bl, frz_lst, frzL_int, frzL_str, frz_non, frz_tup, frzL_cons, frzL_nil, isF_tup, isFL_cons, isFL_nil, Bool.and_true, Bool.true_and, Bool.and_self, ev_App, ev_App0, ev_App1, isF_int, isF_str, isF_bl, isF_lst, isFL_int, isFL_str, isF_non, isF_opq, fin_rt, fin_nx, endG_f, endG_t, D.key, mB, kB_g, List.getElem?_cons_zero, List.getElem?_cons_succ, e, e1, eq_int, hg, decide_false]
end
theorem nextB {n : Nat} {m : D} (h : DrB n m) (hn : n < 2 ^ 40) {t : Int} (ht : 0 < t) (h9 : t.natAbs.log2 < 9000) : ∃ r m', gB_next [m, .int t] = .ok (.int r) [m'] ∧ 0 ≤ r ∧ r < t ∧ DrB (n + 1) m' := by
  obtain ⟨cm, cs, gs, k, u, rfl, hk, hk2, hg, hc⟩ := h
  unfold gB_next
  rw [GF_2]
  unfold bB_next
  rw [ev_Seq]
  have e0 : fAsg (gStD 0 (fVal (fC (.str "turn")))) (fBin addD (fVal (fDGet 0 (fVal (fC (.str "turn"))))) (fVal (fC (.int 1)))) [some (mB cm cs gs k u), some (.int t), none, none] = .nx [some (mB cm cs gs (k + 1) u), some (.int t), none, none] := by
    simp -implicitDefEqProofs only [slot_0, slot_n, slot_s, res_v, res_l, ev_C, ev_Name, ev_Name1, ev_Move, ev_Move1, ev_Loc, ev_Loc1, ev_Val, ev_Val1, ev_Fz, ev_Fz1, ev_l2, ev_l21, ev_l1, ev_l11, ev_Bin, ev_Bin1, ev_Un, ev_Tst, ev_asB, ev_NotT, ev_NotT1, ev_AndT, ev_AndT1, ev_OrT, ev_OrT1, ev_AndV, ev_AndV1, ev_OrV, ev_OrV1, ev_NotV, ev_NotV1, ev_If, ev_If1, ev_Ch, ev_Ch1, ev_Ch2, ev_Ch3, ev_Nil, ev_Cons, ev_Cons1, ev_Cons2, oc_s, ress_0, ress_s, ocF_s, resF_0, resF_s, ev_lN, ev_lN1, ev_CallB, kRet_ok, ev_Call, ev_Call1, ev_Call2, kRetM_ok, ev_CallM, ev_CallM1, ev_CallM2, ev_M1, ev_M11, ev_M12, ev_M13, ev_M14, ev_Pk, ev_Pk1, ev_PkSl, ev_PkSl1, ev_pk, ev_pk1, prt_n, prt_s, prt_1, prt_2, ev_Sl, ev_Sl0, ev_Sl1, ev_Sl2, ev_Sl3, ev_DG, ev_DGs, ev_DG0, ev_DG1, ev_DG2, ev_DG3, ev_DG4, ev_P0, ev_P1, ev_P2, ev_P3, ev_Disp, ev_Disp1, ev_Lc, ev_Lc1, ev_Lc2, ev_Yes, wipe_0, wipe_s, rest_0, rest_s, ev_Iter, ev_Iter1, ev_Enum, ev_Enum1, ev_Zip, ev_Zip1, ev_Zip2, ev_Zip3, ev_Rg, ev_Rg0, ev_Rg1, ev_Rh, ev_Rh0, ev_Rh1, ev_Rh2, ev_gS, ev_gN, ev_gC, ev_gT, ev_StL, ev_StL1, ev_StL2, ev_StD, ev_StD1, ev_StD2, ev_Seq, seq_nx, seq_rt, seq_bk, seq_ct, ev_Nx, ev_Set, ev_Set1, ev_Drop, ev_Drop1, ev_Ret, ev_IfS, ev_IfS1, ev_Asg, ev_Asg1, ofS_some, ev_Par, ev_Par1, ev_Par2, ev_Tri, ev_Tri1, ev_Tri2, ev_Tri3, ev_Aug, ev_Aug1, ev_Aug2, ev_Aug3, ev_For, nox_lc, R.bind_ok, R.bindS_ok, R.of_some, List.set_cons_zero, List.set_cons_succ, if_true, Bool.false_eq_true, if_false, Bool.not_true, Bool.not_false, Option.bind_some, Option.map_some, ev_Nest, ev_Nest1, lst_nil, frz_int, frz_str, frz_bl, frz_lst, frzL_int, frzL_str, frz_non, frz_tup, frzL_cons, frzL_nil, isF_tup, isFL_cons, isFL_nil, Bool.and_true, Bool.true_and, Bool.and_self, ev_App, ev_App0, ev_App1, isF_int, isF_str, isF_bl, isF_lst, isFL_int, isFL_str, isF_non, isF_opq, fin_rt, fin_nx, endG_f, endG_t, D.key, mB, kB_t, List.getElem?_cons_zero, List.getElem?_cons_succ, add_int, stD, putB_t]
  show ∃ r m', GR.fin true (SR.seq (fAsg _ _ [some (mB cm cs gs k u), some (.int t), none, none]) _) = _ ∧ _
  rw [e0, seq_nx, ev_Seq]
  show ∃ r m', GR.fin true (SR.seq (whileF _ _ fuelB [some (mB cm cs gs (k + 1) u), some (.int t), none, none]) _) = _ ∧ _
  rw [whileB cm cs (k + 1) u gs fuelB (by show _ < 1000000; omega), seq_nx]
  have hd : (gs.dropWhile (· = 0)).length ≤ 63 := Nat.le_trans (List.Sublist.length_le (List.dropWhile_sublist _)) hg
  cases e : gs.dropWhile (· = 0) with
  | cons g rest =>
    have e0 := @eq_nil_ints true true true (g :: rest)
    simp only [if_true, List.isEmpty_cons, Bool.not_false] at e0
    have e1 : ixD (.lst true ((g :: rest).map D.int)) (.int 0) = some (.int g) := ix_int (j := 0) rfl
    have e2 : stL (.lst true ((g :: rest).map D.int)) 0 (.int (g / t)) = some (.lst true ((g / t :: rest).map D.int)) := stL_nat (j := 0) (by simp)
    refine ⟨g % t, mB cm cs (g / t :: rest) (k + 1) u, ?_, Int.emod_nonneg _ (by omega), Int.emod_lt_of_pos _ ht, ⟨cm, cs, _, k + 1, u, rfl, by omega, by omega, by rw [e] at hd; simpa using hd, hc⟩⟩
    have et : tupG [.int (g % t), .int (g / t)] = some (.tup [.int (g % t), .int (g / t)]) := rfl
    simp -implicitDefEqProofs only [slot_0, slot_n, slot_s, res_v, res_l, ev_C, ev_Name, ev_Name1, ev_Move, ev_Move1, ev_Loc, ev_Loc1, ev_Val, ev_Val1, ev_Fz, ev_Fz1, ev_l2, ev_l21, ev_l1, ev_l11, ev_Bin, ev_Bin1, ev_Un, ev_Tst, ev_asB, ev_NotT, ev_NotT1, ev_AndT, ev_AndT1, ev_OrT, ev_OrT1, ev_AndV, ev_AndV1, ev_OrV, ev_OrV1, ev_NotV, ev_NotV1, ev_If, ev_If1, ev_Ch, ev_Ch1, ev_Ch2, ev_Ch3, ev_Nil, ev_Cons, ev_Cons1, ev_Cons2, oc_s, ress_0, ress_s, ocF_s, resF_0, resF_s, ev_lN, ev_lN1, ev_CallB, kRet_ok, ev_Call, ev_Call1, ev_Call2, kRetM_ok, ev_CallM, ev_CallM1, ev_CallM2, ev_M1, ev_M11, ev_M12, ev_M13, ev_M14, ev_Pk, ev_Pk1, ev_PkSl, ev_PkSl1, ev_pk, ev_pk1, prt_n, prt_s, prt_1, prt_2, ev_Sl, ev_Sl0, ev_Sl1, ev_Sl2, ev_Sl3, ev_DG, ev_DGs, ev_DG0, ev_DG1, ev_DG2, ev_DG3, ev_DG4, ev_P0, ev_P1, ev_P2, ev_P3, ev_Disp, ev_Disp1, ev_Lc, ev_Lc1, ev_Lc2, ev_Yes, wipe_0, wipe_s, rest_0, rest_s, ev_Iter, ev_Iter1, ev_Enum, ev_Enum1, ev_Zip, ev_Zip1, ev_Zip2, ev_Zip3, ev_Rg, ev_Rg0, ev_Rg1, ev_Rh, ev_Rh0, ev_Rh1, ev_Rh2, ev_gS, ev_gN, ev_gC, ev_gT, ev_StL, ev_StL1, ev_StL2, ev_StD, ev_StD1, ev_StD2, ev_Seq, seq_nx, seq_rt, seq_bk, seq_ct, ev_Nx, ev_Set, ev_Set1, ev_Drop, ev_Drop1, ev_Ret, ev_IfS, ev_IfS1, ev_Asg, ev_Asg1, ofS_some, ev_Par, ev_Par1, ev_Par2, ev_Tri, ev_Tri1, ev_Tri2, ev_Tri3, ev_Aug, ev_Aug1, ev_Aug2, ev_Aug3, ev_For, nox_lc, R.bind_ok, R.bindS_ok, R.of_some, List.set_cons_zero, List.set_cons_succ, if_true, Bool.false_eq_true, if_false, Bool.not_true, Bool.not_false, Option.bind_some, Option.map_some, ev_Nest, ev_Nest1, lst_nil, frz_int, frz_str, frz_bl, frz_lst, frzL_int, frzL_str, frz_non, frz_tup, frzL_cons, frzL_nil, isF_tup, isFL_cons, isFL_nil, Bool.and_true, Bool.true_and, Bool.and_self, ev_App, ev_App0, ev_App1, isF_int, isF_str, isF_bl, isF_lst, isFL_int, isFL_str, isF_non, isF_opq, fin_rt, fin_nx, endG_f, endG_t, D.key, mB, kB_g, List.getElem?_cons_zero, List.getElem?_cons_succ, e0, e1, intG_int, fdiv_int ht h9, mod_int ht, et, e2, List.length_cons, List.length_nil, Nat.zero_add, Nat.reduceAdd, if_true]
  | nil =>
    have e0 := @eq_nil_ints true true true []
    simp only [if_true, List.isEmpty_nil, Bool.not_true, List.map_nil] at e0
    have hk' : (k + 1).natAbs.log2 < 60 := log2_lt_of (by omega) (by omega)
    have hl : (0 : Int) < ((cs.map D.int).length : Nat) := by simpa using hc
    have hm := Int.emod_nonneg (k + 1) (Int.ne_of_gt hl)
    have hm2 := Int.emod_lt_of_pos (k + 1) hl
    obtain ⟨j, hj⟩ := Int.eq_ofNat_of_zero_le hm
    have hj2 : j < cs.length := by rw [hj, List.length_map] at hm2; omega
    have ec : ixD (.lst false (cs.map D.int)) (.int ((j : Nat) : Int)) = some (.int cs[j]) := ix_int (by simp)
    refine ⟨((((u * 75364 + cs[j] % 2147483587 + 977 * (k + 1)) % 4294967291) * 40692 + (k + 1)) % 4294967279 / 128) % t, mB false cs [] (k + 1) ((u * 75364 + cs[j] % 2147483587 + 977 * (k + 1)) % 4294967291), ?_, Int.emod_nonneg _ (Int.ne_of_gt ht), Int.emod_lt_of_pos _ ht, ⟨false, cs, [], k + 1, _, rfl, by omega, by omega, by simp, hc⟩⟩
    simp -implicitDefEqProofs only [slot_0, slot_n, slot_s, res_v, res_l, ev_C, ev_Name, ev_Name1, ev_Move, ev_Move1, ev_Loc, ev_Loc1, ev_Val, ev_Val1, ev_Fz, ev_Fz1, ev_l2, ev_l21, ev_l1, ev_l11, ev_Bin, ev_Bin1, ev_Un, ev_Tst, ev_asB, ev_NotT, ev_NotT1, ev_AndT, ev_AndT1, ev_OrT, ev_OrT1, ev_AndV, ev_AndV1, ev_OrV, ev_OrV1, ev_NotV, ev_NotV1, ev_If, ev_If1, ev_Ch, ev_Ch1, ev_Ch2, ev_Ch3, ev_Nil, ev_Cons, ev_Cons1, ev_Cons2, oc_s, ress_0, ress_s, ocF_s, resF_0, resF_s, ev_lN, ev_lN1, ev_CallB, kRet_ok, ev_Call, ev_Call1, ev_Call2, kRetM_ok, ev_CallM, ev_CallM1, ev_CallM2, ev_M1, ev_M11, ev_M12, ev_M13, ev_M14, ev_Pk, ev_Pk1, ev_PkSl, ev_PkSl1, ev_pk, ev_pk1, prt_n, prt_s, prt_1, prt_2, ev_Sl, ev_Sl0, ev_Sl1, ev_Sl2, ev_Sl3, ev_DG, ev_DGs, ev_DG0, ev_DG1, ev_DG2, ev_DG3, ev_DG4, ev_P0, ev_P1, ev_P2, ev_P3, ev_Disp, ev_Disp1, ev_Lc, ev_Lc1, ev_Lc2, ev_Yes, wipe_0, wipe_s, rest_0, rest_s, ev_Iter, ev_Iter1, ev_Enum, ev_Enum1, ev_Zip, ev_Zip1, ev_Zip2, ev_Zip3, ev_Rg, ev_Rg0, ev_Rg1, ev_Rh, ev_Rh0, ev_Rh1, ev_Rh2, ev_gS, ev_gN, ev_gC, ev_gT, ev_StL, ev_StL1, ev_StL2, ev_StD, ev_StD1, ev_StD2, ev_Seq, seq_nx, seq_rt, seq_bk, seq_ct, ev_Nx, ev_Set, ev_Set1, ev_Drop, ev_Drop1, ev_Ret, ev_IfS, ev_IfS1, ev_Asg, ev_Asg1, ofS_some, ev_Par, ev_Par1, ev_Par2, ev_Tri, ev_Tri1, ev_Tri2, ev_Tri3, ev_Aug, ev_Aug1, ev_Aug2, ev_Aug3, ev_For, nox_lc, R.bind_ok, R.bindS_ok, R.of_some, List.set_cons_zero, List.set_cons_succ, if_true, Bool.false_eq_true, if_false, Bool.not_true, Bool.not_false, Option.bind_some, Option.map_some, ev_Nest, ev_Nest1, lst_nil, frz_int, frz_str, frz_bl, frz_lst, frzL_int, frzL_str, frz_non, frz_tup, frzL_cons, frzL_nil, isF_tup, isFL_cons, isFL_nil, Bool.and_true, Bool.true_and, Bool.and_self, ev_App, ev_App0, ev_App1, isF_int, isF_str, isF_bl, isF_lst, isFL_int, isFL_str, isF_non, isF_opq, fin_rt, fin_nx, endG_f, endG_t, D.key, mB, kB_g, kB_s, kB_c, kB_t, List.getElem?_cons_zero, List.getElem?_cons_succ, e0, ec, hj, lenG_lst, intG_int, List.map_nil, add_int, stD, putB_s, mulA_i, mul_intR (show (75364 : Int).natAbs.log2 < 60 by decide), mul_intR (show (40692 : Int).natAbs.log2 < 60 by decide), mul_intR hk',
      mod_int hl, mod_int (show (0 : Int) < 2147483587 by decide), mod_int (show (0 : Int) < 4294967291 by decide), mod_int (show (0 : Int) < 4294967279 by decide), fdiv_int (show (0 : Int) < 128 by decide) (by decide), mod_int ht]
theorem begunB {ns : List Int} (h : ns.length ≤ 63) : ∃ m, gB_begun [.lst false (ns.map D.int)] = .ok m [] ∧ DrB 0 m := by
  refine ⟨mB false (ns ++ [29]) (ns.filter fun c => decide (10 ^ 18 ≤ c)) 0 (ns ++ [29]).length, ?_, false, ns ++ [29], _, 0, _, rfl, by decide, by decide, Nat.le_trans (List.length_filter_le _ _) h, by simp⟩
  unfold gB_begun
  rw [GF_1]
  unfold bB_begun
  have ep : powD (.int 10) (.int 18) = some (.int (10 ^ 18)) := pow_int (by decide)
  have lc : lcF [2] (gSet 2) (fTst (fBin geD (fLoc 2) (fVal (fBin powD (fVal (fC (.int 10))) (fVal (fC (.int 18))))))) (fName 2) (ns.map D.int) 0 [some (.lst false (ns.map D.int)), some (.lst false ((ns ++ [29]).map D.int)), none] = .ok ((ns.filter fun c => decide (10 ^ 18 ≤ c)).map D.int) [some (.lst false (ns.map D.int)), some (.lst false ((ns ++ [29]).map D.int)), none] := by
    rw [lcF_map (fun d => match d with | .int c => decide ((10 : Int) ^ 18 ≤ c) | _ => false) id (by rw [List.length_map]; exact Nat.le_trans h (by decide)) (fun d hd => ?_)]
    · rw [List.map_id, List.filter_map]; rfl
    · obtain ⟨c, _, rfl⟩ := List.mem_map.mp hd
      refine ⟨[some (.lst false (ns.map D.int)), some (.lst false ((ns ++ [29]).map D.int)), some (.int c)], [some (.lst false (ns.map D.int)), some (.lst false ((ns ++ [29]).map D.int)), some (.int c)], rfl, ?_, fun _ => rfl, fun _ => ⟨_, rfl, rfl⟩⟩
      simp -implicitDefEqProofs only [slot_0, slot_n, slot_s, res_v, res_l, ev_C, ev_Name, ev_Name1, ev_Move, ev_Move1, ev_Loc, ev_Loc1, ev_Val, ev_Val1, ev_Fz, ev_Fz1, ev_l2, ev_l21, ev_l1, ev_l11, ev_Bin, ev_Bin1, ev_Un, ev_Tst, ev_asB, ev_NotT, ev_NotT1, ev_AndT, ev_AndT1, ev_OrT, ev_OrT1, ev_AndV, ev_AndV1, ev_OrV, ev_OrV1, ev_NotV, ev_NotV1, ev_If, ev_If1, ev_Ch, ev_Ch1, ev_Ch2, ev_Ch3, ev_Nil, ev_Cons, ev_Cons1, ev_Cons2, oc_s, ress_0, ress_s, ocF_s, resF_0, resF_s, ev_lN, ev_lN1, ev_CallB, kRet_ok, ev_Call, ev_Call1, ev_Call2, kRetM_ok, ev_CallM, ev_CallM1, ev_CallM2, ev_M1, ev_M11, ev_M12, ev_M13, ev_M14, ev_Pk, ev_Pk1, ev_PkSl, ev_PkSl1, ev_pk, ev_pk1, prt_n, prt_s, prt_1, prt_2, ev_Sl, ev_Sl0, ev_Sl1, ev_Sl2, ev_Sl3, ev_DG, ev_DGs, ev_DG0, ev_DG1, ev_DG2, ev_DG3, ev_DG4, ev_P0, ev_P1, ev_P2, ev_P3, ev_Disp, ev_Disp1, ev_Lc, ev_Lc1, ev_Lc2, ev_Yes, wipe_0, wipe_s, rest_0, rest_s, ev_Iter, ev_Iter1, ev_Enum, ev_Enum1, ev_Zip, ev_Zip1, ev_Zip2, ev_Zip3, ev_Rg, ev_Rg0, ev_Rg1, ev_Rh, ev_Rh0, ev_Rh1, ev_Rh2, ev_gS, ev_gN, ev_gC, ev_gT, ev_StL, ev_StL1, ev_StL2, ev_StD, ev_StD1, ev_StD2, ev_Seq, seq_nx, seq_rt, seq_bk, seq_ct, ev_Nx, ev_Set, ev_Set1, ev_Drop, ev_Drop1, ev_Ret, ev_IfS, ev_IfS1, ev_Asg, ev_Asg1, ofS_some, ev_Par, ev_Par1, ev_Par2, ev_Tri, ev_Tri1, ev_Tri2, ev_Tri3, ev_Aug, ev_Aug1, ev_Aug2, ev_Aug3, ev_For, nox_lc, R.bind_ok, R.bindS_ok, R.of_some, List.set_cons_zero, List.set_cons_succ, if_true, Bool.false_eq_true, if_false, Bool.not_true, Bool.not_false, Option.bind_some, Option.map_some, ev_Nest, ev_Nest1, lst_nil, frz_int, frz_str, frz_bl, frz_lst, frzL_int, frzL_str, frz_non, frz_tup, frzL_cons, frzL_nil, isF_tup, isFL_cons, isFL_nil, Bool.and_true, Bool.true_and, Bool.and_self, ev_App, ev_App0, ev_App1, isF_int, isF_str, isF_bl, isF_lst, isFL_int, isFL_str, isF_non, isF_opq, fin_rt, fin_nx, endG_f, endG_t, D.key, ep, ge_int]
  have ea : addD (.lst true (ns.map D.int)) (.lst true [.int 29]) = some (.lst true ((ns ++ [29]).map D.int)) := by
    have := addD_lst (m := true) (m' := true) (xs := ns.map D.int) (ys := [.int 29]) (by rw [List.length_map]; exact Nat.le_trans (Nat.add_le_add_right h 1) (by decide)) (isFL_int ns) rfl
    rw [this, List.map_append]; rfl
  have el : lenG [.lst false ((ns ++ [29]).map D.int)] = some (.int ((ns ++ [29]).length : Nat)) := by rw [lenG_lst, List.length_map]
  have e29 : lstG [.int 29] = some (.lst true [.int 29]) := by rfl
  have er := mergeD_at (ms := kB) (es := [.lst false ((ns ++ [29]).map D.int), .lst true ((ns.filter fun c => decide (10 ^ 18 ≤ c)).map D.int), .int 0, .int ((ns ++ [29]).length : Nat)]) kB_nd.1 rfl (by decide)
  simp only [kB] at er
  simp -implicitDefEqProofs only [slot_0, slot_n, slot_s, res_v, res_l, ev_C, ev_Name, ev_Name1, ev_Move, ev_Move1, ev_Loc, ev_Loc1, ev_Val, ev_Val1, ev_Fz, ev_Fz1, ev_l2, ev_l21, ev_l1, ev_l11, ev_Bin, ev_Bin1, ev_Un, ev_Tst, ev_asB, ev_NotT, ev_NotT1, ev_AndT, ev_AndT1, ev_OrT, ev_OrT1, ev_AndV, ev_AndV1, ev_OrV, ev_OrV1, ev_NotV, ev_NotV1, ev_If, ev_If1, ev_Ch, ev_Ch1, ev_Ch2, ev_Ch3, ev_Nil, ev_Cons, ev_Cons1, ev_Cons2, oc_s, ress_0, ress_s, ocF_s, resF_0, resF_s, ev_lN, ev_lN1, ev_CallB, kRet_ok, ev_Call, ev_Call1, ev_Call2, kRetM_ok, ev_CallM, ev_CallM1, ev_CallM2, ev_M1, ev_M11, ev_M12, ev_M13, ev_M14, ev_Pk, ev_Pk1, ev_PkSl, ev_PkSl1, ev_pk, ev_pk1, prt_n, prt_s, prt_1, prt_2, ev_Sl, ev_Sl0, ev_Sl1, ev_Sl2, ev_Sl3, ev_DG, ev_DGs, ev_DG0, ev_DG1, ev_DG2, ev_DG3, ev_DG4, ev_P0, ev_P1, ev_P2, ev_P3, ev_Disp, ev_Disp1, ev_Lc, ev_Lc1, ev_Lc2, ev_Yes, wipe_0, wipe_s, rest_0, rest_s, ev_Iter, ev_Iter1, ev_Enum, ev_Enum1, ev_Zip, ev_Zip1, ev_Zip2, ev_Zip3, ev_Rg, ev_Rg0, ev_Rg1, ev_Rh, ev_Rh0, ev_Rh1, ev_Rh2, ev_gS, ev_gN, ev_gC, ev_gT, ev_StL, ev_StL1, ev_StL2, ev_StD, ev_StD1, ev_StD2, ev_Seq, seq_nx, seq_rt, seq_bk, seq_ct, ev_Nx, ev_Set, ev_Set1, ev_Drop, ev_Drop1, ev_Ret, ev_IfS, ev_IfS1, ev_Asg, ev_Asg1, ofS_some, ev_Par, ev_Par1, ev_Par2, ev_Tri, ev_Tri1, ev_Tri2, ev_Tri3, ev_Aug, ev_Aug1, ev_Aug2, ev_Aug3, ev_For, nox_lc, R.bind_ok, R.bindS_ok, R.of_some, List.set_cons_zero, List.set_cons_succ, if_true, Bool.false_eq_true, if_false, Bool.not_true, Bool.not_false, Option.bind_some, Option.map_some, ev_Nest, ev_Nest1, lst_nil, frz_int, frz_str, frz_bl, frz_lst, frzL_int, frzL_str, frz_non, frz_tup, frzL_cons, frzL_nil, isF_tup, isFL_cons, isFL_nil, Bool.and_true, Bool.true_and, Bool.and_self, ev_App, ev_App0, ev_App1, isF_int, isF_str, isF_bl, isF_lst, isFL_int, isFL_str, isF_non, isF_opq, fin_rt, fin_nx, endG_f, endG_t, D.key, List.replicate, lc, items_lst (isFL_int ns), listAG_l, listG_of (isFL_int ns), e29, ea, frzL_int, el, List.map_cons, List.map_nil, er, mB, kB]
theorem DrB.mono {n n' : Nat} {m : D} (h : DrB n m) (hn : n ≤ n') : DrB n' m := by
  obtain ⟨cm, cs, gs, k, u, e, h1, h2, h3⟩ := h
  exact ⟨cm, cs, gs, k, u, e, h1, by omega, h3⟩
theorem draw_ok {n : Nat} {m : D} (h : DrB n m) (hn : n < 2 ^ 40) {t : Int} (ht : 0 < t) (h9 : t.natAbs.log2 < 9000) : (ofG gB_next (consE eI nilE) asI m (t, ())).sat fun r => 0 ≤ r.1 ∧ r.1 < t ∧ DrB (n + 1) r.2 := by
  obtain ⟨r, m', e, h1, h2, h3⟩ := nextB h hn ht h9
  refine ⟨(r, m'), ?_, h1, h2, h3⟩
  unfold ofG
  rw [show gB_next (m :: consE eI nilE (t, ())) = .ok (.int r) [m'] from e]
  rfl
theorem begun_ok {ns : List Int} (h : ns.length ≤ 63) : (ofG0 gB_begun (consE (eL eI) nilE) (ns, ())).sat fun m => DrB 0 m := by
  obtain ⟨m, e, h1⟩ := begunB h
  refine ⟨m, ?_, h1⟩
  unfold ofG0
  rw [show gB_begun (consE (eL eI) nilE (ns, ())) = .ok m [] from e]
end DrD

namespace K88
open PySem PySem.Spec PyProof.Rows L2 DL
abbrev fuel : Nat := 1000000
def fb__law_start : FS := fSeq (fSet 1 (fFz (fBin addD (fVal (fCallB listAG (fCons (fLoc 0) (fNil)))) (fVal (fCallB lstG (fCons (fVal (fC (.int 29))) (fNil))))))) (fRet (fDisp [(.inr "cells", fName 1), (.inr "great", fLc [2] (fIter (fName 0)) (gSet 2) (fTst (fBin (geD) (fLoc 2) (fVal (fBin powD (fVal (fC (.int 10))) (fVal (fC (.int 18))))))) (fName 2)), (.inr "turn", fC (.int 0)), (.inr "sum", fCallB lenG (fCons (fLoc 1) (fNil)))]))
def G__law_start : List D → GR := GF 1 3 false fb__law_start
def fb__law_next : FS := fSeq (fAsg (gStD 0 (fVal (fC (.str "turn")))) (fBin addD (fVal (fDGet 0 (fVal (fC (.str "turn"))))) (fVal (fC (.int 1))))) (fSeq (whileF (fAndT (fTst (fPk (eqD true) 0 (.inr "great") (fun _ => some (.lst true [])))) (fTst (fBin (eqD false) (fVal (fPk ixD 0 (.inr "great") (fun _ => some (.int 0)))) (fVal (fC (.int 0)))))) (fAsg (gStD 0 (fVal (fC (.str "great")))) (fPkSl 0 (.inr "great") (some 1) none)) fuel) (fSeq (fIfS (fTst (fPk (eqD true) 0 (.inr "great") (fun _ => some (.lst true [])))) (fSeq (fAsg (gTupF 2 (gsCons (gSet 2) (gsCons (gNest 0 (.inr "great") (fun _ => some (.int 0))) (gsNil)))) (fCallB tupG (fCons (fVal (fFz (fBin modD (fVal (fCallB intG (fCons (fVal (fPk ixD 0 (.inr "great") (fun _ => some (.int 0)))) (fNil)))) (fLoc 1)))) (fCons (fVal (fFz (fBin fdivD (fVal (fCallB intG (fCons (fVal (fPk ixD 0 (.inr "great") (fun _ => some (.int 0)))) (fNil)))) (fLoc 1)))) (fNil))))) (fRet (fMove 2))) (fNx)) (fSeq (fSet 3 (fFz (fBin ixD (fVal (fDGet 0 (fVal (fC (.str "cells"))))) (fVal (fBin modD (fVal (fCallB intG (fCons (fVal (fDGet 0 (fVal (fC (.str "turn"))))) (fNil)))) (fVal (fCallB lenG (fCons (fVal (fDGet 0 (fVal (fC (.str "cells"))))) (fNil))))))))) (fSeq (fAsg (gStD 0 (fVal (fC (.str "sum")))) (fBin modD (fVal (fCallB intG (fCons (fVal (fBin addD (fVal (fBin addD (fVal (fBin mulA (fVal (fDGet 0 (fVal (fC (.str "sum"))))) (fVal (fC (.int 75364))))) (fVal (fBin modD (fVal (fCallB intG (fCons (fLoc 3) (fNil)))) (fVal (fC (.int 2147483587))))))) (fVal (fBin mulA (fVal (fC (.int 977))) (fVal (fDGet 0 (fVal (fC (.str "turn"))))))))) (fNil)))) (fVal (fC (.int 4294967291))))) (fRet (fBin modD (fVal (fBin fdivD (fVal (fBin modD (fVal (fCallB intG (fCons (fVal (fBin addD (fVal (fBin mulA (fVal (fDGet 0 (fVal (fC (.str "sum"))))) (fVal (fC (.int 40692))))) (fVal (fDGet 0 (fVal (fC (.str "turn"))))))) (fNil)))) (fVal (fC (.int 4294967279))))) (fVal (fC (.int 128))))) (fLoc 1)))))))
def G__law_next : List D → GR := GF 2 4 true fb__law_next
def fb__law_road : FS := fSeq (fSet 3 (fCallB lstG (fNil))) (fSeq (fFor (fRange1 (fVal (fBin addD (fVal (fC (.int 1))) (fVal (fCallM G__law_next (fCons (fLoc 0) (fCons (fVal (fName 1)) (fNil)))))))) (gSet 4) (fDrop (fApp 3 (fCallB tupG (fCons (fVal (fFz (fCallM G__law_next (fCons (fLoc 0) (fCons (fVal (fName 2)) (fNil)))))) (fCons (fVal (fFz (fBin addD (fVal (fC (.int 1))) (fVal (fCallM G__law_next (fCons (fLoc 0) (fCons (fVal (fFz (fBin subD (fLoc 2) (fVal (fC (.int 1)))))) (fNil)))))))) (fCons (fVal (fFz (fCallM G__law_next (fCons (fLoc 0) (fCons (fVal (fName 2)) (fNil)))))) (fNil)))))))) (fRet (fCallB tupleG (fCons (fLoc 3) (fNil)))))
def G__law_road : List D → GR := GF 3 5 true fb__law_road
def fb__law_of : FS := fRet (fBin ixD (fLoc 1) (fVal (fCallM G__law_next (fCons (fLoc 0) (fCons (fVal (fFz (fCallB lenG (fCons (fLoc 1) (fNil))))) (fNil))))))
def G__law_of : List D → GR := GF 2 2 true fb__law_of
def fb_integer_of : FS := fSeq (fIfS (fOrT (fNotT (fTst (fChain (leD) (leD) (fVal (fC (.int 1))) (fVal (fCallB lenG (fCons (fLoc 0) (fNil)))) (fVal (fC (.int 31)))))) (fNotT (fTst (fCallB allG (fCons (fVal (fLc [1] (fIter (fName 0)) (gSet 1) (fYes) (fBin (inD false) (fLoc 1) (fVal (fC (.str "0123456789")))))) (fNil)))))) (fRet (fC .non)) (fNx)) (fRet (fIf (fTst (fBin (eqD false) (fVal (fCallB strG (fCons (fVal (fCallB intSG (fCons (fLoc 0) (fNil)))) (fNil)))) (fLoc 0))) (fCallB intSG (fCons (fLoc 0) (fNil))) (fC .non)))
def G_integer_of : List D → GR := GF 1 2 false fb_integer_of
def fb_is_whole : FS := fSeq (fIfS (fOrT (fNotT (fTst (fCallB isiG (fCons (fLoc 0) (fCons (fVal (fC (.opq (.ty "int")))) (fNil)))))) (fTst (fCallB isiG (fCons (fLoc 0) (fCons (fVal (fC (.opq (.ty "bool")))) (fNil)))))) (fRet (fC (.bl false))) (fNx)) (fRet (fAndV (fOrV (fBin (isD false) (fLoc 1) (fVal (fC .non))) (fBin (geD) (fLoc 0) (fLoc 1))) (fOrV (fBin (isD false) (fLoc 2) (fVal (fC .non))) (fBin (leD) (fLoc 0) (fLoc 2)))))
def G_is_whole : List D → GR := GF 3 3 false fb_is_whole
def fb_is_triple : FS := fSeq (fIfS (fOrT (fNotT (fTst (fCallB isiG (fCons (fLoc 0) (fCons (fVal (fC (.opq (.ty "tuple")))) (fNil)))))) (fOrT (fTst (fBin (eqD true) (fVal (fCallB lenG (fCons (fLoc 0) (fNil)))) (fVal (fC (.int 3))))) (fNotT (fTst (fCall G_is_whole (fCons (fVal (fFz (fBin ixD (fLoc 0) (fVal (fC (.int 1)))))) (fCons (fVal (fC (.int 1))) (fCons (fVal (fC (.int 1000))) (fNil))))))))) (fRet (fC (.bl false))) (fNx)) (fRet (fAndV (fCall G_is_whole (fCons (fVal (fFz (fBin ixD (fLoc 0) (fVal (fC (.int 0)))))) (fCons (fVal (fC (.int 0))) (fCons (fVal (fC (.int 1000))) (fNil))))) (fCall G_is_whole (fCons (fVal (fFz (fBin ixD (fLoc 0) (fVal (fC (.int 2)))))) (fCons (fVal (fC (.int 0))) (fCons (fVal (fC (.int 1000))) (fNil)))))))
def G_is_triple : List D → GR := GF 1 1 false fb_is_triple
def fb_read_road : FS := fSeq (fIfS (fNotT (fTst (fCallB isiG (fCons (fLoc 0) (fCons (fVal (fC (.opq (.ty "str")))) (fNil)))))) ((fun _ => .stk)) (fNx)) (fSeq (fSet 1 (fCallB lstG (fNil))) (fSeq (fFor (fEnum (fFz (fM1 splitD (fLoc 0) (fVal (fC (.str "\n")))))) (gTupF 2 (gsCons (gSet 2) (gsCons (gSet 3) (gsNil)))) (fSeq (fDrop (fApp 1 (fCallB tupleG (fCons (fVal (fLc [4] (fIter (fFz (fM1 splitD (fLoc 3) (fVal (fC (.str " ")))))) (gSet 4) (fYes) (fCall G_integer_of (fCons (fVal (fName 4)) (fNil))))) (fNil))))) (fIfS (fOrT (fTst (fBin (geD) (fLoc 2) (fVal (fC (.int 40))))) (fNotT (fTst (fCall G_is_triple (fCons (fVal (fFz (fBin ixD (fLoc 1) (fVal (fUn negD (fVal (fC (.int 1)))))))) (fNil)))))) ((fun _ => .stk)) (fNx)))) (fRet (fCallB tupleG (fCons (fLoc 1) (fNil))))))
def G_read_road : List D → GR := GF 1 5 false fb_read_road
def fb_need_road : FS := fSeq (fIfS (fOrT (fNotT (fTst (fCallB isiG (fCons (fLoc 0) (fCons (fVal (fC (.opq (.ty "tuple")))) (fNil)))))) (fNotT (fTst (fChain (leD) (leD) (fVal (fC (.int 1))) (fVal (fCallB lenG (fCons (fLoc 0) (fNil)))) (fVal (fC (.int 40))))))) ((fun _ => .stk)) (fNx)) (fSeq (fFor (fEnum (fName 0)) (gTupF 2 (gsCons (gSet 1) (gsCons (gSet 2) (gsNil)))) (fIfS (fNotT (fTst (fCall G_is_triple (fCons (fVal (fName 2)) (fNil))))) ((fun _ => .stk)) (fNx))) (fRet (fMove 0)))
def G_need_road : List D → GR := GF 1 3 false fb_need_road
def fb_road_text : FS := fRet (fM1 joinD (fVal (fC (.str "\n"))) (fVal (fLc [1] (fIter (fFz (fCall G_need_road (fCons (fVal (fName 0)) (fNil))))) (gSet 1) (fYes) (fM1 joinD (fVal (fC (.str " "))) (fVal (fLc [2] (fIter (fName 1)) (gSet 2) (fYes) (fCallB strG (fCons (fLoc 2) (fNil)))))))))
def G_road_text : List D → GR := GF 1 3 false fb_road_text
def fb__law_road_right : FS := fSeq (fSet 1 (fFz (fM1 joinD (fVal (fC (.str "\n"))) (fVal (fLc [3] (fIter (fName 0)) (gSet 3) (fYes) (fM1 joinD (fVal (fC (.str " "))) (fVal (fLc [4] (fIter (fName 3)) (gSet 4) (fYes) (fCallB strG (fCons (fLoc 4) (fNil))))))))))) (fSeq (fSet 2 (fFz (fCallB lstG (fCons (fVal (fFz (fCall G_road_text (fCons (fVal (fName 0)) (fNil))))) (fCons (fVal (fFz (fCall G_read_road (fCons (fVal (fName 1)) (fNil))))) (fCons (fVal (fFz (fCall G_road_text (fCons (fVal (fName 0)) (fNil))))) (fCons (fVal (fFz (fCall G_read_road (fCons (fVal (fName 1)) (fNil))))) (fNil)))))))) (fRet (fBin (eqD false) (fVal (fCallB reprG (fCons (fLoc 2) (fNil)))) (fVal (fCallB reprG (fCons (fVal (fBin mulA (fVal (fCallB lstG (fCons (fVal (fName 1)) (fCons (fVal (fName 0)) (fNil))))) (fVal (fC (.int 2))))) (fNil)))))))
def G__law_road_right : List D → GR := GF 1 5 false fb__law_road_right
def fb__law_word : FS := fRet (fM1 joinD (fVal (fC (.str ""))) (fVal (fLc [3] (fRange1 (fVal (fBin addD (fVal (fC (.int 1))) (fVal (fCallM G__law_next (fCons (fLoc 0) (fCons (fVal (fName 1)) (fNil)))))))) (gSet 3) (fYes) (fCallM G__law_of (fCons (fLoc 0) (fCons (fVal (fName 2)) (fNil)))))))
def G__law_word : List D → GR := GF 3 4 true fb__law_word
def fb__law_book : FS := fSeq (fPar 4 5 (fCallB lstG (fNil)) (fCallB lstG (fNil))) (fSeq (fFor (fRange1 (fVal (fBin addD (fVal (fC (.int 1))) (fVal (fCallM G__law_next (fCons (fLoc 0) (fCons (fVal (fName 1)) (fNil)))))))) (gSet 6) (fSeq (fPar 7 8 (fFz (fCallM G__law_word (fCons (fLoc 0) (fCons (fVal (fC (.int 4))) (fCons (fVal (fName 2)) (fNil)))))) (fFz (fCallM G__law_word (fCons (fLoc 0) (fCons (fVal (fC (.int 4))) (fCons (fVal (fName 3)) (fNil))))))) (fIfS (fAndT (fTst (fBin (inD true) (fLoc 7) (fLoc 4))) (fTst (fBin (inD true) (fLoc 8) (fLoc 5)))) (fSeq (fDrop (fApp 4 (fName 7))) (fDrop (fApp 5 (fName 8)))) (fNx)))) (fRet (fTupZip (fName 4) (fName 5))))
def G__law_book : List D → GR := GF 4 9 true fb__law_book
def fb_is_word : FS := fRet (fAndV (fCallB isiG (fCons (fLoc 0) (fCons (fVal (fC (.opq (.ty "str")))) (fNil)))) (fAndV (fChain (leD) (leD) (fLoc 1) (fVal (fCallB lenG (fCons (fLoc 0) (fNil)))) (fLoc 2)) (fCallB allG (fCons (fVal (fLc [3] (fIter (fName 0)) (gSet 3) (fYes) (fBin (inD false) (fLoc 3) (fVal (fC (.str "abcdefghijklmnopqrstuvwxyz0123456789")))))) (fNil)))))
def G_is_word : List D → GR := GF 3 4 false fb_is_word
def fb_is_pair : FS := fSeq (fIfS (fOrT (fNotT (fTst (fCallB isiG (fCons (fLoc 0) (fCons (fVal (fC (.opq (.ty "tuple")))) (fNil)))))) (fTst (fBin (eqD true) (fVal (fCallB lenG (fCons (fLoc 0) (fNil)))) (fVal (fC (.int 2)))))) (fRet (fC (.bl false))) (fNx)) (fRet (fAndV (fCall G_is_word (fCons (fVal (fFz (fBin ixD (fLoc 0) (fVal (fC (.int 0)))))) (fCons (fVal (fC (.int 1))) (fCons (fVal (fC (.int 8))) (fNil))))) (fCall G_is_word (fCons (fVal (fFz (fBin ixD (fLoc 0) (fVal (fC (.int 1)))))) (fCons (fVal (fC (.int 1))) (fCons (fVal (fC (.int 5))) (fNil)))))))
def G_is_pair : List D → GR := GF 1 1 false fb_is_pair
def fb_read_book : FS := fSeq (fIfS (fNotT (fTst (fCallB isiG (fCons (fLoc 0) (fCons (fVal (fC (.opq (.ty "str")))) (fNil)))))) ((fun _ => .stk)) (fNx)) (fSeq (fPar3 1 2 3 (fCallB lstG (fNil)) (fC (.dic true [] [])) (fC (.dic true [] []))) (fSeq (fFor (fEnum (fFz (fM1 splitD (fLoc 0) (fVal (fC (.str "\n")))))) (gTupF 2 (gsCons (gSet 4) (gsCons (gSet 5) (gsNil)))) (fSeq (fSet 6 (fFz (fCallB tupleG (fCons (fVal (fM1 splitD (fLoc 5) (fVal (fC (.str " "))))) (fNil))))) (fSeq (fIfS (fOrT (fTst (fBin (geD) (fLoc 4) (fVal (fC (.int 40))))) (fOrT (fNotT (fTst (fCall G_is_pair (fCons (fVal (fName 6)) (fNil))))) (fOrT (fTst (fBin (inD false) (fVal (fBin ixD (fLoc 6) (fVal (fC (.int 0))))) (fLoc 2))) (fTst (fBin (inD false) (fVal (fBin ixD (fLoc 6) (fVal (fC (.int 1))))) (fLoc 3)))))) ((fun _ => .stk)) (fNx)) (fSeq (fAsg (gStD 2 (fVal (fBin ixD (fLoc 6) (fVal (fC (.int 0)))))) (fC (.bl true))) (fSeq (fAsg (gStD 3 (fVal (fBin ixD (fLoc 6) (fVal (fC (.int 1)))))) (fC (.bl true))) (fDrop (fApp 1 (fName 6)))))))) (fRet (fCallB tupleG (fCons (fLoc 1) (fNil))))))
def G_read_book : List D → GR := GF 1 7 false fb_read_book
def fb_need_book : FS := fSeq (fIfS (fOrT (fNotT (fTst (fCallB isiG (fCons (fLoc 0) (fCons (fVal (fC (.opq (.ty "tuple")))) (fNil)))))) (fNotT (fTst (fChain (leD) (leD) (fVal (fC (.int 1))) (fVal (fCallB lenG (fCons (fLoc 0) (fNil)))) (fVal (fC (.int 40))))))) ((fun _ => .stk)) (fNx)) (fSeq (fPar 1 2 (fC (.dic true [] [])) (fC (.dic true [] []))) (fSeq (fFor (fEnum (fName 0)) (gTupF 2 (gsCons (gSet 3) (gsCons (gSet 4) (gsNil)))) (fSeq (fIfS (fOrT (fNotT (fTst (fCall G_is_pair (fCons (fVal (fName 4)) (fNil))))) (fOrT (fTst (fBin (inD false) (fVal (fBin ixD (fLoc 4) (fVal (fC (.int 0))))) (fLoc 1))) (fTst (fBin (inD false) (fVal (fBin ixD (fLoc 4) (fVal (fC (.int 1))))) (fLoc 2))))) ((fun _ => .stk)) (fNx)) (fSeq (fAsg (gStD 1 (fVal (fBin ixD (fLoc 4) (fVal (fC (.int 0)))))) (fC (.bl true))) (fAsg (gStD 2 (fVal (fBin ixD (fLoc 4) (fVal (fC (.int 1)))))) (fC (.bl true)))))) (fRet (fMove 0))))
def G_need_book : List D → GR := GF 1 5 false fb_need_book
def fb_book_text : FS := fRet (fM1 joinD (fVal (fC (.str "\n"))) (fVal (fLc [1] (fIter (fFz (fCall G_need_book (fCons (fVal (fName 0)) (fNil))))) (gSet 1) (fYes) (fM1 joinD (fVal (fC (.str " "))) (fLoc 1)))))
def G_book_text : List D → GR := GF 1 2 false fb_book_text
def fb__law_book_right : FS := fSeq (fSet 1 (fFz (fM1 joinD (fVal (fC (.str "\n"))) (fVal (fLc [3, 4] (fIter (fName 0)) (gTupF 2 (gsCons (gSet 3) (gsCons (gSet 4) (gsNil)))) (fYes) (fBin addD (fVal (fBin addD (fLoc 3) (fVal (fC (.str " "))))) (fLoc 4))))))) (fSeq (fSet 2 (fFz (fCallB lstG (fCons (fVal (fFz (fCall G_book_text (fCons (fVal (fName 0)) (fNil))))) (fCons (fVal (fFz (fCall G_read_book (fCons (fVal (fName 1)) (fNil))))) (fCons (fVal (fFz (fCall G_book_text (fCons (fVal (fName 0)) (fNil))))) (fCons (fVal (fFz (fCall G_read_book (fCons (fVal (fName 1)) (fNil))))) (fNil)))))))) (fRet (fBin (eqD false) (fVal (fCallB reprG (fCons (fLoc 2) (fNil)))) (fVal (fCallB reprG (fCons (fVal (fBin mulA (fVal (fCallB lstG (fCons (fVal (fName 1)) (fCons (fVal (fName 0)) (fNil))))) (fVal (fC (.int 2))))) (fNil)))))))
def G__law_book_right : List D → GR := GF 1 5 false fb__law_book_right
def fb_law : FS := fSeq (fSet 1 (fCall G__law_start (fCons (fVal (fName 0)) (fNil)))) (fSeq (fFor (fRange1 (fVal (fBin addD (fVal (fC (.int 4))) (fVal (fCallB min2G (fCons (fVal (fCallB lenG (fCons (fLoc 0) (fNil)))) (fCons (fVal (fC (.int 8))) (fNil)))))))) (gSet 2) (fSeq (fPar 3 4 (fFz (fCallM G__law_road (fCons (fLoc 1) (fCons (fVal (fC (.int 6))) (fCons (fVal (fFz (fCallM G__law_of (fCons (fLoc 1) (fCons (fVal (fFz (fCallB lstG (fCons (fVal (fC (.int 3))) (fCons (fVal (fC (.int 1001))) (fNil)))))) (fNil)))))) (fNil)))))) (fFz (fCallM G__law_road (fCons (fLoc 1) (fCons (fVal (fC (.int 2))) (fCons (fVal (fC (.int 3))) (fNil))))))) (fSeq (fIfS (fOrT (fNotT (fTst (fCall G__law_road_right (fCons (fVal (fName 3)) (fNil))))) (fNotT (fTst (fCall G__law_road_right (fCons (fVal (fName 4)) (fNil)))))) (fRet (fC (.bl false))) (fNx)) (fSeq (fIfS (fTst (fBin (eqD true) (fVal (fBin (eqD false) (fVal (fCall G_road_text (fCons (fVal (fName 3)) (fNil)))) (fVal (fCall G_road_text (fCons (fVal (fName 4)) (fNil)))))) (fVal (fBin (eqD false) (fLoc 3) (fLoc 4))))) (fRet (fC (.bl false))) (fNx)) (fSeq (fPar 5 6 (fFz (fCallM G__law_book (fCons (fLoc 1) (fCons (fVal (fC (.int 8))) (fCons (fVal (fC (.str "abcxyz019"))) (fCons (fVal (fC (.str "abz09"))) (fNil))))))) (fFz (fCallM G__law_book (fCons (fLoc 1) (fCons (fVal (fC (.int 2))) (fCons (fVal (fC (.str "ab"))) (fCons (fVal (fC (.str "ab"))) (fNil)))))))) (fSeq (fIfS (fOrT (fNotT (fTst (fCall G__law_book_right (fCons (fVal (fName 5)) (fNil))))) (fNotT (fTst (fCall G__law_book_right (fCons (fVal (fName 6)) (fNil)))))) (fRet (fC (.bl false))) (fNx)) (fIfS (fTst (fBin (eqD true) (fVal (fBin (eqD false) (fVal (fCall G_book_text (fCons (fVal (fName 5)) (fNil)))) (fVal (fCall G_book_text (fCons (fVal (fName 6)) (fNil)))))) (fVal (fBin (eqD false) (fLoc 5) (fLoc 6))))) (fRet (fC (.bl false))) (fNx)))))))) (fSeq (fSet 7 (fFz (fCallB tupleG (fCons (fVal (fLc [11] (fRange1 (fVal (fC (.int 40)))) (gSet 11) (fYes) (fCallB tupG (fCons (fVal (fC (.int 1000))) (fCons (fVal (fFz (fBin subD (fVal (fC (.int 1000))) (fLoc 11)))) (fCons (fVal (fName 11)) (fNil))))))) (fNil))))) (fSeq (fFor (fIter (fFz (fCallB tupG (fCons (fVal (fName 7)) (fCons (fVal (fFz (fCallB tupG (fCons (fVal (fFz (fCallB tupG (fCons (fVal (fC (.int 0))) (fCons (fVal (fC (.int 1))) (fCons (fVal (fC (.int 0))) (fNil))))))) (fNil))))) (fCons (fVal (fFz (fBin mulA (fVal (fCallB tupG (fCons (fVal (fFz (fCallB tupG (fCons (fVal (fC (.int 0))) (fCons (fVal (fC (.int 1))) (fCons (fVal (fC (.int 0))) (fNil))))))) (fNil)))) (fVal (fC (.int 40)))))) (fCons (fVal (fFz (fCallB tupG (fCons (fVal (fFz (fCallB tupG (fCons (fVal (fC (.int 1000))) (fCons (fVal (fC (.int 1000))) (fCons (fVal (fC (.int 1000))) (fNil))))))) (fNil))))) (fNil)))))))) (gSet 8) (fIfS (fNotT (fTst (fCall G__law_road_right (fCons (fVal (fName 8)) (fNil))))) (fRet (fC (.bl false))) (fNx))) (fSeq (fSet 9 (fFz (fCallB tupleG (fCons (fVal (fLc [11] (fRange1 (fVal (fC (.int 40)))) (gSet 11) (fYes) (fCallB tupG (fCons (fVal (fFz (fBin addD (fVal (fC (.str "p"))) (fVal (fCallB strG (fCons (fLoc 11) (fNil))))))) (fCons (fVal (fFz (fBin addD (fVal (fC (.str "c"))) (fVal (fCallB strG (fCons (fLoc 11) (fNil))))))) (fNil)))))) (fNil))))) (fSeq (fFor (fIter (fFz (fCallB tupG (fCons (fVal (fName 9)) (fCons (fVal (fFz (fCallB tupG (fCons (fVal (fFz (fCallB tupG (fCons (fVal (fC (.str "a"))) (fCons (fVal (fC (.str "0"))) (fNil)))))) (fNil))))) (fCons (fVal (fFz (fCallB tupG (fCons (fVal (fFz (fCallB tupG (fCons (fVal (fC (.str "abcdefgh"))) (fCons (fVal (fC (.str "01234"))) (fNil)))))) (fCons (fVal (fFz (fCallB tupG (fCons (fVal (fC (.str "zzzzzzzz"))) (fCons (fVal (fC (.str "99999"))) (fNil)))))) (fNil)))))) (fNil))))))) (gSet 10) (fIfS (fNotT (fTst (fCall G__law_book_right (fCons (fVal (fName 10)) (fNil))))) (fRet (fC (.bl false))) (fNx))) (fRet (fBin (eqD false) (fVal (fCall G_book_text (fCons (fVal (fFz (fCallB tupG (fCons (fVal (fFz (fCallB tupG (fCons (fVal (fC (.str "ab1"))) (fCons (fVal (fC (.str "0"))) (fNil)))))) (fCons (fVal (fFz (fCallB tupG (fCons (fVal (fC (.str "z"))) (fCons (fVal (fC (.str "zz"))) (fNil)))))) (fNil)))))) (fNil)))) (fVal (fC (.str "ab1 0\nz zz"))))))))))
def G_law : List D → GR := GF 1 12 false fb_law
end K88

set_option maxHeartbeats 4000000
set_option synthInstance.maxHeartbeats 400000
set_option synthInstance.maxSize 2000
namespace K88
open PySem PySem.Spec PyProof.Rows L2 DL
instance : FnMT G__law_next (consE eI nilE) eI (ofG G__law_next (consE eI nilE) asI) := ofG_run asI_ok
instance : FnT G__law_start (consE (eL eI) nilE) eR (ofG0 G__law_start (consE (eL eI) nilE)) := ofG0_run
noncomputable def S__law_of : FnMS G__law_of (consE (eL eI) nilE) eI := ⟨_, fnM_run (o := noO) (l := noO) (p := fun m0 a => [some (eR m0), some ((eL eI) a.1)]) (fun m0 a => xs_ret (xr_me rfl (xe_bin (xo_up rfl (xo_loc 1 (e := (eL eI)) rfl)) (fun _ => xoe_val (xe_callM 0 (xae_up rfl (xa_cons (xo_val (xp_fz (xp_callB (g := lenG) (es := consE (eL eI) nilE) (xa_cons (xo_loc 1 (e := (eL eI)) rfl) (xa_nil))))) (xa_nil)))))))) (fun _ _ => fit_s (fit_s fit_0)) (fun _ => rfl)⟩
instance : FnMT G__law_of (consE (eL eI) nilE) eI S__law_of.op := S__law_of.run
noncomputable def S__law_road : FnMS G__law_road (consE eI (consE eI nilE)) (eTL (eT3 eI eI eI)) := ⟨_, fnM_run (o := noO) (l := noO) (p := fun m0 a => [some (eR m0), some (eI a.1), some (eI a.2.1), none, none]) (fun m0 a => xs_set 3 (xp_lst0 (eT3 eI eI eI)) (fun v_found0 => xs_forE (fun s4 : (D) × (List (((Int) × (Int) × (Int)))) => ([some (eR s4.1), none, some (eI a.2.1), some ((eW (eT3 eI eI eI)) s4.2), none] : Pat)) (fun m2 => (m2, v_found0)) (fun _ => ws (wn (ws (ws (wn w0))))) (xie_range1 (xoe_val (xe_bin (xo_up rfl (xo_val (xp_int))) (fun _ => xoe_val (xe_callM 0 (xae_up rfl (xa_cons (xo_val (xp_name 1 (e := eI) rfl)) (xa_nil)))))))) (fun _ => xg_set 4) (fun s3 a5 => xs_last (xs_appE 3 rfl (xe_callB (xae_cons (xoe_val (xe_fz (xe_callM 0 (xae_up rfl (xa_cons (xo_val (xp_name 2 (e := eI) rfl)) (xa_nil)))))) (fun _ => xae_cons (xoe_val (xe_fz (xe_bin (xo_up rfl (xo_val (xp_int))) (fun _ => xoe_val (xe_callM 0 (xae_up rfl (xa_cons (xo_val (xp_fz (xp_bin (xo_loc 2 (e := eI) rfl) (xo_val (xp_int))))) (xa_nil)))))))) (fun _ => xae_cons (xoe_val (xe_fz (xe_callM 0 (xae_up rfl (xa_cons (xo_val (xp_name 2 (e := eI) rfl)) (xa_nil)))))) (fun _ => xae_up rfl xa_nil))))) (fun y6 m7 => xs_nx (m7, (s3.2 ++ [y6])) (ws (wn (ws (ws (wn w0)))))))) (fun s8 => xs_ret (xr_mp rfl (xp_callB (xa_cons (xo_loc 3 (e := (eW (eT3 eI eI eI))) rfl) (xa_nil))))))) (fun _ _ => fit_s (fit_s (fit_s (fit_n (fit_n fit_0))))) (fun _ => rfl)⟩
instance : FnMT G__law_road (consE eI (consE eI nilE)) (eTL (eT3 eI eI eI)) S__law_road.op := S__law_road.run
noncomputable def S_is_whole : FnS G_is_whole (consE eI (consE (eO eI) (consE (eO eI) nilE))) eB := ⟨_, fn_run (o := noO) (l := noO) (p := fun a => [some (eI a.1), some ((eO eI) a.2.1), some ((eO eI) a.2.2.1)]) noD noD_ok (fun a => xs_ifr (xt_or (xt_not (xt_tst (xp_isi (xo_loc 0 (e := eI) rfl)))) (xt_tst (xp_isi (xo_loc 0 (e := eI) rfl)))) (xs_ret (xr_p (xp_bl))) (xs_ret (xr_p (xp_and (xp_or (xp_bin (xo_loc 1 (e := (eO eI)) rfl) (xo_val (xp_non))) (xp_bin (xo_loc 0 (e := eI) rfl) (xo_unO (xo_loc 1 (e := (eO eI)) rfl)))) (xp_or (xp_bin (xo_loc 2 (e := (eO eI)) rfl) (xo_val (xp_non))) (xp_bin (xo_loc 0 (e := eI) rfl) (xo_unO (xo_loc 2 (e := (eO eI)) rfl)))))))) (fun _ => fit_s (fit_s (fit_s fit_0))) (fun _ => rfl)⟩
instance : FnT G_is_whole (consE eI (consE (eO eI) (consE (eO eI) nilE))) eB S_is_whole.op := S_is_whole.run
noncomputable def S_is_triple : FnS G_is_triple (consE (eT3 eI eI eI) nilE) eB := ⟨_, fn_run (o := noO) (l := noO) (p := fun a => [some ((eT3 eI eI eI) a.1)]) noD noD_ok (fun a => xs_ifr (xt_or (xt_not (xt_tst (xp_isi (xo_loc 0 (e := (eT3 eI eI eI)) rfl)))) (xt_or (xt_tst (xp_bin (xo_val (xp_callB (g := lenG) (es := consE (eT3 eI eI eI) nilE) (xa_cons (xo_loc 0 (e := (eT3 eI eI eI)) rfl) (xa_nil)))) (xo_val (xp_int)))) (xt_not (xt_tst (xp_call (xa_cons (xo_val (xp_fz (xp_ixk (xo_loc 0 (e := (eT3 eI eI eI)) rfl)))) (xa_cons (xo_val (xp_as (e := eI) (e' := (eO eI)) some (fun _ => rfl) (xp_int))) (xa_cons (xo_val (xp_as (e := eI) (e' := (eO eI)) some (fun _ => rfl) (xp_int))) (xa_nil))))))))) (xs_ret (xr_p (xp_bl))) (xs_ret (xr_p (xp_and (xp_call (xa_cons (xo_val (xp_fz (xp_ixk (xo_loc 0 (e := (eT3 eI eI eI)) rfl)))) (xa_cons (xo_val (xp_as (e := eI) (e' := (eO eI)) some (fun _ => rfl) (xp_int))) (xa_cons (xo_val (xp_as (e := eI) (e' := (eO eI)) some (fun _ => rfl) (xp_int))) (xa_nil))))) (xp_call (xa_cons (xo_val (xp_fz (xp_ixk (xo_loc 0 (e := (eT3 eI eI eI)) rfl)))) (xa_cons (xo_val (xp_as (e := eI) (e' := (eO eI)) some (fun _ => rfl) (xp_int))) (xa_cons (xo_val (xp_as (e := eI) (e' := (eO eI)) some (fun _ => rfl) (xp_int))) (xa_nil))))))))) (fun _ => fit_s fit_0) (fun _ => rfl)⟩
instance : FnT G_is_triple (consE (eT3 eI eI eI) nilE) eB S_is_triple.op := S_is_triple.run
noncomputable def S_need_road : FnS G_need_road (consE (eTL (eT3 eI eI eI)) nilE) (eTL (eT3 eI eI eI)) := ⟨_, fn_run (o := noO) (l := noO) (p := fun a => [some ((eTL (eT3 eI eI eI)) a.1), none, none]) noD noD_ok (fun a => xs_ifr (xt_or (xt_not (xt_tst (xp_isi (xo_loc 0 (e := (eTL (eT3 eI eI eI))) rfl)))) (xt_not (xt_tst (xp_chain (xo_val (xp_int)) (xo_val (xp_callB (g := lenG) (es := consE (eTL (eT3 eI eI eI)) nilE) (xa_cons (xo_loc 0 (e := (eTL (eT3 eI eI eI))) rfl) (xa_nil)))) (xo_val (xp_int)))))) (xs_never) (xs_for (fun s2 : Unit => ([some ((eTL (eT3 eI eI eI)) a.1), none, none] : Pat)) () (ws (wn (wn w0))) (xi_enum (xp_name 0 (e := (eTL (eT3 eI eI eI))) rfl)) (fun _ => xg_tup2 (xg_set 1) (fun _ => xg_set 2)) (fun s1 a3 => xs_ifp (xt_not (xt_tst (xp_call (xa_cons (xo_val (xp_name 2 (e := (eT3 eI eI eI)) rfl)) (xa_nil))))) (xs_never) (xs_nx () (ws (wn (wn w0))))) (fun s4 => xs_ret (xr_move 0 (e := (eTL (eT3 eI eI eI))) rfl)))) (fun _ => fit_s (fit_n (fit_n fit_0))) (fun _ => rfl)⟩
instance : FnT G_need_road (consE (eTL (eT3 eI eI eI)) nilE) (eTL (eT3 eI eI eI)) S_need_road.op := S_need_road.run
noncomputable def S_road_text : FnS G_road_text (consE (eTL (eT3 eI eI eI)) nilE) eS := ⟨_, fn_run (o := noO) (l := noO) (p := fun a => [some ((eTL (eT3 eI eI eI)) a.1), none, none]) noD noD_ok (fun a => xs_ret (xr_p (xp_m1 (xo_val (xp_str [10] (by decide +kernel))) (xo_val (xp_lc (xi_val (xp_fz (xp_call (xa_cons (xo_val (xp_name 0 (e := (eTL (eT3 eI eI eI))) rfl)) (xa_nil))))) (xg_set 1) (fun _ => xt_yes) (fun _ => xp_m1 (xo_val (xp_str [32] (by decide +kernel))) (xo_val (xp_lc (xi_val (xp_as (e := (eT3 eI eI eI)) (e' := (eTL eI)) (fun x => [x.1, x.2.1, x.2.2]) (fun _ => rfl) (xp_name 1 (e := (eT3 eI eI eI)) rfl))) (xg_set 2) (fun _ => xt_yes) (fun _ => xp_callB (xa_cons (xo_loc 2 (e := eI) rfl) (xa_nil))))))))))) (fun _ => fit_s (fit_n (fit_n fit_0))) (fun _ => rfl)⟩
instance : FnT G_road_text (consE (eTL (eT3 eI eI eI)) nilE) eS S_road_text.op := S_road_text.run
noncomputable def S_integer_of : FnS G_integer_of (consE eS nilE) (eO eI) := ⟨_, fn_run (o := noO) (l := noO) (p := fun a => [some (eS a.1), none]) noD noD_ok (fun a => xs_ifr (xt_or (xt_not (xt_tst (xp_chain (xo_val (xp_int)) (xo_val (xp_callB (g := lenG) (es := consE eS nilE) (xa_cons (xo_loc 0 (e := eS) rfl) (xa_nil)))) (xo_val (xp_int))))) (xt_not (xt_tst (xp_callB (xa_cons (xo_val (xp_lc (xi_val (xp_name 0 (e := eS) rfl)) (xg_set 1) (fun _ => xt_yes) (fun _ => xp_bin (xo_loc 1 (e := eS) rfl) (xo_val (xp_str [48, 49, 50, 51, 52, 53, 54, 55, 56, 57] (by decide +kernel)))))) (xa_nil)))))) (xs_ret (xr_p (xp_as (e := eN) (e' := (eO eI)) (fun _ => none) (fun _ => rfl) (xp_non)))) (xs_ret (xr_p (xp_if (xt_tst (xp_bin (xo_val (xp_callB (xa_cons (xo_val (xp_callB (xa_cons (xo_loc 0 (e := eS) rfl) (xa_nil)))) (xa_nil)))) (xo_loc 0 (e := eS) rfl))) (xp_as (e := eI) (e' := (eO eI)) some (fun _ => rfl) (xp_callB (xa_cons (xo_loc 0 (e := eS) rfl) (xa_nil)))) (xp_as (e := eN) (e' := (eO eI)) (fun _ => none) (fun _ => rfl) (xp_non)))))) (fun _ => fit_s (fit_n fit_0)) (fun _ => rfl)⟩
instance : FnT G_integer_of (consE eS nilE) (eO eI) S_integer_of.op := S_integer_of.run
noncomputable def S_is_triple_2 : FnS G_is_triple (consE (eTL (eO eI)) nilE) eB := ⟨_, fn_run (o := noO) (l := noO) (p := fun a => [some ((eTL (eO eI)) a.1)]) noD noD_ok (fun a => xs_ifr (xt_or (xt_not (xt_tst (xp_isi (xo_loc 0 (e := (eTL (eO eI))) rfl)))) (xt_or (xt_tst (xp_bin (xo_val (xp_callB (g := lenG) (es := consE (eTL (eO eI)) nilE) (xa_cons (xo_loc 0 (e := (eTL (eO eI))) rfl) (xa_nil)))) (xo_val (xp_int)))) (xt_not (xt_tst (xp_call (xa_cons (xo_val (xp_unO (xp_fz (xp_bin (xo_loc 0 (e := (eTL (eO eI))) rfl) (xo_val (xp_int)))))) (xa_cons (xo_val (xp_as (e := eI) (e' := (eO eI)) some (fun _ => rfl) (xp_int))) (xa_cons (xo_val (xp_as (e := eI) (e' := (eO eI)) some (fun _ => rfl) (xp_int))) (xa_nil))))))))) (xs_ret (xr_p (xp_bl))) (xs_ret (xr_p (xp_and (xp_call (xa_cons (xo_val (xp_unO (xp_fz (xp_bin (xo_loc 0 (e := (eTL (eO eI))) rfl) (xo_val (xp_int)))))) (xa_cons (xo_val (xp_as (e := eI) (e' := (eO eI)) some (fun _ => rfl) (xp_int))) (xa_cons (xo_val (xp_as (e := eI) (e' := (eO eI)) some (fun _ => rfl) (xp_int))) (xa_nil))))) (xp_call (xa_cons (xo_val (xp_unO (xp_fz (xp_bin (xo_loc 0 (e := (eTL (eO eI))) rfl) (xo_val (xp_int)))))) (xa_cons (xo_val (xp_as (e := eI) (e' := (eO eI)) some (fun _ => rfl) (xp_int))) (xa_cons (xo_val (xp_as (e := eI) (e' := (eO eI)) some (fun _ => rfl) (xp_int))) (xa_nil))))))))) (fun _ => fit_s fit_0) (fun _ => rfl)⟩
instance : FnT G_is_triple (consE (eTL (eO eI)) nilE) eB S_is_triple_2.op := S_is_triple_2.run
noncomputable def S_read_road : FnS G_read_road (consE eS nilE) (eTL (eTL (eO eI))) := ⟨_, fn_run (o := noO) (l := noO) (p := fun a => [some (eS a.1), none, none, none, none]) noD noD_ok (fun a => xs_ifr (xt_not (xt_tst (xp_isi (xo_loc 0 (e := eS) rfl)))) (xs_never) (xs_set 1 (xp_lst0 (eTL (eO eI))) (fun v_found0 => xs_for (fun s3 : (List (List (Option (Int)))) => ([none, some ((eW (eTL (eO eI))) s3), none, none, none] : Pat)) v_found0 (wn (ws (wn (wn (wn w0))))) (xi_enum (xp_fzW (xp_m1 (xo_loc 0 (e := eS) rfl) (xo_val (xp_str [10] (by decide +kernel)))))) (fun _ => xg_tup2 (xg_set 2) (fun _ => xg_set 3)) (fun s2 a4 => xs_app 1 rfl (xp_callB (xa_cons (xo_val (xp_lc (xi_val (xp_fzW (xp_m1 (xo_loc 3 (e := eS) rfl) (xo_val (xp_str [32] (by decide +kernel)))))) (xg_set 4) (fun _ => xt_yes) (fun _ => xp_call (xa_cons (xo_val (xp_name 4 (e := eS) rfl)) (xa_nil))))) (xa_nil))) (fun y5 => xs_ifp (xt_or (xt_tst (xp_bin (xo_loc 2 (e := eI) rfl) (xo_val (xp_int)))) (xt_not (xt_tst (xp_call (xa_cons (xo_val (xp_fz (xp_bin (xo_loc 1 (e := (eW (eTL (eO eI)))) rfl) (xo_val (xp_un (xo_val (xp_int))))))) (xa_nil)))))) (xs_never) (xs_nx (s2 ++ [y5]) (wn (ws (wn (wn (wn w0)))))))) (fun s6 => xs_ret (xr_p (xp_callB (xa_cons (xo_loc 1 (e := (eW (eTL (eO eI)))) rfl) (xa_nil)))))))) (fun _ => fit_s (fit_n (fit_n (fit_n (fit_n fit_0))))) (fun _ => rfl)⟩
instance : FnT G_read_road (consE eS nilE) (eTL (eTL (eO eI))) S_read_road.op := S_read_road.run
noncomputable def S__law_road_right : FnS G__law_road_right (consE (eTL (eT3 eI eI eI)) nilE) eB := ⟨_, fn_run (o := noO) (l := noO) (p := fun a => [some ((eTL (eT3 eI eI eI)) a.1), none, none, none, none]) noD noD_ok (fun a => xs_set 1 (xp_fz (xp_m1 (xo_val (xp_str [10] (by decide +kernel))) (xo_val (xp_lc (xi_val (xp_name 0 (e := (eTL (eT3 eI eI eI))) rfl)) (xg_set 3) (fun _ => xt_yes) (fun _ => xp_m1 (xo_val (xp_str [32] (by decide +kernel))) (xo_val (xp_lc (xi_val (xp_as (e := (eT3 eI eI eI)) (e' := (eTL eI)) (fun x => [x.1, x.2.1, x.2.2]) (fun _ => rfl) (xp_name 3 (e := (eT3 eI eI eI)) rfl))) (xg_set 4) (fun _ => xt_yes) (fun _ => xp_callB (xa_cons (xo_loc 4 (e := eI) rfl) (xa_nil)))))))))) (fun v_due0 => xs_set 2 (xp_fzW (xp_callB (xa_cons (xo_val (xp_as (e := eS) (e' := eA) (fun x => eS x) (fun x => (Frz.frz (e := eS) x).symm) (xp_fz (xp_call (xa_cons (xo_val (xp_name 0 (e := (eTL (eT3 eI eI eI))) rfl)) (xa_nil)))))) (xa_cons (xo_val (xp_as (e := (eTL (eTL (eO eI)))) (e' := eA) (fun x => (eTL (eTL (eO eI))) x) (fun x => (Frz.frz (e := (eTL (eTL (eO eI)))) x).symm) (xp_fz (xp_call (xa_cons (xo_val (xp_name 1 (e := eS) rfl)) (xa_nil)))))) (xa_cons (xo_val (xp_as (e := eS) (e' := eA) (fun x => eS x) (fun x => (Frz.frz (e := eS) x).symm) (xp_fz (xp_call (xa_cons (xo_val (xp_name 0 (e := (eTL (eT3 eI eI eI))) rfl)) (xa_nil)))))) (xa_cons (xo_val (xp_as (e := (eTL (eTL (eO eI)))) (e' := eA) (fun x => (eTL (eTL (eO eI))) x) (fun x => (Frz.frz (e := (eTL (eTL (eO eI)))) x).symm) (xp_fz (xp_call (xa_cons (xo_val (xp_name 1 (e := eS) rfl)) (xa_nil)))))) (xa_nil))))))) (fun v_heard1 => xs_ret (xr_p (xp_bin (xo_val (xp_callB (xa_cons (xo_loc 2 (e := (eL eA)) rfl) (xa_nil)))) (xo_val (xp_callB (xa_cons (xo_val (xp_bin (xo_val (xp_callB (xa_cons (xo_val (xp_as (e := eS) (e' := eA) (fun x => eS x) (fun x => (Frz.frz (e := eS) x).symm) (xp_name 1 (e := eS) rfl))) (xa_cons (xo_val (xp_as (e := (eTL (eT3 eI eI eI))) (e' := eA) (fun x => (eTL (eT3 eI eI eI)) x) (fun x => (Frz.frz (e := (eTL (eT3 eI eI eI))) x).symm) (xp_name 0 (e := (eTL (eT3 eI eI eI))) rfl))) (xa_nil))))) (xo_val (xp_int)))) (xa_nil))))))))) (fun _ => fit_s (fit_n (fit_n (fit_n (fit_n fit_0))))) (fun _ => rfl)⟩
instance : FnT G__law_road_right (consE (eTL (eT3 eI eI eI)) nilE) eB S__law_road_right.op := S__law_road_right.run
noncomputable def S__law_of_2 : FnMS G__law_of (consE eS nilE) eS := ⟨_, fnM_run (o := noO) (l := noO) (p := fun m0 a => [some (eR m0), some (eS a.1)]) (fun m0 a => xs_ret (xr_me rfl (xe_bin (xo_up rfl (xo_loc 1 (e := eS) rfl)) (fun _ => xoe_val (xe_callM 0 (xae_up rfl (xa_cons (xo_val (xp_fz (xp_callB (g := lenG) (es := consE eS nilE) (xa_cons (xo_loc 1 (e := eS) rfl) (xa_nil))))) (xa_nil)))))))) (fun _ _ => fit_s (fit_s fit_0)) (fun _ => rfl)⟩
instance : FnMT G__law_of (consE eS nilE) eS S__law_of_2.op := S__law_of_2.run
noncomputable def S__law_word : FnMS G__law_word (consE eI (consE eS nilE)) eS := ⟨_, fnM_run (o := noO) (l := noO) (p := fun m0 a => [some (eR m0), some (eI a.1), some (eS a.2.1), none]) (fun m0 a => xs_ret (xr_me rfl (xe_m1 (xo_up rfl (xo_val (xp_str [] (by decide +kernel)))) (fun _ => xoe_val (xe_lc (xie_range1 (xoe_val (xe_bin (xo_up rfl (xo_val (xp_int))) (fun _ => xoe_val (xe_callM 0 (xae_up rfl (xa_cons (xo_val (xp_name 1 (e := eI) rfl)) (xa_nil)))))))) (fun _ => xg_set 3) (fun _ _ => xte_up rfl (xt_yes)) (fun _ _ => xe_callM 0 (xae_up rfl (xa_cons (xo_val (xp_name 2 (e := eS) rfl)) (xa_nil))))))))) (fun _ _ => fit_s (fit_s (fit_s (fit_n fit_0)))) (fun _ => rfl)⟩
instance : FnMT G__law_word (consE eI (consE eS nilE)) eS S__law_word.op := S__law_word.run
noncomputable def S__law_book : FnMS G__law_book (consE eI (consE eS (consE eS nilE))) (eTL (eT2 eS eS)) := ⟨_, fnM_run (o := noO) (l := noO) (p := fun m0 a => [some (eR m0), some (eI a.1), some (eS a.2.1), some (eS a.2.2.1), none, none, none, none, none]) (fun m0 a => xs_par 4 5 (xp_lst0 eS) (xp_lst0 eS) (fun v_phrases_so0 v_codes_so1 => xs_forE (fun s5 : (D) × (List (List Nat)) × (List (List Nat)) => ([some (eR s5.1), none, some (eS a.2.1), some (eS a.2.2.1), some ((eW eS) s5.2.1), some ((eW eS) s5.2.2), none, none, none] : Pat)) (fun m3 => (m3, v_phrases_so0, v_codes_so1)) (fun _ => ws (wn (ws (ws (ws (ws (wn (wn (wn w0))))))))) (xie_range1 (xoe_val (xe_bin (xo_up rfl (xo_val (xp_int))) (fun _ => xoe_val (xe_callM 0 (xae_up rfl (xa_cons (xo_val (xp_name 1 (e := eI) rfl)) (xa_nil)))))))) (fun _ => xg_set 6) (fun s4 a6 => xs_parE 7 8 (xe_fz (xe_callM 0 (xae_up rfl (xa_cons (xo_val (xp_int)) (xa_cons (xo_val (xp_name 2 (e := eS) rfl)) (xa_nil)))))) (fun _ => xe_fz (xe_callM 0 (xae_up rfl (xa_cons (xo_val (xp_int)) (xa_cons (xo_val (xp_name 3 (e := eS) rfl)) (xa_nil)))))) (fun v_one7 v_other8 m7 => xs_ifp (xt_and (xt_tst (xp_bin (xo_loc 7 (e := eS) rfl) (xo_loc 4 (e := (eW eS)) rfl))) (xt_tst (xp_bin (xo_loc 8 (e := eS) rfl) (xo_loc 5 (e := (eW eS)) rfl)))) (xs_app 4 rfl (xp_name 7 (e := eS) rfl) (fun y10 => xs_last (xs_app 5 rfl (xp_name 8 (e := eS) rfl) (fun y11 => xs_nx (m7, (s4.2.1 ++ [y10]), (s4.2.2 ++ [y11])) (ws (wn (ws (ws (ws (ws (wn (wn (wn w0))))))))))))) (xs_nx (m7, s4.2.1, s4.2.2) (ws (wn (ws (ws (ws (ws (wn (wn (wn w0)))))))))))) (fun s12 => xs_ret (xr_mtz 3 4 (e := eS) (e' := eS) rfl rfl rfl (by decide))))) (fun _ _ => fit_s (fit_s (fit_s (fit_s (fit_n (fit_n (fit_n (fit_n (fit_n fit_0))))))))) (fun _ => rfl)⟩
instance : FnMT G__law_book (consE eI (consE eS (consE eS nilE))) (eTL (eT2 eS eS)) S__law_book.op := S__law_book.run
noncomputable def S_is_word : FnS G_is_word (consE eS (consE eI (consE eI nilE))) eB := ⟨_, fn_run (o := noO) (l := noO) (p := fun a => [some (eS a.1), some (eI a.2.1), some (eI a.2.2.1), none]) noD noD_ok (fun a => xs_ret (xr_p (xp_and (xp_isi (xo_loc 0 (e := eS) rfl)) (xp_and (xp_chain (xo_loc 1 (e := eI) rfl) (xo_val (xp_callB (g := lenG) (es := consE eS nilE) (xa_cons (xo_loc 0 (e := eS) rfl) (xa_nil)))) (xo_loc 2 (e := eI) rfl)) (xp_callB (xa_cons (xo_val (xp_lc (xi_val (xp_name 0 (e := eS) rfl)) (xg_set 3) (fun _ => xt_yes) (fun _ => xp_bin (xo_loc 3 (e := eS) rfl) (xo_val (xp_str [97, 98, 99, 100, 101, 102, 103, 104, 105, 106, 107, 108, 109, 110, 111, 112, 113, 114, 115, 116, 117, 118, 119, 120, 121, 122, 48, 49, 50, 51, 52, 53, 54, 55, 56, 57] (by decide +kernel)))))) (xa_nil))))))) (fun _ => fit_s (fit_s (fit_s (fit_n fit_0)))) (fun _ => rfl)⟩
instance : FnT G_is_word (consE eS (consE eI (consE eI nilE))) eB S_is_word.op := S_is_word.run
noncomputable def S_is_pair : FnS G_is_pair (consE (eT2 eS eS) nilE) eB := ⟨_, fn_run (o := noO) (l := noO) (p := fun a => [some ((eT2 eS eS) a.1)]) noD noD_ok (fun a => xs_ifr (xt_or (xt_not (xt_tst (xp_isi (xo_loc 0 (e := (eT2 eS eS)) rfl)))) (xt_tst (xp_bin (xo_val (xp_callB (g := lenG) (es := consE (eT2 eS eS) nilE) (xa_cons (xo_loc 0 (e := (eT2 eS eS)) rfl) (xa_nil)))) (xo_val (xp_int))))) (xs_ret (xr_p (xp_bl))) (xs_ret (xr_p (xp_and (xp_call (xa_cons (xo_val (xp_fz (xp_ixk (xo_loc 0 (e := (eT2 eS eS)) rfl)))) (xa_cons (xo_val (xp_int)) (xa_cons (xo_val (xp_int)) (xa_nil))))) (xp_call (xa_cons (xo_val (xp_fz (xp_ixk (xo_loc 0 (e := (eT2 eS eS)) rfl)))) (xa_cons (xo_val (xp_int)) (xa_cons (xo_val (xp_int)) (xa_nil))))))))) (fun _ => fit_s fit_0) (fun _ => rfl)⟩
instance : FnT G_is_pair (consE (eT2 eS eS) nilE) eB S_is_pair.op := S_is_pair.run
noncomputable def S_need_book : FnS G_need_book (consE (eTL (eT2 eS eS)) nilE) (eTL (eT2 eS eS)) := ⟨_, fn_run (o := noO) (l := noO) (p := fun a => [some ((eTL (eT2 eS eS)) a.1), none, none, none, none]) noD noD_ok (fun a => xs_ifr (xt_or (xt_not (xt_tst (xp_isi (xo_loc 0 (e := (eTL (eT2 eS eS))) rfl)))) (xt_not (xt_tst (xp_chain (xo_val (xp_int)) (xo_val (xp_callB (g := lenG) (es := consE (eTL (eT2 eS eS)) nilE) (xa_cons (xo_loc 0 (e := (eTL (eT2 eS eS))) rfl) (xa_nil)))) (xo_val (xp_int)))))) (xs_never) (xs_par 1 2 (xp_dict0 kS eB) (xp_dict0 kS eB) (fun v_phrases0 v_codes1 => xs_for (fun s4 : (List ((List Nat) × (Bool))) × (List ((List Nat) × (Bool))) => ([some ((eTL (eT2 eS eS)) a.1), some ((eDW kS eB) s4.1), some ((eDW kS eB) s4.2), none, none] : Pat)) (v_phrases0, v_codes1) (ws (ws (ws (wn (wn w0))))) (xi_enum (xp_name 0 (e := (eTL (eT2 eS eS))) rfl)) (fun _ => xg_tup2 (xg_set 3) (fun _ => xg_set 4)) (fun s3 a5 => xs_ifr (xt_or (xt_not (xt_tst (xp_call (xa_cons (xo_val (xp_name 4 (e := (eT2 eS eS)) rfl)) (xa_nil))))) (xt_or (xt_tst (xp_bin (xo_val (xp_ixk (xo_loc 4 (e := (eT2 eS eS)) rfl))) (xo_loc 1 (e := (eDW kS eB)) rfl))) (xt_tst (xp_bin (xo_val (xp_ixk (xo_loc 4 (e := (eT2 eS eS)) rfl))) (xo_loc 2 (e := (eDW kS eB)) rfl))))) (xs_never) (xs_stD 1 (ek := eS) (k := kS) (e := eB) rfl (xp_bl) (xo_val (xp_ixk (xo_loc 4 (e := (eT2 eS eS)) rfl))) (fun v_phrases5 => xs_last (xs_stD 2 (ek := eS) (k := kS) (e := eB) rfl (xp_bl) (xo_val (xp_ixk (xo_loc 4 (e := (eT2 eS eS)) rfl))) (fun v_codes6 => xs_nx (v_phrases5, v_codes6) (ws (ws (ws (wn (wn w0)))))))))) (fun s8 => xs_ret (xr_move 0 (e := (eTL (eT2 eS eS))) rfl))))) (fun _ => fit_s (fit_n (fit_n (fit_n (fit_n fit_0))))) (fun _ => rfl)⟩
instance : FnT G_need_book (consE (eTL (eT2 eS eS)) nilE) (eTL (eT2 eS eS)) S_need_book.op := S_need_book.run
noncomputable def S_book_text : FnS G_book_text (consE (eTL (eT2 eS eS)) nilE) eS := ⟨_, fn_run (o := noO) (l := noO) (p := fun a => [some ((eTL (eT2 eS eS)) a.1), none]) noD noD_ok (fun a => xs_ret (xr_p (xp_m1 (xo_val (xp_str [10] (by decide +kernel))) (xo_val (xp_lc (xi_val (xp_fz (xp_call (xa_cons (xo_val (xp_name 0 (e := (eTL (eT2 eS eS))) rfl)) (xa_nil))))) (xg_set 1) (fun _ => xt_yes) (fun _ => xp_m1 (xo_val (xp_str [32] (by decide +kernel))) (xo_as (e := (eT2 eS eS)) (e' := (eTL eS)) (fun x => [x.1, x.2]) (fun _ => rfl) (xo_loc 1 (e := (eT2 eS eS)) rfl)))))))) (fun _ => fit_s (fit_n fit_0)) (fun _ => rfl)⟩
instance : FnT G_book_text (consE (eTL (eT2 eS eS)) nilE) eS S_book_text.op := S_book_text.run
noncomputable def S_is_pair_2 : FnS G_is_pair (consE (eTL eS) nilE) eB := ⟨_, fn_run (o := noO) (l := noO) (p := fun a => [some ((eTL eS) a.1)]) noD noD_ok (fun a => xs_ifr (xt_or (xt_not (xt_tst (xp_isi (xo_loc 0 (e := (eTL eS)) rfl)))) (xt_tst (xp_bin (xo_val (xp_callB (g := lenG) (es := consE (eTL eS) nilE) (xa_cons (xo_loc 0 (e := (eTL eS)) rfl) (xa_nil)))) (xo_val (xp_int))))) (xs_ret (xr_p (xp_bl))) (xs_ret (xr_p (xp_and (xp_call (xa_cons (xo_val (xp_fz (xp_bin (xo_loc 0 (e := (eTL eS)) rfl) (xo_val (xp_int))))) (xa_cons (xo_val (xp_int)) (xa_cons (xo_val (xp_int)) (xa_nil))))) (xp_call (xa_cons (xo_val (xp_fz (xp_bin (xo_loc 0 (e := (eTL eS)) rfl) (xo_val (xp_int))))) (xa_cons (xo_val (xp_int)) (xa_cons (xo_val (xp_int)) (xa_nil))))))))) (fun _ => fit_s fit_0) (fun _ => rfl)⟩
instance : FnT G_is_pair (consE (eTL eS) nilE) eB S_is_pair_2.op := S_is_pair_2.run
noncomputable def S_read_book : FnS G_read_book (consE eS nilE) (eTL (eTL eS)) := ⟨_, fn_run (o := noO) (l := noO) (p := fun a => [some (eS a.1), none, none, none, none, none, none]) noD noD_ok (fun a => xs_ifr (xt_not (xt_tst (xp_isi (xo_loc 0 (e := eS) rfl)))) (xs_never) (xs_par3 1 2 3 (xp_lst0 (eTL eS)) (xp_dict0 kS eB) (xp_dict0 kS eB) (fun v_found0 v_phrases1 v_codes2 => xs_for (fun s5 : (List (List (List Nat))) × (List ((List Nat) × (Bool))) × (List ((List Nat) × (Bool))) => ([none, some ((eW (eTL eS)) s5.1), some ((eDW kS eB) s5.2.1), some ((eDW kS eB) s5.2.2), none, none, none] : Pat)) (v_found0, v_phrases1, v_codes2) (wn (ws (ws (ws (wn (wn (wn w0))))))) (xi_enum (xp_fzW (xp_m1 (xo_loc 0 (e := eS) rfl) (xo_val (xp_str [10] (by decide +kernel)))))) (fun _ => xg_tup2 (xg_set 4) (fun _ => xg_set 5)) (fun s4 a6 => xs_set 6 (xp_fz (xp_callB (xa_cons (xo_val (xp_m1 (xo_loc 5 (e := eS) rfl) (xo_val (xp_str [32] (by decide +kernel))))) (xa_nil)))) (fun v_pair6 => xs_ifr (xt_or (xt_tst (xp_bin (xo_loc 4 (e := eI) rfl) (xo_val (xp_int)))) (xt_or (xt_not (xt_tst (xp_call (xa_cons (xo_val (xp_name 6 (e := (eTL eS)) rfl)) (xa_nil))))) (xt_or (xt_tst (xp_bin (xo_val (xp_bin (xo_loc 6 (e := (eTL eS)) rfl) (xo_val (xp_int)))) (xo_loc 2 (e := (eDW kS eB)) rfl))) (xt_tst (xp_bin (xo_val (xp_bin (xo_loc 6 (e := (eTL eS)) rfl) (xo_val (xp_int)))) (xo_loc 3 (e := (eDW kS eB)) rfl)))))) (xs_never) (xs_stD 2 (ek := eS) (k := kS) (e := eB) rfl (xp_bl) (xo_val (xp_bin (xo_loc 6 (e := (eTL eS)) rfl) (xo_val (xp_int)))) (fun v_phrases7 => xs_stD 3 (ek := eS) (k := kS) (e := eB) rfl (xp_bl) (xo_val (xp_bin (xo_loc 6 (e := (eTL eS)) rfl) (xo_val (xp_int)))) (fun v_codes8 => xs_last (xs_app 1 rfl (xp_name 6 (e := (eTL eS)) rfl) (fun y10 => xs_nx ((s4.1 ++ [y10]), v_phrases7, v_codes8) (wn (ws (ws (ws (wn (wn (wn w0)))))))))))))) (fun s11 => xs_ret (xr_p (xp_callB (xa_cons (xo_loc 1 (e := (eW (eTL eS))) rfl) (xa_nil)))))))) (fun _ => fit_s (fit_n (fit_n (fit_n (fit_n (fit_n (fit_n fit_0))))))) (fun _ => rfl)⟩
instance : FnT G_read_book (consE eS nilE) (eTL (eTL eS)) S_read_book.op := S_read_book.run
noncomputable def S__law_book_right : FnS G__law_book_right (consE (eTL (eT2 eS eS)) nilE) eB := ⟨_, fn_run (o := noO) (l := noO) (p := fun a => [some ((eTL (eT2 eS eS)) a.1), none, none, none, none]) noD noD_ok (fun a => xs_set 1 (xp_fz (xp_m1 (xo_val (xp_str [10] (by decide +kernel))) (xo_val (xp_lc (xi_val (xp_name 0 (e := (eTL (eT2 eS eS))) rfl)) (xg_tup2 (xg_set 3) (fun _ => xg_set 4)) (fun _ => xt_yes) (fun _ => xp_bin (xo_val (xp_bin (xo_loc 3 (e := eS) rfl) (xo_val (xp_str [32] (by decide +kernel))))) (xo_loc 4 (e := eS) rfl)))))) (fun v_due0 => xs_set 2 (xp_fzW (xp_callB (xa_cons (xo_val (xp_as (e := eS) (e' := eA) (fun x => eS x) (fun x => (Frz.frz (e := eS) x).symm) (xp_fz (xp_call (xa_cons (xo_val (xp_name 0 (e := (eTL (eT2 eS eS))) rfl)) (xa_nil)))))) (xa_cons (xo_val (xp_as (e := (eTL (eTL eS))) (e' := eA) (fun x => (eTL (eTL eS)) x) (fun x => (Frz.frz (e := (eTL (eTL eS))) x).symm) (xp_fz (xp_call (xa_cons (xo_val (xp_name 1 (e := eS) rfl)) (xa_nil)))))) (xa_cons (xo_val (xp_as (e := eS) (e' := eA) (fun x => eS x) (fun x => (Frz.frz (e := eS) x).symm) (xp_fz (xp_call (xa_cons (xo_val (xp_name 0 (e := (eTL (eT2 eS eS))) rfl)) (xa_nil)))))) (xa_cons (xo_val (xp_as (e := (eTL (eTL eS))) (e' := eA) (fun x => (eTL (eTL eS)) x) (fun x => (Frz.frz (e := (eTL (eTL eS))) x).symm) (xp_fz (xp_call (xa_cons (xo_val (xp_name 1 (e := eS) rfl)) (xa_nil)))))) (xa_nil))))))) (fun v_heard1 => xs_ret (xr_p (xp_bin (xo_val (xp_callB (xa_cons (xo_loc 2 (e := (eL eA)) rfl) (xa_nil)))) (xo_val (xp_callB (xa_cons (xo_val (xp_bin (xo_val (xp_callB (xa_cons (xo_val (xp_as (e := eS) (e' := eA) (fun x => eS x) (fun x => (Frz.frz (e := eS) x).symm) (xp_name 1 (e := eS) rfl))) (xa_cons (xo_val (xp_as (e := (eTL (eT2 eS eS))) (e' := eA) (fun x => (eTL (eT2 eS eS)) x) (fun x => (Frz.frz (e := (eTL (eT2 eS eS))) x).symm) (xp_name 0 (e := (eTL (eT2 eS eS))) rfl))) (xa_nil))))) (xo_val (xp_int)))) (xa_nil))))))))) (fun _ => fit_s (fit_n (fit_n (fit_n (fit_n fit_0))))) (fun _ => rfl)⟩
instance : FnT G__law_book_right (consE (eTL (eT2 eS eS)) nilE) eB S__law_book_right.op := S__law_book_right.run
noncomputable def S_law : FnS G_law (consE (eL eI) nilE) eB := ⟨_, fn_run (o := noO) (l := noO) (p := fun a => [some ((eL eI) a.1), none, none, none, none, none, none, none, none, none, none, none]) noD noD_ok (fun a => xs_set 1 (xp_call (xa_cons (xo_val (xp_name 0 (e := (eL eI)) rfl)) (xa_nil))) (fun v_m0 => xs_for (fun s3 : (D) => ([none, some (eR s3), none, none, none, none, none, none, none, none, none, none] : Pat)) v_m0 (wn (ws (wn (wn (wn (wn (wn (wn (wn (wn (wn (wn w0)))))))))))) (xi_range1 (xo_val (xp_bin (xo_val (xp_int)) (xo_val (xp_callB (xa_cons (xo_val (xp_callB (g := lenG) (es := consE (eL eI) nilE) (xa_cons (xo_loc 0 (e := (eL eI)) rfl) (xa_nil)))) (xa_cons (xo_val (xp_int)) (xa_nil)))))))) (fun _ => xg_set 2) (fun s2 a4 => xs_parE 3 4 (xe_fz (xe_callM 1 (xae_cons (xo_up rfl (xo_val (xp_int))) (fun _ => xae_cons (xoe_val (xe_fz (xe_callM 1 (xae_up rfl (xa_cons (xo_val (xp_fzW (xp_callB (xa_cons (xo_val (xp_int)) (xa_cons (xo_val (xp_int)) (xa_nil)))))) (xa_nil)))))) (fun _ => xae_up rfl xa_nil))))) (fun _ => xe_fz (xe_callM 1 (xae_up rfl (xa_cons (xo_val (xp_int)) (xa_cons (xo_val (xp_int)) (xa_nil)))))) (fun v_one5 v_other6 m5 => xs_ifr (xt_or (xt_not (xt_tst (xp_call (xa_cons (xo_val (xp_name 3 (e := (eTL (eT3 eI eI eI))) rfl)) (xa_nil))))) (xt_not (xt_tst (xp_call (xa_cons (xo_val (xp_name 4 (e := (eTL (eT3 eI eI eI))) rfl)) (xa_nil)))))) (xs_ret (xr_p (xp_bl))) (xs_ifr (xt_tst (xp_bin (xo_val (xp_bin (xo_val (xp_call (xa_cons (xo_val (xp_name 3 (e := (eTL (eT3 eI eI eI))) rfl)) (xa_nil)))) (xo_val (xp_call (xa_cons (xo_val (xp_name 4 (e := (eTL (eT3 eI eI eI))) rfl)) (xa_nil)))))) (xo_val (xp_bin (xo_loc 3 (e := (eTL (eT3 eI eI eI))) rfl) (xo_loc 4 (e := (eTL (eT3 eI eI eI))) rfl))))) (xs_ret (xr_p (xp_bl))) (xs_parE 5 6 (xe_fz (xe_callM 1 (xae_up rfl (xa_cons (xo_val (xp_int)) (xa_cons (xo_val (xp_str [97, 98, 99, 120, 121, 122, 48, 49, 57] (by decide +kernel))) (xa_cons (xo_val (xp_str [97, 98, 122, 48, 57] (by decide +kernel))) (xa_nil))))))) (fun _ => xe_fz (xe_callM 1 (xae_up rfl (xa_cons (xo_val (xp_int)) (xa_cons (xo_val (xp_str [97, 98] (by decide +kernel))) (xa_cons (xo_val (xp_str [97, 98] (by decide +kernel))) (xa_nil))))))) (fun v_mine8 v_yours9 m8 => xs_ifr (xt_or (xt_not (xt_tst (xp_call (xa_cons (xo_val (xp_name 5 (e := (eTL (eT2 eS eS))) rfl)) (xa_nil))))) (xt_not (xt_tst (xp_call (xa_cons (xo_val (xp_name 6 (e := (eTL (eT2 eS eS))) rfl)) (xa_nil)))))) (xs_ret (xr_p (xp_bl))) (xs_ifp (xt_tst (xp_bin (xo_val (xp_bin (xo_val (xp_call (xa_cons (xo_val (xp_name 5 (e := (eTL (eT2 eS eS))) rfl)) (xa_nil)))) (xo_val (xp_call (xa_cons (xo_val (xp_name 6 (e := (eTL (eT2 eS eS))) rfl)) (xa_nil)))))) (xo_val (xp_bin (xo_loc 5 (e := (eTL (eT2 eS eS))) rfl) (xo_loc 6 (e := (eTL (eT2 eS eS))) rfl))))) (xs_ret (xr_p (xp_bl))) (xs_nx m8 (wn (ws (wn (wn (wn (wn (wn (wn (wn (wn (wn (wn w0))))))))))))))))))) (fun s11 => xs_set 7 (xp_fz (xp_callB (xa_cons (xo_val (xp_lc (xi_range1 (xo_val (xp_int))) (xg_set 11) (fun _ => xt_yes) (fun _ => xp_callB (xa_cons (xo_val (xp_int)) (xa_cons (xo_val (xp_fz (xp_bin (xo_val (xp_int)) (xo_loc 11 (e := eI) rfl)))) (xa_cons (xo_val (xp_name 11 (e := eI) rfl)) (xa_nil))))))) (xa_nil)))) (fun v_great11 => xs_for (fun s14 : Unit => ([none, none, none, none, none, none, none, none, none, none, none, none] : Pat)) () (wn (wn (wn (wn (wn (wn (wn (wn (wn (wn (wn (wn w0)))))))))))) (xi_val (xp_as (e := (eT4 (eTL (eT3 eI eI eI)) (eTL (eT3 eI eI eI)) (eTL (eT3 eI eI eI)) (eTL (eT3 eI eI eI)))) (e' := (eTL (eTL (eT3 eI eI eI)))) (fun x => [x.1, x.2.1, x.2.2.1, x.2.2.2]) (fun _ => rfl) (xp_fz (xp_callB (xa_cons (xo_val (xp_name 7 (e := (eTL (eT3 eI eI eI))) rfl)) (xa_cons (xo_val (xp_fz (xp_callB (xa_cons (xo_val (xp_fz (xp_callB (xa_cons (xo_val (xp_int)) (xa_cons (xo_val (xp_int)) (xa_cons (xo_val (xp_int)) (xa_nil))))))) (xa_nil))))) (xa_cons (xo_val (xp_fz (xp_bin (xo_val (xp_callB (xa_cons (xo_val (xp_fz (xp_callB (xa_cons (xo_val (xp_int)) (xa_cons (xo_val (xp_int)) (xa_cons (xo_val (xp_int)) (xa_nil))))))) (xa_nil)))) (xo_val (xp_int))))) (xa_cons (xo_val (xp_fz (xp_callB (xa_cons (xo_val (xp_fz (xp_callB (xa_cons (xo_val (xp_int)) (xa_cons (xo_val (xp_int)) (xa_cons (xo_val (xp_int)) (xa_nil))))))) (xa_nil))))) (xa_nil))))))))) (fun _ => xg_set 8) (fun s13 a15 => xs_ifp (xt_not (xt_tst (xp_call (xa_cons (xo_val (xp_name 8 (e := (eTL (eT3 eI eI eI))) rfl)) (xa_nil))))) (xs_ret (xr_p (xp_bl))) (xs_nx () (wn (wn (wn (wn (wn (wn (wn (wn (wn (wn (wn (wn w0)))))))))))))) (fun s16 => xs_set 9 (xp_fz (xp_callB (xa_cons (xo_val (xp_lc (xi_range1 (xo_val (xp_int))) (xg_set 11) (fun _ => xt_yes) (fun _ => xp_callB (xa_cons (xo_val (xp_fz (xp_bin (xo_val (xp_str [112] (by decide +kernel))) (xo_val (xp_callB (xa_cons (xo_loc 11 (e := eI) rfl) (xa_nil))))))) (xa_cons (xo_val (xp_fz (xp_bin (xo_val (xp_str [99] (by decide +kernel))) (xo_val (xp_callB (xa_cons (xo_loc 11 (e := eI) rfl) (xa_nil))))))) (xa_nil)))))) (xa_nil)))) (fun v_rows16 => xs_for (fun s19 : Unit => ([none, none, none, none, none, none, none, none, none, none, none, none] : Pat)) () (wn (wn (wn (wn (wn (wn (wn (wn (wn (wn (wn (wn w0)))))))))))) (xi_val (xp_as (e := (eT3 (eTL (eT2 eS eS)) (eTL (eT2 eS eS)) (eT2 (eT2 eS eS) (eT2 eS eS)))) (e' := (eTL (eTL (eT2 eS eS)))) (fun x => [x.1, x.2.1, (fun x => [x.1, x.2]) (x.2.2)]) (fun _ => rfl) (xp_fz (xp_callB (xa_cons (xo_val (xp_name 9 (e := (eTL (eT2 eS eS))) rfl)) (xa_cons (xo_val (xp_fz (xp_callB (xa_cons (xo_val (xp_fz (xp_callB (xa_cons (xo_val (xp_str [97] (by decide +kernel))) (xa_cons (xo_val (xp_str [48] (by decide +kernel))) (xa_nil)))))) (xa_nil))))) (xa_cons (xo_val (xp_fz (xp_callB (xa_cons (xo_val (xp_fz (xp_callB (xa_cons (xo_val (xp_str [97, 98, 99, 100, 101, 102, 103, 104] (by decide +kernel))) (xa_cons (xo_val (xp_str [48, 49, 50, 51, 52] (by decide +kernel))) (xa_nil)))))) (xa_cons (xo_val (xp_fz (xp_callB (xa_cons (xo_val (xp_str [122, 122, 122, 122, 122, 122, 122, 122] (by decide +kernel))) (xa_cons (xo_val (xp_str [57, 57, 57, 57, 57] (by decide +kernel))) (xa_nil)))))) (xa_nil)))))) (xa_nil)))))))) (fun _ => xg_set 10) (fun s18 a20 => xs_ifp (xt_not (xt_tst (xp_call (xa_cons (xo_val (xp_name 10 (e := (eTL (eT2 eS eS))) rfl)) (xa_nil))))) (xs_ret (xr_p (xp_bl))) (xs_nx () (wn (wn (wn (wn (wn (wn (wn (wn (wn (wn (wn (wn w0)))))))))))))) (fun s21 => xs_ret (xr_p (xp_bin (xo_val (xp_call (xa_cons (xo_val (xp_fz (xp_tupL (xa_cons (xo_val (xp_fz (xp_callB (xa_cons (xo_val (xp_str [97, 98, 49] (by decide +kernel))) (xa_cons (xo_val (xp_str [48] (by decide +kernel))) (xa_nil)))))) (xa_cons (xo_val (xp_fz (xp_callB (xa_cons (xo_val (xp_str [122] (by decide +kernel))) (xa_cons (xo_val (xp_str [122, 122] (by decide +kernel))) (xa_nil)))))) (xa_nil)))))) (xa_nil)))) (xo_val (xp_str [97, 98, 49, 32, 48, 10, 122, 32, 122, 122] (by decide +kernel)))))))))))) (fun _ => fit_s (fit_n (fit_n (fit_n (fit_n (fit_n (fit_n (fit_n (fit_n (fit_n (fit_n (fit_n fit_0)))))))))))) (fun _ => rfl)⟩
instance : FnT G_law (consE (eL eI) nilE) eB S_law.op := S_law.run
end K88

/-! joined texts and their parts; the signs of numbers -/
namespace Tx
open PySem L2 DL
theorem joinL_eq (s : List Nat) (ys : List (List Nat)) : DL.joinL s ys = TL.joinL s ys := by
  unfold DL.joinL
  rw [TL.join_eq]
  show TL.tl (Str.join (T s) (ys.map T)) = _
  rw [TL.tl_join, List.map_map]
  have : ys.map (TL.tl ∘ T) = ys := by
    have : ∀ y ∈ ys, (TL.tl ∘ T) y = id y := fun y _ => T_cps y
    rw [List.map_congr_left this, List.map_id]
  rw [this]
theorem sum_le {b : Nat} : ∀ {ys : List (List Nat)}, (∀ y ∈ ys, y.length ≤ b) → (ys.map (·.length)).sum ≤ ys.length * b
  | [], _ => Nat.zero_le _
  | y :: ys, h => by
    have := sum_le fun z hz => h z (List.mem_cons_of_mem y hz)
    have := h y List.mem_cons_self
    simp only [List.map_cons, List.sum_cons, List.length_cons, Nat.add_mul]
    omega
theorem joinM_ok {s : Nat} {b : Nat} {ys : List (List Nat)} (h : ∀ y ∈ ys, y.length ≤ b) (hb : b ≤ 1000) (hl : ys.length ≤ 1000) : joinM [s] ys = .ok (TL.joinL [s] ys) := by
  unfold joinM
  have h1 := sum_le h
  have h2 : ys.length * b ≤ 1000 * 1000 := Nat.mul_le_mul hl hb
  rw [M.grd_pos (by simp; omega), joinL_eq]
theorem joinL_len {s b : Nat} : ∀ {ys : List (List Nat)}, (∀ y ∈ ys, y.length ≤ b) → (TL.joinL [s] ys).length ≤ ys.length * (b + 1)
  | [], _ => Nat.zero_le _
  | [y], h => by
    have := h y List.mem_cons_self
    show y.length ≤ 1 * (b + 1)
    omega
  | y :: z :: ys, h => by
    have i := joinL_len (s := s) (ys := z :: ys) fun w hw => h w (List.mem_cons_of_mem y hw)
    have := h y List.mem_cons_self
    show (y ++ ([s] ++ TL.joinL [s] (z :: ys))).length ≤ ((z :: ys).length + 1) * (b + 1)
    rw [List.length_append, List.length_append, Nat.add_mul]
    simp only [List.length_singleton]
    omega
theorem joinL_mem {s : Nat} {P : Nat → Prop} (hs : P s) : ∀ {ys : List (List Nat)}, (∀ y ∈ ys, ∀ c ∈ y, P c) → ∀ c ∈ TL.joinL [s] ys, P c
  | [], _, c, hc => by simp [TL.joinL] at hc
  | [y], h, c, hc => h y List.mem_cons_self c hc
  | y :: z :: ys, h, c, hc => by
    have hc : c ∈ y ++ ([s] ++ TL.joinL [s] (z :: ys)) := hc
    rcases List.mem_append.mp hc with hc | hc
    · exact h y List.mem_cons_self c hc
    · rcases List.mem_append.mp hc with hc | hc
      · rw [List.mem_singleton.mp hc]; exact hs
      · exact joinL_mem hs (fun w hw => h w (List.mem_cons_of_mem y hw)) c hc
theorem splitM_ok {s : Nat} {ys : List (List Nat)} (hs : s < 256) (hne : ys ≠ []) (hf : ∀ y ∈ ys, s ∉ y) (hl : (TL.joinL [s] ys).length ≤ 1000000) : splitM (TL.joinL [s] ys) [s] = .ok ys := by
  unfold splitM
  have hB : (1000002 : Nat) ≤ sizeLine := by decide
  rw [M.grd_pos ⟨rfl, by omega⟩]
  have e : T (TL.joinL [s] ys) = Txt.join (T [s]) (ys.map T) := by
    rw [← joinL_eq]; unfold DL.joinL; rw [T_of]
  rw [e, TL.split_join (y := T [s]) (s := s) (S := []) (T_cps [s]) (by show [s].toArray.all _ = true; simp [hs]) (by simpa using hne) (fun p hp => by
    obtain ⟨y, hy, rfl⟩ := List.mem_map.mp hp
    show s ∉ (T y).cps.toList
    rw [T_cps]; exact hf y hy), List.map_map]
  have : ∀ y ∈ ys, ((fun z : Str => z.cps.toList) ∘ T) y = id y := fun y _ => T_cps y
  rw [List.map_congr_left this, List.map_id]
theorem joinL_inj {s : Nat} {xs ys : List (List Nat)} (h1 : xs ≠ []) (h2 : ys ≠ []) (f1 : ∀ y ∈ xs, s ∉ y) (f2 : ∀ y ∈ ys, s ∉ y) (h : TL.joinL [s] xs = TL.joinL [s] ys) : xs = ys := by
  rw [← TL.spl_join (S := []) h1 f1, ← TL.spl_join (S := []) h2 f2, h]
theorem strM_ok {n : Nat} (h : n ≤ 1000) : strM (n : Int) = .ok (TL.numL n) := by
  unfold strM
  rw [M.grd_pos (log2_lt_of (by omega) (by omega))]
  exact congrArg M.ok (TL.tl_num n)
theorem T_num (n : Nat) : T (TL.numL n) = Str.ofString (toString ((n : Nat) : Int)) := by
  rw [← TL.tl_num n]
theorem num_len {n : Nat} (h : n ≤ 1000) : 1 ≤ (TL.numL n).length ∧ (TL.numL n).length ≤ 4 := ⟨List.length_pos_iff.mpr (TL.numL_ne n), TL.numL_len (k := 4) (by decide) (by omega)⟩
theorem intM_ok {n : Nat} (h : n ≤ 1000) : intM (TL.numL n) = .ok (n : Int) := by
  unfold intM
  have hl := (num_len h).2
  rw [T_num, TL.int_num (by omega)]
  show M.grd _ _ = _
  rw [M.grd_pos (by omega)]
theorem num_dig {n c : Nat} (h : c ∈ TL.numL n) : 48 ≤ c ∧ c ≤ 57 := by
  have r := TL.numL_digits n c h
  omega
theorem rp_eq {m m' : Bool} {xs : List D} : rp (.lst m xs) = rp (.lst m' xs) := rfl
theorem Sh.text {l : List Nat} {b : Nat} (h : ∀ c ∈ l, c < 256) (hb : l.length ≤ b) : Sh (eS l) b 0 := (Sh.str fun c hc => Nat.lt_of_lt_of_le (h c hc) (by decide)).up hb (Nat.le_refl _)
end Tx

/-! roads and books told and read: what the typed mirrors compute -/
namespace K88
open PySem PySem.Spec PyProof.Rows L2 DL Tx
structure Ok (s h a : Int) : Prop where
  s0 : 0 ≤ s
  s1 : s ≤ 1000
  h0 : 1 ≤ h
  h1 : h ≤ 1000
  a0 : 0 ≤ a
  a1 : a ≤ 1000
abbrev Tr := Int × Int × Int
structure Good (rd : List Tr) : Prop where
  ok : ∀ t ∈ rd, Ok t.1 t.2.1 t.2.2
  l1 : 1 ≤ rd.length
  l2 : rd.length ≤ 40
theorem enumL_get {α : Type} : ∀ (k : Nat) (xs : List α) (j : Nat), (enumL k xs)[j]? = (xs[j]?).map fun y => (((k + j : Nat) : Int), y)
  | _, [], j => by cases j <;> rfl
  | k, x :: xs, 0 => rfl
  | k, x :: xs, j + 1 => by
    show (enumL (k + 1) xs)[j]? = (xs[j]?).map _
    rw [enumL_get (k + 1) xs j, show k + 1 + j = k + (j + 1) by omega]
theorem enumL_len {α : Type} : ∀ (k : Nat) (xs : List α), (enumL k xs).length = xs.length
  | _, [] => rfl
  | k, _ :: xs => congrArg (· + 1) (enumL_len (k + 1) xs)
theorem enum_at {α : Type} {xs : List α} {j : Nat} {x : Int × α} (h : (enumL 0 xs)[j]? = some x) : x.1 = (j : Int) ∧ xs[j]? = some x.2 := by
  rw [enumL_get 0 xs j] at h
  obtain ⟨y, h1, h2⟩ := Option.map_eq_some_iff.mp h
  rw [← h2]; exact ⟨by simp, h1⟩
theorem sz40 {n : Nat} (h : n ≤ 1000000) : n ≤ sizeLine := Nat.le_trans h (by decide)
theorem whole_ok {i lo hi : Int} : S_is_whole.op (i, some lo, some hi, ()) = .ok (decide (lo ≤ i) && decide (i ≤ hi)) := by
  unfold S_is_whole
  simp -implicitDefEqProofs only [M.ok_bind, M.bind_assoc]
  refine M.sat.eq (sat_fin ?_)
  refine sat_step (a := false) rfl ?_
  simp -implicitDefEqProofs only [Bool.false_eq_true, if_false, Option.isNone_some]
  refine sat_step (a := decide (lo ≤ i)) rfl ?_
  by_cases c : lo ≤ i
  · simp only [decide_eq_true c, if_true]
    exact sat_step (a := decide (i ≤ hi)) rfl ⟨_, rfl, _, rfl, by simp⟩
  · simp only [decide_eq_false c, Bool.false_eq_true, if_false]
    exact sat_step (a := false) rfl ⟨_, rfl, _, rfl, by simp⟩
theorem whole_yes {i lo hi : Int} (h1 : lo ≤ i) (h2 : i ≤ hi) : S_is_whole.op (i, some lo, some hi, ()) = .ok true := by rw [whole_ok, decide_eq_true h1, decide_eq_true h2]; rfl
theorem triple_ok {t : Tr} (o : Ok t.1 t.2.1 t.2.2) : S_is_triple.op (t, ()) = .ok true := by
  unfold S_is_triple
  simp -implicitDefEqProofs only [M.ok_bind, M.bind_assoc]
  refine M.sat.eq (sat_fin ?_)
  have w1 : S_is_whole.op (t.2.1, some 1, some 1000, ()) = .ok true := whole_yes o.h0 o.h1
  have w0 : S_is_whole.op (t.1, some 0, some 1000, ()) = .ok true := whole_yes o.s0 o.s1
  have w2 : S_is_whole.op (t.2.2, some 0, some 1000, ()) = .ok true := whole_yes o.a0 o.a1
  refine sat_step (a := false) ?_ ?_
  · simp [w1, M.nox]
  simp -implicitDefEqProofs only [Bool.false_eq_true, if_false]
  refine sat_step (by rw [w0]; rfl) ?_
  simp -implicitDefEqProofs only [if_true]
  exact sat_step (by rw [w2]; rfl) ⟨_, rfl, _, rfl, rfl⟩
theorem need_ok {rd : List Tr} (g : Good rd) : S_need_road.op (rd, ()) = .ok rd := by
  unfold S_need_road
  simp -implicitDefEqProofs only [M.ok_bind, M.bind_assoc]
  refine M.sat.eq (sat_fin ?_)
  have c1 : (1 : Int) ≤ (rd.length : Int) := by have := g.l1; omega
  have c2 : (rd.length : Int) ≤ 40 := by have := g.l2; omega
  refine sat_step (a := false) ?_ ?_
  · simp [c1, c2]
  simp -implicitDefEqProofs only [Bool.false_eq_true, if_false]
  refine sat_seq (Q := fun _ => True) ((for_ok (fun _ _ => True) trivial fun j x s hx _ => ?_).imp fun c ⟨s, hc, _⟩ => ⟨s, hc, trivial⟩) fun s _ => ⟨_, rfl, _, rfl, rfl⟩
  have hm : x.2 ∈ rd := List.mem_of_getElem? (enum_at hx).2
  refine sat_step (by rw [triple_ok (g.ok _ hm)]; rfl) ?_
  simp only [Bool.not_true, Bool.false_eq_true, if_false]
  exact ⟨_, rfl, _, .inl rfl, trivial⟩
/-! ### the texts of roads -/
def nT (z : Int) : List Nat := TL.numL z.toNat
def lineP (t : Tr) : List (List Nat) := [nT t.1, nT t.2.1, nT t.2.2]
def lineT (t : Tr) : List Nat := TL.joinL [32] (lineP t)
def textR (rd : List Tr) : List Nat := TL.joinL [10] (rd.map lineT)
theorem nT_str {z : Int} (h0 : 0 ≤ z) (h1 : z ≤ 1000) : strM z = .ok (nT z) := by
  obtain ⟨n, rfl⟩ := Int.eq_ofNat_of_zero_le h0
  exact strM_ok (by omega)
theorem nT_int {z : Int} (h0 : 0 ≤ z) (h1 : z ≤ 1000) : intM (nT z) = .ok z := by
  obtain ⟨n, rfl⟩ := Int.eq_ofNat_of_zero_le h0
  exact intM_ok (by omega)
theorem nT_dig {z : Int} {c : Nat} (h : c ∈ nT z) : 48 ≤ c ∧ c ≤ 57 := num_dig h
theorem nT_len {z : Int} (h1 : z ≤ 1000) : 1 ≤ (nT z).length ∧ (nT z).length ≤ 4 := num_len (by omega)
theorem lineP_dig {t : Tr} : ∀ y ∈ lineP t, ∀ c ∈ y, 48 ≤ c ∧ c ≤ 57 := by
  intro y hy c hc
  simp only [lineP, List.mem_cons, List.not_mem_nil, or_false] at hy
  rcases hy with rfl | rfl | rfl <;> exact nT_dig hc
theorem lineP_len {t : Tr} (o : Ok t.1 t.2.1 t.2.2) : ∀ y ∈ lineP t, y.length ≤ 4 := by
  intro y hy
  simp only [lineP, List.mem_cons, List.not_mem_nil, or_false] at hy
  rcases hy with rfl | rfl | rfl
  · exact (nT_len o.s1).2
  · exact (nT_len o.h1).2
  · exact (nT_len o.a1).2
theorem lineT_sg {t : Tr} : ∀ c ∈ lineT t, c = 32 ∨ 48 ≤ c ∧ c ≤ 57 := joinL_mem (P := fun c => c = 32 ∨ 48 ≤ c ∧ c ≤ 57) (.inl rfl) fun y hy c hc => .inr (lineP_dig y hy c hc)
theorem lineT_len {t : Tr} (o : Ok t.1 t.2.1 t.2.2) : (lineT t).length ≤ 15 := joinL_len (lineP_len o)
theorem textR_sg {rd : List Tr} : ∀ c ∈ textR rd, c < 256 := joinL_mem (P := fun c => c < 256) (by decide) fun y hy c hc => by
  obtain ⟨t, _, rfl⟩ := List.mem_map.mp hy
  have := lineT_sg c hc
  omega
theorem textR_len {rd : List Tr} (g : Good rd) : (textR rd).length ≤ 640 := by
  have := joinL_len (s := 10) (b := 15) (ys := rd.map lineT) fun y hy => by
    obtain ⟨t, ht, rfl⟩ := List.mem_map.mp hy
    exact lineT_len (g.ok t ht)
  rw [List.length_map] at this
  have h2 : rd.length * (15 + 1) ≤ 40 * 16 := Nat.mul_le_mul_right _ g.l2
  exact Nat.le_trans this h2
theorem lines_ok {rd : List Tr} (g : Good rd) : (lcM (fun _ => M.ok true) (fun x : Tr => (lcM (fun _ => M.ok true) (fun x => strM x) (id [x.1, x.2.1, x.2.2]) 0).nox.bind fun y => joinM [32] y) (id rd) 0) = .ok (rd.map lineT) := by
  have hl := g.l2
  refine lcM_map lineT (sz40 (by show rd.length ≤ _; omega)) fun t ht => ?_
  have o := g.ok t ht
  have e : lcM (fun _ => M.ok true) (fun x => strM x) (id [t.1, t.2.1, t.2.2]) 0 = .ok ([t.1, t.2.1, t.2.2].map nT) := lcM_map nT (by show 3 ≤ sizeLine; decide) fun z hz => by
    simp only [id, List.mem_cons, List.not_mem_nil, or_false] at hz
    rcases hz with rfl | rfl | rfl
    · exact nT_str o.s0 o.s1
    · exact nT_str (by have := o.h0; omega) o.h1
    · exact nT_str o.a0 o.a1
  rw [e]
  show joinM [32] (lineP t) = _
  rw [joinM_ok (b := 4) (lineP_len o) (by decide) (by show 3 ≤ 1000; decide)]; rfl
theorem text_join {rd : List Tr} (g : Good rd) : joinM [10] (rd.map lineT) = .ok (textR rd) := by
  have hl := g.l2
  exact joinM_ok (b := 15) (fun y hy => by
    obtain ⟨t, ht, rfl⟩ := List.mem_map.mp hy
    exact lineT_len (g.ok t ht)) (by decide) (by rw [List.length_map]; omega)
theorem text_ok {rd : List Tr} (g : Good rd) : S_road_text.op (rd, ()) = .ok (textR rd) := by
  unfold S_road_text
  simp -implicitDefEqProofs only [M.ok_bind, M.bind_assoc]
  refine M.sat.eq (sat_fin ?_)
  exact sat_step (by rw [need_ok g]; rfl) (sat_step (by rw [lines_ok g]; rfl) (sat_step (text_join g) ⟨_, rfl, _, rfl, rfl⟩))
theorem all_true {α : Type} {xs : List α} : (List.map (fun _ => true) xs).all id = true := by
  rw [List.all_eq_true]
  intro b hb
  obtain ⟨_, _, rfl⟩ := List.mem_map.mp hb
  rfl
theorem int_of_ok {z : Int} (h0 : 0 ≤ z) (h1 : z ≤ 1000) : S_integer_of.op (nT z, ()) = .ok (some z) := by
  have hB : (100000 : Nat) ≤ sizeLine := by decide
  obtain ⟨l1, l2⟩ := nT_len h1
  unfold S_integer_of
  simp -implicitDefEqProofs only [M.ok_bind, M.bind_assoc]
  refine M.sat.eq (sat_fin ?_)
  refine sat_step (M.grd_pos (by omega)) (sat_step (a := true) (by rw [decide_eq_true (by omega), if_pos rfl, decide_eq_true (by omega)]) ?_)
  refine sat_step (a := false) ?_ ?_
  · simp only [Bool.not_true, Bool.false_eq_true, if_false]
    rw [lcM_map (fun _ => true) (by rw [chars_len]; omega) fun x hx => ?_]
    · show M.ok (!(List.map (fun _ => true) (chars (nT z))).all id) = _
      rw [all_true]; rfl
    · obtain ⟨c, hc, rfl⟩ := mem_chars hx
      have := nT_dig hc
      rw [inS_1]
      congr 1
      simp only [decide_eq_true_eq, List.mem_cons, List.not_mem_nil, or_false]
      omega
  simp only [Bool.false_eq_true, if_false]
  refine sat_step (nT_int h0 h1) (sat_step (nT_str h0 h1) (sat_step (M.grd_pos (by decide)) ?_))
  simp only [decide_true, if_true]
  exact sat_step (by rw [nT_int h0 h1]; rfl) ⟨_, rfl, _, rfl, rfl⟩
def tl3 (t : Tr) : List (Option Int) := [some t.1, some t.2.1, some t.2.2]
theorem triple2_ok {t : Tr} (o : Ok t.1 t.2.1 t.2.2) : S_is_triple_2.op (tl3 t, ()) = .ok true := by
  unfold S_is_triple_2
  simp -implicitDefEqProofs only [M.ok_bind, M.bind_assoc]
  refine M.sat.eq (sat_fin ?_)
  have i0 : ixM (tl3 t) 0 = .ok (some t.1) := ixM_at (i := 0) rfl
  have i1 : ixM (tl3 t) 1 = .ok (some t.2.1) := ixM_at (i := 1) rfl
  have i2 : ixM (tl3 t) 2 = .ok (some t.2.2) := ixM_at (i := 2) rfl
  have w1 : S_is_whole.op (t.2.1, some 1, some 1000, ()) = .ok true := whole_yes o.h0 o.h1
  have w0 : S_is_whole.op (t.1, some 0, some 1000, ()) = .ok true := whole_yes o.s0 o.s1
  have w2 : S_is_whole.op (t.2.2, some 0, some 1000, ()) = .ok true := whole_yes o.a0 o.a1
  refine sat_step (a := false) ?_ ?_
  · simp only [Bool.not_true, Bool.false_eq_true, if_false]
    refine M.sat.eq (sat_step (M.grd_pos (by decide)) ?_)
    have e : (((tl3 t).length : Int) = 3) := rfl
    simp only [e, decide_true, if_true, Bool.not_true, Bool.false_eq_true, if_false]
    exact sat_step i1 (sat_step (a := t.2.1) rfl (sat_step (by rw [w1]; rfl) ⟨_, rfl, rfl⟩))
  simp only [Bool.false_eq_true, if_false]
  refine sat_step i0 (sat_step (a := t.1) rfl (sat_step (by rw [w0]; rfl) ?_))
  simp only [if_true]
  exact sat_step (a := true) (M.sat.eq (sat_step i2 (sat_step (a := t.2.2) rfl ⟨_, by rw [w2]; rfl, rfl⟩))) ⟨_, rfl, _, rfl, rfl⟩
theorem textR_split {rd : List Tr} (g : Good rd) : splitM (textR rd) [10] = .ok (rd.map lineT) := by
  have := textR_len g
  refine splitM_ok (by decide) (fun e => ?_) (fun y hy => ?_) (by show (textR rd).length ≤ _; omega)
  · have := g.l1
    rw [List.map_eq_nil_iff.mp e] at this
    exact absurd this (by decide)
  · obtain ⟨t, _, rfl⟩ := List.mem_map.mp hy
    intro hc
    have := lineT_sg 10 hc
    omega
theorem lineT_split {t : Tr} (o : Ok t.1 t.2.1 t.2.2) : splitM (lineT t) [32] = .ok (lineP t) := by
  have := lineT_len o
  refine splitM_ok (by decide) (by simp [lineP]) (fun y hy hc => ?_) (by show (lineT t).length ≤ _; omega)
  have := lineP_dig y hy 32 hc
  omega
theorem read_ok {rd : List Tr} (g : Good rd) : S_read_road.op (textR rd, ()) = .ok (rd.map tl3) := by
  unfold S_read_road
  simp -implicitDefEqProofs only [M.ok_bind, M.bind_assoc, Bool.not_true, Bool.false_eq_true, if_false]
  have hl := g.l2
  refine M.sat.eq (sat_fin ?_)
  refine sat_seq (Q := (· = rd.map tl3)) ?_ fun s hs => ⟨_, rfl, _, rfl, hs⟩
  refine sat_step (textR_split g) ?_
  refine (for_ok (fun j s => s = (rd.take j).map tl3) rfl fun j x s hx hs => ?_).imp fun c ⟨s, hc, hs⟩ => ⟨s, hc, ?_⟩
  · obtain ⟨h1, h2⟩ := enum_at (xs := rd.map lineT) hx
    rw [List.getElem?_map] at h2
    obtain ⟨t, ht, h2⟩ := Option.map_eq_some_iff.mp h2
    have o := g.ok t (List.mem_of_getElem? ht)
    have hj : j < rd.length := (List.getElem?_eq_some_iff.mp ht).1
    rw [← h2]
    refine sat_step (lineT_split o) ?_
    have e : lcM (fun _ => M.ok true) (fun x => (S_integer_of.op (x, ())).nox) (id (lineP t)) 0 = .ok (tl3 t) := by
      have := lcM_map (f := fun x => (S_integer_of.op (x, ())).nox) (g := fun z => some (((NumText.digitsVal z : Nat) : Int))) (xs := lineP t) (by show 3 ≤ sizeLine; decide) fun z hz => by
        have h1 : ∀ z : Int, 0 ≤ z → z ≤ 1000 → (S_integer_of.op (nT z, ())).nox = .ok (some (((NumText.digitsVal (nT z) : Nat) : Int))) := fun z a b => by
          rw [int_of_ok a b, show NumText.digitsVal (nT z) = z.toNat from TL.numL_val _, Int.toNat_of_nonneg a]; rfl
        simp only [lineP, List.mem_cons, List.not_mem_nil, or_false] at hz
        rcases hz with rfl | rfl | rfl
        · exact h1 _ o.s0 o.s1
        · exact h1 _ (by have := o.h0; omega) o.h1
        · exact h1 _ o.a0 o.a1
      show lcM _ _ (lineP t) 0 = _
      rw [this]
      unfold lineP tl3 nT
      simp only [List.map_cons, List.map_nil, TL.numL_val]
      rw [Int.toNat_of_nonneg o.s0, Int.toNat_of_nonneg (show 0 ≤ t.2.1 by have := o.h0; omega), Int.toNat_of_nonneg o.a0]
    refine sat_step (by rw [e]; rfl) ?_
    have hB : (100000 : Nat) ≤ sizeLine := by decide
    have hsl : s.length ≤ 40 := by rw [hs, List.length_map, List.length_take]; omega
    refine sat_grd (by omega) ?_
    refine sat_step (a := false) ?_ ?_
    · rw [h1, decide_eq_false (by omega)]
      simp only [Bool.false_eq_true, if_false]
      rw [ixM_last]
      simp only [M.ok_bind, triple2_ok o, M.nox_ok, Bool.not_true]
    simp only [Bool.false_eq_true, if_false]
    refine ⟨_, rfl, _, .inl rfl, ?_⟩
    rw [hs, take_snoc ht, List.map_append]; rfl
  · show s = _
    rw [hs, show (enumL 0 (id (rd.map lineT))).length = rd.length by rw [enumL_len]; simp, List.take_length]
theorem textR_inj {a b : List Tr} (g : Good a) (k : Good b) (h : textR a = textR b) : a = b := by
  have e := read_ok g
  rw [h, read_ok k] at e
  have e : b.map tl3 = a.map tl3 := M.ok.inj e
  refine (List.map_inj_right (fun x y hxy => ?_)).mp e.symm
  simp only [tl3, List.cons.injEq, Option.some.injEq, and_true] at hxy
  exact Prod.ext hxy.1 (Prod.ext hxy.2.1 hxy.2.2)
/-! ### books -/
def Al : List Nat := [97, 98, 99, 100, 101, 102, 103, 104, 105, 106, 107, 108, 109, 110, 111, 112, 113, 114, 115, 116, 117, 118, 119, 120, 121, 122, 48, 49, 50, 51, 52, 53, 54, 55, 56, 57]
theorem Al_sg : ∀ c ∈ Al, 48 ≤ c ∧ c < 256 := by decide
structure Wd (w : List Nat) (hi : Nat) : Prop where
  l1 : 1 ≤ w.length
  l2 : w.length ≤ hi
  sg : ∀ c ∈ w, c ∈ Al
theorem Wd.sg2 {w : List Nat} {hi : Nat} (h : Wd w hi) : ∀ c ∈ w, 48 ≤ c ∧ c < 256 := fun c hc => Al_sg c (h.sg c hc)
abbrev Pr := List Nat × List Nat
structure Book (bk : List Pr) : Prop where
  w1 : ∀ p ∈ bk, Wd p.1 8
  w2 : ∀ p ∈ bk, Wd p.2 5
  n1 : (bk.map (·.1)).Nodup
  n2 : (bk.map (·.2)).Nodup
  l1 : 1 ≤ bk.length
  l2 : bk.length ≤ 40
theorem word_ok {w : List Nat} {hi : Nat} (h : Wd w hi) (hh : hi ≤ 1000) : S_is_word.op (w, 1, (hi : Int), ()) = .ok true := by
  have hB : (100000 : Nat) ≤ sizeLine := by decide
  have := h.l1
  have := h.l2
  unfold S_is_word
  simp -implicitDefEqProofs only [M.ok_bind, M.bind_assoc, if_true]
  refine M.sat.eq (sat_fin ?_)
  refine sat_step (M.grd_pos (by omega)) (sat_step (a := true) ?_ ?_)
  · rw [decide_eq_true (by omega), if_pos rfl, decide_eq_true (by omega)]
  simp only [if_true]
  refine sat_step (a := true) ?_ ⟨_, rfl, _, rfl, rfl⟩
  rw [lcM_map (fun _ => true) (by rw [chars_len]; omega) fun x hx => ?_]
  · show M.ok ((List.map (fun _ => true) (chars w)).all id) = _
    rw [all_true]
  · obtain ⟨c, hc, rfl⟩ := mem_chars hx
    simp only [Bool.false_eq_true, if_false]
    rw [inS_1]
    exact congrArg M.ok (decide_eq_true (h.sg c hc))
theorem pair_ok {p : Pr} (h1 : Wd p.1 8) (h2 : Wd p.2 5) : S_is_pair.op (p, ()) = .ok true := by
  have w1 : S_is_word.op (p.1, 1, 8, ()) = .ok true := word_ok h1 (by decide)
  have w2 : S_is_word.op (p.2, 1, 5, ()) = .ok true := word_ok h2 (by decide)
  unfold S_is_pair
  simp -implicitDefEqProofs only [M.ok_bind, M.bind_assoc]
  refine M.sat.eq (sat_fin ?_)
  refine sat_step (a := false) (by simp) ?_
  simp only [Bool.false_eq_true, if_false]
  refine sat_step (by rw [w1]; rfl) ?_
  simp only [if_true]
  exact sat_step (by rw [w2]; rfl) ⟨_, rfl, _, rfl, rfl⟩
theorem pair2_ok {p : Pr} (h1 : Wd p.1 8) (h2 : Wd p.2 5) : S_is_pair_2.op ([p.1, p.2], ()) = .ok true := by
  have w1 : S_is_word.op (p.1, 1, 8, ()) = .ok true := word_ok h1 (by decide)
  have w2 : S_is_word.op (p.2, 1, 5, ()) = .ok true := word_ok h2 (by decide)
  have i0 : ixM [p.1, p.2] 0 = .ok p.1 := ixM_at (i := 0) rfl
  have i1 : ixM [p.1, p.2] 1 = .ok p.2 := ixM_at (i := 1) rfl
  unfold S_is_pair_2
  simp -implicitDefEqProofs only [M.ok_bind, M.bind_assoc]
  refine M.sat.eq (sat_fin ?_)
  refine sat_step (a := false) (by simp [M.grd_pos]) ?_
  simp only [Bool.false_eq_true, if_false]
  refine sat_step i0 (sat_step (by rw [w1]; rfl) ?_)
  simp only [if_true]
  exact sat_step (a := true) (M.sat.eq (sat_step i1 ⟨_, by rw [w2]; rfl, rfl⟩)) ⟨_, rfl, _, rfl, rfl⟩
theorem nd_take {α β : Type} {f : α → β} {xs : List α} (h : (xs.map f).Nodup) {j : Nat} {x : α} (hx : xs[j]? = some x) : f x ∉ (xs.take j).map f ∧ ((xs.take j).map f).Nodup := by
  have e := take_snoc hx
  have s : ((xs.take (j + 1)).map f).Nodup := List.Nodup.sublist ((List.take_sublist _ _).map f) h
  rw [e, List.map_append, List.nodup_append] at s
  exact ⟨fun z => s.2.2 _ z _ (List.mem_singleton.mpr rfl) rfl, s.1⟩
theorem dput_new {κ α : Type} [DecidableEq κ] {s : List (κ × α)} {k : κ} {v : α} {ks : List κ} (h : s.map (·.1) = ks) (hk : k ∉ ks) : (dput s k v).map (·.1) = ks ++ [k] := by
  rw [dput_keys, h, if_neg hk]
theorem needb_ok {bk : List Pr} (g : Book bk) : S_need_book.op (bk, ()) = .ok bk := by
  have hB : (100000 : Nat) ≤ sizeLine := by decide
  have hl := g.l2
  unfold S_need_book
  simp -implicitDefEqProofs only [M.ok_bind, M.bind_assoc]
  refine M.sat.eq (sat_fin ?_)
  have c1 : (1 : Int) ≤ (bk.length : Int) := by have := g.l1; omega
  have c2 : (bk.length : Int) ≤ 40 := by have := g.l2; omega
  refine sat_step (a := false) ?_ ?_
  · simp [c1, c2]
  simp -implicitDefEqProofs only [Bool.false_eq_true, if_false]
  refine sat_seq (Q := fun _ => True) ((for_ok (fun j s => s.1.map (·.1) = (bk.take j).map (·.1) ∧ s.2.map (·.1) = (bk.take j).map (·.2)) ⟨rfl, rfl⟩ fun j x s hx hs => ?_).imp fun c ⟨s, hc, _⟩ => ⟨s, hc, trivial⟩) fun s _ => ⟨_, rfl, _, rfl, rfl⟩
  have hx : bk[j]? = some x.2 := (enum_at hx).2
  have hj : j < bk.length := (List.getElem?_eq_some_iff.mp hx).1
  have hm := List.mem_of_getElem? hx
  obtain ⟨k1, d1⟩ := nd_take g.n1 hx
  obtain ⟨k2, d2⟩ := nd_take g.n2 hx
  have l1 : s.1.length < sizeLine := by rw [← List.length_map (f := (·.1)), hs.1]; simp; omega
  have l2 : s.2.length < sizeLine := by rw [← List.length_map (f := (·.1)), hs.2]; simp; omega
  refine sat_step (by rw [pair_ok (g.w1 _ hm) (g.w2 _ hm)]; rfl) (sat_step (a := false) ?_ ?_)
  · simp only [Bool.not_true, Bool.false_eq_true, if_false]
    rw [hs.1, hs.2]
    have e1 : ∀ i : Decidable (x.2.1 ∈ (bk.take j).map (·.1)), @decide _ i = false := fun i => @decide_eq_false _ i k1
    have e2 : ∀ i : Decidable (x.2.2 ∈ (bk.take j).map (·.2)), @decide _ i = false := fun i => @decide_eq_false _ i k2
    simp only [e1, e2, Bool.false_eq_true, if_false]
  simp only [Bool.false_eq_true, if_false]
  refine sat_step rfl (sat_step (dputM_ok (by rw [hs.1]; exact d1) l1) (sat_step rfl (sat_step (dputM_ok (by rw [hs.2]; exact d2) l2) ⟨_, rfl, _, .inl rfl, ?_, ?_⟩)))
  · rw [take_snoc hx, List.map_append]; exact dput_new hs.1 k1
  · rw [take_snoc hx, List.map_append]; exact dput_new hs.2 k2
def rowT (p : Pr) : List Nat := TL.joinL [32] [p.1, p.2]
def textB (bk : List Pr) : List Nat := TL.joinL [10] (bk.map rowT)
theorem rowT_len {p : Pr} (h1 : Wd p.1 8) (h2 : Wd p.2 5) : (rowT p).length ≤ 18 := joinL_len (b := 8) (ys := [p.1, p.2]) fun y hy => by
  have := h1.l2
  have := h2.l2
  simp only [List.mem_cons, List.not_mem_nil, or_false] at hy
  rcases hy with rfl | rfl <;> omega
theorem rowT_sg {p : Pr} (h1 : Wd p.1 8) (h2 : Wd p.2 5) : ∀ c ∈ rowT p, c = 32 ∨ 48 ≤ c ∧ c < 256 := joinL_mem (P := fun c => c = 32 ∨ 48 ≤ c ∧ c < 256) (.inl rfl) fun y hy c hc => .inr (by
  simp only [List.mem_cons, List.not_mem_nil, or_false] at hy
  rcases hy with rfl | rfl
  · exact h1.sg2 c hc
  · exact h2.sg2 c hc)
theorem textB_sg {bk : List Pr} (g : Book bk) : ∀ c ∈ textB bk, c < 256 := joinL_mem (P := fun c => c < 256) (by decide) fun y hy c hc => by
  obtain ⟨p, hp, rfl⟩ := List.mem_map.mp hy
  have := rowT_sg (g.w1 p hp) (g.w2 p hp) c hc
  omega
theorem textB_len {bk : List Pr} (g : Book bk) : (textB bk).length ≤ 760 := by
  have := joinL_len (s := 10) (b := 18) (ys := bk.map rowT) fun y hy => by
    obtain ⟨p, hp, rfl⟩ := List.mem_map.mp hy
    exact rowT_len (g.w1 p hp) (g.w2 p hp)
  rw [List.length_map] at this
  have h2 : bk.length * (18 + 1) ≤ 40 * 19 := Nat.mul_le_mul_right _ g.l2
  exact Nat.le_trans this h2
theorem textB_join {bk : List Pr} (g : Book bk) : joinM [10] (bk.map rowT) = .ok (textB bk) := by
  have hl := g.l2
  exact joinM_ok (b := 18) (fun y hy => by
    obtain ⟨p, hp, rfl⟩ := List.mem_map.mp hy
    exact rowT_len (g.w1 p hp) (g.w2 p hp)) (by decide) (by rw [List.length_map]; omega)
theorem textb_ok {bk : List Pr} (g : Book bk) : S_book_text.op (bk, ()) = .ok (textB bk) := by
  unfold S_book_text
  simp -implicitDefEqProofs only [M.ok_bind, M.bind_assoc]
  refine M.sat.eq (sat_fin ?_)
  have hl := g.l2
  have e : lcM (fun _ => M.ok true) (fun x : Pr => joinM [32] [x.1, x.2]) (id bk) 0 = .ok (bk.map rowT) := lcM_map rowT (sz40 (by show bk.length ≤ _; omega)) fun p hp => by
    have w1 := (g.w1 p hp).l2
    have w2 := (g.w2 p hp).l2
    exact joinM_ok (b := 8) (fun y hy => by
      simp only [List.mem_cons, List.not_mem_nil, or_false] at hy
      rcases hy with rfl | rfl <;> omega) (by decide) (by show 2 ≤ 1000; decide)
  exact sat_step (by rw [needb_ok g]; rfl) (sat_step (by rw [e]; rfl) (sat_step (textB_join g) ⟨_, rfl, _, rfl, rfl⟩))
theorem textB_split {bk : List Pr} (g : Book bk) : splitM (textB bk) [10] = .ok (bk.map rowT) := by
  have := textB_len g
  refine splitM_ok (by decide) (fun e => ?_) (fun y hy => ?_) (by show (textB bk).length ≤ _; omega)
  · have := g.l1
    rw [List.map_eq_nil_iff.mp e] at this
    exact absurd this (by decide)
  · obtain ⟨p, hp, rfl⟩ := List.mem_map.mp hy
    intro hc
    have := rowT_sg (g.w1 p hp) (g.w2 p hp) 10 hc
    omega
theorem rowT_split {p : Pr} (h1 : Wd p.1 8) (h2 : Wd p.2 5) : splitM (rowT p) [32] = .ok [p.1, p.2] := by
  have := rowT_len h1 h2
  refine splitM_ok (by decide) (by simp) (fun y hy hc => ?_) (by show (rowT p).length ≤ _; omega)
  simp only [List.mem_cons, List.not_mem_nil, or_false] at hy
  rcases hy with rfl | rfl
  · have := h1.sg2 32 hc; omega
  · have := h2.sg2 32 hc; omega
def tl2 (p : Pr) : List (List Nat) := [p.1, p.2]
theorem readb_ok {bk : List Pr} (g : Book bk) : S_read_book.op (textB bk, ()) = .ok (bk.map tl2) := by
  have hB : (100000 : Nat) ≤ sizeLine := by decide
  unfold S_read_book
  simp -implicitDefEqProofs only [M.ok_bind, M.bind_assoc, Bool.not_true, Bool.false_eq_true, if_false]
  have hl := g.l2
  refine M.sat.eq (sat_fin ?_)
  refine sat_seq (Q := fun s => s.1 = bk.map tl2) ?_ fun s hs => ⟨_, rfl, _, rfl, hs⟩
  refine sat_step (textB_split g) ?_
  refine (for_ok (fun j s => s.1 = (bk.take j).map tl2 ∧ s.2.1.map (·.1) = (bk.take j).map (·.1) ∧ s.2.2.map (·.1) = (bk.take j).map (·.2)) ⟨rfl, rfl, rfl⟩ fun j x s hx hs => ?_).imp fun c ⟨s, hc, hs⟩ => ⟨s, hc, ?_⟩
  · obtain ⟨h1, h2⟩ := enum_at (xs := bk.map rowT) hx
    rw [List.getElem?_map] at h2
    obtain ⟨p, hp, h2⟩ := Option.map_eq_some_iff.mp h2
    have hj : j < bk.length := (List.getElem?_eq_some_iff.mp hp).1
    have hm := List.mem_of_getElem? hp
    obtain ⟨k1, d1⟩ := nd_take g.n1 hp
    obtain ⟨k2, d2⟩ := nd_take g.n2 hp
    have l0 : s.1.length < sizeLine := by rw [hs.1]; simp; omega
    have l1 : s.2.1.length < sizeLine := by rw [← List.length_map (f := (·.1)), hs.2.1]; simp; omega
    have l2 : s.2.2.length < sizeLine := by rw [← List.length_map (f := (·.1)), hs.2.2]; simp; omega
    have i0 : ixM [p.1, p.2] 0 = .ok p.1 := ixM_at (i := 0) rfl
    have i1 : ixM [p.1, p.2] 1 = .ok p.2 := ixM_at (i := 1) rfl
    rw [← h2]
    refine sat_step (rowT_split (g.w1 p hm) (g.w2 p hm)) ?_
    refine sat_step (a := false) ?_ ?_
    · rw [h1, decide_eq_false (show ¬ (40 : Int) ≤ (j : Int) by omega)]
      simp only [Bool.false_eq_true, if_false]
      rw [pair2_ok (g.w1 p hm) (g.w2 p hm)]
      simp only [M.nox_ok, M.ok_bind, Bool.not_true, Bool.false_eq_true, if_false]
      rw [i0, i1]
      simp only [M.ok_bind]
      rw [hs.2.1, hs.2.2]
      have e1 : ∀ i : Decidable (p.1 ∈ (bk.take j).map (·.1)), @decide _ i = false := fun i => @decide_eq_false _ i k1
      have e2 : ∀ i : Decidable (p.2 ∈ (bk.take j).map (·.2)), @decide _ i = false := fun i => @decide_eq_false _ i k2
      simp only [e1, e2, Bool.false_eq_true, if_false]
    simp only [Bool.false_eq_true, if_false]
    refine sat_step (by rw [i0]; rfl) (sat_step (dputM_ok (by rw [hs.2.1]; exact d1) l1) (sat_step (by rw [i1]; rfl) (sat_step (dputM_ok (by rw [hs.2.2]; exact d2) l2) (sat_grd l0 ⟨_, rfl, _, .inl rfl, ?_, ?_, ?_⟩))))
    · show s.1 ++ _ = _
      rw [hs.1, take_snoc hp, List.map_append]; rfl
    · rw [take_snoc hp, List.map_append]; exact dput_new hs.2.1 k1
    · rw [take_snoc hp, List.map_append]; exact dput_new hs.2.2 k2
  · show s.1 = _
    rw [hs.1, show (enumL 0 (id (bk.map rowT))).length = bk.length by rw [enumL_len]; simp, List.take_length]
theorem textB_inj {a b : List Pr} (g : Book a) (k : Book b) (h : textB a = textB b) : a = b := by
  have e := readb_ok g
  rw [h, readb_ok k] at e
  have e : b.map tl2 = a.map tl2 := M.ok.inj e
  refine (List.map_inj_right (fun x y hxy => ?_)).mp e.symm
  simp only [tl2, List.cons.injEq, and_true] at hxy
  exact Prod.ext hxy.1 hxy.2
end K88

namespace K88
open PySem PySem.Spec PyProof.Rows L2 DL Tx
theorem next_eq : G__law_next = DrD.gB_next := rfl
theorem begun_eq : G__law_start = DrD.gB_begun := rfl
abbrev Dr (n : Nat) (m : D) : Prop := DrD.DrB n m
theorem Dr.up {n n' : Nat} {m : D} (h : Dr n m) (k : n ≤ n') : Dr n' m := DrD.DrB.mono h k
theorem dr {n : Nat} {m : D} {t : Int} (h : Dr n m) (hn : n < 2 ^ 40) (h1 : 0 < t) (h2 : t ≤ 1000000) : (ofG G__law_next (consE eI nilE) asI m (t, ())).nox.sat fun r => (∃ q : Nat, r.1 = (q : Int) ∧ (q : Int) < t) ∧ Dr (n + 1) r.2 := by
  rw [next_eq]
  exact sat_nox ((DrD.draw_ok h hn h1 (small_log (by omega) h2)).imp fun r ⟨a, b, c⟩ => ⟨⟨r.1.toNat, by omega, by omega⟩, c⟩)
theorem begun_sat {ns : List Int} (h : ns.length ≤ 63) : (ofG0 G__law_start (consE (eL eI) nilE) (ns, ())).nox.sat fun m => Dr 0 m := by
  rw [begun_eq]
  exact sat_nox (DrD.begun_ok h)
theorem of_sat {n : Nat} {m : D} {xs : List Int} (h : Dr n m) (hn : n + 100 < 2 ^ 40) (h1 : 1 ≤ xs.length) (h2 : xs.length ≤ 100) : (S__law_of.op m (xs, ())).sat fun r => r.1 ∈ xs ∧ Dr (n + 1) r.2 := by
  unfold S__law_of
  simp -implicitDefEqProofs only [M.ok_bind, M.bind_assoc]
  refine sat_fin (sat_bind (dr h (by omega) (by omega) (by omega)) fun a ha => ?_)
  obtain ⟨⟨q, hq, hq1⟩, hd⟩ := ha
  have hq2 : q < xs.length := by omega
  rw [hq]
  exact sat_step (ixM_at (List.getElem?_eq_getElem hq2)) ⟨_, rfl, _, rfl, List.getElem_mem hq2, hd⟩
theorem road_sat {n : Nat} {m : D} {most w : Int} (h : Dr n m) (hn : n + 1000 < 2 ^ 40) (m0 : 1 ≤ most) (m1 : most ≤ 6) (w0 : 2 ≤ w) (w1 : w ≤ 1001) : (S__law_road.op m (most, w, ())).sat fun r => Good r.1 ∧ Dr (n + 30) r.2 := by
  unfold S__law_road
  simp -implicitDefEqProofs only [M.ok_bind, M.bind_assoc]
  refine sat_fin ?_
  refine sat_seq (Q := fun s => (∀ t ∈ s.2, Ok t.1 t.2.1 t.2.2) ∧ 1 ≤ s.2.length ∧ s.2.length ≤ 6 ∧ Dr (n + 30) s.1) ?_ fun s hs => ⟨_, rfl, _, rfl, ⟨hs.1, hs.2.1, by have := hs.2.2.1; show s.2.length ≤ 40; omega⟩, hs.2.2.2⟩
  refine sat_bind (dr h (by omega) (by show 0 < most; omega) (by show most ≤ _; omega)) fun b hb => ?_
  obtain ⟨⟨r, er, hr⟩, hd2⟩ := hb
  have hr : (r : Int) < most := hr
  rw [er]
  refine sat_step (range1_ok (by omega) (by omega)) ?_
  refine (for_ok (fun j s => (∀ t ∈ s.2, Ok t.1 t.2.1 t.2.2) ∧ s.2.length = j ∧ Dr (n + 1 + j * 3) s.1) ⟨by simp, rfl, hd2⟩ fun j x s hx hs => ?_).imp fun c ⟨s, hc, hs⟩ => ⟨s, hc, ?_⟩
  · obtain ⟨hj, _⟩ := rangeI_get hx
    obtain ⟨h1, h2, h3⟩ := hs
    have hj6 : j < 6 := by omega
    refine sat_bind (dr h3 (by omega) (by show 0 < w; omega) (by show w ≤ _; omega)) fun a1 k1 => ?_
    refine sat_bind (dr k1.2 (by omega) (by show 0 < w - 1; omega) (by show w - 1 ≤ _; omega)) fun a2 k2 => ?_
    refine sat_bind (dr k2.2 (by omega) (by show 0 < w; omega) (by show w ≤ _; omega)) fun a3 k3 => ?_
    have hB : (100 : Nat) < sizeLine := by decide
    refine sat_grd (by omega) ⟨_, rfl, _, .inl rfl, fun t ht => ?_, by simp [h2], k3.2.up (by omega)⟩
    rcases List.mem_append.mp ht with ht | ht
    · exact h1 t ht
    · rw [List.mem_singleton.mp ht]
      obtain ⟨⟨q1, e1, l1⟩, _⟩ := k1
      obtain ⟨⟨q2, e2, l2⟩, _⟩ := k2
      obtain ⟨⟨q3, e3, l3⟩, _⟩ := k3
      have l1 : (q1 : Int) < w := l1
      have l2 : (q2 : Int) < w - 1 := l2
      have l3 : (q3 : Int) < w := l3
      exact ⟨by simp only; omega, by simp only; omega, by simp only; omega, by simp only; omega, by simp only; omega, by simp only; omega⟩
  · obtain ⟨h1, h2, h3⟩ := hs
    rw [rangeI_len] at h2 h3
    exact ⟨h1, by omega, by omega, h3.up (by omega)⟩
theorem of2_sat {n : Nat} {m : D} {s : List Nat} (h : Dr n m) (hn : n + 100 < 2 ^ 40) (h1 : 1 ≤ s.length) (h2 : s.length ≤ 100) : (S__law_of_2.op m (s, ())).sat fun r => (∃ c ∈ s, r.1 = [c]) ∧ Dr (n + 1) r.2 := by
  have h9 : (100000 : Nat) ≤ sizeLine := by decide
  have hz : s.length ≤ sizeLine := by omega
  unfold S__law_of_2
  simp -implicitDefEqProofs only [M.ok_bind, M.bind_assoc]
  refine sat_fin (sat_step (M.grd_pos hz) (sat_bind (dr h (by omega) (by omega) (by omega)) fun a ha => ?_))
  obtain ⟨⟨q, hq, hq1⟩, hd⟩ := ha
  have hq2 : q < s.length := by omega
  rw [hq]
  exact sat_step (ixSM_at hz (List.getElem?_eq_getElem hq2)) ⟨_, rfl, _, rfl, ⟨_, List.getElem_mem hq2, rfl⟩, hd⟩
theorem chars_flat (l : List Nat) : (chars l).flatten = l := by
  induction l with
  | nil => rfl
  | cons c l ih => show [c] ++ (chars l).flatten = _; rw [ih]; rfl
theorem join_chars {l : List Nat} (h : l.length ≤ 1000) : joinM [] (chars l) = .ok l := by
  unfold joinM
  rw [M.grd_pos, DL.joinL_nil, chars_flat]
  have : ((chars l).map (·.length)).sum = l.length := by
    unfold chars
    rw [List.map_map]
    induction l with
    | nil => rfl
    | cons c l ih => rw [List.map_cons, List.sum_cons, ih (by simp at h; omega)]; simp; omega
  rw [this]; simp; omega
theorem word_sat {n : Nat} {m : D} {s : List Nat} (h : Dr n m) (hn : n + 1000 < 2 ^ 40) (h1 : 1 ≤ s.length) (h2 : s.length ≤ 100) : (S__law_word.op m (4, s, ())).sat fun r => ((∀ c ∈ r.1, c ∈ s) ∧ 1 ≤ r.1.length ∧ r.1.length ≤ 4) ∧ Dr (n + 5) r.2 := by
  have h9 : (100000 : Nat) ≤ sizeLine := by decide
  unfold S__law_word
  simp -implicitDefEqProofs only [M.ok_bind, M.bind_assoc]
  refine sat_fin (sat_bind (dr h (by omega) (by decide) (by decide)) fun a ha => ?_)
  obtain ⟨⟨q, hq, hq1⟩, hd⟩ := ha
  have hq1 : (q : Int) < 4 := hq1
  rw [hq]
  refine sat_step (range1_ok (by omega) (by omega)) ?_
  refine sat_bind (sat_nox (lcS_ok (fun i acc d => (∃ t, acc = chars t ∧ t.length = i ∧ ∀ c ∈ t, c ∈ s) ∧ Dr (n + 1 + i) d) (by rw [rangeI_len]; omega) ⟨⟨[], rfl, rfl, by simp⟩, hd⟩ fun i x d acc hx ⟨⟨t, e, htl, ht⟩, hd2⟩ => ?_)) fun tx htx => ?_
  · have hi := (rangeI_get hx).1
    refine ⟨_, rfl, ?_⟩
    simp only [if_true]
    refine (sat_nox (of2_sat hd2 (by omega) h1 h2)).imp fun y hy => ?_
    obtain ⟨⟨c, hc, e2⟩, hd⟩ := hy
    refine ⟨⟨t ++ [c], by rw [e, e2]; unfold chars; rw [List.map_append]; rfl, by simp; omega, fun y hy => ?_⟩, hd.up (by omega)⟩
    rcases List.mem_append.mp hy with hy | hy
    · exact ht y hy
    · rw [List.mem_singleton.mp hy]; exact hc
  · rw [rangeI_len] at htx
    obtain ⟨⟨t, e, htl, ht⟩, hd3⟩ := htx
    rw [e]
    exact sat_step (join_chars (by omega)) ⟨_, rfl, _, rfl, ⟨ht, by show 1 ≤ t.length; omega, by show t.length ≤ 4; omega⟩, hd3.up (by omega)⟩
theorem wd_of {w s : List Nat} {hi : Nat} (hs : ∀ c ∈ s, c ∈ Al) (h : (∀ c ∈ w, c ∈ s) ∧ 1 ≤ w.length ∧ w.length ≤ 4) (hh : 4 ≤ hi) : Wd w hi := ⟨h.2.1, by have := h.2.2; omega, fun c hc => hs c (h.1 c hc)⟩
structure Two (s : D × List (List Nat) × List (List Nat)) (j : Nat) : Prop where
  l : s.2.1.length = s.2.2.length
  l2 : s.2.1.length ≤ j
  l1 : 1 ≤ j → 1 ≤ s.2.1.length
  w1 : ∀ w ∈ s.2.1, Wd w 8
  w2 : ∀ w ∈ s.2.2, Wd w 5
  n1 : s.2.1.Nodup
  n2 : s.2.2.Nodup
theorem nd_snoc {α : Type} {xs : List α} {x : α} (h : xs.Nodup) (hx : x ∉ xs) : (xs ++ [x]).Nodup := by
  rw [List.nodup_append]
  exact ⟨h, by simp, fun a ha b hb z => hx (by rw [List.mem_singleton.mp hb] at z; rw [← z]; exact ha)⟩
theorem all_snoc {α : Type} {P : α → Prop} {xs : List α} {x : α} (h : ∀ a ∈ xs, P a) (hx : P x) : ∀ a ∈ xs ++ [x], P a := fun a ha => by
  rcases List.mem_append.mp ha with ha | ha
  · exact h a ha
  · rw [List.mem_singleton.mp ha]; exact hx
theorem book_sat {n : Nat} {m : D} {most : Int} {s1 s2 : List Nat} (h : Dr n m) (hn : n + 2000 < 2 ^ 40) (m0 : 1 ≤ most) (m1 : most ≤ 8) (a1 : 1 ≤ s1.length) (a2 : s1.length ≤ 100) (a3 : ∀ c ∈ s1, c ∈ Al) (b1 : 1 ≤ s2.length) (b2 : s2.length ≤ 100) (b3 : ∀ c ∈ s2, c ∈ Al) : (S__law_book.op m (most, s1, s2, ())).sat fun r => Book r.1 ∧ Dr (n + 100) r.2 := by
  have hB : (100 : Nat) < sizeLine := by decide
  unfold S__law_book
  simp -implicitDefEqProofs only [M.ok_bind, M.bind_assoc]
  refine sat_fin ?_
  refine sat_seq (Q := fun s => (∃ j, 1 ≤ j ∧ j ≤ 8 ∧ Two s j) ∧ Dr (n + 100) s.1) ?_ fun s hs => ?_
  · refine sat_bind (dr h (by omega) (by show 0 < most; omega) (by show most ≤ _; omega)) fun b hb => ?_
    obtain ⟨⟨r, er, hr⟩, hd2⟩ := hb
    have hr : (r : Int) < most := hr
    rw [er]
    refine sat_step (range1_ok (by omega) (by omega)) ?_
    refine (for_ok (fun j s => Two s j ∧ Dr (n + 1 + j * 10) s.1) ⟨⟨rfl, Nat.le_refl _, fun h => absurd h (by decide), by simp, by simp, by simp, by simp⟩, hd2⟩ fun j x s hx hs => ?_).imp fun c ⟨s, hc, hs⟩ => ⟨s, hc, ?_⟩
    · obtain ⟨hj, _⟩ := rangeI_get hx
      obtain ⟨t, h3⟩ := hs
      have tl := t.l
      have tl2 := t.l2
      have hj6 : j < 8 := by omega
      refine sat_bind (sat_nox (word_sat h3 (by omega) a1 a2)) fun v hv => ?_
      refine sat_bind (sat_nox (word_sat hv.2 (by omega) b1 b2)) fun w hw => ?_
      have g1 := wd_of (hi := 8) a3 hv.1 (by decide)
      have g2 := wd_of (hi := 5) b3 hw.1 (by decide)
      refine sat_step (M.grd_pos (by decide)) ?_
      by_cases c1 : v.1 ∈ s.2.1
      · refine sat_step (a := false) ?_ ?_
        · have e1 : ∀ i : Decidable (v.1 ∈ s.2.1), @decide _ i = true := fun i => @decide_eq_true _ i c1
          simp [e1]
        simp only [Bool.false_eq_true, if_false]
        have : s.2.1 ≠ [] := fun e => by rw [e] at c1; simp at c1
        have := List.length_pos_iff.mpr this
        exact ⟨_, rfl, _, .inl rfl, ⟨t.l, by show s.2.1.length ≤ j + 1; omega, fun _ => by show 1 ≤ s.2.1.length; omega, t.w1, t.w2, t.n1, t.n2⟩, hw.2.up (by omega)⟩
      have e1 : ∀ i : Decidable (v.1 ∈ s.2.1), @decide _ i = false := fun i => @decide_eq_false _ i c1
      by_cases c2 : w.1 ∈ s.2.2
      · refine sat_step (a := false) ?_ ?_
        · have e2 : ∀ i : Decidable (w.1 ∈ s.2.2), @decide _ i = true := fun i => @decide_eq_true _ i c2
          simp [e1, e2, M.grd_pos]
        simp only [Bool.false_eq_true, if_false]
        have : s.2.2 ≠ [] := fun e => by rw [e] at c2; simp at c2
        have := List.length_pos_iff.mpr this
        exact ⟨_, rfl, _, .inl rfl, ⟨t.l, by show s.2.1.length ≤ j + 1; omega, fun _ => by show 1 ≤ s.2.1.length; omega, t.w1, t.w2, t.n1, t.n2⟩, hw.2.up (by omega)⟩
      have e2 : ∀ i : Decidable (w.1 ∈ s.2.2), @decide _ i = false := fun i => @decide_eq_false _ i c2
      refine sat_step (a := true) ?_ ?_
      · simp [e1, e2, M.grd_pos]
      simp only [if_true]
      refine sat_grd (by omega) (sat_grd (by omega) ⟨_, rfl, _, .inl rfl, ⟨by simp [tl], by show (s.2.1 ++ [v.1]).length ≤ j + 1; simp; omega, fun _ => by show 1 ≤ (s.2.1 ++ [v.1]).length; simp, all_snoc t.w1 g1, all_snoc t.w2 g2, nd_snoc t.n1 c1, nd_snoc t.n2 c2⟩, hw.2.up (by omega)⟩)
    · obtain ⟨t, hd⟩ := hs
      rw [rangeI_len] at t hd
      exact ⟨⟨_, by omega, by omega, t⟩, hd.up (by omega)⟩
  · obtain ⟨⟨j, j1, j8, t⟩, hd⟩ := hs
    have tl := t.l
    have tl2 := t.l2
    have tl1 := t.l1 j1
    refine sat_step (M.grd_pos (by omega)) ⟨_, rfl, _, rfl, ⟨fun p hp => t.w1 _ (List.of_mem_zip hp).1, fun p hp => t.w2 _ (List.of_mem_zip hp).2, ?_, ?_, ?_, ?_⟩, hd⟩
    · show ((s.2.1.zip s.2.2).map Prod.fst).Nodup
      rw [List.map_fst_zip (by omega)]; exact t.n1
    · show ((s.2.1.zip s.2.2).map Prod.snd).Nodup
      rw [List.map_snd_zip (by omega)]; exact t.n2
    · show 1 ≤ (s.2.1.zip s.2.2).length
      rw [List.length_zip]; omega
    · show (s.2.1.zip s.2.2).length ≤ 40
      rw [List.length_zip]; omega
theorem four {x y d : D} {P : D → Prop} (hx : P x) (hy : P y) (h : d ∈ [x, y, x, y]) : P d := by
  simp only [List.mem_cons, List.not_mem_nil, or_false] at h
  rcases h with rfl | rfl | rfl | rfl <;> assumption
theorem tl3_d (rd : List Tr) : eTL (eTL (eO eI)) (rd.map tl3) = eTL (eT3 eI eI eI) rd := by
  unfold eTL
  rw [List.map_map]; rfl
theorem tl2_d (bk : List Pr) : eTL (eTL eS) (bk.map tl2) = eTL (eT2 eS eS) bk := by
  unfold eTL
  rw [List.map_map]; rfl
theorem three_in {x y z d : D} {P : D → Prop} (hx : P x) (hy : P y) (hz : P z) (h : d ∈ [x, y, z]) : P d := by
  simp only [List.mem_cons, List.not_mem_nil, or_false] at h
  rcases h with rfl | rfl | rfl <;> assumption
theorem road_sh {rd : List Tr} (g : Good rd) : Sh (eTL (eT3 eI eI eI) rd) 160 2 := by
  have := Sh.eTL (e := eT3 eI eI eI) (xs := rd) (b := 3) (k := 1) fun t ht => by
    have o := g.ok t ht
    have s := o.s0; have s1 := o.s1; have h := o.h0; have h1 := o.h1; have a := o.a0; have a1 := o.a1
    exact Sh.tup (xs := [.int t.1, .int t.2.1, .int t.2.2]) (b := 0) (k := 0) fun d hd => three_in (P := fun d => Sh d 0 0) (Sh.int (small_big (by omega))) (Sh.int (small_big (by omega))) (Sh.int (small_big (by omega))) hd
  have h2 : rd.length * (3 + 1) ≤ 40 * 4 := Nat.mul_le_mul_right _ g.l2
  exact this.up h2 (by decide)
theorem book_sh {bk : List Pr} (g : Book bk) : Sh (eTL (eT2 eS eS) bk) 760 2 := by
  have := Sh.eTL (e := eT2 eS eS) (xs := bk) (b := 18) (k := 1) fun p hp => by
    have w1 := g.w1 p hp
    have w2 := g.w2 p hp
    have l1 := w1.l2
    have l2 := w2.l2
    exact Sh.tup (xs := [eS p.1, eS p.2]) (b := 8) (k := 0) fun d hd => two_in (P := fun d => Sh d 8 0) (Sh.text (fun c hc => (w1.sg2 c hc).2) l1) (Sh.text (fun c hc => (w2.sg2 c hc).2) (by omega)) hd
  have h2 : bk.length * (18 + 1) ≤ 40 * 19 := Nat.mul_le_mul_right _ g.l2
  exact this.up h2 (by decide)
theorem roadr_ok {rd : List Tr} (g : Good rd) : S__law_road_right.op (rd, ()) = .ok true := by
  unfold S__law_road_right
  simp -implicitDefEqProofs only [M.ok_bind, M.bind_assoc]
  refine M.sat.eq (sat_fin ?_)
  have tx : (S_road_text.op (rd, ())).nox = .ok (textR rd) := by rw [text_ok g]; rfl
  have rx : (S_read_road.op (textR rd, ())).nox = .ok (rd.map tl3) := by rw [read_ok g]; rfl
  refine sat_step (by rw [lines_ok g]; rfl) (sat_step (text_join g) (sat_step tx (sat_step rx (sat_step tx (sat_step rx (sat_step (M.grd_pos (by decide)) ?_))))))
  rw [tl3_d]
  have f1 : (eTL (eT3 eI eI eI) rd).isF = true := Frz.f rd
  obtain ⟨s, e⟩ := rp_sh (Sh.mixed (xs := [eS (textR rd), eTL (eT3 eI eI eI) rd, eS (textR rd), eTL (eT3 eI eI eI) rd]) (b := 800) (k := 2) fun d hd => four (P := fun d => d.isF = true ∧ Sh d 800 2) ⟨rfl, (Sh.text textR_sg (textR_len g)).up (by decide) (by decide)⟩ ⟨f1, (road_sh g).up (by decide) (by decide)⟩ hd) (by show 4 * (800 + 1) ≤ 10000; decide) (by decide)
  refine sat_step e (sat_step (M.grd_pos (by decide)) (sat_step (M.grd_pos (by show 2 * Int.toNat 2 ≤ sizeLine ∧ _; decide)) (sat_step (a := s) ?_ (sat_step (M.grd_pos (by decide)) ⟨_, rfl, _, rfl, by simp⟩))))
  rw [← e]; rfl
theorem rows_ok {bk : List Pr} (g : Book bk) : lcM (fun _ => M.ok true) (fun x : Pr => (catM x.1 [32]).bind fun y => catM y x.2) (id bk) 0 = .ok (bk.map rowT) := by
  have hB : (100 : Nat) < sizeLine := by decide
  have hl := g.l2
  refine lcM_map rowT (sz40 (by show bk.length ≤ _; omega)) fun p hp => ?_
  have w1 := (g.w1 p hp).l2
  have w2 := (g.w2 p hp).l2
  rw [catM_ok (by simp; omega)]
  show catM (p.1 ++ [32]) p.2 = _
  rw [catM_ok (by simp; omega), List.append_assoc]; rfl
theorem bookr_ok {bk : List Pr} (g : Book bk) : S__law_book_right.op (bk, ()) = .ok true := by
  unfold S__law_book_right
  simp -implicitDefEqProofs only [M.ok_bind, M.bind_assoc]
  refine M.sat.eq (sat_fin ?_)
  have tx : (S_book_text.op (bk, ())).nox = .ok (textB bk) := by rw [textb_ok g]; rfl
  have rx : (S_read_book.op (textB bk, ())).nox = .ok (bk.map tl2) := by rw [readb_ok g]; rfl
  refine sat_step (by rw [rows_ok g]; rfl) (sat_step (textB_join g) (sat_step tx (sat_step rx (sat_step tx (sat_step rx (sat_step (M.grd_pos (by decide)) ?_))))))
  rw [tl2_d]
  have f1 : (eTL (eT2 eS eS) bk).isF = true := Frz.f bk
  obtain ⟨s, e⟩ := rp_sh (Sh.mixed (xs := [eS (textB bk), eTL (eT2 eS eS) bk, eS (textB bk), eTL (eT2 eS eS) bk]) (b := 800) (k := 2) fun d hd => four (P := fun d => d.isF = true ∧ Sh d 800 2) ⟨rfl, (Sh.text (textB_sg g) (textB_len g)).up (by decide) (by decide)⟩ ⟨f1, (book_sh g).up (by decide) (by decide)⟩ hd) (by show 4 * (800 + 1) ≤ 10000; decide) (by decide)
  refine sat_step e (sat_step (M.grd_pos (by decide)) (sat_step (M.grd_pos (by show 2 * Int.toNat 2 ≤ sizeLine ∧ _; decide)) (sat_step (a := s) ?_ (sat_step (M.grd_pos (by decide)) ⟨_, rfl, _, rfl, by simp⟩))))
  rw [← e]; rfl
def rowsP (k : Nat) : Pr := ([112] ++ TL.numL k, [99] ++ TL.numL k)
theorem rows_book : Book ((List.range 40).map rowsP) := by
  have w : ∀ k, k < 40 → Wd ([112] ++ TL.numL k) 5 ∧ Wd ([99] ++ TL.numL k) 5 := fun k hk => by
    have l := num_len (n := k) (by omega)
    have s : ∀ c ∈ TL.numL k, c ∈ Al := fun c hc => by
      have := num_dig hc
      simp only [Al, List.mem_cons, List.not_mem_nil, or_false]
      omega
    refine ⟨⟨by simp, by simp; omega, fun c hc => ?_⟩, ⟨by simp, by simp; omega, fun c hc => ?_⟩⟩ <;>
    · rcases List.mem_append.mp hc with hc | hc
      · rw [List.mem_singleton.mp hc]; decide
      · exact s c hc
  have nd : ∀ p : Nat, ((List.range 40).map fun k => [p] ++ TL.numL k).Nodup := fun p => by
    rw [List.nodup_iff_pairwise_ne, List.pairwise_map]
    refine List.Pairwise.imp (fun {a b} h e => h (TL.numL_inj (List.append_cancel_left e))) (List.nodup_iff_pairwise_ne.mp List.nodup_range)
  refine ⟨fun p hp => ?_, fun p hp => ?_, ?_, ?_, by decide, by decide⟩
  · obtain ⟨k, hk, rfl⟩ := List.mem_map.mp hp
    have := (w k (List.mem_range.mp hk)).1
    exact ⟨this.l1, Nat.le_trans this.l2 (by decide), this.sg⟩
  · obtain ⟨k, hk, rfl⟩ := List.mem_map.mp hp
    exact (w k (List.mem_range.mp hk)).2
  · rw [List.map_map]; exact nd 112
  · rw [List.map_map]; exact nd 99
def greatR : List Tr := (List.range 40).map fun k : Nat => (1000, 1000 - (k : Int), (k : Int))
theorem great_good : Good greatR := ⟨fun t ht => by
  obtain ⟨k, hk, rfl⟩ := List.mem_map.mp ht
  have := List.mem_range.mp hk
  exact ⟨by show (0 : Int) ≤ 1000; decide, by show (1000 : Int) ≤ 1000; decide, by simp only; omega, by simp only; omega, by simp only; omega, by simp only; omega⟩, by decide, by decide⟩
theorem law_ok {ns : List Int} (h : ns.length ≤ 63) : S_law.op (ns, ()) = .ok true := by
  have h9 : (100000 : Nat) ≤ sizeLine := by decide
  unfold S_law
  simp -implicitDefEqProofs only [M.ok_bind, M.bind_assoc]
  refine (sat_fin (Q := (· = true)) ?_).eq
  refine sat_bind (begun_sat h) fun m0 h0 => ?_
  refine sat_seq (Q := fun _ => True) ?fo fun _ _ => ?_
  case fo =>
    refine sat_step (range1_ok (z := 4 + min (ns.length : Int) 8) (by omega) (by omega)) ?_
    refine (for_ok (fun j m => Dr (j * 300) m) (by simpa using h0) fun j x m hx hd => ?_).imp fun c ⟨s, hc, _⟩ => ⟨s, hc, trivial⟩
    obtain ⟨hj, _⟩ := rangeI_get hx
    have hj13 : j < 13 := by simp at hj; omega
    refine sat_step (M.grd_pos (by decide)) ?_
    refine sat_bind (sat_nox (of_sat hd (by omega) (by simp) (by simp))) fun w hw => ?_
    have hw2 : 2 ≤ w.1 ∧ w.1 ≤ 1001 := by
      have := hw.1
      simp only [List.mem_cons, List.not_mem_nil, or_false] at this
      omega
    refine sat_bind (sat_nox (road_sat hw.2 (by omega) (by decide) (by decide) hw2.1 hw2.2)) fun a ha => ?_
    refine sat_bind (sat_nox (road_sat ha.2 (by omega) (by decide) (by decide) (by decide) (by decide))) fun b hb => ?_
    have ga := ha.1
    have gb := hb.1
    refine sat_step (by rw [roadr_ok ga]; rfl) (sat_step (a := false) (by simp [roadr_ok gb]) ?_)
    simp only [Bool.false_eq_true, if_false]
    refine sat_step (by rw [text_ok ga]; rfl) (sat_step (by rw [text_ok gb]; rfl) (sat_step (M.grd_pos (by decide)) (sat_step (M.grd_pos (by decide)) (sat_step (M.grd_pos (by decide)) ?_))))
    refine sat_if (fun hc => ?_) fun _ => ?_
    · exfalso
      by_cases c : a.1 = b.1
      · simp [c] at hc
      · have c2 : textR a.1 ≠ textR b.1 := fun e => c (textR_inj ga gb e)
        simp [c, c2] at hc
    refine sat_bind (sat_nox (book_sat hb.2 (by omega) (by decide) (by decide) (by decide) (by decide) (by decide) (by decide) (by decide) (by decide))) fun p hp => ?_
    refine sat_bind (sat_nox (book_sat hp.2 (by omega) (by decide) (by decide) (by decide) (by decide) (by decide) (by decide) (by decide) (by decide))) fun q hq => ?_
    have gp := hp.1
    have gq := hq.1
    refine sat_step (by rw [bookr_ok gp]; rfl) (sat_step (a := false) (by simp [bookr_ok gq]) ?_)
    simp only [Bool.false_eq_true, if_false]
    refine sat_step (by rw [textb_ok gp]; rfl) (sat_step (by rw [textb_ok gq]; rfl) (sat_step (M.grd_pos (by decide)) (sat_step (M.grd_pos (by decide)) (sat_step (M.grd_pos (by decide)) ?_))))
    refine sat_if (fun hc => ?_) fun _ => ⟨_, rfl, _, .inl rfl, hq.2.up (by omega)⟩
    exfalso
    by_cases c : p.1 = q.1
    · simp [c] at hc
    · have c2 : textB p.1 ≠ textB q.1 := fun e => c (textB_inj gp gq e)
      simp [c, c2] at hc
  refine sat_step (range1_ok (by decide) (by decide)) (sat_step (a := greatR) ?_ ?_)
  · rw [lcM_map (fun z : Int => ((1000, 1000 - z, z) : Tr)) (by rw [rangeI_len]; decide) fun _ _ => rfl]
    rfl
  have gO : Good [(0, 1, 0)] := ⟨fun t ht => by rw [List.mem_singleton.mp ht]; exact ⟨by decide, by decide, by decide, by decide, by decide, by decide⟩, by decide, by decide⟩
  have gM : Good [(1000, 1000, 1000)] := ⟨fun t ht => by rw [List.mem_singleton.mp ht]; exact ⟨by decide, by decide, by decide, by decide, by decide, by decide⟩, by decide, by decide⟩
  have gR : Good (repL 40 [((0, 1, 0) : Tr)]) := ⟨fun t ht => by
    have : ∀ t ∈ repL 40 [((0, 1, 0) : Tr)], t = (0, 1, 0) := by decide
    rw [this t ht]; exact ⟨by decide, by decide, by decide, by decide, by decide, by decide⟩, by decide, by decide⟩
  refine sat_seq (Q := fun _ => True) ?fr fun _ _ => ?_
  case fr =>
    refine sat_step (M.grd_pos (by decide)) ?_
    refine (for_ok (fun _ _ => True) trivial fun j x s hx _ => ?_).imp fun c ⟨s, hc, _⟩ => ⟨s, hc, trivial⟩
    have g : Good x := by
      have := List.mem_of_getElem? hx
      simp only [id, List.mem_cons, List.not_mem_nil, or_false] at this
      rcases this with rfl | rfl | rfl | rfl
      · exact great_good
      · exact gO
      · exact gR
      · exact gM
    refine sat_step (by rw [roadr_ok g]; rfl) ?_
    simp only [Bool.not_true, Bool.false_eq_true, if_false]
    exact ⟨_, rfl, _, .inl rfl, trivial⟩
  refine sat_step (range1_ok (by decide) (by decide)) (sat_step (a := (List.range 40).map rowsP) ?_ ?_)
  · rw [lcM_map (fun z : Int => rowsP z.toNat) (by rw [rangeI_len]; decide) fun z hz => ?_]
    · rfl
    · obtain ⟨k, hk, rfl⟩ := List.mem_map.mp hz
      have hk := List.mem_range.mp hk
      have hk : k < 40 := hk
      have l := (num_len (n := k) (by omega)).2
      rw [show (0 : Int) + (k : Int) = (k : Int) by omega, strM_ok (by omega)]
      simp only [M.ok_bind]
      rw [catM_ok (by simp; omega), catM_ok (by simp; omega)]
      rfl
  have bA : Book [([97], [48])] := ⟨by intro p hp; rw [List.mem_singleton.mp hp]; exact ⟨by decide, by decide, by decide⟩, by intro p hp; rw [List.mem_singleton.mp hp]; exact ⟨by decide, by decide, by decide⟩, by decide, by decide, by decide, by decide⟩
  have bB : Book [([97, 98, 99, 100, 101, 102, 103, 104], [48, 49, 50, 51, 52]), ([122, 122, 122, 122, 122, 122, 122, 122], [57, 57, 57, 57, 57])] := ⟨by
    intro p hp
    simp only [List.mem_cons, List.not_mem_nil, or_false] at hp
    rcases hp with rfl | rfl <;> exact ⟨by decide, by decide, by decide⟩, by
    intro p hp
    simp only [List.mem_cons, List.not_mem_nil, or_false] at hp
    rcases hp with rfl | rfl <;> exact ⟨by decide, by decide, by decide⟩, by decide, by decide, by decide, by decide⟩
  have bC : Book [([97, 98, 49], [48]), ([122], [122, 122])] := ⟨by
    intro p hp
    simp only [List.mem_cons, List.not_mem_nil, or_false] at hp
    rcases hp with rfl | rfl <;> exact ⟨by decide, by decide, by decide⟩, by
    intro p hp
    simp only [List.mem_cons, List.not_mem_nil, or_false] at hp
    rcases hp with rfl | rfl <;> exact ⟨by decide, by decide, by decide⟩, by decide, by decide, by decide, by decide⟩
  refine sat_seq (Q := fun _ => True) ?fb fun _ _ => ?_
  case fb =>
    refine (for_ok (fun _ _ => True) trivial fun j x s hx _ => ?_).imp fun c ⟨s, hc, _⟩ => ⟨s, hc, trivial⟩
    have g : Book x := by
      have := List.mem_of_getElem? hx
      simp only [id, List.mem_cons, List.not_mem_nil, or_false] at this
      rcases this with rfl | rfl | rfl
      · exact rows_book
      · exact bA
      · exact bB
    refine sat_step (by rw [bookr_ok g]; rfl) ?_
    simp only [Bool.not_true, Bool.false_eq_true, if_false]
    exact ⟨_, rfl, _, .inl rfl, trivial⟩
  refine sat_step (M.grd_pos (by decide)) (sat_step (by rw [textb_ok bC]; rfl) (sat_step (M.grd_pos (by decide)) ⟨_, rfl, _, rfl, ?_⟩))
  decide
theorem law_holds (ns : List Int) (h : ns.length ≤ 63) : ∃ m, G_law [.lst false (ns.map D.int)] = .ok (.bl true) m := law_of S_law.run (law_ok h)
end K88

namespace K88
open PySem PySem.Spec PyProof.Rows L2 DL
def top (i : Nat) : Stmt := PySem.Challenge.pw_towerline_k88_whole_texts_there_and_back.main.body.getD i (.Pass ⟨0, 0, 0, 0⟩)
structure Txt (K : PySem.W.Frag) (mg : Str → Option Value) : Prop where
  b_list : mg "list" = none
  b_len : mg "len" = none
  b_range : mg "range" = none
  b_min : mg "min" = none
  b_int : mg "int" = none
  b_tuple : mg "tuple" = none
  b_str : mg "str" = none
  b_isinstance : mg "isinstance" = none
  b_enumerate : mg "enumerate" = none
  b_all : mg "all" = none
  b_bool : mg "bool" = none
  b_repr : mg "repr" = none
  b_zip : mg "zip" = none
  g_LINE_END : GStr mg "LINE_END" "\n"
  g_BLANK : GStr mg "BLANK" " "
  g_MOST_FIGURES : GInt mg "MOST_FIGURES" 31
  g_DIGITS : GStr mg "DIGITS" "0123456789"
  g_MOST_TOWERS : GInt mg "MOST_TOWERS" 40
  g_MOST_TIME : GInt mg "MOST_TIME" 1000
  g_MOST_PAIRS : GInt mg "MOST_PAIRS" 40
  g_LETTERS : GStr mg "LETTERS" "abcdefghijklmnopqrstuvwxyz0123456789"
  g_MOST_PHRASE : GInt mg "MOST_PHRASE" 8
  g_MOST_CODE : GInt mg "MOST_CODE" 5
section
variable {P : Program} {w : World} {K : PySem.W.Frag} {mg : Str → Option Value} {base : Heap}
abbrev s__law_start : Stmt := top 30
abbrev N__law_start : List Str := ["script", "cells", "cell"]
theorem sc__law_start : FnScope N__law_start ["script"] (defScope s__law_start) := ⟨rfl, rfl, rfl, by decide +kernel, rfl, by decide +kernel, by decide +kernel⟩
theorem ok__law_start {fa : Addr} {fd : FuncData} (F : L2.Fun K "_law_start" "_law_start" s__law_start fa fd) (T : Txt K mg) : FnG P w K mg base 1 fa fd ["script"] G__law_start :=
  fnG_of F sc__law_start false fb__law_start fun cdv A outer s H E c hgu hr hZ => ds_cons (ds_fzs 1 (ds_set 1 (nz hZ rfl) sc__law_start.nd (de_bin or_add add_ok (do_val (de_callTy T.b_list (cr_listA rfl) listA_ok bt_list (da_cons (do_loc 0 (pv 0)) (da_nil)))) (do_val (de_lst (da_cons (do_val (de_int)) (da_nil))))))) (ds_one (ds_ret (de_disp (dp_str (de_name 1 (pv 1)) (dp_str (de_lc (own := [("cell", 2)]) 3 rfl sc__law_start.nd rfl (di_val (de_name 0 (pv 0))) (blkOk_by (N := N__law_start) (sc := defScope s__law_start) (by decide +kernel)) (fun _ hZ1 _ _ _ _ _ => dg_name 2 (nz hZ1 rfl) sc__law_start.nd) (fun _ hZ1 _ _ _ _ _ => dts_one (dt_cmp op_ge ge_ok (do_loc 2 (pv 2)) (do_val (de_bin op_pow pow_ok (do_val (de_int)) (do_val (de_int)))) (nomark _))) (fun _ hZ1 _ _ _ _ _ => de_name 2 (pv 2))) (dp_str (de_int) (dp_str (de_callB T.b_len call_len len_ok bt_len (da_cons (do_loc 1 (pv 1)) (da_nil))) (dp_nil))))) (by decide))))
abbrev s__law_next : Stmt := top 31
abbrev N__law_next : List Str := ["m", "total", "found", "cell"]
theorem sc__law_next : FnScope N__law_next ["m", "total"] (defScope s__law_next) := ⟨rfl, rfl, rfl, by decide +kernel, rfl, by decide +kernel, by decide +kernel⟩
theorem ok__law_next {fa : Addr} {fd : FuncData} (F : L2.Fun K "_law_next" "_law_next" s__law_next fa fd) (T : Txt K mg) : FnG P w K mg base 1 fa fd ["m", "total"] G__law_next :=
  fnG_of F sc__law_next true fb__law_next fun cdv A outer s H E c hgu hr hZ => ds_cons (ds_asg (de_bin or_add add_ok (do_val (de_dget 0 (u1 hr) (pv 0) (do_val (de_str)))) (do_val (de_int))) (dg_dk 0 (u1 hr) (pv 0) (do_val (de_str)))) (ds_cons (ds_while fuel PassesOwn.never (dt_w (dw_and (dt_pk (u1 hr) (pv 0) (or_ne (u64 hr)) eq_ok (pe_lst pa_nil) q_nil (nomark _)) (dw_and1 (dt_cmp (or_eq (u64 hr)) eq_ok (do_val (de_pk (u1 hr) (pv 0) ix_seq ix_ok pe_int (q_c fun _ => .int _) (by intro _ _; rfl))) (do_val (de_int)) (nomark _))))) (ds_one (ds_asg (de_pkSl (u1 hr) (pv 0) cp_int cp_none) (dg_dk 0 (u1 hr) (pv 0) (do_val (de_str)))))) (ds_cons (ds_if (dt_pk (u1 hr) (pv 0) (or_ne (u64 hr)) eq_ok (pe_lst pa_nil) q_nil (nomark _)) (ds_cons (ds_asg (de_tup (da_cons (do_val (de_fz (de_bin op_mod mod_ok (do_val (de_callTy T.b_int call_int1 int_ok bt_int (da_cons (do_val (de_pk (u1 hr) (pv 0) ix_seq ix_ok pe_int (q_c fun _ => .int _) (by intro _ _; rfl))) (da_nil)))) (do_loc 1 (pv 1))))) (da_cons (do_val (de_fz (de_bin op_fdivW fdiv_ok (do_val (de_callTy T.b_int call_int1 int_ok bt_int (da_cons (do_val (de_pk (u1 hr) (pv 0) ix_seq ix_ok pe_int (q_c fun _ => .int _) (by intro _ _; rfl))) (da_nil)))) (do_loc 1 (pv 1))))) (da_nil)))) (dg_tup rfl (dgs_cons (dg_name 2 (nz hZ rfl) sc__law_next.nd) (dgs_cons (dg_nest 0 (u1 hr) (pv 0) pe_int (q_c fun _ => .int _)) (dgs_nil))))) (ds_one (ds_ret (de_move 2 (pv 2))))) (ds_nil)) (ds_cons (ds_fzs 3 (ds_set 3 (nz hZ rfl) sc__law_next.nd (de_ix ix_seq ix_ok (do_val (de_dget 0 (u1 hr) (pv 0) (do_val (de_str)))) (do_val (de_bin op_mod mod_ok (do_val (de_callTy T.b_int call_int1 int_ok bt_int (da_cons (do_val (de_dget 0 (u1 hr) (pv 0) (do_val (de_str)))) (da_nil)))) (do_val (de_callB T.b_len call_len len_ok bt_len (da_cons (do_val (de_dget 0 (u1 hr) (pv 0) (do_val (de_str)))) (da_nil)))))) (by intro _ _; rfl)))) (ds_cons (ds_asg (de_bin op_mod mod_ok (do_val (de_callTy T.b_int call_int1 int_ok bt_int (da_cons (do_val (de_bin or_add add_ok (do_val (de_bin or_add add_ok (do_val (de_bin or_mulA mulA_ok (do_val (de_dget 0 (u1 hr) (pv 0) (do_val (de_str)))) (do_val (de_int)))) (do_val (de_bin op_mod mod_ok (do_val (de_callTy T.b_int call_int1 int_ok bt_int (da_cons (do_loc 3 (pv 3)) (da_nil)))) (do_val (de_int)))))) (do_val (de_bin or_mulA mulA_ok (do_val (de_int)) (do_val (de_dget 0 (u1 hr) (pv 0) (do_val (de_str)))))))) (da_nil)))) (do_val (de_int))) (dg_dk 0 (u1 hr) (pv 0) (do_val (de_str)))) (ds_one (ds_ret (de_bin op_mod mod_ok (do_val (de_bin op_fdivW fdiv_ok (do_val (de_bin op_mod mod_ok (do_val (de_callTy T.b_int call_int1 int_ok bt_int (da_cons (do_val (de_bin or_add add_ok (do_val (de_bin or_mulA mulA_ok (do_val (de_dget 0 (u1 hr) (pv 0) (do_val (de_str)))) (do_val (de_int)))) (do_val (de_dget 0 (u1 hr) (pv 0) (do_val (de_str)))))) (da_nil)))) (do_val (de_int)))) (do_val (de_int)))) (do_loc 1 (pv 1)))))))))
abbrev s__law_road : Stmt := top 33
abbrev N__law_road : List Str := ["m", "most_so", "wide", "found", "k"]
theorem sc__law_road : FnScope N__law_road ["m", "most_so", "wide"] (defScope s__law_road) := ⟨rfl, rfl, rfl, by decide +kernel, rfl, by decide +kernel, by decide +kernel⟩
theorem ok__law_road {fa : Addr} {fd : FuncData} (F : L2.Fun K "_law_road" "_law_road" s__law_road fa fd) (T : Txt K mg) (C__law_next : CalG P w K mg base 1 "_law_next" G__law_next) : FnG P w K mg base 2 fa fd ["m", "most_so", "wide"] G__law_road :=
  fnG_of F sc__law_road true fb__law_road fun cdv A outer s H E c hgu hr hZ => ds_cons (ds_set 3 (nz hZ rfl) sc__law_road.nd (de_lst (da_nil))) (ds_cons (ds_for PassesOwn.never rfl (di_range1 T.b_range (do_val (de_bin or_add add_ok (do_val (de_int)) (do_val (de_cM C__law_next hgu hr (by decide) (da_cons (do_loc 0 (pv 0)) (da_cons (do_val (de_name 1 (pv 1))) (da_nil)))))))) (dg_name 4 (nz hZ rfl) sc__law_road.nd) (ds_one (ds_expr (de_append 3 (pv 3) (de_tup (da_cons (do_val (de_fz (de_cM C__law_next hgu hr (by decide) (da_cons (do_loc 0 (pv 0)) (da_cons (do_val (de_name 2 (pv 2))) (da_nil)))))) (da_cons (do_val (de_fz (de_bin or_add add_ok (do_val (de_int)) (do_val (de_cM C__law_next hgu hr (by decide) (da_cons (do_loc 0 (pv 0)) (da_cons (do_val (de_fz (de_bin op_sub sub_ok (do_loc 2 (pv 2)) (do_val (de_int))))) (da_nil)))))))) (da_cons (do_val (de_fz (de_cM C__law_next hgu hr (by decide) (da_cons (do_loc 0 (pv 0)) (da_cons (do_val (de_name 2 (pv 2))) (da_nil)))))) (da_nil))))))))) (ds_one (ds_ret (de_callTy T.b_tuple call_tuple_of tuple_ok bt_tuple (da_cons (do_loc 3 (pv 3)) (da_nil))))))
abbrev s__law_of : Stmt := top 32
abbrev N__law_of : List Str := ["m", "some"]
theorem sc__law_of : FnScope N__law_of ["m", "some"] (defScope s__law_of) := ⟨rfl, rfl, rfl, by decide +kernel, rfl, by decide +kernel, by decide +kernel⟩
theorem ok__law_of {fa : Addr} {fd : FuncData} (F : L2.Fun K "_law_of" "_law_of" s__law_of fa fd) (T : Txt K mg) (C__law_next : CalG P w K mg base 1 "_law_next" G__law_next) : FnG P w K mg base 2 fa fd ["m", "some"] G__law_of :=
  fnG_of F sc__law_of true fb__law_of fun cdv A outer s H E c hgu hr hZ => ds_one (ds_ret (de_ix ix_seq ix_ok (do_loc 1 (pv 1)) (do_val (de_cM C__law_next hgu hr (by decide) (da_cons (do_loc 0 (pv 0)) (da_cons (do_val (de_fz (de_callB T.b_len call_len len_ok bt_len (da_cons (do_loc 1 (pv 1)) (da_nil))))) (da_nil))))) (by intro _ _; rfl)))
abbrev s_integer_of : Stmt := top 24
abbrev N_integer_of : List Str := ["word", "sign"]
theorem sc_integer_of : FnScope N_integer_of ["word"] (defScope s_integer_of) := ⟨rfl, rfl, rfl, by decide +kernel, rfl, by decide +kernel, by decide +kernel⟩
theorem ok_integer_of {fa : Addr} {fd : FuncData} (F : L2.Fun K "integer_of" "integer_of" s_integer_of fa fd) (T : Txt K mg) : FnG P w K mg base 1 fa fd ["word"] G_integer_of :=
  fnG_of F sc_integer_of false fb_integer_of fun cdv A outer s H E c hgu hr hZ => ds_cons (ds_if (dt_w (dw_or (dt_not (dt_chain op_le le_ok op_le le_ok (do_val (de_int)) (do_val (de_callB T.b_len call_len len_ok bt_len (da_cons (do_loc 0 (pv 0)) (da_nil)))) (do_val (de_gint T.g_MOST_FIGURES)))) (dw_or1 (dt_not (dt_val (de_callB T.b_all (cr_all rfl) all_ok bt_all (da_cons (do_val (de_lc (own := [("sign", 1)]) 2 rfl sc_integer_of.nd rfl (di_val (de_name 0 (pv 0))) (blkOk_by (N := N_integer_of) (sc := defScope s_integer_of) (by decide +kernel)) (fun _ hZ1 _ _ _ _ _ => dg_name 1 (nz hZ1 rfl) sc_integer_of.nd) (fun _ hZ1 _ _ _ _ _ => dts_nil) (fun _ hZ1 _ _ _ _ _ => de_cmp (or_in (u65 hr)) in_ok (do_loc 1 (pv 1)) (do_val (de_gstr T.g_DIGITS)) rfl))) (da_nil)))))))) (ds_one (ds_ret (de_non))) (ds_nil)) (ds_one (ds_ret (de_if (dt_cmp (or_eq (u64 hr)) eq_ok (do_val (de_callTy T.b_str cr_strI strI_ok bt_str (da_cons (do_val (de_callTy T.b_int cr_intS intS_ok bt_int (da_cons (do_loc 0 (pv 0)) (da_nil)))) (da_nil)))) (do_loc 0 (pv 0)) (nomark _)) (de_callTy T.b_int cr_intS intS_ok bt_int (da_cons (do_loc 0 (pv 0)) (da_nil))) (de_non))))
abbrev s_is_whole : Stmt := top 6
abbrev N_is_whole : List Str := ["thing", "least", "most"]
theorem sc_is_whole : FnScope N_is_whole ["thing", "least", "most"] (defScope s_is_whole) := ⟨rfl, rfl, rfl, by decide +kernel, rfl, by decide +kernel, by decide +kernel⟩
theorem ok_is_whole {fa : Addr} {fd : FuncData} (F : L2.Fun K "is_whole" "is_whole" s_is_whole fa fd) (T : Txt K mg) : FnG P w K mg base 1 fa fd ["thing", "least", "most"] G_is_whole :=
  fnG_of F sc_is_whole false fb_is_whole fun cdv A outer s H E c hgu hr hZ => ds_cons (ds_if (dt_w (dw_or (dt_not (dt_val (de_callB T.b_isinstance call_isi isi_ok bt_isinstance (da_cons (do_loc 0 (pv 0)) (da_cons (do_val (de_ty T.b_int bt_int)) (da_nil)))))) (dw_or1 (dt_val (de_callB T.b_isinstance call_isi isi_ok bt_isinstance (da_cons (do_loc 0 (pv 0)) (da_cons (do_val (de_ty T.b_bool bt_bool)) (da_nil)))))))) (ds_one (ds_ret (de_bl))) (ds_nil)) (ds_one (ds_ret (de_and (de_or (de_cmp or_is is_ok (do_loc 1 (pv 1)) (do_val (de_non)) (nomark _)) (de_one (de_cmp op_ge ge_ok (do_loc 0 (pv 0)) (do_loc 1 (pv 1)) (nomark _)))) (de_one (de_or (de_cmp or_is is_ok (do_loc 2 (pv 2)) (do_val (de_non)) (nomark _)) (de_one (de_cmp op_le le_ok (do_loc 0 (pv 0)) (do_loc 2 (pv 2)) (nomark _))))))))
abbrev s_is_triple : Stmt := top 17
abbrev N_is_triple : List Str := ["thing"]
theorem sc_is_triple : FnScope N_is_triple ["thing"] (defScope s_is_triple) := ⟨rfl, rfl, rfl, by decide +kernel, rfl, by decide +kernel, by decide +kernel⟩
theorem ok_is_triple {fa : Addr} {fd : FuncData} (F : L2.Fun K "is_triple" "is_triple" s_is_triple fa fd) (T : Txt K mg) (C_is_whole : CalG P w K mg base 1 "is_whole" G_is_whole) : FnG P w K mg base 2 fa fd ["thing"] G_is_triple :=
  fnG_of F sc_is_triple false fb_is_triple fun cdv A outer s H E c hgu hr hZ => ds_cons (ds_if (dt_w (dw_or (dt_not (dt_val (de_callB T.b_isinstance call_isi isi_ok bt_isinstance (da_cons (do_loc 0 (pv 0)) (da_cons (do_val (de_ty T.b_tuple bt_tuple)) (da_nil)))))) (dw_or (dt_cmp (or_ne (u64 hr)) eq_ok (do_val (de_callB T.b_len call_len len_ok bt_len (da_cons (do_loc 0 (pv 0)) (da_nil)))) (do_val (de_int)) (nomark _)) (dw_or1 (dt_not (dt_val (de_c1 C_is_whole hgu hr (by decide) (da_cons (do_val (de_fz (de_ix ix_seq ix_ok (do_loc 0 (pv 0)) (do_val (de_int)) (by intro _ _; rfl)))) (da_cons (do_val (de_int)) (da_cons (do_val (de_gint T.g_MOST_TIME)) (da_nil))))))))))) (ds_one (ds_ret (de_bl))) (ds_nil)) (ds_one (ds_ret (de_and (de_c1 C_is_whole hgu hr (by decide) (da_cons (do_val (de_fz (de_ix ix_seq ix_ok (do_loc 0 (pv 0)) (do_val (de_int)) (by intro _ _; rfl)))) (da_cons (do_val (de_int)) (da_cons (do_val (de_gint T.g_MOST_TIME)) (da_nil))))) (de_one (de_c1 C_is_whole hgu hr (by decide) (da_cons (do_val (de_fz (de_ix ix_seq ix_ok (do_loc 0 (pv 0)) (do_val (de_int)) (by intro _ _; rfl)))) (da_cons (do_val (de_int)) (da_cons (do_val (de_gint T.g_MOST_TIME)) (da_nil)))))))))
abbrev s_read_road : Stmt := top 27
abbrev N_read_road : List Str := ["string", "found", "number", "row", "word"]
theorem sc_read_road : FnScope N_read_road ["string"] (defScope s_read_road) := ⟨rfl, rfl, rfl, by decide +kernel, rfl, by decide +kernel, by decide +kernel⟩
theorem ok_read_road {fa : Addr} {fd : FuncData} (F : L2.Fun K "read_road" "read_road" s_read_road fa fd) (T : Txt K mg) (C_integer_of : CalG P w K mg base 1 "integer_of" G_integer_of) (C_is_triple : CalG P w K mg base 2 "is_triple" G_is_triple) : FnG P w K mg base 3 fa fd ["string"] G_read_road :=
  fnG_of F sc_read_road false fb_read_road fun cdv A outer s H E c hgu hr hZ => ds_cons (ds_if (dt_not (dt_val (de_callB T.b_isinstance call_isi isi_ok bt_isinstance (da_cons (do_loc 0 (pv 0)) (da_cons (do_val (de_ty T.b_str bt_str)) (da_nil)))))) (ds_one (ds_never)) (ds_nil)) (ds_cons (ds_set 1 (nz hZ rfl) sc_read_road.nd (de_lst (da_nil))) (ds_cons (ds_for PassesOwn.never rfl (di_enum T.b_enumerate (de_fz (de_split (do_loc 0 (pv 0)) (do_val (de_gstr T.g_LINE_END))))) (dg_tup rfl (dgs_cons (dg_name 2 (nz hZ rfl) sc_read_road.nd) (dgs_cons (dg_name 3 (nz hZ rfl) sc_read_road.nd) (dgs_nil)))) (ds_cons (ds_expr (de_append 1 (pv 1) (de_callTy T.b_tuple call_tuple_of tuple_ok bt_tuple (da_cons (do_val (de_lc (own := [("word", 4)]) 5 rfl sc_read_road.nd rfl (di_val (de_fz (de_split (do_loc 3 (pv 3)) (do_val (de_gstr T.g_BLANK))))) (blkOk_by (N := N_read_road) (sc := defScope s_read_road) (by decide +kernel)) (fun _ hZ1 _ _ _ _ _ => dg_name 4 (nz hZ1 rfl) sc_read_road.nd) (fun _ hZ1 _ _ _ _ _ => dts_nil) (fun _ hZ1 _ _ _ _ _ => de_c1 C_integer_of hgu hr (by decide) (da_cons (do_val (de_name 4 (pv 4))) (da_nil))))) (da_nil))))) (ds_one (ds_if (dt_w (dw_or (dt_cmp op_ge ge_ok (do_loc 2 (pv 2)) (do_val (de_gint T.g_MOST_TOWERS)) (nomark _)) (dw_or1 (dt_not (dt_val (de_c1 C_is_triple hgu hr (by decide) (da_cons (do_val (de_fz (de_ix ix_seq ix_ok (do_loc 1 (pv 1)) (do_val (de_un un_neg neg_ok (do_val (de_int)))) (by intro _ _; rfl)))) (da_nil)))))))) (ds_one (ds_never)) (ds_nil))))) (ds_one (ds_ret (de_callTy T.b_tuple call_tuple_of tuple_ok bt_tuple (da_cons (do_loc 1 (pv 1)) (da_nil)))))))
abbrev s_need_road : Stmt := top 18
abbrev N_need_road : List Str := ["thing", "number", "triple"]
theorem sc_need_road : FnScope N_need_road ["thing"] (defScope s_need_road) := ⟨rfl, rfl, rfl, by decide +kernel, rfl, by decide +kernel, by decide +kernel⟩
theorem ok_need_road {fa : Addr} {fd : FuncData} (F : L2.Fun K "need_road" "need_road" s_need_road fa fd) (T : Txt K mg) (C_is_triple : CalG P w K mg base 2 "is_triple" G_is_triple) : FnG P w K mg base 3 fa fd ["thing"] G_need_road :=
  fnG_of F sc_need_road false fb_need_road fun cdv A outer s H E c hgu hr hZ => ds_cons (ds_if (dt_w (dw_or (dt_not (dt_val (de_callB T.b_isinstance call_isi isi_ok bt_isinstance (da_cons (do_loc 0 (pv 0)) (da_cons (do_val (de_ty T.b_tuple bt_tuple)) (da_nil)))))) (dw_or1 (dt_not (dt_chain op_le le_ok op_le le_ok (do_val (de_int)) (do_val (de_callB T.b_len call_len len_ok bt_len (da_cons (do_loc 0 (pv 0)) (da_nil)))) (do_val (de_gint T.g_MOST_TOWERS))))))) (ds_one (ds_never)) (ds_nil)) (ds_cons (ds_for PassesOwn.never rfl (di_enum T.b_enumerate (de_name 0 (pv 0))) (dg_tup rfl (dgs_cons (dg_name 1 (nz hZ rfl) sc_need_road.nd) (dgs_cons (dg_name 2 (nz hZ rfl) sc_need_road.nd) (dgs_nil)))) (ds_one (ds_if (dt_not (dt_val (de_c1 C_is_triple hgu hr (by decide) (da_cons (do_val (de_name 2 (pv 2))) (da_nil))))) (ds_one (ds_never)) (ds_nil)))) (ds_one (ds_ret (de_move 0 (pv 0)))))
abbrev s_road_text : Stmt := top 25
abbrev N_road_text : List Str := ["road", "triple", "one"]
theorem sc_road_text : FnScope N_road_text ["road"] (defScope s_road_text) := ⟨rfl, rfl, rfl, by decide +kernel, rfl, by decide +kernel, by decide +kernel⟩
theorem ok_road_text {fa : Addr} {fd : FuncData} (F : L2.Fun K "road_text" "road_text" s_road_text fa fd) (T : Txt K mg) (C_need_road : CalG P w K mg base 3 "need_road" G_need_road) : FnG P w K mg base 4 fa fd ["road"] G_road_text :=
  fnG_of F sc_road_text false fb_road_text fun cdv A outer s H E c hgu hr hZ => ds_one (ds_ret (de_join (do_val (de_gstr T.g_LINE_END)) (do_val (de_lc (own := [("triple", 1)]) 3 rfl sc_road_text.nd rfl (di_val (de_fz (de_c1 C_need_road hgu hr (by decide) (da_cons (do_val (de_name 0 (pv 0))) (da_nil))))) (blkOk_by (N := N_road_text) (sc := defScope s_road_text) (by decide +kernel)) (fun _ hZ1 _ _ _ _ _ => dg_name 1 (nz hZ1 rfl) sc_road_text.nd) (fun _ hZ1 _ _ _ _ _ => dts_nil) (fun _ hZ1 _ _ _ _ _ => de_join (do_val (de_gstr T.g_BLANK)) (do_val (de_lc (own := [("one", 2)]) 3 rfl sc_road_text.nd rfl (di_val (de_name 1 (pv 1))) (blkOk_by (N := N_road_text) (sc := relS _ (defScope s_road_text)) (by decide +kernel)) (fun _ hZ2 _ _ _ _ _ => dg_name 2 (nz hZ2 rfl) sc_road_text.nd) (fun _ hZ2 _ _ _ _ _ => dts_nil) (fun _ hZ2 _ _ _ _ _ => de_callTy T.b_str cr_strI strI_ok bt_str (da_cons (do_loc 2 (pv 2)) (da_nil))))))))))
abbrev s__law_road_right : Stmt := top 36
abbrev N__law_road_right : List Str := ["road_so", "due", "heard", "triple", "one"]
theorem sc__law_road_right : FnScope N__law_road_right ["road_so"] (defScope s__law_road_right) := ⟨rfl, rfl, rfl, by decide +kernel, rfl, by decide +kernel, by decide +kernel⟩
theorem ok__law_road_right {fa : Addr} {fd : FuncData} (F : L2.Fun K "_law_road_right" "_law_road_right" s__law_road_right fa fd) (T : Txt K mg) (C_read_road : CalG P w K mg base 3 "read_road" G_read_road) (C_road_text : CalG P w K mg base 4 "road_text" G_road_text) : FnG P w K mg base 5 fa fd ["road_so"] G__law_road_right :=
  fnG_of F sc__law_road_right false fb__law_road_right fun cdv A outer s H E c hgu hr hZ => ds_cons (ds_fzs 1 (ds_set 1 (nz hZ rfl) sc__law_road_right.nd (de_join (do_val (de_str)) (do_val (de_lc (own := [("triple", 3)]) 5 rfl sc__law_road_right.nd rfl (di_val (de_name 0 (pv 0))) (blkOk_by (N := N__law_road_right) (sc := defScope s__law_road_right) (by decide +kernel)) (fun _ hZ1 _ _ _ _ _ => dg_name 3 (nz hZ1 rfl) sc__law_road_right.nd) (fun _ hZ1 _ _ _ _ _ => dts_nil) (fun _ hZ1 _ _ _ _ _ => de_join (do_val (de_str)) (do_val (de_lc (own := [("one", 4)]) 5 rfl sc__law_road_right.nd rfl (di_val (de_name 3 (pv 3))) (blkOk_by (N := N__law_road_right) (sc := relS _ (defScope s__law_road_right)) (by decide +kernel)) (fun _ hZ2 _ _ _ _ _ => dg_name 4 (nz hZ2 rfl) sc__law_road_right.nd) (fun _ hZ2 _ _ _ _ _ => dts_nil) (fun _ hZ2 _ _ _ _ _ => de_callTy T.b_str cr_strI strI_ok bt_str (da_cons (do_loc 4 (pv 4)) (da_nil))))))))))) (ds_cons (ds_fzs 2 (ds_set 2 (nz hZ rfl) sc__law_road_right.nd (de_lst (da_cons (do_val (de_fz (de_c1 C_road_text hgu hr (by decide) (da_cons (do_val (de_name 0 (pv 0))) (da_nil))))) (da_cons (do_val (de_fz (de_c1 C_read_road hgu hr (by decide) (da_cons (do_val (de_name 1 (pv 1))) (da_nil))))) (da_cons (do_val (de_fz (de_c1 C_road_text hgu hr (by decide) (da_cons (do_val (de_name 0 (pv 0))) (da_nil))))) (da_cons (do_val (de_fz (de_c1 C_read_road hgu hr (by decide) (da_cons (do_val (de_name 1 (pv 1))) (da_nil))))) (da_nil)))))))) (ds_one (ds_ret (de_cmp (or_eq (u64 hr)) eq_ok (do_val (de_callB T.b_repr (call_reprD hgu (u65 hr)) repr_ok bt_repr (da_cons (do_loc 2 (pv 2)) (da_nil)))) (do_val (de_callB T.b_repr (call_reprD hgu (u65 hr)) repr_ok bt_repr (da_cons (do_val (de_bin or_mulA mulA_ok (do_val (de_lst (da_cons (do_val (de_name 1 (pv 1))) (da_cons (do_val (de_name 0 (pv 0))) (da_nil))))) (do_val (de_int)))) (da_nil)))) (nomark _)))))
abbrev s__law_word : Stmt := top 34
abbrev N__law_word : List Str := ["m", "most_so", "letters_so", "k"]
theorem sc__law_word : FnScope N__law_word ["m", "most_so", "letters_so"] (defScope s__law_word) := ⟨rfl, rfl, rfl, by decide +kernel, rfl, by decide +kernel, by decide +kernel⟩
theorem ok__law_word {fa : Addr} {fd : FuncData} (F : L2.Fun K "_law_word" "_law_word" s__law_word fa fd) (T : Txt K mg) (C__law_next : CalG P w K mg base 1 "_law_next" G__law_next) (C__law_of : CalG P w K mg base 2 "_law_of" G__law_of) : FnG P w K mg base 3 fa fd ["m", "most_so", "letters_so"] G__law_word :=
  fnG_of F sc__law_word true fb__law_word fun cdv A outer s H E c hgu hr hZ => ds_one (ds_ret (de_join (do_val (de_str)) (do_val (de_lc (own := [("k", 3)]) 4 rfl sc__law_word.nd rfl (di_range1 T.b_range (do_val (de_bin or_add add_ok (do_val (de_int)) (do_val (de_cM C__law_next hgu hr (by decide) (da_cons (do_loc 0 (pv 0)) (da_cons (do_val (de_name 1 (pv 1))) (da_nil)))))))) (blkOk_by (N := N__law_word) (sc := defScope s__law_word) (by decide +kernel)) (fun _ hZ1 _ _ _ _ _ => dg_name 3 (nz hZ1 rfl) sc__law_word.nd) (fun _ hZ1 _ _ _ _ _ => dts_nil) (fun _ hZ1 _ _ _ _ _ => de_cM C__law_of hgu hr (by decide) (da_cons (do_loc 0 (pv 0)) (da_cons (do_val (de_name 2 (pv 2))) (da_nil))))))))
abbrev s__law_book : Stmt := top 35
abbrev N__law_book : List Str := ["m", "most_so", "letters_so", "signs_so", "phrases_so", "codes_so", "k", "one", "other"]
theorem sc__law_book : FnScope N__law_book ["m", "most_so", "letters_so", "signs_so"] (defScope s__law_book) := ⟨rfl, rfl, rfl, by decide +kernel, rfl, by decide +kernel, by decide +kernel⟩
theorem ok__law_book {fa : Addr} {fd : FuncData} (F : L2.Fun K "_law_book" "_law_book" s__law_book fa fd) (T : Txt K mg) (C__law_next : CalG P w K mg base 1 "_law_next" G__law_next) (C__law_word : CalG P w K mg base 3 "_law_word" G__law_word) : FnG P w K mg base 4 fa fd ["m", "most_so", "letters_so", "signs_so"] G__law_book :=
  fnG_of F sc__law_book true fb__law_book fun cdv A outer s H E c hgu hr hZ => ds_cons (ds_par 4 5 (nz hZ rfl) (nz hZ rfl) rfl sc__law_book.nd (de_lst (da_nil)) (de_lst (da_nil)) rfl) (ds_cons (ds_for PassesOwn.never rfl (di_range1 T.b_range (do_val (de_bin or_add add_ok (do_val (de_int)) (do_val (de_cM C__law_next hgu hr (by decide) (da_cons (do_loc 0 (pv 0)) (da_cons (do_val (de_name 1 (pv 1))) (da_nil)))))))) (dg_name 6 (nz hZ rfl) sc__law_book.nd) (ds_cons (ds_par 7 8 (nz hZ rfl) (nz hZ rfl) rfl sc__law_book.nd (de_fz (de_cM C__law_word hgu hr (by decide) (da_cons (do_loc 0 (pv 0)) (da_cons (do_val (de_int)) (da_cons (do_val (de_name 2 (pv 2))) (da_nil)))))) (de_fz (de_cM C__law_word hgu hr (by decide) (da_cons (do_loc 0 (pv 0)) (da_cons (do_val (de_int)) (da_cons (do_val (de_name 3 (pv 3))) (da_nil)))))) rfl) (ds_one (ds_if (dt_w (dw_and (dt_cmp (or_notIn (u65 hr)) in_ok (do_loc 7 (pv 7)) (do_loc 4 (pv 4)) rfl) (dw_and1 (dt_cmp (or_notIn (u65 hr)) in_ok (do_loc 8 (pv 8)) (do_loc 5 (pv 5)) rfl)))) (ds_cons (ds_expr (de_append 4 (pv 4) (de_name 7 (pv 7)))) (ds_one (ds_expr (de_append 5 (pv 5) (de_name 8 (pv 8)))))) (ds_nil))))) (ds_one (ds_ret (de_tupzip T.b_tuple T.b_zip rfl (de_name 4 (pv 4)) (de_name 5 (pv 5))))))
abbrev s_is_word : Stmt := top 11
abbrev N_is_word : List Str := ["thing", "least", "most", "sign"]
theorem sc_is_word : FnScope N_is_word ["thing", "least", "most"] (defScope s_is_word) := ⟨rfl, rfl, rfl, by decide +kernel, rfl, by decide +kernel, by decide +kernel⟩
theorem ok_is_word {fa : Addr} {fd : FuncData} (F : L2.Fun K "is_word" "is_word" s_is_word fa fd) (T : Txt K mg) : FnG P w K mg base 1 fa fd ["thing", "least", "most"] G_is_word :=
  fnG_of F sc_is_word false fb_is_word fun cdv A outer s H E c hgu hr hZ => ds_one (ds_ret (de_and (de_callB T.b_isinstance call_isi isi_ok bt_isinstance (da_cons (do_loc 0 (pv 0)) (da_cons (do_val (de_ty T.b_str bt_str)) (da_nil)))) (de_and (de_chain op_le le_ok op_le le_ok (do_loc 1 (pv 1)) (do_val (de_callB T.b_len call_len len_ok bt_len (da_cons (do_loc 0 (pv 0)) (da_nil)))) (do_loc 2 (pv 2))) (de_one (de_callB T.b_all (cr_all rfl) all_ok bt_all (da_cons (do_val (de_lc (own := [("sign", 3)]) 4 rfl sc_is_word.nd rfl (di_val (de_name 0 (pv 0))) (blkOk_by (N := N_is_word) (sc := defScope s_is_word) (by decide +kernel)) (fun _ hZ1 _ _ _ _ _ => dg_name 3 (nz hZ1 rfl) sc_is_word.nd) (fun _ hZ1 _ _ _ _ _ => dts_nil) (fun _ hZ1 _ _ _ _ _ => de_cmp (or_in (u65 hr)) in_ok (do_loc 3 (pv 3)) (do_val (de_gstr T.g_LETTERS)) rfl))) (da_nil)))))))
abbrev s_is_pair : Stmt := top 12
abbrev N_is_pair : List Str := ["thing"]
theorem sc_is_pair : FnScope N_is_pair ["thing"] (defScope s_is_pair) := ⟨rfl, rfl, rfl, by decide +kernel, rfl, by decide +kernel, by decide +kernel⟩
theorem ok_is_pair {fa : Addr} {fd : FuncData} (F : L2.Fun K "is_pair" "is_pair" s_is_pair fa fd) (T : Txt K mg) (C_is_word : CalG P w K mg base 1 "is_word" G_is_word) : FnG P w K mg base 2 fa fd ["thing"] G_is_pair :=
  fnG_of F sc_is_pair false fb_is_pair fun cdv A outer s H E c hgu hr hZ => ds_cons (ds_if (dt_w (dw_or (dt_not (dt_val (de_callB T.b_isinstance call_isi isi_ok bt_isinstance (da_cons (do_loc 0 (pv 0)) (da_cons (do_val (de_ty T.b_tuple bt_tuple)) (da_nil)))))) (dw_or1 (dt_cmp (or_ne (u64 hr)) eq_ok (do_val (de_callB T.b_len call_len len_ok bt_len (da_cons (do_loc 0 (pv 0)) (da_nil)))) (do_val (de_int)) (nomark _))))) (ds_one (ds_ret (de_bl))) (ds_nil)) (ds_one (ds_ret (de_and (de_c1 C_is_word hgu hr (by decide) (da_cons (do_val (de_fz (de_ix ix_seq ix_ok (do_loc 0 (pv 0)) (do_val (de_int)) (by intro _ _; rfl)))) (da_cons (do_val (de_int)) (da_cons (do_val (de_gint T.g_MOST_PHRASE)) (da_nil))))) (de_one (de_c1 C_is_word hgu hr (by decide) (da_cons (do_val (de_fz (de_ix ix_seq ix_ok (do_loc 0 (pv 0)) (do_val (de_int)) (by intro _ _; rfl)))) (da_cons (do_val (de_int)) (da_cons (do_val (de_gint T.g_MOST_CODE)) (da_nil)))))))))
abbrev s_read_book : Stmt := top 28
abbrev N_read_book : List Str := ["string", "found", "phrases", "codes", "number", "row", "pair"]
theorem sc_read_book : FnScope N_read_book ["string"] (defScope s_read_book) := ⟨rfl, rfl, rfl, by decide +kernel, rfl, by decide +kernel, by decide +kernel⟩
theorem ok_read_book {fa : Addr} {fd : FuncData} (F : L2.Fun K "read_book" "read_book" s_read_book fa fd) (T : Txt K mg) (C_is_pair : CalG P w K mg base 2 "is_pair" G_is_pair) : FnG P w K mg base 3 fa fd ["string"] G_read_book :=
  fnG_of F sc_read_book false fb_read_book fun cdv A outer s H E c hgu hr hZ => ds_cons (ds_if (dt_not (dt_val (de_callB T.b_isinstance call_isi isi_ok bt_isinstance (da_cons (do_loc 0 (pv 0)) (da_cons (do_val (de_ty T.b_str bt_str)) (da_nil)))))) (ds_one (ds_never)) (ds_nil)) (ds_cons (ds_par3 1 2 3 (nz hZ rfl) (nz hZ rfl) (nz hZ rfl) rfl sc_read_book.nd (de_lst (da_nil)) (de_dict0) (de_dict0) rfl) (ds_cons (ds_for PassesOwn.never rfl (di_enum T.b_enumerate (de_fz (de_split (do_loc 0 (pv 0)) (do_val (de_gstr T.g_LINE_END))))) (dg_tup rfl (dgs_cons (dg_name 4 (nz hZ rfl) sc_read_book.nd) (dgs_cons (dg_name 5 (nz hZ rfl) sc_read_book.nd) (dgs_nil)))) (ds_cons (ds_fzs 6 (ds_set 6 (nz hZ rfl) sc_read_book.nd (de_callTy T.b_tuple call_tuple_of tuple_ok bt_tuple (da_cons (do_val (de_split (do_loc 5 (pv 5)) (do_val (de_gstr T.g_BLANK)))) (da_nil))))) (ds_cons (ds_if (dt_w (dw_or (dt_cmp op_ge ge_ok (do_loc 4 (pv 4)) (do_val (de_gint T.g_MOST_PAIRS)) (nomark _)) (dw_or (dt_not (dt_val (de_c1 C_is_pair hgu hr (by decide) (da_cons (do_val (de_name 6 (pv 6))) (da_nil))))) (dw_or (dt_cmp (or_in (u65 hr)) in_ok (do_val (de_ix ix_seq ix_ok (do_loc 6 (pv 6)) (do_val (de_int)) (by intro _ _; rfl))) (do_loc 2 (pv 2)) rfl) (dw_or1 (dt_cmp (or_in (u65 hr)) in_ok (do_val (de_ix ix_seq ix_ok (do_loc 6 (pv 6)) (do_val (de_int)) (by intro _ _; rfl))) (do_loc 3 (pv 3)) rfl)))))) (ds_one (ds_never)) (ds_nil)) (ds_cons (ds_asg (de_bl) (dg_dk 2 (u1 hr) (pv 2) (do_val (de_ix ix_seq ix_ok (do_loc 6 (pv 6)) (do_val (de_int)) (by intro _ _; rfl))))) (ds_cons (ds_asg (de_bl) (dg_dk 3 (u1 hr) (pv 3) (do_val (de_ix ix_seq ix_ok (do_loc 6 (pv 6)) (do_val (de_int)) (by intro _ _; rfl))))) (ds_one (ds_expr (de_append 1 (pv 1) (de_name 6 (pv 6)))))))))) (ds_one (ds_ret (de_callTy T.b_tuple call_tuple_of tuple_ok bt_tuple (da_cons (do_loc 1 (pv 1)) (da_nil)))))))
abbrev s_need_book : Stmt := top 13
abbrev N_need_book : List Str := ["thing", "phrases", "codes", "number", "pair"]
theorem sc_need_book : FnScope N_need_book ["thing"] (defScope s_need_book) := ⟨rfl, rfl, rfl, by decide +kernel, rfl, by decide +kernel, by decide +kernel⟩
theorem ok_need_book {fa : Addr} {fd : FuncData} (F : L2.Fun K "need_book" "need_book" s_need_book fa fd) (T : Txt K mg) (C_is_pair : CalG P w K mg base 2 "is_pair" G_is_pair) : FnG P w K mg base 3 fa fd ["thing"] G_need_book :=
  fnG_of F sc_need_book false fb_need_book fun cdv A outer s H E c hgu hr hZ => ds_cons (ds_if (dt_w (dw_or (dt_not (dt_val (de_callB T.b_isinstance call_isi isi_ok bt_isinstance (da_cons (do_loc 0 (pv 0)) (da_cons (do_val (de_ty T.b_tuple bt_tuple)) (da_nil)))))) (dw_or1 (dt_not (dt_chain op_le le_ok op_le le_ok (do_val (de_int)) (do_val (de_callB T.b_len call_len len_ok bt_len (da_cons (do_loc 0 (pv 0)) (da_nil)))) (do_val (de_gint T.g_MOST_PAIRS))))))) (ds_one (ds_never)) (ds_nil)) (ds_cons (ds_par 1 2 (nz hZ rfl) (nz hZ rfl) rfl sc_need_book.nd (de_dict0) (de_dict0) rfl) (ds_cons (ds_for PassesOwn.never rfl (di_enum T.b_enumerate (de_name 0 (pv 0))) (dg_tup rfl (dgs_cons (dg_name 3 (nz hZ rfl) sc_need_book.nd) (dgs_cons (dg_name 4 (nz hZ rfl) sc_need_book.nd) (dgs_nil)))) (ds_cons (ds_if (dt_w (dw_or (dt_not (dt_val (de_c1 C_is_pair hgu hr (by decide) (da_cons (do_val (de_name 4 (pv 4))) (da_nil))))) (dw_or (dt_cmp (or_in (u65 hr)) in_ok (do_val (de_ix ix_seq ix_ok (do_loc 4 (pv 4)) (do_val (de_int)) (by intro _ _; rfl))) (do_loc 1 (pv 1)) rfl) (dw_or1 (dt_cmp (or_in (u65 hr)) in_ok (do_val (de_ix ix_seq ix_ok (do_loc 4 (pv 4)) (do_val (de_int)) (by intro _ _; rfl))) (do_loc 2 (pv 2)) rfl))))) (ds_one (ds_never)) (ds_nil)) (ds_cons (ds_asg (de_bl) (dg_dk 1 (u1 hr) (pv 1) (do_val (de_ix ix_seq ix_ok (do_loc 4 (pv 4)) (do_val (de_int)) (by intro _ _; rfl))))) (ds_one (ds_asg (de_bl) (dg_dk 2 (u1 hr) (pv 2) (do_val (de_ix ix_seq ix_ok (do_loc 4 (pv 4)) (do_val (de_int)) (by intro _ _; rfl))))))))) (ds_one (ds_ret (de_move 0 (pv 0))))))
abbrev s_book_text : Stmt := top 26
abbrev N_book_text : List Str := ["book", "pair"]
theorem sc_book_text : FnScope N_book_text ["book"] (defScope s_book_text) := ⟨rfl, rfl, rfl, by decide +kernel, rfl, by decide +kernel, by decide +kernel⟩
theorem ok_book_text {fa : Addr} {fd : FuncData} (F : L2.Fun K "book_text" "book_text" s_book_text fa fd) (T : Txt K mg) (C_need_book : CalG P w K mg base 3 "need_book" G_need_book) : FnG P w K mg base 4 fa fd ["book"] G_book_text :=
  fnG_of F sc_book_text false fb_book_text fun cdv A outer s H E c hgu hr hZ => ds_one (ds_ret (de_join (do_val (de_gstr T.g_LINE_END)) (do_val (de_lc (own := [("pair", 1)]) 2 rfl sc_book_text.nd rfl (di_val (de_fz (de_c1 C_need_book hgu hr (by decide) (da_cons (do_val (de_name 0 (pv 0))) (da_nil))))) (blkOk_by (N := N_book_text) (sc := defScope s_book_text) (by decide +kernel)) (fun _ hZ1 _ _ _ _ _ => dg_name 1 (nz hZ1 rfl) sc_book_text.nd) (fun _ hZ1 _ _ _ _ _ => dts_nil) (fun _ hZ1 _ _ _ _ _ => de_join (do_val (de_gstr T.g_BLANK)) (do_loc 1 (pv 1)))))))
abbrev s__law_book_right : Stmt := top 37
abbrev N__law_book_right : List Str := ["book_so", "due", "heard", "one", "other"]
theorem sc__law_book_right : FnScope N__law_book_right ["book_so"] (defScope s__law_book_right) := ⟨rfl, rfl, rfl, by decide +kernel, rfl, by decide +kernel, by decide +kernel⟩
theorem ok__law_book_right {fa : Addr} {fd : FuncData} (F : L2.Fun K "_law_book_right" "_law_book_right" s__law_book_right fa fd) (T : Txt K mg) (C_book_text : CalG P w K mg base 4 "book_text" G_book_text) (C_read_book : CalG P w K mg base 3 "read_book" G_read_book) : FnG P w K mg base 5 fa fd ["book_so"] G__law_book_right :=
  fnG_of F sc__law_book_right false fb__law_book_right fun cdv A outer s H E c hgu hr hZ => ds_cons (ds_fzs 1 (ds_set 1 (nz hZ rfl) sc__law_book_right.nd (de_join (do_val (de_str)) (do_val (de_lc (own := [("one", 3), ("other", 4)]) 5 rfl sc__law_book_right.nd rfl (di_val (de_name 0 (pv 0))) (blkOk_by (N := N__law_book_right) (sc := defScope s__law_book_right) (by decide +kernel)) (fun _ hZ1 _ _ _ _ _ => dg_tup rfl (dgs_cons (dg_name 3 (nz hZ1 rfl) sc__law_book_right.nd) (dgs_cons (dg_name 4 (nz hZ1 rfl) sc__law_book_right.nd) (dgs_nil)))) (fun _ hZ1 _ _ _ _ _ => dts_nil) (fun _ hZ1 _ _ _ _ _ => de_bin or_add add_ok (do_val (de_bin or_add add_ok (do_loc 3 (pv 3)) (do_val (de_str)))) (do_loc 4 (pv 4)))))))) (ds_cons (ds_fzs 2 (ds_set 2 (nz hZ rfl) sc__law_book_right.nd (de_lst (da_cons (do_val (de_fz (de_c1 C_book_text hgu hr (by decide) (da_cons (do_val (de_name 0 (pv 0))) (da_nil))))) (da_cons (do_val (de_fz (de_c1 C_read_book hgu hr (by decide) (da_cons (do_val (de_name 1 (pv 1))) (da_nil))))) (da_cons (do_val (de_fz (de_c1 C_book_text hgu hr (by decide) (da_cons (do_val (de_name 0 (pv 0))) (da_nil))))) (da_cons (do_val (de_fz (de_c1 C_read_book hgu hr (by decide) (da_cons (do_val (de_name 1 (pv 1))) (da_nil))))) (da_nil)))))))) (ds_one (ds_ret (de_cmp (or_eq (u64 hr)) eq_ok (do_val (de_callB T.b_repr (call_reprD hgu (u65 hr)) repr_ok bt_repr (da_cons (do_loc 2 (pv 2)) (da_nil)))) (do_val (de_callB T.b_repr (call_reprD hgu (u65 hr)) repr_ok bt_repr (da_cons (do_val (de_bin or_mulA mulA_ok (do_val (de_lst (da_cons (do_val (de_name 1 (pv 1))) (da_cons (do_val (de_name 0 (pv 0))) (da_nil))))) (do_val (de_int)))) (da_nil)))) (nomark _)))))
abbrev s_law : Stmt := top 38
abbrev N_law : List Str := ["script", "m", "lap", "one", "other", "mine", "yours", "great", "road_so", "rows", "book_so", "k"]
theorem sc_law : FnScope N_law ["script"] (defScope s_law) := ⟨rfl, rfl, rfl, by decide +kernel, rfl, by decide +kernel, by decide +kernel⟩
theorem ok_law {fa : Addr} {fd : FuncData} (F : L2.Fun K "law" "law" s_law fa fd) (T : Txt K mg) (C__law_book : CalG P w K mg base 4 "_law_book" G__law_book) (C__law_book_right : CalG P w K mg base 5 "_law_book_right" G__law_book_right) (C__law_of : CalG P w K mg base 2 "_law_of" G__law_of) (C__law_road : CalG P w K mg base 2 "_law_road" G__law_road) (C__law_road_right : CalG P w K mg base 5 "_law_road_right" G__law_road_right) (C__law_start : CalG P w K mg base 1 "_law_start" G__law_start) (C_book_text : CalG P w K mg base 4 "book_text" G_book_text) (C_road_text : CalG P w K mg base 4 "road_text" G_road_text) : FnG P w K mg base 6 fa fd ["script"] G_law :=
  fnG_of F sc_law false fb_law fun cdv A outer s H E c hgu hr hZ => ds_cons (ds_set 1 (nz hZ rfl) sc_law.nd (de_c1 C__law_start hgu hr (by decide) (da_cons (do_val (de_name 0 (pv 0))) (da_nil)))) (ds_cons (ds_for PassesOwn.never rfl (di_range1 T.b_range (do_val (de_bin or_add add_ok (do_val (de_int)) (do_val (de_callB T.b_min (call_min2 rfl) min2_ok bt_min (da_cons (do_val (de_callB T.b_len call_len len_ok bt_len (da_cons (do_loc 0 (pv 0)) (da_nil)))) (da_cons (do_val (de_int)) (da_nil)))))))) (dg_name 2 (nz hZ rfl) sc_law.nd) (ds_cons (ds_par 3 4 (nz hZ rfl) (nz hZ rfl) rfl sc_law.nd (de_fz (de_cM C__law_road hgu hr (by decide) (da_cons (do_loc 1 (pv 1)) (da_cons (do_val (de_int)) (da_cons (do_val (de_fz (de_cM C__law_of hgu hr (by decide) (da_cons (do_loc 1 (pv 1)) (da_cons (do_val (de_fz (de_lst (da_cons (do_val (de_int)) (da_cons (do_val (de_int)) (da_nil)))))) (da_nil)))))) (da_nil)))))) (de_fz (de_cM C__law_road hgu hr (by decide) (da_cons (do_loc 1 (pv 1)) (da_cons (do_val (de_int)) (da_cons (do_val (de_int)) (da_nil)))))) rfl) (ds_cons (ds_if (dt_w (dw_or (dt_not (dt_val (de_c1 C__law_road_right hgu hr (by decide) (da_cons (do_val (de_name 3 (pv 3))) (da_nil))))) (dw_or1 (dt_not (dt_val (de_c1 C__law_road_right hgu hr (by decide) (da_cons (do_val (de_name 4 (pv 4))) (da_nil)))))))) (ds_one (ds_ret (de_bl))) (ds_nil)) (ds_cons (ds_if (dt_cmp (or_ne (u64 hr)) eq_ok (do_val (de_cmp (or_eq (u64 hr)) eq_ok (do_val (de_c1 C_road_text hgu hr (by decide) (da_cons (do_val (de_name 3 (pv 3))) (da_nil)))) (do_val (de_c1 C_road_text hgu hr (by decide) (da_cons (do_val (de_name 4 (pv 4))) (da_nil)))) (nomark _))) (do_val (de_cmp (or_eq (u64 hr)) eq_ok (do_loc 3 (pv 3)) (do_loc 4 (pv 4)) (nomark _))) (nomark _)) (ds_one (ds_ret (de_bl))) (ds_nil)) (ds_cons (ds_par 5 6 (nz hZ rfl) (nz hZ rfl) rfl sc_law.nd (de_fz (de_cM C__law_book hgu hr (by decide) (da_cons (do_loc 1 (pv 1)) (da_cons (do_val (de_int)) (da_cons (do_val (de_str)) (da_cons (do_val (de_str)) (da_nil))))))) (de_fz (de_cM C__law_book hgu hr (by decide) (da_cons (do_loc 1 (pv 1)) (da_cons (do_val (de_int)) (da_cons (do_val (de_str)) (da_cons (do_val (de_str)) (da_nil))))))) rfl) (ds_cons (ds_if (dt_w (dw_or (dt_not (dt_val (de_c1 C__law_book_right hgu hr (by decide) (da_cons (do_val (de_name 5 (pv 5))) (da_nil))))) (dw_or1 (dt_not (dt_val (de_c1 C__law_book_right hgu hr (by decide) (da_cons (do_val (de_name 6 (pv 6))) (da_nil)))))))) (ds_one (ds_ret (de_bl))) (ds_nil)) (ds_one (ds_if (dt_cmp (or_ne (u64 hr)) eq_ok (do_val (de_cmp (or_eq (u64 hr)) eq_ok (do_val (de_c1 C_book_text hgu hr (by decide) (da_cons (do_val (de_name 5 (pv 5))) (da_nil)))) (do_val (de_c1 C_book_text hgu hr (by decide) (da_cons (do_val (de_name 6 (pv 6))) (da_nil)))) (nomark _))) (do_val (de_cmp (or_eq (u64 hr)) eq_ok (do_loc 5 (pv 5)) (do_loc 6 (pv 6)) (nomark _))) (nomark _)) (ds_one (ds_ret (de_bl))) (ds_nil))))))))) (ds_cons (ds_fzs 7 (ds_set 7 (nz hZ rfl) sc_law.nd (de_callTy T.b_tuple call_tuple_of tuple_ok bt_tuple (da_cons (do_val (de_lc (own := [("k", 11)]) 12 rfl sc_law.nd rfl (di_range1 T.b_range (do_val (de_int))) (blkOk_by (N := N_law) (sc := defScope s_law) (by decide +kernel)) (fun _ hZ1 _ _ _ _ _ => dg_name 11 (nz hZ1 rfl) sc_law.nd) (fun _ hZ1 _ _ _ _ _ => dts_nil) (fun _ hZ1 _ _ _ _ _ => de_tup (da_cons (do_val (de_int)) (da_cons (do_val (de_fz (de_bin op_sub sub_ok (do_val (de_int)) (do_loc 11 (pv 11))))) (da_cons (do_val (de_name 11 (pv 11))) (da_nil))))))) (da_nil))))) (ds_cons (ds_for PassesOwn.never rfl (di_val (de_fz (de_tup (da_cons (do_val (de_name 7 (pv 7))) (da_cons (do_val (de_fz (de_tup (da_cons (do_val (de_fz (de_tup (da_cons (do_val (de_int)) (da_cons (do_val (de_int)) (da_cons (do_val (de_int)) (da_nil))))))) (da_nil))))) (da_cons (do_val (de_fz (de_bin or_mulA mulA_ok (do_val (de_tup (da_cons (do_val (de_fz (de_tup (da_cons (do_val (de_int)) (da_cons (do_val (de_int)) (da_cons (do_val (de_int)) (da_nil))))))) (da_nil)))) (do_val (de_int))))) (da_cons (do_val (de_fz (de_tup (da_cons (do_val (de_fz (de_tup (da_cons (do_val (de_int)) (da_cons (do_val (de_int)) (da_cons (do_val (de_int)) (da_nil))))))) (da_nil))))) (da_nil)))))))) (dg_name 8 (nz hZ rfl) sc_law.nd) (ds_one (ds_if (dt_not (dt_val (de_c1 C__law_road_right hgu hr (by decide) (da_cons (do_val (de_name 8 (pv 8))) (da_nil))))) (ds_one (ds_ret (de_bl))) (ds_nil)))) (ds_cons (ds_fzs 9 (ds_set 9 (nz hZ rfl) sc_law.nd (de_callTy T.b_tuple call_tuple_of tuple_ok bt_tuple (da_cons (do_val (de_lc (own := [("k", 11)]) 12 rfl sc_law.nd rfl (di_range1 T.b_range (do_val (de_int))) (blkOk_by (N := N_law) (sc := defScope s_law) (by decide +kernel)) (fun _ hZ1 _ _ _ _ _ => dg_name 11 (nz hZ1 rfl) sc_law.nd) (fun _ hZ1 _ _ _ _ _ => dts_nil) (fun _ hZ1 _ _ _ _ _ => de_tup (da_cons (do_val (de_fz (de_bin or_add add_ok (do_val (de_str)) (do_val (de_callTy T.b_str cr_strI strI_ok bt_str (da_cons (do_loc 11 (pv 11)) (da_nil))))))) (da_cons (do_val (de_fz (de_bin or_add add_ok (do_val (de_str)) (do_val (de_callTy T.b_str cr_strI strI_ok bt_str (da_cons (do_loc 11 (pv 11)) (da_nil))))))) (da_nil)))))) (da_nil))))) (ds_cons (ds_for PassesOwn.never rfl (di_val (de_fz (de_tup (da_cons (do_val (de_name 9 (pv 9))) (da_cons (do_val (de_fz (de_tup (da_cons (do_val (de_fz (de_tup (da_cons (do_val (de_str)) (da_cons (do_val (de_str)) (da_nil)))))) (da_nil))))) (da_cons (do_val (de_fz (de_tup (da_cons (do_val (de_fz (de_tup (da_cons (do_val (de_str)) (da_cons (do_val (de_str)) (da_nil)))))) (da_cons (do_val (de_fz (de_tup (da_cons (do_val (de_str)) (da_cons (do_val (de_str)) (da_nil)))))) (da_nil)))))) (da_nil))))))) (dg_name 10 (nz hZ rfl) sc_law.nd) (ds_one (ds_if (dt_not (dt_val (de_c1 C__law_book_right hgu hr (by decide) (da_cons (do_val (de_name 10 (pv 10))) (da_nil))))) (ds_one (ds_ret (de_bl))) (ds_nil)))) (ds_one (ds_ret (de_cmp (or_eq (u64 hr)) eq_ok (do_val (de_c1 C_book_text hgu hr (by decide) (da_cons (do_val (de_fz (de_tup (da_cons (do_val (de_fz (de_tup (da_cons (do_val (de_str)) (da_cons (do_val (de_str)) (da_nil)))))) (da_cons (do_val (de_fz (de_tup (da_cons (do_val (de_str)) (da_cons (do_val (de_str)) (da_nil)))))) (da_nil)))))) (da_nil)))) (do_val (de_str)) (nomark _)))))))))
end
theorem all_mk {l : PySem.W.OpenLaw} {w : World} {K : PySem.W.Frag} {h : Heap} {mg : Str → Option Value} {fa : Addr} (X : K.In h) (G : h.Ns mainGlobals mg) (hfa : mg "law" = some (.ref fa))
    {f__law_start : Addr} {od__law_start an__law_start : Option Addr} {sl__law_start : Array (Option Value)} {oc__law_start kV__law_start dc__law_start pm__law_start cd__law_start ct__law_start : Value} {f__law_next : Addr} {od__law_next an__law_next : Option Addr} {sl__law_next : Array (Option Value)} {oc__law_next kV__law_next dc__law_next pm__law_next cd__law_next ct__law_next : Value} {f__law_road : Addr} {od__law_road an__law_road : Option Addr} {sl__law_road : Array (Option Value)} {oc__law_road kV__law_road dc__law_road pm__law_road cd__law_road ct__law_road : Value} {f__law_of : Addr} {od__law_of an__law_of : Option Addr} {sl__law_of : Array (Option Value)} {oc__law_of kV__law_of dc__law_of pm__law_of cd__law_of ct__law_of : Value} {f_integer_of : Addr} {od_integer_of an_integer_of : Option Addr} {sl_integer_of : Array (Option Value)} {oc_integer_of kV_integer_of dc_integer_of pm_integer_of cd_integer_of ct_integer_of : Value} {f_is_whole : Addr} {od_is_whole an_is_whole : Option Addr} {sl_is_whole : Array (Option Value)} {oc_is_whole kV_is_whole dc_is_whole pm_is_whole cd_is_whole ct_is_whole : Value} {f_is_triple : Addr} {od_is_triple an_is_triple : Option Addr} {sl_is_triple : Array (Option Value)} {oc_is_triple kV_is_triple dc_is_triple pm_is_triple cd_is_triple ct_is_triple : Value} {f_read_road : Addr} {od_read_road an_read_road : Option Addr} {sl_read_road : Array (Option Value)} {oc_read_road kV_read_road dc_read_road pm_read_road cd_read_road ct_read_road : Value} {f_need_road : Addr} {od_need_road an_need_road : Option Addr} {sl_need_road : Array (Option Value)} {oc_need_road kV_need_road dc_need_road pm_need_road cd_need_road ct_need_road : Value} {f_road_text : Addr} {od_road_text an_road_text : Option Addr} {sl_road_text : Array (Option Value)} {oc_road_text kV_road_text dc_road_text pm_road_text cd_road_text ct_road_text : Value} {f__law_road_right : Addr} {od__law_road_right an__law_road_right : Option Addr} {sl__law_road_right : Array (Option Value)} {oc__law_road_right kV__law_road_right dc__law_road_right pm__law_road_right cd__law_road_right ct__law_road_right : Value} {f__law_word : Addr} {od__law_word an__law_word : Option Addr} {sl__law_word : Array (Option Value)} {oc__law_word kV__law_word dc__law_word pm__law_word cd__law_word ct__law_word : Value} {f__law_book : Addr} {od__law_book an__law_book : Option Addr} {sl__law_book : Array (Option Value)} {oc__law_book kV__law_book dc__law_book pm__law_book cd__law_book ct__law_book : Value} {f_is_word : Addr} {od_is_word an_is_word : Option Addr} {sl_is_word : Array (Option Value)} {oc_is_word kV_is_word dc_is_word pm_is_word cd_is_word ct_is_word : Value} {f_is_pair : Addr} {od_is_pair an_is_pair : Option Addr} {sl_is_pair : Array (Option Value)} {oc_is_pair kV_is_pair dc_is_pair pm_is_pair cd_is_pair ct_is_pair : Value} {f_read_book : Addr} {od_read_book an_read_book : Option Addr} {sl_read_book : Array (Option Value)} {oc_read_book kV_read_book dc_read_book pm_read_book cd_read_book ct_read_book : Value} {f_need_book : Addr} {od_need_book an_need_book : Option Addr} {sl_need_book : Array (Option Value)} {oc_need_book kV_need_book dc_need_book pm_need_book cd_need_book ct_need_book : Value} {f_book_text : Addr} {od_book_text an_book_text : Option Addr} {sl_book_text : Array (Option Value)} {oc_book_text kV_book_text dc_book_text pm_book_text cd_book_text ct_book_text : Value} {f__law_book_right : Addr} {od__law_book_right an__law_book_right : Option Addr} {sl__law_book_right : Array (Option Value)} {oc__law_book_right kV__law_book_right dc__law_book_right pm__law_book_right cd__law_book_right ct__law_book_right : Value} {f_law : Addr} {od_law an_law : Option Addr} {sl_law : Array (Option Value)} {oc_law kV_law dc_law pm_law cd_law ct_law : Value} {t_LINE_END : Tok} {t_BLANK : Tok} {t_MOST_FIGURES : Tok} {t_DIGITS : Tok} {t_MOST_TOWERS : Tok} {t_MOST_TIME : Tok} {t_MOST_PAIRS : Tok} {t_LETTERS : Tok} {t_MOST_PHRASE : Tok} {t_MOST_CODE : Tok}
    (a__law_start : PySem.W.nsIn K mainGlobals "_law_start" = some (some (.ref f__law_start))) (l__law_start : K.lookup f__law_start = some ⟨oc__law_start, od__law_start, .func (PySem.W.fnOf "_law_start" "_law_start" (defArgs s__law_start) (defBody s__law_start) (defScope s__law_start) .none kV__law_start dc__law_start pm__law_start an__law_start cd__law_start ct__law_start), sl__law_start⟩) (c__law_start : PySem.W.codeIn K cd__law_start "_law_start" = true) (k__law_start : PySem.W.keepIn K (.ref f__law_start) = true)
    (a__law_next : PySem.W.nsIn K mainGlobals "_law_next" = some (some (.ref f__law_next))) (l__law_next : K.lookup f__law_next = some ⟨oc__law_next, od__law_next, .func (PySem.W.fnOf "_law_next" "_law_next" (defArgs s__law_next) (defBody s__law_next) (defScope s__law_next) .none kV__law_next dc__law_next pm__law_next an__law_next cd__law_next ct__law_next), sl__law_next⟩) (c__law_next : PySem.W.codeIn K cd__law_next "_law_next" = true) (k__law_next : PySem.W.keepIn K (.ref f__law_next) = true)
    (a__law_road : PySem.W.nsIn K mainGlobals "_law_road" = some (some (.ref f__law_road))) (l__law_road : K.lookup f__law_road = some ⟨oc__law_road, od__law_road, .func (PySem.W.fnOf "_law_road" "_law_road" (defArgs s__law_road) (defBody s__law_road) (defScope s__law_road) .none kV__law_road dc__law_road pm__law_road an__law_road cd__law_road ct__law_road), sl__law_road⟩) (c__law_road : PySem.W.codeIn K cd__law_road "_law_road" = true) (k__law_road : PySem.W.keepIn K (.ref f__law_road) = true)
    (a__law_of : PySem.W.nsIn K mainGlobals "_law_of" = some (some (.ref f__law_of))) (l__law_of : K.lookup f__law_of = some ⟨oc__law_of, od__law_of, .func (PySem.W.fnOf "_law_of" "_law_of" (defArgs s__law_of) (defBody s__law_of) (defScope s__law_of) .none kV__law_of dc__law_of pm__law_of an__law_of cd__law_of ct__law_of), sl__law_of⟩) (c__law_of : PySem.W.codeIn K cd__law_of "_law_of" = true) (k__law_of : PySem.W.keepIn K (.ref f__law_of) = true)
    (a_integer_of : PySem.W.nsIn K mainGlobals "integer_of" = some (some (.ref f_integer_of))) (l_integer_of : K.lookup f_integer_of = some ⟨oc_integer_of, od_integer_of, .func (PySem.W.fnOf "integer_of" "integer_of" (defArgs s_integer_of) (defBody s_integer_of) (defScope s_integer_of) .none kV_integer_of dc_integer_of pm_integer_of an_integer_of cd_integer_of ct_integer_of), sl_integer_of⟩) (c_integer_of : PySem.W.codeIn K cd_integer_of "integer_of" = true) (k_integer_of : PySem.W.keepIn K (.ref f_integer_of) = true)
    (a_is_whole : PySem.W.nsIn K mainGlobals "is_whole" = some (some (.ref f_is_whole))) (l_is_whole : K.lookup f_is_whole = some ⟨oc_is_whole, od_is_whole, .func (PySem.W.fnOf "is_whole" "is_whole" (defArgs s_is_whole) (defBody s_is_whole) (defScope s_is_whole) .none kV_is_whole dc_is_whole pm_is_whole an_is_whole cd_is_whole ct_is_whole), sl_is_whole⟩) (c_is_whole : PySem.W.codeIn K cd_is_whole "is_whole" = true) (k_is_whole : PySem.W.keepIn K (.ref f_is_whole) = true)
    (a_is_triple : PySem.W.nsIn K mainGlobals "is_triple" = some (some (.ref f_is_triple))) (l_is_triple : K.lookup f_is_triple = some ⟨oc_is_triple, od_is_triple, .func (PySem.W.fnOf "is_triple" "is_triple" (defArgs s_is_triple) (defBody s_is_triple) (defScope s_is_triple) .none kV_is_triple dc_is_triple pm_is_triple an_is_triple cd_is_triple ct_is_triple), sl_is_triple⟩) (c_is_triple : PySem.W.codeIn K cd_is_triple "is_triple" = true) (k_is_triple : PySem.W.keepIn K (.ref f_is_triple) = true)
    (a_read_road : PySem.W.nsIn K mainGlobals "read_road" = some (some (.ref f_read_road))) (l_read_road : K.lookup f_read_road = some ⟨oc_read_road, od_read_road, .func (PySem.W.fnOf "read_road" "read_road" (defArgs s_read_road) (defBody s_read_road) (defScope s_read_road) .none kV_read_road dc_read_road pm_read_road an_read_road cd_read_road ct_read_road), sl_read_road⟩) (c_read_road : PySem.W.codeIn K cd_read_road "read_road" = true) (k_read_road : PySem.W.keepIn K (.ref f_read_road) = true)
    (a_need_road : PySem.W.nsIn K mainGlobals "need_road" = some (some (.ref f_need_road))) (l_need_road : K.lookup f_need_road = some ⟨oc_need_road, od_need_road, .func (PySem.W.fnOf "need_road" "need_road" (defArgs s_need_road) (defBody s_need_road) (defScope s_need_road) .none kV_need_road dc_need_road pm_need_road an_need_road cd_need_road ct_need_road), sl_need_road⟩) (c_need_road : PySem.W.codeIn K cd_need_road "need_road" = true) (k_need_road : PySem.W.keepIn K (.ref f_need_road) = true)
    (a_road_text : PySem.W.nsIn K mainGlobals "road_text" = some (some (.ref f_road_text))) (l_road_text : K.lookup f_road_text = some ⟨oc_road_text, od_road_text, .func (PySem.W.fnOf "road_text" "road_text" (defArgs s_road_text) (defBody s_road_text) (defScope s_road_text) .none kV_road_text dc_road_text pm_road_text an_road_text cd_road_text ct_road_text), sl_road_text⟩) (c_road_text : PySem.W.codeIn K cd_road_text "road_text" = true) (k_road_text : PySem.W.keepIn K (.ref f_road_text) = true)
    (a__law_road_right : PySem.W.nsIn K mainGlobals "_law_road_right" = some (some (.ref f__law_road_right))) (l__law_road_right : K.lookup f__law_road_right = some ⟨oc__law_road_right, od__law_road_right, .func (PySem.W.fnOf "_law_road_right" "_law_road_right" (defArgs s__law_road_right) (defBody s__law_road_right) (defScope s__law_road_right) .none kV__law_road_right dc__law_road_right pm__law_road_right an__law_road_right cd__law_road_right ct__law_road_right), sl__law_road_right⟩) (c__law_road_right : PySem.W.codeIn K cd__law_road_right "_law_road_right" = true) (k__law_road_right : PySem.W.keepIn K (.ref f__law_road_right) = true)
    (a__law_word : PySem.W.nsIn K mainGlobals "_law_word" = some (some (.ref f__law_word))) (l__law_word : K.lookup f__law_word = some ⟨oc__law_word, od__law_word, .func (PySem.W.fnOf "_law_word" "_law_word" (defArgs s__law_word) (defBody s__law_word) (defScope s__law_word) .none kV__law_word dc__law_word pm__law_word an__law_word cd__law_word ct__law_word), sl__law_word⟩) (c__law_word : PySem.W.codeIn K cd__law_word "_law_word" = true) (k__law_word : PySem.W.keepIn K (.ref f__law_word) = true)
    (a__law_book : PySem.W.nsIn K mainGlobals "_law_book" = some (some (.ref f__law_book))) (l__law_book : K.lookup f__law_book = some ⟨oc__law_book, od__law_book, .func (PySem.W.fnOf "_law_book" "_law_book" (defArgs s__law_book) (defBody s__law_book) (defScope s__law_book) .none kV__law_book dc__law_book pm__law_book an__law_book cd__law_book ct__law_book), sl__law_book⟩) (c__law_book : PySem.W.codeIn K cd__law_book "_law_book" = true) (k__law_book : PySem.W.keepIn K (.ref f__law_book) = true)
    (a_is_word : PySem.W.nsIn K mainGlobals "is_word" = some (some (.ref f_is_word))) (l_is_word : K.lookup f_is_word = some ⟨oc_is_word, od_is_word, .func (PySem.W.fnOf "is_word" "is_word" (defArgs s_is_word) (defBody s_is_word) (defScope s_is_word) .none kV_is_word dc_is_word pm_is_word an_is_word cd_is_word ct_is_word), sl_is_word⟩) (c_is_word : PySem.W.codeIn K cd_is_word "is_word" = true) (k_is_word : PySem.W.keepIn K (.ref f_is_word) = true)
    (a_is_pair : PySem.W.nsIn K mainGlobals "is_pair" = some (some (.ref f_is_pair))) (l_is_pair : K.lookup f_is_pair = some ⟨oc_is_pair, od_is_pair, .func (PySem.W.fnOf "is_pair" "is_pair" (defArgs s_is_pair) (defBody s_is_pair) (defScope s_is_pair) .none kV_is_pair dc_is_pair pm_is_pair an_is_pair cd_is_pair ct_is_pair), sl_is_pair⟩) (c_is_pair : PySem.W.codeIn K cd_is_pair "is_pair" = true) (k_is_pair : PySem.W.keepIn K (.ref f_is_pair) = true)
    (a_read_book : PySem.W.nsIn K mainGlobals "read_book" = some (some (.ref f_read_book))) (l_read_book : K.lookup f_read_book = some ⟨oc_read_book, od_read_book, .func (PySem.W.fnOf "read_book" "read_book" (defArgs s_read_book) (defBody s_read_book) (defScope s_read_book) .none kV_read_book dc_read_book pm_read_book an_read_book cd_read_book ct_read_book), sl_read_book⟩) (c_read_book : PySem.W.codeIn K cd_read_book "read_book" = true) (k_read_book : PySem.W.keepIn K (.ref f_read_book) = true)
    (a_need_book : PySem.W.nsIn K mainGlobals "need_book" = some (some (.ref f_need_book))) (l_need_book : K.lookup f_need_book = some ⟨oc_need_book, od_need_book, .func (PySem.W.fnOf "need_book" "need_book" (defArgs s_need_book) (defBody s_need_book) (defScope s_need_book) .none kV_need_book dc_need_book pm_need_book an_need_book cd_need_book ct_need_book), sl_need_book⟩) (c_need_book : PySem.W.codeIn K cd_need_book "need_book" = true) (k_need_book : PySem.W.keepIn K (.ref f_need_book) = true)
    (a_book_text : PySem.W.nsIn K mainGlobals "book_text" = some (some (.ref f_book_text))) (l_book_text : K.lookup f_book_text = some ⟨oc_book_text, od_book_text, .func (PySem.W.fnOf "book_text" "book_text" (defArgs s_book_text) (defBody s_book_text) (defScope s_book_text) .none kV_book_text dc_book_text pm_book_text an_book_text cd_book_text ct_book_text), sl_book_text⟩) (c_book_text : PySem.W.codeIn K cd_book_text "book_text" = true) (k_book_text : PySem.W.keepIn K (.ref f_book_text) = true)
    (a__law_book_right : PySem.W.nsIn K mainGlobals "_law_book_right" = some (some (.ref f__law_book_right))) (l__law_book_right : K.lookup f__law_book_right = some ⟨oc__law_book_right, od__law_book_right, .func (PySem.W.fnOf "_law_book_right" "_law_book_right" (defArgs s__law_book_right) (defBody s__law_book_right) (defScope s__law_book_right) .none kV__law_book_right dc__law_book_right pm__law_book_right an__law_book_right cd__law_book_right ct__law_book_right), sl__law_book_right⟩) (c__law_book_right : PySem.W.codeIn K cd__law_book_right "_law_book_right" = true) (k__law_book_right : PySem.W.keepIn K (.ref f__law_book_right) = true)
    (a_law : PySem.W.nsIn K mainGlobals "law" = some (some (.ref f_law))) (l_law : K.lookup f_law = some ⟨oc_law, od_law, .func (PySem.W.fnOf "law" "law" (defArgs s_law) (defBody s_law) (defScope s_law) .none kV_law dc_law pm_law an_law cd_law ct_law), sl_law⟩) (c_law : PySem.W.codeIn K cd_law "law" = true) (k_law : PySem.W.keepIn K (.ref f_law) = true)
    (z_list : PySem.W.nsIn K mainGlobals "list" = some none)
    (z_len : PySem.W.nsIn K mainGlobals "len" = some none)
    (z_range : PySem.W.nsIn K mainGlobals "range" = some none)
    (z_min : PySem.W.nsIn K mainGlobals "min" = some none)
    (z_int : PySem.W.nsIn K mainGlobals "int" = some none)
    (z_tuple : PySem.W.nsIn K mainGlobals "tuple" = some none)
    (z_str : PySem.W.nsIn K mainGlobals "str" = some none)
    (z_isinstance : PySem.W.nsIn K mainGlobals "isinstance" = some none)
    (z_enumerate : PySem.W.nsIn K mainGlobals "enumerate" = some none)
    (z_all : PySem.W.nsIn K mainGlobals "all" = some none)
    (z_bool : PySem.W.nsIn K mainGlobals "bool" = some none)
    (z_repr : PySem.W.nsIn K mainGlobals "repr" = some none)
    (z_zip : PySem.W.nsIn K mainGlobals "zip" = some none)
    (g_LINE_END : PySem.W.nsIn K mainGlobals "LINE_END" = some (some (.str "\n" t_LINE_END)))
    (g_BLANK : PySem.W.nsIn K mainGlobals "BLANK" = some (some (.str " " t_BLANK)))
    (g_MOST_FIGURES : PySem.W.nsIn K mainGlobals "MOST_FIGURES" = some (some (.int 31 t_MOST_FIGURES)))
    (g_DIGITS : PySem.W.nsIn K mainGlobals "DIGITS" = some (some (.str "0123456789" t_DIGITS)))
    (g_MOST_TOWERS : PySem.W.nsIn K mainGlobals "MOST_TOWERS" = some (some (.int 40 t_MOST_TOWERS)))
    (g_MOST_TIME : PySem.W.nsIn K mainGlobals "MOST_TIME" = some (some (.int 1000 t_MOST_TIME)))
    (g_MOST_PAIRS : PySem.W.nsIn K mainGlobals "MOST_PAIRS" = some (some (.int 40 t_MOST_PAIRS)))
    (g_LETTERS : PySem.W.nsIn K mainGlobals "LETTERS" = some (some (.str "abcdefghijklmnopqrstuvwxyz0123456789" t_LETTERS)))
    (g_MOST_PHRASE : PySem.W.nsIn K mainGlobals "MOST_PHRASE" = some (some (.int 8 t_MOST_PHRASE)))
    (g_MOST_CODE : PySem.W.nsIn K mainGlobals "MOST_CODE" = some (some (.int 5 t_MOST_CODE))) :
    ∃ fd : FuncData, (∀ (s : Shared) (u : Value), BindsTo s fd ⟨[u], []⟩ [("script", u)]) ∧ ∀ base : Heap, FnG l.prog w K mg base 6 fa fd ["script"] G_law := by
  have e := hfa.symm.trans (PySem.W.mg_of X G a_law)
  cases e
  have T : Txt K mg := ⟨PySem.W.mg_none_of X G z_list, PySem.W.mg_none_of X G z_len, PySem.W.mg_none_of X G z_range, PySem.W.mg_none_of X G z_min, PySem.W.mg_none_of X G z_int, PySem.W.mg_none_of X G z_tuple, PySem.W.mg_none_of X G z_str, PySem.W.mg_none_of X G z_isinstance, PySem.W.mg_none_of X G z_enumerate, PySem.W.mg_none_of X G z_all, PySem.W.mg_none_of X G z_bool, PySem.W.mg_none_of X G z_repr, PySem.W.mg_none_of X G z_zip, ⟨_, PySem.W.mg_of X G g_LINE_END⟩, ⟨_, PySem.W.mg_of X G g_BLANK⟩, ⟨_, PySem.W.mg_of X G g_MOST_FIGURES⟩, ⟨_, PySem.W.mg_of X G g_DIGITS⟩, ⟨_, PySem.W.mg_of X G g_MOST_TOWERS⟩, ⟨_, PySem.W.mg_of X G g_MOST_TIME⟩, ⟨_, PySem.W.mg_of X G g_MOST_PAIRS⟩, ⟨_, PySem.W.mg_of X G g_LETTERS⟩, ⟨_, PySem.W.mg_of X G g_MOST_PHRASE⟩, ⟨_, PySem.W.mg_of X G g_MOST_CODE⟩⟩
  have F__law_start := fun_mk (st := s__law_start) l__law_start c__law_start k__law_start
  have b__law_start := F__law_start.binds (ps := ["script"]) fun _ _ _ _ _ _ us hl => match us, hl with | [_], _ => rfl
  have F__law_next := fun_mk (st := s__law_next) l__law_next c__law_next k__law_next
  have b__law_next := F__law_next.binds (ps := ["m", "total"]) fun _ _ _ _ _ _ us hl => match us, hl with | [_, _], _ => rfl
  have F__law_road := fun_mk (st := s__law_road) l__law_road c__law_road k__law_road
  have b__law_road := F__law_road.binds (ps := ["m", "most_so", "wide"]) fun _ _ _ _ _ _ us hl => match us, hl with | [_, _, _], _ => rfl
  have F__law_of := fun_mk (st := s__law_of) l__law_of c__law_of k__law_of
  have b__law_of := F__law_of.binds (ps := ["m", "some"]) fun _ _ _ _ _ _ us hl => match us, hl with | [_, _], _ => rfl
  have F_integer_of := fun_mk (st := s_integer_of) l_integer_of c_integer_of k_integer_of
  have b_integer_of := F_integer_of.binds (ps := ["word"]) fun _ _ _ _ _ _ us hl => match us, hl with | [_], _ => rfl
  have F_is_whole := fun_mk (st := s_is_whole) l_is_whole c_is_whole k_is_whole
  have b_is_whole := F_is_whole.binds (ps := ["thing", "least", "most"]) fun _ _ _ _ _ _ us hl => match us, hl with | [_, _, _], _ => rfl
  have F_is_triple := fun_mk (st := s_is_triple) l_is_triple c_is_triple k_is_triple
  have b_is_triple := F_is_triple.binds (ps := ["thing"]) fun _ _ _ _ _ _ us hl => match us, hl with | [_], _ => rfl
  have F_read_road := fun_mk (st := s_read_road) l_read_road c_read_road k_read_road
  have b_read_road := F_read_road.binds (ps := ["string"]) fun _ _ _ _ _ _ us hl => match us, hl with | [_], _ => rfl
  have F_need_road := fun_mk (st := s_need_road) l_need_road c_need_road k_need_road
  have b_need_road := F_need_road.binds (ps := ["thing"]) fun _ _ _ _ _ _ us hl => match us, hl with | [_], _ => rfl
  have F_road_text := fun_mk (st := s_road_text) l_road_text c_road_text k_road_text
  have b_road_text := F_road_text.binds (ps := ["road"]) fun _ _ _ _ _ _ us hl => match us, hl with | [_], _ => rfl
  have F__law_road_right := fun_mk (st := s__law_road_right) l__law_road_right c__law_road_right k__law_road_right
  have b__law_road_right := F__law_road_right.binds (ps := ["road_so"]) fun _ _ _ _ _ _ us hl => match us, hl with | [_], _ => rfl
  have F__law_word := fun_mk (st := s__law_word) l__law_word c__law_word k__law_word
  have b__law_word := F__law_word.binds (ps := ["m", "most_so", "letters_so"]) fun _ _ _ _ _ _ us hl => match us, hl with | [_, _, _], _ => rfl
  have F__law_book := fun_mk (st := s__law_book) l__law_book c__law_book k__law_book
  have b__law_book := F__law_book.binds (ps := ["m", "most_so", "letters_so", "signs_so"]) fun _ _ _ _ _ _ us hl => match us, hl with | [_, _, _, _], _ => rfl
  have F_is_word := fun_mk (st := s_is_word) l_is_word c_is_word k_is_word
  have b_is_word := F_is_word.binds (ps := ["thing", "least", "most"]) fun _ _ _ _ _ _ us hl => match us, hl with | [_, _, _], _ => rfl
  have F_is_pair := fun_mk (st := s_is_pair) l_is_pair c_is_pair k_is_pair
  have b_is_pair := F_is_pair.binds (ps := ["thing"]) fun _ _ _ _ _ _ us hl => match us, hl with | [_], _ => rfl
  have F_read_book := fun_mk (st := s_read_book) l_read_book c_read_book k_read_book
  have b_read_book := F_read_book.binds (ps := ["string"]) fun _ _ _ _ _ _ us hl => match us, hl with | [_], _ => rfl
  have F_need_book := fun_mk (st := s_need_book) l_need_book c_need_book k_need_book
  have b_need_book := F_need_book.binds (ps := ["thing"]) fun _ _ _ _ _ _ us hl => match us, hl with | [_], _ => rfl
  have F_book_text := fun_mk (st := s_book_text) l_book_text c_book_text k_book_text
  have b_book_text := F_book_text.binds (ps := ["book"]) fun _ _ _ _ _ _ us hl => match us, hl with | [_], _ => rfl
  have F__law_book_right := fun_mk (st := s__law_book_right) l__law_book_right c__law_book_right k__law_book_right
  have b__law_book_right := F__law_book_right.binds (ps := ["book_so"]) fun _ _ _ _ _ _ us hl => match us, hl with | [_], _ => rfl
  have F_law := fun_mk (st := s_law) l_law c_law k_law
  refine ⟨PySem.W.fnOf "law" "law" (defArgs s_law) (defBody s_law) (defScope s_law) .none kV_law dc_law pm_law an_law cd_law ct_law, fun s v => .of_eq rfl, fun base => ?_⟩
  have C__law_start : CalG l.prog w K mg base 1 "_law_start" G__law_start := calG_of F__law_start (PySem.W.mg_of X G a__law_start) (ok__law_start F__law_start T) b__law_start
  have C__law_next : CalG l.prog w K mg base 1 "_law_next" G__law_next := calG_of F__law_next (PySem.W.mg_of X G a__law_next) (ok__law_next F__law_next T) b__law_next
  have C__law_road : CalG l.prog w K mg base 2 "_law_road" G__law_road := calG_of F__law_road (PySem.W.mg_of X G a__law_road) (ok__law_road F__law_road T C__law_next) b__law_road
  have C__law_of : CalG l.prog w K mg base 2 "_law_of" G__law_of := calG_of F__law_of (PySem.W.mg_of X G a__law_of) (ok__law_of F__law_of T C__law_next) b__law_of
  have C_integer_of : CalG l.prog w K mg base 1 "integer_of" G_integer_of := calG_of F_integer_of (PySem.W.mg_of X G a_integer_of) (ok_integer_of F_integer_of T) b_integer_of
  have C_is_whole : CalG l.prog w K mg base 1 "is_whole" G_is_whole := calG_of F_is_whole (PySem.W.mg_of X G a_is_whole) (ok_is_whole F_is_whole T) b_is_whole
  have C_is_triple : CalG l.prog w K mg base 2 "is_triple" G_is_triple := calG_of F_is_triple (PySem.W.mg_of X G a_is_triple) (ok_is_triple F_is_triple T C_is_whole) b_is_triple
  have C_read_road : CalG l.prog w K mg base 3 "read_road" G_read_road := calG_of F_read_road (PySem.W.mg_of X G a_read_road) (ok_read_road F_read_road T C_integer_of C_is_triple) b_read_road
  have C_need_road : CalG l.prog w K mg base 3 "need_road" G_need_road := calG_of F_need_road (PySem.W.mg_of X G a_need_road) (ok_need_road F_need_road T C_is_triple) b_need_road
  have C_road_text : CalG l.prog w K mg base 4 "road_text" G_road_text := calG_of F_road_text (PySem.W.mg_of X G a_road_text) (ok_road_text F_road_text T C_need_road) b_road_text
  have C__law_road_right : CalG l.prog w K mg base 5 "_law_road_right" G__law_road_right := calG_of F__law_road_right (PySem.W.mg_of X G a__law_road_right) (ok__law_road_right F__law_road_right T C_read_road C_road_text) b__law_road_right
  have C__law_word : CalG l.prog w K mg base 3 "_law_word" G__law_word := calG_of F__law_word (PySem.W.mg_of X G a__law_word) (ok__law_word F__law_word T C__law_next C__law_of) b__law_word
  have C__law_book : CalG l.prog w K mg base 4 "_law_book" G__law_book := calG_of F__law_book (PySem.W.mg_of X G a__law_book) (ok__law_book F__law_book T C__law_next C__law_word) b__law_book
  have C_is_word : CalG l.prog w K mg base 1 "is_word" G_is_word := calG_of F_is_word (PySem.W.mg_of X G a_is_word) (ok_is_word F_is_word T) b_is_word
  have C_is_pair : CalG l.prog w K mg base 2 "is_pair" G_is_pair := calG_of F_is_pair (PySem.W.mg_of X G a_is_pair) (ok_is_pair F_is_pair T C_is_word) b_is_pair
  have C_read_book : CalG l.prog w K mg base 3 "read_book" G_read_book := calG_of F_read_book (PySem.W.mg_of X G a_read_book) (ok_read_book F_read_book T C_is_pair) b_read_book
  have C_need_book : CalG l.prog w K mg base 3 "need_book" G_need_book := calG_of F_need_book (PySem.W.mg_of X G a_need_book) (ok_need_book F_need_book T C_is_pair) b_need_book
  have C_book_text : CalG l.prog w K mg base 4 "book_text" G_book_text := calG_of F_book_text (PySem.W.mg_of X G a_book_text) (ok_book_text F_book_text T C_need_book) b_book_text
  have C__law_book_right : CalG l.prog w K mg base 5 "_law_book_right" G__law_book_right := calG_of F__law_book_right (PySem.W.mg_of X G a__law_book_right) (ok__law_book_right F__law_book_right T C_book_text C_read_book) b__law_book_right
  exact ok_law F_law T C__law_book C__law_book_right C__law_of C__law_road C__law_road_right C__law_start C_book_text C_road_text
end K88

open PySem PySem.W PyProof.Rows
set_option maxRecDepth 100000 in
set_option maxHeartbeats 0 in
theorem PySem.Challenge.cw_towerline_k88_whole_texts_there_and_back_holds : PySem.Challenge.rw_towerline_k88_whole_texts_there_and_back.Holds := by
  w_on; o_law; k_head; (case hw => w_witness2)
  k_fill
  refine DL.walkG (l := PySem.Challenge.rw_towerline_k88_whole_texts_there_and_back) (n := 63) (k := 6) (x := "script") (G := K88.G_law) rfl (by decide) rfl ⟨rfl, by decide, by decide⟩ (fun w h Y => PySem.W.kIn_of Y) ?F K88.law_holds
  case F =>
    intro w mg fa h KX G hmg
    refine' K88.all_mk KX G hmg ?a__law_start ?l__law_start ?c__law_start ?k__law_start ?a__law_next ?l__law_next ?c__law_next ?k__law_next ?a__law_road ?l__law_road ?c__law_road ?k__law_road ?a__law_of ?l__law_of ?c__law_of ?k__law_of ?a_integer_of ?l_integer_of ?c_integer_of ?k_integer_of ?a_is_whole ?l_is_whole ?c_is_whole ?k_is_whole ?a_is_triple ?l_is_triple ?c_is_triple ?k_is_triple ?a_read_road ?l_read_road ?c_read_road ?k_read_road ?a_need_road ?l_need_road ?c_need_road ?k_need_road ?a_road_text ?l_road_text ?c_road_text ?k_road_text ?a__law_road_right ?l__law_road_right ?c__law_road_right ?k__law_road_right ?a__law_word ?l__law_word ?c__law_word ?k__law_word ?a__law_book ?l__law_book ?c__law_book ?k__law_book ?a_is_word ?l_is_word ?c_is_word ?k_is_word ?a_is_pair ?l_is_pair ?c_is_pair ?k_is_pair ?a_read_book ?l_read_book ?c_read_book ?k_read_book ?a_need_book ?l_need_book ?c_need_book ?k_need_book ?a_book_text ?l_book_text ?c_book_text ?k_book_text ?a__law_book_right ?l__law_book_right ?c__law_book_right ?k__law_book_right ?a_law ?l_law ?c_law ?k_law ?z_list ?z_len ?z_range ?z_min ?z_int ?z_tuple ?z_str ?z_isinstance ?z_enumerate ?z_all ?z_bool ?z_repr ?z_zip ?g_LINE_END ?g_BLANK ?g_MOST_FIGURES ?g_DIGITS ?g_MOST_TOWERS ?g_MOST_TIME ?g_MOST_PAIRS ?g_LETTERS ?g_MOST_PHRASE ?g_MOST_CODE
    (case a__law_start => k_is)
    (case l__law_start => k_is)
    (case c__law_start => k_is)
    (case k__law_start => k_is)
    (case a__law_next => k_is)
    (case l__law_next => k_is)
    (case c__law_next => k_is)
    (case k__law_next => k_is)
    (case a__law_road => k_is)
    (case l__law_road => k_is)
    (case c__law_road => k_is)
    (case k__law_road => k_is)
    (case a__law_of => k_is)
    (case l__law_of => k_is)
    (case c__law_of => k_is)
    (case k__law_of => k_is)
    (case a_integer_of => k_is)
    (case l_integer_of => k_is)
    (case c_integer_of => k_is)
    (case k_integer_of => k_is)
    (case a_is_whole => k_is)
    (case l_is_whole => k_is)
    (case c_is_whole => k_is)
    (case k_is_whole => k_is)
    (case a_is_triple => k_is)
    (case l_is_triple => k_is)
    (case c_is_triple => k_is)
    (case k_is_triple => k_is)
    (case a_read_road => k_is)
    (case l_read_road => k_is)
    (case c_read_road => k_is)
    (case k_read_road => k_is)
    (case a_need_road => k_is)
    (case l_need_road => k_is)
    (case c_need_road => k_is)
    (case k_need_road => k_is)
    (case a_road_text => k_is)
    (case l_road_text => k_is)
    (case c_road_text => k_is)
    (case k_road_text => k_is)
    (case a__law_road_right => k_is)
    (case l__law_road_right => k_is)
    (case c__law_road_right => k_is)
    (case k__law_road_right => k_is)
    (case a__law_word => k_is)
    (case l__law_word => k_is)
    (case c__law_word => k_is)
    (case k__law_word => k_is)
    (case a__law_book => k_is)
    (case l__law_book => k_is)
    (case c__law_book => k_is)
    (case k__law_book => k_is)
    (case a_is_word => k_is)
    (case l_is_word => k_is)
    (case c_is_word => k_is)
    (case k_is_word => k_is)
    (case a_is_pair => k_is)
    (case l_is_pair => k_is)
    (case c_is_pair => k_is)
    (case k_is_pair => k_is)
    (case a_read_book => k_is)
    (case l_read_book => k_is)
    (case c_read_book => k_is)
    (case k_read_book => k_is)
    (case a_need_book => k_is)
    (case l_need_book => k_is)
    (case c_need_book => k_is)
    (case k_need_book => k_is)
    (case a_book_text => k_is)
    (case l_book_text => k_is)
    (case c_book_text => k_is)
    (case k_book_text => k_is)
    (case a__law_book_right => k_is)
    (case l__law_book_right => k_is)
    (case c__law_book_right => k_is)
    (case k__law_book_right => k_is)
    (case a_law => k_is)
    (case l_law => k_is)
    (case c_law => k_is)
    (case k_law => k_is)
    (case z_list => k_is)
    (case z_len => k_is)
    (case z_range => k_is)
    (case z_min => k_is)
    (case z_int => k_is)
    (case z_tuple => k_is)
    (case z_str => k_is)
    (case z_isinstance => k_is)
    (case z_enumerate => k_is)
    (case z_all => k_is)
    (case z_bool => k_is)
    (case z_repr => k_is)
    (case z_zip => k_is)
    (case g_LINE_END => k_is)
    (case g_BLANK => k_is)
    (case g_MOST_FIGURES => k_is)
    (case g_DIGITS => k_is)
    (case g_MOST_TOWERS => k_is)
    (case g_MOST_TIME => k_is)
    (case g_MOST_PAIRS => k_is)
    (case g_LETTERS => k_is)
    (case g_MOST_PHRASE => k_is)
    (case g_MOST_CODE => k_is)

